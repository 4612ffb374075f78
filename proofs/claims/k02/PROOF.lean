import PyProof.Rows.All
import Wide.All
import OpenK.AllK
import Wide.FinOn
import HandS.ForMost
import HandS.ForExc
import HandS.Gcd
import HandS.Wide
import HandS.IsInst
import HandS.Zip
import HandS.Style
import HandS.Codes
import PySem.Challenge.RW_darkmoves_k02_floors_signs_and_mixed_fra
set_option Elab.async false
set_option linter.all false
set_option maxRecDepth 100000
set_option maxHeartbeats 4000000
namespace DL
open PySem L2

/-! ### data, names, the small heap -/
abbrev D := PyData
/-- what a name holds: data that nothing changes any more, or the k-th own object -/
inductive B where
  | dat (d : D)
  | ref (k : Nat)
abbrev AL := List (Option Addr)
inductive MO where
  | lst (ds : List D)
  | deck (j : Nat)
  | hid
  | dead
abbrev Mu := List MO
abbrev En := List (Option B)

def FzL (K : PySem.W.Frag) (al : AL) (H : Hp) (a : Addr) (xs : List V) : Prop :=
  (Rd H a (.lst xs) ∧ some a ∉ al) ∨ SqL K (fun _ => none) a xs
def FzT (K : PySem.W.Frag) (al : AL) (H : Hp) (a : Addr) (xs : List V) : Prop :=
  (Rd H a (.tup xs) ∧ some a ∉ al) ∨ SqT K (fun _ => none) a xs
mutual
def Rep (K : PySem.W.Frag) (al : AL) (H : Hp) : D → V → Prop
  | .none, v => v = .non
  | .bool b, v => v = .bl b
  | .int i, v => v = .int i
  | .str x, v => v = .str x
  | .list ds, v => ∃ a xs, v = .ref a ∧ FzL K al H a xs ∧ Reps K al H ds xs
  | .tuple ds, v => ∃ a xs, v = .ref a ∧ FzT K al H a xs ∧ Reps K al H ds xs
  | .dict _, _ => False
def Reps (K : PySem.W.Frag) (al : AL) (H : Hp) : List D → List V → Prop
  | [], xs => xs = []
  | d :: ds, xs => ∃ x r, xs = x :: r ∧ Rep K al H d x ∧ Reps K al H ds r
end
def RepB (K : PySem.W.Frag) (al : AL) (H : Hp) : B → V → Prop
  | .dat d, v => Rep K al H d v
  | .ref k, v => ∃ a, al[k]? = some (some a) ∧ v = .ref a
def RepBs (K : PySem.W.Frag) (al : AL) (H : Hp) : List B → List V → Prop
  | [], xs => xs = []
  | b :: bs, xs => ∃ x r, xs = x :: r ∧ RepB K al H b x ∧ RepBs K al H bs r

/-- what grows: new own objects, new objects; all that is not own stays -/
structure Ext (al : AL) (H : Hp) (al' : AL) (H' : Hp) : Prop where
  pre : ∃ be, al' = al ++ be ∧ ∀ a, some a ∈ be → some a ∉ al ∧ H a = none
  keep : ∀ b o, H b = some o → some b ∉ al → H' b = some o
section
variable {K : PySem.W.Frag} {al al' al2 : AL} {H H' H2 : Hp}
theorem Ext.refl : Ext al H al H := ⟨⟨[], by simp, by simp⟩, fun _ _ h _ => h⟩
theorem Ext.trans (e : Ext al H al' H') (f : Ext al' H' al2 H2) : Ext al H al2 H2 := by
  obtain ⟨⟨be, rfl, hb⟩, k⟩ := e
  obtain ⟨⟨ga, rfl, hg⟩, k2⟩ := f
  have out : ∀ b o, H b = some o → some b ∉ al → some b ∉ al ++ be := fun b o h n z => by
    rcases List.mem_append.mp z with z | z
    · exact n z
    · have q := (hb b z).2
      rw [h] at q
      cases q
  refine ⟨⟨be ++ ga, by rw [List.append_assoc], fun a z => ?_⟩, fun b o h n => k2 b o (k b o h n) (out b o h n)⟩
  rcases List.mem_append.mp z with z | z
  · exact hb a z
  · obtain ⟨n1, n2⟩ := hg a z
    have n3 : some a ∉ al := fun q => n1 (List.mem_append_left _ q)
    refine ⟨n3, ?_⟩
    cases q : H a with
    | none => rfl
    | some o =>
      have := k a o q n3
      rw [n2] at this
      cases this
theorem Ext.rd {a : Addr} {u : HO} (e : Ext al H al' H') (h : Rd H a u ∧ some a ∉ al) : Rd H' a u ∧ some a ∉ al' := by
  obtain ⟨⟨be, rfl, hb⟩, k⟩ := e
  obtain ⟨r, n⟩ := h
  have out : ∀ o, H a = some o → some a ∉ al ++ be := fun o h z => by
    rcases List.mem_append.mp z with z | z
    · exact n z
    · have q := (hb a z).2
      rw [h] at q
      cases q
  rcases r with r | ⟨o, r⟩
  · exact ⟨.inl (k _ _ r n), out _ r⟩
  · exact ⟨.inr ⟨o, k _ _ r n⟩, out _ r⟩
theorem Ext.fzL {a : Addr} {xs : List V} (e : Ext al H al' H') (h : FzL K al H a xs) : FzL K al' H' a xs := h.imp (fun z => e.rd z) id
theorem Ext.fzT {a : Addr} {xs : List V} (e : Ext al H al' H') (h : FzT K al H a xs) : FzT K al' H' a xs := h.imp (fun z => e.rd z) id
mutual
theorem Rep.ext (e : Ext al H al' H') : ∀ (d : D) (v : V), Rep K al H d v → Rep K al' H' d v
  | .none, _, h => h
  | .bool _, _, h => h
  | .int _, _, h => h
  | .str _, _, h => h
  | .list ds, _, h => by
    obtain ⟨a, xs, h1, h2, h3⟩ := h
    exact ⟨a, xs, h1, e.fzL h2, Reps.ext e ds xs h3⟩
  | .tuple ds, _, h => by
    obtain ⟨a, xs, h1, h2, h3⟩ := h
    exact ⟨a, xs, h1, e.fzT h2, Reps.ext e ds xs h3⟩
  | .dict _, _, h => h
theorem Reps.ext (e : Ext al H al' H') : ∀ (ds : List D) (xs : List V), Reps K al H ds xs → Reps K al' H' ds xs
  | [], _, h => h
  | d :: ds, _, h => by
    obtain ⟨x, r, h1, h2, h3⟩ := h
    exact ⟨x, r, h1, Rep.ext e d x h2, Reps.ext e ds r h3⟩
end
theorem RepB.ext (e : Ext al H al' H') {b : B} {v : V} (h : RepB K al H b v) : RepB K al' H' b v := by
  cases b with
  | dat d => exact Rep.ext e d v h
  | ref k =>
    obtain ⟨a, h1, h2⟩ := h
    obtain ⟨⟨be, rfl, _⟩, _⟩ := e
    exact ⟨a, by rw [List.getElem?_append_left (List.getElem?_eq_some_iff.mp h1).1]; exact h1, h2⟩
theorem RepBs.ext (e : Ext al H al' H') : ∀ {bs : List B} {vs : List V}, RepBs K al H bs vs → RepBs K al' H' bs vs
  | [], _, h => h
  | b :: bs, _, h => by
    obtain ⟨x, r, h1, h2, h3⟩ := h
    exact ⟨x, r, h1, h2.ext e, RepBs.ext e h3⟩
theorem RepBs.length : ∀ {bs : List B} {vs : List V}, RepBs K al H bs vs → vs.length = bs.length
  | [], _, h => by
    have e : _ = [] := h
    rw [e] <;> rfl
  | b :: bs, _, h => by
    obtain ⟨x, r, h1, h2, h3⟩ := h
    rw [h1, List.length_cons, List.length_cons, RepBs.length h3]
theorem Reps.length : ∀ {ds : List D} {vs : List V}, Reps K al H ds vs → vs.length = ds.length
  | [], _, h => by
    have e : _ = [] := h
    rw [e] <;> rfl
  | b :: bs, _, h => by
    obtain ⟨x, r, h1, h2, h3⟩ := h
    rw [h1, List.length_cons, List.length_cons, Reps.length h3]
theorem Reps.get : ∀ {ds : List D} {vs : List V} {i : Nat} {d : D}, Reps K al H ds vs → ds[i]? = some d → ∃ v, vs[i]? = some v ∧ Rep K al H d v
  | [], _, _, _, _, e => by cases e
  | b :: bs, _, 0, d, h, e => by
    obtain ⟨x, r, h1, h2, h3⟩ := h
    rw [List.getElem?_cons_zero] at e
    cases e
    exact ⟨x, by rw [h1] <;> rfl, h2⟩
  | b :: bs, _, i + 1, d, h, e => by
    obtain ⟨x, r, h1, h2, h3⟩ := h
    rw [List.getElem?_cons_succ] at e
    obtain ⟨v, q1, q2⟩ := Reps.get h3 e
    exact ⟨v, by rw [h1, List.getElem?_cons_succ]; exact q1, q2⟩
theorem Reps.app : ∀ {ds es : List D} {vs ws : List V}, Reps K al H ds vs → Reps K al H es ws → Reps K al H (ds ++ es) (vs ++ ws)
  | [], _, _, _, h, h' => by
    have e : _ = [] := h
    rw [e]
    exact h'
  | b :: bs, _, _, _, h, h' => by
    obtain ⟨x, r, h1, h2, h3⟩ := h
    exact ⟨x, r ++ _, by rw [h1] <;> rfl, h2, Reps.app h3 h'⟩
theorem Reps.one {d : D} {v : V} (h : Rep K al H d v) : Reps K al H [d] [v] := ⟨v, [], rfl, h, rfl⟩
theorem FzL.sq {a : Addr} {xs : List V} (h : FzL K al H a xs) : SqL K H a xs := by
  rcases h with h | h
  · exact .inl h.1
  · rcases h with (h | ⟨o, h⟩) | h
    · cases h
    · cases h
    · exact .inr h
theorem FzT.sq {a : Addr} {xs : List V} (h : FzT K al H a xs) : SqT K H a xs := by
  rcases h with h | h
  · exact .inl h.1
  · rcases h with (h | ⟨o, h⟩) | h
    · cases h
    · cases h
    · exact .inr h
end

def MOk (K : PySem.W.Frag) (DK : Addr → HO → HO → Prop) (al : AL) (H : Hp) (k : Nat) : MO → Prop
  | .lst ds => ∃ a xs, al[k]? = some (some a) ∧ H a = some (.lst xs) ∧ Reps K al H ds xs
  | .deck j => j < k ∧ ∃ a l o u, al[k]? = some (some a) ∧ al[j]? = some (some l) ∧ H a = some o ∧ H l = some u ∧ DK l o u
  | .hid => ∃ a o, al[k]? = some (some a) ∧ H a = some o
  | .dead => al[k]? = some none
structure MuOk (K : PySem.W.Frag) (DK : Addr → HO → HO → Prop) (al : AL) (H : Hp) (mu : Mu) : Prop where
  len : al.length = mu.length
  nd : ∀ (i j : Nat) (a : Addr), al[i]? = some (some a) → al[j]? = some (some a) → i = j
  ok : ∀ (k : Nat) (m : MO), mu[k]? = some m → MOk K DK al H k m
  hd : ∀ (k j : Nat), mu[k]? = some (.deck j) → mu[j]? = some .hid
structure Stt (K : PySem.W.Frag) (DK : Addr → HO → HO → Prop) (al : AL) (σ : L2.St) (H : Hp) (en : En) (mu : Mu) : Prop where
  mu : MuOk K DK al H mu
  len : en.length = σ.length
  sl : ∀ (i : Nat) (b : B), en[i]? = some (some b) → ∃ v, σ[i]? = some (some v) ∧ RepB K al H b v
section
variable {K : PySem.W.Frag} {DK : Addr → HO → HO → Prop} {al al' : AL} {H H' : Hp} {mu mu' : Mu} {σ : L2.St} {en : En}
theorem MuOk.there (h : MuOk K DK al H mu) {a : Addr} (m : some a ∈ al) : ∃ o, H a = some o := by
  obtain ⟨k, hk⟩ := List.mem_iff_getElem?.mp m
  have hlt : k < mu.length := by
    rw [← h.len]
    exact (List.getElem?_eq_some_iff.mp hk).1
  have q := h.ok k mu[k] (List.getElem?_eq_getElem hlt)
  cases e : mu[k] with
  | lst ds =>
    rw [e] at q
    obtain ⟨b, xs, h1, h2, _⟩ := q
    rw [hk] at h1
    cases h1
    exact ⟨_, h2⟩
  | deck j =>
    rw [e] at q
    obtain ⟨_, b, l, o, u, h1, _, h2, _, _⟩ := q
    rw [hk] at h1
    cases h1
    exact ⟨_, h2⟩
  | hid =>
    rw [e] at q
    obtain ⟨b, o, h1, h2⟩ := q
    rw [hk] at h1
    cases h1
    exact ⟨_, h2⟩
  | dead =>
    rw [e] at q
    have q' : al[k]? = some none := q
    rw [hk] at q'
    cases q'
theorem MuOk.free (h : MuOk K DK al H mu) {p : Addr} (n : H p = none) : some p ∉ al := fun z => by
  obtain ⟨o, e⟩ := h.there z
  rw [n] at e
  cases e
theorem MOk.mono {k : Nat} {m : MO} (h : MOk K DK al H k m) (e : Ext al H al' H') (same : ∀ a, some a ∈ al → H' a = H a) : MOk K DK al' H' k m := by
  obtain ⟨be, rfl, hb⟩ := id e.pre
  have left : ∀ (i : Nat) x, al[i]? = some x → (al ++ be)[i]? = some x := fun i x q => by
    rw [List.getElem?_append_left (List.getElem?_eq_some_iff.mp q).1]
    exact q
  have mem : ∀ (i : Nat) a, al[i]? = some (some a) → some a ∈ al := fun i a q => List.mem_of_getElem? q
  cases m with
  | lst ds =>
    obtain ⟨a, xs, h1, h2, h3⟩ := h
    exact ⟨a, xs, left _ _ h1, by rw [same a (mem _ _ h1)]; exact h2, Reps.ext e _ _ h3⟩
  | deck j =>
    obtain ⟨h0, a, l, o, u, h1, h2, h3, h4, h5⟩ := h
    exact ⟨h0, a, l, o, u, left _ _ h1, left _ _ h2, by rw [same a (mem _ _ h1)]; exact h3, by rw [same l (mem _ _ h2)]; exact h4, h5⟩
  | hid =>
    obtain ⟨a, o, h1, h2⟩ := h
    exact ⟨a, o, left _ _ h1, by rw [same a (mem _ _ h1)]; exact h2⟩
  | dead => exact left _ _ h
theorem MuOk.mono (h : MuOk K DK al H mu) (e : Ext al H al H') (same : ∀ a, some a ∈ al → H' a = H a) : MuOk K DK al H' mu :=
  ⟨h.len, h.nd, fun k m q => (h.ok k m q).mono e same, h.hd⟩
/-- a new object that is not own -/
theorem MuOk.newF (h : MuOk K DK al H mu) {p : Addr} {o : HO} (n : H p = none) : Ext al H al (upd H p o) ∧ MuOk K DK al (upd H p o) mu := by
  have e : Ext al H al (upd H p o) := ⟨⟨[], by simp, by simp⟩, fun b u q _ => by rw [upd_ne (ne_of_none q n)]; exact q⟩
  refine ⟨e, h.mono e fun a m => ?_⟩
  obtain ⟨u, q⟩ := h.there m
  rw [upd_ne (ne_of_none q n)]
/-- a new own object -/
theorem MuOk.newO (h : MuOk K DK al H mu) {p : Addr} {xs : List V} {ds : List D} (n : H p = none) (r : Reps K al H ds xs) :
    Ext al H (al ++ [some p]) (upd H p (.lst xs)) ∧ MuOk K DK (al ++ [some p]) (upd H p (.lst xs)) (mu ++ [.lst ds]) := by
  have np := h.free n
  have e : Ext al H (al ++ [some p]) (upd H p (.lst xs)) := ⟨⟨[some p], rfl, fun a z => by
    have z' : a = p := by simpa using z
    subst z'
    exact ⟨np, n⟩⟩, fun b u q _ => by rw [upd_ne (ne_of_none q n)]; exact q⟩
  have at_ : (al ++ [some p])[al.length]? = some (some p) := by simp
  refine ⟨e, ⟨by simp [h.len], fun i j a hi hj => ?_, fun k m hk => ?_, fun k j hk => ?_⟩⟩
  · by_cases hi' : i < al.length
    · rw [List.getElem?_append_left hi'] at hi
      by_cases hj' : j < al.length
      · rw [List.getElem?_append_left hj'] at hj
        exact h.nd i j a hi hj
      · rw [List.getElem?_append_right (by omega)] at hj
        have : a = p := by
          have q := List.mem_of_getElem? hj
          simpa using q
        subst this
        exact absurd (List.mem_of_getElem? hi) np
    · rw [List.getElem?_append_right (by omega)] at hi
      have ea : a = p := by
        have q := List.mem_of_getElem? hi
        simpa using q
      subst ea
      have hi2 := (List.getElem?_eq_some_iff.mp hi).1
      by_cases hj' : j < al.length
      · rw [List.getElem?_append_left hj'] at hj
        exact absurd (List.mem_of_getElem? hj) np
      · rw [List.getElem?_append_right (by omega)] at hj
        have hj2 := (List.getElem?_eq_some_iff.mp hj).1
        simp at hi2 hj2
        omega
  · by_cases hk' : k < mu.length
    · rw [List.getElem?_append_left hk'] at hk
      exact (h.ok k m hk).mono e fun a z => by
        obtain ⟨u, q⟩ := h.there z
        rw [upd_ne (ne_of_none q n)]
    · rw [List.getElem?_append_right (by omega)] at hk
      have hk2 := (List.getElem?_eq_some_iff.mp hk).1
      have ek : k = al.length := by
        have := h.len
        simp at hk2
        omega
      have em : m = .lst ds := by
        have q := List.mem_of_getElem? hk
        simpa using q
      subst ek em
      exact ⟨p, xs, at_, upd_same, Reps.ext e _ _ r⟩
  · by_cases hk' : k < mu.length
    · rw [List.getElem?_append_left hk'] at hk
      have q := h.hd k j hk
      rw [List.getElem?_append_left (List.getElem?_eq_some_iff.mp q).1]
      exact q
    · rw [List.getElem?_append_right (by omega)] at hk
      have q := List.mem_of_getElem? hk
      have z : MO.deck j = MO.lst ds := by simpa using q
      cases z
theorem Stt.ext (s : Stt K DK al σ H en mu) (e : Ext al H al' H') (m : MuOk K DK al' H' mu') : Stt K DK al' σ H' en mu' :=
  ⟨m, s.len, fun i b q => by
    obtain ⟨v, h1, h2⟩ := s.sl i b q
    exact ⟨v, h1, h2.ext e⟩⟩
end
end DL

set_option Elab.async false
set_option linter.all false
set_option maxRecDepth 100000
set_option maxHeartbeats 4000000
namespace DL
open PySem L2

/-! ### readings over data -/
abbrev SemE := En → Mu → (B → Mu → Prop) → Prop
abbrev SemT := En → Mu → (Bool → Mu → Prop) → Prop
abbrev SemA := En → Mu → (List B → Mu → Prop) → Prop
/-- what the layer hangs on: the written part, and what a deck is -/
structure Kit where
  K : PySem.W.Frag
  DK : Addr → HO → HO → Prop
section
variable (k : Kit)
def tD (m : SemE) : TE := fun σ H Q' => ∃ al en mu Q, Stt k.K k.DK al σ H en mu ∧ m en mu Q ∧
  ∀ v H' al' b mu', Ext al H al' H' → Stt k.K k.DK al' σ H' en mu' → RepB k.K al' H' b v → Q b mu' → Q' v H'
def tDT (m : SemT) : TT := fun σ H Q' => ∃ al en mu Q, Stt k.K k.DK al σ H en mu ∧ m en mu Q ∧
  ∀ c H' al' mu', Ext al H al' H' → Stt k.K k.DK al' σ H' en mu' → Q c mu' → Q' c H'
def tDA (m : SemA) : TA := fun σ H Q' => ∃ al en mu Q, Stt k.K k.DK al σ H en mu ∧ m en mu Q ∧
  ∀ vs H' al' bs mu', Ext al H al' H' → Stt k.K k.DK al' σ H' en mu' → RepBs k.K al' H' bs vs → Q bs mu' → Q' vs H'
end
section
variable {X : Cx} {k : Kit}
theorem pe_imp {e : Expr} {t t' : TE} (h : PE X e t) (i : ∀ σ H Q, t' σ H Q → t σ H Q) : PE X e t' :=
  ⟨fun pins s σ H Q I q => h.run pins s σ H Q I (i σ H Q q)⟩
theorem pt_imp {e : Expr} {t t' : TT} (h : PT X e t) (i : ∀ σ H Q, t' σ H Q → t σ H Q) : PT X e t' :=
  ⟨fun pins s σ H Q I q => h.run pins s σ H Q I (i σ H Q q)⟩
theorem pw_imp {e : Expr} {t t' : TT} (h : PW X e t) (i : ∀ σ H Q, t' σ H Q → t σ H Q) : PW X e t' :=
  ⟨fun wh pins s σ H Q I q => h.run wh pins s σ H Q I (i σ H Q q)⟩
theorem pa_imp {es : List Expr} {t t' : TA} (h : PA X es t) (i : ∀ σ H Q, t' σ H Q → t σ H Q) : PA X es t' :=
  ⟨fun pos pins s σ H Q I q => h.run pos pins s σ H Q I (i σ H Q q)⟩

/-! names and constants -/
def sVar (i : Nat) : SemE := fun en mu Q => match en[i]? with
  | some (some b) => Q b mu
  | _ => False
def sC (d : D) : SemE := fun _ mu Q => Q (.dat d) mu
theorem d_var {i : Nat} {x : Str} {pos : Pos} (hN : X.N[i]? = some x) (hv : Vis X.env.scope x) (hd : (x == ("__debug__" : Str)) = false := by decide) (hcd : (x == ("__classdict__" : Str)) = false := by decide) :
    PE X (.Name x pos) (tD k (sVar i)) := by
  refine pe_imp (pe_var hN hv hd hcd) fun σ H Q' h => ?_
  obtain ⟨al, en, mu, Q, st, q, kk⟩ := h
  unfold sVar at q
  split at q
  · rename_i b e
    obtain ⟨v, h1, h2⟩ := st.sl i b e
    exact ⟨v, h1, kk v H al b mu Ext.refl st h2 q⟩
  · exact q.elim
theorem d_const {e : Expr} {v : V} {d : D} (h : PE X e (tC v)) (r : ∀ al H, Rep k.K al H d v) : PE X e (tD k (sC d)) := by
  refine pe_imp h fun σ H Q' h => ?_
  obtain ⟨al, en, mu, Q, st, q, kk⟩ := h
  exact kk v H al (.dat d) mu Ext.refl st (r al H) q
theorem d_int {i j pos} : PE X (.Constant (.int i) j pos) (tD k (sC (.int i))) := d_const pe_int fun _ _ => rfl
theorem d_bl {b j pos} : PE X (.Constant (.bool b) j pos) (tD k (sC (.bool b))) := d_const pe_bl fun _ _ => rfl
theorem d_non {j pos} : PE X (.Constant .none j pos) (tD k (sC .none)) := d_const pe_non fun _ _ => rfl
theorem d_str {x j pos} : PE X (.Constant (.str x) j pos) (tD k (sC (.str x))) := d_const pe_str fun _ _ => rfl
/-- a constant of the module -/
theorem d_glob {x : Str} {v : V} {u : Value} {d : D} {pos : Pos} (hg : Gl X x) (hm : X.mg x = some u) (r : RelV v u) (rp : ∀ al H, Rep k.K al H d v) (hd : (x == ("__debug__" : Str)) = false := by decide) : PE X (.Name x pos) (tD k (sC d)) :=
  d_const (pe_glob hg hm r hd) rp

/-! two operands -/
abbrev SemO2 := B → B → Mu → (B → Mu → Prop) → Prop
abbrev SemO1 := B → Mu → (B → Mu → Prop) → Prop
def OpD (k : Kit) (X : Cx) (f : Value → Value → Sem Value) (w : SemO2) : Prop :=
  ∃ r : R2, OpR X f r ∧ ∀ al H x y b c mu Q (Q' : VK), MuOk k.K k.DK al H mu → RepB k.K al H b x → RepB k.K al H c y → w b c mu Q →
    (∀ v H' al' d mu', Ext al H al' H' → MuOk k.K k.DK al' H' mu' → RepB k.K al' H' d v → Q d mu' → Q' v H') → r x y H Q'
def sOp2 (w : SemO2) (ma mb : SemE) : SemE := fun en mu Q => ma en mu fun x mu1 => mb en mu1 fun y mu2 => w x y mu2 Q
theorem op2_imp {f : Value → Value → Sem Value} {w : SemO2} {ma mb : SemE} {r : R2}
    (h : ∀ al H x y b c mu Q (Q' : VK), MuOk k.K k.DK al H mu → RepB k.K al H b x → RepB k.K al H c y → w b c mu Q →
    (∀ v H' al' d mu', Ext al H al' H' → MuOk k.K k.DK al' H' mu' → RepB k.K al' H' d v → Q d mu' → Q' v H') → r x y H Q') (σ : L2.St) (H : Hp) (Q' : VK)
    (q : tD k (sOp2 w ma mb) σ H Q') : tOp r (tD k ma) (tD k mb) σ H Q' := by
  obtain ⟨al, en, mu, Q, st, q, kk⟩ := q
  refine ⟨al, en, mu, _, st, q, fun x H1 al1 b mu1 e1 st1 r1 q1 => ?_⟩
  refine ⟨al1, en, mu1, _, st1, q1, fun y H2 al2 c mu2 e2 st2 r2 q2 => ?_⟩
  exact h al2 H2 x y b c mu2 Q Q' st2.mu (r1.ext e2) r2 q2 fun v H' al' d mu' e3 m3 r3 q3 => kk v H' al' d mu' ((e1.trans e2).trans e3) (st2.ext e3 m3) r3 q3
theorem d_bin {op : Operator} {w : SemO2} {a b : Expr} {ma mb : SemE} {pos : Pos} (ho : OpD k X (binaryOp op) w) (ha : PE X a (tD k ma)) (hb : PE X b (tD k mb)) : PE X (.BinOp a op b pos) (tD k (sOp2 w ma mb)) := by
  obtain ⟨r, h1, h2⟩ := ho
  exact pe_imp (pe_op h1 ha hb) (op2_imp (f := binaryOp op) h2)
theorem d_cmp {op : CmpOp} {w : SemO2} {a b : Expr} {ma mb : SemE} {pos : Pos} (ho : OpD k X (compareOp op) w) (ha : PE X a (tD k ma)) (hb : PE X b (tD k mb)) (hm : behindInMarks op b = false) : PE X (.Compare a [op] [b] pos) (tD k (sOp2 w ma mb)) := by
  obtain ⟨r, h1, h2⟩ := ho
  exact pe_imp (pe_cmpR h1 ha hb hm) (op2_imp (f := compareOp op) h2)
/-- a value that is a bool, as a test -/
def sTst (m : SemE) : SemT := fun en mu Q => m en mu fun b mu1 => match b with
  | .dat (.bool c) => Q c mu1
  | _ => False
theorem tst_imp {m : SemE} {t : TE} (h : ∀ σ H Q, tD k m σ H Q → t σ H Q) (σ : L2.St) (H : Hp) (Q' : Bool → Hp → Prop) (q : tDT k (sTst m) σ H Q') : t σ H fun x H' => ∃ c, x = .bl c ∧ Q' c H' := by
  obtain ⟨al, en, mu, Q, st, q, kk⟩ := q
  refine h _ _ _ ⟨al, en, mu, _, st, q, fun v H' al' b mu' e1 st1 r1 q1 => ?_⟩
  split at q1
  · rename_i c
    exact ⟨c, r1, kk c H' al' mu' e1 st1 q1⟩
  · exact q1.elim
theorem d_tcmp {op : CmpOp} {w : SemO2} {a b : Expr} {ma mb : SemE} {pos : Pos} (ho : OpD k X (compareOp op) w) (ha : PE X a (tD k ma)) (hb : PE X b (tD k mb)) (hm : behindInMarks op b = false) : PT X (.Compare a [op] [b] pos) (tDT k (sTst (sOp2 w ma mb))) := by
  obtain ⟨r, h1, h2⟩ := ho
  exact pt_imp (pt_cmpR h1 ha hb hm) fun σ H Q' q => tst_imp (op2_imp (f := compareOp op) h2) σ H Q' q
theorem d_tval {e : Expr} {m : SemE} (h : PE X e (tD k m)) (he : ∀ whole, isTrue e X.env whole = (do let v ← whole; standAt e.pos; holding [v] (truthy v)) := by intro _; rfl) : PT X e (tDT k (sTst m)) :=
  pt_imp (pt_val h he) fun σ H Q' q => tst_imp (fun _ _ _ q => q) σ H Q' q
/-! a chain of two -/
def sChain (w w' : SemO2) (ma mb mc : SemE) : SemE := fun en mu Q => ma en mu fun x mu1 => mb en mu1 fun y mu2 => w x y mu2 fun z mu3 => match z with
  | .dat (.bool c) => if c = true then mc en mu3 fun u mu4 => w' y u mu4 Q else Q (.dat (.bool false)) mu3
  | _ => False
/-! and, or, not -/
def sAnd (m n : SemT) : SemT := fun en mu Q => m en mu fun c mu1 => if c = true then n en mu1 Q else Q false mu1
def sOr (m n : SemT) : SemT := fun en mu Q => m en mu fun c mu1 => if c = true then Q true mu1 else n en mu1 Q
def sNot (m : SemT) : SemT := fun en mu Q => m en mu fun c mu1 => Q (!c) mu1
variable {a b : Expr} {rest : List Expr} {m n : SemT} {ma mb mc : SemE} {pos : Pos}
theorem and_imp {t u : TT} (h1 : ∀ σ H Q, tDT k m σ H Q → t σ H Q) (h2 : ∀ σ H Q, tDT k n σ H Q → u σ H Q) (σ : L2.St) (H : Hp) (Q' : Bool → Hp → Prop) (q : tDT k (sAnd m n) σ H Q') : tAnd t u σ H Q' := by
  obtain ⟨al, en, mu, Q, st, q, kk⟩ := q
  refine h1 _ _ _ ⟨al, en, mu, _, st, q, fun c H1 al1 mu1 e1 st1 q1 => ?_⟩
  dsimp only
  split
  · rename_i hc
    rw [if_pos hc] at q1
    exact h2 _ _ _ ⟨al1, en, mu1, Q, st1, q1, fun c H2 al2 mu2 e2 st2 q2 => kk c H2 al2 mu2 (e1.trans e2) st2 q2⟩
  · rename_i hc
    rw [if_neg hc] at q1
    exact kk false H1 al1 mu1 e1 st1 q1
theorem or_imp {t u : TT} (h1 : ∀ σ H Q, tDT k m σ H Q → t σ H Q) (h2 : ∀ σ H Q, tDT k n σ H Q → u σ H Q) (σ : L2.St) (H : Hp) (Q' : Bool → Hp → Prop) (q : tDT k (sOr m n) σ H Q') : tOr t u σ H Q' := by
  obtain ⟨al, en, mu, Q, st, q, kk⟩ := q
  refine h1 _ _ _ ⟨al, en, mu, _, st, q, fun c H1 al1 mu1 e1 st1 q1 => ?_⟩
  dsimp only
  split
  · rename_i hc
    rw [if_pos hc] at q1
    exact kk true H1 al1 mu1 e1 st1 q1
  · rename_i hc
    rw [if_neg hc] at q1
    exact h2 _ _ _ ⟨al1, en, mu1, Q, st1, q1, fun c H2 al2 mu2 e2 st2 q2 => kk c H2 al2 mu2 (e1.trans e2) st2 q2⟩
theorem dw_and1 (ha : PT X a (tDT k m)) : PW X (.BoolOp .And [a] pos) (tDT k m) := pw_and1 ha
theorem dw_or1 (ha : PT X a (tDT k m)) : PW X (.BoolOp .Or [a] pos) (tDT k m) := pw_or1 ha
theorem dw_and (ha : PT X a (tDT k m)) (hb : PW X (.BoolOp .And (b :: rest) pos) (tDT k n)) : PW X (.BoolOp .And (a :: b :: rest) pos) (tDT k (sAnd m n)) :=
  pw_imp (pw_and ha hb) (and_imp (fun _ _ _ q => q) fun _ _ _ q => q)
theorem dw_or (ha : PT X a (tDT k m)) (hb : PW X (.BoolOp .Or (b :: rest) pos) (tDT k n)) : PW X (.BoolOp .Or (a :: b :: rest) pos) (tDT k (sOr m n)) :=
  pw_imp (pw_or ha hb) (or_imp (fun _ _ _ q => q) fun _ _ _ q => q)
theorem dt_not (ha : PT X a (tDT k m)) : PT X (.UnaryOp .Not a pos) (tDT k (sNot m)) :=
  pt_imp (pt_not ha) fun σ H Q' q => by
    obtain ⟨al, en, mu, Q, st, q, kk⟩ := q
    exact ⟨al, en, mu, _, st, q, fun c H1 al1 mu1 e1 st1 q1 => kk (!c) H1 al1 mu1 e1 st1 q1⟩
/-- .. as values: all but the last one bools -/
def sAndV (m n : SemE) : SemE := fun en mu Q => m en mu fun b mu1 => match b with
  | .dat (.bool c) => if c = true then n en mu1 Q else Q (.dat (.bool false)) mu1
  | _ => False
def sOrV (m n : SemE) : SemE := fun en mu Q => m en mu fun b mu1 => match b with
  | .dat (.bool c) => if c = true then Q (.dat (.bool true)) mu1 else n en mu1 Q
  | _ => False
def sNotV (m : SemE) : SemE := fun en mu Q => m en mu fun b mu1 => match b with
  | .dat (.bool c) => Q (.dat (.bool (!c))) mu1
  | _ => False
theorem d_one {op} (h : PE X a (tD k ma)) : PE X (.BoolOp op [a] pos) (tD k ma) := pe_one h
theorem d_and (ha : PE X a (tD k ma)) (hb : PE X (.BoolOp .And (b :: rest) pos) (tD k mb)) : PE X (.BoolOp .And (a :: b :: rest) pos) (tD k (sAndV ma mb)) :=
  pe_imp (pe_and ha hb) fun σ H Q' q => by
    obtain ⟨al, en, mu, Q, st, q, kk⟩ := q
    refine ⟨al, en, mu, _, st, q, fun v H1 al1 b mu1 e1 st1 r1 q1 => ?_⟩
    split at q1
    · rename_i c
      refine ⟨c, r1, ?_⟩
      split
      · rename_i hc
        rw [if_pos hc] at q1
        exact ⟨al1, en, mu1, Q, st1, q1, fun v H2 al2 b mu2 e2 st2 r2 q2 => kk v H2 al2 b mu2 (e1.trans e2) st2 r2 q2⟩
      · rename_i hc
        rw [if_neg hc] at q1
        exact kk _ H1 al1 (.dat (.bool false)) mu1 e1 st1 rfl q1
    · exact q1.elim
theorem d_or (ha : PE X a (tD k ma)) (hb : PE X (.BoolOp .Or (b :: rest) pos) (tD k mb)) : PE X (.BoolOp .Or (a :: b :: rest) pos) (tD k (sOrV ma mb)) :=
  pe_imp (pe_or ha hb) fun σ H Q' q => by
    obtain ⟨al, en, mu, Q, st, q, kk⟩ := q
    refine ⟨al, en, mu, _, st, q, fun v H1 al1 b mu1 e1 st1 r1 q1 => ?_⟩
    split at q1
    · rename_i c
      refine ⟨c, r1, ?_⟩
      split
      · rename_i hc
        rw [if_pos hc] at q1
        exact kk _ H1 al1 (.dat (.bool true)) mu1 e1 st1 rfl q1
      · rename_i hc
        rw [if_neg hc] at q1
        exact ⟨al1, en, mu1, Q, st1, q1, fun v H2 al2 b mu2 e2 st2 r2 q2 => kk v H2 al2 b mu2 (e1.trans e2) st2 r2 q2⟩
    · exact q1.elim
theorem d_not (ha : PE X a (tD k ma)) : PE X (.UnaryOp .Not a pos) (tD k (sNotV ma)) :=
  pe_imp (pe_not ha) fun σ H Q' q => by
    obtain ⟨al, en, mu, Q, st, q, kk⟩ := q
    refine ⟨al, en, mu, _, st, q, fun v H1 al1 b mu1 e1 st1 r1 q1 => ?_⟩
    split at q1
    · rename_i c
      exact ⟨c, r1, kk _ H1 al1 (.dat (.bool (!c))) mu1 e1 st1 rfl q1⟩
    · exact q1.elim
def sIf (m : SemT) (ma mb : SemE) : SemE := fun en mu Q => m en mu fun c mu1 => if c = true then ma en mu1 Q else mb en mu1 Q
theorem d_if {c : Expr} (hc : PT X c (tDT k m)) (ha : PE X a (tD k ma)) (hb : PE X b (tD k mb)) : PE X (.IfExp c a b pos) (tD k (sIf m ma mb)) :=
  pe_imp (pe_ifExp hc ha hb) fun σ H Q' q => by
    obtain ⟨al, en, mu, Q, st, q, kk⟩ := q
    refine ⟨al, en, mu, _, st, q, fun c H1 al1 mu1 e1 st1 q1 => ?_⟩
    dsimp only
    split
    · rename_i hc
      rw [if_pos hc] at q1
      exact ⟨al1, en, mu1, Q, st1, q1, fun v H2 al2 b mu2 e2 st2 r2 q2 => kk v H2 al2 b mu2 (e1.trans e2) st2 r2 q2⟩
    · rename_i hc
      rw [if_neg hc] at q1
      exact ⟨al1, en, mu1, Q, st1, q1, fun v H2 al2 b mu2 e2 st2 r2 q2 => kk v H2 al2 b mu2 (e1.trans e2) st2 r2 q2⟩
/-! chains -/
theorem chain_imp {w w' : SemO2} {r r' : R2}
    (h : ∀ al H x y b c mu Q (Q' : VK), MuOk k.K k.DK al H mu → RepB k.K al H b x → RepB k.K al H c y → w b c mu Q →
    (∀ v H' al' d mu', Ext al H al' H' → MuOk k.K k.DK al' H' mu' → RepB k.K al' H' d v → Q d mu' → Q' v H') → r x y H Q')
    (h' : ∀ al H x y b c mu Q (Q' : VK), MuOk k.K k.DK al H mu → RepB k.K al H b x → RepB k.K al H c y → w' b c mu Q →
    (∀ v H' al' d mu', Ext al H al' H' → MuOk k.K k.DK al' H' mu' → RepB k.K al' H' d v → Q d mu' → Q' v H') → r' x y H Q') (σ : L2.St) (H : Hp) (Q' : VK)
    (q : tD k (sChain w w' ma mb mc) σ H Q') : tD k ma σ H fun x H1 => tD k mb σ H1 fun y H2 => r x y H2 fun z H3 => ∃ c, z = .bl c ∧
      if c = true then tD k mc σ H3 fun u H4 => r' y u H4 Q' else Q' (.bl false) H3 := by
  obtain ⟨al, en, mu, Q, st, q, kk⟩ := q
  refine ⟨al, en, mu, _, st, q, fun x H1 al1 b mu1 e1 st1 r1 q1 => ?_⟩
  refine ⟨al1, en, mu1, _, st1, q1, fun y H2 al2 c mu2 e2 st2 r2 q2 => ?_⟩
  refine h al2 H2 x y b c mu2 _ _ st2.mu (r1.ext e2) r2 q2 fun v H3 al3 d mu3 e3 m3 r3 q3 => ?_
  have st3 := st2.ext e3 m3
  split at q3
  · rename_i d
    refine ⟨d, r3, ?_⟩
    split
    · rename_i hc
      rw [if_pos hc] at q3
      refine ⟨al3, en, mu3, _, st3, q3, fun u H4 al4 f mu4 e4 st4 r4 q4 => ?_⟩
      exact h' al4 H4 y u c f mu4 Q Q' st4.mu ((r2.ext e3).ext e4) r4 q4 fun v H' al' d mu' e5 m5 r5 q5 => kk v H' al' d mu' ((((e1.trans e2).trans e3).trans e4).trans e5) (st4.ext e5 m5) r5 q5
    · rename_i hc
      rw [if_neg hc] at q3
      exact kk _ H3 al3 (.dat (.bool false)) mu3 ((e1.trans e2).trans e3) st3 rfl q3
  · exact q3.elim
theorem d_chain {op op' : CmpOp} {w w' : SemO2} {c : Expr} (ho : OpD k X (compareOp op) w) (ho' : OpD k X (compareOp op') w') (ha : PE X a (tD k ma)) (hb : PE X b (tD k mb)) (hc : PE X c (tD k mc))
    (hm : lastMarks [op, op'] [b, c] = false := by with_unfolding_all rfl) : PE X (.Compare a [op, op'] [b, c] pos) (tD k (sChain w w' ma mb mc)) := by
  obtain ⟨r, h1, h2⟩ := ho
  obtain ⟨r', h1', h2'⟩ := ho'
  exact pe_imp (pe_chain h1 h1' ha hb hc hm) (chain_imp h2 h2')
theorem d_tchain {op op' : CmpOp} {w w' : SemO2} {c : Expr} (ho : OpD k X (compareOp op) w) (ho' : OpD k X (compareOp op') w') (ha : PE X a (tD k ma)) (hb : PE X b (tD k mb)) (hc : PE X c (tD k mc))
    (hm : lastMarks [op, op'] [b, c] = false := by with_unfolding_all rfl) : PT X (.Compare a [op, op'] [b, c] pos) (tDT k (sTst (sChain w w' ma mb mc))) := by
  obtain ⟨r, h1, h2⟩ := ho
  obtain ⟨r', h1', h2'⟩ := ho'
  exact pt_imp (pt_chain h1 h1' ha hb hc hm) fun σ H Q' q => tst_imp (chain_imp h2 h2') σ H Q' q
/-! argument lists, displays -/
def sNil : SemA := fun _ mu Q => Q [] mu
def sCons (ma : SemE) (mr : SemA) : SemA := fun en mu Q => ma en mu fun b mu1 => mr en mu1 fun bs mu2 => Q (b :: bs) mu2
theorem a_nil : PA X [] (tDA k sNil) := pa_imp pa_nil fun σ H Q' q => by
  obtain ⟨al, en, mu, Q, st, q, kk⟩ := q
  exact kk [] H al [] mu Ext.refl st rfl q
theorem a_cons {e : Expr} {es : List Expr} {mr : SemA} (ha : PE X e (tD k ma)) (hr : PA X es (tDA k mr)) (hs : starEach (e :: es) X.env = (false, eval e X.env) :: starEach es X.env := by rfl) : PA X (e :: es) (tDA k (sCons ma mr)) :=
  pa_imp (pa_cons ha hr hs) fun σ H Q' q => by
    obtain ⟨al, en, mu, Q, st, q, kk⟩ := q
    refine ⟨al, en, mu, _, st, q, fun v H1 al1 b mu1 e1 st1 r1 q1 => ?_⟩
    exact ⟨al1, en, mu1, _, st1, q1, fun vs H2 al2 bs mu2 e2 st2 r2 q2 => kk (v :: vs) H2 al2 (b :: bs) mu2 (e1.trans e2) st2 ⟨v, vs, rfl, r1.ext e2, r2⟩ q2⟩
/-- the data of some names' contents; none if one of them is an own object -/
def dats : List B → Option (List D)
  | [] => some []
  | .dat d :: bs => (dats bs).map (d :: ·)
  | .ref _ :: _ => none
theorem dats_reps {al : AL} {H : Hp} : ∀ {bs : List B} {vs : List V} {ds : List D}, RepBs k.K al H bs vs → dats bs = some ds → Reps k.K al H ds vs
  | [], vs, ds, h, e => by
    cases e
    exact h
  | .dat d :: bs, vs, ds, h, e => by
    obtain ⟨x, r, h1, h2, h3⟩ := h
    unfold dats at e
    cases q : dats bs with
    | none =>
      rw [q] at e
      cases e
    | some es =>
      rw [q] at e
      cases e
      exact ⟨x, r, h1, h2, dats_reps h3 q⟩
  | .ref _ :: _, _, _, _, e => by cases e
theorem dats_length : ∀ {bs : List B} {ds : List D}, dats bs = some ds → ds.length = bs.length
  | [], ds, e => by
    cases e
    rfl
  | .dat d :: bs, ds, e => by
    unfold dats at e
    cases q : dats bs with
    | none =>
      rw [q] at e
      cases e
    | some es =>
      rw [q] at e
      cases e
      rw [List.length_cons, List.length_cons, dats_length q]
  | .ref _ :: _, _, e => by cases e
/-- a tuple, a list that nothing changes -/
def sTup (m : SemA) : SemE := fun en mu Q => m en mu fun bs mu1 => match dats bs with
  | some ds => ds.length ≤ sizeLine ∧ Q (.dat (.tuple ds)) mu1
  | none => False
def sLst (m : SemA) : SemE := fun en mu Q => m en mu fun bs mu1 => match dats bs with
  | some ds => ds.length ≤ sizeLine ∧ Q (.dat (.list ds)) mu1
  | none => False
variable {es : List Expr} {mm : SemA}
theorem d_tup {x1} (h : PA X es (tDA k mm)) : PE X (.Tuple es x1 pos) (tD k (sTup mm)) :=
  pe_imp (pe_tup h) fun σ H Q' q => by
    obtain ⟨al, en, mu, Q, st, q, kk⟩ := q
    refine ⟨al, en, mu, _, st, q, fun vs H1 al1 bs mu1 e1 st1 r1 q1 => ?_⟩
    split at q1
    · rename_i ds e
      refine ⟨by rw [r1.length, ← dats_length e]; exact q1.1, fun p hp => ?_⟩
      obtain ⟨e2, m2⟩ := st1.mu.newF (o := .tup vs) hp
      exact kk _ _ al1 (.dat (.tuple ds)) mu1 (e1.trans e2) (st1.ext e2 m2) ⟨p, vs, rfl, .inl ⟨.inl upd_same, st1.mu.free hp⟩, Reps.ext e2 _ _ (dats_reps r1 e)⟩ q1.2
    · exact q1.elim
theorem d_lst (h : PA X es (tDA k mm)) : PE X (.List es pos) (tD k (sLst mm)) :=
  pe_imp (pe_lst h) fun σ H Q' q => by
    obtain ⟨al, en, mu, Q, st, q, kk⟩ := q
    refine ⟨al, en, mu, _, st, q, fun vs H1 al1 bs mu1 e1 st1 r1 q1 => ?_⟩
    split at q1
    · rename_i ds e
      refine ⟨by rw [r1.length, ← dats_length e]; exact q1.1, fun p hp => ?_⟩
      obtain ⟨e2, m2⟩ := st1.mu.newF (o := .lst vs) hp
      exact kk _ _ al1 (.dat (.list ds)) mu1 (e1.trans e2) (st1.ext e2 m2) ⟨p, vs, rfl, .inl ⟨.inl upd_same, st1.mu.free hp⟩, Reps.ext e2 _ _ (dats_reps r1 e)⟩ q1.2
    · exact q1.elim
end
end DL

set_option Elab.async false
set_option linter.all false
set_option maxRecDepth 100000
set_option maxHeartbeats 4000000
namespace DL
open PySem L2

/-! ### fewer own objects -/
section
variable {K : PySem.W.Frag} {DK : Addr → HO → HO → Prop} {al be : AL} {H : Hp} {mu : Mu}
theorem FzL.less {a : Addr} {xs : List V} (h : FzL K (al ++ be) H a xs) : FzL K al H a xs := h.imp (fun z => ⟨z.1, fun q => z.2 (List.mem_append_left _ q)⟩) id
theorem FzT.less {a : Addr} {xs : List V} (h : FzT K (al ++ be) H a xs) : FzT K al H a xs := h.imp (fun z => ⟨z.1, fun q => z.2 (List.mem_append_left _ q)⟩) id
mutual
theorem Rep.less : ∀ (d : D) (v : V), Rep K (al ++ be) H d v → Rep K al H d v
  | .none, _, h => h
  | .bool _, _, h => h
  | .int _, _, h => h
  | .str _, _, h => h
  | .list ds, _, h => by
    obtain ⟨a, xs, h1, h2, h3⟩ := h
    exact ⟨a, xs, h1, h2.less, Reps.less ds xs h3⟩
  | .tuple ds, _, h => by
    obtain ⟨a, xs, h1, h2, h3⟩ := h
    exact ⟨a, xs, h1, h2.less, Reps.less ds xs h3⟩
  | .dict _, _, h => h
theorem Reps.less : ∀ (ds : List D) (xs : List V), Reps K (al ++ be) H ds xs → Reps K al H ds xs
  | [], _, h => h
  | d :: ds, _, h => by
    obtain ⟨x, r, h1, h2, h3⟩ := h
    exact ⟨x, r, h1, Rep.less d x h2, Reps.less ds r h3⟩
end
theorem MuOk.less (h : MuOk K DK (al ++ be) H mu) : MuOk K DK al H (mu.take al.length) := by
  have hl := h.len
  rw [List.length_append] at hl
  have sub : ∀ (i : Nat) x, i < al.length → (al ++ be)[i]? = some x → al[i]? = some x := fun i x q e => by
    rw [List.getElem?_append_left q] at e
    exact e
  have up : ∀ (i : Nat) x, al[i]? = some x → (al ++ be)[i]? = some x := fun i x q => by
    rw [List.getElem?_append_left (List.getElem?_eq_some_iff.mp q).1]
    exact q
  refine ⟨by rw [List.length_take]; omega, fun i j a hi hj => h.nd i j a (up _ _ hi) (up _ _ hj), fun k m q => ?_, fun k j q => ?_⟩
  rotate_left
  · have hk : k < al.length := by
      have := (List.getElem?_eq_some_iff.mp q).1
      rw [List.length_take] at this
      omega
    rw [List.getElem?_take_of_lt hk] at q
    have hj : j < k := (h.ok k _ q).1
    rw [List.getElem?_take_of_lt (by omega)]
    exact h.hd k j q
  have hk : k < al.length := by
    have := (List.getElem?_eq_some_iff.mp q).1
    rw [List.length_take] at this
    omega
  rw [List.getElem?_take_of_lt hk] at q
  have z := h.ok k m q
  cases m with
  | lst ds =>
    obtain ⟨a, xs, h1, h2, h3⟩ := z
    exact ⟨a, xs, sub _ _ hk h1, h2, Reps.less _ _ h3⟩
  | deck j =>
    obtain ⟨h0, a, l, o, u, h1, h2, h3⟩ := z
    exact ⟨h0, a, l, o, u, sub _ _ hk h1, sub _ _ (by omega) h2, h3⟩
  | hid =>
    obtain ⟨a, o, h1, h2⟩ := z
    exact ⟨a, o, sub _ _ hk h1, h2⟩
  | dead => exact sub _ _ hk z
theorem Ext.less {al' : AL} {H' : Hp} (e : Ext al H al' H') : Ext al H al H' := ⟨⟨[], by simp, by simp⟩, e.keep⟩
end

/-! ### what a def promises, over data -/
abbrev DSp := List B → Mu → (B → Mu → Prop) → Prop
def liftSp (k : Kit) (d : DSp) : Sp := fun vs H Q _ => ∃ al bs mu R, RepBs k.K al H bs vs ∧ MuOk k.K k.DK al H mu ∧ d bs mu R ∧
  ∀ v H' al' b mu', Ext al H al' H' → MuOk k.K k.DK al' H' mu' → RepB k.K al' H' b v → R b mu' → Q v H'
/-- a def keeps its promise, where no repr is under way -/
structure FnD (k : Kit) (P : Program) (w : World) (mg : Str → Option Value) (base : Heap) (r : Nat) (f : Addr) (fd : FuncData) (ps : List Str) (d : DSp) : Prop where
  len : ∀ bs mu R, d bs mu R → bs.length = ps.length
  run : ∀ (A : Around) (outer : List Env) (s : Shared) (H : Hp) (args : Args) (us : List Value) (vs : List V) (Q : VK), Room r A → A.guards = some [] → Env0 P w k.K mg base A outer s H →
    BindsTo s fd args (ps.zip us) → Vals vs us → liftSp k d vs H Q E0 → codeAny (model P w) A (.call (.ref f) args) (CR CX0 outer P w H s Q E0) s
/-- the def st, by its name x, stands and keeps its promise -/
structure FnIn (k : Kit) (P : Program) (w : World) (mg : Str → Option Value) (base : Heap) (r : Nat) (x : Str) (st : Stmt) (ps : List Str) (d : DSp) : Prop where
  ex : ∃ f fd, Fun k.K x x st f fd ∧ mg x = some (.ref f) ∧ Binds k.K fd ps [] ∧ FnD k P w mg base r f fd ps d
theorem FnIn.mono {k : Kit} {P : Program} {w : World} {mg : Str → Option Value} {base : Heap} {r r' : Nat} {x : Str} {st : Stmt} {ps : List Str} {d : DSp} (F : FnIn k P w mg base r x st ps d) (h : r ≤ r') : FnIn k P w mg base r' x st ps d := by
  obtain ⟨f, fd, h1, h2, h3, h4⟩ := F.ex
  exact ⟨f, fd, h1, h2, h3, h4.len, fun A outer s H args us vs Q hr => h4.run A outer s H args us vs Q (hr.mono h)⟩
theorem FnIn.imp {k : Kit} {P : Program} {w : World} {mg : Str → Option Value} {base : Heap} {r : Nat} {x : Str} {st : Stmt} {ps : List Str} {d d' : DSp} (F : FnIn k P w mg base r x st ps d) (h : ∀ bs mu R, d' bs mu R → d bs mu R) : FnIn k P w mg base r x st ps d' := by
  obtain ⟨f, fd, h1, h2, h3, h4⟩ := F.ex
  refine ⟨f, fd, h1, h2, h3, fun bs mu R q => h4.len bs mu R (h _ _ _ q), fun A outer s H args us vs Q hr hg e hb hv hs => h4.run A outer s H args us vs Q hr hg e hb hv ?_⟩
  obtain ⟨al, bs, mu, R, q1, q2, q3, q4⟩ := hs
  exact ⟨al, bs, mu, R, q1, q2, h _ _ _ q3, q4⟩
/-- where a body runs -/
structure In (k : Kit) (X : Cx) (P : Program) (w : World) (mg : Str → Option Value) (base : Heap) (r : Nat) : Prop where
  hP : X.prog = P
  hw : X.w = w
  hK : X.K = k.K
  hmg : X.mg = mg
  hb : X.base = base
  room : Room r X.A
  gd : X.A.guards = some []
  calm : X.calm = true
theorem liftSp_len {k : Kit} {d : DSp} {n : Nat} (h : ∀ bs mu R, d bs mu R → bs.length = n) {vs : List V} {H : Hp} {Q : VK} {E : XK} (q : liftSp k d vs H Q E) : vs.length = n := by
  obtain ⟨al, bs, mu, R, q1, _, q3, _⟩ := q
  rw [q1.length, h _ _ _ q3]

section
variable {X : Cx} {k : Kit} {P : Program} {w : World} {mg : Str → Option Value} {base : Heap} {r r' : Nat}
/-- the callee has run -/
theorem cr_end {pins : List (Addr × Obj)} {σ : L2.St} {H : Hp} {s : Shared} {Q : VK} (I : Inv X pins σ H s) {c : Code} (h : codeAny (model X.prog X.w) X.A c (CR CX0 X.stack X.prog X.w H s Q E0) s) {f : Value} {us : List Value} {kw : List (Str × Value)} (hc : c = .call f ⟨us, kw⟩) :
    wpAny (model X.prog X.w) X.A (call f us kw) (EP X pins σ Q) X.xe s := by
  subst hc
  refine wpAny_call (codeAny_mono h fun res s' hq => ?_)
  rcases res with e | fl
  · exact hq.elim
  · cases fl
    case ret u => exact I.after hq
    all_goals exact False.elim hq
def sCall (d : DSp) (m : SemA) : SemE := fun en mu Q => m en mu fun bs mu1 => d bs mu1 Q
variable {x : Str} {st : Stmt} {ps : List Str} {d : DSp} {e : Expr} {es : List Expr} {m mk : SemA} {p pos : Pos}
theorem call_imp {t : TA} {Q' : VK} {σ : L2.St} {H : Hp} (h : ∀ σ H Q, tDA k m σ H Q → t σ H Q) (q : tD k (sCall d m) σ H Q') : t σ H fun vs H1 => liftSp k d vs H1 Q' E0 := by
  obtain ⟨al, en, mu, Q, st, q, kk⟩ := q
  refine h _ _ _ ⟨al, en, mu, _, st, q, fun vs H1 al1 bs mu1 e1 st1 r1 q1 => ?_⟩
  exact ⟨al1, bs, mu1, Q, r1, st1.mu, q1, fun v H' al' b mu' e2 m2 r2 q2 => kk v H' al' b mu' (e1.trans e2) (st1.ext e2 m2) r2 q2⟩
theorem d_call (C : In k X P w mg base r) (F : FnIn k P w mg base r' x st ps d) (gl : Gl X x) (ha : PA X (e :: es) (tDA k m)) (hr : r' ≤ r := by decide) (hdb : (x == ("__debug__" : Str)) = false := by decide)
    (he : starEach (e :: es) X.env = (false, eval e X.env) :: starEach es X.env := by rfl) (hpl : (backTo pos (starEach es X.env)).any (·.1) = false := by rfl) :
    PE X (.Call (.Name x p) (e :: es) [] pos) (tD k (sCall d m)) := by
  obtain ⟨f, fd, h1, h2, h3, h4⟩ := F.ex
  obtain ⟨rfl, rfl, hK, rfl, rfl, rm, gd, _⟩ := C
  refine ⟨fun pins s σ H Q I h => wpAny_Call_Name_kw (ld_glob I gl h2 ?_ hdb)⟩
  refine PySem.W.callWith_K (h₀ := X.base) I.ok.mod.kin (by rw [hK]; exact h1.kp) ?_ he hpl
  refine thn (ha.run pos pins s σ H _ I (call_imp (fun _ _ _ z => z) h)) fun us s1 ⟨vs, H1, I1, rv, q⟩ => ⟨I1.kIn, ?_⟩
  have hl : us.length = ps.length := by rw [← rv.length]; exact liftSp_len h4.len q
  refine cr_end I1 (h4.run X.A X.stack s1 H1 ⟨us, []⟩ us vs _ (rm.mono hr) gd (by rw [← hK]; exact I1.env0) ?_ rv q) rfl
  have hb := h3 s1 us (by rw [← hK]; exact I1.kIn) (by rw [List.append_nil]; exact hl)
  rw [List.append_nil] at hb
  exact hb
theorem d_call0 (C : In k X P w mg base r) (F : FnIn k P w mg base r' x st [] d) (gl : Gl X x) (hr : r' ≤ r := by decide) (hdb : (x == ("__debug__" : Str)) = false := by decide) : PE X (.Call (.Name x p) [] [] pos) (tD k (sCall d sNil)) := by
  obtain ⟨f, fd, h1, h2, h3, h4⟩ := F.ex
  obtain ⟨rfl, rfl, hK, rfl, rfl, rm, gd, _⟩ := C
  refine ⟨fun pins s σ H Q I h => wpAny_Call_Name_kw (ld_glob I gl h2 ?_ hdb)⟩
  refine PySem.W.callWith_K0 I.kIn (by rw [hK]; exact h1.kp) ?_
  have q : liftSp k d [] H Q E0 := call_imp (t := tNil) (fun σ H Q z => by
    obtain ⟨al, en, mu, Q2, st, q, kk⟩ := z
    exact kk [] H al [] mu Ext.refl st rfl q) h
  refine cr_end I (h4.run X.A X.stack s H ⟨[], []⟩ [] [] _ (rm.mono hr) gd (by rw [← hK]; exact I.env0) ?_ .nil q) rfl
  have hb := h3 s [] (by rw [← hK]; exact I.kIn) rfl
  exact hb
/-! keywords -/
theorem k_nil : PK X [] (tDA k sNil) := ⟨fun pos pins s σ H Q I q => pk_nil.run pos pins s σ H Q I (by
  obtain ⟨al, en, mu, Q2, st, q, kk⟩ := q
  exact kk [] H al [] mu Ext.refl st rfl q)⟩
theorem k_cons {nm : Option Str} {kpos : Pos} {kws : List Keyword} {ma : SemE} (ha : PE X e (tD k ma)) (hr : PK X kws (tDA k m)) : PK X (⟨nm, e, kpos⟩ :: kws) (tDA k (sCons ma m)) :=
  ⟨fun pos pins s σ H Q I q => (pk_cons ha hr).run pos pins s σ H Q I (by
    obtain ⟨al, en, mu, Q, st, q, kk⟩ := q
    refine ⟨al, en, mu, _, st, q, fun v H1 al1 b mu1 e1 st1 r1 q1 => ?_⟩
    exact ⟨al1, en, mu1, _, st1, q1, fun vs H2 al2 bs mu2 e2 st2 r2 q2 => kk (v :: vs) H2 al2 (b :: bs) mu2 (e1.trans e2) st2 ⟨v, vs, rfl, r1.ext e2, r2⟩ q2⟩)⟩
/-- the values in the parameters' order: g tells the place of each parameter's value among the n positional ones and then the m keywords' -/
def pick {α : Type} (n m : Nat) (g : List Nat) (us ws : List α) : List α := if us.length = n ∧ ws.length = m then g.filterMap fun i => (us ++ ws)[i]? else []
def sCallK (d : DSp) (n m : Nat) (g : List Nat) (ma mk : SemA) : SemE := fun en mu Q => ma en mu fun bs mu1 => mk en mu1 fun cs mu2 => d (pick n m g bs cs) mu2 Q
theorem RepBs.app {al : AL} {H : Hp} : ∀ {bs cs : List B} {vs zs : List V}, RepBs k.K al H bs vs → RepBs k.K al H cs zs → RepBs k.K al H (bs ++ cs) (vs ++ zs)
  | [], _, _, _, h, h' => by
    have e : _ = [] := h
    rw [e]
    exact h'
  | b :: bs, _, _, _, h, h' => by
    obtain ⟨x, r, h1, h2, h3⟩ := h
    exact ⟨x, r ++ _, by rw [h1] <;> rfl, h2, RepBs.app h3 h'⟩
theorem RepBs.get {al : AL} {H : Hp} : ∀ {bs : List B} {vs : List V} (i : Nat), RepBs k.K al H bs vs → (bs[i]? = none ∧ vs[i]? = none) ∨ ∃ b v, bs[i]? = some b ∧ vs[i]? = some v ∧ RepB k.K al H b v
  | [], _, i, h => by
    have e : _ = [] := h
    rw [e]
    exact .inl ⟨rfl, rfl⟩
  | b :: bs, _, 0, h => by
    obtain ⟨x, r, h1, h2, h3⟩ := h
    rw [h1]
    exact .inr ⟨b, x, rfl, rfl, h2⟩
  | b :: bs, _, i + 1, h => by
    obtain ⟨x, r, h1, h2, h3⟩ := h
    rw [h1, List.getElem?_cons_succ, List.getElem?_cons_succ]
    exact RepBs.get i h3
theorem reps_fm {al : AL} {H : Hp} {bs : List B} {vs : List V} (h : RepBs k.K al H bs vs) : ∀ g : List Nat, RepBs k.K al H (g.filterMap fun i => bs[i]?) (g.filterMap fun i => vs[i]?)
  | [] => rfl
  | i :: g => by
    have ih := reps_fm h g
    rw [List.filterMap_cons, List.filterMap_cons]
    rcases RepBs.get i h with ⟨e1, e2⟩ | ⟨b, v, e1, e2, rr⟩
    · rw [e1, e2]
      exact ih
    · rw [e1, e2]
      exact ⟨v, _, rfl, rr, ih⟩
theorem RepBs.pick {al : AL} {H : Hp} {bs cs : List B} {vs zs : List V} {n m : Nat} {g : List Nat} (h : RepBs k.K al H bs vs) (h' : RepBs k.K al H cs zs) : RepBs k.K al H (pick n m g bs cs) (pick n m g vs zs) := by
  unfold DL.pick
  rw [h.length, h'.length]
  split
  · exact reps_fm (RepBs.app h h') g
  · rfl
theorem vals_get : ∀ {vs : List V} {us : List Value} (i : Nat), Vals vs us → (vs[i]? = none ∧ us[i]? = none) ∨ ∃ v u, vs[i]? = some v ∧ us[i]? = some u ∧ RelV v u
  | _, _, i, .nil => .inl ⟨rfl, rfl⟩
  | _, _, 0, .cons r _ => .inr ⟨_, _, rfl, rfl, r⟩
  | _, _, i + 1, .cons _ t => vals_get i t
theorem vals_fm {vs : List V} {us : List Value} (h : Vals vs us) : ∀ g : List Nat, Vals (g.filterMap fun i => vs[i]?) (g.filterMap fun i => us[i]?)
  | [] => .nil
  | i :: g => by
    have ih := vals_fm h g
    rw [List.filterMap_cons, List.filterMap_cons]
    rcases vals_get i h with ⟨e1, e2⟩ | ⟨b, v, e1, e2, rr⟩
    · rw [e1, e2]
      exact ih
    · rw [e1, e2]
      exact .cons rr ih
theorem vals_pick {vs zs : List V} {us ws : List Value} {n m : Nat} {g : List Nat} (h : Vals vs us) (h' : Vals zs ws) : Vals (pick n m g vs zs) (pick n m g us ws) := by
  unfold pick
  rw [h.length, h'.length]
  split
  · exact vals_fm (h.append h') g
  · exact .nil
/-- how keywords bind, for each function object of st -/
def KwOk (k : Kit) (x : Str) (st : Stmt) (ps ks : List Str) (n m : Nat) (g : List Nat) : Prop :=
  ∀ (f : Addr) (fd : FuncData), Fun k.K x x st f fd → ∀ (s : Shared) (us ws : List Value), us.length = n → ws.length = m → BindsTo s fd ⟨us, ks.zip ws⟩ (ps.zip (pick n m g us ws))
theorem callK_imp {n m : Nat} {g : List Nat} {ma : SemA} {t t' : TA} {Q' : VK} {σ : L2.St} {H : Hp} (h : ∀ σ H Q, tDA k ma σ H Q → t σ H Q) (h' : ∀ σ H Q, tDA k mk σ H Q → t' σ H Q) (q : tD k (sCallK d n m g ma mk) σ H Q') :
    t σ H fun vs H1 => t' σ H1 fun zs H2 => liftSp k d (pick n m g vs zs) H2 Q' E0 := by
  obtain ⟨al, en, mu, Q, st, q, kk⟩ := q
  refine h _ _ _ ⟨al, en, mu, _, st, q, fun vs H1 al1 bs mu1 e1 st1 r1 q1 => ?_⟩
  refine h' _ _ _ ⟨al1, en, mu1, _, st1, q1, fun zs H2 al2 cs mu2 e2 st2 r2 q2 => ?_⟩
  exact ⟨al2, pick n m g bs cs, mu2, Q, RepBs.pick (r1.ext e2) r2, st2.mu, q2, fun v H' al' b mu' e3 m3 r3 q3 => kk v H' al' b mu' ((e1.trans e2).trans e3) (st2.ext e3 m3) r3 q3⟩
variable {kws : List Keyword} {ks : List Str} {g : List Nat} {n j : Nat} {ma : SemA}
theorem kw_run {pins : List (Addr × Obj)} {s : Shared} {σ : L2.St} {H : Hp} {Q : VK} {us ws : List Value} {vs zs : List V} {f : Addr} {fd : FuncData} (hK : X.K = k.K) (rm : Room r' X.A) (gd : X.A.guards = some []) (I : Inv X pins σ H s) (h1 : Fun k.K x x st f fd) (h4 : FnD k X.prog X.w X.mg X.base r' f fd ps d)
    (kw : KwOk k x st ps ks n j g) (hps : ps ≠ []) (rv : Vals vs us) (rz : Vals zs ws) (q : liftSp k d (pick n j g vs zs) H Q E0) : wpAny (model X.prog X.w) X.A (call (.ref f) us (ks.zip ws)) (EP X pins σ Q) X.xe s := by
  have hl := liftSp_len h4.len q
  have hn : us.length = n ∧ ws.length = j := by
    unfold pick at hl
    rw [rv.length, rz.length] at hl
    split at hl
    · assumption
    · exact absurd (List.length_eq_zero_iff.mp hl.symm) hps
  exact cr_end I (h4.run X.A X.stack s H ⟨us, ks.zip ws⟩ (pick n j g us ws) (pick n j g vs zs) Q rm gd (by rw [← hK]; exact I.env0) (kw f fd h1 s us ws hn.1 hn.2) (vals_pick rv rz) q) rfl
theorem d_callK (C : In k X P w mg base r) (F : FnIn k P w mg base r' x st ps d) (gl : Gl X x) (kw : KwOk k x st ps ks n j g) (ha : PA X (e :: es) (tDA k ma)) (hkw : PK X kws (tDA k mk)) (hps : ps ≠ [] := by exact List.cons_ne_nil _ _) (hr : r' ≤ r := by decide)
    (hall : (backToKw pos (keywordEach kws X.env)).all (·.1.isSome) = true := by rfl) (hks : (backToKw pos (keywordEach kws X.env)).filterMap (·.1) = ks := by rfl)
    (hdb : (x == ("__debug__" : Str)) = false := by decide) (he : starEach (e :: es) X.env = (false, eval e X.env) :: starEach es X.env := by rfl)
    (hpl : ((backTo pos (starEach (e :: es) X.env)).any (·.1) || (backToKw pos (keywordEach kws X.env)).any (·.1.isNone)) = false := by rfl) : PE X (.Call (.Name x p) (e :: es) kws pos) (tD k (sCallK d n j g ma mk)) := by
  obtain ⟨f, fd, h1, h2, h3, h4⟩ := F.ex
  obtain ⟨rfl, rfl, hK, rfl, rfl, rm, gd, _⟩ := C
  refine ⟨fun pins s σ H Q I h => wpAny_Call_Name_kw (ld_glob I gl h2 ?_ hdb)⟩
  have q0 := callK_imp (fun _ _ _ z => z) (fun _ _ _ z => z) h
  refine PySem.W.callWith_KW (h₀ := X.base) I.ok.mod.kin (by rw [hK]; exact h1.kp) hall (thn (ha.run pos pins s σ H _ I q0) ?_) hpl he
  rintro us s1 ⟨vs, H1, I1, rv, q1⟩
  refine thn (hkw.run pos pins s1 σ H1 _ I1 q1) ?_
  rintro ws s2 ⟨zs, H2, I2, rz, q2⟩
  refine ⟨I2.kIn, ?_⟩
  rw [hks]
  exact kw_run hK (rm.mono hr) gd I2 h1 h4 kw hps rv rz q2
theorem d_callK0 (C : In k X P w mg base r) (F : FnIn k P w mg base r' x st ps d) (gl : Gl X x) (kw : KwOk k x st ps ks n j g) (hkw : PK X kws (tDA k mk)) (hps : ps ≠ [] := by exact List.cons_ne_nil _ _) (hr : r' ≤ r := by decide)
    (hall : (backToKw pos (keywordEach kws X.env)).all (·.1.isSome) = true := by rfl) (hks : (backToKw pos (keywordEach kws X.env)).filterMap (·.1) = ks := by rfl)
    (hdb : (x == ("__debug__" : Str)) = false := by decide)
    (hpl : ((backTo pos (starEach [] X.env)).any (·.1) || (backToKw pos (keywordEach kws X.env)).any (·.1.isNone)) = false := by rfl) : PE X (.Call (.Name x p) [] kws pos) (tD k (sCallK d n j g sNil mk)) := by
  obtain ⟨f, fd, h1, h2, h3, h4⟩ := F.ex
  obtain ⟨rfl, rfl, hK, rfl, rfl, rm, gd, _⟩ := C
  refine ⟨fun pins s σ H Q I h => wpAny_Call_Name_kw (ld_glob I gl h2 ?_ hdb)⟩
  have q0 := callK_imp (t := tNil) (fun σ H Q z => by
    obtain ⟨al, en, mu, Q2, st, q, kk⟩ := z
    exact kk [] H al [] mu Ext.refl st rfl q) (fun _ _ _ z => z) h
  refine PySem.W.callWith_KW0 (h₀ := X.base) I.ok.mod.kin (by rw [hK]; exact h1.kp) hall (thn (hkw.run pos pins s σ H _ I q0) ?_) hpl
  rintro ws s2 ⟨zs, H2, I2, rz, q2⟩
  refine ⟨I2.kIn, ?_⟩
  rw [hks]
  exact kw_run (us := []) hK (rm.mono hr) gd I2 h1 h4 kw hps .nil rz q2
end
end DL

set_option Elab.async false
set_option linter.all false
set_option maxRecDepth 100000
set_option maxHeartbeats 4000000
namespace DL
open PySem L2

/-! ### targets -/
abbrev SemG := B → En → Mu → (En → Mu → Prop) → Prop
abbrev SemGs := List D → En → Mu → (En → Mu → Prop) → Prop
/-- the slots outside ix are as they were -/
def Agr (ix : List Nat) (σ σ' : L2.St) : Prop := σ'.length = σ.length ∧ ∀ j, j ∉ ix → σ'[j]? = σ[j]?
theorem Agr.refl {ix : List Nat} {σ : L2.St} : Agr ix σ σ := ⟨rfl, fun _ _ => rfl⟩
theorem Agr.trans {ix : List Nat} {σ σ1 σ2 : L2.St} (a : Agr ix σ σ1) (b : Agr ix σ1 σ2) : Agr ix σ σ2 := ⟨b.1.trans a.1, fun j h => (b.2 j h).trans (a.2 j h)⟩
theorem Agr.mono {ix jx : List Nat} {σ σ' : L2.St} (a : Agr ix σ σ') (h : ∀ j ∈ ix, j ∈ jx) : Agr jx σ σ' := ⟨a.1, fun j q => a.2 j fun z => q (h j z)⟩
theorem wipe_in {σ : L2.St} {vs : List Nat} {j : Nat} (h : j ∈ vs) (hj : j < σ.length) : (wipe σ vs)[j]? = some none := by
  have e : j < (wipe σ vs).length := by rw [wipe_length]; exact hj
  cases q : (wipe σ vs)[j] with
  | none => rw [List.getElem?_eq_getElem e, q]
  | some x =>
    have z : (wipe σ vs)[j]? = some (some x) := by rw [List.getElem?_eq_getElem e, q]
    exact absurd h (wipe_some z).2
theorem Agr.wipe {vs : List Nat} {σ σ2 : L2.St} (a : Agr vs (wipe σ vs) σ2) : L2.wipe σ2 vs = L2.wipe σ vs := by
  apply List.ext_getElem?
  intro j
  have hl : σ2.length = σ.length := by rw [a.1, wipe_length]
  by_cases h : j ∈ vs
  · by_cases hj : j < σ.length
    · rw [wipe_in h (by omega), wipe_in h hj]
    · rw [List.getElem?_eq_none (by rw [wipe_length]; omega), List.getElem?_eq_none (by rw [wipe_length]; omega)]
  · rw [wipe_out h, a.2 j h]
section
variable (k : Kit)
def tDG (ix : List Nat) (g : SemG) : TG := fun v σ H Q' => ∃ al en mu b Q, Stt k.K k.DK al σ H en mu ∧ RepB k.K al H b v ∧ g b en mu Q ∧
  ∀ al' σ' H' en' mu', Ext al H al' H' → Stt k.K k.DK al' σ' H' en' mu' → Agr ix σ σ' → Q en' mu' → Q' σ' H'
def tDGs (ix : List Nat) (g : SemGs) : TGs := fun vs σ H Q' => ∃ al en mu ds Q, Stt k.K k.DK al σ H en mu ∧ Reps k.K al H ds vs ∧ g ds en mu Q ∧
  ∀ al' σ' H' en' mu', Ext al H al' H' → Stt k.K k.DK al' σ' H' en' mu' → Agr ix σ σ' → Q en' mu' → Q' σ' H'
end
def sGN (i : Nat) : SemG := fun b en mu Q => Q (en.set i (some b)) mu
def sGT (n : Nat) (gs : SemGs) : SemG := fun b en mu Q => match b with
  | .dat (.tuple ds) => ds.length = n ∧ gs ds en mu Q
  | _ => False
def sGnil : SemGs := fun ds en mu Q => match ds with
  | [] => Q en mu
  | _ => False
def sGcons (g : SemG) (gs : SemGs) : SemGs := fun ds en mu Q => match ds with
  | d :: r => g (.dat d) en mu fun en' mu' => gs r en' mu' Q
  | [] => False
section
variable {X : Cx} {k : Kit} {ix jx : List Nat} {g : SemG} {gs : SemGs} {pos : Pos}
theorem pg_imp {e : Expr} {t t' : TG} (h : PG X e t) (i : ∀ v σ H Q, t' v σ H Q → t v σ H Q) : PG X e t' :=
  ⟨fun pins s σ H v u Q I r q => h.run pins s σ H v u Q I r (i v σ H Q q)⟩
theorem pgs_imp {e : List Expr} {t t' : TGs} (h : PGs X e t) (i : ∀ v σ H Q, t' v σ H Q → t v σ H Q) : PGs X e t' :=
  ⟨fun pins s σ H v u Q I r q => h.run pins s σ H v u Q I r (i v σ H Q q)⟩
theorem Stt.set {al : AL} {σ : L2.St} {H : Hp} {en : En} {mu : Mu} {b : B} {v : V} {i : Nat} (s : Stt k.K k.DK al σ H en mu) (r : RepB k.K al H b v) : Stt k.K k.DK al (σ.set i (some v)) H (en.set i (some b)) mu := by
  refine ⟨s.mu, by rw [List.length_set, List.length_set]; exact s.len, fun j c q => ?_⟩
  by_cases h : i = j
  · subst h
    have hl : i < en.length := by
      have := (List.getElem?_eq_some_iff.mp q).1
      rwa [List.length_set] at this
    rw [List.getElem?_set_self hl] at q
    cases q
    exact ⟨v, List.getElem?_set_self (by rw [← s.len]; exact hl), r⟩
  · rw [List.getElem?_set_ne h] at q
    obtain ⟨w, h1, h2⟩ := s.sl j c q
    exact ⟨w, by rw [List.getElem?_set_ne h]; exact h1, h2⟩
theorem g_name {i : Nat} {x : Str} (hN : X.N.Nodup) (hi : X.N[i]? = some x) (hx : Loc X.env.scope x) (hf : X.fn x = true ∨ X.env.scope.names.lookup x = some .local := by first | exact .inl rfl | exact .inr rfl | assumption) : PG X (.Name x pos) (tDG k [i] (sGN i)) :=
  pg_imp (pg_name hN hi hx hf) fun v σ H Q' q => by
    obtain ⟨al, en, mu, b, Q, st, r, q, kk⟩ := q
    exact kk al _ H _ mu Ext.refl (st.set r) ⟨List.length_set, fun j hj => List.getElem?_set_ne (fun e => hj (by simp [e]))⟩ q
theorem gs_nil : PGs X [] (tDGs k [] sGnil) := pgs_imp pgs_nil fun v σ H Q' q => by
  obtain ⟨al, en, mu, ds, Q, st, r, q, kk⟩ := q
  cases ds with
  | nil => exact ⟨r, kk al σ H en mu Ext.refl st Agr.refl q⟩
  | cons d ds => exact q.elim
theorem gs_cons {e : Expr} {es : List Expr} (h1 : PG X e (tDG k ix g)) (h2 : PGs X es (tDGs k jx gs)) (hs : (assignEach (e :: es) X.env).map (·.2) = assign e X.env :: (assignEach es X.env).map (·.2) := by rfl) : PGs X (e :: es) (tDGs k (ix ++ jx) (sGcons g gs)) :=
  pgs_imp (pgs_cons h1 h2 hs) fun v σ H Q' q => by
    obtain ⟨al, en, mu, ds, Q, st, r, q, kk⟩ := q
    cases ds with
    | nil => exact q.elim
    | cons d ds =>
      obtain ⟨x, y, h1, h2, h3⟩ := r
      refine ⟨x, y, h1, al, en, mu, .dat d, _, st, h2, q, fun al1 σ1 H1 en1 mu1 e1 st1 a1 q1 => ?_⟩
      exact ⟨al1, en1, mu1, ds, _, st1, Reps.ext e1 _ _ h3, q1, fun al2 σ2 H2 en2 mu2 e2 st2 a2 q2 => kk al2 σ2 H2 en2 mu2 (e1.trans e2) st2 ((a1.mono fun j z => List.mem_append_left _ z).trans (a2.mono fun j z => List.mem_append_right _ z)) q2⟩
theorem g_tup {es : List Expr} {kk : Nat} {n : Nat} (hc : X.calm = true) (h : PGs X es (tDGs k ix gs)) (hn : (assignEach es X.env).length = n := by rfl) (hst : (assignEach es X.env).findIdx? (·.1) = none := by rfl) (hK : X.K = k.K) : PG X (.Tuple es kk pos) (tDG k ix (sGT n gs)) :=
  pg_imp (pg_tup hc h hn hst) fun v σ H Q' q => by
    obtain ⟨al, en, mu, b, Q, st, r, q, kk⟩ := q
    cases b with
    | ref j => exact q.elim
    | dat d =>
      cases d with
      | tuple ds =>
        obtain ⟨a, xs, h1, h2, h3⟩ := r
        exact ⟨a, xs, h1, by rw [hK]; exact h2.sq, by rw [h3.length]; exact q.1, al, en, mu, ds, Q, st, h3, q.2, kk⟩
      | _ => exact q.elim
end

/-! ### statements -/
structure DEnds where
  nx : En → Mu → Prop
  rt : B → Mu → Prop
  bk : En → Mu → Prop
  ct : En → Mu → Prop
abbrev SemS := DEnds → En → Mu → Prop
structure Fits (k : Kit) (al0 : AL) (H0 : Hp) (D : DEnds) (E : Ends) : Prop where
  nx : ∀ al σ H en mu, Ext al0 H0 al H → Stt k.K k.DK al σ H en mu → D.nx en mu → E.nx σ H
  rt : ∀ al v H b mu, Ext al0 H0 al H → MuOk k.K k.DK al H mu → RepB k.K al H b v → D.rt b mu → E.rt v H
  bk : ∀ al σ H en mu, Ext al0 H0 al H → Stt k.K k.DK al σ H en mu → D.bk en mu → E.bk σ H
  ct : ∀ al σ H en mu, Ext al0 H0 al H → Stt k.K k.DK al σ H en mu → D.ct en mu → E.ct σ H
def tDS (k : Kit) (w : SemS) : TS := fun E σ H => ∃ al0 H0 al en mu D, Ext al0 H0 al H ∧ Stt k.K k.DK al σ H en mu ∧ w D en mu ∧ Fits k al0 H0 D E
section
variable {X : Cx} {k : Kit}
theorem ps_imp {e : Stmt} {t t' : TS} (h : PS X e t) (i : ∀ D σ H, t' D σ H → t D σ H) : PS X e t' :=
  ⟨fun pins s σ H D I q => h.run pins s σ H D I (i D σ H q)⟩
theorem pss_imp {e : List Stmt} {t t' : TS} (h : PSs X e t) (i : ∀ D σ H, t' D σ H → t D σ H) : PSs X e t' :=
  ⟨fun pins s σ H D I q => h.run pins s σ H D I (i D σ H q)⟩
variable {st : Stmt} {rest : List Stmt} {w w1 w2 : SemS} {e : Expr} {m : SemE} {pos : Pos}
def sSkip : SemS := fun D en mu => D.nx en mu
def sSeq (w1 w2 : SemS) : SemS := fun D en mu => w1 { D with nx := fun en mu => w2 D en mu } en mu
theorem s_nil : PSs X [] (tDS k sSkip) := pss_imp pss_nil fun E σ H q => by
  obtain ⟨al0, H0, al, en, mu, D, e0, st, q, f⟩ := q
  exact f.nx al σ H en mu e0 st q
theorem s_cons (h1 : PS X st (tDS k w1)) (h2 : PSs X rest (tDS k w2)) : PSs X (st :: rest) (tDS k (sSeq w1 w2)) := pss_imp (pss_cons h1 h2) fun E σ H q => by
  obtain ⟨al0, H0, al, en, mu, D, e0, st, q, f⟩ := q
  exact ⟨al0, H0, al, en, mu, { D with nx := fun en mu => w2 D en mu }, e0, st, q, ⟨fun al1 σ1 H1 en1 mu1 e1 st1 q1 => ⟨al0, H0, al1, en1, mu1, D, e1, st1, q1, f⟩, f.rt, f.bk, f.ct⟩⟩
theorem s_one (h1 : PS X st (tDS k w1)) : PSs X [st] (tDS k w1) := pss_one h1
def sBreak : SemS := fun D en mu => D.bk en mu
def sCont : SemS := fun D en mu => D.ct en mu
theorem s_pass : PS X (.Pass pos) (tDS k sSkip) := ps_imp ps_pass fun E σ H q => by
  obtain ⟨al0, H0, al, en, mu, D, e0, st, q, f⟩ := q
  exact f.nx al σ H en mu e0 st q
theorem s_break : PS X (.Break pos) (tDS k sBreak) := ps_imp ps_break fun E σ H q => by
  obtain ⟨al0, H0, al, en, mu, D, e0, st, q, f⟩ := q
  exact f.bk al σ H en mu e0 st q
theorem s_continue : PS X (.Continue pos) (tDS k sCont) := ps_imp ps_continue fun E σ H q => by
  obtain ⟨al0, H0, al, en, mu, D, e0, st, q, f⟩ := q
  exact f.ct al σ H en mu e0 st q
def sDrop (m : SemE) : SemS := fun D en mu => m en mu fun _ mu1 => D.nx en mu1
theorem s_expr (he : PE X e (tD k m)) (hs : swapsWith e none pos.line X.env = pure false := by rfl) : PS X (.Expr e pos) (tDS k (sDrop m)) := ps_imp (ps_expr he hs) fun E σ H q => by
  obtain ⟨al0, H0, al, en, mu, D, e0, st, q, f⟩ := q
  exact ⟨al, en, mu, _, st, q, fun v H1 al1 b mu1 e1 st1 r1 q1 => f.nx al1 σ H1 en mu1 (e0.trans e1) st1 q1⟩
def sRet (m : SemE) : SemS := fun D en mu => m en mu fun b mu1 => D.rt b mu1
theorem s_ret (he : PE X e (tD k m)) : PS X (.Return (some e) pos) (tDS k (sRet m)) := ps_imp (ps_ret he) fun E σ H q => by
  obtain ⟨al0, H0, al, en, mu, D, e0, st, q, f⟩ := q
  exact ⟨al, en, mu, _, st, q, fun v H1 al1 b mu1 e1 st1 r1 q1 => f.rt al1 v H1 b mu1 (e0.trans e1) st1.mu r1 q1⟩
def sRetN : SemS := fun D en mu => D.rt (.dat .none) mu
theorem s_retN : PS X (.Return none pos) (tDS k sRetN) := ps_imp ps_retN fun E σ H q => by
  obtain ⟨al0, H0, al, en, mu, D, e0, st, q, f⟩ := q
  exact f.rt al .non H (.dat .none) mu e0 st.mu rfl q
def sIfS (t : SemT) (w1 w2 : SemS) : SemS := fun D en mu => t en mu fun c mu1 => if c = true then w1 D en mu1 else w2 D en mu1
theorem s_if {c : Expr} {a b : List Stmt} {t : SemT} (hc : PT X c (tDT k t)) (ha : PSs X a (tDS k w1)) (hb : PSs X b (tDS k w2)) : PS X (.If c a b pos) (tDS k (sIfS t w1 w2)) := ps_imp (ps_if hc ha hb) fun E σ H q => by
  obtain ⟨al0, H0, al, en, mu, D, e0, st, q, f⟩ := q
  refine ⟨al, en, mu, _, st, q, fun c H1 al1 mu1 e1 st1 q1 => ?_⟩
  dsimp only
  split
  · rename_i hc
    rw [if_pos hc] at q1
    exact ⟨al0, H0, al1, en, mu1, D, e0.trans e1, st1, q1, f⟩
  · rename_i hc
    rw [if_neg hc] at q1
    exact ⟨al0, H0, al1, en, mu1, D, e0.trans e1, st1, q1, f⟩
def sNo : SemS := fun _ _ _ => False
theorem s_never : PS X st (tDS k sNo) := ps_imp ps_never fun E σ H q => by
  obtain ⟨al0, H0, al, en, mu, D, e0, st, q, f⟩ := q
  exact q
theorem ss_never {sts : List Stmt} : PSs X sts (tDS k sNo) := pss_imp pss_never fun E σ H q => by
  obtain ⟨al0, H0, al, en, mu, D, e0, st, q, f⟩ := q
  exact q
def sAsg (m : SemE) (g : SemG) : SemS := fun D en mu => m en mu fun b mu1 => g b en mu1 D.nx
variable {ix : List Nat} {g : SemG} {tg : Expr}
theorem asg_imp {t : TE} (h : ∀ σ H Q, tD k m σ H Q → t σ H Q) (E : Ends) (σ : L2.St) (H : Hp) (q : tDS k (sAsg m g) E σ H) : tAsg t (tDG k ix g) E σ H := by
  obtain ⟨al0, H0, al, en, mu, D, e0, st, q, f⟩ := q
  refine h _ _ _ ⟨al, en, mu, _, st, q, fun v H1 al1 b mu1 e1 st1 r1 q1 => ?_⟩
  exact ⟨al1, en, mu1, b, _, st1, r1, q1, fun al2 σ2 H2 en2 mu2 e2 st2 _ q2 => f.nx al2 σ2 H2 en2 mu2 ((e0.trans e1).trans e2) st2 q2⟩
theorem s_asg (he : PE X e (tD k m)) (hg : PG X tg (tDG k ix g)) (hs : swapsWithSole [tg] e pos.line X.env = pure false := by rfl) (hw : swappedStores [tg] e X.env = pure none := by rfl)
    (h1 : (assignEach [tg] X.env).map (·.2) = [assign tg X.env] := by rfl) : PS X (.Assign [tg] e pos) (tDS k (sAsg m g)) := ps_imp (ps_asg he hg hs hw h1) (asg_imp fun _ _ _ q => q)
theorem s_set {i : Nat} {x : Str} {pos' : Pos} (hN : X.N.Nodup) (hi : X.N[i]? = some x) (hx : Loc X.env.scope x) (he : PE X e (tD k m)) (hs : swapsWith e (some (.Name x pos')) pos.line X.env = pure false := by rfl)
    (hf : X.fn x = true ∨ X.env.scope.names.lookup x = some .local := by first | exact .inl rfl | exact .inr rfl | assumption) : PS X (.Assign [.Name x pos'] e pos) (tDS k (sAsg m (sGN i))) :=
  ps_imp (ps_set hN hi hx he hs hf) fun E σ H q => by
    obtain ⟨al0, H0, al, en, mu, D, e0, st, q, f⟩ := q
    exact ⟨al, en, mu, _, st, q, fun v H1 al1 b mu1 e1 st1 r1 q1 => f.nx al1 _ H1 _ mu1 (e0.trans e1) (st1.set r1) q1⟩
/-- a, b = x, y and a, b, c = x, y, z, plain local names -/
def sPar (i j : Nat) (m : SemA) : SemS := fun D en mu => m en mu fun bs mu1 => match bs with
  | [b, c] => D.nx ((en.set i (some b)).set j (some c)) mu1
  | _ => False
def sPar3 (i j l : Nat) (m : SemA) : SemS := fun D en mu => m en mu fun bs mu1 => match bs with
  | [b, c, d] => D.nx (((en.set i (some b)).set j (some c)).set l (some d)) mu1
  | _ => False
theorem s_par {i j : Nat} {x y : Str} {a b : Expr} {mm : SemA} {px py pt : Pos} {kt k2 pt2} (hc : X.calm = true) (hN : X.N.Nodup) (hi : X.N[i]? = some x) (hj : X.N[j]? = some y) (hij : i ≠ j)
    (hx : X.env.scope.names.lookup x = some .local) (hy : X.env.scope.names.lookup y = some .local) (ha : PA X [a, b] (tDA k mm))
    (hw : swappedStores [.Tuple [.Name x px, .Name y py] kt pt] (.Tuple [a, b] k2 pt2) X.env = pure (some [x, y]))
    (hs : swapsWithSole [.Tuple [.Name x px, .Name y py] kt pt] (.Tuple [a, b] k2 pt2) pos.line X.env = pure false := by rfl) : PS X (.Assign [.Tuple [.Name x px, .Name y py] kt pt] (.Tuple [a, b] k2 pt2) pos) (tDS k (sPar i j mm)) :=
  ps_imp (ps_par hc hN hi hj hij hx hy ha hw hs) fun E σ H q => by
    obtain ⟨al0, H0, al, en, mu, D, e0, st, q, f⟩ := q
    refine ⟨al, en, mu, _, st, q, fun vs H1 al1 bs mu1 e1 st1 r1 q1 => ?_⟩
    split at q1
    · obtain ⟨v, vs', h1, r2, h2⟩ := r1
      obtain ⟨u, us', h3, r3, h4⟩ := h2
      have e4 : us' = [] := h4
      subst e4 h3 h1
      exact ⟨v, u, rfl, f.nx al1 _ H1 _ mu1 (e0.trans e1) ((st1.set r2).set r3) q1⟩
    · exact q1.elim
theorem s_par3 {i j l : Nat} {x y z : Str} {a b c : Expr} {mm : SemA} {px py pz pt : Pos} {kt k2 pt2} (hc : X.calm = true) (hN : X.N.Nodup) (hi : X.N[i]? = some x) (hj : X.N[j]? = some y) (hl : X.N[l]? = some z) (hij : i ≠ j) (hil : i ≠ l) (hjl : j ≠ l)
    (hx : X.env.scope.names.lookup x = some .local) (hy : X.env.scope.names.lookup y = some .local) (hz : X.env.scope.names.lookup z = some .local) (ha : PA X [a, b, c] (tDA k mm))
    (hw : swappedStores [.Tuple [.Name x px, .Name y py, .Name z pz] kt pt] (.Tuple [a, b, c] k2 pt2) X.env = pure (some [x, y, z]))
    (hs : swapsWithSole [.Tuple [.Name x px, .Name y py, .Name z pz] kt pt] (.Tuple [a, b, c] k2 pt2) pos.line X.env = pure false := by rfl) :
    PS X (.Assign [.Tuple [.Name x px, .Name y py, .Name z pz] kt pt] (.Tuple [a, b, c] k2 pt2) pos) (tDS k (sPar3 i j l mm)) :=
  ps_imp (ps_par3 hc hN hi hj hl hij hil hjl hx hy hz ha hw hs) fun E σ H q => by
    obtain ⟨al0, H0, al, en, mu, D, e0, st, q, f⟩ := q
    refine ⟨al, en, mu, _, st, q, fun vs H1 al1 bs mu1 e1 st1 r1 q1 => ?_⟩
    split at q1
    · obtain ⟨v, vs', h1, r2, h2⟩ := r1
      obtain ⟨u, us', h3, r3, h4⟩ := h2
      obtain ⟨t, ts', h5, r4, h6⟩ := h4
      have e4 : ts' = [] := h6
      subst e4 h5 h3 h1
      exact ⟨v, u, t, rfl, f.nx al1 _ H1 _ mu1 (e0.trans e1) (((st1.set r2).set r3).set r4) q1⟩
    · exact q1.elim
/-! while: by so many turns -/
def whileD (t : SemT) (w : SemS) (D : DEnds) : Nat → En → Mu → Prop
  | 0, _, _ => False
  | n + 1, en, mu => t en mu fun c mu1 => if c = true then w { D with nx := whileD t w D n, ct := whileD t w D n, bk := D.nx } en mu1 else D.nx en mu1
def sWhile (t : SemT) (w : SemS) : SemS := fun D en mu => ∃ n, whileD t w D n en mu
theorem s_while {c : Expr} {body : List Stmt} {t : SemT} (hp : PassesOwn (model X.prog X.w) X.A X.env X.xe) (hc : PT X c (tDT k t)) (hb : PSs X body (tDS k w)) : PS X (.While c body [] pos) (tDS k (sWhile t w)) :=
  ps_imp (ps_while hp hc hb) fun E σ H q => by
    obtain ⟨al0, H0, al, en, mu, D, e0, st, ⟨n, q⟩, f⟩ := q
    refine ⟨fun n σ H => ∃ al en mu, Ext al0 H0 al H ∧ Stt k.K k.DK al σ H en mu ∧ whileD t w D n en mu, ⟨n, al, en, mu, e0, st, q⟩, ?_⟩
    rintro n σ H ⟨al, en, mu, e0, st, q⟩
    cases n with
    | zero => exact q.elim
    | succ n =>
      refine ⟨al, en, mu, _, st, q, fun c H1 al1 mu1 e1 st1 q1 => ?_⟩
      dsimp only
      split
      · rename_i hc
        rw [if_pos hc] at q1
        refine ⟨fun σ' H' => ∃ al en mu, Ext al0 H0 al H' ∧ Stt k.K k.DK al σ' H' en mu ∧ whileD t w D n en mu, fun σ' H' h => ⟨n, Nat.lt_succ_self n, h⟩, ?_⟩
        exact ⟨al0, H0, al1, en, mu1, _, e0.trans e1, st1, q1, ⟨fun al σ H en mu e s q => ⟨al, en, mu, e, s, q⟩, f.rt, f.nx, fun al σ H en mu e s q => ⟨al, en, mu, e, s, q⟩⟩⟩
      · rename_i hc
        rw [if_neg hc] at q1
        exact f.nx al1 σ H1 en mu1 (e0.trans e1) st1 q1
end
end DL

set_option Elab.async false
set_option linter.all false
set_option maxRecDepth 100000
set_option maxHeartbeats 4000000
namespace DL
open PySem L2

/-! ### what is walked -/
/-- J walks the data ds, while gm holds of the own objects -/
structure Wk (k : Kit) (J : It) (ds : List D) (gm : Mu → Prop) (al0 : AL) (H0 : Hp) : Prop where
  go : ∀ al H mu (i : Nat) d, Ext al0 H0 al H → MuOk k.K k.DK al H mu → gm mu → ds[i]? = some d → J.go i H ∧ ∀ v H', J.yld i H v H' → Ext al H al H' ∧ MuOk k.K k.DK al H' mu ∧ Rep k.K al H' d v
  stop : ∀ al H mu, Ext al0 H0 al H → MuOk k.K k.DK al H mu → gm mu → J.stop ds.length H
abbrev SemI := En → Mu → (List D → (Mu → Prop) → Mu → Prop) → Prop
def tDI (k : Kit) (m : SemI) : TI := fun σ H R => ∃ al en mu Q, Stt k.K k.DK al σ H en mu ∧ m en mu Q ∧
  ∀ J H' al' ds gm mu', Ext al H al' H' → Stt k.K k.DK al' σ H' en mu' → Wk k J ds gm al' H' → Q ds gm mu' → R J H'
section
variable {X : Cx} {k : Kit} {tg : Expr}
theorem pi_imp {e : Expr} {t t' : TI} (h : PI X tg e t) (i : ∀ σ H R, t' σ H R → t σ H R) : PI X tg e t' :=
  ⟨fun pins s σ H R I q => h.run pins s σ H R I (i σ H R q)⟩
/-- lists and tuples, by what comes -/
theorem iter_sq {pins : List (Addr × Obj)} {σ : L2.St} {H : Hp} {s : Shared} {R : It → Hp → Prop} {a : Addr} {E : Value → Shared → Prop} (I : Inv X pins σ H s)
    (h : (∃ xs, SqL X.K H a xs ∧ R (Itl X.K a) H) ∨ ∃ xs, SqT X.K H a xs ∧ R (Itt X.K a) H) : wpAny (model X.prog X.w) X.A (pyIter (.ref a)) (PIE X pins σ tg R) E s := by
  have fp : ∀ b ∈ [s.heap.objs.size], FpOk X pins H b := fun b hb => by
    cases List.mem_singleton.mp hb
    exact I.fpOk (Nat.le_refl _) (I.hok.fresh (Nat.le_refl _))
  have more : ∀ o, Inv X pins σ H { s with heap := s.heap.push o } := fun o => I.kept (t' := s.toks) fun b u e => Heap.get?_push_of_some _ e
  rcases h with ⟨xs, hq, q⟩ | ⟨xs, hq, q⟩
  · obtain ⟨its, _, p, _⟩ := I.list hq
    exact wpAny_pyIter_list p.isList ⟨_, [s.heap.objs.size], _, Itl X.K a, H, rfl, more _, turn_list a _, ⟨_, Heap.get?_push_size _ rfl, rfl, rfl⟩, fp, q⟩
  · obtain ⟨its, _, p, _⟩ := I.tuple hq
    exact wpAny_pyIter_tuple (show s.heap.IsTuple a its.toArray from p) ⟨_, [s.heap.objs.size], _, Itt X.K a, H, rfl, more _, turn_tuple a _, ⟨_, Heap.get?_push_size _ rfl, rfl, rfl⟩, fp, q⟩
def sIt (m : SemE) : SemI := fun en mu Q => m en mu fun b mu1 => match b with
  | .dat (.list ds) => Q ds (fun _ => True) mu1
  | .dat (.tuple ds) => Q ds (fun _ => True) mu1
  | .ref j => match mu1[j]? with
    | some (.lst ds) => Q ds (fun mu => mu[j]? = some (.lst ds)) mu1
    | _ => False
  | _ => False
theorem wk_L {al : AL} {H : Hp} {a : Addr} {xs : List V} {ds : List D} (hK : X.K = k.K) (h : FzL k.K al H a xs) (r : Reps k.K al H ds xs) : Wk k (Itl X.K a) ds (fun _ => True) al H where
  go := fun al1 H1 mu i d e m _ hd => by
    rw [hK]
    obtain ⟨v, hv, rv⟩ := Reps.get (Reps.ext e _ _ r) hd
    refine ⟨⟨xs, v, (e.fzL h).sq, hv⟩, ?_⟩
    rintro w H' ⟨rfl, q⟩
    have := q xs (e.fzL h).sq
    rw [hv] at this
    cases this
    exact ⟨Ext.refl, m, rv⟩
  stop := fun al1 H1 mu e m _ => by
    rw [hK]
    exact ⟨xs, (e.fzL h).sq, by rw [r.length]; exact Nat.le_refl _⟩
theorem wk_T {al : AL} {H : Hp} {a : Addr} {xs : List V} {ds : List D} (hK : X.K = k.K) (h : FzT k.K al H a xs) (r : Reps k.K al H ds xs) : Wk k (Itt X.K a) ds (fun _ => True) al H where
  go := fun al1 H1 mu i d e m _ hd => by
    rw [hK]
    obtain ⟨v, hv, rv⟩ := Reps.get (Reps.ext e _ _ r) hd
    refine ⟨⟨xs, v, (e.fzT h).sq, hv⟩, ?_⟩
    rintro w H' ⟨rfl, q⟩
    have := q xs (e.fzT h).sq
    rw [hv] at this
    cases this
    exact ⟨Ext.refl, m, rv⟩
  stop := fun al1 H1 mu e m _ => by
    rw [hK]
    exact ⟨xs, (e.fzT h).sq, by rw [r.length]; exact Nat.le_refl _⟩
theorem ext_at {al al' : AL} {H H' : Hp} {j : Nat} {x : Option Addr} (e : Ext al H al' H') (h : al[j]? = some x) : al'[j]? = some x := by
  obtain ⟨⟨be, rfl, _⟩, _⟩ := e
  rw [List.getElem?_append_left (List.getElem?_eq_some_iff.mp h).1]
  exact h
theorem wk_O {al : AL} {H : Hp} {a : Addr} {j : Nat} {ds : List D} (hK : X.K = k.K) (ha : al[j]? = some (some a)) : Wk k (Itl X.K a) ds (fun mu => mu[j]? = some (.lst ds)) al H where
  go := fun al1 H1 mu i d e m g hd => by
    rw [hK]
    obtain ⟨b, xs, h1, h2, h3⟩ := m.ok j _ g
    rw [ext_at e ha] at h1
    cases h1
    obtain ⟨v, hv, rv⟩ := Reps.get h3 hd
    refine ⟨⟨xs, v, SqL.of h2, hv⟩, ?_⟩
    rintro w H' ⟨rfl, q⟩
    have := q xs (SqL.of h2)
    rw [hv] at this
    cases this
    exact ⟨Ext.refl, m, rv⟩
  stop := fun al1 H1 mu e m g => by
    rw [hK]
    obtain ⟨b, xs, h1, h2, h3⟩ := m.ok j _ g
    rw [ext_at e ha] at h1
    cases h1
    exact ⟨xs, SqL.of h2, by rw [h3.length]; exact Nat.le_refl _⟩
theorem i_seq {l : Expr} {m : SemE} (hK : X.K = k.K) (hl : PE X l (tD k m)) : PI X tg l (tDI k (sIt m)) := by
  refine ⟨fun pins s σ H R I q => ?_⟩
  obtain ⟨al, en, mu, Q, st, q, kk⟩ := q
  have hr : tD k m σ H (fun x H1 => ∃ a, x = .ref a ∧ ((∃ xs, SqL X.K H1 a xs ∧ R (Itl X.K a) H1) ∨ ∃ xs, SqT X.K H1 a xs ∧ R (Itt X.K a) H1)) := by
    refine ⟨al, en, mu, _, st, q, fun v H1 al1 b mu1 e1 st1 r1 q1 => ?_⟩
    split at q1
    · obtain ⟨a, xs, h1, h2, h3⟩ := r1
      exact ⟨a, h1, .inl ⟨xs, by rw [hK]; exact h2.sq, kk _ H1 al1 _ _ mu1 e1 st1 (wk_L hK h2 h3) q1⟩⟩
    · obtain ⟨a, xs, h1, h2, h3⟩ := r1
      exact ⟨a, h1, .inr ⟨xs, by rw [hK]; exact h2.sq, kk _ H1 al1 _ _ mu1 e1 st1 (wk_T hK h2 h3) q1⟩⟩
    · rename_i j
      obtain ⟨a, h1, h2⟩ := r1
      split at q1
      · rename_i ds hds
        obtain ⟨b, xs, h4, h5, h6⟩ := st1.mu.ok j _ hds
        rw [h1] at h4
        cases h4
        exact ⟨a, h2, .inl ⟨xs, SqL.of h5, kk _ H1 al1 _ _ mu1 e1 st1 (wk_O hK h1) q1⟩⟩
      · exact q1.elim
    · exact q1.elim
  refine thn (hl.run pins s σ H _ I hr) fun v s1 ⟨x, H1, I1, r1, a, e, q1⟩ => ?_
  subst e
  cases r1
  exact iter_sq I1 q1
/-! ranges -/
def rngD (lo : Int) (n : Nat) : List D := (List.range n).map fun (i : Nat) => .int (lo + (i : Int))
theorem wk_R {al : AL} {H : Hp} {lo : Int} {n : Nat} : Wk k (Itr lo n) (rngD lo n) (fun _ => True) al H where
  go := fun al1 H1 mu i d e m _ hd => by
    unfold rngD at hd
    rw [List.getElem?_map] at hd
    cases q : (List.range n)[i]? with
    | none =>
      rw [q] at hd
      cases hd
    | some j =>
      rw [q] at hd
      cases hd
      have hi := (List.getElem?_eq_some_iff.mp q).1
      rw [List.length_range] at hi
      rw [List.getElem?_range hi] at q
      cases q
      refine ⟨hi, ?_⟩
      rintro v H' ⟨rfl, rfl⟩
      exact ⟨Ext.refl, m, rfl⟩
  stop := fun al1 H1 mu e m _ => by
    show n ≤ (rngD lo n).length
    unfold rngD
    rw [List.length_map, List.length_range]
    exact Nat.le_refl _
def sRng1 (m : SemE) : SemI := fun en mu Q => m en mu fun b mu1 => match b with
  | .dat (.int j) => (-(2 ^ 62) ≤ j ∧ j < 2 ^ 62) ∧ Q (rngD 0 j.toNat) (fun _ => True) mu1
  | _ => False
def sRng2 (m n : SemE) : SemI := fun en mu Q => m en mu fun b mu1 => n en mu1 fun c mu2 => match b, c with
  | .dat (.int i), .dat (.int j) => (-(2 ^ 62) ≤ i ∧ i < 2 ^ 62 ∧ -(2 ^ 62) ≤ j ∧ j < 2 ^ 62) ∧ Q (rngD i (j - i).toNat) (fun _ => True) mu2
  | _, _ => False
variable {mm : SemA}
theorem i_range1 {a : Expr} {m : SemE} {p pos : Pos} (hg : Gl X "range") (hm : X.mg "range" = none) (ha : PE X a (tD k m)) (hs : starEach [a] X.env = [(false, eval a X.env)] := by rfl) : PI X tg (.Call (.Name "range" p) [a] [] pos) (tDI k (sRng1 m)) :=
  pi_imp (pi_range1 hg hm (a_cons ha a_nil hs) hs) fun σ H R q => by
    obtain ⟨al, en, mu, Q, st, q, kk⟩ := q
    refine ⟨al, en, mu, (fun bs mu1 => match bs with
      | [b] => (match b with
        | .dat (.int j) => (-(2 ^ 62) ≤ j ∧ j < 2 ^ 62) ∧ Q (rngD 0 j.toNat) (fun _ => True) mu1
        | _ => False)
      | _ => False), st, q, fun vs H1 al1 bs mu1 e1 st1 r1 q1 => ?_⟩
    dsimp only at q1
    split at q1
    · split at q1
      · rename_i j
        obtain ⟨x, rr, h1, h2, h3⟩ := r1
        have h4 : x = .int j := h2
        have h5 : rr = [] := h3
        subst h4 h5
        exact ⟨j, h1, q1.1.1, q1.1.2, kk _ H1 al1 _ _ mu1 e1 st1 wk_R q1.2⟩
      · exact q1.elim
    · exact q1.elim
theorem i_range2 {a b : Expr} {m n : SemE} {p pos : Pos} (hg : Gl X "range") (hm : X.mg "range" = none) (ha : PE X a (tD k m)) (hb : PE X b (tD k n)) (hs : starEach [a, b] X.env = [(false, eval a X.env), (false, eval b X.env)] := by rfl) (hs2 : starEach [b] X.env = [(false, eval b X.env)] := by rfl) : PI X tg (.Call (.Name "range" p) [a, b] [] pos) (tDI k (sRng2 m n)) :=
  pi_imp (pi_range2 hg hm (a_cons ha (a_cons hb a_nil hs2) (by rw [hs, hs2])) hs hs2) fun σ H R q => by
    obtain ⟨al, en, mu, Q, st, q, kk⟩ := q
    refine ⟨al, en, mu, (fun bs mu1 => match bs with
      | [b, c] => (match b, c with
        | .dat (.int i), .dat (.int j) => (-(2 ^ 62) ≤ i ∧ i < 2 ^ 62 ∧ -(2 ^ 62) ≤ j ∧ j < 2 ^ 62) ∧ Q (rngD i (j - i).toNat) (fun _ => True) mu1
        | _, _ => False)
      | _ => False), st, q, fun vs H1 al1 bs mu1 e1 st1 r1 q1 => ?_⟩
    dsimp only at q1
    split at q1
    · split at q1
      · rename_i i j
        obtain ⟨x, rr, h1, h2, y, rr2, h3, h4, h5⟩ := r1
        have h6 : x = .int i := h2
        have h7 : y = .int j := h4
        have h8 : rr2 = [] := h5
        subst h6 h7 h8 h3
        exact ⟨i, j, h1, q1.1, kk _ H1 al1 _ _ mu1 e1 st1 wk_R q1.2⟩
      · exact q1.elim
    · exact q1.elim
variable {mm : SemA}
/-! zip of two lists, of two tuples -/
def zipD : List D → List D → List D
  | a :: as, b :: bs => .tuple [a, b] :: zipD as bs
  | _, _ => []
theorem zipD_get : ∀ {as bs : List D} {i : Nat} {d : D}, (zipD as bs)[i]? = some d → ∃ a b, as[i]? = some a ∧ bs[i]? = some b ∧ d = .tuple [a, b]
  | [], _, i, d, h => by
    unfold zipD at h
    cases h
  | a :: as, [], i, d, h => by
    unfold zipD at h
    cases h
  | a :: as, b :: bs, 0, d, h => by
    unfold zipD at h
    rw [List.getElem?_cons_zero] at h
    cases h
    exact ⟨a, b, rfl, rfl, rfl⟩
  | a :: as, b :: bs, i + 1, d, h => by
    unfold zipD at h
    rw [List.getElem?_cons_succ] at h
    rw [List.getElem?_cons_succ, List.getElem?_cons_succ]
    exact zipD_get h
theorem zipD_length : ∀ {as bs : List D}, (zipD as bs).length = min as.length bs.length
  | [], bs => by
    unfold zipD
    simp
  | a :: as, [] => by
    unfold zipD
    simp
  | a :: as, b :: bs => by
    unfold zipD
    rw [List.length_cons, List.length_cons, List.length_cons, zipD_length]
    omega
def sZip (mm : SemA) : SemI := fun en mu Q => mm en mu fun bs mu1 => match bs with
  | [.dat (.list ds), .dat (.list es)] => Q (zipD ds es) (fun _ => True) mu1
  | [.dat (.tuple ds), .dat (.tuple es)] => Q (zipD ds es) (fun _ => True) mu1
  | _ => False
theorem pair_new {al : AL} {H : Hp} {mu : Mu} {p : Addr} {x y : V} {a b : D} (m : MuOk k.K k.DK al H mu) (n : H p = none) (ra : Rep k.K al H a x) (rb : Rep k.K al H b y) :
    Ext al H al (upd H p (.tup [x, y])) ∧ MuOk k.K k.DK al (upd H p (.tup [x, y])) mu ∧ Rep k.K al (upd H p (.tup [x, y])) (.tuple [a, b]) (.ref p) := by
  obtain ⟨e, m'⟩ := m.newF (o := .tup [x, y]) n
  exact ⟨e, m', p, [x, y], rfl, .inl ⟨.inl upd_same, m.free n⟩, x, [y], rfl, Rep.ext e _ _ ra, y, [], rfl, Rep.ext e _ _ rb, rfl⟩
theorem wk_ZL {al : AL} {H : Hp} {a b : Addr} {xs ys : List V} {ds es : List D} (hK : X.K = k.K) (h : FzL k.K al H a xs) (h' : FzL k.K al H b ys) (r : Reps k.K al H ds xs) (r' : Reps k.K al H es ys) : Wk k (Itz X.K a b) (zipD ds es) (fun _ => True) al H where
  go := fun al1 H1 mu i d e m _ hd => by
    rw [hK]
    obtain ⟨u, v, hu, hv, rfl⟩ := zipD_get hd
    obtain ⟨x, hx, rx⟩ := Reps.get (Reps.ext e _ _ r) hu
    obtain ⟨y, hy, ry⟩ := Reps.get (Reps.ext e _ _ r') hv
    refine ⟨⟨xs, ys, x, y, (e.fzL h).sq, (e.fzL h').sq, hx, hy⟩, ?_⟩
    rintro w H' ⟨T, x', y', rfl, hT, rfl, f1, f2⟩
    have e1 := f1 xs (e.fzL h).sq
    have e2 := f2 ys (e.fzL h').sq
    rw [hx] at e1
    rw [hy] at e2
    cases e1
    cases e2
    exact pair_new m hT rx ry
  stop := fun al1 H1 mu e m _ => by
    rw [hK]
    refine ⟨xs, ys, (e.fzL h).sq, (e.fzL h').sq, ?_⟩
    rw [zipD_length, r.length, r'.length]
    omega
theorem wk_ZT {al : AL} {H : Hp} {a b : Addr} {xs ys : List V} {ds es : List D} (hK : X.K = k.K) (h : FzT k.K al H a xs) (h' : FzT k.K al H b ys) (r : Reps k.K al H ds xs) (r' : Reps k.K al H es ys) : Wk k (RZ.ItzT X.K a b) (zipD ds es) (fun _ => True) al H where
  go := fun al1 H1 mu i d e m _ hd => by
    rw [hK]
    obtain ⟨u, v, hu, hv, rfl⟩ := zipD_get hd
    obtain ⟨x, hx, rx⟩ := Reps.get (Reps.ext e _ _ r) hu
    obtain ⟨y, hy, ry⟩ := Reps.get (Reps.ext e _ _ r') hv
    refine ⟨⟨xs, ys, x, y, (e.fzT h).sq, (e.fzT h').sq, hx, hy⟩, ?_⟩
    rintro w H' ⟨T, x', y', rfl, hT, rfl, f1, f2⟩
    have e1 := f1 xs (e.fzT h).sq
    have e2 := f2 ys (e.fzT h').sq
    rw [hx] at e1
    rw [hy] at e2
    cases e1
    cases e2
    exact pair_new m hT rx ry
  stop := fun al1 H1 mu e m _ => by
    rw [hK]
    refine ⟨xs, ys, (e.fzT h).sq, (e.fzT h').sq, ?_⟩
    rw [zipD_length, r.length, r'.length]
    omega
theorem i_zip {e e2 : Expr} {p pos tpos : Pos} {elts : List Expr} {kk : Nat} (hK : X.K = k.K) (hg : Gl X "zip") (hm : X.mg "zip" = none) (ha : PA X [e, e2] (tDA k mm))
    (hs : starEach [e, e2] X.env = (false, eval e X.env) :: starEach [e2] X.env := by rfl) (hpl : (backTo pos (starEach [e2] X.env)).any (·.1) = false := by rfl) :
    PI X (.Tuple elts kk tpos) (.Call (.Name "zip" p) [e, e2] [] pos) (tDI k (sZip mm)) :=
  pi_imp (RZ.pi_zipA hg hm ha hs hpl) fun σ H R q => by
    obtain ⟨al, en, mu, Q, st, q, kk⟩ := q
    refine ⟨al, en, mu, _, st, q, fun vs H1 al1 bs mu1 e1 st1 r1 q1 => ?_⟩
    split at q1
    · obtain ⟨x, rr, h1, ⟨a, xs, g1, g2, g3⟩, y, rr2, h3, ⟨b, ys, g4, g5, g6⟩, h5⟩ := r1
      have h8 : rr2 = [] := h5
      subst h8 h3 g1 g4
      exact ⟨a, b, xs, ys, h1, .inl ⟨by rw [hK]; exact g2.sq, by rw [hK]; exact g5.sq, kk _ H1 al1 _ _ mu1 e1 st1 (wk_ZL hK g2 g5 g3 g6) q1⟩⟩
    · obtain ⟨x, rr, h1, ⟨a, xs, g1, g2, g3⟩, y, rr2, h3, ⟨b, ys, g4, g5, g6⟩, h5⟩ := r1
      have h8 : rr2 = [] := h5
      subst h8 h3 g1 g4
      exact ⟨a, b, xs, ys, h1, .inr ⟨by rw [hK]; exact g2.sq, by rw [hK]; exact g5.sq, kk _ H1 al1 _ _ mu1 e1 st1 (wk_ZT hK g2 g5 g3 g6) q1⟩⟩
    · exact q1.elim

/-! ### for -/
def loopD (g : SemG) (w : SemS) (D : DEnds) (gm : Mu → Prop) : List PyData → En → Mu → Prop
  | [], en, mu => gm mu ∧ D.nx en mu
  | d :: ds, en, mu => gm mu ∧ g (.dat d) en mu fun en' mu' => w { D with nx := loopD g w D gm ds, ct := loopD g w D gm ds, bk := D.nx } en' mu'
def sFor (m : SemI) (g : SemG) (w : SemS) : SemS := fun D en mu => m en mu fun ds gm mu1 => loopD g w D gm ds en mu1
theorem s_for {iter : Expr} {body : List Stmt} {m : SemI} {g : SemG} {w : SemS} {ix : List Nat} {pos : Pos} (hp : PassesOwn (model X.prog X.w) X.A X.env X.xe) (hc : X.calm = true) (hi : PI X tg iter (tDI k m)) (hg : PG X tg (tDG k ix g)) (hb : PSs X body (tDS k w))
    (hs : ∀ x, foldedSetIterable iter X.env x = pure x := by intro _; rfl) : PS X (.For tg iter body [] pos) (tDS k (sFor m g w)) :=
  ps_imp (ps_for hp hc hi hg hb hs) fun E σ H q => by
    obtain ⟨al0, H0, al, en, mu, D, e0, st, q, f⟩ := q
    refine ⟨al, en, mu, _, st, q, fun J H1 al1 ds gm mu1 e1 st1 wk q1 => ?_⟩
    have e01 := e0.trans e1
    refine ⟨fun i n σ' H' => i ≤ ds.length ∧ n = ds.length - i ∧ ∃ al en mu, Ext al1 H1 al H' ∧ Stt k.K k.DK al σ' H' en mu ∧ loopD g w D gm (ds.drop i) en mu, ⟨ds.length, Nat.zero_le _, rfl, al1, en, mu1, Ext.refl, st1, q1⟩, ?_⟩
    rintro i n σ' H' ⟨hi, hn, al2, en2, mu2, e2, st2, q2⟩
    by_cases hlt : i < ds.length
    · have hd : ds[i]? = some ds[i] := List.getElem?_eq_getElem hlt
      rw [List.drop_eq_getElem_cons hlt] at q2
      obtain ⟨g1, q2⟩ := q2
      obtain ⟨go, yld⟩ := wk.go al2 H' mu2 i ds[i] e2 st2.mu g1 hd
      refine .inr ⟨go, fun σ' H' => ∃ al en mu, Ext al1 H1 al H' ∧ Stt k.K k.DK al σ' H' en mu ∧ loopD g w D gm (ds.drop (i + 1)) en mu, ?_, ?_⟩
      · rintro σ3 H3 ⟨al3, en3, mu3, e3, st3, q3⟩
        exact ⟨ds.length - (i + 1), by omega, hlt, rfl, al3, en3, mu3, e3, st3, q3⟩
      · intro x H3 y
        obtain ⟨e3, m3, r3⟩ := yld x H3 y
        refine ⟨al2, en2, mu2, .dat ds[i], _, st2.ext e3 m3, r3, q2, fun al4 σ4 H4 en4 mu4 e4 st4 _ q4 => ?_⟩
        have e14 := (e2.trans e3).trans e4
        exact ⟨al1, H1, al4, en4, mu4, _, e14, st4, q4, ⟨fun al σ H en mu e s q => ⟨al, en, mu, e, s, q⟩, fun al v H b mu e m r q => f.rt al v H b mu (e01.trans e) m r q,
          fun al σ H en mu e s q => f.nx al σ H en mu (e01.trans e) s q, fun al σ H en mu e s q => ⟨al, en, mu, e, s, q⟩⟩⟩
    · have e : i = ds.length := by omega
      subst e
      rw [List.drop_length] at q2
      exact .inl ⟨wk.stop al2 H' mu2 e2 st2.mu q2.1, f.nx al2 σ' H' en2 mu2 (e01.trans e2) st2 q2.2⟩

/-! ### comprehensions -/
theorem In.blk {P : Program} {w : World} {mg : Str → Option Value} {base : Heap} {r : Nat} (C : In k X P w mg base r) (s : Shared) (H : Hp) (sc : Scope) (env : Env) (fp : List Addr) : In k (X.blk s H sc env fp) P w mg base r :=
  ⟨C.hP, C.hw, C.hK, C.hmg, C.hb, C.room, C.gd, C.calm⟩
def sYes : SemT := fun _ mu Q => Q true mu
theorem ts_nil : PTs X [] (tDT k sYes) := ⟨fun pins s σ H Q I q => pts_nil.run pins s σ H Q I (by
  obtain ⟨al, en, mu, Q, st, q, kk⟩ := q
  exact kk true H al mu Ext.refl st q)⟩
theorem ts_one {c : Expr} {t : SemT} (h : PT X c (tDT k t)) : PTs X [c] (tDT k t) := pts_one h
def compD (g : SemG) (t : SemT) (m : SemE) (en : En) (gm : Mu → Prop) (Q : B → Mu → Prop) : List PyData → List PyData → Mu → Prop
  | [], acc, mu => gm (mu ++ [.lst acc]) ∧ Q (.dat (.list acc)) mu
  | d :: ds, acc, mu => gm (mu ++ [.lst acc]) ∧ g (.dat d) en (mu ++ [.lst acc]) fun en2 mu2 => t en2 mu2 fun c mu3 =>
    if c = true then m en2 mu3 fun b mu4 => match b with
      | .dat y => mu4[mu.length]? = some (.lst acc) ∧ acc.length < sizeLine ∧ compD g t m en gm Q ds (acc ++ [y]) (mu4.take mu.length)
      | _ => False
    else mu3[mu.length]? = some (.lst acc) ∧ compD g t m en gm Q ds acc (mu3.take mu.length)
def wipeE (en : En) : List Nat → En
  | [] => en
  | i :: is => (wipeE en is).set i none
def sComp (i : SemI) (g : SemG) (t : SemT) (m : SemE) (vs : List Nat) : SemE := fun en mu Q => i en mu fun ds gm mu1 => compD g t m (wipeE en vs) gm Q ds [] mu1
theorem Stt.wipe1 {al : AL} {σ : L2.St} {H : Hp} {en : En} {mu : Mu} (i : Nat) (s : Stt k.K k.DK al σ H en mu) : Stt k.K k.DK al (σ.set i none) H (en.set i none) mu := by
  refine ⟨s.mu, by rw [List.length_set, List.length_set]; exact s.len, fun j c q => ?_⟩
  by_cases h : i = j
  · subst h
    by_cases hl : i < en.length
    · rw [List.getElem?_set_self hl] at q
      cases q
    · rw [List.getElem?_eq_none (by rw [List.length_set]; omega)] at q
      cases q
  · rw [List.getElem?_set_ne h] at q
    obtain ⟨w, h1, h2⟩ := s.sl j c q
    exact ⟨w, by rw [List.getElem?_set_ne h]; exact h1, h2⟩
theorem Stt.wipes {al : AL} {σ : L2.St} {H : Hp} {en : En} {mu : Mu} (s : Stt k.K k.DK al σ H en mu) : ∀ vs : List Nat, Stt k.K k.DK al (wipe σ vs) H (wipeE en vs) mu
  | [] => s
  | i :: is => (Stt.wipes s is).wipe1 i
/-- an own list is changed -/
theorem MuOk.setL {K : PySem.W.Frag} {DK : Addr → HO → HO → Prop} {al : AL} {H : Hp} {mu : Mu} {j : Nat} {a : Addr} {xs : List V} {ds es : List D} (m : MuOk K DK al H mu) (ha : al[j]? = some (some a)) (hm : mu[j]? = some (.lst ds)) (r : Reps K al H es xs) :
    Ext al H al (upd H a (.lst xs)) ∧ MuOk K DK al (upd H a (.lst xs)) (mu.set j (.lst es)) := by
  have mem := List.mem_of_getElem? ha
  have e : Ext al H al (upd H a (.lst xs)) := ⟨⟨[], by simp, by simp⟩, fun b o q n => by rw [upd_ne (fun z => n (by rw [z]; exact mem))]; exact q⟩
  have hj : j < mu.length := (List.getElem?_eq_some_iff.mp hm).1
  have hdk : ∀ i l, i ≠ j → (mu.set j (.lst es))[i]? = some (.deck l) → l ≠ j ∧ mu[l]? = some .hid := fun i l hi q => by
    rw [List.getElem?_set_ne (Ne.symm hi)] at q
    have z := m.hd i l q
    refine ⟨fun w => ?_, z⟩
    rw [w, hm] at z
    cases z
  refine ⟨e, ⟨by rw [List.length_set]; exact m.len, m.nd, fun i x q => ?_, fun i l q => ?_⟩⟩
  rotate_left
  · by_cases h : i = j
    · subst h
      rw [List.getElem?_set_self hj] at q
      cases q
    · obtain ⟨h1, h2⟩ := hdk i l h q
      rw [List.getElem?_set_ne (Ne.symm h1)]
      exact h2
  by_cases h : j = i
  · subst h
    rw [List.getElem?_set_self hj] at q
    cases q
    exact ⟨a, xs, ha, upd_same, Reps.ext e _ _ r⟩
  · rw [List.getElem?_set_ne h] at q
    have z := m.ok i x q
    have ne : ∀ b, al[i]? = some (some b) → b ≠ a := fun b hb w => h (m.nd j i a ha (by rw [← w]; exact hb))
    cases x with
    | lst fs =>
      obtain ⟨b, ys, h1, h2, h3⟩ := z
      exact ⟨b, ys, h1, by rw [upd_ne (ne b h1)]; exact h2, Reps.ext e _ _ h3⟩
    | deck l =>
      obtain ⟨h0, b, c, o, u, h1, h2, h3, h4, h5⟩ := z
      have hc : c ≠ a := fun w => by
        have el : j = l := m.nd j l a ha (by rw [← w]; exact h2)
        subst el
        have z := m.hd i j q
        rw [hm] at z
        cases z
      exact ⟨h0, b, c, o, u, h1, h2, by rw [upd_ne (ne b h1)]; exact h3, by rw [upd_ne hc]; exact h4, h5⟩
    | hid =>
      obtain ⟨b, o, h1, h2⟩ := z
      exact ⟨b, o, h1, by rw [upd_ne (ne b h1)]; exact h2⟩
    | dead => exact z
theorem take_set {α : Type} {l : List α} {n : Nat} {x y : α} (h : l[n]? = some x) : (l.take (n + 1)).set n y = l.take n ++ [y] := by
  have hn := (List.getElem?_eq_some_iff.mp h).1
  rw [List.take_add_one, h]
  have e : n = (l.take n).length := by rw [List.length_take]; omega
  show (l.take n ++ [x]).set n y = _
  rw [List.set_append_right _ _ (by omega)]
  have : n - (l.take n).length = 0 := by omega
  rw [this]
  rfl
theorem d_comp {elt iter : Expr} {ifs : List Expr} {scope : Scope} {own : List (Str × Nat)} {pos : Pos} {i : SemI} {g : SemG} {t : SemT} {m : SemE} (hc : X.calm = true) (hN : X.N.Nodup) (hi : PI X tg iter (tDI k i)) (ok : BlkOk X.N X.env.scope scope own)
    (hg : ∀ (s : Shared) (H : Hp) (C : Addr) (cl : List (Str × Addr)) (fp : List Addr), PG (X.blk s H scope (compEnvC scope cl C X.env) fp) tg (tDG k (own.map (·.2)) g))
    (ht : ∀ (s : Shared) (H : Hp) (C : Addr) (cl : List (Str × Addr)) (fp : List Addr), PTs (X.blk s H scope (compEnvC scope cl C X.env) fp) ifs (tDT k t))
    (he : ∀ (s : Shared) (H : Hp) (C : Addr) (cl : List (Str × Addr)) (fp : List Addr), PE (X.blk s H scope (compEnvC scope cl C X.env) fp) elt (tD k m)) (hs : ∀ x, foldedSetIterable iter X.env x = pure x := by intro _; rfl) :
    PE X (.ListComp elt [⟨tg, iter, ifs, 0⟩] scope pos) (tD k (sComp i g t m (own.map (·.2)))) :=
  pe_imp (pe_lc hc hN hi ok hg ht he hs) fun σ H Q' q => by
    generalize own.map (·.2) = vs at q ⊢
    obtain ⟨al, en, mu, Q, st, q, kk⟩ := q
    refine ⟨al, en, mu, _, st, q, fun J H1 al1 ds gm mu1 e1 st1 wk q1 => fun Dd hD => ?_⟩
    have nD := st1.mu.free hD
    have hal : al1.length = mu1.length := st1.mu.len
    have m0 := (st1.mu.newO (xs := []) (ds := []) hD rfl).2
    have x0 := (st1.mu.newF (o := .lst []) hD).1
    refine ⟨fun i n H' => i ≤ ds.length ∧ n = ds.length - i ∧ ∃ mu' acc, Ext al1 H1 al1 H' ∧ MuOk k.K k.DK (al1 ++ [some Dd]) H' (mu' ++ [.lst acc]) ∧ compD g t m (wipeE en vs) gm Q (ds.drop i) acc mu', ⟨ds.length, Nat.zero_le _, rfl, mu1, [], x0, m0, q1⟩, ?_⟩
    rintro i n H' ⟨hi, hn, mu', acc, e2, m2, q2⟩
    have hl : mu'.length = al1.length := by
      have := m2.len
      rw [List.length_append, List.length_append] at this
      simp only [List.length_cons, List.length_nil] at this
      omega
    have m2l : MuOk k.K k.DK al1 H' mu' := by
      have := m2.less
      rw [List.take_left' hl] at this
      exact this
    have e2x : Ext al1 H1 (al1 ++ [some Dd]) H' := ⟨⟨[some Dd], rfl, fun a z => by
      have e : a = Dd := by simpa using z
      subst e
      exact ⟨nD, hD⟩⟩, e2.keep⟩
    have atD : (al1 ++ [some Dd])[al1.length]? = some (some Dd) := by simp
    have last : (mu' ++ [MO.lst acc])[al1.length]? = some (.lst acc) := by rw [← hl]; simp
    by_cases hlt : i < ds.length
    · have hd : ds[i]? = some ds[i] := List.getElem?_eq_getElem hlt
      rw [List.drop_eq_getElem_cons hlt] at q2
      obtain ⟨g1, q2⟩ := q2
      obtain ⟨go, yld⟩ := wk.go _ H' _ i ds[i] e2x m2 g1 hd
      refine .inr ⟨go, fun H' => ∃ mu' acc, Ext al1 H1 al1 H' ∧ MuOk k.K k.DK (al1 ++ [some Dd]) H' (mu' ++ [.lst acc]) ∧ compD g t m (wipeE en vs) gm Q (ds.drop (i + 1)) acc mu', ?_, ?_⟩
      · rintro H3 ⟨mu3, acc3, e3, m3, q3⟩
        exact ⟨ds.length - (i + 1), by omega, hlt, rfl, mu3, acc3, e3, m3, q3⟩
      · intro x H3 y
        obtain ⟨e3, m3, r3⟩ := yld x H3 y
        have st3 : Stt k.K k.DK (al1 ++ [some Dd]) (wipe σ vs) H3 (wipeE en vs) (mu' ++ [.lst acc]) := (st1.ext (e2x.trans e3) m3).wipes vs
        refine ⟨_, _, _, .dat ds[i], _, st3, r3, q2, fun al4 σ4 H4 en4 mu4 e4 st4 agr q4 => ⟨agr.wipe, ?_⟩⟩
        refine ⟨al4, en4, mu4, _, st4, q4, fun c H5 al5 mu5 e5 st5 q5 => ?_⟩
        -- what holds at the end of a turn
        have fin : ∀ al6 H6 mu6, Ext al4 H4 al6 H6 → MuOk k.K k.DK al6 H6 mu6 → mu6[mu'.length]? = some (.lst acc) → ∃ xs, H6 Dd = some (.lst xs) ∧ Reps k.K al6 H6 acc xs ∧ Ext al1 H1 al1 H6 ∧ MuOk k.K k.DK (al1 ++ [some Dd]) H6 (mu6.take mu'.length ++ [.lst acc]) ∧
            ∀ d v, Rep k.K al6 H6 d v → Ext al1 H1 al1 (upd H6 Dd (.lst (xs ++ [v]))) ∧ MuOk k.K k.DK (al1 ++ [some Dd]) (upd H6 Dd (.lst (xs ++ [v]))) (mu6.take mu'.length ++ [.lst (acc ++ [d])]) := by
          intro al6 H6 mu6 e6 m6 hm
          have ex := (e3.trans e4).trans e6
          obtain ⟨be, rfl, _⟩ := ex.pre
          have at6 := ext_at ex atD
          obtain ⟨a, xs, g1, g2, g3⟩ := m6.ok _ _ hm
          rw [hl, at6] at g1
          cases g1
          have m6l := m6.less
          rw [List.length_append, List.length_singleton] at m6l
          have e1n : al1.length + 1 = mu'.length + 1 := by omega
          rw [e1n] at m6l
          have m6l2 := m6l
          rw [List.take_add_one, hm] at m6l2
          have ex1 : Ext al1 H1 al1 H6 := (e2x.trans ex).less
          refine ⟨xs, g2, g3, ex1, m6l2, fun d v rv => ?_⟩
          have hm2 : (mu6.take (mu'.length + 1))[mu'.length]? = some (.lst acc) := by rw [List.getElem?_take_of_lt (Nat.lt_succ_self _)]; exact hm
          have g4 : Reps k.K (al1 ++ [some Dd]) H6 (acc ++ [d]) (xs ++ [v]) := Reps.app (Reps.less _ _ g3) (Reps.one (Rep.less _ _ rv))
          obtain ⟨ez, mz⟩ := m6l.setL (by rw [hl]; exact atD) hm2 g4
          rw [take_set hm] at mz
          refine ⟨⟨⟨[], by simp, by simp⟩, fun b o q n => ?_⟩, mz⟩
          rw [upd_ne (ne_of_none q hD)]
          exact ex1.keep b o q n
        dsimp only
        split
        · rename_i hc
          rw [if_pos hc] at q5
          refine ⟨al5, en4, mu5, _, st5, q5, fun v H6 al6 b mu6 e6 st6 r6 q6 => ?_⟩
          cases b with
          | ref j => exact q6.elim
          | dat d =>
            obtain ⟨h1, h2, h3⟩ := q6
            obtain ⟨xs, f1, f2, _, _, f3⟩ := fin al6 H6 mu6 (e5.trans e6) st6.mu h1
            obtain ⟨f4, f5⟩ := f3 d v r6
            exact ⟨xs, f1, by rw [f2.length]; exact h2, _, _, f4, f5, h3⟩
        · rename_i hc
          rw [if_neg hc] at q5
          obtain ⟨xs, f1, f2, f3, f4, _⟩ := fin al5 H5 mu5 e5 st5.mu q5.1
          exact ⟨_, _, f3, f4, q5.2⟩
    · have e : i = ds.length := by omega
      subst e
      rw [List.drop_length] at q2
      obtain ⟨g1, q2⟩ := q2
      obtain ⟨a, xs, h1, h2, h3⟩ := m2.ok _ _ last
      rw [atD] at h1
      cases h1
      exact .inl ⟨wk.stop _ H' _ e2x m2 g1, kk _ H' al1 (.dat (.list acc)) mu' (e1.trans e2) (st1.ext e2 m2l) ⟨Dd, xs, rfl, .inl ⟨.inl h2, nD⟩, Reps.less _ _ h3⟩ q2⟩
end
end DL

set_option Elab.async false
set_option linter.all false
set_option maxRecDepth 100000
set_option maxHeartbeats 4000000
namespace DL
open PySem L2

/-! ### a def's body keeps its promise -/
/-- what is handed back: own objects made within are dropped -/
def retK (n : Nat) (R : B → Mu → Prop) : B → Mu → Prop := fun b mu => match b with
  | .dat d => R (.dat d) (mu.take n)
  | .ref j => j < n ∧ R (.ref j) (mu.take n)
def fnEnds (n : Nat) (R : B → Mu → Prop) : DEnds := ⟨fun _ mu => R (.dat .none) (mu.take n), retK n R, fun _ _ => False, fun _ _ => False⟩
def startE (N : Nat) (bs : List B) : En := bs.map some ++ List.replicate (N - bs.length) none
theorem startE_eq (N : Nat) (bs : List B) : startE N bs = bs.map some ++ List.replicate (N - bs.length) none := rfl
abbrev bodyCx (k : Kit) (P : Program) (w : World) (mg : Str → Option Value) (base : Heap) (N : List Str) (x : Str) (st : Stmt) (f : Addr) (cdv : Value) (A : Around) (outer : List Env) (s : Shared) (H : Hp) (E : XK) : Cx :=
  (cxOf CX0 P w k.K mg base N x (defScope st) f cdv A outer s H E).nox
section
variable {k : Kit} {P : Program} {w : World} {mg : Str → Option Value} {base : Heap} {r : Nat} {x : Str} {st : Stmt} {f : Addr} {fd : FuncData} {N ps : List Str} {d : DSp} {ws : SemS}
theorem start_get {al : AL} {H : Hp} : ∀ {bs : List B} {vs : List V} {n : Nat} {i : Nat} {b : B}, RepBs k.K al H bs vs → (bs.map some ++ List.replicate n (none : Option B))[i]? = some (some b) → ∃ v, (vs.map some ++ List.replicate n (none : Option V))[i]? = some (some v) ∧ RepB k.K al H b v
  | [], vs, n, i, b, h, e => by
    rw [List.map_nil, List.nil_append] at e
    have := List.mem_of_getElem? e
    have z := (List.mem_replicate.mp this).2
    cases z
  | c :: bs, vs, n, 0, b, h, e => by
    obtain ⟨y, rr, h1, h2, h3⟩ := h
    rw [List.map_cons, List.cons_append, List.getElem?_cons_zero] at e
    cases e
    exact ⟨y, by rw [h1] <;> rfl, h2⟩
  | c :: bs, vs, n, i + 1, b, h, e => by
    obtain ⟨y, rr, h1, h2, h3⟩ := h
    rw [List.map_cons, List.cons_append, List.getElem?_cons_succ] at e
    obtain ⟨v, g1, g2⟩ := start_get h3 e
    exact ⟨v, by rw [h1, List.map_cons, List.cons_append, List.getElem?_cons_succ]; exact g1, g2⟩
theorem fits_end {al : AL} {H : Hp} {mu : Mu} {R : B → Mu → Prop} {Q : VK} (m : MuOk k.K k.DK al H mu)
    (kk : ∀ v H' al' b mu', Ext al H al' H' → MuOk k.K k.DK al' H' mu' → RepB k.K al' H' b v → R b mu' → Q v H') : Fits k al H (fnEnds mu.length R) { nx := fun _ H' => Q .non H', rt := Q } := by
  have key : ∀ al' v H' b mu', Ext al H al' H' → MuOk k.K k.DK al' H' mu' → RepB k.K al' H' b v → retK mu.length R b mu' → Q v H' := fun al' v H' b mu' e m' rb q => by
    obtain ⟨be, rfl, hb⟩ := id e.pre
    have ml := m'.less
    rw [m.len] at ml
    cases b with
    | dat d => exact kk v H' al (.dat d) _ e.less ml (Rep.less d v rb) q
    | ref j =>
      obtain ⟨a, h1, h2⟩ := rb
      refine kk v H' al (.ref j) _ e.less ml ⟨a, ?_, h2⟩ q.2
      rw [List.getElem?_append_left (by rw [m.len]; exact q.1)] at h1
      exact h1
  exact ⟨fun al' σ H' en mu' e s q => key al' .non H' (.dat .none) mu' e s.mu rfl q, key, fun _ _ _ _ _ _ _ q => q.elim, fun _ _ _ _ _ _ _ q => q.elim⟩
theorem fnD_raw (F : Fun k.K x x st f fd) (S : FnScope N ps (defScope st)) (len : ∀ bs mu R, d bs mu R → bs.length = ps.length)
    (hbody : ∀ (cdv : Value) (A : Around) (outer : List Env) (s : Shared) (H : Hp) (E : XK) (vs : List V) (Q : VK), In k (bodyCx k P w mg base N x st f cdv A outer s H E) P w mg base r → liftSp k d vs H Q E0 →
      ∃ t, PSs (bodyCx k P w mg base N x st f cdv A outer s H E) (defBody st) t ∧ t { nx := fun _ H' => Q .non H', rt := Q } (L2.start N vs) H) : FnD k P w mg base (r + 1) f fd ps d := by
  obtain ⟨oc, od, kV, doc, pm, an, cdv, ct, osl, rfl, lk, hcd⟩ := F.ex
  refine ⟨len, fun A outer s H args us vs Q hr hg e0 hb rv q => ?_⟩
  have KX : k.K.In s.heap := e0.mod.kin.keeps fun b o e => (e0.bs b o e).1
  have lim : s.heap.NoLimit := e0.mod.nolimit.keeps fun b o e => (e0.bs b o e).1
  have hl : vs.length = ps.length := liftSp_len len q
  have kinds : ∀ y ∈ ps.zip us, (defScope st).names.lookup y.1 = some .local ∨ ((defScope st).names.lookup y.1 = some .cell ∧ ((cellsFrom (s.heap.objs.size + 1) (defScope st).names []).lookup y.1).isSome = true) := by
    rintro ⟨n, v⟩ hy
    cases S.par n (List.of_mem_zip hy).1 with
    | inl z => exact .inl z
    | inr z => exact .inr ⟨z, PySem.W.cellsFrom_some _ _ _ (.inl z)⟩
  apply codeAny_call_function hr.depth (KX _ _ lk) rfl S.co S.gen rfl (PySem.W.codeRec_of KX hcd) (hb _ _ _ _ ?_)
  apply wpAny_newFunctionEnv_cells S.kind kinds
  intro env he s1 inc
  subst he
  refine ⟨lim.keeps inc.toInCall.keep, codeAny_func ?_⟩
  obtain ⟨t, hX, hq⟩ := hbody cdv A outer s H E0 vs Q ⟨rfl, rfl, rfl, rfl, rfl, hr.deeper _, hg, rfl⟩ q
  have I : Inv (bodyCx k P w mg base N x st f cdv A outer s H E0) [] (L2.start N vs) H s1 := (inv_start (CX := CX0) (E := E0) S hr.hd e0 hl rv inc).wish _
  refine wpAny_mono (hX.run [] s1 (L2.start N vs) H _ I hq) (fun fl s' hs => ?_) fun e s' hs => hs.elim
  cases fl
  case ret u =>
    obtain ⟨v, σ', H', J, r1, q1⟩ := hs
    exact ⟨v, H', J.os, J.bare, J.base, J.hok, r1, q1⟩
  case next =>
    obtain ⟨σ', H', J, q1⟩ := hs
    exact ⟨.non, H', J.os, J.bare, J.base, J.hok, rfl, q1⟩
  case brk => exact hs.elim fun _ h => h.elim fun _ h => h.2.elim
  case cont => exact hs.elim fun _ h => h.elim fun _ h => h.2.elim
theorem start_st {al : AL} {H : Hp} {bs : List B} {vs : List V} {mu : Mu} (rb : RepBs k.K al H bs vs) (mo : MuOk k.K k.DK al H mu) : Stt k.K k.DK al (L2.start N vs) H (startE N.length bs) mu := by
  refine ⟨mo, ?_, fun i b e => ?_⟩
  · unfold L2.start startE
    rw [List.length_append, List.length_append, List.length_map, List.length_map, List.length_replicate, List.length_replicate, rb.length]
  · unfold startE at e
    unfold L2.start
    rw [rb.length]
    exact start_get rb e
theorem fnD_of (F : Fun k.K x x st f fd) (S : FnScope N ps (defScope st)) (len : ∀ bs mu R, d bs mu R → bs.length = ps.length)
    (hbody : ∀ (cdv : Value) (A : Around) (outer : List Env) (s : Shared) (H : Hp) (E : XK), In k (bodyCx k P w mg base N x st f cdv A outer s H E) P w mg base r → PSs (bodyCx k P w mg base N x st f cdv A outer s H E) (defBody st) (tDS k ws))
    (hw : ∀ bs mu R, d bs mu R → ws (fnEnds mu.length R) (startE N.length bs) mu) : FnD k P w mg base (r + 1) f fd ps d :=
  fnD_raw F S len fun cdv A outer s H E vs Q C q => by
    obtain ⟨al, bs, mu, R, rb, mo, hd, kk⟩ := q
    exact ⟨_, hbody cdv A outer s H E C, ⟨al, H, al, _, mu, _, Ext.refl, start_st rb mo, hw bs mu R hd, fits_end mo kk⟩⟩
/-- .. by its name -/
structure Fn0 (k : Kit) (mg : Str → Option Value) (x : Str) (st : Stmt) (ps : List Str) : Prop where
  ex : ∃ f fd, Fun k.K x x st f fd ∧ mg x = some (.ref f) ∧ Binds k.K fd ps []
theorem fnIn_of (F : Fn0 k mg x st ps) (S : FnScope N ps (defScope st)) (len : ∀ bs mu R, d bs mu R → bs.length = ps.length)
    (h : ∃ ws : SemS, (∀ (f : Addr) (cdv : Value) (A : Around) (outer : List Env) (s : Shared) (H : Hp) (E : XK), In k (bodyCx k P w mg base N x st f cdv A outer s H E) P w mg base r → PSs (bodyCx k P w mg base N x st f cdv A outer s H E) (defBody st) (tDS k ws)) ∧
      ∀ bs mu R, d bs mu R → ws (fnEnds mu.length R) (startE N.length bs) mu) : FnIn k P w mg base (r + 1) x st ps d := by
  obtain ⟨f, fd, h1, h2, h3⟩ := F.ex
  obtain ⟨ws, hb, hw⟩ := h
  exact ⟨f, fd, h1, h2, h3, fnD_of h1 S len (fun cdv A outer s H E C => hb f cdv A outer s H E C) hw⟩
end
end DL

set_option Elab.async false
set_option linter.all false
set_option maxRecDepth 100000
set_option maxHeartbeats 4000000
namespace DL
open PySem L2

/-! ### operators -/
def wI (g : Int → Int → Int) : SemO2 := fun b c mu Q => match b, c with
  | .dat (.int i), .dat (.int j) => Q (.dat (.int (g i j))) mu
  | _, _ => False
def wIC (C : Int → Int → Prop) (g : Int → Int → Int) : SemO2 := fun b c mu Q => match b, c with
  | .dat (.int i), .dat (.int j) => C i j ∧ Q (.dat (.int (g i j))) mu
  | _, _ => False
def wIB (p : Int → Int → Bool) : SemO2 := fun b c mu Q => match b, c with
  | .dat (.int i), .dat (.int j) => Q (.dat (.bool (p i j))) mu
  | _, _ => False
def CDivA (_ j : Int) : Prop := j ≠ 0 ∧ j.natAbs.log2 < 9000
section
variable {X : Cx} {k : Kit}
theorem o_I {f : Value → Value → Sem Value} {g : Int → Int → Int} (h : OpR X f (rI0 fun i j => .int (g i j))) : OpD k X f (wI g) := by
  refine ⟨_, h, fun al H x y b c mu Q Q' m rb rc q kk => ?_⟩
  unfold wI at q
  split at q
  · exact ⟨_, _, rb, rc, kk _ H al (.dat (.int _)) mu Ext.refl m rfl q⟩
  · exact q.elim
theorem o_IC {f : Value → Value → Sem Value} {C : Int → Int → Prop} {g : Int → Int → Int} (h : OpR X f (rI C fun i j => .int (g i j))) : OpD k X f (wIC C g) := by
  refine ⟨_, h, fun al H x y b c mu Q Q' m rb rc q kk => ?_⟩
  unfold wIC at q
  split at q
  · exact ⟨_, _, rb, rc, q.1, kk _ H al (.dat (.int _)) mu Ext.refl m rfl q.2⟩
  · exact q.elim
theorem o_IB {f : Value → Value → Sem Value} {p : Int → Int → Bool} (h : OpR X f (rI0 fun i j => .bl (p i j))) : OpD k X f (wIB p) := by
  refine ⟨_, h, fun al H x y b c mu Q Q' m rb rc q kk => ?_⟩
  unfold wIB at q
  split at q
  · exact ⟨_, _, rb, rc, kk _ H al (.dat (.bool _)) mu Ext.refl m rfl q⟩
  · exact q.elim
abbrev wAdd : SemO2 := wI fun i j => i + j
abbrev wSub : SemO2 := wI fun i j => i - j
abbrev wMul : SemO2 := wIC IntMulOk fun i j => i * j
abbrev wDiv : SemO2 := wIC CDivA fun i j => i.fdiv j
abbrev wMod : SemO2 := wIC (fun _ j => j ≠ 0) fun i j => i.fmod j
abbrev wPow : SemO2 := wIC CPow fun i j => i ^ j.toNat
abbrev wLt : SemO2 := wIB fun i j => decide (i < j)
abbrev wLe : SemO2 := wIB fun i j => decide (i ≤ j)
abbrev wGt : SemO2 := wIB fun i j => decide (j < i)
abbrev wGe : SemO2 := wIB fun i j => decide (j ≤ i)
theorem o_add : OpD k X (binaryOp .Add) wAdd := o_I op_add
theorem o_sub : OpD k X (binaryOp .Sub) wSub := o_I op_sub
theorem o_mul : OpD k X (binaryOp .Mult) wMul := o_IC (opI fun _ _ _ _ _ _ _ hc q => PyProof.Rows.mul_int q hc)
theorem o_div : OpD k X (binaryOp .FloorDiv) wDiv := o_IC (opI fun _ _ _ _ _ _ _ hc q => PyProof.Rows.floordiv_int hc.1 q (.inl (PyProof.noPylong_of_log2 hc.2)))
theorem o_mod : OpD k X (binaryOp .Mod) wMod := o_IC op_modN
theorem o_pow : OpD k X (binaryOp .Pow) wPow := o_IC op_pow
theorem o_lt : OpD k X (compareOp .Lt) wLt := o_IB op_lt
theorem o_le : OpD k X (compareOp .LtE) wLe := o_IB op_le
theorem o_gt : OpD k X (compareOp .Gt) wGt := o_IB op_gt
theorem o_ge : OpD k X (compareOp .GtE) wGe := o_IB op_ge
/-! == of data -/
mutual
theorem Rep.dp {K : PySem.W.Frag} {al : AL} {H : Hp} : ∀ (d : D) (v : V), Rep K al H d v → Dp K H v d
  | .none, _, h => by
    cases (show _ = V.non from h)
    exact .non
  | .bool b, _, h => by
    cases (show _ = V.bl b from h)
    exact .bl b
  | .int i, _, h => by
    cases (show _ = V.int i from h)
    exact .int i
  | .str x, _, h => by
    cases (show _ = V.str x from h)
    exact .str x
  | .list ds, _, h => by
    obtain ⟨a, xs, h1, h2, h3⟩ := h
    subst h1
    exact .lst h2.sq (Reps.dp ds xs h3)
  | .tuple ds, _, h => by
    obtain ⟨a, xs, h1, h2, h3⟩ := h
    subst h1
    exact .tup h2.sq (Reps.dp ds xs h3)
  | .dict _, _, h => False.elim h
theorem Reps.dp {K : PySem.W.Frag} {al : AL} {H : Hp} : ∀ (ds : List D) (xs : List V), Reps K al H ds xs → DpAll K H xs ds
  | [], _, h => by
    cases (show _ = [] from h)
    exact .nil
  | d :: ds, _, h => by
    obtain ⟨x, r, h1, h2, h3⟩ := h
    subst h1
    exact .cons (Rep.dp d x h2) (Reps.dp ds r h3)
end
/-- data that can be compared -/
abbrev Shp (d : D) : Prop := SeqAt.shaped d = true
def wEq : SemO2 := fun b c mu Q => match b, c with
  | .dat d, .dat e => Shp d ∧ Shp e ∧ Q (.dat (.bool (PyData.eqv d e))) mu
  | _, _ => False
def wNe : SemO2 := fun b c mu Q => match b, c with
  | .dat d, .dat e => Shp d ∧ Shp e ∧ Q (.dat (.bool (!PyData.eqv d e))) mu
  | _, _ => False
variable {P : Program} {w : World} {mg : Str → Option Value} {base : Heap} {r : Nat}
theorem o_eq (C : In k X P w mg base r) : OpD k X (compareOp .Eq) wEq := by
  refine ⟨_, op_eqD C.room.units, fun al H x y b c mu Q Q' m rb rc q kk => ?_⟩
  unfold wEq at q
  split at q
  · rename_i d e
    rw [C.hK]
    exact ⟨d, e, Rep.dp d x rb, Rep.dp e y rc, q.1, q.2.1, kk _ H al (.dat (.bool _)) mu Ext.refl m rfl q.2.2⟩
  · exact q.elim
theorem o_ne (C : In k X P w mg base r) : OpD k X (compareOp .NotEq) wNe := by
  refine ⟨_, op_neD C.room.units, fun al H x y b c mu Q Q' m rb rc q kk => ?_⟩
  unfold wNe at q
  split at q
  · rename_i d e
    rw [C.hK]
    exact ⟨d, e, Rep.dp d x rb, Rep.dp e y rc, q.1, q.2.1, kk _ H al (.dat (.bool _)) mu Ext.refl m rfl q.2.2⟩
  · exact q.elim
/-! is -/
def isNon : D → Bool
  | .none => true
  | _ => false
def wIsB : SemO2 := fun b c mu Q => match b, c with
  | .dat (.bool i), .dat (.bool j) => Q (.dat (.bool (decide (i = j)))) mu
  | _, _ => False
def wIsN : SemO2 := fun b c mu Q => match b, c with
  | .dat d, .dat .none => Q (.dat (.bool (isNon d))) mu
  | _, _ => False
def wNotN : SemO2 := fun b c mu Q => match b, c with
  | .dat d, .dat .none => Q (.dat (.bool (!isNon d))) mu
  | _, _ => False
theorem o_isB : OpD k X (compareOp .Is) wIsB := by
  refine ⟨_, op_isBl, fun al H x y b c mu Q Q' m rb rc q kk => ?_⟩
  unfold wIsB at q
  split at q
  · exact ⟨_, _, rb, rc, kk _ H al (.dat (.bool _)) mu Ext.refl m rfl q⟩
  · exact q.elim
theorem isNon_iff {K : PySem.W.Frag} {al : AL} {H : Hp} {d : D} {v : V} (h : Rep K al H d v) : decide (v = V.non) = isNon d := by
  cases d with
  | none =>
    have e : v = .non := h
    rw [e]
    rfl
  | bool b =>
    have e : v = .bl b := h
    rw [e]
    rfl
  | int b =>
    have e : v = .int b := h
    rw [e]
    rfl
  | str b =>
    have e : v = .str b := h
    rw [e]
    rfl
  | list ds =>
    obtain ⟨a, xs, h1, _⟩ := h
    rw [h1]
    rfl
  | tuple ds =>
    obtain ⟨a, xs, h1, _⟩ := h
    rw [h1]
    rfl
  | dict _ => exact False.elim h
theorem o_isN : OpD k X (compareOp .Is) wIsN := by
  refine ⟨_, op_isN, fun al H x y b c mu Q Q' m rb rc q kk => ?_⟩
  unfold wIsN at q
  split at q
  · exact ⟨rc, kk _ H al (.dat (.bool _)) mu Ext.refl m (show V.bl _ = V.bl _ by rw [isNon_iff rb]) q⟩
  · exact q.elim
theorem o_notN : OpD k X (compareOp .IsNot) wNotN := by
  refine ⟨_, op_notN, fun al H x y b c mu Q Q' m rb rc q kk => ?_⟩
  unfold wNotN at q
  split at q
  · exact ⟨rc, kk _ H al (.dat (.bool _)) mu Ext.refl m (show V.bl _ = V.bl _ by rw [isNon_iff rb]) q⟩
  · exact q.elim
/-! one operand -/
def sNeg (m : SemE) : SemE := fun en mu Q => m en mu fun b mu1 => match b with
  | .dat (.int i) => Q (.dat (.int (-i))) mu1
  | _ => False
theorem d_neg {a : Expr} {m : SemE} {pos : Pos} (ha : PE X a (tD k m)) : PE X (.UnaryOp .USub a pos) (tD k (sNeg m)) :=
  pe_imp (pe_un un_neg ha) fun σ H Q' q => by
    obtain ⟨al, en, mu, Q, st, q, kk⟩ := q
    refine ⟨al, en, mu, _, st, q, fun v H1 al1 b mu1 e1 st1 r1 q1 => ?_⟩
    split at q1
    · rename_i i
      exact ⟨i, r1, kk _ H1 al1 (.dat (.int (-i))) mu1 e1 st1 rfl q1⟩
    · exact q1.elim
/-! subscripts -/
def wIx : SemO2 := fun b c mu Q => match b, c with
  | .dat (.tuple ds), .dat (.int i) => match atI ds i with
    | some d => Q (.dat d) mu
    | none => False
  | .dat (.list ds), .dat (.int i) => match atI ds i with
    | some d => Q (.dat d) mu
    | none => False
  | .ref j, .dat (.int i) => match mu[j]? with
    | some (.lst ds) => match atI ds i with
      | some d => Q (.dat d) mu
      | none => False
    | _ => False
  | _, _ => False
theorem atI_reps {K : PySem.W.Frag} {al : AL} {H : Hp} {ds : List D} {xs : List V} {i : Int} {d : D} (r : Reps K al H ds xs) (h : atI ds i = some d) : ∃ v, atI xs i = some v ∧ Rep K al H d v := by
  unfold atI at h ⊢
  rw [r.length]
  cases e : ixN ds.length i with
  | none =>
    rw [e] at h
    cases h
  | some j =>
    rw [e] at h
    exact Reps.get r h
theorem d_ix {a b : Expr} {ma mb : SemE} {pos : Pos} (hK : X.K = k.K) (ha : PE X a (tD k ma)) (hb : PE X b (tD k mb)) (hs : PlainIx b) : PE X (.Subscript a b pos) (tD k (sOp2 wIx ma mb)) :=
  pe_imp (pe_ix ix_seq ha hb hs) (op2_imp (f := fun _ _ => pure .none) fun al H x y b c mu Q Q' m rb rc q kk => by
    unfold wIx at q
    unfold rIx
    rw [hK]
    split at q
    · rename_i ds i
      split at q
      · rename_i d hd
        obtain ⟨a, xs, h1, h2, h3⟩ := rb
        obtain ⟨v, g1, g2⟩ := atI_reps h3 hd
        exact .inr (.inl ⟨a, xs, i, v, h1, rc, h2.sq, g1, kk _ H al (.dat d) mu Ext.refl m g2 q⟩)
      · exact q.elim
    · rename_i ds i
      split at q
      · rename_i d hd
        obtain ⟨a, xs, h1, h2, h3⟩ := rb
        obtain ⟨v, g1, g2⟩ := atI_reps h3 hd
        exact .inl ⟨a, xs, i, v, h1, rc, h2.sq, g1, kk _ H al (.dat d) mu Ext.refl m g2 q⟩
      · exact q.elim
    · rename_i j i
      split at q
      · rename_i ds hj
        split at q
        · rename_i d hd
          obtain ⟨a, h1, h2⟩ := rb
          obtain ⟨a', xs, g1, g2, g3⟩ := m.ok j _ hj
          rw [h1] at g1
          cases g1
          obtain ⟨v, g4, g5⟩ := atI_reps g3 hd
          exact .inl ⟨a, xs, i, v, h2, rc, SqL.of g2, g4, kk _ H al (.dat d) mu Ext.refl m g5 q⟩
        · exact q.elim
      · exact q.elim
    · exact q.elim)

/-! ### built-in functions -/
abbrev SemB := List B → Mu → (B → Mu → Prop) → Prop
def CallD (k : Kit) (X : Cx) (f : Value) (w : SemB) : Prop :=
  ∃ r : List V → Hp → VK → Prop, CallR X f r ∧ ∀ al H vs bs mu Q (Q' : VK), MuOk k.K k.DK al H mu → RepBs k.K al H bs vs → w bs mu Q →
    (∀ v H' al' d mu', Ext al H al' H' → MuOk k.K k.DK al' H' mu' → RepB k.K al' H' d v → Q d mu' → Q' v H') → r vs H Q'
def sBi (w : SemB) (m : SemA) : SemE := fun en mu Q => m en mu fun bs mu1 => w bs mu1 Q
variable {x : Str} {e : Expr} {es : List Expr} {m : SemA} {wb : SemB} {p pos : Pos} {id T : String}
theorem cb_imp {t : TA} {rr : List V → Hp → VK → Prop}
    (h2 : ∀ al H vs bs mu Q (Q' : VK), MuOk k.K k.DK al H mu → RepBs k.K al H bs vs → wb bs mu Q → (∀ v H' al' d mu', Ext al H al' H' → MuOk k.K k.DK al' H' mu' → RepB k.K al' H' d v → Q d mu' → Q' v H') → rr vs H Q')
    (h : ∀ σ H Q, tDA k m σ H Q → t σ H Q) (σ : L2.St) (H : Hp) (Q' : VK) (q : tD k (sBi wb m) σ H Q') : tCB rr t σ H Q' := by
  obtain ⟨al, en, mu, Q, st, q, kk⟩ := q
  refine h _ _ _ ⟨al, en, mu, _, st, q, fun vs H1 al1 bs mu1 e1 st1 r1 q1 => ?_⟩
  exact h2 al1 H1 vs bs mu1 Q Q' st1.mu r1 q1 fun v H' al' b mu' e2 m2 r2 q2 => kk v H' al' b mu' (e1.trans e2) (st1.ext e2 m2) r2 q2
theorem d_callB (hc : CallD k X (.builtin id) wb) (hg : Gl X x) (hm : X.mg x = none) (hv : bootBuiltins x = some (.builtin id)) (ha : PA X (e :: es) (tDA k m)) (hn : x ≠ "__name__" := by decide) (hdb : (x == ("__debug__" : Str)) = false := by decide)
    (he : starEach (e :: es) X.env = (false, eval e X.env) :: starEach es X.env := by rfl) (hpl : (backTo pos (starEach es X.env)).any (·.1) = false := by rfl) : PE X (.Call (.Name x p) (e :: es) [] pos) (tD k (sBi wb m)) := by
  obtain ⟨rr, h1, h2⟩ := hc
  exact pe_imp (pe_callB h1 hg hm hv ha hn hdb he hpl) (cb_imp h2 fun _ _ _ z => z)
theorem d_callTy (hc : CallD k X (.type T) wb) (hg : Gl X x) (hm : X.mg x = none) (hv : bootBuiltins x = some (.type T)) (ha : PA X (e :: es) (tDA k m)) (hn : x ≠ "__name__" := by decide) (hdb : (x == ("__debug__" : Str)) = false := by decide)
    (he : starEach (e :: es) X.env = (false, eval e X.env) :: starEach es X.env := by rfl) (hpl : (backTo pos (starEach es X.env)).any (·.1) = false := by rfl) : PE X (.Call (.Name x p) (e :: es) [] pos) (tD k (sBi wb m)) := by
  obtain ⟨rr, h1, h2⟩ := hc
  exact pe_imp (pe_callTy h1 hg hm hv ha hn hdb he hpl) (cb_imp h2 fun _ _ _ z => z)
theorem d_callBf (hc : CallD k X (.builtin id) wb) (hg : Gl X x) (hm : X.mg x = some (.builtin id)) (ha : PA X (e :: es) (tDA k m)) (hdb : (x == ("__debug__" : Str)) = false := by decide)
    (he : starEach (e :: es) X.env = (false, eval e X.env) :: starEach es X.env := by rfl) (hpl : (backTo pos (starEach es X.env)).any (·.1) = false := by rfl) : PE X (.Call (.Name x p) (e :: es) [] pos) (tD k (sBi wb m)) := by
  obtain ⟨rr, h1, h2⟩ := hc
  exact pe_imp (pe_callBfun h1 hg hm ha hdb he hpl) (cb_imp h2 fun _ _ _ z => z)
/-- a function of ints -/
def wF1 (g : Int → D) : SemB := fun bs mu Q => match bs with
  | [.dat (.int i)] => Q (.dat (g i)) mu
  | _ => False
def wF2 (g : Int → Int → D) : SemB := fun bs mu Q => match bs with
  | [.dat (.int i), .dat (.int j)] => Q (.dat (g i j)) mu
  | _ => False
abbrev wAbs : SemB := wF1 fun i => .int (i.natAbs : Int)
abbrev wMax2 : SemB := wF2 fun i j => .int (if j > i then j else i)
abbrev wMin2 : SemB := wF2 fun i j => .int (if j < i then j else i)
abbrev wGcd : SemB := wF2 fun i j => .int ((Nat.gcd i.natAbs j.natAbs : Nat) : Int)
abbrev wInt : SemB := wF1 fun i => .int i
theorem reps1 {al : AL} {H : Hp} {b : B} {vs : List V} (h : RepBs k.K al H [b] vs) : ∃ v, vs = [v] ∧ RepB k.K al H b v := by
  obtain ⟨v, rr, h1, h2, h3⟩ := h
  cases (show rr = [] from h3)
  exact ⟨v, h1, h2⟩
theorem reps2 {al : AL} {H : Hp} {b c : B} {vs : List V} (h : RepBs k.K al H [b, c] vs) : ∃ v w, vs = [v, w] ∧ RepB k.K al H b v ∧ RepB k.K al H c w := by
  obtain ⟨v, rr, h1, h2, w, r2, h3, h4, h5⟩ := h
  cases (show r2 = [] from h5)
  subst h3
  exact ⟨v, w, h1, h2, h4⟩
theorem c_F1 {f : Value} {g : Int → D} {u : Int → V} {rr : List V → Hp → VK → Prop} (h : CallR X f rr) (hr : ∀ i H Q, Q (u i) H → rr [.int i] H Q) (hg : ∀ i al H, Rep k.K al H (g i) (u i)) : CallD k X f (wF1 g) := by
  refine ⟨rr, h, fun al H vs bs mu Q Q' m rb q kk => ?_⟩
  unfold wF1 at q
  split at q
  · rename_i i
    obtain ⟨v, rfl, hv⟩ := reps1 rb
    cases (show v = .int i from hv)
    exact hr i H Q' (kk _ H al (.dat (g i)) mu Ext.refl m (hg i al H) q)
  · exact q.elim
theorem c_F2 {f : Value} {g : Int → Int → D} {u : Int → Int → V} {rr : List V → Hp → VK → Prop} (h : CallR X f rr) (hr : ∀ i j H Q, Q (u i j) H → rr [.int i, .int j] H Q) (hg : ∀ i j al H, Rep k.K al H (g i j) (u i j)) : CallD k X f (wF2 g) := by
  refine ⟨rr, h, fun al H vs bs mu Q Q' m rb q kk => ?_⟩
  unfold wF2 at q
  split at q
  · rename_i i j
    obtain ⟨v, w, rfl, hv, hw⟩ := reps2 rb
    cases (show v = .int i from hv)
    cases (show w = .int j from hw)
    exact hr i j H Q' (kk _ H al (.dat (g i j)) mu Ext.refl m (hg i j al H) q)
  · exact q.elim
theorem abs_eq (i : Int) : (if i < 0 then -i else i) = (i.natAbs : Int) := by split <;> omega
theorem c_abs : CallD k X (.builtin "abs") wAbs := c_F1 (u := fun i => .int (i.natAbs : Int)) call_abs (fun i H Q q => ⟨i, rfl, by rw [abs_eq]; exact q⟩) fun _ _ _ => rfl
theorem c_max2 (hc : X.calm = true) : CallD k X (.builtin "max") wMax2 := c_F2 (u := fun i j => .int (if j > i then j else i)) (call_max2 hc) (fun i j H Q q => ⟨i, j, rfl, q⟩) fun _ _ _ _ => rfl
theorem c_min2 (hc : X.calm = true) : CallD k X (.builtin "min") wMin2 := c_F2 (u := fun i j => .int (if j < i then j else i)) (call_min2 hc) (fun i j H Q q => ⟨i, j, rfl, q⟩) fun _ _ _ _ => rfl
theorem c_gcd : CallD k X (.builtin "math.gcd") wGcd := c_F2 (u := fun i j => .int ((Nat.gcd i.natAbs j.natAbs : Nat) : Int)) cr_gcd (fun i j H Q q => ⟨i, j, rfl, q⟩) fun _ _ _ _ => rfl
theorem c_int : CallD k X (.type "int") wInt := c_F1 (u := fun i => .int i) call_int1 (fun i H Q q => .inl ⟨i, rfl, q⟩) fun _ _ _ => rfl
/-- len -/
def wLen : SemB := fun bs mu Q => match bs with
  | [.dat (.tuple ds)] => Q (.dat (.int ds.length)) mu
  | [.dat (.list ds)] => Q (.dat (.int ds.length)) mu
  | [.dat (.str x)] => x.length ≤ sizeLine ∧ Q (.dat (.int x.length)) mu
  | [.ref j] => match mu[j]? with
    | some (.lst ds) => Q (.dat (.int ds.length)) mu
    | _ => False
  | _ => False
theorem c_len (hK : X.K = k.K) : CallD k X (.builtin "len") wLen := by
  refine ⟨_, call_len_seq.or call_len_str, fun al H vs bs mu Q Q' m rb q kk => ?_⟩
  unfold wLen at q
  rw [hK]
  split at q
  · rename_i ds
    obtain ⟨v, rfl, a, xs, rfl, h2, h3⟩ := reps1 rb
    exact .inl ⟨a, xs, rfl, .inr h2.sq, kk _ H al (.dat (.int ds.length)) mu Ext.refl m (show V.int _ = V.int _ by rw [h3.length]) q⟩
  · rename_i ds
    obtain ⟨v, rfl, a, xs, rfl, h2, h3⟩ := reps1 rb
    exact .inl ⟨a, xs, rfl, .inl h2.sq, kk _ H al (.dat (.int ds.length)) mu Ext.refl m (show V.int _ = V.int _ by rw [h3.length]) q⟩
  · rename_i z
    obtain ⟨v, rfl, h1⟩ := reps1 rb
    cases (show v = .str z from h1)
    exact .inr ⟨z, rfl, q.1, kk _ H al (.dat (.int z.length)) mu Ext.refl m rfl q.2⟩
  · rename_i j
    obtain ⟨v, rfl, a, h1, rfl⟩ := reps1 rb
    split at q
    · rename_i ds hj
      obtain ⟨b, xs, g1, g2, g3⟩ := m.ok j _ hj
      rw [h1] at g1
      cases g1
      exact .inl ⟨a, xs, rfl, .inl (SqL.of g2), kk _ H al (.dat (.int ds.length)) mu Ext.refl m (show V.int _ = V.int _ by rw [g3.length]) q⟩
    · exact q.elim
  · exact q.elim
/-! repr -/
def ReprOk (d : D) : Prop := d.showable = true ∧ d.hasDict = false ∧ d.depth ≤ 60 ∧ d.shown.length ≤ sizeLine
def isRefD : D → Bool
  | .list _ | .tuple _ => true
  | _ => false
def wRepr : SemB := fun bs mu Q => match bs with
  | [.dat d] => isRefD d = true ∧ ReprOk d ∧ Q (.dat (.str d.shown)) mu
  | _ => False
def rReprD (K : PySem.W.Frag) : List V → Hp → VK → Prop := fun vs H Q => ∃ a d, vs = [.ref a] ∧ Dp K H (.ref a) d ∧ ReprOk d ∧ Q (.str d.shown) H
theorem call_reprD (C : In k X P w mg base r) : CallR X (.builtin "repr") (rReprD X.K) := by
  intro pins s σ H xs us Q I rv h
  obtain ⟨a, d, rfl, hd, ok, q⟩ := h
  have e := Vals.ref1 rv
  subst e
  obtain ⟨as, rd⟩ := Dp.reads I d _ (.ref a) hd rfl
  have un := C.room.units
  exact repr_of_reads' rd ok.1 (fun z => by rw [ok.2.1] at z; cases z) C.gd (by have := ok.2.2.1; omega) (fun _ _ z => z)
    (fun h' u tk hk => ⟨.str d.shown, H, I.kept (t' := tk) hk, ⟨u, rfl⟩, q⟩) ok.2.2.2
theorem c_repr (C : In k X P w mg base r) : CallD k X (.builtin "repr") wRepr := by
  refine ⟨_, call_reprD C, fun al H vs bs mu Q Q' m rb q kk => ?_⟩
  unfold wRepr at q
  split at q
  · rename_i d
    obtain ⟨v, rfl, hv⟩ := reps1 rb
    obtain ⟨q1, q2, q3⟩ := q
    have hd := Rep.dp d v hv
    have fin := kk (.str d.shown) H al (.dat (.str d.shown)) mu Ext.refl m rfl q3
    rw [C.hK]
    cases d with
    | list ds =>
      obtain ⟨a, xs, rfl, _⟩ := hv
      exact ⟨a, _, rfl, hd, q2, fin⟩
    | tuple ds =>
      obtain ⟨a, xs, rfl, _⟩ := hv
      exact ⟨a, _, rfl, hd, q2, fin⟩
    | _ => cases q1
  · exact q.elim
end
end DL

set_option Elab.async false
set_option linter.all false
set_option maxRecDepth 100000
set_option maxHeartbeats 4000000
namespace DL
open PySem L2

/-! ### isinstance -/
inductive Ty where
  | int | bool | str | tuple | list | dict
  deriving DecidableEq
def Ty.nm : Ty → String
  | .int => "int"
  | .bool => "bool"
  | .str => "str"
  | .tuple => "tuple"
  | .list => "list"
  | .dict => "dict"
def tyN : D → String
  | .none => "NoneType"
  | .bool _ => "bool"
  | .int _ => "int"
  | .str _ => "str"
  | .list _ => "list"
  | .tuple _ => "tuple"
  | .dict _ => "dict"
def isT : D → Ty → Bool
  | .bool _, .bool => true
  | .bool _, .int => true
  | .int _, .int => true
  | .str _, .str => true
  | .list _, .list => true
  | .tuple _, .tuple => true
  | .dict _, .dict => true
  | _, _ => false
theorem kit_isT (d : D) (T : Ty) : kitB (tyN d) T.nm = some (isT d T) := by
  cases d with
  | none => cases T <;> (show kitB "NoneType" _ = some false) <;> decide +kernel
  | bool b =>
    cases T
    case int => show kitB "bool" "int" = some true; decide +kernel
    case bool => show kitB "bool" "bool" = some true; decide +kernel
    all_goals (show kitB "bool" _ = some false) <;> decide +kernel
  | int b =>
    cases T
    case int => show kitB "int" "int" = some true; decide +kernel
    all_goals (show kitB "int" _ = some false) <;> decide +kernel
  | str b =>
    cases T
    case str => show kitB "str" "str" = some true; decide +kernel
    all_goals (show kitB "str" _ = some false) <;> decide +kernel
  | list b =>
    cases T
    case list => show kitB "list" "list" = some true; decide +kernel
    all_goals (show kitB "list" _ = some false) <;> decide +kernel
  | tuple b =>
    cases T
    case tuple => show kitB "tuple" "tuple" = some true; decide +kernel
    all_goals (show kitB "tuple" _ = some false) <;> decide +kernel
  | dict b =>
    cases T
    case dict => show kitB "dict" "dict" = some true; decide +kernel
    all_goals (show kitB "dict" _ = some false) <;> decide +kernel
theorem Rep.tyX {K : PySem.W.Frag} {al : AL} {H : Hp} {d : D} {v : V} (h : Rep K al H d v) : TyX K H v (.type (tyN d)) := by
  cases d with
  | none =>
    cases (show v = .non from h)
    exact .base .non
  | bool b =>
    cases (show v = .bl b from h)
    exact .base (.bl b)
  | int b =>
    cases (show v = .int b from h)
    exact .base (.int b)
  | str b =>
    cases (show v = .str b from h)
    exact .base (.str b)
  | list ds =>
    obtain ⟨a, xs, rfl, h2, _⟩ := h
    rcases h2 with ⟨q | ⟨o, q⟩, _⟩ | (q | ⟨o, q⟩) | ⟨o, its, n, q1, q2, _⟩
    · exact .base (.lst q)
    · exact .base (.frz q)
    · cases q
    · cases q
    · exact .kList q1 q2
  | tuple ds =>
    obtain ⟨a, xs, rfl, h2, _⟩ := h
    rcases h2 with ⟨q | ⟨o, q⟩, _⟩ | (q | ⟨o, q⟩) | ⟨o, its, n, q1, q2, _⟩
    · exact .base (.tup q)
    · exact .fTuple q
    · cases q
    · cases q
    · exact .kTuple q1 q2
  | dict _ => exact False.elim h
def sIsi (T : Ty) (m : SemE) : SemE := fun en mu Q => m en mu fun b mu1 => match b with
  | .dat d => Q (.dat (.bool (isT d T))) mu1
  | .ref j => match mu1[j]? with
    | some (.lst _) => Q (.dat (.bool (decide (T = .list)))) mu1
    | _ => False
def sIsi2 (T U : Ty) (m : SemE) : SemE := fun en mu Q => m en mu fun b mu1 => match b with
  | .dat d => Q (.dat (.bool (isT d T || isT d U))) mu1
  | _ => False
section
variable {X : Cx} {k : Kit} {a : Expr} {m : SemE} {p p2 p3 pos pt : Pos} {y z : Str} {T U : Ty}
theorem d_isi (hK : X.K = k.K) (ha : PE X a (tD k m)) (hg : Gl X "isinstance") (hm : X.mg "isinstance" = none) (gy : Gl X y) (my : X.mg y = none) (hv : bootBuiltins y = some (.type T.nm)) (hn : y ≠ "__name__" := by decide) (hd : (y == ("__debug__" : Str)) = false := by decide)
    (hs : starEach [a, .Name y p2] X.env = (false, eval a X.env) :: starEach [.Name y p2] X.env := by rfl) (hs2 : starEach [.Name y p2] X.env = (false, eval (.Name y p2) X.env) :: starEach [] X.env := by rfl) :
    PE X (.Call (.Name "isinstance" p) [a, .Name y p2] [] pos) (tD k (sIsi T m)) :=
  pe_imp (pe_callB call_isi hg hm PyProof.Rows.boot_isinstance (pa_cons ha (pa_cons (pe_bltn (v := .ty T.nm) gy my hv rfl hn hd) pa_nil hs2) hs) (by decide) (by decide) hs (by rw [hs2]; rfl)) fun σ H Q' q => by
    obtain ⟨al, en, mu, Q, st, q, kk⟩ := q
    refine ⟨al, en, mu, _, st, q, fun v H1 al1 b mu1 e1 st1 r1 q1 => ?_⟩
    split at q1
    · rename_i d
      refine ⟨v, .ty T.nm, _, _, isT d T, rfl, .ty _, ?_, kit_ty (kit_isT d T), kk _ H1 al1 (.dat (.bool _)) mu1 e1 st1 rfl q1⟩
      rw [hK]
      exact Rep.tyX r1
    · rename_i j
      obtain ⟨c, g1, rfl⟩ := r1
      split at q1
      · rename_i ds hj
        obtain ⟨c', xs, g2, g3, _⟩ := st1.mu.ok j _ hj
        rw [g1] at g2
        cases g2
        refine ⟨.ref c, .ty T.nm, .type "list", _, decide (T = .list), rfl, .ty _, .base (.lst g3), kit_ty ?_, kk _ H1 al1 (.dat (.bool _)) mu1 e1 st1 rfl q1⟩
        cases T <;> decide +kernel
      · exact q1.elim
theorem d_isi2 {x1} (hK : X.K = k.K) (ha : PE X a (tD k m)) (hg : Gl X "isinstance") (hm : X.mg "isinstance" = none) (gy : Gl X y) (my : X.mg y = none) (hv : bootBuiltins y = some (.type T.nm)) (gz : Gl X z) (mz : X.mg z = none) (hvz : bootBuiltins z = some (.type U.nm))
    (hn : y ≠ "__name__" := by decide) (hd : (y == ("__debug__" : Str)) = false := by decide) (hn' : z ≠ "__name__" := by decide) (hd' : (z == ("__debug__" : Str)) = false := by decide)
    (hs : starEach [a, .Tuple [.Name y p2, .Name z p3] x1 pt] X.env = (false, eval a X.env) :: starEach [.Tuple [.Name y p2, .Name z p3] x1 pt] X.env := by rfl)
    (hs2 : starEach [.Tuple [.Name y p2, .Name z p3] x1 pt] X.env = (false, eval (.Tuple [.Name y p2, .Name z p3] x1 pt) X.env) :: starEach [] X.env := by rfl)
    (hs3 : starEach [.Name y p2, .Name z p3] X.env = (false, eval (.Name y p2) X.env) :: starEach [.Name z p3] X.env := by rfl) (hs4 : starEach [.Name z p3] X.env = (false, eval (.Name z p3) X.env) :: starEach [] X.env := by rfl) :
    PE X (.Call (.Name "isinstance" p) [a, .Tuple [.Name y p2, .Name z p3] x1 pt] [] pos) (tD k (sIsi2 T U m)) :=
  pe_imp (pe_callB call_isiT hg hm PyProof.Rows.boot_isinstance (pa_cons ha (pa_cons (pe_tup (pa_cons (pe_bltn (v := .ty T.nm) gy my hv rfl hn hd) (pa_cons (pe_bltn (v := .ty U.nm) gz mz hvz rfl hn' hd') pa_nil hs4) hs3)) pa_nil hs2) hs) (by decide) (by decide) hs (by rw [hs2]; rfl)) fun σ H Q' q => by
    obtain ⟨al, en, mu, Q, st, q, kk⟩ := q
    refine ⟨al, en, mu, _, st, q, fun v H1 al1 b mu1 e1 st1 r1 q1 => ?_⟩
    cases b with
    | ref j => exact q1.elim
    | dat d =>
      refine ⟨by show 2 ≤ sizeLine; decide, fun t ht => ?_⟩
      obtain ⟨e2, m2⟩ := st1.mu.newF (o := .tup [.ty T.nm, .ty U.nm]) ht
      refine ⟨v, t, [.ty T.nm, .ty U.nm], .type (tyN d), [.type T.nm, .type U.nm], isT d T || isT d U, rfl, upd_same, .cons (.ty _) (.cons (.ty _) .nil), ?_, ?_, kk _ _ al1 (.dat (.bool _)) mu1 (e1.trans e2) (st1.ext e2 m2) rfl q1⟩
      · rw [hK]
        exact Rep.tyX (Rep.ext e2 d v r1)
      · refine kitAny_cons (kit_ty (kit_isT d T)) (fun h => ?_) fun h => by rw [h] <;> rfl
        rw [h, Bool.false_or]
        exact kitAny_cons (kit_ty (kit_isT d U)) (fun h2 => by rw [h2]; exact kitAny_nil) fun h2 => h2
end

/-! ### lemmas for readings -/
/-- a loop over data that stand still, by what holds between its turns -/
theorem loop_by {g : SemG} {w : SemS} {D : DEnds} {ds : List PyData} {en : En} {mu : Mu} (W : Nat → En → Mu → Prop) (h0 : W 0 en mu)
    (hs : ∀ (i : Nat) d en mu (N : En → Mu → Prop), ds[i]? = some d → W i en mu → (∀ en' mu', W (i + 1) en' mu' → N en' mu') → g (.dat d) en mu fun en' mu' => w { D with nx := N, ct := N, bk := D.nx } en' mu') (hd : ∀ en mu, W ds.length en mu → D.nx en mu) :
    loopD g w D (fun _ => True) ds en mu := by
  have key : ∀ (n i : Nat) (en : En) (mu : Mu), n = ds.length - i → i ≤ ds.length → W i en mu → loopD g w D (fun _ => True) (ds.drop i) en mu := by
    intro n
    induction n with
    | zero =>
      intro i en mu hn hi hw
      have e : i = ds.length := by omega
      subst e
      rw [List.drop_length]
      exact ⟨trivial, hd en mu hw⟩
    | succ n ih =>
      intro i en mu hn hi hw
      have hlt : i < ds.length := by omega
      rw [List.drop_eq_getElem_cons hlt]
      exact ⟨trivial, hs i _ en mu _ (List.getElem?_eq_getElem hlt) hw fun en' mu' h => ih (i + 1) en' mu' (by omega) hlt h⟩
  exact key ds.length 0 en mu (by omega) (Nat.zero_le _) h0
/-- over a range -/
theorem loop_rng {g : SemG} {w : SemS} {D : DEnds} {lo : Int} {n : Nat} {en : En} {mu : Mu} (W : Nat → En → Mu → Prop) (h0 : W 0 en mu)
    (hs : ∀ (i : Nat) en mu (N : En → Mu → Prop), i < n → W i en mu → (∀ en' mu', W (i + 1) en' mu' → N en' mu') → g (.dat (.int (lo + (i : Int)))) en mu fun en' mu' => w { D with nx := N, ct := N, bk := D.nx } en' mu') (hd : ∀ en mu, W n en mu → D.nx en mu) :
    loopD g w D (fun _ => True) (rngD lo n) en mu := by
  have hl : (rngD lo n).length = n := by
    unfold rngD
    rw [List.length_map, List.length_range]
  refine loop_by W h0 (fun i d en mu N h1 h2 h3 => ?_) (fun en mu h => by rw [hl] at h; exact hd en mu h)
  have hi : i < n := by
    have := (List.getElem?_eq_some_iff.mp h1).1
    omega
  unfold rngD at h1
  rw [List.getElem?_map, List.getElem?_range hi] at h1
  cases h1
  exact hs i en mu N hi h2 h3
theorem while_by {t : SemT} {w : SemS} {D : DEnds} {en : En} {mu : Mu} (I : En → Mu → Prop) (ms : En → Mu → Nat) (h0 : I en mu)
    (hs : ∀ en mu (N : En → Mu → Prop), I en mu → (∀ en' mu', I en' mu' → ms en' mu' < ms en mu → N en' mu') → t en mu fun c mu1 => if c = true then w { D with nx := N, ct := N, bk := D.nx } en mu1 else D.nx en mu1) : sWhile t w D en mu := by
  have key : ∀ (n : Nat) (en : En) (mu : Mu), ms en mu < n → I en mu → whileD t w D n en mu := by
    intro n
    induction n with
    | zero =>
      intro en mu h _
      omega
    | succ n ih =>
      intro en mu h hi
      exact hs en mu _ hi fun en' mu' h1 h2 => ih en' mu' (by omega) h1
  exact ⟨_, key (ms en mu + 1) en mu (Nat.lt_succ_self _) h0⟩
theorem comp_by {g : SemG} {t : SemT} {m : SemE} {en : En} {Q : B → Mu → Prop} {ds : List PyData} {mu : Mu} (W : Nat → List PyData → Mu → Prop) (h0 : W 0 [] mu)
    (hs : ∀ (i : Nat) d acc mu (N : List PyData → Mu → Prop), ds[i]? = some d → W i acc mu → (∀ acc' mu', W (i + 1) acc' mu' → N acc' mu') → g (.dat d) en (mu ++ [.lst acc]) fun en2 mu2 => t en2 mu2 fun c mu3 =>
      if c = true then m en2 mu3 fun b mu4 => match b with
        | .dat y => mu4[mu.length]? = some (.lst acc) ∧ acc.length < sizeLine ∧ N (acc ++ [y]) (mu4.take mu.length)
        | _ => False
      else mu3[mu.length]? = some (.lst acc) ∧ N acc (mu3.take mu.length)) (hd : ∀ acc mu, W ds.length acc mu → Q (.dat (.list acc)) mu) :
    compD g t m en (fun _ => True) Q ds [] mu := by
  have key : ∀ (n i : Nat) acc (mu : Mu), n = ds.length - i → i ≤ ds.length → W i acc mu → compD g t m en (fun _ => True) Q (ds.drop i) acc mu := by
    intro n
    induction n with
    | zero =>
      intro i acc mu hn hi hw
      have e : i = ds.length := by omega
      subst e
      rw [List.drop_length]
      exact ⟨trivial, hd acc mu hw⟩
    | succ n ih =>
      intro i acc mu hn hi hw
      have hlt : i < ds.length := by omega
      rw [List.drop_eq_getElem_cons hlt]
      exact ⟨trivial, hs i _ acc mu _ (List.getElem?_eq_getElem hlt) hw fun acc' mu' h => ih (i + 1) acc' mu' (by omega) hlt h⟩
  exact key ds.length 0 [] mu (by omega) (Nat.zero_le _) h0
end DL

set_option Elab.async false
set_option linter.all false
set_option maxRecDepth 100000
set_option maxHeartbeats 4000000
namespace DL
open PySem L2
/-- a statement, then the rest, with a word between them -/
def sCut (w1 w2 : SemS) : SemS := fun D en mu => ∃ Mid : En → Mu → Prop, w1 { D with nx := Mid } en mu ∧ ∀ en' mu', Mid en' mu' → w2 D en' mu'
theorem s_cut {X : Cx} {k : Kit} {st : Stmt} {rest : List Stmt} {w1 w2 : SemS} (h1 : PS X st (tDS k w1)) (h2 : PSs X rest (tDS k w2)) : PSs X (st :: rest) (tDS k (sCut w1 w2)) := pss_imp (pss_cons h1 h2) fun E σ H q => by
  obtain ⟨al0, H0, al, en, mu, D, e0, st, ⟨Mid, q, qm⟩, f⟩ := q
  exact ⟨al0, H0, al, en, mu, { D with nx := Mid }, e0, st, q, ⟨fun al1 σ1 H1 en1 mu1 e1 st1 q1 => ⟨al0, H0, al1, en1, mu1, D, e1, st1, qm _ _ q1, f⟩, f.rt, f.bk, f.ct⟩⟩
section
variable {k : Kit} {P : Program} {w : World} {mg : Str → Option Value} {base : Heap} {r : Nat} {x : Str} {st : Stmt} {N ps : List Str} {d : DSp}
theorem fnIn_raw (F : Fn0 k mg x st ps) (S : FnScope N ps (defScope st)) (len : ∀ bs mu R, d bs mu R → bs.length = ps.length)
    (h : ∀ (f : Addr) (cdv : Value) (A : Around) (outer : List Env) (s : Shared) (H : Hp) (E : XK) (vs : List V) (Q : VK), In k (bodyCx k P w mg base N x st f cdv A outer s H E) P w mg base r → liftSp k d vs H Q E0 →
      ∃ t, PSs (bodyCx k P w mg base N x st f cdv A outer s H E) (defBody st) t ∧ t { nx := fun _ H' => Q .non H', rt := Q } (L2.start N vs) H) : FnIn k P w mg base (r + 1) x st ps d := by
  obtain ⟨f, fd, h1, h2, h3⟩ := F.ex
  exact ⟨f, fd, h1, h2, h3, fnD_raw h1 S len fun cdv A outer s H E vs Q C q => h f cdv A outer s H E vs Q C q⟩
end
theorem fnIn_no {k : Kit} {P : Program} {w : World} {mg : Str → Option Value} {base : Heap} {r : Nat} {x : Str} {st : Stmt} {ps : List Str} {d : DSp} (F : Fn0 k mg x st ps) (h : ∀ bs mu R, d bs mu R → False) : FnIn k P w mg base r x st ps d := by
  obtain ⟨f, fd, h1, h2, h3⟩ := F.ex
  refine ⟨f, fd, h1, h2, h3, fun bs mu R q => (h _ _ _ q).elim, fun A outer s H args us vs Q _ _ _ _ _ q => ?_⟩
  obtain ⟨_, _, _, _, _, _, q, _⟩ := q
  exact (h _ _ _ q).elim
/-! ### the deck of drawn numbers -/
/-- a dict of the list of cells, two ints, by three names -/
def deckD (c m n : Str) (l : Addr) (x y : Int) : List (Key × V) := [(.inr c, .ref l), (.inr m, .int x), (.inr n, .int y)]
def deckDK (c m n : Str) : Addr → HO → HO → Prop := fun l o u => ∃ (x y : Int) (cells : List Int), o = .dK (deckD c m n l x y) ∧ u = .lst (cells.map V.int) ∧ cells.length ≤ 63
/-- behind H0 only the deck at a, with its cells at l, is another one -/
structure DkSt (c m n : Str) (H0 : Hp) (a l : Addr) (x y : Int) (cells : List Int) (H : Hp) : Prop where
  ne : a ≠ l
  rest : ∀ b o, H0 b = some o → b ≠ a → b ≠ l → H b = some o
  dk : H a = some (.dK (deckD c m n l x y))
  cl : H l = some (.lst (cells.map V.int))
  len : cells.length ≤ 63
section
variable {c m n : Str} {H0 H : Hp} {a l : Addr} {x y : Int} {cells : List Int}
theorem DkSt.fresh (d : DkSt c m n H0 a l x y cells H) {p : Addr} {o : HO} (hp : H p = none) : DkSt c m n H0 a l x y cells (upd H p o) :=
  ⟨d.ne, fun b u q h1 h2 => by rw [upd_ne (ne_of_none (d.rest b u q h1 h2) hp)]; exact d.rest b u q h1 h2, by rw [upd_ne (ne_of_none d.dk hp)]; exact d.dk, by rw [upd_ne (ne_of_none d.cl hp)]; exact d.cl, d.len⟩
theorem DkSt.setN (d : DkSt c m n H0 a l x y cells H) (y' : Int) : DkSt c m n H0 a l x y' cells (upd H a (.dK (deckD c m n l x y'))) :=
  ⟨d.ne, fun b u q h1 h2 => by rw [upd_ne h1]; exact d.rest b u q h1 h2, upd_same, by rw [upd_ne (Ne.symm d.ne)]; exact d.cl, d.len⟩
theorem DkSt.setC (d : DkSt c m n H0 a l x y cells H) (cs : List Int) (hc : cs.length ≤ 63) : DkSt c m n H0 a l x y cs (upd H l (.lst (cs.map V.int))) :=
  ⟨d.ne, fun b u q h1 h2 => by rw [upd_ne h2]; exact d.rest b u q h1 h2, by rw [upd_ne d.ne]; exact d.dk, upd_same, hc⟩
theorem DkSt.setV (d : DkSt c m n H0 a l x y cells H) (cs : List Int) (xs : List V) (e : xs = cs.map V.int) (hc : cs.length ≤ 63) : DkSt c m n H0 a l x y cs (upd H l (.lst xs)) := by
  rw [e]
  exact d.setC cs hc
theorem valV_deck (hcm : c ≠ m) (hcn : c ≠ n) (hmn : m ≠ n) : valV (deckD c m n l x y) (.inr c) = some (.ref l) ∧ valV (deckD c m n l x y) (.inr m) = some (.int x) ∧ valV (deckD c m n l x y) (.inr n) = some (.int y) := by
  unfold deckD
  refine ⟨valV_pos rfl, ?_, ?_⟩
  · rw [valV_neg (fun e => hcm (Sum.inr.inj e)), valV_pos rfl]
  · rw [valV_neg (fun e => hcn (Sum.inr.inj e)), valV_neg (fun e => hmn (Sum.inr.inj e)), valV_pos rfl]
theorem putK_deck (hcn : c ≠ n) (hmn : m ≠ n) (y' : Int) : putK (deckD c m n l x y) (.inr n) (.int y') = deckD c m n l x y' := by
  have h1 : ¬ (Sum.inr c : Key) = .inr n := fun e => hcn (Sum.inr.inj e)
  have h2 : ¬ (Sum.inr m : Key) = .inr n := fun e => hmn (Sum.inr.inj e)
  simp [putK, deckD, h1, h2]
theorem mergeK_deck (hcm : c ≠ m) (hcn : c ≠ n) (hmn : m ≠ n) : mergeK [] (deckD c m n l x y) = deckD c m n l x y := by
  have h1 : ¬ (Sum.inr c : Key) = .inr n := fun e => hcn (Sum.inr.inj e)
  have h2 : ¬ (Sum.inr m : Key) = .inr n := fun e => hmn (Sum.inr.inj e)
  have h3 : ¬ (Sum.inr c : Key) = .inr m := fun e => hcm (Sum.inr.inj e)
  simp [mergeK, putK, deckD, h1, h2, h3]
theorem cut_int {ns : List Int} {lo hi : Option Int} {y : V} (h : y ∈ cutV (ns.map V.int) lo hi) : ∃ u, y = V.int u := by
  unfold cutV at h
  have h2 := List.mem_of_mem_drop (List.mem_of_mem_take h)
  obtain ⟨u, _, e⟩ := List.mem_map.mp h2
  exact ⟨u, e.symm⟩
theorem cut_map (ns : List Int) (lo hi : Option Int) : ∃ cs : List Int, cutV (ns.map V.int) lo hi = cs.map V.int ∧ cs.length ≤ ns.length := by
  unfold cutV
  rw [List.length_map, ← List.map_drop, ← List.map_take]
  refine ⟨_, rfl, ?_⟩
  rw [List.length_take, List.length_drop]
  omega
theorem Same.step {H : Hp} {p : Addr} {u : HO} (hp : H p = none) : ∀ b o, H b = some o → upd H p u b = some o := fun b o h => by
  rw [upd_ne (ne_of_none h hp)]
  exact h
theorem DkSt.getC (d : DkSt c m n H0 a l x y cells H) (hcm : c ≠ m) (hcn : c ≠ n) (hmn : m ≠ n) : DGet H a (.str c) (some (.ref l)) := by
  have := DGet.k (k := .inr c) d.dk
  rw [(valV_deck hcm hcn hmn).1] at this
  exact this
theorem DkSt.getM (d : DkSt c m n H0 a l x y cells H) (hcm : c ≠ m) (hcn : c ≠ n) (hmn : m ≠ n) : DGet H a (.str m) (some (.int x)) := by
  have := DGet.k (k := .inr m) d.dk
  rw [(valV_deck hcm hcn hmn).2.1] at this
  exact this
theorem DkSt.getN (d : DkSt c m n H0 a l x y cells H) (hcm : c ≠ m) (hcn : c ≠ n) (hmn : m ≠ n) : DGet H a (.str n) (some (.int y)) := by
  have := DGet.k (k := .inr n) d.dk
  rw [(valV_deck hcm hcn hmn).2.2] at this
  exact this
theorem DkSt.putN (d : DkSt c m n H0 a l x y cells H) (hcn : c ≠ n) (hmn : m ≠ n) (y' : Int) : DPut H a (.str n) (.int y') (upd H a (.dK (deckD c m n l x y'))) := by
  have := DPut.k (k := .inr n) (v := .int y') d.dk (by show 3 < sizeLine; decide)
  rw [putK_deck hcn hmn] at this
  exact this
theorem list_last {cs : List Int} (h : cs ≠ []) : ∃ c, (cs.map V.int)[(cs.map V.int).length - 1]? = some (.int c) := by
  have hp : 0 < cs.length := List.length_pos_iff.mpr h
  rw [List.length_map, List.getElem?_map, List.getElem?_eq_getElem (by omega : cs.length - 1 < cs.length)]
  exact ⟨_, rfl⟩
theorem deck_close {K : PySem.W.Frag} {al : AL} {mu : Mu} {i j : Nat} (mo : MuOk K (deckDK c m n) al H0 mu) (hj : mu[j]? = some (.deck i)) (ha : al[j]? = some (some a)) (hl : al[i]? = some (some l)) (d : DkSt c m n H0 a l x y cells H) :
    Ext al H0 al H ∧ MuOk K (deckDK c m n) al H mu := by
  have ma := List.mem_of_getElem? ha
  have ml := List.mem_of_getElem? hl
  have e : Ext al H0 al H := ⟨⟨[], by simp, by simp⟩, fun b o q z => d.rest b o q (fun w => z (by rw [w]; exact ma)) fun w => z (by rw [w]; exact ml)⟩
  refine ⟨e, mo.len, mo.nd, fun t z q => ?_, mo.hd⟩
  have zz := mo.ok t z q
  have keep : ∀ b, al[t]? = some (some b) → t ≠ j → t ≠ i → ∀ o, H0 b = some o → H b = some o := fun b hb h1 h2 o ho =>
    d.rest b o ho (fun w => h1 (mo.nd t j a (by rw [← w]; exact hb) ha)) fun w => h2 (mo.nd t i l (by rw [← w]; exact hb) hl)
  by_cases e1 : t = j
  · subst e1
    rw [hj] at q
    cases q
    exact ⟨zz.1, a, l, _, _, ha, hl, d.dk, d.cl, x, y, cells, rfl, rfl, d.len⟩
  · by_cases e2 : t = i
    · subst e2
      have w := mo.hd j t hj
      rw [w] at q
      cases q
      exact ⟨l, _, hl, d.cl⟩
    · cases z with
      | lst fs =>
        obtain ⟨b, ys, h1, h2, h3⟩ := zz
        exact ⟨b, ys, h1, keep b h1 e1 e2 _ h2, Reps.ext e _ _ h3⟩
      | deck v =>
        obtain ⟨h0, b, c', o, u, h1, h2, h3, h4, h5⟩ := zz
        have hv := mo.hd t v q
        by_cases e3 : v = i
        · subst e3
          rw [hl] at h2
          cases h2
          obtain ⟨x', y', cs', rfl, rfl, _⟩ := h5
          exact ⟨h0, b, l, _, _, h1, hl, keep b h1 e1 e2 _ h3, d.cl, x', y', cells, rfl, rfl, d.len⟩
        · have e4 : v ≠ j := fun w => by
            rw [w, hj] at hv
            cases hv
          exact ⟨h0, b, c', o, u, h1, h2, keep b h1 e1 e2 _ h3, d.rest c' u h4 (fun w => e4 (mo.nd v j a (by rw [← w]; exact h2) ha)) fun w => e3 (mo.nd v i l (by rw [← w]; exact h2) hl), h5⟩
      | hid =>
        obtain ⟨b, o, h1, h2⟩ := zz
        exact ⟨b, o, h1, keep b h1 e1 e2 _ h2⟩
      | dead => exact zz
/-- a deck is made -/
theorem deck_new {K : PySem.W.Frag} {al : AL} {mu : Mu} (mo : MuOk K (deckDK c m n) al H0 mu) (hne : a ≠ l) (na : H0 a = none) (nl : H0 l = none) (keep : ∀ b o, H0 b = some o → H b = some o) (hd : H a = some (.dK (deckD c m n l x y))) (hc : H l = some (.lst (cells.map V.int))) (hlc : cells.length ≤ 63) :
    Ext al H0 (al ++ [some l, some a]) H ∧ MuOk K (deckDK c m n) (al ++ [some l, some a]) H (mu ++ [.hid, .deck mu.length]) := by
  have e : Ext al H0 (al ++ [some l, some a]) H := ⟨⟨_, rfl, fun b z => by
    have z' : b = l ∨ b = a := by simpa using z
    rcases z' with rfl | rfl
    · exact ⟨mo.free nl, nl⟩
    · exact ⟨mo.free na, na⟩⟩, fun b o q _ => keep b o q⟩
  have hlen := mo.len
  have pl : (al ++ [some l, some a])[al.length]? = some (some l) := by simp
  have pa : (al ++ [some l, some a])[al.length + 1]? = some (some a) := by simp
  have cut : ∀ (i : Nat) z, (al ++ [some l, some a])[i]? = some z → (i < al.length ∧ al[i]? = some z) ∨ (i = al.length ∧ z = some l) ∨ (i = al.length + 1 ∧ z = some a) := fun i z q => by
    by_cases h : i < al.length
    · rw [List.getElem?_append_left h] at q
      exact .inl ⟨h, q⟩
    · rw [List.getElem?_append_right (by omega)] at q
      have h2 := (List.getElem?_eq_some_iff.mp q).1
      have h3 : i - al.length < 2 := h2
      have h4 : i - al.length = 0 ∨ i - al.length = 1 := by omega
      rcases h4 with h4 | h4
      · rw [h4] at q
        cases q
        exact .inr (.inl ⟨by omega, rfl⟩)
      · rw [h4] at q
        cases q
        exact .inr (.inr ⟨by omega, rfl⟩)
  have cutM : ∀ (i : Nat) z, (mu ++ [MO.hid, .deck mu.length])[i]? = some z → (i < mu.length ∧ mu[i]? = some z) ∨ (i = mu.length ∧ z = .hid) ∨ (i = mu.length + 1 ∧ z = .deck mu.length) := fun i z q => by
    by_cases h : i < mu.length
    · rw [List.getElem?_append_left h] at q
      exact .inl ⟨h, q⟩
    · rw [List.getElem?_append_right (by omega)] at q
      have h2 := (List.getElem?_eq_some_iff.mp q).1
      have h3 : i - mu.length < 2 := h2
      have h4 : i - mu.length = 0 ∨ i - mu.length = 1 := by omega
      rcases h4 with h4 | h4
      · rw [h4] at q
        cases q
        exact .inr (.inl ⟨by omega, rfl⟩)
      · rw [h4] at q
        cases q
        exact .inr (.inr ⟨by omega, rfl⟩)
  have ml : some l ∉ al := mo.free nl
  have ma : some a ∉ al := mo.free na
  refine ⟨e, by simp [hlen], fun i j b hi hj => ?_, fun t z q => ?_, fun t j q => ?_⟩
  · rcases cut i _ hi with ⟨h1, h2⟩ | ⟨h1, h2⟩ | ⟨h1, h2⟩ <;> rcases cut j _ hj with ⟨g1, g2⟩ | ⟨g1, g2⟩ | ⟨g1, g2⟩
    · exact mo.nd i j b h2 g2
    · cases g2
      exact absurd (List.mem_of_getElem? h2) ml
    · cases g2
      exact absurd (List.mem_of_getElem? h2) ma
    · cases h2
      exact absurd (List.mem_of_getElem? g2) ml
    · omega
    · cases h2
      cases g2
      exact absurd rfl hne
    · cases h2
      exact absurd (List.mem_of_getElem? g2) ma
    · cases h2
      cases g2
      exact absurd rfl hne
    · omega
  · rcases cutM t z q with ⟨h1, h2⟩ | ⟨h1, rfl⟩ | ⟨h1, rfl⟩
    · exact (mo.ok t z h2).mono e fun b hb => by
        obtain ⟨o, ho⟩ := mo.there hb
        rw [ho, keep b o ho]
    · exact ⟨l, _, by rw [h1, ← hlen]; exact pl, hc⟩
    · exact ⟨by omega, a, l, _, _, by rw [h1, ← hlen]; exact pa, by rw [← hlen]; exact pl, hd, hc, x, y, cells, rfl, rfl, hlc⟩
  · rcases cutM t _ q with ⟨h1, h2⟩ | ⟨h1, h2⟩ | ⟨h1, h2⟩
    · have := mo.hd t j h2
      rw [List.getElem?_append_left (List.getElem?_eq_some_iff.mp this).1]
      exact this
    · cases h2
    · cases h2
      simp
end
theorem shp_ints (ns : List Int) : SeqAt.shaped (.list (ns.map PyData.int)) = true := by
  have h1 : ∀ ns : List Int, PyData.canLayAll0 (ns.map PyData.int) = true := fun ns => by
    induction ns with
    | nil => rfl
    | cons n r ih =>
      rw [List.map_cons]
      unfold PyData.canLayAll0
      rw [ih]
      rfl
  have h2 : ∀ ns : List Int, PyData.depthAll (ns.map PyData.int) = 0 := fun ns => by
    induction ns with
    | nil => rfl
    | cons n r ih =>
      rw [List.map_cons]
      unfold PyData.depthAll
      rw [ih]
      rfl
  unfold SeqAt.shaped PyData.canLay0 PyData.depth
  rw [h1, h2]
  decide
theorem dp_ints {K : PySem.W.Frag} {H : Hp} : ∀ ns : List Int, DpAll K H (ns.map V.int) (ns.map PyData.int)
  | [] => .nil
  | n :: r => .cons (.int n) (dp_ints r)
theorem eqv_nil (ns : List Int) : PyData.eqv (.list (ns.map PyData.int)) (.list []) = ns.isEmpty := by
  cases ns with
  | nil => simp [PyData.eqv, PyData.eqvAll]
  | cons n r => simp [PyData.eqv, PyData.eqvAll]
/-- the promise of a draw -/
def spDraw : DSp := fun bs mu R => ∃ (j i : Nat) (many : Int), bs = [.ref j, .dat (.int many)] ∧ mu[j]? = some (.deck i) ∧ 0 < many ∧ many.natAbs < 2 ^ 8000 ∧ ∀ r : Int, 0 ≤ r → r < many → R (.dat (.int r)) mu
/-- the promise of a deck's making -/
def spDeck : DSp := fun bs mu R => ∃ ns : List Int, bs = [.dat (.list (ns.map PyData.int))] ∧ ns.length ≤ 63 ∧ R (.ref (mu.length + 1)) (mu ++ [.hid, .deck mu.length])
theorem reps_ints {K : PySem.W.Frag} {al : AL} {H : Hp} : ∀ {ns : List Int} {xs : List V}, Reps K al H (ns.map PyData.int) xs → xs = ns.map V.int
  | [], _, h => h
  | n :: r, _, h => by
    obtain ⟨x, y, h1, h2, h3⟩ := h
    have e : x = .int n := h2
    rw [h1, e, reps_ints h3] <;> rfl
theorem ints_reps {K : PySem.W.Frag} {al : AL} {H : Hp} : ∀ ns : List Int, Reps K al H (ns.map PyData.int) (ns.map V.int)
  | [] => rfl
  | n :: r => ⟨.int n, _, rfl, rfl, ints_reps r⟩
theorem at_0 {α : Type} (a : α) (r : List α) : atI (a :: r) 0 = some a := atI_nat (j := 0) rfl
theorem at_1 {α : Type} (a b : α) (r : List α) : atI (a :: b :: r) 1 = some b := atI_nat (j := 1) rfl
theorem at_2 {α : Type} (a b c : α) (r : List α) : atI (a :: b :: c :: r) 2 = some c := atI_nat (j := 2) rfl
theorem at_3 {α : Type} (a b c d : α) (r : List α) : atI (a :: b :: c :: d :: r) 3 = some d := atI_nat (j := 3) rfl
theorem at_4 {α : Type} (a b c d e : α) (r : List α) : atI (a :: b :: c :: d :: e :: r) 4 = some e := atI_nat (j := 4) rfl
theorem at_5 {α : Type} (a b c d e f : α) (r : List α) : atI (a :: b :: c :: d :: e :: f :: r) 5 = some f := atI_nat (j := 5) rfl
theorem isT_int (i : Int) (T : Ty) : isT (.int i) T = decide (T = .int) := by cases T <;> rfl
theorem isT_str (i : Str) (T : Ty) : isT (.str i) T = decide (T = .str) := by cases T <;> rfl
theorem isT_none (T : Ty) : isT .none T = false := by cases T <;> rfl
theorem isT_list (i : List D) (T : Ty) : isT (.list i) T = decide (T = .list) := by cases T <;> rfl
theorem isT_tuple (i : List D) (T : Ty) : isT (.tuple i) T = decide (T = .tuple) := by cases T <;> rfl
theorem isT_bool (b : Bool) (T : Ty) : isT (.bool b) T = (decide (T = .bool) || decide (T = .int)) := by cases T <;> rfl
end DL

set_option Elab.async false
set_option linter.all false
set_option maxRecDepth 100000
set_option maxHeartbeats 4000000
/-! the ends: a law's def called with a script, from the promise FnD -/
namespace DL
open PySem L2 PySem.Spec PyProof.Rows
theorem only_hp (K : PySem.W.Frag) (a : Addr) (u : HO) : ∃ H : Hp, (∀ b o, H b = some o → b = a ∧ o = u ∧ K.lookup a = none) ∧ (K.lookup a = none → H a = some u) := by
  cases hk : K.lookup a with
  | some o => exact ⟨fun _ => none, ⟨fun b o z => (nomatch (show (none : Option HO) = some o from z)), fun z => (nomatch z)⟩⟩
  | none =>
    refine ⟨fun b => if b = a then some u else none, ⟨fun b o z => ?_, fun _ => if_pos rfl⟩⟩
    by_cases hb : b = a
    · have z' := (if_pos hb).symm.trans z
      cases z'
      exact ⟨hb, rfl, rfl⟩
    · have z' := (if_neg hb).symm.trans z
      cases z'
theorem reps_of_ints {K : PySem.W.Frag} {al : AL} {H : Hp} : ∀ ns : List Int, Reps K al H (ns.map PyData.int) (ns.map V.int)
  | [] => rfl
  | n :: r => ⟨_, _, rfl, rfl, reps_of_ints r⟩
theorem law_D {k : Kit} {P : Program} {w : World} {mg mb : Str → Option Value} {r : Nat} {fa a : Addr} {fd : FuncData} {x : Str} {sp : DSp} {s : Shared} {vs : List Value} {ns : List Int}
    (KX : k.K.In s.heap) (hns : s.heap.Ns mainGlobals mg) (hb : s.heap.Ns builtinsNs mb) (hbb : ∀ x : Str, x ≠ "__name__" → mb x = bootBuiltins x) (hlim : s.heap.NoLimit) (hg : s.gens = #[])
    (ha : s.heap.get? a = some { cls := .type "list", data := .seq vs.toArray }) (hi : IntsAre vs ns) (hl : ns.length ≤ sizeLine) (hr : Room r callerA)
    (F : ∀ base : Heap, k.K.In base → base.Ns mainGlobals mg → FnD k P w mg base r fa fd [x] sp) (hbind : ∀ (s : Shared) (u : Value), BindsTo s fd ⟨[u], []⟩ [(x, u)])
    (hsp : ∀ (mu : Mu) (R : B → Mu → Prop), (∀ mu, R (.dat (.bool true)) mu) → sp [.dat (.list (ns.map PyData.int))] mu R) :
    codeAny (model P w) callerA (.call (.ref fa) ⟨[.ref a], []⟩) (fun r s' => r = .ok (.ret (.bool true)) ∧ OldK s.heap s'.heap ∧ s'.os = s.os ∧ AllBare s'.gens) s := by
  obtain ⟨H, hH, hin⟩ := only_hp k.K a (.frz { cls := .type "list", data := .seq vs.toArray } (.lst (ns.map V.int)))
  have rv := vals_ints hi
  have keepB : ∀ {b : Addr} {o : Obj}, s.heap.get? b = some o → H b = none → (hidT s.heap H).get? b = some o := fun e n => hidT_get e n
  have noB : ∀ {b : Addr} {o : Obj} {es : Array DictEntry} {ep : Nat}, s.heap.get? b = some o → o.data = .dict es ep → H b = none := fun {b o es ep} e d => by
    cases q : H b with
    | none => rfl
    | some u =>
      obtain ⟨rfl, _, _⟩ := hH b u q
      rw [ha] at e
      cases e
      have d' : Data.seq vs.toArray _ = Data.dict es ep := d
      cases d'
  have nsB : ∀ {b : Addr} {m : Str → Option Value}, s.heap.Ns b m → (hidT s.heap H).Ns b m := fun {b m} ⟨o, es, ep, e, d, r⟩ => ⟨o, es, ep, keepB e (noB e d), d, r⟩
  have hKb : k.K.In (hidT s.heap H) := fun b o e => keepB (KX b o e) (by
    cases q : H b with
    | none => rfl
    | some u =>
      obtain ⟨rfl, _, hn⟩ := hH b u q
      rw [hn] at e
      cases e)
  have hM : Mod k.K mg (hidT s.heap H) := ⟨hKb, nsB hns, ⟨mb, nsB hb, hbb⟩, let ⟨mc, h1, h2⟩ := hlim; ⟨mc, nsB h1, h2⟩⟩
  have hok : HOk P w H s.heap := fun b u z => by
    obtain ⟨rfl, rfl, _⟩ := hH b u z
    exact ⟨ha, by rw [List.length_map]; exact hl, vs, _, rv, ha⟩
  have e0 : Env0 P w k.K mg (hidT s.heap H) callerA [] s H := ⟨rfl, hM, fun b o e => of_hidT e, Nat.le_of_eq (hidT_size _ _), trivial, fun b hb => absurd (show b ∈ ([] : List Addr) from hb) (by simp), hok, .of_eq hg⟩
  have fz : FzL k.K [] H a (ns.map V.int) := by
    cases hk : k.K.lookup a with
    | none => exact .inl ⟨.inr ⟨_, hin hk⟩, by simp⟩
    | some o =>
      have e := KX a o hk
      rw [ha] at e
      cases e
      exact .inr (.inr ⟨_, vs.toArray, _, hk, rfl, rfl, rfl, by rw [List.size_toArray, hi.length]; exact hl, by simpa using rv⟩)
  have mok : MuOk k.K k.DK [] H [] := ⟨rfl, fun i j b q => by simp at q, fun i m q => by simp at q, fun i j q => by simp at q⟩
  refine codeAny_mono ((F _ hKb (nsB hns)).run callerA [] s H ⟨[.ref a], []⟩ [.ref a] [.ref a] (fun v _ => v = .bl true) hr rfl e0 (hbind s (.ref a)) (.cons rfl .nil)
    ⟨[], [.dat (.list (ns.map PyData.int))], [], fun b _ => b = .dat (.bool true), ⟨_, _, rfl, ⟨a, _, rfl, fz, reps_of_ints ns⟩, rfl⟩, mok, hsp _ _ fun _ => rfl, fun v H' al' b mu' _ _ rb e => by
      subst e
      exact rb⟩) fun r s' h => ?_
  cases r with
  | error e => exact h.elim
  | ok fl =>
    cases fl with
    | next => exact False.elim h
    | brk => exact False.elim h
    | cont => exact False.elim h
    | ret u =>
      obtain ⟨v, H', os, bare, un, hok', r', q⟩ := h
      have q' : v = .bl true := q
      subst q'
      obtain rfl : u = Value.bool true := r'
      refine ⟨rfl, OldK.of_keep fun b o e => ?_, os, bare⟩
      cases q : H b with
      | none => exact un.keep b o e q (by intro z; exact absurd (show b ∈ ([] : List Addr) from z) (by simp)) (by simp)
      | some u =>
        obtain ⟨rfl, rfl, _⟩ := hH b u q
        obtain ⟨e1, _⟩ := hok b _ q
        obtain ⟨e2, _⟩ := hok' b _ (un.frzs b _ _ q)
        rw [e] at e1
        cases e1
        exact e2
theorem walk_D {l : PySem.W.OpenLaw} {n r : Nat} {q : Program} {loose : List Str} {XP : (Str → Option Value) → Heap → Prop} {YP : World → Heap → Prop} {d : DefRec} {K : Params → PySem.W.Frag} {DK : Addr → HO → HO → Prop} {x : Str} {sp : DSp}
    (hn : l.most = some n) (hn2 : n ≤ sizeLine) (hdf : d.params.defaults = []) (hr : Room r callerA)
    (hY : ∀ (w : World) (h : Heap), YP w h → (K w.params).In h)
    (F : ∀ (w : World) (mg : Str → Option Value) (fa : Addr) (h : Heap), (K w.params).In h → h.Ns mainGlobals mg → mg d.name = some (.ref fa) →
      ∃ fd : FuncData, (∀ (s : Shared) (u : Value), BindsTo s fd ⟨[u], []⟩ [(x, u)]) ∧ ∀ base : Heap, (K w.params).In base → base.Ns mainGlobals mg → FnD ⟨K w.params, DK⟩ l.prog w mg base r fa fd [x] sp)
    (hsp : ∀ (ns : List Int), ns.length ≤ n → ∀ (mu : Mu) (R : B → Mu → Prop), (∀ mu, R (.dat (.bool true)) mu) → sp [.dat (.list (ns.map PyData.int))] mu R) :
    PySem.W.WalkO q loose XP YP l.row.toRowW d [] (fun f vs => PySem.call f vs) := by
  refine Att.attach_call hn hdf fun w s₀ s₁ mg mb fa o pm cd doc a vs ns G Y ho hd hcd hmg hobj hints hlen hg => ?_
  have KX := hY w _ Y
  obtain ⟨fd, hb, hF⟩ := F w mg fa _ KX G.T.g hmg
  exact law_D (k := ⟨K w.params, DK⟩) KX G.T.g G.T.b G.T.builtins G.T.nolimit hg hobj hints (Nat.le_trans hlen hn2) hr hF hb (hsp ns hlen)
/-! what stands in the module -/
section
variable {k : Kit} {h : Heap} {mg : Str → Option Value}
theorem fn0_of {K : PySem.W.Frag} {DK : Addr → HO → HO → Prop} {x : Str} {st : Stmt} {ps : List Str} {f : Addr} {oc kV doc pm cdv ct : Value} {od an : Option Addr} {osl : Array (Option Value)} (X : K.In h) (G : h.Ns mainGlobals mg)
    (a : PySem.W.nsIn K mainGlobals x = some (some (.ref f))) (l : K.lookup f = some ⟨oc, od, .func (PySem.W.fnOf x x (defArgs st) (defBody st) (defScope st) .none kV doc pm an cdv ct), osl⟩) (c : PySem.W.codeIn K cdv x = true) (q : PySem.W.keepIn K (.ref f) = true)
    (b : ∀ (kV doc pm : Value) (an : Option Addr) (cdv ct : Value) (us : List Value), us.length = ps.length → bindArgs (PySem.W.fnOf x x (defArgs st) (defBody st) (defScope st) .none kV doc pm an cdv ct) ⟨us, []⟩ = pure (ps.zip us)) : Fn0 ⟨K, DK⟩ mg x st ps :=
  ⟨f, _, fun_mk l c q, PySem.W.mg_of X G a, Fun.binds (fun_mk l c q) b⟩
/-- a tuple of two ints that the module keeps -/
theorem rep_two {K : PySem.W.Frag} {a : Addr} {i j : Int} {t1 t2 : Tok} {od : Option Addr} {n : Nat} {sl : Array (Option Value)} (l : K.lookup a = some ⟨.type "tuple", od, .seq #[.int i t1, .int j t2] n, sl⟩) (al : AL) (H : Hp) : Rep K al H (.tuple [.int i, .int j]) (.ref a) :=
  ⟨a, [.int i, .int j], rfl, .inr (.inr ⟨_, _, n, l, rfl, rfl, by show 2 ≤ sizeLine; decide, .cons ⟨t1, rfl⟩ (.cons ⟨t2, rfl⟩ .nil)⟩), _, _, rfl, rfl, _, _, rfl, rfl, rfl⟩
theorem fun_same {K : PySem.W.Frag} {x q : Str} {st : Stmt} {f : Addr} {fd fd' : FuncData} {oc : Value} {od : Option Addr} {sl : Array (Option Value)} (F : L2.Fun K x q st f fd) (l : K.lookup f = some ⟨oc, od, .func fd', sl⟩) : fd = fd' := by
  obtain ⟨oc2, od2, kV, doc, pm, an, cdv, ct, osl, rfl, lk, hcd⟩ := F.ex
  rw [lk] at l
  cases l
  rfl
end
end DL

set_option Elab.async false
set_option linter.all false
set_option maxRecDepth 100000
set_option maxHeartbeats 4000000
/-! a bool less a bool -/
namespace DL
open PySem L2 PySem.Spec PyProof.Rows
def b2 (c : Bool) : Int := if c = true then 1 else 0
def wSubB : SemO2 := fun b c mu Q => match b, c with
  | .dat (.bool i), .dat (.bool j) => Q (.dat (.int (b2 i - b2 j))) mu
  | _, _ => False
def rSubB : V → V → Hp → VK → Prop := fun x y H Q => ∃ i j, x = .bl i ∧ y = .bl j ∧ Q (.int (b2 i - b2 j)) H
variable {X : Cx} {k : Kit}
theorem op_subB : OpR X (binaryOp .Sub) rSubB := by
  intro pins s σ H x y v u Q I rx ry h
  obtain ⟨i, j, rfl, rfl, q⟩ := h
  cases rx
  cases ry
  exact PyProof.Rows.sub_bool ⟨.int (b2 i - b2 j), H, I.tok _, ⟨_, rfl⟩, q⟩
theorem o_subB : OpD k X (binaryOp .Sub) wSubB := by
  refine ⟨_, op_subB, fun al H x y b c mu Q Q' m rb rc q kk => ?_⟩
  unfold wSubB at q
  split at q
  · exact ⟨_, _, rb, rc, kk _ H al (.dat (.int _)) mu Ext.refl m rfl q⟩
  · exact q.elim
end DL

set_option Elab.async false
set_option linter.all false
set_option maxRecDepth 100000
set_option maxHeartbeats 4000000

namespace My
open PySem L2 DL

def top (i : Nat) : Stmt := PySem.Challenge.pw_darkmoves_k02_floors_signs_and_mixed_fra.main.body.getD i (.Pass ⟨0, 0, 0, 0⟩)
abbrev s_is_int : Stmt := top 5
abbrev s_is_from : Stmt := top 6
abbrev s_is_row : Stmt := top 7
abbrev s_is_fraction_value : Stmt := top 9
abbrev s_low : Stmt := top 10
abbrev s_plus_f : Stmt := top 11
abbrev s_minus_f : Stmt := top 12
abbrev s_times_f : Stmt := top 13
abbrev s_compared_f : Stmt := top 14
abbrev s_floor_f : Stmt := top 15
abbrev s_ceiling_f : Stmt := top 16
abbrev s_mixed_f : Stmt := top 17
abbrev s_need_fraction : Stmt := top 18
abbrev s_need_two : Stmt := top 19
abbrev s_compared : Stmt := top 20
abbrev s_mixed : Stmt := top 21
abbrev s_floor_of : Stmt := top 22
abbrev s_ceiling_of : Stmt := top 23
abbrev s_l_deck : Stmt := top 25
abbrev s_l_draw : Stmt := top 26
abbrev s_l_pick : Stmt := top 27
abbrev s_l_divisor : Stmt := top 28
abbrev s_l_lowest : Stmt := top 29
abbrev s_l_same : Stmt := top 30
abbrev s_l_is_int : Stmt := top 31
abbrev s_l_int : Stmt := top 32
abbrev s_l_is_fraction : Stmt := top 33
abbrev s_l_fraction : Stmt := top 34
abbrev s_l_sign : Stmt := top 35
abbrev s_l_near : Stmt := top 36
abbrev s_l_share : Stmt := top 37
abbrev s_l_is_mixed : Stmt := top 38
abbrev s_law : Stmt := top 39
theorem sc_is_int : FnScope ["thing"] ["thing"] (defScope s_is_int) := ⟨rfl, rfl, rfl, by decide +kernel, rfl, by decide +kernel, by decide +kernel⟩
theorem sc_is_from : FnScope ["thing", "least"] ["thing", "least"] (defScope s_is_from) := ⟨rfl, rfl, rfl, by decide +kernel, rfl, by decide +kernel, by decide +kernel⟩
theorem sc_is_row : FnScope ["thing", "many"] ["thing", "many"] (defScope s_is_row) := ⟨rfl, rfl, rfl, by decide +kernel, rfl, by decide +kernel, by decide +kernel⟩
theorem sc_is_fraction_value : FnScope ["thing"] ["thing"] (defScope s_is_fraction_value) := ⟨rfl, rfl, rfl, by decide +kernel, rfl, by decide +kernel, by decide +kernel⟩
theorem sc_low : FnScope ["n", "d", "common"] ["n", "d"] (defScope s_low) := ⟨rfl, rfl, rfl, by decide +kernel, rfl, by decide +kernel, by decide +kernel⟩
theorem sc_plus_f : FnScope ["one", "other"] ["one", "other"] (defScope s_plus_f) := ⟨rfl, rfl, rfl, by decide +kernel, rfl, by decide +kernel, by decide +kernel⟩
theorem sc_minus_f : FnScope ["one", "other"] ["one", "other"] (defScope s_minus_f) := ⟨rfl, rfl, rfl, by decide +kernel, rfl, by decide +kernel, by decide +kernel⟩
theorem sc_times_f : FnScope ["one", "other"] ["one", "other"] (defScope s_times_f) := ⟨rfl, rfl, rfl, by decide +kernel, rfl, by decide +kernel, by decide +kernel⟩
theorem sc_compared_f : FnScope ["one", "other", "near", "far"] ["one", "other"] (defScope s_compared_f) := ⟨rfl, rfl, rfl, by decide +kernel, rfl, by decide +kernel, by decide +kernel⟩
theorem sc_floor_f : FnScope ["one"] ["one"] (defScope s_floor_f) := ⟨rfl, rfl, rfl, by decide +kernel, rfl, by decide +kernel, by decide +kernel⟩
theorem sc_ceiling_f : FnScope ["one"] ["one"] (defScope s_ceiling_f) := ⟨rfl, rfl, rfl, by decide +kernel, rfl, by decide +kernel, by decide +kernel⟩
theorem sc_mixed_f : FnScope ["one", "other", "share"] ["one", "other", "share"] (defScope s_mixed_f) := ⟨rfl, rfl, rfl, by decide +kernel, rfl, by decide +kernel, by decide +kernel⟩
theorem sc_need_fraction : FnScope ["thing"] ["thing"] (defScope s_need_fraction) := ⟨rfl, rfl, rfl, by decide +kernel, rfl, by decide +kernel, by decide +kernel⟩
theorem sc_need_two : FnScope ["one", "other"] ["one", "other"] (defScope s_need_two) := ⟨rfl, rfl, rfl, by decide +kernel, rfl, by decide +kernel, by decide +kernel⟩
theorem sc_compared : FnScope ["one", "other"] ["one", "other"] (defScope s_compared) := ⟨rfl, rfl, rfl, by decide +kernel, rfl, by decide +kernel, by decide +kernel⟩
theorem sc_mixed : FnScope ["one", "other", "share"] ["one", "other", "share"] (defScope s_mixed) := ⟨rfl, rfl, rfl, by decide +kernel, rfl, by decide +kernel, by decide +kernel⟩
theorem sc_floor_of : FnScope ["one"] ["one"] (defScope s_floor_of) := ⟨rfl, rfl, rfl, by decide +kernel, rfl, by decide +kernel, by decide +kernel⟩
theorem sc_ceiling_of : FnScope ["one"] ["one"] (defScope s_ceiling_of) := ⟨rfl, rfl, rfl, by decide +kernel, rfl, by decide +kernel, by decide +kernel⟩
theorem sc_l_deck : FnScope ["script", "seed", "cell"] ["script"] (defScope s_l_deck) := ⟨rfl, rfl, rfl, by decide +kernel, rfl, by decide +kernel, by decide +kernel⟩
theorem sc_l_draw : FnScope ["deck", "many", "number", "cell"] ["deck", "many"] (defScope s_l_draw) := ⟨rfl, rfl, rfl, by decide +kernel, rfl, by decide +kernel, by decide +kernel⟩
theorem sc_l_pick : FnScope ["deck", "some"] ["deck", "some"] (defScope s_l_pick) := ⟨rfl, rfl, rfl, by decide +kernel, rfl, by decide +kernel, by decide +kernel⟩
theorem sc_l_divisor : FnScope ["one", "other"] ["one", "other"] (defScope s_l_divisor) := ⟨rfl, rfl, rfl, by decide +kernel, rfl, by decide +kernel, by decide +kernel⟩
theorem sc_l_lowest : FnScope ["n", "d", "by"] ["n", "d"] (defScope s_l_lowest) := ⟨rfl, rfl, rfl, by decide +kernel, rfl, by decide +kernel, by decide +kernel⟩
theorem sc_l_same : FnScope ["told", "due", "x", "y"] ["told", "due"] (defScope s_l_same) := ⟨rfl, rfl, rfl, by decide +kernel, rfl, by decide +kernel, by decide +kernel⟩
theorem sc_l_is_int : FnScope ["thing"] ["thing"] (defScope s_l_is_int) := ⟨rfl, rfl, rfl, by decide +kernel, rfl, by decide +kernel, by decide +kernel⟩
theorem sc_l_int : FnScope ["deck", "most", "way", "number", "turn"] ["deck", "most"] (defScope s_l_int) := ⟨rfl, rfl, rfl, by decide +kernel, rfl, by decide +kernel, by decide +kernel⟩
theorem sc_l_is_fraction : FnScope ["thing"] ["thing"] (defScope s_l_is_fraction) := ⟨rfl, rfl, rfl, by decide +kernel, rfl, by decide +kernel, by decide +kernel⟩
theorem sc_l_fraction : FnScope ["deck", "most", "way"] ["deck", "most"] (defScope s_l_fraction) := ⟨rfl, rfl, rfl, by decide +kernel, rfl, by decide +kernel, by decide +kernel⟩
theorem sc_l_sign : FnScope ["one", "other", "near"] ["one", "other"] (defScope s_l_sign) := ⟨rfl, rfl, rfl, by decide +kernel, rfl, by decide +kernel, by decide +kernel⟩
theorem sc_l_near : FnScope ["deck", "one", "n", "d", "far", "some", "near"] ["deck", "one"] (defScope s_l_near) := ⟨rfl, rfl, rfl, by decide +kernel, rfl, by decide +kernel, by decide +kernel⟩
theorem sc_l_share : FnScope ["deck", "most", "d"] ["deck", "most"] (defScope s_l_share) := ⟨rfl, rfl, rfl, by decide +kernel, rfl, by decide +kernel, by decide +kernel⟩
theorem sc_l_is_mixed : FnScope ["one", "other", "share", "told", "a", "b", "c", "d", "s", "t", "low_v", "high"] ["one", "other", "share", "told"] (defScope s_l_is_mixed) := ⟨rfl, rfl, rfl, by decide +kernel, rfl, by decide +kernel, by decide +kernel⟩
theorem sc_law : FnScope ["script", "deck", "turn", "most", "one", "other", "share", "text", "near", "low_v", "high", "due", "told"] ["script"] (defScope s_law) := ⟨rfl, rfl, rfl, by decide +kernel, rfl, by decide +kernel, by decide +kernel⟩
/-- a constant of the module -/
structure Cn (k : Kit) (mg : Str → Option Value) (x : Str) (v : V) (u : Value) (d : D) : Prop where
  m : mg x = some u
  r : RelV v u
  p : ∀ al H, Rep k.K al H d v
structure Tx (k : Kit) (mg : Str → Option Value) : Prop where
  f_is_int : Fn0 k mg "is_int" s_is_int ["thing"]
  f_is_from : Fn0 k mg "is_from" s_is_from ["thing", "least"]
  f_is_row : Fn0 k mg "is_row" s_is_row ["thing", "many"]
  f_is_fraction_value : Fn0 k mg "is_fraction_value" s_is_fraction_value ["thing"]
  f_low : Fn0 k mg "low" s_low ["n", "d"]
  f_plus_f : Fn0 k mg "plus_f" s_plus_f ["one", "other"]
  f_minus_f : Fn0 k mg "minus_f" s_minus_f ["one", "other"]
  f_times_f : Fn0 k mg "times_f" s_times_f ["one", "other"]
  f_compared_f : Fn0 k mg "compared_f" s_compared_f ["one", "other"]
  f_floor_f : Fn0 k mg "floor_f" s_floor_f ["one"]
  f_ceiling_f : Fn0 k mg "ceiling_f" s_ceiling_f ["one"]
  f_mixed_f : Fn0 k mg "mixed_f" s_mixed_f ["one", "other", "share"]
  f_need_fraction : Fn0 k mg "need_fraction" s_need_fraction ["thing"]
  f_need_two : Fn0 k mg "need_two" s_need_two ["one", "other"]
  f_compared : Fn0 k mg "compared" s_compared ["one", "other"]
  f_mixed : Fn0 k mg "mixed" s_mixed ["one", "other", "share"]
  f_floor_of : Fn0 k mg "floor_of" s_floor_of ["one"]
  f_ceiling_of : Fn0 k mg "ceiling_of" s_ceiling_of ["one"]
  f_l_deck : Fn0 k mg "_law_deck" s_l_deck ["script"]
  f_l_draw : Fn0 k mg "_law_draw" s_l_draw ["deck", "many"]
  f_l_pick : Fn0 k mg "_law_pick" s_l_pick ["deck", "some"]
  f_l_divisor : Fn0 k mg "_law_divisor" s_l_divisor ["one", "other"]
  f_l_lowest : Fn0 k mg "_law_lowest" s_l_lowest ["n", "d"]
  f_l_same : Fn0 k mg "_law_same" s_l_same ["told", "due"]
  f_l_is_int : Fn0 k mg "_law_is_int" s_l_is_int ["thing"]
  f_l_int : Fn0 k mg "_law_int" s_l_int ["deck", "most"]
  f_l_is_fraction : Fn0 k mg "_law_is_fraction" s_l_is_fraction ["thing"]
  f_l_fraction : Fn0 k mg "_law_fraction" s_l_fraction ["deck", "most"]
  f_l_sign : Fn0 k mg "_law_sign" s_l_sign ["one", "other"]
  f_l_near : Fn0 k mg "_law_near" s_l_near ["deck", "one"]
  f_l_share : Fn0 k mg "_law_share" s_l_share ["deck", "most"]
  f_l_is_mixed : Fn0 k mg "_law_is_mixed" s_l_is_mixed ["one", "other", "share", "told"]
  f_law : Fn0 k mg "law" s_law ["script"]
  z_abs : mg "abs" = none
  z_bool : mg "bool" = none
  z_int : mg "int" = none
  z_isinstance : mg "isinstance" = none
  z_len : mg "len" = none
  z_list : mg "list" = none
  z_max : mg "max" = none
  z_range : mg "range" = none
  z_repr : mg "repr" = none
  z_str : mg "str" = none
  z_tuple : mg "tuple" = none
  z_zip : mg "zip" = none
  gcd : mg "gcd" = some (.builtin "math.gcd")
section
variable {k : Kit}
theorem kw_ceiling_of_0 : KwOk k "ceiling_of" s_ceiling_of ["one"] ["one"] 0 1 [0] := fun f fd F s us ws h1 h2 => by
  obtain ⟨_, _, _, _, _, _, _, _, _, rfl, _, _⟩ := F.ex
  exact match us, ws, h1, h2 with
    | [], [_], _, _ => .of_eq rfl
theorem kw_floor_of_0 : KwOk k "floor_of" s_floor_of ["one"] ["one"] 0 1 [0] := fun f fd F s us ws h1 h2 => by
  obtain ⟨_, _, _, _, _, _, _, _, _, rfl, _, _⟩ := F.ex
  exact match us, ws, h1, h2 with
    | [], [_], _, _ => .of_eq rfl
theorem kw_compared_0 : KwOk k "compared" s_compared ["one", "other"] ["other", "one"] 0 2 [1, 0] := fun f fd F s us ws h1 h2 => by
  obtain ⟨_, _, _, _, _, _, _, _, _, rfl, _, _⟩ := F.ex
  exact match us, ws, h1, h2 with
    | [], [_, _], _, _ => .of_eq rfl
theorem kw_mixed_0 : KwOk k "mixed" s_mixed ["one", "other", "share"] ["share", "other", "one"] 0 3 [2, 1, 0] := fun f fd F s us ws h1 h2 => by
  obtain ⟨_, _, _, _, _, _, _, _, _, rfl, _, _⟩ := F.ex
  exact match us, ws, h1, h2 with
    | [], [_, _, _], _, _ => .of_eq rfl
end
/-! bounds -/
def Bd (k : Nat) (i : Int) : Prop := i.natAbs < 2 ^ k
theorem Bd.mul {a b : Nat} {i j : Int} (h : Bd a i) (h' : Bd b j) : Bd (a + b) (i * j) := wide_lt h h'
theorem Bd.mono {a b : Nat} {i : Int} (h : Bd a i) (hab : a ≤ b) : Bd b i := Nat.lt_of_lt_of_le h (Nat.pow_le_pow_right (by decide) hab)
theorem Bd.neg {a : Nat} {i : Int} (h : Bd a i) : Bd a (-i) := by
  unfold Bd at *
  rw [Int.natAbs_neg]
  exact h
theorem Bd.add {a : Nat} {i j : Int} (h : Bd a i) (h' : Bd a j) : Bd (a + 1) (i + j) := by
  unfold Bd at *
  rw [Nat.pow_succ]
  omega
theorem Bd.sub {a : Nat} {i j : Int} (h : Bd a i) (h' : Bd a j) : Bd (a + 1) (i - j) := by
  unfold Bd at *
  rw [Nat.pow_succ]
  omega
theorem Bd.le {a : Nat} {i j : Int} (h : Bd a i) (h' : j.natAbs ≤ i.natAbs) : Bd a j := Nat.lt_of_le_of_lt h' h
theorem Bd.ok {a b : Nat} {i j : Int} (h : Bd a i) (h' : Bd b j) (h0 : 0 < a := by decide) (h1 : 0 < b := by decide) (h2 : a + b ≤ 1000000 := by decide) : IntMulOk i j := (wide_mul h h' h0 h1 h2).ok
theorem Bd.log {a : Nat} {i : Int} (h : Bd a i) (h0 : 0 < a := by decide) (h9 : a ≤ 9000 := by decide) : i.natAbs.log2 < 9000 := Nat.lt_of_lt_of_le (PySem.Flt.log2_lt_of h0 h) h9
theorem Bd.small {i : Int} (h : i.natAbs < 18446744073709551616) : Bd 64 i := h
/-! fractions -/
abbrev fr (n d : Int) : D := .tuple [.int n, .int d]
def IsFr (n d : Int) : Prop := 1 ≤ d ∧ Nat.gcd n.natAbs d.natAbs = 1
def FrOf (p q n d : Int) : Prop := IsFr n d ∧ n * q = p * d
theorem fr_unique {n d n' d' : Int} (h : IsFr n d) (h' : IsFr n' d') (e : n * d' = n' * d) : n = n' ∧ d = d' := by
  have key : ∀ {n d n' d' : Int}, IsFr n d → IsFr n' d' → n * d' = n' * d → d.natAbs ∣ d'.natAbs := fun {n d n' d'} h h' e => by
    have e2 : n.natAbs * d'.natAbs = n'.natAbs * d.natAbs := by rw [← Int.natAbs_mul, ← Int.natAbs_mul, e]
    have dv : d.natAbs ∣ n.natAbs * d'.natAbs := ⟨n'.natAbs, by rw [e2, Nat.mul_comm]⟩
    have co : Nat.Coprime d.natAbs n.natAbs := by
      unfold Nat.Coprime
      rw [Nat.gcd_comm]
      exact h.2
    exact co.dvd_of_dvd_mul_left dv
  have h1 := key h h' e
  have h2 := key h' h e.symm
  have h3 := Nat.dvd_antisymm h1 h2
  have hd := h.1
  have hd' := h'.1
  have ed : d = d' := by omega
  subst ed
  exact ⟨Int.eq_of_mul_eq_mul_right (by omega) e, rfl⟩
theorem FrOf.unique {p q n d n' d' : Int} (hq : q ≠ 0) (h : FrOf p q n d) (h' : FrOf p q n' d') : n = n' ∧ d = d' := by
  refine fr_unique h.1 h'.1 ?_
  have h1 := h.2
  have h2 := h'.2
  have e : (n * d') * q = (n' * d) * q := by
    have a1 : (n * d') * q = (n * q) * d' := by rw [Int.mul_assoc, Int.mul_comm d' q, ← Int.mul_assoc]
    have a2 : (n' * d) * q = (n' * q) * d := by rw [Int.mul_assoc, Int.mul_comm d q, ← Int.mul_assoc]
    rw [a1, a2, h1, h2, Int.mul_assoc, Int.mul_assoc, Int.mul_comm d d']
  exact Int.eq_of_mul_eq_mul_right hq e
theorem FrOf.le {p q n d : Int} (hq : q ≠ 0) (h : FrOf p q n d) : n.natAbs ≤ p.natAbs ∧ d.natAbs ≤ q.natAbs := by
  have e2 : n.natAbs * q.natAbs = p.natAbs * d.natAbs := by rw [← Int.natAbs_mul, ← Int.natAbs_mul, h.2]
  have co : Nat.Coprime d.natAbs n.natAbs := by
    unfold Nat.Coprime
    rw [Nat.gcd_comm]
    exact h.1.2
  have dv : d.natAbs ∣ q.natAbs := co.dvd_of_dvd_mul_left ⟨p.natAbs, by rw [e2, Nat.mul_comm]⟩
  obtain ⟨t, ht⟩ := dv
  have hd := h.1.1
  have hq' : 0 < q.natAbs := by omega
  have t0 : 0 < t := by
    cases t with
    | zero => rw [ht] at hq'; omega
    | succ t => omega
  have hd0 : 0 < d.natAbs := by omega
  have e3 : n.natAbs * t = p.natAbs := by
    have a : (n.natAbs * t) * d.natAbs = p.natAbs * d.natAbs := by rw [← e2, ht, Nat.mul_assoc, Nat.mul_comm t]
    exact Nat.eq_of_mul_eq_mul_right hd0 a
  constructor
  · rw [← e3]
    exact Nat.le_mul_of_pos_right _ t0
  · rw [ht]
    exact Nat.le_mul_of_pos_right _ t0
theorem frOf_self {n d : Int} (h : IsFr n d) : FrOf n d n d := ⟨h, rfl⟩
theorem isFr_one (n : Int) : IsFr n 1 := ⟨by decide, by simp⟩
/-- what is divided by the greatest common divisor, with the sign -/
theorem low_ok {n d c : Int} (hd : d ≠ 0) (hc : c = if d < 0 then -((Nat.gcd n.natAbs d.natAbs : Nat) : Int) else ((Nat.gcd n.natAbs d.natAbs : Nat) : Int)) : c ≠ 0 ∧ c.natAbs ≤ d.natAbs ∧ FrOf n d (n.fdiv c) (d.fdiv c) := by
  have hg : 0 < Nat.gcd n.natAbs d.natAbs := Nat.gcd_pos_of_pos_right _ (by omega)
  have hle : Nat.gcd n.natAbs d.natAbs ≤ d.natAbs := Nat.le_of_dvd (by omega) (Nat.gcd_dvd_right _ _)
  obtain ⟨x, hx⟩ := Int.ofNat_dvd_left.mpr (Nat.gcd_dvd_left n.natAbs d.natAbs)
  obtain ⟨y, hy⟩ := Int.ofNat_dvd_left.mpr (Nat.gcd_dvd_right n.natAbs d.natAbs)
  generalize hgg : Nat.gcd n.natAbs d.natAbs = g at *
  have main : ∀ (x' y' : Int), n = c * x' → d = c * y' → c ≠ 0 → 1 ≤ y' → c.natAbs = g → FrOf n d (n.fdiv c) (d.fdiv c) := by
    intro x' y' ex ey c0 y1 cg
    have e1 : n.fdiv c = x' := by rw [ex]; exact Int.mul_fdiv_cancel_left _ c0
    have e2 : d.fdiv c = y' := by rw [ey]; exact Int.mul_fdiv_cancel_left _ c0
    rw [e1, e2]
    refine ⟨⟨y1, ?_⟩, ?_⟩
    · have a1 : n.natAbs = g * x'.natAbs := by rw [ex, Int.natAbs_mul, cg]
      have a2 : d.natAbs = g * y'.natAbs := by rw [ey, Int.natAbs_mul, cg]
      rw [a1, a2, Nat.gcd_mul_left] at hgg
      have : g * Nat.gcd x'.natAbs y'.natAbs = g * 1 := by omega
      exact Nat.eq_of_mul_eq_mul_left hg this
    · rw [ex, ey, Int.mul_comm c x', Int.mul_assoc, Int.mul_comm x' (c * y')]
  by_cases h : d < 0
  · rw [if_pos h] at hc
    refine ⟨by omega, by omega, main (-x) (-y) ?_ ?_ (by omega) ?_ (by omega)⟩
    · rw [hc, Int.neg_mul_neg]; exact hx
    · rw [hc, Int.neg_mul_neg]; exact hy
    · have : y < 0 := by
        rcases Int.lt_or_le y 0 with z | z
        · exact z
        · have := Int.mul_nonneg (by omega : (0 : Int) ≤ (g : Int)) z
          omega
      omega
  · rw [if_neg h] at hc
    refine ⟨by omega, by omega, main x y ?_ ?_ (by omega) ?_ (by omega)⟩
    · rw [hc]; exact hx
    · rw [hc]; exact hy
    · rcases Int.lt_or_le y 1 with z | z
      · have : (g : Int) * y ≤ 0 := Int.mul_nonpos_of_nonneg_of_nonpos (by omega) (by omega)
        omega
      · exact z
theorem shp_fr (n d : Int) : Shp (fr n d) := by
  unfold Shp fr SeqAt.shaped
  simp [PyData.canLay0, PyData.canLayAll0, PyData.depth, PyData.depthAll]
theorem shp_int (n : Int) : Shp (.int n) := by
  unfold Shp SeqAt.shaped
  simp [PyData.canLay0, PyData.depth]
theorem shp_bool (n : Bool) : Shp (.bool n) := by
  unfold Shp SeqAt.shaped
  simp [PyData.canLay0, PyData.depth]
theorem eqv_int (a b : Int) : PyData.eqv (.int a) (.int b) = decide (a = b) := by
  unfold PyData.eqv
  by_cases h : a = b <;> simp [h]
theorem eqv_bool (a b : Bool) : PyData.eqv (.bool a) (.bool b) = decide (a = b) := by
  cases a <;> cases b <;> simp [PyData.eqv]
theorem eqv_fr (a b c d : Int) : PyData.eqv (fr a b) (fr c d) = (decide (a = c) && decide (b = d)) := by
  have e : PyData.eqv (fr a b) (fr c d) = (PyData.eqv (.int a) (.int c) && PyData.eqv (.int b) (.int d)) := by
    simp [PyData.eqv, PyData.eqvAll]
  rw [e, eqv_int, eqv_int]

theorem sz_0 : (0 ≤ sizeLine) = True := eq_true (by decide)
theorem sz_1 : (1 ≤ sizeLine) = True := eq_true (by decide)
theorem sz_2 : (2 ≤ sizeLine) = True := eq_true (by decide)
theorem sz_3 : (3 ≤ sizeLine) = True := eq_true (by decide)
theorem sz_4 : (4 ≤ sizeLine) = True := eq_true (by decide)
theorem sz_5 : (5 ≤ sizeLine) = True := eq_true (by decide)
theorem sz_6 : (6 ≤ sizeLine) = True := eq_true (by decide)
theorem sz_11 : (11 ≤ sizeLine) = True := eq_true (by decide)
theorem shpE_int (n : Int) : Shp (.int n) = True := eq_true (shp_int n)
theorem shpE_bool (n : Bool) : Shp (.bool n) = True := eq_true (shp_bool n)
theorem shpE_fr (n d : Int) : Shp (.tuple [.int n, .int d]) = True := eq_true (shp_fr n d)
/-- data that _law_same looks at: ints, tuples of such -/
def okS : Nat → D → Prop
  | _, .int _ => True
  | n + 1, .tuple ds => ∀ d ∈ ds, okS n d
  | _, _ => False
theorem at_in {ds : List D} {r : Int} (h0 : 0 ≤ r) (h1 : r < (ds.length : Int)) : ∃ d ∈ ds, atI ds r = some d := by
  have hlt : r.toNat < ds.length := by omega
  refine ⟨ds[r.toNat], List.getElem_mem hlt, ?_⟩
  have e := atI_nat (List.getElem?_eq_getElem hlt)
  rw [Int.toNat_of_nonneg h0] at e
  exact e
theorem pick_bd {n : Nat} (h : n < 1000) : ((n : Nat) : Int).natAbs < 2 ^ 8000 := by
  rw [Int.natAbs_natCast]
  exact Nat.lt_of_lt_of_le h (Nat.le_trans (by decide : 1000 ≤ 2 ^ 10) (Nat.pow_le_pow_right (by decide) (by decide)))
theorem gcd_step {x y : Int} (hx : 0 ≤ x) (hy : 0 < y) : Nat.gcd y.natAbs (x.fmod y).natAbs = Nat.gcd x.natAbs y.natAbs := by
  rw [Int.fmod_eq_emod_of_nonneg x (by omega), Int.natAbs_emod_of_nonneg hx, Nat.gcd_comm, ← Nat.gcd_rec, Nat.gcd_comm]
instance {k : Nat} {i : Int} : Decidable (Bd k i) := by
  unfold Bd
  infer_instance
theorem zip_self {ds : List D} {i : Nat} {d : D} (h : (zipD ds ds)[i]? = some d) : ∃ x ∈ ds, d = .tuple [x, x] := by
  obtain ⟨a, b, h1, h2, rfl⟩ := zipD_get h
  rw [h1] at h2
  cases h2
  exact ⟨a, List.mem_of_getElem? h1, rfl⟩
theorem drawn {j i : Nat} {mu : Mu} {R : B → Mu → Prop} {m : Int} (hj : mu[j]? = some (.deck i)) (h : ∀ r : Int, 0 ≤ r → r < m → R (.dat (.int r)) mu) (h0 : 0 < m := by decide) (h1 : m.natAbs < 18446744073709551616 := by decide) : spDraw [.ref j, .dat (.int m)] mu R :=
  ⟨j, i, m, rfl, hj, h0, (Bd.small h1).mono (by decide), h⟩
theorem bd_of {k : Nat} {i : Int} (h : i.natAbs < 18446744073709551616) (hk : 64 ≤ k := by decide) : Bd k i := (Bd.small h).mono hk
theorem step_int {n r : Int} {i : Nat} (h0 : 0 ≤ n) (h : n < 2 ^ (30 * i)) (r0 : 0 ≤ r) (r1 : r < 1000000000) : 0 ≤ n * 1000000000 + r ∧ n * 1000000000 + r < 2 ^ (30 * (i + 1)) := by
  have e : (2 : Int) ^ (30 * (i + 1)) = 2 ^ (30 * i) * 1073741824 := by rw [Nat.mul_add, Int.pow_add]; rfl
  rw [e]
  generalize (2 : Int) ^ (30 * i) = x at *
  omega
theorem bd_pow {n : Int} {k : Nat} (h0 : 0 ≤ n) (h : n < 2 ^ k) : Bd k n := by
  unfold Bd
  have e : ((n.natAbs : Nat) : Int) < ((2 ^ k : Nat) : Int) := by
    rw [Int.natCast_pow, Int.natAbs_of_nonneg h0]
    exact h
  exact Int.ofNat_lt.mp e
theorem pow_mono {i j : Nat} (h : i ≤ j) {n : Int} (hn : n < 2 ^ i) : n < 2 ^ j := Int.lt_of_lt_of_le hn (by
  have := Nat.pow_le_pow_right (n := 2) (by decide) h
  have e := Int.ofNat_le.mpr this
  rw [Int.natCast_pow, Int.natCast_pow] at e
  exact e)
theorem frOf_bd {k : Nat} {p q n d : Int} (hq : q ≠ 0) (hf : FrOf p q n d) (bp : Bd k p) (bq : Bd k q) : Bd k n ∧ Bd k d := ⟨bp.le (hf.le hq).1, bq.le (hf.le hq).2⟩
theorem isFr_neg {a b : Int} (h : IsFr a b) : IsFr (-a) b := ⟨h.1, by rw [Int.natAbs_neg]; exact h.2⟩
theorem isFr_add {a b : Int} (h : IsFr a b) : IsFr (a + b) b := ⟨h.1, by
  have e : Int.gcd (a + b) b = Int.gcd a b := by simp
  unfold Int.gcd at e
  rw [e]
  exact h.2⟩
theorem eqvL_nil : PyData.eqv (.list []) (.list []) = true := by simp [PyData.eqv, PyData.eqvAll]
theorem shp_nil : Shp (.list []) := by
  unfold Shp SeqAt.shaped
  simp [PyData.canLay0, PyData.canLayAll0, PyData.depth, PyData.depthAll]
theorem int_len {k : Nat} {i : Int} (h : Bd k i) (h0 : 0 < k) : (PyData.int i).shown.length ≤ k + 1 := by
  show (Str.ofString (toString i)).length ≤ _
  rw [PySem.ofString_length]
  exact int_text_length_le h0 (PySem.Flt.log2_lt_of h0 h)
theorem pair_len (a b : D) : (PyData.tuple [a, b]).shown.length = a.shown.length + b.shown.length + 4 := by
  show (("(" : Str) ++ (a.shown ++ ", " ++ b.shown) ++ ((")" : String) : Str)).length = _
  rw [Str.length_append, Str.length_append, Str.length_append, Str.length_append]
  have e1 : (("(" : String) : Str).length = 1 := rfl
  have e2 : ((", " : String) : Str).length = 2 := rfl
  have e3 : ((")" : String) : Str).length = 1 := rfl
  omega
theorem int_shows {i : Int} (h : Bd 1900 i) : (PyData.int i).showable = true := by
  have := h.log (h9 := by decide)
  have h2 : i.natAbs.log2 < 1920 := Nat.lt_of_lt_of_le (PySem.Flt.log2_lt_of (by decide) h) (by decide)
  simp [PyData.showable, h2]
theorem reprOk_two {a b c d : Int} (h1 : Bd 1900 a) (h2 : Bd 1900 b) (h3 : Bd 1900 c) (h4 : Bd 1900 d) : ReprOk (.tuple [fr a b, fr c d]) := by
  refine ⟨?_, ?_, ?_, ?_⟩
  · have e1 := int_shows h1
    have e2 := int_shows h2
    have e3 := int_shows h3
    have e4 := int_shows h4
    simp [PyData.showable, PyData.showableAll] at e1 e2 e3 e4 ⊢
    exact ⟨⟨e1, e2⟩, e3, e4⟩
  · simp [PyData.hasDict, PyData.hasDictAll]
  · simp [PyData.depth, PyData.depthAll]
  · rw [pair_len, pair_len, pair_len]
    have e1 := int_len h1 (by decide)
    have e2 := int_len h2 (by decide)
    have e3 := int_len h3 (by decide)
    have e4 := int_len h4 (by decide)
    rw [sizeLine_eq]
    omega
theorem back_fr {a b c d p q : Int} (hb : b ≠ 0) (h : p * (b * d) = (a * d + c * b) * q) : a * (q * d) = (p * d - c * q) * b := by
  have e1 : (p * d - c * q) * b = p * (b * d) - c * b * q := by
    rw [Int.sub_mul, Int.mul_assoc p d b, Int.mul_comm d b, Int.mul_assoc c q b, Int.mul_comm q b, ← Int.mul_assoc c b q]
  rw [e1, h, Int.add_mul, Int.add_sub_cancel, Int.mul_assoc a d q, Int.mul_comm d q]
theorem eqv_str (a b : Str) : PyData.eqv (.str a) (.str b) = decide (a = b) := by
  unfold PyData.eqv
  by_cases h : a = b <;> simp [h]
theorem sok_of (s : String) : PyData.strOk (Str.ofString s) = true := by
  rw [Str.ofString_eq_toList]
  unfold PyData.strOk
  simp only [List.all_toArray, List.all_map, List.all_eq_true]
  intro c _
  have h := c.valid
  have : c.toNat < 0x110000 := by
    unfold UInt32.isValidChar Nat.isValidChar at h
    show c.val.toNat < _
    omega
  simp only [Function.comp]
  exact decide_eq_true this
theorem sok_append {a b : Str} (ha : PyData.strOk a = true) (hb : PyData.strOk b = true) : PyData.strOk (a ++ b) = true := by
  unfold PyData.strOk at *
  rw [Str.cps_append, Array.all_append, ha, hb]
  rfl
theorem sok_pair {a b : D} (ha : PyData.strOk a.shown = true) (hb : PyData.strOk b.shown = true) : PyData.strOk (PyData.tuple [a, b]).shown = true :=
  sok_append (sok_append (sok_of _) (sok_append (sok_append ha (sok_of _)) hb)) (sok_of _)
theorem sok_int (i : Int) : PyData.strOk (PyData.int i).shown = true := sok_of _
theorem sok_two (a b c d : Int) : Shp (.str (PyData.tuple [fr a b, fr c d]).shown) := by
  have := sok_pair (sok_pair (sok_int a) (sok_int b)) (sok_pair (sok_int c) (sok_int d))
  unfold Shp SeqAt.shaped
  simp [PyData.canLay0, PyData.depth, this]
def sgn (x : Int) : Int := if x = 0 then 0 else if 0 < x then 1 else -1
theorem sgn_le {x : Int} (h : x ≤ 0) : sgn x ≤ 0 := by
  unfold sgn
  split
  · omega
  · split <;> omega
theorem sgn_ge {x : Int} (h : 0 ≤ x) : 0 ≤ sgn x := by
  unfold sgn
  split
  · omega
  · split <;> omega
theorem sgn_le' {x : Int} (h : sgn x ≤ 0) : x ≤ 0 := by
  unfold sgn at h
  split at h
  · omega
  · split at h <;> omega
theorem sgn_gt' {x : Int} (h : ¬ sgn x ≤ 0) : 0 ≤ x := by
  unfold sgn at h
  split at h
  · omega
  · split at h <;> omega
theorem sgn_neg (x : Int) : sgn (-x) = - sgn x := by
  unfold sgn
  by_cases h : x = 0
  · simp [h]
  · rw [if_neg h, if_neg (by omega)]
    split <;> split <;> omega
theorem sgn_zero : sgn 0 = 0 := rfl
theorem b2_sgn (x y : Int) : b2 (decide (y < x)) - b2 (decide (x < y)) = sgn (x - y) := by
  unfold b2 sgn
  rcases Int.lt_trichotomy x y with h | h | h
  · rw [decide_eq_false (by omega : ¬ y < x), decide_eq_true h, if_neg (by omega : ¬ x - y = 0), if_neg (by omega : ¬ 0 < x - y)]
    rfl
  · subst h
    simp
  · rw [decide_eq_true h, decide_eq_false (by omega : ¬ x < y), if_neg (by omega : ¬ x - y = 0), if_pos (by omega : 0 < x - y)]
    rfl
theorem flr_ok {a b : Int} (hb : 1 ≤ b) : a / b * b ≤ a ∧ a < (a / b + 1) * b := by
  have h1 := Int.emod_add_mul_ediv a b
  have h2 := Int.emod_nonneg a (by omega : b ≠ 0)
  have h3 := Int.emod_lt_of_pos a (by omega : 0 < b)
  rw [Int.mul_comm] at h1
  have h4 : (a / b + 1) * b = a / b * b + b := by rw [Int.add_mul, Int.one_mul]
  omega
theorem cel_ok {a b : Int} (hb : 1 ≤ b) : (-(-a / b) - 1) * b < a ∧ a ≤ -(-a / b) * b := by
  have h := flr_ok (a := -a) hb
  generalize (-a) / b = q at *
  have h1 : (-q - 1) * b = -((q + 1) * b) := by rw [← Int.neg_mul, Int.neg_add]; rfl
  have h2 : -q * b = -(q * b) := Int.neg_mul q b
  omega
theorem mix_of {a b c d s t x y u v n m : Int} (hv : v ≠ 0) (hy : y ≠ 0) (h1 : n * (b * v) = (a * v + u * b) * m) (h2 : u * (t * y) = s * x * v) (h3 : x * (d * b) = (c * b - a * d) * y) :
    n * (b * d * t) = ((t - s) * a * d + s * c * b) * m := by
  have h0 : v * y ≠ 0 := Int.mul_ne_zero hv hy
  refine Int.eq_of_mul_eq_mul_right h0 ?_
  grind
theorem mix_lo {a b c d s t n m : Int} (hm : 1 ≤ m) (hd : 1 ≤ d) (ht : 1 ≤ t) (hs : 0 ≤ s) (h : n * (b * d * t) = ((t - s) * a * d + s * c * b) * m) (hl : a * d ≤ c * b) : a * m ≤ n * b := by
  have e : (n * b - a * m) * (d * t) = s * m * (c * b - a * d) := by grind
  have p : 0 ≤ s * m * (c * b - a * d) := Int.mul_nonneg (Int.mul_nonneg hs (by omega)) (by omega)
  have q : 0 < d * t := Int.mul_pos (by omega) (by omega)
  rw [← e] at p
  have := Int.nonneg_of_mul_nonneg_left p q
  omega
theorem mix_hi {a b c d s t n m : Int} (hm : 1 ≤ m) (hb : 1 ≤ b) (ht : 1 ≤ t) (hs : s ≤ t) (h : n * (b * d * t) = ((t - s) * a * d + s * c * b) * m) (hl : a * d ≤ c * b) : n * d ≤ c * m := by
  have e : (c * m - n * d) * (b * t) = (t - s) * m * (c * b - a * d) := by grind
  have p : 0 ≤ (t - s) * m * (c * b - a * d) := Int.mul_nonneg (Int.mul_nonneg (by omega) (by omega)) (by omega)
  have q : 0 < b * t := Int.mul_pos (by omega) (by omega)
  rw [← e] at p
  have := Int.nonneg_of_mul_nonneg_left p q
  omega
theorem fdiv_bd {a b : Int} (hb : 1 ≤ b) : (a.fdiv b).natAbs ≤ a.natAbs := by
  rw [Int.fdiv_eq_ediv_of_nonneg _ (by omega)]
  have ⟨h1, h2⟩ := flr_ok (a := a) hb
  generalize a / b = q at *
  rcases Int.lt_or_le q 0 with z | z
  · have h3 : 0 ≤ (-(q + 1)) * (b - 1) := Int.mul_nonneg (by omega) (by omega)
    have h4 : (-(q + 1)) * (b - 1) = -((q + 1) * b) + (q + 1) := by grind
    omega
  · have h3 : 0 ≤ q * (b - 1) := Int.mul_nonneg z (by omega)
    have h4 : q * (b - 1) = q * b - q := by grind
    omega
theorem tri_len (a b c : D) : (PyData.tuple [a, b, c]).shown.length = a.shown.length + b.shown.length + c.shown.length + 6 := by
  show (("(" : Str) ++ (a.shown ++ ", " ++ (b.shown ++ ", " ++ c.shown)) ++ ((")" : String) : Str)).length = _
  simp only [Str.length_append]
  have e1 : (("(" : String) : Str).length = 1 := rfl
  have e2 : ((", " : String) : Str).length = 2 := rfl
  have e3 : ((")" : String) : Str).length = 1 := rfl
  omega
theorem fr_len {a b : Int} (h1 : Bd 1900 a) (h2 : Bd 1900 b) : (fr a b).shown.length ≤ 3806 := by
  rw [pair_len]
  have e1 := int_len h1 (by decide)
  have e2 := int_len h2 (by decide)
  omega
theorem reprOk_three {a b c d s t : Int} (h1 : Bd 1900 a) (h2 : Bd 1900 b) (h3 : Bd 1900 c) (h4 : Bd 1900 d) (h5 : Bd 1900 s) (h6 : Bd 1900 t) : ReprOk (.tuple [fr a b, fr c d, fr s t]) := by
  refine ⟨?_, ?_, ?_, ?_⟩
  · have e1 := int_shows h1
    have e2 := int_shows h2
    have e3 := int_shows h3
    have e4 := int_shows h4
    have e5 := int_shows h5
    have e6 := int_shows h6
    simp [PyData.showable, PyData.showableAll] at e1 e2 e3 e4 e5 e6 ⊢
    exact ⟨⟨e1, e2⟩, ⟨e3, e4⟩, e5, e6⟩
  · simp [PyData.hasDict, PyData.hasDictAll]
  · simp [PyData.depth, PyData.depthAll]
  · rw [tri_len]
    have e1 := fr_len h1 h2
    have e2 := fr_len h3 h4
    have e3 := fr_len h5 h6
    rw [sizeLine_eq]
    omega
theorem sok_three (a b c d s t : Int) : Shp (.str (PyData.tuple [fr a b, fr c d, fr s t]).shown) := by
  have e1 := sok_pair (sok_int a) (sok_int b)
  have e2 := sok_pair (sok_int c) (sok_int d)
  have e3 := sok_pair (sok_int s) (sok_int t)
  have e : PyData.strOk (PyData.tuple [fr a b, fr c d, fr s t]).shown = true :=
    sok_append (sok_append (sok_of _) (sok_append (sok_append e1 (sok_of _)) (sok_append (sok_append e2 (sok_of _)) e3))) (sok_of _)
  unfold Shp SeqAt.shaped
  simp [PyData.canLay0, PyData.depth, e]
local macro_rules | `(tactic| walk_at "st") => `(tactic| simp only [startE_eq, Nat.reduceAdd, Nat.reduceSub, Nat.zero_add, List.replicate_succ, List.replicate_zero, List.cons_append, List.nil_append, List.append_nil, List.map_cons, List.map_nil, List.length_cons, List.length_nil])
local macro_rules | `(tactic| walk_at "dl") => `(tactic| simp only [sSeq, sAsg, sGN, sVar, sC, sOp2, wSubB, wI, wIC, wIB, wEq, wNe, wIsB, wIsN, isNon, sCut, sComp, wipeE, wAbs, wNotN, wIx, sCall, sCallK, sCons, sNil, sTup, sLst, dats, sIf, sIfS, sAnd, sOr, sNot, sAndV, sOrV, sNotV, sTst, sBi, wF1, wF2, wLen, wRepr, sIsi, sIsi2, sChain, sNeg, sRet, sRetN, sDrop, sSkip, sNo, sPar, sPar3, sGT, sGcons, sGnil, sFor, sRng1, sRng2, sZip, sIt, fnEnds, retK, Nat.reduceAdd, Nat.reduceSub, Nat.zero_add, List.replicate_succ, List.replicate_zero, List.cons_append, List.nil_append, List.append_nil, List.take_length, List.map_cons, List.map_nil, List.length_cons, List.length_nil, List.getElem?_cons_zero, List.getElem?_cons_succ, List.set_cons_zero, List.set_cons_succ, Option.map_some, Option.map_none, if_true, Bool.false_eq_true, if_false, and_true, true_and, isT_int, isT_tuple, isT_list, isT_str, isT_bool, isT_none, reduceCtorEq, decide_true, decide_false, Bool.not_true, Bool.not_false, Bool.or_true, Bool.or_false, Bool.true_or, Bool.false_or, pick, List.filterMap_cons, List.filterMap_nil, and_self, at_0, at_1, at_2, at_3, at_4, at_5, shpE_int, shpE_bool, shpE_fr, eqv_int, eqv_bool, eqv_fr, eqv_str, decide_true, Bool.and_eq_true, decide_eq_true_eq, sz_0, sz_1, sz_2, sz_3, sz_4, sz_5, sz_6, sz_11])

section
variable {k : Kit} {P : Program} {w : World} {mg : Str → Option Value} {base : Heap}
/-! is_int -/
def sp_is_int : DSp := fun bs mu R => ∃ d, bs = [.dat d] ∧ R (.dat (.bool (isT d .int && !isT d .bool))) mu
theorem ok_is_int (T : Tx k mg) : FnIn k P w mg base 1 "is_int" s_is_int ["thing"] sp_is_int := by
  refine fnIn_of T.f_is_int sc_is_int (fun bs mu R h => ?_) ⟨_, fun f cdv A outer s H E C => (s_one (s_ret (d_and (d_isi (T := .int) C.hK (d_var (i := 0) rfl (Or.inl rfl)) rfl T.z_isinstance rfl T.z_int PyProof.Rows.boot_int) (d_one (d_not (d_isi (T := .bool) C.hK (d_var (i := 0) rfl (Or.inl rfl)) rfl T.z_isinstance rfl T.z_bool PyProof.Rows.boot_bool)))))), fun bs mu R h => ?_⟩
  · obtain ⟨d, rfl, h⟩ := h
    rfl
  · obtain ⟨d, rfl, h⟩ := h
    walk_at "st"
    walk_at "dl"
    cases hd : isT d .int with
    | true =>
      rw [hd] at h
      exact h
    | false =>
      rw [hd] at h
      exact h
/-! is_from -/
def sp_is_from : DSp := fun bs mu R => ∃ i l : Int, bs = [.dat (.int i), .dat (.int l)] ∧ R (.dat (.bool (decide (l ≤ i)))) mu
theorem ok_is_from (T : Tx k mg) (G_is_int : FnIn k P w mg base 1 "is_int" s_is_int ["thing"] sp_is_int) : FnIn k P w mg base 2 "is_from" s_is_from ["thing", "least"] sp_is_from := by
  refine fnIn_of T.f_is_from sc_is_from (fun bs mu R h => ?_) ⟨_, fun f cdv A outer s H E C => (s_one (s_ret (d_and (d_call C G_is_int rfl (a_cons (d_var (i := 0) rfl (Or.inl rfl)) a_nil)) (d_one (d_cmp o_ge (d_var (i := 0) rfl (Or.inl rfl)) (d_var (i := 1) rfl (Or.inl rfl)) (nomark _)))))), fun bs mu R h => ?_⟩
  · obtain ⟨i, l, rfl, h⟩ := h
    rfl
  · obtain ⟨i, l, rfl, h⟩ := h
    walk_at "st"
    walk_at "dl"
    refine ⟨_, rfl, ?_⟩
    walk_at "dl"
    exact h
/-! is_row -/
def sp_is_row : DSp := fun bs mu R => ∃ ds m, bs = [.dat (.tuple ds), .dat (.int m)] ∧ R (.dat (.bool (decide ((ds.length : Int) = m)))) mu
theorem ok_is_row (T : Tx k mg) : FnIn k P w mg base 1 "is_row" s_is_row ["thing", "many"] sp_is_row := by
  refine fnIn_of T.f_is_row sc_is_row (fun bs mu R h => ?_) ⟨_, fun f cdv A outer s H E C => (s_one (s_ret (d_and (d_isi (T := .tuple) C.hK (d_var (i := 0) rfl (Or.inl rfl)) rfl T.z_isinstance rfl T.z_tuple PyProof.Rows.boot_tuple) (d_one (d_cmp (o_eq C) (d_callB (c_len C.hK) rfl T.z_len PySem.boot_len (a_cons (d_var (i := 0) rfl (Or.inl rfl)) a_nil)) (d_var (i := 1) rfl (Or.inl rfl)) (nomark _)))))), fun bs mu R h => ?_⟩
  · obtain ⟨ds, m, rfl, h⟩ := h
    rfl
  · obtain ⟨ds, m, rfl, h⟩ := h
    walk_at "st"
    walk_at "dl"
    exact h
/-! is_fraction_value -/
def sp_is_fraction_value : DSp := fun bs mu R => ∃ n d, bs = [.dat (fr n d)] ∧ IsFr n d ∧ R (.dat (.bool true)) mu
theorem ok_is_fraction_value (T : Tx k mg) (G_is_from : FnIn k P w mg base 2 "is_from" s_is_from ["thing", "least"] sp_is_from) (G_is_int : FnIn k P w mg base 1 "is_int" s_is_int ["thing"] sp_is_int) (G_is_row : FnIn k P w mg base 1 "is_row" s_is_row ["thing", "many"] sp_is_row) : FnIn k P w mg base 3 "is_fraction_value" s_is_fraction_value ["thing"] sp_is_fraction_value := by
  refine fnIn_of T.f_is_fraction_value sc_is_fraction_value (fun bs mu R h => ?_) ⟨_, fun f cdv A outer s H E C => (s_one (s_ret (d_and (d_call C G_is_row rfl (a_cons (d_var (i := 0) rfl (Or.inl rfl)) (a_cons d_int a_nil))) (d_and (d_call C G_is_int rfl (a_cons (d_ix C.hK (d_var (i := 0) rfl (Or.inl rfl)) d_int (fun _ _ => rfl)) a_nil)) (d_and (d_call C G_is_from rfl (a_cons (d_ix C.hK (d_var (i := 0) rfl (Or.inl rfl)) d_int (fun _ _ => rfl)) (a_cons d_int a_nil))) (d_one (d_cmp (o_eq C) (d_callBf c_gcd rfl T.gcd (a_cons (d_ix C.hK (d_var (i := 0) rfl (Or.inl rfl)) d_int (fun _ _ => rfl)) (a_cons (d_ix C.hK (d_var (i := 0) rfl (Or.inl rfl)) d_int (fun _ _ => rfl)) a_nil))) d_int (nomark _)))))))), fun bs mu R h => ?_⟩
  · obtain ⟨n, d, rfl, hf, h⟩ := h
    rfl
  · obtain ⟨n, d, rfl, hf, h⟩ := h
    walk_at "st"
    walk_at "dl"
    refine ⟨_, _, rfl, ?_⟩
    walk_at "dl"
    refine ⟨_, rfl, ?_⟩
    walk_at "dl"
    refine ⟨_, _, rfl, ?_⟩
    walk_at "dl"
    rw [if_pos hf.1, hf.2]
    exact h
/-! low -/
def sp_low : DSp := fun bs mu R => ∃ n d, bs = [.dat (.int n), .dat (.int d)] ∧ d ≠ 0 ∧ Bd 8000 d ∧ ∀ n2 d2, FrOf n d n2 d2 → R (.dat (fr n2 d2)) mu
theorem ok_low (T : Tx k mg) : FnIn k P w mg base 1 "low" s_low ["n", "d"] sp_low := by
  refine fnIn_of T.f_low sc_low (fun bs mu R h => ?_) ⟨_, fun f cdv A outer s H E C => (s_cons (s_set (i := 2) sc_low.nd rfl (Or.inl rfl) (d_callBf c_gcd rfl T.gcd (a_cons (d_var (i := 0) rfl (Or.inl rfl)) (a_cons (d_var (i := 1) rfl (Or.inl rfl)) a_nil))))
      (s_cons (s_if (d_tcmp o_lt (d_var (i := 1) rfl (Or.inl rfl)) d_int (nomark _)) (s_one (s_set (i := 2) sc_low.nd rfl (Or.inl rfl) (d_neg (d_var (i := 2) rfl (Or.inl rfl))))) s_nil)
      (s_one (s_ret (d_tup (a_cons (d_bin o_div (d_var (i := 0) rfl (Or.inl rfl)) (d_var (i := 2) rfl (Or.inl rfl))) (a_cons (d_bin o_div (d_var (i := 1) rfl (Or.inl rfl)) (d_var (i := 2) rfl (Or.inl rfl))) a_nil))))))), fun bs mu R h => ?_⟩
  · obtain ⟨n, d, rfl, hd, hb, h⟩ := h
    rfl
  · obtain ⟨n, d, rfl, hd, hb, h⟩ := h
    walk_at "st"
    walk_at "dl"
    have key : ∀ c : Int, c = (if d < 0 then -((Nat.gcd n.natAbs d.natAbs : Nat) : Int) else ((Nat.gcd n.natAbs d.natAbs : Nat) : Int)) → CDivA n c ∧ CDivA d c ∧ R (.dat (.tuple [.int (n.fdiv c), .int (d.fdiv c)])) mu := fun c hc => by
      obtain ⟨c0, cl, hf⟩ := low_ok hd hc
      have hl := (hb.le cl).log
      exact ⟨⟨c0, hl⟩, ⟨c0, hl⟩, h _ _ hf⟩
    by_cases hn : d < 0
    · rw [if_pos hn]
      exact key _ (by rw [if_pos hn])
    · rw [if_neg hn]
      exact key _ (by rw [if_neg hn])
/-! plus_f -/
def sp_plus_f : DSp := fun bs mu R => ∃ a b c d, bs = [.dat (fr a b), .dat (fr c d)] ∧ (IsFr a b ∧ IsFr c d ∧ Bd 3000 a ∧ Bd 3000 b ∧ Bd 3000 c ∧ Bd 3000 d) ∧ ∀ n m, FrOf (a * d + c * b) (b * d) n m → R (.dat (fr n m)) mu
theorem ok_plus_f (T : Tx k mg) (G_low : FnIn k P w mg base 1 "low" s_low ["n", "d"] sp_low) : FnIn k P w mg base 2 "plus_f" s_plus_f ["one", "other"] sp_plus_f := by
  refine fnIn_of T.f_plus_f sc_plus_f (fun bs mu R h => ?_) ⟨_, fun f cdv A outer s H E C => (s_cons (s_if (PW.pt (dw_and (d_tcmp (o_eq C) (d_ix C.hK (d_var (i := 0) rfl (Or.inl rfl)) d_int (fun _ _ => rfl)) d_int (nomark _)) (dw_and1 (d_tcmp (o_eq C) (d_ix C.hK (d_var (i := 1) rfl (Or.inl rfl)) d_int (fun _ _ => rfl)) d_int (nomark _))))) (s_one (s_ret (d_tup (a_cons (d_bin o_add (d_ix C.hK (d_var (i := 0) rfl (Or.inl rfl)) d_int (fun _ _ => rfl)) (d_ix C.hK (d_var (i := 1) rfl (Or.inl rfl)) d_int (fun _ _ => rfl))) (a_cons d_int a_nil))))) s_nil)
      (s_one (s_ret (d_call C G_low rfl (a_cons (d_bin o_add (d_bin o_mul (d_ix C.hK (d_var (i := 0) rfl (Or.inl rfl)) d_int (fun _ _ => rfl)) (d_ix C.hK (d_var (i := 1) rfl (Or.inl rfl)) d_int (fun _ _ => rfl))) (d_bin o_mul (d_ix C.hK (d_var (i := 1) rfl (Or.inl rfl)) d_int (fun _ _ => rfl)) (d_ix C.hK (d_var (i := 0) rfl (Or.inl rfl)) d_int (fun _ _ => rfl)))) (a_cons (d_bin o_mul (d_ix C.hK (d_var (i := 0) rfl (Or.inl rfl)) d_int (fun _ _ => rfl)) (d_ix C.hK (d_var (i := 1) rfl (Or.inl rfl)) d_int (fun _ _ => rfl))) a_nil)))))), fun bs mu R h => ?_⟩
  · obtain ⟨a, b, c, d, rfl, ⟨h1, h2, b1, b2, b3, b4⟩, h⟩ := h
    rfl
  · obtain ⟨a, b, c, d, rfl, ⟨h1, h2, b1, b2, b3, b4⟩, h⟩ := h
    walk_at "st"
    walk_at "dl"
    have hb := h1.1
    have hd := h2.1
    have hbd : b * d ≠ 0 := Int.mul_ne_zero (by omega) (by omega)
    split
    · rename_i e1
      split
      · rename_i e2
        refine h _ _ ⟨isFr_one _, ?_⟩
        rw [e1, e2]
        simp
      · refine ⟨b1.ok b4, b3.ok b2, b2.ok b4, _, _, rfl, hbd, (b2.mul b4).mono (by decide), fun n m hf => ?_⟩
        walk_at "dl"
        exact h n m hf
    · refine ⟨b1.ok b4, b3.ok b2, b2.ok b4, _, _, rfl, hbd, (b2.mul b4).mono (by decide), fun n m hf => ?_⟩
      walk_at "dl"
      exact h n m hf
/-! minus_f -/
def sp_minus_f : DSp := fun bs mu R => ∃ a b c d, bs = [.dat (fr a b), .dat (fr c d)] ∧ (IsFr a b ∧ IsFr c d ∧ Bd 3000 a ∧ Bd 3000 b ∧ Bd 3000 c ∧ Bd 3000 d) ∧ ∀ n m, FrOf (a * d - c * b) (b * d) n m → R (.dat (fr n m)) mu
theorem ok_minus_f (T : Tx k mg) (G_plus_f : FnIn k P w mg base 2 "plus_f" s_plus_f ["one", "other"] sp_plus_f) : FnIn k P w mg base 3 "minus_f" s_minus_f ["one", "other"] sp_minus_f := by
  refine fnIn_of T.f_minus_f sc_minus_f (fun bs mu R h => ?_) ⟨_, fun f cdv A outer s H E C => (s_one (s_ret (d_call C G_plus_f rfl (a_cons (d_var (i := 0) rfl (Or.inl rfl)) (a_cons (d_tup (a_cons (d_neg (d_ix C.hK (d_var (i := 1) rfl (Or.inl rfl)) d_int (fun _ _ => rfl))) (a_cons (d_ix C.hK (d_var (i := 1) rfl (Or.inl rfl)) d_int (fun _ _ => rfl)) a_nil))) a_nil))))), fun bs mu R h => ?_⟩
  · obtain ⟨a, b, c, d, rfl, ⟨h1, h2, b1, b2, b3, b4⟩, h⟩ := h
    rfl
  · obtain ⟨a, b, c, d, rfl, ⟨h1, h2, b1, b2, b3, b4⟩, h⟩ := h
    walk_at "st"
    walk_at "dl"
    refine ⟨a, b, -c, d, rfl, ⟨h1, ⟨h2.1, by rw [Int.natAbs_neg]; exact h2.2⟩, b1, b2, b3.neg, b4⟩, fun n m hf => ?_⟩
    walk_at "dl"
    rw [Int.neg_mul, ← Int.sub_eq_add_neg] at hf
    exact h n m hf
/-! times_f -/
def sp_times_f : DSp := fun bs mu R => ∃ a b c d, bs = [.dat (fr a b), .dat (fr c d)] ∧ (IsFr a b ∧ IsFr c d ∧ Bd 3000 a ∧ Bd 3000 b ∧ Bd 3000 c ∧ Bd 3000 d) ∧ ∀ n m, FrOf (a * c) (b * d) n m → R (.dat (fr n m)) mu
theorem ok_times_f (T : Tx k mg) (G_low : FnIn k P w mg base 1 "low" s_low ["n", "d"] sp_low) : FnIn k P w mg base 2 "times_f" s_times_f ["one", "other"] sp_times_f := by
  refine fnIn_of T.f_times_f sc_times_f (fun bs mu R h => ?_) ⟨_, fun f cdv A outer s H E C => (s_cons (s_if (PW.pt (dw_and (d_tcmp (o_eq C) (d_ix C.hK (d_var (i := 0) rfl (Or.inl rfl)) d_int (fun _ _ => rfl)) d_int (nomark _)) (dw_and1 (d_tcmp (o_eq C) (d_ix C.hK (d_var (i := 1) rfl (Or.inl rfl)) d_int (fun _ _ => rfl)) d_int (nomark _))))) (s_one (s_ret (d_tup (a_cons (d_bin o_mul (d_ix C.hK (d_var (i := 0) rfl (Or.inl rfl)) d_int (fun _ _ => rfl)) (d_ix C.hK (d_var (i := 1) rfl (Or.inl rfl)) d_int (fun _ _ => rfl))) (a_cons d_int a_nil))))) s_nil)
      (s_one (s_ret (d_call C G_low rfl (a_cons (d_bin o_mul (d_ix C.hK (d_var (i := 0) rfl (Or.inl rfl)) d_int (fun _ _ => rfl)) (d_ix C.hK (d_var (i := 1) rfl (Or.inl rfl)) d_int (fun _ _ => rfl))) (a_cons (d_bin o_mul (d_ix C.hK (d_var (i := 0) rfl (Or.inl rfl)) d_int (fun _ _ => rfl)) (d_ix C.hK (d_var (i := 1) rfl (Or.inl rfl)) d_int (fun _ _ => rfl))) a_nil)))))), fun bs mu R h => ?_⟩
  · obtain ⟨a, b, c, d, rfl, ⟨h1, h2, b1, b2, b3, b4⟩, h⟩ := h
    rfl
  · obtain ⟨a, b, c, d, rfl, ⟨h1, h2, b1, b2, b3, b4⟩, h⟩ := h
    walk_at "st"
    walk_at "dl"
    have hb := h1.1
    have hd := h2.1
    have hbd : b * d ≠ 0 := Int.mul_ne_zero (by omega) (by omega)
    split
    · rename_i e1
      split
      · rename_i e2
        refine ⟨b1.ok b3, h _ _ ⟨isFr_one _, ?_⟩⟩
        rw [e1, e2]
        simp
      · refine ⟨b1.ok b3, b2.ok b4, _, _, rfl, hbd, (b2.mul b4).mono (by decide), fun n m hf => ?_⟩
        walk_at "dl"
        exact h n m hf
    · refine ⟨b1.ok b3, b2.ok b4, _, _, rfl, hbd, (b2.mul b4).mono (by decide), fun n m hf => ?_⟩
      walk_at "dl"
      exact h n m hf
/-! compared_f -/
def sp_compared_f : DSp := fun bs mu R => ∃ a b c d, bs = [.dat (fr a b), .dat (fr c d)] ∧ (Bd 4000 a ∧ Bd 4000 b ∧ Bd 4000 c ∧ Bd 4000 d) ∧ R (.dat (.int (sgn (a * d - c * b)))) mu
theorem ok_compared_f (T : Tx k mg) : FnIn k P w mg base 1 "compared_f" s_compared_f ["one", "other"] sp_compared_f := by
  refine fnIn_of T.f_compared_f sc_compared_f (fun bs mu R h => ?_) ⟨_, fun f cdv A outer s H E C => (s_cons (s_par (i := 2) (j := 3) C.calm sc_compared_f.nd rfl rfl (by decide) rfl rfl (a_cons (d_bin o_mul (d_ix C.hK (d_var (i := 0) rfl (Or.inl rfl)) d_int (fun _ _ => rfl)) (d_ix C.hK (d_var (i := 1) rfl (Or.inl rfl)) d_int (fun _ _ => rfl))) (a_cons (d_bin o_mul (d_ix C.hK (d_var (i := 1) rfl (Or.inl rfl)) d_int (fun _ _ => rfl)) (d_ix C.hK (d_var (i := 0) rfl (Or.inl rfl)) d_int (fun _ _ => rfl))) a_nil)) (by rfl))
      (s_one (s_ret (d_bin o_subB (d_cmp o_gt (d_var (i := 2) rfl (Or.inl rfl)) (d_var (i := 3) rfl (Or.inl rfl)) (nomark _)) (d_cmp o_lt (d_var (i := 2) rfl (Or.inl rfl)) (d_var (i := 3) rfl (Or.inl rfl)) (nomark _)))))), fun bs mu R h => ?_⟩
  · obtain ⟨a, b, c, d, rfl, ⟨b1, b2, b3, b4⟩, h⟩ := h
    rfl
  · obtain ⟨a, b, c, d, rfl, ⟨b1, b2, b3, b4⟩, h⟩ := h
    walk_at "st"
    walk_at "dl"
    refine ⟨b1.ok b4, b3.ok b2, ?_⟩
    rw [b2_sgn]
    exact h
/-! floor_f -/
def sp_floor_f : DSp := fun bs mu R => ∃ a b, bs = [.dat (fr a b)] ∧ 1 ≤ b ∧ Bd 8000 b ∧ R (.dat (.int (a / b))) mu
theorem ok_floor_f (T : Tx k mg) : FnIn k P w mg base 1 "floor_f" s_floor_f ["one"] sp_floor_f := by
  refine fnIn_of T.f_floor_f sc_floor_f (fun bs mu R h => ?_) ⟨_, fun f cdv A outer s H E C => (s_one (s_ret (d_bin o_div (d_ix C.hK (d_var (i := 0) rfl (Or.inl rfl)) d_int (fun _ _ => rfl)) (d_ix C.hK (d_var (i := 0) rfl (Or.inl rfl)) d_int (fun _ _ => rfl))))), fun bs mu R h => ?_⟩
  · obtain ⟨a, b, rfl, h1, h2, h⟩ := h
    rfl
  · obtain ⟨a, b, rfl, h1, h2, h⟩ := h
    walk_at "st"
    walk_at "dl"
    refine ⟨⟨by omega, h2.log⟩, ?_⟩
    rw [Int.fdiv_eq_ediv_of_nonneg _ (by omega : 0 ≤ b)]
    exact h
/-! ceiling_f -/
def sp_ceiling_f : DSp := fun bs mu R => ∃ a b, bs = [.dat (fr a b)] ∧ 1 ≤ b ∧ Bd 8000 b ∧ R (.dat (.int (-(-a / b)))) mu
theorem ok_ceiling_f (T : Tx k mg) : FnIn k P w mg base 1 "ceiling_f" s_ceiling_f ["one"] sp_ceiling_f := by
  refine fnIn_of T.f_ceiling_f sc_ceiling_f (fun bs mu R h => ?_) ⟨_, fun f cdv A outer s H E C => (s_one (s_ret (d_neg (d_bin o_div (d_neg (d_ix C.hK (d_var (i := 0) rfl (Or.inl rfl)) d_int (fun _ _ => rfl))) (d_ix C.hK (d_var (i := 0) rfl (Or.inl rfl)) d_int (fun _ _ => rfl)))))), fun bs mu R h => ?_⟩
  · obtain ⟨a, b, rfl, h1, h2, h⟩ := h
    rfl
  · obtain ⟨a, b, rfl, h1, h2, h⟩ := h
    walk_at "st"
    walk_at "dl"
    refine ⟨⟨by omega, h2.log⟩, ?_⟩
    rw [Int.fdiv_eq_ediv_of_nonneg _ (by omega : 0 ≤ b)]
    exact h
/-! mixed_f -/
def sp_mixed_f : DSp := fun bs mu R => ∃ a b c d s t, bs = [.dat (fr a b), .dat (fr c d), .dat (fr s t)] ∧ (IsFr a b ∧ IsFr c d ∧ IsFr s t) ∧ (Bd 860 a ∧ Bd 860 b ∧ Bd 860 c ∧ Bd 860 d ∧ Bd 860 s ∧ Bd 860 t) ∧ ∀ n m, IsFr n m → n * (b * d * t) = ((t - s) * a * d + s * c * b) * m → Bd 4000 n → Bd 4000 m → R (.dat (fr n m)) mu
theorem ok_mixed_f (T : Tx k mg) (G_minus_f : FnIn k P w mg base 3 "minus_f" s_minus_f ["one", "other"] sp_minus_f) (G_plus_f : FnIn k P w mg base 2 "plus_f" s_plus_f ["one", "other"] sp_plus_f) (G_times_f : FnIn k P w mg base 2 "times_f" s_times_f ["one", "other"] sp_times_f) : FnIn k P w mg base 4 "mixed_f" s_mixed_f ["one", "other", "share"] sp_mixed_f := by
  refine fnIn_of T.f_mixed_f sc_mixed_f (fun bs mu R h => ?_) ⟨_, fun f cdv A outer s H E C => (s_one (s_ret (d_call C G_plus_f rfl (a_cons (d_var (i := 0) rfl (Or.inl rfl)) (a_cons (d_call C G_times_f rfl (a_cons (d_var (i := 2) rfl (Or.inl rfl)) (a_cons (d_call C G_minus_f rfl (a_cons (d_var (i := 1) rfl (Or.inl rfl)) (a_cons (d_var (i := 0) rfl (Or.inl rfl)) a_nil))) a_nil))) a_nil))))), fun bs mu R h => ?_⟩
  · obtain ⟨a, b, c, d, s, t, rfl, ⟨h1, h2, h3⟩, ⟨b1, b2, b3, b4, b5, b6⟩, h⟩ := h
    rfl
  · obtain ⟨a, b, c, d, s, t, rfl, ⟨h1, h2, h3⟩, ⟨b1, b2, b3, b4, b5, b6⟩, h⟩ := h
    walk_at "st"
    walk_at "dl"
    have hb := h1.1
    have hd := h2.1
    have ht := h3.1
    refine ⟨_, _, _, _, rfl, ⟨h2, h1, b3.mono (by decide), b4.mono (by decide), b1.mono (by decide), b2.mono (by decide)⟩, fun x y f1 => ?_⟩
    have hdb : d * b ≠ 0 := Int.mul_ne_zero (by omega) (by omega)
    have q1 := frOf_bd hdb f1 ((b3.mul b2).sub (b1.mul b4)) ((b4.mul b2).mono (by decide))
    have hy := f1.1.1
    refine ⟨_, _, _, _, rfl, ⟨h3, f1.1, b5.mono (by decide), b6.mono (by decide), q1.1.mono (by decide), q1.2.mono (by decide)⟩, fun u v f2 => ?_⟩
    have hty : t * y ≠ 0 := Int.mul_ne_zero (by omega) (by omega)
    have q2 := frOf_bd hty f2 (b5.mul q1.1) (b6.mul q1.2)
    have hv := f2.1.1
    refine ⟨_, _, _, _, rfl, ⟨h1, f2.1, b1.mono (by decide), b2.mono (by decide), q2.1.mono (by decide), q2.2.mono (by decide)⟩, fun n m f3 => ?_⟩
    have hbv : b * v ≠ 0 := Int.mul_ne_zero (by omega) (by omega)
    have q3 := frOf_bd hbv f3 ((b1.mul q2.2).add ((q2.1.mul b2).mono (by decide))) ((b2.mul q2.2).mono (by decide))
    walk_at "dl"
    exact h n m f3.1 (mix_of (by omega) (by omega) f3.2 f2.2 f1.2) (q3.1.mono (by decide)) (q3.2.mono (by decide))
/-! need_fraction -/
def sp_need_fraction : DSp := fun bs mu R => ∃ n d, bs = [.dat (fr n d)] ∧ IsFr n d ∧ R (.dat .none) mu
theorem ok_need_fraction (T : Tx k mg) (G_is_fraction_value : FnIn k P w mg base 3 "is_fraction_value" s_is_fraction_value ["thing"] sp_is_fraction_value) : FnIn k P w mg base 4 "need_fraction" s_need_fraction ["thing"] sp_need_fraction := by
  refine fnIn_of T.f_need_fraction sc_need_fraction (fun bs mu R h => ?_) ⟨_, fun f cdv A outer s H E C => (s_one (s_if (dt_not (d_tval (d_call C G_is_fraction_value rfl (a_cons (d_var (i := 0) rfl (Or.inl rfl)) a_nil)))) (s_one s_never) s_nil)), fun bs mu R h => ?_⟩
  · obtain ⟨n, d, rfl, hf, h⟩ := h
    rfl
  · obtain ⟨n, d, rfl, hf, h⟩ := h
    walk_at "st"
    walk_at "dl"
    refine ⟨_, _, rfl, hf, ?_⟩
    walk_at "dl"
    exact h
/-! need_two -/
def sp_need_two : DSp := fun bs mu R => ∃ a b c d, bs = [.dat (fr a b), .dat (fr c d)] ∧ IsFr a b ∧ IsFr c d ∧ R (.dat .none) mu
theorem ok_need_two (T : Tx k mg) (G_need_fraction : FnIn k P w mg base 4 "need_fraction" s_need_fraction ["thing"] sp_need_fraction) : FnIn k P w mg base 5 "need_two" s_need_two ["one", "other"] sp_need_two := by
  refine fnIn_of T.f_need_two sc_need_two (fun bs mu R h => ?_) ⟨_, fun f cdv A outer s H E C => (s_cons (s_expr (d_call C G_need_fraction rfl (a_cons (d_var (i := 0) rfl (Or.inl rfl)) a_nil)))
      (s_one (s_expr (d_call C G_need_fraction rfl (a_cons (d_var (i := 1) rfl (Or.inl rfl)) a_nil))))), fun bs mu R h => ?_⟩
  · obtain ⟨a, b, c, d, rfl, h1, h2, h⟩ := h
    rfl
  · obtain ⟨a, b, c, d, rfl, h1, h2, h⟩ := h
    walk_at "st"
    walk_at "dl"
    refine ⟨_, _, rfl, h1, _, _, rfl, h2, ?_⟩
    walk_at "dl"
    exact h
/-! compared -/
def sp_compared : DSp := fun bs mu R => ∃ a b c d, bs = [.dat (fr a b), .dat (fr c d)] ∧ (IsFr a b ∧ IsFr c d) ∧ (Bd 4000 a ∧ Bd 4000 b ∧ Bd 4000 c ∧ Bd 4000 d) ∧ R (.dat (.int (sgn (a * d - c * b)))) mu
theorem ok_compared (T : Tx k mg) (G_compared_f : FnIn k P w mg base 1 "compared_f" s_compared_f ["one", "other"] sp_compared_f) (G_need_two : FnIn k P w mg base 5 "need_two" s_need_two ["one", "other"] sp_need_two) : FnIn k P w mg base 6 "compared" s_compared ["one", "other"] sp_compared := by
  refine fnIn_of T.f_compared sc_compared (fun bs mu R h => ?_) ⟨_, fun f cdv A outer s H E C => (s_cons (s_expr (d_call C G_need_two rfl (a_cons (d_var (i := 0) rfl (Or.inl rfl)) (a_cons (d_var (i := 1) rfl (Or.inl rfl)) a_nil))))
      (s_one (s_ret (d_call C G_compared_f rfl (a_cons (d_var (i := 0) rfl (Or.inl rfl)) (a_cons (d_var (i := 1) rfl (Or.inl rfl)) a_nil)))))), fun bs mu R h => ?_⟩
  · obtain ⟨a, b, c, d, rfl, ⟨h1, h2⟩, hb, h⟩ := h
    rfl
  · obtain ⟨a, b, c, d, rfl, ⟨h1, h2⟩, hb, h⟩ := h
    walk_at "st"
    walk_at "dl"
    refine ⟨_, _, _, _, rfl, h1, h2, ?_⟩
    walk_at "dl"
    refine ⟨_, _, _, _, rfl, hb, ?_⟩
    walk_at "dl"
    exact h
/-! mixed -/
def sp_mixed : DSp := fun bs mu R => ∃ a b c d s t, bs = [.dat (fr a b), .dat (fr c d), .dat (fr s t)] ∧ (IsFr a b ∧ IsFr c d ∧ IsFr s t) ∧ (Bd 860 a ∧ Bd 860 b ∧ Bd 860 c ∧ Bd 860 d ∧ Bd 860 s ∧ Bd 860 t) ∧ ∀ n m, IsFr n m → n * (b * d * t) = ((t - s) * a * d + s * c * b) * m → Bd 4000 n → Bd 4000 m → R (.dat (fr n m)) mu
theorem ok_mixed (T : Tx k mg) (G_mixed_f : FnIn k P w mg base 4 "mixed_f" s_mixed_f ["one", "other", "share"] sp_mixed_f) (G_need_fraction : FnIn k P w mg base 4 "need_fraction" s_need_fraction ["thing"] sp_need_fraction) (G_need_two : FnIn k P w mg base 5 "need_two" s_need_two ["one", "other"] sp_need_two) : FnIn k P w mg base 6 "mixed" s_mixed ["one", "other", "share"] sp_mixed := by
  refine fnIn_of T.f_mixed sc_mixed (fun bs mu R h => ?_) ⟨_, fun f cdv A outer s H E C => (s_cons (s_expr (d_call C G_need_two rfl (a_cons (d_var (i := 0) rfl (Or.inl rfl)) (a_cons (d_var (i := 1) rfl (Or.inl rfl)) a_nil))))
      (s_cons (s_expr (d_call C G_need_fraction rfl (a_cons (d_var (i := 2) rfl (Or.inl rfl)) a_nil)))
      (s_one (s_ret (d_call C G_mixed_f rfl (a_cons (d_var (i := 0) rfl (Or.inl rfl)) (a_cons (d_var (i := 1) rfl (Or.inl rfl)) (a_cons (d_var (i := 2) rfl (Or.inl rfl)) a_nil)))))))), fun bs mu R h => ?_⟩
  · obtain ⟨a, b, c, d, s, t, rfl, ⟨h1, h2, h3⟩, ⟨b1, b2, b3, b4, b5, b6⟩, h⟩ := h
    rfl
  · obtain ⟨a, b, c, d, s, t, rfl, ⟨h1, h2, h3⟩, ⟨b1, b2, b3, b4, b5, b6⟩, h⟩ := h
    walk_at "st"
    walk_at "dl"
    refine ⟨_, _, _, _, rfl, h1, h2, ?_⟩
    walk_at "dl"
    refine ⟨_, _, rfl, h3, ?_⟩
    walk_at "dl"
    refine ⟨_, _, _, _, _, _, rfl, ⟨h1, h2, h3⟩, ⟨b1, b2, b3, b4, b5, b6⟩, fun n m f1 f2 f3 f4 => ?_⟩
    walk_at "dl"
    exact h n m f1 f2 f3 f4
/-! floor_of -/
def sp_floor_of : DSp := fun bs mu R => ∃ a b, bs = [.dat (fr a b)] ∧ IsFr a b ∧ Bd 8000 b ∧ R (.dat (.int (a / b))) mu
theorem ok_floor_of (T : Tx k mg) (G_floor_f : FnIn k P w mg base 1 "floor_f" s_floor_f ["one"] sp_floor_f) (G_need_fraction : FnIn k P w mg base 4 "need_fraction" s_need_fraction ["thing"] sp_need_fraction) : FnIn k P w mg base 5 "floor_of" s_floor_of ["one"] sp_floor_of := by
  refine fnIn_of T.f_floor_of sc_floor_of (fun bs mu R h => ?_) ⟨_, fun f cdv A outer s H E C => (s_cons (s_expr (d_call C G_need_fraction rfl (a_cons (d_var (i := 0) rfl (Or.inl rfl)) a_nil)))
      (s_one (s_ret (d_call C G_floor_f rfl (a_cons (d_var (i := 0) rfl (Or.inl rfl)) a_nil))))), fun bs mu R h => ?_⟩
  · obtain ⟨a, b, rfl, h1, h2, h⟩ := h
    rfl
  · obtain ⟨a, b, rfl, h1, h2, h⟩ := h
    walk_at "st"
    walk_at "dl"
    refine ⟨_, _, rfl, h1, ?_⟩
    walk_at "dl"
    refine ⟨_, _, rfl, h1.1, h2, ?_⟩
    walk_at "dl"
    exact h
/-! ceiling_of -/
def sp_ceiling_of : DSp := fun bs mu R => ∃ a b, bs = [.dat (fr a b)] ∧ IsFr a b ∧ Bd 8000 b ∧ R (.dat (.int (-(-a / b)))) mu
theorem ok_ceiling_of (T : Tx k mg) (G_ceiling_f : FnIn k P w mg base 1 "ceiling_f" s_ceiling_f ["one"] sp_ceiling_f) (G_need_fraction : FnIn k P w mg base 4 "need_fraction" s_need_fraction ["thing"] sp_need_fraction) : FnIn k P w mg base 5 "ceiling_of" s_ceiling_of ["one"] sp_ceiling_of := by
  refine fnIn_of T.f_ceiling_of sc_ceiling_of (fun bs mu R h => ?_) ⟨_, fun f cdv A outer s H E C => (s_cons (s_expr (d_call C G_need_fraction rfl (a_cons (d_var (i := 0) rfl (Or.inl rfl)) a_nil)))
      (s_one (s_ret (d_call C G_ceiling_f rfl (a_cons (d_var (i := 0) rfl (Or.inl rfl)) a_nil))))), fun bs mu R h => ?_⟩
  · obtain ⟨a, b, rfl, h1, h2, h⟩ := h
    rfl
  · obtain ⟨a, b, rfl, h1, h2, h⟩ := h
    walk_at "st"
    walk_at "dl"
    refine ⟨_, _, rfl, h1, ?_⟩
    walk_at "dl"
    refine ⟨_, _, rfl, h1.1, h2, ?_⟩
    walk_at "dl"
    exact h
/-! _law_deck -/
theorem ok_l_deck (T : Tx k mg) (hk : k.DK = deckDK "cells" "mixed" "draws") : FnIn k P w mg base 1 "_law_deck" s_l_deck ["script"] spDeck := by
  refine fnIn_raw T.f_l_deck sc_l_deck (fun bs mu R h => ?_) (fun f cdv A outer s H E vs Q C q => ?_)
  · obtain ⟨ns, rfl, _⟩ := h
    rfl
  · obtain ⟨al, bs, mu, R, rb, mo, ⟨ns, rfl, hn, kr⟩, kk⟩ := q
    obtain ⟨v, rfl, a, xs, rfl, hfz, hxs⟩ := reps1 rb
    cases reps_ints hxs
    rw [hk] at mo kk
    have hu := hu_of C.room
    have n1 : ("cells" : Str) ≠ "mixed" := by decide +kernel
    have n2 : ("cells" : Str) ≠ "draws" := by decide +kernel
    have n3 : ("mixed" : Str) ≠ "draws" := by decide +kernel
    refine ⟨_, pss_cons (ps_set (i := 1) sc_l_deck.nd rfl (.inl rfl) pe_int)
      (pss_cons (ps_for PassesOwn.never rfl (pi_list (pe_slice sl_list (pv 0) po_none (po_some pe_int))) (pg_name (i := 2) sc_l_deck.nd rfl (Or.inl rfl))
        (pss_one (ps_set (i := 1) sc_l_deck.nd rfl (.inl rfl) (pe_op op_mod (pe_callTy call_int1 rfl T.z_int PyProof.Rows.boot_int (pa_cons (pe_op op_add (pe_op op_add (pe_op op_mul (pv 1) pe_int) (pe_op op_mod (pe_callTy call_int1 rfl T.z_int PyProof.Rows.boot_int (pa_cons (pv 2) pa_nil)) pe_int)) pe_int) pa_nil)) pe_int))))
      (pss_one (ps_ret (pe_disp (pps_cons pe_str (pe_revL (pe_callTy call_list_of rfl T.z_list PyProof.Rows.boot_list (pa_cons (pe_slice sl_list (pv 0) po_none (po_some pe_int)) pa_nil))) (pps_cons pe_str (pv 1) (pps_cons pe_str pe_int pps_nil))) rfl rfl (fun z => by cases z) (by decide))))), ?_⟩
    refine ⟨_, rfl, _, rfl, a, _, rfl, hfz.sq, fun p hp => ?_⟩
    obtain ⟨e1, m1⟩ := mo.newF (o := .lst (cutV (ns.map V.int) none (some 63))) hp
    refine ⟨p, rfl, ⟨_, SqL.of upd_same⟩, for_list (K := k.K) (a := p) (xs := cutV (ns.map V.int) none (some 63)) (fun i σ H' => H' = upd H p (.lst (cutV (ns.map V.int) none (some 63))) ∧ ∃ (z : Int) (v : Option V), σ = [some (.ref a), some (.int z), v]) ⟨rfl, _, _, rfl⟩ (fun i σ H' _ h => ?_) ?_ ?_⟩
    · rw [h.1]
      exact SqL.of upd_same
    · rintro i y σ H' hi ⟨rfl, z, v, rfl⟩
      obtain ⟨u, rfl⟩ := cut_int (List.mem_of_getElem? hi)
      exact ⟨_, rfl, _, _, rfl, rfl, .inr ⟨by decide, by decide⟩, _, rfl, .inl ⟨_, rfl, _, _, rfl, rfl, (by show (0 : Int) < _; decide), _, _, rfl, rfl, _, _, rfl, rfl, .inl ⟨_, rfl, _, _, rfl, rfl, (by show (0 : Int) < _; decide), rfl, _, _, rfl⟩⟩⟩
    · rintro σ H' ⟨rfl, z, v, rfl⟩ d hd
      obtain ⟨e2, m2⟩ := m1.newF (o := .dK []) hd
      refine ⟨_, rfl, _, rfl, a, _, rfl, ((e1.trans e2).fzL hfz).sq, fun q hq => ?_⟩
      obtain ⟨e3, m3⟩ := m2.newF (o := .lst (cutV (ns.map V.int) none (some 63))) hq
      refine ⟨q, _, rfl, .inl (SqL.of upd_same), fun q2 hq2 => ?_⟩
      obtain ⟨e4, m4⟩ := m3.newF (o := .lst (cutV (ns.map V.int) none (some 63))) hq2
      refine ⟨q2, _, rfl, SqL.of upd_same, fun l hl => ?_⟩
      obtain ⟨cs, hcs, hcl⟩ := cut_map ns none (some 63)
      have d1 : d ≠ q := ne_of_none (o := .dK []) upd_same hq
      have d2 : d ≠ q2 := ne_of_none (o := .dK []) (by rw [upd_ne d1]; exact upd_same) hq2
      have d3 : d ≠ l := ne_of_none (o := .dK []) (by rw [upd_ne d2, upd_ne d1]; exact upd_same) hl
      refine ⟨_, rfl, ?_, [(.inr "cells", .ref l), (.inr "mixed", .int z), (.inr "draws", .int 0)], rfl, by show 3 ≤ 15; decide, ?_⟩
      · rw [upd_ne d3, upd_ne d2, upd_ne d1, upd_same]
      · show Q (.ref d) (upd _ d (.dK (mergeK [] (deckD "cells" "mixed" "draws" l z 0))))
        rw [mergeK_deck n1 n2 n3]
        have hl0 : H l = none := by
          cases hh : H l with
          | none => rfl
          | some o =>
            have := (((e1.trans e2).trans e3).trans e4).keep l o hh (fun w => by
              obtain ⟨u, hu'⟩ := m4.there w
              rw [hl] at hu'
              cases hu')
            rw [hl] at this
            cases this
        have hd0 : H d = none := by
          cases hh : H d with
          | none => rfl
          | some o =>
            have := e1.keep d o hh (fun w => by
              obtain ⟨u, hu'⟩ := m1.there w
              rw [hd] at hu'
              cases hu')
            rw [hd] at this
            cases this
        have hp0 : ∀ b o, H b = some o → b ≠ d ∧ b ≠ l := fun b o hb => ⟨ne_of_none hb hd0, ne_of_none hb hl0⟩
        have hkeep : ∀ b o, H b = some o → upd (upd (upd (upd (upd (upd H p (.lst (cutV (ns.map V.int) none (some 63)))) d (.dK [])) q (.lst (cutV (ns.map V.int) none (some 63)))) q2 (.lst (cutV (ns.map V.int) none (some 63)))) l (.lst (cutV (ns.map V.int) none (some 63)).reverse)) d (.dK (deckD "cells" "mixed" "draws" l z 0)) b = some o := fun b o hb => by
          rw [upd_ne (hp0 b o hb).1]
          exact Same.step hl b o (Same.step hq2 b o (Same.step hq b o (Same.step hd b o (Same.step hp b o hb))))
        obtain ⟨e5, m5⟩ := deck_new (cells := cs.reverse) mo d3 hd0 hl0 hkeep upd_same (by rw [upd_ne (Ne.symm d3), upd_same, hcs, List.map_reverse]) (by rw [List.length_reverse]; omega)
        exact kk _ _ _ (.ref (mu.length + 1)) _ e5 m5 ⟨d, by rw [← mo.len]; simp, rfl⟩ kr

/-! _law_draw -/
theorem ok_l_draw (T : Tx k mg) (hk : k.DK = deckDK "cells" "mixed" "draws") : FnIn k P w mg base 1 "_law_draw" s_l_draw ["deck", "many"] spDraw := by
  refine fnIn_raw T.f_l_draw sc_l_draw (fun bs mu R h => ?_) (fun f cdv A outer s H E vs Q C q => ?_)
  · obtain ⟨j, i, many, rfl, _⟩ := h
    rfl
  · obtain ⟨al, bs, mu, R, rb, mo, ⟨j, i, many, rfl, hj, h0, hb, kr⟩, kk⟩ := q
    obtain ⟨va, vm, rfl, ⟨a, ha, rfl⟩, hv⟩ := reps2 rb
    cases (show vm = .int many from hv)
    obtain ⟨hij, a', l, o, u, ha', hl, hoa, hol, hd⟩ := mo.ok j _ hj
    rw [ha] at ha'
    cases ha'
    rw [hk] at hd
    rw [hk] at mo kk
    obtain ⟨x, y, cells, rfl, rfl, hcl⟩ := hd
    have hne : a ≠ l := fun e => by
      have := mo.nd j i a ha (by rw [e]; exact hl)
      omega
    have D0 : DkSt "cells" "mixed" "draws" H a l x y cells H := ⟨hne, fun b o q _ _ => q, hoa, hol, hcl⟩
    have hu := hu_of C.room
    have n1 : ("cells" : Str) ≠ "mixed" := by decide +kernel
    have n2 : ("cells" : Str) ≠ "draws" := by decide +kernel
    have n3 : ("mixed" : Str) ≠ "draws" := by decide +kernel
    refine ⟨_, pss_cons (ps_dput hu (pv 0) pe_str (pe_op op_add (pe_dget hu (pv 0) pe_str (fun _ _ => rfl)) pe_int) rfl)
      (pss_cons (ps_set (i := 2) sc_l_draw.nd rfl (.inl rfl) (pe_op op_add (pe_dget hu (pv 0) pe_str (fun _ _ => rfl)) (pe_op op_mul pe_int (pe_dget hu (pv 0) pe_str (fun _ _ => rfl)))))
      (C8.pss_cut (ps_if (pt_cmpR (op_neD C.room.units) (pe_dget hu (pv 0) pe_str (fun _ _ => rfl)) (pe_lst pa_nil) (nomark _))
        (pss_cons (ps_set (i := 3) sc_l_draw.nd rfl (.inl rfl) (pe_bm0 PySem.F.plainAttrs_list PySem.F.slot_list_pop PySem.F.type_list_pop mt_pop (pe_dget hu (pv 0) pe_str (fun _ _ => rfl))))
        (pss_cons (ps_if (pt_cmpR op_ge (pv 3) (pe_op op_pow pe_int pe_int) (nomark _))
          (pss_cons (ps_expr (pe_bm PySem.F.plainAttrs_list PySem.F.slot_list_append PySem.F.type_list_append mt_append (pe_dget hu (pv 0) pe_str (fun _ _ => rfl)) (pa_cons (pe_op op_fdivW (pv 3) (pe_callB (call_max2 rfl) rfl T.z_max PyProof.Rows.boot_max (pa_cons pe_int (pa_cons (pv 1) pa_nil)))) pa_nil)))
          (pss_one (ps_ret (pe_op op_mod (pe_callTy call_int1 rfl T.z_int PyProof.Rows.boot_int (pa_cons (pv 3) pa_nil)) (pv 1))))) pss_nil)
        (pss_one (ps_set (i := 2) sc_l_draw.nd rfl (.inl rfl) (pe_op op_add (pv 2) (pe_op op_mod (pe_callTy call_int1 rfl T.z_int PyProof.Rows.boot_int (pa_cons (pv 3) pa_nil)) pe_int)))))) pss_nil)
      (pss_cons (ps_set (i := 2) sc_l_draw.nd rfl (.inl rfl) (pe_op op_mod (pe_callTy call_int1 rfl T.z_int PyProof.Rows.boot_int (pa_cons (pe_op op_add (pe_op op_mul (pv 2) pe_int) pe_int) pa_nil)) pe_int))
      (pss_cons (ps_set (i := 2) sc_l_draw.nd rfl (.inl rfl) (pe_op op_mod (pe_callTy call_int1 rfl T.z_int PyProof.Rows.boot_int (pa_cons (pe_op op_add (pe_op op_add (pe_op op_mul (pv 2) (pv 2)) (pe_op op_mul pe_int (pe_dget hu (pv 0) pe_str (fun _ _ => rfl)))) pe_int) pa_nil)) pe_int))
      (pss_cons (ps_set (i := 2) sc_l_draw.nd rfl (.inl rfl) (pe_op op_mod (pe_callTy call_int1 rfl T.z_int PyProof.Rows.boot_int (pa_cons (pe_op op_mul (pv 2) pe_int) pa_nil)) pe_int))
      (pss_one (ps_ret (pe_op op_mod (pe_callTy call_int1 rfl T.z_int PyProof.Rows.boot_int (pa_cons (pe_op op_fdiv (pv 2) pe_int) pa_nil)) (pv 1))))))))), ?_⟩
    -- what is handed back
    have fin : ∀ {H' : Hp} {x y : Int} {cells : List Int} (c : Int), DkSt "cells" "mixed" "draws" H a l x y cells H' → Q (.int (c % many)) H' := fun c D => by
      obtain ⟨e, m'⟩ := deck_close mo hj ha hl D
      exact kk _ _ al (.dat (.int _)) mu e m' rfl (kr _ (Int.emod_nonneg _ (by omega)) (Int.emod_lt_of_pos _ h0))
    refine ⟨_, rfl, a, _, rfl, D0.getN n1 n2 n3, _, _, rfl, rfl, _, rfl, a, _, rfl, D0.putN n2 n3 _, ?_⟩
    have D1 := D0.setN (y + 1)
    refine ⟨_, rfl, a, _, rfl, D1.getM n1 n2 n3, _, rfl, a, _, rfl, D1.getN n1 n2 n3, _, _, rfl, rfl, .inl ⟨by decide, by decide⟩, _, _, rfl, rfl, ?_⟩
    refine ⟨fun σ H' => ∃ (num : Int) (v3 : Option V) (x y : Int) (cs : List Int), σ = [some (.ref a), some (.int many), some (.int num), v3] ∧ DkSt "cells" "mixed" "draws" H a l x y cs H', ?_, ?_⟩
    · refine ⟨_, rfl, a, _, rfl, D1.getC n1 n2 n3, Nat.zero_le _, fun p hp => ?_⟩
      have D2 := D1.fresh (o := .lst []) hp
      refine ⟨.list (cells.map .int), .list [], .lst (SqL.of D2.cl) (dp_ints _), .lst (SqL.of upd_same) .nil, shp_ints _, shp_ints [], _, rfl, ?_⟩
      rw [eqv_nil]
      cases hc : cells.isEmpty with
      | true => exact ⟨_, _, _, _, _, rfl, D2⟩
      | false =>
        have hc' : cells ≠ [] := fun e => by
          rw [e] at hc
          cases hc
        obtain ⟨c, hlast⟩ := list_last hc'
        have D3 := D2.setV cells.dropLast _ (List.map_dropLast (f := V.int) (l := cells)).symm (by rw [List.length_dropLast]; have := D2.len; omega)
        refine ⟨_, rfl, a, _, rfl, D2.getC n1 n2 n3, .inl ⟨rfl, _, .inl (.inl D2.cl)⟩, l, _, _, rfl, rfl, D2.cl, hlast, ?_⟩
        refine ⟨_, rfl, _, _, rfl, rfl, ⟨by decide, by decide, by decide⟩, _, _, rfl, rfl, _, rfl, ite2 (fun _ => ?_) (fun _ => ?_)⟩
        · have hm : CDivW c (if many > 2 then many else 2) := by
            refine wide_div (b := 8000) (by split <;> omega) ?_ (by decide) (by decide)
            split
            · exact hb
            · decide
          refine ⟨_, rfl, a, _, rfl, D3.getC n1 n2 n3, .inl ⟨rfl, _, .inl (.inl upd_same)⟩, _, rfl, _, rfl, _, _, rfl, _, _, rfl, rfl, hm, l, _, _, rfl, rfl, upd_same, ?_, ?_⟩
          · rw [List.length_dropLast, List.length_map]
            have := D2.len
            exact small1000 (by omega)
          · refine ⟨_, rfl, .inl ⟨_, rfl, _, rfl, _, _, rfl, rfl, h0, ?_⟩⟩
            have D4 := D3.setV (cells.dropLast ++ [c / (if many > 2 then many else 2)]) ((cells.map V.int).dropLast ++ [V.int (c / (if many > 2 then many else 2))]) (by rw [List.map_append, List.map_dropLast] <;> rfl) (by rw [List.length_append, List.length_dropLast, List.length_singleton]; have := D2.len; have := List.length_pos_iff.mpr hc'; omega)
            exact fin c D4
        · refine ⟨_, rfl, _, rfl, .inl ⟨_, rfl, _, _, rfl, rfl, (by show (0 : Int) < _; decide), _, _, rfl, rfl, ?_⟩⟩
          exact ⟨_, _, _, _, _, rfl, D3⟩
    · rintro σ H' ⟨num, v3, x, y, cs, rfl, D⟩
      refine ⟨_, rfl, _, _, rfl, rfl, .inr ⟨by decide, by decide⟩, _, _, rfl, rfl, .inl ⟨_, rfl, _, _, rfl, rfl, (by show (0 : Int) < _; decide), ?_⟩⟩
      generalize hn : (num * 40014 + 91) % 2147483563 = num1
      have hn1 : 0 ≤ num1 ∧ num1 < 2147483563 := by omega
      refine ⟨_, rfl, _, rfl, _, _, rfl, rfl, .inl ⟨by omega, by omega⟩, _, rfl, a, _, rfl, D.getN n1 n2 n3, _, _, rfl, rfl, .inl ⟨by decide, by decide⟩, _, _, rfl, rfl, _, _, rfl, rfl, .inl ⟨_, rfl, _, _, rfl, rfl, (by show (0 : Int) < _; decide), ?_⟩⟩
      refine ⟨_, rfl, _, _, rfl, rfl, .inr ⟨by decide, by decide⟩, .inl ⟨_, rfl, _, _, rfl, rfl, (by show (0 : Int) < _; decide), ?_⟩⟩
      refine ⟨_, rfl, _, _, rfl, rfl, ⟨by decide, by decide⟩, .inl ⟨_, rfl, _, rfl, _, _, rfl, rfl, h0, ?_⟩⟩
      exact fin _ D

/-! _law_pick -/
def sp_l_pick : DSp := fun bs mu R => ∃ (j i : Nat) (ds : List D), bs = [.ref j, .dat (.list ds)] ∧ mu[j]? = some (.deck i) ∧ ds ≠ [] ∧ ds.length < 1000 ∧ ∀ d ∈ ds, R (.dat d) mu
theorem ok_l_pick (T : Tx k mg) (G_l_draw : FnIn k P w mg base 1 "_law_draw" s_l_draw ["deck", "many"] spDraw) : FnIn k P w mg base 2 "_law_pick" s_l_pick ["deck", "some"] sp_l_pick := by
  refine fnIn_of T.f_l_pick sc_l_pick (fun bs mu R h => ?_) ⟨_, fun f cdv A outer s H E C => (s_one (s_ret (d_ix C.hK (d_var (i := 1) rfl (Or.inl rfl)) (d_call C G_l_draw rfl (a_cons (d_var (i := 0) rfl (Or.inl rfl)) (a_cons (d_callB (c_len C.hK) rfl T.z_len PySem.boot_len (a_cons (d_var (i := 1) rfl (Or.inl rfl)) a_nil)) a_nil))) (fun _ _ => rfl)))), fun bs mu R h => ?_⟩
  · obtain ⟨j, i, ds, rfl, hj, hne, hl, h⟩ := h
    rfl
  · obtain ⟨j, i, ds, rfl, hj, hne, hl, h⟩ := h
    walk_at "st"
    walk_at "dl"
    have hp : 0 < ds.length := List.length_pos_iff.mpr hne
    refine ⟨j, i, _, rfl, hj, by omega, pick_bd hl, fun r h0 h1 => ?_⟩
    obtain ⟨d, hd, e⟩ := at_in h0 h1
    walk_at "dl"
    rw [e]
    exact h d hd
/-! _law_divisor -/
def sp_l_divisor : DSp := fun bs mu R => ∃ a b : Int, bs = [.dat (.int a), .dat (.int b)] ∧ R (.dat (.int ((Nat.gcd a.natAbs b.natAbs : Nat) : Int))) mu
theorem ok_l_divisor (T : Tx k mg) : FnIn k P w mg base 1 "_law_divisor" s_l_divisor ["one", "other"] sp_l_divisor := by
  refine fnIn_of T.f_l_divisor sc_l_divisor (fun bs mu R h => ?_) ⟨_, fun f cdv A outer s H E C => (s_cons (s_par (i := 0) (j := 1) C.calm sc_l_divisor.nd rfl rfl (by decide) rfl rfl (a_cons (d_callB c_abs rfl T.z_abs PyProof.Rows.boot_abs (a_cons (d_var (i := 0) rfl (Or.inl rfl)) a_nil)) (a_cons (d_callB c_abs rfl T.z_abs PyProof.Rows.boot_abs (a_cons (d_var (i := 1) rfl (Or.inl rfl)) a_nil)) a_nil)) (by rfl))
      (s_cons (s_while PassesOwn.never (d_tcmp o_gt (d_var (i := 1) rfl (Or.inl rfl)) d_int (nomark _)) (s_one (s_par (i := 0) (j := 1) C.calm sc_l_divisor.nd rfl rfl (by decide) rfl rfl (a_cons (d_var (i := 1) rfl (Or.inl rfl)) (a_cons (d_bin o_mod (d_callTy c_int rfl T.z_int PyProof.Rows.boot_int (a_cons (d_var (i := 0) rfl (Or.inl rfl)) a_nil)) (d_var (i := 1) rfl (Or.inl rfl))) a_nil)) (by rfl))))
      (s_one (s_ret (d_var (i := 0) rfl (Or.inl rfl)))))), fun bs mu R h => ?_⟩
  · obtain ⟨a, b, rfl, h⟩ := h
    rfl
  · obtain ⟨a, b, rfl, h⟩ := h
    walk_at "st"
    walk_at "dl"
    refine while_by (fun en mu2 => mu2 = mu ∧ ∃ x y : Int, en = [some (.dat (.int x)), some (.dat (.int y))] ∧ 0 ≤ x ∧ 0 ≤ y ∧ Nat.gcd x.natAbs y.natAbs = Nat.gcd a.natAbs b.natAbs) (fun en _ => match en with | [_, some (.dat (.int y))] => y.natAbs | _ => 0) ⟨rfl, _, _, rfl, by omega, by omega, by simp⟩ ?_
    rintro en mu2 N ⟨rfl, x, y, rfl, hx, hy, hg⟩ hN
    walk_at "dl"
    split
    · rename_i h0
      refine ⟨by omega, hN _ _ ⟨rfl, _, _, rfl, hy, Int.fmod_nonneg hx hy, ?_⟩ ?_⟩
      · rw [← hg]
        exact gcd_step hx h0
      · show (x.fmod y).natAbs < y.natAbs
        have h1 := Int.fmod_lt_of_pos x h0
        have h2 := Int.fmod_nonneg hx hy
        omega
    · have e : y = 0 := by omega
      subst e
      rw [Int.natAbs_zero, Nat.gcd_zero_right] at hg
      have e2 : x = ((Nat.gcd a.natAbs b.natAbs : Nat) : Int) := by omega
      rw [e2]
      exact h
/-! _law_lowest -/
def sp_l_lowest : DSp := fun bs mu R => ∃ n d, bs = [.dat (.int n), .dat (.int d)] ∧ d ≠ 0 ∧ Bd 8000 d ∧ ∀ n2 d2, FrOf n d n2 d2 → R (.dat (fr n2 d2)) mu
theorem ok_l_lowest (T : Tx k mg) (G_l_divisor : FnIn k P w mg base 1 "_law_divisor" s_l_divisor ["one", "other"] sp_l_divisor) : FnIn k P w mg base 2 "_law_lowest" s_l_lowest ["n", "d"] sp_l_lowest := by
  refine fnIn_of T.f_l_lowest sc_l_lowest (fun bs mu R h => ?_) ⟨_, fun f cdv A outer s H E C => (s_cons (s_set (i := 2) sc_l_lowest.nd rfl (Or.inl rfl) (d_call C G_l_divisor rfl (a_cons (d_var (i := 0) rfl (Or.inl rfl)) (a_cons (d_var (i := 1) rfl (Or.inl rfl)) a_nil))))
      (s_one (s_ret (d_if (d_tcmp o_gt (d_var (i := 1) rfl (Or.inl rfl)) d_int (nomark _)) (d_tup (a_cons (d_bin o_div (d_var (i := 0) rfl (Or.inl rfl)) (d_var (i := 2) rfl (Or.inl rfl))) (a_cons (d_bin o_div (d_var (i := 1) rfl (Or.inl rfl)) (d_var (i := 2) rfl (Or.inl rfl))) a_nil))) (d_tup (a_cons (d_bin o_div (d_neg (d_var (i := 0) rfl (Or.inl rfl))) (d_var (i := 2) rfl (Or.inl rfl))) (a_cons (d_bin o_div (d_neg (d_var (i := 1) rfl (Or.inl rfl))) (d_var (i := 2) rfl (Or.inl rfl))) a_nil))))))), fun bs mu R h => ?_⟩
  · obtain ⟨n, d, rfl, hd, hb, h⟩ := h
    rfl
  · obtain ⟨n, d, rfl, hd, hb, h⟩ := h
    walk_at "st"
    walk_at "dl"
    refine ⟨_, _, rfl, ?_⟩
    walk_at "dl"
    have hl : Bd 8000 ((Nat.gcd n.natAbs d.natAbs : Nat) : Int) := hb.le (by
      rw [Int.natAbs_natCast]
      exact Nat.le_of_dvd (by omega) (Nat.gcd_dvd_right _ _))
    have hg : ((Nat.gcd n.natAbs d.natAbs : Nat) : Int) ≠ 0 := by
      have : 0 < Nat.gcd n.natAbs d.natAbs := Nat.gcd_pos_of_pos_right _ (by omega)
      omega
    by_cases h0 : 0 < d
    · rw [if_pos h0]
      obtain ⟨c0, cl, hf⟩ := low_ok hd (c := ((Nat.gcd n.natAbs d.natAbs : Nat) : Int)) (by rw [if_neg (by omega)])
      exact ⟨⟨hg, hl.log⟩, ⟨hg, hl.log⟩, h _ _ hf⟩
    · rw [if_neg h0]
      obtain ⟨c0, cl, hf⟩ := low_ok (n := -n) (d := -d) (by omega) (c := ((Nat.gcd n.natAbs d.natAbs : Nat) : Int)) (by rw [if_neg (by omega), Int.natAbs_neg, Int.natAbs_neg])
      refine ⟨⟨hg, hl.log⟩, ⟨hg, hl.log⟩, h _ _ ⟨hf.1, ?_⟩⟩
      have := hf.2
      rw [Int.mul_neg, Int.neg_mul, Int.neg_inj] at this
      exact this
def sp_l_same : Nat → DSp
  | 0 => fun _ _ _ => False
  | n + 1 => fun bs mu R => ∃ d, bs = [.dat d, .dat d] ∧ okS n d ∧ R (.dat (.bool true)) mu
/-! _law_same -/
theorem ok_l_same (T : Tx k mg) : ∀ n, FnIn k P w mg base (1 + n) "_law_same" s_l_same ["told", "due"] (sp_l_same n) := by
  intro n
  induction n with
  | zero => exact fnIn_no T.f_l_same fun _ _ _ h => h
  | succ n G_l_same =>
    refine fnIn_of T.f_l_same sc_l_same (fun bs mu R h => ?_) ⟨_, fun f cdv A outer s H E C => (s_cons (s_if (d_tval (d_isi2 (T := .tuple) (U := .list) C.hK (d_var (i := 1) rfl (Or.inl rfl)) rfl T.z_isinstance rfl T.z_tuple PyProof.Rows.boot_tuple rfl T.z_list PyProof.Rows.boot_list)) (s_cons (s_if (PW.pt (dw_or (d_tcmp (o_ne C) (d_isi (T := .tuple) C.hK (d_var (i := 0) rfl (Or.inl rfl)) rfl T.z_isinstance rfl T.z_tuple PyProof.Rows.boot_tuple) (d_isi (T := .tuple) C.hK (d_var (i := 1) rfl (Or.inl rfl)) rfl T.z_isinstance rfl T.z_tuple PyProof.Rows.boot_tuple) (nomark _)) (dw_or1 (d_tcmp (o_ne C) (d_isi (T := .list) C.hK (d_var (i := 0) rfl (Or.inl rfl)) rfl T.z_isinstance rfl T.z_list PyProof.Rows.boot_list) (d_isi (T := .list) C.hK (d_var (i := 1) rfl (Or.inl rfl)) rfl T.z_isinstance rfl T.z_list PyProof.Rows.boot_list) (nomark _))))) (s_one (s_ret d_bl)) s_nil)
      (s_one (s_ret (d_and (d_cmp (o_eq C) (d_callB (c_len C.hK) rfl T.z_len PySem.boot_len (a_cons (d_var (i := 0) rfl (Or.inl rfl)) a_nil)) (d_callB (c_len C.hK) rfl T.z_len PySem.boot_len (a_cons (d_var (i := 1) rfl (Or.inl rfl)) a_nil)) (nomark _)) (d_one (d_cmp (o_eq C) (d_comp (own := [("x", 2), ("y", 3)]) C.calm sc_l_same.nd (i_zip C.hK rfl T.z_zip (a_cons (d_var (i := 0) rfl (Or.inl rfl)) (a_cons (d_var (i := 1) rfl (Or.inl rfl)) a_nil))) (blkOk_by (N := ["told", "due", "x", "y"]) (sc := defScope s_l_same) (by decide +kernel)) (fun _ _ _ _ _ => (g_tup (n := 2) (In.blk C _ _ _ _ _).calm (gs_cons (g_name (i := 2) sc_l_same.nd rfl (Or.inl rfl)) (gs_cons (g_name (i := 3) sc_l_same.nd rfl (Or.inl rfl)) gs_nil)) rfl rfl (In.blk C _ _ _ _ _).hK)) (fun _ _ _ _ _ => (ts_one (dt_not (d_tval (d_call (In.blk C _ _ _ _ _) G_l_same rfl (a_cons (d_var (i := 2) rfl (Or.inl rfl)) (a_cons (d_var (i := 3) rfl (Or.inl rfl)) a_nil)) (Nat.le_refl _)))))) (fun _ _ _ _ _ => d_int)) (d_lst a_nil) (nomark _))))))) s_nil)
      (s_cons (s_if (PW.pt (dw_or (d_tval (d_isi (T := .bool) C.hK (d_var (i := 1) rfl (Or.inl rfl)) rfl T.z_isinstance rfl T.z_bool PyProof.Rows.boot_bool)) (dw_or1 (d_tcmp o_isN (d_var (i := 1) rfl (Or.inl rfl)) d_non (nomark _))))) (s_one (s_ret (d_if (d_tcmp o_isB (d_var (i := 1) rfl (Or.inl rfl)) d_bl (nomark _)) (d_cmp o_isB (d_var (i := 0) rfl (Or.inl rfl)) d_bl (nomark _)) (d_if (d_tcmp o_isB (d_var (i := 1) rfl (Or.inl rfl)) d_bl (nomark _)) (d_cmp o_isB (d_var (i := 0) rfl (Or.inl rfl)) d_bl (nomark _)) (d_cmp o_isN (d_var (i := 0) rfl (Or.inl rfl)) d_non (nomark _)))))) s_nil)
      (s_cons (s_if (d_tval (d_isi (T := .str) C.hK (d_var (i := 1) rfl (Or.inl rfl)) rfl T.z_isinstance rfl T.z_str PyProof.Rows.boot_str)) (s_one (s_ret (d_and (d_isi (T := .str) C.hK (d_var (i := 0) rfl (Or.inl rfl)) rfl T.z_isinstance rfl T.z_str PyProof.Rows.boot_str) (d_one (d_cmp (o_eq C) (d_var (i := 0) rfl (Or.inl rfl)) (d_var (i := 1) rfl (Or.inl rfl)) (nomark _)))))) s_nil)
      (s_one (s_ret (d_and (d_isi (T := .int) C.hK (d_var (i := 0) rfl (Or.inl rfl)) rfl T.z_isinstance rfl T.z_int PyProof.Rows.boot_int) (d_and (d_not (d_isi (T := .bool) C.hK (d_var (i := 0) rfl (Or.inl rfl)) rfl T.z_isinstance rfl T.z_bool PyProof.Rows.boot_bool)) (d_one (d_cmp (o_eq C) (d_var (i := 0) rfl (Or.inl rfl)) (d_var (i := 1) rfl (Or.inl rfl)) (nomark _)))))))))), fun bs mu R h => ?_⟩
    · obtain ⟨d, rfl, hd, h⟩ := h
      rfl
    · obtain ⟨d, rfl, hd, h⟩ := h
      walk_at "st"
      cases d with
      | int i =>
        walk_at "dl"
        exact h
      | tuple ds =>
        cases n with
        | zero => exact absurd hd (by simp [okS])
        | succ n =>
        walk_at "dl"
        refine comp_by (fun _ acc mu2 => acc = [] ∧ mu2 = mu) ⟨rfl, rfl⟩ ?_ ?_
        · rintro i d acc mu2 N hi ⟨rfl, rfl⟩ hN
          obtain ⟨x, hx, rfl⟩ := zip_self hi
          walk_at "dl"
          refine ⟨x, rfl, hd x hx, ?_⟩
          walk_at "dl"
          exact ⟨by simp, by rw [List.take_left]; exact hN _ _ ⟨rfl, rfl⟩⟩
        · rintro acc mu2 ⟨rfl, rfl⟩
          walk_at "dl"
          rw [eqvL_nil]
          exact ⟨shp_nil, shp_nil, h⟩
      | _ => exact absurd hd (by simp [okS])
/-! _law_is_int -/
def sp_l_is_int : DSp := fun bs mu R => ∃ d, bs = [.dat d] ∧ R (.dat (.bool (isT d .int && !isT d .bool))) mu
theorem ok_l_is_int (T : Tx k mg) : FnIn k P w mg base 1 "_law_is_int" s_l_is_int ["thing"] sp_l_is_int := by
  refine fnIn_of T.f_l_is_int sc_l_is_int (fun bs mu R h => ?_) ⟨_, fun f cdv A outer s H E C => (s_one (s_ret (d_and (d_isi (T := .int) C.hK (d_var (i := 0) rfl (Or.inl rfl)) rfl T.z_isinstance rfl T.z_int PyProof.Rows.boot_int) (d_one (d_not (d_isi (T := .bool) C.hK (d_var (i := 0) rfl (Or.inl rfl)) rfl T.z_isinstance rfl T.z_bool PyProof.Rows.boot_bool)))))), fun bs mu R h => ?_⟩
  · obtain ⟨d, rfl, h⟩ := h
    rfl
  · obtain ⟨d, rfl, h⟩ := h
    walk_at "st"
    walk_at "dl"
    cases hd : isT d .int with
    | true =>
      rw [hd] at h
      exact h
    | false =>
      rw [hd] at h
      exact h
/-! _law_int -/
def sp_l_int : DSp := fun bs mu R => ∃ (j i : Nat) (most : Int), bs = [.ref j, .dat (.int most)] ∧ mu[j]? = some (.deck i) ∧ (1 ≤ most ∧ most ≤ 200) ∧ ∀ n, Bd 720 n → R (.dat (.int n)) mu
theorem ok_l_int (T : Tx k mg) (G_l_draw : FnIn k P w mg base 1 "_law_draw" s_l_draw ["deck", "many"] spDraw) (G_l_pick : FnIn k P w mg base 2 "_law_pick" s_l_pick ["deck", "some"] sp_l_pick) : FnIn k P w mg base 3 "_law_int" s_l_int ["deck", "most"] sp_l_int := by
  refine fnIn_of T.f_l_int sc_l_int (fun bs mu R h => ?_) ⟨_, fun f cdv A outer s H E C => (s_cons (s_par (i := 2) (j := 3) C.calm sc_l_int.nd rfl rfl (by decide) rfl rfl (a_cons (d_call C G_l_draw rfl (a_cons (d_var (i := 0) rfl (Or.inl rfl)) (a_cons d_int a_nil))) (a_cons d_int a_nil)) (by rfl))
      (s_cons (s_if (d_tcmp o_lt (d_var (i := 2) rfl (Or.inl rfl)) d_int (nomark _)) (s_one (s_ret (d_bin o_sub (d_call C G_l_draw rfl (a_cons (d_var (i := 0) rfl (Or.inl rfl)) (a_cons d_int a_nil))) d_int))) s_nil)
      (s_cons (s_for PassesOwn.never C.calm (i_range1 rfl T.z_range (d_bin o_add d_int (d_bin o_div (d_var (i := 1) rfl (Or.inl rfl)) d_int))) (g_name (i := 4) sc_l_int.nd rfl (Or.inl rfl)) (s_one (s_set (i := 3) sc_l_int.nd rfl (Or.inl rfl) (d_bin o_add (d_bin o_mul (d_var (i := 3) rfl (Or.inl rfl)) (d_bin o_pow d_int d_int)) (d_call C G_l_draw rfl (a_cons (d_var (i := 0) rfl (Or.inl rfl)) (a_cons (d_bin o_pow d_int d_int) a_nil)))))))
      (s_cons (s_for PassesOwn.never C.calm (i_range1 rfl T.z_range (d_call C G_l_draw rfl (a_cons (d_var (i := 0) rfl (Or.inl rfl)) (a_cons (d_var (i := 1) rfl (Or.inl rfl)) a_nil)))) (g_name (i := 4) sc_l_int.nd rfl (Or.inl rfl)) (s_one (s_set (i := 3) sc_l_int.nd rfl (Or.inl rfl) (d_bin o_div (d_var (i := 3) rfl (Or.inl rfl)) d_int))))
      (s_cons (s_set (i := 3) sc_l_int.nd rfl (Or.inl rfl) (d_bin o_mul (d_var (i := 3) rfl (Or.inl rfl)) (d_call C G_l_pick rfl (a_cons (d_var (i := 0) rfl (Or.inl rfl)) (a_cons (d_lst (a_cons d_int (a_cons d_int (a_cons d_int (a_cons d_int (a_cons d_int (a_cons d_int a_nil))))))) a_nil)))))
      (s_one (s_ret (d_if (d_tcmp (o_eq C) (d_call C G_l_draw rfl (a_cons (d_var (i := 0) rfl (Or.inl rfl)) (a_cons d_int a_nil))) d_int (nomark _)) (d_neg (d_var (i := 3) rfl (Or.inl rfl))) (d_var (i := 3) rfl (Or.inl rfl)))))))))), fun bs mu R h => ?_⟩
  · obtain ⟨j, i, most, rfl, hj, hm, h⟩ := h
    rfl
  · obtain ⟨j, i, most, rfl, hj, hm, h⟩ := h
    walk_at "st"
    walk_at "dl"
    refine drawn hj fun r r0 r1 => ?_
    walk_at "dl"
    by_cases c : r < 3
    · rw [if_pos c]
      refine drawn hj fun r r0 r1 => ?_
      walk_at "dl"
      exact h _ (bd_of (by omega))
    · rw [if_neg c]
      have hd : most.fdiv 9 = most / 9 := Int.fdiv_eq_ediv_of_nonneg most (by decide)
      rw [hd]
      refine ⟨⟨by decide, by decide⟩, by omega, ?_⟩
      refine loop_rng (fun q en mu2 => mu2 = mu ∧ ∃ x t, en = [some (.ref j), some (.dat (.int most)), some (.dat (.int r)), some (.dat (.int x)), t] ∧ 0 ≤ x ∧ x < 2 ^ (30 * q)) ⟨rfl, _, _, rfl, by decide, by decide⟩ ?_ ?_
      · rintro q en mu2 N hq ⟨rfl, x, t, rfl, x0, x1⟩ hN
        walk_at "dl"
        have e9 : (10 : Int) ^ Int.toNat 9 = 1000000000 := by decide
        rw [e9]
        have hq2 : q < 23 := by omega
        have bx : Bd 690 x := bd_pow x0 (pow_mono (by omega) x1)
        refine ⟨⟨by decide, by decide, by decide⟩, Bd.ok bx (bd_of (k := 64) (by decide)), ⟨by decide, by decide, by decide⟩, drawn hj fun r r0 r1 => ?_⟩
        walk_at "dl"
        have st := step_int x0 x1 r0 r1
        exact hN _ _ ⟨rfl, _, _, rfl, st.1, st.2⟩
      · rintro en mu2 ⟨rfl, x, t, rfl, x0, x1⟩
        have x2 : x < 2 ^ 690 := pow_mono (by omega) x1
        walk_at "dl"
        refine drawn hj (fun r r0 r1 => ?_) (by omega) (by omega)
        walk_at "dl"
        refine ⟨by omega, ?_⟩
        refine loop_rng (fun q en mu3 => mu3 = mu2 ∧ ∃ r x t, en = [some (.ref j), some (.dat (.int most)), some (.dat (.int r)), some (.dat (.int x)), t] ∧ 0 ≤ x ∧ x < 2 ^ 690) ⟨rfl, _, _, _, rfl, x0, x2⟩ ?_ ?_
        · rintro q en mu2 N hq ⟨rfl, r, x, t, rfl, x0, x1⟩ hN
          walk_at "dl"
          have hd : x.fdiv 10 = x / 10 := Int.fdiv_eq_ediv_of_nonneg x (by decide)
          rw [hd]
          exact ⟨⟨by decide, by decide⟩, hN _ _ ⟨rfl, _, _, _, rfl, by omega, Int.lt_of_le_of_lt (by omega) x1⟩⟩
        · rintro en mu2 ⟨rfl, r, x, t, rfl, x0, x1⟩
          walk_at "dl"
          refine ⟨j, i, _, rfl, hj, by simp, by simp, fun d hd => ?_⟩
          have hd2 : ∃ e : Int, d = .int e ∧ e.natAbs < 2 ^ 8 := by
            simp only [List.mem_cons, List.not_mem_nil, or_false] at hd
            rcases hd with rfl | rfl | rfl | rfl | rfl | rfl <;> exact ⟨_, rfl, by decide⟩
          obtain ⟨e, rfl, he⟩ := hd2
          have be : Bd 8 e := he
          have bx := bd_pow x0 x1
          walk_at "dl"
          refine ⟨bx.ok be, drawn hj fun r r0 r1 => ?_⟩
          walk_at "dl"
          have bb : Bd 720 (x * e) := (bx.mul be).mono (by decide)
          by_cases c : r = 0
          · rw [if_pos c]
            exact h _ bb.neg
          · rw [if_neg c]
            exact h _ bb
/-! _law_is_fraction -/
def sp_l_is_fraction : DSp := fun bs mu R => ∃ n d, bs = [.dat (fr n d)] ∧ IsFr n d ∧ R (.dat (.bool true)) mu
theorem ok_l_is_fraction (T : Tx k mg) (G_l_divisor : FnIn k P w mg base 1 "_law_divisor" s_l_divisor ["one", "other"] sp_l_divisor) (G_l_is_int : FnIn k P w mg base 1 "_law_is_int" s_l_is_int ["thing"] sp_l_is_int) : FnIn k P w mg base 2 "_law_is_fraction" s_l_is_fraction ["thing"] sp_l_is_fraction := by
  refine fnIn_of T.f_l_is_fraction sc_l_is_fraction (fun bs mu R h => ?_) ⟨_, fun f cdv A outer s H E C => (s_cons (s_if (PW.pt (dw_or (dt_not (d_tval (d_isi (T := .tuple) C.hK (d_var (i := 0) rfl (Or.inl rfl)) rfl T.z_isinstance rfl T.z_tuple PyProof.Rows.boot_tuple))) (dw_or (d_tcmp (o_ne C) (d_callB (c_len C.hK) rfl T.z_len PySem.boot_len (a_cons (d_var (i := 0) rfl (Or.inl rfl)) a_nil)) d_int (nomark _)) (dw_or (dt_not (d_tval (d_call C G_l_is_int rfl (a_cons (d_ix C.hK (d_var (i := 0) rfl (Or.inl rfl)) d_int (fun _ _ => rfl)) a_nil)))) (dw_or1 (dt_not (d_tval (d_call C G_l_is_int rfl (a_cons (d_ix C.hK (d_var (i := 0) rfl (Or.inl rfl)) d_int (fun _ _ => rfl)) a_nil))))))))) (s_one (s_ret d_bl)) s_nil)
      (s_one (s_ret (d_and (d_cmp o_ge (d_ix C.hK (d_var (i := 0) rfl (Or.inl rfl)) d_int (fun _ _ => rfl)) d_int (nomark _)) (d_one (d_cmp (o_eq C) (d_call C G_l_divisor rfl (a_cons (d_ix C.hK (d_var (i := 0) rfl (Or.inl rfl)) d_int (fun _ _ => rfl)) (a_cons (d_ix C.hK (d_var (i := 0) rfl (Or.inl rfl)) d_int (fun _ _ => rfl)) a_nil))) d_int (nomark _))))))), fun bs mu R h => ?_⟩
  · obtain ⟨n, d, rfl, hf, h⟩ := h
    rfl
  · obtain ⟨n, d, rfl, hf, h⟩ := h
    walk_at "st"
    walk_at "dl"
    refine ⟨_, rfl, ?_⟩
    walk_at "dl"
    refine ⟨_, rfl, ?_⟩
    walk_at "dl"
    rw [if_pos hf.1]
    refine ⟨_, _, rfl, ?_⟩
    walk_at "dl"
    rw [hf.2]
    exact h
/-! _law_fraction -/
def sp_l_fraction : DSp := fun bs mu R => ∃ (j i : Nat) (most : Int), bs = [.ref j, .dat (.int most)] ∧ mu[j]? = some (.deck i) ∧ (1 ≤ most ∧ most ≤ 200) ∧ ∀ n d, IsFr n d → Bd 721 n → Bd 721 d → R (.dat (fr n d)) mu
theorem ok_l_fraction (T : Tx k mg) (G_l_draw : FnIn k P w mg base 1 "_law_draw" s_l_draw ["deck", "many"] spDraw) (G_l_int : FnIn k P w mg base 3 "_law_int" s_l_int ["deck", "most"] sp_l_int) (G_l_lowest : FnIn k P w mg base 2 "_law_lowest" s_l_lowest ["n", "d"] sp_l_lowest) (G_l_pick : FnIn k P w mg base 2 "_law_pick" s_l_pick ["deck", "some"] sp_l_pick) : FnIn k P w mg base 4 "_law_fraction" s_l_fraction ["deck", "most"] sp_l_fraction := by
  refine fnIn_of T.f_l_fraction sc_l_fraction (fun bs mu R h => ?_) ⟨_, fun f cdv A outer s H E C => (s_cons (s_set (i := 2) sc_l_fraction.nd rfl (Or.inl rfl) (d_call C G_l_draw rfl (a_cons (d_var (i := 0) rfl (Or.inl rfl)) (a_cons d_int a_nil))))
      (s_cons (s_if (d_tcmp o_lt (d_var (i := 2) rfl (Or.inl rfl)) d_int (nomark _)) (s_one (s_ret (d_call C G_l_pick rfl (a_cons (d_var (i := 0) rfl (Or.inl rfl)) (a_cons (d_lst (a_cons (d_tup (a_cons d_int (a_cons d_int a_nil))) (a_cons (d_tup (a_cons d_int (a_cons d_int a_nil))) (a_cons (d_tup (a_cons (d_neg d_int) (a_cons d_int a_nil))) (a_cons (d_tup (a_cons d_int (a_cons d_int a_nil))) (a_cons (d_tup (a_cons (d_neg d_int) (a_cons d_int a_nil))) (a_cons (d_tup (a_cons d_int (a_cons d_int a_nil))) (a_cons (d_tup (a_cons (d_neg d_int) (a_cons d_int a_nil))) (a_cons (d_tup (a_cons d_int (a_cons d_int a_nil))) (a_cons (d_tup (a_cons d_int (a_cons d_int a_nil))) (a_cons (d_tup (a_cons d_int (a_cons d_int a_nil))) (a_cons (d_tup (a_cons (d_neg d_int) (a_cons d_int a_nil))) a_nil)))))))))))) a_nil))))) s_nil)
      (s_cons (s_if (d_tcmp (o_eq C) (d_var (i := 2) rfl (Or.inl rfl)) d_int (nomark _)) (s_one (s_ret (d_tup (a_cons (d_call C G_l_int rfl (a_cons (d_var (i := 0) rfl (Or.inl rfl)) (a_cons (d_var (i := 1) rfl (Or.inl rfl)) a_nil))) (a_cons d_int a_nil))))) s_nil)
      (s_one (s_ret (d_call C G_l_lowest rfl (a_cons (d_call C G_l_int rfl (a_cons (d_var (i := 0) rfl (Or.inl rfl)) (a_cons (d_var (i := 1) rfl (Or.inl rfl)) a_nil))) (a_cons (d_bin o_add (d_callB c_abs rfl T.z_abs PyProof.Rows.boot_abs (a_cons (d_call C G_l_int rfl (a_cons (d_var (i := 0) rfl (Or.inl rfl)) (a_cons (d_var (i := 1) rfl (Or.inl rfl)) a_nil))) a_nil)) d_int) a_nil)))))))), fun bs mu R h => ?_⟩
  · obtain ⟨j, i, most, rfl, hj, hm, h⟩ := h
    rfl
  · obtain ⟨j, i, most, rfl, hj, hm, h⟩ := h
    walk_at "st"
    walk_at "dl"
    refine drawn hj fun r r0 r1 => ?_
    walk_at "dl"
    by_cases c : r < 2
    · rw [if_pos c]
      refine ⟨j, i, _, rfl, hj, by simp, by simp, fun d hd => ?_⟩
      have hd2 : ∃ n e : Int, d = fr n e ∧ IsFr n e ∧ n.natAbs < 2 ^ 64 ∧ e.natAbs < 2 ^ 64 := by
        simp only [List.mem_cons, List.not_mem_nil, or_false] at hd
        rcases hd with rfl | rfl | rfl | rfl | rfl | rfl | rfl | rfl | rfl | rfl | rfl <;> exact ⟨_, _, rfl, ⟨by decide, by decide⟩, by decide, by decide⟩
      obtain ⟨n, e, rfl, hf, hn, he⟩ := hd2
      walk_at "dl"
      exact h _ _ hf (bd_of hn) (bd_of he)
    · rw [if_neg c]
      by_cases c2 : r = 2
      · rw [if_pos c2]
        refine ⟨j, i, most, rfl, hj, hm, fun n hn => ?_⟩
        walk_at "dl"
        exact h _ _ (isFr_one n) (hn.mono (by decide)) (bd_of (by decide))
      · rw [if_neg c2]
        refine ⟨j, i, most, rfl, hj, hm, fun n hn => ?_⟩
        refine ⟨j, i, most, rfl, hj, hm, fun m hm2 => ?_⟩
        walk_at "dl"
        have hm0 : ((m.natAbs : Int) + 1) ≠ 0 := by omega
        have hb : Bd 721 ((m.natAbs : Int) + 1) := Bd.add (a := 720) (hm2.le (by omega)) (bd_of (by decide))
        refine ⟨_, _, rfl, hm0, hb.mono (by decide), fun n2 d2 hf => ?_⟩
        walk_at "dl"
        have := frOf_bd hm0 hf (hn.mono (by decide : 720 ≤ 721)) hb
        exact h _ _ hf.1 this.1 this.2
/-! _law_sign -/
def sp_l_sign : DSp := fun bs mu R => ∃ a b c d, bs = [.dat (fr a b), .dat (fr c d)] ∧ (Bd 4000 a ∧ Bd 4000 b ∧ Bd 4000 c ∧ Bd 4000 d) ∧ R (.dat (.int (sgn (a * d - c * b)))) mu
theorem ok_l_sign (T : Tx k mg) : FnIn k P w mg base 1 "_law_sign" s_l_sign ["one", "other"] sp_l_sign := by
  refine fnIn_of T.f_l_sign sc_l_sign (fun bs mu R h => ?_) ⟨_, fun f cdv A outer s H E C => (s_cons (s_set (i := 2) sc_l_sign.nd rfl (Or.inl rfl) (d_bin o_sub (d_bin o_mul (d_ix C.hK (d_var (i := 0) rfl (Or.inl rfl)) d_int (fun _ _ => rfl)) (d_ix C.hK (d_var (i := 1) rfl (Or.inl rfl)) d_int (fun _ _ => rfl))) (d_bin o_mul (d_ix C.hK (d_var (i := 1) rfl (Or.inl rfl)) d_int (fun _ _ => rfl)) (d_ix C.hK (d_var (i := 0) rfl (Or.inl rfl)) d_int (fun _ _ => rfl)))))
      (s_one (s_ret (d_if (d_tcmp (o_eq C) (d_var (i := 2) rfl (Or.inl rfl)) d_int (nomark _)) d_int (d_if (d_tcmp o_gt (d_var (i := 2) rfl (Or.inl rfl)) d_int (nomark _)) d_int (d_neg d_int)))))), fun bs mu R h => ?_⟩
  · obtain ⟨a, b, c, d, rfl, ⟨b1, b2, b3, b4⟩, h⟩ := h
    rfl
  · obtain ⟨a, b, c, d, rfl, ⟨b1, b2, b3, b4⟩, h⟩ := h
    walk_at "st"
    walk_at "dl"
    refine ⟨b1.ok b4, b3.ok b2, ?_⟩
    unfold sgn at h
    by_cases h0 : a * d - c * b = 0
    · rw [if_pos h0] at h ⊢
      exact h
    · rw [if_neg h0] at h ⊢
      by_cases h1 : 0 < a * d - c * b
      · rw [if_pos h1] at h ⊢
        exact h
      · rw [if_neg h1] at h ⊢
        exact h
/-! _law_near -/
def sp_l_near : DSp := fun bs mu R => ∃ (j i : Nat) (a b : Int), bs = [.ref j, .dat (fr a b)] ∧ mu[j]? = some (.deck i) ∧ IsFr a b ∧ Bd 721 a ∧ Bd 721 b ∧ ∀ n d, IsFr n d → Bd 860 n → Bd 860 d → R (.dat (fr n d)) mu
theorem ok_l_near (T : Tx k mg) (G_l_lowest : FnIn k P w mg base 2 "_law_lowest" s_l_lowest ["n", "d"] sp_l_lowest) (G_l_pick : FnIn k P w mg base 2 "_law_pick" s_l_pick ["deck", "some"] sp_l_pick) : FnIn k P w mg base 3 "_law_near" s_l_near ["deck", "one"] sp_l_near := by
  refine fnIn_of T.f_l_near sc_l_near (fun bs mu R h => ?_) ⟨_, fun f cdv A outer s H E C => (s_cons (s_asg (d_var (i := 1) rfl (Or.inl rfl)) (g_tup (n := 2) C.calm (gs_cons (g_name (i := 2) sc_l_near.nd rfl (Or.inl rfl)) (gs_cons (g_name (i := 3) sc_l_near.nd rfl (Or.inl rfl)) gs_nil)) rfl rfl C.hK))
      (s_cons (s_set (i := 4) sc_l_near.nd rfl (Or.inl rfl) (d_call C G_l_pick rfl (a_cons (d_var (i := 0) rfl (Or.inl rfl)) (a_cons (d_lst (a_cons d_int (a_cons (d_bin o_pow d_int d_int) (a_cons (d_bin o_pow d_int d_int) (a_cons (d_bin o_pow d_int d_int) a_nil))))) a_nil))))
      (s_cons (s_set (i := 5) sc_l_near.nd rfl (Or.inl rfl) (d_lst (a_cons (d_var (i := 1) rfl (Or.inl rfl)) (a_cons (d_tup (a_cons (d_bin o_div (d_var (i := 2) rfl (Or.inl rfl)) (d_var (i := 3) rfl (Or.inl rfl))) (a_cons d_int a_nil))) (a_cons (d_tup (a_cons (d_bin o_add (d_bin o_div (d_var (i := 2) rfl (Or.inl rfl)) (d_var (i := 3) rfl (Or.inl rfl))) d_int) (a_cons d_int a_nil))) (a_cons (d_tup (a_cons (d_bin o_add (d_bin o_mul (d_var (i := 2) rfl (Or.inl rfl)) (d_var (i := 4) rfl (Or.inl rfl))) d_int) (a_cons (d_bin o_mul (d_var (i := 3) rfl (Or.inl rfl)) (d_var (i := 4) rfl (Or.inl rfl))) a_nil))) (a_cons (d_tup (a_cons (d_bin o_sub (d_bin o_mul (d_var (i := 2) rfl (Or.inl rfl)) (d_var (i := 4) rfl (Or.inl rfl))) d_int) (a_cons (d_bin o_mul (d_var (i := 3) rfl (Or.inl rfl)) (d_var (i := 4) rfl (Or.inl rfl))) a_nil))) (a_cons (d_tup (a_cons (d_neg (d_var (i := 2) rfl (Or.inl rfl))) (a_cons (d_var (i := 3) rfl (Or.inl rfl)) a_nil))) a_nil))))))))
      (s_cons (s_set (i := 6) sc_l_near.nd rfl (Or.inl rfl) (d_call C G_l_pick rfl (a_cons (d_var (i := 0) rfl (Or.inl rfl)) (a_cons (d_var (i := 5) rfl (Or.inl rfl)) a_nil))))
      (s_one (s_ret (d_call C G_l_lowest rfl (a_cons (d_ix C.hK (d_var (i := 6) rfl (Or.inl rfl)) d_int (fun _ _ => rfl)) (a_cons (d_ix C.hK (d_var (i := 6) rfl (Or.inl rfl)) d_int (fun _ _ => rfl)) a_nil))))))))), fun bs mu R h => ?_⟩
  · obtain ⟨j, i, a, b, rfl, hj, hf, b1, b2, h⟩ := h
    rfl
  · obtain ⟨j, i, a, b, rfl, hj, hf, b1, b2, h⟩ := h
    walk_at "st"
    walk_at "dl"
    have hb := hf.1
    refine ⟨⟨by decide, by decide, by decide⟩, ⟨by decide, by decide, by decide⟩, ⟨by decide, by decide, by decide⟩, ⟨j, i, _, rfl, hj, by simp, by simp, fun e he => ?_⟩⟩
    have he2 : ∃ x : Int, e = .int x ∧ 1 ≤ x ∧ Bd 130 x := by
      simp only [List.mem_cons, List.not_mem_nil, or_false] at he
      rcases he with rfl | rfl | rfl | rfl <;> exact ⟨_, rfl, by decide, by decide⟩
    obtain ⟨x, rfl, x1, bx⟩ := he2
    walk_at "dl"
    refine ⟨⟨by omega, b2.log⟩, ⟨by omega, b2.log⟩, b1.ok bx, b2.ok bx, b1.ok bx, b2.ok bx, ?_⟩
    refine ⟨j, i, _, rfl, hj, by simp, by simp, fun e he => ?_⟩
    have bq : Bd 721 (a.fdiv b) := b1.le (fdiv_bd hb)
    have bo : Bd 851 1 := bd_of (by decide)
    have hbx : 1 ≤ b * x := by
      have : 0 < b * x := Int.mul_pos (by omega) (by omega)
      omega
    have he3 : ∃ p q : Int, e = fr p q ∧ 1 ≤ q ∧ Bd 860 p ∧ Bd 860 q := by
      simp only [List.mem_cons, List.not_mem_nil, or_false] at he
      rcases he with rfl | rfl | rfl | rfl | rfl | rfl
      · exact ⟨a, b, rfl, hb, b1.mono (by decide), b2.mono (by decide)⟩
      · exact ⟨_, _, rfl, by decide, bq.mono (by decide), bd_of (by decide)⟩
      · exact ⟨_, _, rfl, by decide, ((bq.mono (by decide : 721 ≤ 851)).add bo).mono (by decide), bd_of (by decide)⟩
      · exact ⟨_, _, rfl, hbx, ((b1.mul bx).add bo).mono (by decide), (b2.mul bx).mono (by decide)⟩
      · exact ⟨_, _, rfl, hbx, ((b1.mul bx).sub bo).mono (by decide), (b2.mul bx).mono (by decide)⟩
      · exact ⟨_, _, rfl, hb, b1.neg.mono (by decide), b2.mono (by decide)⟩
    obtain ⟨p, q, rfl, hq, bp, bq⟩ := he3
    walk_at "dl"
    refine ⟨_, _, rfl, by omega, bq.mono (by decide), fun n2 d2 f => ?_⟩
    walk_at "dl"
    have := frOf_bd (by omega) f bp bq
    exact h _ _ f.1 this.1 this.2
/-! _law_share -/
def sp_l_share : DSp := fun bs mu R => ∃ (j i : Nat) (most : Int), bs = [.ref j, .dat (.int most)] ∧ mu[j]? = some (.deck i) ∧ (1 ≤ most ∧ most ≤ 200) ∧ ∀ n d, IsFr n d → Bd 721 n → Bd 721 d → R (.dat (fr n d)) mu
theorem ok_l_share (T : Tx k mg) (G_l_draw : FnIn k P w mg base 1 "_law_draw" s_l_draw ["deck", "many"] spDraw) (G_l_fraction : FnIn k P w mg base 4 "_law_fraction" s_l_fraction ["deck", "most"] sp_l_fraction) (G_l_lowest : FnIn k P w mg base 2 "_law_lowest" s_l_lowest ["n", "d"] sp_l_lowest) (G_l_pick : FnIn k P w mg base 2 "_law_pick" s_l_pick ["deck", "some"] sp_l_pick) : FnIn k P w mg base 5 "_law_share" s_l_share ["deck", "most"] sp_l_share := by
  refine fnIn_of T.f_l_share sc_l_share (fun bs mu R h => ?_) ⟨_, fun f cdv A outer s H E C => (s_cons (s_if (d_tcmp (o_eq C) (d_call C G_l_draw rfl (a_cons (d_var (i := 0) rfl (Or.inl rfl)) (a_cons d_int a_nil))) d_int (nomark _)) (s_one (s_ret (d_call C G_l_pick rfl (a_cons (d_var (i := 0) rfl (Or.inl rfl)) (a_cons (d_lst (a_cons (d_tup (a_cons d_int (a_cons d_int a_nil))) (a_cons (d_tup (a_cons d_int (a_cons d_int a_nil))) (a_cons (d_tup (a_cons d_int (a_cons d_int a_nil))) (a_cons (d_tup (a_cons d_int (a_cons d_int a_nil))) (a_cons (d_tup (a_cons d_int (a_cons d_int a_nil))) (a_cons (d_tup (a_cons (d_neg d_int) (a_cons d_int a_nil))) (a_cons (d_tup (a_cons d_int (a_cons d_int a_nil))) (a_cons (d_tup (a_cons d_int (a_cons d_int a_nil))) a_nil))))))))) a_nil))))) s_nil)
      (s_cons (s_set (i := 2) sc_l_share.nd rfl (Or.inl rfl) (d_bin o_add d_int (d_call C G_l_draw rfl (a_cons (d_var (i := 0) rfl (Or.inl rfl)) (a_cons (d_bin o_pow d_int d_int) a_nil)))))
      (s_one (s_ret (d_if (d_tcmp (o_eq C) (d_call C G_l_draw rfl (a_cons (d_var (i := 0) rfl (Or.inl rfl)) (a_cons d_int a_nil))) d_int (nomark _)) (d_call C G_l_lowest rfl (a_cons (d_call C G_l_draw rfl (a_cons (d_var (i := 0) rfl (Or.inl rfl)) (a_cons (d_bin o_add (d_var (i := 2) rfl (Or.inl rfl)) d_int) a_nil))) (a_cons (d_var (i := 2) rfl (Or.inl rfl)) a_nil))) (d_call C G_l_fraction rfl (a_cons (d_var (i := 0) rfl (Or.inl rfl)) (a_cons (d_var (i := 1) rfl (Or.inl rfl)) a_nil)))))))), fun bs mu R h => ?_⟩
  · obtain ⟨j, i, most, rfl, hj, hm, h⟩ := h
    rfl
  · obtain ⟨j, i, most, rfl, hj, hm, h⟩ := h
    walk_at "st"
    walk_at "dl"
    refine drawn hj fun r r0 r1 => ?_
    walk_at "dl"
    by_cases c : r = 0
    · rw [if_pos c]
      refine ⟨by decide, j, i, _, rfl, hj, by simp, by simp, fun d hd => ?_⟩
      have hd2 : ∃ n e : Int, d = fr n e ∧ IsFr n e ∧ n.natAbs < 2 ^ 64 ∧ e.natAbs < 2 ^ 64 := by
        simp only [List.mem_cons, List.not_mem_nil, or_false] at hd
        rcases hd with rfl | rfl | rfl | rfl | rfl | rfl | rfl | rfl <;> exact ⟨_, _, rfl, ⟨by decide, by decide⟩, by decide, by decide⟩
      obtain ⟨n, e, rfl, hf, hn, he⟩ := hd2
      walk_at "dl"
      exact h _ _ hf (bd_of hn) (bd_of he)
    · rw [if_neg c]
      have e6 : (10 : Int) ^ Int.toNat 6 = 1000000 := by decide
      rw [e6]
      refine ⟨⟨by decide, by decide, by decide⟩, drawn hj fun r r0 r1 => ?_⟩
      walk_at "dl"
      refine drawn hj fun r2 _ _ => ?_
      walk_at "dl"
      by_cases c2 : r2 = 0
      · rw [if_pos c2]
        refine drawn hj (fun r3 r4 r5 => ?_) (by omega) (by omega)
        have hd : 2 + r ≠ 0 := by omega
        refine ⟨_, _, rfl, hd, bd_of (by omega), fun n2 d2 f => ?_⟩
        walk_at "dl"
        have := frOf_bd (k := 721) hd f (bd_of (by omega)) (bd_of (by omega))
        exact h _ _ f.1 this.1 this.2
      · rw [if_neg c2]
        refine ⟨j, i, most, rfl, hj, hm, fun n d f p1 p2 => ?_⟩
        walk_at "dl"
        exact h _ _ f p1 p2
/-! _law_is_mixed -/
def sp_l_is_mixed : DSp := fun bs mu R => ∃ a b c d s t n m, bs = [.dat (fr a b), .dat (fr c d), .dat (fr s t), .dat (fr n m)] ∧ (IsFr a b ∧ IsFr c d ∧ IsFr s t ∧ IsFr n m) ∧ (Bd 860 a ∧ Bd 860 b ∧ Bd 860 c ∧ Bd 860 d ∧ Bd 860 s ∧ Bd 860 t ∧ Bd 4000 n ∧ Bd 4000 m) ∧ n * (b * d * t) = ((t - s) * a * d + s * c * b) * m ∧ R (.dat (.bool true)) mu
theorem ok_l_is_mixed (T : Tx k mg) (G_l_is_fraction : FnIn k P w mg base 2 "_law_is_fraction" s_l_is_fraction ["thing"] sp_l_is_fraction) (G_l_sign : FnIn k P w mg base 1 "_law_sign" s_l_sign ["one", "other"] sp_l_sign) : FnIn k P w mg base 3 "_law_is_mixed" s_l_is_mixed ["one", "other", "share", "told"] sp_l_is_mixed := by
  refine fnIn_of T.f_l_is_mixed sc_l_is_mixed (fun bs mu R h => ?_) ⟨_, fun f cdv A outer s H E C => (s_cons (s_if (dt_not (d_tval (d_call C G_l_is_fraction rfl (a_cons (d_var (i := 3) rfl (Or.inl rfl)) a_nil)))) (s_one (s_ret d_bl)) s_nil)
      (s_cons (s_asg (d_tup (a_cons (d_var (i := 0) rfl (Or.inl rfl)) (a_cons (d_var (i := 1) rfl (Or.inl rfl)) (a_cons (d_var (i := 2) rfl (Or.inl rfl)) a_nil)))) (g_tup (n := 3) C.calm (gs_cons (g_tup (n := 2) C.calm (gs_cons (g_name (i := 4) sc_l_is_mixed.nd rfl (Or.inl rfl)) (gs_cons (g_name (i := 5) sc_l_is_mixed.nd rfl (Or.inl rfl)) gs_nil)) rfl rfl C.hK) (gs_cons (g_tup (n := 2) C.calm (gs_cons (g_name (i := 6) sc_l_is_mixed.nd rfl (Or.inl rfl)) (gs_cons (g_name (i := 7) sc_l_is_mixed.nd rfl (Or.inl rfl)) gs_nil)) rfl rfl C.hK) (gs_cons (g_tup (n := 2) C.calm (gs_cons (g_name (i := 8) sc_l_is_mixed.nd rfl (Or.inl rfl)) (gs_cons (g_name (i := 9) sc_l_is_mixed.nd rfl (Or.inl rfl)) gs_nil)) rfl rfl C.hK) gs_nil))) rfl rfl C.hK))
      (s_cons (s_if (d_tcmp (o_ne C) (d_bin o_mul (d_bin o_mul (d_bin o_mul (d_ix C.hK (d_var (i := 3) rfl (Or.inl rfl)) d_int (fun _ _ => rfl)) (d_var (i := 5) rfl (Or.inl rfl))) (d_var (i := 7) rfl (Or.inl rfl))) (d_var (i := 9) rfl (Or.inl rfl))) (d_bin o_mul (d_bin o_add (d_bin o_mul (d_bin o_mul (d_bin o_sub (d_var (i := 9) rfl (Or.inl rfl)) (d_var (i := 8) rfl (Or.inl rfl))) (d_var (i := 4) rfl (Or.inl rfl))) (d_var (i := 7) rfl (Or.inl rfl))) (d_bin o_mul (d_bin o_mul (d_var (i := 8) rfl (Or.inl rfl)) (d_var (i := 6) rfl (Or.inl rfl))) (d_var (i := 5) rfl (Or.inl rfl)))) (d_ix C.hK (d_var (i := 3) rfl (Or.inl rfl)) d_int (fun _ _ => rfl))) (nomark _)) (s_one (s_ret d_bl)) s_nil)
      (s_cons (s_if (d_tchain o_le o_le d_int (d_var (i := 8) rfl (Or.inl rfl)) (d_var (i := 9) rfl (Or.inl rfl))) (s_cons (s_asg (d_if (d_tcmp o_le (d_call C G_l_sign rfl (a_cons (d_var (i := 0) rfl (Or.inl rfl)) (a_cons (d_var (i := 1) rfl (Or.inl rfl)) a_nil))) d_int (nomark _)) (d_tup (a_cons (d_var (i := 0) rfl (Or.inl rfl)) (a_cons (d_var (i := 1) rfl (Or.inl rfl)) a_nil))) (d_tup (a_cons (d_var (i := 1) rfl (Or.inl rfl)) (a_cons (d_var (i := 0) rfl (Or.inl rfl)) a_nil)))) (g_tup (n := 2) C.calm (gs_cons (g_name (i := 10) sc_l_is_mixed.nd rfl (Or.inl rfl)) (gs_cons (g_name (i := 11) sc_l_is_mixed.nd rfl (Or.inl rfl)) gs_nil)) rfl rfl C.hK))
      (s_one (s_ret (d_chain o_le o_le (d_call C G_l_sign rfl (a_cons (d_var (i := 10) rfl (Or.inl rfl)) (a_cons (d_var (i := 3) rfl (Or.inl rfl)) a_nil))) d_int (d_call C G_l_sign rfl (a_cons (d_var (i := 11) rfl (Or.inl rfl)) (a_cons (d_var (i := 3) rfl (Or.inl rfl)) a_nil))))))) s_nil)
      (s_one (s_ret d_bl)))))), fun bs mu R h => ?_⟩
  · obtain ⟨a, b, c, d, s, t, n, m, rfl, ⟨h1, h2, h3, h4⟩, ⟨b1, b2, b3, b4, b5, b6, b7, b8⟩, e, h⟩ := h
    rfl
  · obtain ⟨a, b, c, d, s, t, n, m, rfl, ⟨h1, h2, h3, h4⟩, ⟨b1, b2, b3, b4, b5, b6, b7, b8⟩, e, h⟩ := h
    walk_at "st"
    walk_at "dl"
    have hb := h1.1
    have hd := h2.1
    have ht := h3.1
    have hm := h4.1
    refine ⟨_, _, rfl, h4, ?_⟩
    walk_at "dl"
    have bts : Bd 861 (t - s) := b6.sub b5
    have bs : Bd 2582 ((t - s) * a * d + s * c * b) := ((bts.mul b1).mul b4).add (((b5.mul b3).mul b2).mono (by decide))
    have e2 : n * b * d * t = ((t - s) * a * d + s * c * b) * m := by
      rw [← e, Int.mul_assoc, Int.mul_assoc, Int.mul_assoc]
    refine ⟨b7.ok b2, (b7.mul b2).ok b4, ((b7.mul b2).mul b4).ok b6, bts.ok b1, (bts.mul b1).ok b4, b5.ok b3, (b5.mul b3).ok b2, bs.ok b8, ?_⟩
    rw [decide_eq_true e2]
    walk_at "dl"
    have xa : Bd 4000 a := b1.mono (by decide)
    have xb : Bd 4000 b := b2.mono (by decide)
    have xc : Bd 4000 c := b3.mono (by decide)
    have xd : Bd 4000 d := b4.mono (by decide)
    by_cases c0 : 0 ≤ s
    · rw [if_pos c0]
      by_cases c1 : s ≤ t
      · rw [if_pos c1]
        refine ⟨_, _, _, _, rfl, ⟨xa, xb, xc, xd⟩, ?_⟩
        walk_at "dl"
        by_cases c2 : sgn (a * d - c * b) ≤ 0
        · have g := sgn_le' c2
          have q1 := mix_lo hm hd ht c0 e (by omega)
          have q2 := mix_hi hm hb ht c1 e (by omega)
          rw [if_pos c2]
          refine ⟨_, _, _, _, rfl, ⟨xa, xb, b7, b8⟩, ?_⟩
          walk_at "dl"
          rw [if_pos (sgn_le (by omega))]
          refine ⟨_, _, _, _, rfl, ⟨xc, xd, b7, b8⟩, ?_⟩
          walk_at "dl"
          rw [decide_eq_true (sgn_ge (by omega))]
          exact h
        · have g := sgn_gt' c2
          have e3 : (-n) * (b * d * t) = ((t - s) * (-a) * d + s * (-c) * b) * m := by grind
          have q1 := mix_lo hm hd ht c0 e3 (by rw [Int.neg_mul, Int.neg_mul]; omega)
          have q2 := mix_hi hm hb ht c1 e3 (by rw [Int.neg_mul, Int.neg_mul]; omega)
          rw [Int.neg_mul, Int.neg_mul] at q1 q2
          rw [if_neg c2]
          refine ⟨_, _, _, _, rfl, ⟨xc, xd, b7, b8⟩, ?_⟩
          walk_at "dl"
          rw [if_pos (sgn_le (by omega))]
          refine ⟨_, _, _, _, rfl, ⟨xa, xb, b7, b8⟩, ?_⟩
          walk_at "dl"
          rw [decide_eq_true (sgn_ge (by omega))]
          exact h
      · rw [if_neg c1]
        exact h
    · rw [if_neg c0]
      exact h
/-! law -/
def sp_law : DSp := fun bs mu R => ∃ ns : List Int, bs = [.dat (.list (ns.map PyData.int))] ∧ ns.length ≤ 63 ∧ ∀ mu, R (.dat (.bool true)) mu
theorem ok_law (T : Tx k mg) (G_l_deck : FnIn k P w mg base 1 "_law_deck" s_l_deck ["script"] spDeck) (G_l_draw : FnIn k P w mg base 1 "_law_draw" s_l_draw ["deck", "many"] spDraw) (G_l_fraction : FnIn k P w mg base 4 "_law_fraction" s_l_fraction ["deck", "most"] sp_l_fraction) (G_l_is_int : FnIn k P w mg base 1 "_law_is_int" s_l_is_int ["thing"] sp_l_is_int) (G_l_is_mixed : FnIn k P w mg base 3 "_law_is_mixed" s_l_is_mixed ["one", "other", "share", "told"] sp_l_is_mixed) (G_l_near : FnIn k P w mg base 3 "_law_near" s_l_near ["deck", "one"] sp_l_near) (G_l_same : FnIn k P w mg base 6 "_law_same" s_l_same ["told", "due"] (sp_l_same 5)) (G_l_share : FnIn k P w mg base 5 "_law_share" s_l_share ["deck", "most"] sp_l_share) (G_l_sign : FnIn k P w mg base 1 "_law_sign" s_l_sign ["one", "other"] sp_l_sign) (G_ceiling_of : FnIn k P w mg base 5 "ceiling_of" s_ceiling_of ["one"] sp_ceiling_of) (G_compared : FnIn k P w mg base 6 "compared" s_compared ["one", "other"] sp_compared) (G_floor_of : FnIn k P w mg base 5 "floor_of" s_floor_of ["one"] sp_floor_of) (G_mixed : FnIn k P w mg base 6 "mixed" s_mixed ["one", "other", "share"] sp_mixed) : FnIn k P w mg base 7 "law" s_law ["script"] sp_law := by
  refine fnIn_of T.f_law sc_law (fun bs mu R h => ?_) ⟨_, fun f cdv A outer s H E C => (s_cons (s_set (i := 1) sc_law.nd rfl (Or.inl rfl) (d_call C G_l_deck rfl (a_cons (d_var (i := 0) rfl (Or.inl rfl)) a_nil)))
      (s_cons (s_for PassesOwn.never C.calm (i_range1 rfl T.z_range d_int) (g_name (i := 2) sc_law.nd rfl (Or.inl rfl)) (s_cut (s_set (i := 3) sc_law.nd rfl (Or.inl rfl) (d_if (d_tcmp (o_eq C) (d_call C G_l_draw rfl (a_cons (d_var (i := 1) rfl (Or.inl rfl)) (a_cons d_int a_nil))) d_int (nomark _)) d_int d_int))
      (s_cons (s_set (i := 4) sc_law.nd rfl (Or.inl rfl) (d_call C G_l_fraction rfl (a_cons (d_var (i := 1) rfl (Or.inl rfl)) (a_cons (d_var (i := 3) rfl (Or.inl rfl)) a_nil))))
      (s_cut (s_set (i := 5) sc_law.nd rfl (Or.inl rfl) (d_if (d_tcmp (o_eq C) (d_call C G_l_draw rfl (a_cons (d_var (i := 1) rfl (Or.inl rfl)) (a_cons d_int a_nil))) d_int (nomark _)) (d_call C G_l_near rfl (a_cons (d_var (i := 1) rfl (Or.inl rfl)) (a_cons (d_var (i := 4) rfl (Or.inl rfl)) a_nil))) (d_call C G_l_fraction rfl (a_cons (d_var (i := 1) rfl (Or.inl rfl)) (a_cons (d_var (i := 3) rfl (Or.inl rfl)) a_nil)))))
      (s_cons (s_set (i := 6) sc_law.nd rfl (Or.inl rfl) (d_call C G_l_share rfl (a_cons (d_var (i := 1) rfl (Or.inl rfl)) (a_cons d_int a_nil))))
      (s_cons (s_set (i := 7) sc_law.nd rfl (Or.inl rfl) (d_callB (c_repr C) rfl T.z_repr PyProof.Rows.boot_repr (a_cons (d_tup (a_cons (d_var (i := 4) rfl (Or.inl rfl)) (a_cons (d_var (i := 5) rfl (Or.inl rfl)) (a_cons (d_var (i := 6) rfl (Or.inl rfl)) a_nil)))) a_nil)))
      (s_cons (s_for PassesOwn.never C.calm (i_seq C.hK (d_tup (a_cons (d_var (i := 4) rfl (Or.inl rfl)) (a_cons (d_var (i := 5) rfl (Or.inl rfl)) a_nil)))) (g_name (i := 8) sc_law.nd rfl (Or.inl rfl)) (s_cons (s_par (i := 9) (j := 10) C.calm sc_law.nd rfl rfl (by decide) rfl rfl (a_cons (d_call C G_floor_of rfl (a_cons (d_var (i := 8) rfl (Or.inl rfl)) a_nil)) (a_cons (d_callK0 C G_ceiling_of rfl kw_ceiling_of_0 (k_cons (d_var (i := 8) rfl (Or.inl rfl)) k_nil)) a_nil)) (by rfl))
      (s_cons (s_if (PW.pt (dw_or (dt_not (d_tval (d_call C G_l_is_int rfl (a_cons (d_var (i := 9) rfl (Or.inl rfl)) a_nil)))) (dw_or (dt_not (d_tval (d_call C G_l_is_int rfl (a_cons (d_var (i := 10) rfl (Or.inl rfl)) a_nil)))) (dw_or1 (dt_not (d_tchain o_le o_lt (d_bin o_mul (d_var (i := 9) rfl (Or.inl rfl)) (d_ix C.hK (d_var (i := 8) rfl (Or.inl rfl)) d_int (fun _ _ => rfl))) (d_ix C.hK (d_var (i := 8) rfl (Or.inl rfl)) d_int (fun _ _ => rfl)) (d_bin o_mul (d_bin o_add (d_var (i := 9) rfl (Or.inl rfl)) d_int) (d_ix C.hK (d_var (i := 8) rfl (Or.inl rfl)) d_int (fun _ _ => rfl))))))))) (s_one (s_ret d_bl)) s_nil)
      (s_cons (s_if (dt_not (d_tchain o_lt o_le (d_bin o_mul (d_bin o_sub (d_var (i := 10) rfl (Or.inl rfl)) d_int) (d_ix C.hK (d_var (i := 8) rfl (Or.inl rfl)) d_int (fun _ _ => rfl))) (d_ix C.hK (d_var (i := 8) rfl (Or.inl rfl)) d_int (fun _ _ => rfl)) (d_bin o_mul (d_var (i := 10) rfl (Or.inl rfl)) (d_ix C.hK (d_var (i := 8) rfl (Or.inl rfl)) d_int (fun _ _ => rfl))))) (s_one (s_ret d_bl)) s_nil)
      (s_one (s_if (dt_not (d_tval (d_call C G_l_same rfl (a_cons (d_tup (a_cons (d_callK0 C G_floor_of rfl kw_floor_of_0 (k_cons (d_var (i := 8) rfl (Or.inl rfl)) k_nil)) (a_cons (d_call C G_ceiling_of rfl (a_cons (d_var (i := 8) rfl (Or.inl rfl)) a_nil)) a_nil))) (a_cons (d_tup (a_cons (d_var (i := 9) rfl (Or.inl rfl)) (a_cons (d_var (i := 10) rfl (Or.inl rfl)) a_nil))) a_nil))))) (s_one (s_ret d_bl)) s_nil))))))
      (s_cons (s_set (i := 11) sc_law.nd rfl (Or.inl rfl) (d_call C G_l_sign rfl (a_cons (d_var (i := 4) rfl (Or.inl rfl)) (a_cons (d_var (i := 5) rfl (Or.inl rfl)) a_nil))))
      (s_cons (s_if (dt_not (d_tval (d_call C G_l_same rfl (a_cons (d_tup (a_cons (d_call C G_compared rfl (a_cons (d_var (i := 4) rfl (Or.inl rfl)) (a_cons (d_var (i := 5) rfl (Or.inl rfl)) a_nil))) (a_cons (d_callK0 C G_compared rfl kw_compared_0 (k_cons (d_var (i := 4) rfl (Or.inl rfl)) (k_cons (d_var (i := 5) rfl (Or.inl rfl)) k_nil))) (a_cons (d_call C G_compared rfl (a_cons (d_var (i := 4) rfl (Or.inl rfl)) (a_cons (d_var (i := 4) rfl (Or.inl rfl)) a_nil))) a_nil)))) (a_cons (d_tup (a_cons (d_var (i := 11) rfl (Or.inl rfl)) (a_cons (d_neg (d_var (i := 11) rfl (Or.inl rfl))) (a_cons d_int a_nil)))) a_nil))))) (s_one (s_ret d_bl)) s_nil)
      (s_cons (s_set (i := 12) sc_law.nd rfl (Or.inl rfl) (d_call C G_mixed rfl (a_cons (d_var (i := 4) rfl (Or.inl rfl)) (a_cons (d_var (i := 5) rfl (Or.inl rfl)) (a_cons (d_var (i := 6) rfl (Or.inl rfl)) a_nil)))))
      (s_cons (s_if (PW.pt (dw_or (dt_not (d_tval (d_call C G_l_is_mixed rfl (a_cons (d_var (i := 4) rfl (Or.inl rfl)) (a_cons (d_var (i := 5) rfl (Or.inl rfl)) (a_cons (d_var (i := 6) rfl (Or.inl rfl)) (a_cons (d_var (i := 12) rfl (Or.inl rfl)) a_nil))))))) (dw_or1 (dt_not (d_tval (d_call C G_l_same rfl (a_cons (d_callK0 C G_mixed rfl kw_mixed_0 (k_cons (d_var (i := 6) rfl (Or.inl rfl)) (k_cons (d_var (i := 5) rfl (Or.inl rfl)) (k_cons (d_var (i := 4) rfl (Or.inl rfl)) k_nil)))) (a_cons (d_var (i := 12) rfl (Or.inl rfl)) a_nil)))))))) (s_one (s_ret d_bl)) s_nil)
      (s_cons (s_if (dt_not (d_tval (d_call C G_l_same rfl (a_cons (d_tup (a_cons (d_call C G_mixed rfl (a_cons (d_var (i := 4) rfl (Or.inl rfl)) (a_cons (d_var (i := 5) rfl (Or.inl rfl)) (a_cons (d_tup (a_cons d_int (a_cons d_int a_nil))) a_nil)))) (a_cons (d_call C G_mixed rfl (a_cons (d_var (i := 4) rfl (Or.inl rfl)) (a_cons (d_var (i := 5) rfl (Or.inl rfl)) (a_cons (d_tup (a_cons d_int (a_cons d_int a_nil))) a_nil)))) (a_cons (d_call C G_mixed rfl (a_cons (d_var (i := 4) rfl (Or.inl rfl)) (a_cons (d_var (i := 4) rfl (Or.inl rfl)) (a_cons (d_var (i := 6) rfl (Or.inl rfl)) a_nil)))) a_nil)))) (a_cons (d_tup (a_cons (d_var (i := 4) rfl (Or.inl rfl)) (a_cons (d_var (i := 5) rfl (Or.inl rfl)) (a_cons (d_var (i := 4) rfl (Or.inl rfl)) a_nil)))) a_nil))))) (s_one (s_ret d_bl)) s_nil)
      (s_one (s_if (d_tcmp (o_ne C) (d_callB (c_repr C) rfl T.z_repr PyProof.Rows.boot_repr (a_cons (d_tup (a_cons (d_var (i := 4) rfl (Or.inl rfl)) (a_cons (d_var (i := 5) rfl (Or.inl rfl)) (a_cons (d_var (i := 6) rfl (Or.inl rfl)) a_nil)))) a_nil)) (d_var (i := 7) rfl (Or.inl rfl)) (nomark _)) (s_one (s_ret d_bl)) s_nil))))))))))))))
      (s_one (s_ret (d_call C G_l_same rfl (a_cons (d_tup (a_cons (d_call C G_floor_of rfl (a_cons (d_tup (a_cons (d_neg d_int) (a_cons d_int a_nil))) a_nil)) (a_cons (d_call C G_ceiling_of rfl (a_cons (d_tup (a_cons (d_neg d_int) (a_cons d_int a_nil))) a_nil)) (a_cons (d_call C G_floor_of rfl (a_cons (d_tup (a_cons d_int (a_cons d_int a_nil))) a_nil)) a_nil)))) (a_cons (d_tup (a_cons (d_neg d_int) (a_cons (d_neg d_int) (a_cons d_int a_nil)))) a_nil))))))), fun bs mu R h => ?_⟩
  · obtain ⟨ns, rfl, hn, h⟩ := h
    rfl
  · obtain ⟨ns, rfl, hn, h⟩ := h
    walk_at "st"
    walk_at "dl"
    refine ⟨ns, rfl, hn, ?_⟩
    walk_at "dl"
    have hj : (mu ++ [MO.hid, MO.deck mu.length])[mu.length + 1]? = some (.deck mu.length) := by simp
    generalize mu ++ [MO.hid, MO.deck mu.length] = M at *
    generalize mu.length + 1 = J at *
    refine ⟨by decide, loop_rng (fun _ en mu2 => mu2 = M ∧ ∃ t2 t3 t4 t5 t6 t7 t8 t9 t10 t11 t12, en = [some (.dat (.list (ns.map PyData.int))), some (.ref J), t2, t3, t4, t5, t6, t7, t8, t9, t10, t11, t12]) ⟨rfl, _, _, _, _, _, _, _, _, _, _, _, rfl⟩ ?_ ?_⟩
    · rintro i en mu2 N hq ⟨rfl, t2, t3, t4, t5, t6, t7, t8, t9, t10, t11, t12, rfl⟩ hN
      walk_at "dl"
      refine ⟨fun en mu3 => mu3 = mu2 ∧ ∃ most : Int, en = [some (.dat (.list (ns.map PyData.int))), some (.ref J), some (.dat (.int (0 + i))), some (.dat (.int most)), t4, t5, t6, t7, t8, t9, t10, t11, t12] ∧ 1 ≤ most ∧ most ≤ 200, ?_, ?_⟩
      · refine drawn hj fun r r0 r1 => ?_
        walk_at "dl"
        by_cases c : r = 0
        · rw [if_pos c]
          exact ⟨_, rfl, by decide, by decide⟩
        · rw [if_neg c]
          exact ⟨_, rfl, by decide, by decide⟩
      rintro en mu3 ⟨rfl, most, rfl, hm⟩
      walk_at "dl"
      refine ⟨_, _, _, rfl, hj, hm, fun a b f1 ba bb => ?_⟩
      walk_at "dl"
      refine ⟨fun en mu2 => mu2 = mu3 ∧ ∃ c d : Int, en = [some (.dat (.list (ns.map PyData.int))), some (.ref J), some (.dat (.int (0 + i))), some (.dat (.int most)), some (.dat (fr a b)), some (.dat (fr c d)), t6, t7, t8, t9, t10, t11, t12] ∧ IsFr c d ∧ Bd 860 c ∧ Bd 860 d, ?_, ?_⟩
      · refine drawn hj fun r r0 r1 => ?_
        walk_at "dl"
        by_cases c : r = 0
        · rw [if_pos c]
          refine ⟨_, _, _, _, rfl, hj, f1, ba, bb, fun c d f2 bc bd => ?_⟩
          exact ⟨rfl, _, _, rfl, f2, bc, bd⟩
        · rw [if_neg c]
          refine ⟨_, _, _, rfl, hj, hm, fun c d f2 bc bd => ?_⟩
          exact ⟨rfl, _, _, rfl, f2, bc.mono (by decide), bd.mono (by decide)⟩
      rintro en mu2 ⟨rfl, c, d, rfl, f2, bc, bd⟩
      walk_at "dl"
      refine ⟨_, _, _, rfl, hj, by decide, fun s t f3 bs bt => ?_⟩
      walk_at "dl"
      have a8 : Bd 860 a := ba.mono (by decide)
      have b8 : Bd 860 b := bb.mono (by decide)
      have s8 : Bd 860 s := bs.mono (by decide)
      have t8' : Bd 860 t := bt.mono (by decide)
      have rok := reprOk_three (a8.mono (by decide)) (b8.mono (by decide)) (bc.mono (by decide)) (bd.mono (by decide)) (s8.mono (by decide)) (t8'.mono (by decide))
      refine ⟨rfl, rok, ?_⟩
      refine loop_by (fun _ en mu3 => mu3 = mu2 ∧ ∃ t8 t9 t10, en = [some (.dat (.list (ns.map PyData.int))), some (.ref J), some (.dat (.int (0 + i))), some (.dat (.int most)), some (.dat (fr a b)), some (.dat (fr c d)), some (.dat (fr s t)), some (.dat (.str (PyData.tuple [fr a b, fr c d, fr s t]).shown)), t8, t9, t10, t11, t12]) ⟨rfl, _, _, _, rfl⟩ ?_ ?_
      · rintro i2 e en mu3 N2 he ⟨rfl, t8, t9, t10, rfl⟩ hN2
        have he3 : ∃ p q : Int, e = fr p q ∧ IsFr p q ∧ Bd 860 p ∧ Bd 860 q := by
          have hm := List.mem_of_getElem? he
          simp only [List.mem_cons, List.not_mem_nil, or_false] at hm
          rcases hm with rfl | rfl
          · exact ⟨_, _, rfl, f1, a8, b8⟩
          · exact ⟨_, _, rfl, f2, bc, bd⟩
        obtain ⟨p, q, rfl, f4, bp, bq⟩ := he3
        have q1 := f4.1
        walk_at "dl"
        refine ⟨_, _, rfl, f4, bq.mono (by decide), ?_⟩
        refine ⟨_, _, rfl, f4, bq.mono (by decide), ?_⟩
        walk_at "dl"
        refine ⟨_, rfl, ?_⟩
        walk_at "dl"
        refine ⟨_, rfl, ?_⟩
        walk_at "dl"
        have w1 := flr_ok (a := p) q1
        have w2 := cel_ok (a := p) q1
        have bo : Bd 860 1 := bd_of (by decide)
        have x1 : Bd 860 (p / q) := by
          have := fdiv_bd (a := p) q1
          rw [Int.fdiv_eq_ediv_of_nonneg _ (by omega)] at this
          exact bp.le this
        have x2 : Bd 860 (-(-p / q)) := by
          have := fdiv_bd (a := -p) q1
          rw [Int.fdiv_eq_ediv_of_nonneg _ (by omega)] at this
          exact (bp.neg.le this).neg
        rw [if_neg (by decide)]
        refine ⟨x1.ok bq, ?_⟩
        rw [if_pos w1.1]
        refine ⟨(x1.add bo).ok bq, ?_⟩
        rw [if_neg (by rw [decide_eq_true w1.2]; decide)]
        refine ⟨(x2.sub bo).ok bq, ?_⟩
        rw [if_pos w2.1]
        refine ⟨x2.ok bq, ?_⟩
        rw [if_neg (by rw [decide_eq_true w2.2]; decide)]
        refine ⟨_, _, rfl, f4, bq.mono (by decide), ?_⟩
        refine ⟨_, _, rfl, f4, bq.mono (by decide), ?_⟩
        walk_at "dl"
        refine ⟨_, rfl, by simp [okS], ?_⟩
        walk_at "dl"
        exact hN2 _ _ ⟨rfl, _, _, _, rfl⟩
      · rintro en mu3 ⟨rfl, t8, t9, t10, rfl⟩
        walk_at "dl"
        refine ⟨_, _, _, _, rfl, ⟨a8.mono (by decide), b8.mono (by decide), bc.mono (by decide), bd.mono (by decide)⟩, ?_⟩
        walk_at "dl"
        refine ⟨_, _, _, _, rfl, ⟨f1, f2⟩, ⟨a8.mono (by decide), b8.mono (by decide), bc.mono (by decide), bd.mono (by decide)⟩, ?_⟩
        refine ⟨_, _, _, _, rfl, ⟨f2, f1⟩, ⟨bc.mono (by decide), bd.mono (by decide), a8.mono (by decide), b8.mono (by decide)⟩, ?_⟩
        refine ⟨_, _, _, _, rfl, ⟨f1, f1⟩, ⟨a8.mono (by decide), b8.mono (by decide), a8.mono (by decide), b8.mono (by decide)⟩, ?_⟩
        walk_at "dl"
        have g1 : sgn (c * b - a * d) = - sgn (a * d - c * b) := by rw [← sgn_neg, Int.neg_sub]
        have g2 : sgn (a * b - a * b) = 0 := by rw [Int.sub_self]; rfl
        rw [g1, g2]
        refine ⟨_, rfl, by simp [okS], ?_⟩
        walk_at "dl"
        refine ⟨_, _, _, _, _, _, rfl, ⟨f1, f2, f3⟩, ⟨a8, b8, bc, bd, s8, t8'⟩, fun n m g3 g4 g5 g6 => ?_⟩
        walk_at "dl"
        refine ⟨_, _, _, _, _, _, _, _, rfl, ⟨f1, f2, f3, g3⟩, ⟨a8, b8, bc, bd, s8, t8', g5, g6⟩, g4, ?_⟩
        walk_at "dl"
        have hb := f1.1
        have hd := f2.1
        have ht := f3.1
        have hbd : b * d ≠ 0 := Int.mul_ne_zero (by omega) (by omega)
        have hQ : b * d * t ≠ 0 := Int.mul_ne_zero hbd (by omega)
        have hQ1 : b * d * 1 ≠ 0 := Int.mul_ne_zero hbd (by omega)
        have hQ2 : b * b * t ≠ 0 := Int.mul_ne_zero (Int.mul_ne_zero (by omega) (by omega)) (by omega)
        have bz : Bd 860 0 := bd_of (by decide)
        have bo : Bd 860 1 := bd_of (by decide)
        refine ⟨_, _, _, _, _, _, rfl, ⟨f1, f2, f3⟩, ⟨a8, b8, bc, bd, s8, t8'⟩, fun n2 m2 e3 e4 _ _ => ?_⟩
        obtain ⟨rfl, rfl⟩ := FrOf.unique hQ (⟨g3, g4⟩ : FrOf _ _ n m) (⟨e3, e4⟩ : FrOf _ _ n2 m2)
        refine ⟨_, rfl, by simp [okS], ?_⟩
        walk_at "dl"
        refine ⟨_, _, _, _, _, _, rfl, ⟨f1, f2, isFr_one 0⟩, ⟨a8, b8, bc, bd, bz, bo⟩, fun n3 m3 e5 e6 _ _ => ?_⟩
        obtain ⟨rfl, rfl⟩ := FrOf.unique hQ1 (⟨f1, by grind⟩ : FrOf _ _ a b) (⟨e5, e6⟩ : FrOf _ _ n3 m3)
        refine ⟨_, _, _, _, _, _, rfl, ⟨f1, f2, isFr_one 1⟩, ⟨a8, b8, bc, bd, bo, bo⟩, fun n4 m4 e7 e8 _ _ => ?_⟩
        obtain ⟨rfl, rfl⟩ := FrOf.unique hQ1 (⟨f2, by grind⟩ : FrOf _ _ c d) (⟨e7, e8⟩ : FrOf _ _ n4 m4)
        refine ⟨_, _, _, _, _, _, rfl, ⟨f1, f1, f3⟩, ⟨a8, b8, a8, b8, s8, t8'⟩, fun n5 m5 e9 e10 _ _ => ?_⟩
        obtain ⟨rfl, rfl⟩ := FrOf.unique hQ2 (⟨f1, by grind⟩ : FrOf _ _ a b) (⟨e9, e10⟩ : FrOf _ _ n5 m5)
        walk_at "dl"
        refine ⟨_, rfl, by simp [okS], ?_⟩
        walk_at "dl"
        exact ⟨rfl, rok, sok_three a b c d s t, sok_three a b c d s t, hN _ _ ⟨rfl, _, _, _, _, _, _, _, _, _, _, _, rfl⟩⟩
    · rintro en mu2 ⟨rfl, t2, t3, t4, t5, t6, t7, t8, t9, t10, t11, t12, rfl⟩
      walk_at "dl"
      refine ⟨_, _, rfl, ⟨by decide, by decide⟩, by decide, ?_⟩
      walk_at "dl"
      refine ⟨_, _, rfl, ⟨by decide, by decide⟩, by decide, ?_⟩
      walk_at "dl"
      refine ⟨_, _, rfl, ⟨by decide, by decide⟩, by decide, ?_⟩
      walk_at "dl"
      refine ⟨_, rfl, by simp [okS], ?_⟩
      walk_at "dl"
      exact h _
end
theorem all_mk {l : PySem.W.OpenLaw} {w : World} {K : PySem.W.Frag} {h : Heap} {mg : Str → Option Value} {fa : Addr} (X : K.In h) (G : h.Ns mainGlobals mg) (hfa : mg "law" = some (.ref fa))
    {f0 : Addr} {oc0 kV0 dc0 pm0 cd0 ct0 : Value} {od0 an0 : Option Addr} {sl0 : Array (Option Value)}
    {f1 : Addr} {oc1 kV1 dc1 pm1 cd1 ct1 : Value} {od1 an1 : Option Addr} {sl1 : Array (Option Value)}
    {f2 : Addr} {oc2 kV2 dc2 pm2 cd2 ct2 : Value} {od2 an2 : Option Addr} {sl2 : Array (Option Value)}
    {f3 : Addr} {oc3 kV3 dc3 pm3 cd3 ct3 : Value} {od3 an3 : Option Addr} {sl3 : Array (Option Value)}
    {f4 : Addr} {oc4 kV4 dc4 pm4 cd4 ct4 : Value} {od4 an4 : Option Addr} {sl4 : Array (Option Value)}
    {f5 : Addr} {oc5 kV5 dc5 pm5 cd5 ct5 : Value} {od5 an5 : Option Addr} {sl5 : Array (Option Value)}
    {f6 : Addr} {oc6 kV6 dc6 pm6 cd6 ct6 : Value} {od6 an6 : Option Addr} {sl6 : Array (Option Value)}
    {f7 : Addr} {oc7 kV7 dc7 pm7 cd7 ct7 : Value} {od7 an7 : Option Addr} {sl7 : Array (Option Value)}
    {f8 : Addr} {oc8 kV8 dc8 pm8 cd8 ct8 : Value} {od8 an8 : Option Addr} {sl8 : Array (Option Value)}
    {f9 : Addr} {oc9 kV9 dc9 pm9 cd9 ct9 : Value} {od9 an9 : Option Addr} {sl9 : Array (Option Value)}
    {f10 : Addr} {oc10 kV10 dc10 pm10 cd10 ct10 : Value} {od10 an10 : Option Addr} {sl10 : Array (Option Value)}
    {f11 : Addr} {oc11 kV11 dc11 pm11 cd11 ct11 : Value} {od11 an11 : Option Addr} {sl11 : Array (Option Value)}
    {f12 : Addr} {oc12 kV12 dc12 pm12 cd12 ct12 : Value} {od12 an12 : Option Addr} {sl12 : Array (Option Value)}
    {f13 : Addr} {oc13 kV13 dc13 pm13 cd13 ct13 : Value} {od13 an13 : Option Addr} {sl13 : Array (Option Value)}
    {f14 : Addr} {oc14 kV14 dc14 pm14 cd14 ct14 : Value} {od14 an14 : Option Addr} {sl14 : Array (Option Value)}
    {f15 : Addr} {oc15 kV15 dc15 pm15 cd15 ct15 : Value} {od15 an15 : Option Addr} {sl15 : Array (Option Value)}
    {f16 : Addr} {oc16 kV16 dc16 pm16 cd16 ct16 : Value} {od16 an16 : Option Addr} {sl16 : Array (Option Value)}
    {f17 : Addr} {oc17 kV17 dc17 pm17 cd17 ct17 : Value} {od17 an17 : Option Addr} {sl17 : Array (Option Value)}
    {f18 : Addr} {oc18 kV18 dc18 pm18 cd18 ct18 : Value} {od18 an18 : Option Addr} {sl18 : Array (Option Value)}
    {f19 : Addr} {oc19 kV19 dc19 pm19 cd19 ct19 : Value} {od19 an19 : Option Addr} {sl19 : Array (Option Value)}
    {f20 : Addr} {oc20 kV20 dc20 pm20 cd20 ct20 : Value} {od20 an20 : Option Addr} {sl20 : Array (Option Value)}
    {f21 : Addr} {oc21 kV21 dc21 pm21 cd21 ct21 : Value} {od21 an21 : Option Addr} {sl21 : Array (Option Value)}
    {f22 : Addr} {oc22 kV22 dc22 pm22 cd22 ct22 : Value} {od22 an22 : Option Addr} {sl22 : Array (Option Value)}
    {f23 : Addr} {oc23 kV23 dc23 pm23 cd23 ct23 : Value} {od23 an23 : Option Addr} {sl23 : Array (Option Value)}
    {f24 : Addr} {oc24 kV24 dc24 pm24 cd24 ct24 : Value} {od24 an24 : Option Addr} {sl24 : Array (Option Value)}
    {f25 : Addr} {oc25 kV25 dc25 pm25 cd25 ct25 : Value} {od25 an25 : Option Addr} {sl25 : Array (Option Value)}
    {f26 : Addr} {oc26 kV26 dc26 pm26 cd26 ct26 : Value} {od26 an26 : Option Addr} {sl26 : Array (Option Value)}
    {f27 : Addr} {oc27 kV27 dc27 pm27 cd27 ct27 : Value} {od27 an27 : Option Addr} {sl27 : Array (Option Value)}
    {f28 : Addr} {oc28 kV28 dc28 pm28 cd28 ct28 : Value} {od28 an28 : Option Addr} {sl28 : Array (Option Value)}
    {f29 : Addr} {oc29 kV29 dc29 pm29 cd29 ct29 : Value} {od29 an29 : Option Addr} {sl29 : Array (Option Value)}
    {f30 : Addr} {oc30 kV30 dc30 pm30 cd30 ct30 : Value} {od30 an30 : Option Addr} {sl30 : Array (Option Value)}
    {f31 : Addr} {oc31 kV31 dc31 pm31 cd31 ct31 : Value} {od31 an31 : Option Addr} {sl31 : Array (Option Value)}
    {f32 : Addr} {oc32 kV32 dc32 pm32 cd32 ct32 : Value} {od32 an32 : Option Addr} {sl32 : Array (Option Value)}
    (a0 : PySem.W.nsIn K mainGlobals "is_int" = some (some (.ref f0))) (l0 : K.lookup f0 = some ⟨oc0, od0, .func (PySem.W.fnOf "is_int" "is_int" (defArgs s_is_int) (defBody s_is_int) (defScope s_is_int) .none kV0 dc0 pm0 an0 cd0 ct0), sl0⟩) (c0 : PySem.W.codeIn K cd0 "is_int" = true) (q0 : PySem.W.keepIn K (.ref f0) = true)
    (a1 : PySem.W.nsIn K mainGlobals "is_from" = some (some (.ref f1))) (l1 : K.lookup f1 = some ⟨oc1, od1, .func (PySem.W.fnOf "is_from" "is_from" (defArgs s_is_from) (defBody s_is_from) (defScope s_is_from) .none kV1 dc1 pm1 an1 cd1 ct1), sl1⟩) (c1 : PySem.W.codeIn K cd1 "is_from" = true) (q1 : PySem.W.keepIn K (.ref f1) = true)
    (a2 : PySem.W.nsIn K mainGlobals "is_row" = some (some (.ref f2))) (l2 : K.lookup f2 = some ⟨oc2, od2, .func (PySem.W.fnOf "is_row" "is_row" (defArgs s_is_row) (defBody s_is_row) (defScope s_is_row) .none kV2 dc2 pm2 an2 cd2 ct2), sl2⟩) (c2 : PySem.W.codeIn K cd2 "is_row" = true) (q2 : PySem.W.keepIn K (.ref f2) = true)
    (a3 : PySem.W.nsIn K mainGlobals "is_fraction_value" = some (some (.ref f3))) (l3 : K.lookup f3 = some ⟨oc3, od3, .func (PySem.W.fnOf "is_fraction_value" "is_fraction_value" (defArgs s_is_fraction_value) (defBody s_is_fraction_value) (defScope s_is_fraction_value) .none kV3 dc3 pm3 an3 cd3 ct3), sl3⟩) (c3 : PySem.W.codeIn K cd3 "is_fraction_value" = true) (q3 : PySem.W.keepIn K (.ref f3) = true)
    (a4 : PySem.W.nsIn K mainGlobals "low" = some (some (.ref f4))) (l4 : K.lookup f4 = some ⟨oc4, od4, .func (PySem.W.fnOf "low" "low" (defArgs s_low) (defBody s_low) (defScope s_low) .none kV4 dc4 pm4 an4 cd4 ct4), sl4⟩) (c4 : PySem.W.codeIn K cd4 "low" = true) (q4 : PySem.W.keepIn K (.ref f4) = true)
    (a5 : PySem.W.nsIn K mainGlobals "plus_f" = some (some (.ref f5))) (l5 : K.lookup f5 = some ⟨oc5, od5, .func (PySem.W.fnOf "plus_f" "plus_f" (defArgs s_plus_f) (defBody s_plus_f) (defScope s_plus_f) .none kV5 dc5 pm5 an5 cd5 ct5), sl5⟩) (c5 : PySem.W.codeIn K cd5 "plus_f" = true) (q5 : PySem.W.keepIn K (.ref f5) = true)
    (a6 : PySem.W.nsIn K mainGlobals "minus_f" = some (some (.ref f6))) (l6 : K.lookup f6 = some ⟨oc6, od6, .func (PySem.W.fnOf "minus_f" "minus_f" (defArgs s_minus_f) (defBody s_minus_f) (defScope s_minus_f) .none kV6 dc6 pm6 an6 cd6 ct6), sl6⟩) (c6 : PySem.W.codeIn K cd6 "minus_f" = true) (q6 : PySem.W.keepIn K (.ref f6) = true)
    (a7 : PySem.W.nsIn K mainGlobals "times_f" = some (some (.ref f7))) (l7 : K.lookup f7 = some ⟨oc7, od7, .func (PySem.W.fnOf "times_f" "times_f" (defArgs s_times_f) (defBody s_times_f) (defScope s_times_f) .none kV7 dc7 pm7 an7 cd7 ct7), sl7⟩) (c7 : PySem.W.codeIn K cd7 "times_f" = true) (q7 : PySem.W.keepIn K (.ref f7) = true)
    (a8 : PySem.W.nsIn K mainGlobals "compared_f" = some (some (.ref f8))) (l8 : K.lookup f8 = some ⟨oc8, od8, .func (PySem.W.fnOf "compared_f" "compared_f" (defArgs s_compared_f) (defBody s_compared_f) (defScope s_compared_f) .none kV8 dc8 pm8 an8 cd8 ct8), sl8⟩) (c8 : PySem.W.codeIn K cd8 "compared_f" = true) (q8 : PySem.W.keepIn K (.ref f8) = true)
    (a9 : PySem.W.nsIn K mainGlobals "floor_f" = some (some (.ref f9))) (l9 : K.lookup f9 = some ⟨oc9, od9, .func (PySem.W.fnOf "floor_f" "floor_f" (defArgs s_floor_f) (defBody s_floor_f) (defScope s_floor_f) .none kV9 dc9 pm9 an9 cd9 ct9), sl9⟩) (c9 : PySem.W.codeIn K cd9 "floor_f" = true) (q9 : PySem.W.keepIn K (.ref f9) = true)
    (a10 : PySem.W.nsIn K mainGlobals "ceiling_f" = some (some (.ref f10))) (l10 : K.lookup f10 = some ⟨oc10, od10, .func (PySem.W.fnOf "ceiling_f" "ceiling_f" (defArgs s_ceiling_f) (defBody s_ceiling_f) (defScope s_ceiling_f) .none kV10 dc10 pm10 an10 cd10 ct10), sl10⟩) (c10 : PySem.W.codeIn K cd10 "ceiling_f" = true) (q10 : PySem.W.keepIn K (.ref f10) = true)
    (a11 : PySem.W.nsIn K mainGlobals "mixed_f" = some (some (.ref f11))) (l11 : K.lookup f11 = some ⟨oc11, od11, .func (PySem.W.fnOf "mixed_f" "mixed_f" (defArgs s_mixed_f) (defBody s_mixed_f) (defScope s_mixed_f) .none kV11 dc11 pm11 an11 cd11 ct11), sl11⟩) (c11 : PySem.W.codeIn K cd11 "mixed_f" = true) (q11 : PySem.W.keepIn K (.ref f11) = true)
    (a12 : PySem.W.nsIn K mainGlobals "need_fraction" = some (some (.ref f12))) (l12 : K.lookup f12 = some ⟨oc12, od12, .func (PySem.W.fnOf "need_fraction" "need_fraction" (defArgs s_need_fraction) (defBody s_need_fraction) (defScope s_need_fraction) .none kV12 dc12 pm12 an12 cd12 ct12), sl12⟩) (c12 : PySem.W.codeIn K cd12 "need_fraction" = true) (q12 : PySem.W.keepIn K (.ref f12) = true)
    (a13 : PySem.W.nsIn K mainGlobals "need_two" = some (some (.ref f13))) (l13 : K.lookup f13 = some ⟨oc13, od13, .func (PySem.W.fnOf "need_two" "need_two" (defArgs s_need_two) (defBody s_need_two) (defScope s_need_two) .none kV13 dc13 pm13 an13 cd13 ct13), sl13⟩) (c13 : PySem.W.codeIn K cd13 "need_two" = true) (q13 : PySem.W.keepIn K (.ref f13) = true)
    (a14 : PySem.W.nsIn K mainGlobals "compared" = some (some (.ref f14))) (l14 : K.lookup f14 = some ⟨oc14, od14, .func (PySem.W.fnOf "compared" "compared" (defArgs s_compared) (defBody s_compared) (defScope s_compared) .none kV14 dc14 pm14 an14 cd14 ct14), sl14⟩) (c14 : PySem.W.codeIn K cd14 "compared" = true) (q14 : PySem.W.keepIn K (.ref f14) = true)
    (a15 : PySem.W.nsIn K mainGlobals "mixed" = some (some (.ref f15))) (l15 : K.lookup f15 = some ⟨oc15, od15, .func (PySem.W.fnOf "mixed" "mixed" (defArgs s_mixed) (defBody s_mixed) (defScope s_mixed) .none kV15 dc15 pm15 an15 cd15 ct15), sl15⟩) (c15 : PySem.W.codeIn K cd15 "mixed" = true) (q15 : PySem.W.keepIn K (.ref f15) = true)
    (a16 : PySem.W.nsIn K mainGlobals "floor_of" = some (some (.ref f16))) (l16 : K.lookup f16 = some ⟨oc16, od16, .func (PySem.W.fnOf "floor_of" "floor_of" (defArgs s_floor_of) (defBody s_floor_of) (defScope s_floor_of) .none kV16 dc16 pm16 an16 cd16 ct16), sl16⟩) (c16 : PySem.W.codeIn K cd16 "floor_of" = true) (q16 : PySem.W.keepIn K (.ref f16) = true)
    (a17 : PySem.W.nsIn K mainGlobals "ceiling_of" = some (some (.ref f17))) (l17 : K.lookup f17 = some ⟨oc17, od17, .func (PySem.W.fnOf "ceiling_of" "ceiling_of" (defArgs s_ceiling_of) (defBody s_ceiling_of) (defScope s_ceiling_of) .none kV17 dc17 pm17 an17 cd17 ct17), sl17⟩) (c17 : PySem.W.codeIn K cd17 "ceiling_of" = true) (q17 : PySem.W.keepIn K (.ref f17) = true)
    (a18 : PySem.W.nsIn K mainGlobals "_law_deck" = some (some (.ref f18))) (l18 : K.lookup f18 = some ⟨oc18, od18, .func (PySem.W.fnOf "_law_deck" "_law_deck" (defArgs s_l_deck) (defBody s_l_deck) (defScope s_l_deck) .none kV18 dc18 pm18 an18 cd18 ct18), sl18⟩) (c18 : PySem.W.codeIn K cd18 "_law_deck" = true) (q18 : PySem.W.keepIn K (.ref f18) = true)
    (a19 : PySem.W.nsIn K mainGlobals "_law_draw" = some (some (.ref f19))) (l19 : K.lookup f19 = some ⟨oc19, od19, .func (PySem.W.fnOf "_law_draw" "_law_draw" (defArgs s_l_draw) (defBody s_l_draw) (defScope s_l_draw) .none kV19 dc19 pm19 an19 cd19 ct19), sl19⟩) (c19 : PySem.W.codeIn K cd19 "_law_draw" = true) (q19 : PySem.W.keepIn K (.ref f19) = true)
    (a20 : PySem.W.nsIn K mainGlobals "_law_pick" = some (some (.ref f20))) (l20 : K.lookup f20 = some ⟨oc20, od20, .func (PySem.W.fnOf "_law_pick" "_law_pick" (defArgs s_l_pick) (defBody s_l_pick) (defScope s_l_pick) .none kV20 dc20 pm20 an20 cd20 ct20), sl20⟩) (c20 : PySem.W.codeIn K cd20 "_law_pick" = true) (q20 : PySem.W.keepIn K (.ref f20) = true)
    (a21 : PySem.W.nsIn K mainGlobals "_law_divisor" = some (some (.ref f21))) (l21 : K.lookup f21 = some ⟨oc21, od21, .func (PySem.W.fnOf "_law_divisor" "_law_divisor" (defArgs s_l_divisor) (defBody s_l_divisor) (defScope s_l_divisor) .none kV21 dc21 pm21 an21 cd21 ct21), sl21⟩) (c21 : PySem.W.codeIn K cd21 "_law_divisor" = true) (q21 : PySem.W.keepIn K (.ref f21) = true)
    (a22 : PySem.W.nsIn K mainGlobals "_law_lowest" = some (some (.ref f22))) (l22 : K.lookup f22 = some ⟨oc22, od22, .func (PySem.W.fnOf "_law_lowest" "_law_lowest" (defArgs s_l_lowest) (defBody s_l_lowest) (defScope s_l_lowest) .none kV22 dc22 pm22 an22 cd22 ct22), sl22⟩) (c22 : PySem.W.codeIn K cd22 "_law_lowest" = true) (q22 : PySem.W.keepIn K (.ref f22) = true)
    (a23 : PySem.W.nsIn K mainGlobals "_law_same" = some (some (.ref f23))) (l23 : K.lookup f23 = some ⟨oc23, od23, .func (PySem.W.fnOf "_law_same" "_law_same" (defArgs s_l_same) (defBody s_l_same) (defScope s_l_same) .none kV23 dc23 pm23 an23 cd23 ct23), sl23⟩) (c23 : PySem.W.codeIn K cd23 "_law_same" = true) (q23 : PySem.W.keepIn K (.ref f23) = true)
    (a24 : PySem.W.nsIn K mainGlobals "_law_is_int" = some (some (.ref f24))) (l24 : K.lookup f24 = some ⟨oc24, od24, .func (PySem.W.fnOf "_law_is_int" "_law_is_int" (defArgs s_l_is_int) (defBody s_l_is_int) (defScope s_l_is_int) .none kV24 dc24 pm24 an24 cd24 ct24), sl24⟩) (c24 : PySem.W.codeIn K cd24 "_law_is_int" = true) (q24 : PySem.W.keepIn K (.ref f24) = true)
    (a25 : PySem.W.nsIn K mainGlobals "_law_int" = some (some (.ref f25))) (l25 : K.lookup f25 = some ⟨oc25, od25, .func (PySem.W.fnOf "_law_int" "_law_int" (defArgs s_l_int) (defBody s_l_int) (defScope s_l_int) .none kV25 dc25 pm25 an25 cd25 ct25), sl25⟩) (c25 : PySem.W.codeIn K cd25 "_law_int" = true) (q25 : PySem.W.keepIn K (.ref f25) = true)
    (a26 : PySem.W.nsIn K mainGlobals "_law_is_fraction" = some (some (.ref f26))) (l26 : K.lookup f26 = some ⟨oc26, od26, .func (PySem.W.fnOf "_law_is_fraction" "_law_is_fraction" (defArgs s_l_is_fraction) (defBody s_l_is_fraction) (defScope s_l_is_fraction) .none kV26 dc26 pm26 an26 cd26 ct26), sl26⟩) (c26 : PySem.W.codeIn K cd26 "_law_is_fraction" = true) (q26 : PySem.W.keepIn K (.ref f26) = true)
    (a27 : PySem.W.nsIn K mainGlobals "_law_fraction" = some (some (.ref f27))) (l27 : K.lookup f27 = some ⟨oc27, od27, .func (PySem.W.fnOf "_law_fraction" "_law_fraction" (defArgs s_l_fraction) (defBody s_l_fraction) (defScope s_l_fraction) .none kV27 dc27 pm27 an27 cd27 ct27), sl27⟩) (c27 : PySem.W.codeIn K cd27 "_law_fraction" = true) (q27 : PySem.W.keepIn K (.ref f27) = true)
    (a28 : PySem.W.nsIn K mainGlobals "_law_sign" = some (some (.ref f28))) (l28 : K.lookup f28 = some ⟨oc28, od28, .func (PySem.W.fnOf "_law_sign" "_law_sign" (defArgs s_l_sign) (defBody s_l_sign) (defScope s_l_sign) .none kV28 dc28 pm28 an28 cd28 ct28), sl28⟩) (c28 : PySem.W.codeIn K cd28 "_law_sign" = true) (q28 : PySem.W.keepIn K (.ref f28) = true)
    (a29 : PySem.W.nsIn K mainGlobals "_law_near" = some (some (.ref f29))) (l29 : K.lookup f29 = some ⟨oc29, od29, .func (PySem.W.fnOf "_law_near" "_law_near" (defArgs s_l_near) (defBody s_l_near) (defScope s_l_near) .none kV29 dc29 pm29 an29 cd29 ct29), sl29⟩) (c29 : PySem.W.codeIn K cd29 "_law_near" = true) (q29 : PySem.W.keepIn K (.ref f29) = true)
    (a30 : PySem.W.nsIn K mainGlobals "_law_share" = some (some (.ref f30))) (l30 : K.lookup f30 = some ⟨oc30, od30, .func (PySem.W.fnOf "_law_share" "_law_share" (defArgs s_l_share) (defBody s_l_share) (defScope s_l_share) .none kV30 dc30 pm30 an30 cd30 ct30), sl30⟩) (c30 : PySem.W.codeIn K cd30 "_law_share" = true) (q30 : PySem.W.keepIn K (.ref f30) = true)
    (a31 : PySem.W.nsIn K mainGlobals "_law_is_mixed" = some (some (.ref f31))) (l31 : K.lookup f31 = some ⟨oc31, od31, .func (PySem.W.fnOf "_law_is_mixed" "_law_is_mixed" (defArgs s_l_is_mixed) (defBody s_l_is_mixed) (defScope s_l_is_mixed) .none kV31 dc31 pm31 an31 cd31 ct31), sl31⟩) (c31 : PySem.W.codeIn K cd31 "_law_is_mixed" = true) (q31 : PySem.W.keepIn K (.ref f31) = true)
    (a32 : PySem.W.nsIn K mainGlobals "law" = some (some (.ref f32))) (l32 : K.lookup f32 = some ⟨oc32, od32, .func (PySem.W.fnOf "law" "law" (defArgs s_law) (defBody s_law) (defScope s_law) .none kV32 dc32 pm32 an32 cd32 ct32), sl32⟩) (c32 : PySem.W.codeIn K cd32 "law" = true) (q32 : PySem.W.keepIn K (.ref f32) = true)
    (z_abs : PySem.W.nsIn K mainGlobals "abs" = some none)
    (z_bool : PySem.W.nsIn K mainGlobals "bool" = some none)
    (z_int : PySem.W.nsIn K mainGlobals "int" = some none)
    (z_isinstance : PySem.W.nsIn K mainGlobals "isinstance" = some none)
    (z_len : PySem.W.nsIn K mainGlobals "len" = some none)
    (z_list : PySem.W.nsIn K mainGlobals "list" = some none)
    (z_max : PySem.W.nsIn K mainGlobals "max" = some none)
    (z_range : PySem.W.nsIn K mainGlobals "range" = some none)
    (z_repr : PySem.W.nsIn K mainGlobals "repr" = some none)
    (z_str : PySem.W.nsIn K mainGlobals "str" = some none)
    (z_tuple : PySem.W.nsIn K mainGlobals "tuple" = some none)
    (z_zip : PySem.W.nsIn K mainGlobals "zip" = some none)
    (gc : PySem.W.nsIn K mainGlobals "gcd" = some (some (.builtin "math.gcd"))) :
    ∃ fd : FuncData, (∀ (s : Shared) (v : Value), BindsTo s fd ⟨[v], []⟩ [("script", v)]) ∧ ∀ base : Heap, K.In base → base.Ns mainGlobals mg → FnD ⟨K, DL.deckDK "cells" "mixed" "draws"⟩ l.prog w mg base 7 fa fd ["script"] sp_law := by
  have e := hfa.symm.trans (PySem.W.mg_of X G a32)
  cases e
  have T : Tx ⟨K, DL.deckDK "cells" "mixed" "draws"⟩ mg := {
    f_is_int := fn0_of X G a0 l0 c0 q0 (fun _ _ _ _ _ _ us hl => match us, hl with | [_], _ => rfl),
    f_is_from := fn0_of X G a1 l1 c1 q1 (fun _ _ _ _ _ _ us hl => match us, hl with | [_, _], _ => rfl),
    f_is_row := fn0_of X G a2 l2 c2 q2 (fun _ _ _ _ _ _ us hl => match us, hl with | [_, _], _ => rfl),
    f_is_fraction_value := fn0_of X G a3 l3 c3 q3 (fun _ _ _ _ _ _ us hl => match us, hl with | [_], _ => rfl),
    f_low := fn0_of X G a4 l4 c4 q4 (fun _ _ _ _ _ _ us hl => match us, hl with | [_, _], _ => rfl),
    f_plus_f := fn0_of X G a5 l5 c5 q5 (fun _ _ _ _ _ _ us hl => match us, hl with | [_, _], _ => rfl),
    f_minus_f := fn0_of X G a6 l6 c6 q6 (fun _ _ _ _ _ _ us hl => match us, hl with | [_, _], _ => rfl),
    f_times_f := fn0_of X G a7 l7 c7 q7 (fun _ _ _ _ _ _ us hl => match us, hl with | [_, _], _ => rfl),
    f_compared_f := fn0_of X G a8 l8 c8 q8 (fun _ _ _ _ _ _ us hl => match us, hl with | [_, _], _ => rfl),
    f_floor_f := fn0_of X G a9 l9 c9 q9 (fun _ _ _ _ _ _ us hl => match us, hl with | [_], _ => rfl),
    f_ceiling_f := fn0_of X G a10 l10 c10 q10 (fun _ _ _ _ _ _ us hl => match us, hl with | [_], _ => rfl),
    f_mixed_f := fn0_of X G a11 l11 c11 q11 (fun _ _ _ _ _ _ us hl => match us, hl with | [_, _, _], _ => rfl),
    f_need_fraction := fn0_of X G a12 l12 c12 q12 (fun _ _ _ _ _ _ us hl => match us, hl with | [_], _ => rfl),
    f_need_two := fn0_of X G a13 l13 c13 q13 (fun _ _ _ _ _ _ us hl => match us, hl with | [_, _], _ => rfl),
    f_compared := fn0_of X G a14 l14 c14 q14 (fun _ _ _ _ _ _ us hl => match us, hl with | [_, _], _ => rfl),
    f_mixed := fn0_of X G a15 l15 c15 q15 (fun _ _ _ _ _ _ us hl => match us, hl with | [_, _, _], _ => rfl),
    f_floor_of := fn0_of X G a16 l16 c16 q16 (fun _ _ _ _ _ _ us hl => match us, hl with | [_], _ => rfl),
    f_ceiling_of := fn0_of X G a17 l17 c17 q17 (fun _ _ _ _ _ _ us hl => match us, hl with | [_], _ => rfl),
    f_l_deck := fn0_of X G a18 l18 c18 q18 (fun _ _ _ _ _ _ us hl => match us, hl with | [_], _ => rfl),
    f_l_draw := fn0_of X G a19 l19 c19 q19 (fun _ _ _ _ _ _ us hl => match us, hl with | [_, _], _ => rfl),
    f_l_pick := fn0_of X G a20 l20 c20 q20 (fun _ _ _ _ _ _ us hl => match us, hl with | [_, _], _ => rfl),
    f_l_divisor := fn0_of X G a21 l21 c21 q21 (fun _ _ _ _ _ _ us hl => match us, hl with | [_, _], _ => rfl),
    f_l_lowest := fn0_of X G a22 l22 c22 q22 (fun _ _ _ _ _ _ us hl => match us, hl with | [_, _], _ => rfl),
    f_l_same := fn0_of X G a23 l23 c23 q23 (fun _ _ _ _ _ _ us hl => match us, hl with | [_, _], _ => rfl),
    f_l_is_int := fn0_of X G a24 l24 c24 q24 (fun _ _ _ _ _ _ us hl => match us, hl with | [_], _ => rfl),
    f_l_int := fn0_of X G a25 l25 c25 q25 (fun _ _ _ _ _ _ us hl => match us, hl with | [_, _], _ => rfl),
    f_l_is_fraction := fn0_of X G a26 l26 c26 q26 (fun _ _ _ _ _ _ us hl => match us, hl with | [_], _ => rfl),
    f_l_fraction := fn0_of X G a27 l27 c27 q27 (fun _ _ _ _ _ _ us hl => match us, hl with | [_, _], _ => rfl),
    f_l_sign := fn0_of X G a28 l28 c28 q28 (fun _ _ _ _ _ _ us hl => match us, hl with | [_, _], _ => rfl),
    f_l_near := fn0_of X G a29 l29 c29 q29 (fun _ _ _ _ _ _ us hl => match us, hl with | [_, _], _ => rfl),
    f_l_share := fn0_of X G a30 l30 c30 q30 (fun _ _ _ _ _ _ us hl => match us, hl with | [_, _], _ => rfl),
    f_l_is_mixed := fn0_of X G a31 l31 c31 q31 (fun _ _ _ _ _ _ us hl => match us, hl with | [_, _, _, _], _ => rfl),
    f_law := fn0_of X G a32 l32 c32 q32 (fun _ _ _ _ _ _ us hl => match us, hl with | [_], _ => rfl),
    z_abs := PySem.W.mg_none_of X G z_abs,
    z_bool := PySem.W.mg_none_of X G z_bool,
    z_int := PySem.W.mg_none_of X G z_int,
    z_isinstance := PySem.W.mg_none_of X G z_isinstance,
    z_len := PySem.W.mg_none_of X G z_len,
    z_list := PySem.W.mg_none_of X G z_list,
    z_max := PySem.W.mg_none_of X G z_max,
    z_range := PySem.W.mg_none_of X G z_range,
    z_repr := PySem.W.mg_none_of X G z_repr,
    z_str := PySem.W.mg_none_of X G z_str,
    z_tuple := PySem.W.mg_none_of X G z_tuple,
    z_zip := PySem.W.mg_none_of X G z_zip,
    gcd := PySem.W.mg_of X G gc }
  refine ⟨PySem.W.fnOf "law" "law" (defArgs s_law) (defBody s_law) (defScope s_law) .none kV32 dc32 pm32 an32 cd32 ct32, fun s v => .of_eq rfl, fun base _ _ => ?_⟩
  have G_is_int := ok_is_int (P := l.prog) (w := w) (base := base) T
  have G_is_from := ok_is_from (P := l.prog) (w := w) (base := base) T G_is_int
  have G_is_row := ok_is_row (P := l.prog) (w := w) (base := base) T
  have G_is_fraction_value := ok_is_fraction_value (P := l.prog) (w := w) (base := base) T G_is_from G_is_int G_is_row
  have G_low := ok_low (P := l.prog) (w := w) (base := base) T
  have G_plus_f := ok_plus_f (P := l.prog) (w := w) (base := base) T G_low
  have G_minus_f := ok_minus_f (P := l.prog) (w := w) (base := base) T G_plus_f
  have G_times_f := ok_times_f (P := l.prog) (w := w) (base := base) T G_low
  have G_compared_f := ok_compared_f (P := l.prog) (w := w) (base := base) T
  have G_floor_f := ok_floor_f (P := l.prog) (w := w) (base := base) T
  have G_ceiling_f := ok_ceiling_f (P := l.prog) (w := w) (base := base) T
  have G_mixed_f := ok_mixed_f (P := l.prog) (w := w) (base := base) T G_minus_f G_plus_f G_times_f
  have G_need_fraction := ok_need_fraction (P := l.prog) (w := w) (base := base) T G_is_fraction_value
  have G_need_two := ok_need_two (P := l.prog) (w := w) (base := base) T G_need_fraction
  have G_compared := ok_compared (P := l.prog) (w := w) (base := base) T G_compared_f G_need_two
  have G_mixed := ok_mixed (P := l.prog) (w := w) (base := base) T G_mixed_f G_need_fraction G_need_two
  have G_floor_of := ok_floor_of (P := l.prog) (w := w) (base := base) T G_floor_f G_need_fraction
  have G_ceiling_of := ok_ceiling_of (P := l.prog) (w := w) (base := base) T G_ceiling_f G_need_fraction
  have G_l_deck := ok_l_deck (P := l.prog) (w := w) (base := base) T rfl
  have G_l_draw := ok_l_draw (P := l.prog) (w := w) (base := base) T rfl
  have G_l_pick := ok_l_pick (P := l.prog) (w := w) (base := base) T G_l_draw
  have G_l_divisor := ok_l_divisor (P := l.prog) (w := w) (base := base) T
  have G_l_lowest := ok_l_lowest (P := l.prog) (w := w) (base := base) T G_l_divisor
  have G_l_same := ok_l_same (P := l.prog) (w := w) (base := base) T 5
  have G_l_is_int := ok_l_is_int (P := l.prog) (w := w) (base := base) T
  have G_l_int := ok_l_int (P := l.prog) (w := w) (base := base) T G_l_draw G_l_pick
  have G_l_is_fraction := ok_l_is_fraction (P := l.prog) (w := w) (base := base) T G_l_divisor G_l_is_int
  have G_l_fraction := ok_l_fraction (P := l.prog) (w := w) (base := base) T G_l_draw G_l_int G_l_lowest G_l_pick
  have G_l_sign := ok_l_sign (P := l.prog) (w := w) (base := base) T
  have G_l_near := ok_l_near (P := l.prog) (w := w) (base := base) T G_l_lowest G_l_pick
  have G_l_share := ok_l_share (P := l.prog) (w := w) (base := base) T G_l_draw G_l_fraction G_l_lowest G_l_pick
  have G_l_is_mixed := ok_l_is_mixed (P := l.prog) (w := w) (base := base) T G_l_is_fraction G_l_sign
  have G_law := ok_law (P := l.prog) (w := w) (base := base) T G_l_deck G_l_draw G_l_fraction G_l_is_int G_l_is_mixed G_l_near G_l_same G_l_share G_l_sign G_ceiling_of G_compared G_floor_of G_mixed
  obtain ⟨f, fd, h1, h2, _, h4⟩ := G_law.ex
  have e2 := h2.symm.trans hfa
  cases e2
  have e3 := fun_same h1 l32
  subst e3
  exact h4
end My
open PySem PySem.W PyProof.Rows in
set_option maxRecDepth 100000 in
set_option maxHeartbeats 0 in
theorem PySem.Challenge.cw_darkmoves_k02_floors_signs_and_mixed_fra_holds : PySem.Challenge.rw_darkmoves_k02_floors_signs_and_mixed_fra.Holds := by
  w_on; o_law; k_head; (case hw => w_witness2)
  k_fill
  refine DL.walk_D (l := PySem.Challenge.rw_darkmoves_k02_floors_signs_and_mixed_fra) (DK := DL.deckDK "cells" "mixed" "draws") (x := "script") (sp := My.sp_law) (n := 63) (r := 7) rfl (by decide) rfl ⟨rfl, by decide, by decide⟩ (fun w h Y => PySem.W.kIn_of Y) ?F (fun ns hl mu R hR => ⟨ns, rfl, hl, hR⟩)
  case F =>
    intro w mg fa h KX G hmg
    refine' My.all_mk KX G hmg ?a0 ?l0 ?c0 ?q0 ?a1 ?l1 ?c1 ?q1 ?a2 ?l2 ?c2 ?q2 ?a3 ?l3 ?c3 ?q3 ?a4 ?l4 ?c4 ?q4 ?a5 ?l5 ?c5 ?q5 ?a6 ?l6 ?c6 ?q6 ?a7 ?l7 ?c7 ?q7 ?a8 ?l8 ?c8 ?q8 ?a9 ?l9 ?c9 ?q9 ?a10 ?l10 ?c10 ?q10 ?a11 ?l11 ?c11 ?q11 ?a12 ?l12 ?c12 ?q12 ?a13 ?l13 ?c13 ?q13 ?a14 ?l14 ?c14 ?q14 ?a15 ?l15 ?c15 ?q15 ?a16 ?l16 ?c16 ?q16 ?a17 ?l17 ?c17 ?q17 ?a18 ?l18 ?c18 ?q18 ?a19 ?l19 ?c19 ?q19 ?a20 ?l20 ?c20 ?q20 ?a21 ?l21 ?c21 ?q21 ?a22 ?l22 ?c22 ?q22 ?a23 ?l23 ?c23 ?q23 ?a24 ?l24 ?c24 ?q24 ?a25 ?l25 ?c25 ?q25 ?a26 ?l26 ?c26 ?q26 ?a27 ?l27 ?c27 ?q27 ?a28 ?l28 ?c28 ?q28 ?a29 ?l29 ?c29 ?q29 ?a30 ?l30 ?c30 ?q30 ?a31 ?l31 ?c31 ?q31 ?a32 ?l32 ?c32 ?q32 ?z_abs ?z_bool ?z_int ?z_isinstance ?z_len ?z_list ?z_max ?z_range ?z_repr ?z_str ?z_tuple ?z_zip ?gc
    (case a0 => k_is)
    (case l0 => k_is)
    (case c0 => k_is)
    (case q0 => k_is)
    (case a1 => k_is)
    (case l1 => k_is)
    (case c1 => k_is)
    (case q1 => k_is)
    (case a2 => k_is)
    (case l2 => k_is)
    (case c2 => k_is)
    (case q2 => k_is)
    (case a3 => k_is)
    (case l3 => k_is)
    (case c3 => k_is)
    (case q3 => k_is)
    (case a4 => k_is)
    (case l4 => k_is)
    (case c4 => k_is)
    (case q4 => k_is)
    (case a5 => k_is)
    (case l5 => k_is)
    (case c5 => k_is)
    (case q5 => k_is)
    (case a6 => k_is)
    (case l6 => k_is)
    (case c6 => k_is)
    (case q6 => k_is)
    (case a7 => k_is)
    (case l7 => k_is)
    (case c7 => k_is)
    (case q7 => k_is)
    (case a8 => k_is)
    (case l8 => k_is)
    (case c8 => k_is)
    (case q8 => k_is)
    (case a9 => k_is)
    (case l9 => k_is)
    (case c9 => k_is)
    (case q9 => k_is)
    (case a10 => k_is)
    (case l10 => k_is)
    (case c10 => k_is)
    (case q10 => k_is)
    (case a11 => k_is)
    (case l11 => k_is)
    (case c11 => k_is)
    (case q11 => k_is)
    (case a12 => k_is)
    (case l12 => k_is)
    (case c12 => k_is)
    (case q12 => k_is)
    (case a13 => k_is)
    (case l13 => k_is)
    (case c13 => k_is)
    (case q13 => k_is)
    (case a14 => k_is)
    (case l14 => k_is)
    (case c14 => k_is)
    (case q14 => k_is)
    (case a15 => k_is)
    (case l15 => k_is)
    (case c15 => k_is)
    (case q15 => k_is)
    (case a16 => k_is)
    (case l16 => k_is)
    (case c16 => k_is)
    (case q16 => k_is)
    (case a17 => k_is)
    (case l17 => k_is)
    (case c17 => k_is)
    (case q17 => k_is)
    (case a18 => k_is)
    (case l18 => k_is)
    (case c18 => k_is)
    (case q18 => k_is)
    (case a19 => k_is)
    (case l19 => k_is)
    (case c19 => k_is)
    (case q19 => k_is)
    (case a20 => k_is)
    (case l20 => k_is)
    (case c20 => k_is)
    (case q20 => k_is)
    (case a21 => k_is)
    (case l21 => k_is)
    (case c21 => k_is)
    (case q21 => k_is)
    (case a22 => k_is)
    (case l22 => k_is)
    (case c22 => k_is)
    (case q22 => k_is)
    (case a23 => k_is)
    (case l23 => k_is)
    (case c23 => k_is)
    (case q23 => k_is)
    (case a24 => k_is)
    (case l24 => k_is)
    (case c24 => k_is)
    (case q24 => k_is)
    (case a25 => k_is)
    (case l25 => k_is)
    (case c25 => k_is)
    (case q25 => k_is)
    (case a26 => k_is)
    (case l26 => k_is)
    (case c26 => k_is)
    (case q26 => k_is)
    (case a27 => k_is)
    (case l27 => k_is)
    (case c27 => k_is)
    (case q27 => k_is)
    (case a28 => k_is)
    (case l28 => k_is)
    (case c28 => k_is)
    (case q28 => k_is)
    (case a29 => k_is)
    (case l29 => k_is)
    (case c29 => k_is)
    (case q29 => k_is)
    (case a30 => k_is)
    (case l30 => k_is)
    (case c30 => k_is)
    (case q30 => k_is)
    (case a31 => k_is)
    (case l31 => k_is)
    (case c31 => k_is)
    (case q31 => k_is)
    (case a32 => k_is)
    (case l32 => k_is)
    (case c32 => k_is)
    (case q32 => k_is)
    (case z_abs => k_is)
    (case z_bool => k_is)
    (case z_int => k_is)
    (case z_isinstance => k_is)
    (case z_len => k_is)
    (case z_list => k_is)
    (case z_max => k_is)
    (case z_range => k_is)
    (case z_repr => k_is)
    (case z_str => k_is)
    (case z_tuple => k_is)
    (case z_zip => k_is)
    (case gc => k_is)
#print axioms PySem.Challenge.cw_darkmoves_k02_floors_signs_and_mixed_fra_holds

