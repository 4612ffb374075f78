import PyProof.Rows.All
import Wide.All
import OpenK.AllK
import Wide.FinOn
import HandS.ForMost
import HandS.ForExc
import HandS.Gcd
import HandS.Wide
import HandS.IsInst
import HandS.Zip
import HandS.Style
import HandS.Codes
import HandS.Deep
import HandS.Flow
import HandS.TupAny
import HandS.TupMul
import HandS.Lambda
import HandS.EndTab
import HandS.Conv
import HandS.ExcSuper
import HandS.ExcField
import HandS.ExcOwn
import KE.KExcIs
import KE.KExcInit
import KE.KSuper
import PySem.Challenge.RW_darkmoves_k14_values_of_cut_fades
set_option Elab.async false
set_option linter.all false
set_option maxRecDepth 100000
set_option maxHeartbeats 4000000
namespace DL
open PySem L2

/-! ### data, names, the small heap -/
/-- frozen data. dK: keys ints and texts; dT: keys tuples of these; ins: an instance; fn: a callable thing -/
inductive D where
  | none | bool (b : Bool) | int (i : Int) | str (x : Str) | list (ds : List D) | tuple (ds : List D)
  | dK (kvs : List (Key × D)) | dT (kvs : List (List Key × D)) | ins (C : Addr) (fs : List (Str × D)) | fn (f : Addr)
/-- what a name holds: data that nothing changes any more, or the k-th own object -/
inductive B where
  | dat (d : D)
  | ref (k : Nat)
abbrev AL := List (Option Addr)
inductive MO where
  | lst (ds : List D)
  | dK (kvs : List (Key × D))
  | dT (kvs : List (List Key × D))
  | deck (j : Nat)
  | hid
  | tab (P : Addr) (q : Str)
  /-- something that is known of what stands, and stays so -/
  | fact (φ : List (Option Addr) → Hp → Prop)
  | dead
abbrev Mu := List MO
abbrev En := List (Option B)

def FzL (K : PySem.W.Frag) (al : AL) (H : Hp) (a : Addr) (xs : List V) : Prop :=
  (Rd H a (.lst xs) ∧ some a ∉ al) ∨ SqL K (fun _ => none) a xs
def FzT (K : PySem.W.Frag) (al : AL) (H : Hp) (a : Addr) (xs : List V) : Prop :=
  (Rd H a (.tup xs) ∧ some a ∉ al) ∨ SqT K (fun _ => none) a xs
mutual
def Rep (K : PySem.W.Frag) (al : AL) (H : Hp) : D → V → Prop
  | .none, v => v = .non
  | .bool b, v => v = .bl b
  | .int i, v => v = .int i
  | .str x, v => v = .str x
  | .list ds, v => ∃ a xs, v = .ref a ∧ FzL K al H a xs ∧ Reps K al H ds xs
  | .tuple ds, v => ∃ a xs, v = .ref a ∧ FzT K al H a xs ∧ Reps K al H ds xs
  | .dK kvs, v => ∃ a ys, v = .ref a ∧ (Rd H a (.dK ys) ∧ some a ∉ al) ∧ RepK K al H kvs ys
  | .dT kvs, v => ∃ a ys, v = .ref a ∧ (Rd H a (.dT ys) ∧ some a ∉ al) ∧ RepT K al H kvs ys
  | .ins C fs, v => ∃ a dx ys, v = .ref a ∧ (Rd H a (.ins C dx ys) ∧ some a ∉ al) ∧ RepF K al H fs ys
  | .fn f, v => v = .ref f
def Reps (K : PySem.W.Frag) (al : AL) (H : Hp) : List D → List V → Prop
  | [], xs => xs = []
  | d :: ds, xs => ∃ x r, xs = x :: r ∧ Rep K al H d x ∧ Reps K al H ds r
def RepK (K : PySem.W.Frag) (al : AL) (H : Hp) : List (Key × D) → List (Key × V) → Prop
  | [], xs => xs = []
  | (q, d) :: ds, xs => ∃ x r, xs = (q, x) :: r ∧ Rep K al H d x ∧ RepK K al H ds r
def RepT (K : PySem.W.Frag) (al : AL) (H : Hp) : List (List Key × D) → List (List Key × V) → Prop
  | [], xs => xs = []
  | (q, d) :: ds, xs => ∃ x r, xs = (q, x) :: r ∧ Rep K al H d x ∧ RepT K al H ds r
def RepF (K : PySem.W.Frag) (al : AL) (H : Hp) : List (Str × D) → List (Str × V) → Prop
  | [], xs => xs = []
  | (q, d) :: ds, xs => ∃ x r, xs = (q, x) :: r ∧ Rep K al H d x ∧ RepF K al H ds r
end
def RepB (K : PySem.W.Frag) (al : AL) (H : Hp) : B → V → Prop
  | .dat d, v => Rep K al H d v
  | .ref k, v => ∃ a, al[k]? = some (some a) ∧ v = .ref a
def RepBs (K : PySem.W.Frag) (al : AL) (H : Hp) : List B → List V → Prop
  | [], xs => xs = []
  | b :: bs, xs => ∃ x r, xs = x :: r ∧ RepB K al H b x ∧ RepBs K al H bs r

def RepFB (K : PySem.W.Frag) (al : AL) (H : Hp) : List (Str × B) → List (Str × V) → Prop
  | [], xs => xs = []
  | (q, b) :: bs, xs => ∃ x r, xs = (q, x) :: r ∧ RepB K al H b x ∧ RepFB K al H bs r

/-- what grows: new own objects, new objects; all that is not own stays -/
abbrev Ntb (o : HO) : Prop := ∀ ps, o ≠ .tbl ps
abbrev Nxt (o : HO) : Prop := ∀ φ, o ≠ .ext φ
theorem nt_of {H : Hp} {p : Addr} (n : H p = none) : ∀ o, H p = some o → ¬ Ntb o := fun o z => by
  rw [n] at z
  cases z
structure Ext (al : AL) (H : Hp) (al' : AL) (H' : Hp) : Prop where
  pre : ∃ be, al' = al ++ be ∧ ∀ a, some a ∈ be → some a ∉ al ∧ ∀ o, H a = some o → ¬ Ntb o
  keep : ∀ b o, H b = some o → some b ∉ al → Ntb o → H' b = some o
section
variable {K : PySem.W.Frag} {al al' al2 : AL} {H H' H2 : Hp}
theorem Ext.refl : Ext al H al H := ⟨⟨[], by simp, by simp⟩, fun _ _ h _ _ => h⟩
theorem Ext.trans (e : Ext al H al' H') (f : Ext al' H' al2 H2) : Ext al H al2 H2 := by
  obtain ⟨⟨be, rfl, hb⟩, k⟩ := e
  obtain ⟨⟨ga, rfl, hg⟩, k2⟩ := f
  have out : ∀ b o, H b = some o → some b ∉ al → Ntb o → some b ∉ al ++ be := fun b o h n w z => by
    rcases List.mem_append.mp z with z | z
    · exact n z
    · exact (hb b z).2 o h w
  refine ⟨⟨be ++ ga, by rw [List.append_assoc], fun a z => ?_⟩, fun b o h n w => k2 b o (k b o h n w) (out b o h n w) w⟩
  rcases List.mem_append.mp z with z | z
  · exact hb a z
  · obtain ⟨n1, n2⟩ := hg a z
    have n3 : some a ∉ al := fun q => n1 (List.mem_append_left _ q)
    exact ⟨n3, fun o q w => n2 o (k a o q n3 w) w⟩
theorem Ext.rd {a : Addr} {u : HO} (e : Ext al H al' H') (h : Rd H a u ∧ some a ∉ al) (w : Ntb u := by intro _ z; cases z) : Rd H' a u ∧ some a ∉ al' := by
  obtain ⟨⟨be, rfl, hb⟩, k⟩ := e
  obtain ⟨r, n⟩ := h
  have out : ∀ o, H a = some o → Ntb o → some a ∉ al ++ be := fun o h w z => by
    rcases List.mem_append.mp z with z | z
    · exact n z
    · exact (hb a z).2 o h w
  rcases r with r | ⟨o, r⟩
  · exact ⟨.inl (k _ _ r n w), out _ r w⟩
  · have w2 : Ntb (.frz o u) := fun _ z => by cases z
    exact ⟨.inr ⟨o, k _ _ r n w2⟩, out _ r w2⟩
theorem Ext.fzL {a : Addr} {xs : List V} (e : Ext al H al' H') (h : FzL K al H a xs) : FzL K al' H' a xs := h.imp (fun z => e.rd z) id
theorem Ext.fzT {a : Addr} {xs : List V} (e : Ext al H al' H') (h : FzT K al H a xs) : FzT K al' H' a xs := h.imp (fun z => e.rd z) id
theorem Ext.fz {a : Addr} {u : HO} (e : Ext al H al' H') (h : Rd H a u ∧ some a ∉ al) (w : Ntb u := by intro _ z; cases z) : Rd H' a u ∧ some a ∉ al' := e.rd h w
mutual
theorem Rep.ext (e : Ext al H al' H') : ∀ (d : D) (v : V), Rep K al H d v → Rep K al' H' d v
  | .none, _, h => h
  | .bool _, _, h => h
  | .int _, _, h => h
  | .str _, _, h => h
  | .fn _, _, h => h
  | .list ds, _, h => by
    obtain ⟨a, xs, h1, h2, h3⟩ := h
    exact ⟨a, xs, h1, e.fzL h2, Reps.ext e ds xs h3⟩
  | .tuple ds, _, h => by
    obtain ⟨a, xs, h1, h2, h3⟩ := h
    exact ⟨a, xs, h1, e.fzT h2, Reps.ext e ds xs h3⟩
  | .dK ds, _, h => by
    obtain ⟨a, xs, h1, h2, h3⟩ := h
    exact ⟨a, xs, h1, e.fz h2, RepK.ext e ds xs h3⟩
  | .dT ds, _, h => by
    obtain ⟨a, xs, h1, h2, h3⟩ := h
    exact ⟨a, xs, h1, e.fz h2, RepT.ext e ds xs h3⟩
  | .ins C ds, _, h => by
    obtain ⟨a, dx, xs, h1, h2, h3⟩ := h
    exact ⟨a, dx, xs, h1, e.fz h2, RepF.ext e ds xs h3⟩
theorem Reps.ext (e : Ext al H al' H') : ∀ (ds : List D) (xs : List V), Reps K al H ds xs → Reps K al' H' ds xs
  | [], _, h => h
  | d :: ds, _, h => by
    obtain ⟨x, r, h1, h2, h3⟩ := h
    exact ⟨x, r, h1, Rep.ext e d x h2, Reps.ext e ds r h3⟩
theorem RepK.ext (e : Ext al H al' H') : ∀ (ds : List (Key × D)) (xs : List (Key × V)), RepK K al H ds xs → RepK K al' H' ds xs
  | [], _, h => h
  | (_, d) :: ds, _, h => by
    obtain ⟨x, r, h1, h2, h3⟩ := h
    exact ⟨x, r, h1, Rep.ext e d x h2, RepK.ext e ds r h3⟩
theorem RepT.ext (e : Ext al H al' H') : ∀ (ds : List (List Key × D)) (xs : List (List Key × V)), RepT K al H ds xs → RepT K al' H' ds xs
  | [], _, h => h
  | (_, d) :: ds, _, h => by
    obtain ⟨x, r, h1, h2, h3⟩ := h
    exact ⟨x, r, h1, Rep.ext e d x h2, RepT.ext e ds r h3⟩
theorem RepF.ext (e : Ext al H al' H') : ∀ (ds : List (Str × D)) (xs : List (Str × V)), RepF K al H ds xs → RepF K al' H' ds xs
  | [], _, h => h
  | (_, d) :: ds, _, h => by
    obtain ⟨x, r, h1, h2, h3⟩ := h
    exact ⟨x, r, h1, Rep.ext e d x h2, RepF.ext e ds r h3⟩
end
theorem RepB.ext (e : Ext al H al' H') {b : B} {v : V} (h : RepB K al H b v) : RepB K al' H' b v := by
  cases b with
  | dat d => exact Rep.ext e d v h
  | ref k =>
    obtain ⟨a, h1, h2⟩ := h
    obtain ⟨⟨be, rfl, _⟩, _⟩ := e
    exact ⟨a, by rw [List.getElem?_append_left (List.getElem?_eq_some_iff.mp h1).1]; exact h1, h2⟩
theorem RepBs.ext (e : Ext al H al' H') : ∀ {bs : List B} {vs : List V}, RepBs K al H bs vs → RepBs K al' H' bs vs
  | [], _, h => h
  | b :: bs, _, h => by
    obtain ⟨x, r, h1, h2, h3⟩ := h
    exact ⟨x, r, h1, h2.ext e, RepBs.ext e h3⟩
theorem RepFB.ext (e : Ext al H al' H') : ∀ {bs : List (Str × B)} {vs : List (Str × V)}, RepFB K al H bs vs → RepFB K al' H' bs vs
  | [], _, h => h
  | (_, b) :: bs, _, h => by
    obtain ⟨x, r, h1, h2, h3⟩ := h
    exact ⟨x, r, h1, h2.ext e, RepFB.ext e h3⟩
theorem RepBs.length : ∀ {bs : List B} {vs : List V}, RepBs K al H bs vs → vs.length = bs.length
  | [], _, h => by
    have e : _ = [] := h
    rw [e] <;> rfl
  | b :: bs, _, h => by
    obtain ⟨x, r, h1, h2, h3⟩ := h
    rw [h1, List.length_cons, List.length_cons, RepBs.length h3]
theorem Reps.length : ∀ {ds : List D} {vs : List V}, Reps K al H ds vs → vs.length = ds.length
  | [], _, h => by
    have e : _ = [] := h
    rw [e] <;> rfl
  | b :: bs, _, h => by
    obtain ⟨x, r, h1, h2, h3⟩ := h
    rw [h1, List.length_cons, List.length_cons, Reps.length h3]
theorem Reps.get : ∀ {ds : List D} {vs : List V} {i : Nat} {d : D}, Reps K al H ds vs → ds[i]? = some d → ∃ v, vs[i]? = some v ∧ Rep K al H d v
  | [], _, _, _, _, e => by cases e
  | b :: bs, _, 0, d, h, e => by
    obtain ⟨x, r, h1, h2, h3⟩ := h
    rw [List.getElem?_cons_zero] at e
    cases e
    exact ⟨x, by rw [h1] <;> rfl, h2⟩
  | b :: bs, _, i + 1, d, h, e => by
    obtain ⟨x, r, h1, h2, h3⟩ := h
    rw [List.getElem?_cons_succ] at e
    obtain ⟨v, q1, q2⟩ := Reps.get h3 e
    exact ⟨v, by rw [h1, List.getElem?_cons_succ]; exact q1, q2⟩
theorem Reps.app : ∀ {ds es : List D} {vs ws : List V}, Reps K al H ds vs → Reps K al H es ws → Reps K al H (ds ++ es) (vs ++ ws)
  | [], _, _, _, h, h' => by
    have e : _ = [] := h
    rw [e]
    exact h'
  | b :: bs, _, _, _, h, h' => by
    obtain ⟨x, r, h1, h2, h3⟩ := h
    exact ⟨x, r ++ _, by rw [h1] <;> rfl, h2, Reps.app h3 h'⟩
theorem Reps.one {d : D} {v : V} (h : Rep K al H d v) : Reps K al H [d] [v] := ⟨v, [], rfl, h, rfl⟩
theorem FzL.sq {a : Addr} {xs : List V} (h : FzL K al H a xs) : SqL K H a xs := by
  rcases h with h | h
  · exact .inl h.1
  · rcases h with (h | ⟨o, h⟩) | h
    · cases h
    · cases h
    · exact .inr h
theorem FzT.sq {a : Addr} {xs : List V} (h : FzT K al H a xs) : SqT K H a xs := by
  rcases h with h | h
  · exact .inl h.1
  · rcases h with (h | ⟨o, h⟩) | h
    · cases h
    · cases h
    · exact .inr h
end

def MOk (K : PySem.W.Frag) (DK : Addr → HO → HO → Prop) (al : AL) (H : Hp) (k : Nat) : MO → Prop
  | .lst ds => ∃ a xs, al[k]? = some (some a) ∧ H a = some (.lst xs) ∧ Reps K al H ds xs
  | .dK ds => ∃ a xs, al[k]? = some (some a) ∧ H a = some (.dK xs) ∧ RepK K al H ds xs
  | .dT ds => ∃ a xs, al[k]? = some (some a) ∧ H a = some (.dT xs) ∧ RepT K al H ds xs
  | .deck j => j < k ∧ ∃ a l o u, al[k]? = some (some a) ∧ al[j]? = some (some l) ∧ H a = some o ∧ H l = some u ∧ DK l o u
  | .hid => ∃ a o, al[k]? = some (some a) ∧ H a = some o ∧ Ntb o ∧ Nxt o
  | .tab P q => al[k]? = some (some P) ∧ ∃ ps : Array Value, H P = some (.tbl ps) ∧ TriplesOk ps.toList ∧ ∀ (pos : Pos) (cv : Value), codeAmong pos ps.toList = some cv → ∃ c, cv = .ref c ∧ H c = some (LamX.CodeO c q) ∧ some c ∉ al
  | .fact φ => al[k]? = some none ∧ φ al H ∧ (∀ al1 H1 al2 H2, Ext al1 H1 al2 H2 → φ al1 H1 → φ al2 H2) ∧ ∀ al1 be H1, φ (al1 ++ be) H1 → φ al1 H1
  | .dead => al[k]? = some none
structure MuOk (K : PySem.W.Frag) (DK : Addr → HO → HO → Prop) (al : AL) (H : Hp) (mu : Mu) : Prop where
  len : al.length = mu.length
  nd : ∀ (i j : Nat) (a : Addr), al[i]? = some (some a) → al[j]? = some (some a) → i = j
  ok : ∀ (k : Nat) (m : MO), mu[k]? = some m → MOk K DK al H k m
  hd : ∀ (k j : Nat), mu[k]? = some (.deck j) → mu[j]? = some .hid
structure Stt (K : PySem.W.Frag) (DK : Addr → HO → HO → Prop) (al : AL) (σ : L2.St) (H : Hp) (en : En) (mu : Mu) : Prop where
  mu : MuOk K DK al H mu
  len : en.length = σ.length
  sl : ∀ (i : Nat) (b : B), en[i]? = some (some b) → ∃ v, σ[i]? = some (some v) ∧ RepB K al H b v
section
variable {K : PySem.W.Frag} {DK : Addr → HO → HO → Prop} {al al' : AL} {H H' : Hp} {mu mu' : Mu} {σ : L2.St} {en : En}
theorem MuOk.there (h : MuOk K DK al H mu) {a : Addr} (m : some a ∈ al) : ∃ o, H a = some o := by
  obtain ⟨k, hk⟩ := List.mem_iff_getElem?.mp m
  have hlt : k < mu.length := by
    rw [← h.len]
    exact (List.getElem?_eq_some_iff.mp hk).1
  have q := h.ok k mu[k] (List.getElem?_eq_getElem hlt)
  cases e : mu[k] with
  | lst ds =>
    rw [e] at q
    obtain ⟨b, xs, h1, h2, _⟩ := q
    rw [hk] at h1
    cases h1
    exact ⟨_, h2⟩
  | dK ds =>
    rw [e] at q
    obtain ⟨b, xs, h1, h2, _⟩ := q
    rw [hk] at h1
    cases h1
    exact ⟨_, h2⟩
  | dT ds =>
    rw [e] at q
    obtain ⟨b, xs, h1, h2, _⟩ := q
    rw [hk] at h1
    cases h1
    exact ⟨_, h2⟩
  | deck j =>
    rw [e] at q
    obtain ⟨_, b, l, o, u, h1, _, h2, _, _⟩ := q
    rw [hk] at h1
    cases h1
    exact ⟨_, h2⟩
  | hid =>
    rw [e] at q
    obtain ⟨b, o, h1, h2, _⟩ := q
    rw [hk] at h1
    cases h1
    exact ⟨_, h2⟩
  | tab P q2 =>
    rw [e] at q
    obtain ⟨h1, ps, h2, _⟩ := q
    rw [hk] at h1
    cases h1
    exact ⟨_, h2⟩
  | fact φ =>
    rw [e] at q
    have q' := q.1
    rw [hk] at q'
    cases q'
  | dead =>
    rw [e] at q
    have q' : al[k]? = some none := q
    rw [hk] at q'
    cases q'
theorem MuOk.free (h : MuOk K DK al H mu) {p : Addr} (n : H p = none) : some p ∉ al := fun z => by
  obtain ⟨o, e⟩ := h.there z
  rw [n] at e
  cases e
theorem MOk.mono {k : Nat} {m : MO} (h : MOk K DK al H k m) (e : Ext al H al' H') (same : ∀ a, some a ∈ al → H' a = H a) : MOk K DK al' H' k m := by
  obtain ⟨be, rfl, hb⟩ := id e.pre
  have left : ∀ (i : Nat) x, al[i]? = some x → (al ++ be)[i]? = some x := fun i x q => by
    rw [List.getElem?_append_left (List.getElem?_eq_some_iff.mp q).1]
    exact q
  have mem : ∀ (i : Nat) a, al[i]? = some (some a) → some a ∈ al := fun i a q => List.mem_of_getElem? q
  cases m with
  | lst ds =>
    obtain ⟨a, xs, h1, h2, h3⟩ := h
    exact ⟨a, xs, left _ _ h1, by rw [same a (mem _ _ h1)]; exact h2, Reps.ext e _ _ h3⟩
  | dK ds =>
    obtain ⟨a, xs, h1, h2, h3⟩ := h
    exact ⟨a, xs, left _ _ h1, by rw [same a (mem _ _ h1)]; exact h2, RepK.ext e _ _ h3⟩
  | dT ds =>
    obtain ⟨a, xs, h1, h2, h3⟩ := h
    exact ⟨a, xs, left _ _ h1, by rw [same a (mem _ _ h1)]; exact h2, RepT.ext e _ _ h3⟩
  | deck j =>
    obtain ⟨h0, a, l, o, u, h1, h2, h3, h4, h5⟩ := h
    exact ⟨h0, a, l, o, u, left _ _ h1, left _ _ h2, by rw [same a (mem _ _ h1)]; exact h3, by rw [same l (mem _ _ h2)]; exact h4, h5⟩
  | hid =>
    obtain ⟨a, o, h1, h2, h3⟩ := h
    exact ⟨a, o, left _ _ h1, by rw [same a (mem _ _ h1)]; exact h2, h3⟩
  | tab P q2 =>
    obtain ⟨h1, ps, h2, h3, h4⟩ := h
    refine ⟨left _ _ h1, ps, by rw [same P (mem _ _ h1)]; exact h2, h3, fun pos cv hc => ?_⟩
    obtain ⟨c, e1, e2, e3⟩ := h4 pos cv hc
    have wC : Ntb (LamX.CodeO c q2) := fun ps z => LamX.codeO_ne ps z
    refine ⟨c, e1, e.keep c _ e2 e3 wC, fun z => ?_⟩
    rcases List.mem_append.mp z with z | z
    · exact e3 z
    · exact (hb c z).2 _ e2 wC
  | fact φ => exact ⟨left _ _ h.1, h.2.2.1 _ _ _ _ e h.2.1, h.2.2⟩
  | dead => exact left _ _ h
theorem MuOk.mono (h : MuOk K DK al H mu) (e : Ext al H al H') (same : ∀ a, some a ∈ al → H' a = H a) : MuOk K DK al H' mu :=
  ⟨h.len, h.nd, fun k m q => (h.ok k m q).mono e same, h.hd⟩
/-- a new object that is not own -/
theorem MuOk.newF (h : MuOk K DK al H mu) {p : Addr} {o : HO} (n : H p = none) : Ext al H al (upd H p o) ∧ MuOk K DK al (upd H p o) mu := by
  have e : Ext al H al (upd H p o) := ⟨⟨[], by simp, by simp⟩, fun b u q _ _ => by rw [upd_ne (ne_of_none q n)]; exact q⟩
  refine ⟨e, h.mono e fun a m => ?_⟩
  obtain ⟨u, q⟩ := h.there m
  rw [upd_ne (ne_of_none q n)]
/-- a new own object -/
theorem MuOk.newO (h : MuOk K DK al H mu) {p : Addr} {xs : List V} {ds : List D} (n : H p = none) (r : Reps K al H ds xs) :
    Ext al H (al ++ [some p]) (upd H p (.lst xs)) ∧ MuOk K DK (al ++ [some p]) (upd H p (.lst xs)) (mu ++ [.lst ds]) := by
  have np := h.free n
  have e : Ext al H (al ++ [some p]) (upd H p (.lst xs)) := ⟨⟨[some p], rfl, fun a z => by
    have z' : a = p := by simpa using z
    subst z'
    exact ⟨np, nt_of n⟩⟩, fun b u q _ _ => by rw [upd_ne (ne_of_none q n)]; exact q⟩
  have at_ : (al ++ [some p])[al.length]? = some (some p) := by simp
  refine ⟨e, ⟨by simp [h.len], fun i j a hi hj => ?_, fun k m hk => ?_, fun k j hk => ?_⟩⟩
  · by_cases hi' : i < al.length
    · rw [List.getElem?_append_left hi'] at hi
      by_cases hj' : j < al.length
      · rw [List.getElem?_append_left hj'] at hj
        exact h.nd i j a hi hj
      · rw [List.getElem?_append_right (by omega)] at hj
        have : a = p := by
          have q := List.mem_of_getElem? hj
          simpa using q
        subst this
        exact absurd (List.mem_of_getElem? hi) np
    · rw [List.getElem?_append_right (by omega)] at hi
      have ea : a = p := by
        have q := List.mem_of_getElem? hi
        simpa using q
      subst ea
      have hi2 := (List.getElem?_eq_some_iff.mp hi).1
      by_cases hj' : j < al.length
      · rw [List.getElem?_append_left hj'] at hj
        exact absurd (List.mem_of_getElem? hj) np
      · rw [List.getElem?_append_right (by omega)] at hj
        have hj2 := (List.getElem?_eq_some_iff.mp hj).1
        simp at hi2 hj2
        omega
  · by_cases hk' : k < mu.length
    · rw [List.getElem?_append_left hk'] at hk
      exact (h.ok k m hk).mono e fun a z => by
        obtain ⟨u, q⟩ := h.there z
        rw [upd_ne (ne_of_none q n)]
    · rw [List.getElem?_append_right (by omega)] at hk
      have hk2 := (List.getElem?_eq_some_iff.mp hk).1
      have ek : k = al.length := by
        have := h.len
        simp at hk2
        omega
      have em : m = .lst ds := by
        have q := List.mem_of_getElem? hk
        simpa using q
      subst ek em
      exact ⟨p, xs, at_, upd_same, Reps.ext e _ _ r⟩
  · by_cases hk' : k < mu.length
    · rw [List.getElem?_append_left hk'] at hk
      have q := h.hd k j hk
      rw [List.getElem?_append_left (List.getElem?_eq_some_iff.mp q).1]
      exact q
    · rw [List.getElem?_append_right (by omega)] at hk
      have q := List.mem_of_getElem? hk
      have z : MO.deck j = MO.lst ds := by simpa using q
      cases z
theorem Stt.ext (s : Stt K DK al σ H en mu) (e : Ext al H al' H') (m : MuOk K DK al' H' mu') : Stt K DK al' σ H' en mu' :=
  ⟨m, s.len, fun i b q => by
    obtain ⟨v, h1, h2⟩ := s.sl i b q
    exact ⟨v, h1, h2.ext e⟩⟩
end
end DL

set_option Elab.async false
set_option linter.all false
set_option maxRecDepth 100000
set_option maxHeartbeats 4000000
namespace DL
open PySem L2

/-! ### readings over data -/
abbrev SemE := En → Mu → (B → Mu → Prop) → Prop
abbrev SemT := En → Mu → (Bool → Mu → Prop) → Prop
abbrev SemA := En → Mu → (List B → Mu → Prop) → Prop
/-- what the layer hangs on: the written part, and what a deck is -/
structure Kit where
  K : PySem.W.Frag
  DK : Addr → HO → HO → Prop
  /-- whether no repr is under way -/
  gds : Bool := true
section
variable (k : Kit)
def tD (m : SemE) : TE := fun σ H Q' => ∃ al en mu Q, Stt k.K k.DK al σ H en mu ∧ m en mu Q ∧
  ∀ v H' al' b mu', Ext al H al' H' → Stt k.K k.DK al' σ H' en mu' → RepB k.K al' H' b v → Q b mu' → Q' v H'
def tDT (m : SemT) : TT := fun σ H Q' => ∃ al en mu Q, Stt k.K k.DK al σ H en mu ∧ m en mu Q ∧
  ∀ c H' al' mu', Ext al H al' H' → Stt k.K k.DK al' σ H' en mu' → Q c mu' → Q' c H'
def tDA (m : SemA) : TA := fun σ H Q' => ∃ al en mu Q, Stt k.K k.DK al σ H en mu ∧ m en mu Q ∧
  ∀ vs H' al' bs mu', Ext al H al' H' → Stt k.K k.DK al' σ H' en mu' → RepBs k.K al' H' bs vs → Q bs mu' → Q' vs H'
end
section
variable {X : Cx} {k : Kit}
theorem pe_imp {e : Expr} {t t' : TE} (h : PE X e t) (i : ∀ σ H Q, t' σ H Q → t σ H Q) : PE X e t' :=
  ⟨fun pins s σ H Q I q => h.run pins s σ H Q I (i σ H Q q)⟩
theorem pt_imp {e : Expr} {t t' : TT} (h : PT X e t) (i : ∀ σ H Q, t' σ H Q → t σ H Q) : PT X e t' :=
  ⟨fun pins s σ H Q I q => h.run pins s σ H Q I (i σ H Q q)⟩
theorem pw_imp {e : Expr} {t t' : TT} (h : PW X e t) (i : ∀ σ H Q, t' σ H Q → t σ H Q) : PW X e t' :=
  ⟨fun wh pins s σ H Q I q => h.run wh pins s σ H Q I (i σ H Q q)⟩
theorem pa_imp {es : List Expr} {t t' : TA} (h : PA X es t) (i : ∀ σ H Q, t' σ H Q → t σ H Q) : PA X es t' :=
  ⟨fun pos pins s σ H Q I q => h.run pos pins s σ H Q I (i σ H Q q)⟩

/-! names and constants -/
def sVar (i : Nat) : SemE := fun en mu Q => match en[i]? with
  | some (some b) => Q b mu
  | _ => False
def sC (d : D) : SemE := fun _ mu Q => Q (.dat d) mu
theorem d_var {i : Nat} {x : Str} {pos : Pos} (hN : X.N[i]? = some x) (hv : Vis X.env.scope x) (hd : (x == ("__debug__" : Str)) = false := by decide) (hcd : (x == ("__classdict__" : Str)) = false := by decide) :
    PE X (.Name x pos) (tD k (sVar i)) := by
  refine pe_imp (pe_var hN hv hd hcd) fun σ H Q' h => ?_
  obtain ⟨al, en, mu, Q, st, q, kk⟩ := h
  unfold sVar at q
  split at q
  · rename_i b e
    obtain ⟨v, h1, h2⟩ := st.sl i b e
    exact ⟨v, h1, kk v H al b mu Ext.refl st h2 q⟩
  · exact q.elim
theorem d_const {e : Expr} {v : V} {d : D} (h : PE X e (tC v)) (r : ∀ al H, Rep k.K al H d v) : PE X e (tD k (sC d)) := by
  refine pe_imp h fun σ H Q' h => ?_
  obtain ⟨al, en, mu, Q, st, q, kk⟩ := h
  exact kk v H al (.dat d) mu Ext.refl st (r al H) q
theorem d_int {i j pos} : PE X (.Constant (.int i) j pos) (tD k (sC (.int i))) := d_const pe_int fun _ _ => rfl
theorem d_bl {b j pos} : PE X (.Constant (.bool b) j pos) (tD k (sC (.bool b))) := d_const pe_bl fun _ _ => rfl
theorem d_non {j pos} : PE X (.Constant .none j pos) (tD k (sC .none)) := d_const pe_non fun _ _ => rfl
theorem d_str {x j pos} : PE X (.Constant (.str x) j pos) (tD k (sC (.str x))) := d_const pe_str fun _ _ => rfl
/-- a constant of the module -/
theorem d_glob {x : Str} {v : V} {u : Value} {d : D} {pos : Pos} (hg : Gl X x) (hm : X.mg x = some u) (r : RelV v u) (rp : ∀ al H, Rep k.K al H d v) (hd : (x == ("__debug__" : Str)) = false := by decide) : PE X (.Name x pos) (tD k (sC d)) :=
  d_const (pe_glob hg hm r hd) rp

/-! two operands -/
abbrev SemO2 := B → B → Mu → (B → Mu → Prop) → Prop
abbrev SemO1 := B → Mu → (B → Mu → Prop) → Prop
def OpD (k : Kit) (X : Cx) (f : Value → Value → Sem Value) (w : SemO2) : Prop :=
  ∃ r : R2, OpR X f r ∧ ∀ al H x y b c mu Q (Q' : VK), MuOk k.K k.DK al H mu → RepB k.K al H b x → RepB k.K al H c y → w b c mu Q →
    (∀ v H' al' d mu', Ext al H al' H' → MuOk k.K k.DK al' H' mu' → RepB k.K al' H' d v → Q d mu' → Q' v H') → r x y H Q'
def sOp2 (w : SemO2) (ma mb : SemE) : SemE := fun en mu Q => ma en mu fun x mu1 => mb en mu1 fun y mu2 => w x y mu2 Q
theorem op2_imp {f : Value → Value → Sem Value} {w : SemO2} {ma mb : SemE} {r : R2}
    (h : ∀ al H x y b c mu Q (Q' : VK), MuOk k.K k.DK al H mu → RepB k.K al H b x → RepB k.K al H c y → w b c mu Q →
    (∀ v H' al' d mu', Ext al H al' H' → MuOk k.K k.DK al' H' mu' → RepB k.K al' H' d v → Q d mu' → Q' v H') → r x y H Q') (σ : L2.St) (H : Hp) (Q' : VK)
    (q : tD k (sOp2 w ma mb) σ H Q') : tOp r (tD k ma) (tD k mb) σ H Q' := by
  obtain ⟨al, en, mu, Q, st, q, kk⟩ := q
  refine ⟨al, en, mu, _, st, q, fun x H1 al1 b mu1 e1 st1 r1 q1 => ?_⟩
  refine ⟨al1, en, mu1, _, st1, q1, fun y H2 al2 c mu2 e2 st2 r2 q2 => ?_⟩
  exact h al2 H2 x y b c mu2 Q Q' st2.mu (r1.ext e2) r2 q2 fun v H' al' d mu' e3 m3 r3 q3 => kk v H' al' d mu' ((e1.trans e2).trans e3) (st2.ext e3 m3) r3 q3
theorem d_bin {op : Operator} {w : SemO2} {a b : Expr} {ma mb : SemE} {pos : Pos} (ho : OpD k X (binaryOp op) w) (ha : PE X a (tD k ma)) (hb : PE X b (tD k mb)) : PE X (.BinOp a op b pos) (tD k (sOp2 w ma mb)) := by
  obtain ⟨r, h1, h2⟩ := ho
  exact pe_imp (pe_op h1 ha hb) (op2_imp (f := binaryOp op) h2)
theorem d_cmp {op : CmpOp} {w : SemO2} {a b : Expr} {ma mb : SemE} {pos : Pos} (ho : OpD k X (compareOp op) w) (ha : PE X a (tD k ma)) (hb : PE X b (tD k mb)) (hm : behindInMarks op b = false) : PE X (.Compare a [op] [b] pos) (tD k (sOp2 w ma mb)) := by
  obtain ⟨r, h1, h2⟩ := ho
  exact pe_imp (pe_cmpR h1 ha hb hm) (op2_imp (f := compareOp op) h2)
/-- a value that is a bool, as a test -/
def sTst (m : SemE) : SemT := fun en mu Q => m en mu fun b mu1 => match b with
  | .dat (.bool c) => Q c mu1
  | _ => False
theorem tst_imp {m : SemE} {t : TE} (h : ∀ σ H Q, tD k m σ H Q → t σ H Q) (σ : L2.St) (H : Hp) (Q' : Bool → Hp → Prop) (q : tDT k (sTst m) σ H Q') : t σ H fun x H' => ∃ c, x = .bl c ∧ Q' c H' := by
  obtain ⟨al, en, mu, Q, st, q, kk⟩ := q
  refine h _ _ _ ⟨al, en, mu, _, st, q, fun v H' al' b mu' e1 st1 r1 q1 => ?_⟩
  split at q1
  · rename_i c
    exact ⟨c, r1, kk c H' al' mu' e1 st1 q1⟩
  · exact q1.elim
theorem d_tcmp {op : CmpOp} {w : SemO2} {a b : Expr} {ma mb : SemE} {pos : Pos} (ho : OpD k X (compareOp op) w) (ha : PE X a (tD k ma)) (hb : PE X b (tD k mb)) (hm : behindInMarks op b = false) : PT X (.Compare a [op] [b] pos) (tDT k (sTst (sOp2 w ma mb))) := by
  obtain ⟨r, h1, h2⟩ := ho
  exact pt_imp (pt_cmpR h1 ha hb hm) fun σ H Q' q => tst_imp (op2_imp (f := compareOp op) h2) σ H Q' q
theorem d_tval {e : Expr} {m : SemE} (h : PE X e (tD k m)) (he : ∀ whole, isTrue e X.env whole = (do let v ← whole; standAt e.pos; holding [v] (truthy v)) := by intro _; rfl) : PT X e (tDT k (sTst m)) :=
  pt_imp (pt_val h he) fun σ H Q' q => tst_imp (fun _ _ _ q => q) σ H Q' q
/-! a chain of two -/
def sChain (w w' : SemO2) (ma mb mc : SemE) : SemE := fun en mu Q => ma en mu fun x mu1 => mb en mu1 fun y mu2 => w x y mu2 fun z mu3 => match z with
  | .dat (.bool c) => if c = true then mc en mu3 fun u mu4 => w' y u mu4 Q else Q (.dat (.bool false)) mu3
  | _ => False
/-! and, or, not -/
def sAnd (m n : SemT) : SemT := fun en mu Q => m en mu fun c mu1 => if c = true then n en mu1 Q else Q false mu1
def sOr (m n : SemT) : SemT := fun en mu Q => m en mu fun c mu1 => if c = true then Q true mu1 else n en mu1 Q
def sNot (m : SemT) : SemT := fun en mu Q => m en mu fun c mu1 => Q (!c) mu1
variable {a b : Expr} {rest : List Expr} {m n : SemT} {ma mb mc : SemE} {pos : Pos}
theorem and_imp {t u : TT} (h1 : ∀ σ H Q, tDT k m σ H Q → t σ H Q) (h2 : ∀ σ H Q, tDT k n σ H Q → u σ H Q) (σ : L2.St) (H : Hp) (Q' : Bool → Hp → Prop) (q : tDT k (sAnd m n) σ H Q') : tAnd t u σ H Q' := by
  obtain ⟨al, en, mu, Q, st, q, kk⟩ := q
  refine h1 _ _ _ ⟨al, en, mu, _, st, q, fun c H1 al1 mu1 e1 st1 q1 => ?_⟩
  dsimp only
  split
  · rename_i hc
    rw [if_pos hc] at q1
    exact h2 _ _ _ ⟨al1, en, mu1, Q, st1, q1, fun c H2 al2 mu2 e2 st2 q2 => kk c H2 al2 mu2 (e1.trans e2) st2 q2⟩
  · rename_i hc
    rw [if_neg hc] at q1
    exact kk false H1 al1 mu1 e1 st1 q1
theorem or_imp {t u : TT} (h1 : ∀ σ H Q, tDT k m σ H Q → t σ H Q) (h2 : ∀ σ H Q, tDT k n σ H Q → u σ H Q) (σ : L2.St) (H : Hp) (Q' : Bool → Hp → Prop) (q : tDT k (sOr m n) σ H Q') : tOr t u σ H Q' := by
  obtain ⟨al, en, mu, Q, st, q, kk⟩ := q
  refine h1 _ _ _ ⟨al, en, mu, _, st, q, fun c H1 al1 mu1 e1 st1 q1 => ?_⟩
  dsimp only
  split
  · rename_i hc
    rw [if_pos hc] at q1
    exact kk true H1 al1 mu1 e1 st1 q1
  · rename_i hc
    rw [if_neg hc] at q1
    exact h2 _ _ _ ⟨al1, en, mu1, Q, st1, q1, fun c H2 al2 mu2 e2 st2 q2 => kk c H2 al2 mu2 (e1.trans e2) st2 q2⟩
theorem dw_and1 (ha : PT X a (tDT k m)) : PW X (.BoolOp .And [a] pos) (tDT k m) := pw_and1 ha
theorem dw_or1 (ha : PT X a (tDT k m)) : PW X (.BoolOp .Or [a] pos) (tDT k m) := pw_or1 ha
theorem dw_and (ha : PT X a (tDT k m)) (hb : PW X (.BoolOp .And (b :: rest) pos) (tDT k n)) : PW X (.BoolOp .And (a :: b :: rest) pos) (tDT k (sAnd m n)) :=
  pw_imp (pw_and ha hb) (and_imp (fun _ _ _ q => q) fun _ _ _ q => q)
theorem dw_or (ha : PT X a (tDT k m)) (hb : PW X (.BoolOp .Or (b :: rest) pos) (tDT k n)) : PW X (.BoolOp .Or (a :: b :: rest) pos) (tDT k (sOr m n)) :=
  pw_imp (pw_or ha hb) (or_imp (fun _ _ _ q => q) fun _ _ _ q => q)
theorem dt_not (ha : PT X a (tDT k m)) : PT X (.UnaryOp .Not a pos) (tDT k (sNot m)) :=
  pt_imp (pt_not ha) fun σ H Q' q => by
    obtain ⟨al, en, mu, Q, st, q, kk⟩ := q
    exact ⟨al, en, mu, _, st, q, fun c H1 al1 mu1 e1 st1 q1 => kk (!c) H1 al1 mu1 e1 st1 q1⟩
/-- .. as values: all but the last one bools -/
def sAndV (m n : SemE) : SemE := fun en mu Q => m en mu fun b mu1 => match b with
  | .dat (.bool c) => if c = true then n en mu1 Q else Q (.dat (.bool false)) mu1
  | _ => False
def sOrV (m n : SemE) : SemE := fun en mu Q => m en mu fun b mu1 => match b with
  | .dat (.bool c) => if c = true then Q (.dat (.bool true)) mu1 else n en mu1 Q
  | _ => False
def sNotV (m : SemE) : SemE := fun en mu Q => m en mu fun b mu1 => match b with
  | .dat (.bool c) => Q (.dat (.bool (!c))) mu1
  | _ => False
theorem d_one {op} (h : PE X a (tD k ma)) : PE X (.BoolOp op [a] pos) (tD k ma) := pe_one h
theorem d_and (ha : PE X a (tD k ma)) (hb : PE X (.BoolOp .And (b :: rest) pos) (tD k mb)) : PE X (.BoolOp .And (a :: b :: rest) pos) (tD k (sAndV ma mb)) :=
  pe_imp (pe_and ha hb) fun σ H Q' q => by
    obtain ⟨al, en, mu, Q, st, q, kk⟩ := q
    refine ⟨al, en, mu, _, st, q, fun v H1 al1 b mu1 e1 st1 r1 q1 => ?_⟩
    split at q1
    · rename_i c
      refine ⟨c, r1, ?_⟩
      split
      · rename_i hc
        rw [if_pos hc] at q1
        exact ⟨al1, en, mu1, Q, st1, q1, fun v H2 al2 b mu2 e2 st2 r2 q2 => kk v H2 al2 b mu2 (e1.trans e2) st2 r2 q2⟩
      · rename_i hc
        rw [if_neg hc] at q1
        exact kk _ H1 al1 (.dat (.bool false)) mu1 e1 st1 rfl q1
    · exact q1.elim
theorem d_or (ha : PE X a (tD k ma)) (hb : PE X (.BoolOp .Or (b :: rest) pos) (tD k mb)) : PE X (.BoolOp .Or (a :: b :: rest) pos) (tD k (sOrV ma mb)) :=
  pe_imp (pe_or ha hb) fun σ H Q' q => by
    obtain ⟨al, en, mu, Q, st, q, kk⟩ := q
    refine ⟨al, en, mu, _, st, q, fun v H1 al1 b mu1 e1 st1 r1 q1 => ?_⟩
    split at q1
    · rename_i c
      refine ⟨c, r1, ?_⟩
      split
      · rename_i hc
        rw [if_pos hc] at q1
        exact kk _ H1 al1 (.dat (.bool true)) mu1 e1 st1 rfl q1
      · rename_i hc
        rw [if_neg hc] at q1
        exact ⟨al1, en, mu1, Q, st1, q1, fun v H2 al2 b mu2 e2 st2 r2 q2 => kk v H2 al2 b mu2 (e1.trans e2) st2 r2 q2⟩
    · exact q1.elim
theorem d_not (ha : PE X a (tD k ma)) : PE X (.UnaryOp .Not a pos) (tD k (sNotV ma)) :=
  pe_imp (pe_not ha) fun σ H Q' q => by
    obtain ⟨al, en, mu, Q, st, q, kk⟩ := q
    refine ⟨al, en, mu, _, st, q, fun v H1 al1 b mu1 e1 st1 r1 q1 => ?_⟩
    split at q1
    · rename_i c
      exact ⟨c, r1, kk _ H1 al1 (.dat (.bool (!c))) mu1 e1 st1 rfl q1⟩
    · exact q1.elim
def sIf (m : SemT) (ma mb : SemE) : SemE := fun en mu Q => m en mu fun c mu1 => if c = true then ma en mu1 Q else mb en mu1 Q
theorem d_if {c : Expr} (hc : PT X c (tDT k m)) (ha : PE X a (tD k ma)) (hb : PE X b (tD k mb)) : PE X (.IfExp c a b pos) (tD k (sIf m ma mb)) :=
  pe_imp (pe_ifExp hc ha hb) fun σ H Q' q => by
    obtain ⟨al, en, mu, Q, st, q, kk⟩ := q
    refine ⟨al, en, mu, _, st, q, fun c H1 al1 mu1 e1 st1 q1 => ?_⟩
    dsimp only
    split
    · rename_i hc
      rw [if_pos hc] at q1
      exact ⟨al1, en, mu1, Q, st1, q1, fun v H2 al2 b mu2 e2 st2 r2 q2 => kk v H2 al2 b mu2 (e1.trans e2) st2 r2 q2⟩
    · rename_i hc
      rw [if_neg hc] at q1
      exact ⟨al1, en, mu1, Q, st1, q1, fun v H2 al2 b mu2 e2 st2 r2 q2 => kk v H2 al2 b mu2 (e1.trans e2) st2 r2 q2⟩
/-! chains -/
theorem chain_imp {w w' : SemO2} {r r' : R2}
    (h : ∀ al H x y b c mu Q (Q' : VK), MuOk k.K k.DK al H mu → RepB k.K al H b x → RepB k.K al H c y → w b c mu Q →
    (∀ v H' al' d mu', Ext al H al' H' → MuOk k.K k.DK al' H' mu' → RepB k.K al' H' d v → Q d mu' → Q' v H') → r x y H Q')
    (h' : ∀ al H x y b c mu Q (Q' : VK), MuOk k.K k.DK al H mu → RepB k.K al H b x → RepB k.K al H c y → w' b c mu Q →
    (∀ v H' al' d mu', Ext al H al' H' → MuOk k.K k.DK al' H' mu' → RepB k.K al' H' d v → Q d mu' → Q' v H') → r' x y H Q') (σ : L2.St) (H : Hp) (Q' : VK)
    (q : tD k (sChain w w' ma mb mc) σ H Q') : tD k ma σ H fun x H1 => tD k mb σ H1 fun y H2 => r x y H2 fun z H3 => ∃ c, z = .bl c ∧
      if c = true then tD k mc σ H3 fun u H4 => r' y u H4 Q' else Q' (.bl false) H3 := by
  obtain ⟨al, en, mu, Q, st, q, kk⟩ := q
  refine ⟨al, en, mu, _, st, q, fun x H1 al1 b mu1 e1 st1 r1 q1 => ?_⟩
  refine ⟨al1, en, mu1, _, st1, q1, fun y H2 al2 c mu2 e2 st2 r2 q2 => ?_⟩
  refine h al2 H2 x y b c mu2 _ _ st2.mu (r1.ext e2) r2 q2 fun v H3 al3 d mu3 e3 m3 r3 q3 => ?_
  have st3 := st2.ext e3 m3
  split at q3
  · rename_i d
    refine ⟨d, r3, ?_⟩
    split
    · rename_i hc
      rw [if_pos hc] at q3
      refine ⟨al3, en, mu3, _, st3, q3, fun u H4 al4 f mu4 e4 st4 r4 q4 => ?_⟩
      exact h' al4 H4 y u c f mu4 Q Q' st4.mu ((r2.ext e3).ext e4) r4 q4 fun v H' al' d mu' e5 m5 r5 q5 => kk v H' al' d mu' ((((e1.trans e2).trans e3).trans e4).trans e5) (st4.ext e5 m5) r5 q5
    · rename_i hc
      rw [if_neg hc] at q3
      exact kk _ H3 al3 (.dat (.bool false)) mu3 ((e1.trans e2).trans e3) st3 rfl q3
  · exact q3.elim
theorem d_chain {op op' : CmpOp} {w w' : SemO2} {c : Expr} (ho : OpD k X (compareOp op) w) (ho' : OpD k X (compareOp op') w') (ha : PE X a (tD k ma)) (hb : PE X b (tD k mb)) (hc : PE X c (tD k mc))
    (hm : lastMarks [op, op'] [b, c] = false := by with_unfolding_all rfl) : PE X (.Compare a [op, op'] [b, c] pos) (tD k (sChain w w' ma mb mc)) := by
  obtain ⟨r, h1, h2⟩ := ho
  obtain ⟨r', h1', h2'⟩ := ho'
  exact pe_imp (pe_chain h1 h1' ha hb hc hm) (chain_imp h2 h2')
theorem d_tchain {op op' : CmpOp} {w w' : SemO2} {c : Expr} (ho : OpD k X (compareOp op) w) (ho' : OpD k X (compareOp op') w') (ha : PE X a (tD k ma)) (hb : PE X b (tD k mb)) (hc : PE X c (tD k mc))
    (hm : lastMarks [op, op'] [b, c] = false := by with_unfolding_all rfl) : PT X (.Compare a [op, op'] [b, c] pos) (tDT k (sTst (sChain w w' ma mb mc))) := by
  obtain ⟨r, h1, h2⟩ := ho
  obtain ⟨r', h1', h2'⟩ := ho'
  exact pt_imp (pt_chain h1 h1' ha hb hc hm) fun σ H Q' q => tst_imp (chain_imp h2 h2') σ H Q' q
/-! argument lists, displays -/
def sNil : SemA := fun _ mu Q => Q [] mu
def sCons (ma : SemE) (mr : SemA) : SemA := fun en mu Q => ma en mu fun b mu1 => mr en mu1 fun bs mu2 => Q (b :: bs) mu2
theorem a_nil : PA X [] (tDA k sNil) := pa_imp pa_nil fun σ H Q' q => by
  obtain ⟨al, en, mu, Q, st, q, kk⟩ := q
  exact kk [] H al [] mu Ext.refl st rfl q
theorem a_cons {e : Expr} {es : List Expr} {mr : SemA} (ha : PE X e (tD k ma)) (hr : PA X es (tDA k mr)) (hs : starEach (e :: es) X.env = (false, eval e X.env) :: starEach es X.env := by rfl) : PA X (e :: es) (tDA k (sCons ma mr)) :=
  pa_imp (pa_cons ha hr hs) fun σ H Q' q => by
    obtain ⟨al, en, mu, Q, st, q, kk⟩ := q
    refine ⟨al, en, mu, _, st, q, fun v H1 al1 b mu1 e1 st1 r1 q1 => ?_⟩
    exact ⟨al1, en, mu1, _, st1, q1, fun vs H2 al2 bs mu2 e2 st2 r2 q2 => kk (v :: vs) H2 al2 (b :: bs) mu2 (e1.trans e2) st2 ⟨v, vs, rfl, r1.ext e2, r2⟩ q2⟩
/-- the data of some names' contents; none if one of them is an own object -/
def dats : List B → Option (List D)
  | [] => some []
  | .dat d :: bs => (dats bs).map (d :: ·)
  | .ref _ :: _ => none
theorem dats_reps {al : AL} {H : Hp} : ∀ {bs : List B} {vs : List V} {ds : List D}, RepBs k.K al H bs vs → dats bs = some ds → Reps k.K al H ds vs
  | [], vs, ds, h, e => by
    cases e
    exact h
  | .dat d :: bs, vs, ds, h, e => by
    obtain ⟨x, r, h1, h2, h3⟩ := h
    unfold dats at e
    cases q : dats bs with
    | none =>
      rw [q] at e
      cases e
    | some es =>
      rw [q] at e
      cases e
      exact ⟨x, r, h1, h2, dats_reps h3 q⟩
  | .ref _ :: _, _, _, _, e => by cases e
theorem dats_length : ∀ {bs : List B} {ds : List D}, dats bs = some ds → ds.length = bs.length
  | [], ds, e => by
    cases e
    rfl
  | .dat d :: bs, ds, e => by
    unfold dats at e
    cases q : dats bs with
    | none =>
      rw [q] at e
      cases e
    | some es =>
      rw [q] at e
      cases e
      rw [List.length_cons, List.length_cons, dats_length q]
  | .ref _ :: _, _, e => by cases e
/-- a tuple, a list that nothing changes -/
def sTup (m : SemA) : SemE := fun en mu Q => m en mu fun bs mu1 => match dats bs with
  | some ds => ds.length ≤ sizeLine ∧ Q (.dat (.tuple ds)) mu1
  | none => False
def sLst (m : SemA) : SemE := fun en mu Q => m en mu fun bs mu1 => match dats bs with
  | some ds => ds.length ≤ sizeLine ∧ Q (.dat (.list ds)) mu1
  | none => False
variable {es : List Expr} {mm : SemA}
theorem d_tup {x1} (h : PA X es (tDA k mm)) : PE X (.Tuple es x1 pos) (tD k (sTup mm)) :=
  pe_imp (pe_tup h) fun σ H Q' q => by
    obtain ⟨al, en, mu, Q, st, q, kk⟩ := q
    refine ⟨al, en, mu, _, st, q, fun vs H1 al1 bs mu1 e1 st1 r1 q1 => ?_⟩
    split at q1
    · rename_i ds e
      refine ⟨by rw [r1.length, ← dats_length e]; exact q1.1, fun p hp => ?_⟩
      obtain ⟨e2, m2⟩ := st1.mu.newF (o := .tup vs) hp
      exact kk _ _ al1 (.dat (.tuple ds)) mu1 (e1.trans e2) (st1.ext e2 m2) ⟨p, vs, rfl, .inl ⟨.inl upd_same, st1.mu.free hp⟩, Reps.ext e2 _ _ (dats_reps r1 e)⟩ q1.2
    · exact q1.elim
theorem d_lst (h : PA X es (tDA k mm)) : PE X (.List es pos) (tD k (sLst mm)) :=
  pe_imp (pe_lst h) fun σ H Q' q => by
    obtain ⟨al, en, mu, Q, st, q, kk⟩ := q
    refine ⟨al, en, mu, _, st, q, fun vs H1 al1 bs mu1 e1 st1 r1 q1 => ?_⟩
    split at q1
    · rename_i ds e
      refine ⟨by rw [r1.length, ← dats_length e]; exact q1.1, fun p hp => ?_⟩
      obtain ⟨e2, m2⟩ := st1.mu.newF (o := .lst vs) hp
      exact kk _ _ al1 (.dat (.list ds)) mu1 (e1.trans e2) (st1.ext e2 m2) ⟨p, vs, rfl, .inl ⟨.inl upd_same, st1.mu.free hp⟩, Reps.ext e2 _ _ (dats_reps r1 e)⟩ q1.2
    · exact q1.elim
end
end DL

set_option Elab.async false
set_option linter.all false
set_option maxRecDepth 100000
set_option maxHeartbeats 4000000
namespace DL
open PySem L2

/-! ### fewer own objects -/
section
variable {K : PySem.W.Frag} {DK : Addr → HO → HO → Prop} {al be : AL} {H : Hp} {mu : Mu}
theorem FzL.less {a : Addr} {xs : List V} (h : FzL K (al ++ be) H a xs) : FzL K al H a xs := h.imp (fun z => ⟨z.1, fun q => z.2 (List.mem_append_left _ q)⟩) id
theorem FzT.less {a : Addr} {xs : List V} (h : FzT K (al ++ be) H a xs) : FzT K al H a xs := h.imp (fun z => ⟨z.1, fun q => z.2 (List.mem_append_left _ q)⟩) id
theorem fz_less {a : Addr} {u : HO} (h : Rd H a u ∧ some a ∉ al ++ be) : Rd H a u ∧ some a ∉ al := ⟨h.1, fun q => h.2 (List.mem_append_left _ q)⟩
mutual
theorem Rep.less : ∀ (d : D) (v : V), Rep K (al ++ be) H d v → Rep K al H d v
  | .none, _, h => h
  | .bool _, _, h => h
  | .int _, _, h => h
  | .str _, _, h => h
  | .fn _, _, h => h
  | .list ds, _, h => by
    obtain ⟨a, xs, h1, h2, h3⟩ := h
    exact ⟨a, xs, h1, h2.less, Reps.less ds xs h3⟩
  | .tuple ds, _, h => by
    obtain ⟨a, xs, h1, h2, h3⟩ := h
    exact ⟨a, xs, h1, h2.less, Reps.less ds xs h3⟩
  | .dK ds, _, h => by
    obtain ⟨a, xs, h1, h2, h3⟩ := h
    exact ⟨a, xs, h1, fz_less h2, RepK.less ds xs h3⟩
  | .dT ds, _, h => by
    obtain ⟨a, xs, h1, h2, h3⟩ := h
    exact ⟨a, xs, h1, fz_less h2, RepT.less ds xs h3⟩
  | .ins C ds, _, h => by
    obtain ⟨a, dx, xs, h1, h2, h3⟩ := h
    exact ⟨a, dx, xs, h1, fz_less h2, RepF.less ds xs h3⟩
theorem Reps.less : ∀ (ds : List D) (xs : List V), Reps K (al ++ be) H ds xs → Reps K al H ds xs
  | [], _, h => h
  | d :: ds, _, h => by
    obtain ⟨x, r, h1, h2, h3⟩ := h
    exact ⟨x, r, h1, Rep.less d x h2, Reps.less ds r h3⟩
theorem RepK.less : ∀ (ds : List (Key × D)) (xs : List (Key × V)), RepK K (al ++ be) H ds xs → RepK K al H ds xs
  | [], _, h => h
  | (_, d) :: ds, _, h => by
    obtain ⟨x, r, h1, h2, h3⟩ := h
    exact ⟨x, r, h1, Rep.less d x h2, RepK.less ds r h3⟩
theorem RepT.less : ∀ (ds : List (List Key × D)) (xs : List (List Key × V)), RepT K (al ++ be) H ds xs → RepT K al H ds xs
  | [], _, h => h
  | (_, d) :: ds, _, h => by
    obtain ⟨x, r, h1, h2, h3⟩ := h
    exact ⟨x, r, h1, Rep.less d x h2, RepT.less ds r h3⟩
theorem RepF.less : ∀ (ds : List (Str × D)) (xs : List (Str × V)), RepF K (al ++ be) H ds xs → RepF K al H ds xs
  | [], _, h => h
  | (_, d) :: ds, _, h => by
    obtain ⟨x, r, h1, h2, h3⟩ := h
    exact ⟨x, r, h1, Rep.less d x h2, RepF.less ds r h3⟩
end
theorem MuOk.less (h : MuOk K DK (al ++ be) H mu) : MuOk K DK al H (mu.take al.length) := by
  have hl := h.len
  rw [List.length_append] at hl
  have sub : ∀ (i : Nat) x, i < al.length → (al ++ be)[i]? = some x → al[i]? = some x := fun i x q e => by
    rw [List.getElem?_append_left q] at e
    exact e
  have up : ∀ (i : Nat) x, al[i]? = some x → (al ++ be)[i]? = some x := fun i x q => by
    rw [List.getElem?_append_left (List.getElem?_eq_some_iff.mp q).1]
    exact q
  refine ⟨by rw [List.length_take]; omega, fun i j a hi hj => h.nd i j a (up _ _ hi) (up _ _ hj), fun k m q => ?_, fun k j q => ?_⟩
  rotate_left
  · have hk : k < al.length := by
      have := (List.getElem?_eq_some_iff.mp q).1
      rw [List.length_take] at this
      omega
    rw [List.getElem?_take_of_lt hk] at q
    have hj : j < k := (h.ok k _ q).1
    rw [List.getElem?_take_of_lt (by omega)]
    exact h.hd k j q
  have hk : k < al.length := by
    have := (List.getElem?_eq_some_iff.mp q).1
    rw [List.length_take] at this
    omega
  rw [List.getElem?_take_of_lt hk] at q
  have z := h.ok k m q
  cases m with
  | lst ds =>
    obtain ⟨a, xs, h1, h2, h3⟩ := z
    exact ⟨a, xs, sub _ _ hk h1, h2, Reps.less _ _ h3⟩
  | dK ds =>
    obtain ⟨a, xs, h1, h2, h3⟩ := z
    exact ⟨a, xs, sub _ _ hk h1, h2, RepK.less _ _ h3⟩
  | dT ds =>
    obtain ⟨a, xs, h1, h2, h3⟩ := z
    exact ⟨a, xs, sub _ _ hk h1, h2, RepT.less _ _ h3⟩
  | deck j =>
    obtain ⟨h0, a, l, o, u, h1, h2, h3⟩ := z
    exact ⟨h0, a, l, o, u, sub _ _ hk h1, sub _ _ (by omega) h2, h3⟩
  | hid =>
    obtain ⟨a, o, h1, h2, h3⟩ := z
    exact ⟨a, o, sub _ _ hk h1, h2, h3⟩
  | tab P q2 =>
    obtain ⟨h1, ps, h2, h3, h4⟩ := z
    refine ⟨sub _ _ hk h1, ps, h2, h3, fun pos cv hc => ?_⟩
    obtain ⟨c, e1, e2, e3⟩ := h4 pos cv hc
    exact ⟨c, e1, e2, fun w => e3 (List.mem_append_left _ w)⟩
  | fact φ => exact ⟨sub _ _ hk z.1, z.2.2.2 _ _ _ z.2.1, z.2.2⟩
  | dead => exact sub _ _ hk z
/-- an own object as frozen data -/
def frz : MO → Option D
  | .lst ds => some (.list ds)
  | .dK kvs => some (.dK kvs)
  | .dT kvs => some (.dT kvs)
  | _ => none
theorem MuOk.frz {j : Nat} {a : Addr} {m : MO} {d : D} (h : MuOk K DK (al ++ be) H mu) (ha : (al ++ be)[j]? = some (some a)) (hj : al.length ≤ j) (hm : mu[j]? = some m) (hd : frz m = some d) : Rep K al H d (.ref a) := by
  have na : some a ∉ al := fun z => by
    obtain ⟨i, hi⟩ := List.mem_iff_getElem?.mp z
    have hlt := (List.getElem?_eq_some_iff.mp hi).1
    have := h.nd i j a (by rw [List.getElem?_append_left hlt]; exact hi) ha
    omega
  have z := h.ok j m hm
  cases m with
  | lst ds =>
    cases hd
    obtain ⟨b, xs, h1, h2, h3⟩ := z
    rw [ha] at h1
    cases h1
    exact ⟨a, xs, rfl, .inl ⟨.inl h2, na⟩, Reps.less _ _ h3⟩
  | dK ds =>
    cases hd
    obtain ⟨b, xs, h1, h2, h3⟩ := z
    rw [ha] at h1
    cases h1
    exact ⟨a, xs, rfl, ⟨.inl h2, na⟩, RepK.less _ _ h3⟩
  | dT ds =>
    cases hd
    obtain ⟨b, xs, h1, h2, h3⟩ := z
    rw [ha] at h1
    cases h1
    exact ⟨a, xs, rfl, ⟨.inl h2, na⟩, RepT.less _ _ h3⟩
  | deck j => cases hd
  | hid => cases hd
  | tab _ _ => cases hd
  | fact _ => cases hd
  | dead => cases hd
theorem Ext.less {al' : AL} {H' : Hp} (e : Ext al H al' H') : Ext al H al H' := ⟨⟨[], by simp, by simp⟩, e.keep⟩
end

/-! ### what a def promises, over data -/
abbrev DSp := List B → Mu → (B → Mu → Prop) → Prop
def liftSp (k : Kit) (d : DSp) : Sp := fun vs H Q _ => ∃ al bs mu R, RepBs k.K al H bs vs ∧ MuOk k.K k.DK al H mu ∧ d bs mu R ∧
  ∀ v H' al' b mu', Ext al H al' H' → MuOk k.K k.DK al' H' mu' → RepB k.K al' H' b v → R b mu' → Q v H'
/-- a def keeps its promise, where no repr is under way -/
structure FnD (k : Kit) (P : Program) (w : World) (mg : Str → Option Value) (base : Heap) (r : Nat) (f : Addr) (fd : FuncData) (ps : List Str) (d : DSp) : Prop where
  len : ∀ bs mu R, d bs mu R → bs.length = ps.length
  run : ∀ (A : Around) (outer : List Env) (s : Shared) (H : Hp) (args : Args) (us : List Value) (vs : List V) (Q : VK), Room r A → (k.gds = true → A.guards = some []) → Env0 P w k.K mg base A outer s H →
    BindsTo s fd args (ps.zip us) → Vals vs us → liftSp k d vs H Q E0 → codeAny (model P w) A (.call (.ref f) args) (CR CX0 outer P w H s Q E0) s
/-- the def st, by its name x, stands and keeps its promise -/
structure FnIn (k : Kit) (P : Program) (w : World) (mg : Str → Option Value) (base : Heap) (r : Nat) (x : Str) (st : Stmt) (ps : List Str) (d : DSp) : Prop where
  ex : ∃ f fd, Fun k.K x x st f fd ∧ mg x = some (.ref f) ∧ Binds k.K fd ps [] ∧ FnD k P w mg base r f fd ps d
theorem FnIn.mono {k : Kit} {P : Program} {w : World} {mg : Str → Option Value} {base : Heap} {r r' : Nat} {x : Str} {st : Stmt} {ps : List Str} {d : DSp} (F : FnIn k P w mg base r x st ps d) (h : r ≤ r') : FnIn k P w mg base r' x st ps d := by
  obtain ⟨f, fd, h1, h2, h3, h4⟩ := F.ex
  exact ⟨f, fd, h1, h2, h3, h4.len, fun A outer s H args us vs Q hr => h4.run A outer s H args us vs Q (hr.mono h)⟩
theorem FnIn.imp {k : Kit} {P : Program} {w : World} {mg : Str → Option Value} {base : Heap} {r : Nat} {x : Str} {st : Stmt} {ps : List Str} {d d' : DSp} (F : FnIn k P w mg base r x st ps d) (h : ∀ bs mu R, d' bs mu R → d bs mu R) : FnIn k P w mg base r x st ps d' := by
  obtain ⟨f, fd, h1, h2, h3, h4⟩ := F.ex
  refine ⟨f, fd, h1, h2, h3, fun bs mu R q => h4.len bs mu R (h _ _ _ q), fun A outer s H args us vs Q hr hg e hb hv hs => h4.run A outer s H args us vs Q hr hg e hb hv ?_⟩
  obtain ⟨al, bs, mu, R, q1, q2, q3, q4⟩ := hs
  exact ⟨al, bs, mu, R, q1, q2, h _ _ _ q3, q4⟩
/-- where a body runs -/
structure In (k : Kit) (X : Cx) (P : Program) (w : World) (mg : Str → Option Value) (base : Heap) (r : Nat) : Prop where
  hP : X.prog = P
  hw : X.w = w
  hK : X.K = k.K
  hmg : X.mg = mg
  hb : X.base = base
  room : Room r X.A
  gd : k.gds = true → X.A.guards = some []
  calm : X.calm = true
theorem liftSp_len {k : Kit} {d : DSp} {n : Nat} (h : ∀ bs mu R, d bs mu R → bs.length = n) {vs : List V} {H : Hp} {Q : VK} {E : XK} (q : liftSp k d vs H Q E) : vs.length = n := by
  obtain ⟨al, bs, mu, R, q1, _, q3, _⟩ := q
  rw [q1.length, h _ _ _ q3]

section
variable {X : Cx} {k : Kit} {P : Program} {w : World} {mg : Str → Option Value} {base : Heap} {r r' : Nat}
/-- the callee has run -/
theorem cr_end {pins : List (Addr × Obj)} {σ : L2.St} {H : Hp} {s : Shared} {Q : VK} (I : Inv X pins σ H s) {c : Code} (h : codeAny (model X.prog X.w) X.A c (CR CX0 X.stack X.prog X.w H s Q E0) s) {f : Value} {us : List Value} {kw : List (Str × Value)} (hc : c = .call f ⟨us, kw⟩) :
    wpAny (model X.prog X.w) X.A (call f us kw) (EP X pins σ Q) X.xe s := by
  subst hc
  refine wpAny_call (codeAny_mono h fun res s' hq => ?_)
  rcases res with e | fl
  · exact hq.elim
  · cases fl
    case ret u => exact I.after hq
    all_goals exact False.elim hq
def sCall (d : DSp) (m : SemA) : SemE := fun en mu Q => m en mu fun bs mu1 => d bs mu1 Q
variable {x : Str} {st : Stmt} {ps : List Str} {d : DSp} {e : Expr} {es : List Expr} {m mk : SemA} {p pos : Pos}
theorem call_imp {t : TA} {Q' : VK} {σ : L2.St} {H : Hp} (h : ∀ σ H Q, tDA k m σ H Q → t σ H Q) (q : tD k (sCall d m) σ H Q') : t σ H fun vs H1 => liftSp k d vs H1 Q' E0 := by
  obtain ⟨al, en, mu, Q, st, q, kk⟩ := q
  refine h _ _ _ ⟨al, en, mu, _, st, q, fun vs H1 al1 bs mu1 e1 st1 r1 q1 => ?_⟩
  exact ⟨al1, bs, mu1, Q, r1, st1.mu, q1, fun v H' al' b mu' e2 m2 r2 q2 => kk v H' al' b mu' (e1.trans e2) (st1.ext e2 m2) r2 q2⟩
theorem d_call (C : In k X P w mg base r) (F : FnIn k P w mg base r' x st ps d) (gl : Gl X x) (ha : PA X (e :: es) (tDA k m)) (hr : r' ≤ r := by decide) (hdb : (x == ("__debug__" : Str)) = false := by decide)
    (he : starEach (e :: es) X.env = (false, eval e X.env) :: starEach es X.env := by rfl) (hpl : (backTo pos (starEach es X.env)).any (·.1) = false := by rfl) :
    PE X (.Call (.Name x p) (e :: es) [] pos) (tD k (sCall d m)) := by
  obtain ⟨f, fd, h1, h2, h3, h4⟩ := F.ex
  obtain ⟨rfl, rfl, hK, rfl, rfl, rm, gd, _⟩ := C
  refine ⟨fun pins s σ H Q I h => wpAny_Call_Name_kw (ld_glob I gl h2 ?_ hdb)⟩
  refine PySem.W.callWith_K (h₀ := X.base) I.ok.mod.kin (by rw [hK]; exact h1.kp) ?_ he hpl
  refine thn (ha.run pos pins s σ H _ I (call_imp (fun _ _ _ z => z) h)) fun us s1 ⟨vs, H1, I1, rv, q⟩ => ⟨I1.kIn, ?_⟩
  have hl : us.length = ps.length := by rw [← rv.length]; exact liftSp_len h4.len q
  refine cr_end I1 (h4.run X.A X.stack s1 H1 ⟨us, []⟩ us vs _ (rm.mono hr) gd (by rw [← hK]; exact I1.env0) ?_ rv q) rfl
  have hb := h3 s1 us (by rw [← hK]; exact I1.kIn) (by rw [List.append_nil]; exact hl)
  rw [List.append_nil] at hb
  exact hb
theorem d_call0 (C : In k X P w mg base r) (F : FnIn k P w mg base r' x st [] d) (gl : Gl X x) (hr : r' ≤ r := by decide) (hdb : (x == ("__debug__" : Str)) = false := by decide) : PE X (.Call (.Name x p) [] [] pos) (tD k (sCall d sNil)) := by
  obtain ⟨f, fd, h1, h2, h3, h4⟩ := F.ex
  obtain ⟨rfl, rfl, hK, rfl, rfl, rm, gd, _⟩ := C
  refine ⟨fun pins s σ H Q I h => wpAny_Call_Name_kw (ld_glob I gl h2 ?_ hdb)⟩
  refine PySem.W.callWith_K0 I.kIn (by rw [hK]; exact h1.kp) ?_
  have q : liftSp k d [] H Q E0 := call_imp (t := tNil) (fun σ H Q z => by
    obtain ⟨al, en, mu, Q2, st, q, kk⟩ := z
    exact kk [] H al [] mu Ext.refl st rfl q) h
  refine cr_end I (h4.run X.A X.stack s H ⟨[], []⟩ [] [] _ (rm.mono hr) gd (by rw [← hK]; exact I.env0) ?_ .nil q) rfl
  have hb := h3 s [] (by rw [← hK]; exact I.kIn) rfl
  exact hb
/-! keywords -/
theorem k_nil : PK X [] (tDA k sNil) := ⟨fun pos pins s σ H Q I q => pk_nil.run pos pins s σ H Q I (by
  obtain ⟨al, en, mu, Q2, st, q, kk⟩ := q
  exact kk [] H al [] mu Ext.refl st rfl q)⟩
theorem k_cons {nm : Option Str} {kpos : Pos} {kws : List Keyword} {ma : SemE} (ha : PE X e (tD k ma)) (hr : PK X kws (tDA k m)) : PK X (⟨nm, e, kpos⟩ :: kws) (tDA k (sCons ma m)) :=
  ⟨fun pos pins s σ H Q I q => (pk_cons ha hr).run pos pins s σ H Q I (by
    obtain ⟨al, en, mu, Q, st, q, kk⟩ := q
    refine ⟨al, en, mu, _, st, q, fun v H1 al1 b mu1 e1 st1 r1 q1 => ?_⟩
    exact ⟨al1, en, mu1, _, st1, q1, fun vs H2 al2 bs mu2 e2 st2 r2 q2 => kk (v :: vs) H2 al2 (b :: bs) mu2 (e1.trans e2) st2 ⟨v, vs, rfl, r1.ext e2, r2⟩ q2⟩)⟩
/-- the values in the parameters' order: g tells the place of each parameter's value among the n positional ones and then the m keywords' -/
def pick {α : Type} (n m : Nat) (g : List Nat) (us ws : List α) : List α := if us.length = n ∧ ws.length = m then g.filterMap fun i => (us ++ ws)[i]? else []
def sCallK (d : DSp) (n m : Nat) (g : List Nat) (ma mk : SemA) : SemE := fun en mu Q => ma en mu fun bs mu1 => mk en mu1 fun cs mu2 => d (pick n m g bs cs) mu2 Q
theorem RepBs.app {al : AL} {H : Hp} : ∀ {bs cs : List B} {vs zs : List V}, RepBs k.K al H bs vs → RepBs k.K al H cs zs → RepBs k.K al H (bs ++ cs) (vs ++ zs)
  | [], _, _, _, h, h' => by
    have e : _ = [] := h
    rw [e]
    exact h'
  | b :: bs, _, _, _, h, h' => by
    obtain ⟨x, r, h1, h2, h3⟩ := h
    exact ⟨x, r ++ _, by rw [h1] <;> rfl, h2, RepBs.app h3 h'⟩
theorem RepBs.get {al : AL} {H : Hp} : ∀ {bs : List B} {vs : List V} (i : Nat), RepBs k.K al H bs vs → (bs[i]? = none ∧ vs[i]? = none) ∨ ∃ b v, bs[i]? = some b ∧ vs[i]? = some v ∧ RepB k.K al H b v
  | [], _, i, h => by
    have e : _ = [] := h
    rw [e]
    exact .inl ⟨rfl, rfl⟩
  | b :: bs, _, 0, h => by
    obtain ⟨x, r, h1, h2, h3⟩ := h
    rw [h1]
    exact .inr ⟨b, x, rfl, rfl, h2⟩
  | b :: bs, _, i + 1, h => by
    obtain ⟨x, r, h1, h2, h3⟩ := h
    rw [h1, List.getElem?_cons_succ, List.getElem?_cons_succ]
    exact RepBs.get i h3
theorem reps_fm {al : AL} {H : Hp} {bs : List B} {vs : List V} (h : RepBs k.K al H bs vs) : ∀ g : List Nat, RepBs k.K al H (g.filterMap fun i => bs[i]?) (g.filterMap fun i => vs[i]?)
  | [] => rfl
  | i :: g => by
    have ih := reps_fm h g
    rw [List.filterMap_cons, List.filterMap_cons]
    rcases RepBs.get i h with ⟨e1, e2⟩ | ⟨b, v, e1, e2, rr⟩
    · rw [e1, e2]
      exact ih
    · rw [e1, e2]
      exact ⟨v, _, rfl, rr, ih⟩
theorem RepBs.pick {al : AL} {H : Hp} {bs cs : List B} {vs zs : List V} {n m : Nat} {g : List Nat} (h : RepBs k.K al H bs vs) (h' : RepBs k.K al H cs zs) : RepBs k.K al H (pick n m g bs cs) (pick n m g vs zs) := by
  unfold DL.pick
  rw [h.length, h'.length]
  split
  · exact reps_fm (RepBs.app h h') g
  · rfl
theorem vals_get : ∀ {vs : List V} {us : List Value} (i : Nat), Vals vs us → (vs[i]? = none ∧ us[i]? = none) ∨ ∃ v u, vs[i]? = some v ∧ us[i]? = some u ∧ RelV v u
  | _, _, i, .nil => .inl ⟨rfl, rfl⟩
  | _, _, 0, .cons r _ => .inr ⟨_, _, rfl, rfl, r⟩
  | _, _, i + 1, .cons _ t => vals_get i t
theorem vals_fm {vs : List V} {us : List Value} (h : Vals vs us) : ∀ g : List Nat, Vals (g.filterMap fun i => vs[i]?) (g.filterMap fun i => us[i]?)
  | [] => .nil
  | i :: g => by
    have ih := vals_fm h g
    rw [List.filterMap_cons, List.filterMap_cons]
    rcases vals_get i h with ⟨e1, e2⟩ | ⟨b, v, e1, e2, rr⟩
    · rw [e1, e2]
      exact ih
    · rw [e1, e2]
      exact .cons rr ih
theorem vals_pick {vs zs : List V} {us ws : List Value} {n m : Nat} {g : List Nat} (h : Vals vs us) (h' : Vals zs ws) : Vals (pick n m g vs zs) (pick n m g us ws) := by
  unfold pick
  rw [h.length, h'.length]
  split
  · exact vals_fm (h.append h') g
  · exact .nil
/-- how keywords bind, for each function object of st -/
def KwOk (k : Kit) (x : Str) (st : Stmt) (ps ks : List Str) (n m : Nat) (g : List Nat) : Prop :=
  ∀ (f : Addr) (fd : FuncData), Fun k.K x x st f fd → ∀ (s : Shared) (us ws : List Value), us.length = n → ws.length = m → BindsTo s fd ⟨us, ks.zip ws⟩ (ps.zip (pick n m g us ws))
theorem callK_imp {n m : Nat} {g : List Nat} {ma : SemA} {t t' : TA} {Q' : VK} {σ : L2.St} {H : Hp} (h : ∀ σ H Q, tDA k ma σ H Q → t σ H Q) (h' : ∀ σ H Q, tDA k mk σ H Q → t' σ H Q) (q : tD k (sCallK d n m g ma mk) σ H Q') :
    t σ H fun vs H1 => t' σ H1 fun zs H2 => liftSp k d (pick n m g vs zs) H2 Q' E0 := by
  obtain ⟨al, en, mu, Q, st, q, kk⟩ := q
  refine h _ _ _ ⟨al, en, mu, _, st, q, fun vs H1 al1 bs mu1 e1 st1 r1 q1 => ?_⟩
  refine h' _ _ _ ⟨al1, en, mu1, _, st1, q1, fun zs H2 al2 cs mu2 e2 st2 r2 q2 => ?_⟩
  exact ⟨al2, pick n m g bs cs, mu2, Q, RepBs.pick (r1.ext e2) r2, st2.mu, q2, fun v H' al' b mu' e3 m3 r3 q3 => kk v H' al' b mu' ((e1.trans e2).trans e3) (st2.ext e3 m3) r3 q3⟩
variable {kws : List Keyword} {ks : List Str} {g : List Nat} {n j : Nat} {ma : SemA}
theorem kw_run {pins : List (Addr × Obj)} {s : Shared} {σ : L2.St} {H : Hp} {Q : VK} {us ws : List Value} {vs zs : List V} {f : Addr} {fd : FuncData} (hK : X.K = k.K) (rm : Room r' X.A) (gd : k.gds = true → X.A.guards = some []) (I : Inv X pins σ H s) (h1 : Fun k.K x x st f fd) (h4 : FnD k X.prog X.w X.mg X.base r' f fd ps d)
    (kw : KwOk k x st ps ks n j g) (hps : ps ≠ []) (rv : Vals vs us) (rz : Vals zs ws) (q : liftSp k d (pick n j g vs zs) H Q E0) : wpAny (model X.prog X.w) X.A (call (.ref f) us (ks.zip ws)) (EP X pins σ Q) X.xe s := by
  have hl := liftSp_len h4.len q
  have hn : us.length = n ∧ ws.length = j := by
    unfold pick at hl
    rw [rv.length, rz.length] at hl
    split at hl
    · assumption
    · exact absurd (List.length_eq_zero_iff.mp hl.symm) hps
  exact cr_end I (h4.run X.A X.stack s H ⟨us, ks.zip ws⟩ (pick n j g us ws) (pick n j g vs zs) Q rm gd (by rw [← hK]; exact I.env0) (kw f fd h1 s us ws hn.1 hn.2) (vals_pick rv rz) q) rfl
theorem d_callK (C : In k X P w mg base r) (F : FnIn k P w mg base r' x st ps d) (gl : Gl X x) (kw : KwOk k x st ps ks n j g) (ha : PA X (e :: es) (tDA k ma)) (hkw : PK X kws (tDA k mk)) (hps : ps ≠ [] := by exact List.cons_ne_nil _ _) (hr : r' ≤ r := by decide)
    (hall : (backToKw pos (keywordEach kws X.env)).all (·.1.isSome) = true := by rfl) (hks : (backToKw pos (keywordEach kws X.env)).filterMap (·.1) = ks := by rfl)
    (hdb : (x == ("__debug__" : Str)) = false := by decide) (he : starEach (e :: es) X.env = (false, eval e X.env) :: starEach es X.env := by rfl)
    (hpl : ((backTo pos (starEach (e :: es) X.env)).any (·.1) || (backToKw pos (keywordEach kws X.env)).any (·.1.isNone)) = false := by rfl) : PE X (.Call (.Name x p) (e :: es) kws pos) (tD k (sCallK d n j g ma mk)) := by
  obtain ⟨f, fd, h1, h2, h3, h4⟩ := F.ex
  obtain ⟨rfl, rfl, hK, rfl, rfl, rm, gd, _⟩ := C
  refine ⟨fun pins s σ H Q I h => wpAny_Call_Name_kw (ld_glob I gl h2 ?_ hdb)⟩
  have q0 := callK_imp (fun _ _ _ z => z) (fun _ _ _ z => z) h
  refine PySem.W.callWith_KW (h₀ := X.base) I.ok.mod.kin (by rw [hK]; exact h1.kp) hall (thn (ha.run pos pins s σ H _ I q0) ?_) hpl he
  rintro us s1 ⟨vs, H1, I1, rv, q1⟩
  refine thn (hkw.run pos pins s1 σ H1 _ I1 q1) ?_
  rintro ws s2 ⟨zs, H2, I2, rz, q2⟩
  refine ⟨I2.kIn, ?_⟩
  rw [hks]
  exact kw_run hK (rm.mono hr) gd I2 h1 h4 kw hps rv rz q2
theorem d_callK0 (C : In k X P w mg base r) (F : FnIn k P w mg base r' x st ps d) (gl : Gl X x) (kw : KwOk k x st ps ks n j g) (hkw : PK X kws (tDA k mk)) (hps : ps ≠ [] := by exact List.cons_ne_nil _ _) (hr : r' ≤ r := by decide)
    (hall : (backToKw pos (keywordEach kws X.env)).all (·.1.isSome) = true := by rfl) (hks : (backToKw pos (keywordEach kws X.env)).filterMap (·.1) = ks := by rfl)
    (hdb : (x == ("__debug__" : Str)) = false := by decide)
    (hpl : ((backTo pos (starEach [] X.env)).any (·.1) || (backToKw pos (keywordEach kws X.env)).any (·.1.isNone)) = false := by rfl) : PE X (.Call (.Name x p) [] kws pos) (tD k (sCallK d n j g sNil mk)) := by
  obtain ⟨f, fd, h1, h2, h3, h4⟩ := F.ex
  obtain ⟨rfl, rfl, hK, rfl, rfl, rm, gd, _⟩ := C
  refine ⟨fun pins s σ H Q I h => wpAny_Call_Name_kw (ld_glob I gl h2 ?_ hdb)⟩
  have q0 := callK_imp (t := tNil) (fun σ H Q z => by
    obtain ⟨al, en, mu, Q2, st, q, kk⟩ := z
    exact kk [] H al [] mu Ext.refl st rfl q) (fun _ _ _ z => z) h
  refine PySem.W.callWith_KW0 (h₀ := X.base) I.ok.mod.kin (by rw [hK]; exact h1.kp) hall (thn (hkw.run pos pins s σ H _ I q0) ?_) hpl
  rintro ws s2 ⟨zs, H2, I2, rz, q2⟩
  refine ⟨I2.kIn, ?_⟩
  rw [hks]
  exact kw_run (us := []) hK (rm.mono hr) gd I2 h1 h4 kw hps .nil rz q2
end
end DL

set_option Elab.async false
set_option linter.all false
set_option maxRecDepth 100000
set_option maxHeartbeats 4000000
namespace DL
open PySem L2

/-! ### targets -/
abbrev SemG := B → En → Mu → (En → Mu → Prop) → Prop
abbrev SemGs := List D → En → Mu → (En → Mu → Prop) → Prop
/-- the slots outside ix are as they were -/
def Agr (ix : List Nat) (σ σ' : L2.St) : Prop := σ'.length = σ.length ∧ ∀ j, j ∉ ix → σ'[j]? = σ[j]?
theorem Agr.refl {ix : List Nat} {σ : L2.St} : Agr ix σ σ := ⟨rfl, fun _ _ => rfl⟩
theorem Agr.trans {ix : List Nat} {σ σ1 σ2 : L2.St} (a : Agr ix σ σ1) (b : Agr ix σ1 σ2) : Agr ix σ σ2 := ⟨b.1.trans a.1, fun j h => (b.2 j h).trans (a.2 j h)⟩
theorem Agr.mono {ix jx : List Nat} {σ σ' : L2.St} (a : Agr ix σ σ') (h : ∀ j ∈ ix, j ∈ jx) : Agr jx σ σ' := ⟨a.1, fun j q => a.2 j fun z => q (h j z)⟩
theorem wipe_in {σ : L2.St} {vs : List Nat} {j : Nat} (h : j ∈ vs) (hj : j < σ.length) : (wipe σ vs)[j]? = some none := by
  have e : j < (wipe σ vs).length := by rw [wipe_length]; exact hj
  cases q : (wipe σ vs)[j] with
  | none => rw [List.getElem?_eq_getElem e, q]
  | some x =>
    have z : (wipe σ vs)[j]? = some (some x) := by rw [List.getElem?_eq_getElem e, q]
    exact absurd h (wipe_some z).2
theorem Agr.wipe {vs : List Nat} {σ σ2 : L2.St} (a : Agr vs (wipe σ vs) σ2) : L2.wipe σ2 vs = L2.wipe σ vs := by
  apply List.ext_getElem?
  intro j
  have hl : σ2.length = σ.length := by rw [a.1, wipe_length]
  by_cases h : j ∈ vs
  · by_cases hj : j < σ.length
    · rw [wipe_in h (by omega), wipe_in h hj]
    · rw [List.getElem?_eq_none (by rw [wipe_length]; omega), List.getElem?_eq_none (by rw [wipe_length]; omega)]
  · rw [wipe_out h, a.2 j h]
section
variable (k : Kit)
def tDG (ix : List Nat) (g : SemG) : TG := fun v σ H Q' => ∃ al en mu b Q, Stt k.K k.DK al σ H en mu ∧ RepB k.K al H b v ∧ g b en mu Q ∧
  ∀ al' σ' H' en' mu', Ext al H al' H' → Stt k.K k.DK al' σ' H' en' mu' → Agr ix σ σ' → Q en' mu' → Q' σ' H'
def tDGs (ix : List Nat) (g : SemGs) : TGs := fun vs σ H Q' => ∃ al en mu ds Q, Stt k.K k.DK al σ H en mu ∧ Reps k.K al H ds vs ∧ g ds en mu Q ∧
  ∀ al' σ' H' en' mu', Ext al H al' H' → Stt k.K k.DK al' σ' H' en' mu' → Agr ix σ σ' → Q en' mu' → Q' σ' H'
end
def sGN (i : Nat) : SemG := fun b en mu Q => Q (en.set i (some b)) mu
def sGT (n : Nat) (gs : SemGs) : SemG := fun b en mu Q => match b with
  | .dat (.tuple ds) => ds.length = n ∧ gs ds en mu Q
  | _ => False
def sGnil : SemGs := fun ds en mu Q => match ds with
  | [] => Q en mu
  | _ => False
def sGcons (g : SemG) (gs : SemGs) : SemGs := fun ds en mu Q => match ds with
  | d :: r => g (.dat d) en mu fun en' mu' => gs r en' mu' Q
  | [] => False
section
variable {X : Cx} {k : Kit} {ix jx : List Nat} {g : SemG} {gs : SemGs} {pos : Pos}
theorem pg_imp {e : Expr} {t t' : TG} (h : PG X e t) (i : ∀ v σ H Q, t' v σ H Q → t v σ H Q) : PG X e t' :=
  ⟨fun pins s σ H v u Q I r q => h.run pins s σ H v u Q I r (i v σ H Q q)⟩
theorem pgs_imp {e : List Expr} {t t' : TGs} (h : PGs X e t) (i : ∀ v σ H Q, t' v σ H Q → t v σ H Q) : PGs X e t' :=
  ⟨fun pins s σ H v u Q I r q => h.run pins s σ H v u Q I r (i v σ H Q q)⟩
theorem Stt.set {al : AL} {σ : L2.St} {H : Hp} {en : En} {mu : Mu} {b : B} {v : V} {i : Nat} (s : Stt k.K k.DK al σ H en mu) (r : RepB k.K al H b v) : Stt k.K k.DK al (σ.set i (some v)) H (en.set i (some b)) mu := by
  refine ⟨s.mu, by rw [List.length_set, List.length_set]; exact s.len, fun j c q => ?_⟩
  by_cases h : i = j
  · subst h
    have hl : i < en.length := by
      have := (List.getElem?_eq_some_iff.mp q).1
      rwa [List.length_set] at this
    rw [List.getElem?_set_self hl] at q
    cases q
    exact ⟨v, List.getElem?_set_self (by rw [← s.len]; exact hl), r⟩
  · rw [List.getElem?_set_ne h] at q
    obtain ⟨w, h1, h2⟩ := s.sl j c q
    exact ⟨w, by rw [List.getElem?_set_ne h]; exact h1, h2⟩
theorem g_name {i : Nat} {x : Str} (hN : X.N.Nodup) (hi : X.N[i]? = some x) (hx : Loc X.env.scope x) (hf : X.fn x = true ∨ X.env.scope.names.lookup x = some .local := by first | exact .inl rfl | exact .inr rfl | assumption) : PG X (.Name x pos) (tDG k [i] (sGN i)) :=
  pg_imp (pg_name hN hi hx hf) fun v σ H Q' q => by
    obtain ⟨al, en, mu, b, Q, st, r, q, kk⟩ := q
    exact kk al _ H _ mu Ext.refl (st.set r) ⟨List.length_set, fun j hj => List.getElem?_set_ne (fun e => hj (by simp [e]))⟩ q
theorem gs_nil : PGs X [] (tDGs k [] sGnil) := pgs_imp pgs_nil fun v σ H Q' q => by
  obtain ⟨al, en, mu, ds, Q, st, r, q, kk⟩ := q
  cases ds with
  | nil => exact ⟨r, kk al σ H en mu Ext.refl st Agr.refl q⟩
  | cons d ds => exact q.elim
theorem gs_cons {e : Expr} {es : List Expr} (h1 : PG X e (tDG k ix g)) (h2 : PGs X es (tDGs k jx gs)) (hs : (assignEach (e :: es) X.env).map (·.2) = assign e X.env :: (assignEach es X.env).map (·.2) := by rfl) : PGs X (e :: es) (tDGs k (ix ++ jx) (sGcons g gs)) :=
  pgs_imp (pgs_cons h1 h2 hs) fun v σ H Q' q => by
    obtain ⟨al, en, mu, ds, Q, st, r, q, kk⟩ := q
    cases ds with
    | nil => exact q.elim
    | cons d ds =>
      obtain ⟨x, y, h1, h2, h3⟩ := r
      refine ⟨x, y, h1, al, en, mu, .dat d, _, st, h2, q, fun al1 σ1 H1 en1 mu1 e1 st1 a1 q1 => ?_⟩
      exact ⟨al1, en1, mu1, ds, _, st1, Reps.ext e1 _ _ h3, q1, fun al2 σ2 H2 en2 mu2 e2 st2 a2 q2 => kk al2 σ2 H2 en2 mu2 (e1.trans e2) st2 ((a1.mono fun j z => List.mem_append_left _ z).trans (a2.mono fun j z => List.mem_append_right _ z)) q2⟩
theorem g_tup {es : List Expr} {kk : Nat} {n : Nat} (hc : X.calm = true) (h : PGs X es (tDGs k ix gs)) (hn : (assignEach es X.env).length = n := by rfl) (hst : (assignEach es X.env).findIdx? (·.1) = none := by rfl) (hK : X.K = k.K) : PG X (.Tuple es kk pos) (tDG k ix (sGT n gs)) :=
  pg_imp (pg_tup hc h hn hst) fun v σ H Q' q => by
    obtain ⟨al, en, mu, b, Q, st, r, q, kk⟩ := q
    cases b with
    | ref j => exact q.elim
    | dat d =>
      cases d with
      | tuple ds =>
        obtain ⟨a, xs, h1, h2, h3⟩ := r
        exact ⟨a, xs, h1, by rw [hK]; exact h2.sq, by rw [h3.length]; exact q.1, al, en, mu, ds, Q, st, h3, q.2, kk⟩
      | _ => exact q.elim
end

/-! ### statements -/
structure DEnds where
  nx : En → Mu → Prop
  rt : B → Mu → Prop
  bk : En → Mu → Prop
  ct : En → Mu → Prop
abbrev SemS := DEnds → En → Mu → Prop
structure Fits (k : Kit) (al0 : AL) (H0 : Hp) (D : DEnds) (E : Ends) : Prop where
  nx : ∀ al σ H en mu, Ext al0 H0 al H → Stt k.K k.DK al σ H en mu → D.nx en mu → E.nx σ H
  rt : ∀ al v H b mu, Ext al0 H0 al H → MuOk k.K k.DK al H mu → RepB k.K al H b v → D.rt b mu → E.rt v H
  bk : ∀ al σ H en mu, Ext al0 H0 al H → Stt k.K k.DK al σ H en mu → D.bk en mu → E.bk σ H
  ct : ∀ al σ H en mu, Ext al0 H0 al H → Stt k.K k.DK al σ H en mu → D.ct en mu → E.ct σ H
def tDS (k : Kit) (w : SemS) : TS := fun E σ H => ∃ al0 H0 al en mu D, Ext al0 H0 al H ∧ Stt k.K k.DK al σ H en mu ∧ w D en mu ∧ Fits k al0 H0 D E
section
variable {X : Cx} {k : Kit}
theorem ps_imp {e : Stmt} {t t' : TS} (h : PS X e t) (i : ∀ D σ H, t' D σ H → t D σ H) : PS X e t' :=
  ⟨fun pins s σ H D I q => h.run pins s σ H D I (i D σ H q)⟩
theorem pss_imp {e : List Stmt} {t t' : TS} (h : PSs X e t) (i : ∀ D σ H, t' D σ H → t D σ H) : PSs X e t' :=
  ⟨fun pins s σ H D I q => h.run pins s σ H D I (i D σ H q)⟩
variable {st : Stmt} {rest : List Stmt} {w w1 w2 : SemS} {e : Expr} {m : SemE} {pos : Pos}
def sSkip : SemS := fun D en mu => D.nx en mu
def sSeq (w1 w2 : SemS) : SemS := fun D en mu => w1 { D with nx := fun en mu => w2 D en mu } en mu
theorem s_nil : PSs X [] (tDS k sSkip) := pss_imp pss_nil fun E σ H q => by
  obtain ⟨al0, H0, al, en, mu, D, e0, st, q, f⟩ := q
  exact f.nx al σ H en mu e0 st q
theorem s_cons (h1 : PS X st (tDS k w1)) (h2 : PSs X rest (tDS k w2)) : PSs X (st :: rest) (tDS k (sSeq w1 w2)) := pss_imp (pss_cons h1 h2) fun E σ H q => by
  obtain ⟨al0, H0, al, en, mu, D, e0, st, q, f⟩ := q
  exact ⟨al0, H0, al, en, mu, { D with nx := fun en mu => w2 D en mu }, e0, st, q, ⟨fun al1 σ1 H1 en1 mu1 e1 st1 q1 => ⟨al0, H0, al1, en1, mu1, D, e1, st1, q1, f⟩, f.rt, f.bk, f.ct⟩⟩
theorem s_one (h1 : PS X st (tDS k w1)) : PSs X [st] (tDS k w1) := pss_one h1
def sBreak : SemS := fun D en mu => D.bk en mu
def sCont : SemS := fun D en mu => D.ct en mu
theorem s_pass : PS X (.Pass pos) (tDS k sSkip) := ps_imp ps_pass fun E σ H q => by
  obtain ⟨al0, H0, al, en, mu, D, e0, st, q, f⟩ := q
  exact f.nx al σ H en mu e0 st q
theorem s_break : PS X (.Break pos) (tDS k sBreak) := ps_imp ps_break fun E σ H q => by
  obtain ⟨al0, H0, al, en, mu, D, e0, st, q, f⟩ := q
  exact f.bk al σ H en mu e0 st q
theorem s_continue : PS X (.Continue pos) (tDS k sCont) := ps_imp ps_continue fun E σ H q => by
  obtain ⟨al0, H0, al, en, mu, D, e0, st, q, f⟩ := q
  exact f.ct al σ H en mu e0 st q
def sDrop (m : SemE) : SemS := fun D en mu => m en mu fun _ mu1 => D.nx en mu1
theorem s_expr (he : PE X e (tD k m)) (hs : swapsWith e none pos.line X.env = pure false := by rfl) : PS X (.Expr e pos) (tDS k (sDrop m)) := ps_imp (ps_expr he hs) fun E σ H q => by
  obtain ⟨al0, H0, al, en, mu, D, e0, st, q, f⟩ := q
  exact ⟨al, en, mu, _, st, q, fun v H1 al1 b mu1 e1 st1 r1 q1 => f.nx al1 σ H1 en mu1 (e0.trans e1) st1 q1⟩
def sRet (m : SemE) : SemS := fun D en mu => m en mu fun b mu1 => D.rt b mu1
theorem s_ret (he : PE X e (tD k m)) : PS X (.Return (some e) pos) (tDS k (sRet m)) := ps_imp (ps_ret he) fun E σ H q => by
  obtain ⟨al0, H0, al, en, mu, D, e0, st, q, f⟩ := q
  exact ⟨al, en, mu, _, st, q, fun v H1 al1 b mu1 e1 st1 r1 q1 => f.rt al1 v H1 b mu1 (e0.trans e1) st1.mu r1 q1⟩
def sRetN : SemS := fun D en mu => D.rt (.dat .none) mu
theorem s_retN : PS X (.Return none pos) (tDS k sRetN) := ps_imp ps_retN fun E σ H q => by
  obtain ⟨al0, H0, al, en, mu, D, e0, st, q, f⟩ := q
  exact f.rt al .non H (.dat .none) mu e0 st.mu rfl q
def sIfS (t : SemT) (w1 w2 : SemS) : SemS := fun D en mu => t en mu fun c mu1 => if c = true then w1 D en mu1 else w2 D en mu1
theorem s_if {c : Expr} {a b : List Stmt} {t : SemT} (hc : PT X c (tDT k t)) (ha : PSs X a (tDS k w1)) (hb : PSs X b (tDS k w2)) : PS X (.If c a b pos) (tDS k (sIfS t w1 w2)) := ps_imp (ps_if hc ha hb) fun E σ H q => by
  obtain ⟨al0, H0, al, en, mu, D, e0, st, q, f⟩ := q
  refine ⟨al, en, mu, _, st, q, fun c H1 al1 mu1 e1 st1 q1 => ?_⟩
  dsimp only
  split
  · rename_i hc
    rw [if_pos hc] at q1
    exact ⟨al0, H0, al1, en, mu1, D, e0.trans e1, st1, q1, f⟩
  · rename_i hc
    rw [if_neg hc] at q1
    exact ⟨al0, H0, al1, en, mu1, D, e0.trans e1, st1, q1, f⟩
def sNo : SemS := fun _ _ _ => False
theorem s_never : PS X st (tDS k sNo) := ps_imp ps_never fun E σ H q => by
  obtain ⟨al0, H0, al, en, mu, D, e0, st, q, f⟩ := q
  exact q
theorem ss_never {sts : List Stmt} : PSs X sts (tDS k sNo) := pss_imp pss_never fun E σ H q => by
  obtain ⟨al0, H0, al, en, mu, D, e0, st, q, f⟩ := q
  exact q
def sAsg (m : SemE) (g : SemG) : SemS := fun D en mu => m en mu fun b mu1 => g b en mu1 D.nx
variable {ix : List Nat} {g : SemG} {tg : Expr}
theorem asg_imp {t : TE} (h : ∀ σ H Q, tD k m σ H Q → t σ H Q) (E : Ends) (σ : L2.St) (H : Hp) (q : tDS k (sAsg m g) E σ H) : tAsg t (tDG k ix g) E σ H := by
  obtain ⟨al0, H0, al, en, mu, D, e0, st, q, f⟩ := q
  refine h _ _ _ ⟨al, en, mu, _, st, q, fun v H1 al1 b mu1 e1 st1 r1 q1 => ?_⟩
  exact ⟨al1, en, mu1, b, _, st1, r1, q1, fun al2 σ2 H2 en2 mu2 e2 st2 _ q2 => f.nx al2 σ2 H2 en2 mu2 ((e0.trans e1).trans e2) st2 q2⟩
theorem s_asg (he : PE X e (tD k m)) (hg : PG X tg (tDG k ix g)) (hs : swapsWithSole [tg] e pos.line X.env = pure false := by rfl) (hw : swappedStores [tg] e X.env = pure none := by rfl)
    (h1 : (assignEach [tg] X.env).map (·.2) = [assign tg X.env] := by rfl) : PS X (.Assign [tg] e pos) (tDS k (sAsg m g)) := ps_imp (ps_asg he hg hs hw h1) (asg_imp fun _ _ _ q => q)
theorem s_set {i : Nat} {x : Str} {pos' : Pos} (hN : X.N.Nodup) (hi : X.N[i]? = some x) (hx : Loc X.env.scope x) (he : PE X e (tD k m)) (hs : swapsWith e (some (.Name x pos')) pos.line X.env = pure false := by rfl)
    (hf : X.fn x = true ∨ X.env.scope.names.lookup x = some .local := by first | exact .inl rfl | exact .inr rfl | assumption) : PS X (.Assign [.Name x pos'] e pos) (tDS k (sAsg m (sGN i))) :=
  ps_imp (ps_set hN hi hx he hs hf) fun E σ H q => by
    obtain ⟨al0, H0, al, en, mu, D, e0, st, q, f⟩ := q
    exact ⟨al, en, mu, _, st, q, fun v H1 al1 b mu1 e1 st1 r1 q1 => f.nx al1 _ H1 _ mu1 (e0.trans e1) (st1.set r1) q1⟩
/-- a, b = x, y and a, b, c = x, y, z, plain local names -/
def sPar (i j : Nat) (m : SemA) : SemS := fun D en mu => m en mu fun bs mu1 => match bs with
  | [b, c] => D.nx ((en.set i (some b)).set j (some c)) mu1
  | _ => False
def sPar3 (i j l : Nat) (m : SemA) : SemS := fun D en mu => m en mu fun bs mu1 => match bs with
  | [b, c, d] => D.nx (((en.set i (some b)).set j (some c)).set l (some d)) mu1
  | _ => False
theorem s_par {i j : Nat} {x y : Str} {a b : Expr} {mm : SemA} {px py pt : Pos} {kt k2 pt2} (hc : X.calm = true) (hN : X.N.Nodup) (hi : X.N[i]? = some x) (hj : X.N[j]? = some y) (hij : i ≠ j)
    (hx : X.env.scope.names.lookup x = some .local) (hy : X.env.scope.names.lookup y = some .local) (ha : PA X [a, b] (tDA k mm))
    (hw : swappedStores [.Tuple [.Name x px, .Name y py] kt pt] (.Tuple [a, b] k2 pt2) X.env = pure (some [x, y]))
    (hs : swapsWithSole [.Tuple [.Name x px, .Name y py] kt pt] (.Tuple [a, b] k2 pt2) pos.line X.env = pure false := by rfl) : PS X (.Assign [.Tuple [.Name x px, .Name y py] kt pt] (.Tuple [a, b] k2 pt2) pos) (tDS k (sPar i j mm)) :=
  ps_imp (ps_par hc hN hi hj hij hx hy ha hw hs) fun E σ H q => by
    obtain ⟨al0, H0, al, en, mu, D, e0, st, q, f⟩ := q
    refine ⟨al, en, mu, _, st, q, fun vs H1 al1 bs mu1 e1 st1 r1 q1 => ?_⟩
    split at q1
    · obtain ⟨v, vs', h1, r2, h2⟩ := r1
      obtain ⟨u, us', h3, r3, h4⟩ := h2
      have e4 : us' = [] := h4
      subst e4 h3 h1
      exact ⟨v, u, rfl, f.nx al1 _ H1 _ mu1 (e0.trans e1) ((st1.set r2).set r3) q1⟩
    · exact q1.elim
theorem s_par3 {i j l : Nat} {x y z : Str} {a b c : Expr} {mm : SemA} {px py pz pt : Pos} {kt k2 pt2} (hc : X.calm = true) (hN : X.N.Nodup) (hi : X.N[i]? = some x) (hj : X.N[j]? = some y) (hl : X.N[l]? = some z) (hij : i ≠ j) (hil : i ≠ l) (hjl : j ≠ l)
    (hx : X.env.scope.names.lookup x = some .local) (hy : X.env.scope.names.lookup y = some .local) (hz : X.env.scope.names.lookup z = some .local) (ha : PA X [a, b, c] (tDA k mm))
    (hw : swappedStores [.Tuple [.Name x px, .Name y py, .Name z pz] kt pt] (.Tuple [a, b, c] k2 pt2) X.env = pure (some [x, y, z]))
    (hs : swapsWithSole [.Tuple [.Name x px, .Name y py, .Name z pz] kt pt] (.Tuple [a, b, c] k2 pt2) pos.line X.env = pure false := by rfl) :
    PS X (.Assign [.Tuple [.Name x px, .Name y py, .Name z pz] kt pt] (.Tuple [a, b, c] k2 pt2) pos) (tDS k (sPar3 i j l mm)) :=
  ps_imp (ps_par3 hc hN hi hj hl hij hil hjl hx hy hz ha hw hs) fun E σ H q => by
    obtain ⟨al0, H0, al, en, mu, D, e0, st, q, f⟩ := q
    refine ⟨al, en, mu, _, st, q, fun vs H1 al1 bs mu1 e1 st1 r1 q1 => ?_⟩
    split at q1
    · obtain ⟨v, vs', h1, r2, h2⟩ := r1
      obtain ⟨u, us', h3, r3, h4⟩ := h2
      obtain ⟨t, ts', h5, r4, h6⟩ := h4
      have e4 : ts' = [] := h6
      subst e4 h5 h3 h1
      exact ⟨v, u, t, rfl, f.nx al1 _ H1 _ mu1 (e0.trans e1) (((st1.set r2).set r3).set r4) q1⟩
    · exact q1.elim
/-! while: by so many turns -/
def whileD (t : SemT) (w : SemS) (D : DEnds) : Nat → En → Mu → Prop
  | 0, _, _ => False
  | n + 1, en, mu => t en mu fun c mu1 => if c = true then w { D with nx := whileD t w D n, ct := whileD t w D n, bk := D.nx } en mu1 else D.nx en mu1
def sWhile (t : SemT) (w : SemS) : SemS := fun D en mu => ∃ n, whileD t w D n en mu
theorem s_while {c : Expr} {body : List Stmt} {t : SemT} (hp : PassesOwn (model X.prog X.w) X.A X.env X.xe) (hc : PT X c (tDT k t)) (hb : PSs X body (tDS k w)) : PS X (.While c body [] pos) (tDS k (sWhile t w)) :=
  ps_imp (ps_while hp hc hb) fun E σ H q => by
    obtain ⟨al0, H0, al, en, mu, D, e0, st, ⟨n, q⟩, f⟩ := q
    refine ⟨fun n σ H => ∃ al en mu, Ext al0 H0 al H ∧ Stt k.K k.DK al σ H en mu ∧ whileD t w D n en mu, ⟨n, al, en, mu, e0, st, q⟩, ?_⟩
    rintro n σ H ⟨al, en, mu, e0, st, q⟩
    cases n with
    | zero => exact q.elim
    | succ n =>
      refine ⟨al, en, mu, _, st, q, fun c H1 al1 mu1 e1 st1 q1 => ?_⟩
      dsimp only
      split
      · rename_i hc
        rw [if_pos hc] at q1
        refine ⟨fun σ' H' => ∃ al en mu, Ext al0 H0 al H' ∧ Stt k.K k.DK al σ' H' en mu ∧ whileD t w D n en mu, fun σ' H' h => ⟨n, Nat.lt_succ_self n, h⟩, ?_⟩
        exact ⟨al0, H0, al1, en, mu1, _, e0.trans e1, st1, q1, ⟨fun al σ H en mu e s q => ⟨al, en, mu, e, s, q⟩, f.rt, f.nx, fun al σ H en mu e s q => ⟨al, en, mu, e, s, q⟩⟩⟩
      · rename_i hc
        rw [if_neg hc] at q1
        exact f.nx al1 σ H1 en mu1 (e0.trans e1) st1 q1
end
end DL

set_option Elab.async false
set_option linter.all false
set_option maxRecDepth 100000
set_option maxHeartbeats 4000000
namespace DL
open PySem L2

/-! ### what is walked -/
/-- J walks the data ds, while gm holds of the own objects -/
structure Wk (k : Kit) (J : It) (ds : List D) (gm : Mu → Prop) (al0 : AL) (H0 : Hp) : Prop where
  go : ∀ al H mu (i : Nat) d, Ext al0 H0 al H → MuOk k.K k.DK al H mu → gm mu → ds[i]? = some d → J.go i H ∧ ∀ v H', J.yld i H v H' → Ext al H al H' ∧ MuOk k.K k.DK al H' mu ∧ Rep k.K al H' d v
  stop : ∀ al H mu, Ext al0 H0 al H → MuOk k.K k.DK al H mu → gm mu → J.stop ds.length H
abbrev SemI := En → Mu → (List D → (Mu → Prop) → Mu → Prop) → Prop
def tDI (k : Kit) (m : SemI) : TI := fun σ H R => ∃ al en mu Q, Stt k.K k.DK al σ H en mu ∧ m en mu Q ∧
  ∀ J H' al' ds gm mu', Ext al H al' H' → Stt k.K k.DK al' σ H' en mu' → Wk k J ds gm al' H' → Q ds gm mu' → R J H'
section
variable {X : Cx} {k : Kit} {tg : Expr}
theorem pi_imp {e : Expr} {t t' : TI} (h : PI X tg e t) (i : ∀ σ H R, t' σ H R → t σ H R) : PI X tg e t' :=
  ⟨fun pins s σ H R I q => h.run pins s σ H R I (i σ H R q)⟩
/-- lists and tuples, by what comes -/
theorem iter_sq {pins : List (Addr × Obj)} {σ : L2.St} {H : Hp} {s : Shared} {R : It → Hp → Prop} {a : Addr} {E : Value → Shared → Prop} (I : Inv X pins σ H s)
    (h : (∃ xs, SqL X.K H a xs ∧ R (Itl X.K a) H) ∨ ∃ xs, SqT X.K H a xs ∧ R (Itt X.K a) H) : wpAny (model X.prog X.w) X.A (pyIter (.ref a)) (PIE X pins σ tg R) E s := by
  have fp : ∀ b ∈ [s.heap.objs.size], FpOk X pins H b := fun b hb => by
    cases List.mem_singleton.mp hb
    exact I.fpOk (Nat.le_refl _) (I.hok.fresh (Nat.le_refl _))
  have more : ∀ o, Inv X pins σ H { s with heap := s.heap.push o } := fun o => I.kept (t' := s.toks) fun b u e => Heap.get?_push_of_some _ e
  rcases h with ⟨xs, hq, q⟩ | ⟨xs, hq, q⟩
  · obtain ⟨its, _, p, _⟩ := I.list hq
    exact wpAny_pyIter_list p.isList ⟨_, [s.heap.objs.size], _, Itl X.K a, H, rfl, more _, turn_list a _, ⟨_, Heap.get?_push_size _ rfl, rfl, rfl⟩, fp, q⟩
  · obtain ⟨its, _, p, _⟩ := I.tuple hq
    exact wpAny_pyIter_tuple (show s.heap.IsTuple a its.toArray from p) ⟨_, [s.heap.objs.size], _, Itt X.K a, H, rfl, more _, turn_tuple a _, ⟨_, Heap.get?_push_size _ rfl, rfl, rfl⟩, fp, q⟩
def sIt (m : SemE) : SemI := fun en mu Q => m en mu fun b mu1 => match b with
  | .dat (.list ds) => Q ds (fun _ => True) mu1
  | .dat (.tuple ds) => Q ds (fun _ => True) mu1
  | .ref j => match mu1[j]? with
    | some (.lst ds) => Q ds (fun mu => mu[j]? = some (.lst ds)) mu1
    | _ => False
  | _ => False
theorem wk_L {al : AL} {H : Hp} {a : Addr} {xs : List V} {ds : List D} (hK : X.K = k.K) (h : FzL k.K al H a xs) (r : Reps k.K al H ds xs) : Wk k (Itl X.K a) ds (fun _ => True) al H where
  go := fun al1 H1 mu i d e m _ hd => by
    rw [hK]
    obtain ⟨v, hv, rv⟩ := Reps.get (Reps.ext e _ _ r) hd
    refine ⟨⟨xs, v, (e.fzL h).sq, hv⟩, ?_⟩
    rintro w H' ⟨rfl, q⟩
    have := q xs (e.fzL h).sq
    rw [hv] at this
    cases this
    exact ⟨Ext.refl, m, rv⟩
  stop := fun al1 H1 mu e m _ => by
    rw [hK]
    exact ⟨xs, (e.fzL h).sq, by rw [r.length]; exact Nat.le_refl _⟩
theorem wk_T {al : AL} {H : Hp} {a : Addr} {xs : List V} {ds : List D} (hK : X.K = k.K) (h : FzT k.K al H a xs) (r : Reps k.K al H ds xs) : Wk k (Itt X.K a) ds (fun _ => True) al H where
  go := fun al1 H1 mu i d e m _ hd => by
    rw [hK]
    obtain ⟨v, hv, rv⟩ := Reps.get (Reps.ext e _ _ r) hd
    refine ⟨⟨xs, v, (e.fzT h).sq, hv⟩, ?_⟩
    rintro w H' ⟨rfl, q⟩
    have := q xs (e.fzT h).sq
    rw [hv] at this
    cases this
    exact ⟨Ext.refl, m, rv⟩
  stop := fun al1 H1 mu e m _ => by
    rw [hK]
    exact ⟨xs, (e.fzT h).sq, by rw [r.length]; exact Nat.le_refl _⟩
theorem ext_at {al al' : AL} {H H' : Hp} {j : Nat} {x : Option Addr} (e : Ext al H al' H') (h : al[j]? = some x) : al'[j]? = some x := by
  obtain ⟨⟨be, rfl, _⟩, _⟩ := e
  rw [List.getElem?_append_left (List.getElem?_eq_some_iff.mp h).1]
  exact h
theorem wk_O {al : AL} {H : Hp} {a : Addr} {j : Nat} {ds : List D} (hK : X.K = k.K) (ha : al[j]? = some (some a)) : Wk k (Itl X.K a) ds (fun mu => mu[j]? = some (.lst ds)) al H where
  go := fun al1 H1 mu i d e m g hd => by
    rw [hK]
    obtain ⟨b, xs, h1, h2, h3⟩ := m.ok j _ g
    rw [ext_at e ha] at h1
    cases h1
    obtain ⟨v, hv, rv⟩ := Reps.get h3 hd
    refine ⟨⟨xs, v, SqL.of h2, hv⟩, ?_⟩
    rintro w H' ⟨rfl, q⟩
    have := q xs (SqL.of h2)
    rw [hv] at this
    cases this
    exact ⟨Ext.refl, m, rv⟩
  stop := fun al1 H1 mu e m g => by
    rw [hK]
    obtain ⟨b, xs, h1, h2, h3⟩ := m.ok j _ g
    rw [ext_at e ha] at h1
    cases h1
    exact ⟨xs, SqL.of h2, by rw [h3.length]; exact Nat.le_refl _⟩
theorem i_seq {l : Expr} {m : SemE} (hK : X.K = k.K) (hl : PE X l (tD k m)) : PI X tg l (tDI k (sIt m)) := by
  refine ⟨fun pins s σ H R I q => ?_⟩
  obtain ⟨al, en, mu, Q, st, q, kk⟩ := q
  have hr : tD k m σ H (fun x H1 => ∃ a, x = .ref a ∧ ((∃ xs, SqL X.K H1 a xs ∧ R (Itl X.K a) H1) ∨ ∃ xs, SqT X.K H1 a xs ∧ R (Itt X.K a) H1)) := by
    refine ⟨al, en, mu, _, st, q, fun v H1 al1 b mu1 e1 st1 r1 q1 => ?_⟩
    split at q1
    · obtain ⟨a, xs, h1, h2, h3⟩ := r1
      exact ⟨a, h1, .inl ⟨xs, by rw [hK]; exact h2.sq, kk _ H1 al1 _ _ mu1 e1 st1 (wk_L hK h2 h3) q1⟩⟩
    · obtain ⟨a, xs, h1, h2, h3⟩ := r1
      exact ⟨a, h1, .inr ⟨xs, by rw [hK]; exact h2.sq, kk _ H1 al1 _ _ mu1 e1 st1 (wk_T hK h2 h3) q1⟩⟩
    · rename_i j
      obtain ⟨a, h1, h2⟩ := r1
      split at q1
      · rename_i ds hds
        obtain ⟨b, xs, h4, h5, h6⟩ := st1.mu.ok j _ hds
        rw [h1] at h4
        cases h4
        exact ⟨a, h2, .inl ⟨xs, SqL.of h5, kk _ H1 al1 _ _ mu1 e1 st1 (wk_O hK h1) q1⟩⟩
      · exact q1.elim
    · exact q1.elim
  refine thn (hl.run pins s σ H _ I hr) fun v s1 ⟨x, H1, I1, r1, a, e, q1⟩ => ?_
  subst e
  cases r1
  exact iter_sq I1 q1
/-! ranges -/
def rngD (lo : Int) (n : Nat) : List D := (List.range n).map fun (i : Nat) => .int (lo + (i : Int))
theorem wk_R {al : AL} {H : Hp} {lo : Int} {n : Nat} : Wk k (Itr lo n) (rngD lo n) (fun _ => True) al H where
  go := fun al1 H1 mu i d e m _ hd => by
    unfold rngD at hd
    rw [List.getElem?_map] at hd
    cases q : (List.range n)[i]? with
    | none =>
      rw [q] at hd
      cases hd
    | some j =>
      rw [q] at hd
      cases hd
      have hi := (List.getElem?_eq_some_iff.mp q).1
      rw [List.length_range] at hi
      rw [List.getElem?_range hi] at q
      cases q
      refine ⟨hi, ?_⟩
      rintro v H' ⟨rfl, rfl⟩
      exact ⟨Ext.refl, m, rfl⟩
  stop := fun al1 H1 mu e m _ => by
    show n ≤ (rngD lo n).length
    unfold rngD
    rw [List.length_map, List.length_range]
    exact Nat.le_refl _
def sRng1 (m : SemE) : SemI := fun en mu Q => m en mu fun b mu1 => match b with
  | .dat (.int j) => (-(2 ^ 62) ≤ j ∧ j < 2 ^ 62) ∧ Q (rngD 0 j.toNat) (fun _ => True) mu1
  | _ => False
def sRng2 (m n : SemE) : SemI := fun en mu Q => m en mu fun b mu1 => n en mu1 fun c mu2 => match b, c with
  | .dat (.int i), .dat (.int j) => (-(2 ^ 62) ≤ i ∧ i < 2 ^ 62 ∧ -(2 ^ 62) ≤ j ∧ j < 2 ^ 62) ∧ Q (rngD i (j - i).toNat) (fun _ => True) mu2
  | _, _ => False
variable {mm : SemA}
theorem i_range1 {a : Expr} {m : SemE} {p pos : Pos} (hg : Gl X "range") (hm : X.mg "range" = none) (ha : PE X a (tD k m)) (hs : starEach [a] X.env = [(false, eval a X.env)] := by rfl) : PI X tg (.Call (.Name "range" p) [a] [] pos) (tDI k (sRng1 m)) :=
  pi_imp (pi_range1 hg hm (a_cons ha a_nil hs) hs) fun σ H R q => by
    obtain ⟨al, en, mu, Q, st, q, kk⟩ := q
    refine ⟨al, en, mu, (fun bs mu1 => match bs with
      | [b] => (match b with
        | .dat (.int j) => (-(2 ^ 62) ≤ j ∧ j < 2 ^ 62) ∧ Q (rngD 0 j.toNat) (fun _ => True) mu1
        | _ => False)
      | _ => False), st, q, fun vs H1 al1 bs mu1 e1 st1 r1 q1 => ?_⟩
    dsimp only at q1
    split at q1
    · split at q1
      · rename_i j
        obtain ⟨x, rr, h1, h2, h3⟩ := r1
        have h4 : x = .int j := h2
        have h5 : rr = [] := h3
        subst h4 h5
        exact ⟨j, h1, q1.1.1, q1.1.2, kk _ H1 al1 _ _ mu1 e1 st1 wk_R q1.2⟩
      · exact q1.elim
    · exact q1.elim
theorem i_range2 {a b : Expr} {m n : SemE} {p pos : Pos} (hg : Gl X "range") (hm : X.mg "range" = none) (ha : PE X a (tD k m)) (hb : PE X b (tD k n)) (hs : starEach [a, b] X.env = [(false, eval a X.env), (false, eval b X.env)] := by rfl) (hs2 : starEach [b] X.env = [(false, eval b X.env)] := by rfl) : PI X tg (.Call (.Name "range" p) [a, b] [] pos) (tDI k (sRng2 m n)) :=
  pi_imp (pi_range2 hg hm (a_cons ha (a_cons hb a_nil hs2) (by rw [hs, hs2])) hs hs2) fun σ H R q => by
    obtain ⟨al, en, mu, Q, st, q, kk⟩ := q
    refine ⟨al, en, mu, (fun bs mu1 => match bs with
      | [b, c] => (match b, c with
        | .dat (.int i), .dat (.int j) => (-(2 ^ 62) ≤ i ∧ i < 2 ^ 62 ∧ -(2 ^ 62) ≤ j ∧ j < 2 ^ 62) ∧ Q (rngD i (j - i).toNat) (fun _ => True) mu1
        | _, _ => False)
      | _ => False), st, q, fun vs H1 al1 bs mu1 e1 st1 r1 q1 => ?_⟩
    dsimp only at q1
    split at q1
    · split at q1
      · rename_i i j
        obtain ⟨x, rr, h1, h2, y, rr2, h3, h4, h5⟩ := r1
        have h6 : x = .int i := h2
        have h7 : y = .int j := h4
        have h8 : rr2 = [] := h5
        subst h6 h7 h8 h3
        exact ⟨i, j, h1, q1.1, kk _ H1 al1 _ _ mu1 e1 st1 wk_R q1.2⟩
      · exact q1.elim
    · exact q1.elim
variable {mm : SemA}
/-! zip of two lists, of two tuples -/
def zipD : List D → List D → List D
  | a :: as, b :: bs => .tuple [a, b] :: zipD as bs
  | _, _ => []
theorem zipD_get : ∀ {as bs : List D} {i : Nat} {d : D}, (zipD as bs)[i]? = some d → ∃ a b, as[i]? = some a ∧ bs[i]? = some b ∧ d = .tuple [a, b]
  | [], _, i, d, h => by
    unfold zipD at h
    cases h
  | a :: as, [], i, d, h => by
    unfold zipD at h
    cases h
  | a :: as, b :: bs, 0, d, h => by
    unfold zipD at h
    rw [List.getElem?_cons_zero] at h
    cases h
    exact ⟨a, b, rfl, rfl, rfl⟩
  | a :: as, b :: bs, i + 1, d, h => by
    unfold zipD at h
    rw [List.getElem?_cons_succ] at h
    rw [List.getElem?_cons_succ, List.getElem?_cons_succ]
    exact zipD_get h
theorem zipD_length : ∀ {as bs : List D}, (zipD as bs).length = min as.length bs.length
  | [], bs => by
    unfold zipD
    simp
  | a :: as, [] => by
    unfold zipD
    simp
  | a :: as, b :: bs => by
    unfold zipD
    rw [List.length_cons, List.length_cons, List.length_cons, zipD_length]
    omega
def sZip (mm : SemA) : SemI := fun en mu Q => mm en mu fun bs mu1 => match bs with
  | [.dat (.list ds), .dat (.list es)] => Q (zipD ds es) (fun _ => True) mu1
  | [.dat (.tuple ds), .dat (.tuple es)] => Q (zipD ds es) (fun _ => True) mu1
  | _ => False
theorem pair_new {al : AL} {H : Hp} {mu : Mu} {p : Addr} {x y : V} {a b : D} (m : MuOk k.K k.DK al H mu) (n : H p = none) (ra : Rep k.K al H a x) (rb : Rep k.K al H b y) :
    Ext al H al (upd H p (.tup [x, y])) ∧ MuOk k.K k.DK al (upd H p (.tup [x, y])) mu ∧ Rep k.K al (upd H p (.tup [x, y])) (.tuple [a, b]) (.ref p) := by
  obtain ⟨e, m'⟩ := m.newF (o := .tup [x, y]) n
  exact ⟨e, m', p, [x, y], rfl, .inl ⟨.inl upd_same, m.free n⟩, x, [y], rfl, Rep.ext e _ _ ra, y, [], rfl, Rep.ext e _ _ rb, rfl⟩
theorem wk_ZL {al : AL} {H : Hp} {a b : Addr} {xs ys : List V} {ds es : List D} (hK : X.K = k.K) (h : FzL k.K al H a xs) (h' : FzL k.K al H b ys) (r : Reps k.K al H ds xs) (r' : Reps k.K al H es ys) : Wk k (Itz X.K a b) (zipD ds es) (fun _ => True) al H where
  go := fun al1 H1 mu i d e m _ hd => by
    rw [hK]
    obtain ⟨u, v, hu, hv, rfl⟩ := zipD_get hd
    obtain ⟨x, hx, rx⟩ := Reps.get (Reps.ext e _ _ r) hu
    obtain ⟨y, hy, ry⟩ := Reps.get (Reps.ext e _ _ r') hv
    refine ⟨⟨xs, ys, x, y, (e.fzL h).sq, (e.fzL h').sq, hx, hy⟩, ?_⟩
    rintro w H' ⟨T, x', y', rfl, hT, rfl, f1, f2⟩
    have e1 := f1 xs (e.fzL h).sq
    have e2 := f2 ys (e.fzL h').sq
    rw [hx] at e1
    rw [hy] at e2
    cases e1
    cases e2
    exact pair_new m hT rx ry
  stop := fun al1 H1 mu e m _ => by
    rw [hK]
    refine ⟨xs, ys, (e.fzL h).sq, (e.fzL h').sq, ?_⟩
    rw [zipD_length, r.length, r'.length]
    omega
theorem wk_ZT {al : AL} {H : Hp} {a b : Addr} {xs ys : List V} {ds es : List D} (hK : X.K = k.K) (h : FzT k.K al H a xs) (h' : FzT k.K al H b ys) (r : Reps k.K al H ds xs) (r' : Reps k.K al H es ys) : Wk k (RZ.ItzT X.K a b) (zipD ds es) (fun _ => True) al H where
  go := fun al1 H1 mu i d e m _ hd => by
    rw [hK]
    obtain ⟨u, v, hu, hv, rfl⟩ := zipD_get hd
    obtain ⟨x, hx, rx⟩ := Reps.get (Reps.ext e _ _ r) hu
    obtain ⟨y, hy, ry⟩ := Reps.get (Reps.ext e _ _ r') hv
    refine ⟨⟨xs, ys, x, y, (e.fzT h).sq, (e.fzT h').sq, hx, hy⟩, ?_⟩
    rintro w H' ⟨T, x', y', rfl, hT, rfl, f1, f2⟩
    have e1 := f1 xs (e.fzT h).sq
    have e2 := f2 ys (e.fzT h').sq
    rw [hx] at e1
    rw [hy] at e2
    cases e1
    cases e2
    exact pair_new m hT rx ry
  stop := fun al1 H1 mu e m _ => by
    rw [hK]
    refine ⟨xs, ys, (e.fzT h).sq, (e.fzT h').sq, ?_⟩
    rw [zipD_length, r.length, r'.length]
    omega
theorem i_zip {e e2 : Expr} {p pos tpos : Pos} {elts : List Expr} {kk : Nat} (hK : X.K = k.K) (hg : Gl X "zip") (hm : X.mg "zip" = none) (ha : PA X [e, e2] (tDA k mm))
    (hs : starEach [e, e2] X.env = (false, eval e X.env) :: starEach [e2] X.env := by rfl) (hpl : (backTo pos (starEach [e2] X.env)).any (·.1) = false := by rfl) :
    PI X (.Tuple elts kk tpos) (.Call (.Name "zip" p) [e, e2] [] pos) (tDI k (sZip mm)) :=
  pi_imp (RZ.pi_zipA hg hm ha hs hpl) fun σ H R q => by
    obtain ⟨al, en, mu, Q, st, q, kk⟩ := q
    refine ⟨al, en, mu, _, st, q, fun vs H1 al1 bs mu1 e1 st1 r1 q1 => ?_⟩
    split at q1
    · obtain ⟨x, rr, h1, ⟨a, xs, g1, g2, g3⟩, y, rr2, h3, ⟨b, ys, g4, g5, g6⟩, h5⟩ := r1
      have h8 : rr2 = [] := h5
      subst h8 h3 g1 g4
      exact ⟨a, b, xs, ys, h1, .inl ⟨by rw [hK]; exact g2.sq, by rw [hK]; exact g5.sq, kk _ H1 al1 _ _ mu1 e1 st1 (wk_ZL hK g2 g5 g3 g6) q1⟩⟩
    · obtain ⟨x, rr, h1, ⟨a, xs, g1, g2, g3⟩, y, rr2, h3, ⟨b, ys, g4, g5, g6⟩, h5⟩ := r1
      have h8 : rr2 = [] := h5
      subst h8 h3 g1 g4
      exact ⟨a, b, xs, ys, h1, .inr ⟨by rw [hK]; exact g2.sq, by rw [hK]; exact g5.sq, kk _ H1 al1 _ _ mu1 e1 st1 (wk_ZT hK g2 g5 g3 g6) q1⟩⟩
    · exact q1.elim

/-! ### for -/
def loopD (g : SemG) (w : SemS) (D0 : DEnds) (gm : Mu → Prop) : List D → En → Mu → Prop
  | [], en, mu => gm mu ∧ D0.nx en mu
  | d :: ds, en, mu => gm mu ∧ g (.dat d) en mu fun en' mu' => w { D0 with nx := loopD g w D0 gm ds, ct := loopD g w D0 gm ds, bk := D0.nx } en' mu'
def sFor (m : SemI) (g : SemG) (w : SemS) : SemS := fun D en mu => m en mu fun ds gm mu1 => loopD g w D gm ds en mu1
theorem s_for {iter : Expr} {body : List Stmt} {m : SemI} {g : SemG} {w : SemS} {ix : List Nat} {pos : Pos} (hp : PassesOwn (model X.prog X.w) X.A X.env X.xe) (hc : X.calm = true) (hi : PI X tg iter (tDI k m)) (hg : PG X tg (tDG k ix g)) (hb : PSs X body (tDS k w))
    (hs : ∀ x, foldedSetIterable iter X.env x = pure x := by intro _; rfl) : PS X (.For tg iter body [] pos) (tDS k (sFor m g w)) :=
  ps_imp (ps_for hp hc hi hg hb hs) fun E σ H q => by
    obtain ⟨al0, H0, al, en, mu, D, e0, st, q, f⟩ := q
    refine ⟨al, en, mu, _, st, q, fun J H1 al1 ds gm mu1 e1 st1 wk q1 => ?_⟩
    have e01 := e0.trans e1
    refine ⟨fun i n σ' H' => i ≤ ds.length ∧ n = ds.length - i ∧ ∃ al en mu, Ext al1 H1 al H' ∧ Stt k.K k.DK al σ' H' en mu ∧ loopD g w D gm (ds.drop i) en mu, ⟨ds.length, Nat.zero_le _, rfl, al1, en, mu1, Ext.refl, st1, q1⟩, ?_⟩
    rintro i n σ' H' ⟨hi, hn, al2, en2, mu2, e2, st2, q2⟩
    by_cases hlt : i < ds.length
    · have hd : ds[i]? = some ds[i] := List.getElem?_eq_getElem hlt
      rw [List.drop_eq_getElem_cons hlt] at q2
      obtain ⟨g1, q2⟩ := q2
      obtain ⟨go, yld⟩ := wk.go al2 H' mu2 i ds[i] e2 st2.mu g1 hd
      refine .inr ⟨go, fun σ' H' => ∃ al en mu, Ext al1 H1 al H' ∧ Stt k.K k.DK al σ' H' en mu ∧ loopD g w D gm (ds.drop (i + 1)) en mu, ?_, ?_⟩
      · rintro σ3 H3 ⟨al3, en3, mu3, e3, st3, q3⟩
        exact ⟨ds.length - (i + 1), by omega, hlt, rfl, al3, en3, mu3, e3, st3, q3⟩
      · intro x H3 y
        obtain ⟨e3, m3, r3⟩ := yld x H3 y
        refine ⟨al2, en2, mu2, .dat ds[i], _, st2.ext e3 m3, r3, q2, fun al4 σ4 H4 en4 mu4 e4 st4 _ q4 => ?_⟩
        have e14 := (e2.trans e3).trans e4
        exact ⟨al1, H1, al4, en4, mu4, _, e14, st4, q4, ⟨fun al σ H en mu e s q => ⟨al, en, mu, e, s, q⟩, fun al v H b mu e m r q => f.rt al v H b mu (e01.trans e) m r q,
          fun al σ H en mu e s q => f.nx al σ H en mu (e01.trans e) s q, fun al σ H en mu e s q => ⟨al, en, mu, e, s, q⟩⟩⟩
    · have e : i = ds.length := by omega
      subst e
      rw [List.drop_length] at q2
      exact .inl ⟨wk.stop al2 H' mu2 e2 st2.mu q2.1, f.nx al2 σ' H' en2 mu2 (e01.trans e2) st2 q2.2⟩

/-! ### comprehensions -/
theorem In.blk {P : Program} {w : World} {mg : Str → Option Value} {base : Heap} {r : Nat} (C : In k X P w mg base r) (s : Shared) (H : Hp) (sc : Scope) (env : Env) (fp : List Addr) : In k (X.blk s H sc env fp) P w mg base r :=
  ⟨C.hP, C.hw, C.hK, C.hmg, C.hb, C.room, C.gd, C.calm⟩
def sYes : SemT := fun _ mu Q => Q true mu
theorem ts_nil : PTs X [] (tDT k sYes) := ⟨fun pins s σ H Q I q => pts_nil.run pins s σ H Q I (by
  obtain ⟨al, en, mu, Q, st, q, kk⟩ := q
  exact kk true H al mu Ext.refl st q)⟩
theorem ts_one {c : Expr} {t : SemT} (h : PT X c (tDT k t)) : PTs X [c] (tDT k t) := pts_one h
def compD (g : SemG) (t : SemT) (m : SemE) (en : En) (gm : Mu → Prop) (Q : B → Mu → Prop) : List D → List D → Mu → Prop
  | [], acc, mu => gm (mu ++ [.lst acc]) ∧ Q (.ref mu.length) (mu ++ [.lst acc])
  | d :: ds, acc, mu => gm (mu ++ [.lst acc]) ∧ g (.dat d) en (mu ++ [.lst acc]) fun en2 mu2 => t en2 mu2 fun c mu3 =>
    if c = true then m en2 mu3 fun b mu4 => match b with
      | .dat y => mu4[mu.length]? = some (.lst acc) ∧ acc.length < sizeLine ∧ compD g t m en gm Q ds (acc ++ [y]) (mu4.take mu.length)
      | _ => False
    else mu3[mu.length]? = some (.lst acc) ∧ compD g t m en gm Q ds acc (mu3.take mu.length)
def wipeE (en : En) : List Nat → En
  | [] => en
  | i :: is => (wipeE en is).set i none
def sComp (i : SemI) (g : SemG) (t : SemT) (m : SemE) (vs : List Nat) : SemE := fun en mu Q => i en mu fun ds gm mu1 => compD g t m (wipeE en vs) gm Q ds [] mu1
theorem Stt.wipe1 {al : AL} {σ : L2.St} {H : Hp} {en : En} {mu : Mu} (i : Nat) (s : Stt k.K k.DK al σ H en mu) : Stt k.K k.DK al (σ.set i none) H (en.set i none) mu := by
  refine ⟨s.mu, by rw [List.length_set, List.length_set]; exact s.len, fun j c q => ?_⟩
  by_cases h : i = j
  · subst h
    by_cases hl : i < en.length
    · rw [List.getElem?_set_self hl] at q
      cases q
    · rw [List.getElem?_eq_none (by rw [List.length_set]; omega)] at q
      cases q
  · rw [List.getElem?_set_ne h] at q
    obtain ⟨w, h1, h2⟩ := s.sl j c q
    exact ⟨w, by rw [List.getElem?_set_ne h]; exact h1, h2⟩
theorem Stt.wipes {al : AL} {σ : L2.St} {H : Hp} {en : En} {mu : Mu} (s : Stt k.K k.DK al σ H en mu) : ∀ vs : List Nat, Stt k.K k.DK al (wipe σ vs) H (wipeE en vs) mu
  | [] => s
  | i :: is => (Stt.wipes s is).wipe1 i
/-- an own list is changed -/
theorem MuOk.setL {K : PySem.W.Frag} {DK : Addr → HO → HO → Prop} {al : AL} {H : Hp} {mu : Mu} {j : Nat} {a : Addr} {xs : List V} {ds es : List D} (m : MuOk K DK al H mu) (ha : al[j]? = some (some a)) (hm : mu[j]? = some (.lst ds)) (r : Reps K al H es xs) :
    Ext al H al (upd H a (.lst xs)) ∧ MuOk K DK al (upd H a (.lst xs)) (mu.set j (.lst es)) := by
  have mem := List.mem_of_getElem? ha
  have e : Ext al H al (upd H a (.lst xs)) := ⟨⟨[], by simp, by simp⟩, fun b o q n _ => by rw [upd_ne (fun z => n (by rw [z]; exact mem))]; exact q⟩
  have hj : j < mu.length := (List.getElem?_eq_some_iff.mp hm).1
  have hdk : ∀ i l, i ≠ j → (mu.set j (.lst es))[i]? = some (.deck l) → l ≠ j ∧ mu[l]? = some .hid := fun i l hi q => by
    rw [List.getElem?_set_ne (Ne.symm hi)] at q
    have z := m.hd i l q
    refine ⟨fun w => ?_, z⟩
    rw [w, hm] at z
    cases z
  refine ⟨e, ⟨by rw [List.length_set]; exact m.len, m.nd, fun i x q => ?_, fun i l q => ?_⟩⟩
  rotate_left
  · by_cases h : i = j
    · subst h
      rw [List.getElem?_set_self hj] at q
      cases q
    · obtain ⟨h1, h2⟩ := hdk i l h q
      rw [List.getElem?_set_ne (Ne.symm h1)]
      exact h2
  by_cases h : j = i
  · subst h
    rw [List.getElem?_set_self hj] at q
    cases q
    exact ⟨a, xs, ha, upd_same, Reps.ext e _ _ r⟩
  · rw [List.getElem?_set_ne h] at q
    have z := m.ok i x q
    have ne : ∀ b, al[i]? = some (some b) → b ≠ a := fun b hb w => h (m.nd j i a ha (by rw [← w]; exact hb))
    cases x with
    | lst fs =>
      obtain ⟨b, ys, h1, h2, h3⟩ := z
      exact ⟨b, ys, h1, by rw [upd_ne (ne b h1)]; exact h2, Reps.ext e _ _ h3⟩
    | dK fs =>
      obtain ⟨b, ys, h1, h2, h3⟩ := z
      exact ⟨b, ys, h1, by rw [upd_ne (ne b h1)]; exact h2, RepK.ext e _ _ h3⟩
    | dT fs =>
      obtain ⟨b, ys, h1, h2, h3⟩ := z
      exact ⟨b, ys, h1, by rw [upd_ne (ne b h1)]; exact h2, RepT.ext e _ _ h3⟩
    | deck l =>
      obtain ⟨h0, b, c, o, u, h1, h2, h3, h4, h5⟩ := z
      have hc : c ≠ a := fun w => by
        have el : j = l := m.nd j l a ha (by rw [← w]; exact h2)
        subst el
        have z := m.hd i j q
        rw [hm] at z
        cases z
      exact ⟨h0, b, c, o, u, h1, h2, by rw [upd_ne (ne b h1)]; exact h3, by rw [upd_ne hc]; exact h4, h5⟩
    | hid =>
      obtain ⟨b, o, h1, h2, h3⟩ := z
      exact ⟨b, o, h1, by rw [upd_ne (ne b h1)]; exact h2, h3⟩
    | tab P q2 =>
      obtain ⟨h1, ps, h2, h3, h4⟩ := z
      refine ⟨h1, ps, by rw [upd_ne (ne P h1)]; exact h2, h3, fun pos cv hc => ?_⟩
      obtain ⟨c, e1, e2, e3⟩ := h4 pos cv hc
      exact ⟨c, e1, by rw [upd_ne (fun w => e3 (by rw [w]; exact mem))]; exact e2, e3⟩
    | fact φ => exact ⟨z.1, z.2.2.1 _ _ _ _ e z.2.1, z.2.2⟩
    | dead => exact z
theorem take_set {α : Type} {l : List α} {n : Nat} {x y : α} (h : l[n]? = some x) : (l.take (n + 1)).set n y = l.take n ++ [y] := by
  have hn := (List.getElem?_eq_some_iff.mp h).1
  rw [List.take_add_one, h]
  have e : n = (l.take n).length := by rw [List.length_take]; omega
  show (l.take n ++ [x]).set n y = _
  rw [List.set_append_right _ _ (by omega)]
  have : n - (l.take n).length = 0 := by omega
  rw [this]
  rfl
/-- what an expression has just made, frozen -/
def sFrz (m : SemE) : SemE := fun en mu Q => m en mu fun b mu1 => match b with
  | .dat d => Q (.dat d) mu1
  | .ref j => mu.length ≤ j ∧ ∃ o d, mu1[j]? = some o ∧ frz o = some d ∧ Q (.dat d) (mu1.take mu.length)
theorem frz_imp {m : SemE} : ∀ σ H Q', tD k (sFrz m) σ H Q' → tD k m σ H Q' := fun σ H Q' q => by
  obtain ⟨al, en, mu, Q, st, q, kk⟩ := q
  refine ⟨al, en, mu, _, st, q, fun v H1 al1 b mu1 e1 st1 r1 q1 => ?_⟩
  cases b with
  | dat d => exact kk v H1 al1 (.dat d) mu1 e1 st1 r1 q1
  | ref j =>
    obtain ⟨hj, o, d, ho, hd, q1⟩ := q1
    obtain ⟨a, h1, rfl⟩ := r1
    obtain ⟨be, rfl, hb⟩ := id e1.pre
    have ml := st1.mu.less
    have hl := st.mu.len
    rw [hl] at ml
    refine kk _ H1 al (.dat d) _ e1.less ⟨ml, st1.len, fun i b hi => ?_⟩ (st1.mu.frz h1 (by omega) ho hd) q1
    obtain ⟨v, g1, g2⟩ := st.sl i b hi
    exact ⟨v, g1, g2.ext e1.less⟩
theorem d_frz {e : Expr} {m : SemE} (h : PE X e (tD k m)) : PE X e (tD k (sFrz m)) := pe_imp h frz_imp
theorem comp_imp {i : SemI} {g : SemG} {t : SemT} {m : SemE} {vs : List Nat} : ∀ σ H Q', tD k (sComp i g t m vs) σ H Q' → tLc (tDI k i) (tDG k vs g) (tDT k t) (tD k m) vs σ H Q' := fun σ H Q' q => by
    obtain ⟨al, en, mu, Q, st, q, kk⟩ := q
    refine ⟨al, en, mu, _, st, q, fun J H1 al1 ds gm mu1 e1 st1 wk q1 => fun Dd hD => ?_⟩
    have nD := st1.mu.free hD
    have hal : al1.length = mu1.length := st1.mu.len
    have m0 := (st1.mu.newO (xs := []) (ds := []) hD rfl).2
    have x0 := (st1.mu.newF (o := .lst []) hD).1
    refine ⟨fun i n H' => i ≤ ds.length ∧ n = ds.length - i ∧ ∃ mu' acc, Ext al1 H1 al1 H' ∧ MuOk k.K k.DK (al1 ++ [some Dd]) H' (mu' ++ [.lst acc]) ∧ compD g t m (wipeE en vs) gm Q (ds.drop i) acc mu', ⟨ds.length, Nat.zero_le _, rfl, mu1, [], x0, m0, q1⟩, ?_⟩
    rintro i n H' ⟨hi, hn, mu', acc, e2, m2, q2⟩
    have hl : mu'.length = al1.length := by
      have := m2.len
      rw [List.length_append, List.length_append] at this
      simp only [List.length_cons, List.length_nil] at this
      omega
    have m2l : MuOk k.K k.DK al1 H' mu' := by
      have := m2.less
      rw [List.take_left' hl] at this
      exact this
    have e2x : Ext al1 H1 (al1 ++ [some Dd]) H' := ⟨⟨[some Dd], rfl, fun a z => by
      have e : a = Dd := by simpa using z
      subst e
      exact ⟨nD, nt_of hD⟩⟩, e2.keep⟩
    have atD : (al1 ++ [some Dd])[al1.length]? = some (some Dd) := by simp
    have last : (mu' ++ [MO.lst acc])[al1.length]? = some (.lst acc) := by rw [← hl]; simp
    by_cases hlt : i < ds.length
    · have hd : ds[i]? = some ds[i] := List.getElem?_eq_getElem hlt
      rw [List.drop_eq_getElem_cons hlt] at q2
      obtain ⟨g1, q2⟩ := q2
      obtain ⟨go, yld⟩ := wk.go _ H' _ i ds[i] e2x m2 g1 hd
      refine .inr ⟨go, fun H' => ∃ mu' acc, Ext al1 H1 al1 H' ∧ MuOk k.K k.DK (al1 ++ [some Dd]) H' (mu' ++ [.lst acc]) ∧ compD g t m (wipeE en vs) gm Q (ds.drop (i + 1)) acc mu', ?_, ?_⟩
      · rintro H3 ⟨mu3, acc3, e3, m3, q3⟩
        exact ⟨ds.length - (i + 1), by omega, hlt, rfl, mu3, acc3, e3, m3, q3⟩
      · intro x H3 y
        obtain ⟨e3, m3, r3⟩ := yld x H3 y
        have st3 : Stt k.K k.DK (al1 ++ [some Dd]) (wipe σ vs) H3 (wipeE en vs) (mu' ++ [.lst acc]) := (st1.ext (e2x.trans e3) m3).wipes vs
        refine ⟨_, _, _, .dat ds[i], _, st3, r3, q2, fun al4 σ4 H4 en4 mu4 e4 st4 agr q4 => ⟨agr.wipe, ?_⟩⟩
        refine ⟨al4, en4, mu4, _, st4, q4, fun c H5 al5 mu5 e5 st5 q5 => ?_⟩
        -- what holds at the end of a turn
        have fin : ∀ al6 H6 mu6, Ext al4 H4 al6 H6 → MuOk k.K k.DK al6 H6 mu6 → mu6[mu'.length]? = some (.lst acc) → ∃ xs, H6 Dd = some (.lst xs) ∧ Reps k.K al6 H6 acc xs ∧ Ext al1 H1 al1 H6 ∧ MuOk k.K k.DK (al1 ++ [some Dd]) H6 (mu6.take mu'.length ++ [.lst acc]) ∧
            ∀ d v, Rep k.K al6 H6 d v → Ext al1 H1 al1 (upd H6 Dd (.lst (xs ++ [v]))) ∧ MuOk k.K k.DK (al1 ++ [some Dd]) (upd H6 Dd (.lst (xs ++ [v]))) (mu6.take mu'.length ++ [.lst (acc ++ [d])]) := by
          intro al6 H6 mu6 e6 m6 hm
          have ex := (e3.trans e4).trans e6
          obtain ⟨be, rfl, _⟩ := ex.pre
          have at6 := ext_at ex atD
          obtain ⟨a, xs, g1, g2, g3⟩ := m6.ok _ _ hm
          rw [hl, at6] at g1
          cases g1
          have m6l := m6.less
          rw [List.length_append, List.length_singleton] at m6l
          have e1n : al1.length + 1 = mu'.length + 1 := by omega
          rw [e1n] at m6l
          have m6l2 := m6l
          rw [List.take_add_one, hm] at m6l2
          have ex1 : Ext al1 H1 al1 H6 := (e2x.trans ex).less
          refine ⟨xs, g2, g3, ex1, m6l2, fun d v rv => ?_⟩
          have hm2 : (mu6.take (mu'.length + 1))[mu'.length]? = some (.lst acc) := by rw [List.getElem?_take_of_lt (Nat.lt_succ_self _)]; exact hm
          have g4 : Reps k.K (al1 ++ [some Dd]) H6 (acc ++ [d]) (xs ++ [v]) := Reps.app (Reps.less _ _ g3) (Reps.one (Rep.less _ _ rv))
          obtain ⟨ez, mz⟩ := m6l.setL (by rw [hl]; exact atD) hm2 g4
          rw [take_set hm] at mz
          refine ⟨⟨⟨[], by simp, by simp⟩, fun b o q n w => ?_⟩, mz⟩
          rw [upd_ne (ne_of_none q hD)]
          exact ex1.keep b o q n w
        dsimp only
        split
        · rename_i hc
          rw [if_pos hc] at q5
          refine ⟨al5, en4, mu5, _, st5, q5, fun v H6 al6 b mu6 e6 st6 r6 q6 => ?_⟩
          cases b with
          | ref j => exact q6.elim
          | dat d =>
            obtain ⟨h1, h2, h3⟩ := q6
            obtain ⟨xs, f1, f2, _, _, f3⟩ := fin al6 H6 mu6 (e5.trans e6) st6.mu h1
            obtain ⟨f4, f5⟩ := f3 d v r6
            exact ⟨xs, f1, by rw [f2.length]; exact h2, _, _, f4, f5, h3⟩
        · rename_i hc
          rw [if_neg hc] at q5
          obtain ⟨xs, f1, f2, f3, f4, _⟩ := fin al5 H5 mu5 e5 st5.mu q5.1
          exact ⟨_, _, f3, f4, q5.2⟩
    · have e : i = ds.length := by omega
      subst e
      rw [List.drop_length] at q2
      obtain ⟨g1, q2⟩ := q2
      obtain ⟨a, xs, h1, h2, h3⟩ := m2.ok _ _ last
      rw [atD] at h1
      cases h1
      exact .inl ⟨wk.stop _ H' _ e2x m2 g1, kk _ H' (al1 ++ [some Dd]) (.ref mu'.length) (mu' ++ [.lst acc]) (e1.trans e2x) (st1.ext e2x m2) ⟨Dd, by rw [hl]; exact atD, rfl⟩ q2⟩
theorem d_comp {elt iter : Expr} {ifs : List Expr} {scope : Scope} {own : List (Str × Nat)} {pos : Pos} {i : SemI} {g : SemG} {t : SemT} {m : SemE} (hc : X.calm = true) (hN : X.N.Nodup) (hi : PI X tg iter (tDI k i)) (ok : BlkOk X.N X.env.scope scope own)
    (hg : ∀ (s : Shared) (H : Hp) (C : Addr) (cl : List (Str × Addr)) (fp : List Addr), PG (X.blk s H scope (compEnvC scope cl C X.env) fp) tg (tDG k (own.map (·.2)) g))
    (ht : ∀ (s : Shared) (H : Hp) (C : Addr) (cl : List (Str × Addr)) (fp : List Addr), PTs (X.blk s H scope (compEnvC scope cl C X.env) fp) ifs (tDT k t))
    (he : ∀ (s : Shared) (H : Hp) (C : Addr) (cl : List (Str × Addr)) (fp : List Addr), PE (X.blk s H scope (compEnvC scope cl C X.env) fp) elt (tD k m)) (hs : ∀ x, foldedSetIterable iter X.env x = pure x := by intro _; rfl) :
    PE X (.ListComp elt [⟨tg, iter, ifs, 0⟩] scope pos) (tD k (sComp i g t m (own.map (·.2)))) :=
  pe_imp (pe_lc hc hN hi ok hg ht he hs) comp_imp
theorem s_setLc {n : Nat} {y : Str} {py spos : Pos} {elt iter : Expr} {ifs : List Expr} {scope : Scope} {own : List (Str × Nat)} {pos : Pos} {i : SemI} {g : SemG} {t : SemT} {m : SemE}  (hc : X.calm = true) (hN : X.N.Nodup) (hy : X.N[n]? = some y) (hyl : X.env.scope.names.lookup y = some .local) (hsw : swapsWith (.ListComp elt [⟨tg, iter, ifs, 0⟩] scope pos) (some (.Name y py)) spos.line X.env = pure true) (hi : PI X tg iter (tDI k i)) (ok : BlkOk X.N X.env.scope scope own)
    (hg : ∀ (s : Shared) (H : Hp) (C : Addr) (cl : List (Str × Addr)) (fp : List Addr), PG (X.blk s H scope (compEnvC scope cl C X.env) fp) tg (tDG k (own.map (·.2)) g))
    (ht : ∀ (s : Shared) (H : Hp) (C : Addr) (cl : List (Str × Addr)) (fp : List Addr), PTs (X.blk s H scope (compEnvC scope cl C X.env) fp) ifs (tDT k t))
    (he : ∀ (s : Shared) (H : Hp) (C : Addr) (cl : List (Str × Addr)) (fp : List Addr), PE (X.blk s H scope (compEnvC scope cl C X.env) fp) elt (tD k m)) (hs : ∀ x, foldedSetIterable iter X.env x = pure x := by intro _; rfl) :
    PS X (.Assign [.Name y py] (.ListComp elt [⟨tg, iter, ifs, 0⟩] scope pos) spos) (tDS k (sAsg (sComp i g t m (own.map (·.2))) (sGN n))) :=
  ps_imp (ps_setLc hc hN hy hyl hsw hi ok hg ht he hs) fun E σ H q => by
    obtain ⟨al0, H0, al, en, mu, D, e0, st, q, f⟩ := q
    exact comp_imp σ H _ ⟨al, en, mu, _, st, q, fun v H1 al1 b mu1 e1 st1 r1 q1 => f.nx al1 _ H1 _ mu1 (e0.trans e1) (st1.set r1) q1⟩
theorem s_setLcF {n : Nat} {y : Str} {py spos : Pos} {elt iter : Expr} {ifs : List Expr} {scope : Scope} {own : List (Str × Nat)} {pos : Pos} {i : SemI} {g : SemG} {t : SemT} {m : SemE}  (hc : X.calm = true) (hN : X.N.Nodup) (hy : X.N[n]? = some y) (hyl : X.env.scope.names.lookup y = some .local) (hsw : swapsWith (.ListComp elt [⟨tg, iter, ifs, 0⟩] scope pos) (some (.Name y py)) spos.line X.env = pure true) (hi : PI X tg iter (tDI k i)) (ok : BlkOk X.N X.env.scope scope own)
    (hg : ∀ (s : Shared) (H : Hp) (C : Addr) (cl : List (Str × Addr)) (fp : List Addr), PG (X.blk s H scope (compEnvC scope cl C X.env) fp) tg (tDG k (own.map (·.2)) g))
    (ht : ∀ (s : Shared) (H : Hp) (C : Addr) (cl : List (Str × Addr)) (fp : List Addr), PTs (X.blk s H scope (compEnvC scope cl C X.env) fp) ifs (tDT k t))
    (he : ∀ (s : Shared) (H : Hp) (C : Addr) (cl : List (Str × Addr)) (fp : List Addr), PE (X.blk s H scope (compEnvC scope cl C X.env) fp) elt (tD k m)) (hs : ∀ x, foldedSetIterable iter X.env x = pure x := by intro _; rfl) :
    PS X (.Assign [.Name y py] (.ListComp elt [⟨tg, iter, ifs, 0⟩] scope pos) spos) (tDS k (sAsg (sFrz (sComp i g t m (own.map (·.2)))) (sGN n))) :=
  ps_imp (ps_setLc hc hN hy hyl hsw hi ok hg ht he hs) fun E σ H q => by
    obtain ⟨al0, H0, al, en, mu, D, e0, st, q, f⟩ := q
    exact comp_imp σ H _ (frz_imp σ H _ ⟨al, en, mu, _, st, q, fun v H1 al1 b mu1 e1 st1 r1 q1 => f.nx al1 _ H1 _ mu1 (e0.trans e1) (st1.set r1) q1⟩)
end
end DL

set_option Elab.async false
set_option linter.all false
set_option maxRecDepth 100000
set_option maxHeartbeats 4000000
namespace DL
open PySem L2

/-! ### a def's body keeps its promise -/
/-- what is handed back: own objects made within are dropped -/
def retK (n : Nat) (R : B → Mu → Prop) : B → Mu → Prop := fun b mu => match b with
  | .dat d => R (.dat d) (mu.take n)
  | .ref j => (j < n ∧ R (.ref j) (mu.take n)) ∨ (n ≤ j ∧ ∃ m d, mu[j]? = some m ∧ frz m = some d ∧ R (.dat d) (mu.take n))
def fnEnds (n : Nat) (R : B → Mu → Prop) : DEnds := ⟨fun _ mu => R (.dat .none) (mu.take n), retK n R, fun _ _ => False, fun _ _ => False⟩
def startE (N : Nat) (bs : List B) : En := bs.map some ++ List.replicate (N - bs.length) none
theorem startE_eq (N : Nat) (bs : List B) : startE N bs = bs.map some ++ List.replicate (N - bs.length) none := rfl
abbrev bodyCx (k : Kit) (P : Program) (w : World) (mg : Str → Option Value) (base : Heap) (N : List Str) (x : Str) (st : Stmt) (f : Addr) (cdv : Value) (A : Around) (outer : List Env) (s : Shared) (H : Hp) (E : XK) : Cx :=
  (cxOf CX0 P w k.K mg base N x (defScope st) f cdv A outer s H E).nox
section
variable {k : Kit} {P : Program} {w : World} {mg : Str → Option Value} {base : Heap} {r : Nat} {x : Str} {st : Stmt} {f : Addr} {fd : FuncData} {N ps : List Str} {d : DSp} {ws : SemS}
theorem start_get {al : AL} {H : Hp} : ∀ {bs : List B} {vs : List V} {n : Nat} {i : Nat} {b : B}, RepBs k.K al H bs vs → (bs.map some ++ List.replicate n (none : Option B))[i]? = some (some b) → ∃ v, (vs.map some ++ List.replicate n (none : Option V))[i]? = some (some v) ∧ RepB k.K al H b v
  | [], vs, n, i, b, h, e => by
    rw [List.map_nil, List.nil_append] at e
    have := List.mem_of_getElem? e
    have z := (List.mem_replicate.mp this).2
    cases z
  | c :: bs, vs, n, 0, b, h, e => by
    obtain ⟨y, rr, h1, h2, h3⟩ := h
    rw [List.map_cons, List.cons_append, List.getElem?_cons_zero] at e
    cases e
    exact ⟨y, by rw [h1] <;> rfl, h2⟩
  | c :: bs, vs, n, i + 1, b, h, e => by
    obtain ⟨y, rr, h1, h2, h3⟩ := h
    rw [List.map_cons, List.cons_append, List.getElem?_cons_succ] at e
    obtain ⟨v, g1, g2⟩ := start_get h3 e
    exact ⟨v, by rw [h1, List.map_cons, List.cons_append, List.getElem?_cons_succ]; exact g1, g2⟩
theorem fits_end {al : AL} {H : Hp} {mu : Mu} {R : B → Mu → Prop} {Q : VK} (m : MuOk k.K k.DK al H mu)
    (kk : ∀ v H' al' b mu', Ext al H al' H' → MuOk k.K k.DK al' H' mu' → RepB k.K al' H' b v → R b mu' → Q v H') : Fits k al H (fnEnds mu.length R) { nx := fun _ H' => Q .non H', rt := Q } := by
  have key : ∀ al' v H' b mu', Ext al H al' H' → MuOk k.K k.DK al' H' mu' → RepB k.K al' H' b v → retK mu.length R b mu' → Q v H' := fun al' v H' b mu' e m' rb q => by
    obtain ⟨be, rfl, hb⟩ := id e.pre
    have ml := m'.less
    rw [m.len] at ml
    cases b with
    | dat d => exact kk v H' al (.dat d) _ e.less ml (Rep.less d v rb) q
    | ref j =>
      obtain ⟨a, h1, h2⟩ := rb
      rcases q with q | ⟨q1, mm, d, q2, q3, q4⟩
      · refine kk v H' al (.ref j) _ e.less ml ⟨a, ?_, h2⟩ q.2
        rw [List.getElem?_append_left (by rw [m.len]; exact q.1)] at h1
        exact h1
      · rw [h2]
        exact kk _ H' al (.dat d) _ e.less ml (m'.frz h1 (by rw [m.len]; exact q1) q2 q3) q4
  exact ⟨fun al' σ H' en mu' e s q => key al' .non H' (.dat .none) mu' e s.mu rfl q, key, fun _ _ _ _ _ _ _ q => q.elim, fun _ _ _ _ _ _ _ q => q.elim⟩
theorem fnD_raw (F : Fun k.K x x st f fd) (S : FnScope N ps (defScope st)) (len : ∀ bs mu R, d bs mu R → bs.length = ps.length)
    (hbody : ∀ (cdv : Value) (A : Around) (outer : List Env) (s : Shared) (H : Hp) (E : XK) (vs : List V) (Q : VK), In k (bodyCx k P w mg base N x st f cdv A outer s H E) P w mg base r → liftSp k d vs H Q E0 →
      ∃ t, PSs (bodyCx k P w mg base N x st f cdv A outer s H E) (defBody st) t ∧ t { nx := fun _ H' => Q .non H', rt := Q } (L2.start N vs) H) : FnD k P w mg base (r + 1) f fd ps d := by
  obtain ⟨oc, od, kV, doc, pm, an, cdv, ct, osl, rfl, lk, hcd⟩ := F.ex
  refine ⟨len, fun A outer s H args us vs Q hr hg e0 hb rv q => ?_⟩
  have KX : k.K.In s.heap := e0.mod.kin.keeps fun b o e => (e0.bs b o e).1
  have lim : s.heap.NoLimit := e0.mod.nolimit.keeps fun b o e => (e0.bs b o e).1
  have hl : vs.length = ps.length := liftSp_len len q
  have kinds : ∀ y ∈ ps.zip us, (defScope st).names.lookup y.1 = some .local ∨ ((defScope st).names.lookup y.1 = some .cell ∧ ((cellsFrom (s.heap.objs.size + 1) (defScope st).names []).lookup y.1).isSome = true) := by
    rintro ⟨n, v⟩ hy
    cases S.par n (List.of_mem_zip hy).1 with
    | inl z => exact .inl z
    | inr z => exact .inr ⟨z, PySem.W.cellsFrom_some _ _ _ (.inl z)⟩
  apply codeAny_call_function hr.depth (KX _ _ lk) rfl S.co S.gen rfl (PySem.W.codeRec_of KX hcd) (hb _ _ _ _ ?_)
  apply wpAny_newFunctionEnv_cells S.kind kinds
  intro env he s1 inc
  subst he
  refine ⟨lim.keeps inc.toInCall.keep, codeAny_func ?_⟩
  obtain ⟨t, hX, hq⟩ := hbody cdv A outer s H E0 vs Q ⟨rfl, rfl, rfl, rfl, rfl, hr.deeper _, hg, rfl⟩ q
  have I : Inv (bodyCx k P w mg base N x st f cdv A outer s H E0) [] (L2.start N vs) H s1 := (inv_start (CX := CX0) (E := E0) S hr.hd e0 hl rv inc).wish _
  refine wpAny_mono (hX.run [] s1 (L2.start N vs) H _ I hq) (fun fl s' hs => ?_) fun e s' hs => hs.elim
  cases fl
  case ret u =>
    obtain ⟨v, σ', H', J, r1, q1⟩ := hs
    exact ⟨v, H', J.os, J.bare, J.base, J.hok, r1, q1⟩
  case next =>
    obtain ⟨σ', H', J, q1⟩ := hs
    exact ⟨.non, H', J.os, J.bare, J.base, J.hok, rfl, q1⟩
  case brk => exact hs.elim fun _ h => h.elim fun _ h => h.2.elim
  case cont => exact hs.elim fun _ h => h.elim fun _ h => h.2.elim
theorem start_st {al : AL} {H : Hp} {bs : List B} {vs : List V} {mu : Mu} (rb : RepBs k.K al H bs vs) (mo : MuOk k.K k.DK al H mu) : Stt k.K k.DK al (L2.start N vs) H (startE N.length bs) mu := by
  refine ⟨mo, ?_, fun i b e => ?_⟩
  · unfold L2.start startE
    rw [List.length_append, List.length_append, List.length_map, List.length_map, List.length_replicate, List.length_replicate, rb.length]
  · unfold startE at e
    unfold L2.start
    rw [rb.length]
    exact start_get rb e
theorem fnD_of (F : Fun k.K x x st f fd) (S : FnScope N ps (defScope st)) (len : ∀ bs mu R, d bs mu R → bs.length = ps.length)
    (hbody : ∀ (cdv : Value) (A : Around) (outer : List Env) (s : Shared) (H : Hp) (E : XK), In k (bodyCx k P w mg base N x st f cdv A outer s H E) P w mg base r → PSs (bodyCx k P w mg base N x st f cdv A outer s H E) (defBody st) (tDS k ws))
    (hw : ∀ bs mu R, d bs mu R → ws (fnEnds mu.length R) (startE N.length bs) mu) : FnD k P w mg base (r + 1) f fd ps d :=
  fnD_raw F S len fun cdv A outer s H E vs Q C q => by
    obtain ⟨al, bs, mu, R, rb, mo, hd, kk⟩ := q
    exact ⟨_, hbody cdv A outer s H E C, ⟨al, H, al, _, mu, _, Ext.refl, start_st rb mo, hw bs mu R hd, fits_end mo kk⟩⟩
/-- .. by its name -/
structure Fn0 (k : Kit) (mg : Str → Option Value) (x : Str) (st : Stmt) (ps : List Str) : Prop where
  ex : ∃ f fd, Fun k.K x x st f fd ∧ mg x = some (.ref f) ∧ Binds k.K fd ps []
theorem fnIn_of (F : Fn0 k mg x st ps) (S : FnScope N ps (defScope st)) (len : ∀ bs mu R, d bs mu R → bs.length = ps.length)
    (h : ∃ ws : SemS, (∀ (f : Addr) (cdv : Value) (A : Around) (outer : List Env) (s : Shared) (H : Hp) (E : XK), In k (bodyCx k P w mg base N x st f cdv A outer s H E) P w mg base r → PSs (bodyCx k P w mg base N x st f cdv A outer s H E) (defBody st) (tDS k ws)) ∧
      ∀ bs mu R, d bs mu R → ws (fnEnds mu.length R) (startE N.length bs) mu) : FnIn k P w mg base (r + 1) x st ps d := by
  obtain ⟨f, fd, h1, h2, h3⟩ := F.ex
  obtain ⟨ws, hb, hw⟩ := h
  exact ⟨f, fd, h1, h2, h3, fnD_of h1 S len (fun cdv A outer s H E C => hb f cdv A outer s H E C) hw⟩
end
end DL

set_option Elab.async false
set_option linter.all false
set_option maxRecDepth 100000
set_option maxHeartbeats 4000000
namespace DL
open PySem L2

/-! ### operators -/
def wI (g : Int → Int → Int) : SemO2 := fun b c mu Q => match b, c with
  | .dat (.int i), .dat (.int j) => Q (.dat (.int (g i j))) mu
  | _, _ => False
def wIC (C : Int → Int → Prop) (g : Int → Int → Int) : SemO2 := fun b c mu Q => match b, c with
  | .dat (.int i), .dat (.int j) => C i j ∧ Q (.dat (.int (g i j))) mu
  | _, _ => False
def wIB (p : Int → Int → Bool) : SemO2 := fun b c mu Q => match b, c with
  | .dat (.int i), .dat (.int j) => Q (.dat (.bool (p i j))) mu
  | _, _ => False
def CDivA (_ j : Int) : Prop := j ≠ 0 ∧ j.natAbs.log2 < 9000
section
variable {X : Cx} {k : Kit}
theorem o_I {f : Value → Value → Sem Value} {g : Int → Int → Int} (h : OpR X f (rI0 fun i j => .int (g i j))) : OpD k X f (wI g) := by
  refine ⟨_, h, fun al H x y b c mu Q Q' m rb rc q kk => ?_⟩
  unfold wI at q
  split at q
  · exact ⟨_, _, rb, rc, kk _ H al (.dat (.int _)) mu Ext.refl m rfl q⟩
  · exact q.elim
theorem o_IC {f : Value → Value → Sem Value} {C : Int → Int → Prop} {g : Int → Int → Int} (h : OpR X f (rI C fun i j => .int (g i j))) : OpD k X f (wIC C g) := by
  refine ⟨_, h, fun al H x y b c mu Q Q' m rb rc q kk => ?_⟩
  unfold wIC at q
  split at q
  · exact ⟨_, _, rb, rc, q.1, kk _ H al (.dat (.int _)) mu Ext.refl m rfl q.2⟩
  · exact q.elim
theorem o_IB {f : Value → Value → Sem Value} {p : Int → Int → Bool} (h : OpR X f (rI0 fun i j => .bl (p i j))) : OpD k X f (wIB p) := by
  refine ⟨_, h, fun al H x y b c mu Q Q' m rb rc q kk => ?_⟩
  unfold wIB at q
  split at q
  · exact ⟨_, _, rb, rc, kk _ H al (.dat (.bool _)) mu Ext.refl m rfl q⟩
  · exact q.elim
abbrev wAdd : SemO2 := wI fun i j => i + j
abbrev wSub : SemO2 := wI fun i j => i - j
abbrev wMul : SemO2 := wIC IntMulOk fun i j => i * j
abbrev wDiv : SemO2 := wIC CDivA fun i j => i.fdiv j
abbrev wMod : SemO2 := wIC (fun _ j => j ≠ 0) fun i j => i.fmod j
abbrev wPow : SemO2 := wIC CPow fun i j => i ^ j.toNat
abbrev wLt : SemO2 := wIB fun i j => decide (i < j)
abbrev wLe : SemO2 := wIB fun i j => decide (i ≤ j)
abbrev wGt : SemO2 := wIB fun i j => decide (j < i)
abbrev wGe : SemO2 := wIB fun i j => decide (j ≤ i)
theorem o_add : OpD k X (binaryOp .Add) wAdd := o_I op_add
theorem o_sub : OpD k X (binaryOp .Sub) wSub := o_I op_sub
theorem o_mul : OpD k X (binaryOp .Mult) wMul := o_IC (opI fun _ _ _ _ _ _ _ hc q => PyProof.Rows.mul_int q hc)
theorem o_div : OpD k X (binaryOp .FloorDiv) wDiv := o_IC (opI fun _ _ _ _ _ _ _ hc q => PyProof.Rows.floordiv_int hc.1 q (.inl (PyProof.noPylong_of_log2 hc.2)))
theorem o_mod : OpD k X (binaryOp .Mod) wMod := o_IC op_modN
theorem o_pow : OpD k X (binaryOp .Pow) wPow := o_IC op_pow
theorem o_lt : OpD k X (compareOp .Lt) wLt := o_IB op_lt
theorem o_le : OpD k X (compareOp .LtE) wLe := o_IB op_le
theorem o_gt : OpD k X (compareOp .Gt) wGt := o_IB op_gt
theorem o_ge : OpD k X (compareOp .GtE) wGe := o_IB op_ge
/-! == of data -/
mutual
/-- none, bools, ints, texts, lists, tuples -/
def flat : D → Bool
  | .none | .bool _ | .int _ | .str _ => true
  | .list ds | .tuple ds => flats ds
  | .dK _ | .dT _ | .ins _ _ | .fn _ => false
def flats : List D → Bool
  | [] => true
  | d :: ds => flat d && flats ds
end
def keyP : Key → PyData
  | .inl i => .int i
  | .inr x => .str x
mutual
/-- as the library's data -/
def py : D → PyData
  | .none => .none
  | .bool b => .bool b
  | .int i => .int i
  | .str x => .str x
  | .list ds => .list (pys ds)
  | .tuple ds => .tuple (pys ds)
  | .dK kvs => .dict (pyK kvs)
  | .dT kvs => .dict (pyT kvs)
  | .ins _ _ | .fn _ => .none
def pys : List D → List PyData
  | [] => []
  | d :: ds => py d :: pys ds
def pyK : List (Key × D) → List (PyData × PyData)
  | [] => []
  | (q, d) :: ds => (keyP q, py d) :: pyK ds
def pyT : List (List Key × D) → List (PyData × PyData)
  | [] => []
  | (q, d) :: ds => (.tuple (q.map keyP), py d) :: pyT ds
end
mutual
theorem Rep.dp {K : PySem.W.Frag} {al : AL} {H : Hp} : ∀ (d : D) (v : V), flat d = true → Rep K al H d v → Dp K H v (py d)
  | .none, _, _, h => by
    cases (show _ = V.non from h)
    exact .non
  | .bool b, _, _, h => by
    cases (show _ = V.bl b from h)
    exact .bl b
  | .int i, _, _, h => by
    cases (show _ = V.int i from h)
    exact .int i
  | .str x, _, _, h => by
    cases (show _ = V.str x from h)
    exact .str x
  | .list ds, _, f, h => by
    obtain ⟨a, xs, h1, h2, h3⟩ := h
    subst h1
    exact .lst h2.sq (Reps.dp ds xs f h3)
  | .tuple ds, _, f, h => by
    obtain ⟨a, xs, h1, h2, h3⟩ := h
    subst h1
    exact .tup h2.sq (Reps.dp ds xs f h3)
  | .dK _, _, f, _ => by cases f
  | .dT _, _, f, _ => by cases f
  | .ins _ _, _, f, _ => by cases f
  | .fn _, _, f, _ => by cases f
theorem Reps.dp {K : PySem.W.Frag} {al : AL} {H : Hp} : ∀ (ds : List D) (xs : List V), flats ds = true → Reps K al H ds xs → DpAll K H xs (pys ds)
  | [], _, _, h => by
    cases (show _ = [] from h)
    exact .nil
  | d :: ds, _, f, h => by
    obtain ⟨x, r, h1, h2, h3⟩ := h
    subst h1
    have f' : (flat d && flats ds) = true := f
    rw [Bool.and_eq_true] at f'
    exact .cons (Rep.dp d x f'.1 h2) (Reps.dp ds r f'.2 h3)
end
/-- data that can be compared -/
def Shp (d : D) : Prop := flat d = true ∧ SeqAt.shaped (py d) = true
def eqv (d e : D) : Bool := PyData.eqv (py d) (py e)
def wEq : SemO2 := fun b c mu Q => match b, c with
  | .dat d, .dat e => Shp d ∧ Shp e ∧ Q (.dat (.bool (eqv d e))) mu
  | _, _ => False
def wNe : SemO2 := fun b c mu Q => match b, c with
  | .dat d, .dat e => Shp d ∧ Shp e ∧ Q (.dat (.bool (!eqv d e))) mu
  | _, _ => False
variable {P : Program} {w : World} {mg : Str → Option Value} {base : Heap} {r : Nat}
theorem o_eq (C : In k X P w mg base r) : OpD k X (compareOp .Eq) wEq := by
  refine ⟨_, op_eqD C.room.units, fun al H x y b c mu Q Q' m rb rc q kk => ?_⟩
  unfold wEq at q
  split at q
  · rename_i d e
    rw [C.hK]
    exact ⟨py d, py e, Rep.dp d x q.1.1 rb, Rep.dp e y q.2.1.1 rc, q.1.2, q.2.1.2, kk _ H al (.dat (.bool _)) mu Ext.refl m rfl q.2.2⟩
  · exact q.elim
theorem o_ne (C : In k X P w mg base r) : OpD k X (compareOp .NotEq) wNe := by
  refine ⟨_, op_neD C.room.units, fun al H x y b c mu Q Q' m rb rc q kk => ?_⟩
  unfold wNe at q
  split at q
  · rename_i d e
    rw [C.hK]
    exact ⟨py d, py e, Rep.dp d x q.1.1 rb, Rep.dp e y q.2.1.1 rc, q.1.2, q.2.1.2, kk _ H al (.dat (.bool _)) mu Ext.refl m rfl q.2.2⟩
  · exact q.elim
/-! is -/
def isNon : D → Bool
  | .none => true
  | _ => false
def wIsB : SemO2 := fun b c mu Q => match b, c with
  | .dat (.bool i), .dat (.bool j) => Q (.dat (.bool (decide (i = j)))) mu
  | _, _ => False
def wIsN : SemO2 := fun b c mu Q => match b, c with
  | .dat d, .dat .none => Q (.dat (.bool (isNon d))) mu
  | _, _ => False
def wNotN : SemO2 := fun b c mu Q => match b, c with
  | .dat d, .dat .none => Q (.dat (.bool (!isNon d))) mu
  | _, _ => False
theorem o_isB : OpD k X (compareOp .Is) wIsB := by
  refine ⟨_, op_isBl, fun al H x y b c mu Q Q' m rb rc q kk => ?_⟩
  unfold wIsB at q
  split at q
  · exact ⟨_, _, rb, rc, kk _ H al (.dat (.bool _)) mu Ext.refl m rfl q⟩
  · exact q.elim
theorem isNon_iff {K : PySem.W.Frag} {al : AL} {H : Hp} {d : D} {v : V} (h : Rep K al H d v) : decide (v = V.non) = isNon d := by
  cases d with
  | none =>
    have e : v = .non := h
    rw [e]
    rfl
  | bool b =>
    have e : v = .bl b := h
    rw [e]
    rfl
  | int b =>
    have e : v = .int b := h
    rw [e]
    rfl
  | str b =>
    have e : v = .str b := h
    rw [e]
    rfl
  | list ds =>
    obtain ⟨a, xs, h1, _⟩ := h
    rw [h1]
    rfl
  | tuple ds =>
    obtain ⟨a, xs, h1, _⟩ := h
    rw [h1]
    rfl
  | dK ds =>
    obtain ⟨a, xs, h1, _⟩ := h
    rw [h1]
    rfl
  | dT ds =>
    obtain ⟨a, xs, h1, _⟩ := h
    rw [h1]
    rfl
  | ins C ds =>
    obtain ⟨a, dx, xs, h1, _⟩ := h
    rw [h1]
    rfl
  | fn f =>
    have e : v = .ref f := h
    rw [e]
    rfl
theorem o_isN : OpD k X (compareOp .Is) wIsN := by
  refine ⟨_, op_isN, fun al H x y b c mu Q Q' m rb rc q kk => ?_⟩
  unfold wIsN at q
  split at q
  · exact ⟨rc, kk _ H al (.dat (.bool _)) mu Ext.refl m (show V.bl _ = V.bl _ by rw [isNon_iff rb]) q⟩
  · exact q.elim
theorem o_notN : OpD k X (compareOp .IsNot) wNotN := by
  refine ⟨_, op_notN, fun al H x y b c mu Q Q' m rb rc q kk => ?_⟩
  unfold wNotN at q
  split at q
  · exact ⟨rc, kk _ H al (.dat (.bool _)) mu Ext.refl m (show V.bl _ = V.bl _ by rw [isNon_iff rb]) q⟩
  · exact q.elim
/-! one operand -/
def sNeg (m : SemE) : SemE := fun en mu Q => m en mu fun b mu1 => match b with
  | .dat (.int i) => Q (.dat (.int (-i))) mu1
  | _ => False
theorem d_neg {a : Expr} {m : SemE} {pos : Pos} (ha : PE X a (tD k m)) : PE X (.UnaryOp .USub a pos) (tD k (sNeg m)) :=
  pe_imp (pe_un un_neg ha) fun σ H Q' q => by
    obtain ⟨al, en, mu, Q, st, q, kk⟩ := q
    refine ⟨al, en, mu, _, st, q, fun v H1 al1 b mu1 e1 st1 r1 q1 => ?_⟩
    split at q1
    · rename_i i
      exact ⟨i, r1, kk _ H1 al1 (.dat (.int (-i))) mu1 e1 st1 rfl q1⟩
    · exact q1.elim
/-! subscripts -/
def wIx : SemO2 := fun b c mu Q => match b, c with
  | .dat (.tuple ds), .dat (.int i) => match atI ds i with
    | some d => Q (.dat d) mu
    | none => False
  | .dat (.list ds), .dat (.int i) => match atI ds i with
    | some d => Q (.dat d) mu
    | none => False
  | .ref j, .dat (.int i) => match mu[j]? with
    | some (.lst ds) => match atI ds i with
      | some d => Q (.dat d) mu
      | none => False
    | _ => False
  | _, _ => False
theorem atI_reps {K : PySem.W.Frag} {al : AL} {H : Hp} {ds : List D} {xs : List V} {i : Int} {d : D} (r : Reps K al H ds xs) (h : atI ds i = some d) : ∃ v, atI xs i = some v ∧ Rep K al H d v := by
  unfold atI at h ⊢
  rw [r.length]
  cases e : ixN ds.length i with
  | none =>
    rw [e] at h
    cases h
  | some j =>
    rw [e] at h
    exact Reps.get r h
theorem d_ix {a b : Expr} {ma mb : SemE} {pos : Pos} (hK : X.K = k.K) (ha : PE X a (tD k ma)) (hb : PE X b (tD k mb)) (hs : PlainIx b) : PE X (.Subscript a b pos) (tD k (sOp2 wIx ma mb)) :=
  pe_imp (pe_ix ix_seq ha hb hs) (op2_imp (f := fun _ _ => pure .none) fun al H x y b c mu Q Q' m rb rc q kk => by
    unfold wIx at q
    unfold rIx
    rw [hK]
    split at q
    · rename_i ds i
      split at q
      · rename_i d hd
        obtain ⟨a, xs, h1, h2, h3⟩ := rb
        obtain ⟨v, g1, g2⟩ := atI_reps h3 hd
        exact .inr (.inl ⟨a, xs, i, v, h1, rc, h2.sq, g1, kk _ H al (.dat d) mu Ext.refl m g2 q⟩)
      · exact q.elim
    · rename_i ds i
      split at q
      · rename_i d hd
        obtain ⟨a, xs, h1, h2, h3⟩ := rb
        obtain ⟨v, g1, g2⟩ := atI_reps h3 hd
        exact .inl ⟨a, xs, i, v, h1, rc, h2.sq, g1, kk _ H al (.dat d) mu Ext.refl m g2 q⟩
      · exact q.elim
    · rename_i j i
      split at q
      · rename_i ds hj
        split at q
        · rename_i d hd
          obtain ⟨a, h1, h2⟩ := rb
          obtain ⟨a', xs, g1, g2, g3⟩ := m.ok j _ hj
          rw [h1] at g1
          cases g1
          obtain ⟨v, g4, g5⟩ := atI_reps g3 hd
          exact .inl ⟨a, xs, i, v, h2, rc, SqL.of g2, g4, kk _ H al (.dat d) mu Ext.refl m g5 q⟩
        · exact q.elim
      · exact q.elim
    · exact q.elim)

/-! ### built-in functions -/
abbrev SemB := List B → Mu → (B → Mu → Prop) → Prop
def CallD (k : Kit) (X : Cx) (f : Value) (w : SemB) : Prop :=
  ∃ r : List V → Hp → VK → Prop, CallR X f r ∧ ∀ al H vs bs mu Q (Q' : VK), MuOk k.K k.DK al H mu → RepBs k.K al H bs vs → w bs mu Q →
    (∀ v H' al' d mu', Ext al H al' H' → MuOk k.K k.DK al' H' mu' → RepB k.K al' H' d v → Q d mu' → Q' v H') → r vs H Q'
def sBi (w : SemB) (m : SemA) : SemE := fun en mu Q => m en mu fun bs mu1 => w bs mu1 Q
variable {x : Str} {e : Expr} {es : List Expr} {m : SemA} {wb : SemB} {p pos : Pos} {id T : String}
theorem cb_imp {t : TA} {rr : List V → Hp → VK → Prop}
    (h2 : ∀ al H vs bs mu Q (Q' : VK), MuOk k.K k.DK al H mu → RepBs k.K al H bs vs → wb bs mu Q → (∀ v H' al' d mu', Ext al H al' H' → MuOk k.K k.DK al' H' mu' → RepB k.K al' H' d v → Q d mu' → Q' v H') → rr vs H Q')
    (h : ∀ σ H Q, tDA k m σ H Q → t σ H Q) (σ : L2.St) (H : Hp) (Q' : VK) (q : tD k (sBi wb m) σ H Q') : tCB rr t σ H Q' := by
  obtain ⟨al, en, mu, Q, st, q, kk⟩ := q
  refine h _ _ _ ⟨al, en, mu, _, st, q, fun vs H1 al1 bs mu1 e1 st1 r1 q1 => ?_⟩
  exact h2 al1 H1 vs bs mu1 Q Q' st1.mu r1 q1 fun v H' al' b mu' e2 m2 r2 q2 => kk v H' al' b mu' (e1.trans e2) (st1.ext e2 m2) r2 q2
theorem d_callB (hc : CallD k X (.builtin id) wb) (hg : Gl X x) (hm : X.mg x = none) (hv : bootBuiltins x = some (.builtin id)) (ha : PA X (e :: es) (tDA k m)) (hn : x ≠ "__name__" := by decide) (hdb : (x == ("__debug__" : Str)) = false := by decide)
    (he : starEach (e :: es) X.env = (false, eval e X.env) :: starEach es X.env := by rfl) (hpl : (backTo pos (starEach es X.env)).any (·.1) = false := by rfl) : PE X (.Call (.Name x p) (e :: es) [] pos) (tD k (sBi wb m)) := by
  obtain ⟨rr, h1, h2⟩ := hc
  exact pe_imp (pe_callB h1 hg hm hv ha hn hdb he hpl) (cb_imp h2 fun _ _ _ z => z)
theorem d_callTy (hc : CallD k X (.type T) wb) (hg : Gl X x) (hm : X.mg x = none) (hv : bootBuiltins x = some (.type T)) (ha : PA X (e :: es) (tDA k m)) (hn : x ≠ "__name__" := by decide) (hdb : (x == ("__debug__" : Str)) = false := by decide)
    (he : starEach (e :: es) X.env = (false, eval e X.env) :: starEach es X.env := by rfl) (hpl : (backTo pos (starEach es X.env)).any (·.1) = false := by rfl) : PE X (.Call (.Name x p) (e :: es) [] pos) (tD k (sBi wb m)) := by
  obtain ⟨rr, h1, h2⟩ := hc
  exact pe_imp (pe_callTy h1 hg hm hv ha hn hdb he hpl) (cb_imp h2 fun _ _ _ z => z)
theorem d_callBf (hc : CallD k X (.builtin id) wb) (hg : Gl X x) (hm : X.mg x = some (.builtin id)) (ha : PA X (e :: es) (tDA k m)) (hdb : (x == ("__debug__" : Str)) = false := by decide)
    (he : starEach (e :: es) X.env = (false, eval e X.env) :: starEach es X.env := by rfl) (hpl : (backTo pos (starEach es X.env)).any (·.1) = false := by rfl) : PE X (.Call (.Name x p) (e :: es) [] pos) (tD k (sBi wb m)) := by
  obtain ⟨rr, h1, h2⟩ := hc
  exact pe_imp (pe_callBfun h1 hg hm ha hdb he hpl) (cb_imp h2 fun _ _ _ z => z)
/-- a function of ints -/
def wF1 (g : Int → D) : SemB := fun bs mu Q => match bs with
  | [.dat (.int i)] => Q (.dat (g i)) mu
  | _ => False
def wF2 (g : Int → Int → D) : SemB := fun bs mu Q => match bs with
  | [.dat (.int i), .dat (.int j)] => Q (.dat (g i j)) mu
  | _ => False
abbrev wAbs : SemB := wF1 fun i => .int (i.natAbs : Int)
abbrev wMax2 : SemB := wF2 fun i j => .int (if j > i then j else i)
abbrev wMin2 : SemB := wF2 fun i j => .int (if j < i then j else i)
abbrev wGcd : SemB := wF2 fun i j => .int ((Nat.gcd i.natAbs j.natAbs : Nat) : Int)
abbrev wInt : SemB := wF1 fun i => .int i
theorem reps1 {al : AL} {H : Hp} {b : B} {vs : List V} (h : RepBs k.K al H [b] vs) : ∃ v, vs = [v] ∧ RepB k.K al H b v := by
  obtain ⟨v, rr, h1, h2, h3⟩ := h
  cases (show rr = [] from h3)
  exact ⟨v, h1, h2⟩
theorem reps2 {al : AL} {H : Hp} {b c : B} {vs : List V} (h : RepBs k.K al H [b, c] vs) : ∃ v w, vs = [v, w] ∧ RepB k.K al H b v ∧ RepB k.K al H c w := by
  obtain ⟨v, rr, h1, h2, w, r2, h3, h4, h5⟩ := h
  cases (show r2 = [] from h5)
  subst h3
  exact ⟨v, w, h1, h2, h4⟩
theorem c_F1 {f : Value} {g : Int → D} {u : Int → V} {rr : List V → Hp → VK → Prop} (h : CallR X f rr) (hr : ∀ i H Q, Q (u i) H → rr [.int i] H Q) (hg : ∀ i al H, Rep k.K al H (g i) (u i)) : CallD k X f (wF1 g) := by
  refine ⟨rr, h, fun al H vs bs mu Q Q' m rb q kk => ?_⟩
  unfold wF1 at q
  split at q
  · rename_i i
    obtain ⟨v, rfl, hv⟩ := reps1 rb
    cases (show v = .int i from hv)
    exact hr i H Q' (kk _ H al (.dat (g i)) mu Ext.refl m (hg i al H) q)
  · exact q.elim
theorem c_F2 {f : Value} {g : Int → Int → D} {u : Int → Int → V} {rr : List V → Hp → VK → Prop} (h : CallR X f rr) (hr : ∀ i j H Q, Q (u i j) H → rr [.int i, .int j] H Q) (hg : ∀ i j al H, Rep k.K al H (g i j) (u i j)) : CallD k X f (wF2 g) := by
  refine ⟨rr, h, fun al H vs bs mu Q Q' m rb q kk => ?_⟩
  unfold wF2 at q
  split at q
  · rename_i i j
    obtain ⟨v, w, rfl, hv, hw⟩ := reps2 rb
    cases (show v = .int i from hv)
    cases (show w = .int j from hw)
    exact hr i j H Q' (kk _ H al (.dat (g i j)) mu Ext.refl m (hg i j al H) q)
  · exact q.elim
theorem abs_eq (i : Int) : (if i < 0 then -i else i) = (i.natAbs : Int) := by split <;> omega
theorem c_abs : CallD k X (.builtin "abs") wAbs := c_F1 (u := fun i => .int (i.natAbs : Int)) call_abs (fun i H Q q => ⟨i, rfl, by rw [abs_eq]; exact q⟩) fun _ _ _ => rfl
theorem c_max2 (hc : X.calm = true) : CallD k X (.builtin "max") wMax2 := c_F2 (u := fun i j => .int (if j > i then j else i)) (call_max2 hc) (fun i j H Q q => ⟨i, j, rfl, q⟩) fun _ _ _ _ => rfl
theorem c_min2 (hc : X.calm = true) : CallD k X (.builtin "min") wMin2 := c_F2 (u := fun i j => .int (if j < i then j else i)) (call_min2 hc) (fun i j H Q q => ⟨i, j, rfl, q⟩) fun _ _ _ _ => rfl
theorem c_gcd : CallD k X (.builtin "math.gcd") wGcd := c_F2 (u := fun i j => .int ((Nat.gcd i.natAbs j.natAbs : Nat) : Int)) cr_gcd (fun i j H Q q => ⟨i, j, rfl, q⟩) fun _ _ _ _ => rfl
theorem c_int : CallD k X (.type "int") wInt := c_F1 (u := fun i => .int i) call_int1 (fun i H Q q => .inl ⟨i, rfl, q⟩) fun _ _ _ => rfl
/-- len -/
def wLen : SemB := fun bs mu Q => match bs with
  | [.dat (.tuple ds)] => Q (.dat (.int ds.length)) mu
  | [.dat (.list ds)] => Q (.dat (.int ds.length)) mu
  | [.dat (.str x)] => x.length ≤ sizeLine ∧ Q (.dat (.int x.length)) mu
  | [.ref j] => match mu[j]? with
    | some (.lst ds) => Q (.dat (.int ds.length)) mu
    | _ => False
  | _ => False
theorem c_len (hK : X.K = k.K) : CallD k X (.builtin "len") wLen := by
  refine ⟨_, call_len_seq.or call_len_str, fun al H vs bs mu Q Q' m rb q kk => ?_⟩
  unfold wLen at q
  rw [hK]
  split at q
  · rename_i ds
    obtain ⟨v, rfl, a, xs, rfl, h2, h3⟩ := reps1 rb
    exact .inl ⟨a, xs, rfl, .inr h2.sq, kk _ H al (.dat (.int ds.length)) mu Ext.refl m (show V.int _ = V.int _ by rw [h3.length]) q⟩
  · rename_i ds
    obtain ⟨v, rfl, a, xs, rfl, h2, h3⟩ := reps1 rb
    exact .inl ⟨a, xs, rfl, .inl h2.sq, kk _ H al (.dat (.int ds.length)) mu Ext.refl m (show V.int _ = V.int _ by rw [h3.length]) q⟩
  · rename_i z
    obtain ⟨v, rfl, h1⟩ := reps1 rb
    cases (show v = .str z from h1)
    exact .inr ⟨z, rfl, q.1, kk _ H al (.dat (.int z.length)) mu Ext.refl m rfl q.2⟩
  · rename_i j
    obtain ⟨v, rfl, a, h1, rfl⟩ := reps1 rb
    split at q
    · rename_i ds hj
      obtain ⟨b, xs, g1, g2, g3⟩ := m.ok j _ hj
      rw [h1] at g1
      cases g1
      exact .inl ⟨a, xs, rfl, .inl (SqL.of g2), kk _ H al (.dat (.int ds.length)) mu Ext.refl m (show V.int _ = V.int _ by rw [g3.length]) q⟩
    · exact q.elim
  · exact q.elim
/-! repr -/
mutual
/-- no instances, no callables within; dicts by ints and texts -/
def plain : D → Bool
  | .none | .bool _ | .int _ | .str _ => true
  | .list ds | .tuple ds => plains ds
  | .dK kvs => plainK kvs
  | .dT _ | .ins _ _ | .fn _ => false
def plains : List D → Bool
  | [] => true
  | d :: ds => plain d && plains ds
def plainK : List (Key × D) → Bool
  | [] => true
  | (_, d) :: ds => plain d && plainK ds
end
def ReprOk (d : D) : Prop := plain d = true ∧ (py d).showable = true ∧ (py d).depth ≤ 60 ∧ (py d).shown.length ≤ sizeLine
def shown (d : D) : Str := (py d).shown
def isRefD : D → Bool
  | .list _ | .tuple _ | .dK _ => true
  | _ => false
def wRepr : SemB := fun bs mu Q => match bs with
  | [.dat d] => isRefD d = true ∧ ReprOk d ∧ Q (.dat (.str (shown d))) mu
  | _ => False
/-- the module table stands, and is no object of the written part -/
def SmOk (K : PySem.W.Frag) (base : Heap) : Prop := (∃ o, base.get? sysModules = some o) ∧ K.lookup sysModules = none
def NoSm (K : PySem.W.Frag) (H : Hp) : Prop := H sysModules = none ∧ K.lookup sysModules = none
theorem NoSm.ne {K : PySem.W.Frag} {al : AL} {H : Hp} {a : Addr} {xs : List V} (n : NoSm K H) (h : FzL K al H a xs) : sysModules ≠ a := fun z => by
  subst z
  rcases h with ⟨h | ⟨o, h⟩, _⟩ | (h | ⟨o, h⟩) | ⟨o, its, m, h, _⟩
  · rw [n.1] at h
    cases h
  · rw [n.1] at h
    cases h
  · cases h
  · cases h
  · rw [n.2] at h
    cases h
theorem keyP_reads {h : Heap} {q : Key} {u : Value} (e : keyIs q u = true) : Reads h u (keyP q) [] := by
  rcases keyIs_shape e with ⟨i, t, rfl, rfl⟩ | ⟨x, t, rfl, rfl⟩
  · exact .int i t
  · exact .str x t
theorem keys_reads {P : Program} {w : World} {h : Heap} : ∀ {es : List DictEntry} {vs : List (Key × Value)}, PySem.Pairs (mixKind P w) es vs → ReadsAll h (es.map (·.key)) (vs.map fun z => keyP z.1) []
  | _, _, .nil => .nil
  | _, _, .cons h1 _ h3 => ReadsAll.cons (as := []) (bs := []) (keyP_reads h1) (keys_reads h3)
theorem vals_pairs {P : Program} {w : World} : ∀ {es : List DictEntry} {vs : List (Key × Value)}, PySem.Pairs (mixKind P w) es vs → es.map (·.val) = vs.map (·.2)
  | _, _, .nil => rfl
  | _, _, .cons _ h2 h3 => by rw [List.map_cons, List.map_cons, h2, vals_pairs h3]
theorem pyK_fst : ∀ kvs : List (Key × D), (pyK kvs).map (·.1) = kvs.map fun z => keyP z.1
  | [] => rfl
  | (q, d) :: r => by
    show (keyP q, py d).1 :: (pyK r).map (·.1) = _
    rw [pyK_fst r]
    rfl
section
variable {pins : List (Addr × Obj)} {σ : L2.St} {H : Hp} {s : Shared} {al : AL}
mutual
theorem Rep.reads (I : Inv X pins σ H s) (sm : NoSm X.K H) : ∀ (d : D) (v : V) (u : Value), plain d = true → Rep X.K al H d v → RelV v u → ∃ as, Reads s.heap u (py d) as ∧ sysModules ∉ as
  | .none, v, u, _, h, r => by
    cases (show v = V.non from h)
    cases r
    exact ⟨_, .none, by simp⟩
  | .bool b, v, u, _, h, r => by
    cases (show v = V.bl b from h)
    cases r
    exact ⟨_, .bool b, by simp⟩
  | .int i, v, u, _, h, r => by
    cases (show v = V.int i from h)
    obtain ⟨t, rfl⟩ := r
    exact ⟨_, .int i t, by simp⟩
  | .str x, v, u, _, h, r => by
    cases (show v = V.str x from h)
    obtain ⟨t, rfl⟩ := r
    exact ⟨_, .str x t, by simp⟩
  | .list ds, v, u, f, h, r => by
    obtain ⟨a, xs, h1, h2, h3⟩ := h
    subst h1
    cases r
    obtain ⟨its, rv, ⟨o, n, ho, hc, _, hd⟩, _⟩ := I.list h2.sq
    obtain ⟨as, hr, hm⟩ := Reps.reads I sm ds xs its f h3 rv
    refine ⟨_, .list ho hc hd hr, fun z => ?_⟩
    rcases List.mem_cons.mp z with z | z
    · exact sm.ne h2 z
    · exact hm z
  | .tuple ds, v, u, f, h, r => by
    obtain ⟨a, xs, h1, h2, h3⟩ := h
    subst h1
    cases r
    obtain ⟨its, rv, ⟨o, ho, hc, n, hd⟩, _⟩ := I.tuple h2.sq
    obtain ⟨as, hr, hm⟩ := Reps.reads I sm ds xs its f h3 rv
    exact ⟨_, .tuple ho hc hd hr, hm⟩
  | .dK kvs, v, u, f, h, r => by
    obtain ⟨a, ys, h1, h2, h3⟩ := h
    subst h1
    cases r
    obtain ⟨_, ha, vs, hv, o, es, ep, g1, g2, g3, _, g5, _⟩ := dk_rd I.hok h2.1
    obtain ⟨bs, hr, hb, hk⟩ := RepK.reads I sm kvs ys vs f h3 hv
    refine ⟨_, .dict (as := []) (bs := bs) g1 g2.1 g3 ?_ ?_, fun z => ?_⟩
    · rw [pyK_fst, ← hk]
      exact keys_reads g5
    · rw [vals_pairs g5]
      exact hr
    · rcases List.mem_cons.mp z with z | z
      · rw [← z] at ha
        simp at ha
      · exact hb z
  | .dT _, _, _, f, _, _ => by cases f
  | .ins _ _, _, _, f, _, _ => by cases f
  | .fn _, _, _, f, _, _ => by cases f
theorem Reps.reads (I : Inv X pins σ H s) (sm : NoSm X.K H) : ∀ (ds : List D) (vs : List V) (us : List Value), plains ds = true → Reps X.K al H ds vs → Vals vs us → ∃ as, ReadsAll s.heap us (pys ds) as ∧ sysModules ∉ as
  | [], vs, us, _, h, r => by
    cases (show vs = [] from h)
    cases r
    exact ⟨_, .nil, by simp⟩
  | d :: ds, vs, us, f, h, r => by
    obtain ⟨x, xs, h1, h2, h3⟩ := h
    subst h1
    have f' : (plain d && plains ds) = true := f
    rw [Bool.and_eq_true] at f'
    cases r with
    | cons r1 r2 =>
      obtain ⟨as, q1, m1⟩ := Rep.reads I sm d x _ f'.1 h2 r1
      obtain ⟨bs, q2, m2⟩ := Reps.reads I sm ds xs _ f'.2 h3 r2
      exact ⟨_, .cons q1 q2, fun z => (List.mem_append.mp z).elim m1 m2⟩
theorem RepK.reads (I : Inv X pins σ H s) (sm : NoSm X.K H) : ∀ (kvs : List (Key × D)) (ys : List (Key × V)) (vs : List (Key × Value)), plainK kvs = true → RepK X.K al H kvs ys → KV ys vs → ∃ bs, ReadsAll s.heap (vs.map (·.2)) ((pyK kvs).map (·.2)) bs ∧ sysModules ∉ bs ∧ (vs.map fun z => keyP z.1) = kvs.map fun z => keyP z.1
  | [], ys, vs, _, h, r => by
    cases (show ys = [] from h)
    cases r
    exact ⟨_, .nil, by simp, rfl⟩
  | (q, d) :: ds, ys, vs, f, h, r => by
    obtain ⟨x, xs, h1, h2, h3⟩ := h
    subst h1
    have f' : (plain d && plainK ds) = true := f
    rw [Bool.and_eq_true] at f'
    cases r with
    | cons r1 r2 =>
      obtain ⟨as, q1, m1⟩ := Rep.reads I sm d x _ f'.1 h2 r1.2
      obtain ⟨bs, q2, m2, e2⟩ := RepK.reads I sm ds xs _ f'.2 h3 r2
      refine ⟨_, .cons q1 q2, fun z => (List.mem_append.mp z).elim m1 m2, ?_⟩
      rw [List.map_cons, List.map_cons, e2, ← r1.1]
end
end
def rReprR (al : AL) (K : PySem.W.Frag) : List V → Hp → VK → Prop := fun vs H Q => ∃ al a d, vs = [.ref a] ∧ Rep K al H d (.ref a) ∧ ReprOk d ∧ Q (.str (shown d)) H
theorem call_reprR (C : In k X P w mg base r) (hg : k.gds = true) (sm : SmOk k.K base) : CallR X (.builtin "repr") (rReprR [] X.K) := by
  intro pins s σ H xs us Q I rv h
  obtain ⟨al, a, d, rfl, hd, ok, q⟩ := h
  have e := Vals.ref1 rv
  subst e
  have sm2 : NoSm X.K H := by
    obtain ⟨⟨o, g1⟩, g2⟩ := sm
    rw [← C.hb] at g1
    exact ⟨(I.bs _ _ g1).2, by rw [C.hK]; exact g2⟩
  obtain ⟨as, rd, ns⟩ := Rep.reads I sm2 d _ (.ref a) ok.1 hd rfl
  have un := C.room.units
  exact repr_of_reads' rd ok.2.1 (fun _ => ns) (C.gd hg) (by have := ok.2.2.1; omega) (fun _ _ z => z)
    (fun h' u tk hk => ⟨.str (shown d), H, I.kept (t' := tk) hk, ⟨u, rfl⟩, q⟩) ok.2.2.2
theorem c_repr (C : In k X P w mg base r) (hg : k.gds = true) (sm : SmOk k.K base) : CallD k X (.builtin "repr") wRepr := by
  refine ⟨_, call_reprR C hg sm, fun al H vs bs mu Q Q' m rb q kk => ?_⟩
  unfold wRepr at q
  split at q
  · rename_i d
    obtain ⟨v, rfl, hv⟩ := reps1 rb
    obtain ⟨q1, q2, q3⟩ := q
    have fin := kk (.str (shown d)) H al (.dat (.str (shown d))) mu Ext.refl m rfl q3
    rw [C.hK]
    have hv' : Rep k.K al H d v := hv
    cases d with
    | list ds =>
      obtain ⟨a, xs, rfl, _⟩ := id hv'
      exact ⟨al, a, _, rfl, hv', q2, fin⟩
    | tuple ds =>
      obtain ⟨a, xs, rfl, _⟩ := id hv'
      exact ⟨al, a, _, rfl, hv', q2, fin⟩
    | dK ds =>
      obtain ⟨a, xs, rfl, _⟩ := id hv'
      exact ⟨al, a, _, rfl, hv', q2, fin⟩
    | _ => cases q1
  · exact q.elim
end
end DL

set_option Elab.async false
set_option linter.all false
set_option maxRecDepth 100000
set_option maxHeartbeats 4000000
namespace DL
open PySem L2

/-! ### isinstance -/
inductive Ty where
  | int | bool | str | tuple | list | dict
  deriving DecidableEq
def Ty.nm : Ty → String
  | .int => "int"
  | .bool => "bool"
  | .str => "str"
  | .tuple => "tuple"
  | .list => "list"
  | .dict => "dict"
def tyN : D → String
  | .none => "NoneType"
  | .bool _ => "bool"
  | .int _ => "int"
  | .str _ => "str"
  | .list _ => "list"
  | .tuple _ => "tuple"
  | .dK _ | .dT _ => "dict"
  | .ins _ _ | .fn _ => "object"
/-- a built-in type's -/
def okT : D → Bool
  | .ins _ _ | .fn _ | .dT _ => false
  | _ => true
def isT : D → Ty → Bool
  | .bool _, .bool => true
  | .bool _, .int => true
  | .int _, .int => true
  | .str _, .str => true
  | .list _, .list => true
  | .tuple _, .tuple => true
  | .dK _, .dict => true
  | .dT _, .dict => true
  | _, _ => false
theorem kit_isT (d : D) (ok : okT d = true) (T : Ty) : kitB (tyN d) T.nm = some (isT d T) := by
  cases d with
  | none => cases T <;> (show kitB "NoneType" _ = some false) <;> decide +kernel
  | bool b =>
    cases T
    case int => show kitB "bool" "int" = some true; decide +kernel
    case bool => show kitB "bool" "bool" = some true; decide +kernel
    all_goals (show kitB "bool" _ = some false) <;> decide +kernel
  | int b =>
    cases T
    case int => show kitB "int" "int" = some true; decide +kernel
    all_goals (show kitB "int" _ = some false) <;> decide +kernel
  | str b =>
    cases T
    case str => show kitB "str" "str" = some true; decide +kernel
    all_goals (show kitB "str" _ = some false) <;> decide +kernel
  | list b =>
    cases T
    case list => show kitB "list" "list" = some true; decide +kernel
    all_goals (show kitB "list" _ = some false) <;> decide +kernel
  | tuple b =>
    cases T
    case tuple => show kitB "tuple" "tuple" = some true; decide +kernel
    all_goals (show kitB "tuple" _ = some false) <;> decide +kernel
  | dK b =>
    cases T
    case dict => show kitB "dict" "dict" = some true; decide +kernel
    all_goals (show kitB "dict" _ = some false) <;> decide +kernel
  | dT _ => cases ok
  | ins _ _ => cases ok
  | fn _ => cases ok
theorem Rep.tyX {K : PySem.W.Frag} {al : AL} {H : Hp} {d : D} {v : V} (ok : okT d = true) (h : Rep K al H d v) : TyX K H v (.type (tyN d)) := by
  cases d with
  | none =>
    cases (show v = .non from h)
    exact .base .non
  | bool b =>
    cases (show v = .bl b from h)
    exact .base (.bl b)
  | int b =>
    cases (show v = .int b from h)
    exact .base (.int b)
  | str b =>
    cases (show v = .str b from h)
    exact .base (.str b)
  | list ds =>
    obtain ⟨a, xs, rfl, h2, _⟩ := h
    rcases h2 with ⟨q | ⟨o, q⟩, _⟩ | (q | ⟨o, q⟩) | ⟨o, its, n, q1, q2, _⟩
    · exact .base (.lst q)
    · exact .base (.frz q)
    · cases q
    · cases q
    · exact .kList q1 q2
  | tuple ds =>
    obtain ⟨a, xs, rfl, h2, _⟩ := h
    rcases h2 with ⟨q | ⟨o, q⟩, _⟩ | (q | ⟨o, q⟩) | ⟨o, its, n, q1, q2, _⟩
    · exact .base (.tup q)
    · exact .fTuple q
    · cases q
    · cases q
    · exact .kTuple q1 q2
  | dK ds =>
    obtain ⟨a, xs, rfl, h2, _⟩ := h
    rcases h2 with ⟨q | ⟨o, q⟩, _⟩
    · exact .base (.dK q)
    · exact .fDict q
  | dT _ => cases ok
  | ins _ _ => cases ok
  | fn _ => cases ok
def sIsi (T : Ty) (m : SemE) : SemE := fun en mu Q => m en mu fun b mu1 => match b with
  | .dat d => okT d = true ∧ Q (.dat (.bool (isT d T))) mu1
  | .ref j => match mu1[j]? with
    | some (.lst _) => Q (.dat (.bool (decide (T = .list)))) mu1
    | _ => False
def sIsi2 (T U : Ty) (m : SemE) : SemE := fun en mu Q => m en mu fun b mu1 => match b with
  | .dat d => okT d = true ∧ Q (.dat (.bool (isT d T || isT d U))) mu1
  | _ => False
section
variable {X : Cx} {k : Kit} {a : Expr} {m : SemE} {p p2 p3 pos pt : Pos} {y z : Str} {T U : Ty}
theorem d_isi (hK : X.K = k.K) (ha : PE X a (tD k m)) (hg : Gl X "isinstance") (hm : X.mg "isinstance" = none) (gy : Gl X y) (my : X.mg y = none) (hv : bootBuiltins y = some (.type T.nm)) (hn : y ≠ "__name__" := by decide) (hd : (y == ("__debug__" : Str)) = false := by decide)
    (hs : starEach [a, .Name y p2] X.env = (false, eval a X.env) :: starEach [.Name y p2] X.env := by rfl) (hs2 : starEach [.Name y p2] X.env = (false, eval (.Name y p2) X.env) :: starEach [] X.env := by rfl) :
    PE X (.Call (.Name "isinstance" p) [a, .Name y p2] [] pos) (tD k (sIsi T m)) :=
  pe_imp (pe_callB call_isi hg hm PyProof.Rows.boot_isinstance (pa_cons ha (pa_cons (pe_bltn (v := .ty T.nm) gy my hv rfl hn hd) pa_nil hs2) hs) (by decide) (by decide) hs (by rw [hs2]; rfl)) fun σ H Q' q => by
    obtain ⟨al, en, mu, Q, st, q, kk⟩ := q
    refine ⟨al, en, mu, _, st, q, fun v H1 al1 b mu1 e1 st1 r1 q1 => ?_⟩
    split at q1
    · rename_i d
      refine ⟨v, .ty T.nm, _, _, isT d T, rfl, .ty _, ?_, kit_ty (kit_isT d q1.1 T), kk _ H1 al1 (.dat (.bool _)) mu1 e1 st1 rfl q1.2⟩
      rw [hK]
      exact Rep.tyX q1.1 r1
    · rename_i j
      obtain ⟨c, g1, rfl⟩ := r1
      split at q1
      · rename_i ds hj
        obtain ⟨c', xs, g2, g3, _⟩ := st1.mu.ok j _ hj
        rw [g1] at g2
        cases g2
        refine ⟨.ref c, .ty T.nm, .type "list", _, decide (T = .list), rfl, .ty _, .base (.lst g3), kit_ty ?_, kk _ H1 al1 (.dat (.bool _)) mu1 e1 st1 rfl q1⟩
        cases T <;> decide +kernel
      · exact q1.elim
theorem d_isi2 {x1} (hK : X.K = k.K) (ha : PE X a (tD k m)) (hg : Gl X "isinstance") (hm : X.mg "isinstance" = none) (gy : Gl X y) (my : X.mg y = none) (hv : bootBuiltins y = some (.type T.nm)) (gz : Gl X z) (mz : X.mg z = none) (hvz : bootBuiltins z = some (.type U.nm))
    (hn : y ≠ "__name__" := by decide) (hd : (y == ("__debug__" : Str)) = false := by decide) (hn' : z ≠ "__name__" := by decide) (hd' : (z == ("__debug__" : Str)) = false := by decide)
    (hs : starEach [a, .Tuple [.Name y p2, .Name z p3] x1 pt] X.env = (false, eval a X.env) :: starEach [.Tuple [.Name y p2, .Name z p3] x1 pt] X.env := by rfl)
    (hs2 : starEach [.Tuple [.Name y p2, .Name z p3] x1 pt] X.env = (false, eval (.Tuple [.Name y p2, .Name z p3] x1 pt) X.env) :: starEach [] X.env := by rfl)
    (hs3 : starEach [.Name y p2, .Name z p3] X.env = (false, eval (.Name y p2) X.env) :: starEach [.Name z p3] X.env := by rfl) (hs4 : starEach [.Name z p3] X.env = (false, eval (.Name z p3) X.env) :: starEach [] X.env := by rfl) :
    PE X (.Call (.Name "isinstance" p) [a, .Tuple [.Name y p2, .Name z p3] x1 pt] [] pos) (tD k (sIsi2 T U m)) :=
  pe_imp (pe_callB call_isiT hg hm PyProof.Rows.boot_isinstance (pa_cons ha (pa_cons (pe_tup (pa_cons (pe_bltn (v := .ty T.nm) gy my hv rfl hn hd) (pa_cons (pe_bltn (v := .ty U.nm) gz mz hvz rfl hn' hd') pa_nil hs4) hs3)) pa_nil hs2) hs) (by decide) (by decide) hs (by rw [hs2]; rfl)) fun σ H Q' q => by
    obtain ⟨al, en, mu, Q, st, q, kk⟩ := q
    refine ⟨al, en, mu, _, st, q, fun v H1 al1 b mu1 e1 st1 r1 q1 => ?_⟩
    cases b with
    | ref j => exact q1.elim
    | dat d =>
      refine ⟨by show 2 ≤ sizeLine; decide, fun t ht => ?_⟩
      obtain ⟨e2, m2⟩ := st1.mu.newF (o := .tup [.ty T.nm, .ty U.nm]) ht
      refine ⟨v, t, [.ty T.nm, .ty U.nm], .type (tyN d), [.type T.nm, .type U.nm], isT d T || isT d U, rfl, upd_same, .cons (.ty _) (.cons (.ty _) .nil), ?_, ?_, kk _ _ al1 (.dat (.bool _)) mu1 (e1.trans e2) (st1.ext e2 m2) rfl q1.2⟩
      · rw [hK]
        exact Rep.tyX q1.1 (Rep.ext e2 d v r1)
      · refine kitAny_cons (kit_ty (kit_isT d q1.1 T)) (fun h => ?_) fun h => by rw [h] <;> rfl
        rw [h, Bool.false_or]
        exact kitAny_cons (kit_ty (kit_isT d q1.1 U)) (fun h2 => by rw [h2]; exact kitAny_nil) fun h2 => h2
end

/-! ### lemmas for readings -/
/-- a loop over data that stand still, by what holds between its turns -/
theorem loop_by {g : SemG} {w : SemS} {D0 : DEnds} {ds : List D} {en : En} {mu : Mu} (W : Nat → En → Mu → Prop) (h0 : W 0 en mu)
    (hs : ∀ (i : Nat) d en mu (N : En → Mu → Prop), ds[i]? = some d → W i en mu → (∀ en' mu', W (i + 1) en' mu' → N en' mu') → g (.dat d) en mu fun en' mu' => w { D0 with nx := N, ct := N, bk := D0.nx } en' mu') (hd : ∀ en mu, W ds.length en mu → D0.nx en mu) :
    loopD g w D0 (fun _ => True) ds en mu := by
  have key : ∀ (n i : Nat) (en : En) (mu : Mu), n = ds.length - i → i ≤ ds.length → W i en mu → loopD g w D0 (fun _ => True) (ds.drop i) en mu := by
    intro n
    induction n with
    | zero =>
      intro i en mu hn hi hw
      have e : i = ds.length := by omega
      subst e
      rw [List.drop_length]
      exact ⟨trivial, hd en mu hw⟩
    | succ n ih =>
      intro i en mu hn hi hw
      have hlt : i < ds.length := by omega
      rw [List.drop_eq_getElem_cons hlt]
      exact ⟨trivial, hs i _ en mu _ (List.getElem?_eq_getElem hlt) hw fun en' mu' h => ih (i + 1) en' mu' (by omega) hlt h⟩
  exact key ds.length 0 en mu (by omega) (Nat.zero_le _) h0
/-- over a range -/
theorem loop_rng {g : SemG} {w : SemS} {D : DEnds} {lo : Int} {n : Nat} {en : En} {mu : Mu} (W : Nat → En → Mu → Prop) (h0 : W 0 en mu)
    (hs : ∀ (i : Nat) en mu (N : En → Mu → Prop), i < n → W i en mu → (∀ en' mu', W (i + 1) en' mu' → N en' mu') → g (.dat (.int (lo + (i : Int)))) en mu fun en' mu' => w { D with nx := N, ct := N, bk := D.nx } en' mu') (hd : ∀ en mu, W n en mu → D.nx en mu) :
    loopD g w D (fun _ => True) (rngD lo n) en mu := by
  have hl : (rngD lo n).length = n := by
    unfold rngD
    rw [List.length_map, List.length_range]
  refine loop_by W h0 (fun i d en mu N h1 h2 h3 => ?_) (fun en mu h => by rw [hl] at h; exact hd en mu h)
  have hi : i < n := by
    have := (List.getElem?_eq_some_iff.mp h1).1
    omega
  unfold rngD at h1
  rw [List.getElem?_map, List.getElem?_range hi] at h1
  cases h1
  exact hs i en mu N hi h2 h3
theorem while_by {t : SemT} {w : SemS} {D : DEnds} {en : En} {mu : Mu} (I : En → Mu → Prop) (ms : En → Mu → Nat) (h0 : I en mu)
    (hs : ∀ en mu (N : En → Mu → Prop), I en mu → (∀ en' mu', I en' mu' → ms en' mu' < ms en mu → N en' mu') → t en mu fun c mu1 => if c = true then w { D with nx := N, ct := N, bk := D.nx } en mu1 else D.nx en mu1) : sWhile t w D en mu := by
  have key : ∀ (n : Nat) (en : En) (mu : Mu), ms en mu < n → I en mu → whileD t w D n en mu := by
    intro n
    induction n with
    | zero =>
      intro en mu h _
      omega
    | succ n ih =>
      intro en mu h hi
      exact hs en mu _ hi fun en' mu' h1 h2 => ih en' mu' (by omega) h1
  exact ⟨_, key (ms en mu + 1) en mu (Nat.lt_succ_self _) h0⟩
theorem comp_by {g : SemG} {t : SemT} {m : SemE} {en : En} {Q : B → Mu → Prop} {ds : List D} {mu : Mu} (W : Nat → List D → Mu → Prop) (h0 : W 0 [] mu)
    (hs : ∀ (i : Nat) d acc mu (N : List D → Mu → Prop), ds[i]? = some d → W i acc mu → (∀ acc' mu', W (i + 1) acc' mu' → N acc' mu') → g (.dat d) en (mu ++ [.lst acc]) fun en2 mu2 => t en2 mu2 fun c mu3 =>
      if c = true then m en2 mu3 fun b mu4 => match b with
        | .dat y => mu4[mu.length]? = some (.lst acc) ∧ acc.length < sizeLine ∧ N (acc ++ [y]) (mu4.take mu.length)
        | _ => False
      else mu3[mu.length]? = some (.lst acc) ∧ N acc (mu3.take mu.length)) (hd : ∀ acc mu, W ds.length acc mu → Q (.ref mu.length) (mu ++ [.lst acc])) :
    compD g t m en (fun _ => True) Q ds [] mu := by
  have key : ∀ (n i : Nat) acc (mu : Mu), n = ds.length - i → i ≤ ds.length → W i acc mu → compD g t m en (fun _ => True) Q (ds.drop i) acc mu := by
    intro n
    induction n with
    | zero =>
      intro i acc mu hn hi hw
      have e : i = ds.length := by omega
      subst e
      rw [List.drop_length]
      exact ⟨trivial, hd acc mu hw⟩
    | succ n ih =>
      intro i acc mu hn hi hw
      have hlt : i < ds.length := by omega
      rw [List.drop_eq_getElem_cons hlt]
      exact ⟨trivial, hs i _ acc mu _ (List.getElem?_eq_getElem hlt) hw fun acc' mu' h => ih (i + 1) acc' mu' (by omega) hlt h⟩
  exact key ds.length 0 [] mu (by omega) (Nat.zero_le _) h0
end DL

set_option Elab.async false
set_option linter.all false
set_option maxRecDepth 100000
set_option maxHeartbeats 4000000
namespace DL
open PySem L2
/-- a statement, then the rest, with a word between them -/
def sCut (w1 w2 : SemS) : SemS := fun D en mu => ∃ Mid : En → Mu → Prop, w1 { D with nx := Mid } en mu ∧ ∀ en' mu', Mid en' mu' → w2 D en' mu'
theorem s_cut {X : Cx} {k : Kit} {st : Stmt} {rest : List Stmt} {w1 w2 : SemS} (h1 : PS X st (tDS k w1)) (h2 : PSs X rest (tDS k w2)) : PSs X (st :: rest) (tDS k (sCut w1 w2)) := pss_imp (pss_cons h1 h2) fun E σ H q => by
  obtain ⟨al0, H0, al, en, mu, D, e0, st, ⟨Mid, q, qm⟩, f⟩ := q
  exact ⟨al0, H0, al, en, mu, { D with nx := Mid }, e0, st, q, ⟨fun al1 σ1 H1 en1 mu1 e1 st1 q1 => ⟨al0, H0, al1, en1, mu1, D, e1, st1, qm _ _ q1, f⟩, f.rt, f.bk, f.ct⟩⟩
section
variable {k : Kit} {P : Program} {w : World} {mg : Str → Option Value} {base : Heap} {r : Nat} {x : Str} {st : Stmt} {N ps : List Str} {d : DSp}
theorem fnIn_raw (F : Fn0 k mg x st ps) (S : FnScope N ps (defScope st)) (len : ∀ bs mu R, d bs mu R → bs.length = ps.length)
    (h : ∀ (f : Addr) (cdv : Value) (A : Around) (outer : List Env) (s : Shared) (H : Hp) (E : XK) (vs : List V) (Q : VK), In k (bodyCx k P w mg base N x st f cdv A outer s H E) P w mg base r → liftSp k d vs H Q E0 →
      ∃ t, PSs (bodyCx k P w mg base N x st f cdv A outer s H E) (defBody st) t ∧ t { nx := fun _ H' => Q .non H', rt := Q } (L2.start N vs) H) : FnIn k P w mg base (r + 1) x st ps d := by
  obtain ⟨f, fd, h1, h2, h3⟩ := F.ex
  exact ⟨f, fd, h1, h2, h3, fnD_raw h1 S len fun cdv A outer s H E vs Q C q => h f cdv A outer s H E vs Q C q⟩
end
theorem fnIn_no {k : Kit} {P : Program} {w : World} {mg : Str → Option Value} {base : Heap} {r : Nat} {x : Str} {st : Stmt} {ps : List Str} {d : DSp} (F : Fn0 k mg x st ps) (h : ∀ bs mu R, d bs mu R → False) : FnIn k P w mg base r x st ps d := by
  obtain ⟨f, fd, h1, h2, h3⟩ := F.ex
  refine ⟨f, fd, h1, h2, h3, fun bs mu R q => (h _ _ _ q).elim, fun A outer s H args us vs Q _ _ _ _ _ q => ?_⟩
  obtain ⟨_, _, _, _, _, _, q, _⟩ := q
  exact (h _ _ _ q).elim
/-! ### the deck of drawn numbers -/
/-- a dict of the list of cells, two ints, by three names -/
def deckD (c m n : Str) (l : Addr) (x y : Int) : List (Key × V) := [(.inr c, .ref l), (.inr m, .int x), (.inr n, .int y)]
def deckDK (c m n : Str) : Addr → HO → HO → Prop := fun l o u => ∃ (x y : Int) (cells : List Int), o = .dK (deckD c m n l x y) ∧ u = .lst (cells.map V.int) ∧ cells.length ≤ 63
/-- behind H0 only the deck at a, with its cells at l, is another one -/
structure DkSt (c m n : Str) (H0 : Hp) (a l : Addr) (x y : Int) (cells : List Int) (H : Hp) : Prop where
  ne : a ≠ l
  rest : ∀ b o, H0 b = some o → b ≠ a → b ≠ l → H b = some o
  dk : H a = some (.dK (deckD c m n l x y))
  cl : H l = some (.lst (cells.map V.int))
  len : cells.length ≤ 63
section
variable {c m n : Str} {H0 H : Hp} {a l : Addr} {x y : Int} {cells : List Int}
theorem DkSt.fresh (d : DkSt c m n H0 a l x y cells H) {p : Addr} {o : HO} (hp : H p = none) : DkSt c m n H0 a l x y cells (upd H p o) :=
  ⟨d.ne, fun b u q h1 h2 => by rw [upd_ne (ne_of_none (d.rest b u q h1 h2) hp)]; exact d.rest b u q h1 h2, by rw [upd_ne (ne_of_none d.dk hp)]; exact d.dk, by rw [upd_ne (ne_of_none d.cl hp)]; exact d.cl, d.len⟩
theorem DkSt.setN (d : DkSt c m n H0 a l x y cells H) (y' : Int) : DkSt c m n H0 a l x y' cells (upd H a (.dK (deckD c m n l x y'))) :=
  ⟨d.ne, fun b u q h1 h2 => by rw [upd_ne h1]; exact d.rest b u q h1 h2, upd_same, by rw [upd_ne (Ne.symm d.ne)]; exact d.cl, d.len⟩
theorem DkSt.setC (d : DkSt c m n H0 a l x y cells H) (cs : List Int) (hc : cs.length ≤ 63) : DkSt c m n H0 a l x y cs (upd H l (.lst (cs.map V.int))) :=
  ⟨d.ne, fun b u q h1 h2 => by rw [upd_ne h2]; exact d.rest b u q h1 h2, by rw [upd_ne d.ne]; exact d.dk, upd_same, hc⟩
theorem DkSt.setV (d : DkSt c m n H0 a l x y cells H) (cs : List Int) (xs : List V) (e : xs = cs.map V.int) (hc : cs.length ≤ 63) : DkSt c m n H0 a l x y cs (upd H l (.lst xs)) := by
  rw [e]
  exact d.setC cs hc
theorem valV_deck (hcm : c ≠ m) (hcn : c ≠ n) (hmn : m ≠ n) : valV (deckD c m n l x y) (.inr c) = some (.ref l) ∧ valV (deckD c m n l x y) (.inr m) = some (.int x) ∧ valV (deckD c m n l x y) (.inr n) = some (.int y) := by
  unfold deckD
  refine ⟨valV_pos rfl, ?_, ?_⟩
  · rw [valV_neg (fun e => hcm (Sum.inr.inj e)), valV_pos rfl]
  · rw [valV_neg (fun e => hcn (Sum.inr.inj e)), valV_neg (fun e => hmn (Sum.inr.inj e)), valV_pos rfl]
theorem putK_deck (hcn : c ≠ n) (hmn : m ≠ n) (y' : Int) : putK (deckD c m n l x y) (.inr n) (.int y') = deckD c m n l x y' := by
  have h1 : ¬ (Sum.inr c : Key) = .inr n := fun e => hcn (Sum.inr.inj e)
  have h2 : ¬ (Sum.inr m : Key) = .inr n := fun e => hmn (Sum.inr.inj e)
  simp [putK, deckD, h1, h2]
theorem mergeK_deck (hcm : c ≠ m) (hcn : c ≠ n) (hmn : m ≠ n) : mergeK [] (deckD c m n l x y) = deckD c m n l x y := by
  have h1 : ¬ (Sum.inr c : Key) = .inr n := fun e => hcn (Sum.inr.inj e)
  have h2 : ¬ (Sum.inr m : Key) = .inr n := fun e => hmn (Sum.inr.inj e)
  have h3 : ¬ (Sum.inr c : Key) = .inr m := fun e => hcm (Sum.inr.inj e)
  simp [mergeK, putK, deckD, h1, h2, h3]
theorem cut_int {ns : List Int} {lo hi : Option Int} {y : V} (h : y ∈ cutV (ns.map V.int) lo hi) : ∃ u, y = V.int u := by
  unfold cutV at h
  have h2 := List.mem_of_mem_drop (List.mem_of_mem_take h)
  obtain ⟨u, _, e⟩ := List.mem_map.mp h2
  exact ⟨u, e.symm⟩
theorem cut_map (ns : List Int) (lo hi : Option Int) : ∃ cs : List Int, cutV (ns.map V.int) lo hi = cs.map V.int ∧ cs.length ≤ ns.length := by
  unfold cutV
  rw [List.length_map, ← List.map_drop, ← List.map_take]
  refine ⟨_, rfl, ?_⟩
  rw [List.length_take, List.length_drop]
  omega
theorem Same.step {H : Hp} {p : Addr} {u : HO} (hp : H p = none) : ∀ b o, H b = some o → upd H p u b = some o := fun b o h => by
  rw [upd_ne (ne_of_none h hp)]
  exact h
theorem DkSt.getC (d : DkSt c m n H0 a l x y cells H) (hcm : c ≠ m) (hcn : c ≠ n) (hmn : m ≠ n) : DGet H a (.str c) (some (.ref l)) := by
  have := DGet.k (k := .inr c) d.dk
  rw [(valV_deck hcm hcn hmn).1] at this
  exact this
theorem DkSt.getM (d : DkSt c m n H0 a l x y cells H) (hcm : c ≠ m) (hcn : c ≠ n) (hmn : m ≠ n) : DGet H a (.str m) (some (.int x)) := by
  have := DGet.k (k := .inr m) d.dk
  rw [(valV_deck hcm hcn hmn).2.1] at this
  exact this
theorem DkSt.getN (d : DkSt c m n H0 a l x y cells H) (hcm : c ≠ m) (hcn : c ≠ n) (hmn : m ≠ n) : DGet H a (.str n) (some (.int y)) := by
  have := DGet.k (k := .inr n) d.dk
  rw [(valV_deck hcm hcn hmn).2.2] at this
  exact this
theorem DkSt.putN (d : DkSt c m n H0 a l x y cells H) (hcn : c ≠ n) (hmn : m ≠ n) (y' : Int) : DPut H a (.str n) (.int y') (upd H a (.dK (deckD c m n l x y'))) := by
  have := DPut.k (k := .inr n) (v := .int y') d.dk (by show 3 < sizeLine; decide)
  rw [putK_deck hcn hmn] at this
  exact this
theorem list_last {cs : List Int} (h : cs ≠ []) : ∃ c, (cs.map V.int)[(cs.map V.int).length - 1]? = some (.int c) := by
  have hp : 0 < cs.length := List.length_pos_iff.mpr h
  rw [List.length_map, List.getElem?_map, List.getElem?_eq_getElem (by omega : cs.length - 1 < cs.length)]
  exact ⟨_, rfl⟩
theorem deck_close {K : PySem.W.Frag} {al : AL} {mu : Mu} {i j : Nat} (mo : MuOk K (deckDK c m n) al H0 mu) (hj : mu[j]? = some (.deck i)) (ha : al[j]? = some (some a)) (hl : al[i]? = some (some l)) (d : DkSt c m n H0 a l x y cells H) :
    Ext al H0 al H ∧ MuOk K (deckDK c m n) al H mu := by
  have ma := List.mem_of_getElem? ha
  have ml := List.mem_of_getElem? hl
  have e : Ext al H0 al H := ⟨⟨[], by simp, by simp⟩, fun b o q z _ => d.rest b o q (fun w => z (by rw [w]; exact ma)) fun w => z (by rw [w]; exact ml)⟩
  refine ⟨e, mo.len, mo.nd, fun t z q => ?_, mo.hd⟩
  have zz := mo.ok t z q
  have keep : ∀ b, al[t]? = some (some b) → t ≠ j → t ≠ i → ∀ o, H0 b = some o → H b = some o := fun b hb h1 h2 o ho =>
    d.rest b o ho (fun w => h1 (mo.nd t j a (by rw [← w]; exact hb) ha)) fun w => h2 (mo.nd t i l (by rw [← w]; exact hb) hl)
  by_cases e1 : t = j
  · subst e1
    rw [hj] at q
    cases q
    exact ⟨zz.1, a, l, _, _, ha, hl, d.dk, d.cl, x, y, cells, rfl, rfl, d.len⟩
  · by_cases e2 : t = i
    · subst e2
      have w := mo.hd j t hj
      rw [w] at q
      cases q
      exact ⟨l, _, hl, d.cl, (fun _ z => by cases z), (fun _ z => by cases z)⟩
    · cases z with
      | lst fs =>
        obtain ⟨b, ys, h1, h2, h3⟩ := zz
        exact ⟨b, ys, h1, keep b h1 e1 e2 _ h2, Reps.ext e _ _ h3⟩
      | dK fs =>
        obtain ⟨b, ys, h1, h2, h3⟩ := zz
        exact ⟨b, ys, h1, keep b h1 e1 e2 _ h2, RepK.ext e _ _ h3⟩
      | dT fs =>
        obtain ⟨b, ys, h1, h2, h3⟩ := zz
        exact ⟨b, ys, h1, keep b h1 e1 e2 _ h2, RepT.ext e _ _ h3⟩
      | deck v =>
        obtain ⟨h0, b, c', o, u, h1, h2, h3, h4, h5⟩ := zz
        have hv := mo.hd t v q
        by_cases e3 : v = i
        · subst e3
          rw [hl] at h2
          cases h2
          obtain ⟨x', y', cs', rfl, rfl, _⟩ := h5
          exact ⟨h0, b, l, _, _, h1, hl, keep b h1 e1 e2 _ h3, d.cl, x', y', cells, rfl, rfl, d.len⟩
        · have e4 : v ≠ j := fun w => by
            rw [w, hj] at hv
            cases hv
          exact ⟨h0, b, c', o, u, h1, h2, keep b h1 e1 e2 _ h3, d.rest c' u h4 (fun w => e4 (mo.nd v j a (by rw [← w]; exact h2) ha)) fun w => e3 (mo.nd v i l (by rw [← w]; exact h2) hl), h5⟩
      | hid =>
        obtain ⟨b, o, h1, h2, h3⟩ := zz
        exact ⟨b, o, h1, keep b h1 e1 e2 _ h2, h3⟩
      | tab P q2 =>
        obtain ⟨h1, ps, h2, h3, h4⟩ := zz
        refine ⟨h1, ps, keep P h1 e1 e2 _ h2, h3, fun pos cv hc => ?_⟩
        obtain ⟨c, f1, f2, f3⟩ := h4 pos cv hc
        exact ⟨c, f1, e.keep c _ f2 f3 (fun ps z => LamX.codeO_ne ps z), f3⟩
      | fact φ => exact ⟨zz.1, zz.2.2.1 _ _ _ _ e zz.2.1, zz.2.2⟩
      | dead => exact zz
/-- a deck is made -/
theorem deck_new {K : PySem.W.Frag} {al : AL} {mu : Mu} (mo : MuOk K (deckDK c m n) al H0 mu) (hne : a ≠ l) (na : H0 a = none) (nl : H0 l = none) (keep : ∀ b o, H0 b = some o → H b = some o) (hd : H a = some (.dK (deckD c m n l x y))) (hc : H l = some (.lst (cells.map V.int))) (hlc : cells.length ≤ 63) :
    Ext al H0 (al ++ [some l, some a]) H ∧ MuOk K (deckDK c m n) (al ++ [some l, some a]) H (mu ++ [.hid, .deck mu.length]) := by
  have e : Ext al H0 (al ++ [some l, some a]) H := ⟨⟨_, rfl, fun b z => by
    have z' : b = l ∨ b = a := by simpa using z
    rcases z' with rfl | rfl
    · exact ⟨mo.free nl, nt_of nl⟩
    · exact ⟨mo.free na, nt_of na⟩⟩, fun b o q _ _ => keep b o q⟩
  have hlen := mo.len
  have pl : (al ++ [some l, some a])[al.length]? = some (some l) := by simp
  have pa : (al ++ [some l, some a])[al.length + 1]? = some (some a) := by simp
  have cut : ∀ (i : Nat) z, (al ++ [some l, some a])[i]? = some z → (i < al.length ∧ al[i]? = some z) ∨ (i = al.length ∧ z = some l) ∨ (i = al.length + 1 ∧ z = some a) := fun i z q => by
    by_cases h : i < al.length
    · rw [List.getElem?_append_left h] at q
      exact .inl ⟨h, q⟩
    · rw [List.getElem?_append_right (by omega)] at q
      have h2 := (List.getElem?_eq_some_iff.mp q).1
      have h3 : i - al.length < 2 := h2
      have h4 : i - al.length = 0 ∨ i - al.length = 1 := by omega
      rcases h4 with h4 | h4
      · rw [h4] at q
        cases q
        exact .inr (.inl ⟨by omega, rfl⟩)
      · rw [h4] at q
        cases q
        exact .inr (.inr ⟨by omega, rfl⟩)
  have cutM : ∀ (i : Nat) z, (mu ++ [MO.hid, .deck mu.length])[i]? = some z → (i < mu.length ∧ mu[i]? = some z) ∨ (i = mu.length ∧ z = .hid) ∨ (i = mu.length + 1 ∧ z = .deck mu.length) := fun i z q => by
    by_cases h : i < mu.length
    · rw [List.getElem?_append_left h] at q
      exact .inl ⟨h, q⟩
    · rw [List.getElem?_append_right (by omega)] at q
      have h2 := (List.getElem?_eq_some_iff.mp q).1
      have h3 : i - mu.length < 2 := h2
      have h4 : i - mu.length = 0 ∨ i - mu.length = 1 := by omega
      rcases h4 with h4 | h4
      · rw [h4] at q
        cases q
        exact .inr (.inl ⟨by omega, rfl⟩)
      · rw [h4] at q
        cases q
        exact .inr (.inr ⟨by omega, rfl⟩)
  have ml : some l ∉ al := mo.free nl
  have ma : some a ∉ al := mo.free na
  refine ⟨e, by simp [hlen], fun i j b hi hj => ?_, fun t z q => ?_, fun t j q => ?_⟩
  · rcases cut i _ hi with ⟨h1, h2⟩ | ⟨h1, h2⟩ | ⟨h1, h2⟩ <;> rcases cut j _ hj with ⟨g1, g2⟩ | ⟨g1, g2⟩ | ⟨g1, g2⟩
    · exact mo.nd i j b h2 g2
    · cases g2
      exact absurd (List.mem_of_getElem? h2) ml
    · cases g2
      exact absurd (List.mem_of_getElem? h2) ma
    · cases h2
      exact absurd (List.mem_of_getElem? g2) ml
    · omega
    · cases h2
      cases g2
      exact absurd rfl hne
    · cases h2
      exact absurd (List.mem_of_getElem? g2) ma
    · cases h2
      cases g2
      exact absurd rfl hne
    · omega
  · rcases cutM t z q with ⟨h1, h2⟩ | ⟨h1, rfl⟩ | ⟨h1, rfl⟩
    · exact (mo.ok t z h2).mono e fun b hb => by
        obtain ⟨o, ho⟩ := mo.there hb
        rw [ho, keep b o ho]
    · exact ⟨l, _, by rw [h1, ← hlen]; exact pl, hc, (fun _ z => by cases z), (fun _ z => by cases z)⟩
    · exact ⟨by omega, a, l, _, _, by rw [h1, ← hlen]; exact pa, by rw [← hlen]; exact pl, hd, hc, x, y, cells, rfl, rfl, hlc⟩
  · rcases cutM t _ q with ⟨h1, h2⟩ | ⟨h1, h2⟩ | ⟨h1, h2⟩
    · have := mo.hd t j h2
      rw [List.getElem?_append_left (List.getElem?_eq_some_iff.mp this).1]
      exact this
    · cases h2
    · cases h2
      simp
end
theorem shp_ints (ns : List Int) : SeqAt.shaped (.list (ns.map PyData.int)) = true := by
  have h1 : ∀ ns : List Int, PyData.canLayAll0 (ns.map PyData.int) = true := fun ns => by
    induction ns with
    | nil => rfl
    | cons n r ih =>
      rw [List.map_cons]
      unfold PyData.canLayAll0
      rw [ih]
      rfl
  have h2 : ∀ ns : List Int, PyData.depthAll (ns.map PyData.int) = 0 := fun ns => by
    induction ns with
    | nil => rfl
    | cons n r ih =>
      rw [List.map_cons]
      unfold PyData.depthAll
      rw [ih]
      rfl
  unfold SeqAt.shaped PyData.canLay0 PyData.depth
  rw [h1, h2]
  decide
theorem dp_ints {K : PySem.W.Frag} {H : Hp} : ∀ ns : List Int, DpAll K H (ns.map V.int) (ns.map PyData.int)
  | [] => .nil
  | n :: r => .cons (.int n) (dp_ints r)
theorem eqv_nil (ns : List Int) : PyData.eqv (.list (ns.map PyData.int)) (.list []) = ns.isEmpty := by
  cases ns with
  | nil => simp [PyData.eqv, PyData.eqvAll]
  | cons n r => simp [PyData.eqv, PyData.eqvAll]
/-- the promise of a draw -/
def spDraw : DSp := fun bs mu R => ∃ (j i : Nat) (many : Int), bs = [.ref j, .dat (.int many)] ∧ mu[j]? = some (.deck i) ∧ 0 < many ∧ many.natAbs < 2 ^ 8000 ∧ ∀ r : Int, 0 ≤ r → r < many → R (.dat (.int r)) mu
/-- the promise of a deck's making -/
def spDeck : DSp := fun bs mu R => ∃ ns : List Int, bs = [.dat (.list (ns.map D.int))] ∧ ns.length ≤ 63 ∧ R (.ref (mu.length + 1)) (mu ++ [.hid, .deck mu.length])
theorem reps_ints {K : PySem.W.Frag} {al : AL} {H : Hp} : ∀ {ns : List Int} {xs : List V}, Reps K al H (ns.map D.int) xs → xs = ns.map V.int
  | [], _, h => h
  | n :: r, _, h => by
    obtain ⟨x, y, h1, h2, h3⟩ := h
    have e : x = .int n := h2
    rw [h1, e, reps_ints h3] <;> rfl
theorem ints_reps {K : PySem.W.Frag} {al : AL} {H : Hp} : ∀ ns : List Int, Reps K al H (ns.map D.int) (ns.map V.int)
  | [] => rfl
  | n :: r => ⟨.int n, _, rfl, rfl, ints_reps r⟩
theorem at_0 {α : Type} (a : α) (r : List α) : atI (a :: r) 0 = some a := atI_nat (j := 0) rfl
theorem at_1 {α : Type} (a b : α) (r : List α) : atI (a :: b :: r) 1 = some b := atI_nat (j := 1) rfl
theorem at_2 {α : Type} (a b c : α) (r : List α) : atI (a :: b :: c :: r) 2 = some c := atI_nat (j := 2) rfl
theorem at_3 {α : Type} (a b c d : α) (r : List α) : atI (a :: b :: c :: d :: r) 3 = some d := atI_nat (j := 3) rfl
theorem at_4 {α : Type} (a b c d e : α) (r : List α) : atI (a :: b :: c :: d :: e :: r) 4 = some e := atI_nat (j := 4) rfl
theorem at_5 {α : Type} (a b c d e f : α) (r : List α) : atI (a :: b :: c :: d :: e :: f :: r) 5 = some f := atI_nat (j := 5) rfl
theorem isT_int (i : Int) (T : Ty) : isT (.int i) T = decide (T = .int) := by cases T <;> rfl
theorem isT_str (i : Str) (T : Ty) : isT (.str i) T = decide (T = .str) := by cases T <;> rfl
theorem isT_none (T : Ty) : isT .none T = false := by cases T <;> rfl
theorem isT_list (i : List D) (T : Ty) : isT (.list i) T = decide (T = .list) := by cases T <;> rfl
theorem isT_tuple (i : List D) (T : Ty) : isT (.tuple i) T = decide (T = .tuple) := by cases T <;> rfl
theorem isT_bool (b : Bool) (T : Ty) : isT (.bool b) T = (decide (T = .bool) || decide (T = .int)) := by cases T <;> rfl
end DL

set_option Elab.async false
set_option linter.all false
set_option maxRecDepth 100000
set_option maxHeartbeats 4000000
/-! the ends: a law's def called with a script, from the promise FnD -/
namespace DL
open PySem L2 PySem.Spec PyProof.Rows
theorem only_hp (K : PySem.W.Frag) (a : Addr) (u : HO) : ∃ H : Hp, (∀ b o, H b = some o → b = a ∧ o = u ∧ K.lookup a = none) ∧ (K.lookup a = none → H a = some u) := by
  cases hk : K.lookup a with
  | some o => exact ⟨fun _ => none, ⟨fun b o z => (nomatch (show (none : Option HO) = some o from z)), fun z => (nomatch z)⟩⟩
  | none =>
    refine ⟨fun b => if b = a then some u else none, ⟨fun b o z => ?_, fun _ => if_pos rfl⟩⟩
    by_cases hb : b = a
    · have z' := (if_pos hb).symm.trans z
      cases z'
      exact ⟨hb, rfl, rfl⟩
    · have z' := (if_neg hb).symm.trans z
      cases z'
theorem reps_of_ints {K : PySem.W.Frag} {al : AL} {H : Hp} : ∀ ns : List Int, Reps K al H (ns.map D.int) (ns.map V.int)
  | [] => rfl
  | n :: r => ⟨_, _, rfl, rfl, reps_of_ints r⟩
theorem law_D {k : Kit} {P : Program} {w : World} {mg mb : Str → Option Value} {r : Nat} {fa a : Addr} {fd : FuncData} {x : Str} {sp : DSp} {s : Shared} {vs : List Value} {ns : List Int}
    (KX : k.K.In s.heap) (hns : s.heap.Ns mainGlobals mg) (hb : s.heap.Ns builtinsNs mb) (hbb : ∀ x : Str, x ≠ "__name__" → mb x = bootBuiltins x) (hlim : s.heap.NoLimit) (hg : s.gens = #[])
    (ha : s.heap.get? a = some { cls := .type "list", data := .seq vs.toArray }) (hi : IntsAre vs ns) (hl : ns.length ≤ sizeLine) (hr : Room r callerA)
    (F : ∀ base : Heap, k.K.In base → base.Ns mainGlobals mg → FnD k P w mg base r fa fd [x] sp) (hbind : ∀ (s : Shared) (u : Value), BindsTo s fd ⟨[u], []⟩ [(x, u)])
    (hsp : ∀ (mu : Mu) (R : B → Mu → Prop), (∀ mu, R (.dat (.bool true)) mu) → sp [.dat (.list (ns.map D.int))] mu R) :
    codeAny (model P w) callerA (.call (.ref fa) ⟨[.ref a], []⟩) (fun r s' => r = .ok (.ret (.bool true)) ∧ OldK s.heap s'.heap ∧ s'.os = s.os ∧ AllBare s'.gens) s := by
  obtain ⟨H, hH, hin⟩ := only_hp k.K a (.frz { cls := .type "list", data := .seq vs.toArray } (.lst (ns.map V.int)))
  have rv := vals_ints hi
  have keepB : ∀ {b : Addr} {o : Obj}, s.heap.get? b = some o → H b = none → (hidT s.heap H).get? b = some o := fun e n => hidT_get e n
  have noB : ∀ {b : Addr} {o : Obj} {es : Array DictEntry} {ep : Nat}, s.heap.get? b = some o → o.data = .dict es ep → H b = none := fun {b o es ep} e d => by
    cases q : H b with
    | none => rfl
    | some u =>
      obtain ⟨rfl, _, _⟩ := hH b u q
      rw [ha] at e
      cases e
      have d' : Data.seq vs.toArray _ = Data.dict es ep := d
      cases d'
  have nsB : ∀ {b : Addr} {m : Str → Option Value}, s.heap.Ns b m → (hidT s.heap H).Ns b m := fun {b m} ⟨o, es, ep, e, d, r⟩ => ⟨o, es, ep, keepB e (noB e d), d, r⟩
  have hKb : k.K.In (hidT s.heap H) := fun b o e => keepB (KX b o e) (by
    cases q : H b with
    | none => rfl
    | some u =>
      obtain ⟨rfl, _, hn⟩ := hH b u q
      rw [hn] at e
      cases e)
  have hM : Mod k.K mg (hidT s.heap H) := ⟨hKb, nsB hns, ⟨mb, nsB hb, hbb⟩, let ⟨mc, h1, h2⟩ := hlim; ⟨mc, nsB h1, h2⟩⟩
  have hok : HOk P w H s.heap := fun b u z => by
    obtain ⟨rfl, rfl, _⟩ := hH b u z
    exact ⟨ha, by rw [List.length_map]; exact hl, vs, _, rv, ha⟩
  have e0 : Env0 P w k.K mg (hidT s.heap H) callerA [] s H := ⟨rfl, hM, fun b o e => of_hidT e, Nat.le_of_eq (hidT_size _ _), trivial, fun b hb => absurd (show b ∈ ([] : List Addr) from hb) (by simp), hok, .of_eq hg⟩
  have fz : FzL k.K [] H a (ns.map V.int) := by
    cases hk : k.K.lookup a with
    | none => exact .inl ⟨.inr ⟨_, hin hk⟩, by simp⟩
    | some o =>
      have e := KX a o hk
      rw [ha] at e
      cases e
      exact .inr (.inr ⟨_, vs.toArray, _, hk, rfl, rfl, rfl, by rw [List.size_toArray, hi.length]; exact hl, by simpa using rv⟩)
  have mok : MuOk k.K k.DK [] H [] := ⟨rfl, fun i j b q => by simp at q, fun i m q => by simp at q, fun i j q => by simp at q⟩
  refine codeAny_mono ((F _ hKb (nsB hns)).run callerA [] s H ⟨[.ref a], []⟩ [.ref a] [.ref a] (fun v _ => v = .bl true) hr (fun _ => rfl) e0 (hbind s (.ref a)) (.cons rfl .nil)
    ⟨[], [.dat (.list (ns.map D.int))], [], fun b _ => b = .dat (.bool true), ⟨_, _, rfl, ⟨a, _, rfl, fz, reps_of_ints ns⟩, rfl⟩, mok, hsp _ _ fun _ => rfl, fun v H' al' b mu' _ _ rb e => by
      subst e
      exact rb⟩) fun r s' h => ?_
  cases r with
  | error e => exact h.elim
  | ok fl =>
    cases fl with
    | next => exact False.elim h
    | brk => exact False.elim h
    | cont => exact False.elim h
    | ret u =>
      obtain ⟨v, H', os, bare, un, hok', r', q⟩ := h
      have q' : v = .bl true := q
      subst q'
      obtain rfl : u = Value.bool true := r'
      refine ⟨rfl, OldK.of_keep fun b o e => ?_, os, bare⟩
      cases q : H b with
      | none => exact un.keep b o e q (by intro z; exact absurd (show b ∈ ([] : List Addr) from z) (by simp)) (by simp)
      | some u =>
        obtain ⟨rfl, rfl, _⟩ := hH b u q
        obtain ⟨e1, _⟩ := hok b _ q
        obtain ⟨e2, _⟩ := hok' b _ (un.frzs b _ _ q)
        rw [e] at e1
        cases e1
        exact e2
theorem walk_D {l : PySem.W.OpenLaw} {n r : Nat} {q : Program} {loose : List Str} {XP : (Str → Option Value) → Heap → Prop} {YP : World → Heap → Prop} {d : DefRec} {K : Params → PySem.W.Frag} {DK : Addr → HO → HO → Prop} {x : Str} {sp : DSp}
    (hn : l.most = some n) (hn2 : n ≤ sizeLine) (hdf : d.params.defaults = []) (hr : Room r callerA)
    (hY : ∀ (w : World) (h : Heap), YP w h → (K w.params).In h)
    (F : ∀ (w : World) (mg : Str → Option Value) (fa : Addr) (h : Heap), (K w.params).In h → h.Ns mainGlobals mg → mg d.name = some (.ref fa) →
      ∃ fd : FuncData, (∀ (s : Shared) (u : Value), BindsTo s fd ⟨[u], []⟩ [(x, u)]) ∧ ∀ base : Heap, (K w.params).In base → base.Ns mainGlobals mg → FnD ⟨K w.params, DK, true⟩ l.prog w mg base r fa fd [x] sp)
    (hsp : ∀ (ns : List Int), ns.length ≤ n → ∀ (mu : Mu) (R : B → Mu → Prop), (∀ mu, R (.dat (.bool true)) mu) → sp [.dat (.list (ns.map D.int))] mu R) :
    PySem.W.WalkO q loose XP YP l.row.toRowW d [] (fun f vs => PySem.call f vs) := by
  refine Att.attach_call hn hdf fun w s₀ s₁ mg mb fa o pm cd doc a vs ns G Y ho hd hcd hmg hobj hints hlen hg => ?_
  have KX := hY w _ Y
  obtain ⟨fd, hb, hF⟩ := F w mg fa _ KX G.T.g hmg
  exact law_D (k := ⟨K w.params, DK, true⟩) KX G.T.g G.T.b G.T.builtins G.T.nolimit hg hobj hints (Nat.le_trans hlen hn2) hr hF hb (hsp ns hlen)
/-! what stands in the module -/
section
variable {k : Kit} {h : Heap} {mg : Str → Option Value}
theorem fn0_of {g : Bool} {K : PySem.W.Frag} {DK : Addr → HO → HO → Prop} {x : Str} {st : Stmt} {ps : List Str} {f : Addr} {oc kV doc pm cdv ct : Value} {od an : Option Addr} {osl : Array (Option Value)} (X : K.In h) (G : h.Ns mainGlobals mg)
    (a : PySem.W.nsIn K mainGlobals x = some (some (.ref f))) (l : K.lookup f = some ⟨oc, od, .func (PySem.W.fnOf x x (defArgs st) (defBody st) (defScope st) .none kV doc pm an cdv ct), osl⟩) (c : PySem.W.codeIn K cdv x = true) (q : PySem.W.keepIn K (.ref f) = true)
    (b : ∀ (kV doc pm : Value) (an : Option Addr) (cdv ct : Value) (us : List Value), us.length = ps.length → bindArgs (PySem.W.fnOf x x (defArgs st) (defBody st) (defScope st) .none kV doc pm an cdv ct) ⟨us, []⟩ = pure (ps.zip us)) : Fn0 ⟨K, DK, g⟩ mg x st ps :=
  ⟨f, _, fun_mk l c q, PySem.W.mg_of X G a, Fun.binds (fun_mk l c q) b⟩
/-- a tuple of two ints that the module keeps -/
theorem rep_two {K : PySem.W.Frag} {a : Addr} {i j : Int} {t1 t2 : Tok} {od : Option Addr} {n : Nat} {sl : Array (Option Value)} (l : K.lookup a = some ⟨.type "tuple", od, .seq #[.int i t1, .int j t2] n, sl⟩) (al : AL) (H : Hp) : Rep K al H (.tuple [.int i, .int j]) (.ref a) :=
  ⟨a, [.int i, .int j], rfl, .inr (.inr ⟨_, _, n, l, rfl, rfl, by show 2 ≤ sizeLine; decide, .cons ⟨t1, rfl⟩ (.cons ⟨t2, rfl⟩ .nil)⟩), _, _, rfl, rfl, _, _, rfl, rfl, rfl⟩
theorem fun_same {K : PySem.W.Frag} {x q : Str} {st : Stmt} {f : Addr} {fd fd' : FuncData} {oc : Value} {od : Option Addr} {sl : Array (Option Value)} (F : L2.Fun K x q st f fd) (l : K.lookup f = some ⟨oc, od, .func fd', sl⟩) : fd = fd' := by
  obtain ⟨oc2, od2, kV, doc, pm, an, cdv, ct, osl, rfl, lk, hcd⟩ := F.ex
  rw [lk] at l
  cases l
  rfl
end
end DL

set_option Elab.async false
set_option linter.all false
set_option maxRecDepth 100000
set_option maxHeartbeats 4000000
/-! a bool less a bool -/
namespace DL
open PySem L2 PySem.Spec PyProof.Rows
def b2 (c : Bool) : Int := if c = true then 1 else 0
def wSubB : SemO2 := fun b c mu Q => match b, c with
  | .dat (.bool i), .dat (.bool j) => Q (.dat (.int (b2 i - b2 j))) mu
  | _, _ => False
def rSubB : V → V → Hp → VK → Prop := fun x y H Q => ∃ i j, x = .bl i ∧ y = .bl j ∧ Q (.int (b2 i - b2 j)) H
variable {X : Cx} {k : Kit}
theorem op_subB : OpR X (binaryOp .Sub) rSubB := by
  intro pins s σ H x y v u Q I rx ry h
  obtain ⟨i, j, rfl, rfl, q⟩ := h
  cases rx
  cases ry
  exact PyProof.Rows.sub_bool ⟨.int (b2 i - b2 j), H, I.tok _, ⟨_, rfl⟩, q⟩
theorem o_subB : OpD k X (binaryOp .Sub) wSubB := by
  refine ⟨_, op_subB, fun al H x y b c mu Q Q' m rb rc q kk => ?_⟩
  unfold wSubB at q
  split at q
  · exact ⟨_, _, rb, rc, kk _ H al (.dat (.int _)) mu Ext.refl m rfl q⟩
  · exact q.elim
end DL

set_option Elab.async false
set_option linter.all false
set_option maxRecDepth 100000
set_option maxHeartbeats 4000000
/-! own lists; methods -/
namespace DL
open PySem L2 PySem.Spec PyProof.Rows
section
variable {X : Cx} {k : Kit} {es : List Expr} {mm : SemA} {pos : Pos}
/-- what has just been made -/
theorem new_ref {al : AL} {H : Hp} {mu : Mu} {p : Addr} (m : MuOk k.K k.DK al H mu) : RepB k.K (al ++ [some p]) H (.ref mu.length) (.ref p) := ⟨p, by rw [← m.len]; simp, rfl⟩
theorem new_own {al : AL} {H : Hp} {mu : Mu} {p : Addr} {xs : List V} {ds : List D} (m : MuOk k.K k.DK al H mu) (n : H p = none) (r : Reps k.K al H ds xs) :
    Ext al H (al ++ [some p]) (upd H p (.lst xs)) ∧ MuOk k.K k.DK (al ++ [some p]) (upd H p (.lst xs)) (mu ++ [.lst ds]) ∧ RepB k.K (al ++ [some p]) (upd H p (.lst xs)) (.ref mu.length) (.ref p) :=
  ⟨(m.newO n r).1, (m.newO n r).2, p, by rw [← m.len]; simp, rfl⟩
def sLstO (m : SemA) : SemE := fun en mu Q => m en mu fun bs mu1 => match dats bs with
  | some ds => ds.length ≤ sizeLine ∧ Q (.ref mu1.length) (mu1 ++ [.lst ds])
  | none => False
theorem d_lstO (h : PA X es (tDA k mm)) : PE X (.List es pos) (tD k (sLstO mm)) :=
  pe_imp (pe_lst h) fun σ H Q' q => by
    obtain ⟨al, en, mu, Q, st, q, kk⟩ := q
    refine ⟨al, en, mu, _, st, q, fun vs H1 al1 bs mu1 e1 st1 r1 q1 => ?_⟩
    split at q1
    · rename_i ds e
      refine ⟨by rw [r1.length, ← dats_length e]; exact q1.1, fun p hp => ?_⟩
      obtain ⟨e2, m2, r2⟩ := new_own st1.mu hp (dats_reps r1 e)
      exact kk _ _ _ (.ref mu1.length) _ (e1.trans e2) (st1.ext e2 m2) r2 q1.2
    · exact q1.elim
/-! methods -/
def rcvT (T : String) (b : B) (mu : Mu) : Prop := match b with
  | .dat (.str _) => T = "str"
  | .dat (.list _) => T = "list"
  | .ref j => match mu[j]? with
    | some (.lst _) => T = "list"
    | some (.dK _) => T = "dict"
    | some (.dT _) => T = "dict"
    | _ => False
  | _ => False
theorem rcv_ty {al : AL} {H : Hp} {mu : Mu} {T : String} {b : B} {v : V} (m : MuOk k.K k.DK al H mu) (r : RepB k.K al H b v) (h : rcvT T b mu) : tyV k.K T v H := by
  unfold rcvT at h
  split at h
  · cases (show v = _ from r)
    exact h
  · obtain ⟨a, xs, rfl, h2, _⟩ := r
    exact .inl ⟨h, xs, h2.sq⟩
  · obtain ⟨a, h1, rfl⟩ := r
    split at h
    · rename_i ds hj
      obtain ⟨b, xs, g1, g2, _⟩ := m.ok _ _ hj
      rw [h1] at g1
      cases g1
      exact .inl ⟨h, xs, SqL.of g2⟩
    · rename_i ds hj
      obtain ⟨b, xs, g1, g2, _⟩ := m.ok _ _ hj
      rw [h1] at g1
      cases g1
      exact .inr (.inr (.inl ⟨h, .inl ⟨xs, g2⟩⟩))
    · rename_i ds hj
      obtain ⟨b, xs, g1, g2, _⟩ := m.ok _ _ hj
      rw [h1] at g1
      cases g1
      exact .inr (.inr (.inl ⟨h, .inr ⟨xs, g2⟩⟩))
    · exact h.elim
  · exact h.elim
def MethD (k : Kit) (X : Cx) (id : String) (w : B → SemB) : Prop :=
  ∃ r : V → List V → Hp → VK → Prop, MtR X id r ∧ ∀ al H v vs b bs mu Q (Q' : VK), MuOk k.K k.DK al H mu → RepB k.K al H b v → RepBs k.K al H bs vs → w b bs mu Q →
    (∀ v' H' al' d mu', Ext al H al' H' → MuOk k.K k.DK al' H' mu' → RepB k.K al' H' d v' → Q d mu' → Q' v' H') → r v vs H Q'
def sMeth (T : String) (w : B → SemB) (mo : SemE) (ma : SemA) : SemE := fun en mu Q => mo en mu fun b mu1 => rcvT T b mu1 ∧ ma en mu1 fun bs mu2 => w b bs mu2 Q
variable {o e : Expr} {mo : SemE} {ma : SemA} {w : B → SemB} {name : Str} {apos cpos : Pos} {T id : String}
theorem d_meth (hK : X.K = k.K) (pa : PlainAttrs T) (slot : Slot T name id) (hty : typeOf (.builtin id) = pure (.type "method_descriptor")) (hm : MethD k X id w) (ho : PE X o (tD k mo)) (ha : PA X (e :: es) (tDA k ma))
    (hbase : attributeBase o name X.env (eval o X.env) = eval o X.env := by rfl)
    (hfew : ((backTo cpos (starEach (e :: es) X.env)).all (fun x => !x.1) && (backToKw cpos (keywordEach [] X.env)).all (fun x => x.1.isSome)
      && decide ((e :: es).length + ([] : List Keyword).length + (if ([] : List Keyword).isEmpty then 0 else 1) < 30)) = true := by rfl)
    (hline : (apos.endLine == cpos.line) = true := by rfl) (hs : starEach (e :: es) X.env = (false, eval e X.env) :: starEach es X.env := by rfl) (hplain : (backTo cpos (starEach es X.env)).any (·.1) = false := by rfl) :
    PE X (.Call (.Attribute o name apos) (e :: es) [] cpos) (tD k (sMeth T w mo ma)) := by
  obtain ⟨r, h1, h2⟩ := hm
  refine pe_imp (pe_bm pa slot hty h1 ho ha hbase hfew hline hs hplain) fun σ H Q' q => ?_
  obtain ⟨al, en, mu, Q, st, q, kk⟩ := q
  refine ⟨al, en, mu, _, st, q, fun v H1 al1 b mu1 e1 st1 r1 q1 => ⟨by rw [hK]; exact rcv_ty st1.mu r1 q1.1, al1, en, mu1, _, st1, q1.2, fun vs H2 al2 bs mu2 e2 st2 r2 q2 => ?_⟩⟩
  exact h2 al2 H2 v vs b bs mu2 Q Q' st2.mu (r1.ext e2) r2 q2 fun v' H' al' d mu' e3 m3 r3 q3 => kk v' H' al' d mu' ((e1.trans e2).trans e3) (st2.ext e3 m3) r3 q3
theorem d_meth0 (hK : X.K = k.K) (pa : PlainAttrs T) (slot : Slot T name id) (hty : typeOf (.builtin id) = pure (.type "method_descriptor")) (hm : MethD k X id w) (ho : PE X o (tD k mo))
    (hbase : attributeBase o name X.env (eval o X.env) = eval o X.env := by rfl) (hline : (apos.endLine == cpos.line) = true := by rfl) :
    PE X (.Call (.Attribute o name apos) [] [] cpos) (tD k (sMeth T w mo sNil)) := by
  obtain ⟨r, h1, h2⟩ := hm
  refine pe_imp (pe_bm0 pa slot hty h1 ho hbase hline) fun σ H Q' q => ?_
  obtain ⟨al, en, mu, Q, st, q, kk⟩ := q
  refine ⟨al, en, mu, _, st, q, fun v H1 al1 b mu1 e1 st1 r1 q1 => ⟨by rw [hK]; exact rcv_ty st1.mu r1 q1.1, ?_⟩⟩
  exact h2 al1 H1 v [] b [] mu1 Q Q' st1.mu r1 rfl q1.2 fun v' H' al' d mu' e3 m3 r3 q3 => kk v' H' al' d mu' (e1.trans e3) (st1.ext e3 m3) r3 q3
/-- one own list -/
theorem own_l {al : AL} {H : Hp} {mu : Mu} {j : Nat} {v : V} {ds : List D} (m : MuOk k.K k.DK al H mu) (r : RepB k.K al H (.ref j) v) (h : mu[j]? = some (.lst ds)) : ∃ a xs, v = .ref a ∧ al[j]? = some (some a) ∧ H a = some (.lst xs) ∧ Reps k.K al H ds xs := by
  obtain ⟨a, h1, rfl⟩ := r
  obtain ⟨b, xs, g1, g2, g3⟩ := m.ok j _ h
  rw [h1] at g1
  cases g1
  exact ⟨a, xs, rfl, h1, g2, g3⟩
def wApp (b : B) : SemB := fun bs mu Q => match b, bs with
  | .ref j, [.dat d] => ∃ ds, mu[j]? = some (.lst ds) ∧ ds.length < sizeLine ∧ Q (.dat .none) (mu.set j (.lst (ds ++ [d])))
  | _, _ => False
theorem c_append : MethD k X "list.append" wApp := by
  refine ⟨_, mt_append, fun al H v vs b bs mu Q Q' m rb rs q kk => ?_⟩
  unfold wApp at q
  split at q
  · rename_i j d
    obtain ⟨ds, hj, hz, q⟩ := q
    obtain ⟨a, xs, rfl, ha, g2, g3⟩ := own_l m rb hj
    obtain ⟨y, rfl, hy⟩ := reps1 rs
    obtain ⟨e2, m2⟩ := m.setL ha hj (g3.app (Reps.one hy))
    exact ⟨a, xs, y, rfl, rfl, g2, by rw [g3.length]; exact hz, kk _ _ al (.dat .none) _ e2 m2 rfl q⟩
  · exact q.elim
def wPop (b : B) : SemB := fun bs mu Q => match b, bs with
  | .ref j, [] => ∃ ds d, mu[j]? = some (.lst (ds ++ [d])) ∧ Q (.dat d) (mu.set j (.lst ds))
  | _, _ => False
theorem c_pop : MethD k X "list.pop" wPop := by
  refine ⟨_, mt_pop, fun al H v vs b bs mu Q Q' m rb rs q kk => ?_⟩
  unfold wPop at q
  split at q
  · rename_i j
    obtain ⟨ds, d, hj, q⟩ := q
    obtain ⟨a, xs, rfl, ha, g2, g3⟩ := own_l m rb hj
    cases (show vs = [] from rs)
    have hl := g3.length
    rw [List.length_append, List.length_singleton] at hl
    obtain ⟨y, h1, h2⟩ := g3.get (i := ds.length) (d := d) (by simp)
    have hd : Reps k.K al H ds xs.dropLast := by
      have : ∀ (ds : List D) (xs : List V), Reps k.K al H (ds ++ [d]) xs → Reps k.K al H ds xs.dropLast := by
        intro ds
        induction ds with
        | nil =>
          rintro xs ⟨x, r, rfl, _, h⟩
          cases (show r = [] from h)
          rfl
        | cons c cs ih =>
          rintro xs ⟨x, r, rfl, h1, h⟩
          have hr : r ≠ [] := fun z => by
            have := h.length
            rw [z] at this
            have h2 : (cs ++ [d]).length = cs.length + 1 := by simp
            have h3 : (0 : Nat) = (cs ++ [d]).length := this
            omega
          refine ⟨x, r.dropLast, ?_, h1, ih r h⟩
          rw [List.dropLast_cons_of_ne_nil hr]
      exact this ds xs g3
    obtain ⟨e2, m2⟩ := m.setL ha hj hd
    refine ⟨a, xs, y, rfl, rfl, g2, by rw [hl]; exact h1, kk _ _ al (.dat d) _ e2 m2 (Rep.ext e2 _ _ h2) q⟩
  · exact q.elim
theorem Reps.erase {K : PySem.W.Frag} {al : AL} {H : Hp} : ∀ {ds : List D} {xs : List V} (i : Nat), Reps K al H ds xs → Reps K al H (ds.eraseIdx i) (xs.eraseIdx i)
  | [], xs, i, h => by
    cases (show xs = [] from h)
    exact rfl
  | d :: ds, xs, 0, h => by
    obtain ⟨x, r, rfl, h1, h2⟩ := h
    exact h2
  | d :: ds, xs, i + 1, h => by
    obtain ⟨x, r, rfl, h1, h2⟩ := h
    exact ⟨x, _, rfl, h1, Reps.erase i h2⟩
def wPopI (b : B) : SemB := fun bs mu Q => match b, bs with
  | .ref j, [.dat (.int i)] => (-(2 ^ 63) ≤ i ∧ i < 2 ^ 63) ∧ ∃ ds n d, mu[j]? = some (.lst ds) ∧ seqIndex? i ds.length = some n ∧ ds[n]? = some d ∧ Q (.dat d) (mu.set j (.lst (ds.eraseIdx n)))
  | _, _ => False
theorem c_popI : MethD k X "list.pop" wPopI := by
  refine ⟨_, mt_popAt, fun al H v vs b bs mu Q Q' m rb rs q kk => ?_⟩
  unfold wPopI at q
  split at q
  · rename_i j i
    obtain ⟨hb, ds, n, d, hj, hn, hd, q⟩ := q
    obtain ⟨a, xs, rfl, ha, g2, g3⟩ := own_l m rb hj
    obtain ⟨y, rfl, hy⟩ := reps1 rs
    cases (show y = _ from hy)
    obtain ⟨z, h1, h2⟩ := g3.get hd
    obtain ⟨e2, m2⟩ := m.setL ha hj (Reps.erase n g3)
    exact ⟨a, xs, i, n, z, rfl, rfl, g2, hb.1, hb.2, by rw [g3.length]; exact hn, h1, kk _ _ al (.dat d) _ e2 m2 (Rep.ext e2 _ _ h2) q⟩
  · exact q.elim
def wExt (b : B) : SemB := fun bs mu Q => match b, bs with
  | .ref j, [.ref i] => ∃ ds es, mu[j]? = some (.lst ds) ∧ mu[i]? = some (.lst es) ∧ ds.length + es.length ≤ sizeLine ∧ Q (.dat .none) (mu.set j (.lst (ds ++ es)))
  | _, _ => False
theorem c_extend : MethD k X "list.extend" wExt := by
  refine ⟨_, mt_extend, fun al H v vs b bs mu Q Q' m rb rs q kk => ?_⟩
  unfold wExt at q
  split at q
  · rename_i j i
    obtain ⟨ds, es, hj, hi, hz, q⟩ := q
    obtain ⟨a, xs, rfl, ha, g2, g3⟩ := own_l m rb hj
    obtain ⟨y, rfl, hy⟩ := reps1 rs
    obtain ⟨c, ys, rfl, hc, f2, f3⟩ := own_l m hy hi
    obtain ⟨e2, m2⟩ := m.setL ha hj (g3.app f3)
    exact ⟨a, c, xs, ys, rfl, rfl, g2, f2, by rw [g3.length, f3.length]; exact hz, kk _ _ al (.dat .none) _ e2 m2 rfl q⟩
  · exact q.elim
/-! + of own lists -/
def wCatL : SemO2 := fun b c mu Q => match b, c with
  | .ref j, .ref i => ∃ ds es, mu[j]? = some (.lst ds) ∧ mu[i]? = some (.lst es) ∧ ds.length + es.length ≤ sizeLine ∧ Q (.ref mu.length) (mu ++ [.lst (ds ++ es)])
  | _, _ => False
theorem o_catL : OpD k X (binaryOp .Add) wCatL := by
  refine ⟨_, op_cat, fun al H x y b c mu Q Q' m rb rc q kk => ?_⟩
  unfold wCatL at q
  split at q
  · rename_i j i
    obtain ⟨ds, es, hj, hi, hz, q⟩ := q
    obtain ⟨a, xs, rfl, ha, g2, g3⟩ := own_l m rb hj
    obtain ⟨c, ys, rfl, hc, f2, f3⟩ := own_l m rc hi
    refine ⟨a, c, xs, ys, rfl, rfl, g2, f2, by rw [g3.length, f3.length]; exact hz, fun p hp => ?_⟩
    obtain ⟨e2, m2, r2⟩ := new_own m hp (g3.app f3)
    exact kk _ _ _ (.ref mu.length) _ e2 m2 r2 q
  · exact q.elim
end
end DL

set_option Elab.async false
set_option linter.all false
set_option maxRecDepth 100000
set_option maxHeartbeats 4000000
/-! slices; tuples and texts -/
namespace DL
open PySem L2 PySem.Spec PyProof.Rows
section
variable {X : Cx} {k : Kit}
theorem Reps.drop {K : PySem.W.Frag} {al : AL} {H : Hp} : ∀ {ds : List D} {xs : List V} (i : Nat), Reps K al H ds xs → Reps K al H (ds.drop i) (xs.drop i)
  | [], xs, i, h => by
    cases (show xs = [] from h)
    rw [List.drop_nil, List.drop_nil]
    rfl
  | d :: ds, xs, 0, h => h
  | d :: ds, xs, i + 1, h => by
    obtain ⟨x, r, rfl, h1, h2⟩ := h
    exact Reps.drop i h2
theorem Reps.take {K : PySem.W.Frag} {al : AL} {H : Hp} : ∀ {ds : List D} {xs : List V} (i : Nat), Reps K al H ds xs → Reps K al H (ds.take i) (xs.take i)
  | [], xs, i, h => by
    cases (show xs = [] from h)
    rw [List.take_nil, List.take_nil]
    rfl
  | d :: ds, xs, 0, h => rfl
  | d :: ds, xs, i + 1, h => by
    obtain ⟨x, r, rfl, h1, h2⟩ := h
    exact ⟨x, _, rfl, h1, Reps.take i h2⟩
/-- the items of a slice -/
def cutD (ds : List D) (lo hi : Option Int) : List D := (ds.drop (HT.sIx ds.length 0 lo)).take (HT.sIx ds.length ds.length hi - HT.sIx ds.length 0 lo)
theorem Reps.cut {K : PySem.W.Frag} {al : AL} {H : Hp} {ds : List D} {xs : List V} (lo hi : Option Int) (h : Reps K al H ds xs) : Reps K al H (cutD ds lo hi) (cutV xs lo hi) := by
  unfold cutD cutV
  rw [h.length]
  exact (h.drop _).take _
theorem cutD_whole {ds : List D} {lo hi : Option Int} (h : HT.sIx ds.length 0 lo = 0 ∧ HT.sIx ds.length ds.length hi = ds.length) : cutD ds lo hi = ds := by
  unfold cutD
  rw [h.1, h.2, List.drop_zero, Nat.sub_zero, List.take_length]
abbrev SemO := En → Mu → (Option Int → Mu → Prop) → Prop
def tDO (k : Kit) (m : SemO) : TO := fun σ H Q' => ∃ al en mu Q, Stt k.K k.DK al σ H en mu ∧ m en mu Q ∧
  ∀ o H' al' mu', Ext al H al' H' → Stt k.K k.DK al' σ H' en mu' → Q o mu' → Q' o H'
def sNoP : SemO := fun _ mu Q => Q none mu
def sPt (m : SemE) : SemO := fun en mu Q => m en mu fun b mu1 => match b with
  | .dat (.int i) => Q (some i) mu1
  | _ => False
theorem po_imp {e : Option Expr} {t t' : TO} (h : PO X e t) (i : ∀ σ H Q, t' σ H Q → t σ H Q) : PO X e t' := ⟨fun pins s σ H Q I q => h.run pins s σ H Q I (i σ H Q q)⟩
theorem p_no : PO X none (tDO k sNoP) := po_imp po_none fun σ H Q' q => by
  obtain ⟨al, en, mu, Q, st, q, kk⟩ := q
  exact kk none H al mu Ext.refl st q
theorem p_pt {e : Expr} {m : SemE} (h : PE X e (tD k m)) : PO X (some e) (tDO k (sPt m)) := po_imp (po_some h) fun σ H Q' q => by
  obtain ⟨al, en, mu, Q, st, q, kk⟩ := q
  refine ⟨al, en, mu, _, st, q, fun v H1 al1 b mu1 e1 st1 r1 q1 => ?_⟩
  split at q1
  · exact ⟨_, r1, kk _ H1 al1 mu1 e1 st1 q1⟩
  · exact q1.elim
/-- a slice of a tuple, a list (a new one), a text -/
def wSl (b : B) (lo hi : Option Int) (mu : Mu) (Q : B → Mu → Prop) : Prop := match b with
  | .dat (.tuple ds) => Q (.dat (.tuple (cutD ds lo hi))) mu
  | .dat (.list ds) => Q (.ref mu.length) (mu ++ [.lst (cutD ds lo hi)])
  | .dat (.str x) => x.length ≤ sizeLine ∧ Q (.dat (.str (cutS x lo hi))) mu
  | .ref j => ∃ ds, mu[j]? = some (.lst ds) ∧ Q (.ref mu.length) (mu ++ [.lst (cutD ds lo hi)])
  | _ => False
def sSl (m : SemE) (l h : SemO) : SemE := fun en mu Q => m en mu fun b mu1 => l en mu1 fun lo mu2 => h en mu2 fun hi mu3 => wSl b lo hi mu3 Q
theorem d_slice {e : Expr} {lo hi : Option Expr} {m : SemE} {l h : SemO} {p2 pos : Pos} (hK : X.K = k.K) (he : PE X e (tD k m)) (hl : PO X lo (tDO k l)) (hh : PO X hi (tDO k h)) : PE X (.Subscript e (.Slice lo hi none p2) pos) (tD k (sSl m l h)) :=
  pe_imp (pe_slice ((sl_tupA.or sl_list).or sl_str) he hl hh) fun σ H Q' q => by
    obtain ⟨al, en, mu, Q, st, q, kk⟩ := q
    refine ⟨al, en, mu, _, st, q, fun v H1 al1 b mu1 e1 st1 r1 q1 => ⟨al1, en, mu1, _, st1, q1, fun lo H2 al2 mu2 e2 st2 q2 => ⟨al2, en, mu2, _, st2, q2, fun hi H3 al3 mu3 e3 st3 q3 => ?_⟩⟩⟩
    have r3 := r1.ext (e2.trans e3)
    have e0 := (e1.trans e2).trans e3
    have fin : ∀ a xs ds, SqL k.K H3 a xs → Reps k.K al3 H3 ds xs → Q (.ref mu3.length) (mu3 ++ [.lst (cutD ds lo hi)]) → ∀ p, H3 p = none → Q' (.ref p) (upd H3 p (.lst (cutV xs lo hi))) := fun a xs ds _ h3 q p hp => by
      obtain ⟨e4, m4, r4⟩ := new_own st3.mu hp (h3.cut lo hi)
      exact kk _ _ _ (.ref mu3.length) _ (e0.trans e4) (st3.ext e4 m4) r4 q
    unfold wSl at q3
    rw [hK]
    split at q3
    · obtain ⟨a, xs, rfl, h2, h3⟩ := r3
      refine .inl (.inl ⟨a, xs, rfl, h2.sq, fun hw => ?_, fun _ p hp => ?_⟩)
      · have hw' := hw
        rw [h3.length] at hw'
        rw [cutD_whole hw'] at q3
        exact kk _ H3 al3 (.dat (.tuple _)) mu3 e0 st3 ⟨a, xs, rfl, h2, h3⟩ q3
      · obtain ⟨e4, m4⟩ := st3.mu.newF (o := .tup (cutV xs lo hi)) hp
        exact kk _ _ al3 (.dat (.tuple _)) mu3 (e0.trans e4) (st3.ext e4 m4) ⟨p, _, rfl, .inl ⟨.inl upd_same, st3.mu.free hp⟩, Reps.ext e4 _ _ (h3.cut lo hi)⟩ q3
    · obtain ⟨a, xs, rfl, h2, h3⟩ := r3
      exact .inl (.inr ⟨a, xs, rfl, h2.sq, fin a xs _ h2.sq h3 q3⟩)
    · exact .inr ⟨_, r3, q3.1, kk _ H3 al3 (.dat (.str _)) mu3 e0 st3 rfl q3.2⟩
    · obtain ⟨ds, hj, q3⟩ := q3
      obtain ⟨a, xs, rfl, ha, g2, g3⟩ := own_l st3.mu r3 hj
      exact .inl (.inr ⟨a, xs, rfl, SqL.of g2, fin a xs _ (SqL.of g2) g3 q3⟩)
    · exact q3.elim
/-- + of tuples -/
def wCatT : SemO2 := fun b c mu Q => match b, c with
  | .dat (.tuple ds), .dat (.tuple es) => ds.length + es.length ≤ sizeLine ∧ Q (.dat (.tuple (ds ++ es))) mu
  | _, _ => False
theorem o_catT (hK : X.K = k.K) : OpD k X (binaryOp .Add) wCatT := by
  refine ⟨_, op_catA, fun al H x y b c mu Q Q' m rb rc q kk => ?_⟩
  unfold wCatT at q
  split at q
  · rename_i ds es
    obtain ⟨a, xs, rfl, h2, h3⟩ := rb
    obtain ⟨a', ys, rfl, g2, g3⟩ := rc
    rw [hK]
    refine ⟨a, a', xs, ys, rfl, rfl, h2.sq, g2.sq, by rw [h3.length, g3.length]; exact q.1, fun z => ?_, fun _ z => ?_, fun _ _ p hp => ?_⟩
    · have e : ds = [] := List.eq_nil_of_length_eq_zero (by rw [← h3.length, z]; rfl)
      have q2 := q.2
      rw [e, List.nil_append] at q2
      exact kk _ H al (.dat (.tuple es)) mu Ext.refl m ⟨a', ys, rfl, g2, g3⟩ q2
    · have e : es = [] := List.eq_nil_of_length_eq_zero (by rw [← g3.length, z]; rfl)
      have q2 := q.2
      rw [e, List.append_nil] at q2
      exact kk _ H al (.dat (.tuple ds)) mu Ext.refl m ⟨a, xs, rfl, h2, h3⟩ q2
    · obtain ⟨e4, m4⟩ := m.newF (o := .tup (xs ++ ys)) hp
      exact kk _ _ al (.dat (.tuple _)) mu e4 m4 ⟨p, _, rfl, .inl ⟨.inl upd_same, m.free hp⟩, Reps.ext e4 _ _ (h3.app g3)⟩ q.2
  · exact q.elim
/-- + of texts -/
def wCatS : SemO2 := fun b c mu Q => match b, c with
  | .dat (.str x), .dat (.str y) => x.length + y.length ≤ sizeLine ∧ Q (.dat (.str (x ++ y))) mu
  | _, _ => False
theorem o_catS : OpD k X (binaryOp .Add) wCatS := by
  refine ⟨_, op_add_str, fun al H x y b c mu Q Q' m rb rc q kk => ?_⟩
  unfold wCatS at q
  split at q
  · exact ⟨_, _, rb, rc, q.1, kk _ H al (.dat (.str _)) mu Ext.refl m rfl q.2⟩
  · exact q.elim
/-- the order of texts -/
def ltS (x y : Str) : Bool := decide (x.cps.toList < y.cps.toList)
def wLtS : SemO2 := fun b c mu Q => match b, c with
  | .dat (.str x), .dat (.str y) => Q (.dat (.bool (ltS x y))) mu
  | _, _ => False
theorem o_ltS : OpD k X (compareOp .Lt) wLtS := by
  refine ⟨_, op_lt_str, fun al H x y b c mu Q Q' m rb rc q kk => ?_⟩
  unfold wLtS at q
  split at q
  · exact ⟨_, _, rb, rc, kk _ H al (.dat (.bool _)) mu Ext.refl m rfl q⟩
  · exact q.elim
end
end DL

set_option Elab.async false
set_option linter.all false
set_option maxRecDepth 100000
set_option maxHeartbeats 4000000
/-! items, walks, texts, conversions -/
namespace DL
open PySem L2 PySem.Spec PyProof.Rows
section
variable {X : Cx} {k : Kit} {tg : Expr}
/-- the i-th sign -/
def sgnAt (x : Str) (i : Int) : Option D := (atI x.cps.toList i).map fun c => .str ⟨#[c]⟩
def wIxA : SemO2 := fun b c mu Q => match b, c with
  | .dat (.tuple ds), .dat (.int i) => ∃ d, atI ds i = some d ∧ Q (.dat d) mu
  | .dat (.list ds), .dat (.int i) => ∃ d, atI ds i = some d ∧ Q (.dat d) mu
  | .dat (.str x), .dat (.int i) => x.length ≤ sizeLine ∧ ∃ c, atI x.cps.toList i = some c ∧ Q (.dat (.str ⟨#[c]⟩)) mu
  | .ref j, .dat (.int i) => ∃ ds d, mu[j]? = some (.lst ds) ∧ atI ds i = some d ∧ Q (.dat d) mu
  | _, _ => False
theorem d_ixA {a b : Expr} {ma mb : SemE} {pos : Pos} (hK : X.K = k.K) (ha : PE X a (tD k ma)) (hb : PE X b (tD k mb)) (hs : PlainIx b) : PE X (.Subscript a b pos) (tD k (sOp2 wIxA ma mb)) :=
  pe_imp (pe_ix ix_seq ha hb hs) (op2_imp (f := fun _ _ => pure .none) fun al H x y b c mu Q Q' m rb rc q kk => by
    unfold wIxA at q
    unfold rIx
    rw [hK]
    split at q
    · rename_i ds i
      obtain ⟨d, hd, q⟩ := q
      obtain ⟨a, xs, h1, h2, h3⟩ := rb
      obtain ⟨v, g1, g2⟩ := atI_reps h3 hd
      exact .inr (.inl ⟨a, xs, i, v, h1, rc, h2.sq, g1, kk _ H al (.dat d) mu Ext.refl m g2 q⟩)
    · rename_i ds i
      obtain ⟨d, hd, q⟩ := q
      obtain ⟨a, xs, h1, h2, h3⟩ := rb
      obtain ⟨v, g1, g2⟩ := atI_reps h3 hd
      exact .inl ⟨a, xs, i, v, h1, rc, h2.sq, g1, kk _ H al (.dat d) mu Ext.refl m g2 q⟩
    · rename_i z i
      obtain ⟨hz, c, hc, q⟩ := q
      exact .inr (.inr ⟨z, i, c, rb, rc, hz, hc, kk _ H al (.dat (.str _)) mu Ext.refl m rfl q⟩)
    · rename_i j i
      obtain ⟨ds, d, hj, hd, q⟩ := q
      obtain ⟨a, xs, h1, ha, g2, g3⟩ := own_l m rb hj
      obtain ⟨v, g4, g5⟩ := atI_reps g3 hd
      exact .inl ⟨a, xs, i, v, h1, rc, SqL.of g2, g4, kk _ H al (.dat d) mu Ext.refl m g5 q⟩
    · exact q.elim)
/-! the signs of a text, walked -/
def signsD (x : Str) : List D := x.cps.toList.map fun c => .str ⟨#[c]⟩
theorem wk_S {al : AL} {H : Hp} {x : Str} : Wk k (Its x) (signsD x) (fun _ => True) al H where
  go := fun al1 H1 mu i d e m _ hd => by
    unfold signsD at hd
    rw [List.getElem?_map] at hd
    cases q : x.cps.toList[i]? with
    | none =>
      rw [q] at hd
      cases hd
    | some c =>
      rw [q] at hd
      cases hd
      have hi := (List.getElem?_eq_some_iff.mp q).1
      refine ⟨by show i < x.cps.size; rw [← Array.length_toList]; exact hi, ?_⟩
      rintro v H' ⟨rfl, c', h1, rfl⟩
      rw [← Array.getElem?_toList, q] at h1
      cases h1
      exact ⟨Ext.refl, m, rfl⟩
  stop := fun al1 H1 mu e m _ => by
    show x.cps.size ≤ (signsD x).length
    unfold signsD
    rw [List.length_map, Array.length_toList]
    exact Nat.le_refl _
def sItS (m : SemE) : SemI := fun en mu Q => m en mu fun b mu1 => match b with
  | .dat (.str x) => Q (signsD x) (fun _ => True) mu1
  | _ => False
theorem i_str {e : Expr} {m : SemE} (h : PE X e (tD k m)) : PI X tg e (tDI k (sItS m)) :=
  pi_imp (pi_str h) fun σ H R q => by
    obtain ⟨al, en, mu, Q, st, q, kk⟩ := q
    refine ⟨al, en, mu, _, st, q, fun v H1 al1 b mu1 e1 st1 r1 q1 => ?_⟩
    split at q1
    · rename_i x
      exact ⟨x, r1, kk _ H1 al1 _ _ mu1 e1 st1 wk_S q1⟩
    · exact q1.elim
/-! texts -/
theorem reps_strs {K : PySem.W.Frag} {al : AL} {H : Hp} : ∀ ys : List Str, Reps K al H (ys.map D.str) (ys.map V.str)
  | [] => rfl
  | y :: r => ⟨_, _, rfl, rfl, reps_strs r⟩
theorem strs_reps {K : PySem.W.Frag} {al : AL} {H : Hp} : ∀ {ys : List Str} {xs : List V}, Reps K al H (ys.map D.str) xs → xs = ys.map V.str
  | [], _, h => h
  | y :: r, _, h => by
    obtain ⟨x, rr, h1, h2, h3⟩ := h
    have e : x = .str y := h2
    rw [h1, e, strs_reps h3] <;> rfl
def wSplit (b : B) : SemB := fun bs mu Q => match b, bs with
  | .dat (.str a), [.dat (.str c)] => (c.length == 0) = false ∧ a.length + 2 ≤ sizeLine ∧ Q (.ref mu.length) (mu ++ [.lst ((Txt.split a c).map D.str)])
  | _, _ => False
theorem c_split : MethD k X "str.split" wSplit := by
  refine ⟨_, mt_split, fun al H v vs b bs mu Q Q' m rb rs q kk => ?_⟩
  unfold wSplit at q
  split at q
  · rename_i a c
    obtain ⟨y, rfl, hy⟩ := reps1 rs
    cases (show v = _ from rb)
    cases (show y = _ from hy)
    refine ⟨a, c, rfl, rfl, q.1, q.2.1, fun p hp => ?_⟩
    obtain ⟨e2, m2, r2⟩ := new_own m hp (reps_strs (Txt.split a c))
    exact kk _ _ _ (.ref mu.length) _ e2 m2 r2 q.2.2
  · exact q.elim
/-- what a list or tuple holds -/
def seqOf (mu : Mu) : B → Option (List D)
  | .dat (.list ds) => some ds
  | .dat (.tuple ds) => some ds
  | .ref j => match mu[j]? with
    | some (.lst ds) => some ds
    | _ => none
  | _ => none
theorem seqOf_sq {al : AL} {H : Hp} {mu : Mu} {b : B} {v : V} {ds : List D} (m : MuOk k.K k.DK al H mu) (r : RepB k.K al H b v) (h : seqOf mu b = some ds) : ∃ a xs, v = .ref a ∧ (SqL k.K H a xs ∨ SqT k.K H a xs) ∧ Reps k.K al H ds xs := by
  unfold seqOf at h
  split at h
  · cases h
    obtain ⟨a, xs, h1, h2, h3⟩ := r
    exact ⟨a, xs, h1, .inl h2.sq, h3⟩
  · cases h
    obtain ⟨a, xs, h1, h2, h3⟩ := r
    exact ⟨a, xs, h1, .inr h2.sq, h3⟩
  · split at h
    · rename_i hj
      cases h
      obtain ⟨a, xs, h1, _, g2, g3⟩ := own_l m r hj
      exact ⟨a, xs, h1, .inl (SqL.of g2), g3⟩
    · cases h
  · cases h
def wJoin (b : B) : SemB := fun bs mu Q => match b, bs with
  | .dat (.str a), [c] => ∃ ys : List Str, seqOf mu c = some (ys.map D.str) ∧ (ys.map (·.length)).sum + ys.length * a.length ≤ 16777216 ∧ Q (.dat (.str (Txt.join a ys))) mu
  | _, _ => False
theorem c_join (hK : X.K = k.K) : MethD k X "str.join" wJoin := by
  refine ⟨_, mt_join, fun al H v vs b bs mu Q Q' m rb rs q kk => ?_⟩
  unfold wJoin at q
  split at q
  · rename_i a c
    obtain ⟨ys, hs, hz, q⟩ := q
    obtain ⟨y, rfl, hy⟩ := reps1 rs
    cases (show v = _ from rb)
    obtain ⟨p, xs, rfl, h2, h3⟩ := seqOf_sq m hy hs
    rw [strs_reps h3] at h2
    rw [hK]
    exact ⟨a, p, ys, rfl, rfl, h2, hz, kk _ H al (.dat (.str _)) mu Ext.refl m rfl q⟩
  · exact q.elim
def wUpper (b : B) : SemB := fun bs mu Q => match b, bs with
  | .dat (.str a), [] => a.length ≤ 5592405 ∧ Q (.dat (.str (Txt.upper a))) mu
  | _, _ => False
theorem c_upper : MethD k X "str.upper" wUpper := by
  refine ⟨_, mt_upper, fun al H v vs b bs mu Q Q' m rb rs q kk => ?_⟩
  unfold wUpper at q
  split at q
  · rename_i a
    cases (show vs = [] from rs)
    cases (show v = _ from rb)
    exact ⟨a, rfl, rfl, q.1, kk _ H al (.dat (.str _)) mu Ext.refl m rfl q.2⟩
  · exact q.elim
/-! list(), tuple() of lists and tuples -/
def wList : SemB := fun bs mu Q => match bs with
  | [c] => ∃ ds, seqOf mu c = some ds ∧ Q (.ref mu.length) (mu ++ [.lst ds])
  | _ => False
theorem c_list (hK : X.K = k.K) : CallD k X (.type "list") wList := by
  refine ⟨_, call_list_of, fun al H vs bs mu Q Q' m rs q kk => ?_⟩
  unfold wList at q
  split at q
  · rename_i c
    obtain ⟨ds, hs, q⟩ := q
    obtain ⟨y, rfl, hy⟩ := reps1 rs
    obtain ⟨p, xs, rfl, h2, h3⟩ := seqOf_sq m hy hs
    rw [hK]
    refine ⟨p, xs, rfl, h2, fun l hl => ?_⟩
    obtain ⟨e2, m2, r2⟩ := new_own m hl h3
    exact kk _ _ _ (.ref mu.length) _ e2 m2 r2 q
  · exact q.elim
def wTuple : SemB := fun bs mu Q => match bs with
  | [c] => ∃ ds, seqOf mu c = some ds ∧ Q (.dat (.tuple ds)) mu
  | _ => False
theorem c_tuple (hK : X.K = k.K) : CallD k X (.type "tuple") wTuple := by
  refine ⟨_, call_tuple_of, fun al H vs bs mu Q Q' m rs q kk => ?_⟩
  unfold wTuple at q
  split at q
  · rename_i c
    obtain ⟨ds, hs, q⟩ := q
    obtain ⟨y, rfl, hy⟩ := reps1 rs
    rw [hK]
    have newT : ∀ (xs : List V), Reps k.K al H ds xs → ∀ l, H l = none → Q' (.ref l) (upd H l (.tup xs)) := fun xs h3 l hl => by
      obtain ⟨e4, m4⟩ := m.newF (o := .tup xs) hl
      exact kk _ _ al (.dat (.tuple ds)) mu e4 m4 ⟨l, xs, rfl, .inl ⟨.inl upd_same, m.free hl⟩, Reps.ext e4 _ _ h3⟩ q
    unfold seqOf at hs
    split at hs
    · cases hs
      obtain ⟨a, xs, rfl, h2, h3⟩ := hy
      exact ⟨a, xs, rfl, .inl ⟨h2.sq, newT xs h3⟩⟩
    · cases hs
      obtain ⟨a, xs, rfl, h2, h3⟩ := id hy
      exact ⟨a, xs, rfl, .inr ⟨h2.sq, kk _ H al (.dat (.tuple ds)) mu Ext.refl m hy q⟩⟩
    · split at hs
      · rename_i hj
        cases hs
        obtain ⟨a, xs, rfl, _, g2, g3⟩ := own_l m hy hj
        exact ⟨a, xs, rfl, .inl ⟨SqL.of g2, newT xs g3⟩⟩
      · cases hs
    · cases hs
  · exact q.elim
/-! all, any of a list of bools; sorted of texts -/
theorem reps_bools {K : PySem.W.Frag} {al : AL} {H : Hp} : ∀ {ys : List Bool} {xs : List V}, Reps K al H (ys.map D.bool) xs → xs = ys.map V.bl
  | [], _, h => h
  | y :: r, _, h => by
    obtain ⟨x, rr, h1, h2, h3⟩ := h
    have e : x = .bl y := h2
    rw [h1, e, reps_bools h3] <;> rfl
theorem seqOf_sqL {al : AL} {H : Hp} {mu : Mu} {b : B} {v : V} {ds : List D} (m : MuOk k.K k.DK al H mu) (r : RepB k.K al H b v) (nt : ∀ es, b ≠ .dat (.tuple es)) (h : seqOf mu b = some ds) : ∃ a xs, v = .ref a ∧ SqL k.K H a xs ∧ Reps k.K al H ds xs := by
  unfold seqOf at h
  split at h
  · cases h
    obtain ⟨a, xs, h1, h2, h3⟩ := r
    exact ⟨a, xs, h1, h2.sq, h3⟩
  · exact absurd rfl (nt _)
  · split at h
    · rename_i hj
      cases h
      obtain ⟨a, xs, h1, _, g2, g3⟩ := own_l m r hj
      exact ⟨a, xs, h1, SqL.of g2, g3⟩
    · cases h
  · cases h
/-- a list's items -/
def lstOf (mu : Mu) : B → Option (List D)
  | .dat (.list ds) => some ds
  | .ref j => match mu[j]? with
    | some (.lst ds) => some ds
    | _ => none
  | _ => none
theorem lstOf_sq {al : AL} {H : Hp} {mu : Mu} {b : B} {v : V} {ds : List D} (m : MuOk k.K k.DK al H mu) (r : RepB k.K al H b v) (h : lstOf mu b = some ds) : ∃ a xs, v = .ref a ∧ SqL k.K H a xs ∧ Reps k.K al H ds xs := by
  unfold lstOf at h
  split at h
  · cases h
    obtain ⟨a, xs, h1, h2, h3⟩ := r
    exact ⟨a, xs, h1, h2.sq, h3⟩
  · split at h
    · rename_i hj
      cases h
      obtain ⟨a, xs, h1, _, g2, g3⟩ := own_l m r hj
      exact ⟨a, xs, h1, SqL.of g2, g3⟩
    · cases h
  · cases h
def wAll : SemB := fun bs mu Q => match bs with
  | [c] => ∃ ys : List Bool, lstOf mu c = some (ys.map D.bool) ∧ Q (.dat (.bool (ys.all id))) mu
  | _ => False
theorem c_all (hK : X.K = k.K) (hc : X.calm = true) : CallD k X (.builtin "all") wAll := by
  refine ⟨_, cr_all hc, fun al H vs bs mu Q Q' m rs q kk => ?_⟩
  unfold wAll at q
  split at q
  · rename_i c
    obtain ⟨ys, hs, q⟩ := q
    obtain ⟨y, rfl, hy⟩ := reps1 rs
    obtain ⟨p, xs, rfl, h2, h3⟩ := lstOf_sq m hy hs
    rw [reps_bools h3] at h2
    rw [hK]
    exact ⟨p, ys, rfl, h2, kk _ H al (.dat (.bool _)) mu Ext.refl m rfl q⟩
  · exact q.elim
def wAny : SemB := fun bs mu Q => match bs with
  | [c] => ∃ ys : List Bool, lstOf mu c = some (ys.map D.bool) ∧ Q (.dat (.bool (ys.any id))) mu
  | _ => False
theorem c_any (hK : X.K = k.K) (hc : X.calm = true) : CallD k X (.builtin "any") wAny := by
  refine ⟨_, cr_any hc, fun al H vs bs mu Q Q' m rs q kk => ?_⟩
  unfold wAny at q
  split at q
  · rename_i c
    obtain ⟨ys, hs, q⟩ := q
    obtain ⟨y, rfl, hy⟩ := reps1 rs
    obtain ⟨p, xs, rfl, h2, h3⟩ := lstOf_sq m hy hs
    rw [reps_bools h3] at h2
    rw [hK]
    exact ⟨p, ys, rfl, h2, kk _ H al (.dat (.bool _)) mu Ext.refl m rfl q⟩
  · exact q.elim
/-- sorted of texts, below 64: some ascending arrangement -/
def wSortS : SemB := fun bs mu Q => match bs with
  | [c] => ∃ xs : List Str, lstOf mu c = some (xs.map D.str) ∧ xs.length < 64 ∧ ∀ ys : List Str, ys.Perm xs → sortedS ys = true → Q (.ref mu.length) (mu ++ [.lst (ys.map D.str)])
  | _ => False
theorem c_sortS (hK : X.K = k.K) : CallD k X (.builtin "sorted") wSortS := by
  refine ⟨_, cr_sortedS, fun al H vs bs mu Q Q' m rs q kk => ?_⟩
  unfold wSortS at q
  split at q
  · rename_i c
    obtain ⟨xs, hs, h64, q⟩ := q
    obtain ⟨y, rfl, hy⟩ := reps1 rs
    obtain ⟨p, vs, rfl, h2, h3⟩ := lstOf_sq m hy hs
    rw [strs_reps h3] at h2
    rw [hK]
    refine ⟨p, xs, rfl, h2, h64, fun ys l h4 h5 hl => ?_⟩
    obtain ⟨e2, m2, r2⟩ := new_own m hl (reps_strs ys)
    exact kk _ _ _ (.ref mu.length) _ e2 m2 r2 (q ys h4 h5)
  · exact q.elim
/-- str(int) -/
def wStrI : SemB := fun bs mu Q => match bs with
  | [.dat (.int i)] => i.natAbs.log2 < 1920 ∧ Q (.dat (.str (Str.ofString (toString i)))) mu
  | _ => False
theorem c_strI : CallD k X (.type "str") wStrI := by
  refine ⟨_, call_str_int, fun al H vs bs mu Q Q' m rs q kk => ?_⟩
  unfold wStrI at q
  split at q
  · rename_i i
    obtain ⟨y, rfl, hy⟩ := reps1 rs
    cases (show y = _ from hy)
    exact ⟨i, rfl, q.1, kk _ H al (.dat (.str _)) mu Ext.refl m rfl q.2⟩
  · exact q.elim
/-! in, not in: flat items -/
def flatD : D → Bool
  | .none | .bool _ | .int _ | .str _ => true
  | _ => false
def toV : D → V
  | .none => .non
  | .bool b => .bl b
  | .int i => .int i
  | .str x => .str x
  | _ => .non
theorem rep_flat {K : PySem.W.Frag} {al : AL} {H : Hp} {d : D} {v : V} (f : flatD d = true) (h : Rep K al H d v) : v = toV d ∧ flatV v = true := by
  cases d with
  | none =>
    cases (show v = V.non from h)
    exact ⟨rfl, rfl⟩
  | bool b =>
    cases (show v = V.bl b from h)
    exact ⟨rfl, rfl⟩
  | int b =>
    cases (show v = V.int b from h)
    exact ⟨rfl, rfl⟩
  | str b =>
    cases (show v = V.str b from h)
    exact ⟨rfl, rfl⟩
  | _ => cases f
theorem reps_flat {K : PySem.W.Frag} {al : AL} {H : Hp} : ∀ {ds : List D} {xs : List V}, ds.all flatD = true → Reps K al H ds xs → xs = ds.map toV ∧ xs.all flatV = true
  | [], xs, _, h => by
    cases (show xs = [] from h)
    exact ⟨rfl, rfl⟩
  | d :: ds, xs, f, h => by
    obtain ⟨x, r, rfl, h1, h2⟩ := h
    rw [List.all_cons, Bool.and_eq_true] at f
    obtain ⟨e1, f1⟩ := rep_flat f.1 h1
    obtain ⟨e2, f2⟩ := reps_flat f.2 h2
    rw [List.all_cons, f1, f2, e1, e2]
    exact ⟨rfl, rfl⟩
/-- == of flat data -/
def inD (d : D) (ds : List D) : Bool := inV (toV d) (ds.map toV)
def wIn (neg : Bool) : SemO2 := fun b c mu Q => match b with
  | .dat d => flatD d = true ∧ ∃ ds, seqOf mu c = some ds ∧ ds.all flatD = true ∧ Q (.dat (.bool (if neg then !inD d ds else inD d ds))) mu
  | _ => False
theorem wIn_imp (neg : Bool) {al : AL} {H : Hp} {x y : V} {b c : B} {mu : Mu} {Q : B → Mu → Prop} {Q' : VK} (m : MuOk k.K k.DK al H mu) (rb : RepB k.K al H b x) (rc : RepB k.K al H c y) (q : wIn neg b c mu Q)
    (kk : ∀ v H' al' d mu', Ext al H al' H' → MuOk k.K k.DK al' H' mu' → RepB k.K al' H' d v → Q d mu' → Q' v H') : rIn k.K neg x y H Q' := by
  unfold wIn at q
  split at q
  · rename_i d
    obtain ⟨fd, ds, hs, fs, q⟩ := q
    obtain ⟨p, xs, rfl, h2, h3⟩ := seqOf_sq m rc hs
    obtain ⟨e1, f1⟩ := rep_flat fd rb
    obtain ⟨e2, f2⟩ := reps_flat fs h3
    refine ⟨p, xs, rfl, h2, f1, f2, ?_⟩
    rw [e1, e2]
    exact kk _ H al (.dat (.bool _)) mu Ext.refl m rfl q
  · exact q.elim
theorem o_in (hK : X.K = k.K) : OpD k X (compareOp .In) (wIn false) := by
  refine ⟨_, op_in_seq, fun al H x y b c mu Q Q' m rb rc q kk => ?_⟩
  rw [hK]
  exact wIn_imp false m rb rc q kk
theorem o_notIn (hK : X.K = k.K) : OpD k X (compareOp .NotIn) (wIn true) := by
  refine ⟨_, op_notIn_seq, fun al H x y b c mu Q Q' m rb rc q kk => ?_⟩
  rw [hK]
  exact wIn_imp true m rb rc q kk
end
end DL

set_option Elab.async false
set_option linter.all false
set_option maxRecDepth 100000
set_option maxHeartbeats 4000000
/-! callables as values; one sign in a text -/
namespace DL
open PySem L2 PySem.Spec PyProof.Rows
/-- the def at f keeps the promise d -/
structure FnAt (k : Kit) (P : Program) (w : World) (mg : Str → Option Value) (base : Heap) (r : Nat) (f : Addr) (d : DSp) : Prop where
  ex : ∃ fd ps, PySem.W.keepIn k.K (.ref f) = true ∧ Binds k.K fd ps [] ∧ FnD k P w mg base r f fd ps d
section
variable {X : Cx} {k : Kit} {P : Program} {w : World} {mg : Str → Option Value} {base : Heap} {r r' : Nat}
variable {x : Str} {st : Stmt} {ps : List Str} {d : DSp} {e : Expr} {es : List Expr} {m : SemA} {p pos : Pos}
theorem FnIn.at (F : FnIn k P w mg base r x st ps d) {f : Addr} (h : mg x = some (.ref f)) : FnAt k P w mg base r f d := by
  obtain ⟨f', fd, h1, h2, h3, h4⟩ := F.ex
  rw [h2] at h
  cases h
  exact ⟨fd, ps, h1.kp, h3, h4⟩
theorem FnAt.imp {x' : Addr} (F : FnAt k P w mg base r x' d) {d' : DSp} (h : ∀ bs mu R, d' bs mu R → d bs mu R) : FnAt k P w mg base r x' d' := by
  obtain ⟨fd, ps, h1, h3, h4⟩ := F.ex
  refine ⟨fd, ps, h1, h3, fun bs mu R q => h4.len bs mu R (h _ _ _ q), fun A outer s H args us vs Q hr hg e hb hv hs => h4.run A outer s H args us vs Q hr hg e hb hv ?_⟩
  obtain ⟨al, bs, mu, R, q1, q2, q3, q4⟩ := hs
  exact ⟨al, bs, mu, R, q1, q2, h _ _ _ q3, q4⟩
/-- the callable in the i-th slot is called -/
def sCallL (S : Addr → DSp → Prop) (i : Nat) (m : SemA) : SemE := fun en mu Q => ∃ f d, en[i]? = some (some (.dat (.fn f))) ∧ S f d ∧ m en mu fun bs mu1 => d bs mu1 Q
theorem d_callL {i : Nat} (C : In k X P w mg base r) (hN : X.N[i]? = some x) (hv : Vis X.env.scope x) (ha : PA X (e :: es) (tDA k m)) (hr : r' ≤ r) (hdb : (x == ("__debug__" : Str)) = false := by decide) (hcd : (x == ("__classdict__" : Str)) = false := by decide)
    (he : starEach (e :: es) X.env = (false, eval e X.env) :: starEach es X.env := by rfl) (hpl : (backTo pos (starEach es X.env)).any (·.1) = false := by rfl) :
    PE X (.Call (.Name x p) (e :: es) [] pos) (tD k (sCallL (FnAt k P w mg base r') i m)) := by
  obtain ⟨rfl, rfl, hK, rfl, rfl, rm, gd, _⟩ := C
  refine ⟨fun pins s σ H Q I h => ?_⟩
  obtain ⟨al, en, mu, Q0, st, ⟨f, d, hf, hS, q⟩, kk⟩ := h
  obtain ⟨fd, ps, h1, h3, h4⟩ := hS.ex
  obtain ⟨v, hs, hv0⟩ := st.sl i _ hf
  have ev : v = .ref f := hv0
  rw [ev] at hs
  have h : tD k (sCall d m) σ H Q := ⟨al, en, mu, Q0, st, q, kk⟩
  refine wpAny_Call_Name_kw (thn ((pe_var (pos := p) hN hv hdb hcd).run pins s σ H (fun v H1 => v = .ref f ∧ H1 = H) I ⟨.ref f, hs, rfl, rfl⟩) fun u s1 ⟨v, H1, I1, r1, q1⟩ => ?_)
  obtain ⟨ev2, eH⟩ := q1
  rw [ev2] at r1
  rw [eH] at I1
  cases r1
  refine PySem.W.callWith_K (h₀ := X.base) I.ok.mod.kin (by rw [hK]; exact h1) ?_ he hpl
  refine thn (ha.run pos pins s1 σ H _ I1 (call_imp (fun _ _ _ z => z) h)) fun us s1 ⟨vs, H1, I1, rv, q⟩ => ⟨I1.kIn, ?_⟩
  have hl : us.length = ps.length := by rw [← rv.length]; exact liftSp_len h4.len q
  refine cr_end I1 (h4.run X.A X.stack s1 H1 ⟨us, []⟩ us vs _ (rm.mono hr) gd (by rw [← hK]; exact I1.env0) ?_ rv q) rfl
  have hb := h3 s1 us (by rw [← hK]; exact I1.kIn) (by rw [List.append_nil]; exact hl)
  rw [List.append_nil] at hb
  exact hb
theorem d_fn {f : Addr} (hg : Gl X x) (hm : X.mg x = some (.ref f)) (hd : (x == ("__debug__" : Str)) = false := by decide) : PE X (.Name x pos) (tD k (sC (.fn f))) :=
  d_glob (v := .ref f) hg hm rfl (fun _ _ => rfl) hd
/-! one sign in a text -/
def wInS (neg : Bool) : SemO2 := fun b c mu Q => match b, c with
  | .dat (.str x), .dat (.str z) => ∃ q : Nat, x = ⟨#[q]⟩ ∧ Q (.dat (.bool (if neg then !decide (q ∈ z.cps.toList) else decide (q ∈ z.cps.toList)))) mu
  | _, _ => False
theorem o_inS : OpD k X (compareOp .In) (wInS false) := by
  refine ⟨_, op_in_sign, fun al H x y b c mu Q Q' m rb rc q kk => ?_⟩
  unfold wInS at q
  split at q
  · obtain ⟨c, rfl, q⟩ := q
    exact ⟨c, _, rb, rc, kk _ H al (.dat (.bool _)) mu Ext.refl m rfl q⟩
  · exact q.elim
theorem o_notInS : OpD k X (compareOp .NotIn) (wInS true) := by
  refine ⟨_, op_notIn_sign, fun al H x y b c mu Q Q' m rb rc q kk => ?_⟩
  unfold wInS at q
  split at q
  · obtain ⟨c, rfl, q⟩ := q
    exact ⟨c, _, rb, rc, kk _ H al (.dat (.bool _)) mu Ext.refl m rfl q⟩
  · exact q.elim
end
end DL

set_option Elab.async false
set_option linter.all false
set_option maxRecDepth 100000
set_option maxHeartbeats 4000000
/-! enumerate; truth; dict(pairs) -/
namespace DL
open PySem L2 PySem.Spec PyProof.Rows
section
variable {X : Cx} {k : Kit}
def enumD (ds : List D) : List D := (List.range ds.length).zipWith (fun (i : Nat) d => .tuple [.int (i : Int), d]) ds
theorem enumD_get {ds : List D} {i : Nat} {d : D} (h : (enumD ds)[i]? = some d) : ∃ y, ds[i]? = some y ∧ d = .tuple [.int (i : Int), y] := by
  unfold enumD at h
  rw [List.getElem?_zipWith] at h
  cases q : ds[i]? with
  | none =>
    rw [q] at h
    cases e : (List.range ds.length)[i]? <;> rw [e] at h <;> cases h
  | some y =>
    have hi := (List.getElem?_eq_some_iff.mp q).1
    rw [q, List.getElem?_range hi] at h
    cases h
    exact ⟨y, rfl, rfl⟩
theorem enumD_length (ds : List D) : (enumD ds).length = ds.length := by
  unfold enumD
  simp
theorem wk_E {al : AL} {H : Hp} {a : Addr} {xs : List V} {ds : List D} (hK : X.K = k.K) (h : FzL k.K al H a xs) (r : Reps k.K al H ds xs) : Wk k (Ite X.K a) (enumD ds) (fun _ => True) al H where
  go := fun al1 H1 mu i d e m _ hd => by
    obtain ⟨y, hy, rfl⟩ := enumD_get hd
    rw [hK]
    obtain ⟨v, hv, rv⟩ := Reps.get (Reps.ext e _ _ r) hy
    refine ⟨⟨xs, v, (e.fzL h).sq, hv⟩, ?_⟩
    rintro w H' ⟨T, x, rfl, hT, rfl, q⟩
    have := q xs (e.fzL h).sq
    rw [hv] at this
    cases this
    obtain ⟨e2, m2⟩ := m.newF (o := .tup [.int (i : Nat), v]) hT
    exact ⟨e2, m2, T, _, rfl, .inl ⟨.inl upd_same, m.free hT⟩, _, _, rfl, rfl, v, [], rfl, Rep.ext e2 _ _ rv, rfl⟩
  stop := fun al1 H1 mu e m _ => by
    rw [hK]
    exact ⟨xs, (e.fzL h).sq, by rw [enumD_length, r.length]; exact Nat.le_refl _⟩
theorem wk_EO {al : AL} {H : Hp} {a : Addr} {j : Nat} {ds : List D} (hK : X.K = k.K) (ha : al[j]? = some (some a)) : Wk k (Ite X.K a) (enumD ds) (fun mu => mu[j]? = some (.lst ds)) al H where
  go := fun al1 H1 mu i d e m g hd => by
    obtain ⟨y, hy, rfl⟩ := enumD_get hd
    rw [hK]
    obtain ⟨b, xs, h1, h2, h3⟩ := m.ok j _ g
    rw [ext_at e ha] at h1
    cases h1
    obtain ⟨v, hv, rv⟩ := Reps.get h3 hy
    refine ⟨⟨xs, v, SqL.of h2, hv⟩, ?_⟩
    rintro w H' ⟨T, x, rfl, hT, rfl, q⟩
    have := q xs (SqL.of h2)
    rw [hv] at this
    cases this
    obtain ⟨e2, m2⟩ := m.newF (o := .tup [.int (i : Nat), v]) hT
    exact ⟨e2, m2, T, _, rfl, .inl ⟨.inl upd_same, m.free hT⟩, _, _, rfl, rfl, v, [], rfl, Rep.ext e2 _ _ rv, rfl⟩
  stop := fun al1 H1 mu e m g => by
    rw [hK]
    obtain ⟨b, xs, h1, h2, h3⟩ := m.ok j _ g
    rw [ext_at e ha] at h1
    cases h1
    exact ⟨xs, SqL.of h2, by rw [enumD_length, h3.length]; exact Nat.le_refl _⟩
def sEnum (mm : SemA) : SemI := fun en mu Q => mm en mu fun bs mu1 => match bs with
  | [.dat (.list ds)] => Q (enumD ds) (fun _ => True) mu1
  | [.ref j] => ∃ ds, mu1[j]? = some (.lst ds) ∧ Q (enumD ds) (fun mu => mu[j]? = some (.lst ds)) mu1
  | _ => False
theorem i_enum {e : Expr} {mm : SemA} {p pos tpos : Pos} {elts : List Expr} {kk : Nat} (hK : X.K = k.K) (hg : Gl X "enumerate") (hm : X.mg "enumerate" = none) (ha : PA X [e] (tDA k mm)) (hs : starEach [e] X.env = [(false, eval e X.env)] := by rfl) :
    PI X (.Tuple elts kk tpos) (.Call (.Name "enumerate" p) [e] [] pos) (tDI k (sEnum mm)) :=
  pi_imp (pi_enum hg hm ha hs) fun σ H R q => by
    obtain ⟨al, en, mu, Q, st, q, kk⟩ := q
    refine ⟨al, en, mu, _, st, q, fun vs H1 al1 bs mu1 e1 st1 r1 q1 => ?_⟩
    split at q1
    · rename_i ds
      obtain ⟨v, rfl, hv⟩ := reps1 r1
      obtain ⟨a, xs, rfl, h2, h3⟩ := hv
      exact ⟨a, xs, rfl, by rw [hK]; exact h2.sq, kk _ H1 al1 _ _ mu1 e1 st1 (wk_E hK h2 h3) q1⟩
    · rename_i j
      obtain ⟨ds, hj, q1⟩ := q1
      obtain ⟨v, rfl, hv⟩ := reps1 r1
      obtain ⟨a, xs, rfl, ha, g2, g3⟩ := own_l st1.mu hv hj
      exact ⟨a, xs, rfl, by rw [hK]; exact SqL.of g2, kk _ H1 al1 _ _ mu1 e1 st1 (wk_EO hK ha) q1⟩
    · exact q1.elim
/-! dict(pairs): keys texts or ints -/
def keyD : Key → D
  | .inl i => .int i
  | .inr x => .str x
def pairD (z : Key × D) : D := .tuple [keyD z.1, z.2]
def mergeD : List (Key × D) → List (Key × D) → List (Key × D)
  | acc, [] => acc
  | acc, (q, d) :: r => mergeD (if acc.any (fun z => z.1 = q) then acc.map (fun z => if z.1 = q then (q, d) else z) else acc ++ [(q, d)]) r
end
end DL

set_option Elab.async false
set_option linter.all false
set_option maxRecDepth 100000
set_option maxHeartbeats 4000000
/-! truth of any data -/
namespace DL
open PySem L2 PySem.Spec PyProof.Rows
section
variable {X : Cx} {k : Kit} {a : Expr} {m : SemE} {pos : Pos}
def rTru (K : PySem.W.Frag) : V → Hp → (Bool → Hp → Prop) → Prop := fun x H Q => (∃ k, TruV K x H k ∧ Q k H) ∨ ∃ a kvs, x = .ref a ∧ Rd H a (.dK kvs) ∧ Q (!kvs.isEmpty) H
theorem tru_D : TruR X (rTru X.K) := by
  intro pins s σ H x v Q I rx h
  rcases h with h | ⟨a, kvs, rfl, hx, q⟩
  · exact tru_ok pins s σ H x v Q I rx h
  · cases rx
    obtain ⟨hz, hS, vs, r, m⟩ := dk_rd I.hok hx
    have hlen : kvs.length = vs.length := Paired.length r
    have := line63
    exact wpAny_truthy_dict hS m (by omega) ⟨H, I.tok _, by rw [isEmpty_kv r]; exact q⟩
def truD : D → Option Bool
  | .none => some false
  | .bool b => some b
  | .int i => some (i != 0)
  | .str x => some ((x.length : Int) != 0)
  | .list ds => some (!ds.isEmpty)
  | .tuple ds => some (!ds.isEmpty)
  | .dK kvs => some (!kvs.isEmpty)
  | _ => none
def fitS : D → Prop
  | .str x => x.length ≤ sizeLine
  | _ => True
def truB (b : B) (mu : Mu) (Q : Bool → Prop) : Prop := match b with
  | .dat d => fitS d ∧ ∃ c, truD d = some c ∧ Q c
  | .ref j => ∃ ds, mu[j]? = some (.lst ds) ∧ Q (!ds.isEmpty)
theorem empty_reps {K : PySem.W.Frag} {al : AL} {H : Hp} {ds : List D} {xs : List V} (h : Reps K al H ds xs) : xs.isEmpty = ds.isEmpty := by
  cases ds with
  | nil =>
    cases (show xs = [] from h)
    rfl
  | cons d r =>
    obtain ⟨x, y, rfl, _⟩ := h
    rfl
theorem empty_repK {K : PySem.W.Frag} {al : AL} {H : Hp} {ds : List (Key × D)} {xs : List (Key × V)} (h : RepK K al H ds xs) : xs.isEmpty = ds.isEmpty := by
  cases ds with
  | nil =>
    cases (show xs = [] from h)
    rfl
  | cons d r =>
    obtain ⟨q, d⟩ := d
    obtain ⟨x, y, rfl, _⟩ := h
    rfl
theorem tru_of {al : AL} {H : Hp} {mu : Mu} {b : B} {v : V} {Q : Bool → Prop} {Q' : Bool → Hp → Prop} (mo : MuOk k.K k.DK al H mu) (r : RepB k.K al H b v) (q : truB b mu Q) (kk : ∀ c, Q c → Q' c H) : rTru k.K v H Q' := by
  unfold truB at q
  cases b with
  | ref j =>
    obtain ⟨ds, hj, q⟩ := q
    obtain ⟨a, xs, rfl, _, g2, g3⟩ := own_l mo r hj
    exact .inl ⟨!xs.isEmpty, .inl ⟨xs, SqL.of g2, rfl⟩, kk _ (by rw [empty_reps g3]; exact q)⟩
  | dat d =>
    obtain ⟨hf, c, hc, q⟩ := q
    cases d with
    | none =>
      cases hc
      cases (show v = V.non from r)
      exact .inl ⟨false, rfl, kk _ q⟩
    | bool b' =>
      have e : b' = c := by cases hc; rfl
      cases (show v = V.bl b' from r)
      exact .inl ⟨c, e.symm, kk _ q⟩
    | int i =>
      cases hc
      cases (show v = V.int i from r)
      exact .inl ⟨_, rfl, kk _ q⟩
    | str x =>
      cases hc
      cases (show v = V.str x from r)
      exact .inl ⟨_, ⟨hf, rfl⟩, kk _ q⟩
    | list ds =>
      cases hc
      obtain ⟨a, xs, rfl, h2, h3⟩ := r
      exact .inl ⟨!xs.isEmpty, .inl ⟨xs, h2.sq, rfl⟩, kk _ (by rw [empty_reps h3]; exact q)⟩
    | tuple ds =>
      cases hc
      obtain ⟨a, xs, rfl, h2, h3⟩ := r
      exact .inl ⟨!xs.isEmpty, .inr (.inl ⟨xs, h2.sq, rfl⟩), kk _ (by rw [empty_reps h3]; exact q)⟩
    | dK kvs =>
      cases hc
      obtain ⟨a, xs, rfl, h2, h3⟩ := r
      exact .inr ⟨a, xs, rfl, h2.1, kk _ (by rw [empty_repK h3]; exact q)⟩
    | _ => cases hc
def sTru (m : SemE) : SemT := fun en mu Q => m en mu fun b mu1 => truB b mu1 fun c => Q c mu1
theorem d_tru (h : PE X a (tD k m)) (hK : X.K = k.K) (he : ∀ whole, isTrue a X.env whole = (do let v ← whole; standAt a.pos; holding [v] (truthy v)) := by intro _; rfl) : PT X a (tDT k (sTru m)) := by
  refine ⟨fun pins s σ H Q I q => ?_⟩
  obtain ⟨al, en, mu, Q0, st, q, kk⟩ := q
  have hr : tD k m σ H (fun x H1 => rTru X.K x H1 fun c H2 => Q c H2) := by
    refine ⟨al, en, mu, _, st, q, fun v H1 al1 b mu1 e1 st1 r1 q1 => ?_⟩
    rw [hK]
    exact tru_of st1.mu r1 q1 fun c qc => kk c H1 al1 mu1 e1 st1 qc
  exact isTrue_plain (thn (h.run pins s σ H _ I hr) fun v s1 ⟨x, H1, I1, r1, q1⟩ => tru_D pins s1 σ H1 x v Q I1 r1 q1) (he _)
def sNotA (m : SemE) : SemE := fun en mu Q => m en mu fun b mu1 => truB b mu1 fun c => Q (.dat (.bool (!c))) mu1
theorem d_notA (h : PE X a (tD k m)) (hK : X.K = k.K) : PE X (.UnaryOp .Not a pos) (tD k (sNotA m)) := by
  refine ⟨fun pins s σ H Q I q => ?_⟩
  obtain ⟨al, en, mu, Q0, st, q, kk⟩ := q
  have hr : tD k m σ H (fun x H1 => rTru X.K x H1 fun c H2 => Q (.bl (!c)) H2) := by
    refine ⟨al, en, mu, _, st, q, fun v H1 al1 b mu1 e1 st1 r1 q1 => ?_⟩
    rw [hK]
    exact tru_of st1.mu r1 q1 fun c qc => kk _ H1 al1 (.dat (.bool (!c))) mu1 e1 st1 rfl qc
  refine UnaryOp_ (thn (h.run pins s σ H _ I hr) fun v s1 ⟨x, H1, I1, r1, q1⟩ => ?_)
  exact not_of (thn (tru_D pins s1 σ H1 x v (fun c H2 => Q (.bl (!c)) H2) I1 r1 q1) fun c s2 ⟨H2, I2, q2⟩ => ⟨.bl (!c), H2, I2, rfl, q2⟩)
end
end DL

set_option Elab.async false
set_option linter.all false
set_option maxRecDepth 100000
set_option maxHeartbeats 4000000
/-! a tuple == (); dict(pairs) -/
namespace DL
open PySem L2 PySem.Spec PyProof.Rows
section
variable {X : Cx} {k : Kit} {P : Program} {w : World} {mg : Str → Option Value} {base : Heap} {r : Nat}
def rEq0 (K : PySem.W.Frag) : R2 := fun x y H Q => ∃ a b xs, x = .ref a ∧ y = .ref b ∧ SqT K H a xs ∧ SqT K H b [] ∧ Q (.bl xs.isEmpty) H
theorem op_eq0 (hu : X.A.units < cLine) : OpR X (compareOp .Eq) (rEq0 X.K) := by
  intro pins s σ H x y v u Q I rx ry h
  obtain ⟨a, b, xs, rfl, rfl, ha, hb, q⟩ := h
  cases rx
  cases ry
  obtain ⟨its, r1, p1, _⟩ := I.tuple ha
  obtain ⟨its2, r2, p2, _⟩ := I.tuple hb
  cases r2
  refine SeqAt.eq_tupleAt (e := fun _ => true) p1 p2 hu (fun j h1 h2 => absurd h2 (by simp)) ?_
  refine ⟨.bl xs.isEmpty, H, I, ?_, q⟩
  show _ = Value.bool _
  congr 1
  cases r1 with
  | nil => rfl
  | cons h1 h2 => simp
/-- a tuple of anything, compared with () -/
def wEq0 : SemO2 := fun b c mu Q => match b, c with
  | .dat (.tuple ds), .dat (.tuple []) => Q (.dat (.bool ds.isEmpty)) mu
  | _, _ => False
theorem o_eq0 (C : In k X P w mg base r) : OpD k X (compareOp .Eq) wEq0 := by
  have hu := C.room.units
  refine ⟨_, op_eq0 (by omega), fun al H x y b c mu Q Q' m rb rc q kk => ?_⟩
  unfold wEq0 at q
  split at q
  · rename_i ds
    obtain ⟨a, xs, rfl, h2, h3⟩ := rb
    obtain ⟨a', ys, rfl, g2, g3⟩ := rc
    cases (show ys = [] from g3)
    rw [C.hK]
    refine ⟨a, a', xs, rfl, rfl, h2.sq, g2.sq, ?_⟩
    rw [empty_reps h3]
    exact kk _ H al (.dat (.bool _)) mu Ext.refl m rfl q
  · exact q.elim
/-! dict(pairs) -/
def putD (kvs : List (Key × D)) (q : Key) (d : D) : List (Key × D) :=
  if (kvs.any fun kv => decide (kv.1 = q)) = true then kvs.map (fun kv => if kv.1 = q then (kv.1, d) else kv) else kvs ++ [(q, d)]
def dictD (ps : List (Key × D)) : List (Key × D) := ps.foldl (fun acc kv => putD acc kv.1 kv.2) []
section
variable {K : PySem.W.Frag} {al : AL} {H : Hp}
theorem repK_any : ∀ {kvs : List (Key × D)} {ys : List (Key × V)} (q : Key), RepK K al H kvs ys → (ys.any fun kv => decide (kv.1 = q)) = kvs.any fun kv => decide (kv.1 = q)
  | [], ys, q, h => by
    cases (show ys = [] from h)
    rfl
  | (p, d) :: kvs, ys, q, h => by
    obtain ⟨x, rr, rfl, h1, h2⟩ := h
    rw [List.any_cons, List.any_cons, repK_any q h2]
theorem repK_map : ∀ {kvs : List (Key × D)} {ys : List (Key × V)} (q : Key) {d : D} {v : V}, Rep K al H d v → RepK K al H kvs ys → RepK K al H (kvs.map fun kv => if kv.1 = q then (kv.1, d) else kv) (ys.map fun kv => if kv.1 = q then (kv.1, v) else kv)
  | [], ys, q, d, v, hv, h => by
    cases (show ys = [] from h)
    rfl
  | (p, d0) :: kvs, ys, q, d, v, hv, h => by
    obtain ⟨x, rr, rfl, h1, h2⟩ := h
    have ih := repK_map q hv h2
    rw [List.map_cons, List.map_cons]
    by_cases e : p = q
    · rw [if_pos e, if_pos e]
      exact ⟨v, _, rfl, hv, ih⟩
    · rw [if_neg e, if_neg e]
      exact ⟨x, _, rfl, h1, ih⟩
theorem repK_app : ∀ {kvs ls : List (Key × D)} {ys zs : List (Key × V)}, RepK K al H kvs ys → RepK K al H ls zs → RepK K al H (kvs ++ ls) (ys ++ zs)
  | [], _, ys, _, h, h' => by
    cases (show ys = [] from h)
    exact h'
  | (p, d) :: kvs, _, ys, _, h, h' => by
    obtain ⟨x, rr, rfl, h1, h2⟩ := h
    exact ⟨x, _, rfl, h1, repK_app h2 h'⟩
theorem repK_put {kvs : List (Key × D)} {ys : List (Key × V)} {q : Key} {d : D} {v : V} (hv : Rep K al H d v) (h : RepK K al H kvs ys) : RepK K al H (putD kvs q d) (putK ys q v) := by
  unfold putD putK
  rw [repK_any q h]
  split
  · exact repK_map q hv h
  · exact repK_app h ⟨v, [], rfl, hv, rfl⟩
theorem repK_fold : ∀ {ps : List (Key × D)} {zs : List (Key × V)} {kvs : List (Key × D)} {ys : List (Key × V)}, RepK K al H ps zs → RepK K al H kvs ys →
    RepK K al H (ps.foldl (fun acc kv => putD acc kv.1 kv.2) kvs) (zs.foldl (fun acc kv => putK acc kv.1 kv.2) ys)
  | [], zs, _, _, h, h' => by
    cases (show zs = [] from h)
    exact h'
  | (p, d) :: ps, zs, _, _, h, h' => by
    obtain ⟨x, rr, rfl, h1, h2⟩ := h
    rw [List.foldl_cons, List.foldl_cons]
    exact repK_fold h2 (repK_put h1 h')
theorem keyD_rep {q : Key} {v : V} (h : Rep K al H (keyD q) v) : v = kV q := by
  cases q with
  | inl i => exact h
  | inr x => exact h
/-- pairs in the heap -/
theorem pairs_rep : ∀ {ps : List (Key × D)} {xs : List V}, Reps K al H (ps.map pairD) xs → ∃ (as : List Addr) (kvs : List (Key × V)), xs = as.map V.ref ∧ Paired (fun p kv => SqT K H p [kV kv.1, kv.2]) as kvs ∧ RepK K al H ps kvs
  | [], xs, h => ⟨[], [], h, .nil, rfl⟩
  | (q, d) :: ps, xs, h => by
    obtain ⟨x, rr, rfl, h1, h2⟩ := h
    obtain ⟨a, ys, rfl, g1, y1, r1, rfl, g2, y2, r2, rfl, g3, e⟩ := h1
    cases (show r2 = [] from e)
    obtain ⟨as, kvs, rfl, h3, h4⟩ := pairs_rep h2
    have ek := keyD_rep (q := q) g2
    subst ek
    exact ⟨a :: as, (q, y2) :: kvs, rfl, .cons g1.sq h3, y2, kvs, rfl, g3, h4⟩
end
/-- a new own object of any kind but a deck -/
theorem MuOk.newG {K : PySem.W.Frag} {DK : Addr → HO → HO → Prop} {al : AL} {H : Hp} {mu : Mu} {p : Addr} {o : HO} {m : MO} (h : MuOk K DK al H mu) (n : H p = none) (nd : ∀ j, m ≠ .deck j) (hm : MOk K DK (al ++ [some p]) (upd H p o) al.length m) :
    Ext al H (al ++ [some p]) (upd H p o) ∧ MuOk K DK (al ++ [some p]) (upd H p o) (mu ++ [m]) := by
  have np := h.free n
  have e : Ext al H (al ++ [some p]) (upd H p o) := ⟨⟨[some p], rfl, fun a z => by
    have z' : a = p := by simpa using z
    subst z'
    exact ⟨np, nt_of n⟩⟩, fun b u q _ _ => by rw [upd_ne (ne_of_none q n)]; exact q⟩
  have old : ∀ i a, (al ++ [some p])[i]? = some (some a) → (i < al.length ∧ al[i]? = some (some a)) ∨ (i = al.length ∧ a = p) := fun i a hi => by
    by_cases hi' : i < al.length
    · rw [List.getElem?_append_left hi'] at hi
      exact .inl ⟨hi', hi⟩
    · have hl := (List.getElem?_eq_some_iff.mp hi).1
      rw [List.length_append, List.length_singleton] at hl
      have e : i = al.length := by omega
      rw [e, List.getElem?_append_right (Nat.le_refl _), Nat.sub_self] at hi
      cases hi
      exact .inr ⟨e, rfl⟩
  have oldM : ∀ i x, (mu ++ [m])[i]? = some x → (i < mu.length ∧ mu[i]? = some x) ∨ (i = mu.length ∧ x = m) := fun i x hi => by
    by_cases hi' : i < mu.length
    · rw [List.getElem?_append_left hi'] at hi
      exact .inl ⟨hi', hi⟩
    · have hl := (List.getElem?_eq_some_iff.mp hi).1
      rw [List.length_append, List.length_singleton] at hl
      have e : i = mu.length := by omega
      rw [e, List.getElem?_append_right (Nat.le_refl _), Nat.sub_self] at hi
      cases hi
      exact .inr ⟨e, rfl⟩
  refine ⟨e, ⟨by rw [List.length_append, List.length_append, h.len]; rfl, fun i j a hi hj => ?_, fun i x hi => ?_, fun i j hi => ?_⟩⟩
  · rcases old i a hi with ⟨h1, h2⟩ | ⟨h1, h2⟩
    · rcases old j a hj with ⟨g1, g2⟩ | ⟨g1, g2⟩
      · exact h.nd i j a h2 g2
      · subst g2
        exact absurd (List.mem_of_getElem? h2) np
    · rcases old j a hj with ⟨g1, g2⟩ | ⟨g1, g2⟩
      · subst h2
        exact absurd (List.mem_of_getElem? g2) np
      · omega
  · rcases oldM i x hi with ⟨h1, h2⟩ | ⟨h1, h2⟩
    · exact (h.ok i x h2).mono e fun a z => by
        obtain ⟨u, q⟩ := h.there z
        rw [upd_ne (ne_of_none q n)]
    · subst h2
      rw [h1, ← h.len]
      exact hm
  · rcases oldM i _ hi with ⟨h1, h2⟩ | ⟨h1, h2⟩
    · have q := h.hd i j h2
      rw [List.getElem?_append_left (List.getElem?_eq_some_iff.mp q).1]
      exact q
    · exact absurd h2.symm (nd j)
theorem new_ownK {al : AL} {H : Hp} {mu : Mu} {p : Addr} {ys : List (Key × V)} {kvs : List (Key × D)} (m : MuOk k.K k.DK al H mu) (n : H p = none) (r : RepK k.K al H kvs ys) :
    Ext al H (al ++ [some p]) (upd H p (.dK ys)) ∧ MuOk k.K k.DK (al ++ [some p]) (upd H p (.dK ys)) (mu ++ [.dK kvs]) ∧ RepB k.K (al ++ [some p]) (upd H p (.dK ys)) (.ref mu.length) (.ref p) := by
  have np := m.free n
  have e : Ext al H (al ++ [some p]) (upd H p (.dK ys)) := ⟨⟨[some p], rfl, fun a z => by
    have z' : a = p := by simpa using z
    subst z'
    exact ⟨np, nt_of n⟩⟩, fun b u q _ _ => by rw [upd_ne (ne_of_none q n)]; exact q⟩
  obtain ⟨e2, m2⟩ := m.newG (o := .dK ys) (m := .dK kvs) n (fun j => nofun) ⟨p, ys, by simp, upd_same, RepK.ext e _ _ r⟩
  exact ⟨e2, m2, p, by rw [← m.len]; simp, rfl⟩
def wDictP : SemB := fun bs mu Q => match bs with
  | [c] => ∃ ps, lstOf mu c = some (ps.map pairD) ∧ Q (.ref mu.length) (mu ++ [.dK (dictD ps)])
  | _ => False
theorem c_dictP (hK : X.K = k.K) (hc : X.calm = true) : CallD k X (.type "dict") wDictP := by
  refine ⟨_, call_dictP hc, fun al H vs bs mu Q Q' m rs q kk => ?_⟩
  unfold wDictP at q
  split at q
  · rename_i c
    obtain ⟨ps, hs, q⟩ := q
    obtain ⟨y, rfl, hy⟩ := reps1 rs
    obtain ⟨p, xs, rfl, h2, h3⟩ := lstOf_sq m hy hs
    obtain ⟨as, kvs, rfl, h4, h5⟩ := pairs_rep h3
    rw [hK]
    refine ⟨p, as, kvs, rfl, h2, h4, fun l hl => ?_⟩
    obtain ⟨e2, m2, r2⟩ := new_ownK m hl (repK_fold h5 (kvs := []) (ys := []) rfl)
    exact kk _ _ _ (.ref mu.length) _ e2 m2 r2 q
  · exact q.elim
end
end DL

set_option Elab.async false
set_option linter.all false
set_option maxRecDepth 100000
set_option maxHeartbeats 4000000
/-! stores into own lists; {}; reversed lists; a tuple times an int -/
namespace DL
open PySem L2 PySem.Spec PyProof.Rows
section
variable {X : Cx} {k : Kit} {pos : Pos}
theorem Reps.set {K : PySem.W.Frag} {al : AL} {H : Hp} {d : D} {v : V} (hv : Rep K al H d v) : ∀ {ds : List D} {xs : List V} (i : Nat), Reps K al H ds xs → Reps K al H (ds.set i d) (xs.set i v)
  | [], xs, i, h => by
    cases (show xs = [] from h)
    exact rfl
  | c :: ds, xs, 0, h => by
    obtain ⟨x, r, rfl, h1, h2⟩ := h
    exact ⟨v, r, rfl, hv, h2⟩
  | c :: ds, xs, i + 1, h => by
    obtain ⟨x, r, rfl, h1, h2⟩ := h
    exact ⟨x, _, rfl, h1, Reps.set hv i h2⟩
def sGSubL (mo mi : SemE) : SemG := fun b en mu Q => mo en mu fun o mu1 => mi en mu1 fun i mu2 => match b, o, i with
  | .dat d, .ref j, .dat (.int n) => ∃ ds q, mu2[j]? = some (.lst ds) ∧ ixN ds.length n = some q ∧ Q en (mu2.set j (.lst (ds.set q d)))
  | _, _, _ => False
theorem g_subL {o i : Expr} {mo mi : SemE} (ho : PE X o (tD k mo)) (hi : PE X i (tD k mi))
    (ha : ∀ v, assign (.Subscript o i pos) X.env v = (do
      let ov ← holding [v] (eval o X.env)
      let iv ← holding [v, ov] (eval i X.env)
      standAt pos
      holding [v, ov, iv] (setItem ov iv v)
      release [v, ov, iv] []) := by intro _; rfl) : PG X (.Subscript o i pos) (tDG k [] (sGSubL mo mi)) :=
  pg_imp (pg_sub ho hi set_list ha) fun v σ H Q' q => by
    obtain ⟨al, en, mu, b, Q, st, r, q, kk⟩ := q
    refine ⟨al, en, mu, _, st, q, fun ov H1 al1 ob mu1 e1 st1 r1 q1 => ⟨al1, en, mu1, _, st1, q1, fun iv H2 al2 ib mu2 e2 st2 r2 q2 => ?_⟩⟩
    split at q2
    · rename_i d j n
      obtain ⟨ds, q, hj, hn, q2⟩ := q2
      obtain ⟨a, xs, rfl, ha, g2, g3⟩ := own_l st2.mu (r1.ext e2) hj
      cases (show iv = _ from r2)
      have rv := r.ext (e1.trans e2)
      obtain ⟨e3, m3⟩ := st2.mu.setL ha hj (Reps.set rv q g3)
      exact ⟨a, xs, n, q, rfl, rfl, g2, by rw [g3.length]; exact hn, kk al2 σ _ en _ ((e1.trans e2).trans e3) (st2.ext e3 m3) Agr.refl q2⟩
    · exact q2.elim
/-- {} -/
def sNewK : SemE := fun _ mu Q => Q (.ref mu.length) (mu ++ [.dK []])
theorem d_newK : PE X (.Dict [] [] pos) (tD k sNewK) := pe_imp pe_dnewK fun σ H Q' q => by
  obtain ⟨al, en, mu, Q, st, q, kk⟩ := q
  intro p hp
  obtain ⟨e2, m2, r2⟩ := new_ownK st.mu hp (kvs := []) (ys := []) rfl
  exact kk _ _ _ (.ref mu.length) _ e2 (st.ext e2 m2) r2 q
/-- xs[::-1] of a list -/
theorem Reps.rev {K : PySem.W.Frag} {al : AL} {H : Hp} : ∀ {ds : List D} {xs : List V}, Reps K al H ds xs → Reps K al H ds.reverse xs.reverse
  | [], xs, h => by
    cases (show xs = [] from h)
    exact rfl
  | d :: ds, xs, h => by
    obtain ⟨x, r, rfl, h1, h2⟩ := h
    rw [List.reverse_cons, List.reverse_cons]
    exact (Reps.rev h2).app (Reps.one h1)
def sRevL (m : SemE) : SemE := fun en mu Q => m en mu fun b mu1 => ∃ ds, lstOf mu1 b = some ds ∧ Q (.ref mu1.length) (mu1 ++ [.lst ds.reverse])
theorem d_revL {e : Expr} {m : SemE} {j : Nat} {p1 p2 p3 : Pos} (hK : X.K = k.K) (he : PE X e (tD k m)) : PE X (.Subscript e (.Slice none none (some (.UnaryOp .USub (.Constant (.int 1) j p1) p2)) p3) pos) (tD k (sRevL m)) :=
  pe_imp (pe_revL he) fun σ H Q' q => by
    obtain ⟨al, en, mu, Q, st, q, kk⟩ := q
    refine ⟨al, en, mu, _, st, q, fun v H1 al1 b mu1 e1 st1 r1 q1 => ?_⟩
    obtain ⟨ds, hs, q1⟩ := q1
    obtain ⟨a, xs, rfl, h2, h3⟩ := lstOf_sq st1.mu r1 hs
    refine ⟨a, xs, rfl, by rw [hK]; exact h2, fun p hp => ?_⟩
    obtain ⟨e2, m2, r2⟩ := new_own st1.mu hp h3.rev
    exact kk _ _ _ (.ref mu1.length) _ (e1.trans e2) (st1.ext e2 m2) r2 q1
theorem reps_flatten {K : PySem.W.Frag} {al : AL} {H : Hp} {ds : List D} {xs : List V} (h : Reps K al H ds xs) : ∀ n : Nat, Reps K al H (List.replicate n ds).flatten (List.replicate n xs).flatten
  | 0 => rfl
  | n + 1 => by
    rw [List.replicate_succ, List.replicate_succ, List.flatten_cons, List.flatten_cons]
    exact h.app (reps_flatten h n)
/-- a tuple times an int from 2 -/
def wRepT : SemO2 := fun b c mu Q => match b, c with
  | .dat (.tuple ds), .dat (.int i) => ds ≠ [] ∧ 2 ≤ i ∧ i ≤ 1000 ∧ ds.length ≤ 1000 ∧ Q (.dat (.tuple (List.replicate i.toNat ds).flatten)) mu
  | _, _ => False
theorem o_repT (hK : X.K = k.K) : OpD k X (binaryOp .Mult) wRepT := by
  refine ⟨_, op_repT, fun al H x y b c mu Q Q' m rb rc q kk => ?_⟩
  unfold wRepT at q
  split at q
  · rename_i ds i
    obtain ⟨h0, h1, h2, h3, q⟩ := q
    obtain ⟨a, xs, rfl, g2, g3⟩ := rb
    cases (show y = _ from rc)
    rw [hK]
    refine ⟨a, i, xs, rfl, rfl, g2.sq, fun z => h0 ?_, h1, h2, by rw [g3.length]; exact h3, fun p hp => ?_⟩
    · exact List.eq_nil_of_length_eq_zero (by rw [← g3.length, z]; rfl)
    · obtain ⟨e4, m4⟩ := m.newF (o := .tup (List.replicate i.toNat xs).flatten) hp
      exact kk _ _ al (.dat (.tuple _)) mu e4 m4 ⟨p, _, rfl, .inl ⟨.inl upd_same, m.free hp⟩, Reps.ext e4 _ _ (reps_flatten g3 _)⟩ q
  · exact q.elim
end
end DL

set_option Elab.async false
set_option linter.all false
set_option maxRecDepth 100000
set_option maxHeartbeats 4000000
/-! t[::-1] of a tuple -/
namespace DL
open PySem L2 PySem.Spec PyProof.Rows
section
variable {prog : Program} {w : World} {A : Around} {E : Value → Shared → Prop} {s : Shared}
theorem applied_rev {sl : Addr} {t : Tok} {n : Nat} {Q : Int × Int × Nat → Shared → Prop} (hs : s.heap.IsSliceOf sl .none .none (.int (-1) t)) (h : Q ((n : Int) - 1, -1, n) s) :
    wpAny (model prog w) A (Builtin.Slice.sliceApplied (.ref sl) (pure (n : Int))) Q E s := by
  obtain ⟨os, hos, hcs, hds⟩ := id hs
  unfold Builtin.Slice.sliceApplied Builtin.Slice.sliceFields
  refine wpAny_bind (wpAny_bind (wpAny_field hos hds (x := .none) rfl (wpAny_bind (wpAny_field hos hds (x := .none) rfl (wpAny_bind (wpAny_field hos hds (x := .int (-1) t) rfl (wpAny_pure ?_)))))))
  refine wpAny_bind (HT.slicePart_ (.int (-1) t) ?_)
  show wpAny _ _ (if ((-1 : Int) == 0) = true then _ else _) _ _ s
  rw [if_neg (by decide)]
  refine wpAny_bind (HT.slicePart_ .none (wpAny_bind (HT.slicePart_ .none (wpAny_bind (wpAny_pure ?_)))))
  show wpAny _ _ (match Builtin.Slice.sliceAdjust none none (-1) (n : Int) with | (lo, hi) => pure (lo, (-1 : Int), Builtin.Slice.slicePlaces lo hi (-1))) _ _ s
  have e1 : Builtin.Slice.sliceAdjust none none (-1) (n : Int) = ((n : Int) - 1, -1) := by
    simp [Builtin.Slice.sliceAdjust]
  rw [e1]
  show wpAny _ _ (pure ((n : Int) - 1, (-1 : Int), Builtin.Slice.slicePlaces ((n : Int) - 1) (-1) (-1))) _ _ s
  have e2 : Builtin.Slice.slicePlaces ((n : Int) - 1) (-1) (-1) = n := by
    simp [Builtin.Slice.slicePlaces]
    try omega
  rw [e2]
  exact wpAny_pure h
theorem fm_congr {α β : Type} {f g : α → Option β} : ∀ {l : List α}, (∀ a ∈ l, f a = g a) → l.filterMap f = l.filterMap g
  | [], _ => rfl
  | a :: r, h => by
    rw [List.filterMap_cons, List.filterMap_cons, h a List.mem_cons_self, fm_congr fun b hb => h b (List.mem_cons_of_mem _ hb)]
theorem rev_pick (xs : Array Value) : ((List.range xs.size).filterMap fun (i : Nat) => xs[(((xs.size : Int) - 1) + (i : Int) * (-1)).toNat]?).toArray = xs.toList.reverse.toArray := by
  congr 1
  refine List.ext_getElem? fun j => ?_
  have all : ∀ i ∈ List.range xs.size, (xs[(((xs.size : Int) - 1) + (i : Int) * (-1)).toNat]?).isSome := fun i hi => by
    have h := List.mem_range.mp hi
    rw [Array.getElem?_eq_getElem (by omega)]
    rfl
  have hl : ((List.range xs.size).filterMap fun (i : Nat) => xs[(((xs.size : Int) - 1) + (i : Int) * (-1)).toNat]?) = xs.toList.reverse := by
    have e : xs.toList.reverse = (List.range xs.size).filterMap fun (i : Nat) => xs.toList.reverse[i]? := by
      have : ∀ l : List Value, l = (List.range l.length).filterMap fun (i : Nat) => l[i]? := fun l => by
        induction l with
        | nil => rfl
        | cons a r ih =>
          rw [List.length_cons, List.range_succ_eq_map, List.filterMap_cons]
          simp only [List.getElem?_cons_zero, List.filterMap_map]
          have e2 : ((fun (i : Nat) => (a :: r)[i]?) ∘ Nat.succ) = fun (i : Nat) => r[i]? := by
            funext i
            rfl
          rw [e2, ← ih]
      have h := this xs.toList.reverse
      rw [List.length_reverse, Array.length_toList] at h
      exact h
    rw [e]
    refine fm_congr fun i hi => ?_
    have h := List.mem_range.mp hi
    rw [List.getElem?_reverse (by rw [Array.length_toList]; exact h), Array.length_toList, Array.getElem?_toList]
    congr 1
    omega
  rw [hl]
theorem item_rev {a sl : Addr} {xs : Array Value} {t : Tok} {Q : Value → Shared → Prop} (ha : IsTup s.heap a xs) (hs : s.heap.IsSliceOf sl .none .none (.int (-1) t))
    (h : Q (.ref s.heap.objs.size) { s with heap := s.heap.push { cls := .type "tuple", data := .seq xs.toList.reverse.toArray } }) (hz : xs.size ≤ sizeLine) : wpAny (model prog w) A (getItem (.ref a) (.ref sl)) Q E s := by
  have fits : sizeOk (.seq xs.toList.reverse.toArray) := by
    show xs.toList.reverse.toArray.size ≤ sizeLine
    simpa using hz
  obtain ⟨os, h1, h2, h3⟩ := id hs
  have ty : s.TypeIs (.ref sl) "slice" := ⟨os, h1, h2⟩
  unfold getItem
  try with_reducible refine wpAny_holding ?_
  first | refine wpAny_bind (wpAny_pure ?_) | skip
  refine wpAny_bind (wpAny_sequenceKey ha.typeIs (by decide) ?_)
  refine wpAny_bind (wpAny_callSpecial?_slot (name := Str.ofString "__getitem__") ha.typeIs PyProof.Rows.slot_tuple_getitem
    (wpAny_call_entry PyProof.Rows.slot_tuple_getitem ha.typeIs entry_tuple_getitem ?_ (args_tuple_getitem _ _)))
  show wpAny _ _ (Builtin.Tuple.tupleItemsOf (.ref a) >>= _) _ _ s
  refine wpAny_bind (tupleItemsOf_ ha ?_)
  refine wpAny_bind (wpAny_typeOf ty ?_)
  rw [if_pos (by decide)]
  refine wpAny_bind (applied_rev hs ?_)
  have no : ¬ ((((xs.size : Int) - 1) == 0 && (-1 : Int) == 1 && xs.size == xs.size) = true) := by simp
  show wpAny _ _ (if ((((xs.size : Int) - 1) == 0 && (-1 : Int) == 1 && xs.size == xs.size)) = true then _ else _) _ _ s
  rw [if_neg no, rev_pick]
  first
    | exact wpAny_bind (m := Builtin.Tuple.tupleExact _) (wpAny_newObj_type (wpAny_pure ⟨_, rfl, wpAny_pure h⟩) fits)
    | exact wpAny_bind (m := Builtin.Tuple.tupleExact _) (wpAny_newObj_type (wpAny_bind (wpAny_pure (wpAny_pure ⟨_, rfl, wpAny_pure h⟩))) fits)
    | exact wpAny_bind (wpAny_bind (m := Builtin.Tuple.tupleExact _) (wpAny_newObj_type (wpAny_pure (wpAny_pure ⟨_, rfl, wpAny_pure h⟩)) fits))
    | exact wpAny_bind (wpAny_bind (m := Builtin.Tuple.tupleExact _) (wpAny_newObj_type (wpAny_pure ⟨_, rfl, wpAny_pure h⟩) fits))
/-- t[::-1] of a tuple -/
def tRevT (K : PySem.W.Frag) (te : TE) : TE := fun σ H Q => te σ H fun x H1 => ∃ a xs, x = .ref a ∧ SqT K H1 a xs ∧ ∀ p, H1 p = none → Q (.ref p) (upd H1 p (.tup xs.reverse))
theorem pe_revT {X : Cx} {e : Expr} {te : TE} {j : Nat} {p1 p2 p3 pos : Pos} (he : PE X e te) : PE X (.Subscript e (.Slice none none (some (.UnaryOp .USub (.Constant (.int 1) j p1) p2)) p3) pos) (tRevT X.K te) := by
  refine ⟨fun pins s σ H Q I h => Subscript_ (thn (he.run pins s σ H _ I h) fun v s1 ⟨x, H1, I1, r1, a, xs, ex, hx, q⟩ => ?_)⟩
  rw [ex] at r1
  cases r1
  have step : PO X (some (.UnaryOp .USub (.Constant (.int 1) j p1) p2)) (tPart (tUn (rU fun i => .int (-i)) (tC (.int 1)))) := po_some (pe_un un_neg pe_int)
  have no : ∀ (s : Shared), Inv X pins σ H1 s → wpAny (model X.prog X.w) X.A (evalPart none X.env) (fun u s' => Inv X pins σ H1 s' ∧ u = .none) X.xe s := fun s I => by
    rw [evalPart_none]
    exact wpAny_pure ⟨I, rfl⟩
  refine wpAny_Slice (thn (no s1 I1) fun vl s2 ⟨I2, e2⟩ => thn (no s2 I2) fun vu s3 ⟨I3, e3⟩ => ?_)
  rw [e2, e3]
  refine thn (step.run pins s3 σ H1 (fun o H4 => o = some (-1) ∧ H4 = H1) I3 ⟨1, rfl, -1, rfl, rfl, rfl⟩) fun vs s4 ⟨o, H4, I4, ps, eo, e4⟩ => ?_
  rw [eo] at ps
  rw [e4] at I4
  cases ps with
  | int _ t =>
    have I5 : Inv X pins σ H1 { s4 with heap := s4.heap.push { cls := .type "slice", data := .fields #[.none, .none, .int (-1) t] } } := I4.kept (t' := s4.toks) fun b ob q => Heap.get?_push_of_some _ q
    obtain ⟨its, r, ht, hz⟩ := I5.tuple hx
    show wpAny (model X.prog X.w) X.A (subscriptTail e (.Slice none none (some (.UnaryOp .USub (.Constant (.int 1) j p1) p2)) p3) (.ref a) (.ref s4.heap.objs.size)) (EP X pins σ Q) X.xe { s4 with heap := s4.heap.push { cls := .type "slice", data := .fields #[.none, .none, .int (-1) t] } }
    refine tail_any (ops := [.ref a, .ref s4.heap.objs.size]) ht.typeIs PyProof.Rows.slot_tuple_getitem.lookup ?_ (by with_unfolding_all rfl)
    refine item_rev ht (Heap.IsSliceOf.new ..) ?_ (by rw [List.size_toArray, ← r.length]; exact hz)
    refine ⟨.ref _, _, I5.laid (t' := s4.toks) (o := .tup xs.reverse) (fun b ob q => Heap.get?_push_of_some _ q) (Nat.le_refl _) ?_, rfl, q _ (I5.hok.fresh (Nat.le_refl _))⟩
    exact ⟨by rw [List.length_reverse]; exact hz, _, r.reverse, IsTup.new _ _⟩
end
section
variable {X : Cx} {k : Kit} {pos : Pos}
def sRevT (m : SemE) : SemE := fun en mu Q => m en mu fun b mu1 => match b with
  | .dat (.tuple ds) => Q (.dat (.tuple ds.reverse)) mu1
  | _ => False
theorem d_revT {e : Expr} {m : SemE} {j : Nat} {p1 p2 p3 : Pos} (hK : X.K = k.K) (he : PE X e (tD k m)) : PE X (.Subscript e (.Slice none none (some (.UnaryOp .USub (.Constant (.int 1) j p1) p2)) p3) pos) (tD k (sRevT m)) :=
  pe_imp (pe_revT he) fun σ H Q' q => by
    obtain ⟨al, en, mu, Q, st, q, kk⟩ := q
    refine ⟨al, en, mu, _, st, q, fun v H1 al1 b mu1 e1 st1 r1 q1 => ?_⟩
    split at q1
    · obtain ⟨a, xs, rfl, h2, h3⟩ := r1
      refine ⟨a, xs, rfl, by rw [hK]; exact h2.sq, fun p hp => ?_⟩
      obtain ⟨e4, m4⟩ := st1.mu.newF (o := .tup xs.reverse) hp
      exact kk _ _ al1 (.dat (.tuple _)) mu1 (e1.trans e4) (st1.ext e4 m4) ⟨p, _, rfl, .inl ⟨.inl upd_same, st1.mu.free hp⟩, Reps.ext e4 _ _ h3.rev⟩ q1
    · exact q1.elim
end
end DL

set_option Elab.async false
set_option linter.all false
set_option maxRecDepth 100000
set_option maxHeartbeats 4000000
/-! one rule for an operator over all kinds of data -/
namespace DL
open PySem L2 PySem.Spec PyProof.Rows
section
variable {X : Cx} {k : Kit} {P : Program} {w : World} {mg : Str → Option Value} {base : Heap} {r : Nat}
def w2or (w1 w2 : SemO2) : SemO2 := fun b c mu Q => w1 b c mu Q ∨ w2 b c mu Q
theorem o_or {f : Value → Value → Sem Value} {w1 w2 : SemO2} (h1 : OpD k X f w1) (h2 : OpD k X f w2) : OpD k X f (w2or w1 w2) := by
  obtain ⟨r1, a1, b1⟩ := h1
  obtain ⟨r2, a2, b2⟩ := h2
  refine ⟨fun x y H Q => r1 x y H Q ∨ r2 x y H Q, fun pins s σ H x y v u Q I rx ry q => ?_, fun al H x y b c mu Q Q' m rb rc q kk => ?_⟩
  · rcases q with q | q
    · exact a1 pins s σ H x y v u Q I rx ry q
    · exact a2 pins s σ H x y v u Q I rx ry q
  · rcases q with q | q
    · exact .inl (b1 al H x y b c mu Q Q' m rb rc q kk)
    · exact .inr (b2 al H x y b c mu Q Q' m rb rc q kk)
theorem OpD.weaken {f : Value → Value → Sem Value} {w1 w2 : SemO2} (h : OpD k X f w1) (i : ∀ b c mu Q, w2 b c mu Q → w1 b c mu Q) : OpD k X f w2 := by
  obtain ⟨r, a, b⟩ := h
  exact ⟨r, a, fun al H x y bb cc mu Q Q' m rb rc q kk => b al H x y bb cc mu Q Q' m rb rc (i _ _ _ _ q) kk⟩
def wAddA : SemO2 := fun b c mu Q => match b, c with
  | .dat (.int i), .dat (.int j) => Q (.dat (.int (i + j))) mu
  | .dat (.str x), .dat (.str y) => x.length + y.length ≤ sizeLine ∧ Q (.dat (.str (x ++ y))) mu
  | .dat (.tuple ds), .dat (.tuple es) => ds.length + es.length ≤ sizeLine ∧ Q (.dat (.tuple (ds ++ es))) mu
  | .ref j, .ref i => ∃ ds es, mu[j]? = some (.lst ds) ∧ mu[i]? = some (.lst es) ∧ ds.length + es.length ≤ sizeLine ∧ Q (.ref mu.length) (mu ++ [.lst (ds ++ es)])
  | _, _ => False
theorem o_addA (hK : X.K = k.K) : OpD k X (binaryOp .Add) wAddA :=
  (o_or o_add (o_or o_catS (o_or (o_catT hK) o_catL))).weaken fun b c mu Q q => by
    unfold wAddA at q
    split at q
    · exact .inl q
    · exact .inr (.inl q)
    · exact .inr (.inr (.inl q))
    · exact .inr (.inr (.inr q))
    · exact q.elim
def wMulA : SemO2 := fun b c mu Q => match b, c with
  | .dat (.int i), .dat (.int j) => IntMulOk i j ∧ Q (.dat (.int (i * j))) mu
  | .dat (.tuple ds), .dat (.int i) => ds ≠ [] ∧ 2 ≤ i ∧ i ≤ 1000 ∧ ds.length ≤ 1000 ∧ Q (.dat (.tuple (List.replicate i.toNat ds).flatten)) mu
  | _, _ => False
theorem o_mulA (hK : X.K = k.K) : OpD k X (binaryOp .Mult) wMulA :=
  (o_or o_mul (o_repT hK)).weaken fun b c mu Q q => by
    unfold wMulA at q
    split at q
    · exact .inl q
    · exact .inr q
    · exact q.elim
def wLtA : SemO2 := fun b c mu Q => match b, c with
  | .dat (.int i), .dat (.int j) => Q (.dat (.bool (decide (i < j)))) mu
  | .dat (.str x), .dat (.str y) => Q (.dat (.bool (ltS x y))) mu
  | _, _ => False
theorem o_ltA : OpD k X (compareOp .Lt) wLtA :=
  (o_or o_lt o_ltS).weaken fun b c mu Q q => by
    unfold wLtA at q
    split at q
    · exact .inl q
    · exact .inr q
    · exact q.elim
def wEqA : SemO2 := fun b c mu Q => match b, c with
  | .dat (.tuple ds), .dat (.tuple []) => Q (.dat (.bool ds.isEmpty)) mu
  | .dat d, .dat e => Shp d ∧ Shp e ∧ Q (.dat (.bool (eqv d e))) mu
  | _, _ => False
theorem o_eqA (C : In k X P w mg base r) : OpD k X (compareOp .Eq) wEqA :=
  (o_or (o_eq0 C) (o_eq C)).weaken fun b c mu Q q => by
    unfold wEqA at q
    split at q
    · exact .inl q
    · exact .inr q
    · exact q.elim
def wInA (neg : Bool) : SemO2 := fun b c mu Q => match b, c with
  | .dat (.str x), .dat (.str z) => ∃ q : Nat, x = ⟨#[q]⟩ ∧ Q (.dat (.bool (if neg then !decide (q ∈ z.cps.toList) else decide (q ∈ z.cps.toList)))) mu
  | .dat d, c => flatD d = true ∧ ∃ ds, seqOf mu c = some ds ∧ ds.all flatD = true ∧ Q (.dat (.bool (if neg then !inD d ds else inD d ds))) mu
  | _, _ => False
theorem wInA_or (neg : Bool) {b c : B} {mu : Mu} {Q : B → Mu → Prop} (q : wInA neg b c mu Q) : w2or (wInS neg) (wIn neg) b c mu Q := by
  unfold wInA at q
  split at q
  · exact .inl q
  · exact .inr q
  · exact q.elim
theorem o_inA (hK : X.K = k.K) : OpD k X (compareOp .In) (wInA false) := (o_or o_inS (o_in hK)).weaken fun _ _ _ _ q => wInA_or false q
theorem o_notInA (hK : X.K = k.K) : OpD k X (compareOp .NotIn) (wInA true) := (o_or o_notInS (o_notIn hK)).weaken fun _ _ _ _ q => wInA_or true q
end
end DL

set_option Elab.async false
set_option linter.all false
set_option maxRecDepth 100000
set_option maxHeartbeats 4000000
/-! [::-1] and walks over all kinds -/
namespace DL
open PySem L2 PySem.Spec PyProof.Rows
section
variable {X : Cx} {k : Kit} {tg : Expr} {pos : Pos}
theorem pe_or {e : Expr} {t t' : TE} (h : PE X e t) (h' : PE X e t') : PE X e (fun σ H Q => t σ H Q ∨ t' σ H Q) := ⟨fun pins s σ H Q I q => q.elim (h.run pins s σ H Q I) (h'.run pins s σ H Q I)⟩
theorem pi_or {e : Expr} {t t' : TI} (h : PI X tg e t) (h' : PI X tg e t') : PI X tg e (fun σ H R => t σ H R ∨ t' σ H R) := ⟨fun pins s σ H R I q => q.elim (h.run pins s σ H R I) (h'.run pins s σ H R I)⟩
def sRevA (m : SemE) : SemE := fun en mu Q => sRevL m en mu Q ∨ sRevT m en mu Q
theorem d_revA {e : Expr} {m : SemE} {j : Nat} {p1 p2 p3 : Pos} (hK : X.K = k.K) (he : PE X e (tD k m)) : PE X (.Subscript e (.Slice none none (some (.UnaryOp .USub (.Constant (.int 1) j p1) p2)) p3) pos) (tD k (sRevA m)) :=
  pe_imp (pe_or (d_revL hK he) (d_revT hK he)) fun σ H Q' q => by
    obtain ⟨al, en, mu, Q, st, q, kk⟩ := q
    rcases q with q | q
    · exact .inl ⟨al, en, mu, Q, st, q, kk⟩
    · exact .inr ⟨al, en, mu, Q, st, q, kk⟩
/-- a list, a tuple, an own list, a text -/
def sItA (m : SemE) : SemI := fun en mu Q => sIt m en mu Q ∨ sItS m en mu Q
theorem i_any {e : Expr} {m : SemE} (hK : X.K = k.K) (h : PE X e (tD k m)) : PI X tg e (tDI k (sItA m)) :=
  pi_imp (pi_or (i_seq hK h) (i_str h)) fun σ H R q => by
    obtain ⟨al, en, mu, Q, st, q, kk⟩ := q
    rcases q with q | q
    · exact .inl ⟨al, en, mu, Q, st, q, kk⟩
    · exact .inr ⟨al, en, mu, Q, st, q, kk⟩
end
end DL

set_option Elab.async false
set_option linter.all false
set_option maxRecDepth 100000
set_option maxHeartbeats 4000000
/-! repr of data with dicts, where only the dicts' own addresses must differ from the module table's -/
namespace DL
open PySem L2 PySem.Spec PyProof.Rows
mutual
/-- data in the heap; each dict stands apart from the module table -/
inductive RdA (h : Heap) : Value → PyData → Prop
  | none : RdA h .none .none
  | bool (b : Bool) : RdA h (.bool b) (.bool b)
  | int (i : Int) (t : Tok) : RdA h (.int i t) (.int i)
  | str (x : Str) (t : Tok) : RdA h (.str x t) (.str x)
  | list {a : Addr} {o : Obj} {vs : List Value} {n : Nat} {xs : List PyData} : h.get? a = some o → o.cls = .type "list" → o.data = .seq vs.toArray n → RdAs h vs xs → RdA h (.ref a) (.list xs)
  | tuple {a : Addr} {o : Obj} {vs : List Value} {n : Nat} {xs : List PyData} : h.get? a = some o → o.cls = .type "tuple" → o.data = .seq vs.toArray n → RdAs h vs xs → RdA h (.ref a) (.tuple xs)
  | dict {a : Addr} {o : Obj} {es : Array DictEntry} {n : Nat} {kvs : List (PyData × PyData)} : h.get? a = some o → o.cls = .type "dict" → o.data = .dict es n → (a == sysModules) = false → RdAs h (es.toList.map (·.key)) (kvs.map (·.1)) →
      RdAs h (es.toList.map (·.val)) (kvs.map (·.2)) → RdA h (.ref a) (.dict kvs)
inductive RdAs (h : Heap) : List Value → List PyData → Prop
  | nil : RdAs h [] []
  | cons {v : Value} {vs : List Value} {d : PyData} {ds : List PyData} : RdA h v d → RdAs h vs ds → RdAs h (v :: vs) (d :: ds)
end
section
variable {h : Heap} {prog : Program} {w : World}
mutual
theorem RdA.reads : ∀ {v : Value} {d : PyData}, RdA h v d → ∃ as, Reads h v d as
  | _, _, .none => ⟨_, .none⟩
  | _, _, .bool b => ⟨_, .bool b⟩
  | _, _, .int i t => ⟨_, .int i t⟩
  | _, _, .str x t => ⟨_, .str x t⟩
  | _, _, .list a1 a2 a3 a4 => let ⟨_, r⟩ := RdAs.reads a4; ⟨_, .list a1 a2 a3 (by simpa using r)⟩
  | _, _, .tuple a1 a2 a3 a4 => let ⟨_, r⟩ := RdAs.reads a4; ⟨_, .tuple a1 a2 a3 (by simpa using r)⟩
  | _, _, .dict a1 a2 a3 _ a4 a5 => let ⟨_, r⟩ := RdAs.reads a4; let ⟨_, r2⟩ := RdAs.reads a5; ⟨_, .dict a1 a2 a3 r r2⟩
theorem RdAs.reads : ∀ {vs : List Value} {ds : List PyData}, RdAs h vs ds → ∃ as, ReadsAll h vs ds as
  | _, _, .nil => ⟨_, .nil⟩
  | _, _, .cons a b => let ⟨_, r⟩ := RdA.reads a; let ⟨_, r2⟩ := RdAs.reads b; ⟨_, .cons r r2⟩
end
mutual
/-- the walk of repr -/
theorem RdA.rk : ∀ {v : Value} {d : PyData}, RdA h v d → d.showable = true → d.shown.length ≤ sizeLine → ∃ bs, ReadAtMost h d.depth bs ∧ ReprK prog w bs h d.depth v d.shown
  | _, _, .none, _, _ => ⟨[], nofun, .of_is ReprIs.none _ _ _⟩
  | _, _, .bool b, _, _ => ⟨[], nofun, .of_is (ReprIs.bool b) _ _ _⟩
  | _, _, .int i t, sh, _ => ⟨[], nofun, .of_is (ReprIs.int t (by simpa [PyData.showable] using sh)) _ _ _⟩
  | _, _, .str x t, _, z => ⟨[], nofun, .of_is (ReprIs.str x t (by simpa only [PyData.shown] using z)) _ _ _⟩
  | _, _, .list (a := a) (vs := vs) (xs := xs) a1 a2 a3 a4, sh, z => by
    have z2 : (listText (PyData.shownAll xs)).length ≤ sizeLine := by simpa only [PyData.shown] using z
    obtain ⟨bs, at_, all⟩ := RdAs.rk a4 (by simpa [PyData.showable] using sh) fun t ht => Nat.le_trans (listText_mem_le ht) z2
    obtain ⟨as, r⟩ := RdA.reads (.list a1 a2 a3 a4)
    have na : a ∉ bs := not_mem_of_deeper r (by simp only [PyData.depth]; omega) at_
    refine ⟨a :: bs, ReadAtMost.cons r (by simp only [PyData.depth]; omega) at_, ?_⟩
    simp only [PyData.depth, PyData.shown]
    cases a4 with
    | nil =>
      simp only [PyData.shownAll, listText_nil]
      exact ReprK.listEmpty a1 a2 a3
    | cons b c => exact ReprK.list a1 a2 a3 na (by simpa using all.length_eq) fun i y e => all.item i y (by simpa using e)
  | _, _, .tuple (a := a) (xs := xs) a1 a2 a3 a4, sh, z => by
    have z2 : (tupleText (PyData.shownAll xs)).length ≤ sizeLine := by simpa only [PyData.shown] using z
    obtain ⟨bs, at_, all⟩ := RdAs.rk a4 (by simpa [PyData.showable] using sh) fun t ht => Nat.le_trans (tupleText_mem_le ht) z2
    obtain ⟨as, r⟩ := RdA.reads (.tuple a1 a2 a3 a4)
    refine ⟨a :: bs, ReadAtMost.cons r (by simp only [PyData.depth]; omega) at_, ?_⟩
    simp only [PyData.depth, PyData.shown]
    exact ReprK.tuple a1 a2 a3 (not_mem_of_deeper r (by simp only [PyData.depth]; omega) at_) (by simpa using all)
  | _, _, .dict (a := a) (es := es) (kvs := kvs) a1 a2 a3 ne a4 a5, sh, z => by
    have z2 : (dictText (PyData.shownKv kvs)).length ≤ sizeLine := by simpa only [PyData.shown] using z
    obtain ⟨s1, s2⟩ := PyData.showableKv_split kvs (by simpa [PyData.showable] using sh)
    obtain ⟨b1, at1, all1⟩ := RdAs.rk a4 s1 fun t ht => by
      obtain ⟨p, hp, hl⟩ := PyData.shownKv_key_le kvs t ht
      exact Nat.le_trans hl (Nat.le_trans (dictText_mem_le hp) z2)
    obtain ⟨b2, at2, all2⟩ := RdAs.rk a5 s2 fun t ht => by
      obtain ⟨p, hp, hl⟩ := PyData.shownKv_val_le kvs t ht
      exact Nat.le_trans hl (Nat.le_trans (dictText_mem_le hp) z2)
    obtain ⟨as, r⟩ := RdA.reads (.dict a1 a2 a3 ne a4 a5)
    have at_ : ReadAtMost h (PyData.depthKv kvs) (b1 ++ b2) := (at1.mono (PyData.depthAll_keys_le kvs)).append (at2.mono (PyData.depthAll_vals_le kvs))
    refine ⟨a :: (b1 ++ b2), ReadAtMost.cons r (by simp only [PyData.depth]; omega) at_, ?_⟩
    simp only [PyData.depth, PyData.shown, PyData.shownKv_eq]
    exact ReprK.dict a1 a2 a3 ne (not_mem_of_deeper r (by simp only [PyData.depth]; omega) at_) (ReprEntriesK.of_two es.toList _ _
      (all1.more_le (fun _ q => List.mem_append.mpr (.inl q)) (PyData.depthAll_keys_le kvs)) (all2.more_le (fun _ q => List.mem_append.mpr (.inr q)) (PyData.depthAll_vals_le kvs)))
theorem RdAs.rk : ∀ {vs : List Value} {ds : List PyData}, RdAs h vs ds → PyData.showableAll ds = true → (∀ t ∈ PyData.shownAll ds, t.length ≤ sizeLine) → ∃ bs, ReadAtMost h (PyData.depthAll ds) bs ∧ ReprAllK prog w bs h (PyData.depthAll ds) vs (PyData.shownAll ds)
  | _, _, .nil, _, _ => ⟨[], nofun, .nil⟩
  | _, _, .cons (d := d) (ds := ds) a b, sh, z => by
    have sh2 : d.showable = true ∧ PyData.showableAll ds = true := by simpa [PyData.showableAll] using sh
    obtain ⟨b1, at1, k1⟩ := RdA.rk a sh2.1 (z _ (by simp [PyData.shownAll]))
    obtain ⟨b2, at2, k2⟩ := RdAs.rk b sh2.2 fun t ht => z t (by simp only [PyData.shownAll]; exact List.mem_cons_of_mem _ ht)
    refine ⟨b1 ++ b2, fun x hx => ?_, ?_⟩
    · simp only [PyData.depthAll]
      rcases List.mem_append.mp hx with q | q
      · obtain ⟨e, as, r, l⟩ := at1 x q
        exact ⟨e, as, r, Nat.le_trans l (Nat.le_max_left _ _)⟩
      · obtain ⟨e, as, r, l⟩ := at2 x q
        exact ⟨e, as, r, Nat.le_trans l (Nat.le_max_right _ _)⟩
    · simp only [PyData.depthAll, PyData.shownAll]
      exact .cons ((k1.more fun _ q => List.mem_append.mpr (.inl q)).level_le (Nat.le_max_left _ _)) (k2.more_le (fun _ q => List.mem_append.mpr (.inr q)) (Nat.le_max_right _ _))
end
end
end DL

set_option Elab.async false
set_option linter.all false
set_option maxRecDepth 100000
set_option maxHeartbeats 4000000
/-! repr() of any plain data -/
namespace DL
open PySem L2 PySem.Spec PyProof.Rows
section
variable {h : Heap} {prog : Program} {w : World} {A : Around} {E : Value → Shared → Prop} {s : Shared} {Q : Value → Shared → Prop}
theorem repr_A {a : Addr} {d : PyData} (r : RdA h (.ref a) d) (sh : d.showable = true) (z : d.shown.length ≤ sizeLine) (hg : A.guards = some []) (hu : A.units + (d.depth + 1) < cLine) (k0 : ∀ b o, h.get? b = some o → s.heap.get? b = some o)
    (hQ : ∀ h' u tk, (∀ b o, s.heap.get? b = some o → h'.get? b = some o) → Q (.str d.shown u) { s with heap := h', toks := tk }) : wpAny (model prog w) A (call (.builtin "repr") [.ref a]) Q E s := by
  have S : ∃ T idr, ShowsBy prog w h a d T idr := by
    cases r with
    | list a1 a2 a3 a4 =>
      rename_i o vs n xs
      have z2 : (listText (PyData.shownAll xs)).length ≤ sizeLine := by simpa only [PyData.shown] using z
      obtain ⟨bs, at_, all⟩ := RdAs.rk (prog := prog) (w := w) a4 (by simpa [PyData.showable] using sh) fun t ht => Nat.le_trans (listText_mem_le ht) z2
      obtain ⟨as, rr⟩ := RdA.reads (.list a1 a2 a3 a4)
      have na : a ∉ bs := not_mem_of_deeper rr (by simp only [PyData.depth]; omega) at_
      refine ⟨"list", "list.__repr__", PySem.F.slot_list_repr.toG, PySem.F.slot_list_str, PySem.F.slot_list_format, fun s k => ⟨o, k _ _ a1, a2⟩, fun A E s Q hg hu k0 hQ => ?_⟩
      simp only [PyData.depth] at hu
      simp only [PyData.shown] at hQ
      cases a4 with
      | nil =>
        simp only [PyData.shownAll, listText_nil] at hQ
        exact call_list_repr_empty ⟨o, k0 _ _ a1, a2⟩ (k0 _ _ a1) a3 (hQ s.heap _ _ fun _ _ e => e)
      | cons b c => exact call_list_reprK a1 a2 a3 na (by simpa using all.length_eq) (fun i y e => all.item i y (by simpa using e)) hg (fun b _ => Clear.nil b) hu k0 hQ z2
    | tuple a1 a2 a3 a4 =>
      rename_i o vs n xs
      have z2 : (tupleText (PyData.shownAll xs)).length ≤ sizeLine := by simpa only [PyData.shown] using z
      obtain ⟨bs, at_, all⟩ := RdAs.rk (prog := prog) (w := w) a4 (by simpa [PyData.showable] using sh) fun t ht => Nat.le_trans (tupleText_mem_le ht) z2
      obtain ⟨as, rr⟩ := RdA.reads (.tuple a1 a2 a3 a4)
      refine ⟨"tuple", "tuple.__repr__", PySem.F.slot_tuple_repr, PySem.F.slot_tuple_str, PySem.F.slot_tuple_format, fun s k => ⟨o, k _ _ a1, a2⟩, fun A E s Q hg hu k0 hQ => ?_⟩
      simp only [PyData.depth] at hu
      simp only [PyData.shown] at hQ
      exact call_tuple_reprK a1 a2 a3 (not_mem_of_deeper rr (by simp only [PyData.depth]; omega) at_) (by simpa using all) hg (fun b _ => Clear.nil b) hu k0 hQ z2
    | dict a1 a2 a3 ne a4 a5 =>
      rename_i o es n kvs
      have z2 : (dictText (PyData.shownKv kvs)).length ≤ sizeLine := by simpa only [PyData.shown] using z
      obtain ⟨s1, s2⟩ := PyData.showableKv_split kvs (by simpa [PyData.showable] using sh)
      obtain ⟨b1, at1, all1⟩ := RdAs.rk (prog := prog) (w := w) a4 s1 fun t ht => by
        obtain ⟨p, hp, hl⟩ := PyData.shownKv_key_le kvs t ht
        exact Nat.le_trans hl (Nat.le_trans (dictText_mem_le hp) z2)
      obtain ⟨b2, at2, all2⟩ := RdAs.rk (prog := prog) (w := w) a5 s2 fun t ht => by
        obtain ⟨p, hp, hl⟩ := PyData.shownKv_val_le kvs t ht
        exact Nat.le_trans hl (Nat.le_trans (dictText_mem_le hp) z2)
      obtain ⟨as, rr⟩ := RdA.reads (.dict a1 a2 a3 ne a4 a5)
      have at_ : ReadAtMost h (PyData.depthKv kvs) (b1 ++ b2) := (at1.mono (PyData.depthAll_keys_le kvs)).append (at2.mono (PyData.depthAll_vals_le kvs))
      refine ⟨"dict", "dict.__repr__", PySem.F.slot_dict_repr, PySem.F.slot_dict_str, PySem.F.slot_dict_format, fun s k => ⟨o, k _ _ a1, a2⟩, fun A E s Q hg hu k0 hQ => ?_⟩
      simp only [PyData.depth] at hu
      simp only [PyData.shown, PyData.shownKv_eq] at hQ
      exact call_dict_reprK a1 a2 a3 ne (not_mem_of_deeper rr (by simp only [PyData.depth]; omega) at_) (ReprEntriesK.of_two es.toList _ _
        (all1.more_le (fun _ q => List.mem_append.mpr (.inl q)) (PyData.depthAll_keys_le kvs)) (all2.more_le (fun _ q => List.mem_append.mpr (.inr q)) (PyData.depthAll_vals_le kvs))) hg (fun b _ => Clear.nil b) hu k0 hQ (by rw [← PyData.shownKv_eq]; exact z2)
  obtain ⟨T, idr, S⟩ := S
  exact call_repr_slot (by omega) (S.typeIs s k0) S.slotRepr (S.call A.in1 E s _ hg (by show A.units + 1 + d.depth < cLine; omega) k0 fun h' u tk hk => ⟨_, _, rfl, hQ h' u tk hk⟩)
end
section
variable {X : Cx} {pins : List (Addr × Obj)} {σ : L2.St} {H : Hp} {s : Shared} {al : AL}
theorem keyP_rda {h : Heap} {q : Key} {u : Value} (e : keyIs q u = true) : RdA h u (keyP q) := by
  rcases keyIs_shape e with ⟨i, t, rfl, rfl⟩ | ⟨x, t, rfl, rfl⟩
  · exact .int i t
  · exact .str x t
theorem keys_rda {P : Program} {w : World} {h : Heap} : ∀ {es : List DictEntry} {vs : List (Key × Value)}, PySem.Pairs (mixKind P w) es vs → RdAs h (es.map (·.key)) (vs.map fun z => keyP z.1)
  | _, _, .nil => .nil
  | _, _, .cons h1 _ h3 => RdAs.cons (keyP_rda h1) (keys_rda h3)
mutual
theorem Rep.rda (I : Inv X pins σ H s) : ∀ (d : D) (v : V) (u : Value), plain d = true → Rep X.K al H d v → RelV v u → RdA s.heap u (py d)
  | .none, v, u, _, h, r => by
    cases (show v = V.non from h)
    cases r
    exact .none
  | .bool b, v, u, _, h, r => by
    cases (show v = V.bl b from h)
    cases r
    exact .bool b
  | .int i, v, u, _, h, r => by
    cases (show v = V.int i from h)
    obtain ⟨t, rfl⟩ := r
    exact .int i t
  | .str x, v, u, _, h, r => by
    cases (show v = V.str x from h)
    obtain ⟨t, rfl⟩ := r
    exact .str x t
  | .list ds, v, u, f, h, r => by
    obtain ⟨a, xs, rfl, h2, h3⟩ := h
    cases r
    obtain ⟨its, rv, ⟨o, n, ho, hc, _, hd⟩, _⟩ := I.list h2.sq
    exact .list ho hc hd (Reps.rda I ds xs its f h3 rv)
  | .tuple ds, v, u, f, h, r => by
    obtain ⟨a, xs, rfl, h2, h3⟩ := h
    cases r
    obtain ⟨its, rv, ⟨o, ho, hc, n, hd⟩, _⟩ := I.tuple h2.sq
    exact .tuple ho hc hd (Reps.rda I ds xs its f h3 rv)
  | .dK kvs, v, u, f, h, r => by
    obtain ⟨a, ys, rfl, h2, h3⟩ := h
    cases r
    obtain ⟨_, ha, vs, hv, o, es, ep, g1, g2, g3, _, g5, _⟩ := dk_rd I.hok h2.1
    obtain ⟨hr, hk⟩ := RepK.rda I kvs ys vs f h3 hv
    refine .dict g1 g2.1 g3 ha ?_ ?_
    · rw [pyK_fst, ← hk]
      exact keys_rda g5
    · rw [vals_pairs g5]
      exact hr
  | .dT _, _, _, f, _, _ => by cases f
  | .ins _ _, _, _, f, _, _ => by cases f
  | .fn _, _, _, f, _, _ => by cases f
theorem Reps.rda (I : Inv X pins σ H s) : ∀ (ds : List D) (vs : List V) (us : List Value), plains ds = true → Reps X.K al H ds vs → Vals vs us → RdAs s.heap us (pys ds)
  | [], vs, us, _, h, r => by
    cases (show vs = [] from h)
    cases r
    exact .nil
  | d :: ds, vs, us, f, h, r => by
    obtain ⟨x, xs, rfl, h2, h3⟩ := h
    have f' : (plain d && plains ds) = true := f
    rw [Bool.and_eq_true] at f'
    cases r with
    | cons r1 r2 => exact .cons (Rep.rda I d x _ f'.1 h2 r1) (Reps.rda I ds xs _ f'.2 h3 r2)
theorem RepK.rda (I : Inv X pins σ H s) : ∀ (kvs : List (Key × D)) (ys : List (Key × V)) (vs : List (Key × Value)), plainK kvs = true → RepK X.K al H kvs ys → KV ys vs → RdAs s.heap (vs.map (·.2)) ((pyK kvs).map (·.2)) ∧ (vs.map fun z => keyP z.1) = kvs.map fun z => keyP z.1
  | [], ys, vs, _, h, r => by
    cases (show ys = [] from h)
    cases r
    exact ⟨.nil, rfl⟩
  | (q, d) :: ds, ys, vs, f, h, r => by
    obtain ⟨x, xs, rfl, h2, h3⟩ := h
    have f' : (plain d && plainK ds) = true := f
    rw [Bool.and_eq_true] at f'
    cases r with
    | cons r1 r2 =>
      obtain ⟨q2, e2⟩ := RepK.rda I ds xs _ f'.2 h3 r2
      refine ⟨.cons (Rep.rda I d x _ f'.1 h2 r1.2) q2, ?_⟩
      rw [List.map_cons, List.map_cons, e2, ← r1.1]
end
end
section
variable {X : Cx} {k : Kit} {P : Program} {w : World} {mg : Str → Option Value} {base : Heap} {r : Nat}
def rReprA (K : PySem.W.Frag) : List V → Hp → VK → Prop := fun vs H Q => ∃ al a d, vs = [.ref a] ∧ Rep K al H d (.ref a) ∧ ReprOk d ∧ Q (.str (shown d)) H
theorem call_reprA (C : In k X P w mg base r) (hg : k.gds = true) : CallR X (.builtin "repr") (rReprA X.K) := by
  intro pins s σ H xs us Q I rv h
  obtain ⟨al, a, d, rfl, hd, ok, q⟩ := h
  have e := Vals.ref1 rv
  subst e
  have un := C.room.units
  exact repr_A (Rep.rda I d _ (.ref a) ok.1 hd rfl) ok.2.1 ok.2.2.2 (C.gd hg) (by have := ok.2.2.1; omega) (fun _ _ z => z) fun h' u tk hk => ⟨.str (shown d), H, I.kept (t' := tk) hk, ⟨u, rfl⟩, q⟩
theorem c_reprA (C : In k X P w mg base r) (hg : k.gds = true) : CallD k X (.builtin "repr") wRepr := by
  refine ⟨_, call_reprA C hg, fun al H vs bs mu Q Q' m rb q kk => ?_⟩
  unfold wRepr at q
  split at q
  · rename_i d
    obtain ⟨v, rfl, hv⟩ := reps1 rb
    obtain ⟨q1, q2, q3⟩ := q
    have fin := kk (.str (shown d)) H al (.dat (.str (shown d))) mu Ext.refl m rfl q3
    rw [C.hK]
    have hv' : Rep k.K al H d v := hv
    have isr : ∃ a, v = .ref a := by
      cases d with
      | list ds => obtain ⟨a, xs, h, _⟩ := hv'; exact ⟨a, h⟩
      | tuple ds => obtain ⟨a, xs, h, _⟩ := hv'; exact ⟨a, h⟩
      | dK ds => obtain ⟨a, xs, h, _⟩ := hv'; exact ⟨a, h⟩
      | _ => cases q1
    obtain ⟨a, rfl⟩ := isr
    exact ⟨al, a, d, rfl, hv', q2, fin⟩
  · exact q.elim
end
end DL

set_option Elab.async false
set_option linter.all false
set_option maxRecDepth 100000
set_option maxHeartbeats 4000000
/-! a tuple or a list of anything, compared with an empty one -/
namespace DL
open PySem L2 PySem.Spec PyProof.Rows
section
variable {X : Cx} {k : Kit} {P : Program} {w : World} {mg : Str → Option Value} {base : Heap} {r : Nat}
def rNe0 (K : PySem.W.Frag) : R2 := fun x y H Q => ∃ a b xs, x = .ref a ∧ y = .ref b ∧ SqT K H a xs ∧ SqT K H b [] ∧ Q (.bl (!xs.isEmpty)) H
theorem op_ne0 (hu : X.A.units < cLine) : OpR X (compareOp .NotEq) (rNe0 X.K) := by
  intro pins s σ H x y v u Q I rx ry h
  obtain ⟨a, b, xs, rfl, rfl, ha, hb, q⟩ := h
  cases rx
  cases ry
  obtain ⟨its, r1, p1, _⟩ := I.tuple ha
  obtain ⟨its2, r2, p2, _⟩ := I.tuple hb
  cases r2
  refine SeqAt.RcNeAt.tuples (e := fun _ => true) p1 p2 hu (fun j h1 h2 => absurd h2 (by simp)) _ _ _ _ ?_
  refine ⟨.bl (!xs.isEmpty), H, I, ?_, q⟩
  show _ = Value.bool _
  congr 1
  cases r1 with
  | nil => rfl
  | cons h1 h2 => simp
def rEqL0 (K : PySem.W.Frag) : R2 := fun x y H Q => ∃ a b xs, x = .ref a ∧ y = .ref b ∧ SqL K H a xs ∧ SqL K H b [] ∧ Q (.bl xs.isEmpty) H
theorem op_eqL0 (hu : X.A.units < cLine) : OpR X (compareOp .Eq) (rEqL0 X.K) := by
  intro pins s σ H x y v u Q I rx ry h
  obtain ⟨a, b, xs, rfl, rfl, ha, hb, q⟩ := h
  cases rx
  cases ry
  obtain ⟨its, r1, ⟨o1, n1, g1, g2, _, g3⟩, _⟩ := I.list ha
  obtain ⟨its2, r2, ⟨o2, n2, k1, k2, _, k3⟩, _⟩ := I.list hb
  have p1 : s.heap.IsList a its.toArray := ⟨o1, g1, g2, n1, g3⟩
  have p2 : s.heap.IsList b its2.toArray := ⟨o2, k1, k2, n2, k3⟩
  cases r2
  cases r1 with
  | nil => exact SeqAt.eq_listAt (e := fun _ => true) p1 p2 rfl hu (fun j h1 h2 => absurd h2 (by simp)) ⟨.bl true, H, I, rfl, q⟩
  | cons h1 h2 => exact SeqAt.eq_list_lengthsAt p1 p2 (by simp) hu ⟨.bl false, H, I, rfl, q⟩
def rNeL0 (K : PySem.W.Frag) : R2 := fun x y H Q => ∃ a b xs, x = .ref a ∧ y = .ref b ∧ SqL K H a xs ∧ SqL K H b [] ∧ Q (.bl (!xs.isEmpty)) H
theorem op_neL0 (hu : X.A.units < cLine) : OpR X (compareOp .NotEq) (rNeL0 X.K) := by
  intro pins s σ H x y v u Q I rx ry h
  obtain ⟨a, b, xs, rfl, rfl, ha, hb, q⟩ := h
  cases rx
  cases ry
  obtain ⟨its, r1, ⟨o1, n1, g1, g2, _, g3⟩, _⟩ := I.list ha
  obtain ⟨its2, r2, ⟨o2, n2, k1, k2, _, k3⟩, _⟩ := I.list hb
  have p1 : s.heap.IsList a its.toArray := ⟨o1, g1, g2, n1, g3⟩
  have p2 : s.heap.IsList b its2.toArray := ⟨o2, k1, k2, n2, k3⟩
  cases r2
  cases r1 with
  | nil => exact SeqAt.RcNeAt.lists (e := fun _ => true) p1 p2 rfl hu (fun j h1 h2 => absurd h2 (by simp)) _ _ _ _ ⟨.bl false, H, I, rfl, q⟩
  | cons h1 h2 => exact SeqAt.RcNeAt.lists_lengths p1 p2 (by simp) hu _ _ _ _ ⟨.bl true, H, I, rfl, q⟩
def wNe0 : SemO2 := fun b c mu Q => match b, c with
  | .dat (.tuple ds), .dat (.tuple []) => Q (.dat (.bool (!ds.isEmpty))) mu
  | _, _ => False
theorem o_ne0 (C : In k X P w mg base r) : OpD k X (compareOp .NotEq) wNe0 := by
  have hu := C.room.units
  refine ⟨_, op_ne0 (by omega), fun al H x y b c mu Q Q' m rb rc q kk => ?_⟩
  unfold wNe0 at q
  split at q
  · rename_i ds
    obtain ⟨a, xs, rfl, h2, h3⟩ := rb
    obtain ⟨a', ys, rfl, g2, g3⟩ := rc
    cases (show ys = [] from g3)
    rw [C.hK]
    refine ⟨a, a', xs, rfl, rfl, h2.sq, g2.sq, ?_⟩
    rw [empty_reps h3]
    exact kk _ H al (.dat (.bool _)) mu Ext.refl m rfl q
  · exact q.elim
def wEqL0 : SemO2 := fun b c mu Q => ∃ ds, lstOf mu b = some ds ∧ lstOf mu c = some [] ∧ Q (.dat (.bool ds.isEmpty)) mu
def wNeL0 : SemO2 := fun b c mu Q => ∃ ds, lstOf mu b = some ds ∧ lstOf mu c = some [] ∧ Q (.dat (.bool (!ds.isEmpty))) mu
theorem o_eqL0 (C : In k X P w mg base r) : OpD k X (compareOp .Eq) wEqL0 := by
  have hu := C.room.units
  refine ⟨_, op_eqL0 (by omega), fun al H x y b c mu Q Q' m rb rc q kk => ?_⟩
  obtain ⟨ds, h1, h2, q⟩ := q
  obtain ⟨a, xs, rfl, a2, a3⟩ := lstOf_sq m rb h1
  obtain ⟨a', ys, rfl, g2, g3⟩ := lstOf_sq m rc h2
  cases (show ys = [] from g3)
  rw [C.hK]
  refine ⟨a, a', xs, rfl, rfl, a2, g2, ?_⟩
  rw [empty_reps a3]
  exact kk _ H al (.dat (.bool _)) mu Ext.refl m rfl q
theorem o_neL0 (C : In k X P w mg base r) : OpD k X (compareOp .NotEq) wNeL0 := by
  have hu := C.room.units
  refine ⟨_, op_neL0 (by omega), fun al H x y b c mu Q Q' m rb rc q kk => ?_⟩
  obtain ⟨ds, h1, h2, q⟩ := q
  obtain ⟨a, xs, rfl, a2, a3⟩ := lstOf_sq m rb h1
  obtain ⟨a', ys, rfl, g2, g3⟩ := lstOf_sq m rc h2
  cases (show ys = [] from g3)
  rw [C.hK]
  refine ⟨a, a', xs, rfl, rfl, a2, g2, ?_⟩
  rw [empty_reps a3]
  exact kk _ H al (.dat (.bool _)) mu Ext.refl m rfl q
def rEqS (K : PySem.W.Frag) : R2 := fun x y H Q => ∃ a b, x = .str a ∧ y = .str b ∧ Q (.bl (a == b)) H
theorem op_eqS : OpR X (compareOp .Eq) (rEqS X.K) := by
  intro pins s σ H x y v u Q I rx ry h
  obtain ⟨a, b, rfl, rfl, q⟩ := h
  obtain ⟨t, rfl⟩ := rx
  obtain ⟨t2, rfl⟩ := ry
  exact SeqAt.RcAt.str_str a t b t2 _ _ _ _ ⟨.bl (a == b), H, I, rfl, q⟩
def rNeS (K : PySem.W.Frag) : R2 := fun x y H Q => ∃ a b, x = .str a ∧ y = .str b ∧ Q (.bl (!(a == b))) H
theorem op_neS : OpR X (compareOp .NotEq) (rNeS X.K) := by
  intro pins s σ H x y v u Q I rx ry h
  obtain ⟨a, b, rfl, rfl, q⟩ := h
  obtain ⟨t, rfl⟩ := rx
  obtain ⟨t2, rfl⟩ := ry
  exact SeqAt.RcNeAt.str_str a t b t2 _ _ _ _ ⟨.bl (!(a == b)), H, I, rfl, q⟩
def wEqS : SemO2 := fun b c mu Q => match b, c with
  | .dat (.str x), .dat (.str y) => Q (.dat (.bool (decide (x = y)))) mu
  | _, _ => False
def wNeS : SemO2 := fun b c mu Q => match b, c with
  | .dat (.str x), .dat (.str y) => Q (.dat (.bool (!decide (x = y)))) mu
  | _, _ => False
theorem beq_dec (x y : Str) : (x == y) = decide (x = y) := by
  by_cases h : x = y <;> simp [h]
theorem o_eqS : OpD k X (compareOp .Eq) wEqS := by
  refine ⟨_, op_eqS, fun al H x y b c mu Q Q' m rb rc q kk => ?_⟩
  unfold wEqS at q
  split at q
  · rename_i a c
    cases (show x = _ from rb)
    cases (show y = _ from rc)
    refine ⟨a, c, rfl, rfl, ?_⟩
    rw [beq_dec]
    exact kk _ H al (.dat (.bool _)) mu Ext.refl m rfl q
  · exact q.elim
theorem o_neS : OpD k X (compareOp .NotEq) wNeS := by
  refine ⟨_, op_neS, fun al H x y b c mu Q Q' m rb rc q kk => ?_⟩
  unfold wNeS at q
  split at q
  · rename_i a c
    cases (show x = _ from rb)
    cases (show y = _ from rc)
    refine ⟨a, c, rfl, rfl, ?_⟩
    rw [beq_dec]
    exact kk _ H al (.dat (.bool _)) mu Ext.refl m rfl q
  · exact q.elim
def wEqB : SemO2 := fun b c mu Q => match b, c with
  | .dat (.tuple ds), .dat (.tuple []) => Q (.dat (.bool ds.isEmpty)) mu
  | .dat (.list ds), .dat (.list []) => Q (.dat (.bool ds.isEmpty)) mu
  | .dat (.str x), .dat (.str y) => Q (.dat (.bool (decide (x = y)))) mu
  | .dat d, .dat e => Shp d ∧ Shp e ∧ Q (.dat (.bool (eqv d e))) mu
  | .ref j, .dat (.list []) => ∃ ds, mu[j]? = some (.lst ds) ∧ Q (.dat (.bool ds.isEmpty)) mu
  | _, _ => False
theorem o_eqB (C : In k X P w mg base r) : OpD k X (compareOp .Eq) wEqB :=
  (o_or (o_eq0 C) (o_or (o_eq C) (o_or (o_eqL0 C) o_eqS))).weaken fun b c mu Q q => by
    unfold wEqB at q
    split at q
    · exact .inl q
    · exact .inr (.inr (.inl ⟨_, rfl, rfl, q⟩))
    · exact .inr (.inr (.inr q))
    · exact .inr (.inl q)
    · obtain ⟨ds, h, q⟩ := q
      exact .inr (.inr (.inl ⟨ds, by simp [lstOf, h], rfl, q⟩))
    · exact q.elim
def wNeB : SemO2 := fun b c mu Q => match b, c with
  | .dat (.tuple ds), .dat (.tuple []) => Q (.dat (.bool (!ds.isEmpty))) mu
  | .dat (.list ds), .dat (.list []) => Q (.dat (.bool (!ds.isEmpty))) mu
  | .dat (.str x), .dat (.str y) => Q (.dat (.bool (!decide (x = y)))) mu
  | .dat d, .dat e => Shp d ∧ Shp e ∧ Q (.dat (.bool (!eqv d e))) mu
  | .ref j, .dat (.list []) => ∃ ds, mu[j]? = some (.lst ds) ∧ Q (.dat (.bool (!ds.isEmpty))) mu
  | _, _ => False
theorem o_neB (C : In k X P w mg base r) : OpD k X (compareOp .NotEq) wNeB :=
  (o_or (o_ne0 C) (o_or (o_ne C) (o_or (o_neL0 C) o_neS))).weaken fun b c mu Q q => by
    unfold wNeB at q
    split at q
    · exact .inl q
    · exact .inr (.inr (.inl ⟨_, rfl, rfl, q⟩))
    · exact .inr (.inr (.inr q))
    · exact .inr (.inl q)
    · obtain ⟨ds, h, q⟩ := q
      exact .inr (.inr (.inl ⟨ds, by simp [lstOf, h], rfl, q⟩))
    · exact q.elim
end
end DL

set_option Elab.async false
set_option linter.all false
set_option maxRecDepth 100000
set_option maxHeartbeats 4000000
/-! equations for the walks -/
namespace DL
open PySem L2 PySem.Spec PyProof.Rows
theorem lstOf_l (mu : Mu) (ds : List D) : lstOf mu (.dat (.list ds)) = some ds := rfl
theorem lstOf_new (mu : Mu) (ds : List D) : lstOf (mu ++ [.lst ds]) (.ref mu.length) = some ds := by simp [lstOf]
theorem seqOf_l (mu : Mu) (ds : List D) : seqOf mu (.dat (.list ds)) = some ds := rfl
theorem seqOf_t (mu : Mu) (ds : List D) : seqOf mu (.dat (.tuple ds)) = some ds := rfl
theorem seqOf_new (mu : Mu) (ds : List D) : seqOf (mu ++ [.lst ds]) (.ref mu.length) = some ds := by simp [seqOf]
theorem new_at (mu : Mu) (o : MO) : (mu ++ [o])[mu.length]? = some o := by simp
theorem take_new2 (mu : Mu) (o o' : MO) : (mu ++ [o] ++ [o']).take mu.length = mu := by rw [List.append_assoc, List.take_left]
theorem len_new (mu : Mu) (o : MO) : (mu.length ≤ (mu ++ [o]).length) = True := eq_true (by rw [List.length_append]; omega)
theorem frzE_l {acc : List D} {Q : D → Prop} : (∃ o d, some (MO.lst acc) = some o ∧ frz o = some d ∧ Q d) = Q (.list acc) := by
  apply propext
  constructor
  · rintro ⟨o, d, h1, h2, h3⟩
    cases h1
    cases h2
    exact h3
  · exact fun h => ⟨_, _, rfl, rfl, h⟩
theorem frzE_k {acc : List (Key × D)} {Q : D → Prop} : (∃ o d, some (MO.dK acc) = some o ∧ frz o = some d ∧ Q d) = Q (.dK acc) := by
  apply propext
  constructor
  · rintro ⟨o, d, h1, h2, h3⟩
    cases h1
    cases h2
    exact h3
  · exact fun h => ⟨_, _, rfl, rfl, h⟩
theorem cut1 (ds : List D) : cutD ds (some 1) none = ds.drop 1 := by
  unfold cutD
  have e1 : HT.sIx ds.length 0 (some 1) = min 1 ds.length := HT.sIx_nat ds.length 0 1
  rw [e1, HT.sIx_none]
  cases ds with
  | nil => rfl
  | cons d r =>
    have e2 : min 1 (d :: r).length = 1 := by simp only [List.length_cons]; omega
    rw [e2]
    exact List.take_of_length_le (by simp)
theorem rcvT_s (T : String) (x : Str) (mu : Mu) : rcvT T (.dat (.str x)) mu = (T = "str") := rfl
theorem rcvT_l (T : String) (x : List D) (mu : Mu) : rcvT T (.dat (.list x)) mu = (T = "list") := rfl
theorem rcv_l {j : Nat} {mu : Mu} {ds : List D} (h : mu[j]? = some (.lst ds)) : rcvT "list" (.ref j) mu := by
  unfold rcvT
  simp only [h]
theorem wLen_t (ds : List D) (mu : Mu) (Q : B → Mu → Prop) : wLen [.dat (.tuple ds)] mu Q = Q (.dat (.int ds.length)) mu := rfl
theorem wLen_l (ds : List D) (mu : Mu) (Q : B → Mu → Prop) : wLen [.dat (.list ds)] mu Q = Q (.dat (.int ds.length)) mu := rfl
theorem wLen_s (x : Str) (mu : Mu) (Q : B → Mu → Prop) : wLen [.dat (.str x)] mu Q = (x.length ≤ sizeLine ∧ Q (.dat (.int x.length)) mu) := rfl
theorem wLen_r {j : Nat} {mu : Mu} {ds : List D} {Q : B → Mu → Prop} (h : mu[j]? = some (.lst ds)) (q : Q (.dat (.int ds.length)) mu) : wLen [.ref j] mu Q := by
  unfold wLen
  simp only [h]
  exact q
theorem seqOf_r {j : Nat} {mu : Mu} {ds : List D} (h : mu[j]? = some (.lst ds)) : seqOf mu (.ref j) = some ds := by
  unfold seqOf
  simp only [h]
theorem lstOf_r {j : Nat} {mu : Mu} {ds : List D} (h : mu[j]? = some (.lst ds)) : lstOf mu (.ref j) = some ds := by
  unfold lstOf
  simp only [h]
theorem cut_k {w1 w2 : SemS} {E : DEnds} {en : En} {mu : Mu} (Mid : En → Mu → Prop) (h1 : w1 { E with nx := Mid } en mu) (h2 : ∀ en' mu', Mid en' mu' → w2 E en' mu') : sCut w1 w2 E en mu := ⟨Mid, h1, h2⟩
theorem set_take {n a : Nat} {M : Mu} {o : MO} (h : n ≤ a) : (M.set a o).take n = M.take n := by
  rw [List.take_set_of_le h]
theorem take_at {M mu : Mu} {n j : Nat} {o : MO} (h : M.take n = mu) (hj : mu[j]? = some o) : M[j]? = some o := by
  rw [← h] at hj
  by_cases c : j < n
  · rw [List.getElem?_take_of_lt c] at hj
    exact hj
  · rw [List.getElem?_eq_none (by rw [List.length_take]; omega)] at hj
    cases hj
theorem set_self {M : Mu} {a : Nat} {o o' : MO} (h : M[a]? = some o) : (M.set a o')[a]? = some o' := by
  have := (List.getElem?_eq_some_iff.mp h).1
  rw [List.getElem?_set_self this]
theorem set_ne {M : Mu} {a b : Nat} {o : MO} (h : a ≠ b) : (M.set a o)[b]? = M[b]? := List.getElem?_set_ne h
theorem seqIx {r : Int} {n : Nat} (h0 : 0 ≤ r) (h1 : r < (n : Int)) : seqIndex? r n = some r.toNat := by
  unfold seqIndex?
  have e : (if r < 0 then r + (n : Int) else r) = r := if_neg (by omega)
  simp only [e]
  rw [if_pos (by simp [h0, h1])]
theorem app_take {n : Nat} {M : Mu} (h : n ≤ M.length) (o : List MO) : (M ++ o).take n = M.take n := by
  rw [List.take_append_of_le_length h]
theorem app_at {M : Mu} {j : Nat} {o : MO} (h : M[j]? = some o) (o' : List MO) : (M ++ o')[j]? = some o := by
  rw [List.getElem?_append_left (List.getElem?_eq_some_iff.mp h).1]
  exact h
/-! what comes behind a part, as a word that is opened only where it is asked -/
abbrev KE := B → Mu → Prop
abbrev KT := Bool → Mu → Prop
abbrev KN := En → Mu → Prop
def kOp2b (w : SemO2) (x : B) (Q : KE) : KE := fun y mu => w x y mu Q
def kOp2 (w : SemO2) (mb : SemE) (en : En) (Q : KE) : KE := fun x mu => mb en mu (kOp2b w x Q)
theorem sOp2_k (w : SemO2) (ma mb : SemE) (en : En) (mu : Mu) (Q : KE) : sOp2 w ma mb en mu Q = ma en mu (kOp2 w mb en Q) := propext Iff.rfl
theorem kOp2_e (w : SemO2) (mb : SemE) (en : En) (Q : KE) (x : B) (mu : Mu) : kOp2 w mb en Q x mu = mb en mu (kOp2b w x Q) := propext Iff.rfl
theorem kOp2b_e (w : SemO2) (x : B) (Q : KE) (y : B) (mu : Mu) : kOp2b w x Q y mu = w x y mu Q := propext Iff.rfl
def kTst (Q : KT) : KE := fun b mu => match b with
  | .dat (.bool c) => Q c mu
  | _ => False
theorem sTst_k (m : SemE) (en : En) (mu : Mu) (Q : KT) : sTst m en mu Q = m en mu (kTst Q) := propext Iff.rfl
theorem kTst_e (Q : KT) (c : Bool) (mu : Mu) : kTst Q (.dat (.bool c)) mu = Q c mu := propext Iff.rfl
def kCh3 (w' : SemO2) (y : B) (Q : KE) : KE := fun u mu => w' y u mu Q
def kCh2 (w' : SemO2) (mc : SemE) (en : En) (y : B) (Q : KE) : KE := fun z mu => match z with
  | .dat (.bool c) => if c = true then mc en mu (kCh3 w' y Q) else Q (.dat (.bool false)) mu
  | _ => False
def kCh1 (w w' : SemO2) (mc : SemE) (en : En) (x : B) (Q : KE) : KE := fun y mu => w x y mu (kCh2 w' mc en y Q)
def kCh (w w' : SemO2) (mb mc : SemE) (en : En) (Q : KE) : KE := fun x mu => mb en mu (kCh1 w w' mc en x Q)
theorem sChain_k (w w' : SemO2) (ma mb mc : SemE) (en : En) (mu : Mu) (Q : KE) : sChain w w' ma mb mc en mu Q = ma en mu (kCh w w' mb mc en Q) := propext Iff.rfl
theorem kCh_e (w w' : SemO2) (mb mc : SemE) (en : En) (Q : KE) (x : B) (mu : Mu) : kCh w w' mb mc en Q x mu = mb en mu (kCh1 w w' mc en x Q) := propext Iff.rfl
theorem kCh1_e (w w' : SemO2) (mc : SemE) (en : En) (x : B) (Q : KE) (y : B) (mu : Mu) : kCh1 w w' mc en x Q y mu = w x y mu (kCh2 w' mc en y Q) := propext Iff.rfl
theorem kCh2_e (w' : SemO2) (mc : SemE) (en : En) (y : B) (Q : KE) (c : Bool) (mu : Mu) : kCh2 w' mc en y Q (.dat (.bool c)) mu = if c = true then mc en mu (kCh3 w' y Q) else Q (.dat (.bool false)) mu := propext Iff.rfl
theorem kCh3_e (w' : SemO2) (y : B) (Q : KE) (u : B) (mu : Mu) : kCh3 w' y Q u mu = w' y u mu Q := propext Iff.rfl
def kAnd (n : SemT) (en : En) (Q : KT) : KT := fun c mu => if c = true then n en mu Q else Q false mu
def kOr (n : SemT) (en : En) (Q : KT) : KT := fun c mu => if c = true then Q true mu else n en mu Q
def kNot (Q : KT) : KT := fun c mu => Q (!c) mu
theorem sAnd_k (m n : SemT) (en : En) (mu : Mu) (Q : KT) : sAnd m n en mu Q = m en mu (kAnd n en Q) := propext Iff.rfl
theorem kAnd_e (n : SemT) (en : En) (Q : KT) (c : Bool) (mu : Mu) : kAnd n en Q c mu = if c = true then n en mu Q else Q false mu := propext Iff.rfl
theorem sOr_k (m n : SemT) (en : En) (mu : Mu) (Q : KT) : sOr m n en mu Q = m en mu (kOr n en Q) := propext Iff.rfl
theorem kOr_e (n : SemT) (en : En) (Q : KT) (c : Bool) (mu : Mu) : kOr n en Q c mu = if c = true then Q true mu else n en mu Q := propext Iff.rfl
theorem sNot_k (m : SemT) (en : En) (mu : Mu) (Q : KT) : sNot m en mu Q = m en mu (kNot Q) := propext Iff.rfl
theorem kNot_e (Q : KT) (c : Bool) (mu : Mu) : kNot Q c mu = Q (!c) mu := propext Iff.rfl
def kAndV (n : SemE) (en : En) (Q : KE) : KE := fun b mu => match b with
  | .dat (.bool c) => if c = true then n en mu Q else Q (.dat (.bool false)) mu
  | _ => False
def kOrV (n : SemE) (en : En) (Q : KE) : KE := fun b mu => match b with
  | .dat (.bool c) => if c = true then Q (.dat (.bool true)) mu else n en mu Q
  | _ => False
def kNotV (Q : KE) : KE := fun b mu => match b with
  | .dat (.bool c) => Q (.dat (.bool (!c))) mu
  | _ => False
theorem sAndV_k (m n : SemE) (en : En) (mu : Mu) (Q : KE) : sAndV m n en mu Q = m en mu (kAndV n en Q) := propext Iff.rfl
theorem kAndV_e (n : SemE) (en : En) (Q : KE) (c : Bool) (mu : Mu) : kAndV n en Q (.dat (.bool c)) mu = if c = true then n en mu Q else Q (.dat (.bool false)) mu := propext Iff.rfl
theorem sOrV_k (m n : SemE) (en : En) (mu : Mu) (Q : KE) : sOrV m n en mu Q = m en mu (kOrV n en Q) := propext Iff.rfl
theorem kOrV_e (n : SemE) (en : En) (Q : KE) (c : Bool) (mu : Mu) : kOrV n en Q (.dat (.bool c)) mu = if c = true then Q (.dat (.bool true)) mu else n en mu Q := propext Iff.rfl
theorem sNotV_k (m : SemE) (en : En) (mu : Mu) (Q : KE) : sNotV m en mu Q = m en mu (kNotV Q) := propext Iff.rfl
theorem kNotV_e (Q : KE) (c : Bool) (mu : Mu) : kNotV Q (.dat (.bool c)) mu = Q (.dat (.bool (!c))) mu := propext Iff.rfl
def kIf (ma mb : SemE) (en : En) (Q : KE) : KT := fun c mu => if c = true then ma en mu Q else mb en mu Q
theorem sIf_k (m : SemT) (ma mb : SemE) (en : En) (mu : Mu) (Q : KE) : sIf m ma mb en mu Q = m en mu (kIf ma mb en Q) := propext Iff.rfl
theorem kIf_e (ma mb : SemE) (en : En) (Q : KE) (c : Bool) (mu : Mu) : kIf ma mb en Q c mu = if c = true then ma en mu Q else mb en mu Q := propext Iff.rfl
abbrev KA := List B → Mu → Prop
def kCons2 (b : B) (Q : KA) : KA := fun bs mu => Q (b :: bs) mu
def kCons (mr : SemA) (en : En) (Q : KA) : KE := fun b mu => mr en mu (kCons2 b Q)
theorem sCons_k (ma : SemE) (mr : SemA) (en : En) (mu : Mu) (Q : KA) : sCons ma mr en mu Q = ma en mu (kCons mr en Q) := propext Iff.rfl
theorem kCons_e (mr : SemA) (en : En) (Q : KA) (b : B) (mu : Mu) : kCons mr en Q b mu = mr en mu (kCons2 b Q) := propext Iff.rfl
theorem kCons2_e (b : B) (Q : KA) (bs : List B) (mu : Mu) : kCons2 b Q bs mu = Q (b :: bs) mu := propext Iff.rfl
def kTup (Q : KE) : KA := fun bs mu => match dats bs with
  | some ds => ds.length ≤ sizeLine ∧ Q (.dat (.tuple ds)) mu
  | none => False
def kLst (Q : KE) : KA := fun bs mu => match dats bs with
  | some ds => ds.length ≤ sizeLine ∧ Q (.dat (.list ds)) mu
  | none => False
def kLstO (Q : KE) : KA := fun bs mu => match dats bs with
  | some ds => ds.length ≤ sizeLine ∧ Q (.ref mu.length) (mu ++ [.lst ds])
  | none => False
theorem sTup_k (m : SemA) (en : En) (mu : Mu) (Q : KE) : sTup m en mu Q = m en mu (kTup Q) := propext Iff.rfl
theorem sLst_k (m : SemA) (en : En) (mu : Mu) (Q : KE) : sLst m en mu Q = m en mu (kLst Q) := propext Iff.rfl
theorem sLstO_k (m : SemA) (en : En) (mu : Mu) (Q : KE) : sLstO m en mu Q = m en mu (kLstO Q) := propext Iff.rfl
theorem kTup_e (Q : KE) (bs : List B) (mu : Mu) : kTup Q bs mu = match dats bs with
  | some ds => ds.length ≤ sizeLine ∧ Q (.dat (.tuple ds)) mu
  | none => False := propext Iff.rfl
theorem kLst_e (Q : KE) (bs : List B) (mu : Mu) : kLst Q bs mu = match dats bs with
  | some ds => ds.length ≤ sizeLine ∧ Q (.dat (.list ds)) mu
  | none => False := propext Iff.rfl
theorem kLstO_e (Q : KE) (bs : List B) (mu : Mu) : kLstO Q bs mu = match dats bs with
  | some ds => ds.length ≤ sizeLine ∧ Q (.ref mu.length) (mu ++ [.lst ds])
  | none => False := propext Iff.rfl
def kSp (d : DSp) (Q : KE) : KA := fun bs mu => d bs mu Q
theorem sCall_k (d : DSp) (m : SemA) (en : En) (mu : Mu) (Q : KE) : sCall d m en mu Q = m en mu (kSp d Q) := propext Iff.rfl
theorem kSp_e (d : DSp) (Q : KE) (bs : List B) (mu : Mu) : kSp d Q bs mu = d bs mu Q := propext Iff.rfl
theorem sBi_k (d : SemB) (m : SemA) (en : En) (mu : Mu) (Q : KE) : sBi d m en mu Q = m en mu (kSp d Q) := propext Iff.rfl
def kKw2 (d : DSp) (n m : Nat) (g : List Nat) (bs : List B) (Q : KE) : KA := fun cs mu => d (pick n m g bs cs) mu Q
def kKw (d : DSp) (n m : Nat) (g : List Nat) (mk : SemA) (en : En) (Q : KE) : KA := fun bs mu => mk en mu (kKw2 d n m g bs Q)
theorem sCallK_k (d : DSp) (n m : Nat) (g : List Nat) (ma mk : SemA) (en : En) (mu : Mu) (Q : KE) : sCallK d n m g ma mk en mu Q = ma en mu (kKw d n m g mk en Q) := propext Iff.rfl
theorem kKw_e (d : DSp) (n m : Nat) (g : List Nat) (mk : SemA) (en : En) (Q : KE) (bs : List B) (mu : Mu) : kKw d n m g mk en Q bs mu = mk en mu (kKw2 d n m g bs Q) := propext Iff.rfl
theorem kKw2_e (d : DSp) (n m : Nat) (g : List Nat) (bs cs : List B) (Q : KE) (mu : Mu) : kKw2 d n m g bs Q cs mu = d (pick n m g bs cs) mu Q := propext Iff.rfl
theorem sCallL_k (S : Addr → DSp → Prop) (i : Nat) (m : SemA) (en : En) (mu : Mu) (Q : KE) : sCallL S i m en mu Q = ∃ f d, en[i]? = some (some (.dat (.fn f))) ∧ S f d ∧ m en mu (kSp d Q) := propext Iff.rfl
def kDrop (D : DEnds) (en : En) : KE := fun _ mu => D.nx en mu
theorem sDrop_k (m : SemE) (D : DEnds) (en : En) (mu : Mu) : sDrop m D en mu = m en mu (kDrop D en) := propext Iff.rfl
theorem kDrop_e (D : DEnds) (en : En) (b : B) (mu : Mu) : kDrop D en b mu = D.nx en mu := propext Iff.rfl
theorem sRet_k (m : SemE) (D : DEnds) (en : En) (mu : Mu) : sRet m D en mu = m en mu D.rt := propext Iff.rfl
def kIfS (w1 w2 : SemS) (D : DEnds) (en : En) : KT := fun c mu => if c = true then w1 D en mu else w2 D en mu
theorem sIfS_k (t : SemT) (w1 w2 : SemS) (D : DEnds) (en : En) (mu : Mu) : sIfS t w1 w2 D en mu = t en mu (kIfS w1 w2 D en) := propext Iff.rfl
theorem kIfS_e (w1 w2 : SemS) (D : DEnds) (en : En) (c : Bool) (mu : Mu) : kIfS w1 w2 D en c mu = if c = true then w1 D en mu else w2 D en mu := propext Iff.rfl
def kAsg (g : SemG) (D : DEnds) (en : En) : KE := fun b mu => g b en mu D.nx
theorem sAsg_k (m : SemE) (g : SemG) (D : DEnds) (en : En) (mu : Mu) : sAsg m g D en mu = m en mu (kAsg g D en) := propext Iff.rfl
theorem kAsg_e (g : SemG) (D : DEnds) (en : En) (b : B) (mu : Mu) : kAsg g D en b mu = g b en mu D.nx := propext Iff.rfl
def kPar (i j : Nat) (D : DEnds) (en : En) : KA := fun bs mu => match bs with
  | [b, c] => D.nx ((en.set i (some b)).set j (some c)) mu
  | _ => False
theorem sPar_k (i j : Nat) (m : SemA) (D : DEnds) (en : En) (mu : Mu) : sPar i j m D en mu = m en mu (kPar i j D en) := propext Iff.rfl
theorem kPar_e (i j : Nat) (D : DEnds) (en : En) (b c : B) (mu : Mu) : kPar i j D en [b, c] mu = D.nx ((en.set i (some b)).set j (some c)) mu := propext Iff.rfl
def kPar3 (i j l : Nat) (D : DEnds) (en : En) : KA := fun bs mu => match bs with
  | [b, c, d] => D.nx (((en.set i (some b)).set j (some c)).set l (some d)) mu
  | _ => False
theorem sPar3_k (i j l : Nat) (m : SemA) (D : DEnds) (en : En) (mu : Mu) : sPar3 i j l m D en mu = m en mu (kPar3 i j l D en) := propext Iff.rfl
theorem kPar3_e (i j l : Nat) (D : DEnds) (en : En) (b c d : B) (mu : Mu) : kPar3 i j l D en [b, c, d] mu = D.nx (((en.set i (some b)).set j (some c)).set l (some d)) mu := propext Iff.rfl
def kGc (gs : SemGs) (r : List D) (Q : KN) : KN := fun en mu => gs r en mu Q
theorem sGcons_k (g : SemG) (gs : SemGs) (d : D) (r : List D) (en : En) (mu : Mu) (Q : KN) : sGcons g gs (d :: r) en mu Q = g (.dat d) en mu (kGc gs r Q) := propext Iff.rfl
theorem kGc_e (gs : SemGs) (r : List D) (Q : KN) (en : En) (mu : Mu) : kGc gs r Q en mu = gs r en mu Q := propext Iff.rfl
/-- what comes behind a statement: opened by hand -/
def kSeq (w : SemS) (D : DEnds) : KN := fun en mu => w D en mu
theorem sSeq_k (w1 w2 : SemS) (D : DEnds) (en : En) (mu : Mu) : sSeq w1 w2 D en mu = w1 { D with nx := kSeq w2 D } en mu := propext Iff.rfl
theorem kSeq_go {w : SemS} {D : DEnds} {en : En} {mu : Mu} (h : w D en mu) : kSeq w D en mu := h
abbrev KI := List D → (Mu → Prop) → Mu → Prop
def kIt (Q : KI) : KE := fun b mu1 => match b with
  | .dat (.list ds) => Q ds (fun _ => True) mu1
  | .dat (.tuple ds) => Q ds (fun _ => True) mu1
  | .ref j => match mu1[j]? with
    | some (.lst ds) => Q ds (fun mu => mu[j]? = some (.lst ds)) mu1
    | _ => False
  | _ => False
theorem sIt_k (m : SemE) (en : En) (mu : Mu) (Q : KI) : sIt m en mu Q = m en mu (kIt Q) := propext Iff.rfl
def kItS (Q : KI) : KE := fun b mu1 => match b with
  | .dat (.str x) => Q (signsD x) (fun _ => True) mu1
  | _ => False
theorem sItS_k (m : SemE) (en : En) (mu : Mu) (Q : KI) : sItS m en mu Q = m en mu (kItS Q) := propext Iff.rfl
def kRng (Q : KI) : KE := fun b mu1 => match b with
  | .dat (.int j) => (-(2 ^ 62) ≤ j ∧ j < 2 ^ 62) ∧ Q (rngD 0 j.toNat) (fun _ => True) mu1
  | _ => False
theorem sRng1_k (m : SemE) (en : En) (mu : Mu) (Q : KI) : sRng1 m en mu Q = m en mu (kRng Q) := propext Iff.rfl
theorem kRng_e (Q : KI) (j : Int) (mu1 : Mu) : kRng Q (.dat (.int j)) mu1 = ((-(2 ^ 62) ≤ j ∧ j < 2 ^ 62) ∧ Q (rngD 0 j.toNat) (fun _ => True) mu1) := propext Iff.rfl
def kRng2b (b : B) (Q : KI) : KE := fun c mu2 => match b, c with
  | .dat (.int i), .dat (.int j) => (-(2 ^ 62) ≤ i ∧ i < 2 ^ 62 ∧ -(2 ^ 62) ≤ j ∧ j < 2 ^ 62) ∧ Q (rngD i (j - i).toNat) (fun _ => True) mu2
  | _, _ => False
def kRng2 (n : SemE) (en : En) (Q : KI) : KE := fun b mu1 => n en mu1 (kRng2b b Q)
theorem sRng2_k (m n : SemE) (en : En) (mu : Mu) (Q : KI) : sRng2 m n en mu Q = m en mu (kRng2 n en Q) := propext Iff.rfl
theorem kRng2_e (n : SemE) (en : En) (Q : KI) (b : B) (mu1 : Mu) : kRng2 n en Q b mu1 = n en mu1 (kRng2b b Q) := propext Iff.rfl
theorem kRng2b_e (i j : Int) (Q : KI) (mu2 : Mu) : kRng2b (.dat (.int i)) Q (.dat (.int j)) mu2 = ((-(2 ^ 62) ≤ i ∧ i < 2 ^ 62 ∧ -(2 ^ 62) ≤ j ∧ j < 2 ^ 62) ∧ Q (rngD i (j - i).toNat) (fun _ => True) mu2) := propext Iff.rfl
def kZip (Q : KI) : KA := fun bs mu1 => match bs with
  | [.dat (.list ds), .dat (.list es)] => Q (zipD ds es) (fun _ => True) mu1
  | [.dat (.tuple ds), .dat (.tuple es)] => Q (zipD ds es) (fun _ => True) mu1
  | _ => False
theorem sZip_k (mm : SemA) (en : En) (mu : Mu) (Q : KI) : sZip mm en mu Q = mm en mu (kZip Q) := propext Iff.rfl
theorem kZip_l (Q : KI) (ds es : List D) (mu1 : Mu) : kZip Q [.dat (.list ds), .dat (.list es)] mu1 = Q (zipD ds es) (fun _ => True) mu1 := propext Iff.rfl
theorem kZip_t (Q : KI) (ds es : List D) (mu1 : Mu) : kZip Q [.dat (.tuple ds), .dat (.tuple es)] mu1 = Q (zipD ds es) (fun _ => True) mu1 := propext Iff.rfl
def kEnum (Q : KI) : KA := fun bs mu1 => match bs with
  | [.dat (.list ds)] => Q (enumD ds) (fun _ => True) mu1
  | [.ref j] => ∃ ds, mu1[j]? = some (.lst ds) ∧ Q (enumD ds) (fun mu => mu[j]? = some (.lst ds)) mu1
  | _ => False
theorem sEnum_k (mm : SemA) (en : En) (mu : Mu) (Q : KI) : sEnum mm en mu Q = mm en mu (kEnum Q) := propext Iff.rfl
theorem kEnum_l (Q : KI) (ds : List D) (mu1 : Mu) : kEnum Q [.dat (.list ds)] mu1 = Q (enumD ds) (fun _ => True) mu1 := propext Iff.rfl
theorem kIt_l (Q : KI) (ds : List D) (mu : Mu) : kIt Q (.dat (.list ds)) mu = Q ds (fun _ => True) mu := propext Iff.rfl
theorem kIt_t (Q : KI) (ds : List D) (mu : Mu) : kIt Q (.dat (.tuple ds)) mu = Q ds (fun _ => True) mu := propext Iff.rfl
theorem kIt_s (Q : KI) (x : Str) (mu : Mu) : kIt Q (.dat (.str x)) mu = False := propext Iff.rfl
theorem kItS_l (Q : KI) (ds : List D) (mu : Mu) : kItS Q (.dat (.list ds)) mu = False := propext Iff.rfl
theorem kItS_t (Q : KI) (ds : List D) (mu : Mu) : kItS Q (.dat (.tuple ds)) mu = False := propext Iff.rfl
theorem kItS_s (Q : KI) (x : Str) (mu : Mu) : kItS Q (.dat (.str x)) mu = Q (signsD x) (fun _ => True) mu := propext Iff.rfl
theorem kItS_r (Q : KI) (j : Nat) (mu : Mu) : kItS Q (.ref j) mu = False := propext Iff.rfl
def kFor (g : SemG) (w : SemS) (E : DEnds) (en : En) : KI := fun ds gm mu1 => loopD g w E gm ds en mu1
theorem sFor_k (m : SemI) (g : SemG) (w : SemS) (E : DEnds) (en : En) (mu : Mu) : sFor m g w E en mu = m en mu (kFor g w E en) := propext Iff.rfl
theorem kFor_e (g : SemG) (w : SemS) (E : DEnds) (en : En) (ds : List D) (gm : Mu → Prop) (mu : Mu) : kFor g w E en ds gm mu = loopD g w E gm ds en mu := propext Iff.rfl
def kComp (g : SemG) (t : SemT) (m : SemE) (en : En) (Q : KE) : KI := fun ds gm mu1 => compD g t m en gm Q ds [] mu1
theorem sComp_k (i : SemI) (g : SemG) (t : SemT) (m : SemE) (vs : List Nat) (en : En) (mu : Mu) (Q : KE) : sComp i g t m vs en mu Q = i en mu (kComp g t m (wipeE en vs) Q) := propext Iff.rfl
theorem kComp_e (g : SemG) (t : SemT) (m : SemE) (en : En) (Q : KE) (ds : List D) (gm : Mu → Prop) (mu : Mu) : kComp g t m en Q ds gm mu = compD g t m en gm Q ds [] mu := propext Iff.rfl
def kFrz (n : Nat) (Q : KE) : KE := fun b mu1 => match b with
  | .dat d => Q (.dat d) mu1
  | .ref j => n ≤ j ∧ ∃ o d, mu1[j]? = some o ∧ frz o = some d ∧ Q (.dat d) (mu1.take n)
theorem sFrz_k (m : SemE) (en : En) (mu : Mu) (Q : KE) : sFrz m en mu Q = m en mu (kFrz mu.length Q) := propext Iff.rfl
theorem kFrz_d (n : Nat) (Q : KE) (d : D) (mu1 : Mu) : kFrz n Q (.dat d) mu1 = Q (.dat d) mu1 := propext Iff.rfl
theorem kFrz_r (n : Nat) (Q : KE) (j : Nat) (mu1 : Mu) : kFrz n Q (.ref j) mu1 = (n ≤ j ∧ ∃ o d, mu1[j]? = some o ∧ frz o = some d ∧ Q (.dat d) (mu1.take n)) := propext Iff.rfl
def kNeg (Q : KE) : KE := fun b mu => match b with
  | .dat (.int i) => Q (.dat (.int (-i))) mu
  | _ => False
theorem sNeg_k (m : SemE) (en : En) (mu : Mu) (Q : KE) : sNeg m en mu Q = m en mu (kNeg Q) := propext Iff.rfl
theorem kNeg_e (Q : KE) (i : Int) (mu : Mu) : kNeg Q (.dat (.int i)) mu = Q (.dat (.int (-i))) mu := propext Iff.rfl
def kIsi (T : Ty) (Q : KE) : KE := fun b mu1 => match b with
  | .dat d => okT d = true ∧ Q (.dat (.bool (isT d T))) mu1
  | .ref j => match mu1[j]? with
    | some (.lst _) => Q (.dat (.bool (decide (T = .list)))) mu1
    | _ => False
theorem sIsi_k (T : Ty) (m : SemE) (en : En) (mu : Mu) (Q : KE) : sIsi T m en mu Q = m en mu (kIsi T Q) := propext Iff.rfl
theorem kIsi_e (T : Ty) (Q : KE) (d : D) (mu : Mu) : kIsi T Q (.dat d) mu = (okT d = true ∧ Q (.dat (.bool (isT d T))) mu) := propext Iff.rfl
def kIsi2 (T U : Ty) (Q : KE) : KE := fun b mu1 => match b with
  | .dat d => okT d = true ∧ Q (.dat (.bool (isT d T || isT d U))) mu1
  | _ => False
theorem sIsi2_k (T U : Ty) (m : SemE) (en : En) (mu : Mu) (Q : KE) : sIsi2 T U m en mu Q = m en mu (kIsi2 T U Q) := propext Iff.rfl
theorem kIsi2_e (T U : Ty) (Q : KE) (d : D) (mu : Mu) : kIsi2 T U Q (.dat d) mu = (okT d = true ∧ Q (.dat (.bool (isT d T || isT d U))) mu) := propext Iff.rfl
def kMt2 (w : B → SemB) (b : B) (Q : KE) : KA := fun bs mu => w b bs mu Q
def kMt (T : String) (w : B → SemB) (ma : SemA) (en : En) (Q : KE) : KE := fun b mu => rcvT T b mu ∧ ma en mu (kMt2 w b Q)
theorem sMeth_k (T : String) (w : B → SemB) (mo : SemE) (ma : SemA) (en : En) (mu : Mu) (Q : KE) : sMeth T w mo ma en mu Q = mo en mu (kMt T w ma en Q) := propext Iff.rfl
theorem kMt_e (T : String) (w : B → SemB) (ma : SemA) (en : En) (Q : KE) (b : B) (mu : Mu) : kMt T w ma en Q b mu = (rcvT T b mu ∧ ma en mu (kMt2 w b Q)) := propext Iff.rfl
theorem kMt2_e (w : B → SemB) (b : B) (Q : KE) (bs : List B) (mu : Mu) : kMt2 w b Q bs mu = w b bs mu Q := propext Iff.rfl
abbrev KO := Option Int → Mu → Prop
def kPt (Q : KO) : KE := fun b mu => match b with
  | .dat (.int i) => Q (some i) mu
  | _ => False
theorem sPt_k (m : SemE) (en : En) (mu : Mu) (Q : KO) : sPt m en mu Q = m en mu (kPt Q) := propext Iff.rfl
theorem kPt_e (Q : KO) (i : Int) (mu : Mu) : kPt Q (.dat (.int i)) mu = Q (some i) mu := propext Iff.rfl
def kSl3 (b : B) (lo : Option Int) (Q : KE) : KO := fun hi mu => wSl b lo hi mu Q
def kSl2 (b : B) (h : SemO) (en : En) (Q : KE) : KO := fun lo mu => h en mu (kSl3 b lo Q)
def kSl (l h : SemO) (en : En) (Q : KE) : KE := fun b mu => l en mu (kSl2 b h en Q)
theorem sSl_k (m : SemE) (l h : SemO) (en : En) (mu : Mu) (Q : KE) : sSl m l h en mu Q = m en mu (kSl l h en Q) := propext Iff.rfl
theorem kSl_e (l h : SemO) (en : En) (Q : KE) (b : B) (mu : Mu) : kSl l h en Q b mu = l en mu (kSl2 b h en Q) := propext Iff.rfl
theorem kSl2_e (b : B) (h : SemO) (en : En) (Q : KE) (lo : Option Int) (mu : Mu) : kSl2 b h en Q lo mu = h en mu (kSl3 b lo Q) := propext Iff.rfl
theorem kSl3_e (b : B) (lo hi : Option Int) (Q : KE) (mu : Mu) : kSl3 b lo Q hi mu = wSl b lo hi mu Q := propext Iff.rfl
def kTru (Q : KT) : KE := fun b mu => truB b mu fun c => Q c mu
theorem sTru_k (m : SemE) (en : En) (mu : Mu) (Q : KT) : sTru m en mu Q = m en mu (kTru Q) := propext Iff.rfl
theorem kTru_e (Q : KT) (b : B) (mu : Mu) : kTru Q b mu = truB b mu fun c => Q c mu := propext Iff.rfl
def kNotA (Q : KE) : KE := fun b mu => truB b mu fun c => Q (.dat (.bool (!c))) mu
theorem sNotA_k (m : SemE) (en : En) (mu : Mu) (Q : KE) : sNotA m en mu Q = m en mu (kNotA Q) := propext Iff.rfl
theorem kNotA_e (Q : KE) (b : B) (mu : Mu) : kNotA Q b mu = truB b mu fun c => Q (.dat (.bool (!c))) mu := propext Iff.rfl
def kGS2 (b o : B) (en : En) (Q : KN) : KE := fun i mu2 => match b, o, i with
  | .dat d, .ref j, .dat (.int n) => ∃ ds q, mu2[j]? = some (.lst ds) ∧ ixN ds.length n = some q ∧ Q en (mu2.set j (.lst (ds.set q d)))
  | _, _, _ => False
def kGS1 (mi : SemE) (b : B) (en : En) (Q : KN) : KE := fun o mu1 => mi en mu1 (kGS2 b o en Q)
theorem sGSubL_k (mo mi : SemE) (b : B) (en : En) (mu : Mu) (Q : KN) : sGSubL mo mi b en mu Q = mo en mu (kGS1 mi b en Q) := propext Iff.rfl
theorem kGS1_e (mi : SemE) (b : B) (en : En) (Q : KN) (o : B) (mu : Mu) : kGS1 mi b en Q o mu = mi en mu (kGS2 b o en Q) := propext Iff.rfl
theorem kGS2_e (d : D) (j : Nat) (n : Int) (en : En) (Q : KN) (mu2 : Mu) : kGS2 (.dat d) (.ref j) en Q (.dat (.int n)) mu2 = ∃ ds q, mu2[j]? = some (.lst ds) ∧ ixN ds.length n = some q ∧ Q en (mu2.set j (.lst (ds.set q d))) := propext Iff.rfl
def kRet (n : Nat) (R : KE) : KE := retK n R
/-! loops -/
def kLp (w : SemS) (D : DEnds) : KN := fun en mu => w D en mu
theorem kLp_e (w : SemS) (D : DEnds) (en : En) (mu : Mu) : kLp w D en mu = w D en mu := propext Iff.rfl
theorem loop_k {g : SemG} {w : SemS} {D0 : DEnds} {ds : List D} {en : En} {mu : Mu} (W : Nat → En → Mu → Prop) (h0 : W 0 en mu)
    (hs : ∀ (i : Nat) d en mu (N : KN), ds[i]? = some d → W i en mu → (∀ en' mu', W (i + 1) en' mu' → N en' mu') → g (.dat d) en mu (kLp w { D0 with nx := N, ct := N, bk := D0.nx })) (hd : ∀ en mu, W ds.length en mu → D0.nx en mu) :
    loopD g w D0 (fun _ => True) ds en mu := loop_by W h0 hs hd
theorem rng_k {g : SemG} {w : SemS} {D : DEnds} {lo : Int} {n : Nat} {en : En} {mu : Mu} (W : Nat → En → Mu → Prop) (h0 : W 0 en mu)
    (hs : ∀ (i : Nat) en mu (N : KN), i < n → W i en mu → (∀ en' mu', W (i + 1) en' mu' → N en' mu') → g (.dat (.int (lo + (i : Int)))) en mu (kLp w { D with nx := N, ct := N, bk := D.nx })) (hd : ∀ en mu, W n en mu → D.nx en mu) :
    loopD g w D (fun _ => True) (rngD lo n) en mu := loop_rng W h0 hs hd
def kWh (w : SemS) (D : DEnds) (en : En) (N : KN) : KT := fun c mu1 => if c = true then w { D with nx := N, ct := N, bk := D.nx } en mu1 else D.nx en mu1
theorem kWh_e (w : SemS) (D : DEnds) (en : En) (N : KN) (c : Bool) (mu1 : Mu) : kWh w D en N c mu1 = if c = true then w { D with nx := N, ct := N, bk := D.nx } en mu1 else D.nx en mu1 := propext Iff.rfl
theorem while_k {t : SemT} {w : SemS} {D : DEnds} {en : En} {mu : Mu} (I : En → Mu → Prop) (ms : En → Mu → Nat) (h0 : I en mu)
    (hs : ∀ en mu (N : KN), I en mu → (∀ en' mu', I en' mu' → ms en' mu' < ms en mu → N en' mu') → t en mu (kWh w D en N)) : sWhile t w D en mu := while_by I ms h0 hs
def kCm3 (n : Nat) (acc : List D) (N : List D → Mu → Prop) : KE := fun b mu4 => match b with
  | .dat y => mu4[n]? = some (.lst acc) ∧ acc.length < sizeLine ∧ N (acc ++ [y]) (mu4.take n)
  | _ => False
def kCm2 (m : SemE) (en : En) (n : Nat) (acc : List D) (N : List D → Mu → Prop) : KT := fun c mu3 => if c = true then m en mu3 (kCm3 n acc N) else mu3[n]? = some (.lst acc) ∧ N acc (mu3.take n)
def kCm1 (t : SemT) (m : SemE) (n : Nat) (acc : List D) (N : List D → Mu → Prop) : KN := fun en2 mu2 => t en2 mu2 (kCm2 m en2 n acc N)
theorem kCm1_e (t : SemT) (m : SemE) (n : Nat) (acc : List D) (N : List D → Mu → Prop) (en2 : En) (mu2 : Mu) : kCm1 t m n acc N en2 mu2 = t en2 mu2 (kCm2 m en2 n acc N) := propext Iff.rfl
theorem kCm2_e (m : SemE) (en : En) (n : Nat) (acc : List D) (N : List D → Mu → Prop) (c : Bool) (mu3 : Mu) : kCm2 m en n acc N c mu3 = if c = true then m en mu3 (kCm3 n acc N) else mu3[n]? = some (.lst acc) ∧ N acc (mu3.take n) := propext Iff.rfl
theorem kCm3_e (n : Nat) (acc : List D) (N : List D → Mu → Prop) (y : D) (mu4 : Mu) : kCm3 n acc N (.dat y) mu4 = (mu4[n]? = some (.lst acc) ∧ acc.length < sizeLine ∧ N (acc ++ [y]) (mu4.take n)) := propext Iff.rfl
theorem comp_k {g : SemG} {t : SemT} {m : SemE} {en : En} {Q : KE} {ds : List D} {mu : Mu} (W : Nat → List D → Mu → Prop) (h0 : W 0 [] mu)
    (hs : ∀ (i : Nat) d acc mu (N : List D → Mu → Prop), ds[i]? = some d → W i acc mu → (∀ acc' mu', W (i + 1) acc' mu' → N acc' mu') → g (.dat d) en (mu ++ [.lst acc]) (kCm1 t m mu.length acc N)) (hd : ∀ acc mu, W ds.length acc mu → Q (.ref mu.length) (mu ++ [.lst acc])) :
    compD g t m en (fun _ => True) Q ds [] mu := comp_by W h0 hs hd
/-- [.. for x in range(..)] -/
theorem rng_kc {g : SemG} {t : SemT} {m : SemE} {en : En} {Q : KE} {lo : Int} {n : Nat} {mu : Mu} (W : Nat → List D → Mu → Prop) (h0 : W 0 [] mu)
    (hs : ∀ (i : Nat) acc mu (N : List D → Mu → Prop), i < n → W i acc mu → (∀ acc' mu', W (i + 1) acc' mu' → N acc' mu') → g (.dat (.int (lo + (i : Int)))) en (mu ++ [.lst acc]) (kCm1 t m mu.length acc N)) (hd : ∀ acc mu, W n acc mu → Q (.ref mu.length) (mu ++ [.lst acc])) :
    compD g t m en (fun _ => True) Q (rngD lo n) [] mu := by
  have hl : (rngD lo n).length = n := by
    unfold rngD
    rw [List.length_map, List.length_range]
  refine comp_k W h0 (fun i d acc mu N h1 h2 h3 => ?_) (fun acc mu h => by rw [hl] at h; exact hd acc mu h)
  have hi : i < n := by
    have := (List.getElem?_eq_some_iff.mp h1).1
    omega
  have e : d = .int (lo + (i : Int)) := by
    unfold rngD at h1
    rw [List.getElem?_map, List.getElem?_range hi] at h1
    cases h1
    rfl
  subst e
  exact hs i acc mu N hi h2 h3
theorem wList_t (ds : List D) (mu : Mu) (Q : KE) : wList [.dat (.tuple ds)] mu Q = Q (.ref mu.length) (mu ++ [.lst ds]) := by
  apply propext
  constructor
  · rintro ⟨ds', e, h⟩
    cases e
    exact h
  · exact fun h => ⟨ds, rfl, h⟩
theorem wList_l (ds : List D) (mu : Mu) (Q : KE) : wList [.dat (.list ds)] mu Q = Q (.ref mu.length) (mu ++ [.lst ds]) := by
  apply propext
  constructor
  · rintro ⟨ds', e, h⟩
    cases e
    exact h
  · exact fun h => ⟨ds, rfl, h⟩
def kRevT (Q : KE) : KE := fun b mu1 => match b with
  | .dat (.tuple ds) => Q (.dat (.tuple ds.reverse)) mu1
  | _ => False
theorem sRevT_k (m : SemE) (en : En) (mu : Mu) (Q : KE) : sRevT m en mu Q = m en mu (kRevT Q) := propext Iff.rfl
theorem kRevT_e (Q : KE) (ds : List D) (mu : Mu) : kRevT Q (.dat (.tuple ds)) mu = Q (.dat (.tuple ds.reverse)) mu := propext Iff.rfl
theorem revA_t {m : SemE} {en : En} {mu : Mu} {Q : KE} (h : sRevT m en mu Q) : sRevA m en mu Q := .inr h
theorem revA_l {m : SemE} {en : En} {mu : Mu} {Q : KE} (h : sRevL m en mu Q) : sRevA m en mu Q := .inl h
theorem wAddA_i (i j : Int) (mu : Mu) (Q : KE) : wAddA (.dat (.int i)) (.dat (.int j)) mu Q = Q (.dat (.int (i + j))) mu := propext Iff.rfl
theorem wAddA_s (x y : Str) (mu : Mu) (Q : KE) : wAddA (.dat (.str x)) (.dat (.str y)) mu Q = (x.length + y.length ≤ sizeLine ∧ Q (.dat (.str (x ++ y))) mu) := propext Iff.rfl
theorem wAddA_t (ds es : List D) (mu : Mu) (Q : KE) : wAddA (.dat (.tuple ds)) (.dat (.tuple es)) mu Q = ((ds ++ es).length ≤ sizeLine ∧ Q (.dat (.tuple (ds ++ es))) mu) := by
  rw [List.length_append]
  rfl
theorem wAddA_r (j i : Nat) (mu : Mu) (Q : KE) : wAddA (.ref j) (.ref i) mu Q = ∃ ds es, mu[j]? = some (.lst ds) ∧ mu[i]? = some (.lst es) ∧ ds.length + es.length ≤ sizeLine ∧ Q (.ref mu.length) (mu ++ [.lst (ds ++ es)]) := propext Iff.rfl
theorem isT_dK (i : List (Key × D)) (T : Ty) : isT (.dK i) T = decide (T = .dict) := by cases T <;> rfl
theorem set_new (mu : Mu) (o o' : MO) : (mu ++ [o]).set mu.length o' = mu ++ [o'] := by
  rw [List.set_append_right _ _ (Nat.le_refl _), Nat.sub_self]
  rfl
end DL

set_option Elab.async false
set_option linter.all false
set_option maxRecDepth 100000
set_option maxHeartbeats 4000000
/-! the ends, where defs make lambdas: their tables are own objects from the start -/
namespace DL
open PySem L2 PySem.Spec PyProof.Rows
theorem only_T (K : PySem.W.Frag) (a : Addr) (u : HO) (Ps : List Addr) (hP : ∀ P ∈ Ps, K.lookup P = none) (ha : a ∉ Ps) :
    ∃ H : Hp, (∀ b o, H b = some o → K.lookup b = none ∧ ((b = a ∧ o = u) ∨ (b ∈ Ps ∧ o = .tbl #[]))) ∧ (K.lookup a = none → H a = some u) ∧ ∀ P ∈ Ps, H P = some (.tbl #[]) := by
  cases hk : K.lookup a with
  | some o =>
    refine ⟨fun b => if b ∈ Ps then some (.tbl #[]) else none, fun b o z => ?_, fun z => (nomatch z), fun P h => if_pos h⟩
    by_cases hb : b ∈ Ps
    · have z' := (if_pos hb).symm.trans z
      cases z'
      exact ⟨hP b hb, .inr ⟨hb, rfl⟩⟩
    · have z' := (if_neg hb).symm.trans z
      cases z'
  | none =>
    refine ⟨fun b => if b ∈ Ps then some (.tbl #[]) else if b = a then some u else none, fun b o z => ?_, fun _ => (if_neg ha).trans (if_pos rfl), fun P h => if_pos h⟩
    by_cases hb : b ∈ Ps
    · have z' := (if_pos hb).symm.trans z
      cases z'
      exact ⟨hP b hb, .inr ⟨hb, rfl⟩⟩
    · have z' := (if_neg hb).symm.trans z
      by_cases hc : b = a
      · have z2 := (if_pos hc).symm.trans z'
        cases z2
        rw [hc]
        exact ⟨hk, .inl ⟨rfl, rfl⟩⟩
      · have z2 := (if_neg hc).symm.trans z'
        cases z2
/-- a table: its maker's code object, itself, the name of what is made -/
structure Tb where
  c : Addr
  P : Addr
  q : Str
def tabs0 (cs : List Tb) : Mu := cs.map fun t => .tab t.P t.q
theorem tabs_ok {K : PySem.W.Frag} {DK : Addr → HO → HO → Prop} {H : Hp} {cs : List Tb} (hn : (cs.map Tb.P).Nodup) (hH : ∀ t ∈ cs, H t.P = some (.tbl #[])) : MuOk K DK (cs.map fun t => some t.P) H (tabs0 cs) := by
  refine ⟨by simp [tabs0], fun i j a h1 h2 => ?_, fun i m q => ?_, fun i j q => ?_⟩
  · rw [List.getElem?_map] at h1 h2
    cases e1 : cs[i]? with
    | none => rw [e1] at h1; cases h1
    | some t1 =>
      cases e2 : cs[j]? with
      | none => rw [e2] at h2; cases h2
      | some t2 =>
        rw [e1] at h1
        rw [e2] at h2
        have p1 : t1.P = a := Option.some.inj (Option.some.inj h1)
        have p2 : t2.P = a := Option.some.inj (Option.some.inj h2)
        have hi := (List.getElem?_eq_some_iff.mp e1).1
        have hj := (List.getElem?_eq_some_iff.mp e2).1
        have g1 : (cs.map Tb.P)[i]? = some a := by rw [List.getElem?_map, e1, ← p1]; rfl
        have g2 : (cs.map Tb.P)[j]? = some a := by rw [List.getElem?_map, e2, ← p2]; rfl
        exact (List.getElem?_inj (by rw [List.length_map]; exact hi) hn).mp (g1.trans g2.symm)
  · unfold tabs0 at q
    rw [List.getElem?_map] at q
    cases e1 : cs[i]? with
    | none => rw [e1] at q; cases q
    | some t1 =>
      rw [e1] at q
      cases q
      refine ⟨by rw [List.getElem?_map, e1]; rfl, #[], hH _ (List.mem_of_getElem? e1), True.intro, fun pos cv hc => ?_⟩
      have z : codeAmong pos [] = some cv := hc
      simp [codeAmong] at z
  · unfold tabs0 at q
    rw [List.getElem?_map] at q
    cases e1 : cs[i]? with
    | none => rw [e1] at q; cases q
    | some t1 => rw [e1] at q; cases q
theorem law_DT {k : Kit} {P : Program} {w : World} {mg mb : Str → Option Value} {r : Nat} {fa a : Addr} {fd : FuncData} {x : Str} {sp : DSp} {s : Shared} {vs : List Value} {ns : List Int} {cs : List Tb}
    (KX : k.K.In s.heap) (hns : s.heap.Ns mainGlobals mg) (hb : s.heap.Ns builtinsNs mb) (hbb : ∀ x : Str, x ≠ "__name__" → mb x = bootBuiltins x) (hlim : s.heap.NoLimit) (hg : s.gens = #[])
    (hbm : ∃ (bm : Addr) (ob : Obj), mg "__builtins__" = some (.ref bm) ∧ bm ≠ builtinsNs ∧ s.heap.get? bm = some ob ∧ ob.cls = .type "module" ∧ ob.dict = some builtinsNs ∧ ob.data = .plain)
    (hT : ∀ t ∈ cs, s.heap.get? t.P = some { cls := .none, data := .fields #[] }) (hn : ∀ t ∈ cs, k.K.lookup t.P = none) (hC : ∀ t ∈ cs, PySem.W.CodeHd s.heap t.c t.P) (hnd : (cs.map Tb.P).Nodup)
    (ha : s.heap.get? a = some { cls := .type "list", data := .seq vs.toArray }) (hi : IntsAre vs ns) (hl : ns.length ≤ sizeLine) (hr : Room r callerA)
    (F : ∀ base : Heap, k.K.In base → base.Ns mainGlobals mg → (∀ t ∈ cs, LamX.TabB base mg t.c t.P) → FnD k P w mg base r fa fd [x] sp) (hbind : ∀ (s : Shared) (u : Value), BindsTo s fd ⟨[u], []⟩ [(x, u)])
    (hsp : ∀ (R : B → Mu → Prop), (∀ mu, R (.dat (.bool true)) mu) → sp [.dat (.list (ns.map D.int))] (tabs0 cs) R) :
    codeAny (model P w) callerA (.call (.ref fa) ⟨[.ref a], []⟩) (fun r s' => r = .ok (.ret (.bool true)) ∧ OldK s.heap s'.heap ∧ s'.os = s.os ∧ AllBare s'.gens) s := by
  have memP : ∀ t ∈ cs, t.P ∈ cs.map Tb.P := fun t h => List.mem_map_of_mem h
  have ofP : ∀ b ∈ cs.map Tb.P, ∃ t ∈ cs, t.P = b := fun b h => List.mem_map.mp h
  have isT : ∀ b ∈ cs.map Tb.P, s.heap.get? b = some { cls := .none, data := .fields #[] } ∧ k.K.lookup b = none := fun b h => by
    obtain ⟨t, ht, rfl⟩ := ofP b h
    exact ⟨hT t ht, hn t ht⟩
  have aT : a ∉ cs.map Tb.P := fun z => by
    have q := (isT a z).1
    rw [ha] at q
    have q' : Data.seq vs.toArray _ = Data.fields #[] := congrArg Obj.data (Option.some.inj q)
    cases q'
  obtain ⟨H, hH, hin, hHP⟩ := only_T k.K a (.frz { cls := .type "list", data := .seq vs.toArray } (.lst (ns.map V.int))) (cs.map Tb.P) (fun b h => (isT b h).2) aT
  have rv := vals_ints hi
  have keepB : ∀ {b : Addr} {o : Obj}, s.heap.get? b = some o → H b = none → (hidT s.heap H).get? b = some o := fun e n => hidT_get e n
  have noB : ∀ {b : Addr} {o : Obj}, s.heap.get? b = some o → (∀ ws n, o.data ≠ .seq ws n) → o.data ≠ .fields #[] → H b = none := fun {b o} e d1 d2 => by
    cases q : H b with
    | none => rfl
    | some u =>
      rcases (hH b u q).2 with ⟨rfl, _⟩ | ⟨hb', _⟩
      · rw [ha] at e
        cases e
        exact absurd rfl (d1 _ _)
      · rw [(isT b hb').1] at e
        cases e
        exact absurd rfl d2
  have noD : ∀ {b : Addr} {o : Obj} {es : Array DictEntry} {ep : Nat}, s.heap.get? b = some o → o.data = .dict es ep → H b = none := fun {b o es ep} e d =>
    noB e (fun _ _ z => by rw [d] at z; cases z) (fun z => by rw [d] at z; cases z)
  have nsB : ∀ {b : Addr} {m : Str → Option Value}, s.heap.Ns b m → (hidT s.heap H).Ns b m := fun {b m} ⟨o, es, ep, e, d, r⟩ => ⟨o, es, ep, keepB e (noD e d), d, r⟩
  have hKb : k.K.In (hidT s.heap H) := fun b o e => keepB (KX b o e) (by
    cases q : H b with
    | none => rfl
    | some u =>
      rw [(hH b u q).1] at e
      cases e)
  have hM : Mod k.K mg (hidT s.heap H) := ⟨hKb, nsB hns, ⟨mb, nsB hb, hbb⟩, let ⟨mc, h1, h2⟩ := hlim; ⟨mc, nsB h1, h2⟩⟩
  have hok : HOk P w H s.heap := fun b u z => by
    rcases (hH b u z).2 with ⟨rfl, rfl⟩ | ⟨h1, rfl⟩
    · exact ⟨ha, by rw [List.length_map]; exact hl, vs, _, rv, ha⟩
    · exact (isT b h1).1
  have hTB : ∀ t ∈ cs, LamX.TabB (hidT s.heap H) mg t.c t.P := fun t ht => by
    refine ⟨?_, ?_, fun z => ?_⟩
    · obtain ⟨o, us, file, tf, flags, tg, inF, text, tt, c1, c2, c3, c4, c5, c6, c7, c8, c9, c10⟩ := hC t ht
      refine ⟨o, us, file, tf, flags, tg, inF, text, tt, keepB c1 (noB c1 (fun _ _ z => ?_) fun z => ?_), c2, c3, c4, c5, c6, c7, c8, c9, c10⟩
      · rw [c3] at z
        cases z
      · rw [c3] at z
        cases z
        simp at c4
    · obtain ⟨bm, ob, b1, b2, b3, b4, b5, b6⟩ := hbm
      have g1 : bm ≠ mainGlobals := fun q => by
        obtain ⟨o, es, ep, e, hd, _⟩ := hns
        rw [q, e] at b3
        cases b3
        rw [hd] at b6
        cases b6
      have g2 : bm ≠ t.P := fun q => by
        rw [q, hT t ht] at b3
        cases b3
        cases b6
      refine ⟨bm, ob, b1, b2, g1, g2, keepB b3 (noB b3 (fun _ _ z => ?_) fun z => ?_), b4, b5, b6⟩
      · rw [b6] at z
        cases z
      · rw [b6] at z
        cases z
    · obtain ⟨o, es, ep, e, hd, _⟩ := hns
      rw [z, hT t ht] at e
      cases e
      cases hd
  have e0 : Env0 P w k.K mg (hidT s.heap H) callerA [] s H := ⟨rfl, hM, fun b o e => of_hidT e, Nat.le_of_eq (hidT_size _ _), trivial, fun b hb => absurd (show b ∈ ([] : List Addr) from hb) (by simp), hok, .of_eq hg⟩
  have mok : MuOk k.K k.DK (cs.map fun t => some t.P) H (tabs0 cs) := tabs_ok hnd fun t ht => hHP _ (memP t ht)
  have fz : FzL k.K (cs.map fun t => some t.P) H a (ns.map V.int) := by
    have na : some a ∉ cs.map fun t => some t.P := fun z => by
      obtain ⟨t, ht, e⟩ := List.mem_map.mp z
      exact aT (List.mem_map.mpr ⟨t, ht, Option.some.inj e⟩)
    cases hk : k.K.lookup a with
    | none => exact .inl ⟨.inr ⟨_, hin hk⟩, na⟩
    | some o =>
      have e := KX a o hk
      rw [ha] at e
      cases e
      exact .inr (.inr ⟨_, vs.toArray, _, hk, rfl, rfl, rfl, by rw [List.size_toArray, hi.length]; exact hl, by simpa using rv⟩)
  refine codeAny_mono ((F _ hKb (nsB hns) hTB).run callerA [] s H ⟨[.ref a], []⟩ [.ref a] [.ref a] (fun v _ => v = .bl true) hr (fun _ => rfl) e0 (hbind s (.ref a)) (.cons rfl .nil)
    ⟨_, [.dat (.list (ns.map D.int))], tabs0 cs, fun b _ => b = .dat (.bool true), ⟨_, _, rfl, ⟨a, _, rfl, fz, reps_of_ints ns⟩, rfl⟩, mok, hsp _ fun _ => rfl, fun v H' al' b mu' _ _ rb e => by
      subst e
      exact rb⟩) fun r s' h => ?_
  cases r with
  | error e => exact h.elim
  | ok fl =>
    cases fl with
    | next => exact False.elim h
    | brk => exact False.elim h
    | cont => exact False.elim h
    | ret u =>
      obtain ⟨v, H', os, bare, un, hok', r', q⟩ := h
      have q' : v = .bl true := q
      subst q'
      obtain rfl : u = Value.bool true := r'
      have same : ∀ b o, b ∉ cs.map Tb.P → s.heap.get? b = some o → s'.heap.get? b = some o := fun b o nb e => by
        cases q : H b with
        | none => exact un.keep b o e q (by intro z; exact absurd (show b ∈ ([] : List Addr) from z) (by simp)) (by simp)
        | some u =>
          rcases (hH b u q).2 with ⟨rfl, rfl⟩ | ⟨h1, _⟩
          · obtain ⟨e1, _⟩ := hok b _ q
            obtain ⟨e2, _⟩ := hok' b _ (un.frzs b _ _ q)
            rw [e] at e1
            cases e1
            exact e2
          · exact absurd h1 nb
      have grown : ∀ t ∈ cs, ∃ more : Array Value, s'.heap.get? t.P = some { cls := .none, data := .fields more } := fun t ht => by
        obtain ⟨more, z⟩ := un.tbls t.P #[] (hHP _ (memP t ht))
        exact ⟨_, hok' t.P _ z⟩
      refine ⟨rfl, ⟨fun b o e => ?_, fun b o e => ?_⟩, os, bare⟩
      · by_cases hb : b ∈ cs.map Tb.P
        · obtain ⟨t, ht, rfl⟩ := ofP b hb
          obtain ⟨more, hm⟩ := grown t ht
          rw [hT t ht] at e
          cases e
          exact .inr (.inl ⟨((hC t ht).tab (hT t ht)).isCodeTable, rfl, #[], more, rfl, by rw [Array.empty_append]; exact hm⟩)
        · exact .inl (same b o hb e)
      · by_cases hb : b ∈ cs.map Tb.P
        · obtain ⟨t, ht, rfl⟩ := ofP b hb
          obtain ⟨more, hm⟩ := grown t ht
          exact ⟨_, hm⟩
        · exact ⟨o, same b o hb e⟩
/-- the tables of the written defs are empty at the start -/
def TabsOf (K : PySem.W.Frag) (mg : Str → Option Value) (q : Program) (h : Heap) : Prop := ∀ d ∈ recsOf q, ∀ (fa c P : Addr) (o : Obj) (fd : FuncData) (e : Value) (dd : Option Addr) (vs : Array Value) (sl : Array (Option Value)),
  mg d.name = some (.ref fa) → K.lookup fa = some o → o.data = .func fd → fd.code = .ref c → K.lookup c = some ⟨e, dd, .fields vs, sl⟩ → vs[11]? = some (.ref P) → h.get? P = some { cls := .none, data := .fields #[] } ∧ PySem.W.CodeHd h c P
theorem walk_DT {l : PySem.W.OpenLaw} {n r : Nat} {q : Program} {loose : List Str} {XP : (Str → Option Value) → Heap → Prop} {YP : World → Heap → Prop} {d : DefRec} {K : Params → PySem.W.Frag} {DK : Addr → HO → HO → Prop} {x : Str}
    (hn : l.most = some n) (hn2 : n ≤ sizeLine) (hdf : d.params.defaults = []) (hr : Room r callerA)
    (hY : ∀ (w : World) (h : Heap), YP w h → (K w.params).In h)
    (F : ∀ (w : World) (mg : Str → Option Value) (fa : Addr) (h : Heap), (K w.params).In h → h.Ns mainGlobals mg → mg d.name = some (.ref fa) → TabsOf (K w.params) mg q h →
      ∃ (fd : FuncData) (cs : List Tb) (sp : DSp), (∀ t ∈ cs, h.get? t.P = some { cls := .none, data := .fields #[] }) ∧ (∀ t ∈ cs, (K w.params).lookup t.P = none) ∧ (∀ t ∈ cs, PySem.W.CodeHd h t.c t.P) ∧ (cs.map Tb.P).Nodup ∧
        (∀ (s : Shared) (u : Value), BindsTo s fd ⟨[u], []⟩ [(x, u)]) ∧ (∀ base : Heap, (K w.params).In base → base.Ns mainGlobals mg → (∀ t ∈ cs, LamX.TabB base mg t.c t.P) → FnD ⟨K w.params, DK, true⟩ l.prog w mg base r fa fd [x] sp) ∧
        ∀ (ns : List Int), ns.length ≤ n → ∀ (R : B → Mu → Prop), (∀ mu, R (.dat (.bool true)) mu) → sp [.dat (.list (ns.map D.int))] (tabs0 cs) R) :
    PySem.W.WalkO q loose XP YP l.row.toRowW d [] (fun f vs => PySem.call f vs) := by
  refine Att.attach_call hn hdf fun w s₀ s₁ mg mb fa o pm cd doc a vs ns G Y ho hd hcd hmg hobj hints hlen hg => ?_
  have KX := hY w _ Y
  have TA : TabsOf (K w.params) mg q s₁.heap := fun dL hm fa c P o1 fd1 e dd vs1 sl k0 k1 k2 k3 k4 k5 => by
    obtain ⟨a', o', fd', c', P', h1, h2, h3, h4, h5, h6⟩ := G.T.tab dL hm
    have hC := PySem.W.CodeHd.of h5 h6
    rw [k0] at h1
    cases h1
    have g1 := KX _ _ k1
    rw [g1] at h2
    cases h2
    rw [k2] at h3
    cases h3
    rw [k3] at h4
    cases h4
    obtain ⟨⟨oc, vc, e1, _, e3, e4⟩, hP⟩ := h6
    have g2 := KX _ _ k4
    rw [g2] at e1
    cases e1
    cases e3
    rw [k5] at e4
    cases e4
    exact ⟨hP, hC⟩
  obtain ⟨fd, cs, sp, t1, t2, t3, t4, t5, t6, t7⟩ := F w mg fa _ KX G.T.g hmg TA
  exact law_DT (k := ⟨K w.params, DK, true⟩) KX G.T.g G.T.b G.T.builtins G.T.nolimit hg G.T.bmain t1 t2 t3 t4 hobj hints (Nat.le_trans hlen hn2) hr t6 t5 (t7 ns hlen)
end DL

set_option Elab.async false
set_option linter.all false
set_option maxRecDepth 100000
set_option maxHeartbeats 4000000
/-! closures with one parameter: a function object that stands in base, with its cells -/
namespace DL
open PySem L2 PySem.Spec PyProof.Rows
/-- one parameter, names of the maker, globals -/
structure LamP (p : Str) (scope : Scope) : Prop where
  kind : scope.kind = .function
  co : scope.isCoroutine = false
  gen : scope.isGenerator = false
  nocell : ∀ y ∈ scope.names, y.2 ≠ .cell
  par : scope.names.lookup p = some .local
  own : ∀ y, scope.names.lookup y = some .local → y = p
def lamPB (p : Str) (scope : Scope) : Bool :=
  decide (scope.kind = .function) && (!scope.isCoroutine && (!scope.isGenerator && ((scope.names.all fun y => !decide (y.2 = .cell)) && (decide (scope.names.lookup p = some .local) && scope.names.all fun y => !decide (y.2 = .local) || decide (y.1 = p)))))
theorem lamP_by {p : Str} {scope : Scope} (h : lamPB p scope = true) : LamP p scope := by
  unfold lamPB at h
  simp only [Bool.and_eq_true, Bool.or_eq_true, Bool.not_eq_true', decide_eq_true_eq, decide_eq_false_iff_not, List.all_eq_true] at h
  obtain ⟨h1, h2, h3, h4, h5, h6⟩ := h
  refine ⟨h1, h2, h3, h4, h5, fun y hy => ?_⟩
  rcases h6 _ (PySem.mem_of_lookup hy) with z | z
  · exact absurd rfl z
  · exact z
/-- the cells of a closure: cs, the names that its body reads, hold cvs -/
structure Caps (base : Heap) (scope : Scope) (cells : List (Str × Addr)) (cs : List Str) (cvs : List V) : Prop where
  len : cs.length = cvs.length
  inj : ∀ y z c, cells.lookup y = some c → cells.lookup z = some c → y = z
  has : ∀ y, scope.names.lookup y = some .free → ∃ c, cells.lookup y = some c
  is : ∀ y c, cells.lookup y = some c → ∃ v, base.IsCell c v
  val : ∀ (i : Nat) x v, cs[i]? = some x → cvs[i]? = some v → scope.names.lookup x = some .free ∧ ∃ c u, cells.lookup x = some c ∧ base.IsCell c (some u) ∧ RelV v u
abbrev cloEnv (q : Str) (scope : Scope) (L f c' : Addr) (cells : List (Str × Addr)) : Env := PySem.W.envX q scope L f (.ref c') cells
def cloCx (P : Program) (w : World) (K : PySem.W.Frag) (mg : Str → Option Value) (base : Heap) (A : Around) (outer : List Env) (s : Shared) (H : Hp) (q : Str) (scope : Scope) (f c' : Addr) (cells : List (Str × Addr)) (N : List Str) : Cx where
  prog := P
  w := w
  K := K
  mg := mg
  base := base
  A := A.deeper (cloEnv q scope s.heap.objs.size f c' cells)
  N := N
  s_0 := s
  H_0 := H
  env := cloEnv q scope s.heap.objs.size f c' cells
  outer := outer
  stack := cloEnv q scope s.heap.objs.size f c' cells :: outer
  ex := []
  fn := fun _ => false
  calm := true
  pn := []
  xe := fun _ _ => False
section
variable {P : Program} {w : World} {K : PySem.W.Frag} {mg : Str → Option Value} {base : Heap} {A : Around} {outer : List Env} {s : Shared} {H : Hp} {q p : Str} {scope : Scope} {f c' : Addr} {cells : List (Str × Addr)} {cs : List Str} {cvs : List V} {v : V} {u : Value}
theorem clo_start {h₁ : Heap} {tk : Nat} (e0 : Env0 P w K mg base A outer s H) (hd : A.handled = none) (S : LamP p scope) (C : Caps base scope cells cs cvs) (rv : RelV v u)
    (hns : h₁.Ns s.heap.objs.size fun y => ([(p, u)] : List (Str × Value)).reverse.lookup y) (kp : ∀ b o, s.heap.get? b = some o → h₁.get? b = some o) :
    Inv (cloCx P w K mg base A outer s H q scope f c' cells (p :: cs)) [] (some v :: cvs.map some) H { s with heap := h₁, toks := tk } := by
  have noE : ∀ b : Addr, b ∉ (cloCx P w K mg base A outer s H q scope f c' cells (p :: cs)).ex := fun b z => by cases z
  have isC : ∀ {c : Addr} {z : Option Value}, base.IsCell c z → h₁.IsCell c z ∧ H c = none := fun {c z} ⟨o, ho, hz⟩ => ⟨⟨o, kp _ _ (e0.bs c o ho).1, hz⟩, (e0.bs c o ho).2⟩
  have ok : (cloCx P w K mg base A outer s H q scope f c' cells (p :: cs)).Ok := by
    refine ⟨e0.mod, S.kind, rfl, rfl, Nat.le_refl _, C.inj, ?_, ?_, fun _ => hd, Around.frames_deeper e0.frames,
      .inr ⟨rfl, rfl⟩, fun b z => absurd z (noE b), e0.bs, e0.bsz, fun b _ _ => noE b, fun b z => absurd z (noE b),
      e0.funs, e0.frf⟩
    · intro y hy
      rcases (show scope.names.lookup y = some .cell ∨ scope.names.lookup y = some .free from hy) with hy | hy
      · exact absurd rfl (S.nocell _ (PySem.mem_of_lookup hy))
      · exact C.has y hy
    · intro y c z _
      cases (show false = true from z)
  refine ⟨ok, rfl, e0.bare, Un.kept kp, ⟨_, hns, ?_⟩, ?_, e0.hok.fresh (Nat.le_refl _), ?_, ?_, e0.hok.kept kp, ?_⟩
  · intro i y z h1 h2 _
    cases i with
    | zero =>
      cases h1
      cases h2
      refine ⟨u, rv, .inl ⟨S.par, ?_⟩⟩
      simp [List.lookup]
    | succ i =>
      have h1' : cs[i]? = some y := h1
      have h2' : (cvs.map some)[i]? = some (some z) := h2
      rw [List.getElem?_map] at h2'
      cases hv : cvs[i]? with
      | none => rw [hv] at h2'; cases h2'
      | some z2 =>
        rw [hv] at h2'
        cases h2'
        obtain ⟨k, c, u2, e1, e2, e3⟩ := C.val i y z h1' hv
        exact ⟨u2, e3, .inr ⟨.inr k, c, e1, (isC e2).1⟩⟩
  · intro y c e
    obtain ⟨z, hz⟩ := C.is y c e
    exact ⟨z, (isC hz).1⟩
  · intro y c e
    obtain ⟨z, hz⟩ := C.is y c e
    exact (isC hz).2
  · intro z hz
    cases (show z ∈ ([] : List (Addr × Obj)) from hz)
  · show (some v :: cvs.map some).length = (p :: cs).length
    rw [List.length_cons, List.length_cons, List.length_map, C.len]
end
section
variable {k : Kit} {P : Program} {w : World} {mg : Str → Option Value} {base : Heap} {r : Nat} {q p : Str} {params : Arguments} {body : Expr} {scope : Scope} {f c' : Addr} {cells : List (Str × Addr)} {pm ctv : Value} {cs : List Str} {cvs : List V} {ds : List D} {ws : SemE} {g : DSp}
theorem clo_fn (hf : base.get? f = some (PySem.W.kla_obj "<lambda>" q params body scope cells pm c' ctv)) (S : LamP p scope) (C : Caps base scope cells cs cvs) (len : ∀ bs mu R, g bs mu R → bs.length = 1)
    (hbody : ∀ (A : Around) (outer : List Env) (s : Shared) (H : Hp), In k (cloCx P w k.K mg base A outer s H q scope f c' cells (p :: cs)) P w mg base r → PE (cloCx P w k.K mg base A outer s H q scope f c' cells (p :: cs)) body (tD k ws))
    (hg : ∀ bs mu R, g bs mu R → (∃ (n : Nat) (φ : AL → Hp → Prop), mu[n]? = some (.fact φ) ∧ ∀ al H, φ al H → H c' = some (LamX.CodeO c' q) ∧ Reps k.K al H ds cvs) ∧ ws (bs.map some ++ ds.map fun d => some (.dat d)) mu (retK mu.length R)) :
    FnD k P w mg base (r + 1) f (PySem.W.kla_fn "<lambda>" q params body scope cells pm (.ref c') ctv) [p] g := by
  refine ⟨len, fun A outer s H args us vs Q hr hgd e0 hb rv qq => ?_⟩
  obtain ⟨al, bs, mu, R, rb, mo, hd, kk⟩ := qq
  have hl := len bs mu R hd
  obtain ⟨⟨n, φ, hn, hφ⟩, hw⟩ := hg bs mu R hd
  obtain ⟨hc, hr2⟩ := hφ al H (mo.ok n _ hn).2.1
  have hvl : vs.length = 1 := by rw [rb.length, hl]
  obtain ⟨v, rfl⟩ := List.length_eq_one_iff.mp hvl
  have hul : us.length = 1 := by rw [← rv.length, hvl]
  obtain ⟨u, rfl⟩ := List.length_eq_one_iff.mp hul
  have of1 := (e0.bs _ _ hf).1
  obtain ⟨⟨oc, vs2, t, hoc, hdc, hvc⟩, _, _⟩ := e0.hok c' _ hc
  have lim : s.heap.NoLimit := e0.mod.nolimit.keeps fun b o e => (e0.bs b o e).1
  refine PySem.W.kla_callFunE hr.depth of1 rfl S.co S.gen rfl ⟨c', oc, vs2, t, rfl, hoc, hdc, hvc⟩ (hb _ _ _ _ ?_)
  refine wpAny_newFunctionEnv (fun y hy => S.nocell y hy) (fun y hy => ?_) (fun h₁ hns hsb => ⟨lim.fresh _ hsb, ?_⟩) S.kind
  · have e : y = (p, u) := by simpa using hy
    rw [e]
    exact S.par
  have kp : ∀ b o, s.heap.get? b = some o → h₁.get? b = some o := fun b o e => hsb.extBut b o (Nat.ne_of_lt (Heap.lt_size e)) (Heap.get?_push_of_some _ e)
  have rv1 : RelV v u := by
    cases rv with
    | cons a b => exact a
  have J := clo_start (q := q) (f := f) (c' := c') (tk := s.toks + [(p, u)].length) e0 hr.hd S C rv1 hns kp
  have CI : In k (cloCx P w k.K mg base A outer s H q scope f c' cells (p :: cs)) P w mg base r := ⟨rfl, rfl, rfl, rfl, rfl, hr.deeper _, fun hk => hgd hk, rfl⟩
  refine PySem.W.kla_codeExpr (wpAny_mono ((hbody A outer s H CI).run [] _ _ H Q J ?_) (fun v2 s2 hq => ?_) fun e s2 hq => hq.elim)
  · have st : Stt k.K k.DK al (some v :: cvs.map some) H (bs.map some ++ ds.map fun d => some (.dat d)) mu := by
      obtain ⟨b, rfl⟩ := List.length_eq_one_iff.mp hl
      refine ⟨mo, ?_, fun i b2 hi => ?_⟩
      · simp [hr2.length]
      · cases i with
        | zero =>
          cases hi
          obtain ⟨v3, rest, e1, e2, _⟩ := rb
          cases e1
          exact ⟨v, rfl, e2⟩
        | succ i =>
          have hi' : (ds.map fun d => some (B.dat d))[i]? = some (some b2) := hi
          rw [List.getElem?_map] at hi'
          cases hdd : ds[i]? with
          | none => rw [hdd] at hi'; cases hi'
          | some d =>
            rw [hdd] at hi'
            cases hi'
            obtain ⟨v3, e1, e2⟩ := hr2.get hdd
            refine ⟨v3, ?_, e2⟩
            show (cvs.map some)[i]? = some (some v3)
            rw [List.getElem?_map, e1]
            rfl
    exact ⟨al, _, mu, _, st, hw, fun v3 H1 al1 b mu1 e1 st1 r1 q1 => (fits_end mo kk).rt al1 v3 H1 b mu1 e1 st1.mu r1 q1⟩
  · obtain ⟨w2, H2, J2, r2, q2⟩ := hq
    exact ⟨w2, H2, J2.os, J2.bare, J2.base, J2.hok, r2, q2⟩
end
end DL

set_option Elab.async false
set_option linter.all false
set_option maxRecDepth 100000
set_option maxHeartbeats 4000000
/-! an own error one class below Exception's: class X(Y): def __init__(self, thing): super().__init__(thing); self.thing = thing -/
namespace BadX
open PySem PySem.W PySem.Calls PyProof.Rows PySem.HandSPX
open Builtin Builtin.ObjectAttr
/-- the body of its __init__ -/
def iB (p0 p1 p2 p3 p4 p5 p6 p7 p8 p9 : Pos) : List Stmt :=
  [.Expr (.Call (.Attribute (.Call (.Name "super" p0) [] [] p1) "__init__" p2) [.Name "thing" p3] [] p4) p5, .Assign [.Attribute (.Name "self" p6) "thing" p7] (.Name "thing" p8) p9]
def iA (p1 p2 : Pos) : Arguments := { posonlyargs := [], args := [{ arg := "self", annotation := none, pos := p1 }, { arg := "thing", annotation := none, pos := p2 }], vararg := none, kwonlyargs := [], kw_defaults := [], kwarg := none, defaults := [] }
def iS : Scope := { kind := .function, names := [(PySem.Str.ofString "self", .local), (PySem.Str.ofString "thing", .local), (PySem.Str.ofString "__class__", .free), (PySem.Str.ofString "super", .globalImplicit)], isGenerator := false, isCoroutine := false, more := [] }
/-- what stands of the class at C (its base's at D), of its __init__ at fI -/
structure Txt (K : Frag) (mg : Str → Option Value) (P : Program) (x q : Str) (C D fI : Addr) : Prop where
  gC : mg x = some (.ref C)
  cls : ∃ nm qn N bs sn sub ab col dd k0 k1 k2 k3 k5, K.lookup C = some (excClassObj nm qn C N bs (.ref D :: ESX.exTail) true sn sub ab col dd k0 k1 k2 k3 k5 "Exception.__new__")
  ov : excOver K C ESX.exTail = true
  sa : findIn K (.ref C) "__setattr__" = some (some (.builtin "object.__setattr__"))
  tk : takerIn K C "thing" = some none
  noN : findIn K (.ref C) "thing" = some none
  iC : findIn K (.ref C) "__init__" = some (some (.ref fI))
  tC : typeIn K (.ref fI) = some (.type "function")
  kC : keepIn K (.ref C) = true
  exC : subIn K (.ref C) (.type "BaseException") = some true
  exE : subIn K (.ref C) (.type "Exception") = some true
  tyC : typeIn K (.ref C) = some (.type "type")
  hdC : hasDictIn K C = true
  sup : ks_superIn K C C "__init__" = some (some (.builtin "Exception.__init__"))
  self : mroIn K C (.ref C) = some true
  opq : nsIn K cStatics "thirdparty.any" = some none
  mgS : mg "super" = none
  topS : (P.main.scope.names.lookup ("super" : Str)).isSome = false
  fn : ∃ (oc : Value) (od : Option Addr) (doc pm : Value) (an : Option Addr) (cda : Addr) (ct : Value) (osl : Array (Option Value)) (cc : Addr) (a1 a2 p0 p1 p2 p3 p4 p5 p6 p7 p8 p9 : Pos) (ccl cl : Value) (cdd cld : Option Addr) (vs : Array Value) (ccs csl : Array (Option Value)) (file : Str) (tf : Tok),
    K.lookup fI = some ⟨oc, od, .func (ksFn "__init__" q (iA a1 a2) (iB p0 p1 p2 p3 p4 p5 p6 p7 p8 p9) iS .none .none doc pm an (.ref cda) ct cc), osl⟩ ∧ codeIn K (.ref cda) q = true ∧
    K.lookup cda = some ⟨ccl, cdd, .fields vs, ccs⟩ ∧ vs[2]? = some (.str file tf) ∧ ((P.main.file : Str) == file) = true ∧ K.lookup cc = some ⟨cl, cld, .cell (some (.ref C)), csl⟩ ∧ (p2.endLine == p4.line) = true
section
variable {prog : Program} {w : World} {A : Around} {E : Value → Shared → Prop} {R : Result → Shared → Prop} {K : Frag} {C : Addr}
/-- the first field of an exception whose class lies over Exception -/
theorem osa_newX {hp : Heap} {g : Array GenState} {d : Drawn} {t : Nat} {os : OsState} {name : Str} {tk : Tok} {v : Value} {x : Addr} {fv : Array Value}
    (X : K.In hp) (hx : hp.get? x = some { cls := .ref C, data := .fields fv }) (ov : excOver K C ESX.exTail = true) (ht : takerIn K C name = some none) (hh : hasDictIn K C = true)
    (hq : ∀ h' tk' dx, (∀ b o, b ≠ x → hp.get? b = some o → h'.get? b = some o) → hp.objs.size ≤ dx → dx ≠ x → h'.get? x = some { cls := .ref C, dict := some dx, data := .fields fv } →
      h'.Ns1 dx (fun y => if y = name then some v else none) → R (.ok (.ret .none)) ⟨h', g, d, tk', os⟩) :
    codeAny (model prog w) A (.call (.builtin "object.__setattr__") ⟨[.ref x, .str name tk, v], []⟩) R ⟨hp, g, d, t, os⟩ := by
  have I : InstAt hp x { cls := .ref C, data := .fields fv } C none := ⟨hx, rfl, rfl, trivial⟩
  have hxs : x ≠ hp.objs.size := Nat.ne_of_lt (Heap.lt_size hx)
  refine osa_openX (s := ⟨hp, g, d, t, os⟩) (r := none) PySem.F.store_Exception X I ov ht fun b => ?_
  obtain ⟨cd, hcd, hh'⟩ := any_some hh
  have hcls : Looks (model prog w) hp (classData C) cd := looks_clsIn X hcd
  obtain ⟨nm, bs, mro, ns, qn, hd, sn, sb, ab, col, del⟩ := cd
  dsimp only at hh'
  subst hh'
  show wpAny _ _ (storeInOwnDict (.ref x) (.ref C) (.str name tk) name v b) _ _ _
  unfold storeInOwnDict ownDictForStores
  repeat (first | with_reducible refine HandSPX.store_in_new ?_ ?_ | with_reducible refine wpAny_loadPart_at hx ?_ | with_reducible refine hcls.at ?_ | wp_step)
  · exact ⟨_, #[], _, (Heap.get?_update_ne _ _ _ _ hxs.symm).trans (Heap.get?_push_at rfl rfl), rfl, fun e he => absurd he (by simp), fun _ => rfl⟩
  · intro h' tk' hn' hs
    have hx₁ : (hp.push { cls := .type "dict", data := .dict #[] }).get? x = some { cls := .ref C, data := .fields fv } := Heap.get?_push_of_some _ hx
    refine hq h' tk' hp.objs.size (fun b o hb ho => ?_) (Nat.le_refl _) hxs.symm ?_ hn'
    · exact (hs.2 b (Nat.ne_of_lt (Heap.lt_size ho))).trans ((Heap.get?_update_ne _ _ _ _ hb).trans (Heap.get?_push_of_some _ ho))
    · exact (hs.2 x hxs).trans (Heap.get?_update_self _ hx₁ rfl)
end
/-- what __init__ leaves -/
structure InitEnd (h h' : Heap) (x C dx t1 : Addr) (v : Value) : Prop where
  keep : ∀ b o, b ≠ x → h.get? b = some o → h'.get? b = some o
  obj : h'.get? x = some { cls := .ref C, dict := some dx, data := .fields #[.ref t1, .none, .none, .none, .bool false, .none] }
  dbig : h.objs.size ≤ dx
  dne : dx ≠ x
  ns : h'.Ns1 dx (fun y => if y = "thing" then some v else none)
theorem super_call (env : Env) {p0 p1 p2 p3 p4 : Pos} (hpos : (p2.endLine == p4.line) = true) : PySem.eval (.Call (.Attribute (.Call (.Name "super" p0) [] [] p1) "__init__" p2) [.Name "thing" p3] [] p4) env = (do
    let ov ← attributeBase (.Call (.Name "super" p0) [] [] p1) "__init__" env (PySem.eval (.Call (.Name "super" p0) [] [] p1) env)
    standAt p2.atName
    let (f, first) ← holding [ov] (getMethod ov "__init__" (do return (← importBound (.Call (.Name "super" p0) [] [] p1) env).getD true))
    callWith p4 f first (backTo p4 (starEach [.Name "thing" p3] env)) []) := by
  have key : ∀ few o, methodCallPos few o env p2 p4 = pure p4 := fun few o => by
    unfold methodCallPos
    rw [hpos, Bool.or_true]
    rfl
  conv => lhs; unfold PySem.eval
  unfold methodCall
  simp only [key, pure_bind]
  rfl
theorem along_init2 {K : Frag} {C D : Addr} {bs : List Value} {nm qn : Str} {N : Addr} {sn : List Str} {sub : List Value} {ab : Bool} {col : Option Bool} {dd : Option Addr} {k0 k1 k2 k3 k5 : Option Value}
    (hC : K.lookup C = some (excClassObj nm qn C N bs (.ref D :: ESX.exTail) true sn sub ab col dd k0 k1 k2 k3 k5 "Exception.__new__")) {cd : ClassData} (hc : clsIn K C = some cd) : cd.mro = .ref C :: .ref D :: ESX.exTail := by
  unfold clsIn at hc
  rw [hC] at hc
  cases hc
  rfl
section
variable {prog : Program} {w : World} {A : Around} {E : Value → Shared → Prop} {R : Result → Shared → Prop} {s : Shared} {K : Frag} {mg : Str → Option Value} {base : Heap} {x q : Str} {C D fI : Addr}
theorem bad_init (T : Txt K mg prog x q C D fI) (M : L2.Mod K mg base) {a t0 : Addr} {v : Value} (kb : ∀ b o, base.get? b = some o → s.heap.get? b = some o) (hx : s.heap.get? a = some (excO C t0)) (hnx : K.lookup a = none) (hroom : A.depth < recursionLimit)
    (hq : ∀ h' tk dx t1, InitEnd s.heap h' a C dx t1 v → R (.ok (.ret .none)) { s with heap := h', toks := tk }) :
    codeAny (model prog w) A (.call (.ref fI) ⟨[.ref a, v], []⟩) R s := by
  obtain ⟨oc, od, doc, pm, an, cda, ct, osl, cc, a1, a2, p0, p1, p2, p3, p4, p5, p6, p7, p8, p9, ccl, cl, cdd, cld, vs, ccs, csl, file, tf, ho, hcd, hcode, hvs, hfile, hcell, hpos⟩ := T.fn
  have hk : iS.kind = .function := rfl
  have hself : iS.names.lookup ("self" : Str) = some .local := by decide +kernel
  have hthing : iS.names.lookup ("thing" : Str) = some .local := by decide +kernel
  have hsup : iS.names.lookup ("super" : Str) = some .globalImplicit := by decide +kernel
  have hcls : iS.names.lookup ("__class__" : Str) = some .free := by decide +kernel
  obtain ⟨nm, qn, N, bs, sn, sub, ab, col, dd, k0, k1, k2, k3, k5, hC⟩ := T.cls
  have X : K.In s.heap := M.kin.keeps kb
  obtain ⟨cd, hcd', hh⟩ := any_some T.hdC
  have hmro := along_init2 hC hcd'
  refine ks_codeAny_call_defAt (fd := ksFn "__init__" q (iA a1 a2) (iB p0 p1 p2 p3 p4 p5 p6 p7 p8 p9) iS .none .none doc pm an (.ref cda) ct cc) (body := iB p0 p1 p2 p3 p4 p5 p6 p7 p8 p9) (binds := [("self", .ref a), ("thing", v)])
    hroom (X _ _ ho) rfl (M.nolimit.keeps kb) (codeRec_of X hcd) rfl (BindsTo.of_eq (by first | rfl | with_unfolding_all rfl)) (show ∀ y ∈ iS.names, y.2 ≠ .cell by decide +kernel) (fun y hy => ?_) (fun h₁ hns k => ?_) rfl rfl rfl
  · rcases List.mem_cons.mp hy with rfl | hy
    · exact hself
    · rcases List.mem_cons.mp hy with rfl | hy
      · exact hthing
      · cases hy
  have X₁ : K.In h₁ := X.keeps k
  have kb₁ : ∀ b o, base.get? b = some o → h₁.get? b = some o := fun b o e => k b o (kb b o e)
  obtain ⟨mb, hb1, hb2⟩ := M.blt
  have hx₁ := k _ _ hx
  have hlt : s.heap.objs.size < h₁.objs.size := hns.lt
  have hxL : a < s.heap.objs.size := Heap.lt_size hx
  have I : InstAt h₁ a (excO C t0) C none := ⟨hx₁, rfl, rfl, trivial⟩
  obtain ⟨oD, hD1, hD2⟩ : ∃ oD, h₁.get? C = some oD ∧ oD.data = .cls cd := by
    unfold clsIn at hcd'
    split at hcd'
    · rename_i c d cd2 sl hoc
      cases hcd'
      exact ⟨_, X₁ _ _ hoc, rfl⟩
    · cases hcd'
  obtain ⟨hp, g, d, t, os⟩ := s
  show _root_.PySem.wpAt _ _ (.func (iB p0 p1 p2 p3 p4 p5 p6 p7 p8 p9) (ksEnv q iS hp.objs.size fI (.ref cda) cc)) (execs (iB p0 p1 p2 p3 p4 p5 p6 p7 p8 p9) (ksEnv q iS hp.objs.size fI (.ref cda) cc)) _ _ _
  refine ks_wpAt_execs_cons (ks_wpAt_Expr_any (ks_wpAt_MethodCall ?_ (super_call _ hpos)))
  refine ks_wpAt_super_base (env := ksEnv q iS hp.objs.size fI (.ref cda) cc) hsup hcls (by decide) rfl (X₁ _ _ ho) rfl rfl rfl (X₁ _ _ hcode) rfl hvs hfile T.topS ?_
  refine ks_loadName_global hk hsup (loadGlobal_builtin (env := ksEnv q iS hp.objs.size fI (.ref cda) cc) (M.glob.keeps kb₁) T.mgS (hb1.keeps kb₁) ((hb2 "super" (by decide)).trans (by decide +kernel)) ⟨rfl, ?_⟩)
  refine wpAny_loadName_free hk hcls rfl ⟨_, X₁ _ _ hcell, rfl⟩ ?_
  refine wpAny_loadName_local hk hself hns (v := .ref a) (by first | rfl | with_unfolding_all rfl | kernel_rfl) ?_
  refine ks_wpAny_isType_cls hD1 hD2 ⟨rfl, ?_⟩
  refine ks_wpAny_call_super hD1 hD2 hx₁ rfl (fun c e => by cases e) (looks_mroIn X₁ T.self) (fun h₂ hso k₂ => ?_)
  have X₂ : K.In h₂ := X₁.keeps k₂
  have I₂ : InstAt h₂ a (excO C t0) C none := ⟨k₂ _ _ hx₁, rfl, rfl, trivial⟩
  have hf : alongIn K "__init__" ((cd.mro.dropWhile (· != .ref C)).drop 1) = some (some (.builtin "Exception.__init__")) := by
    have z := T.sup
    unfold ks_superIn at z
    rw [hcd'] at z
    exact z
  refine ESX.getMethod_super hso (looks_opaque X₂ T.opq) (l₀ := cd.mro) ((looks_clsIn X₂ hcd').andThen .now) rfl X₂ hf (ks_ne X₂ I₂ hcd') (by decide +kernel) (I₂.type.andThen (looks_subIn X₂ T.exE)) ?_
  have k₃ : ∀ b o, h₁.get? b = some o → (h₂.push (ESX.bw a)).get? b = some o := fun b o e => Heap.get?_push_of_some _ (k₂ b o e)
  refine ESX.callWith_bound (x := a) ?_
  show wpAny _ _ (spliced ((false, PySem.eval (.Name "thing" p3) (ksEnv q iS hp.objs.size fI (.ref cda) cc)) :: backTo p4 (starEach [] (ksEnv q iS hp.objs.size fI (.ref cda) cc)))) _ _ _
  refine Calls.spliced_cons (ESX.ldL (v := v) (hns.keeps k₃) (by first | rfl | with_unfolding_all rfl | kernel_rfl) ?_ hk hthing)
  refine Calls.spliced_nil ⟨Heap.get?_push_size _ rfl, ?_⟩
  refine ESX.call_bw (k₃ _ _ (X₁ _ _ hC)) (k₃ _ _ hx₁) (Heap.get?_push_size _ rfl) (by show 1 ≤ sizeLine; rw [sizeLine_eq]; omega) fun h₄ t1 k₄ hx₄ => ?_
  have k₅ : ∀ b o, b ≠ a → h₁.get? b = some o → h₄.get? b = some o := fun b o hb e => k₄ b o hb (k₃ b o e)
  have nA : ∀ b o, K.lookup b = some o → b ≠ a := fun b o e z => by
    rw [z, hnx] at e
    cases e
  have X₄ : K.In h₄ := fun b o e => k₅ b o (nA b o e) (X₁ b o e)
  have hns₄ : h₄.Ns hp.objs.size fun y => ([("self", Value.ref a), ("thing", v)] : List (Str × Value)).reverse.lookup y := hns.at fun o q => k₅ _ o (Nat.ne_of_gt hxL) q
  refine wpAt_of_wpAny (wpAny_execs_cons ?_)
  refine plainObj_wpAny_Assign_Attribute (ESX.ldL (v := v) hns₄ (by first | rfl | with_unfolding_all rfl | kernel_rfl) (ESX.ldL (v := .ref a) hns₄ (by first | rfl | with_unfolding_all rfl | kernel_rfl) ?_ hk hself) hk hthing)
  refine set_plain X₄ (ox := excO C t1) (od := none) ⟨hx₄, rfl, rfl, trivial⟩ T.sa ?_
  refine osa_newX X₄ hx₄ T.ov T.tk T.hdC fun h₆ tk₆ dx k₆ dn dne hx₆ hn₆ => ?_
  refine wpAny_execs_nil (hq h₆ tk₆ dx t1 ⟨fun b o hb e => k₆ b o hb (k₅ b o hb (k b o e)), hx₆, Nat.le_of_lt (Nat.lt_of_lt_of_le hns₄.lt dn), dne, hn₆⟩)
/-- a made one -/
structure OwnMade (h h' : Heap) (e C d : Addr) (v : Value) : Prop where
  keep : ∀ b o, h.get? b = some o → h'.get? b = some o
  new : h.objs.size ≤ e
  obj : ∃ oe vs, h'.get? e = some oe ∧ oe.cls = .ref C ∧ oe.dict = some d ∧ oe.data = .fields vs ∧ vs[1]? = some .none
  dbig : h.objs.size ≤ d
  dne : d ≠ e
  ns : h'.Ns1 d (fun y => if y = "thing" then some v else none)
theorem tail_like (D : Addr) (Y : String) : (Value.ref D :: ESX.exTail).contains (.type Y) = ESX.exTail.contains (.type Y) := by
  rw [List.contains_cons]
  rfl
theorem bad_made (T : Txt K mg prog x q C D fI) (M : L2.Mod K mg base) {v : Value} (kb : ∀ b o, base.get? b = some o → s.heap.get? b = some o) (hroom : A.depth + 1 < recursionLimit)
    (hq : ∀ h' tk e d, OwnMade s.heap h' e C d v → R (.ok (.ret (.ref e))) { s with heap := h', toks := tk }) :
    codeAny (model prog w) A (.call (.ref C) ⟨[v], []⟩) R s := by
  obtain ⟨nm, qn, N, bs, sn, sub, ab, col, dd, k0, k1, k2, k3, k5, hC⟩ := T.cls
  obtain ⟨hp, g, dr, tk, os⟩ := s
  have X : K.In hp := M.kin.keeps kb
  have k : ∀ b o, hp.get? b = some o → ((hp.push (kdv_tup [v])).push (excO C hp.objs.size)).get? b = some o := fun b o e => Heap.get?_push_of_some _ (Heap.get?_push_of_some _ e)
  have hget : ((hp.push (kdv_tup [v])).push (excO C hp.objs.size)).get? (hp.objs.size + 1) = some (excO C hp.objs.size) := by heap_get
  have hnx : K.lookup (hp.objs.size + 1) = none := by
    cases e : K.lookup (hp.objs.size + 1) with
    | none => rfl
    | some o =>
      have z : hp.get? (hp.objs.size + 1) = some o := X _ _ e
      exact absurd (Nat.lt_of_succ_lt (Heap.lt_size z)) (Nat.lt_irrefl _)
  refine call_own PySem.F.excBase_Exception (tail_like D) (X _ _ hC) (looks_findIn X T.iC) (fun self => bind_fn X self T.tC) (by show 1 ≤ sizeLine; rw [sizeLine_eq]; omega) ?_
  refine bad_init (s := ⟨(hp.push (kdv_tup [v])).push (excO C hp.objs.size), g, dr, tk, os⟩) T M (fun b o e => k b o (kb b o e)) hget hnx ?_ fun h' tk' dx t1 ⟨k', hx, dn, dne, hns⟩ => ?_
  · show A.depth + 1 < recursionLimit
    exact hroom
  · have old : ∀ b o, hp.get? b = some o → h'.get? b = some o := fun b o e => k' b o (Nat.ne_of_lt (Nat.lt_succ_of_lt (Heap.lt_size e))) (k b o e)
    have z : hp.objs.size + 1 + 1 ≤ dx := by
      have q := dn
      rw [Heap.size_push, Heap.size_push] at q
      exact q
    exact ⟨rfl, hq h' tk' (hp.objs.size + 1) dx ⟨old, Nat.le_succ _, ⟨_, _, hx, rfl, rfl, rfl, rfl⟩, Nat.le_trans (Nat.le_trans (Nat.le_succ _) (Nat.le_succ _)) z, dne, hns⟩⟩
end
end BadX
namespace DL
open PySem L2 PySem.Spec PyProof.Rows
theorem relO_thing {v : V} {v' : Value} (r : RelV v v') (f : Str) : RelO (List.lookup f [(("thing" : Str), v)]) (if f = "thing" then some v' else none) := by
  by_cases hw : f = "thing"
  · subst hw
    rw [if_pos rfl]
    have q : List.lookup ("thing" : Str) [(("thing" : Str), v)] = some v := by simp [List.lookup]
    rw [q]
    exact r
  · rw [if_neg hw]
    have qw : (f == ("thing" : Str)) = false := by simpa using hw
    have q2 : List.lookup f [(("thing" : Str), v)] = none := by simp [List.lookup, qw]
    rw [q2]
    trivial
/-- X(e) -/
def tMkB (C : Addr) (te : TE) : L2.St → Hp → XK → Prop := fun σ H Q => te σ H fun v H1 => ∀ d, H1 d = none → Q (.ref C) (some d) (upd H1 d (.xd [(("thing" : Str), v)]))
theorem pmk_bad {X : Cx} {x q : Str} {C D fI : Addr} {a : Expr} {te : TE} {p pos : Pos} {k : Nat} (T : BadX.Txt X.K X.mg X.prog x q C D fI) (hr : Room k X.A) (hk : 1 ≤ k) (ha : PE X a te) (hg : Gl X x) (hdb : (x == ("__debug__" : Str)) = false := by decide)
    (he : starEach (a :: []) X.env = (false, eval a X.env) :: starEach [] X.env := by rfl) (hpl : (backTo pos (starEach [] X.env)).any (·.1) = false := by rfl) :
    PMk X (.Call (.Name x p) [a] [] pos) (tMkB C te) := by
  intro pins s σ H Q I h
  refine wpAny_Call_Name_kw (ld_glob I hg T.gC ?_ hdb)
  refine PySem.W.callWith_K (h₀ := X.base) I.ok.mod.kin T.kC ?_ he hpl
  show wpAny _ _ (spliced (backTo pos (starEach [a] X.env))) _ _ s
  rw [he]
  show wpAny _ _ (spliced ((false, eval a X.env) :: backTo pos (starEach [] X.env))) _ _ s
  refine Calls.spliced_cons (thn (ha.run pins s σ H _ I h) fun u s1 ⟨v, H1, I1, r1, q1⟩ => ?_)
  refine Calls.spliced_nil ⟨I1.kIn, ?_⟩
  show wpAny _ _ (call (.ref C) [u]) _ _ _
  have kb := I1.bk
  obtain ⟨hp, g, dr, tk, os⟩ := s1
  refine wpAny_call (BadX.bad_made T I1.ok.mod kb (by have := hr.dp; omega) fun h' tk' e d M => ?_)
  show MkP X pins σ Q (.ref e) ⟨h', g, dr, tk', os⟩
  obtain ⟨oe, fv, hoe, hc, hd, hdat, h1⟩ := M.obj
  have hns := M.ns
  obtain ⟨G', g1, g2⟩ := restrict h' fun b => decide (b ≠ e)
  have gk : ∀ b, b ≠ e → G'.get? b = h'.get? b := fun b hb => g1 b (decide_eq_true hb)
  have ge : G'.get? e = none := g2 e (by simp)
  have old : ∀ b o, hp.get? b = some o → G'.get? b = some o := fun b o q => (gk b (Nat.ne_of_lt (Nat.lt_of_lt_of_le (Heap.lt_size q) M.new))).trans (M.keep b o q)
  have ob : ObjOk X.prog X.w (upd H1 d (.xd [(("thing" : Str), v)])) G' d (.xd [(("thing" : Str), v)]) :=
    ⟨_, hns.at (fun o q => (gk d M.dne).trans q), fun f => relO_thing r1 f⟩
  have J : Inv X pins σ (upd H1 d (.xd [(("thing" : Str), v)])) ⟨G', g, dr, tk', os⟩ := I1.laid (t' := tk') old M.dbig ob
  refine ⟨e, oe, fv, ⟨G', g, dr, tk', os⟩, _, .ref C, some d, rfl, J, fun b o q => ?_, ge, hoe, ⟨hc, hd⟩, hdat, h1, ?_, rfl, I1.bare, raises_own T.exC T.tyC, q1 d (I1.hok.fresh M.dbig)⟩
  · by_cases hb : b = e
    · have q' : G'.get? b = some o := q
      rw [hb, ge] at q'; cases q'
    · exact (gk b hb).symm.trans q
  · rw [upd_ne (Ne.symm M.dne)]
    exact I1.hok.fresh M.new
end DL

set_option Elab.async false
set_option linter.all false
set_option maxRecDepth 100000
set_option maxHeartbeats 4000000
/-! a def that tells or raises; try: return (word, call()) except X as e: return (word, isinstance(e, Y), e.thing); the lambda handed to it -/
namespace DL
open PySem L2 PySem.Spec PyProof.Rows
/-- one value in; g tells what comes back, or that the error at C is raised with the value itself -/
def spX (k : Kit) (C : Addr) (pre : D → Prop) (g : D → Option D) : Sp := fun vs H Q E => ∃ al d v mu, vs = [v] ∧ Rep k.K al H d v ∧ MuOk k.K k.DK al H mu ∧ pre d ∧
  (∀ w, g d = some w → ∀ v' H' al', Ext al H al' H' → MuOk k.K k.DK al' H' mu → Rep k.K al' H' w v' → Q v' H') ∧
  (g d = none → ∀ dx H' al', Ext al H al' H' → MuOk k.K k.DK al' H' mu → H' dx = none → E (.ref C) (some dx) (upd H' dx (.xd [(("thing" : Str), v)])))
theorem spX_len {k : Kit} {C : Addr} {pre : D → Prop} {g : D → Option D} : ∀ vs H Q E, spX k C pre g vs H Q E → vs.length = 1 := fun vs H Q E h => by
  obtain ⟨_, _, v, _, rfl, _⟩ := h
  rfl
/-- if not ok(x): raise X(x); return val(x) -/
theorem pureX {k : Kit} {C : Addr} {pre : D → Prop} {g : D → Option D} {p : Str} {m1 : SemT} {m2 : SemE} (h1 : ∀ d mu Q, pre d → Q (g d).isNone mu → m1 [some (.dat d)] mu Q) (h2 : ∀ d w mu Q, pre d → g d = some w → Q (.dat w) mu → m2 [some (.dat d)] mu Q) :
    ∀ vs H Q E, spX k C pre g vs H Q E → tSeq (tIfS (tDT k m1) (fun _ σ H => tMkB C (tVar 0) σ H fun cls d H' => E cls d H') tNext) (tRet (tD k m2)) { nx := fun _ H' => Q .non H', rt := Q } (L2.start [p] vs) H := by
  rintro vs H Q E ⟨al, d, v, mu, rfl, rd, mo, pd, kS, kN⟩
  have st : Stt k.K k.DK al (L2.start [p] [v]) H [some (.dat d)] mu := ⟨mo, rfl, fun i b hi => by
    cases i with
    | zero =>
      cases hi
      exact ⟨v, rfl, rd⟩
    | succ i => cases hi⟩
  refine ⟨al, [some (.dat d)], mu, fun b mu1 => b = (g d).isNone ∧ mu1 = mu, st, h1 d mu _ pd ⟨rfl, rfl⟩, fun c H' al' mu' e st' q => ?_⟩
  obtain ⟨rfl, rfl⟩ := q
  cases hg : g d with
  | none => exact ⟨v, rfl, fun dx hd => kN hg dx H' al' e st'.mu hd⟩
  | some w => exact ⟨al', _, mu', fun b mu1 => b = .dat w ∧ mu1 = mu', st', h2 d w mu' _ pd hg ⟨rfl, rfl⟩, fun v2 H2 al2 b mu2 e2 st2 rb q => by
      obtain ⟨rfl, rfl⟩ := q
      exact kS w hg v2 H2 al2 (e.trans e2) st2.mu rb⟩
section
variable {X : Cx} {CX : CXT} {k : Nat} {f : Addr} {fd : FuncData} {sp : Sp} {E : L2.St → XK} {x p1 : Str} {p pos : Pos} {e : Expr} {j : Nat} {np : Pos}
/-- x(p1=e), x may raise -/
theorem pe_callSK (F : FnOk X.prog X.w X.K X.mg X.base CX k f fd [p1] sp) (hr : Room k X.A) (hg : Gl X x) (hm : X.mg x = some (.ref f)) (hk : PySem.W.keepIn X.K (.ref f) = true) (hb : ∀ (s : Shared) (u : Value), BindsTo s fd ⟨[], [(p1, u)]⟩ [(p1, u)])
    (hx : ∀ σ, PassesAt CX X σ (E σ)) (ha : PE X e (tVar j)) (hdb : (x == ("__debug__" : Str)) = false := by decide)
    (hall : (backToKw pos (keywordEach [⟨some p1, e, np⟩] X.env)).all (·.1.isSome) = true := by rfl) (hks : (backToKw pos (keywordEach [⟨some p1, e, np⟩] X.env)).filterMap (·.1) = [p1] := by rfl)
    (hpl : ((backTo pos (starEach [] X.env)).any (·.1) || (backToKw pos (keywordEach [⟨some p1, e, np⟩] X.env)).any (·.1.isNone)) = false := by rfl) :
    PE X (.Call (.Name x p) [] [⟨some p1, e, np⟩] pos) (fun σ H Q => tVar j σ H fun v H1 => sp [v] H1 Q (E σ)) := by
  refine ⟨fun pins s σ H Q I h => wpAny_Call_Name_kw (ld_glob I hg hm ?_ hdb)⟩
  refine PySem.W.callWith_KW0 (h₀ := X.base) I.ok.mod.kin hk hall (thn ((pk_cons ha pk_nil).run pos pins s σ H (fun vs H1 => ∃ v, vs = [v] ∧ sp [v] H1 Q (E σ)) I ?_) ?_) hpl
  · obtain ⟨v, hv, q⟩ := h
    exact ⟨v, hv, v, rfl, q⟩
  rintro ws s2 ⟨zs, H2, I2, rz, v, rfl, q2⟩
  refine ⟨I2.kIn, ?_⟩
  cases rz with
  | cons ru rn =>
    rename_i u us'
    cases rn
    rw [hks]
    show wpAny _ _ (call (.ref f) [] [(p1, u)]) _ _ _
    refine wpAny_call (codeAny_mono (F.run X.A X.stack s2 H2 ⟨[], [(p1, u)]⟩ [u] [v] Q (E σ) hr I2.env0 (hb s2 u) (.cons ru .nil) q2) fun r s' hq => ?_)
    cases r with
    | error e => exact hx σ pins H2 s2 e s' I2 hq
    | ok fl =>
      cases fl with
      | ret u => exact I2.after hq
      | next => exact False.elim hq
      | brk => exact False.elim hq
      | cont => exact False.elim hq
end
/-- what the error's class must say, so that its field is read and isinstance asked -/
structure BadC (K : PySem.W.Frag) (mg : Str → Option Value) (C D : Addr) : Prop where
  xf : XfC K C
  noN : PySem.W.findIn K (.ref C) "thing" = some none
  em : PySem.W.exmOne K (.ref C) (.ref C) = some true
  hcl : (PySem.W.clsIn K C).isSome = true
  ha : PySem.W.findIn K (.ref C) "__class__" = some (some (.builtin "object.__class__"))
  hn : PySem.W.specialIn K (.builtin "object.__class__") "__get__" = some (some (.builtin "getset_descriptor.__get__"))
  ht : PySem.W.takesIn K (.builtin "object.__class__") = some true
  hm : PySem.W.mroIn K C (.type "object") = some true
  isD : PySem.W.kitOne K (.ref C) (.ref D) = some true
/-- isinstance(e, c), e the exception that the suite holds, with a dict -/
def rIsD (D a : Addr) (cls : Value) (C : Addr) (d : Option Addr) : List V → Hp → VK → Prop := fun xs H Q => xs = [.ref a, .ref D] ∧ cls = .ref C ∧ (∃ dd fs, d = some dd ∧ H dd = some (.xd fs)) ∧ Q (.bl true) H
theorem call_isD {X : Cx} {mg : Str → Option Value} {a C D : Addr} {oe : Obj} {cls : Value} {d : Option Addr} {pn : List (Addr × Obj)} (B : BadC X.K mg C D) (hz : Zc cls d oe) (hf : ∃ vs, oe.data = .fields vs) :
    CallR (X.suite a ((a, oe) :: pn)) (.builtin "isinstance") (rIsD D a cls C d) := by
  intro pins s σ H xs us Q I r h
  obtain ⟨rfl, rfl, ⟨dd, fs, rfl, hdd⟩, q⟩ := h
  cases r with
  | cons rx rr =>
    cases rr with
    | cons rt rr =>
      cases rr
      cases rx
      cases rt
      obtain ⟨hget, _⟩ := I.pin (a, oe) (List.mem_append.mpr (.inl List.mem_cons_self))
      obtain ⟨vs, hv⟩ := hf
      have hx : ObjOk X.prog X.w H s.heap dd (.xd fs) := I.hok dd _ hdd
      obtain ⟨mA, hns, hr⟩ := hx
      obtain ⟨od, ho, hl⟩ := lookIn_ns hns
      have J : PySem.W.InstAt s.heap a oe C (some od) := ⟨hget, hz.1, by unfold PySem.W.notCls; rw [hv] <;> rfl, by rw [hz.2]; exact ho⟩
      exact PySem.W.kia_one (PySem.W.kitx_exc B.hcl B.xf.ga B.xf.gg B.xf.exC B.ha B.hn B.ht B.hm) I.kIn J B.isD (fun z => nomatch z) fun tk => ⟨.bl true, H, I.kept (t' := tk) fun _ _ z => z, rfl, q⟩
/-- what _law_told makes of the call's reading -/
def TToldB (C : Addr) (w1 w2 : Str) : (XK → Hp → VK → Prop) → Hp → VK → Prop := fun tl H Q =>
  tl (fun cls dd H' => cls = .ref C ∧ ∃ d v, dd = some d ∧ H' d = some (.xd [(("thing" : Str), v)]) ∧ ∀ p, H' p = none → Q (.ref p) (upd H' p (.tup [.str w2, .bl true, v]))) H (fun v H' => [V.str w1, v].length ≤ sizeLine ∧ ∀ p, H' p = none → Q (.ref p) (upd H' p (.tup [.str w1, v])))
theorem takes_imp {X : Cx} {W W' : WX} (t : Takes X W) (h : ∀ c d σ H, σ.length = X.N.length → W' c d σ H → W c d σ H) : Takes X W' := fun u s' ⟨a, B, sI, pins, σ, H, cls, d, e, I, nb, up, sky, na, os, ag, w⟩ =>
  t u s' ⟨a, B, sI, pins, σ, H, cls, d, e, I, nb, up, sky, na, os, ag, h _ _ _ _ I.len w⟩
theorem toldB_gives {X : Cx} {x a e en q w1 w2 xd : Str} {sg : Scope} {g C D : Addr} {cdg : Value} {j0 j1 : Nat} {x1 x2 : _} {p0 p1 p2 p3 p4 p5 p6 p7 p8 p9 p10 p11 p12 p13 p14 p15 p16 : Pos} (B : BadC X.K X.mg C D)
    (hge : sg.names.lookup e = some .globalImplicit) (hme : X.mg e = some (.ref C)) (hde : (e == ("__debug__" : Str)) = false)
    (hgd : sg.names.lookup xd = some .globalImplicit) (hmd : X.mg xd = some (.ref D)) (hdd : (xd == ("__debug__" : Str)) = false)
    (hgi : sg.names.lookup ("isinstance" : Str) = some .globalImplicit) (hmi : X.mg "isinstance" = none)
    (hnd : [a, en].Nodup) (hle : sg.names.lookup en = some .local) (hen : (en == ("__debug__" : Str)) = false) (hen2 : (en == ("__classdict__" : Str)) = false) :
    LamX.GivesTo X [a, en] x sg g cdg [.Try [.Return (some (.Tuple [.Constant (.str w1) j0 p0, .Call (.Name a p1) [] [] p2] x1 p3)) p4]
      [.ExceptHandler (some (.Name e p5)) (some en) [.Return (some (.Tuple [.Constant (.str w2) j1 p6, .Call (.Name "isinstance" p7) [.Name en p8, .Name xd p9] [] p10, .Attribute (.Name en p11) "thing" p12] x2 p13)) p14] p15] [] [] p16] a q (TToldB C w1 w2) := by
  intro f c' s H Q tl act hc h
  have hgl : Gl (cxOf C8.CX0 X.prog X.w X.K X.mg X.base [a, en] x sg g cdg X.A X.stack s H C8.E0).nox e := hge
  refine ⟨_, pss_one (ps_try_as (X := (cxOf C8.CX0 X.prog X.w X.K X.mg X.base [a, en] x sg g cdg X.A X.stack s H C8.E0).nox) (c := .ref C) (i := 1) (n := en) (Wout := fun _ _ _ _ => False)
      (tb := fun W Dd σ H => ∃ Ech : XK, (∀ cls d σ' H', σ'.length = 2 → Ech cls d H' → W cls d σ' H') ∧ σ[0]? = some (some (.ref f)) ∧ H c' = some (LamX.CodeO c' q) ∧ tl Ech H fun v H' => [V.str w1, v].length ≤ sizeLine ∧ ∀ p, H' p = none → Dd.rt (.ref p) (upd H' p (.tup [.str w1, v])))
      rfl rfl hnd rfl hle ⟨hgl, hde, .inl hme⟩ takes0 (fun W pn xe tk _ => ?_)
      (fun a2 oe cls d pn hz hf => pss_one (ps_ret (pe_tup (pa_cons pe_str (pa_cons (pe_callB (call_isD B hz hf) hgi hmi PyProof.Rows.boot_isinstance (pa_cons (pe_var (i := 1) rfl (.inl hle) hen hen2) (pa_cons (pe_glob (v := .ref D) hgd hmd rfl hdd) pa_nil)))
        (pa_cons (pe_xf B.xf B.noN hz hf (pe_var (i := 1) rfl (.inl hle) hen hen2)) pa_nil))))))), ?_⟩
  · refine ⟨fun pins s' σ H' Dd I h' => ?_⟩
    obtain ⟨Ech, hW, h1, h2, h3⟩ := h'
    have hp := act (fun cls d _ H' => Ech cls d H') pn xe Ech p1 p2 (takes_imp tk fun cls d σ' H' hl hE => hW cls d σ' H' hl hE) (fun _ _ _ _ h => h)
    have hq := pss_one (ps_ret (pos := p4) (pe_tup (x1 := x1) (pos := p3) (pa_cons (pe_str (x := w1) (j := j0) (pos := p0)) (pa_cons hp pa_nil))))
    exact hq.run pins s' σ H' Dd I ⟨h1, h2, h3⟩
  · refine ⟨_, fun cls d σ' H' hl ⟨ec, dd, v, ed, hdd, hQ⟩ => ?_, rfl, hc, h⟩
    subst ec
    refine ⟨true, B.em, fun _ a2 _ => ?_, fun z => nomatch z⟩
    have hs : (σ'.set 1 (some (V.ref a2)))[1]? = some (some (V.ref a2)) := by
      rw [List.getElem?_set_self (by omega)]
    exact ⟨V.ref a2, hs, rfl, rfl, ⟨dd, _, ed, hdd⟩, V.ref a2, hs, rfl, rfl, dd, _, v, ed, hdd, by simp [List.lookup], by show 3 ≤ sizeLine; decide, hQ⟩
end DL

set_option Elab.async false
set_option linter.all false
set_option maxRecDepth 100000
set_option maxHeartbeats 4000000
/-! told(lambda: f(x) if named else f(p=x)) -/
namespace DL
open PySem L2 PySem.Spec PyProof.Rows
/-- all own tables -/
def tabsOf (mu : Mu) : List (Addr × Str) := mu.filterMap fun m => match m with
  | .tab P q => some (P, q)
  | _ => none
theorem mem_tabs {mu : Mu} {p : Addr × Str} (h : p ∈ tabsOf mu) : ∃ n : Nat, mu[n]? = some (MO.tab p.1 p.2) := by
  obtain ⟨m, hm, e⟩ := List.mem_filterMap.mp h
  cases m with
  | tab P q =>
    cases e
    exact List.mem_iff_getElem?.mp hm
  | _ => cases e
theorem tabs_mem {mu : Mu} {n : Nat} {P : Addr} {q : Str} (h : mu[n]? = some (.tab P q)) : (P, q) ∈ tabsOf mu :=
  List.mem_filterMap.mpr ⟨_, List.mem_of_getElem? h, rfl⟩
theorem MuOk.tabs {K : PySem.W.Frag} {DK : Addr → HO → HO → Prop} {al : AL} {H : Hp} {mu : Mu} (mo : MuOk K DK al H mu) : LamX.Tabs (tabsOf mu) H := fun p hp => by
  obtain ⟨n, hn⟩ := mem_tabs hp
  obtain ⟨h1, ps, h2, h3, h4⟩ := mo.ok n _ hn
  refine ⟨ps, h2, h3, fun pos cv hc => ?_⟩
  obtain ⟨c, e1, e2, _⟩ := h4 pos cv hc
  exact ⟨c, e1, e2⟩
theorem MuOk.one_tab {K : PySem.W.Frag} {DK : Addr → HO → HO → Prop} {al : AL} {H : Hp} {mu : Mu} (mo : MuOk K DK al H mu) {n : Nat} {P : Addr} {q : Str} (h : mu[n]? = some (.tab P q)) : ∀ p ∈ tabsOf mu, p.1 = P → p.2 = q := fun p hp e => by
  obtain ⟨m, hm⟩ := mem_tabs hp
  have h1 := (mo.ok m _ hm).1
  have h2 := (mo.ok n _ h).1
  rw [e] at h1
  have := mo.nd m n P h1 h2
  subst this
  rw [h] at hm
  cases hm
  rfl
/-- behind the making of a lambda all stands but the tables, which have grown -/
theorem MuOk.grown {K : PySem.W.Frag} {DK : Addr → HO → HO → Prop} {al : AL} {H H1 : Hp} {mu : Mu} (hDK : ∀ l o u, DK l o u → Ntb o ∧ Nxt o) (mo : MuOk K DK al H mu) (e : LamX.ExtN H H1) (T : LamX.Tabs (tabsOf mu) H1) :
    Ext al H al H1 ∧ MuOk K DK al H1 mu := by
  have x : Ext al H al H1 := ⟨⟨[], by simp, by simp⟩, fun b o h _ w => e b o h w⟩
  refine ⟨x, mo.len, mo.nd, fun k m hm => ?_, mo.hd⟩
  have z := mo.ok k m hm
  have nt : ∀ {b : Addr} {u : HO}, H b = some u → Ntb u → H1 b = some u := fun h w => e _ _ h w
  cases m with
  | lst ds =>
    obtain ⟨a, xs, h1, h2, h3⟩ := z
    exact ⟨a, xs, h1, nt h2 (fun _ z => by cases z), Reps.ext x _ _ h3⟩
  | dK ds =>
    obtain ⟨a, xs, h1, h2, h3⟩ := z
    exact ⟨a, xs, h1, nt h2 (fun _ z => by cases z), RepK.ext x _ _ h3⟩
  | dT ds =>
    obtain ⟨a, xs, h1, h2, h3⟩ := z
    exact ⟨a, xs, h1, nt h2 (fun _ z => by cases z), RepT.ext x _ _ h3⟩
  | deck j =>
    obtain ⟨h0, a, l, o, u, h1, h2, h3, h4, h5⟩ := z
    obtain ⟨a', u', g1, g2, g3, g4⟩ := mo.ok j _ (mo.hd k j hm)
    rw [h2] at g1
    cases g1
    rw [h4] at g2
    cases g2
    exact ⟨h0, a, l, o, u, h1, h2, nt h3 (hDK _ _ _ h5).1, nt h4 g3, h5⟩
  | hid =>
    obtain ⟨a, o, h1, h2, h3, h4⟩ := z
    exact ⟨a, o, h1, nt h2 h3, h3, h4⟩
  | tab P q =>
    obtain ⟨h1, ps0, h2, _, _⟩ := z
    obtain ⟨ps, t1, t2, t3⟩ := T _ (tabs_mem hm)
    refine ⟨h1, ps, t1, t2, fun pos cv hc => ?_⟩
    obtain ⟨c, e1, e2⟩ := t3 pos cv hc
    refine ⟨c, e1, e2, fun hmem => ?_⟩
    obtain ⟨i, hi⟩ := List.mem_iff_getElem?.mp hmem
    have hlt : i < mu.length := by
      rw [← mo.len]
      exact (List.getElem?_eq_some_iff.mp hi).1
    have zi := mo.ok i mu[i] (List.getElem?_eq_getElem hlt)
    have bad : ∀ {u : HO}, H c = some u → Ntb u → Nxt u → False := fun {u} h w w2 => by
      have y := nt h w
      rw [e2] at y
      exact w2 _ (Option.some.inj y).symm
    cases ei : mu[i] with
    | lst ds =>
      rw [ei] at zi
      obtain ⟨a, xs, g1, g2, _⟩ := zi
      rw [hi] at g1
      cases g1
      exact bad g2 (fun _ z => by cases z) (fun _ z => by cases z)
    | dK ds =>
      rw [ei] at zi
      obtain ⟨a, xs, g1, g2, _⟩ := zi
      rw [hi] at g1
      cases g1
      exact bad g2 (fun _ z => by cases z) (fun _ z => by cases z)
    | dT ds =>
      rw [ei] at zi
      obtain ⟨a, xs, g1, g2, _⟩ := zi
      rw [hi] at g1
      cases g1
      exact bad g2 (fun _ z => by cases z) (fun _ z => by cases z)
    | deck j =>
      rw [ei] at zi
      obtain ⟨_, a, l, o, u, g1, _, g3, _, g5⟩ := zi
      rw [hi] at g1
      cases g1
      exact bad g3 (hDK _ _ _ g5).1 (hDK _ _ _ g5).2
    | hid =>
      rw [ei] at zi
      obtain ⟨a, o, g1, g2, g3, g4⟩ := zi
      rw [hi] at g1
      cases g1
      exact bad g2 g3 g4
    | tab P2 q2 =>
      rw [ei] at zi
      obtain ⟨g1, _⟩ := zi
      rw [hi] at g1
      cases g1
      obtain ⟨ps2, s1, _⟩ := T _ (tabs_mem (by rw [List.getElem?_eq_getElem hlt, ei]))
      rw [e2] at s1
      exact LamX.codeO_ne _ (Option.some.inj s1)
    | fact φ =>
      rw [ei] at zi
      have g1 := zi.1
      rw [hi] at g1
      cases g1
    | dead =>
      rw [ei] at zi
      have g1 : al[i]? = some none := zi
      rw [hi] at g1
      cases g1
  | fact φ => exact ⟨z.1, z.2.2.1 _ _ _ _ x z.2.1, z.2.2⟩
  | dead => exact z
/-- f(x) if named else f(p=x), captured: named in slot i, x in slot j -/
theorem lam_body {X : Cx} {A : Around} {outer : List Env} {s : Shared} {H : Hp} {E : XK} {scope : Scope} {f c' : Addr} {k : Kit} {C fv : Addr} {fd : FuncData} {pre : D → Prop} {g : D → Option D} {kk i j : Nat} {nm th vx p1 : Str} {q1 q2 q3 q4 q5 q6 q7 q8 q9 : Pos}
    (F : FnOk X.prog X.w X.K X.mg X.base (L2.CX X.prog X.w) kk fv fd [p1] (spX k C pre g)) (hr : Room kk (A.deeper (LamX.lamEnv X scope s.heap.objs.size f c'))) (hm : X.mg vx = some (.ref fv)) (hk : PySem.W.keepIn X.K (.ref fv) = true) (hb : Binds X.K fd [p1] [])
    (hbK : ∀ (s : Shared) (u : Value), BindsTo s fd ⟨[], [(p1, u)]⟩ [(p1, u)])
    (hi : X.N[i]? = some nm) (hj : X.N[j]? = some th) (h1 : scope.names.lookup nm = some .free) (h2 : scope.names.lookup th = some .free) (h3 : scope.names.lookup vx = some .globalImplicit)
    (d1 : (nm == ("__debug__" : Str)) = false := by decide) (d2 : (nm == ("__classdict__" : Str)) = false := by decide) (d3 : (th == ("__debug__" : Str)) = false := by decide) (d4 : (th == ("__classdict__" : Str)) = false := by decide) (d5 : (vx == ("__debug__" : Str)) = false := by decide) :
    PE (LamX.lamCx X A outer s H E scope f c') (.IfExp (.Name nm q1) (.Call (.Name vx q2) [.Name th q3] [] q4) (.Call (.Name vx q5) [] [⟨some p1, .Name th q6, q7⟩] q8) q9)
      (fun σ H Q => ∃ b v, σ[i]? = some (some (.bl b)) ∧ σ[j]? = some (some v) ∧ spX k C pre g [v] H Q E) := by
  have gl : Gl (LamX.lamCx X A outer s H E scope f c') vx := h3
  have tk : Takes (LamX.lamCx X A outer s H E scope f c') (fun cls d _ H => E cls d H) := takes_of rfl rfl rfl rfl
  have pn : PE (LamX.lamCx X A outer s H E scope f c') (.Name nm q1) (tVar i) := pe_var hi (.inr (.inr h1)) d1 d2
  have pt1 : PE (LamX.lamCx X A outer s H E scope f c') (.Name th q3) (tVar j) := pe_var hj (.inr (.inr h2)) d3 d4
  have pt2 : PE (LamX.lamCx X A outer s H E scope f c') (.Name th q6) (tVar j) := pe_var hj (.inr (.inr h2)) d3 d4
  refine pe_imp (pe_ifExp (pt_val pn) (pe_callS (E := fun _ => E) F hr gl hm hk hb (fun σ => passAt tk σ) (pa_cons pt1 pa_nil) d5) (pe_callSK (E := fun _ => E) F hr gl hm hk hbK (fun σ => passAt tk σ) pt2 d5)) fun σ H Q q => ?_
  obtain ⟨b, v, e1, e2, e3⟩ := q
  refine ⟨.bl b, e1, b, rfl, ?_⟩
  cases b with
  | true => exact ⟨v, e2, e3⟩
  | false => exact ⟨v, e2, e3⟩
def toldD (g : D → Option D) (w1 w2 : Str) (d : D) : D := match g d with
  | some w => .tuple [.str w1, w]
  | none => .tuple [.str w2, .bool true, d]
def sTold (P : Addr) (q : Str) (i j : Nat) (pre : D → Prop) (g : D → Option D) (w1 w2 : Str) : SemE := fun en mu Q => ∃ b d, ∃ n : Nat, en[i]? = some (some (.dat (.bool b))) ∧ en[j]? = some (some (.dat d)) ∧ pre d ∧ mu[n]? = some (MO.tab P q) ∧ Q (.dat (toldD g w1 w2 d)) mu
section
variable {X : Cx} {k : Kit} {P : Program} {w : World} {mg : Str → Option Value} {base : Heap} {r : Nat}
theorem d_told {kit : Kit} {x a en q w1 w2 : Str} {st : Stmt} {g c PT C : Addr} {fd : FuncData} {kk i j : Nat} {params : Arguments} {body : Expr} {scope : Scope} {pre : D → Prop} {gg : D → Option D} {p lpos pos : Pos}
    (I0 : In k X P w mg base r) (hkit : kit.K = k.K) (hkit2 : kit.DK = k.DK) (hDK : ∀ l o u, k.DK l o u → Ntb o ∧ Ntb u ∧ Nxt o) (gl : Gl X x) (hm : mg x = some (.ref g)) (Ft : Fun k.K x x st g fd) (hb : Binds k.K fd [a] []) (St : FnScope [a, en] [a] (defScope st)) (hva : Vis (defScope st) a)
    (hG : ∀ cdv, LamX.GivesTo X [a, en] x (defScope st) g cdv (defBody st) a q (TToldB C w1 w2)) (hq : X.env.qual ++ "<lambda>" = q)
    (TB : LamX.TabB base mg c PT) (hcode : X.env.code = .ref c) (hr : kk + 2 ≤ r) (L : LamX.LamS X.env.scope scope) (hdef : defaultsOf params X.env = ([], []))
    (hbind : ∀ (q : Str) (cl : List (Str × Addr)) (pm cv ctv : Value), bindArgs (PySem.W.kla_fn "<lambda>" q params body scope cl pm cv ctv) ⟨[], []⟩ = pure [])
    (hbody : ∀ (A : Around) (outer : List Env) (s : Shared) (H : Hp) (E : XK) (f c' : Addr), Room kk (A.deeper (LamX.lamEnv X scope s.heap.objs.size f c')) → PE (LamX.lamCx X A outer s H E scope f c') body (fun σ H Q => ∃ b v, σ[i]? = some (some (.bl b)) ∧ σ[j]? = some (some v) ∧ spX kit C pre gg [v] H Q E))
    (hdb : (x == ("__debug__" : Str)) = false := by decide) (hd : (a == ("__debug__" : Str)) = false := by decide) (hcd : (a == ("__classdict__" : Str)) = false := by decide) :
    PE X (.Call (.Name x p) [.Lambda params body scope lpos] [] pos) (tD k (sTold PT q i j pre gg w1 w2)) := by
  obtain ⟨rfl, rfl, hK, rfl, rfl, rm, gd, _⟩ := I0
  subst hq
  obtain ⟨oc, od, kV, doc, pm, an, cdv, ct, osl, rfl, lk, hcdv⟩ := Ft.ex
  refine ⟨fun pins s σ H Q I h => ?_⟩
  obtain ⟨al, en', mu, R, st', ⟨b, d, n, e1, e2, e3, e4, e5⟩, kk'⟩ := h
  have mo := st'.mu
  refine (LamX.pe_lamcall (T := tabsOf mu) (t := fun E σ H Q => ∃ b v, σ[i]? = some (some (.bl b)) ∧ σ[j]? = some (some v) ∧ spX kit C pre gg [v] H Q E) gl hm (by rw [hK]; exact Ft.kp) (by rw [hK]; exact lk) (by rw [hK]; exact hcdv) (by rw [hK]; exact hb) St rfl hva (hG cdv) TB hcode (tabs_mem e4) (mo.one_tab e4) (rm.mono hr) L hdef hbind hbody hdb hd hcd).run pins s σ H Q I ?_
  refine ⟨mo.tabs, fun H1 eN T1 => ?_⟩
  obtain ⟨x1, mo1⟩ := mo.grown (fun l o u h => ⟨(hDK l o u h).1, (hDK l o u h).2.2⟩) eN T1
  obtain ⟨vb, s1, r1⟩ := st'.sl i _ e1
  obtain ⟨v, s2, r2⟩ := st'.sl j _ e2
  have r1' : vb = .bl b := r1
  subst r1'
  have rd : Rep k.K al H1 d v := Rep.ext x1 d v r2
  refine ⟨b, v, s1, s2, al, d, v, mu, rfl, by rw [hkit]; exact rd, by rw [hkit, hkit2]; exact mo1, e3, fun w' hw v' H' al' ex mo2 rw' => ⟨by show 2 ≤ sizeLine; decide, fun p hp => ?_⟩, fun hn dx H' al' ex mo2 hdx => ?_⟩
  · rw [hkit] at rw' mo2
    rw [hkit2] at mo2
    have st2 := (st'.ext x1 mo1).ext ex mo2
    obtain ⟨ef, mo3⟩ := mo2.newF (o := .tup [.str w1, v']) hp
    refine kk' _ _ al' (.dat (toldD gg w1 w2 d)) mu ((x1.trans ex).trans ef) (st2.ext ef mo3) ?_ e5
    show Rep k.K al' _ (toldD gg w1 w2 d) _
    unfold toldD
    rw [hw]
    exact ⟨p, [.str w1, v'], rfl, .inl ⟨.inl upd_same, mo2.free hp⟩, _, _, rfl, rfl, _, _, rfl, Rep.ext ef _ _ rw', rfl⟩
  · rw [hkit] at mo2
    rw [hkit2] at mo2
    refine ⟨rfl, dx, v, rfl, upd_same, fun p hp => ?_⟩
    have st2 := (st'.ext x1 mo1).ext ex mo2
    obtain ⟨ed, mo3⟩ := mo2.newF (o := .xd [(("thing" : Str), v)]) hdx
    have st3 := st2.ext ed mo3
    obtain ⟨ef, mo4⟩ := mo3.newF (o := .tup [.str w2, .bl true, v]) hp
    refine kk' _ _ al' (.dat (toldD gg w1 w2 d)) mu (((x1.trans ex).trans ed).trans ef) (st3.ext ef mo4) ?_ e5
    show Rep k.K al' _ (toldD gg w1 w2 d) _
    unfold toldD
    rw [hn]
    exact ⟨p, [.str w2, .bl true, v], rfl, .inl ⟨.inl upd_same, mo3.free hp⟩, _, _, rfl, rfl, _, _, rfl, rfl, _, _, rfl, Rep.ext ef _ _ (Rep.ext ed _ _ (Rep.ext ex _ _ rd)), rfl⟩
variable {x : Str} {st : Stmt} {f : Addr} {fd : FuncData} {N ps : List Str} {d : DSp} {ws : SemS} {cdv : Value}
theorem fnD_rawC (F : Fun k.K x x st f fd) (S : FnScope N ps (defScope st)) (len : ∀ bs mu R, d bs mu R → bs.length = ps.length)
    (hc : fd.code = cdv) (hbody : ∀ (A : Around) (outer : List Env) (s : Shared) (H : Hp) (E : XK) (vs : List V) (Q : VK), In k (bodyCx k P w mg base N x st f cdv A outer s H E) P w mg base r → liftSp k d vs H Q E0 →
      ∃ t, PSs (bodyCx k P w mg base N x st f cdv A outer s H E) (defBody st) t ∧ t { nx := fun _ H' => Q .non H', rt := Q } (L2.start N vs) H) : FnD k P w mg base (r + 1) f fd ps d := by
  obtain ⟨oc, od, kV, doc, pm, an, cdv', ct, osl, rfl, lk, hcd⟩ := F.ex
  have hc' : cdv = cdv' := hc.symm
  subst hc'
  refine ⟨len, fun A outer s H args us vs Q hr hg e0 hb rv q => ?_⟩
  have KX : k.K.In s.heap := e0.mod.kin.keeps fun b o e => (e0.bs b o e).1
  have lim : s.heap.NoLimit := e0.mod.nolimit.keeps fun b o e => (e0.bs b o e).1
  have hl : vs.length = ps.length := liftSp_len len q
  have kinds : ∀ y ∈ ps.zip us, (defScope st).names.lookup y.1 = some .local ∨ ((defScope st).names.lookup y.1 = some .cell ∧ ((cellsFrom (s.heap.objs.size + 1) (defScope st).names []).lookup y.1).isSome = true) := by
    rintro ⟨n, v⟩ hy
    cases S.par n (List.of_mem_zip hy).1 with
    | inl z => exact .inl z
    | inr z => exact .inr ⟨z, PySem.W.cellsFrom_some _ _ _ (.inl z)⟩
  apply codeAny_call_function hr.depth (KX _ _ lk) rfl S.co S.gen rfl (PySem.W.codeRec_of KX hcd) (hb _ _ _ _ ?_)
  apply wpAny_newFunctionEnv_cells S.kind kinds
  intro env he s1 inc
  subst he
  refine ⟨lim.keeps inc.toInCall.keep, codeAny_func ?_⟩
  obtain ⟨t, hX, hq⟩ := hbody A outer s H E0 vs Q ⟨rfl, rfl, rfl, rfl, rfl, hr.deeper _, hg, rfl⟩ q
  have I : Inv (bodyCx k P w mg base N x st f cdv A outer s H E0) [] (L2.start N vs) H s1 := (inv_start (CX := CX0) (E := E0) S hr.hd e0 hl rv inc).wish _
  refine wpAny_mono (hX.run [] s1 (L2.start N vs) H _ I hq) (fun fl s' hs => ?_) fun e s' hs => hs.elim
  cases fl
  case ret u =>
    obtain ⟨v, σ', H', J, r1, q1⟩ := hs
    exact ⟨v, H', J.os, J.bare, J.base, J.hok, r1, q1⟩
  case next =>
    obtain ⟨σ', H', J, q1⟩ := hs
    exact ⟨.non, H', J.os, J.bare, J.base, J.hok, rfl, q1⟩
  case brk => exact hs.elim fun _ h => h.elim fun _ h => h.2.elim
  case cont => exact hs.elim fun _ h => h.elim fun _ h => h.2.elim
/-- a def whose code object is known to stand at c -/
theorem fnIn_ofC {c : Addr} (F : Fn0 k mg x st ps) (hc : ∀ f fd, Fun k.K x x st f fd → mg x = some (.ref f) → fd.code = .ref c) (S : FnScope N ps (defScope st)) (len : ∀ bs mu R, d bs mu R → bs.length = ps.length)
    (h : ∃ ws : SemS, (∀ (f : Addr) (A : Around) (outer : List Env) (s : Shared) (H : Hp) (E : XK), In k (bodyCx k P w mg base N x st f (.ref c) A outer s H E) P w mg base r → PSs (bodyCx k P w mg base N x st f (.ref c) A outer s H E) (defBody st) (tDS k ws)) ∧
      ∀ bs mu R, d bs mu R → ws (fnEnds mu.length R) (startE N.length bs) mu) : FnIn k P w mg base (r + 1) x st ps d := by
  obtain ⟨f, fd, h1, h2, h3⟩ := F.ex
  obtain ⟨ws, hb, hw⟩ := h
  refine ⟨f, fd, h1, h2, h3, fnD_rawC h1 S len (hc f fd h1 h2) fun A outer s H E vs Q C q => ?_⟩
  obtain ⟨al, bs, mu, R, rb, mo, hd, kk⟩ := q
  exact ⟨_, hb f A outer s H E C, ⟨al, H, al, _, mu, _, Ext.refl, start_st rb mo, hw bs mu R hd, fits_end mo kk⟩⟩
end
end DL

set_option Elab.async false
set_option linter.all false
set_option maxRecDepth 100000
set_option maxHeartbeats 4000000
/-! list(range(n)) -/
namespace DL
open PySem L2 PySem.Spec PyProof.Rows
def rng0D (n : Int) : List D := (List.range n.toNat).map fun (i : Nat) => D.int (i : Int)
def kLR (Q : B → Mu → Prop) : B → Mu → Prop := fun b mu => match b with
  | .dat (.int n) => (0 ≤ n ∧ n ≤ 1000) ∧ Q (.ref mu.length) (mu ++ [.lst (rng0D n)])
  | _ => False
def sLR (m : SemE) : SemE := fun en mu Q => m en mu (kLR Q)
theorem sLR_k (m : SemE) (en : En) (mu : Mu) (Q : B → Mu → Prop) : sLR m en mu Q = m en mu (kLR Q) := propext Iff.rfl
theorem kLR_e (Q : B → Mu → Prop) (n : Int) (mu : Mu) : kLR Q (.dat (.int n)) mu = ((0 ≤ n ∧ n ≤ 1000) ∧ Q (.ref mu.length) (mu ++ [.lst (rng0D n)])) := propext Iff.rfl
theorem reps_rng {K : PySem.W.Frag} {al : AL} {H : Hp} : ∀ l : List Nat, Reps K al H (l.map fun (i : Nat) => D.int (i : Int)) (l.map fun i => V.int (0 + (i : Nat)))
  | [] => rfl
  | i :: l => ⟨_, _, rfl, by show V.int (0 + (i : Nat)) = V.int (i : Int); rw [Int.zero_add], reps_rng l⟩
theorem d_listRng {X : Cx} {k : Kit} {a : Expr} {m : SemE} {p p2 pos pos2 : Pos} (hc : X.calm = true) (hg : Gl X "list") (hm : X.mg "list" = none) (hg2 : Gl X "range") (hm2 : X.mg "range" = none) (ha : PE X a (tD k m))
    (na : starEach [a] X.env = (false, eval a X.env) :: starEach [] X.env := by rfl) (nb : starEach [.Call (.Name "range" p2) [a] [] pos2] X.env = (false, eval (.Call (.Name "range" p2) [a] [] pos2) X.env) :: starEach [] X.env := by rfl) :
    PE X (.Call (.Name "list" p) [.Call (.Name "range" p2) [a] [] pos2] [] pos) (tD k (sLR m)) :=
  pe_imp (pe_listRg hc hg hm (prg_1 hg2 hm2 ha na) nb) fun σ H Q' q => by
    obtain ⟨al, en, mu, Q, st, q, kk⟩ := q
    refine ⟨al, en, mu, _, st, q, fun v H1 al1 b mu1 e1 st1 rb q1 => ?_⟩
    unfold kLR at q1
    split at q1
    · rename_i n
      have rv : v = .int n := rb
      obtain ⟨⟨h0, h1⟩, q1⟩ := q1
      refine ⟨n, rv, RgOk.of_le (by omega) (by omega) (by omega) (by omega), fun p hp => ?_⟩
      have rr : Reps k.K al1 H1 (rng0D n) (rgV 0 n) := by
        have e : (n - 0).toNat = n.toNat := by omega
        show Reps k.K al1 H1 ((List.range n.toNat).map _) ((List.range (n - 0).toNat).map _)
        rw [e]
        exact reps_rng _
      obtain ⟨e2, m2⟩ := st1.mu.newO hp rr
      exact kk _ _ _ (.ref mu1.length) _ (e1.trans e2) (st1.ext e2 m2) ⟨p, by rw [← st1.mu.len]; simp, rfl⟩ q1
    · exact q1.elim
end DL

set_option Elab.async false
set_option linter.all false
set_option maxRecDepth 100000
set_option maxHeartbeats 4000000
/-! repr of any data -/
namespace DL
open PySem L2 PySem.Spec PyProof.Rows
def wReprB : SemB := fun bs mu Q => match bs with
  | [.dat d] => ReprOk d ∧ Q (.dat (.str (shown d))) mu
  | _ => False
theorem wReprB_k (d : D) (mu : Mu) (Q : B → Mu → Prop) : wReprB [.dat d] mu Q = (ReprOk d ∧ Q (.dat (.str (shown d))) mu) := propext Iff.rfl
def rReprB (K : PySem.W.Frag) : List V → Hp → VK → Prop := fun vs H Q => ∃ al d v, vs = [v] ∧ Rep K al H d v ∧ ReprOk d ∧ Q (.str (shown d)) H
section
variable {X : Cx} {k : Kit} {P : Program} {w : World} {mg : Str → Option Value} {base : Heap} {r : Nat}
theorem call_reprB (C : In k X P w mg base r) (hg : k.gds = true) : CallR X (.builtin "repr") (rReprB X.K) := by
  intro pins s σ H xs us Q I rv h
  obtain ⟨al, d, v, rfl, hd, ok, q⟩ := h
  have viaA : ∀ a, v = .ref a → wpAny (model X.prog X.w) X.A (call (.builtin "repr") us) (EP X pins σ Q) X.xe s := fun a e => by
    subst e
    exact call_reprA C hg pins s σ H _ us Q I rv ⟨al, a, d, rfl, hd, ok, q⟩
  cases rv with
  | cons ru rn =>
    rename_i u us'
    cases rn
    cases d with
    | none =>
      have e : v = .non := hd
      subst e
      cases (show u = .none from ru)
      exact PySem.P.repr_of_none ⟨.str (shown .none), H, I.tok _, ⟨_, rfl⟩, q⟩
    | bool b =>
      have e : v = .bl b := hd
      subst e
      cases (show u = .bool b from ru)
      refine PySem.P.repr_of_bool ⟨.str (shown (.bool b)), H, I.tok _, ⟨s.toks, ?_⟩, q⟩
      cases b <;> rfl
    | int i =>
      have e : v = .int i := hd
      subst e
      obtain ⟨t, rfl⟩ := ru
      have hs : i.natAbs.log2 < 1920 := by
        have z := ok.2.1
        simpa [py, PyData.showable] using z
      exact PySem.P.repr_of_int hs ⟨.str (shown (.int i)), H, I.tok _, ⟨_, rfl⟩, q⟩
    | str x =>
      have e : v = .str x := hd
      subst e
      obtain ⟨t, rfl⟩ := ru
      exact PySem.P.repr_of_str ⟨.str (shown (.str x)), H, I.tok _, ⟨_, rfl⟩, q⟩ ok.2.2.2
    | list ds =>
      obtain ⟨a, xs, h, _⟩ := hd
      exact viaA a h
    | tuple ds =>
      obtain ⟨a, xs, h, _⟩ := hd
      exact viaA a h
    | dK ds =>
      obtain ⟨a, xs, h, _⟩ := hd
      exact viaA a h
    | dT ds => cases ok.1
    | ins c fs => cases ok.1
    | fn f => cases ok.1
theorem c_reprB (C : In k X P w mg base r) (hg : k.gds = true) : CallD k X (.builtin "repr") wReprB := by
  refine ⟨_, call_reprB C hg, fun al H vs bs mu Q Q' m rb q kk => ?_⟩
  unfold wReprB at q
  split at q
  · rename_i d
    obtain ⟨v, rfl, hv⟩ := reps1 rb
    obtain ⟨q2, q3⟩ := q
    have fin := kk (.str (shown d)) H al (.dat (.str (shown d))) mu Ext.refl m rfl q3
    rw [C.hK]
    exact ⟨al, d, v, rfl, hv, q2, fin⟩
  · exact q.elim
end
end DL

set_option Elab.async false
set_option linter.all false
set_option maxRecDepth 100000
set_option maxHeartbeats 4000000
/-! list + list, either one data or own -/
namespace DL
open PySem L2 PySem.Spec PyProof.Rows
def wAddLL : SemO2 := fun b c mu Q => ∃ ds es, lstOf mu b = some ds ∧ lstOf mu c = some es ∧ ds.length + es.length ≤ sizeLine ∧ Q (.ref mu.length) (mu ++ [.lst (ds ++ es)])
theorem wAddLL_ln (ds es : List D) (mu : Mu) (Q : B → Mu → Prop) : wAddLL (.dat (.list ds)) (.ref mu.length) (mu ++ [.lst es]) Q = (ds.length + es.length ≤ sizeLine ∧ Q (.ref (mu ++ [MO.lst es]).length) (mu ++ [.lst es] ++ [.lst (ds ++ es)])) := by
  apply propext
  constructor
  · rintro ⟨ds', es', h1, h2, h3, h4⟩
    cases h1
    rw [lstOf_new] at h2
    cases h2
    exact ⟨h3, h4⟩
  · exact fun h => ⟨ds, es, rfl, lstOf_new _ _, h.1, h.2⟩
def rCatS (K : PySem.W.Frag) : R2 := fun x y H Q => ∃ l b xs zs, x = .ref l ∧ y = .ref b ∧ SqL K H l xs ∧ SqL K H b zs ∧ xs.length + zs.length ≤ sizeLine ∧ ∀ p, H p = none → Q (.ref p) (upd H p (.lst (xs ++ zs)))
theorem op_catS {X : Cx} : OpR X (binaryOp .Add) (rCatS X.K) := by
  intro pins s σ H x y v u Q I rx ry h
  obtain ⟨l, b, xs, zs, rfl, rfl, hH, hB, hz, q⟩ := h
  cases rx
  cases ry
  obtain ⟨its, r, ⟨⟨cls, dd, data, sl⟩, n, ho, hc, hdd, hd⟩, z⟩ := I.list hH
  obtain ⟨its2, r2, ⟨⟨cls2, dd2, data2, sl2⟩, n2, ho2, hc2, hdd2, hd2⟩, z2⟩ := I.list hB
  simp only at hc hd hc2 hd2 hdd hdd2
  subst hc hd hc2 hd2 hdd hdd2
  have e : its.toArray ++ its2.toArray = (its ++ its2).toArray := by simp
  have hl := r.length
  have hl2 := r2.length
  refine concat_meets ⟨_, ho, rfl⟩ ⟨_, ho2, rfl⟩ noFill_list_add seq_list_add PySem.F.slot_list_add PySem.F.entry_list_add (PySem.F.args_list_add_2 _ _) (list_addW l b its.toArray its2.toArray n n2 none none sl sl2 (by simp; omega)) ⟨ho, ho2, ?_⟩
  rw [e]
  exact ⟨.ref _, _, I.lnew (t' := s.toks) (r.append r2) (by rw [List.length_append]; omega), rfl, q _ I.fresh⟩
theorem o_addLL {X : Cx} {k : Kit} (hK : X.K = k.K) : OpD k X (binaryOp .Add) wAddLL := by
  refine ⟨_, op_catS, fun al H x y b c mu Q Q' m rb rc q kk => ?_⟩
  obtain ⟨ds, es, hj, hi, hz, q⟩ := q
  obtain ⟨a, xs, rfl, g2, g3⟩ := lstOf_sq m rb hj
  obtain ⟨c, ys, rfl, f2, f3⟩ := lstOf_sq m rc hi
  refine ⟨a, c, xs, ys, rfl, rfl, by rw [hK]; exact g2, by rw [hK]; exact f2, by rw [g3.length, f3.length]; exact hz, fun p hp => ?_⟩
  obtain ⟨e2, m2, r2⟩ := new_own m hp (g3.app f3)
  exact kk _ _ _ (.ref mu.length) _ e2 m2 r2 q
end DL

set_option Elab.async false
set_option linter.all false
set_option maxRecDepth 100000
set_option maxHeartbeats 4000000
/-! the end with tables: small things -/
namespace DL
open PySem L2 PySem.Spec PyProof.Rows
theorem rec_of {q : Program} {x : Str} (h : ((recsOf q).any fun d => decide (d.name = x)) = true) : ∃ d ∈ recsOf q, d.name = x := by
  obtain ⟨d, h1, h2⟩ := List.any_eq_true.mp h
  exact ⟨d, h1, of_decide_eq_true h2⟩
theorem deckDK_nt {c m n : Str} : ∀ l o u, deckDK c m n l o u → Ntb o ∧ Ntb u ∧ Nxt o := fun l o u h => by
  obtain ⟨x, y, cells, rfl, rfl, _⟩ := h
  exact ⟨fun _ z => (nomatch z), fun _ z => (nomatch z), fun _ z => (nomatch z)⟩
theorem exm_self {K : PySem.W.Frag} {S : Addr} (h1 : PySem.W.subIn K (.ref S) (.type "BaseException") = some true) (h2 : PySem.W.isClsIn K S = true) (h3 : PySem.W.typeIn K (.ref S) = some (.type "type")) (h4 : PySem.W.subIn K (.ref S) (.ref S) = some true) :
    PySem.W.exmOne K (.ref S) (.ref S) = some true := by
  have e1 : (PySem.W.subIn K (.ref S) (.type "BaseException") == some true) = true := by rw [h1] <;> rfl
  have e2 : ((PySem.W.clsIn K S).isSome && PySem.W.typeIn K (.ref S) == some (.type "type")) = true := by
    have h2' : (PySem.W.clsIn K S).isSome = true := h2
    rw [h2', h3] <;> rfl
  show (if (PySem.W.subIn K (.ref S) (.type "BaseException") == some true) = true then (if ((PySem.W.clsIn K S).isSome && PySem.W.typeIn K (.ref S) == some (.type "type")) = true then PySem.W.subIn K (.ref S) (.ref S) else none) else none) = some true
  rw [if_pos e1, if_pos e2]
  exact h4
section
open PySem.W
variable {K : PySem.W.Frag} {C D N N' : Addr} {nm qn nm' qn' : Str} {bs bs' : List Value} {sn sn' : List Str} {sub sub' : List Value} {ab ab' : Bool} {col col' : Option Bool} {dd dd' : Option Addr} {k0 k1 k2 k3 k5 l0 l1 l2 l3 l5 : Option Value} {hd : Bool}
theorem excOver_of (hC : K.lookup C = some (excClassObj nm qn C N bs (.ref D :: ESX.exTail) true sn sub ab col dd k0 k1 k2 k3 k5 "Exception.__new__")) : excOver K C ESX.exTail = true := by
  unfold excOver clsIn
  rw [hC]
  show ((C == C) && excTail ESX.exTail (.ref D :: ESX.exTail)) = true
  simp [excTail, ESX.exTail]
theorem sup_of (hC : K.lookup C = some (excClassObj nm qn C N bs (.ref D :: ESX.exTail) true sn sub ab col dd k0 k1 k2 k3 k5 "Exception.__new__"))
    (hD : K.lookup D = some (excClassObj nm' qn' D N' bs' ESX.exTail hd sn' sub' ab' col' dd' l0 l1 l2 l3 l5 "Exception.__new__")) (hf : findIn K (.ref D) "__init__" = some (some (.builtin "Exception.__init__"))) : ks_superIn K C C "__init__" = some (some (.builtin "Exception.__init__")) := by
  unfold ks_superIn clsIn
  rw [hC]
  unfold findIn at hf
  dsimp only at hf
  rw [hD] at hf
  have e : ((.ref C :: .ref D :: ESX.exTail : List Value).dropWhile (· != .ref C)).drop 1 = .ref D :: ESX.exTail := by simp [List.dropWhile]
  show alongIn K "__init__" (((.ref C :: .ref D :: ESX.exTail : List Value).dropWhile (· != .ref C)).drop 1) = _
  rw [e]
  exact hf
theorem kit_of (h2 : isClsIn K D = true) (h3 : typeIn K (.ref D) = some (.type "type")) (h4 : subIn K (.ref C) (.ref D) = some true) : kitOne K (.ref C) (.ref D) = some true := by
  unfold kitOne
  by_cases c : (Value.ref C == Value.ref D) = true
  · rw [if_pos c]
  · rw [if_neg c]
    have e2 : ((clsIn K D).isSome && typeIn K (.ref D) == some (.type "type")) = true := by
      have h2' : (clsIn K D).isSome = true := h2
      rw [h2', h3] <;> rfl
    show (if ((clsIn K D).isSome && typeIn K (.ref D) == some (.type "type")) = true then subIn K (.ref C) (.ref D) else none) = some true
    rw [if_pos e2]
    exact h4
end
end DL

set_option Elab.async false
set_option linter.all false
set_option maxRecDepth 100000
set_option maxHeartbeats 4000000
namespace My
open PySem L2 DL
/-! bounds -/
def Bd (k : Nat) (i : Int) : Prop := i.natAbs < 2 ^ k
theorem Bd.mul {a b : Nat} {i j : Int} (h : Bd a i) (h' : Bd b j) : Bd (a + b) (i * j) := wide_lt h h'
theorem Bd.mono {a b : Nat} {i : Int} (h : Bd a i) (hab : a ≤ b) : Bd b i := Nat.lt_of_lt_of_le h (Nat.pow_le_pow_right (by decide) hab)
theorem Bd.neg {a : Nat} {i : Int} (h : Bd a i) : Bd a (-i) := by
  unfold Bd at *
  rw [Int.natAbs_neg]
  exact h
theorem Bd.add {a : Nat} {i j : Int} (h : Bd a i) (h' : Bd a j) : Bd (a + 1) (i + j) := by
  unfold Bd at *
  rw [Nat.pow_succ]
  omega
theorem Bd.sub {a : Nat} {i j : Int} (h : Bd a i) (h' : Bd a j) : Bd (a + 1) (i - j) := by
  unfold Bd at *
  rw [Nat.pow_succ]
  omega
theorem Bd.le {a : Nat} {i j : Int} (h : Bd a i) (h' : j.natAbs ≤ i.natAbs) : Bd a j := Nat.lt_of_le_of_lt h' h
theorem Bd.ok {a b : Nat} {i j : Int} (h : Bd a i) (h' : Bd b j) (h0 : 0 < a := by decide) (h1 : 0 < b := by decide) (h2 : a + b ≤ 1000000 := by decide) : IntMulOk i j := (wide_mul h h' h0 h1 h2).ok
theorem Bd.log {a : Nat} {i : Int} (h : Bd a i) (h0 : 0 < a := by decide) (h9 : a ≤ 9000 := by decide) : i.natAbs.log2 < 9000 := Nat.lt_of_lt_of_le (PySem.Flt.log2_lt_of h0 h) h9
theorem Bd.small {i : Int} (h : i.natAbs < 18446744073709551616) : Bd 64 i := h
/-! fractions -/
abbrev fr (n d : Int) : D := .tuple [.int n, .int d]
def IsFr (n d : Int) : Prop := 1 ≤ d ∧ Nat.gcd n.natAbs d.natAbs = 1
def FrOf (p q n d : Int) : Prop := IsFr n d ∧ n * q = p * d
theorem fr_unique {n d n' d' : Int} (h : IsFr n d) (h' : IsFr n' d') (e : n * d' = n' * d) : n = n' ∧ d = d' := by
  have key : ∀ {n d n' d' : Int}, IsFr n d → IsFr n' d' → n * d' = n' * d → d.natAbs ∣ d'.natAbs := fun {n d n' d'} h h' e => by
    have e2 : n.natAbs * d'.natAbs = n'.natAbs * d.natAbs := by rw [← Int.natAbs_mul, ← Int.natAbs_mul, e]
    have dv : d.natAbs ∣ n.natAbs * d'.natAbs := ⟨n'.natAbs, by rw [e2, Nat.mul_comm]⟩
    have co : Nat.Coprime d.natAbs n.natAbs := by
      unfold Nat.Coprime
      rw [Nat.gcd_comm]
      exact h.2
    exact co.dvd_of_dvd_mul_left dv
  have h1 := key h h' e
  have h2 := key h' h e.symm
  have h3 := Nat.dvd_antisymm h1 h2
  have hd := h.1
  have hd' := h'.1
  have ed : d = d' := by omega
  subst ed
  exact ⟨Int.eq_of_mul_eq_mul_right (by omega) e, rfl⟩
theorem FrOf.unique {p q n d n' d' : Int} (hq : q ≠ 0) (h : FrOf p q n d) (h' : FrOf p q n' d') : n = n' ∧ d = d' := by
  refine fr_unique h.1 h'.1 ?_
  have h1 := h.2
  have h2 := h'.2
  have e : (n * d') * q = (n' * d) * q := by
    have a1 : (n * d') * q = (n * q) * d' := by rw [Int.mul_assoc, Int.mul_comm d' q, ← Int.mul_assoc]
    have a2 : (n' * d) * q = (n' * q) * d := by rw [Int.mul_assoc, Int.mul_comm d q, ← Int.mul_assoc]
    rw [a1, a2, h1, h2, Int.mul_assoc, Int.mul_assoc, Int.mul_comm d d']
  exact Int.eq_of_mul_eq_mul_right hq e
theorem FrOf.le {p q n d : Int} (hq : q ≠ 0) (h : FrOf p q n d) : n.natAbs ≤ p.natAbs ∧ d.natAbs ≤ q.natAbs := by
  have e2 : n.natAbs * q.natAbs = p.natAbs * d.natAbs := by rw [← Int.natAbs_mul, ← Int.natAbs_mul, h.2]
  have co : Nat.Coprime d.natAbs n.natAbs := by
    unfold Nat.Coprime
    rw [Nat.gcd_comm]
    exact h.1.2
  have dv : d.natAbs ∣ q.natAbs := co.dvd_of_dvd_mul_left ⟨p.natAbs, by rw [e2, Nat.mul_comm]⟩
  obtain ⟨t, ht⟩ := dv
  have hd := h.1.1
  have hq' : 0 < q.natAbs := by omega
  have t0 : 0 < t := by
    cases t with
    | zero => rw [ht] at hq'; omega
    | succ t => omega
  have hd0 : 0 < d.natAbs := by omega
  have e3 : n.natAbs * t = p.natAbs := by
    have a : (n.natAbs * t) * d.natAbs = p.natAbs * d.natAbs := by rw [← e2, ht, Nat.mul_assoc, Nat.mul_comm t]
    exact Nat.eq_of_mul_eq_mul_right hd0 a
  constructor
  · rw [← e3]
    exact Nat.le_mul_of_pos_right _ t0
  · rw [ht]
    exact Nat.le_mul_of_pos_right _ t0
theorem frOf_self {n d : Int} (h : IsFr n d) : FrOf n d n d := ⟨h, rfl⟩
theorem isFr_one (n : Int) : IsFr n 1 := ⟨by decide, by simp⟩
/-- what is divided by the greatest common divisor, with the sign -/
theorem low_ok {n d c : Int} (hd : d ≠ 0) (hc : c = if d < 0 then -((Nat.gcd n.natAbs d.natAbs : Nat) : Int) else ((Nat.gcd n.natAbs d.natAbs : Nat) : Int)) : c ≠ 0 ∧ c.natAbs ≤ d.natAbs ∧ FrOf n d (n.fdiv c) (d.fdiv c) := by
  have hg : 0 < Nat.gcd n.natAbs d.natAbs := Nat.gcd_pos_of_pos_right _ (by omega)
  have hle : Nat.gcd n.natAbs d.natAbs ≤ d.natAbs := Nat.le_of_dvd (by omega) (Nat.gcd_dvd_right _ _)
  obtain ⟨x, hx⟩ := Int.ofNat_dvd_left.mpr (Nat.gcd_dvd_left n.natAbs d.natAbs)
  obtain ⟨y, hy⟩ := Int.ofNat_dvd_left.mpr (Nat.gcd_dvd_right n.natAbs d.natAbs)
  generalize hgg : Nat.gcd n.natAbs d.natAbs = g at *
  have main : ∀ (x' y' : Int), n = c * x' → d = c * y' → c ≠ 0 → 1 ≤ y' → c.natAbs = g → FrOf n d (n.fdiv c) (d.fdiv c) := by
    intro x' y' ex ey c0 y1 cg
    have e1 : n.fdiv c = x' := by rw [ex]; exact Int.mul_fdiv_cancel_left _ c0
    have e2 : d.fdiv c = y' := by rw [ey]; exact Int.mul_fdiv_cancel_left _ c0
    rw [e1, e2]
    refine ⟨⟨y1, ?_⟩, ?_⟩
    · have a1 : n.natAbs = g * x'.natAbs := by rw [ex, Int.natAbs_mul, cg]
      have a2 : d.natAbs = g * y'.natAbs := by rw [ey, Int.natAbs_mul, cg]
      rw [a1, a2, Nat.gcd_mul_left] at hgg
      have : g * Nat.gcd x'.natAbs y'.natAbs = g * 1 := by omega
      exact Nat.eq_of_mul_eq_mul_left hg this
    · rw [ex, ey, Int.mul_comm c x', Int.mul_assoc, Int.mul_comm x' (c * y')]
  by_cases h : d < 0
  · rw [if_pos h] at hc
    refine ⟨by omega, by omega, main (-x) (-y) ?_ ?_ (by omega) ?_ (by omega)⟩
    · rw [hc, Int.neg_mul_neg]; exact hx
    · rw [hc, Int.neg_mul_neg]; exact hy
    · have : y < 0 := by
        rcases Int.lt_or_le y 0 with z | z
        · exact z
        · have := Int.mul_nonneg (by omega : (0 : Int) ≤ (g : Int)) z
          omega
      omega
  · rw [if_neg h] at hc
    refine ⟨by omega, by omega, main x y ?_ ?_ (by omega) ?_ (by omega)⟩
    · rw [hc]; exact hx
    · rw [hc]; exact hy
    · rcases Int.lt_or_le y 1 with z | z
      · have : (g : Int) * y ≤ 0 := Int.mul_nonpos_of_nonneg_of_nonpos (by omega) (by omega)
        omega
      · exact z
theorem shp_fr (n d : Int) : Shp (fr n d) := by
  refine ⟨rfl, ?_⟩
  show SeqAt.shaped (.tuple [.int n, .int d]) = true
  unfold SeqAt.shaped
  simp [PyData.canLay0, PyData.canLayAll0, PyData.depth, PyData.depthAll]
theorem shp_int (n : Int) : Shp (.int n) := by
  refine ⟨rfl, ?_⟩
  show SeqAt.shaped (.int n) = true
  unfold SeqAt.shaped
  simp [PyData.canLay0, PyData.depth]
theorem shp_bool (n : Bool) : Shp (.bool n) := by
  refine ⟨rfl, ?_⟩
  show SeqAt.shaped (.bool n) = true
  unfold SeqAt.shaped
  simp [PyData.canLay0, PyData.depth]
theorem shp_nilL : Shp (.list []) := by
  refine ⟨rfl, ?_⟩
  show SeqAt.shaped (.list []) = true
  unfold SeqAt.shaped
  simp [PyData.canLay0, PyData.canLayAll0, PyData.depth, PyData.depthAll]
theorem shp_strS {x : Str} (h : PyData.strOk x = true) : Shp (.str x) := by
  refine ⟨rfl, ?_⟩
  show SeqAt.shaped (.str x) = true
  unfold SeqAt.shaped
  simp [PyData.canLay0, PyData.depth, h]
theorem eqv_int (a b : Int) : eqv (.int a) (.int b) = decide (a = b) := by
  show PyData.eqv (.int a) (.int b) = _
  unfold PyData.eqv
  by_cases h : a = b <;> simp [h]
theorem eqv_bool (a b : Bool) : eqv (.bool a) (.bool b) = decide (a = b) := by
  show PyData.eqv (.bool a) (.bool b) = _
  cases a <;> cases b <;> simp [PyData.eqv]
theorem eqv_str (a b : Str) : eqv (.str a) (.str b) = decide (a = b) := by
  show PyData.eqv (.str a) (.str b) = _
  unfold PyData.eqv
  by_cases h : a = b <;> simp [h]
theorem eqv_nilL : eqv (.list []) (.list []) = true := by
  show PyData.eqv (.list []) (.list []) = true
  simp [PyData.eqv, PyData.eqvAll]
theorem eqv_fr (a b c d : Int) : eqv (fr a b) (fr c d) = (decide (a = c) && decide (b = d)) := by
  have e : eqv (fr a b) (fr c d) = (eqv (.int a) (.int c) && eqv (.int b) (.int d)) := by
    show PyData.eqv (.tuple [.int a, .int b]) (.tuple [.int c, .int d]) = (PyData.eqv (.int a) (.int c) && PyData.eqv (.int b) (.int d))
    simp [PyData.eqv, PyData.eqvAll]
  rw [e, eqv_int, eqv_int]

theorem sz_0 : (0 ≤ sizeLine) = True := eq_true (by decide)
theorem sz_1 : (1 ≤ sizeLine) = True := eq_true (by decide)
theorem sz_2 : (2 ≤ sizeLine) = True := eq_true (by decide)
theorem sz_3 : (3 ≤ sizeLine) = True := eq_true (by decide)
theorem sz_4 : (4 ≤ sizeLine) = True := eq_true (by decide)
theorem sz_5 : (5 ≤ sizeLine) = True := eq_true (by decide)
theorem sz_6 : (6 ≤ sizeLine) = True := eq_true (by decide)
theorem sz_11 : (11 ≤ sizeLine) = True := eq_true (by decide)
theorem shpE_int (n : Int) : Shp (.int n) = True := eq_true (shp_int n)
theorem shpE_bool (n : Bool) : Shp (.bool n) = True := eq_true (shp_bool n)
theorem shpE_fr (n d : Int) : Shp (.tuple [.int n, .int d]) = True := eq_true (shp_fr n d)
theorem frz_lst (ds : List D) : frz (.lst ds) = some (.list ds) := rfl
theorem frz_dK (ds : List (Key × D)) : frz (.dK ds) = some (.dK ds) := rfl
theorem frz_dT (ds : List (List Key × D)) : frz (.dT ds) = some (.dT ds) := rfl
theorem okT_none : okT .none = True := eq_true rfl
theorem okT_bool (b : Bool) : okT (.bool b) = True := eq_true rfl
theorem okT_int (b : Int) : okT (.int b) = True := eq_true rfl
theorem okT_str (b : Str) : okT (.str b) = True := eq_true rfl
theorem okT_list (b : List D) : okT (.list b) = True := eq_true rfl
theorem okT_tuple (b : List D) : okT (.tuple b) = True := eq_true rfl
theorem okT_dK (b : List (Key × D)) : okT (.dK b) = True := eq_true rfl
/-! good data: depth, weight, signs -/
def asc (x : Str) : Bool := x.cps.toList.all fun c => decide (c < 128)
mutual
/-- a bound of the weight: ints count 201 -/
def wt : D → Nat
  | .int _ => 201
  | .str x => x.length + 1
  | .list ds | .tuple ds => wts ds
  | .dK kvs => wtK kvs
  | _ => 1
def wts : List D → Nat
  | [] => 0
  | d :: ds => wt d + 1 + wts ds
def wtK : List (Key × D) → Nat
  | [] => 0
  | (_, d) :: ds => wt d + 24 + wtK ds
end
def keyOk : Key → Bool
  | .inl _ => false
  | .inr x => asc x && decide (x.length ≤ 20)
/-- data of at most this depth: ASCII texts, ints below 2 ** 190, no dict by tuples, no object -/
def gd : Nat → D → Bool
  | 0, d => match d with
    | .none | .bool _ => true
    | .int i => decide (i.natAbs < 2 ^ 130)
    | .str x => asc x && decide (x.length ≤ 300)
    | _ => false
  | n + 1, d => match d with
    | .none | .bool _ => true
    | .int i => decide (i.natAbs < 2 ^ (min (130 + (n + 1)) 190))
    | .str x => asc x && decide (x.length ≤ min (300 + (n + 1)) 1000)
    | .list ds | .tuple ds => decide (ds.length ≤ min (100 + n) 1000) && ds.all (gd n)
    | .dK kvs => kvs.all fun z => keyOk z.1 && gd n z.2
    | _ => false
theorem gd_none (n : Nat) : gd n .none = true := by cases n <;> rfl
theorem gd_bool (n : Nat) (b : Bool) : gd n (.bool b) = true := by cases n <;> rfl
theorem gd_int (n : Nat) (i : Int) : gd n (.int i) = decide (i.natAbs < 2 ^ (min (130 + n) 190)) := by cases n <;> rfl
theorem gd_str (n : Nat) (x : Str) : gd n (.str x) = (asc x && decide (x.length ≤ min (300 + n) 1000)) := by cases n <;> rfl
theorem gd_tup (n : Nat) (ds : List D) : gd (n + 1) (.tuple ds) = (decide (ds.length ≤ min (100 + n) 1000) && ds.all (gd n)) := rfl
theorem gd_lst (n : Nat) (ds : List D) : gd (n + 1) (.list ds) = (decide (ds.length ≤ min (100 + n) 1000) && ds.all (gd n)) := rfl
theorem gd_dK (n : Nat) (ds : List (Key × D)) : gd (n + 1) (.dK ds) = (ds.all fun z => keyOk z.1 && gd n z.2) := rfl
theorem gd_mono : ∀ {n : Nat} {d : D}, gd n d = true → gd (n + 1) d = true
  | n, .none, _ => gd_none _
  | n, .bool _, _ => gd_bool _ _
  | n, .int _, h => by
    rw [gd_int, decide_eq_true_eq] at h ⊢
    exact Nat.lt_of_lt_of_le h (Nat.pow_le_pow_right (by decide) (by omega))
  | n, .str _, h => by
    rw [gd_str, Bool.and_eq_true, decide_eq_true_eq] at h ⊢
    exact ⟨h.1, by omega⟩
  | 0, .list _, h => by cases h
  | 0, .tuple _, h => by cases h
  | 0, .dK _, h => by cases h
  | n + 1, .list ds, h => by
    rw [gd_lst, Bool.and_eq_true, List.all_eq_true, decide_eq_true_eq] at h ⊢
    exact ⟨by omega, fun d hd => gd_mono (h.2 d hd)⟩
  | n + 1, .tuple ds, h => by
    rw [gd_tup, Bool.and_eq_true, List.all_eq_true, decide_eq_true_eq] at h ⊢
    exact ⟨by omega, fun d hd => gd_mono (h.2 d hd)⟩
  | n + 1, .dK ds, h => by
    rw [gd_dK, List.all_eq_true] at h ⊢
    intro z hz
    have := h z hz
    rw [Bool.and_eq_true] at this ⊢
    exact ⟨this.1, gd_mono this.2⟩
  | 0, .dT _, h => by cases h
  | 0, .ins _ _, h => by cases h
  | 0, .fn _, h => by cases h
  | n + 1, .dT _, h => by cases h
  | n + 1, .ins _ _, h => by cases h
  | n + 1, .fn _, h => by cases h
theorem gd_le {n m : Nat} {d : D} (h : gd n d = true) (hm : n ≤ m) : gd m d = true := by
  induction hm with
  | refl => exact h
  | step _ ih => exact gd_mono ih
theorem gd_okT {n : Nat} {d : D} (h : gd n d = true) : okT d = true := by
  cases n <;> cases d <;> first | rfl | cases h
theorem gd_tupD {n : Nat} {ds : List D} (h : gd n (.tuple ds) = true) : ds.length ≤ 1000 ∧ ∀ d ∈ ds, gd (n - 1) d = true := by
  cases n with
  | zero => cases h
  | succ n =>
    rw [gd_tup, Bool.and_eq_true, List.all_eq_true, decide_eq_true_eq] at h
    exact ⟨by omega, h.2⟩
theorem gd_tupE {n : Nat} {ds : List D} (h : gd n (.tuple ds) = true) : ds.length + 1 ≤ 100 + n ∧ 1 ≤ n := by
  cases n with
  | zero => cases h
  | succ n =>
    rw [gd_tup, Bool.and_eq_true, List.all_eq_true, decide_eq_true_eq] at h
    omega
theorem gd_mk' {n : Nat} {ds : List D} (h1 : ds.length ≤ 100 + n) (h2 : ∀ d ∈ ds, gd n d = true) (hn : n ≤ 900) : gd (n + 1) (.tuple ds) = true := by
  rw [gd_tup, Bool.and_eq_true, List.all_eq_true, decide_eq_true_eq]
  exact ⟨by omega, h2⟩
theorem gd_mkL' {n : Nat} {ds : List D} (h1 : ds.length ≤ 100 + n) (h2 : ∀ d ∈ ds, gd n d = true) (hn : n ≤ 900) : gd (n + 1) (.list ds) = true := by
  rw [gd_lst, Bool.and_eq_true, List.all_eq_true, decide_eq_true_eq]
  exact ⟨by omega, h2⟩
theorem gd_mk {n : Nat} {ds : List D} (h1 : ds.length ≤ 100) (h2 : ∀ d ∈ ds, gd n d = true) : gd (n + 1) (.tuple ds) = true := by
  rw [gd_tup, Bool.and_eq_true, List.all_eq_true, decide_eq_true_eq]
  exact ⟨by omega, h2⟩
theorem gd_mkL {n : Nat} {ds : List D} (h1 : ds.length ≤ 100) (h2 : ∀ d ∈ ds, gd n d = true) : gd (n + 1) (.list ds) = true := by
  rw [gd_lst, Bool.and_eq_true, List.all_eq_true, decide_eq_true_eq]
  exact ⟨by omega, h2⟩
theorem gd_strD {n : Nat} {x : Str} (h : gd n (.str x) = true) : asc x = true ∧ x.length ≤ 1000 := by
  rw [gd_str, Bool.and_eq_true, decide_eq_true_eq] at h
  exact ⟨h.1, by omega⟩
theorem gd_strE {n : Nat} {x : Str} (h : gd n (.str x) = true) : asc x = true ∧ x.length ≤ 300 + n := by
  rw [gd_str, Bool.and_eq_true, decide_eq_true_eq] at h
  exact ⟨h.1, by omega⟩
theorem gd_strM {n : Nat} {x : Str} (h : asc x = true) (hl : x.length ≤ 300 + n) (hn : n ≤ 700) : gd n (.str x) = true := by
  rw [gd_str, Bool.and_eq_true, decide_eq_true_eq]
  exact ⟨h, by omega⟩
theorem gd_intD {n : Nat} {i : Int} (h : gd n (.int i) = true) : Bd 190 i := by
  rw [gd_int, decide_eq_true_eq] at h
  exact Nat.lt_of_lt_of_le h (Nat.pow_le_pow_right (by decide) (by omega))
theorem gd_intE {n : Nat} {i : Int} (h : gd n (.int i) = true) : Bd (130 + n) i := by
  rw [gd_int, decide_eq_true_eq] at h
  exact Nat.lt_of_lt_of_le h (Nat.pow_le_pow_right (by decide) (by omega))
theorem gd_intM' {n : Nat} {i : Int} (h : Bd (130 + n) i) (hn : n ≤ 60) : gd n (.int i) = true := by
  rw [gd_int, decide_eq_true_eq]
  exact Nat.lt_of_lt_of_le h (Nat.pow_le_pow_right (by decide) (by omega))
theorem gd_intM {n : Nat} {i : Int} (h : Bd 130 i) : gd n (.int i) = true := by
  rw [gd_int, decide_eq_true_eq]
  exact Nat.lt_of_lt_of_le h (Nat.pow_le_pow_right (by decide) (by omega))
theorem wts_app : ∀ a b : List D, wts (a ++ b) = wts a + wts b
  | [], b => by simp [wts]
  | d :: a, b => by
    show wt d + 1 + wts (a ++ b) = wt d + 1 + wts a + wts b
    rw [wts_app a b]
    omega
theorem wts_mem : ∀ {ds : List D} {d : D}, d ∈ ds → wt d + 1 ≤ wts ds
  | [], _, h => by cases h
  | e :: r, d, h => by
    show wt d + 1 ≤ wt e + 1 + wts r
    rcases List.mem_cons.mp h with rfl | h
    · omega
    · have := wts_mem h
      omega
theorem wts_take (ds : List D) (n : Nat) : wts (ds.take n) ≤ wts ds := by
  have h := wts_app (ds.take n) (ds.drop n)
  rw [List.take_append_drop] at h
  omega
theorem wts_drop (ds : List D) (n : Nat) : wts (ds.drop n) ≤ wts ds := by
  have h := wts_app (ds.take n) (ds.drop n)
  rw [List.take_append_drop] at h
  omega
theorem wts_cut (ds : List D) (lo hi : Option Int) : wts (cutD ds lo hi) ≤ wts ds := Nat.le_trans (wts_take _ _) (wts_drop _ _)
theorem cut_mem {ds : List D} {lo hi : Option Int} {d : D} (h : d ∈ cutD ds lo hi) : d ∈ ds := List.mem_of_mem_drop (List.mem_of_mem_take h)
theorem cut_len (ds : List D) (lo hi : Option Int) : (cutD ds lo hi).length ≤ ds.length := by
  unfold cutD
  rw [List.length_take, List.length_drop]
  omega
theorem wts_rev : ∀ ds : List D, wts ds.reverse = wts ds
  | [] => rfl
  | d :: r => by
    rw [List.reverse_cons, wts_app, wts_rev r]
    show wts r + (wt d + 1 + 0) = wt d + 1 + wts r
    omega
/-! what repr asks -/
theorem int_len {k : Nat} {i : Int} (h : Bd k i) (h0 : 0 < k) : (PyData.int i).shown.length ≤ k + 1 := by
  show (Str.ofString (toString i)).length ≤ _
  rw [PySem.ofString_length]
  exact int_text_length_le h0 (PySem.Flt.log2_lt_of h0 h)
theorem asc_ok {x : Str} (h : asc x = true) : ∀ c ∈ x.cps.toList, c < 128 := fun c hc => by
  have := List.all_eq_true.mp h c hc
  rw [decide_eq_true_eq] at this
  exact this
def Pyd (n : Nat) (d : D) : Prop := plain d = true ∧ (py d).showable = true ∧ (py d).depth ≤ n ∧ (py d).leavesShort 200 = true ∧ (py d).weight ≤ wt d
theorem pyd_int {n : Nat} {i : Int} (h : Bd 190 i) : Pyd n (.int i) := by
  have h2 : i.natAbs.log2 < 190 := PySem.Flt.log2_lt_of (by decide) h
  refine ⟨rfl, ?_, ?_, ?_, ?_⟩
  · have h3 : i.natAbs.log2 < 1920 := by omega
    simp [py, PyData.showable, h3]
  · simp [py, PyData.depth]
  · have := int_len h (by decide)
    simp only [py, PyData.leavesShort, decide_eq_true_eq]
    omega
  · simp only [py, PyData.weight, wt]
    split <;> omega
theorem pyd_str {n : Nat} {x : Str} (h : asc x = true) : Pyd n (.str x) := by
  refine ⟨rfl, by simp [py, PyData.showable], by simp [py, PyData.depth], ?_, ?_⟩
  · simp only [py, PyData.leavesShort, List.all_eq_true, decide_eq_true_eq]
    intro c hc
    have := asc_ok h c hc
    omega
  · have e : x.length = x.cps.size := rfl
    simp only [py, PyData.weight, wt]
    omega
theorem pyds {n : Nat} : ∀ {ds : List D}, (∀ d ∈ ds, Pyd n d) → plains ds = true ∧ PyData.showableAll (pys ds) = true ∧ PyData.depthAll (pys ds) ≤ n ∧ PyData.leavesShortAll 200 (pys ds) = true ∧ PyData.weightAll (pys ds) ≤ wts ds
  | [], _ => by simp [plains, pys, PyData.showableAll, PyData.depthAll, PyData.leavesShortAll, PyData.weightAll]
  | d :: ds, h => by
    obtain ⟨a1, a2, a3, a4, a5⟩ := h d (List.mem_cons_self ..)
    obtain ⟨b1, b2, b3, b4, b5⟩ := pyds fun e he => h e (List.mem_cons_of_mem _ he)
    refine ⟨by simp [plains, a1, b1], by simp [pys, PyData.showableAll, a2, b2], ?_, by simp [pys, PyData.leavesShortAll, a4, b4], ?_⟩
    · simp only [pys, PyData.depthAll]
      omega
    · simp only [pys, PyData.weightAll, wts]
      omega
theorem pydK {n : Nat} : ∀ {ds : List (Key × D)}, (∀ z ∈ ds, keyOk z.1 = true ∧ Pyd n z.2) → plainK ds = true ∧ PyData.showableKv (pyK ds) = true ∧ PyData.depthKv (pyK ds) ≤ n ∧ PyData.leavesShortKv 200 (pyK ds) = true ∧ PyData.weightKv (pyK ds) ≤ wtK ds
  | [], _ => by simp [plainK, pyK, PyData.showableKv, PyData.depthKv, PyData.leavesShortKv, PyData.weightKv]
  | (q, d) :: ds, h => by
    obtain ⟨k1, a1, a2, a3, a4, a5⟩ := h (q, d) (List.mem_cons_self ..)
    obtain ⟨b1, b2, b3, b4, b5⟩ := pydK fun e he => h e (List.mem_cons_of_mem _ he)
    cases q with
    | inl i => cases k1
    | inr x =>
      have k2 : asc x = true ∧ x.length ≤ 20 := by
        have : (asc x && decide (x.length ≤ 20)) = true := k1
        rw [Bool.and_eq_true, decide_eq_true_eq] at this
        exact this
      obtain ⟨c1, c2, c3, c4, c5⟩ := pyd_str (n := n) k2.1
      simp only [py] at c2 c3 c4 c5
      simp only [wt] at c5
      simp only at a1 a2 a3 a4 a5
      refine ⟨by simp [plainK, a1, b1], by simp [pyK, keyP, PyData.showableKv, a2, b2, c2], ?_, by simp [pyK, keyP, PyData.leavesShortKv, a4, b4, c4], ?_⟩
      · simp only [pyK, keyP, PyData.depthKv]
        omega
      · simp only [pyK, keyP, PyData.weightKv, wtK]
        omega
theorem gd_py : ∀ {n : Nat} {d : D}, gd n d = true → Pyd n d
  | n, .none, _ => ⟨rfl, by simp [py, PyData.showable], by simp [py, PyData.depth], by simp [py, PyData.leavesShort], by simp [py, PyData.weight]⟩
  | n, .bool _, _ => ⟨rfl, by simp [py, PyData.showable], by simp [py, PyData.depth], by simp [py, PyData.leavesShort], by simp [py, PyData.weight]⟩
  | n, .int i, h => pyd_int (gd_intD h)
  | n, .str x, h => pyd_str (gd_strD h).1
  | 0, .list _, h => by cases h
  | 0, .tuple _, h => by cases h
  | 0, .dK _, h => by cases h
  | n + 1, .list ds, h => by
    rw [gd_lst, Bool.and_eq_true, List.all_eq_true] at h
    obtain ⟨b1, b2, b3, b4, b5⟩ := pyds fun d hd => gd_py (h.2 d hd)
    exact ⟨b1, by simpa [py, PyData.showable] using b2, by simp only [py, PyData.depth]; omega, by simpa [py, PyData.leavesShort] using b4, by simpa [py, PyData.weight, wt] using b5⟩
  | n + 1, .tuple ds, h => by
    rw [gd_tup, Bool.and_eq_true, List.all_eq_true] at h
    obtain ⟨b1, b2, b3, b4, b5⟩ := pyds fun d hd => gd_py (h.2 d hd)
    exact ⟨b1, by simpa [py, PyData.showable] using b2, by simp only [py, PyData.depth]; omega, by simpa [py, PyData.leavesShort] using b4, by simpa [py, PyData.weight, wt] using b5⟩
  | n + 1, .dK ds, h => by
    rw [gd_dK, List.all_eq_true] at h
    obtain ⟨b1, b2, b3, b4, b5⟩ := pydK (n := n) (ds := ds) fun z hz => by
      have := h z hz
      rw [Bool.and_eq_true] at this
      exact ⟨this.1, gd_py this.2⟩
    exact ⟨b1, by simpa [py, PyData.showable] using b2, by simp only [py, PyData.depth]; omega, by simpa [py, PyData.leavesShort] using b4, by simpa [py, PyData.weight, wt] using b5⟩
  | 0, .dT _, h => by cases h
  | 0, .ins _ _, h => by cases h
  | 0, .fn _, h => by cases h
  | n + 1, .dT _, h => by cases h
  | n + 1, .ins _ _, h => by cases h
  | n + 1, .fn _, h => by cases h
theorem gd_repr {n : Nat} {d : D} (h : gd n d = true) (hn : n ≤ 60) (hw : wt d ≤ 80000) : ReprOk d := by
  obtain ⟨a1, a2, a3, a4, a5⟩ := gd_py h
  refine ⟨a1, a2, by omega, ?_⟩
  have := PyData.shown_le 200 (by decide) (py d) a4
  rw [sizeLine_eq]
  omega
def isI : D → Bool
  | .int _ => true
  | _ => false
def fromI : D → Int → Bool
  | .int i, l => decide (l ≤ i)
  | _, _ => false
def rowD : D → Int → Bool
  | .tuple ds, m => decide ((ds.length : Int) = m)
  | _, _ => false
def tupOf (p : D → Bool) : D → Bool
  | .tuple ds => ds.all p
  | _ => false
def itemsD : D → List D
  | .tuple ds => ds
  | _ => []
/-- is_tuple_of with a look that tells p -/
def spTupOf (HF : Addr → DSp → Prop) : DSp := fun bs mu R => ∃ d f p g, bs = [.dat d, .dat (.fn f)] ∧ okT d = true ∧ HF f g ∧ (∀ e ∈ itemsD d, ∀ mu R, R (.dat (.bool (p e))) mu → g [.dat e] mu R) ∧ (itemsD d).length < sizeLine ∧ R (.dat (.bool (tupOf p d))) mu
theorem frz_last {mu : Mu} {acc : List D} {Q : B → Mu → Prop} (h : Q (.dat (.list acc)) mu) : mu.length ≤ mu.length ∧ ∃ o d, (mu ++ [MO.lst acc])[mu.length]? = some o ∧ frz o = some d ∧ Q (.dat d) ((mu ++ [MO.lst acc]).take mu.length) :=
  ⟨Nat.le_refl _, .lst acc, .list acc, by simp, rfl, by rw [List.take_left]; exact h⟩
theorem acc_step {p : D → D} {ds : List D} {i : Nat} {e : D} (h : ds[i]? = some e) : (ds.take i).map p ++ [p e] = (ds.take (i + 1)).map p := by
  rw [List.take_add_one, h, List.map_append]
  rfl
theorem acc_len {p : D → D} {ds : List D} {i : Nat} {n : Nat} (h : ds.length < n) : ((ds.take i).map p).length < n := by
  rw [List.length_map, List.length_take]
  omega
/-- ones that are gathered where a look fails -/
theorem one_step {q : D → Bool} {ds acc : List D} {i : Nat} {e : D} (he : ds[i]? = some e) (h : acc.isEmpty = (ds.take i).all q) :
    (q e = true → acc.isEmpty = (ds.take (i + 1)).all q) ∧ (q e = false → ∀ x, (acc ++ [x]).isEmpty = (ds.take (i + 1)).all q) := by
  have e1 : (ds.take (i + 1)).all q = ((ds.take i).all q && q e) := by
    rw [List.take_add_one, he, List.all_append]
    simp
  constructor
  · intro hq
    rw [e1, hq, Bool.and_true]
    exact h
  · intro hq x
    rw [e1, hq, Bool.and_false]
    simp
theorem big1 : 1000000 < sizeLine := by rw [sizeLine_eq]; decide
/-! names -/
def letters : Str := "abcdefghijklmnopqrstuvwxyz"
def isLow (c : Nat) : Bool := decide (c ∈ letters.cps.toList)
def nameS (x : Str) : Bool := (decide (1 ≤ (x.length : Int)) && decide ((x.length : Int) ≤ 12)) && x.cps.toList.all isLow
def nameD : D → Bool
  | .str x => nameS x
  | _ => false
/-- ascending texts -/
def risS : List Str → Bool
  | x :: y :: r => ltS x y && risS (y :: r)
  | _ => true
def nmD : D → D
  | .tuple (d :: _) => d
  | _ => .none
def strD : D → Str
  | .str x => x
  | _ => ""
def nm (d : D) : Str := strD (nmD d)
def kind5 : D → D → D → D → D → Bool
  | .str x, .int l, .int m, .int h, .int s => nameS x && !decide (x = "level") && (decide (l < m) && (decide (l ≤ h) && decide (h ≤ m)) && decide (0 ≤ s))
  | _, _, _, _, _ => false
def kindD : D → Bool
  | .tuple [a, b, c, d, e] => kind5 a b c d e
  | _ => false
def lamp2 : D → D → Bool
  | .str x, .tuple ks => nameS x && (ks.all kindD && risS (ks.map nm))
  | _, _ => false
def lampD : D → Bool
  | .tuple [a, b] => lamp2 a b
  | _ => false
def rigD : D → Bool
  | .tuple ls => ls.all lampD && (!ls.isEmpty && risS (ls.map nm))
  | _ => false
def fr2 : D → D → Bool
  | .int n, .int d => decide (1 ≤ d) && decide (Nat.gcd n.natAbs d.natAbs = 1)
  | _, _ => false
def frD : D → Bool
  | .tuple [a, b] => fr2 a b
  | _ => false
theorem row5 (ds : List D) : (∃ a b c d e, ds = [a, b, c, d, e]) ∨ (¬ (ds.length : Int) = 5 ∧ kindD (.tuple ds) = false) := by
  match ds with
  | [] => exact .inr ⟨by decide, rfl⟩
  | [_] => exact .inr ⟨by simp, rfl⟩
  | [_, _] => exact .inr ⟨by simp, rfl⟩
  | [_, _, _] => exact .inr ⟨by simp, rfl⟩
  | [_, _, _, _] => exact .inr ⟨by simp, rfl⟩
  | [a, b, c, d, e] => exact .inl ⟨a, b, c, d, e, rfl⟩
  | _ :: _ :: _ :: _ :: _ :: _ :: r => exact .inr ⟨by simp only [List.length_cons]; omega, rfl⟩
theorem row2 (ds : List D) : (∃ a b, ds = [a, b]) ∨ (¬ (ds.length : Int) = 2 ∧ lampD (.tuple ds) = false ∧ frD (.tuple ds) = false) := by
  match ds with
  | [] => exact .inr ⟨by decide, rfl, rfl⟩
  | [_] => exact .inr ⟨by simp, rfl, rfl⟩
  | [a, b] => exact .inl ⟨a, b, rfl⟩
  | _ :: _ :: _ :: r => exact .inr ⟨by simp only [List.length_cons]; omega, rfl, rfl⟩
theorem kind_of {d : D} (h : kindD d = true) : ∃ x l m h s, d = .tuple [.str x, .int l, .int m, .int h, .int s] ∧ nameS x = true ∧ x ≠ "level" ∧ l < m ∧ l ≤ h ∧ h ≤ m ∧ 0 ≤ s := by
  unfold kindD at h
  split at h
  · unfold kind5 at h
    split at h
    · rename_i x l m h' s
      simp only [Bool.and_eq_true, decide_eq_true_eq, Bool.not_eq_true', decide_eq_false_iff_not] at h
      exact ⟨x, l, m, h', s, rfl, h.1.1, h.1.2, h.2.1.1, h.2.1.2.1, h.2.1.2.2, h.2.2⟩
    · cases h
  · cases h
theorem lamp_of {d : D} (h : lampD d = true) : ∃ x ks, d = .tuple [.str x, .tuple ks] ∧ nameS x = true ∧ (∀ e ∈ ks, kindD e = true) ∧ risS (ks.map nm) = true := by
  unfold lampD at h
  split at h
  · unfold lamp2 at h
    split at h
    · rename_i x ks
      simp only [Bool.and_eq_true, List.all_eq_true] at h
      exact ⟨x, ks, rfl, h.1, h.2.1, h.2.2⟩
    · cases h
  · cases h
theorem rig_of {d : D} (h : rigD d = true) : ∃ ls, d = .tuple ls ∧ (∀ e ∈ ls, lampD e = true) ∧ ls ≠ [] ∧ risS (ls.map nm) = true := by
  unfold rigD at h
  split at h
  · rename_i ls
    simp only [Bool.and_eq_true, List.all_eq_true, Bool.not_eq_true', List.isEmpty_eq_false_iff] at h
    exact ⟨ls, rfl, h.1, h.2.1, h.2.2⟩
  · cases h
theorem nmD_kind {d : D} (h : kindD d = true) : nmD d = .str (nm d) := by
  obtain ⟨x, l, m, hh, s, rfl, _⟩ := kind_of h
  rfl
theorem nmD_lamp {d : D} (h : lampD d = true) : nmD d = .str (nm d) := by
  obtain ⟨x, ks, rfl, _⟩ := lamp_of h
  rfl
theorem nmDs {p : D → Bool} (hp : ∀ d, p d = true → nmD d = .str (nm d)) {ds : List D} (h : ∀ d ∈ ds, p d = true) : ds.map nmD = (ds.map nm).map D.str := by
  rw [List.map_map]
  exact List.map_congr_left fun d hd => hp d (h d hd)
theorem risZip : ∀ xs : List Str, (List.zipWith ltS xs (xs.drop 1)).all id = risS xs
  | [] => rfl
  | [_] => rfl
  | x :: y :: r => by
    show (ltS x y && (List.zipWith ltS (y :: r) r).all id) = (ltS x y && risS (y :: r))
    have := risZip (y :: r)
    rw [← this]
    rfl
def lowD : D → Bool
  | .str x => x.cps.toList.all isLow
  | _ => false
theorem sign_at {x : Str} {i : Nat} {e : D} (h : (signsD x)[i]? = some e) : ∃ c, c ∈ x.cps.toList ∧ e = .str ⟨#[c]⟩ := by
  unfold signsD at h
  rw [List.getElem?_map] at h
  cases hc : x.cps.toList[i]? with
  | none => rw [hc] at h; cases h
  | some c =>
    rw [hc] at h
    cases h
    exact ⟨c, List.mem_of_getElem? hc, rfl⟩
theorem lowD_sign (c : Nat) : lowD (.str ⟨#[c]⟩) = isLow c := by simp [lowD]
theorem signs_low (x : Str) : (signsD x).all lowD = x.cps.toList.all isLow := by
  unfold signsD
  rw [List.all_map]
  congr 1
  funext c
  exact lowD_sign c
theorem signs_len (x : Str) : (signsD x).length = x.length := by
  unfold signsD
  rw [List.length_map]
  rfl
def ltP : D → Bool
  | .tuple [.str a, .str b] => ltS a b
  | _ => false
theorem zipRis : ∀ xs : List Str, (zipD (xs.map D.str) ((xs.map D.str).drop 1)).all ltP = risS xs
  | [] => rfl
  | [_] => rfl
  | x :: y :: r => by
    have h := zipRis (y :: r)
    show (ltS x y && (zipD ((y :: r).map D.str) (((y :: r).map D.str).drop 1)).all ltP) = (ltS x y && risS (y :: r))
    rw [h]
theorem zip_strs {xs ys : List Str} {i : Nat} {e : D} (h : (zipD (xs.map D.str) (ys.map D.str))[i]? = some e) : ∃ a b, e = .tuple [.str a, .str b] := by
  obtain ⟨a, b, h1, h2, rfl⟩ := zipD_get h
  rw [List.getElem?_map] at h1 h2
  cases ha : xs[i]? with
  | none => rw [ha] at h1; cases h1
  | some x =>
    cases hb : ys[i]? with
    | none => rw [hb] at h2; cases h2
    | some y =>
      rw [ha] at h1
      rw [hb] at h2
      cases h1
      cases h2
      exact ⟨x, y, rfl⟩
theorem zip_len : ∀ as bs : List D, (zipD as bs).length ≤ as.length
  | [], _ => by unfold zipD; exact Nat.le_refl _
  | a :: r, [] => by unfold zipD; simp
  | a :: r, b :: s => by
    unfold zipD
    have := zip_len r s
    simp only [List.length_cons]
    omega
theorem szle {n : Nat} (h : n ≤ 1000000) : n ≤ sizeLine := by rw [sizeLine_eq]; omega
theorem szlt {n : Nat} (h : n ≤ 1000000) : n < sizeLine := by rw [sizeLine_eq]; omega

theorem nameD_of {d : D} (h : nameD d = true) : ∃ x, d = .str x ∧ nameS x = true := by
  cases d with
  | str x => exact ⟨x, rfl, h⟩
  | _ => cases h
theorem isI_of {d : D} (h : isI d = true) : ∃ x, d = .int x := by
  cases d with
  | int x => exact ⟨x, rfl⟩
  | _ => cases h
theorem gcd_step {x y : Int} (hx : 0 ≤ x) (hy : 0 < y) : Nat.gcd y.natAbs (x.fmod y).natAbs = Nat.gcd x.natAbs y.natAbs := by
  rw [Int.fmod_eq_emod_of_nonneg x (by omega), Int.natAbs_emod_of_nonneg hx, Nat.gcd_comm, ← Nat.gcd_rec, Nat.gcd_comm]
instance {k : Nat} {i : Int} : Decidable (Bd k i) := by
  unfold Bd
  infer_instance
theorem drawn {j i : Nat} {mu : Mu} {R : B → Mu → Prop} {m : Int} (hj : mu[j]? = some (.deck i)) (h : ∀ r : Int, 0 ≤ r → r < m → R (.dat (.int r)) mu) (h0 : 0 < m := by decide) (h1 : m.natAbs < 18446744073709551616 := by decide) : spDraw [.ref j, .dat (.int m)] mu R :=
  ⟨j, i, m, rfl, hj, h0, (Bd.small h1).mono (by decide), h⟩
theorem bd_of {k : Nat} {i : Int} (h : i.natAbs < 18446744073709551616) (hk : 64 ≤ k := by decide) : Bd k i := (Bd.small h).mono hk
theorem step_int {n r : Int} {i : Nat} (h0 : 0 ≤ n) (h : n < 2 ^ (30 * i)) (r0 : 0 ≤ r) (r1 : r < 1000000000) : 0 ≤ n * 1000000000 + r ∧ n * 1000000000 + r < 2 ^ (30 * (i + 1)) := by
  have e : (2 : Int) ^ (30 * (i + 1)) = 2 ^ (30 * i) * 1073741824 := by rw [Nat.mul_add, Int.pow_add]; rfl
  rw [e]
  generalize (2 : Int) ^ (30 * i) = x at *
  omega
theorem bd_pow {n : Int} {k : Nat} (h0 : 0 ≤ n) (h : n < 2 ^ k) : Bd k n := by
  unfold Bd
  have e : ((n.natAbs : Nat) : Int) < ((2 ^ k : Nat) : Int) := by
    rw [Int.natCast_pow, Int.natAbs_of_nonneg h0]
    exact h
  exact Int.ofNat_lt.mp e
theorem pow_mono {i j : Nat} (h : i ≤ j) {n : Int} (hn : n < 2 ^ i) : n < 2 ^ j := Int.lt_of_lt_of_le hn (by
  have := Nat.pow_le_pow_right (n := 2) (by decide) h
  have e := Int.ofNat_le.mpr this
  rw [Int.natCast_pow, Int.natCast_pow] at e
  exact e)
theorem frOf_bd {k : Nat} {p q n d : Int} (hq : q ≠ 0) (hf : FrOf p q n d) (bp : Bd k p) (bq : Bd k q) : Bd k n ∧ Bd k d := ⟨bp.le (hf.le hq).1, bq.le (hf.le hq).2⟩
/-- data that _law_same looks at: bools, ints, tuples of such -/
def okS : Nat → D → Prop
  | _, .int _ => True
  | _, .bool _ => True
  | n + 1, .tuple ds => ∀ d ∈ ds, okS n d
  | _, _ => False
theorem at_in {ds : List D} {r : Int} (h0 : 0 ≤ r) (h1 : r < (ds.length : Int)) : ∃ d ∈ ds, atI ds r = some d := by
  have hlt : r.toNat < ds.length := by omega
  refine ⟨ds[r.toNat], List.getElem_mem hlt, ?_⟩
  have e := atI_nat (List.getElem?_eq_getElem hlt)
  rw [Int.toNat_of_nonneg h0] at e
  exact e
theorem pick_bd {n : Nat} (h : n < 1000) : ((n : Nat) : Int).natAbs < 2 ^ 8000 := by
  rw [Int.natAbs_natCast]
  exact Nat.lt_of_lt_of_le h (Nat.le_trans (by decide : 1000 ≤ 2 ^ 10) (Nat.pow_le_pow_right (by decide) (by decide)))
theorem zip_self {ds : List D} {i : Nat} {d : D} (h : (zipD ds ds)[i]? = some d) : ∃ x ∈ ds, d = .tuple [x, x] := by
  obtain ⟨a, b, h1, h2, rfl⟩ := zipD_get h
  rw [h1] at h2
  cases h2
  exact ⟨a, List.mem_of_getElem? h1, rfl⟩
def rowsD : D → Int → Bool
  | .tuple ds, m => ds.all fun e => rowD e m
  | _, _ => false
def namedL (ds : List D) : Bool := (ds.all fun e => nameD (nmD e)) && risS (ds.map nm)
def ltN : D → Bool
  | .tuple [a, b] => ltS (nm a) (nm b)
  | _ => false
theorem zipNm : ∀ ds : List D, (zipD ds (ds.drop 1)).all ltN = risS (ds.map nm)
  | [] => rfl
  | [_] => rfl
  | x :: y :: r => by
    have h := zipNm (y :: r)
    show (ltS (nm x) (nm y) && (zipD (y :: r) ((y :: r).drop 1)).all ltN) = (ltS (nm x) (nm y) && risS ((y :: r).map nm))
    rw [h]
theorem rig_rows {d : D} (h : rigD d = true) : rowsD d 2 = true := by
  obtain ⟨ls, rfl, h1, _⟩ := rig_of h
  refine List.all_eq_true.mpr fun e he => ?_
  obtain ⟨x, ks, rfl, _⟩ := lamp_of (h1 e he)
  rfl
theorem rows2 {ls : List D} (h : rowsD (.tuple ls) 2 = true) : ∀ e ∈ ls, ∃ a b, e = .tuple [a, b] := by
  intro e he
  have h2 : rowD e 2 = true := List.all_eq_true.mp h e he
  cases e with
  | tuple es =>
    rcases row2 es with ⟨a, b, rfl⟩ | ⟨hne, _⟩
    · exact ⟨a, b, rfl⟩
    · exact absurd (of_decide_eq_true h2) hne
  | _ => cases h2
theorem rows5 {ls : List D} (h : rowsD (.tuple ls) 5 = true) : ∀ e ∈ ls, ∃ a b c d f, e = .tuple [a, b, c, d, f] := by
  intro e he
  have h2 : rowD e 5 = true := List.all_eq_true.mp h e he
  cases e with
  | tuple es =>
    rcases row5 es with ⟨a, b, c, d, f, rfl⟩ | ⟨hne, _⟩
    · exact ⟨a, b, c, d, f, rfl⟩
    · exact absurd (of_decide_eq_true h2) hne
  | _ => cases h2
theorem rig_named {ls : List D} (h : rigD (.tuple ls) = true) : namedL ls = true := by
  obtain ⟨ls2, e, h1, _, h3⟩ := rig_of h
  cases e
  unfold namedL
  rw [h3, Bool.and_true, List.all_eq_true]
  intro e he
  obtain ⟨x, ks, rfl, n1, _⟩ := lamp_of (h1 e he)
  exact n1
theorem lamp_rows {a b : D} (h : lampD (.tuple [a, b]) = true) : rowsD b 5 = true := by
  obtain ⟨x, ks, e, _, h2, _⟩ := lamp_of h
  cases e
  refine List.all_eq_true.mpr fun e he => ?_
  obtain ⟨x, l, m, hh, s, rfl, _⟩ := kind_of (h2 e he)
  rfl
theorem lamp_named {a : D} {ks : List D} (h : lampD (.tuple [a, .tuple ks]) = true) : namedL ks = true := by
  obtain ⟨x, ks, e, _, h2, h3⟩ := lamp_of h
  cases e
  unfold namedL
  rw [h3, Bool.and_true, List.all_eq_true]
  intro e he
  obtain ⟨x, l, m, hh, s, rfl, n1, _⟩ := kind_of (h2 e he)
  exact n1
theorem rig_bad {ls : List D} {e : D} (he : e ∈ ls) (h : lampD e = false) : rigD (.tuple ls) = false := by
  refine Bool.eq_false_iff.mpr fun z => ?_
  obtain ⟨ls2, e2, h1, _⟩ := rig_of z
  cases e2
  rw [h1 e he] at h
  cases h
theorem lamp_bad {a : D} {ks : List D} {e : D} (he : e ∈ ks) (h : kindD e = false) : lampD (.tuple [a, .tuple ks]) = false := by
  refine Bool.eq_false_iff.mpr fun z => ?_
  obtain ⟨x, ks2, e2, _, h1, _⟩ := lamp_of z
  cases e2
  rw [h1 e he] at h
  cases h
theorem named_ris {ls : List D} (h : namedL ls = true) : (∀ e ∈ ls, nameD (nmD e) = true) ∧ risS (ls.map nm) = true := by
  unfold namedL at h
  rw [Bool.and_eq_true, List.all_eq_true] at h
  exact h
theorem take_step {p : D → Prop} {ds : List D} {i : Nat} {e : D} (h : ds[i]? = some e) (h1 : ∀ x ∈ ds.take i, p x) (h2 : p e) : ∀ x ∈ ds.take (i + 1), p x := by
  intro x hx
  rw [List.take_add_one, h] at hx
  rcases List.mem_append.mp hx with hx | hx
  · exact h1 x hx
  · have : x = e := by simpa using hx
    rw [this]
    exact h2
def seqD : D → Option (List D)
  | .list ds => some ds
  | .tuple ds => some ds
  | .str x => some (signsD x)
  | _ => none
theorem sgn_in {x : Str} {r : Int} (h0 : 0 ≤ r) (h1 : r < (x.length : Int)) : ∃ c ∈ x.cps.toList, atI x.cps.toList r = some c := by
  have hlt : r.toNat < x.cps.toList.length := by
    have : x.length = x.cps.toList.length := rfl
    omega
  refine ⟨x.cps.toList[r.toNat], List.getElem_mem hlt, ?_⟩
  have e := atI_nat (List.getElem?_eq_getElem hlt)
  rw [Int.toNat_of_nonneg h0] at e
  exact e
/-! order of texts -/
theorem ltS_trans {x y z : Str} (h : ltS x y = true) (h' : ltS y z = true) : ltS x z = true := by
  unfold ltS at *
  rw [decide_eq_true_eq] at *
  exact List.lt_trans h h'
theorem ris_iff : ∀ xs : List Str, risS xs = true ↔ xs.Pairwise fun x y => ltS x y = true
  | [] => by simp [risS]
  | [x] => by simp [risS]
  | x :: y :: r => by
    have ih := ris_iff (y :: r)
    show (ltS x y && risS (y :: r)) = true ↔ _
    rw [Bool.and_eq_true]
    constructor
    · rintro ⟨h1, h2⟩
      have h3 := ih.mp h2
      refine List.pairwise_cons.mpr ⟨fun z hz => ?_, h3⟩
      rcases List.mem_cons.mp hz with rfl | hz
      · exact h1
      · exact ltS_trans h1 ((List.pairwise_cons.mp h3).1 z hz)
    · intro h
      have h' := List.pairwise_cons.mp h
      exact ⟨h'.1 y (List.mem_cons_self ..), ih.mpr h'.2⟩
theorem tri_lt : ∀ a b : List Nat, ¬ b < a → a ≠ b → a < b
  | [], [], _, h => absurd rfl h
  | [], _ :: _, _, _ => List.nil_lt_cons _ _
  | _ :: _, [], h, _ => absurd (List.nil_lt_cons _ _) h
  | x :: a, y :: b, h, hne => by
    rw [List.cons_lt_cons_iff] at h ⊢
    by_cases e : x = y
    · subst e
      exact .inr ⟨rfl, tri_lt a b (fun z => h (.inr ⟨rfl, z⟩)) fun z => hne (by rw [z])⟩
    · refine .inl ?_
      rcases Nat.lt_or_ge x y with z | z
      · exact z
      · exact absurd (.inl (by omega)) h
theorem ltS_of {x y : Str} (h : PySem.Spec.ltCps y.cps.toList x.cps.toList = false) (hne : x ≠ y) : ltS x y = true := by
  unfold ltS
  rw [decide_eq_true_eq]
  have h2 : ¬ y.cps.toList < x.cps.toList := by
    intro z
    have := PyProof.Rows.ltCps_eq y.cps.toList x.cps.toList
    rw [h, decide_eq_true z] at this
    cases this
  have h3 : x.cps.toList ≠ y.cps.toList := fun e => hne (Str.ext' (Array.toList_inj.mp e))
  exact tri_lt _ _ h2 h3
theorem ris_sorted : ∀ {ys : List Str}, PyProof.Rows.sortedS ys = true → ys.Nodup → risS ys = true
  | [], _, _ => rfl
  | [_], _, _ => rfl
  | x :: y :: r, h, hn => by
    have h' : (!PySem.Spec.ltCps y.cps.toList x.cps.toList && PyProof.Rows.risingS y r) = true := h
    rw [Bool.and_eq_true, Bool.not_eq_true'] at h'
    show (ltS x y && risS (y :: r)) = true
    rw [Bool.and_eq_true]
    have hn' := List.nodup_cons.mp hn
    exact ⟨ltS_of h'.1 fun e => hn'.1 (by rw [e]; exact List.mem_cons_self ..), ris_sorted (ys := y :: r) h'.2 hn'.2⟩
/-! the law's names -/
def words1 : List Str := ["a", "ab", "back", "all", "front", "spot", "wash", "main", "side", "warm", "cold", "level", "go", "goto"]
def words2 : List Str := ["clock", "hang", "link", "whole", "x", "y", "zz", "on", "off"]
def words : List Str := words1 ++ words2 ++ [("zzzzzzzzzzzz" : Str)]
theorem words_ok : words.all nameS = true := by decide +kernel
theorem words_nodup : words.Nodup := by decide +kernel
theorem split1 : Txt.split "a ab back all front spot wash main side warm cold level go goto" " " = words1 := by decide +kernel
theorem split2 : Txt.split "clock hang link whole x y zz on off" " " = words2 := by decide +kernel
theorem inD_str (x : Str) (xs : List Str) : inD (.str x) (xs.map D.str) = decide (x ∈ xs) := by
  unfold inD
  induction xs with
  | nil => rfl
  | cons y r ih =>
    simp only [List.map_cons, toV, List.mem_cons] at ih ⊢
    unfold inV at ih ⊢
    simp only [List.any_cons, ih]
    by_cases e : x = y
    · subst e
      simp [eqV]
    · have : (y == x) = false := by simp [Ne.symm e]
      simp [eqV, e, this]
theorem flat_strs (xs : List Str) : (xs.map D.str).all flatD = true := by
  rw [List.all_map, List.all_eq_true]
  intro x _
  rfl
/-- names that are left, names that are found -/
def NmI (barred : List Str) (left found : List Str) : Prop := (left ++ found).Nodup ∧ ∀ x ∈ left ++ found, nameS x = true ∧ x ∉ barred
theorem perm_erase : ∀ (l : List Str) (n : Nat) (h : n < l.length), (l[n] :: l.eraseIdx n).Perm l
  | x :: r, 0, _ => List.Perm.refl _
  | x :: r, n + 1, h => by
    have h' : n < r.length := by
      rw [List.length_cons] at h
      omega
    have ih := perm_erase r n h'
    show (r[n] :: x :: r.eraseIdx n).Perm (x :: r)
    exact (List.Perm.swap ..).trans (ih.cons x)
theorem nmI_name {barred left found : List Str} (h : NmI barred left found) {n : Nat} {x : Str} (hx : left[n]? = some x) : NmI barred (left.eraseIdx n) (found ++ [x]) := by
  have hp : (left.eraseIdx n ++ (found ++ [x])).Perm (left ++ found) := by
    have h1 : (x :: left.eraseIdx n).Perm left := by
      obtain ⟨hn, e⟩ := List.getElem?_eq_some_iff.mp hx
      subst e
      exact perm_erase left n hn
    refine List.Perm.trans ?_ (h1.append_right found)
    refine List.Perm.trans (List.perm_append_comm) ?_
    rw [List.append_assoc]
    refine List.Perm.trans List.perm_append_comm ?_
    rw [List.append_assoc]
    exact List.Perm.refl _
  exact ⟨hp.nodup_iff.mpr h.1, fun y hy => h.2 y (hp.mem_iff.mp hy)⟩
theorem nmI_own {barred left found : List Str} (h : NmI barred left found) {n : Nat} {y : Str} (hy : nameS y = true) (h1 : y ∉ left.eraseIdx n) (h2 : y ∉ found) (h3 : y ∉ barred) : NmI barred (left.eraseIdx n) (found ++ [y]) := by
  have sub : (left.eraseIdx n ++ found).Sublist (left ++ found) := (List.eraseIdx_sublist _ _).append_right _
  have hn := h.1.sublist sub
  refine ⟨?_, ?_⟩
  · rw [← List.append_assoc, List.nodup_append]
    refine ⟨hn, by simp, ?_⟩
    intro a ha b hb
    rw [List.mem_singleton] at hb
    subst hb
    intro e
    subst e
    rcases List.mem_append.mp ha with h | h
    · exact h1 h
    · exact h2 h
  · intro x hx
    rw [← List.append_assoc] at hx
    rcases List.mem_append.mp hx with hx | hx
    · exact h.2 x (sub.subset hx)
    · rw [List.mem_singleton] at hx
      subst hx
      exact ⟨hy, h3⟩
theorem nmI_start (barred : List Str) : NmI barred (words.filter fun x => decide (x ∉ barred)) [] := by
  refine ⟨?_, fun x hx => ?_⟩
  · rw [List.append_nil]
    exact words_nodup.filter _
  · rw [List.append_nil, List.mem_filter] at hx
    exact ⟨List.all_eq_true.mp words_ok x hx.1, by simpa using hx.2⟩
/-- texts of single letters, joined -/
theorem own_name {cs : List Nat} (h1 : 1 ≤ cs.length) (h2 : cs.length ≤ 12) (h3 : ∀ c ∈ cs, isLow c = true) : nameS (Txt.join "" (cs.map fun c => (⟨#[c]⟩ : Str))) = true := by
  have e : Txt.join "" (cs.map fun c => (⟨#[c]⟩ : Str)) = ⟨cs.toArray⟩ := by
    have := PyProof.Rows.join_nil_signs ⟨cs.toArray⟩
    unfold Txt.join
    rw [StrLaws.glued_eq_join]
    refine Eq.trans ?_ this
    simp [PyProof.Rows.signs]
    rfl
  rw [e]
  unfold nameS
  simp only [Bool.and_eq_true, decide_eq_true_eq, List.all_eq_true]
  refine ⟨⟨?_, ?_⟩, h3⟩
  · show 1 ≤ ((cs.toArray.size : Nat) : Int)
    simp
    omega
  · show ((cs.toArray.size : Nat) : Int) ≤ 12
    simp
    omega
theorem low_asc : ∀ c, isLow c = true → c < 128 := by
  intro c h
  unfold isLow at h
  rw [decide_eq_true_eq] at h
  have : letters.cps.toList.all (fun c => decide (c < 128)) = true := by decide +kernel
  exact of_decide_eq_true (List.all_eq_true.mp this c h)
theorem name_gd {x : Str} (h : nameS x = true) (n : Nat) : gd n (.str x) = true ∧ x.length ≤ 12 := by
  unfold nameS at h
  simp only [Bool.and_eq_true, decide_eq_true_eq, List.all_eq_true] at h
  refine ⟨?_, by omega⟩
  rw [gd_str, Bool.and_eq_true, decide_eq_true_eq]
  refine ⟨?_, by omega⟩
  unfold asc
  rw [List.all_eq_true]
  intro c hc
  exact decide_eq_true (low_asc c (h.2 c hc))
theorem word_at {i : Nat} {d : D} (h : ((words1 ++ words2).map D.str ++ [D.str "zzzzzzzzzzzz"])[i]? = some d) : ∃ x, words[i]? = some x ∧ d = .str x := by
  have e : (words1 ++ words2).map D.str ++ [D.str "zzzzzzzzzzzz"] = words.map D.str := rfl
  rw [e, List.getElem?_map] at h
  cases hx : words[i]? with
  | none => rw [hx] at h; cases h
  | some x =>
    rw [hx] at h
    cases h
    exact ⟨x, rfl, rfl⟩
theorem filt1 (b : Str) : ∀ l : List Str, l.Nodup → l.length ≤ (l.filter fun x => decide (x ∉ [b])).length + 1
  | [], _ => by simp
  | x :: r, h => by
    have hn := List.nodup_cons.mp h
    by_cases e : x = b
    · subst e
      have : r.filter (fun y => decide (y ∉ [x])) = r := List.filter_eq_self.mpr fun y hy => by
        simp
        rintro rfl
        exact hn.1 hy
      rw [List.filter_cons_of_neg (by simp), this]
      simp
    · rw [List.filter_cons_of_pos (by simp [e])]
      simp only [List.length_cons]
      have := filt1 b r hn.2
      omega
theorem words_left {barred : List Str} (h : barred.length ≤ 1) : 23 ≤ (words.filter fun x => decide (x ∉ barred)).length ∧ (words.filter fun x => decide (x ∉ barred)).length ≤ 24 := by
  have hw : words.length = 24 := rfl
  refine ⟨?_, hw ▸ List.length_filter_le _ _⟩
  match barred, h with
  | [], _ => decide +kernel
  | [b], _ =>
    have := filt1 b words words_nodup
    omega
theorem map_erase {α β : Type} (f : α → β) : ∀ (l : List α) (n : Nat), (l.map f).eraseIdx n = (l.eraseIdx n).map f
  | [], _ => rfl
  | _ :: _, 0 => rfl
  | x :: r, n + 1 => by
    show f x :: (r.map f).eraseIdx n = f x :: (r.eraseIdx n).map f
    rw [map_erase f r n]
theorem letters_len : letters.length = 26 := by decide +kernel
theorem sum_ones : ∀ cs : List Nat, ((cs.map fun c => (⟨#[c]⟩ : Str)).map (·.length)).sum = cs.length
  | [] => rfl
  | c :: r => by
    have := sum_ones r
    simp only [List.map_cons, List.sum_cons, List.length_cons] at this ⊢
    rw [this]
    show 1 + r.length = r.length + 1
    omega
/-- a drawn rig -/
def RigOk (d : D) : Prop := rigD d = true ∧ gd 4 d = true ∧ wt d ≤ 7700 ∧ ∃ ls, d = .tuple ls ∧ 1 ≤ ls.length ∧ ls.length ≤ 4
theorem ris_sub {xs ys : List Str} (h : xs.Sublist ys) (hy : risS ys = true) : risS xs = true := (ris_iff xs).mpr (((ris_iff ys).mp hy).sublist h)
theorem wts_le {w : Nat} : ∀ {ds : List D}, (∀ d ∈ ds, wt d ≤ w) → wts ds ≤ ds.length * (w + 1)
  | [], _ => Nat.zero_le _
  | d :: r, h => by
    have h1 := h d (List.mem_cons_self ..)
    have h2 := wts_le fun e he => h e (List.mem_cons_of_mem _ he)
    show wt d + 1 + wts r ≤ _
    rw [List.length_cons, Nat.add_mul]
    omega
theorem kind_ok {x : Str} {l m h s : Int} (nx : nameS x = true) (ne : x ≠ "level") (h1 : l < m) (h2 : l ≤ h) (h3 : h ≤ m) (h4 : 0 ≤ s) (b1 : -1000 ≤ l) (b2 : m ≤ 1000) (b3 : s ≤ 1000) :
    kindD (.tuple [.str x, .int l, .int m, .int h, .int s]) = true ∧ gd 1 (.tuple [.str x, .int l, .int m, .int h, .int s]) = true ∧ wt (.tuple [.str x, .int l, .int m, .int h, .int s]) ≤ 900 := by
  refine ⟨?_, gd_mk (by simp) ?_, ?_⟩
  · rw [show kindD (.tuple [.str x, .int l, .int m, .int h, .int s]) = (nameS x && !decide (x = "level") && (decide (l < m) && (decide (l ≤ h) && decide (h ≤ m)) && decide (0 ≤ s))) from rfl, nx, decide_eq_false ne, decide_eq_true h1, decide_eq_true h2, decide_eq_true h3, decide_eq_true h4]
    rfl
  · intro d hd
    simp only [List.mem_cons, List.not_mem_nil, or_false] at hd
    rcases hd with rfl | rfl | rfl | rfl | rfl
    · exact (name_gd nx 0).1
    all_goals exact gd_intM (bd_of (by omega))
  · have := (name_gd nx 0).2
    simp only [wt, wts]
    omega
theorem lamp_ok {x : Str} {ks : List D} (nx : nameS x = true) (hk : ∀ e ∈ ks, kindD e = true ∧ gd 1 e = true ∧ wt e ≤ 900) (hl : ks.length ≤ 2) (hr : risS (ks.map nm) = true) :
    lampD (.tuple [.str x, .tuple ks]) = true ∧ gd 3 (.tuple [.str x, .tuple ks]) = true ∧ wt (.tuple [.str x, .tuple ks]) ≤ 1900 := by
  refine ⟨?_, gd_mk (by simp) ?_, ?_⟩
  · rw [show lampD (.tuple [.str x, .tuple ks]) = (nameS x && (ks.all kindD && risS (ks.map nm))) from rfl, nx, List.all_eq_true.mpr fun e he => (hk e he).1, hr]
    rfl
  · intro d hd
    simp only [List.mem_cons, List.not_mem_nil, or_false] at hd
    rcases hd with rfl | rfl
    · exact (name_gd nx 2).1
    · exact gd_mk (by omega) fun e he => (hk e he).2.1
  · have h1 := (name_gd nx 0).2
    have h2 := wts_le fun e he => (hk e he).2.2
    simp only [wt, wts]
    have h3 : ks.length * (900 + 1) ≤ 2 * 901 := Nat.mul_le_mul_right _ hl
    omega
theorem rig_ok {ds : List D} (hk : ∀ e ∈ ds, lampD e = true ∧ gd 3 e = true ∧ wt e ≤ 1900) (h1 : 1 ≤ ds.length) (h4 : ds.length ≤ 4) (hr : risS (ds.map nm) = true) : RigOk (.tuple ds) := by
  refine ⟨?_, gd_mk (by omega) fun e he => (hk e he).2.1, ?_, ds, rfl, h1, h4⟩
  · have he : ds.isEmpty = false := by
      cases ds with
      | nil => cases h1
      | cons _ _ => rfl
    rw [show rigD (.tuple ds) = (ds.all lampD && (!ds.isEmpty && risS (ds.map nm))) from rfl, List.all_eq_true.mpr fun e he => (hk e he).1, he, hr]
    rfl
  · have h2 := wts_le fun e he => (hk e he).2.2
    simp only [wt]
    have h3 : ds.length * (1900 + 1) ≤ 4 * 1901 := Nat.mul_le_mul_right _ h4
    omega
theorem strs_at {xs : List Str} {i : Nat} {d : D} (h : (xs.map D.str)[i]? = some d) : ∃ x, xs[i]? = some x ∧ d = .str x := by
  rw [List.getElem?_map] at h
  cases hx : xs[i]? with
  | none => rw [hx] at h; cases h
  | some x =>
    rw [hx] at h
    cases h
    exact ⟨x, rfl, rfl⟩
theorem all_snoc {α : Type} {p : α → Prop} {ds : List α} {d : α} (h : ∀ e ∈ ds, p e) (hd : p d) : ∀ e ∈ ds ++ [d], p e := by
  intro e he
  rcases List.mem_append.mp he with he | he
  · exact h e he
  · rw [List.mem_singleton] at he
    rw [he]
    exact hd
/-! drawn data -/
def anyW : Nat → Nat
  | 0 => 450
  | n + 1 => 3 * (anyW n + 24)
theorem anyW_ge : ∀ n, 450 ≤ anyW n
  | 0 => Nat.le_refl _
  | n + 1 => by
    have := anyW_ge n
    show 450 ≤ 3 * (anyW n + 24)
    omega
theorem putD_all {p : Key × D → Prop} {kvs : List (Key × D)} {q : Key} {d : D} (h : ∀ z ∈ kvs, p z) (hd : p (q, d)) : ∀ z ∈ putD kvs q d, p z := by
  unfold putD
  split
  · intro z hz
    obtain ⟨y, hy, rfl⟩ := List.mem_map.mp hz
    split
    · rename_i e
      rw [e]
      exact hd
    · exact h y hy
  · intro z hz
    rcases List.mem_append.mp hz with hz | hz
    · exact h z hz
    · rw [List.mem_singleton] at hz
      rw [hz]
      exact hd
theorem putD_len (kvs : List (Key × D)) (q : Key) (d : D) : (putD kvs q d).length ≤ kvs.length + 1 := by
  unfold putD
  split
  · rw [List.length_map]
    omega
  · simp
theorem dictD_all {p : Key × D → Prop} {ps : List (Key × D)} (h : ∀ z ∈ ps, p z) : (∀ z ∈ dictD ps, p z) ∧ (dictD ps).length ≤ ps.length := by
  unfold dictD
  have key : ∀ (ps acc : List (Key × D)), (∀ z ∈ ps, p z) → (∀ z ∈ acc, p z) → (∀ z ∈ ps.foldl (fun acc kv => putD acc kv.1 kv.2) acc, p z) ∧ (ps.foldl (fun acc kv => putD acc kv.1 kv.2) acc).length ≤ acc.length + ps.length := by
    intro ps
    induction ps with
    | nil => exact fun acc _ h => ⟨h, Nat.le_refl _⟩
    | cons z r ih =>
      intro acc h h2
      have h3 := putD_all h2 (q := z.1) (d := z.2) (h z (List.mem_cons_self ..))
      obtain ⟨i1, i2⟩ := ih (putD acc z.1 z.2) (fun y hy => h y (List.mem_cons_of_mem _ hy)) h3
      have := putD_len acc z.1 z.2
      refine ⟨i1, ?_⟩
      rw [List.length_cons]
      exact Nat.le_trans i2 (by omega)
  have := key ps [] h (by simp)
  simpa using this
theorem wtK_le {w : Nat} : ∀ {ds : List (Key × D)}, (∀ z ∈ ds, wt z.2 ≤ w) → wtK ds ≤ ds.length * (w + 24)
  | [], _ => Nat.zero_le _
  | (q, d) :: r, h => by
    have h1 := h (q, d) (List.mem_cons_self ..)
    have h2 := wtK_le fun e he => h e (List.mem_cons_of_mem _ he)
    show wt d + 24 + wtK r ≤ _
    rw [List.length_cons, Nat.add_mul]
    simp only at h1
    omega
theorem enum_at {ds : List D} {i : Nat} {e : D} (h : (enumD ds)[i]? = some e) : ∃ d, d ∈ ds ∧ i < ds.length ∧ e = .tuple [.int (i : Int), d] := by
  unfold enumD at h
  rw [List.getElem?_zipWith] at h
  by_cases hi : i < ds.length
  · rw [List.getElem?_range hi, List.getElem?_eq_getElem hi] at h
    cases h
    exact ⟨_, List.getElem_mem hi, hi, rfl⟩
  · rw [List.getElem?_eq_none (l := ds) (by omega)] at h
    cases hr : (List.range ds.length)[i]? <;> rw [hr] at h <;> cases h
theorem key3 {i : Nat} (h : i < 3) : keyOk (.inr (Str.ofString (toString (i : Int)))) = true ∧ (i : Int).natAbs.log2 < 1920 := by
  have : i = 0 ∨ i = 1 ∨ i = 2 := by omega
  rcases this with rfl | rfl | rfl <;> exact ⟨by decide +kernel, by decide⟩
def anyAtoms : List D := [D.int 0, D.int 1, D.int (-1), D.int 7, D.int 100, D.int (10 ^ Int.toNat 39), D.bool true, D.bool false, D.none, D.str "", D.str "level", D.str "go", D.str "a b~", D.str "x\n", D.tuple [], D.list [], D.dK [], D.tuple [D.int 0, D.int 1], D.tuple [D.int 1, D.int 1]]
theorem anyAtoms_ok : ∀ d ∈ anyAtoms, gd 1 d = true ∧ wt d ≤ 450 := by
  intro d hd
  unfold anyAtoms at hd
  simp only [List.mem_cons, List.not_mem_nil, or_false] at hd
  rcases hd with rfl | rfl | rfl | rfl | rfl | rfl | rfl | rfl | rfl | rfl | rfl | rfl | rfl | rfl | rfl | rfl | rfl | rfl | rfl <;> exact ⟨by decide +kernel, by decide +kernel⟩
theorem anyW2 : anyW 2 = 4338 := by simp [anyW]
theorem anyW3 : anyW 3 = 13086 := by simp [anyW]
theorem asc_app {x y : Str} (hx : asc x = true) (hy : asc y = true) : asc (x ++ y) = true := by
  unfold asc at *
  rw [Str.cps_append, Array.toList_append, List.all_append, hx, hy]
  rfl
theorem asc_cut {x : Str} (hx : asc x = true) (lo hi : Option Int) : asc (cutS x lo hi) = true ∧ (cutS x lo hi).length ≤ x.length := by
  unfold asc at *
  unfold cutS
  constructor
  · rw [List.all_eq_true] at hx ⊢
    intro c hc
    exact hx c (List.mem_of_mem_drop (List.mem_of_mem_take (by simpa using hc)))
  · show (List.toArray _).size ≤ x.cps.toList.length
    rw [List.size_toArray, List.length_take, List.length_drop]
    omega
theorem up1_asc : ∀ c, c < 128 → PyProof.Rows.up1 c < 128 := by
  intro c h
  unfold PyProof.Rows.up1
  split <;> omega
theorem asc_up {x : Str} (hx : asc x = true) : asc (Txt.upper x) = true ∧ (Txt.upper x).length = x.length := by
  have e := PyProof.Rows.upper_ascii (x := x) (asc_ok hx)
  rw [e]
  constructor
  · unfold asc
    rw [List.all_eq_true]
    intro c hc
    have hc2 : c ∈ (x.cps.toList.map PyProof.Rows.up1) := by
      have : (x.cps.map PyProof.Rows.up1).toList = x.cps.toList.map PyProof.Rows.up1 := Array.toList_map
      rw [← this]
      exact hc
    obtain ⟨y, hy, rfl⟩ := List.mem_map.mp hc2
    exact decide_eq_true (up1_asc y (asc_ok hx y hy))
  · show (x.cps.map PyProof.Rows.up1).size = x.cps.size
    rw [Array.size_map]
theorem asc_int (i : Int) : asc (Str.ofString (toString i)) = true := by
  unfold asc
  rw [List.all_eq_true]
  intro c hc
  refine decide_eq_true ?_
  by_cases h : c = 45 ∨ (48 ≤ c ∧ c ≤ 57)
  · omega
  · exact absurd hc (PyProof.Rows.shown_int_free' (by omega) i)
theorem cut_last (ds : List D) : (cutD ds (some (-1)) none).length ≤ 1 := by
  unfold cutD
  rw [List.length_take, List.length_drop, HT.sIx_none]
  have e : HT.sIx ds.length 0 (some (-1)) = (-1 + (ds.length : Int)).toNat := rfl
  rw [e]
  omega
theorem len_str (x y : Str) : (x ++ y).length = x.length + y.length := Str.length_append x y
theorem six_in {n d : Nat} {a : Int} (h0 : 0 ≤ a) (h1 : a ≤ (n : Int)) : HT.sIx n d (some a) = a.toNat := by
  have e : a = ((a.toNat : Nat) : Int) := by omega
  rw [e, HT.sIx_nat]
  omega
theorem cut_to {ds : List D} {a : Int} (h0 : 0 ≤ a) (h1 : a ≤ (ds.length : Int)) : cutD ds none (some a) = ds.take a.toNat := by
  unfold cutD
  rw [six_in h0 h1, HT.sIx_none]
  rfl
theorem cut_from {ds : List D} {a : Int} (h0 : 0 ≤ a) (h1 : a ≤ (ds.length : Int)) : cutD ds (some a) none = ds.drop a.toNat := by
  unfold cutD
  rw [six_in h0 h1, HT.sIx_none]
  exact List.take_of_length_le (by rw [List.length_drop]; omega)
theorem cut_one {ds : List D} {a : Int} (h0 : 0 ≤ a) (h1 : a < (ds.length : Int)) : cutD ds (some a) (some (a + 1)) = (ds.drop a.toNat).take 1 := by
  unfold cutD
  rw [six_in h0 (by omega), six_in (by omega) (by omega)]
  have : (a + 1).toNat - a.toNat = 1 := by omega
  rw [this]
theorem wts_at {ds : List D} {a : Nat} {x : D} (h : ds[a]? = some x) : wts ds = wts (ds.take a) + (wt x + 1) + wts (ds.drop (a + 1)) := by
  obtain ⟨ha, e⟩ := List.getElem?_eq_some_iff.mp h
  have h1 : ds = ds.take a ++ (x :: ds.drop (a + 1)) := by
    rw [← e, ← List.drop_eq_getElem_cons ha, List.take_append_drop]
  have h2 := congrArg wts h1
  rw [wts_app] at h2
  have h3 : wts (x :: ds.drop (a + 1)) = wt x + 1 + wts (ds.drop (a + 1)) := rfl
  omega
theorem wts_set {ds : List D} {a : Nat} {x y : D} (h : ds[a]? = some x) : wts (ds.set a y) + wt x = wts ds + wt y := by
  have h1 := wts_at h
  have ha := (List.getElem?_eq_some_iff.mp h).1
  have h2 : (ds.set a y)[a]? = some y := List.getElem?_set_self ha
  have h3 := wts_at h2
  have e1 : (ds.set a y).take a = ds.take a := by rw [List.take_set_of_le (Nat.le_refl _)]
  have e2 : (ds.set a y).drop (a + 1) = ds.drop (a + 1) := by rw [List.drop_set_of_lt (by omega)]
  rw [e1, e2] at h3
  omega
theorem at_get {ds : List D} {a : Int} (h0 : 0 ≤ a) (h1 : a < (ds.length : Int)) : ∃ x, ds[a.toNat]? = some x ∧ atI ds a = some x ∧ x ∈ ds := by
  have hlt : a.toNat < ds.length := by omega
  refine ⟨ds[a.toNat], List.getElem?_eq_getElem hlt, ?_, List.getElem_mem hlt⟩
  have e := atI_nat (List.getElem?_eq_getElem hlt)
  rw [Int.toNat_of_nonneg h0] at e
  exact e
theorem ixN_in {n : Nat} {a : Int} (h0 : 0 ≤ a) (h1 : a < (n : Int)) : ixN n a = some a.toNat := by
  unfold ixN
  rw [if_pos h0, if_pos h1]
theorem mem_set_of {ds : List D} {a : Nat} {y d : D} (h : d ∈ ds.set a y) : d ∈ ds ∨ d = y := by
  rcases List.mem_or_eq_of_mem_set h with h | h
  · exact .inl h
  · exact .inr h
/-! near data -/
def Atm (d : D) : Prop := gd 0 d = true ∧ wt d ≤ 201
theorem atmI {i : Int} (h : Bd 130 i) : Atm (.int i) := ⟨gd_intM h, Nat.le_refl _⟩
theorem atmJ {i : Int} (h : i.natAbs < 18446744073709551616) : Atm (.int i) := atmI (bd_of h)
theorem atmB (b : Bool) : Atm (.bool b) := ⟨rfl, by simp only [wt]; decide⟩
theorem atmN : Atm .none := ⟨rfl, by decide +kernel⟩
theorem atmS {x : Str} (h : asc x = true) (hl : x.length ≤ 200) : Atm (.str x) := ⟨gd_strM h (by omega) (by omega), by simp only [wt]; omega⟩
theorem atmNm {x : Str} (h : nameS x = true) : Atm (.str x) := ⟨(name_gd h 0).1, by have := (name_gd h 0).2; simp only [wt]; omega⟩
/-- a tuple or list of few atoms -/
def Row (d : D) : Prop := gd 2 d = true ∧ wt d ≤ 1400
theorem rowT {ds : List D} (h : ∀ d ∈ ds, Atm d) (hl : ds.length ≤ 6) : Row (.tuple ds) := by
  have h1 := wts_le fun d hd => (h d hd).2
  have h2 : ds.length * (201 + 1) ≤ 6 * 202 := Nat.mul_le_mul_right _ hl
  exact ⟨gd_le (gd_mk (n := 0) (by omega) fun d hd => (h d hd).1) (by decide), by simp only [wt]; omega⟩
theorem rowL {ds : List D} (h : ∀ d ∈ ds, Atm d) (hl : ds.length ≤ 6) : Row (.list ds) := by
  have h1 := wts_le fun d hd => (h d hd).2
  have h2 : ds.length * (201 + 1) ≤ 6 * 202 := Nat.mul_le_mul_right _ hl
  exact ⟨gd_le (gd_mkL (n := 0) (by omega) fun d hd => (h d hd).1) (by decide), by simp only [wt]; omega⟩
theorem all_nil {p : D → Prop} : ∀ d ∈ ([] : List D), p d := by simp
theorem all_cons {p : D → Prop} {x : D} {r : List D} (h : p x) (h2 : ∀ d ∈ r, p d) : ∀ d ∈ x :: r, p d := by
  intro d hd
  rcases List.mem_cons.mp hd with rfl | hd
  · exact h
  · exact h2 d hd
theorem all_app {p : D → Prop} {a b : List D} (h : ∀ d ∈ a, p d) (h2 : ∀ d ∈ b, p d) : ∀ d ∈ a ++ b, p d := fun d hd => (List.mem_append.mp hd).elim (h d) (h2 d)
/-- a rig with something else at one place -/
def Far (d : D) : Prop := gd 10 d = true ∧ wt d ≤ 30000
theorem far_row {d : D} (h : Row d) : Far d := ⟨gd_le h.1 (by decide), by have := h.2; omega⟩
theorem far_put {ls : List D} {a : Nat} {x e : D} (hg : gd 4 (.tuple ls) = true) (hw : wt (.tuple ls) ≤ 7700) (l4 : ls.length ≤ 4) (hx : ls[a]? = some x) (he : gd 8 e = true) (hwe : wt e ≤ 9000) : Far (.tuple (ls.take a ++ [e] ++ ls.drop (a + 1))) := by
  have hm := (gd_tupD hg).2
  have hm8 : ∀ d ∈ ls, gd 8 d = true := fun d hd => gd_le (hm d hd) (by decide)
  have h1 := wts_at hx
  have hw2 : wts ls ≤ 7700 := hw
  refine ⟨gd_le (gd_mk (n := 8) ?_ (all_app (all_snoc (fun d hd => hm8 d (List.mem_of_mem_take hd)) he) fun d hd => hm8 d (List.mem_of_mem_drop hd))) (by decide), ?_⟩
  · simp
    omega
  · show wts _ ≤ _
    rw [wts_app, wts_app]
    have : wts [e] = wt e + 1 := rfl
    omega
theorem take_le {M mu : Mu} (h : M.take mu.length = mu) : mu.length ≤ M.length := by
  have := congrArg List.length h
  rw [List.length_take] at this
  omega
def seqB (mu : Mu) : B → Option (List D)
  | .dat d => seqD d
  | .ref c => match mu[c]? with
    | some (.lst ds) => some ds
    | _ => none
theorem seqB_ref {mu : Mu} {c : Nat} {ds : List D} (h : seqB mu (.ref c) = some ds) : mu[c]? = some (.lst ds) := by
  unfold seqB at h
  cases hc : mu[c]? with
  | none => simp [hc] at h
  | some o =>
    cases o <;> simp [hc] at h
    rw [h]
theorem seqB_r {mu : Mu} {c : Nat} {ds : List D} (h : mu[c]? = some (.lst ds)) : seqB mu (.ref c) = some ds := by
  unfold seqB
  simp only [h]
theorem row_lamp {x : Str} (nx : nameS x = true) {es : List D} (h : ∀ d ∈ es, Row d) (hl : es.length ≤ 2) : gd 8 (.tuple [.str x, .tuple es]) = true ∧ wt (.tuple [.str x, .tuple es]) ≤ 9000 := by
  refine ⟨gd_mk (n := 7) (by simp) (all_cons (name_gd nx 7).1 (all_cons (gd_mk (n := 6) (by omega) fun d hd => gd_le (h d hd).1 (by decide)) all_nil)), ?_⟩
  have h1 := wts_le fun d hd => (h d hd).2
  have h2 : es.length * (1400 + 1) ≤ 2 * 1401 := Nat.mul_le_mul_right _ hl
  have h3 := (name_gd nx 0).2
  simp only [wt, wts]
  omega
theorem far_sub {ls es : List D} (hg : gd 4 (.tuple ls) = true) (hw : wt (.tuple ls) ≤ 7700) (h : ∀ d ∈ es, d ∈ ls) (hl : es.length ≤ 8) (h2 : wts es ≤ 2 * wts ls) : Far (.tuple es) ∧ Far (.list es) := by
  have hm := (gd_tupD hg).2
  have hw2 : wts ls ≤ 7700 := hw
  have hm9 : ∀ d ∈ es, gd 9 d = true := fun d hd => gd_le (hm d (h d hd)) (by decide)
  exact ⟨⟨gd_mk (n := 9) (by omega) hm9, by simp only [wt]; omega⟩, ⟨gd_mkL (n := 9) (by omega) hm9, by simp only [wt]; omega⟩⟩
theorem far_mem {ls : List D} {d : D} (hg : gd 4 (.tuple ls) = true) (hw : wt (.tuple ls) ≤ 7700) (h : d ∈ ls) : Far d ∧ gd 3 d = true ∧ wt d ≤ 7700 := by
  have hm := (gd_tupD hg).2
  have hw2 : wts ls ≤ 7700 := hw
  have h1 := wts_mem h
  have h3 : gd 3 d = true := hm d h
  exact ⟨⟨gd_le h3 (by decide), by omega⟩, h3, by omega⟩
theorem pair_ok {p q : D} (hp : gd 7 p = true) (hq : gd 7 q = true) (h : wt p + wt q ≤ 8900) : gd 8 (.tuple [p, q]) = true ∧ wt (.tuple [p, q]) ≤ 9000 :=
  ⟨gd_mk (n := 7) (by simp) (all_cons hp (all_cons hq all_nil)), by simp only [wt, wts]; omega⟩
end My

set_option Elab.async false
set_option linter.all false
set_option maxRecDepth 100000
set_option maxHeartbeats 4000000
namespace My
open PySem L2 DL
/-! traces -/
def lt3 : D → D → D → Bool
  | .int c, .int e, .int f => decide (f < c + e)
  | _, _, _ => false
def pathD : D → Bool
  | .tuple [a, b] => fromI a 0 && isI b
  | .tuple [a, b, c, e, f] => fromI a 0 && (isI b && (fromI c 0 && (fromI e 0 && (fromI f 0 && lt3 c e f))))
  | _ => false
def traceD : D → Bool
  | .tuple [a, b] => fromI a 0 && isI b
  | .tuple [a, b, c, e, f, g] => (fromI a 0 && (isI b && (fromI c 0 && (fromI e 0 && (fromI f 0 && lt3 c e f))))) && frD g
  | _ => false
theorem fromI_of {d : D} {l : Int} (h : fromI d l = true) : ∃ i, d = .int i ∧ l ≤ i := by
  cases d with
  | int i => exact ⟨i, rfl, of_decide_eq_true h⟩
  | _ => cases h
theorem frD_of {d : D} (h : frD d = true) : ∃ n e, d = fr n e ∧ IsFr n e := by
  unfold frD at h
  split at h
  · unfold fr2 at h
    split at h
    · rename_i n e
      simp only [Bool.and_eq_true, decide_eq_true_eq] at h
      exact ⟨n, e, rfl, h.1, h.2⟩
    · cases h
  · cases h
theorem trace_of {d : D} (h : traceD d = true) : (∃ s t, d = .tuple [.int s, .int t] ∧ 0 ≤ s) ∨
    ∃ s t dl tm ag n e, d = .tuple [.int s, .int t, .int dl, .int tm, .int ag, fr n e] ∧ 0 ≤ s ∧ 0 ≤ dl ∧ 0 ≤ tm ∧ 0 ≤ ag ∧ ag < dl + tm ∧ IsFr n e := by
  unfold traceD at h
  split at h
  · simp only [Bool.and_eq_true] at h
    obtain ⟨s, rfl, hs⟩ := fromI_of h.1
    obtain ⟨t, rfl⟩ := isI_of h.2
    exact .inl ⟨s, t, rfl, hs⟩
  · simp only [Bool.and_eq_true] at h
    obtain ⟨⟨h1, h2, h3, h4, h5, h6⟩, h7⟩ := h
    obtain ⟨s, rfl, hs⟩ := fromI_of h1
    obtain ⟨t, rfl⟩ := isI_of h2
    obtain ⟨dl, rfl, hd⟩ := fromI_of h3
    obtain ⟨tm, rfl, ht⟩ := fromI_of h4
    obtain ⟨ag, rfl, ha⟩ := fromI_of h5
    obtain ⟨n, e, rfl, hf⟩ := frD_of h7
    exact .inr ⟨s, t, dl, tm, ag, n, e, rfl, hs, hd, ht, ha, of_decide_eq_true h6, hf⟩
  · cases h
theorem trace_two {s t : Int} (h : 0 ≤ s) : traceD (.tuple [.int s, .int t]) = true := by
  show (fromI (.int s) 0 && isI (.int t)) = true
  simp [fromI, isI, h]
theorem trace_six {s t dl tm ag n e : Int} (h1 : 0 ≤ s) (h2 : 0 ≤ dl) (h3 : 0 ≤ tm) (h4 : 0 ≤ ag) (h5 : ag < dl + tm) (h6 : IsFr n e) : traceD (.tuple [.int s, .int t, .int dl, .int tm, .int ag, fr n e]) = true := by
  simp only [traceD, fromI, isI, lt3, frD, fr2, Bool.and_eq_true, decide_eq_true_eq]
  exact ⟨⟨h1, trivial, h2, h3, h4, h5⟩, h6.1, h6.2⟩
/-- the fraction for p over q, q from 1 on -/
def frq (p q : Int) : D := fr (p.fdiv ((Nat.gcd p.natAbs q.natAbs : Nat) : Int)) (q.fdiv ((Nat.gcd p.natAbs q.natAbs : Nat) : Int))
theorem frq_ok {p q : Int} (hq : 0 < q) : ∃ n d, frq p q = fr n d ∧ FrOf p q n d := by
  obtain ⟨_, _, hf⟩ := low_ok (n := p) (d := q) (by omega) (c := ((Nat.gcd p.natAbs q.natAbs : Nat) : Int)) (by rw [if_neg (by omega)])
  exact ⟨_, _, rfl, hf⟩
theorem frq_of {p q n d : Int} (hq : 0 < q) (h : FrOf p q n d) : fr n d = frq p q := by
  obtain ⟨n', d', e, hf⟩ := frq_ok (p := p) hq
  rw [e]
  obtain ⟨rfl, rfl⟩ := h.unique (by omega) hf
  rfl
def valD : D → D
  | .tuple [_, .int t] => fr t 1
  | .tuple [_, .int t, .int dl, .int tm, .int ag, .tuple [.int n, .int d]] => if ag ≤ dl then fr n d else frq (n * tm + (t * d - n) * (ag - dl)) (d * tm)
  | _ => .none
/-- bounds of a trace's numbers -/
def trOk : D → Prop
  | .tuple [_, .int t, .int dl, .int tm, .int ag, .tuple [.int n, .int d]] => Bd 1600 t ∧ Bd 1600 dl ∧ Bd 1600 tm ∧ Bd 1600 ag ∧ Bd 1600 n ∧ Bd 1600 d
  | _ => True
theorem trOk_six {s t dl tm ag n e : Int} : trOk (.tuple [.int s, .int t, .int dl, .int tm, .int ag, fr n e]) = (Bd 1600 t ∧ Bd 1600 dl ∧ Bd 1600 tm ∧ Bd 1600 ag ∧ Bd 1600 n ∧ Bd 1600 e) := rfl
theorem val_two (s t : Int) : valD (.tuple [.int s, .int t]) = fr t 1 := rfl
theorem val_six (s t dl tm ag n d : Int) : valD (.tuple [.int s, .int t, .int dl, .int tm, .int ag, fr n d]) = if ag ≤ dl then fr n d else frq (n * tm + (t * d - n) * (ag - dl)) (d * tm) := rfl
/-- data that can be looked at: no instances, lengths below 1000 -/
def nz : Nat → D → Bool
  | 0, d => match d with
    | .none | .bool _ | .int _ | .str _ | .dK _ => true
    | .list ds | .tuple ds => decide (ds.length ≤ 1000)
    | _ => false
  | n + 1, d => match d with
    | .none | .bool _ | .int _ | .str _ | .dK _ => true
    | .list ds | .tuple ds => decide (ds.length ≤ 1000) && ds.all (nz n)
    | _ => false
theorem nz_okT {n : Nat} {d : D} (h : nz n d = true) : okT d = true := by
  cases n <;> cases d <;> first | rfl | cases h
theorem nz_tup {n : Nat} {ds : List D} (h : nz (n + 1) (.tuple ds) = true) : ds.length ≤ 1000 ∧ ∀ d ∈ ds, nz n d = true := by
  have h' : (decide (ds.length ≤ 1000) && ds.all (nz n)) = true := h
  rw [Bool.and_eq_true, List.all_eq_true, decide_eq_true_eq] at h'
  exact h'
theorem nz_mk {n : Nat} {ds : List D} (h1 : ds.length ≤ 1000) (h2 : ∀ d ∈ ds, nz n d = true) : nz (n + 1) (.tuple ds) = true := by
  show (decide (ds.length ≤ 1000) && ds.all (nz n)) = true
  rw [Bool.and_eq_true, List.all_eq_true, decide_eq_true_eq]
  exact ⟨h1, h2⟩
theorem nz_int (n : Nat) (i : Int) : nz n (.int i) = true := by cases n <;> rfl
theorem gd_len {n : Nat} {ds : List D} (h : gd n (.list ds) = true) : ds.length ≤ 1000 ∧ ∀ d ∈ ds, gd (n - 1) d = true := by
  cases n with
  | zero => cases h
  | succ n =>
    rw [gd_lst, Bool.and_eq_true, List.all_eq_true, decide_eq_true_eq] at h
    exact ⟨by omega, h.2⟩
theorem gd_nz : ∀ (m : Nat) {n : Nat} {d : D}, gd n d = true → nz m d = true
  | 0, n, d, h => by
    cases d with
    | list ds => exact decide_eq_true (gd_len h).1
    | tuple ds => exact decide_eq_true (gd_tupD h).1
    | dT _ => cases n <;> cases h
    | ins _ _ => cases n <;> cases h
    | fn _ => cases n <;> cases h
    | _ => rfl
  | m + 1, n, d, h => by
    cases d with
    | list ds =>
      show (decide (ds.length ≤ 1000) && ds.all (nz m)) = true
      rw [Bool.and_eq_true, List.all_eq_true, decide_eq_true_eq]
      exact ⟨(gd_len h).1, fun d hd => gd_nz m ((gd_len h).2 d hd)⟩
    | tuple ds => exact nz_mk (gd_tupD h).1 fun d hd => gd_nz m ((gd_tupD h).2 d hd)
    | dT _ => cases n <;> cases h
    | ins _ _ => cases n <;> cases h
    | fn _ => cases n <;> cases h
    | _ => rfl
theorem gd_trOk {n : Nat} {d : D} (h : gd n d = true) : trOk d := by
  unfold trOk
  split
  · rename_i x t dl tm ag n1 d1
    obtain ⟨_, hg⟩ := gd_tupD h
    have g1 := gd_intD (hg (.int t) (by simp))
    have g2 := gd_intD (hg (.int dl) (by simp))
    have g3 := gd_intD (hg (.int tm) (by simp))
    have g4 := gd_intD (hg (.int ag) (by simp))
    obtain ⟨_, hf⟩ := gd_tupD (hg (.tuple [.int n1, .int d1]) (by simp))
    have g5 := gd_intD (hf (.int n1) (by simp))
    have g6 := gd_intD (hf (.int d1) (by simp))
    exact ⟨g1.mono (by decide), g2.mono (by decide), g3.mono (by decide), g4.mono (by decide), g5.mono (by decide), g6.mono (by decide)⟩
  · trivial
/-- what a value is bounded by -/
theorem val_bd {a b c : Nat} {s t dl tm ag n e : Int} (hbc : c ≤ b) (h3 : 0 ≤ tm) (h2 : 0 ≤ dl) (h5 : ag < dl + tm) (hf : IsFr n e) (b1 : Bd b t) (b2 : Bd c dl) (b3 : Bd c tm) (b4 : Bd c ag) (c1 : Bd a n) (c2 : Bd a e) :
    ∃ n2 d2, valD (.tuple [.int s, .int t, .int dl, .int tm, .int ag, fr n e]) = fr n2 d2 ∧ IsFr n2 d2 ∧ Bd (a + b + c + 2) n2 ∧ Bd (a + b + c + 2) d2 := by
  rw [val_six]
  by_cases cc : ag ≤ dl
  · rw [if_pos cc]
    exact ⟨n, e, rfl, hf, c1.mono (by omega), c2.mono (by omega)⟩
  · rw [if_neg cc]
    have ht : 0 < tm := by omega
    have hq : 0 < e * tm := Int.mul_pos (by have := hf.1; omega) ht
    obtain ⟨n2, d2, e2, hfo⟩ := frq_ok (p := n * tm + (t * e - n) * (ag - dl)) hq
    have hd : Bd c (ag - dl) := b4.le (by omega)
    have p1 : Bd (a + c) (n * tm) := c1.mul b3
    have p2 : Bd (a + b + 1) (t * e - n) := Bd.sub ((b1.mul c2).mono (by omega)) (c1.mono (by omega))
    have p3 : Bd (a + b + c + 1) ((t * e - n) * (ag - dl)) := (p2.mul hd).mono (by omega)
    have p4 : Bd (a + b + c + 2) (n * tm + (t * e - n) * (ag - dl)) := Bd.add (p1.mono (by omega)) p3
    have p5 : Bd (a + b + c + 2) (e * tm) := (c2.mul b3).mono (by omega)
    obtain ⟨r1, r2⟩ := frOf_bd (by omega) hfo p4 p5
    exact ⟨n2, d2, e2, hfo.1, r1, r2⟩
theorem val_gd {m : Nat} {d : D} (h : gd m d = true) (ht : traceD d = true) : ∃ n2 d2, valD d = fr n2 d2 ∧ Bd 600 n2 ∧ Bd 600 d2 := by
  rcases trace_of ht with ⟨s, t, rfl, hs⟩ | ⟨s, t, dl, tm, ag, n, e, rfl, hs, hd, htm, ha, hlt, hf⟩
  · obtain ⟨_, hg⟩ := gd_tupD h
    exact ⟨t, 1, rfl, (gd_intD (hg (.int t) (by simp))).mono (by decide), by decide⟩
  · obtain ⟨_, hg⟩ := gd_tupD h
    obtain ⟨_, hf2⟩ := gd_tupD (hg (.tuple [.int n, .int e]) (by simp))
    obtain ⟨n2, d2, e1, _, e2, e3⟩ := val_bd (s := s) (a := 190) (Nat.le_refl 190) htm hd hlt hf (gd_intD (hg (.int t) (by simp))) (gd_intD (hg (.int dl) (by simp))) (gd_intD (hg (.int tm) (by simp))) (gd_intD (hg (.int ag) (by simp))) (gd_intD (hf2 (.int n) (by simp))) (gd_intD (hf2 (.int e) (by simp)))
    exact ⟨n2, d2, e1, e2.mono (by decide), e3.mono (by decide)⟩
/-! what repr asks of values -/
theorem int_short {i : Int} (h : Bd 1900 i) : (PyData.int i).shown.length ≤ 1901 := int_len h (by decide)
theorem repr_fr {n d : Int} (h1 : Bd 1900 n) (h2 : Bd 1900 d) : ReprOk (fr n d) := by
  have l1 : n.natAbs.log2 < 1900 := PySem.Flt.log2_lt_of (by decide) h1
  have l2 : d.natAbs.log2 < 1900 := PySem.Flt.log2_lt_of (by decide) h2
  have m1 : n.natAbs.log2 < 1920 := by omega
  have m2 : d.natAbs.log2 < 1920 := by omega
  have s1 := int_short h1
  have s2 := int_short h2
  have ls : (py (fr n d)).leavesShort 1901 = true := by
    simp only [fr, py, pys, PyData.leavesShort, PyData.leavesShortAll, Bool.and_eq_true, decide_eq_true_eq]
    exact ⟨s1, s2, trivial⟩
  refine ⟨rfl, by simp [fr, py, pys, PyData.showable, PyData.showableAll, m1, m2], by simp [fr, py, pys, PyData.depth, PyData.depthAll], ?_⟩
  have := PyData.shown_le 1901 (by decide) (py (fr n d)) ls
  have w : (py (fr n d)).weight ≤ 5000 := by
    simp only [fr, py, pys, PyData.weight, PyData.weightAll]
    repeat' split
    all_goals omega
  rw [sizeLine_eq]
  refine Nat.le_trans this ?_
  omega
theorem repr_told {w : Str} {n d : Int} (hw : asc w = true) (hl : w.length ≤ 10) (h1 : Bd 1900 n) (h2 : Bd 1900 d) : ReprOk (.tuple [.str w, fr n d]) := by
  have l1 : n.natAbs.log2 < 1900 := PySem.Flt.log2_lt_of (by decide) h1
  have l2 : d.natAbs.log2 < 1900 := PySem.Flt.log2_lt_of (by decide) h2
  have m1 : n.natAbs.log2 < 1920 := by omega
  have m2 : d.natAbs.log2 < 1920 := by omega
  have s1 := int_short h1
  have s2 := int_short h2
  have s3 : ∀ c ∈ w.cps.toList, c < 128 := asc_ok hw
  have ls : (py (.tuple [.str w, fr n d])).leavesShort 1901 = true := by
    simp only [fr, py, pys, PyData.leavesShort, PyData.leavesShortAll, Bool.and_eq_true, decide_eq_true_eq, List.all_eq_true]
    exact ⟨fun c hc => by have := s3 c hc; omega, ⟨s1, s2, trivial⟩, trivial⟩
  refine ⟨rfl, by simp [fr, py, pys, PyData.showable, PyData.showableAll, m1, m2], by simp [fr, py, pys, PyData.depth, PyData.depthAll], ?_⟩
  have := PyData.shown_le 1901 (by decide) (py (.tuple [.str w, fr n d])) ls
  have e : w.length = w.cps.size := rfl
  have wt : (py (.tuple [.str w, fr n d])).weight ≤ 5000 := by
    simp only [fr, py, pys, PyData.weight, PyData.weightAll]
    repeat' split
    all_goals omega
  rw [sizeLine_eq]
  refine Nat.le_trans this ?_
  omega
theorem repr_bad {n : Nat} {w : Str} {d : D} (hw : asc w = true) (hl : w.length ≤ 10) (h : gd n d = true) (hn : n ≤ 50) (hwt : wt d ≤ 70000) : ReprOk (.tuple [.str w, .bool true, d]) := by
  refine gd_repr (n := n + 1) (gd_mk (by simp) fun e he => ?_) (by omega) ?_
  · simp only [List.mem_cons, List.not_mem_nil, or_false] at he
    rcases he with rfl | rfl | rfl
    · rw [gd_str, hw, Bool.true_and, decide_eq_true_eq]
      omega
    · exact gd_bool _ _
    · exact h
  · show wts [.str w, .bool true, d] ≤ 80000
    simp only [wts, wt]
    omega
theorem row25 (ds : List D) : (∃ a b, ds = [a, b]) ∨ (∃ a b c e f, ds = [a, b, c, e, f]) ∨ (¬ (ds.length : Int) = 2 ∧ ¬ (ds.length : Int) = 5 ∧ pathD (.tuple ds) = false) := by
  match ds with
  | [] => exact .inr (.inr ⟨by decide, by decide, rfl⟩)
  | [_] => exact .inr (.inr ⟨by simp, by simp, rfl⟩)
  | [a, b] => exact .inl ⟨a, b, rfl⟩
  | [_, _, _] => exact .inr (.inr ⟨by simp, by simp, rfl⟩)
  | [_, _, _, _] => exact .inr (.inr ⟨by simp, by simp, rfl⟩)
  | [a, b, c, d, e] => exact .inr (.inl ⟨a, b, c, d, e, rfl⟩)
  | _ :: _ :: _ :: _ :: _ :: _ :: r => exact .inr (.inr ⟨by simp only [List.length_cons]; omega, by simp only [List.length_cons]; omega, rfl⟩)
theorem row26 (ds : List D) : (∃ a b, ds = [a, b]) ∨ (∃ a b c e f g, ds = [a, b, c, e, f, g]) ∨ (¬ (ds.length : Int) = 2 ∧ ¬ (ds.length : Int) = 6 ∧ traceD (.tuple ds) = false) := by
  match ds with
  | [] => exact .inr (.inr ⟨by decide, by decide, rfl⟩)
  | [_] => exact .inr (.inr ⟨by simp, by simp, rfl⟩)
  | [a, b] => exact .inl ⟨a, b, rfl⟩
  | [_, _, _] => exact .inr (.inr ⟨by simp, by simp, rfl⟩)
  | [_, _, _, _] => exact .inr (.inr ⟨by simp, by simp, rfl⟩)
  | [_, _, _, _, _] => exact .inr (.inr ⟨by simp, by simp, rfl⟩)
  | [a, b, c, d, e, f] => exact .inr (.inl ⟨a, b, c, d, e, f, rfl⟩)
  | _ :: _ :: _ :: _ :: _ :: _ :: _ :: r => exact .inr (.inr ⟨by simp only [List.length_cons]; omega, by simp only [List.length_cons]; omega, rfl⟩)
theorem mix_of {a b c d s t x y u v n m : Int} (hv : v ≠ 0) (hy : y ≠ 0) (h1 : n * (b * v) = (a * v + u * b) * m) (h2 : u * (t * y) = s * x * v) (h3 : x * (d * b) = (c * b - a * d) * y) :
    n * (b * d * t) = ((t - s) * a * d + s * c * b) * m := by
  have h0 : v * y ≠ 0 := Int.mul_ne_zero hv hy
  refine Int.eq_of_mul_eq_mul_right h0 ?_
  grind
theorem val_of {n e T tm x s t r1 r2 : Int} (ht : t ≠ 0) (h1 : s * tm = x * t) (h2 : r1 * (e * 1 * t) = ((t - s) * n * 1 + s * T * e) * r2) : r1 * (e * tm) = (n * tm + (T * e - n) * x) * r2 := by
  refine Int.eq_of_mul_eq_mul_right ht ?_
  grind
theorem inD_two (n a b : Int) : inD (.int n) [.int a, .int b] = (decide (n = a) || decide (n = b)) := by
  have e : inD (.int n) [.int a, .int b] = ((a == n) || ((b == n) || false)) := by
    unfold inD inV
    simp [toV, eqV]
  rw [e, Bool.or_false]
  congr 1
  · rw [Bool.eq_iff_iff, beq_iff_eq, decide_eq_true_eq]
    exact eq_comm
  · rw [Bool.eq_iff_iff, beq_iff_eq, decide_eq_true_eq]
    exact eq_comm
theorem inD_25 (n : Int) : inD (.int n) [.int 2, .int (6 - 1)] = (decide (n = 2) || decide (n = 5)) := inD_two n 2 5
theorem inD_26 (n : Int) : inD (.int n) [.int 2, .int 6] = (decide (n = 2) || decide (n = 6)) := inD_two n 2 6
theorem someD {p : D → Prop} (a : D) : (∃ d, some a = some d ∧ p d) = p a := propext ⟨fun ⟨d, e, h⟩ => by cases e; exact h, fun h => ⟨a, rfl, h⟩⟩
theorem sGT_k (n : Nat) (gs : SemGs) (ds : List D) (en : En) (mu : Mu) (Q : KN) : sGT n gs (.dat (.tuple ds)) en mu Q = (ds.length = n ∧ gs ds en mu Q) := propext Iff.rfl
theorem sGTfr_k (gs : SemGs) (a b : Int) (en : En) (mu : Mu) (Q : KN) : sGT 2 gs (.dat (fr a b)) en mu Q = gs [.int a, .int b] en mu Q := propext ⟨fun h => h.2, fun h => ⟨rfl, h⟩⟩
theorem un6_k (a b c d e : D) (n m : Int) (x0 x1 x2 x3 x4 x5 x6 x7 : Option B) (mu : Mu) (Q : KN) :
    sGT 6 (sGcons (sGN 1) (sGcons (sGN 2) (sGcons (sGN 3) (sGcons (sGN 4) (sGcons (sGN 5) (sGcons (sGT 2 (sGcons (sGN 6) (sGcons (sGN 7) sGnil))) sGnil)))))) (.dat (.tuple [a, b, c, d, e, fr n m])) [x0, x1, x2, x3, x4, x5, x6, x7] mu Q =
      Q [x0, some (.dat a), some (.dat b), some (.dat c), some (.dat d), some (.dat e), some (.dat (.int n)), some (.dat (.int m))] mu := propext ⟨fun h => h.2.2, fun h => ⟨rfl, rfl, h⟩⟩
theorem sSkip_e (nx : KN) (rt : B → Mu → Prop) (bk ct : KN) (en : En) (mu : Mu) : sSkip ⟨nx, rt, bk, ct⟩ en mu = nx en mu := propext Iff.rfl
/-! small data: depth and weight at once -/
def aw : Nat → Nat
  | 0 => 201
  | n + 1 => 15 * (aw n + 1)
def A (n : Nat) (d : D) : Prop := gd n d = true ∧ wt d ≤ aw n
theorem A.up {n : Nat} {d : D} (h : A n d) : A (n + 1) d := ⟨gd_mono h.1, by have := h.2; simp only [aw]; omega⟩
theorem aI {i : Int} (h : Bd 130 i) : A 0 (.int i) := atmI h
theorem aJ {i : Int} (h : i.natAbs < 18446744073709551616) : A 0 (.int i) := atmJ h
theorem aB (b : Bool) : A 0 (.bool b) := atmB b
theorem aN : A 0 .none := atmN
theorem aS {x : Str} (h : asc x = true) (hl : x.length ≤ 200) : A 0 (.str x) := atmS h hl
theorem aT {n : Nat} {ds : List D} (h : ∀ d ∈ ds, A n d) (hl : ds.length ≤ 15) : A (n + 1) (.tuple ds) := by
  have h1 := wts_le fun d hd => (h d hd).2
  have h2 : ds.length * (aw n + 1) ≤ 15 * (aw n + 1) := Nat.mul_le_mul_right _ hl
  exact ⟨gd_mk (by omega) fun d hd => (h d hd).1, by simp only [wt, aw]; omega⟩
theorem aL {n : Nat} {ds : List D} (h : ∀ d ∈ ds, A n d) (hl : ds.length ≤ 15) : A (n + 1) (.list ds) := by
  have h1 := wts_le fun d hd => (h d hd).2
  have h2 : ds.length * (aw n + 1) ≤ 15 * (aw n + 1) := Nat.mul_le_mul_right _ hl
  exact ⟨gd_mkL (by omega) fun d hd => (h d hd).1, by simp only [wt, aw]; omega⟩
theorem aK (n : Nat) : A (n + 1) (.dK []) := ⟨rfl, by simp [wt, wtK]⟩
theorem a_cut {n : Nat} {ds : List D} (h : ∀ d ∈ ds, A n d) (lo hi : Option Int) : ∀ d ∈ cutD ds lo hi, A n d := fun d hd => h d (cut_mem hd)
/-- small ones that are handed on -/
def Out (d : D) : Prop := gd 3 d = true ∧ wt d ≤ 60000
theorem A.out {d : D} (h : A 2 d) : Out d := ⟨gd_mono h.1, by have := h.2; simp only [aw] at this; omega⟩
theorem out_one {d : D} (h : A 2 d) : Out (.tuple [d]) := ⟨gd_mk (by simp) (all_cons h.1 all_nil), by have := h.2; simp only [aw] at this; simp only [wt, wts]; omega⟩
/-- the traces that the law makes -/
def trP (k : Nat) (d : D) : Prop := (∃ s t, d = .tuple [.int s, .int t] ∧ 0 ≤ s ∧ Bd 14 s ∧ Bd 14 t) ∨
  ∃ s t dl tm ag n e, d = .tuple [.int s, .int t, .int dl, .int tm, .int ag, fr n e] ∧ 0 ≤ s ∧ 0 ≤ dl ∧ 0 ≤ tm ∧ 0 ≤ ag ∧ ag < dl + tm ∧ IsFr n e ∧ Bd 14 s ∧ Bd 14 t ∧ Bd 8 dl ∧ Bd 8 tm ∧ Bd 9 ag ∧ Bd k n ∧ Bd k e
theorem take3 (M a b c : Mu) : (M ++ a ++ b ++ c).take M.length = M := by rw [List.append_assoc, List.append_assoc, List.take_left]

theorem trP_trace {k : Nat} {d : D} (h : trP k d) : traceD d = true := by
  rcases h with ⟨s, t, rfl, s0, _⟩ | ⟨s, t, dl, tm, ag, n, e, rfl, s0, d0, t0, a0, alt, hf, _⟩
  · exact trace_two s0
  · exact trace_six s0 d0 t0 a0 alt hf
theorem trP_ok {d : D} (h : trP 1600 d) : trOk d := by
  rcases h with ⟨s, t, rfl, s0, _⟩ | ⟨s, t, dl, tm, ag, n, e, rfl, s0, d0, t0, a0, alt, hf, b1, b2, b3, b4, b5, b6, b7⟩
  · trivial
  · rw [trOk_six]
    exact ⟨b2.mono (by decide), b3.mono (by decide), b4.mono (by decide), b5.mono (by decide), b6, b7⟩
theorem trP_nz {k : Nat} {d : D} (h : trP k d) (m : Nat) : nz (m + 2) d = true := by
  rcases h with ⟨s, t, rfl, _⟩ | ⟨s, t, dl, tm, ag, n, e, rfl, _⟩
  · exact nz_mk (by simp) (all_cons (nz_int _ _) (all_cons (nz_int _ _) all_nil))
  · exact nz_mk (by simp) (all_cons (nz_int _ _) (all_cons (nz_int _ _) (all_cons (nz_int _ _) (all_cons (nz_int _ _) (all_cons (nz_int _ _) (all_cons (nz_mk (by simp) (all_cons (nz_int _ _) (all_cons (nz_int _ _) all_nil))) all_nil))))))
theorem trP_val {k : Nat} {d : D} (h : trP k d) : ∃ n e, valD d = fr n e ∧ IsFr n e ∧ Bd (k + 25) n ∧ Bd (k + 25) e := by
  rcases h with ⟨s, t, rfl, s0, b1, b2⟩ | ⟨s, t, dl, tm, ag, n, e, rfl, s0, d0, t0, a0, alt, hf, b1, b2, b3, b4, b5, b6, b7⟩
  · exact ⟨t, 1, rfl, isFr_one _, b2.mono (by omega), Bd.mono (a := 1) (by decide) (by omega)⟩
  · obtain ⟨n2, d2, e1, e2, e3, e4⟩ := val_bd (s := s) (by decide : 9 ≤ 14) t0 d0 alt hf b2 (b3.mono (by decide)) (b4.mono (by decide)) b5 b6 b7
    exact ⟨n2, d2, e1, e2, e3, e4⟩
/-- what value_at tells: the value, or nothing where it raises -/
def vG (d : D) : Option D := if traceD d = true then some (valD d) else none
def vPre (d : D) : Prop := (∃ n, nz (n + 2) d = true) ∧ trOk d
end My

set_option Elab.async false
set_option linter.all false
set_option maxRecDepth 100000
set_option maxHeartbeats 4000000

namespace My
open PySem L2 DL

def top (i : Nat) : Stmt := PySem.Challenge.pw_darkmoves_k14_values_of_cut_fades.main.body.getD i (.Pass ⟨0, 0, 0, 0⟩)
abbrev s_is_int : Stmt := top 5
abbrev s_is_from : Stmt := top 6
abbrev s_is_row : Stmt := top 7
abbrev s_is_fraction_value : Stmt := top 9
abbrev s_low : Stmt := top 10
abbrev s_as_f : Stmt := top 11
abbrev s_plus_f : Stmt := top 12
abbrev s_minus_f : Stmt := top 13
abbrev s_times_f : Stmt := top 14
abbrev s_mixed_f : Stmt := top 15
abbrev s_is_path : Stmt := top 19
abbrev s_is_trace_value : Stmt := top 20
abbrev s_is_due : Stmt := top 21
abbrev s_value_in : Stmt := top 22
abbrev s_value_at : Stmt := top 23
abbrev s_l_deck : Stmt := top 25
abbrev s_l_draw : Stmt := top 26
abbrev s_l_pick : Stmt := top 27
abbrev s_l_divisor : Stmt := top 28
abbrev s_l_lowest : Stmt := top 29
abbrev s_l_value_at : Stmt := top 30
abbrev s_l_is_any : Stmt := top 31
abbrev s_l_is_integer : Stmt := top 32
abbrev s_l_is_trace : Stmt := top 33
abbrev s_l_told : Stmt := top 34
abbrev s_l_fade : Stmt := top 35
abbrev s_l_otherwise : Stmt := top 36
abbrev s_l_is_right : Stmt := top 37
abbrev s_law : Stmt := top 38
theorem sc_is_int : FnScope ["thing"] ["thing"] (defScope s_is_int) := ⟨rfl, rfl, rfl, by decide +kernel, rfl, by decide +kernel, by decide +kernel⟩
theorem sc_is_from : FnScope ["thing", "least"] ["thing", "least"] (defScope s_is_from) := ⟨rfl, rfl, rfl, by decide +kernel, rfl, by decide +kernel, by decide +kernel⟩
theorem sc_is_row : FnScope ["thing", "many"] ["thing", "many"] (defScope s_is_row) := ⟨rfl, rfl, rfl, by decide +kernel, rfl, by decide +kernel, by decide +kernel⟩
theorem sc_is_fraction_value : FnScope ["thing"] ["thing"] (defScope s_is_fraction_value) := ⟨rfl, rfl, rfl, by decide +kernel, rfl, by decide +kernel, by decide +kernel⟩
theorem sc_low : FnScope ["n", "d", "common"] ["n", "d"] (defScope s_low) := ⟨rfl, rfl, rfl, by decide +kernel, rfl, by decide +kernel, by decide +kernel⟩
theorem sc_as_f : FnScope ["n"] ["n"] (defScope s_as_f) := ⟨rfl, rfl, rfl, by decide +kernel, rfl, by decide +kernel, by decide +kernel⟩
theorem sc_plus_f : FnScope ["one", "other"] ["one", "other"] (defScope s_plus_f) := ⟨rfl, rfl, rfl, by decide +kernel, rfl, by decide +kernel, by decide +kernel⟩
theorem sc_minus_f : FnScope ["one", "other"] ["one", "other"] (defScope s_minus_f) := ⟨rfl, rfl, rfl, by decide +kernel, rfl, by decide +kernel, by decide +kernel⟩
theorem sc_times_f : FnScope ["one", "other"] ["one", "other"] (defScope s_times_f) := ⟨rfl, rfl, rfl, by decide +kernel, rfl, by decide +kernel, by decide +kernel⟩
theorem sc_mixed_f : FnScope ["one", "other", "share"] ["one", "other", "share"] (defScope s_mixed_f) := ⟨rfl, rfl, rfl, by decide +kernel, rfl, by decide +kernel, by decide +kernel⟩
theorem sc_is_path : FnScope ["thing", "item"] ["thing"] (defScope s_is_path) := ⟨rfl, rfl, rfl, by decide +kernel, rfl, by decide +kernel, by decide +kernel⟩
theorem sc_is_trace_value : FnScope ["thing"] ["thing"] (defScope s_is_trace_value) := ⟨rfl, rfl, rfl, by decide +kernel, rfl, by decide +kernel, by decide +kernel⟩
theorem sc_is_due : FnScope ["trace"] ["trace"] (defScope s_is_due) := ⟨rfl, rfl, rfl, by decide +kernel, rfl, by decide +kernel, by decide +kernel⟩
theorem sc_value_in : FnScope ["trace", "source", "target", "delay", "time", "age", "start"] ["trace"] (defScope s_value_in) := ⟨rfl, rfl, rfl, by decide +kernel, rfl, by decide +kernel, by decide +kernel⟩
theorem sc_value_at : FnScope ["trace"] ["trace"] (defScope s_value_at) := ⟨rfl, rfl, rfl, by decide +kernel, rfl, by decide +kernel, by decide +kernel⟩
theorem sc_l_deck : FnScope ["script", "mixed", "cell"] ["script"] (defScope s_l_deck) := ⟨rfl, rfl, rfl, by decide +kernel, rfl, by decide +kernel, by decide +kernel⟩
theorem sc_l_draw : FnScope ["deck", "below", "figure", "cell"] ["deck", "below"] (defScope s_l_draw) := ⟨rfl, rfl, rfl, by decide +kernel, rfl, by decide +kernel, by decide +kernel⟩
theorem sc_l_pick : FnScope ["deck", "some"] ["deck", "some"] (defScope s_l_pick) := ⟨rfl, rfl, rfl, by decide +kernel, rfl, by decide +kernel, by decide +kernel⟩
theorem sc_l_divisor : FnScope ["one", "other"] ["one", "other"] (defScope s_l_divisor) := ⟨rfl, rfl, rfl, by decide +kernel, rfl, by decide +kernel, by decide +kernel⟩
theorem sc_l_lowest : FnScope ["n", "d", "by"] ["n", "d"] (defScope s_l_lowest) := ⟨rfl, rfl, rfl, by decide +kernel, rfl, by decide +kernel, by decide +kernel⟩
theorem sc_l_value_at : FnScope ["trace", "source", "target", "delay", "time", "age", "n", "d"] ["trace"] (defScope s_l_value_at) := ⟨rfl, rfl, rfl, by decide +kernel, rfl, by decide +kernel, by decide +kernel⟩
theorem sc_l_is_any : FnScope ["thing"] ["thing"] (defScope s_l_is_any) := ⟨rfl, rfl, rfl, by decide +kernel, rfl, by decide +kernel, by decide +kernel⟩
theorem sc_l_is_integer : FnScope ["thing", "least"] ["thing", "least"] (defScope s_l_is_integer) := ⟨rfl, rfl, rfl, by decide +kernel, rfl, by decide +kernel, by decide +kernel⟩
theorem sc_l_is_trace : FnScope ["thing", "it", "start"] ["thing"] (defScope s_l_is_trace) := ⟨rfl, rfl, rfl, by decide +kernel, rfl, by decide +kernel, by decide +kernel⟩
theorem sc_l_told : FnScope ["call", "e"] ["call"] (defScope s_l_told) := ⟨rfl, rfl, rfl, by decide +kernel, rfl, by decide +kernel, by decide +kernel⟩
theorem sc_l_fade : FnScope ["deck", "start", "delay", "time", "target"] ["deck", "start"] (defScope s_l_fade) := ⟨rfl, rfl, rfl, by decide +kernel, rfl, by decide +kernel, by decide +kernel⟩
theorem sc_l_otherwise : FnScope ["deck", "trace", "source", "target", "way", "some", "delay", "time", "age", "n", "d"] ["deck", "trace"] (defScope s_l_otherwise) := ⟨rfl, rfl, rfl, by decide +kernel, rfl, by decide +kernel, by decide +kernel⟩
theorem sc_l_is_right : FnScope ["deck", "trace", "named", "thing", "text", "due", "told"] ["deck", "trace"] (defScope s_l_is_right) := ⟨rfl, rfl, rfl, by decide +kernel, rfl, by decide +kernel, by decide +kernel⟩
theorem sc_law : FnScope ["script", "deck", "turn", "start", "many", "deep", "trace", "length", "ages", "go", "age"] ["script"] (defScope s_law) := ⟨rfl, rfl, rfl, by decide +kernel, rfl, by decide +kernel, by decide +kernel⟩
/-- a constant of the module -/
structure Cn (k : Kit) (mg : Str → Option Value) (x : Str) (v : V) (u : Value) (d : D) : Prop where
  m : mg x = some u
  r : RelV v u
  p : ∀ al H, Rep k.K al H d v
structure Tx (k : Kit) (mg : Str → Option Value) (v_AT_REST : V) (u_AT_REST : Value) (v_MOVING : V) (u_MOVING : Value) : Prop where
  f_is_int : Fn0 k mg "is_int" s_is_int ["thing"]
  f_is_from : Fn0 k mg "is_from" s_is_from ["thing", "least"]
  f_is_row : Fn0 k mg "is_row" s_is_row ["thing", "many"]
  f_is_fraction_value : Fn0 k mg "is_fraction_value" s_is_fraction_value ["thing"]
  f_low : Fn0 k mg "low" s_low ["n", "d"]
  f_as_f : Fn0 k mg "as_f" s_as_f ["n"]
  f_plus_f : Fn0 k mg "plus_f" s_plus_f ["one", "other"]
  f_minus_f : Fn0 k mg "minus_f" s_minus_f ["one", "other"]
  f_times_f : Fn0 k mg "times_f" s_times_f ["one", "other"]
  f_mixed_f : Fn0 k mg "mixed_f" s_mixed_f ["one", "other", "share"]
  f_is_path : Fn0 k mg "is_path" s_is_path ["thing"]
  f_is_trace_value : Fn0 k mg "is_trace_value" s_is_trace_value ["thing"]
  f_is_due : Fn0 k mg "is_due" s_is_due ["trace"]
  f_value_in : Fn0 k mg "value_in" s_value_in ["trace"]
  f_value_at : Fn0 k mg "value_at" s_value_at ["trace"]
  f_l_deck : Fn0 k mg "_law_deck" s_l_deck ["script"]
  f_l_draw : Fn0 k mg "_law_draw" s_l_draw ["deck", "below"]
  f_l_pick : Fn0 k mg "_law_pick" s_l_pick ["deck", "some"]
  f_l_divisor : Fn0 k mg "_law_divisor" s_l_divisor ["one", "other"]
  f_l_lowest : Fn0 k mg "_law_lowest" s_l_lowest ["n", "d"]
  f_l_value_at : Fn0 k mg "_law_value_at" s_l_value_at ["trace"]
  f_l_is_any : Fn0 k mg "_law_is_any" s_l_is_any ["thing"]
  f_l_is_integer : Fn0 k mg "_law_is_integer" s_l_is_integer ["thing", "least"]
  f_l_is_trace : Fn0 k mg "_law_is_trace" s_l_is_trace ["thing"]
  f_l_told : Fn0 k mg "_law_told" s_l_told ["call"]
  f_l_fade : Fn0 k mg "_law_fade" s_l_fade ["deck", "start"]
  f_l_otherwise : Fn0 k mg "_law_otherwise" s_l_otherwise ["deck", "trace"]
  f_l_is_right : Fn0 k mg "_law_is_right" s_l_is_right ["deck", "trace"]
  f_law : Fn0 k mg "law" s_law ["script"]
  z_abs : mg "abs" = none
  z_all : mg "all" = none
  z_bool : mg "bool" = none
  z_int : mg "int" = none
  z_isinstance : mg "isinstance" = none
  z_len : mg "len" = none
  z_list : mg "list" = none
  z_max : mg "max" = none
  z_min : mg "min" = none
  z_range : mg "range" = none
  z_repr : mg "repr" = none
  z_str : mg "str" = none
  z_tuple : mg "tuple" = none
  gcd : mg "gcd" = some (.builtin "math.gcd")
  m_AT_REST : Cn k mg "AT_REST" v_AT_REST u_AT_REST (.int 2)
  m_MOVING : Cn k mg "MOVING" v_MOVING u_MOVING (.int 6)
section
variable {k : Kit}
theorem kw_value_at_0 : KwOk k "value_at" s_value_at ["trace"] ["trace"] 0 1 [0] := fun f fd F s us ws h1 h2 => by
  obtain ⟨_, _, _, _, _, _, _, _, _, rfl, _, _⟩ := F.ex
  exact match us, ws, h1, h2 with
    | [], [_], _, _ => .of_eq rfl
end
local macro_rules | `(tactic| walk_at "st") => `(tactic| simp only [startE_eq, Nat.reduceAdd, Nat.reduceSub, Nat.zero_add, List.replicate_succ, List.replicate_zero, List.cons_append, List.nil_append, List.append_nil, List.map_cons, List.map_nil, List.length_cons, List.length_nil])
local macro_rules | `(tactic| walk_at "dl") => `(tactic| ((try simp only [seqOf_l, seqOf_t, sOp2_k, kOp2_e, kOp2b_e, sTst_k, kTst_e, sChain_k, kCh_e, kCh1_e, kCh2_e, kCh3_e, sAnd_k, kAnd_e, sOr_k, kOr_e, sNot_k, kNot_e, sAndV_k, kAndV_e, sOrV_k, kOrV_e, sNotV_k, kNotV_e, sIf_k, kIf_e, sCons_k, kCons_e, kCons2_e, sTup_k, sLst_k, sLstO_k, kTup_e, kLst_e, kLstO_e, sCall_k, kSp_e, sBi_k, sCallK_k, kKw_e, kKw2_e, sCallL_k, sDrop_k, kDrop_e, sRet_k, sIfS_k, kIfS_e, sAsg_k, kAsg_e, sPar_k, kPar_e, sPar3_k, kPar3_e, sGcons_k, kGc_e, sSeq_k, sIt_k, sItS_k, sRng1_k, kRng_e, sRng2_k, kRng2_e, kRng2b_e, sZip_k, kZip_l, kZip_t, sEnum_k, kEnum_l, kIt_l, kIt_t, kIt_s, kItS_l, kItS_t, kItS_s, kItS_r, sFor_k, kFor_e, sComp_k, kComp_e, sFrz_k, kFrz_d, kFrz_r, sNeg_k, kNeg_e, sIsi_k, kIsi_e, sIsi2_k, kIsi2_e, sMeth_k, kMt_e, kMt2_e, sPt_k, kPt_e, sSl_k, kSl_e, kSl2_e, kSl3_e, sTru_k, kTru_e, sNotA_k, kNotA_e, sGSubL_k, kGS1_e, kGS2_e, kLp_e, kWh_e, kCm1_e, kCm2_e, kCm3_e, sRevT_k, kRevT_e, sLR_k, kLR_e, someD, cut1, List.drop_succ_cons, List.drop_zero, eq_self, wI, wIC, wIB, wAddA_i, wAddA_s, wAddA_t, wAddA_r, wMulA, wLtA, wEqA, wEqB, wNeB, wIxA, wInA, frz_lst, frz_dK, frz_dT, sNewK, wSl, sNoP, rcvT_s, rcvT_l, wApp, wPop, wPopI, wExt, wSplit, wJoin, wUpper, wList_t, wList_l, wTuple, wAll, wAny, wSortS, wStrI, wDictP, sItA, truB, truD, fitS, lstOf_l, lstOf_new, seqOf_l, seqOf_t, seqOf_new, Nat.le_refl, frzE_l, frzE_k, List.take_left, new_at, set_new, take_new2, len_new, okT_none, okT_bool, okT_int, okT_str, okT_list, okT_tuple, okT_dK, shp_nilL, eqv_nilL, wEq, wNe, wIsB, wIsN, isNon, wipeE, wAbs, wNotN, wIx, sNil, dats, sVar, sC, sGN, sGnil, un6_k, sGT_k, wF1, wF2, wLen_t, wLen_l, wLen_s, wReprB_k, sRetN, sSkip_e, sNo, sYes, fnEnds, retK, Nat.reduceAdd, Nat.reduceSub, Nat.zero_add, List.replicate_succ, List.replicate_zero, List.cons_append, List.nil_append, List.append_nil, List.take_length, List.map_cons, List.map_nil, List.length_cons, List.length_nil, List.getElem?_cons_zero, List.getElem?_cons_succ, List.set_cons_zero, List.set_cons_succ, Option.map_some, Option.map_none, if_true, Bool.false_eq_true, if_false, and_true, true_and, or_false, false_or, isT_int, isT_tuple, isT_list, isT_str, isT_bool, isT_dK, isT_none, reduceCtorEq, decide_true, decide_false, Bool.not_true, Bool.not_false, Bool.or_true, Bool.or_false, Bool.true_or, Bool.false_or, pick, List.filterMap_cons, List.filterMap_nil, and_self, at_0, at_1, at_2, at_3, at_4, at_5, shpE_int, shpE_bool, shpE_fr, eqv_int, eqv_bool, eqv_fr, eqv_str, Bool.and_eq_true, decide_eq_true_eq, sz_0, sz_1, sz_2, sz_3, sz_4, sz_5, sz_6, sz_11, wAddLL_ln]); (repeat ((refine DL.kSeq_go ?_); (try simp only [seqOf_l, seqOf_t, sOp2_k, kOp2_e, kOp2b_e, sTst_k, kTst_e, sChain_k, kCh_e, kCh1_e, kCh2_e, kCh3_e, sAnd_k, kAnd_e, sOr_k, kOr_e, sNot_k, kNot_e, sAndV_k, kAndV_e, sOrV_k, kOrV_e, sNotV_k, kNotV_e, sIf_k, kIf_e, sCons_k, kCons_e, kCons2_e, sTup_k, sLst_k, sLstO_k, kTup_e, kLst_e, kLstO_e, sCall_k, kSp_e, sBi_k, sCallK_k, kKw_e, kKw2_e, sCallL_k, sDrop_k, kDrop_e, sRet_k, sIfS_k, kIfS_e, sAsg_k, kAsg_e, sPar_k, kPar_e, sPar3_k, kPar3_e, sGcons_k, kGc_e, sSeq_k, sIt_k, sItS_k, sRng1_k, kRng_e, sRng2_k, kRng2_e, kRng2b_e, sZip_k, kZip_l, kZip_t, sEnum_k, kEnum_l, kIt_l, kIt_t, kIt_s, kItS_l, kItS_t, kItS_s, kItS_r, sFor_k, kFor_e, sComp_k, kComp_e, sFrz_k, kFrz_d, kFrz_r, sNeg_k, kNeg_e, sIsi_k, kIsi_e, sIsi2_k, kIsi2_e, sMeth_k, kMt_e, kMt2_e, sPt_k, kPt_e, sSl_k, kSl_e, kSl2_e, kSl3_e, sTru_k, kTru_e, sNotA_k, kNotA_e, sGSubL_k, kGS1_e, kGS2_e, kLp_e, kWh_e, kCm1_e, kCm2_e, kCm3_e, sRevT_k, kRevT_e, sLR_k, kLR_e, someD, cut1, List.drop_succ_cons, List.drop_zero, eq_self, wI, wIC, wIB, wAddA_i, wAddA_s, wAddA_t, wAddA_r, wMulA, wLtA, wEqA, wEqB, wNeB, wIxA, wInA, frz_lst, frz_dK, frz_dT, sNewK, wSl, sNoP, rcvT_s, rcvT_l, wApp, wPop, wPopI, wExt, wSplit, wJoin, wUpper, wList_t, wList_l, wTuple, wAll, wAny, wSortS, wStrI, wDictP, sItA, truB, truD, fitS, lstOf_l, lstOf_new, seqOf_l, seqOf_t, seqOf_new, Nat.le_refl, frzE_l, frzE_k, List.take_left, new_at, set_new, take_new2, len_new, okT_none, okT_bool, okT_int, okT_str, okT_list, okT_tuple, okT_dK, shp_nilL, eqv_nilL, wEq, wNe, wIsB, wIsN, isNon, wipeE, wAbs, wNotN, wIx, sNil, dats, sVar, sC, sGN, sGnil, un6_k, sGT_k, wF1, wF2, wLen_t, wLen_l, wLen_s, wReprB_k, sRetN, sSkip_e, sNo, sYes, fnEnds, retK, Nat.reduceAdd, Nat.reduceSub, Nat.zero_add, List.replicate_succ, List.replicate_zero, List.cons_append, List.nil_append, List.append_nil, List.take_length, List.map_cons, List.map_nil, List.length_cons, List.length_nil, List.getElem?_cons_zero, List.getElem?_cons_succ, List.set_cons_zero, List.set_cons_succ, Option.map_some, Option.map_none, if_true, Bool.false_eq_true, if_false, and_true, true_and, or_false, false_or, isT_int, isT_tuple, isT_list, isT_str, isT_bool, isT_dK, isT_none, reduceCtorEq, decide_true, decide_false, Bool.not_true, Bool.not_false, Bool.or_true, Bool.or_false, Bool.true_or, Bool.false_or, pick, List.filterMap_cons, List.filterMap_nil, and_self, at_0, at_1, at_2, at_3, at_4, at_5, shpE_int, shpE_bool, shpE_fr, eqv_int, eqv_bool, eqv_fr, eqv_str, Bool.and_eq_true, decide_eq_true_eq, sz_0, sz_1, sz_2, sz_3, sz_4, sz_5, sz_6, sz_11, wAddLL_ln])))))

section
variable {k : Kit} {P : Program} {w : World} {mg : Str → Option Value} {base : Heap} {v_AT_REST : V} {u_AT_REST : Value} {v_MOVING : V} {u_MOVING : Value}
/-! is_int -/
def sp_is_int : DSp := fun bs mu R => ∃ d, bs = [.dat d] ∧ okT d = true ∧ R (.dat (.bool (isI d))) mu
theorem ok_is_int (T : Tx k mg v_AT_REST u_AT_REST v_MOVING u_MOVING) : FnIn k P w mg base 1 "is_int" s_is_int ["thing"] sp_is_int := by
  refine fnIn_of T.f_is_int sc_is_int (fun bs mu R h => ?_) ⟨_, fun f cdv A outer s H E C => (s_one (s_ret (d_and (d_isi (T := .int) C.hK (d_var (i := 0) rfl (Or.inl rfl)) rfl T.z_isinstance rfl T.z_int PyProof.Rows.boot_int) (d_one (d_not (d_isi (T := .bool) C.hK (d_var (i := 0) rfl (Or.inl rfl)) rfl T.z_isinstance rfl T.z_bool PyProof.Rows.boot_bool)))))), fun bs mu R h => ?_⟩
  · obtain ⟨d, rfl, ok, h⟩ := h
    rfl
  · obtain ⟨d, rfl, ok, h⟩ := h
    walk_at "st"
    walk_at "dl"
    rw [ok]
    cases d <;> first | exact ⟨trivial, h⟩ | exact ⟨trivial, trivial, h⟩ | exact ⟨rfl, rfl, h⟩ | exact ⟨rfl, h⟩
/-! is_from -/
def sp_is_from : DSp := fun bs mu R => ∃ d l, bs = [.dat (d), .dat (.int l)] ∧ okT d = true ∧ R (.dat (.bool (fromI d l))) mu
theorem ok_is_from (T : Tx k mg v_AT_REST u_AT_REST v_MOVING u_MOVING) (G_is_int : FnIn k P w mg base 1 "is_int" s_is_int ["thing"] sp_is_int) : FnIn k P w mg base 2 "is_from" s_is_from ["thing", "least"] sp_is_from := by
  refine fnIn_of T.f_is_from sc_is_from (fun bs mu R h => ?_) ⟨_, fun f cdv A outer s H E C => (s_one (s_ret (d_and (d_call C G_is_int rfl (a_cons (d_var (i := 0) rfl (Or.inl rfl)) a_nil)) (d_one (d_cmp o_ge (d_var (i := 0) rfl (Or.inl rfl)) (d_var (i := 1) rfl (Or.inl rfl)) (nomark _)))))), fun bs mu R h => ?_⟩
  · obtain ⟨d, l, rfl, ok, h⟩ := h
    rfl
  · obtain ⟨d, l, rfl, ok, h⟩ := h
    walk_at "st"
    walk_at "dl"
    refine ⟨_, rfl, ok, ?_⟩
    walk_at "dl"
    cases d <;> first | exact h | (simp only [isI, if_true]; walk_at "dl"; exact h) | cases ok
/-! is_row -/
def sp_is_row : DSp := fun bs mu R => ∃ d m, bs = [.dat (d), .dat (.int m)] ∧ okT d = true ∧ R (.dat (.bool (rowD d m))) mu
theorem ok_is_row (T : Tx k mg v_AT_REST u_AT_REST v_MOVING u_MOVING) : FnIn k P w mg base 1 "is_row" s_is_row ["thing", "many"] sp_is_row := by
  refine fnIn_of T.f_is_row sc_is_row (fun bs mu R h => ?_) ⟨_, fun f cdv A outer s H E C => (s_one (s_ret (d_and (d_isi (T := .tuple) C.hK (d_var (i := 0) rfl (Or.inl rfl)) rfl T.z_isinstance rfl T.z_tuple PyProof.Rows.boot_tuple) (d_one (d_cmp (o_eqB C) (d_callB (c_len C.hK) rfl T.z_len PySem.boot_len (a_cons (d_var (i := 0) rfl (Or.inl rfl)) a_nil)) (d_var (i := 1) rfl (Or.inl rfl)) (nomark _)))))), fun bs mu R h => ?_⟩
  · obtain ⟨d, m, rfl, ok, h⟩ := h
    rfl
  · obtain ⟨d, m, rfl, ok, h⟩ := h
    walk_at "st"
    walk_at "dl"
    refine ⟨ok, ?_⟩
    cases d <;> first | (walk_at "dl"; exact h) | cases ok
/-! is_fraction_value -/
def sp_is_fraction_value : DSp := fun bs mu R => ∃ d n, bs = [.dat d] ∧ nz (n + 1) d = true ∧ R (.dat (.bool (frD d))) mu
theorem ok_is_fraction_value (T : Tx k mg v_AT_REST u_AT_REST v_MOVING u_MOVING) (G_is_from : FnIn k P w mg base 2 "is_from" s_is_from ["thing", "least"] sp_is_from) (G_is_int : FnIn k P w mg base 1 "is_int" s_is_int ["thing"] sp_is_int) (G_is_row : FnIn k P w mg base 1 "is_row" s_is_row ["thing", "many"] sp_is_row) : FnIn k P w mg base 3 "is_fraction_value" s_is_fraction_value ["thing"] sp_is_fraction_value := by
  refine fnIn_of T.f_is_fraction_value sc_is_fraction_value (fun bs mu R h => ?_) ⟨_, fun f cdv A outer s H E C => (s_one (s_ret (d_and (d_call C G_is_row rfl (a_cons (d_var (i := 0) rfl (Or.inl rfl)) (a_cons d_int a_nil))) (d_and (d_call C G_is_int rfl (a_cons (d_ixA C.hK (d_var (i := 0) rfl (Or.inl rfl)) d_int (fun _ _ => rfl)) a_nil)) (d_and (d_call C G_is_from rfl (a_cons (d_ixA C.hK (d_var (i := 0) rfl (Or.inl rfl)) d_int (fun _ _ => rfl)) (a_cons d_int a_nil))) (d_one (d_cmp (o_eqB C) (d_callBf c_gcd rfl T.gcd (a_cons (d_ixA C.hK (d_var (i := 0) rfl (Or.inl rfl)) d_int (fun _ _ => rfl)) (a_cons (d_ixA C.hK (d_var (i := 0) rfl (Or.inl rfl)) d_int (fun _ _ => rfl)) a_nil))) d_int (nomark _)))))))), fun bs mu R h => ?_⟩
  · obtain ⟨d, n, rfl, g, h⟩ := h
    rfl
  · obtain ⟨d, n, rfl, g, h⟩ := h
    walk_at "st"
    walk_at "dl"
    refine ⟨d, 2, rfl, nz_okT g, ?_⟩
    walk_at "dl"
    cases d with
    | tuple ds =>
      obtain ⟨_, hg⟩ := nz_tup g
      rcases row2 ds with ⟨a, b, rfl⟩ | ⟨hne, _, hk⟩
      · have e1 : rowD (.tuple [a, b]) 2 = true := rfl
        rw [e1]
        walk_at "dl"
        refine ⟨a, rfl, nz_okT (hg a (by simp)), ?_⟩
        walk_at "dl"
        cases a with
        | int n =>
          rw [show isI (.int n) = true from rfl]
          walk_at "dl"
          refine ⟨b, 1, rfl, nz_okT (hg b (by simp)), ?_⟩
          walk_at "dl"
          cases b with
          | int d =>
            have e2 : frD (.tuple [.int n, .int d]) = (decide (1 ≤ d) && decide (Nat.gcd n.natAbs d.natAbs = 1)) := rfl
            rw [e2] at h
            rw [show fromI (.int d) 1 = decide (1 ≤ d) from rfl]
            by_cases c : 1 ≤ d
            · rw [decide_eq_true c] at h ⊢
              walk_at "dl"
              rw [Bool.true_and] at h
              have e3 : decide (((Nat.gcd n.natAbs d.natAbs : Nat) : Int) = 1) = decide (Nat.gcd n.natAbs d.natAbs = 1) := by
                rw [decide_eq_decide]
                omega
              rw [e3]
              exact h
            · rw [decide_eq_false c] at h ⊢
              walk_at "dl"
              exact h
          | _ => exact h
        | _ => exact h
      · have e1 : rowD (.tuple ds) 2 = false := decide_eq_false hne
        rw [e1]
        walk_at "dl"
        rw [hk] at h
        exact h
    | _ => exact h
/-! low -/
def sp_low : DSp := fun bs mu R => ∃ n d, bs = [.dat (.int n), .dat (.int d)] ∧ d ≠ 0 ∧ Bd 8000 d ∧ ∀ n2 d2, FrOf n d n2 d2 → R (.dat (fr n2 d2)) mu
theorem ok_low (T : Tx k mg v_AT_REST u_AT_REST v_MOVING u_MOVING) : FnIn k P w mg base 1 "low" s_low ["n", "d"] sp_low := by
  refine fnIn_of T.f_low sc_low (fun bs mu R h => ?_) ⟨_, fun f cdv A outer s H E C => (s_cons (s_set (i := 2) sc_low.nd rfl (Or.inl rfl) (d_callBf c_gcd rfl T.gcd (a_cons (d_var (i := 0) rfl (Or.inl rfl)) (a_cons (d_var (i := 1) rfl (Or.inl rfl)) a_nil))))
      (s_cons (s_if (d_tcmp o_ltA (d_var (i := 1) rfl (Or.inl rfl)) d_int (nomark _)) (s_one (s_set (i := 2) sc_low.nd rfl (Or.inl rfl) (d_neg (d_var (i := 2) rfl (Or.inl rfl))))) s_nil)
      (s_one (s_ret (d_tup (a_cons (d_bin o_div (d_var (i := 0) rfl (Or.inl rfl)) (d_var (i := 2) rfl (Or.inl rfl))) (a_cons (d_bin o_div (d_var (i := 1) rfl (Or.inl rfl)) (d_var (i := 2) rfl (Or.inl rfl))) a_nil))))))), fun bs mu R h => ?_⟩
  · obtain ⟨n, d, rfl, hd, hb, h⟩ := h
    rfl
  · obtain ⟨n, d, rfl, hd, hb, h⟩ := h
    walk_at "st"
    walk_at "dl"
    have key : ∀ c : Int, c = (if d < 0 then -((Nat.gcd n.natAbs d.natAbs : Nat) : Int) else ((Nat.gcd n.natAbs d.natAbs : Nat) : Int)) → CDivA n c ∧ CDivA d c ∧ R (.dat (.tuple [.int (n.fdiv c), .int (d.fdiv c)])) mu := fun c hc => by
      obtain ⟨c0, cl, hf⟩ := low_ok hd hc
      have hl := (hb.le cl).log
      exact ⟨⟨c0, hl⟩, ⟨c0, hl⟩, h _ _ hf⟩
    by_cases hn : d < 0
    · rw [if_pos hn]
      walk_at "dl"
      exact key _ (by rw [if_pos hn])
    · rw [if_neg hn]
      walk_at "dl"
      exact key _ (by rw [if_neg hn])
/-! as_f -/
def sp_as_f : DSp := fun bs mu R => ∃ n, bs = [.dat (.int n)] ∧ R (.dat (fr n 1)) mu
theorem ok_as_f (T : Tx k mg v_AT_REST u_AT_REST v_MOVING u_MOVING) : FnIn k P w mg base 1 "as_f" s_as_f ["n"] sp_as_f := by
  refine fnIn_of T.f_as_f sc_as_f (fun bs mu R h => ?_) ⟨_, fun f cdv A outer s H E C => (s_one (s_ret (d_tup (a_cons (d_var (i := 0) rfl (Or.inl rfl)) (a_cons d_int a_nil))))), fun bs mu R h => ?_⟩
  · obtain ⟨n, rfl, h⟩ := h
    rfl
  · obtain ⟨n, rfl, h⟩ := h
    walk_at "st"
    walk_at "dl"
    exact h
/-! plus_f -/
def sp_plus_f : DSp := fun bs mu R => ∃ a b c d, bs = [.dat (fr a b), .dat (fr c d)] ∧ (IsFr a b ∧ IsFr c d ∧ Bd 6000 a ∧ Bd 4000 b ∧ Bd 6000 c ∧ Bd 4000 d) ∧ ∀ n m, FrOf (a * d + c * b) (b * d) n m → R (.dat (fr n m)) mu
theorem ok_plus_f (T : Tx k mg v_AT_REST u_AT_REST v_MOVING u_MOVING) (G_low : FnIn k P w mg base 1 "low" s_low ["n", "d"] sp_low) : FnIn k P w mg base 2 "plus_f" s_plus_f ["one", "other"] sp_plus_f := by
  refine fnIn_of T.f_plus_f sc_plus_f (fun bs mu R h => ?_) ⟨_, fun f cdv A outer s H E C => (s_cons (s_if (PW.pt (dw_and (d_tcmp (o_eqB C) (d_ixA C.hK (d_var (i := 0) rfl (Or.inl rfl)) d_int (fun _ _ => rfl)) d_int (nomark _)) (dw_and1 (d_tcmp (o_eqB C) (d_ixA C.hK (d_var (i := 1) rfl (Or.inl rfl)) d_int (fun _ _ => rfl)) d_int (nomark _))))) (s_one (s_ret (d_tup (a_cons (d_bin (o_addA C.hK) (d_ixA C.hK (d_var (i := 0) rfl (Or.inl rfl)) d_int (fun _ _ => rfl)) (d_ixA C.hK (d_var (i := 1) rfl (Or.inl rfl)) d_int (fun _ _ => rfl))) (a_cons d_int a_nil))))) s_nil)
      (s_one (s_ret (d_call C G_low rfl (a_cons (d_bin (o_addA C.hK) (d_bin (o_mulA C.hK) (d_ixA C.hK (d_var (i := 0) rfl (Or.inl rfl)) d_int (fun _ _ => rfl)) (d_ixA C.hK (d_var (i := 1) rfl (Or.inl rfl)) d_int (fun _ _ => rfl))) (d_bin (o_mulA C.hK) (d_ixA C.hK (d_var (i := 1) rfl (Or.inl rfl)) d_int (fun _ _ => rfl)) (d_ixA C.hK (d_var (i := 0) rfl (Or.inl rfl)) d_int (fun _ _ => rfl)))) (a_cons (d_bin (o_mulA C.hK) (d_ixA C.hK (d_var (i := 0) rfl (Or.inl rfl)) d_int (fun _ _ => rfl)) (d_ixA C.hK (d_var (i := 1) rfl (Or.inl rfl)) d_int (fun _ _ => rfl))) a_nil)))))), fun bs mu R h => ?_⟩
  · obtain ⟨a, b, c, d, rfl, ⟨h1, h2, b1, b2, b3, b4⟩, h⟩ := h
    rfl
  · obtain ⟨a, b, c, d, rfl, ⟨h1, h2, b1, b2, b3, b4⟩, h⟩ := h
    walk_at "st"
    walk_at "dl"
    have hb := h1.1
    have hd := h2.1
    have hbd : b * d ≠ 0 := Int.mul_ne_zero (by omega) (by omega)
    split
    · rename_i e1
      walk_at "dl"
      split
      · rename_i e2
        walk_at "dl"
        refine h _ _ ⟨isFr_one _, ?_⟩
        rw [e1, e2]
        simp
      · walk_at "dl"
        refine ⟨b1.ok b4, b3.ok b2, b2.ok b4, _, _, rfl, hbd, (b2.mul b4).mono (by decide), fun n m hf => ?_⟩
        walk_at "dl"
        exact h n m hf
    · walk_at "dl"
      refine ⟨b1.ok b4, b3.ok b2, b2.ok b4, _, _, rfl, hbd, (b2.mul b4).mono (by decide), fun n m hf => ?_⟩
      walk_at "dl"
      exact h n m hf
/-! minus_f -/
def sp_minus_f : DSp := fun bs mu R => ∃ a b c d, bs = [.dat (fr a b), .dat (fr c d)] ∧ (IsFr a b ∧ IsFr c d ∧ Bd 6000 a ∧ Bd 4000 b ∧ Bd 6000 c ∧ Bd 4000 d) ∧ ∀ n m, FrOf (a * d - c * b) (b * d) n m → R (.dat (fr n m)) mu
theorem ok_minus_f (T : Tx k mg v_AT_REST u_AT_REST v_MOVING u_MOVING) (G_plus_f : FnIn k P w mg base 2 "plus_f" s_plus_f ["one", "other"] sp_plus_f) : FnIn k P w mg base 3 "minus_f" s_minus_f ["one", "other"] sp_minus_f := by
  refine fnIn_of T.f_minus_f sc_minus_f (fun bs mu R h => ?_) ⟨_, fun f cdv A outer s H E C => (s_one (s_ret (d_call C G_plus_f rfl (a_cons (d_var (i := 0) rfl (Or.inl rfl)) (a_cons (d_tup (a_cons (d_neg (d_ixA C.hK (d_var (i := 1) rfl (Or.inl rfl)) d_int (fun _ _ => rfl))) (a_cons (d_ixA C.hK (d_var (i := 1) rfl (Or.inl rfl)) d_int (fun _ _ => rfl)) a_nil))) a_nil))))), fun bs mu R h => ?_⟩
  · obtain ⟨a, b, c, d, rfl, ⟨h1, h2, b1, b2, b3, b4⟩, h⟩ := h
    rfl
  · obtain ⟨a, b, c, d, rfl, ⟨h1, h2, b1, b2, b3, b4⟩, h⟩ := h
    walk_at "st"
    walk_at "dl"
    refine ⟨a, b, -c, d, rfl, ⟨h1, ⟨h2.1, by rw [Int.natAbs_neg]; exact h2.2⟩, b1, b2, b3.neg, b4⟩, fun n m hf => ?_⟩
    walk_at "dl"
    rw [Int.neg_mul, ← Int.sub_eq_add_neg] at hf
    exact h n m hf
/-! times_f -/
def sp_times_f : DSp := fun bs mu R => ∃ a b c d, bs = [.dat (fr a b), .dat (fr c d)] ∧ (IsFr a b ∧ IsFr c d ∧ Bd 6000 a ∧ Bd 4000 b ∧ Bd 6000 c ∧ Bd 4000 d) ∧ ∀ n m, FrOf (a * c) (b * d) n m → R (.dat (fr n m)) mu
theorem ok_times_f (T : Tx k mg v_AT_REST u_AT_REST v_MOVING u_MOVING) (G_low : FnIn k P w mg base 1 "low" s_low ["n", "d"] sp_low) : FnIn k P w mg base 2 "times_f" s_times_f ["one", "other"] sp_times_f := by
  refine fnIn_of T.f_times_f sc_times_f (fun bs mu R h => ?_) ⟨_, fun f cdv A outer s H E C => (s_cons (s_if (PW.pt (dw_and (d_tcmp (o_eqB C) (d_ixA C.hK (d_var (i := 0) rfl (Or.inl rfl)) d_int (fun _ _ => rfl)) d_int (nomark _)) (dw_and1 (d_tcmp (o_eqB C) (d_ixA C.hK (d_var (i := 1) rfl (Or.inl rfl)) d_int (fun _ _ => rfl)) d_int (nomark _))))) (s_one (s_ret (d_tup (a_cons (d_bin (o_mulA C.hK) (d_ixA C.hK (d_var (i := 0) rfl (Or.inl rfl)) d_int (fun _ _ => rfl)) (d_ixA C.hK (d_var (i := 1) rfl (Or.inl rfl)) d_int (fun _ _ => rfl))) (a_cons d_int a_nil))))) s_nil)
      (s_one (s_ret (d_call C G_low rfl (a_cons (d_bin (o_mulA C.hK) (d_ixA C.hK (d_var (i := 0) rfl (Or.inl rfl)) d_int (fun _ _ => rfl)) (d_ixA C.hK (d_var (i := 1) rfl (Or.inl rfl)) d_int (fun _ _ => rfl))) (a_cons (d_bin (o_mulA C.hK) (d_ixA C.hK (d_var (i := 0) rfl (Or.inl rfl)) d_int (fun _ _ => rfl)) (d_ixA C.hK (d_var (i := 1) rfl (Or.inl rfl)) d_int (fun _ _ => rfl))) a_nil)))))), fun bs mu R h => ?_⟩
  · obtain ⟨a, b, c, d, rfl, ⟨h1, h2, b1, b2, b3, b4⟩, h⟩ := h
    rfl
  · obtain ⟨a, b, c, d, rfl, ⟨h1, h2, b1, b2, b3, b4⟩, h⟩ := h
    walk_at "st"
    walk_at "dl"
    have hb := h1.1
    have hd := h2.1
    have hbd : b * d ≠ 0 := Int.mul_ne_zero (by omega) (by omega)
    split
    · rename_i e1
      walk_at "dl"
      split
      · rename_i e2
        walk_at "dl"
        refine ⟨b1.ok b3, h _ _ ⟨isFr_one _, ?_⟩⟩
        rw [e1, e2]
        simp
      · walk_at "dl"
        refine ⟨b1.ok b3, b2.ok b4, _, _, rfl, hbd, (b2.mul b4).mono (by decide), fun n m hf => ?_⟩
        walk_at "dl"
        exact h n m hf
    · walk_at "dl"
      refine ⟨b1.ok b3, b2.ok b4, _, _, rfl, hbd, (b2.mul b4).mono (by decide), fun n m hf => ?_⟩
      walk_at "dl"
      exact h n m hf
/-! mixed_f -/
def sp_mixed_f : DSp := fun bs mu R => ∃ a b c d s t, bs = [.dat (fr a b), .dat (fr c d), .dat (fr s t)] ∧ (IsFr a b ∧ IsFr c d ∧ IsFr s t) ∧ (Bd 1600 a ∧ Bd 1600 b ∧ Bd 1600 c ∧ Bd 2 d ∧ Bd 1601 s ∧ Bd 1601 t) ∧ ∀ n m, IsFr n m → n * (b * d * t) = ((t - s) * a * d + s * c * b) * m → R (.dat (fr n m)) mu
theorem ok_mixed_f (T : Tx k mg v_AT_REST u_AT_REST v_MOVING u_MOVING) (G_minus_f : FnIn k P w mg base 3 "minus_f" s_minus_f ["one", "other"] sp_minus_f) (G_plus_f : FnIn k P w mg base 2 "plus_f" s_plus_f ["one", "other"] sp_plus_f) (G_times_f : FnIn k P w mg base 2 "times_f" s_times_f ["one", "other"] sp_times_f) : FnIn k P w mg base 4 "mixed_f" s_mixed_f ["one", "other", "share"] sp_mixed_f := by
  refine fnIn_of T.f_mixed_f sc_mixed_f (fun bs mu R h => ?_) ⟨_, fun f cdv A outer s H E C => (s_one (s_ret (d_call C G_plus_f rfl (a_cons (d_var (i := 0) rfl (Or.inl rfl)) (a_cons (d_call C G_times_f rfl (a_cons (d_var (i := 2) rfl (Or.inl rfl)) (a_cons (d_call C G_minus_f rfl (a_cons (d_var (i := 1) rfl (Or.inl rfl)) (a_cons (d_var (i := 0) rfl (Or.inl rfl)) a_nil))) a_nil))) a_nil))))), fun bs mu R h => ?_⟩
  · obtain ⟨a, b, c, d, s, t, rfl, ⟨h1, h2, h3⟩, ⟨b1, b2, b3, b4, b5, b6⟩, h⟩ := h
    rfl
  · obtain ⟨a, b, c, d, s, t, rfl, ⟨h1, h2, h3⟩, ⟨b1, b2, b3, b4, b5, b6⟩, h⟩ := h
    walk_at "st"
    walk_at "dl"
    have hb := h1.1
    have hd := h2.1
    have ht := h3.1
    refine ⟨_, _, _, _, rfl, ⟨h2, h1, b3.mono (by decide), b4.mono (by decide), b1.mono (by decide), b2.mono (by decide)⟩, fun x y f1 => ?_⟩
    have hdb : d * b ≠ 0 := Int.mul_ne_zero (by omega) (by omega)
    have le1 := f1.le hdb
    have qx : Bd 3201 x := (Bd.sub ((b3.mul b2).mono (by decide)) ((b1.mul b4).mono (by decide))).le le1.1
    have qy : Bd 1602 y := (b4.mul b2).le le1.2
    have hy := f1.1.1
    walk_at "dl"
    refine ⟨_, _, _, _, rfl, ⟨h3, f1.1, b5.mono (by decide), b6.mono (by decide), qx.mono (by decide), qy.mono (by decide)⟩, fun u v f2 => ?_⟩
    have hty : t * y ≠ 0 := Int.mul_ne_zero (by omega) (by omega)
    have le2 := f2.le hty
    have qu : Bd 4802 u := (b5.mul qx).le le2.1
    have qv : Bd 3203 v := (b6.mul qy).le le2.2
    have hv := f2.1.1
    walk_at "dl"
    refine ⟨_, _, _, _, rfl, ⟨h1, f2.1, b1.mono (by decide), b2.mono (by decide), qu.mono (by decide), qv.mono (by decide)⟩, fun n m f3 => ?_⟩
    walk_at "dl"
    exact h n m f3.1 (mix_of (by omega) (by omega) f3.2 f2.2 f1.2)
/-! is_path -/
def sp_is_path : DSp := fun bs mu R => ∃ d n, bs = [.dat d] ∧ nz (n + 1) d = true ∧ R (.dat (.bool (pathD d))) mu
theorem ok_is_path (T : Tx k mg v_AT_REST u_AT_REST v_MOVING u_MOVING) (G_is_from : FnIn k P w mg base 2 "is_from" s_is_from ["thing", "least"] sp_is_from) (G_is_int : FnIn k P w mg base 1 "is_int" s_is_int ["thing"] sp_is_int) : FnIn k P w mg base 3 "is_path" s_is_path ["thing"] sp_is_path := by
  refine fnIn_of T.f_is_path sc_is_path (fun bs mu R h => ?_) ⟨_, fun f cdv A outer s H E C => (s_cons (s_if (PW.pt (dw_or (dt_not (d_tval (d_isi (T := .tuple) C.hK (d_var (i := 0) rfl (Or.inl rfl)) rfl T.z_isinstance rfl T.z_tuple PyProof.Rows.boot_tuple))) (dw_or1 (d_tcmp (o_notInA C.hK) (d_callB (c_len C.hK) rfl T.z_len PySem.boot_len (a_cons (d_var (i := 0) rfl (Or.inl rfl)) a_nil)) (d_tup (a_cons (d_glob rfl T.m_AT_REST.m T.m_AT_REST.r T.m_AT_REST.p) (a_cons (d_bin o_sub (d_glob rfl T.m_MOVING.m T.m_MOVING.r T.m_MOVING.p) d_int) a_nil))) (by with_unfolding_all rfl))))) (s_one (s_ret d_bl)) s_nil)
      (s_cons (s_if (PW.pt (dw_or (dt_not (d_tval (d_call C G_is_from rfl (a_cons (d_ixA C.hK (d_var (i := 0) rfl (Or.inl rfl)) d_int (fun _ _ => rfl)) (a_cons d_int a_nil))))) (dw_or (dt_not (d_tval (d_call C G_is_int rfl (a_cons (d_ixA C.hK (d_var (i := 0) rfl (Or.inl rfl)) d_int (fun _ _ => rfl)) a_nil)))) (dw_or1 (dt_not (d_tval (d_callB (c_all C.hK C.calm) rfl T.z_all PyProof.Rows.boot_all (a_cons (d_frz (d_comp (own := [("item", 1)]) C.calm sc_is_path.nd (i_any C.hK (d_frz (d_slice C.hK (d_var (i := 0) rfl (Or.inl rfl)) (p_pt d_int) p_no))) (blkOk_by (N := ["thing", "item"]) (sc := defScope s_is_path) (by decide +kernel)) (fun _ _ _ _ _ => (g_name (i := 1) sc_is_path.nd rfl (Or.inl rfl))) (fun _ _ _ _ _ => ts_nil) (fun _ _ _ _ _ => (d_call (In.blk C _ _ _ _ _) G_is_from rfl (a_cons (d_var (i := 1) rfl (Or.inl rfl)) (a_cons d_int a_nil)))))) a_nil)))))))) (s_one (s_ret d_bl)) s_nil)
      (s_one (s_ret (d_or (d_cmp (o_eqB C) (d_callB (c_len C.hK) rfl T.z_len PySem.boot_len (a_cons (d_var (i := 0) rfl (Or.inl rfl)) a_nil)) (d_glob rfl T.m_AT_REST.m T.m_AT_REST.r T.m_AT_REST.p) (nomark _)) (d_one (d_cmp o_ltA (d_ixA C.hK (d_var (i := 0) rfl (Or.inl rfl)) d_int (fun _ _ => rfl)) (d_bin (o_addA C.hK) (d_ixA C.hK (d_var (i := 0) rfl (Or.inl rfl)) d_int (fun _ _ => rfl)) (d_ixA C.hK (d_var (i := 0) rfl (Or.inl rfl)) d_int (fun _ _ => rfl))) (nomark _)))))))), fun bs mu R h => ?_⟩
  · obtain ⟨d, n, rfl, g, h⟩ := h
    rfl
  · obtain ⟨d, n, rfl, g, h⟩ := h
    walk_at "st"
    cases d with
    | tuple ds =>
      obtain ⟨hl, hg⟩ := nz_tup g
      walk_at "dl"
      refine ⟨rfl, _, rfl, rfl, ?_⟩
      rw [inD_25]
      rcases row25 ds with ⟨a, b, rfl⟩ | ⟨a, b, c, e, f, rfl⟩ | ⟨h2, h5, hk⟩
      · have e1 : (decide (((([a, b] : List D).length : Nat) : Int) = 2) || decide (((([a, b] : List D).length : Nat) : Int) = 5)) = true := rfl
        rw [e1]
        walk_at "dl"
        refine ⟨a, 0, rfl, nz_okT (hg a (by simp)), ?_⟩
        walk_at "dl"
        have e2 : pathD (.tuple [a, b]) = (fromI a 0 && isI b) := rfl
        rw [e2] at h
        cases ha : fromI a 0 with
        | false =>
          rw [ha] at h
          walk_at "dl"
          exact h
        | true =>
        rw [ha, Bool.true_and] at h
        walk_at "dl"
        refine ⟨b, rfl, nz_okT (hg b (by simp)), ?_⟩
        walk_at "dl"
        cases hb : isI b with
        | false =>
          rw [hb] at h
          walk_at "dl"
          exact h
        | true =>
        rw [hb] at h
        walk_at "dl"
        have e3 : cutD [a, b] (some 2) none = [] := rfl
        rw [e3]
        refine (comp_k (fun i acc mu2 => mu2 = mu ∧ acc = (([] : List D).take i).map fun e => D.bool (fromI e 0)) ⟨rfl, rfl⟩ ?_ ?_)
        · rintro i x acc mu2 N he ⟨rfl, rfl⟩ hN
          walk_at "dl"
          have hm : x ∈ ([a, b] : List D).drop 2 := List.mem_of_getElem? (i := i) he
          refine ⟨x, 0, rfl, nz_okT (hg x (List.mem_of_mem_drop hm)), ?_⟩
          walk_at "dl"
          refine ⟨acc_len (by show 0 < sizeLine; decide), ?_⟩
          exact hN _ _ ⟨rfl, acc_step (p := fun e => D.bool (fromI e 0)) he⟩
        · rintro acc mu2 ⟨rfl, rfl⟩
          walk_at "dl"
          refine ⟨([] : List D).map fun e => fromI e 0, ?_, ?_⟩
          · rw [List.map_map]
            rfl
          rw [show ((List.map (fun e => fromI e 0) ([] : List D)).all id) = true from rfl]
          walk_at "dl"
          exact h
      · have e1 : (decide (((([a, b, c, e, f] : List D).length : Nat) : Int) = 2) || decide (((([a, b, c, e, f] : List D).length : Nat) : Int) = 5)) = true := rfl
        rw [e1]
        walk_at "dl"
        refine ⟨a, 0, rfl, nz_okT (hg a (by simp)), ?_⟩
        walk_at "dl"
        have e2 : pathD (.tuple [a, b, c, e, f]) = (fromI a 0 && (isI b && (fromI c 0 && (fromI e 0 && (fromI f 0 && lt3 c e f))))) := rfl
        rw [e2] at h
        cases ha : fromI a 0 with
        | false =>
          rw [ha] at h
          walk_at "dl"
          exact h
        | true =>
        rw [ha, Bool.true_and] at h
        walk_at "dl"
        refine ⟨b, rfl, nz_okT (hg b (by simp)), ?_⟩
        walk_at "dl"
        cases hb : isI b with
        | false =>
          rw [hb] at h
          walk_at "dl"
          exact h
        | true =>
        rw [hb] at h
        walk_at "dl"
        have e3 : cutD [a, b, c, e, f] (some 2) none = [c, e, f] := rfl
        rw [e3]
        refine (comp_k (fun i acc mu2 => mu2 = mu ∧ acc = (([c, e, f] : List D).take i).map fun e => D.bool (fromI e 0)) ⟨rfl, rfl⟩ ?_ ?_)
        · rintro i x acc mu2 N he ⟨rfl, rfl⟩ hN
          walk_at "dl"
          have hm : x ∈ ([a, b, c, e, f] : List D).drop 2 := List.mem_of_getElem? (i := i) he
          refine ⟨x, 0, rfl, nz_okT (hg x (List.mem_of_mem_drop hm)), ?_⟩
          walk_at "dl"
          refine ⟨acc_len (by show 3 < sizeLine; decide), ?_⟩
          exact hN _ _ ⟨rfl, acc_step (p := fun e => D.bool (fromI e 0)) he⟩
        · rintro acc mu2 ⟨rfl, rfl⟩
          walk_at "dl"
          refine ⟨([c, e, f] : List D).map fun e => fromI e 0, ?_, ?_⟩
          · rw [List.map_map]
            rfl
          rw [show ((List.map (fun e => fromI e 0) [c, e, f]).all id) = (fromI c 0 && (fromI e 0 && (fromI f 0 && true))) from rfl]
          rw [Bool.true_and] at h
          cases hc : fromI c 0 with
          | false =>
            rw [hc] at h
            walk_at "dl"
            exact h
          | true =>
          cases he : fromI e 0 with
          | false =>
            rw [hc, he] at h
            walk_at "dl"
            exact h
          | true =>
          cases hf : fromI f 0 with
          | false =>
            rw [hc, he, hf] at h
            walk_at "dl"
            exact h
          | true =>
          rw [hc, he, hf] at h
          obtain ⟨c, rfl, _⟩ := fromI_of hc
          obtain ⟨e, rfl, _⟩ := fromI_of he
          obtain ⟨f, rfl, _⟩ := fromI_of hf
          rw [show (true && (true && (true && true))) = true from rfl]
          walk_at "dl"
          exact h
      · rw [decide_eq_false h2, decide_eq_false h5]
        walk_at "dl"
        rw [hk] at h
        exact h
    | _ => first | (walk_at "dl"; exact h) | cases g
/-! is_trace_value -/
def sp_is_trace_value : DSp := fun bs mu R => ∃ d n, bs = [.dat d] ∧ nz (n + 2) d = true ∧ R (.dat (.bool (traceD d))) mu
theorem ok_is_trace_value (T : Tx k mg v_AT_REST u_AT_REST v_MOVING u_MOVING) (G_is_fraction_value : FnIn k P w mg base 3 "is_fraction_value" s_is_fraction_value ["thing"] sp_is_fraction_value) (G_is_path : FnIn k P w mg base 3 "is_path" s_is_path ["thing"] sp_is_path) (G_is_row : FnIn k P w mg base 1 "is_row" s_is_row ["thing", "many"] sp_is_row) : FnIn k P w mg base 4 "is_trace_value" s_is_trace_value ["thing"] sp_is_trace_value := by
  refine fnIn_of T.f_is_trace_value sc_is_trace_value (fun bs mu R h => ?_) ⟨_, fun f cdv A outer s H E C => (s_cons (s_if (d_tval (d_call C G_is_row rfl (a_cons (d_var (i := 0) rfl (Or.inl rfl)) (a_cons (d_glob rfl T.m_AT_REST.m T.m_AT_REST.r T.m_AT_REST.p) a_nil)))) (s_one (s_ret (d_call C G_is_path rfl (a_cons (d_var (i := 0) rfl (Or.inl rfl)) a_nil)))) s_nil)
      (s_one (s_ret (d_and (d_call C G_is_row rfl (a_cons (d_var (i := 0) rfl (Or.inl rfl)) (a_cons (d_glob rfl T.m_MOVING.m T.m_MOVING.r T.m_MOVING.p) a_nil))) (d_and (d_call C G_is_path rfl (a_cons (d_frz (d_slice C.hK (d_var (i := 0) rfl (Or.inl rfl)) p_no (p_pt (d_neg d_int)))) a_nil)) (d_one (d_call C G_is_fraction_value rfl (a_cons (d_ixA C.hK (d_var (i := 0) rfl (Or.inl rfl)) (d_neg d_int) (fun _ _ => rfl)) a_nil)))))))), fun bs mu R h => ?_⟩
  · obtain ⟨d, n, rfl, g, h⟩ := h
    rfl
  · obtain ⟨d, n, rfl, g, h⟩ := h
    walk_at "st"
    walk_at "dl"
    refine ⟨d, 2, rfl, nz_okT g, ?_⟩
    walk_at "dl"
    cases d with
    | tuple ds =>
      obtain ⟨hl, hg⟩ := nz_tup g
      rcases row26 ds with ⟨a, b, rfl⟩ | ⟨a, b, c, e, f, q, rfl⟩ | ⟨h2, h6, hk⟩
      · rw [show rowD (.tuple [a, b]) 2 = true from rfl]
        walk_at "dl"
        refine ⟨.tuple [a, b], n + 1, rfl, g, ?_⟩
        walk_at "dl"
        exact h
      · rw [show rowD (.tuple [a, b, c, e, f, q]) 2 = false from rfl]
        walk_at "dl"
        refine ⟨_, 6, rfl, nz_okT g, ?_⟩
        walk_at "dl"
        rw [show rowD (.tuple [a, b, c, e, f, q]) 6 = true from rfl]
        walk_at "dl"
        rw [show cutD [a, b, c, e, f, q] none (some (-1)) = [a, b, c, e, f] from rfl]
        refine ⟨.tuple [a, b, c, e, f], n + 1, rfl, nz_mk (by simp) fun x hx => hg x ?_, ?_⟩
        · have hx' : x ∈ ([a, b, c, e, f, q] : List D).take 5 := hx
          exact List.mem_of_mem_take hx'
        walk_at "dl"
        have e1 : traceD (.tuple [a, b, c, e, f, q]) = (pathD (.tuple [a, b, c, e, f]) && frD q) := rfl
        rw [e1] at h
        cases hp : pathD (.tuple [a, b, c, e, f]) with
        | false =>
          rw [hp] at h
          walk_at "dl"
          exact h
        | true =>
        rw [hp, Bool.true_and] at h
        walk_at "dl"
        refine ⟨q, rfl, q, n, rfl, hg q (by simp), ?_⟩
        walk_at "dl"
        exact h
      · rw [show rowD (.tuple ds) 2 = false from decide_eq_false h2]
        walk_at "dl"
        refine ⟨_, 6, rfl, nz_okT g, ?_⟩
        walk_at "dl"
        rw [show rowD (.tuple ds) 6 = false from decide_eq_false h6]
        walk_at "dl"
        rw [hk] at h
        exact h
    | _ => first | (rw [show rowD _ 2 = false from rfl]; walk_at "dl"; refine ⟨_, 6, rfl, nz_okT g, ?_⟩; walk_at "dl"; exact h) | cases g
/-! is_due -/
def sp_is_due : DSp := fun bs mu R => ∃ ds, bs = [.dat (.tuple ds)] ∧ ds.length ≤ 1000 ∧ R (.dat (.bool (decide ((ds.length : Int) = 2)))) mu
theorem ok_is_due (T : Tx k mg v_AT_REST u_AT_REST v_MOVING u_MOVING) : FnIn k P w mg base 1 "is_due" s_is_due ["trace"] sp_is_due := by
  refine fnIn_of T.f_is_due sc_is_due (fun bs mu R h => ?_) ⟨_, fun f cdv A outer s H E C => (s_one (s_ret (d_cmp (o_eqB C) (d_callB (c_len C.hK) rfl T.z_len PySem.boot_len (a_cons (d_var (i := 0) rfl (Or.inl rfl)) a_nil)) (d_glob rfl T.m_AT_REST.m T.m_AT_REST.r T.m_AT_REST.p) (nomark _)))), fun bs mu R h => ?_⟩
  · obtain ⟨ds, rfl, hl, h⟩ := h
    rfl
  · obtain ⟨ds, rfl, hl, h⟩ := h
    walk_at "st"
    walk_at "dl"
    exact h
/-! value_in -/
def sp_value_in : DSp := fun bs mu R => ∃ d, bs = [.dat d] ∧ traceD d = true ∧ trOk d ∧ R (.dat (valD d)) mu
theorem ok_value_in (T : Tx k mg v_AT_REST u_AT_REST v_MOVING u_MOVING) (G_as_f : FnIn k P w mg base 1 "as_f" s_as_f ["n"] sp_as_f) (G_is_due : FnIn k P w mg base 1 "is_due" s_is_due ["trace"] sp_is_due) (G_low : FnIn k P w mg base 1 "low" s_low ["n", "d"] sp_low) (G_mixed_f : FnIn k P w mg base 4 "mixed_f" s_mixed_f ["one", "other", "share"] sp_mixed_f) : FnIn k P w mg base 5 "value_in" s_value_in ["trace"] sp_value_in := by
  refine fnIn_of T.f_value_in sc_value_in (fun bs mu R h => ?_) ⟨_, fun f cdv A outer s H E C => (s_cons (s_if (d_tval (d_call C G_is_due rfl (a_cons (d_var (i := 0) rfl (Or.inl rfl)) a_nil))) (s_one (s_ret (d_call C G_as_f rfl (a_cons (d_ixA C.hK (d_var (i := 0) rfl (Or.inl rfl)) d_int (fun _ _ => rfl)) a_nil)))) s_nil)
      (s_cons (s_asg (d_var (i := 0) rfl (Or.inl rfl)) (g_tup (n := 6) C.calm (gs_cons (g_name (i := 1) sc_value_in.nd rfl (Or.inl rfl)) (gs_cons (g_name (i := 2) sc_value_in.nd rfl (Or.inl rfl)) (gs_cons (g_name (i := 3) sc_value_in.nd rfl (Or.inl rfl)) (gs_cons (g_name (i := 4) sc_value_in.nd rfl (Or.inl rfl)) (gs_cons (g_name (i := 5) sc_value_in.nd rfl (Or.inl rfl)) (gs_cons (g_name (i := 6) sc_value_in.nd rfl (Or.inl rfl)) gs_nil)))))) rfl rfl C.hK))
      (s_cons (s_if (d_tcmp o_le (d_var (i := 5) rfl (Or.inl rfl)) (d_var (i := 3) rfl (Or.inl rfl)) (nomark _)) (s_one (s_ret (d_var (i := 6) rfl (Or.inl rfl)))) s_nil)
      (s_one (s_ret (d_call C G_mixed_f rfl (a_cons (d_var (i := 6) rfl (Or.inl rfl)) (a_cons (d_call C G_as_f rfl (a_cons (d_var (i := 2) rfl (Or.inl rfl)) a_nil)) (a_cons (d_call C G_low rfl (a_cons (d_bin o_sub (d_var (i := 5) rfl (Or.inl rfl)) (d_var (i := 3) rfl (Or.inl rfl))) (a_cons (d_var (i := 4) rfl (Or.inl rfl)) a_nil))) a_nil))))))))), fun bs mu R h => ?_⟩
  · obtain ⟨d, rfl, ht, hb, h⟩ := h
    rfl
  · obtain ⟨d, rfl, ht, hb, h⟩ := h
    walk_at "st"
    rcases trace_of ht with ⟨s, t, rfl, hs⟩ | ⟨s, t, dl, tm, ag, n, e, rfl, hs, hd, htm, ha, hlt, hf⟩
    · walk_at "dl"
      refine ⟨_, rfl, by simp, ?_⟩
      walk_at "dl"
      refine ⟨t, rfl, ?_⟩
      walk_at "dl"
      exact h
    · rw [trOk_six] at hb
      obtain ⟨b1, b2, b3, b4, b5, b6⟩ := hb
      rw [val_six] at h
      walk_at "dl"
      refine ⟨_, rfl, by simp, ?_⟩
      walk_at "dl"
      rw [if_neg (by decide)]
      walk_at "dl"
      by_cases c : ag ≤ dl
      · rw [if_pos c] at h ⊢
        walk_at "dl"
        exact h
      · rw [if_neg c] at h ⊢
        walk_at "dl"
        have ht0 : 0 < tm := by omega
        have he := hf.1
        refine ⟨t, rfl, ?_⟩
        walk_at "dl"
        refine ⟨ag - dl, tm, rfl, by omega, b3.mono (by decide), fun x y hxy => ?_⟩
        walk_at "dl"
        have le := hxy.le (by omega)
        have bx : Bd 1601 x := (Bd.sub b4 b2).le le.1
        have by' : Bd 1601 y := (b3.mono (by decide)).le le.2
        have hy := hxy.1.1
        refine ⟨n, e, t, 1, x, y, rfl, ⟨hf, isFr_one _, hxy.1⟩, ⟨b5, b6, b1, by decide, bx, by'⟩, fun r1 r2 hr hm => ?_⟩
        walk_at "dl"
        have hv := val_of (by omega : y ≠ 0) hxy.2 hm
        rw [← frq_of (Int.mul_pos (by omega) ht0) (⟨hr, hv⟩ : FrOf _ _ r1 r2)] at h
        exact h
/-! value_at -/
def sp_value_at : DSp := fun bs mu R => ∃ d n, bs = [.dat d] ∧ nz (n + 2) d = true ∧ traceD d = true ∧ trOk d ∧ R (.dat (valD d)) mu
theorem ok_value_at (T : Tx k mg v_AT_REST u_AT_REST v_MOVING u_MOVING) (G_is_trace_value : FnIn k P w mg base 4 "is_trace_value" s_is_trace_value ["thing"] sp_is_trace_value) (G_value_in : FnIn k P w mg base 5 "value_in" s_value_in ["trace"] sp_value_in) : FnIn k P w mg base 6 "value_at" s_value_at ["trace"] sp_value_at := by
  refine fnIn_of T.f_value_at sc_value_at (fun bs mu R h => ?_) ⟨_, fun f cdv A outer s H E C => (s_cons (s_if (dt_not (d_tval (d_call C G_is_trace_value rfl (a_cons (d_var (i := 0) rfl (Or.inl rfl)) a_nil)))) (s_one s_never) s_nil)
      (s_one (s_ret (d_call C G_value_in rfl (a_cons (d_var (i := 0) rfl (Or.inl rfl)) a_nil))))), fun bs mu R h => ?_⟩
  · obtain ⟨d, n, rfl, hn, ht, hb, h⟩ := h
    rfl
  · obtain ⟨d, n, rfl, hn, ht, hb, h⟩ := h
    walk_at "st"
    walk_at "dl"
    refine ⟨d, n, rfl, hn, ?_⟩
    rw [ht]
    walk_at "dl"
    refine ⟨d, rfl, ht, hb, ?_⟩
    walk_at "dl"
    exact h
/-! _law_deck -/
theorem ok_l_deck (T : Tx k mg v_AT_REST u_AT_REST v_MOVING u_MOVING) (hk : k.DK = deckDK "cells" "mixed" "turn") : FnIn k P w mg base 1 "_law_deck" s_l_deck ["script"] spDeck := by
  refine fnIn_raw T.f_l_deck sc_l_deck (fun bs mu R h => ?_) (fun f cdv A outer s H E vs Q C q => ?_)
  · obtain ⟨ns, rfl, _⟩ := h
    rfl
  · obtain ⟨al, bs, mu, R, rb, mo, ⟨ns, rfl, hn, kr⟩, kk⟩ := q
    obtain ⟨v, rfl, a, xs, rfl, hfz, hxs⟩ := reps1 rb
    cases reps_ints hxs
    rw [hk] at mo kk
    have hu := hu_of C.room
    have n1 : ("cells" : Str) ≠ "mixed" := by decide +kernel
    have n2 : ("cells" : Str) ≠ "turn" := by decide +kernel
    have n3 : ("mixed" : Str) ≠ "turn" := by decide +kernel
    refine ⟨_, pss_cons (ps_set (i := 1) sc_l_deck.nd rfl (.inl rfl) pe_int)
      (pss_cons (ps_for PassesOwn.never rfl (pi_list (pe_slice sl_list (pv 0) po_none (po_some pe_int))) (pg_name (i := 2) sc_l_deck.nd rfl (Or.inl rfl))
        (pss_one (ps_set (i := 1) sc_l_deck.nd rfl (.inl rfl) (pe_op op_mod (pe_callTy call_int1 rfl T.z_int PyProof.Rows.boot_int (pa_cons (pe_op op_add (pe_op op_add (pe_op op_mul (pv 1) pe_int) (pe_op op_mod (pe_callTy call_int1 rfl T.z_int PyProof.Rows.boot_int (pa_cons (pv 2) pa_nil)) pe_int)) pe_int) pa_nil)) pe_int))))
      (pss_one (ps_ret (pe_disp (pps_cons pe_str (pe_revL (pe_lc (own := [("cell", 2)]) rfl sc_l_deck.nd (pi_list (pe_slice sl_list (pv 0) po_none (po_some pe_int))) (blkOk_by (N := ["script", "mixed", "cell"]) (sc := defScope s_l_deck) (by decide +kernel))
        (fun _ _ _ _ _ => pg_name (i := 2) sc_l_deck.nd rfl (Or.inl rfl)) (fun _ _ _ _ _ => pts_nil) (fun _ _ _ _ _ => pe_callTy call_int1 rfl T.z_int PyProof.Rows.boot_int (pa_cons (pv 2) pa_nil)))) (pps_cons pe_str (pv 1) (pps_cons pe_str pe_int pps_nil))) rfl rfl (fun z => by cases z) (by decide))))), ?_⟩
    refine ⟨_, rfl, _, rfl, a, _, rfl, hfz.sq, fun p hp => ?_⟩
    obtain ⟨e1, m1⟩ := mo.newF (o := .lst (cutV (ns.map V.int) none (some 63))) hp
    refine ⟨p, rfl, ⟨_, SqL.of upd_same⟩, for_list (K := k.K) (a := p) (xs := cutV (ns.map V.int) none (some 63)) (fun i σ H' => H' = upd H p (.lst (cutV (ns.map V.int) none (some 63))) ∧ ∃ (z : Int) (v : Option V), σ = [some (.ref a), some (.int z), v]) ⟨rfl, _, _, rfl⟩ (fun i σ H' _ h => ?_) ?_ ?_⟩
    · rw [h.1]
      exact SqL.of upd_same
    · rintro i y σ H' hi ⟨rfl, z, v, rfl⟩
      obtain ⟨u, rfl⟩ := cut_int (List.mem_of_getElem? hi)
      exact ⟨_, rfl, _, _, rfl, rfl, .inr ⟨by decide, by decide⟩, _, rfl, .inl ⟨_, rfl, _, _, rfl, rfl, (by show (0 : Int) < _; decide), _, _, rfl, rfl, _, _, rfl, rfl, .inl ⟨_, rfl, _, _, rfl, rfl, (by show (0 : Int) < _; decide), rfl, _, _, rfl⟩⟩⟩
    · rintro σ H' ⟨rfl, z, v, rfl⟩ d hd
      obtain ⟨e2, m2⟩ := m1.newF (o := .dK []) hd
      have hxl : (cutV (ns.map V.int) none (some 63)).length ≤ 63 := by
        obtain ⟨cs, hcs, hcl⟩ := cut_map ns none (some 63)
        rw [hcs, List.length_map]
        omega
      generalize hxs : cutV (ns.map V.int) none (some 63) = zs at *
      refine ⟨_, rfl, _, rfl, a, _, rfl, ((e1.trans e2).fzL hfz).sq, fun q hq => ?_⟩
      rw [hxs]
      obtain ⟨e3, m3⟩ := m2.newF (o := .lst zs) hq
      refine ⟨q, rfl, ⟨_, SqL.of upd_same⟩, fun q2 hq2 => ?_⟩
      have hqq : q ≠ q2 := ne_of_none (o := .lst zs) upd_same hq2
      refine lc_list (K := k.K) (a := q) (xs := zs) (fun i H' => (∀ b, b ≠ q2 → H' b = upd (upd (upd H p (.lst zs)) d (.dK [])) q (.lst zs) b) ∧ H' q2 = some (.lst (zs.take i))) ⟨fun b hb => upd_ne hb, upd_same⟩ (fun i H' _ h => ?_) ?_ ?_
      · refine SqL.of ?_
        rw [h.1 q hqq]
        exact upd_same
      · rintro i y H' hi ⟨h1, h2⟩
        obtain ⟨u, rfl⟩ := cut_int (by rw [hxs]; exact List.mem_of_getElem? hi)
        refine ⟨rfl, _, rfl, .inl ⟨_, rfl, _, h2, ?_, fun b hb => ?_, ?_⟩⟩
        · rw [List.length_take]
          have : (64 : Nat) ≤ sizeLine := by decide
          omega
        · rw [upd_ne hb]
          exact h1 b hb
        · rw [upd_same, List.take_add_one, hi]
          rfl
      rintro H' ⟨h1, h2⟩
      rw [List.take_length] at h2
      refine ⟨q2, _, rfl, SqL.of h2, fun l hl => ?_⟩
      obtain ⟨cs, hcs, hcl⟩ := cut_map ns none (some 63)
      rw [hxs] at hcs
      have d1 : d ≠ q := ne_of_none (o := .dK []) upd_same hq
      have d2 : d ≠ q2 := ne_of_none (o := .dK []) (by rw [upd_ne d1]; exact upd_same) hq2
      have hd2 : H' d = some (.dK []) := by
        rw [h1 d d2, upd_ne d1]
        exact upd_same
      have d3 : d ≠ l := ne_of_none hd2 hl
      refine ⟨_, rfl, ?_, [(.inr "cells", .ref l), (.inr "mixed", .int z), (.inr "turn", .int 0)], rfl, by show 3 ≤ 15; decide, ?_⟩
      · rw [upd_ne d3, hd2]
      · show Q (.ref d) (upd _ d (.dK (mergeK [] (deckD "cells" "mixed" "turn" l z 0))))
        rw [mergeK_deck n1 n2 n3]
        have old : ∀ b o, H b = some o → H' b = some o := fun b o hb => by
          have b1 : upd H p (.lst zs) b = some o := Same.step hp b o hb
          have b2 : upd (upd H p (.lst zs)) d (.dK []) b = some o := Same.step hd b o b1
          have b3 : upd (upd (upd H p (.lst zs)) d (.dK [])) q (.lst zs) b = some o := Same.step hq b o b2
          rw [h1 b (ne_of_none b3 hq2)]
          exact b3
        have hl0 : H l = none := by
          cases hh : H l with
          | none => rfl
          | some o =>
            have := old l o hh
            rw [hl] at this
            cases this
        have hd0 : H d = none := by
          cases hh : H d with
          | none => rfl
          | some o =>
            have : upd H p (.lst zs) d = some o := Same.step hp d o hh
            rw [hd] at this
            cases this
        have hp0 : ∀ b o, H b = some o → b ≠ d ∧ b ≠ l := fun b o hb => ⟨ne_of_none hb hd0, ne_of_none hb hl0⟩
        have hkeep : ∀ b o, H b = some o → upd (upd H' l (.lst zs.reverse)) d (.dK (deckD "cells" "mixed" "turn" l z 0)) b = some o := fun b o hb => by
          rw [upd_ne (hp0 b o hb).1, upd_ne (hp0 b o hb).2]
          exact old b o hb
        obtain ⟨e5, m5⟩ := deck_new (cells := cs.reverse) mo d3 hd0 hl0 hkeep upd_same (by rw [upd_ne (Ne.symm d3), upd_same, hcs, List.map_reverse]) (by rw [List.length_reverse]; omega)
        exact kk _ _ _ (.ref (mu.length + 1)) _ e5 m5 ⟨d, by rw [← mo.len]; simp, rfl⟩ kr

/-! _law_draw -/
theorem ok_l_draw (T : Tx k mg v_AT_REST u_AT_REST v_MOVING u_MOVING) (hk : k.DK = deckDK "cells" "mixed" "turn") : FnIn k P w mg base 1 "_law_draw" s_l_draw ["deck", "below"] spDraw := by
  refine fnIn_raw T.f_l_draw sc_l_draw (fun bs mu R h => ?_) (fun f cdv A outer s H E vs Q C q => ?_)
  · obtain ⟨j, i, many, rfl, _⟩ := h
    rfl
  · obtain ⟨al, bs, mu, R, rb, mo, ⟨j, i, many, rfl, hj, h0, hb, kr⟩, kk⟩ := q
    obtain ⟨va, vm, rfl, ⟨a, ha, rfl⟩, hv⟩ := reps2 rb
    cases (show vm = .int many from hv)
    obtain ⟨hij, a', l, o, u, ha', hl, hoa, hol, hd⟩ := mo.ok j _ hj
    rw [ha] at ha'
    cases ha'
    rw [hk] at hd
    rw [hk] at mo kk
    obtain ⟨x, y, cells, rfl, rfl, hcl⟩ := hd
    have hne : a ≠ l := fun e => by
      have := mo.nd j i a ha (by rw [e]; exact hl)
      omega
    have D0 : DkSt "cells" "mixed" "turn" H a l x y cells H := ⟨hne, fun b o q _ _ => q, hoa, hol, hcl⟩
    have hu := hu_of C.room
    have n1 : ("cells" : Str) ≠ "mixed" := by decide +kernel
    have n2 : ("cells" : Str) ≠ "turn" := by decide +kernel
    have n3 : ("mixed" : Str) ≠ "turn" := by decide +kernel
    refine ⟨_, pss_cons (ps_dput hu (pv 0) pe_str (pe_op op_add (pe_dget hu (pv 0) pe_str (fun _ _ => rfl)) pe_int) rfl)
      (pss_cons (ps_set (i := 2) sc_l_draw.nd rfl (.inl rfl) (pe_op op_add (pe_dget hu (pv 0) pe_str (fun _ _ => rfl)) (pe_op op_mul pe_int (pe_dget hu (pv 0) pe_str (fun _ _ => rfl)))))
      (C8.pss_cut (ps_if (pt_cmpR (op_neD C.room.units) (pe_dget hu (pv 0) pe_str (fun _ _ => rfl)) (pe_lst pa_nil) (nomark _))
        (pss_cons (ps_set (i := 3) sc_l_draw.nd rfl (.inl rfl) (pe_bm0 PySem.F.plainAttrs_list PySem.F.slot_list_pop PySem.F.type_list_pop mt_pop (pe_dget hu (pv 0) pe_str (fun _ _ => rfl))))
        (pss_cons (ps_if (pt_cmpR op_ge (pv 3) (pe_op op_pow pe_int pe_int) (nomark _))
          (pss_cons (ps_expr (pe_bm PySem.F.plainAttrs_list PySem.F.slot_list_append PySem.F.type_list_append mt_append (pe_dget hu (pv 0) pe_str (fun _ _ => rfl)) (pa_cons (pe_op op_fdivW (pv 3) (pe_callB (call_max2 rfl) rfl T.z_max PyProof.Rows.boot_max (pa_cons pe_int (pa_cons (pv 1) pa_nil)))) pa_nil)))
          (pss_one (ps_ret (pe_op op_mod (pe_callTy call_int1 rfl T.z_int PyProof.Rows.boot_int (pa_cons (pv 3) pa_nil)) (pv 1))))) pss_nil)
        (pss_one (ps_set (i := 2) sc_l_draw.nd rfl (.inl rfl) (pe_op op_add (pv 2) (pe_op op_mod (pe_callTy call_int1 rfl T.z_int PyProof.Rows.boot_int (pa_cons (pv 3) pa_nil)) pe_int)))))) pss_nil)
      (pss_cons (ps_set (i := 2) sc_l_draw.nd rfl (.inl rfl) (pe_op op_mod (pe_callTy call_int1 rfl T.z_int PyProof.Rows.boot_int (pa_cons (pe_op op_add (pe_op op_mul (pv 2) pe_int) pe_int) pa_nil)) pe_int))
      (pss_cons (ps_set (i := 2) sc_l_draw.nd rfl (.inl rfl) (pe_op op_mod (pe_callTy call_int1 rfl T.z_int PyProof.Rows.boot_int (pa_cons (pe_op op_add (pe_op op_add (pe_op op_mul (pv 2) (pv 2)) (pe_op op_mul pe_int (pe_dget hu (pv 0) pe_str (fun _ _ => rfl)))) pe_int) pa_nil)) pe_int))
      (pss_one (ps_ret (pe_op op_mod (pe_callTy call_int1 rfl T.z_int PyProof.Rows.boot_int (pa_cons (pe_op op_fdiv (pe_op op_mod (pe_callTy call_int1 rfl T.z_int PyProof.Rows.boot_int (pa_cons (pe_op op_mul (pv 2) pe_int) pa_nil)) pe_int) pe_int) pa_nil)) (pv 1)))))))), ?_⟩
    -- what is handed back
    have fin : ∀ {H' : Hp} {x y : Int} {cells : List Int} (c : Int), DkSt "cells" "mixed" "turn" H a l x y cells H' → Q (.int (c % many)) H' := fun c D => by
      obtain ⟨e, m'⟩ := deck_close mo hj ha hl D
      exact kk _ _ al (.dat (.int _)) mu e m' rfl (kr _ (Int.emod_nonneg _ (by omega)) (Int.emod_lt_of_pos _ h0))
    refine ⟨_, rfl, a, _, rfl, D0.getN n1 n2 n3, _, _, rfl, rfl, _, rfl, a, _, rfl, D0.putN n2 n3 _, ?_⟩
    have D1 := D0.setN (y + 1)
    refine ⟨_, rfl, a, _, rfl, D1.getM n1 n2 n3, _, rfl, a, _, rfl, D1.getN n1 n2 n3, _, _, rfl, rfl, .inl ⟨by decide, by decide⟩, _, _, rfl, rfl, ?_⟩
    refine ⟨fun σ H' => ∃ (num : Int) (v3 : Option V) (x y : Int) (cs : List Int), σ = [some (.ref a), some (.int many), some (.int num), v3] ∧ DkSt "cells" "mixed" "turn" H a l x y cs H', ?_, ?_⟩
    · refine ⟨_, rfl, a, _, rfl, D1.getC n1 n2 n3, Nat.zero_le _, fun p hp => ?_⟩
      have D2 := D1.fresh (o := .lst []) hp
      refine ⟨.list (cells.map .int), .list [], .lst (SqL.of D2.cl) (dp_ints _), .lst (SqL.of upd_same) .nil, shp_ints _, shp_ints [], _, rfl, ?_⟩
      rw [eqv_nil]
      cases hc : cells.isEmpty with
      | true => exact ⟨_, _, _, _, _, rfl, D2⟩
      | false =>
        have hc' : cells ≠ [] := fun e => by
          rw [e] at hc
          cases hc
        obtain ⟨c, hlast⟩ := list_last hc'
        have D3 := D2.setV cells.dropLast _ (List.map_dropLast (f := V.int) (l := cells)).symm (by rw [List.length_dropLast]; have := D2.len; omega)
        refine ⟨_, rfl, a, _, rfl, D2.getC n1 n2 n3, .inl ⟨rfl, _, .inl (.inl D2.cl)⟩, l, _, _, rfl, rfl, D2.cl, hlast, ?_⟩
        refine ⟨_, rfl, _, _, rfl, rfl, ⟨by decide, by decide, by decide⟩, _, _, rfl, rfl, _, rfl, ite2 (fun _ => ?_) (fun _ => ?_)⟩
        · have hm : CDivW c (if many > 2 then many else 2) := by
            refine wide_div (b := 8000) (by split <;> omega) ?_ (by decide) (by decide)
            split
            · exact hb
            · decide
          refine ⟨_, rfl, a, _, rfl, D3.getC n1 n2 n3, .inl ⟨rfl, _, .inl (.inl upd_same)⟩, _, rfl, _, rfl, _, _, rfl, _, _, rfl, rfl, hm, l, _, _, rfl, rfl, upd_same, ?_, ?_⟩
          · rw [List.length_dropLast, List.length_map]
            have := D2.len
            exact small1000 (by omega)
          · refine ⟨_, rfl, .inl ⟨_, rfl, _, rfl, _, _, rfl, rfl, h0, ?_⟩⟩
            have D4 := D3.setV (cells.dropLast ++ [c / (if many > 2 then many else 2)]) ((cells.map V.int).dropLast ++ [V.int (c / (if many > 2 then many else 2))]) (by rw [List.map_append, List.map_dropLast] <;> rfl) (by rw [List.length_append, List.length_dropLast, List.length_singleton]; have := D2.len; have := List.length_pos_iff.mpr hc'; omega)
            exact fin c D4
        · refine ⟨_, rfl, _, rfl, .inl ⟨_, rfl, _, _, rfl, rfl, (by show (0 : Int) < _; decide), _, _, rfl, rfl, ?_⟩⟩
          exact ⟨_, _, _, _, _, rfl, D3⟩
    · rintro σ H' ⟨num, v3, x, y, cs, rfl, D⟩
      refine ⟨_, rfl, _, _, rfl, rfl, .inr ⟨by decide, by decide⟩, _, _, rfl, rfl, .inl ⟨_, rfl, _, _, rfl, rfl, (by show (0 : Int) < _; decide), ?_⟩⟩
      generalize hn : (num * 40692 + 31) % 2147483629 = num1
      have hn1 : 0 ≤ num1 ∧ num1 < 2147483629 := by omega
      refine ⟨_, rfl, _, rfl, _, _, rfl, rfl, .inl ⟨by omega, by omega⟩, _, rfl, a, _, rfl, D.getN n1 n2 n3, _, _, rfl, rfl, .inl ⟨by decide, by decide⟩, _, _, rfl, rfl, _, _, rfl, rfl, .inl ⟨_, rfl, _, _, rfl, rfl, (by show (0 : Int) < _; decide), ?_⟩⟩
      refine ⟨_, rfl, _, _, rfl, rfl, .inr ⟨by decide, by decide⟩, .inl ⟨_, rfl, _, _, rfl, rfl, (by show (0 : Int) < _; decide), _, _, rfl, rfl, ⟨by decide, by decide⟩, .inl ⟨_, rfl, _, rfl, _, _, rfl, rfl, h0, ?_⟩⟩⟩
      exact fin _ D

/-! _law_pick -/
def sp_l_pick : DSp := fun bs mu R => ∃ (j i : Nat) (b : B) (ds : List D), bs = [.ref j, b] ∧ mu[j]? = some (.deck i) ∧ seqB mu b = some ds ∧ ds ≠ [] ∧ ds.length < 1000 ∧ ∀ d ∈ ds, R (.dat d) mu
theorem ok_l_pick (T : Tx k mg v_AT_REST u_AT_REST v_MOVING u_MOVING) (G_l_draw : FnIn k P w mg base 1 "_law_draw" s_l_draw ["deck", "below"] spDraw) : FnIn k P w mg base 2 "_law_pick" s_l_pick ["deck", "some"] sp_l_pick := by
  refine fnIn_of T.f_l_pick sc_l_pick (fun bs mu R h => ?_) ⟨_, fun f cdv A outer s H E C => (s_one (s_ret (d_ixA C.hK (d_var (i := 1) rfl (Or.inl rfl)) (d_call C G_l_draw rfl (a_cons (d_var (i := 0) rfl (Or.inl rfl)) (a_cons (d_callB (c_len C.hK) rfl T.z_len PySem.boot_len (a_cons (d_var (i := 1) rfl (Or.inl rfl)) a_nil)) a_nil))) (fun _ _ => rfl)))), fun bs mu R h => ?_⟩
  · obtain ⟨j, i, b, ds, rfl, hj, hd, hne, hl, h⟩ := h
    rfl
  · obtain ⟨j, i, b, ds, rfl, hj, hd, hne, hl, h⟩ := h
    walk_at "st"
    have hp : 0 < ds.length := List.length_pos_iff.mpr hne
    cases b with
    | ref c =>
      have hc := seqB_ref hd
      walk_at "dl"
      refine wLen_r hc ?_
      walk_at "dl"
      refine ⟨j, i, _, rfl, hj, by omega, pick_bd hl, fun r h0 h1 => ?_⟩
      obtain ⟨d, hd, e⟩ := at_in h0 h1
      walk_at "dl"
      exact ⟨ds, d, hc, e, h d hd⟩
    | dat d =>
    cases d with
    | list es =>
      cases hd
      walk_at "dl"
      refine ⟨j, i, _, rfl, hj, by omega, pick_bd hl, fun r h0 h1 => ?_⟩
      obtain ⟨d, hd, e⟩ := at_in h0 h1
      walk_at "dl"
      exact ⟨d, e, h d hd⟩
    | tuple es =>
      cases hd
      walk_at "dl"
      refine ⟨j, i, _, rfl, hj, by omega, pick_bd hl, fun r h0 h1 => ?_⟩
      obtain ⟨d, hd, e⟩ := at_in h0 h1
      walk_at "dl"
      exact ⟨d, e, h d hd⟩
    | str x =>
      cases hd
      rw [signs_len] at hp hl
      walk_at "dl"
      refine ⟨szle (by omega), j, i, _, rfl, hj, by omega, pick_bd hl, fun r h0 h1 => ?_⟩
      obtain ⟨c, hc, e⟩ := sgn_in h0 h1
      walk_at "dl"
      refine ⟨szle (by omega), c, e, h _ ?_⟩
      exact List.mem_map.mpr ⟨c, hc, rfl⟩
    | _ => cases hd
/-! _law_divisor -/
def sp_l_divisor : DSp := fun bs mu R => ∃ a b : Int, bs = [.dat (.int a), .dat (.int b)] ∧ R (.dat (.int ((Nat.gcd a.natAbs b.natAbs : Nat) : Int))) mu
theorem ok_l_divisor (T : Tx k mg v_AT_REST u_AT_REST v_MOVING u_MOVING) : FnIn k P w mg base 1 "_law_divisor" s_l_divisor ["one", "other"] sp_l_divisor := by
  refine fnIn_of T.f_l_divisor sc_l_divisor (fun bs mu R h => ?_) ⟨_, fun f cdv A outer s H E C => (s_cons (s_par (i := 0) (j := 1) C.calm sc_l_divisor.nd rfl rfl (by decide) rfl rfl (a_cons (d_callB c_abs rfl T.z_abs PyProof.Rows.boot_abs (a_cons (d_var (i := 0) rfl (Or.inl rfl)) a_nil)) (a_cons (d_callB c_abs rfl T.z_abs PyProof.Rows.boot_abs (a_cons (d_var (i := 1) rfl (Or.inl rfl)) a_nil)) a_nil)) (by rfl))
      (s_cons (s_while PassesOwn.never (d_tcmp o_gt (d_var (i := 1) rfl (Or.inl rfl)) d_int (nomark _)) (s_one (s_par (i := 0) (j := 1) C.calm sc_l_divisor.nd rfl rfl (by decide) rfl rfl (a_cons (d_var (i := 1) rfl (Or.inl rfl)) (a_cons (d_bin o_mod (d_callTy c_int rfl T.z_int PyProof.Rows.boot_int (a_cons (d_var (i := 0) rfl (Or.inl rfl)) a_nil)) (d_var (i := 1) rfl (Or.inl rfl))) a_nil)) (by rfl))))
      (s_one (s_ret (d_var (i := 0) rfl (Or.inl rfl)))))), fun bs mu R h => ?_⟩
  · obtain ⟨a, b, rfl, h⟩ := h
    rfl
  · obtain ⟨a, b, rfl, h⟩ := h
    walk_at "st"
    walk_at "dl"
    refine while_k (fun en mu2 => mu2 = mu ∧ ∃ x y : Int, en = [some (.dat (.int x)), some (.dat (.int y))] ∧ 0 ≤ x ∧ 0 ≤ y ∧ Nat.gcd x.natAbs y.natAbs = Nat.gcd a.natAbs b.natAbs) (fun en _ => match en with | [_, some (.dat (.int y))] => y.natAbs | _ => 0) ⟨rfl, _, _, rfl, by omega, by omega, by simp⟩ ?_
    rintro en mu2 N ⟨rfl, x, y, rfl, hx, hy, hg⟩ hN
    walk_at "dl"
    split
    · rename_i h0
      refine ⟨by omega, hN _ _ ⟨rfl, _, _, rfl, hy, Int.fmod_nonneg hx hy, ?_⟩ ?_⟩
      · rw [← hg]
        exact gcd_step hx h0
      · show (x.fmod y).natAbs < y.natAbs
        have h1 := Int.fmod_lt_of_pos x h0
        have h2 := Int.fmod_nonneg hx hy
        omega
    · have e : y = 0 := by omega
      subst e
      walk_at "dl"
      rw [Int.natAbs_zero, Nat.gcd_zero_right] at hg
      have e2 : x = ((Nat.gcd a.natAbs b.natAbs : Nat) : Int) := by omega
      rw [e2]
      exact h
/-! _law_lowest -/
def sp_l_lowest : DSp := fun bs mu R => ∃ n d, bs = [.dat (.int n), .dat (.int d)] ∧ d ≠ 0 ∧ Bd 8000 d ∧ ∀ n2 d2, FrOf n d n2 d2 → R (.dat (fr n2 d2)) mu
theorem ok_l_lowest (T : Tx k mg v_AT_REST u_AT_REST v_MOVING u_MOVING) (G_l_divisor : FnIn k P w mg base 1 "_law_divisor" s_l_divisor ["one", "other"] sp_l_divisor) : FnIn k P w mg base 2 "_law_lowest" s_l_lowest ["n", "d"] sp_l_lowest := by
  refine fnIn_of T.f_l_lowest sc_l_lowest (fun bs mu R h => ?_) ⟨_, fun f cdv A outer s H E C => (s_cons (s_set (i := 2) sc_l_lowest.nd rfl (Or.inl rfl) (d_call C G_l_divisor rfl (a_cons (d_var (i := 0) rfl (Or.inl rfl)) (a_cons (d_var (i := 1) rfl (Or.inl rfl)) a_nil))))
      (s_one (s_ret (d_if (d_tcmp o_gt (d_var (i := 1) rfl (Or.inl rfl)) d_int (nomark _)) (d_tup (a_cons (d_bin o_div (d_var (i := 0) rfl (Or.inl rfl)) (d_var (i := 2) rfl (Or.inl rfl))) (a_cons (d_bin o_div (d_var (i := 1) rfl (Or.inl rfl)) (d_var (i := 2) rfl (Or.inl rfl))) a_nil))) (d_tup (a_cons (d_bin o_div (d_neg (d_var (i := 0) rfl (Or.inl rfl))) (d_var (i := 2) rfl (Or.inl rfl))) (a_cons (d_bin o_div (d_neg (d_var (i := 1) rfl (Or.inl rfl))) (d_var (i := 2) rfl (Or.inl rfl))) a_nil))))))), fun bs mu R h => ?_⟩
  · obtain ⟨n, d, rfl, hd, hb, h⟩ := h
    rfl
  · obtain ⟨n, d, rfl, hd, hb, h⟩ := h
    walk_at "st"
    walk_at "dl"
    refine ⟨_, _, rfl, ?_⟩
    walk_at "dl"
    have hl : Bd 8000 ((Nat.gcd n.natAbs d.natAbs : Nat) : Int) := hb.le (by
      rw [Int.natAbs_natCast]
      exact Nat.le_of_dvd (by omega) (Nat.gcd_dvd_right _ _))
    have hg : ((Nat.gcd n.natAbs d.natAbs : Nat) : Int) ≠ 0 := by
      have : 0 < Nat.gcd n.natAbs d.natAbs := Nat.gcd_pos_of_pos_right _ (by omega)
      omega
    by_cases h0 : 0 < d
    · rw [if_pos h0]
      obtain ⟨c0, cl, hf⟩ := low_ok hd (c := ((Nat.gcd n.natAbs d.natAbs : Nat) : Int)) (by rw [if_neg (by omega)])
      exact ⟨⟨hg, hl.log⟩, ⟨hg, hl.log⟩, h _ _ hf⟩
    · rw [if_neg h0]
      obtain ⟨c0, cl, hf⟩ := low_ok (n := -n) (d := -d) (by omega) (c := ((Nat.gcd n.natAbs d.natAbs : Nat) : Int)) (by rw [if_neg (by omega), Int.natAbs_neg, Int.natAbs_neg])
      refine ⟨⟨hg, hl.log⟩, ⟨hg, hl.log⟩, h _ _ ⟨hf.1, ?_⟩⟩
      have := hf.2
      rw [Int.mul_neg, Int.neg_mul, Int.neg_inj] at this
      exact this
/-! _law_value_at -/
def sp_l_value_at : DSp := fun bs mu R => ∃ d, bs = [.dat d] ∧ traceD d = true ∧ trOk d ∧ R (.dat (valD d)) mu
theorem ok_l_value_at (T : Tx k mg v_AT_REST u_AT_REST v_MOVING u_MOVING) (G_l_lowest : FnIn k P w mg base 2 "_law_lowest" s_l_lowest ["n", "d"] sp_l_lowest) : FnIn k P w mg base 3 "_law_value_at" s_l_value_at ["trace"] sp_l_value_at := by
  refine fnIn_of T.f_l_value_at sc_l_value_at (fun bs mu R h => ?_) ⟨_, fun f cdv A outer s H E C => (s_cons (s_if (d_tcmp (o_eqB C) (d_callB (c_len C.hK) rfl T.z_len PySem.boot_len (a_cons (d_var (i := 0) rfl (Or.inl rfl)) a_nil)) d_int (nomark _)) (s_one (s_ret (d_tup (a_cons (d_ixA C.hK (d_var (i := 0) rfl (Or.inl rfl)) d_int (fun _ _ => rfl)) (a_cons d_int a_nil))))) s_nil)
      (s_cons (s_asg (d_var (i := 0) rfl (Or.inl rfl)) (g_tup (n := 6) C.calm (gs_cons (g_name (i := 1) sc_l_value_at.nd rfl (Or.inl rfl)) (gs_cons (g_name (i := 2) sc_l_value_at.nd rfl (Or.inl rfl)) (gs_cons (g_name (i := 3) sc_l_value_at.nd rfl (Or.inl rfl)) (gs_cons (g_name (i := 4) sc_l_value_at.nd rfl (Or.inl rfl)) (gs_cons (g_name (i := 5) sc_l_value_at.nd rfl (Or.inl rfl)) (gs_cons (g_tup (n := 2) C.calm (gs_cons (g_name (i := 6) sc_l_value_at.nd rfl (Or.inl rfl)) (gs_cons (g_name (i := 7) sc_l_value_at.nd rfl (Or.inl rfl)) gs_nil)) rfl rfl C.hK) gs_nil)))))) rfl rfl C.hK))
      (s_cons (s_if (d_tcmp o_le (d_var (i := 5) rfl (Or.inl rfl)) (d_var (i := 3) rfl (Or.inl rfl)) (nomark _)) (s_one (s_ret (d_tup (a_cons (d_var (i := 6) rfl (Or.inl rfl)) (a_cons (d_var (i := 7) rfl (Or.inl rfl)) a_nil))))) s_nil)
      (s_one (s_ret (d_call C G_l_lowest rfl (a_cons (d_bin (o_addA C.hK) (d_bin (o_mulA C.hK) (d_var (i := 6) rfl (Or.inl rfl)) (d_var (i := 4) rfl (Or.inl rfl))) (d_bin (o_mulA C.hK) (d_bin o_sub (d_bin (o_mulA C.hK) (d_var (i := 2) rfl (Or.inl rfl)) (d_var (i := 7) rfl (Or.inl rfl))) (d_var (i := 6) rfl (Or.inl rfl))) (d_bin o_sub (d_var (i := 5) rfl (Or.inl rfl)) (d_var (i := 3) rfl (Or.inl rfl))))) (a_cons (d_bin (o_mulA C.hK) (d_var (i := 7) rfl (Or.inl rfl)) (d_var (i := 4) rfl (Or.inl rfl))) a_nil)))))))), fun bs mu R h => ?_⟩
  · obtain ⟨d, rfl, ht, hb, h⟩ := h
    rfl
  · obtain ⟨d, rfl, ht, hb, h⟩ := h
    walk_at "st"
    rcases trace_of ht with ⟨s, t, rfl, hs⟩ | ⟨s, t, dl, tm, ag, n, e, rfl, hs, hd, htm, ha, hlt, hf⟩
    · walk_at "dl"
      exact h
    · rw [trOk_six] at hb
      obtain ⟨b1, b2, b3, b4, b5, b6⟩ := hb
      rw [val_six] at h
      walk_at "dl"
      rw [if_neg (by decide)]
      walk_at "dl"
      by_cases c : ag ≤ dl
      · rw [if_pos c] at h ⊢
        walk_at "dl"
        exact h
      · rw [if_neg c] at h ⊢
        walk_at "dl"
        have ht0 : 0 < tm := by omega
        have he := hf.1
        have bt : Bd 3201 (t * e - n) := Bd.sub (a := 3200) ((b1.mul b6).mono (by decide)) (b5.mono (by decide))
        have ba : Bd 1601 (ag - dl) := Bd.sub (a := 1600) b4 b2
        refine ⟨b5.ok b3, b1.ok b6, bt.ok ba, b6.ok b3, _, _, rfl, ?_, (b6.mul b3).mono (by decide), fun r1 r2 hr => ?_⟩
        · have := Int.mul_pos (by omega : 0 < e) ht0
          omega
        walk_at "dl"
        rw [← frq_of (Int.mul_pos (by omega) ht0) hr] at h
        exact h
/-! _law_is_any -/
def sp_l_is_any : DSp := fun bs mu R => ∃ d, bs = [.dat d] ∧ okT d = true ∧ R (.dat (.bool (isI d))) mu
theorem ok_l_is_any (T : Tx k mg v_AT_REST u_AT_REST v_MOVING u_MOVING) : FnIn k P w mg base 1 "_law_is_any" s_l_is_any ["thing"] sp_l_is_any := by
  refine fnIn_of T.f_l_is_any sc_l_is_any (fun bs mu R h => ?_) ⟨_, fun f cdv A outer s H E C => (s_one (s_ret (d_and (d_isi (T := .int) C.hK (d_var (i := 0) rfl (Or.inl rfl)) rfl T.z_isinstance rfl T.z_int PyProof.Rows.boot_int) (d_one (d_not (d_isi (T := .bool) C.hK (d_var (i := 0) rfl (Or.inl rfl)) rfl T.z_isinstance rfl T.z_bool PyProof.Rows.boot_bool)))))), fun bs mu R h => ?_⟩
  · obtain ⟨d, rfl, ok, h⟩ := h
    rfl
  · obtain ⟨d, rfl, ok, h⟩ := h
    walk_at "st"
    walk_at "dl"
    rw [ok]
    cases d <;> first | exact ⟨trivial, h⟩ | exact ⟨trivial, trivial, h⟩ | exact ⟨rfl, rfl, h⟩ | exact ⟨rfl, h⟩
/-! _law_is_integer -/
def sp_l_is_integer : DSp := fun bs mu R => ∃ d l, bs = [.dat (d), .dat (.int l)] ∧ okT d = true ∧ R (.dat (.bool (fromI d l))) mu
theorem ok_l_is_integer (T : Tx k mg v_AT_REST u_AT_REST v_MOVING u_MOVING) (G_l_is_any : FnIn k P w mg base 1 "_law_is_any" s_l_is_any ["thing"] sp_l_is_any) : FnIn k P w mg base 2 "_law_is_integer" s_l_is_integer ["thing", "least"] sp_l_is_integer := by
  refine fnIn_of T.f_l_is_integer sc_l_is_integer (fun bs mu R h => ?_) ⟨_, fun f cdv A outer s H E C => (s_one (s_ret (d_and (d_call C G_l_is_any rfl (a_cons (d_var (i := 0) rfl (Or.inl rfl)) a_nil)) (d_one (d_cmp o_ge (d_var (i := 0) rfl (Or.inl rfl)) (d_var (i := 1) rfl (Or.inl rfl)) (nomark _)))))), fun bs mu R h => ?_⟩
  · obtain ⟨d, l, rfl, ok, h⟩ := h
    rfl
  · obtain ⟨d, l, rfl, ok, h⟩ := h
    walk_at "st"
    walk_at "dl"
    refine ⟨_, rfl, ok, ?_⟩
    walk_at "dl"
    cases d <;> first | exact h | (simp only [isI, if_true]; walk_at "dl"; exact h) | cases ok
/-! _law_is_trace -/
def sp_l_is_trace : DSp := fun bs mu R => ∃ d n, bs = [.dat d] ∧ nz (n + 2) d = true ∧ R (.dat (.bool (traceD d))) mu
theorem ok_l_is_trace (T : Tx k mg v_AT_REST u_AT_REST v_MOVING u_MOVING) (G_l_divisor : FnIn k P w mg base 1 "_law_divisor" s_l_divisor ["one", "other"] sp_l_divisor) (G_l_is_any : FnIn k P w mg base 1 "_law_is_any" s_l_is_any ["thing"] sp_l_is_any) (G_l_is_integer : FnIn k P w mg base 2 "_law_is_integer" s_l_is_integer ["thing", "least"] sp_l_is_integer) : FnIn k P w mg base 3 "_law_is_trace" s_l_is_trace ["thing"] sp_l_is_trace := by
  refine fnIn_of T.f_l_is_trace sc_l_is_trace (fun bs mu R h => ?_) ⟨_, fun f cdv A outer s H E C => (s_cons (s_if (PW.pt (dw_or (dt_not (d_tval (d_isi (T := .tuple) C.hK (d_var (i := 0) rfl (Or.inl rfl)) rfl T.z_isinstance rfl T.z_tuple PyProof.Rows.boot_tuple))) (dw_or (d_tcmp (o_notInA C.hK) (d_callB (c_len C.hK) rfl T.z_len PySem.boot_len (a_cons (d_var (i := 0) rfl (Or.inl rfl)) a_nil)) (d_tup (a_cons d_int (a_cons d_int a_nil))) (by with_unfolding_all rfl)) (dw_or1 (dt_not (d_tval (d_call C G_l_is_integer rfl (a_cons (d_ixA C.hK (d_var (i := 0) rfl (Or.inl rfl)) d_int (fun _ _ => rfl)) (a_cons d_int a_nil))))))))) (s_one (s_ret d_bl)) s_nil)
      (s_cons (s_if (PW.pt (dw_or (dt_not (d_tval (d_call C G_l_is_any rfl (a_cons (d_ixA C.hK (d_var (i := 0) rfl (Or.inl rfl)) d_int (fun _ _ => rfl)) a_nil)))) (dw_or1 (d_tcmp (o_eqB C) (d_callB (c_len C.hK) rfl T.z_len PySem.boot_len (a_cons (d_var (i := 0) rfl (Or.inl rfl)) a_nil)) d_int (nomark _))))) (s_one (s_ret (d_and (d_cmp (o_eqB C) (d_callB (c_len C.hK) rfl T.z_len PySem.boot_len (a_cons (d_var (i := 0) rfl (Or.inl rfl)) a_nil)) d_int (nomark _)) (d_one (d_call C G_l_is_any rfl (a_cons (d_ixA C.hK (d_var (i := 0) rfl (Or.inl rfl)) d_int (fun _ _ => rfl)) a_nil)))))) s_nil)
      (s_cons (s_if (PW.pt (dw_or (d_tcmp (o_neB C) (d_frz (d_comp (own := [("it", 1)]) C.calm sc_l_is_trace.nd (i_any C.hK (d_frz (d_slice C.hK (d_var (i := 0) rfl (Or.inl rfl)) (p_pt d_int) (p_pt d_int)))) (blkOk_by (N := ["thing", "it", "start"]) (sc := defScope s_l_is_trace) (by decide +kernel)) (fun _ _ _ _ _ => (g_name (i := 1) sc_l_is_trace.nd rfl (Or.inl rfl))) (fun _ _ _ _ _ => (ts_one (dt_not (d_tval (d_call (In.blk C _ _ _ _ _) G_l_is_integer rfl (a_cons (d_var (i := 1) rfl (Or.inl rfl)) (a_cons d_int a_nil))))))) (fun _ _ _ _ _ => d_int))) (d_lst a_nil) (nomark _)) (dw_or1 (d_tcmp o_ge (d_ixA C.hK (d_var (i := 0) rfl (Or.inl rfl)) d_int (fun _ _ => rfl)) (d_bin (o_addA C.hK) (d_ixA C.hK (d_var (i := 0) rfl (Or.inl rfl)) d_int (fun _ _ => rfl)) (d_ixA C.hK (d_var (i := 0) rfl (Or.inl rfl)) d_int (fun _ _ => rfl))) (nomark _))))) (s_one (s_ret d_bl)) s_nil)
      (s_cons (s_set (i := 2) sc_l_is_trace.nd rfl (Or.inl rfl) (d_ixA C.hK (d_var (i := 0) rfl (Or.inl rfl)) d_int (fun _ _ => rfl)))
      (s_cons (s_if (PW.pt (dw_or (dt_not (d_tval (d_isi (T := .tuple) C.hK (d_var (i := 2) rfl (Or.inl rfl)) rfl T.z_isinstance rfl T.z_tuple PyProof.Rows.boot_tuple))) (dw_or (d_tcmp (o_neB C) (d_callB (c_len C.hK) rfl T.z_len PySem.boot_len (a_cons (d_var (i := 2) rfl (Or.inl rfl)) a_nil)) d_int (nomark _)) (dw_or1 (dt_not (d_tval (d_call C G_l_is_any rfl (a_cons (d_ixA C.hK (d_var (i := 2) rfl (Or.inl rfl)) d_int (fun _ _ => rfl)) a_nil)))))))) (s_one (s_ret d_bl)) s_nil)
      (s_one (s_ret (d_and (d_call C G_l_is_integer rfl (a_cons (d_ixA C.hK (d_var (i := 2) rfl (Or.inl rfl)) d_int (fun _ _ => rfl)) (a_cons d_int a_nil))) (d_one (d_cmp (o_eqB C) (d_call C G_l_divisor rfl (a_cons (d_ixA C.hK (d_var (i := 2) rfl (Or.inl rfl)) d_int (fun _ _ => rfl)) (a_cons (d_ixA C.hK (d_var (i := 2) rfl (Or.inl rfl)) d_int (fun _ _ => rfl)) a_nil))) d_int (nomark _))))))))))), fun bs mu R h => ?_⟩
  · obtain ⟨d, n, rfl, g, h⟩ := h
    rfl
  · obtain ⟨d, n, rfl, g, h⟩ := h
    walk_at "st"
    cases d with
    | tuple ds =>
      obtain ⟨hl, hg⟩ := nz_tup g
      walk_at "dl"
      refine ⟨rfl, _, rfl, rfl, ?_⟩
      rw [inD_26]
      rcases row26 ds with ⟨a, b, rfl⟩ | ⟨a, b, c, e, f, q, rfl⟩ | ⟨h2, h6, hk⟩
      · have e1 : (decide (((([a, b] : List D).length : Nat) : Int) = 2) || decide (((([a, b] : List D).length : Nat) : Int) = 6)) = true := rfl
        rw [e1]
        have e2 : traceD (.tuple [a, b]) = (fromI a 0 && isI b) := rfl
        rw [e2] at h
        walk_at "dl"
        refine ⟨a, 0, rfl, nz_okT (hg a (by simp)), ?_⟩
        walk_at "dl"
        cases ha : fromI a 0 with
        | false =>
          rw [ha] at h
          walk_at "dl"
          exact h
        | true =>
        rw [ha, Bool.true_and] at h
        walk_at "dl"
        refine ⟨b, rfl, nz_okT (hg b (by simp)), ?_⟩
        walk_at "dl"
        cases hb : isI b with
        | false =>
          rw [hb] at h
          walk_at "dl"
          refine ⟨b, rfl, nz_okT (hg b (by simp)), ?_⟩
          walk_at "dl"
          rw [hb]
          exact h
        | true =>
          rw [hb] at h
          walk_at "dl"
          refine ⟨b, rfl, nz_okT (hg b (by simp)), ?_⟩
          walk_at "dl"
          rw [hb]
          exact h
      · have e1 : (decide (((([a, b, c, e, f, q] : List D).length : Nat) : Int) = 2) || decide (((([a, b, c, e, f, q] : List D).length : Nat) : Int) = 6)) = true := rfl
        rw [e1]
        have e2 : traceD (.tuple [a, b, c, e, f, q]) = ((fromI a 0 && (isI b && (fromI c 0 && (fromI e 0 && (fromI f 0 && lt3 c e f))))) && frD q) := rfl
        rw [e2] at h
        walk_at "dl"
        refine ⟨a, 0, rfl, nz_okT (hg a (by simp)), ?_⟩
        walk_at "dl"
        cases ha : fromI a 0 with
        | false =>
          rw [ha] at h
          walk_at "dl"
          exact h
        | true =>
        rw [ha, Bool.true_and] at h
        walk_at "dl"
        refine ⟨b, rfl, nz_okT (hg b (by simp)), ?_⟩
        walk_at "dl"
        cases hb : isI b with
        | false =>
          rw [hb] at h
          walk_at "dl"
          rw [if_neg (by decide)]
          exact h
        | true =>
        rw [hb, Bool.true_and] at h
        walk_at "dl"
        rw [if_neg (by decide)]
        walk_at "dl"
        rw [show cutD [a, b, c, e, f, q] (some 2) (some 5) = [c, e, f] from rfl]
        refine (comp_k (fun i acc mu2 => mu2 = mu ∧ acc.isEmpty = (([c, e, f] : List D).take i).all (fun x => fromI x 0) ∧ acc.length ≤ i) ⟨rfl, rfl, Nat.le_refl _⟩ ?_ ?_)
        · rintro i x acc mu2 N he ⟨rfl, ha2, hl2⟩ hN
          walk_at "dl"
          have hm : x ∈ (([a, b, c, e, f, q] : List D).take 5).drop 2 := List.mem_of_getElem? (i := i) he
          have hi3 : i < 3 := (List.getElem?_eq_some_iff.mp he).1
          refine ⟨x, 0, rfl, nz_okT (hg x (List.mem_of_mem_take (List.mem_of_mem_drop hm))), ?_⟩
          walk_at "dl"
          obtain ⟨o1, o2⟩ := one_step (q := fun x => fromI x 0) he ha2
          cases hx : fromI x 0 with
          | true =>
            walk_at "dl"
            exact hN _ _ ⟨rfl, o1 hx, by omega⟩
          | false =>
            walk_at "dl"
            refine ⟨Nat.lt_of_le_of_lt (by omega : acc.length ≤ 3) (by decide), ?_⟩
            refine hN _ _ ⟨rfl, o2 hx _, ?_⟩
            rw [List.length_append, List.length_singleton]
            omega
        · rintro acc mu2 ⟨rfl, ha2, hl2⟩
          have ha3 : acc.isEmpty = (fromI c 0 && (fromI e 0 && (fromI f 0 && true))) := ha2
          walk_at "dl"
          cases hc : fromI c 0 with
          | false =>
            rw [hc, Bool.false_and] at ha3 h
            rw [ha3]
            exact h
          | true =>
          cases he : fromI e 0 with
          | false =>
            rw [hc, he, Bool.true_and, Bool.false_and] at ha3 h
            rw [ha3]
            exact h
          | true =>
          cases hf : fromI f 0 with
          | false =>
            rw [hc, he, hf, Bool.true_and, Bool.true_and, Bool.false_and] at ha3 h
            rw [ha3]
            exact h
          | true =>
          rw [hc, he, hf, Bool.true_and, Bool.true_and, Bool.true_and] at ha3 h
          rw [ha3]
          obtain ⟨c, rfl, _⟩ := fromI_of hc
          obtain ⟨e, rfl, _⟩ := fromI_of he
          obtain ⟨f, rfl, _⟩ := fromI_of hf
          walk_at "dl"
          have e4 : lt3 (.int c) (.int e) (.int f) = decide (f < c + e) := rfl
          rw [e4] at h
          by_cases hlt : f < c + e
          · rw [if_neg (by omega)]
            rw [decide_eq_true hlt, Bool.true_and] at h
            cases q with
            | tuple rs =>
              obtain ⟨_, hr⟩ := nz_tup (hg (.tuple rs) (by simp))
              rcases row2 rs with ⟨a, b, rfl⟩ | ⟨hne, _, hk⟩
              · walk_at "dl"
                refine ⟨a, rfl, nz_okT (hr a (by simp)), ?_⟩
                walk_at "dl"
                cases a with
                | int n =>
                  rw [show isI (.int n) = true from rfl]
                  walk_at "dl"
                  refine ⟨b, 1, rfl, nz_okT (hr b (by simp)), ?_⟩
                  walk_at "dl"
                  cases b with
                  | int d =>
                    have e5 : frD (.tuple [.int n, .int d]) = (decide (1 ≤ d) && decide (Nat.gcd n.natAbs d.natAbs = 1)) := rfl
                    rw [e5] at h
                    rw [show fromI (.int d) 1 = decide (1 ≤ d) from rfl]
                    by_cases c1 : 1 ≤ d
                    · rw [decide_eq_true c1] at h ⊢
                      walk_at "dl"
                      refine ⟨n, d, rfl, ?_⟩
                      walk_at "dl"
                      rw [Bool.true_and] at h
                      have e3 : decide (((Nat.gcd n.natAbs d.natAbs : Nat) : Int) = 1) = decide (Nat.gcd n.natAbs d.natAbs = 1) := by
                        rw [decide_eq_decide]
                        omega
                      rw [e3]
                      exact h
                    · rw [decide_eq_false c1] at h ⊢
                      walk_at "dl"
                      exact h
                  | _ => exact h
                | _ => exact h
              · walk_at "dl"
                rw [if_pos (by simp [hne])]
                rw [hk] at h
                exact h
            | _ => first | (walk_at "dl"; exact h) | cases hg _ (List.mem_of_getElem? (i := 5) rfl)
          · rw [if_pos (by omega)]
            rw [decide_eq_false hlt, Bool.false_and] at h
            exact h
      · rw [decide_eq_false h2, decide_eq_false h6]
        walk_at "dl"
        rw [hk] at h
        exact h
    | _ => first | (walk_at "dl"; exact h) | cases g
/-! _law_told -/
def spNo : DSp := fun _ _ _ => False
theorem okX_value_at {q : Str} {Cb Db fI : Addr} (T : Tx k mg v_AT_REST u_AT_REST v_MOVING u_MOVING) (hg0 : k.gds = false) (B : BadX.Txt k.K mg P "BadState" q Cb Db fI) (G_is_trace_value : FnIn k P w mg base 4 "is_trace_value" s_is_trace_value ["thing"] sp_is_trace_value) (G_value_in : FnIn k P w mg base 5 "value_in" s_value_in ["trace"] sp_value_in) :
    ∃ f fd, Fun k.K "value_at" "value_at" s_value_at f fd ∧ mg "value_at" = some (.ref f) ∧ Binds k.K fd ["trace"] [] ∧ FnOk P w k.K mg base (L2.CX P w) 6 f fd ["trace"] (spX k Cb vPre vG) := by
  obtain ⟨f, fd, h1, h2, h3⟩ := T.f_value_at.ex
  refine ⟨f, fd, h1, h2, h3, h1.okX sc_value_at spX_len fun cdv A outer s H vs Q E hr h => ?_⟩
  have C : In k (cxOf (L2.CX P w) P w k.K mg base ["trace"] "value_at" (defScope s_value_at) f cdv A outer s H E) P w mg base 5 := ⟨rfl, rfl, rfl, rfl, rfl, hr, (fun z => by rw [hg0] at z; cases z), rfl⟩
  refine ⟨_, pss_cons (ps_if (dt_not (d_tval (d_call C G_is_trace_value rfl (a_cons (d_var (i := 0) rfl (Or.inl rfl)) a_nil)))) (pss_one (ps_raise rfl (takes_of rfl rfl rfl rfl) (pmk_bad B hr (by decide) (pe_var (i := 0) rfl (.inl rfl)) rfl))) pss_nil)
    (pss_one (ps_ret (d_call C G_value_in rfl (a_cons (d_var (i := 0) rfl (Or.inl rfl)) a_nil)))), pureX (p := "trace") (fun d mu Q hp hq => ?_) (fun d w mu Q hp hg hq => ?_) vs H Q E h⟩
  · obtain ⟨⟨n, hn⟩, ho⟩ := hp
    walk_at "dl"
    refine ⟨d, n, rfl, hn, ?_⟩
    walk_at "dl"
    unfold vG at hq
    cases ht : traceD d with
    | true =>
      rw [ht, if_pos rfl] at hq
      exact hq
    | false =>
      rw [ht, if_neg Bool.false_ne_true] at hq
      exact hq
  · obtain ⟨⟨n, hn⟩, ho⟩ := hp
    unfold vG at hg
    cases ht : traceD d with
    | true =>
      rw [ht, if_pos rfl] at hg
      cases hg
      walk_at "dl"
      exact ⟨d, rfl, ht, ho, hq⟩
    | false =>
      rw [ht, if_neg Bool.false_ne_true] at hg
      cases hg
/-! _law_fade -/
def sp_l_fade : DSp := fun bs mu R => ∃ (j i : Nat) (d : D), bs = [.ref j, .dat d] ∧ mu[j]? = some (.deck i) ∧ ∀ s t dl tm : Int, (0 ≤ s ∧ s < 60) ∧ (-10000 ≤ t ∧ t ≤ 10000) ∧ (0 ≤ dl ∧ dl ≤ 9) ∧ (0 ≤ tm ∧ tm ≤ 200) ∧ 0 < dl + tm → R (.dat (.tuple [.int s, .int t, .int dl, .int tm, .int 0, d])) mu
theorem ok_l_fade (T : Tx k mg v_AT_REST u_AT_REST v_MOVING u_MOVING) (G_l_draw : FnIn k P w mg base 1 "_law_draw" s_l_draw ["deck", "below"] spDraw) (G_l_pick : FnIn k P w mg base 2 "_law_pick" s_l_pick ["deck", "some"] sp_l_pick) : FnIn k P w mg base 3 "_law_fade" s_l_fade ["deck", "start"] sp_l_fade := by
  refine fnIn_of T.f_l_fade sc_l_fade (fun bs mu R h => ?_) ⟨_, fun f cdv A outer s H E C => (s_cons (s_set (i := 2) sc_l_fade.nd rfl (Or.inl rfl) (d_call C G_l_pick rfl (a_cons (d_var (i := 0) rfl (Or.inl rfl)) (a_cons (d_lst (a_cons d_int (a_cons d_int (a_cons d_int (a_cons d_int (a_cons (d_call C G_l_draw rfl (a_cons (d_var (i := 0) rfl (Or.inl rfl)) (a_cons d_int a_nil))) a_nil)))))) a_nil))))
      (s_cons (s_set (i := 3) sc_l_fade.nd rfl (Or.inl rfl) (d_call C G_l_pick rfl (a_cons (d_var (i := 0) rfl (Or.inl rfl)) (a_cons (d_lst (a_cons d_int (a_cons d_int (a_cons d_int (a_cons d_int (a_cons d_int (a_cons d_int (a_cons (d_bin (o_addA C.hK) d_int (d_call C G_l_draw rfl (a_cons (d_var (i := 0) rfl (Or.inl rfl)) (a_cons d_int a_nil)))) a_nil)))))))) a_nil))))
      (s_cons (s_set (i := 2) sc_l_fade.nd rfl (Or.inl rfl) (d_if (d_tcmp o_gt (d_bin (o_addA C.hK) (d_var (i := 2) rfl (Or.inl rfl)) (d_var (i := 3) rfl (Or.inl rfl))) d_int (nomark _)) (d_var (i := 2) rfl (Or.inl rfl)) (d_bin (o_addA C.hK) d_int (d_call C G_l_draw rfl (a_cons (d_var (i := 0) rfl (Or.inl rfl)) (a_cons d_int a_nil))))))
      (s_cons (s_set (i := 4) sc_l_fade.nd rfl (Or.inl rfl) (d_call C G_l_pick rfl (a_cons (d_var (i := 0) rfl (Or.inl rfl)) (a_cons (d_lst (a_cons d_int (a_cons d_int (a_cons d_int (a_cons (d_call C G_l_draw rfl (a_cons (d_var (i := 0) rfl (Or.inl rfl)) (a_cons d_int a_nil))) (a_cons (d_neg (d_call C G_l_draw rfl (a_cons (d_var (i := 0) rfl (Or.inl rfl)) (a_cons d_int a_nil)))) (a_cons (d_call C G_l_draw rfl (a_cons (d_var (i := 0) rfl (Or.inl rfl)) (a_cons d_int a_nil))) a_nil))))))) a_nil))))
      (s_one (s_ret (d_tup (a_cons (d_call C G_l_draw rfl (a_cons (d_var (i := 0) rfl (Or.inl rfl)) (a_cons d_int a_nil))) (a_cons (d_var (i := 4) rfl (Or.inl rfl)) (a_cons (d_var (i := 2) rfl (Or.inl rfl)) (a_cons (d_var (i := 3) rfl (Or.inl rfl)) (a_cons d_int (a_cons (d_var (i := 1) rfl (Or.inl rfl)) a_nil))))))))))))), fun bs mu R h => ?_⟩
  · obtain ⟨j, i, d, rfl, hj, h⟩ := h
    rfl
  · obtain ⟨j, i, d, rfl, hj, h⟩ := h
    walk_at "st"
    walk_at "dl"
    refine drawn hj fun r r0 r1 => ?_
    walk_at "dl"
    refine ⟨j, i, _, _, rfl, hj, rfl, by simp, by simp, fun x hx => ?_⟩
    have hx2 : ∃ dl : Int, x = .int dl ∧ 0 ≤ dl ∧ dl ≤ 9 := by
      simp only [List.mem_cons, List.not_mem_nil, or_false] at hx
      rcases hx with rfl | rfl | rfl | rfl | rfl <;> exact ⟨_, rfl, by omega, by omega⟩
    obtain ⟨dl, rfl, dl0, dl1⟩ := hx2
    walk_at "dl"
    refine drawn hj fun r r0 r1 => ?_
    walk_at "dl"
    refine ⟨szle (by decide), j, i, _, _, rfl, hj, rfl, by simp, by simp, fun x hx => ?_⟩
    have hx2 : ∃ tm : Int, x = .int tm ∧ 0 ≤ tm ∧ tm ≤ 200 := by
      simp only [List.mem_cons, List.not_mem_nil, or_false] at hx
      rcases hx with rfl | rfl | rfl | rfl | rfl | rfl | rfl <;> exact ⟨_, rfl, by omega, by omega⟩
    obtain ⟨tm, rfl, tm0, tm1⟩ := hx2
    walk_at "dl"
    by_cases c : 0 < dl + tm
    · rw [if_pos c]
      walk_at "dl"
      refine drawn hj fun u u0 u1 => ?_
      walk_at "dl"
      refine drawn hj fun u2 v0 v1 => ?_
      walk_at "dl"
      refine drawn hj fun u3 w0 w1 => ?_
      walk_at "dl"
      refine ⟨j, i, _, _, rfl, hj, rfl, by simp, by simp, fun x hx => ?_⟩
      have hx2 : ∃ t : Int, x = .int t ∧ -10000 ≤ t ∧ t ≤ 10000 := by
        simp only [List.mem_cons, List.not_mem_nil, or_false] at hx
        rcases hx with rfl | rfl | rfl | rfl | rfl | rfl <;> exact ⟨_, rfl, by omega, by omega⟩
      obtain ⟨t, rfl, t0, t1⟩ := hx2
      walk_at "dl"
      refine drawn hj fun s s0 s1 => ?_
      walk_at "dl"
      exact h s t _ tm ⟨⟨s0, s1⟩, ⟨t0, t1⟩, ⟨by omega, by omega⟩, ⟨tm0, tm1⟩, c⟩

    · rw [if_neg c]
      refine drawn hj fun q q0 q1 => ?_
      walk_at "dl"
      refine drawn hj fun u u0 u1 => ?_
      walk_at "dl"
      refine drawn hj fun u2 v0 v1 => ?_
      walk_at "dl"
      refine drawn hj fun u3 w0 w1 => ?_
      walk_at "dl"
      refine ⟨j, i, _, _, rfl, hj, rfl, by simp, by simp, fun x hx => ?_⟩
      have hx2 : ∃ t : Int, x = .int t ∧ -10000 ≤ t ∧ t ≤ 10000 := by
        simp only [List.mem_cons, List.not_mem_nil, or_false] at hx
        rcases hx with rfl | rfl | rfl | rfl | rfl | rfl <;> exact ⟨_, rfl, by omega, by omega⟩
      obtain ⟨t, rfl, t0, t1⟩ := hx2
      walk_at "dl"
      refine drawn hj fun s s0 s1 => ?_
      walk_at "dl"
      exact h s t _ tm ⟨⟨s0, s1⟩, ⟨t0, t1⟩, ⟨by omega, by omega⟩, ⟨tm0, tm1⟩, by omega⟩
/-! _law_otherwise -/
def sp_l_otherwise : DSp := fun bs mu R => ∃ (j i : Nat) (d : D), bs = [.ref j, .dat d] ∧ mu[j]? = some (.deck i) ∧ trP 1600 d ∧ ∀ e, Out e → R (.dat e) mu
theorem ok_l_otherwise (T : Tx k mg v_AT_REST u_AT_REST v_MOVING u_MOVING) (G_l_draw : FnIn k P w mg base 1 "_law_draw" s_l_draw ["deck", "below"] spDraw) (G_l_pick : FnIn k P w mg base 2 "_law_pick" s_l_pick ["deck", "some"] sp_l_pick) : FnIn k P w mg base 3 "_law_otherwise" s_l_otherwise ["deck", "trace"] sp_l_otherwise := by
  refine fnIn_of T.f_l_otherwise sc_l_otherwise (fun bs mu R h => ?_) ⟨_, fun f cdv A outer s H E C => (s_cut (s_if (PW.pt (dw_and (d_tcmp o_gt (d_callB (c_len C.hK) rfl T.z_len PySem.boot_len (a_cons (d_var (i := 1) rfl (Or.inl rfl)) a_nil)) d_int (nomark _)) (dw_and1 (d_tcmp o_ge (d_bin (o_addA C.hK) (d_callB c_abs rfl T.z_abs PyProof.Rows.boot_abs (a_cons (d_ixA C.hK (d_ixA C.hK (d_var (i := 1) rfl (Or.inl rfl)) d_int (fun _ _ => rfl)) d_int (fun _ _ => rfl)) a_nil)) (d_ixA C.hK (d_ixA C.hK (d_var (i := 1) rfl (Or.inl rfl)) d_int (fun _ _ => rfl)) d_int (fun _ _ => rfl))) (d_bin o_pow d_int d_int) (nomark _))))) (s_one (s_set (i := 1) sc_l_otherwise.nd rfl (Or.inl rfl) (d_bin (o_addA C.hK) (d_frz (d_slice C.hK (d_var (i := 1) rfl (Or.inl rfl)) p_no (p_pt d_int))) (d_tup (a_cons (d_tup (a_cons d_int (a_cons d_int a_nil))) a_nil))))) s_nil)
      (s_cons (s_par3 (i := 2) (j := 3) (l := 4) C.calm sc_l_otherwise.nd rfl rfl rfl (by decide) (by decide) (by decide) rfl rfl rfl (a_cons (d_ixA C.hK (d_var (i := 1) rfl (Or.inl rfl)) d_int (fun _ _ => rfl)) (a_cons (d_ixA C.hK (d_var (i := 1) rfl (Or.inl rfl)) d_int (fun _ _ => rfl)) (a_cons (d_call C G_l_draw rfl (a_cons (d_var (i := 0) rfl (Or.inl rfl)) (a_cons d_int a_nil))) a_nil))) (by rfl))
      (s_cons (s_if (d_tcmp (o_eqB C) (d_var (i := 4) rfl (Or.inl rfl)) d_int (nomark _)) (s_cons (s_set (i := 5) sc_l_otherwise.nd rfl (Or.inl rfl) (d_lstO (a_cons d_non (a_cons d_bl (a_cons d_int (a_cons d_str (a_cons d_str (a_cons (d_tup a_nil) (a_cons (d_lst a_nil) (a_cons (d_frz d_newK) (a_cons (d_frz (d_callTy (c_list C.hK) rfl T.z_list PyProof.Rows.boot_list (a_cons (d_var (i := 1) rfl (Or.inl rfl)) a_nil))) (a_cons (d_frz (d_slice C.hK (d_var (i := 1) rfl (Or.inl rfl)) p_no (p_pt d_int))) (a_cons (d_bin (o_addA C.hK) (d_var (i := 1) rfl (Or.inl rfl)) (d_tup (a_cons d_int a_nil))) (a_cons (d_tup (a_cons (d_var (i := 1) rfl (Or.inl rfl)) a_nil)) (a_cons (d_frz (d_slice C.hK (d_var (i := 1) rfl (Or.inl rfl)) p_no (p_pt d_int))) a_nil)))))))))))))))
      (s_one (s_ret (d_call C G_l_pick rfl (a_cons (d_var (i := 0) rfl (Or.inl rfl)) (a_cons (d_frz (d_bin (o_addA C.hK) (d_var (i := 5) rfl (Or.inl rfl)) (d_lstO (a_cons (d_frz (d_slice C.hK (d_var (i := 1) rfl (Or.inl rfl)) (p_pt d_int) p_no)) a_nil)))) a_nil)))))) s_nil)
      (s_cons (s_if (d_tcmp (o_eqB C) (d_var (i := 4) rfl (Or.inl rfl)) d_int (nomark _)) (s_one (s_ret (d_bin (o_addA C.hK) (d_tup (a_cons (d_call C G_l_pick rfl (a_cons (d_var (i := 0) rfl (Or.inl rfl)) (a_cons (d_lst (a_cons (d_neg d_int) (a_cons d_bl (a_cons d_non (a_cons d_str (a_cons (d_tup (a_cons d_int a_nil)) (a_cons d_int (a_cons (d_bin (o_addA C.hK) (d_var (i := 2) rfl (Or.inl rfl)) d_int) a_nil)))))))) a_nil))) a_nil)) (d_frz (d_slice C.hK (d_var (i := 1) rfl (Or.inl rfl)) (p_pt d_int) p_no))))) s_nil)
      (s_cons (s_if (d_tcmp (o_eqB C) (d_var (i := 4) rfl (Or.inl rfl)) d_int (nomark _)) (s_cons (s_set (i := 5) sc_l_otherwise.nd rfl (Or.inl rfl) (d_lstO (a_cons d_bl (a_cons d_non (a_cons d_str (a_cons (d_tup (a_cons (d_var (i := 3) rfl (Or.inl rfl)) (a_cons d_int a_nil))) (a_cons (d_lst (a_cons (d_var (i := 3) rfl (Or.inl rfl)) a_nil)) (a_cons (d_neg (d_var (i := 3) rfl (Or.inl rfl))) (a_cons (d_bin (o_addA C.hK) (d_var (i := 3) rfl (Or.inl rfl)) d_int) a_nil)))))))))
      (s_one (s_ret (d_bin (o_addA C.hK) (d_bin (o_addA C.hK) (d_frz (d_slice C.hK (d_var (i := 1) rfl (Or.inl rfl)) p_no (p_pt d_int))) (d_tup (a_cons (d_call C G_l_pick rfl (a_cons (d_var (i := 0) rfl (Or.inl rfl)) (a_cons (d_var (i := 5) rfl (Or.inl rfl)) a_nil))) a_nil))) (d_frz (d_slice C.hK (d_var (i := 1) rfl (Or.inl rfl)) (p_pt d_int) p_no)))))) s_nil)
      (s_cons (s_if (d_tcmp (o_eqB C) (d_callB (c_len C.hK) rfl T.z_len PySem.boot_len (a_cons (d_var (i := 1) rfl (Or.inl rfl)) a_nil)) d_int (nomark _)) (s_one (s_ret (d_bin (o_addA C.hK) (d_var (i := 1) rfl (Or.inl rfl)) (d_call C G_l_pick rfl (a_cons (d_var (i := 0) rfl (Or.inl rfl)) (a_cons (d_lst (a_cons (d_tup (a_cons d_int (a_cons d_int (a_cons d_int (a_cons (d_tup (a_cons d_int (a_cons d_int a_nil))) a_nil))))) (a_cons (d_tup (a_cons d_int (a_cons d_int (a_cons d_int (a_cons (d_tup (a_cons d_int (a_cons d_int a_nil))) a_nil))))) (a_cons (d_tup (a_cons d_int (a_cons d_int (a_cons d_int (a_cons (d_tup (a_cons d_int (a_cons d_int a_nil))) a_nil))))) (a_cons (d_tup (a_cons d_int (a_cons d_int (a_cons d_int (a_cons (d_tup (a_cons d_int (a_cons d_int a_nil))) a_nil))))) a_nil))))) a_nil)))))) s_nil)
      (s_cons (s_asg (d_frz (d_slice C.hK (d_var (i := 1) rfl (Or.inl rfl)) (p_pt d_int) p_no)) (g_tup (n := 4) C.calm (gs_cons (g_name (i := 6) sc_l_otherwise.nd rfl (Or.inl rfl)) (gs_cons (g_name (i := 7) sc_l_otherwise.nd rfl (Or.inl rfl)) (gs_cons (g_name (i := 8) sc_l_otherwise.nd rfl (Or.inl rfl)) (gs_cons (g_tup (n := 2) C.calm (gs_cons (g_name (i := 9) sc_l_otherwise.nd rfl (Or.inl rfl)) (gs_cons (g_name (i := 10) sc_l_otherwise.nd rfl (Or.inl rfl)) gs_nil)) rfl rfl C.hK) gs_nil)))) rfl rfl C.hK))
      (s_cons (s_if (d_tcmp (o_eqB C) (d_var (i := 4) rfl (Or.inl rfl)) d_int (nomark _)) (s_cons (s_set (i := 5) sc_l_otherwise.nd rfl (Or.inl rfl) (d_lstO (a_cons (d_tup (a_cons (d_var (i := 6) rfl (Or.inl rfl)) (a_cons (d_var (i := 7) rfl (Or.inl rfl)) (a_cons (d_bin (o_addA C.hK) (d_var (i := 6) rfl (Or.inl rfl)) (d_var (i := 7) rfl (Or.inl rfl))) a_nil)))) (a_cons (d_tup (a_cons (d_var (i := 6) rfl (Or.inl rfl)) (a_cons (d_var (i := 7) rfl (Or.inl rfl)) (a_cons (d_neg d_int) a_nil)))) (a_cons (d_tup (a_cons (d_var (i := 6) rfl (Or.inl rfl)) (a_cons (d_var (i := 7) rfl (Or.inl rfl)) (a_cons (d_cmp (o_eqB C) (d_var (i := 8) rfl (Or.inl rfl)) d_int (nomark _)) a_nil)))) (a_cons (d_tup (a_cons (d_var (i := 6) rfl (Or.inl rfl)) (a_cons (d_var (i := 7) rfl (Or.inl rfl)) (a_cons d_non a_nil)))) a_nil))))))
      (s_cons (s_set (i := 5) sc_l_otherwise.nd rfl (Or.inl rfl) (d_bin (o_addA C.hK) (d_var (i := 5) rfl (Or.inl rfl)) (d_lstO (a_cons (d_tup (a_cons (d_var (i := 6) rfl (Or.inl rfl)) (a_cons (d_neg d_int) (a_cons d_int a_nil)))) (a_cons (d_tup (a_cons (d_neg d_int) (a_cons (d_var (i := 7) rfl (Or.inl rfl)) (a_cons d_int a_nil)))) (a_cons (d_tup (a_cons (d_cmp (o_eqB C) (d_var (i := 6) rfl (Or.inl rfl)) d_int (nomark _)) (a_cons (d_var (i := 7) rfl (Or.inl rfl)) (a_cons d_int a_nil)))) (a_cons (d_tup (a_cons (d_var (i := 6) rfl (Or.inl rfl)) (a_cons (d_callTy c_strI rfl T.z_str PyProof.Rows.boot_str (a_cons (d_var (i := 7) rfl (Or.inl rfl)) a_nil)) (a_cons d_int a_nil)))) a_nil)))))))
      (s_cons (s_expr (d_meth C.hK PySem.F.plainAttrs_list PySem.F.slot_list_append PySem.F.type_list_append c_append (d_var (i := 5) rfl (Or.inl rfl)) (a_cons (d_tup (a_cons (d_var (i := 6) rfl (Or.inl rfl)) (a_cons (d_var (i := 7) rfl (Or.inl rfl)) (a_cons (d_bin (o_addA C.hK) (d_bin (o_addA C.hK) (d_var (i := 6) rfl (Or.inl rfl)) (d_var (i := 7) rfl (Or.inl rfl))) d_int) a_nil)))) a_nil)))
      (s_one (s_ret (d_bin (o_addA C.hK) (d_bin (o_addA C.hK) (d_frz (d_slice C.hK (d_var (i := 1) rfl (Or.inl rfl)) p_no (p_pt d_int))) (d_call C G_l_pick rfl (a_cons (d_var (i := 0) rfl (Or.inl rfl)) (a_cons (d_var (i := 5) rfl (Or.inl rfl)) a_nil)))) (d_frz (d_slice C.hK (d_var (i := 1) rfl (Or.inl rfl)) (p_pt d_int) p_no)))))))) s_nil)
      (s_cons (s_set (i := 5) sc_l_otherwise.nd rfl (Or.inl rfl) (d_lstO (a_cons (d_tup (a_cons (d_var (i := 9) rfl (Or.inl rfl)) (a_cons (d_var (i := 10) rfl (Or.inl rfl)) (a_cons d_int a_nil)))) (a_cons (d_tup (a_cons (d_var (i := 9) rfl (Or.inl rfl)) a_nil)) (a_cons (d_lst (a_cons (d_var (i := 9) rfl (Or.inl rfl)) (a_cons (d_var (i := 10) rfl (Or.inl rfl)) a_nil))) (a_cons (d_tup (a_cons (d_var (i := 9) rfl (Or.inl rfl)) (a_cons (d_neg (d_var (i := 10) rfl (Or.inl rfl))) a_nil))) (a_cons (d_tup (a_cons (d_var (i := 9) rfl (Or.inl rfl)) (a_cons d_int a_nil))) (a_cons (d_tup (a_cons (d_bin (o_mulA C.hK) d_int (d_var (i := 9) rfl (Or.inl rfl))) (a_cons (d_bin (o_mulA C.hK) d_int (d_var (i := 10) rfl (Or.inl rfl))) a_nil))) (a_cons (d_tup (a_cons (d_cmp (o_eqB C) (d_var (i := 9) rfl (Or.inl rfl)) d_int (nomark _)) (a_cons (d_var (i := 10) rfl (Or.inl rfl)) a_nil))) (a_cons (d_tup (a_cons (d_var (i := 9) rfl (Or.inl rfl)) (a_cons d_bl a_nil))) (a_cons (d_var (i := 9) rfl (Or.inl rfl)) (a_cons d_non (a_cons (d_tup (a_cons d_int (a_cons d_int a_nil))) (a_cons (d_tup (a_cons (d_neg (d_var (i := 9) rfl (Or.inl rfl))) (a_cons (d_var (i := 10) rfl (Or.inl rfl)) a_nil))) a_nil))))))))))))))
      (s_one (s_ret (d_bin (o_addA C.hK) (d_frz (d_slice C.hK (d_var (i := 1) rfl (Or.inl rfl)) p_no (p_pt d_int))) (d_tup (a_cons (d_call C G_l_pick rfl (a_cons (d_var (i := 0) rfl (Or.inl rfl)) (a_cons (d_var (i := 5) rfl (Or.inl rfl)) a_nil))) a_nil)))))))))))))), fun bs mu R h => ?_⟩
  · obtain ⟨j, i, d, rfl, hj, hd, h⟩ := h
    rfl
  · obtain ⟨j, i, d, rfl, hj, hd, h⟩ := h
    walk_at "st"
    refine cut_k (fun en M => M = mu ∧ ∃ d, en = [some (.ref j), some (.dat d), none, none, none, none, none, none, none, none, none] ∧ trP 128 d) ?_ ?_
    · rcases hd with ⟨s, t, rfl, s0, b1, b2⟩ | ⟨s, t, dl, tm, ag, n, e, rfl, s0, d0, t0, a0, alt, hf, b1, b2, b3, b4, b5, b6, b7⟩
      · walk_at "dl"
        rw [if_neg (by decide)]
        exact ⟨_, rfl, .inl ⟨s, t, rfl, s0, b1, b2⟩⟩
      · walk_at "dl"
        rw [if_pos (by decide)]
        walk_at "dl"
        refine ⟨⟨by decide, by decide, by decide⟩, ?_⟩
        by_cases c : (10 : Int) ^ Int.toNat 38 ≤ (n.natAbs : Int) + e
        · rw [if_pos c]
          exact ⟨szle (by show 6 ≤ 1000000; decide), _, rfl, .inr ⟨s, t, dl, tm, ag, 1, 3, rfl, s0, d0, t0, a0, alt, ⟨by decide, by decide⟩, b1, b2, b3, b4, b5, by decide, by decide⟩⟩
        · rw [if_neg c]
          have e38 : ((10 : Int) ^ Int.toNat 38).natAbs < 2 ^ 127 := by decide
          have e1 := hf.1
          have bn : Bd 128 n := by
            show n.natAbs < 2 ^ 128
            have : (2 : Nat) ^ 128 = 2 * 2 ^ 127 := by decide
            omega
          have be : Bd 128 e := by
            show e.natAbs < 2 ^ 128
            have : (2 : Nat) ^ 128 = 2 * 2 ^ 127 := by decide
            omega
          exact ⟨_, rfl, .inr ⟨s, t, dl, tm, ag, n, e, rfl, s0, d0, t0, a0, alt, hf, b1, b2, b3, b4, b5, bn, be⟩⟩
    · rintro en M ⟨rfl, d, rfl, hd⟩
      have o0 : ∀ {x : D}, A 0 x → Out x := fun h => h.up.up.out
      have o1 : ∀ {x : D}, A 1 x → Out x := fun h => h.up.out
      have i14 : ∀ {x : Int}, Bd 14 x → A 0 (.int x) := fun h => aI (h.mono (by decide))
      rcases hd with ⟨s, t, rfl, s0, b1, b2⟩ | ⟨s, t, dl, tm, ag, n, e, rfl, s0, d0, t0, a0, alt, hf, b1, b2, b3, b4, b5, b6, b7⟩
      · have LS : ∀ x ∈ ([.int s, .int t] : List D), A 1 x := all_cons (i14 b1).up (all_cons (i14 b2).up all_nil)
        have LT : A 2 (.tuple [.int s, .int t]) := aT LS (by simp)
        have LL : A 2 (.list [.int s, .int t]) := aL LS (by simp)
        walk_at "dl"
        refine drawn hj fun r r0 r1 => ?_
        walk_at "dl"
        by_cases c0 : r = 0
        · rw [if_pos c0]
          walk_at "dl"
          refine ⟨szle (by decide), ?_⟩
          walk_at "dl"
          refine ⟨_, _, app_at (new_at _ _) _, rfl, szle (by simp), ?_⟩
          walk_at "dl"
          refine ⟨j, i, _, _, rfl, app_at hj _, rfl, by simp, by simp, fun x hx => ?_⟩
          have hO : Out x := (all_app (all_cons (o0 aN) (all_cons (o0 (aB _)) (all_cons (o0 (aJ (by decide))) (all_cons (o0 (aS (by decide) (by decide))) (all_cons (o0 (aS (by decide) (by decide))) (all_cons (o1 (aT all_nil (by simp))) (all_cons (o1 (aL all_nil (by simp))) (all_cons (o1 (aK 0)) (all_cons LL.out (all_cons (A.out (aT (a_cut LS _ _) (Nat.le_trans (cut_len _ _ _) (by simp)))) (all_cons (A.out (aT (all_app LS (all_cons (aJ (by decide)).up all_nil)) (by simp))) (all_cons (out_one LT) (all_cons (A.out (aT (a_cut LS _ _) (Nat.le_trans (cut_len _ _ _) (by simp)))) all_nil)))))))))))))
            (all_cons (A.out (aT (fun y hy => LS y (List.mem_cons_of_mem _ hy)) (by simp))) all_nil) : ∀ d ∈ _, Out d) x hx
          walk_at "dl"
          exact h _ hO
        rw [if_neg c0]
        walk_at "dl"
        by_cases c1 : r = 1
        · rw [if_pos c1]
          walk_at "dl"
          refine ⟨szle (by decide), j, i, _, _, rfl, hj, rfl, by simp, by simp, fun x hx => ?_⟩
          have hA : A 1 x := (all_cons (aJ (by decide)).up (all_cons (aB _).up (all_cons aN.up (all_cons (aS (by decide) (by decide)).up (all_cons (aT (all_cons (aJ (by decide)) all_nil) (by simp)) (all_cons (aJ (by decide)).up (all_cons (aI (Bd.mono (Bd.add b1 (by decide)) (by decide))).up all_nil)))))) : ∀ d ∈ _, A 1 d) x hx
          walk_at "dl"
          exact h _ (A.out (aT (all_cons hA fun y hy => LS y (List.mem_cons_of_mem _ hy)) (by simp)))
        rw [if_neg c1]
        walk_at "dl"
        by_cases c2 : r = 2
        · rw [if_pos c2]
          walk_at "dl"
          refine ⟨szle (by decide), ?_⟩
          walk_at "dl"
          refine ⟨j, i, _, _, rfl, app_at hj _, seqB_r (new_at _ _), by simp, by simp, fun x hx => ?_⟩
          have it : A 1 (.int t) := (i14 b2).up
          have hA : A 1 x := (all_cons (aB _).up (all_cons aN.up (all_cons (aS (by decide) (by decide)).up (all_cons (aT (all_cons (i14 b2) (all_cons (aJ (by decide)) all_nil)) (by simp)) (all_cons (aL (all_cons (i14 b2) all_nil) (by simp)) (all_cons (i14 b2.neg).up (all_cons (aI (Bd.mono (Bd.add b2 (by decide)) (by decide))).up all_nil)))))) : ∀ d ∈ _, A 1 d) x hx
          walk_at "dl"
          exact ⟨szle (by show 2 ≤ 1000000; decide), szle (by show 2 ≤ 1000000; decide), h _ (A.out (aT (all_cons (LS _ List.mem_cons_self) (all_cons hA fun y hy => LS y (List.mem_cons_of_mem _ (List.mem_cons_of_mem _ hy)))) (by show 2 ≤ 15; decide)))⟩
        rw [if_neg c2]
        walk_at "dl"
        rw [if_pos (by decide)]
        refine ⟨j, i, _, _, rfl, hj, rfl, by simp, by simp, fun x hx => ?_⟩
        have hz : A 1 (.tuple [.int 0, .int 1]) := aT (all_cons (aJ (by decide)) (all_cons (aJ (by decide)) all_nil)) (by simp)
        have hx2 : ∃ a b c : Int, x = .tuple [.int a, .int b, .int c, .tuple [.int 0, .int 1]] ∧ a.natAbs < 2 ∧ b.natAbs < 2 ∧ c.natAbs < 2 := by
          simp only [List.mem_cons, List.not_mem_nil, or_false] at hx
          rcases hx with rfl | rfl | rfl | rfl <;> exact ⟨_, _, _, rfl, by decide, by decide, by decide⟩
        obtain ⟨a, b, c, rfl, ha, hb, hc⟩ := hx2
        walk_at "dl"
        exact h _ (A.out (aT (all_app LS (all_cons (aJ (by omega)).up (all_cons (aJ (by omega)).up (all_cons (aJ (by omega)).up (all_cons hz all_nil))))) (by simp)))

      · have LF : A 1 (fr n e) := aT (all_cons (aI (b6.mono (by decide))) (all_cons (aI (b7.mono (by decide))) all_nil)) (by simp)
        have i8 : ∀ {x : Int}, Bd 9 x → A 0 (.int x) := fun h => aI (h.mono (by decide))
        have LS : ∀ x ∈ ([.int s, .int t, .int dl, .int tm, .int ag, fr n e] : List D), A 1 x := all_cons (i14 b1).up (all_cons (i14 b2).up (all_cons (i8 (b3.mono (by decide))).up (all_cons (i8 (b4.mono (by decide))).up (all_cons (i8 b5).up (all_cons LF all_nil)))))
        have LT : A 2 (.tuple [.int s, .int t, .int dl, .int tm, .int ag, fr n e]) := aT LS (by simp)
        have LL : A 2 (.list [.int s, .int t, .int dl, .int tm, .int ag, fr n e]) := aL LS (by simp)
        walk_at "dl"
        refine drawn hj fun r r0 r1 => ?_
        walk_at "dl"
        by_cases c0 : r = 0
        · rw [if_pos c0]
          walk_at "dl"
          refine ⟨szle (by decide), szle (by decide), ?_⟩
          walk_at "dl"
          refine ⟨_, _, app_at (new_at _ _) _, rfl, szle (by simp), ?_⟩
          walk_at "dl"
          refine ⟨j, i, _, _, rfl, app_at hj _, rfl, by simp, by simp, fun x hx => ?_⟩
          have hO : Out x := (all_app (all_cons (o0 aN) (all_cons (o0 (aB _)) (all_cons (o0 (aJ (by decide))) (all_cons (o0 (aS (by decide) (by decide))) (all_cons (o0 (aS (by decide) (by decide))) (all_cons (o1 (aT all_nil (by simp))) (all_cons (o1 (aL all_nil (by simp))) (all_cons (o1 (aK 0)) (all_cons LL.out (all_cons (A.out (aT (a_cut LS _ _) (Nat.le_trans (cut_len _ _ _) (by simp)))) (all_cons (A.out (aT (all_app LS (all_cons (aJ (by decide)).up all_nil)) (by simp))) (all_cons (out_one LT) (all_cons (A.out (aT (a_cut LS _ _) (Nat.le_trans (cut_len _ _ _) (by simp)))) all_nil)))))))))))))
            (all_cons (A.out (aT (fun y hy => LS y (List.mem_cons_of_mem _ hy)) (by simp))) all_nil) : ∀ d ∈ _, Out d) x hx
          walk_at "dl"
          exact h _ hO
        rw [if_neg c0]
        walk_at "dl"
        by_cases c1 : r = 1
        · rw [if_pos c1]
          walk_at "dl"
          refine ⟨szle (by decide), j, i, _, _, rfl, hj, rfl, by simp, by simp, fun x hx => ?_⟩
          have hA : A 1 x := (all_cons (aJ (by decide)).up (all_cons (aB _).up (all_cons aN.up (all_cons (aS (by decide) (by decide)).up (all_cons (aT (all_cons (aJ (by decide)) all_nil) (by simp)) (all_cons (aJ (by decide)).up (all_cons (aI (Bd.mono (Bd.add b1 (by decide)) (by decide))).up all_nil)))))) : ∀ d ∈ _, A 1 d) x hx
          walk_at "dl"
          exact h _ (A.out (aT (all_cons hA fun y hy => LS y (List.mem_cons_of_mem _ hy)) (by simp)))
        rw [if_neg c1]
        walk_at "dl"
        by_cases c2 : r = 2
        · rw [if_pos c2]
          walk_at "dl"
          refine ⟨szle (by decide), ?_⟩
          walk_at "dl"
          refine ⟨j, i, _, _, rfl, app_at hj _, seqB_r (new_at _ _), by simp, by simp, fun x hx => ?_⟩
          have it : A 1 (.int t) := (i14 b2).up
          have hA : A 1 x := (all_cons (aB _).up (all_cons aN.up (all_cons (aS (by decide) (by decide)).up (all_cons (aT (all_cons (i14 b2) (all_cons (aJ (by decide)) all_nil)) (by simp)) (all_cons (aL (all_cons (i14 b2) all_nil) (by simp)) (all_cons (i14 b2.neg).up (all_cons (aI (Bd.mono (Bd.add b2 (by decide)) (by decide))).up all_nil)))))) : ∀ d ∈ _, A 1 d) x hx
          walk_at "dl"
          exact ⟨szle (by show 2 ≤ 1000000; decide), szle (by show 6 ≤ 1000000; decide), h _ (A.out (aT (all_cons (LS _ List.mem_cons_self) (all_cons hA fun y hy => LS y (List.mem_cons_of_mem _ (List.mem_cons_of_mem _ hy)))) (by show 6 ≤ 15; decide)))⟩
        rw [if_neg c2]
        walk_at "dl"
        rw [if_neg (by decide)]
        walk_at "dl"
        rw [show cutD [.int s, .int t, .int dl, .int tm, .int ag, fr n e] (some 2) none = [.int dl, .int tm, .int ag, fr n e] from rfl]
        refine ⟨rfl, ?_⟩
        walk_at "dl"
        by_cases c3 : r = 3
        · rw [if_pos c3]
          walk_at "dl"
          refine ⟨by have := PySem.Flt.log2_lt_of (by decide) b4; omega, _, _, app_at (new_at _ _) _, rfl, szle (by simp), ?_⟩
          walk_at "dl"
          refine ⟨rcv_l (new_at _ _), _, rfl, szlt (by simp), ?_⟩
          walk_at "dl"
          refine ⟨j, i, _, _, rfl, app_at (app_at (app_at hj _) _) _, seqB_r (new_at _ _), by simp, by simp, fun x hx => ?_⟩
          have zd : A 0 (.int dl) := i8 (b3.mono (by decide))
          have zt : A 0 (.int tm) := i8 (b4.mono (by decide))
          have z0 : A 0 (.int 0) := aJ (by decide)
          have z1 : A 0 (.int (-1)) := aJ (by decide)
          have lt : (Str.ofString (toString tm)).length ≤ 9 := int_len b4 (by decide)
          have T3 : ∀ {a b c : D}, A 0 a → A 0 b → A 0 c → ∃ p q r, (.tuple [a, b, c] : D) = .tuple [p, q, r] ∧ A 0 p ∧ A 0 q ∧ A 0 r := fun h1 h2 h3 => ⟨_, _, _, rfl, h1, h2, h3⟩
          have hx2 := (all_cons (T3 zd zt (i8 (Bd.add b3 b4))) (all_cons (T3 zd zt z1) (all_cons (T3 zd zt (aB _)) (all_cons (T3 zd zt aN) (all_cons (T3 zd z1 z0) (all_cons (T3 z1 zt z0) (all_cons (T3 (aB _) zt z0) (all_cons (T3 zd (aS (asc_int _) (by omega)) z0) (all_cons (T3 zd zt (aI (Bd.mono (Bd.add (Bd.add b3 b4) (by decide)) (by decide)))) all_nil)))))))) : ∀ d ∈ _, ∃ p q r, d = .tuple [p, q, r] ∧ A 0 p ∧ A 0 q ∧ A 0 r) x hx
          obtain ⟨p1, p2, p3, rfl, q1, q2, q3⟩ := hx2
          walk_at "dl"
          refine ⟨szle (by show 5 ≤ 1000000; decide), szle (by show 6 ≤ 1000000; decide), ?_⟩
          rw [take3]
          exact h _ (A.out (aT (all_app (all_app (a_cut LS none (some 2)) (all_cons q1.up (all_cons q2.up (all_cons q3.up all_nil)))) (a_cut LS (some 5) none)) (by show 6 ≤ 15; decide)))
        rw [if_neg c3]
        walk_at "dl"
        have two : Bd 2 2 := by decide
        refine ⟨two.ok b6, two.ok b7, szle (by decide), ?_⟩
        walk_at "dl"
        refine ⟨j, i, _, _, rfl, app_at hj _, seqB_r (new_at _ _), by simp, by simp, fun x hx => ?_⟩
        have zn : A 0 (.int n) := aI (b6.mono (by decide))
        have ze : A 0 (.int e) := aI (b7.mono (by decide))
        have z0 : A 0 (.int 0) := aJ (by decide)
        have t2 : ∀ {a b : D}, A 0 a → A 0 b → A 1 (.tuple [a, b]) := fun h1 h2 => aT (all_cons h1 (all_cons h2 all_nil)) (by simp)
        have hA : A 1 x := (all_cons (aT (all_cons zn (all_cons ze (all_cons z0 all_nil))) (by simp)) (all_cons (aT (all_cons zn all_nil) (by simp)) (all_cons (aL (all_cons zn (all_cons ze all_nil)) (by simp)) (all_cons (t2 zn (aI (b7.neg.mono (by decide)))) (all_cons (t2 zn z0)
          (all_cons (t2 (aI ((two.mul b6).mono (by decide))) (aI ((two.mul b7).mono (by decide)))) (all_cons (t2 (aB _) ze) (all_cons (t2 zn (aB _)) (all_cons zn.up (all_cons aN.up (all_cons (t2 z0 (aJ (by decide))) (all_cons (t2 (aI (b6.neg.mono (by decide))) ze) all_nil))))))))))) : ∀ d ∈ _, A 1 d) x hx
        walk_at "dl"
        exact ⟨szle (by show 6 ≤ 1000000; decide), h _ (A.out (aT (all_app (a_cut LS _ _) (all_cons hA all_nil)) (by show 6 ≤ 15; decide)))⟩
def qR : Str := (PyProof.Rows.envOfC "_law_is_right" (defScope s_l_is_right) 0 0 .none).qual ++ "<lambda>"
def sp_l_is_right (PT : Addr) : DSp := fun bs mu R => ∃ (j i n : Nat) (d : D), bs = [.ref j, .dat d] ∧ mu[j]? = some (.deck i) ∧ mu[n]? = some (.tab PT qR) ∧ trP 1600 d ∧ R (.dat (.bool true)) mu

/-! _law_is_right -/
theorem ok_l_is_right {q : Str} {c PT Cb Db fI : Addr} (T : Tx k mg v_AT_REST u_AT_REST v_MOVING u_MOVING) (hg : k.gds = true) (hDK : ∀ l o u, k.DK l o u → Ntb o ∧ Ntb u ∧ Nxt o) (B : BadX.Txt k.K mg P "BadState" q Cb Db fI) (BC : BadC k.K mg Cb Db) (hD : mg "DeskError" = some (.ref Db)) (TB : LamX.TabB base mg c PT)
    (hc : ∀ f fd, Fun k.K "_law_is_right" "_law_is_right" s_l_is_right f fd → mg "_law_is_right" = some (.ref f) → fd.code = .ref c) (hiN : mg "isinstance" = none)
    (X0 : ∃ f fd, Fun k.K "value_at" "value_at" s_value_at f fd ∧ mg "value_at" = some (.ref f) ∧ Binds k.K fd ["trace"] [] ∧ FnOk P w k.K mg base (L2.CX P w) 6 f fd ["trace"] (spX ⟨k.K, k.DK, false⟩ Cb vPre vG))
    (G_value_at : FnIn k P w mg base 6 "value_at" s_value_at ["trace"] sp_value_at) (G_l_otherwise : FnIn k P w mg base 3 "_law_otherwise" s_l_otherwise ["deck", "trace"] sp_l_otherwise) (G_l_is_trace : FnIn k P w mg base 3 "_law_is_trace" s_l_is_trace ["thing"] sp_l_is_trace)
    (G_l_value_at : FnIn k P w mg base 3 "_law_value_at" s_l_value_at ["trace"] sp_l_value_at) (G_l_draw : FnIn k P w mg base 1 "_law_draw" s_l_draw ["deck", "below"] spDraw) : FnIn k P w mg base 9 "_law_is_right" s_l_is_right ["deck", "trace"] (sp_l_is_right PT) := by
  obtain ⟨fv, fdv, v1, v2, v3, v4⟩ := X0
  obtain ⟨ft, fdt, t1, t2, t3⟩ := T.f_l_told.ex
  refine fnIn_ofC T.f_l_is_right hc sc_l_is_right (fun bs mu R h => ?_) ⟨_, fun f A outer s H E C => (s_cons (s_set (i := 2) sc_l_is_right.nd rfl (Or.inr rfl) (d_cmp (o_eqB C) (d_call C G_l_draw rfl (a_cons (d_var (i := 0) rfl (Or.inl rfl)) (a_cons d_int a_nil))) d_int (nomark _)))
      (s_cons (s_if (d_tcmp (o_neB C) (d_callB (c_reprB C hg) rfl T.z_repr PyProof.Rows.boot_repr (a_cons (d_if (d_tval (d_var (i := 2) rfl (Or.inr (Or.inl rfl)))) (d_callK0 C G_value_at rfl kw_value_at_0 (k_cons (d_var (i := 1) rfl (Or.inl rfl)) k_nil)) (d_call C G_value_at rfl (a_cons (d_var (i := 1) rfl (Or.inl rfl)) a_nil))) a_nil)) (d_callB (c_reprB C hg) rfl T.z_repr PyProof.Rows.boot_repr (a_cons (d_call C G_l_value_at rfl (a_cons (d_var (i := 1) rfl (Or.inl rfl)) a_nil)) a_nil)) (nomark _)) (s_one (s_ret d_bl)) s_nil)
      (s_cons (s_set (i := 3) sc_l_is_right.nd rfl (Or.inr rfl) (d_call C G_l_otherwise rfl (a_cons (d_var (i := 0) rfl (Or.inl rfl)) (a_cons (d_var (i := 1) rfl (Or.inl rfl)) a_nil))))
      (s_cons (s_set (i := 4) sc_l_is_right.nd rfl (Or.inl rfl) (d_callB (c_reprB C hg) rfl T.z_repr PyProof.Rows.boot_repr (a_cons (d_var (i := 3) rfl (Or.inr (Or.inl rfl))) a_nil)))
      (s_cons (s_set (i := 5) sc_l_is_right.nd rfl (Or.inl rfl) (d_if (d_tval (d_call C G_l_is_trace rfl (a_cons (d_var (i := 3) rfl (Or.inr (Or.inl rfl))) a_nil))) (d_tup (a_cons d_str (a_cons (d_call C G_l_value_at rfl (a_cons (d_var (i := 3) rfl (Or.inr (Or.inl rfl))) a_nil)) a_nil))) (d_tup (a_cons d_str (a_cons d_bl (a_cons (d_var (i := 3) rfl (Or.inr (Or.inl rfl))) a_nil))))))
      (s_cons (s_set (i := 6) sc_l_is_right.nd rfl (Or.inl rfl) (d_told (q := qR) (kit := ⟨k.K, k.DK, false⟩) (kk := 6) (i := 2) (j := 3) (PT := PT) (w1 := "told") (w2 := "bad") C rfl rfl hDK rfl t2 t1 t3 sc_l_told (Or.inl rfl) (fun cdv => toldB_gives BC rfl B.gC (by decide) rfl hD (by decide) rfl hiN (by decide) rfl (by decide) (by decide)) rfl TB rfl (by decide) (LamX.lamS_by (sc := defScope s_l_is_right) (by decide +kernel)) rfl (fun _ _ _ _ _ => rfl)
      (fun A outer s H E f c' hr => lam_body v4 hr v2 v1.kp v3 (fun s u => kw_value_at_0 fv fdv v1 s [] [u] rfl rfl) rfl rfl (by decide +kernel) (by decide +kernel) (by decide +kernel))))
      (s_one (s_ret (d_and (d_cmp (o_eqB C) (d_callB (c_reprB C hg) rfl T.z_repr PyProof.Rows.boot_repr (a_cons (d_var (i := 6) rfl (Or.inl rfl)) a_nil)) (d_callB (c_reprB C hg) rfl T.z_repr PyProof.Rows.boot_repr (a_cons (d_var (i := 5) rfl (Or.inl rfl)) a_nil)) (nomark _)) (d_one (d_cmp (o_eqB C) (d_callB (c_reprB C hg) rfl T.z_repr PyProof.Rows.boot_repr (a_cons (d_var (i := 3) rfl (Or.inr (Or.inl rfl))) a_nil)) (d_var (i := 4) rfl (Or.inl rfl)) (nomark _)))))))))))), fun bs mu R h => ?_⟩
  · obtain ⟨j, i, n, d, rfl, _⟩ := h
    rfl
  · obtain ⟨j, i, n, d, rfl, hj, hn, hd, h⟩ := h
    obtain ⟨vn, ve, hv, hvf, vb1, vb2⟩ := trP_val hd
    walk_at "st"
    walk_at "dl"
    refine drawn hj fun r r0 r1 => ?_
    walk_at "dl"
    rw [ite_self]
    have ht := trP_trace hd
    have ho := trP_ok hd
    refine ⟨d, 0, rfl, trP_nz hd 0, ht, ho, ?_⟩
    rw [hv]
    have rok : ReprOk (fr vn ve) := repr_fr (vb1.mono (by decide)) (vb2.mono (by decide))
    walk_at "dl"
    refine ⟨rok, d, rfl, ht, ho, ?_⟩
    rw [hv]
    walk_at "dl"
    refine ⟨rok, ?_⟩
    walk_at "dl"
    refine ⟨j, i, d, rfl, hj, hd, fun e he => ?_⟩
    walk_at "dl"
    have reg : ReprOk e := gd_repr he.1 (by decide) (by have := he.2; omega)
    refine ⟨reg, ?_⟩
    walk_at "dl"
    have gz : nz 2 e = true := gd_nz 2 he.1
    have go : trOk e := gd_trOk he.1
    refine ⟨e, 0, rfl, gz, ?_⟩
    walk_at "dl"
    cases ht2 : traceD e with
    | true =>
      obtain ⟨n2, d2, hv2, w1, w2⟩ := val_gd he.1 ht2
      have rt : ReprOk (.tuple [.str "told", fr n2 d2]) := repr_told (by decide +kernel) (by decide +kernel) (w1.mono (by decide)) (w2.mono (by decide))
      have et : toldD vG "told" "bad" e = .tuple [.str "told", fr n2 d2] := by
        unfold toldD vG
        rw [if_pos ht2]
        dsimp only
        rw [hv2]
      walk_at "dl"
      refine ⟨e, rfl, ht2, go, ?_⟩
      rw [hv2]
      walk_at "dl"
      refine ⟨_, e, n, rfl, rfl, ⟨⟨0, gz⟩, go⟩, hn, ?_⟩
      rw [et]
      walk_at "dl"
      refine ⟨rt, ?_⟩
      walk_at "dl"
      refine ⟨rt, ?_⟩
      walk_at "dl"
      exact ⟨reg, h⟩
    | false =>
      have rb : ReprOk (.tuple [.str "bad", .bool true, e]) := repr_bad (by decide +kernel) (by decide +kernel) he.1 (by decide) (by have := he.2; omega)
      have et : toldD vG "told" "bad" e = .tuple [.str "bad", .bool true, e] := by
        unfold toldD vG
        rw [if_neg (by rw [ht2]; exact Bool.false_ne_true)]
      walk_at "dl"
      refine ⟨_, e, n, rfl, rfl, ⟨⟨0, gz⟩, go⟩, hn, ?_⟩
      rw [et]
      walk_at "dl"
      refine ⟨rb, ?_⟩
      walk_at "dl"
      refine ⟨rb, ?_⟩
      walk_at "dl"
      exact ⟨reg, h⟩

/-! law -/
def sp_law (PT : Addr) : DSp := fun bs mu R => ∃ ns : List Int, bs = [.dat (.list (ns.map D.int))] ∧ ns.length ≤ 63 ∧ (∃ n : Nat, mu[n]? = some (.tab PT qR)) ∧ ∀ mu, R (.dat (.bool true)) mu
theorem ok_law {PT : Addr} (T : Tx k mg v_AT_REST u_AT_REST v_MOVING u_MOVING) (G_l_deck : FnIn k P w mg base 1 "_law_deck" s_l_deck ["script"] spDeck) (G_l_draw : FnIn k P w mg base 1 "_law_draw" s_l_draw ["deck", "below"] spDraw)
    (G_l_pick : FnIn k P w mg base 2 "_law_pick" s_l_pick ["deck", "some"] sp_l_pick) (G_l_lowest : FnIn k P w mg base 2 "_law_lowest" s_l_lowest ["n", "d"] sp_l_lowest) (G_l_fade : FnIn k P w mg base 3 "_law_fade" s_l_fade ["deck", "start"] sp_l_fade)
    (G_l_is_right : FnIn k P w mg base 9 "_law_is_right" s_l_is_right ["deck", "trace"] (sp_l_is_right PT)) (G_l_value_at : FnIn k P w mg base 3 "_law_value_at" s_l_value_at ["trace"] sp_l_value_at) :
    FnIn k P w mg base 10 "law" s_law ["script"] (sp_law PT) := by
  refine fnIn_of T.f_law sc_law (fun bs mu R h => ?_) ⟨_, fun f cdv A outer s H E C => (s_cons (s_set (i := 1) sc_law.nd rfl (Or.inr rfl) (d_call C G_l_deck rfl (a_cons (d_var (i := 0) rfl (Or.inl rfl)) a_nil)))
      (s_cons (s_for PassesOwn.never C.calm (i_range1 rfl T.z_range d_int) (g_name (i := 2) sc_law.nd rfl (Or.inl rfl)) (s_cons (s_par (i := 3) (j := 4) C.calm sc_law.nd rfl rfl (by decide) rfl rfl (a_cons (d_call C G_l_lowest rfl (a_cons (d_bin o_sub (d_call C G_l_draw rfl (a_cons (d_var (i := 1) rfl (Or.inr (Or.inl rfl))) (a_cons d_int a_nil))) d_int) (a_cons (d_call C G_l_pick rfl (a_cons (d_var (i := 1) rfl (Or.inr (Or.inl rfl))) (a_cons (d_lst (a_cons d_int (a_cons d_int (a_cons d_int (a_cons d_int (a_cons d_int a_nil)))))) a_nil))) a_nil))) (a_cons d_int a_nil)) (by rfl))
      (s_cut (s_if (d_tcmp (o_eqB C) (d_call C G_l_draw rfl (a_cons (d_var (i := 1) rfl (Or.inr (Or.inl rfl))) (a_cons d_int a_nil))) d_int (nomark _)) (s_one (s_set (i := 4) sc_law.nd rfl (Or.inl rfl) (d_bin (o_addA C.hK) d_int (d_call C G_l_draw rfl (a_cons (d_var (i := 1) rfl (Or.inr (Or.inl rfl))) (a_cons d_int a_nil)))))) s_nil)
      (s_one (s_for PassesOwn.never C.calm (i_range1 rfl T.z_range (d_var (i := 4) rfl (Or.inl rfl))) (g_name (i := 5) sc_law.nd rfl (Or.inl rfl)) (s_cons (s_set (i := 6) sc_law.nd rfl (Or.inl rfl) (d_call C G_l_fade rfl (a_cons (d_var (i := 1) rfl (Or.inr (Or.inl rfl))) (a_cons (d_var (i := 3) rfl (Or.inl rfl)) a_nil))))
      (s_cut (s_if (PW.pt (dw_and (d_tcmp o_gt (d_var (i := 5) rfl (Or.inl rfl)) d_int (nomark _)) (dw_and1 (d_tcmp o_ltA (d_ixA C.hK (d_var (i := 6) rfl (Or.inl rfl)) d_int (fun _ _ => rfl)) d_int (nomark _))))) (s_one (s_set (i := 6) sc_law.nd rfl (Or.inl rfl) (d_bin (o_addA C.hK) (d_frz (d_slice C.hK (d_var (i := 6) rfl (Or.inl rfl)) p_no (p_pt d_int))) (d_tup (a_cons d_int (a_cons d_int (a_cons d_int (a_cons (d_var (i := 3) rfl (Or.inl rfl)) a_nil)))))))) s_nil)
      (s_cons (s_set (i := 7) sc_law.nd rfl (Or.inr rfl) (d_bin (o_addA C.hK) (d_ixA C.hK (d_var (i := 6) rfl (Or.inl rfl)) d_int (fun _ _ => rfl)) (d_ixA C.hK (d_var (i := 6) rfl (Or.inl rfl)) d_int (fun _ _ => rfl))))
      (s_cut (s_set (i := 8) sc_law.nd rfl (Or.inl rfl) (d_if (PW.pt (dw_and (d_tcmp o_ltA (d_var (i := 7) rfl (Or.inr (Or.inl rfl))) d_int (nomark _)) (dw_and1 (d_tcmp (o_eqB C) (d_var (i := 4) rfl (Or.inl rfl)) d_int (nomark _))))) (d_frz (d_listRng C.calm rfl T.z_list rfl T.z_range (d_var (i := 7) rfl (Or.inr (Or.inl rfl))))) (d_frz (d_comp (own := [("go", 9)]) C.calm sc_law.nd (i_range1 rfl T.z_range d_int) (blkOk_by (N := ["script", "deck", "turn", "start", "many", "deep", "trace", "length", "ages", "go", "age"]) (sc := defScope s_law) (by decide +kernel)) (fun _ _ _ _ _ => (g_name (i := 9) sc_law.nd rfl (Or.inl rfl))) (fun _ _ _ _ _ => ts_nil) (fun _ _ _ _ _ => (d_call (In.blk C _ _ _ _ _) G_l_draw rfl (a_cons (d_var (i := 1) rfl (Or.inr (Or.inl rfl))) (a_cons (d_var (i := 7) rfl (Or.inr (Or.inl rfl))) a_nil))))))))
      (s_cut (s_set (i := 8) sc_law.nd rfl (Or.inl rfl) (d_frz (d_bin (o_addLL C.hK) (d_var (i := 8) rfl (Or.inl rfl)) (d_lstO (a_cons (d_callB (c_min2 C.calm) rfl T.z_min PyProof.Rows.boot_min (a_cons (d_ixA C.hK (d_var (i := 6) rfl (Or.inl rfl)) d_int (fun _ _ => rfl)) (a_cons (d_bin o_sub (d_var (i := 7) rfl (Or.inr (Or.inl rfl))) d_int) a_nil))) (a_cons (d_bin o_sub (d_var (i := 7) rfl (Or.inr (Or.inl rfl))) d_int) a_nil))))))
      (s_cut (s_for PassesOwn.never C.calm (i_any C.hK (d_if (PW.pt (dw_or (d_tcmp o_ltA (d_var (i := 5) rfl (Or.inl rfl)) d_int (nomark _)) (dw_or1 (d_tcmp o_gt (d_var (i := 5) rfl (Or.inl rfl)) (d_bin o_sub (d_var (i := 4) rfl (Or.inl rfl)) d_int) (nomark _))))) (d_var (i := 8) rfl (Or.inl rfl)) (d_frz (d_slice C.hK (d_var (i := 8) rfl (Or.inl rfl)) p_no (p_pt d_int))))) (g_name (i := 10) sc_law.nd rfl (Or.inl rfl)) (s_one (s_if (dt_not (d_tval (d_call C G_l_is_right rfl (a_cons (d_var (i := 1) rfl (Or.inr (Or.inl rfl))) (a_cons (d_bin (o_addA C.hK) (d_bin (o_addA C.hK) (d_frz (d_slice C.hK (d_var (i := 6) rfl (Or.inl rfl)) p_no (p_pt d_int))) (d_tup (a_cons (d_var (i := 10) rfl (Or.inl rfl)) a_nil))) (d_frz (d_slice C.hK (d_var (i := 6) rfl (Or.inl rfl)) (p_pt d_int) p_no))) a_nil))))) (s_one (s_ret d_bl)) s_nil)))
      (s_cons (s_if (dt_not (d_tval (d_call C G_l_is_right rfl (a_cons (d_var (i := 1) rfl (Or.inr (Or.inl rfl))) (a_cons (d_frz (d_slice C.hK (d_var (i := 6) rfl (Or.inl rfl)) p_no (p_pt d_int))) a_nil))))) (s_one (s_ret d_bl)) s_nil)
      (s_one (s_set (i := 3) sc_law.nd rfl (Or.inl rfl) (d_call C G_l_value_at rfl (a_cons (d_bin (o_addA C.hK) (d_bin (o_addA C.hK) (d_frz (d_slice C.hK (d_var (i := 6) rfl (Or.inl rfl)) p_no (p_pt d_int))) (d_tup (a_cons (d_call C G_l_pick rfl (a_cons (d_var (i := 1) rfl (Or.inr (Or.inl rfl))) (a_cons (d_var (i := 8) rfl (Or.inl rfl)) a_nil))) a_nil))) (d_frz (d_slice C.hK (d_var (i := 6) rfl (Or.inl rfl)) (p_pt d_int) p_no))) a_nil))))))))))))))))
      (s_one (s_ret d_bl)))), fun bs mu R h => ?_⟩
  · obtain ⟨ns, rfl, _⟩ := h
    rfl
  · obtain ⟨ns, rfl, hn, ⟨nt, hnt⟩, h⟩ := h
    walk_at "st"
    walk_at "dl"
    refine ⟨ns, rfl, hn, ?_⟩
    walk_at "dl"
    have hj : (mu ++ [MO.hid, MO.deck mu.length])[mu.length + 1]? = some (.deck mu.length) := by simp
    have ht : (mu ++ [MO.hid, MO.deck mu.length])[nt]? = some (.tab PT qR) := app_at hnt _
    generalize mu ++ [MO.hid, MO.deck mu.length] = M at *
    generalize mu.length + 1 = J at *
    generalize mu.length = I at *
    refine ⟨by decide, ?_⟩
    refine rng_k (fun _ en mu2 => mu2 = M ∧ ∃ t2 t3 t4 t5 t6 t7 t8 t9 t10, en = [some (.dat (.list (ns.map D.int))), some (.ref J), t2, t3, t4, t5, t6, t7, t8, t9, t10]) ⟨rfl, _, _, _, _, _, _, _, _, _, rfl⟩ ?_ ?_
    · rintro i en mu2 N hi ⟨rfl, t2, t3, t4, t5, t6, t7, t8, t9, t10, rfl⟩ hN
      walk_at "dl"
      refine drawn hj fun r r0 r1 => ?_
      walk_at "dl"
      refine ⟨J, _, _, _, rfl, hj, rfl, by simp, by simp, fun x hx => ?_⟩
      have hx2 : ∃ dd : Int, x = .int dd ∧ 1 ≤ dd ∧ dd ≤ 12 := by
        simp only [List.mem_cons, List.not_mem_nil, or_false] at hx
        rcases hx with rfl | rfl | rfl | rfl | rfl <;> exact ⟨_, rfl, by omega, by omega⟩
      obtain ⟨dd, rfl, dd0, dd1⟩ := hx2
      walk_at "dl"
      refine ⟨_, _, rfl, by omega, by show dd.natAbs < 2 ^ 8000; exact Nat.lt_of_lt_of_le (by omega : dd.natAbs < 2 ^ 4) (Nat.pow_le_pow_right (by decide) (by decide)), fun n0 e0 hf => ?_⟩
      have hle := hf.le (by omega)
      have b0 : Bd 8 n0 := by show n0.natAbs < 2 ^ 8; omega
      have b1 : Bd 8 e0 := by show e0.natAbs < 2 ^ 8; omega
      walk_at "dl"
      refine cut_k (fun en mu3 => mu3 = mu2 ∧ ∃ many : Int, en = [some (.dat (.list (ns.map D.int))), some (.ref J), some (.dat (.int (0 + (i : Int)))), some (.dat (fr n0 e0)), some (.dat (.int many)), t5, t6, t7, t8, t9, t10] ∧ 0 ≤ many ∧ many ≤ 60) ?_ ?_
      · walk_at "dl"
        refine drawn hj fun q q0 q1 => ?_
        walk_at "dl"
        by_cases c : q = 0
        · rw [if_pos c]
          refine drawn hj fun q2 q3 q4 => ?_
          walk_at "dl"
          exact ⟨_, rfl, by omega, by omega⟩
        · rw [if_neg c]
          exact ⟨_, rfl, by omega, by omega⟩
      rintro en mu3 ⟨rfl, many, rfl, m0, m1⟩
      walk_at "dl"
      refine ⟨by omega, ?_⟩
      refine rng_k (fun i2 en mu4 => mu4 = mu3 ∧ ∃ n e t5 t6 t7 t8 t9 t10, en = [some (.dat (.list (ns.map D.int))), some (.ref J), some (.dat (.int (0 + (i : Int)))), some (.dat (fr n e)), some (.dat (.int many)), t5, t6, t7, t8, t9, t10] ∧ IsFr n e ∧ Bd (8 + 25 * i2) n ∧ Bd (8 + 25 * i2) e) ⟨rfl, _, _, _, _, _, _, _, _, rfl, hf.1, b0, b1⟩ ?_ ?_
      · rintro i2 en mu4 N2 hi2 ⟨rfl, n, e, t5, t6, t7, t8, t9, t10, rfl, fr1, bn, be⟩ hN2
        walk_at "dl"
        refine ⟨J, _, _, rfl, hj, fun s t dl tm ⟨⟨s0, s1⟩, ⟨u0, u1⟩, ⟨d0, d1⟩, ⟨v0, v1⟩, dt⟩ => ?_⟩
        walk_at "dl"
        refine cut_k (fun en mu5 => mu5 = mu4 ∧ ∃ s t dl tm : Int, en = [some (.dat (.list (ns.map D.int))), some (.ref J), some (.dat (.int (0 + (i : Int)))), some (.dat (fr n e)), some (.dat (.int many)), some (.dat (.int (0 + (i2 : Int)))), some (.dat (.tuple [.int s, .int t, .int dl, .int tm, .int 0, fr n e])), t7, t8, t9, t10] ∧ (0 ≤ s ∧ s < 60) ∧ (-10000 ≤ t ∧ t ≤ 10000) ∧ (0 ≤ dl ∧ dl ≤ 9) ∧ (0 ≤ tm ∧ tm ≤ 200) ∧ 0 < dl + tm) ?_ ?_
        · walk_at "dl"
          by_cases c : (3 : Int) < 0 + (i2 : Int)
          · rw [if_pos c]
            walk_at "dl"
            by_cases c2 : tm < 2
            · rw [if_pos c2]
              walk_at "dl"
              exact ⟨szle (by show 6 ≤ 1000000; decide), s, t, 0, 3, rfl, ⟨s0, s1⟩, ⟨u0, u1⟩, ⟨by decide, by decide⟩, ⟨by decide, by decide⟩, by decide⟩
            · rw [if_neg c2]
              exact ⟨s, t, dl, tm, rfl, ⟨s0, s1⟩, ⟨u0, u1⟩, ⟨d0, d1⟩, ⟨v0, v1⟩, dt⟩
          · rw [if_neg c]
            exact ⟨s, t, dl, tm, rfl, ⟨s0, s1⟩, ⟨u0, u1⟩, ⟨d0, d1⟩, ⟨v0, v1⟩, dt⟩
        clear dt v0 v1 d0 d1 u0 u1 s0 s1
        rintro en mu5 ⟨rfl, s, t, dl, tm, rfl, ⟨s0, s1⟩, ⟨u0, u1⟩, ⟨d0, d1⟩, ⟨v0, v1⟩, dt⟩
        walk_at "dl"
        refine cut_k (fun en mu6 => mu6 = mu5 ∧ ∃ as : List D, en = [some (.dat (.list (ns.map D.int))), some (.ref J), some (.dat (.int (0 + (i : Int)))), some (.dat (fr n e)), some (.dat (.int many)), some (.dat (.int (0 + (i2 : Int)))), some (.dat (.tuple [.int s, .int t, .int dl, .int tm, .int 0, fr n e])), some (.dat (.int (dl + tm))), some (.dat (.list as)), t9, t10] ∧ as.length ≤ 7 ∧ ∀ x ∈ as, ∃ a : Int, x = .int a ∧ 0 ≤ a ∧ a < dl + tm) ?_ ?_
        · walk_at "dl"
          by_cases c : dl + tm < 7
          · rw [if_pos c]
            by_cases c2 : many = 3
            · rw [if_pos c2]
              refine ⟨⟨by omega, by omega⟩, _, rfl, ?_, fun x hx => ?_⟩
              · unfold rng0D
                rw [List.length_map, List.length_range]
                omega
              · unfold rng0D at hx
                obtain ⟨q, hq, rfl⟩ := List.mem_map.mp hx
                have := List.mem_range.mp hq
                exact ⟨_, rfl, by omega, by omega⟩
            · rw [if_neg c2]
              refine ⟨by decide, ?_⟩
              refine rng_kc (fun k acc mu8 => mu8 = mu5 ∧ acc.length = k ∧ ∀ x ∈ acc, ∃ a : Int, x = .int a ∧ 0 ≤ a ∧ a < dl + tm) ⟨rfl, rfl, by simp⟩ ?_ ?_
              · rintro k acc mu8 N3 hk ⟨rfl, hl, hx⟩ hN3
                walk_at "dl"
                refine drawn (app_at hj _) (fun q q0 q1 => ?_) (by omega) (by omega)
                walk_at "dl"
                have hk2 : k < 2 := hk
                refine ⟨szlt (by omega), hN3 _ _ ⟨rfl, by rw [List.length_append, hl]; rfl, fun x hx2 => ?_⟩⟩
                rcases List.mem_append.mp hx2 with hx2 | hx2
                · exact hx x hx2
                · rw [List.mem_singleton] at hx2
                  exact ⟨_, hx2, q0, q1⟩
              · rintro acc mu8 ⟨rfl, hl, hx⟩
                walk_at "dl"
                have hl2 : acc.length = 2 := hl
                exact ⟨_, rfl, by omega, hx⟩
          · rw [if_neg c]
            refine ⟨by decide, ?_⟩
            refine rng_kc (fun k acc mu8 => mu8 = mu5 ∧ acc.length = k ∧ ∀ x ∈ acc, ∃ a : Int, x = .int a ∧ 0 ≤ a ∧ a < dl + tm) ⟨rfl, rfl, by simp⟩ ?_ ?_
            · rintro k acc mu8 N3 hk ⟨rfl, hl, hx⟩ hN3
              walk_at "dl"
              refine drawn (app_at hj _) (fun q q0 q1 => ?_) (by omega) (by omega)
              walk_at "dl"
              have hk2 : k < 2 := hk
              refine ⟨szlt (by omega), hN3 _ _ ⟨rfl, by rw [List.length_append, hl]; rfl, fun x hx2 => ?_⟩⟩
              rcases List.mem_append.mp hx2 with hx2 | hx2
              · exact hx x hx2
              · rw [List.mem_singleton] at hx2
                exact ⟨_, hx2, q0, q1⟩
            · rintro acc mu8 ⟨rfl, hl, hx⟩
              walk_at "dl"
              have hl2 : acc.length = 2 := hl
              exact ⟨_, rfl, by omega, hx⟩
        rintro en mu6 ⟨rfl, as, rfl, al, ha⟩
        refine cut_k (fun en mu7 => mu7 = mu6 ∧ ∃ as : List D, en = [some (.dat (.list (ns.map D.int))), some (.ref J), some (.dat (.int (0 + (i : Int)))), some (.dat (fr n e)), some (.dat (.int many)), some (.dat (.int (0 + (i2 : Int)))), some (.dat (.tuple [.int s, .int t, .int dl, .int tm, .int 0, fr n e])), some (.dat (.int (dl + tm))), some (.dat (.list as)), t9, t10] ∧ (0 < as.length ∧ as.length ≤ 9) ∧ ∀ x ∈ as, ∃ a : Int, x = .int a ∧ 0 ≤ a ∧ a < dl + tm) ?_ ?_
        · walk_at "dl"
          refine ⟨szle (by omega), _, rfl, ?_, fun x hx => ?_⟩
          · rw [List.length_append]
            simp only [List.length_cons, List.length_nil]
            omega
          · rcases List.mem_append.mp hx with hx | hx
            · exact ha x hx
            · simp only [List.mem_cons, List.not_mem_nil, or_false] at hx
              rcases hx with rfl | rfl
              · refine ⟨_, rfl, ?_, ?_⟩ <;> split <;> omega
              · exact ⟨_, rfl, by omega, by omega⟩
        clear ha al as
        rintro en mu7 ⟨rfl, as, rfl, ⟨as0, as1⟩, ha⟩
        have bn2 : Bd 1600 n := bn.mono (by omega)
        have be2 : Bd 1600 e := be.mono (by omega)
        have b14 : ∀ {x : Int}, -10000 ≤ x → x ≤ 10000 → Bd 14 x := fun h1 h2 => by show _ < 2 ^ 14; omega
        have trA : ∀ {k : Nat} {x : Int}, Bd k n → Bd k e → 0 ≤ x → x < dl + tm → trP k (.tuple [.int s, .int t, .int dl, .int tm, .int x, fr n e]) := fun h1 h2 h3 h4 =>
          .inr ⟨s, t, dl, tm, _, n, e, rfl, s0, d0, v0, h3, h4, fr1, b14 (by omega) (by omega), b14 u0 u1, by show _ < 2 ^ 8; omega, by show _ < 2 ^ 8; omega, by show _ < 2 ^ 9; omega, h1, h2⟩
        refine cut_k (fun en mu8 => mu8 = mu7 ∧ ∃ x10, en = [some (.dat (.list (ns.map D.int))), some (.ref J), some (.dat (.int (0 + (i : Int)))), some (.dat (fr n e)), some (.dat (.int many)), some (.dat (.int (0 + (i2 : Int)))), some (.dat (.tuple [.int s, .int t, .int dl, .int tm, .int 0, fr n e])), some (.dat (.int (dl + tm))), some (.dat (.list as)), t9, x10]) ?_ ?_
        · walk_at "dl"
          refine .inl ?_
          by_cases c : 0 + (i2 : Int) < 4
          · rw [if_pos c]
            refine loop_k (fun _ en mu9 => mu9 = mu7 ∧ ∃ x10, en = [some (.dat (.list (ns.map D.int))), some (.ref J), some (.dat (.int (0 + (i : Int)))), some (.dat (fr n e)), some (.dat (.int many)), some (.dat (.int (0 + (i2 : Int)))), some (.dat (.tuple [.int s, .int t, .int dl, .int tm, .int 0, fr n e])), some (.dat (.int (dl + tm))), some (.dat (.list as)), t9, x10]) ⟨rfl, _, rfl⟩ ?_ ?_
            · rintro k d en mu9 N3 hd ⟨rfl, x10, rfl⟩ hN3
              obtain ⟨a, rfl, a0, a1⟩ := ha d (id (List.mem_of_getElem? hd))
              walk_at "dl"
              refine ⟨szle (by show 5 ≤ 1000000; decide), szle (by show 6 ≤ 1000000; decide), J, I, nt, .tuple [.int s, .int t, .int dl, .int tm, .int a, fr n e], rfl, hj, ht, trA bn2 be2 a0 a1, ?_⟩
              walk_at "dl"
              exact hN3 _ _ ⟨rfl, _, rfl⟩
            · rintro en mu9 ⟨rfl, x10, rfl⟩
              exact ⟨rfl, _, rfl⟩
          · rw [if_neg c]
            by_cases c2 : many - 3 < 0 + (i2 : Int)
            · rw [if_pos c2]
              refine loop_k (fun _ en mu9 => mu9 = mu7 ∧ ∃ x10, en = [some (.dat (.list (ns.map D.int))), some (.ref J), some (.dat (.int (0 + (i : Int)))), some (.dat (fr n e)), some (.dat (.int many)), some (.dat (.int (0 + (i2 : Int)))), some (.dat (.tuple [.int s, .int t, .int dl, .int tm, .int 0, fr n e])), some (.dat (.int (dl + tm))), some (.dat (.list as)), t9, x10]) ⟨rfl, _, rfl⟩ ?_ ?_
              · rintro k d en mu9 N3 hd ⟨rfl, x10, rfl⟩ hN3
                obtain ⟨a, rfl, a0, a1⟩ := ha d (id (List.mem_of_getElem? hd))
                walk_at "dl"
                refine ⟨szle (by show 5 ≤ 1000000; decide), szle (by show 6 ≤ 1000000; decide), J, I, nt, .tuple [.int s, .int t, .int dl, .int tm, .int a, fr n e], rfl, hj, ht, trA bn2 be2 a0 a1, ?_⟩
                walk_at "dl"
                exact hN3 _ _ ⟨rfl, _, rfl⟩
              · rintro en mu9 ⟨rfl, x10, rfl⟩
                exact ⟨rfl, _, rfl⟩
            · rw [if_neg c2]
              refine loop_k (fun _ en mu9 => mu9 = mu7 ∧ ∃ x10, en = [some (.dat (.list (ns.map D.int))), some (.ref J), some (.dat (.int (0 + (i : Int)))), some (.dat (fr n e)), some (.dat (.int many)), some (.dat (.int (0 + (i2 : Int)))), some (.dat (.tuple [.int s, .int t, .int dl, .int tm, .int 0, fr n e])), some (.dat (.int (dl + tm))), some (.dat (.list as)), t9, x10]) ⟨rfl, _, rfl⟩ ?_ ?_
              · rintro k d en mu9 N3 hd ⟨rfl, x10, rfl⟩ hN3
                obtain ⟨a, rfl, a0, a1⟩ := ha d (cut_mem (List.mem_of_getElem? hd))
                walk_at "dl"
                refine ⟨szle (by show 5 ≤ 1000000; decide), szle (by show 6 ≤ 1000000; decide), J, I, nt, .tuple [.int s, .int t, .int dl, .int tm, .int a, fr n e], rfl, hj, ht, trA bn2 be2 a0 a1, ?_⟩
                walk_at "dl"
                exact hN3 _ _ ⟨rfl, _, rfl⟩
              · rintro en mu9 ⟨rfl, x10, rfl⟩
                exact ⟨rfl, _, rfl⟩
        rintro en mu8 ⟨rfl, x10, rfl⟩
        walk_at "dl"
        refine ⟨J, I, nt, _, rfl, hj, ht, .inl ⟨s, t, rfl, s0, b14 (by omega) (by omega), b14 u0 u1⟩, ?_⟩
        walk_at "dl"
        refine ⟨J, I, _, as, rfl, hj, rfl, fun z => by rw [z] at as0; exact absurd as0 (by decide), by omega, fun x hx => ?_⟩
        obtain ⟨a, rfl, a0, a1⟩ := ha x hx
        walk_at "dl"
        have tra := trA bn be a0 a1
        have tra2 := trA bn2 be2 a0 a1
        obtain ⟨n2, e2, hv, hv2, c1, c2⟩ := trP_val tra
        refine ⟨szle (by show 5 ≤ 1000000; decide), szle (by show 6 ≤ 1000000; decide), .tuple [.int s, .int t, .int dl, .int tm, .int a, fr n e], rfl, trP_trace tra2, trP_ok tra2, ?_⟩
        rw [hv]
        walk_at "dl"
        exact hN2 _ _ ⟨rfl, n2, e2, _, _, _, _, _, _, rfl, hv2, c1.mono (by omega), c2.mono (by omega)⟩
      · rintro en mu4 ⟨rfl, n, e, t5, t6, t7, t8, t9, t10, rfl, _⟩
        walk_at "dl"
        exact hN _ _ ⟨rfl, _, _, _, _, _, _, _, _, _, rfl⟩
    · rintro en mu2 ⟨rfl, t2, t3, t4, t5, t6, t7, t8, t9, t10, rfl⟩
      walk_at "dl"
      exact h _

end
open PySem.W in
theorem all_mk {l : PySem.W.OpenLaw} {w : World} {K : PySem.W.Frag} {h : Heap} {mg : Str → Option Value} {fa : Addr} {q : Program} (X : K.In h) (G : h.Ns mainGlobals mg) (hfa : mg "law" = some (.ref fa)) (TA : TabsOf K mg q h)
    {Dk NDk : Addr} {nmDk qnDk : Str} {bsDk suDk : List Value} {snDk : List Str} {abDk hdDk : Bool} {coDk : Option Bool} {dddDk : Option Addr} {m0Dk m1Dk m2Dk m3Dk m5Dk : Option Value}
    {f0 : Addr} {oc0 kV0 dc0 pm0 cd0 ct0 : Value} {od0 an0 : Option Addr} {sl0 : Array (Option Value)}
    {f1 : Addr} {oc1 kV1 dc1 pm1 cd1 ct1 : Value} {od1 an1 : Option Addr} {sl1 : Array (Option Value)}
    {f2 : Addr} {oc2 kV2 dc2 pm2 cd2 ct2 : Value} {od2 an2 : Option Addr} {sl2 : Array (Option Value)}
    {f3 : Addr} {oc3 kV3 dc3 pm3 cd3 ct3 : Value} {od3 an3 : Option Addr} {sl3 : Array (Option Value)}
    {f4 : Addr} {oc4 kV4 dc4 pm4 cd4 ct4 : Value} {od4 an4 : Option Addr} {sl4 : Array (Option Value)}
    {f5 : Addr} {oc5 kV5 dc5 pm5 cd5 ct5 : Value} {od5 an5 : Option Addr} {sl5 : Array (Option Value)}
    {f6 : Addr} {oc6 kV6 dc6 pm6 cd6 ct6 : Value} {od6 an6 : Option Addr} {sl6 : Array (Option Value)}
    {f7 : Addr} {oc7 kV7 dc7 pm7 cd7 ct7 : Value} {od7 an7 : Option Addr} {sl7 : Array (Option Value)}
    {f8 : Addr} {oc8 kV8 dc8 pm8 cd8 ct8 : Value} {od8 an8 : Option Addr} {sl8 : Array (Option Value)}
    {f9 : Addr} {oc9 kV9 dc9 pm9 cd9 ct9 : Value} {od9 an9 : Option Addr} {sl9 : Array (Option Value)}
    {f10 : Addr} {oc10 kV10 dc10 pm10 cd10 ct10 : Value} {od10 an10 : Option Addr} {sl10 : Array (Option Value)}
    {f11 : Addr} {oc11 kV11 dc11 pm11 cd11 ct11 : Value} {od11 an11 : Option Addr} {sl11 : Array (Option Value)}
    {f12 : Addr} {oc12 kV12 dc12 pm12 cd12 ct12 : Value} {od12 an12 : Option Addr} {sl12 : Array (Option Value)}
    {f13 : Addr} {oc13 kV13 dc13 pm13 cd13 ct13 : Value} {od13 an13 : Option Addr} {sl13 : Array (Option Value)}
    {f14 : Addr} {oc14 kV14 dc14 pm14 cd14 ct14 : Value} {od14 an14 : Option Addr} {sl14 : Array (Option Value)}
    {f15 : Addr} {oc15 kV15 dc15 pm15 cd15 ct15 : Value} {od15 an15 : Option Addr} {sl15 : Array (Option Value)}
    {f16 : Addr} {oc16 kV16 dc16 pm16 cd16 ct16 : Value} {od16 an16 : Option Addr} {sl16 : Array (Option Value)}
    {f17 : Addr} {oc17 kV17 dc17 pm17 cd17 ct17 : Value} {od17 an17 : Option Addr} {sl17 : Array (Option Value)}
    {f18 : Addr} {oc18 kV18 dc18 pm18 cd18 ct18 : Value} {od18 an18 : Option Addr} {sl18 : Array (Option Value)}
    {f19 : Addr} {oc19 kV19 dc19 pm19 cd19 ct19 : Value} {od19 an19 : Option Addr} {sl19 : Array (Option Value)}
    {f20 : Addr} {oc20 kV20 dc20 pm20 cd20 ct20 : Value} {od20 an20 : Option Addr} {sl20 : Array (Option Value)}
    {f21 : Addr} {oc21 kV21 dc21 pm21 cd21 ct21 : Value} {od21 an21 : Option Addr} {sl21 : Array (Option Value)}
    {f22 : Addr} {oc22 kV22 dc22 pm22 cd22 ct22 : Value} {od22 an22 : Option Addr} {sl22 : Array (Option Value)}
    {f23 : Addr} {oc23 kV23 dc23 pm23 cd23 ct23 : Value} {od23 an23 : Option Addr} {sl23 : Array (Option Value)}
    {f24 : Addr} {oc24 kV24 dc24 pm24 cd24 ct24 : Value} {od24 an24 : Option Addr} {sl24 : Array (Option Value)}
    {f25 : Addr} {oc25 kV25 dc25 pm25 cd25 ct25 : Value} {od25 an25 : Option Addr} {sl25 : Array (Option Value)}
    {f26 : Addr} {oc26 kV26 dc26 pm26 cd26 ct26 : Value} {od26 an26 : Option Addr} {sl26 : Array (Option Value)}
    {f27 cc0 PT0 : Addr} {oc27 kV27 dc27 pm27 ct27 ec0 : Value} {od27 an27 dd0 : Option Addr} {sl27 slc0 : Array (Option Value)} {vsc0 : Array Value}
    {f28 : Addr} {oc28 kV28 dc28 pm28 cd28 ct28 : Value} {od28 an28 : Option Addr} {sl28 : Array (Option Value)}
    {tC_AT_REST : Tok}
    {tC_MOVING : Tok}
    {Cb0 fb0 cdb0 ceb0 Nb0 : Addr} {nmb0 qnb0 : Str} {bsb0 sub0 : List Value} {snb0 : List Str} {abb0 : Bool} {cob0 : Option Bool} {dddb0 oddb0 anb0 cddb0 cldb0 : Option Addr} {m0b0 m1b0 m2b0 m3b0 m5b0 : Option Value} {ocb0 dcb0 pmb0 ctb0 cclb0 clb0 : Value} {oslb0 ccsb0 cslb0 : Array (Option Value)} {a1b0 a2b0 p0b0 p1b0 p2b0 p3b0 p4b0 p5b0 p6b0 p7b0 p8b0 p9b0 : Pos} {vsb0 : Array Value} {fileb0 : Str} {tfb0 : Tok}
    (a0 : PySem.W.nsIn K mainGlobals "is_int" = some (some (.ref f0))) (l0 : K.lookup f0 = some ⟨oc0, od0, .func (PySem.W.fnOf "is_int" "is_int" (defArgs s_is_int) (defBody s_is_int) (defScope s_is_int) .none kV0 dc0 pm0 an0 cd0 ct0), sl0⟩) (c0 : PySem.W.codeIn K cd0 "is_int" = true) (q0 : PySem.W.keepIn K (.ref f0) = true)
    (a1 : PySem.W.nsIn K mainGlobals "is_from" = some (some (.ref f1))) (l1 : K.lookup f1 = some ⟨oc1, od1, .func (PySem.W.fnOf "is_from" "is_from" (defArgs s_is_from) (defBody s_is_from) (defScope s_is_from) .none kV1 dc1 pm1 an1 cd1 ct1), sl1⟩) (c1 : PySem.W.codeIn K cd1 "is_from" = true) (q1 : PySem.W.keepIn K (.ref f1) = true)
    (a2 : PySem.W.nsIn K mainGlobals "is_row" = some (some (.ref f2))) (l2 : K.lookup f2 = some ⟨oc2, od2, .func (PySem.W.fnOf "is_row" "is_row" (defArgs s_is_row) (defBody s_is_row) (defScope s_is_row) .none kV2 dc2 pm2 an2 cd2 ct2), sl2⟩) (c2 : PySem.W.codeIn K cd2 "is_row" = true) (q2 : PySem.W.keepIn K (.ref f2) = true)
    (a3 : PySem.W.nsIn K mainGlobals "is_fraction_value" = some (some (.ref f3))) (l3 : K.lookup f3 = some ⟨oc3, od3, .func (PySem.W.fnOf "is_fraction_value" "is_fraction_value" (defArgs s_is_fraction_value) (defBody s_is_fraction_value) (defScope s_is_fraction_value) .none kV3 dc3 pm3 an3 cd3 ct3), sl3⟩) (c3 : PySem.W.codeIn K cd3 "is_fraction_value" = true) (q3 : PySem.W.keepIn K (.ref f3) = true)
    (a4 : PySem.W.nsIn K mainGlobals "low" = some (some (.ref f4))) (l4 : K.lookup f4 = some ⟨oc4, od4, .func (PySem.W.fnOf "low" "low" (defArgs s_low) (defBody s_low) (defScope s_low) .none kV4 dc4 pm4 an4 cd4 ct4), sl4⟩) (c4 : PySem.W.codeIn K cd4 "low" = true) (q4 : PySem.W.keepIn K (.ref f4) = true)
    (a5 : PySem.W.nsIn K mainGlobals "as_f" = some (some (.ref f5))) (l5 : K.lookup f5 = some ⟨oc5, od5, .func (PySem.W.fnOf "as_f" "as_f" (defArgs s_as_f) (defBody s_as_f) (defScope s_as_f) .none kV5 dc5 pm5 an5 cd5 ct5), sl5⟩) (c5 : PySem.W.codeIn K cd5 "as_f" = true) (q5 : PySem.W.keepIn K (.ref f5) = true)
    (a6 : PySem.W.nsIn K mainGlobals "plus_f" = some (some (.ref f6))) (l6 : K.lookup f6 = some ⟨oc6, od6, .func (PySem.W.fnOf "plus_f" "plus_f" (defArgs s_plus_f) (defBody s_plus_f) (defScope s_plus_f) .none kV6 dc6 pm6 an6 cd6 ct6), sl6⟩) (c6 : PySem.W.codeIn K cd6 "plus_f" = true) (q6 : PySem.W.keepIn K (.ref f6) = true)
    (a7 : PySem.W.nsIn K mainGlobals "minus_f" = some (some (.ref f7))) (l7 : K.lookup f7 = some ⟨oc7, od7, .func (PySem.W.fnOf "minus_f" "minus_f" (defArgs s_minus_f) (defBody s_minus_f) (defScope s_minus_f) .none kV7 dc7 pm7 an7 cd7 ct7), sl7⟩) (c7 : PySem.W.codeIn K cd7 "minus_f" = true) (q7 : PySem.W.keepIn K (.ref f7) = true)
    (a8 : PySem.W.nsIn K mainGlobals "times_f" = some (some (.ref f8))) (l8 : K.lookup f8 = some ⟨oc8, od8, .func (PySem.W.fnOf "times_f" "times_f" (defArgs s_times_f) (defBody s_times_f) (defScope s_times_f) .none kV8 dc8 pm8 an8 cd8 ct8), sl8⟩) (c8 : PySem.W.codeIn K cd8 "times_f" = true) (q8 : PySem.W.keepIn K (.ref f8) = true)
    (a9 : PySem.W.nsIn K mainGlobals "mixed_f" = some (some (.ref f9))) (l9 : K.lookup f9 = some ⟨oc9, od9, .func (PySem.W.fnOf "mixed_f" "mixed_f" (defArgs s_mixed_f) (defBody s_mixed_f) (defScope s_mixed_f) .none kV9 dc9 pm9 an9 cd9 ct9), sl9⟩) (c9 : PySem.W.codeIn K cd9 "mixed_f" = true) (q9 : PySem.W.keepIn K (.ref f9) = true)
    (a10 : PySem.W.nsIn K mainGlobals "is_path" = some (some (.ref f10))) (l10 : K.lookup f10 = some ⟨oc10, od10, .func (PySem.W.fnOf "is_path" "is_path" (defArgs s_is_path) (defBody s_is_path) (defScope s_is_path) .none kV10 dc10 pm10 an10 cd10 ct10), sl10⟩) (c10 : PySem.W.codeIn K cd10 "is_path" = true) (q10 : PySem.W.keepIn K (.ref f10) = true)
    (a11 : PySem.W.nsIn K mainGlobals "is_trace_value" = some (some (.ref f11))) (l11 : K.lookup f11 = some ⟨oc11, od11, .func (PySem.W.fnOf "is_trace_value" "is_trace_value" (defArgs s_is_trace_value) (defBody s_is_trace_value) (defScope s_is_trace_value) .none kV11 dc11 pm11 an11 cd11 ct11), sl11⟩) (c11 : PySem.W.codeIn K cd11 "is_trace_value" = true) (q11 : PySem.W.keepIn K (.ref f11) = true)
    (a12 : PySem.W.nsIn K mainGlobals "is_due" = some (some (.ref f12))) (l12 : K.lookup f12 = some ⟨oc12, od12, .func (PySem.W.fnOf "is_due" "is_due" (defArgs s_is_due) (defBody s_is_due) (defScope s_is_due) .none kV12 dc12 pm12 an12 cd12 ct12), sl12⟩) (c12 : PySem.W.codeIn K cd12 "is_due" = true) (q12 : PySem.W.keepIn K (.ref f12) = true)
    (a13 : PySem.W.nsIn K mainGlobals "value_in" = some (some (.ref f13))) (l13 : K.lookup f13 = some ⟨oc13, od13, .func (PySem.W.fnOf "value_in" "value_in" (defArgs s_value_in) (defBody s_value_in) (defScope s_value_in) .none kV13 dc13 pm13 an13 cd13 ct13), sl13⟩) (c13 : PySem.W.codeIn K cd13 "value_in" = true) (q13 : PySem.W.keepIn K (.ref f13) = true)
    (a14 : PySem.W.nsIn K mainGlobals "value_at" = some (some (.ref f14))) (l14 : K.lookup f14 = some ⟨oc14, od14, .func (PySem.W.fnOf "value_at" "value_at" (defArgs s_value_at) (defBody s_value_at) (defScope s_value_at) .none kV14 dc14 pm14 an14 cd14 ct14), sl14⟩) (c14 : PySem.W.codeIn K cd14 "value_at" = true) (q14 : PySem.W.keepIn K (.ref f14) = true)
    (a15 : PySem.W.nsIn K mainGlobals "_law_deck" = some (some (.ref f15))) (l15 : K.lookup f15 = some ⟨oc15, od15, .func (PySem.W.fnOf "_law_deck" "_law_deck" (defArgs s_l_deck) (defBody s_l_deck) (defScope s_l_deck) .none kV15 dc15 pm15 an15 cd15 ct15), sl15⟩) (c15 : PySem.W.codeIn K cd15 "_law_deck" = true) (q15 : PySem.W.keepIn K (.ref f15) = true)
    (a16 : PySem.W.nsIn K mainGlobals "_law_draw" = some (some (.ref f16))) (l16 : K.lookup f16 = some ⟨oc16, od16, .func (PySem.W.fnOf "_law_draw" "_law_draw" (defArgs s_l_draw) (defBody s_l_draw) (defScope s_l_draw) .none kV16 dc16 pm16 an16 cd16 ct16), sl16⟩) (c16 : PySem.W.codeIn K cd16 "_law_draw" = true) (q16 : PySem.W.keepIn K (.ref f16) = true)
    (a17 : PySem.W.nsIn K mainGlobals "_law_pick" = some (some (.ref f17))) (l17 : K.lookup f17 = some ⟨oc17, od17, .func (PySem.W.fnOf "_law_pick" "_law_pick" (defArgs s_l_pick) (defBody s_l_pick) (defScope s_l_pick) .none kV17 dc17 pm17 an17 cd17 ct17), sl17⟩) (c17 : PySem.W.codeIn K cd17 "_law_pick" = true) (q17 : PySem.W.keepIn K (.ref f17) = true)
    (a18 : PySem.W.nsIn K mainGlobals "_law_divisor" = some (some (.ref f18))) (l18 : K.lookup f18 = some ⟨oc18, od18, .func (PySem.W.fnOf "_law_divisor" "_law_divisor" (defArgs s_l_divisor) (defBody s_l_divisor) (defScope s_l_divisor) .none kV18 dc18 pm18 an18 cd18 ct18), sl18⟩) (c18 : PySem.W.codeIn K cd18 "_law_divisor" = true) (q18 : PySem.W.keepIn K (.ref f18) = true)
    (a19 : PySem.W.nsIn K mainGlobals "_law_lowest" = some (some (.ref f19))) (l19 : K.lookup f19 = some ⟨oc19, od19, .func (PySem.W.fnOf "_law_lowest" "_law_lowest" (defArgs s_l_lowest) (defBody s_l_lowest) (defScope s_l_lowest) .none kV19 dc19 pm19 an19 cd19 ct19), sl19⟩) (c19 : PySem.W.codeIn K cd19 "_law_lowest" = true) (q19 : PySem.W.keepIn K (.ref f19) = true)
    (a20 : PySem.W.nsIn K mainGlobals "_law_value_at" = some (some (.ref f20))) (l20 : K.lookup f20 = some ⟨oc20, od20, .func (PySem.W.fnOf "_law_value_at" "_law_value_at" (defArgs s_l_value_at) (defBody s_l_value_at) (defScope s_l_value_at) .none kV20 dc20 pm20 an20 cd20 ct20), sl20⟩) (c20 : PySem.W.codeIn K cd20 "_law_value_at" = true) (q20 : PySem.W.keepIn K (.ref f20) = true)
    (a21 : PySem.W.nsIn K mainGlobals "_law_is_any" = some (some (.ref f21))) (l21 : K.lookup f21 = some ⟨oc21, od21, .func (PySem.W.fnOf "_law_is_any" "_law_is_any" (defArgs s_l_is_any) (defBody s_l_is_any) (defScope s_l_is_any) .none kV21 dc21 pm21 an21 cd21 ct21), sl21⟩) (c21 : PySem.W.codeIn K cd21 "_law_is_any" = true) (q21 : PySem.W.keepIn K (.ref f21) = true)
    (a22 : PySem.W.nsIn K mainGlobals "_law_is_integer" = some (some (.ref f22))) (l22 : K.lookup f22 = some ⟨oc22, od22, .func (PySem.W.fnOf "_law_is_integer" "_law_is_integer" (defArgs s_l_is_integer) (defBody s_l_is_integer) (defScope s_l_is_integer) .none kV22 dc22 pm22 an22 cd22 ct22), sl22⟩) (c22 : PySem.W.codeIn K cd22 "_law_is_integer" = true) (q22 : PySem.W.keepIn K (.ref f22) = true)
    (a23 : PySem.W.nsIn K mainGlobals "_law_is_trace" = some (some (.ref f23))) (l23 : K.lookup f23 = some ⟨oc23, od23, .func (PySem.W.fnOf "_law_is_trace" "_law_is_trace" (defArgs s_l_is_trace) (defBody s_l_is_trace) (defScope s_l_is_trace) .none kV23 dc23 pm23 an23 cd23 ct23), sl23⟩) (c23 : PySem.W.codeIn K cd23 "_law_is_trace" = true) (q23 : PySem.W.keepIn K (.ref f23) = true)
    (a24 : PySem.W.nsIn K mainGlobals "_law_told" = some (some (.ref f24))) (l24 : K.lookup f24 = some ⟨oc24, od24, .func (PySem.W.fnOf "_law_told" "_law_told" (defArgs s_l_told) (defBody s_l_told) (defScope s_l_told) .none kV24 dc24 pm24 an24 cd24 ct24), sl24⟩) (c24 : PySem.W.codeIn K cd24 "_law_told" = true) (q24 : PySem.W.keepIn K (.ref f24) = true)
    (a25 : PySem.W.nsIn K mainGlobals "_law_fade" = some (some (.ref f25))) (l25 : K.lookup f25 = some ⟨oc25, od25, .func (PySem.W.fnOf "_law_fade" "_law_fade" (defArgs s_l_fade) (defBody s_l_fade) (defScope s_l_fade) .none kV25 dc25 pm25 an25 cd25 ct25), sl25⟩) (c25 : PySem.W.codeIn K cd25 "_law_fade" = true) (q25 : PySem.W.keepIn K (.ref f25) = true)
    (a26 : PySem.W.nsIn K mainGlobals "_law_otherwise" = some (some (.ref f26))) (l26 : K.lookup f26 = some ⟨oc26, od26, .func (PySem.W.fnOf "_law_otherwise" "_law_otherwise" (defArgs s_l_otherwise) (defBody s_l_otherwise) (defScope s_l_otherwise) .none kV26 dc26 pm26 an26 cd26 ct26), sl26⟩) (c26 : PySem.W.codeIn K cd26 "_law_otherwise" = true) (q26 : PySem.W.keepIn K (.ref f26) = true)
    (a27 : PySem.W.nsIn K mainGlobals "_law_is_right" = some (some (.ref f27))) (l27 : K.lookup f27 = some ⟨oc27, od27, .func (PySem.W.fnOf "_law_is_right" "_law_is_right" (defArgs s_l_is_right) (defBody s_l_is_right) (defScope s_l_is_right) .none kV27 dc27 pm27 an27 (.ref cc0) ct27), sl27⟩) (c27 : PySem.W.codeIn K (.ref cc0) "_law_is_right" = true) (q27 : PySem.W.keepIn K (.ref f27) = true) (kc0 : K.lookup cc0 = some ⟨ec0, dd0, .fields vsc0, slc0⟩) (vp0 : vsc0[11]? = some (.ref PT0)) (np0 : K.lookup PT0 = none) (rec0 : ∃ d ∈ PyProof.Rows.recsOf q, d.name = "_law_is_right")
    (a28 : PySem.W.nsIn K mainGlobals "law" = some (some (.ref f28))) (l28 : K.lookup f28 = some ⟨oc28, od28, .func (PySem.W.fnOf "law" "law" (defArgs s_law) (defBody s_law) (defScope s_law) .none kV28 dc28 pm28 an28 cd28 ct28), sl28⟩) (c28 : PySem.W.codeIn K cd28 "law" = true) (q28 : PySem.W.keepIn K (.ref f28) = true)
    (z_abs : PySem.W.nsIn K mainGlobals "abs" = some none)
    (z_all : PySem.W.nsIn K mainGlobals "all" = some none)
    (z_bool : PySem.W.nsIn K mainGlobals "bool" = some none)
    (z_int : PySem.W.nsIn K mainGlobals "int" = some none)
    (z_isinstance : PySem.W.nsIn K mainGlobals "isinstance" = some none)
    (z_len : PySem.W.nsIn K mainGlobals "len" = some none)
    (z_list : PySem.W.nsIn K mainGlobals "list" = some none)
    (z_max : PySem.W.nsIn K mainGlobals "max" = some none)
    (z_min : PySem.W.nsIn K mainGlobals "min" = some none)
    (z_range : PySem.W.nsIn K mainGlobals "range" = some none)
    (z_repr : PySem.W.nsIn K mainGlobals "repr" = some none)
    (z_str : PySem.W.nsIn K mainGlobals "str" = some none)
    (z_tuple : PySem.W.nsIn K mainGlobals "tuple" = some none)
    (gc : PySem.W.nsIn K mainGlobals "gcd" = some (some (.builtin "math.gcd")))
    (aC_AT_REST : PySem.W.nsIn K mainGlobals "AT_REST" = some (some (.int 2 tC_AT_REST)))
    (aC_MOVING : PySem.W.nsIn K mainGlobals "MOVING" = some (some (.int 6 tC_MOVING)))
    (gCb0 : PySem.W.nsIn K mainGlobals "BadState" = some (some (.ref Cb0))) (clsb0 : K.lookup Cb0 = some (excClassObj nmb0 qnb0 Cb0 Nb0 bsb0 (.ref Dk :: ESX.exTail) true snb0 sub0 abb0 cob0 dddb0 m0b0 m1b0 m2b0 m3b0 m5b0 "Exception.__new__")) (sab0 : findIn K (.ref Cb0) "__setattr__" = some (some (.builtin "object.__setattr__"))) (tkb0 : takerIn K Cb0 "thing" = some none) (noNb0 : findIn K (.ref Cb0) "thing" = some none) (iCb0 : findIn K (.ref Cb0) "__init__" = some (some (.ref fb0))) (tCb0 : typeIn K (.ref fb0) = some (.type "function")) (kCb0 : keepIn K (.ref Cb0) = true) (exCb0 : subIn K (.ref Cb0) (.type "BaseException") = some true) (exEb0 : subIn K (.ref Cb0) (.type "Exception") = some true) (tyCb0 : typeIn K (.ref Cb0) = some (.type "type")) (hdCb0 : hasDictIn K Cb0 = true) (slfb0 : mroIn K Cb0 (.ref Cb0) = some true) (opqb0 : nsIn K cStatics "thirdparty.any" = some none) (fnb0 : K.lookup fb0 = some ⟨ocb0, oddb0, .func (ksFn "__init__" "BadState.__init__" (BadX.iA a1b0 a2b0) (BadX.iB p0b0 p1b0 p2b0 p3b0 p4b0 p5b0 p6b0 p7b0 p8b0 p9b0) BadX.iS .none .none dcb0 pmb0 anb0 (.ref cdb0) ctb0 ceb0), oslb0⟩) (codb0 : codeIn K (.ref cdb0) "BadState.__init__" = true) (kcdb0 : K.lookup cdb0 = some ⟨cclb0, cddb0, .fields vsb0, ccsb0⟩) (vfib0 : vsb0[2]? = some (.str fileb0 tfb0)) (filb0 : ((l.prog.main.file : Str) == fileb0) = true) (celb0 : K.lookup ceb0 = some ⟨clb0, cldb0, .cell (some (.ref Cb0)), cslb0⟩) (posb0 : (p2b0.endLine == p4b0.line) = true) (gab0 : findIn K (.ref Cb0) "__getattribute__" = some (some (.builtin "BaseException.__getattribute__"))) (ggb0 : findIn K (.ref Cb0) "__getattr__" = some none) (isCb0 : isClsIn K Cb0 = true) (sCCb0 : subIn K (.ref Cb0) (.ref Cb0) = some true) (hab0 : findIn K (.ref Cb0) "__class__" = some (some (.builtin "object.__class__"))) (hnb0 : specialIn K (.builtin "object.__class__") "__get__" = some (some (.builtin "getset_descriptor.__get__"))) (htb0 : takesIn K (.builtin "object.__class__") = some true) (hmb0 : mroIn K Cb0 (.type "object") = some true) (sCDb0 : subIn K (.ref Cb0) (.ref Dk) = some true)
    (clsD : K.lookup Dk = some (excClassObj nmDk qnDk Dk NDk bsDk ESX.exTail hdDk snDk suDk abDk coDk dddDk m0Dk m1Dk m2Dk m3Dk m5Dk "Exception.__new__")) (fiD : findIn K (.ref Dk) "__init__" = some (some (.builtin "Exception.__init__"))) (isCD : isClsIn K Dk = true) (tyD : typeIn K (.ref Dk) = some (.type "type")) (gD : PySem.W.nsIn K mainGlobals "DeskError" = some (some (.ref Dk))) (zS : PySem.W.nsIn K mainGlobals "super" = some none) (topS : (l.prog.main.scope.names.lookup ("super" : Str)).isSome = false) :
    ∃ (fd : FuncData) (cs : List Tb) (sp : DSp), (∀ t ∈ cs, h.get? t.P = some { cls := .none, data := .fields #[] }) ∧ (∀ t ∈ cs, K.lookup t.P = none) ∧ (∀ t ∈ cs, PySem.W.CodeHd h t.c t.P) ∧ (cs.map Tb.P).Nodup ∧
        (∀ (s : Shared) (u : Value), BindsTo s fd ⟨[u], []⟩ [("script", u)]) ∧ (∀ base : Heap, K.In base → base.Ns mainGlobals mg → (∀ t ∈ cs, LamX.TabB base mg t.c t.P) → FnD ⟨K, DL.deckDK "cells" "mixed" "turn", true⟩ l.prog w mg base 10 fa fd ["script"] sp) ∧
        ∀ (ns : List Int), ns.length ≤ 63 → ∀ (R : B → Mu → Prop), (∀ mu, R (.dat (.bool true)) mu) → sp [.dat (.list (ns.map D.int))] (tabs0 cs) R := by
  have e := hfa.symm.trans (PySem.W.mg_of X G a28)
  cases e
  have T : Tx ⟨K, DL.deckDK "cells" "mixed" "turn", true⟩ mg (.int 2) (.int 2 tC_AT_REST) (.int 6) (.int 6 tC_MOVING) := {
    f_is_int := fn0_of X G a0 l0 c0 q0 (fun _ _ _ _ _ _ us hl => match us, hl with | [_], _ => rfl),
    f_is_from := fn0_of X G a1 l1 c1 q1 (fun _ _ _ _ _ _ us hl => match us, hl with | [_, _], _ => rfl),
    f_is_row := fn0_of X G a2 l2 c2 q2 (fun _ _ _ _ _ _ us hl => match us, hl with | [_, _], _ => rfl),
    f_is_fraction_value := fn0_of X G a3 l3 c3 q3 (fun _ _ _ _ _ _ us hl => match us, hl with | [_], _ => rfl),
    f_low := fn0_of X G a4 l4 c4 q4 (fun _ _ _ _ _ _ us hl => match us, hl with | [_, _], _ => rfl),
    f_as_f := fn0_of X G a5 l5 c5 q5 (fun _ _ _ _ _ _ us hl => match us, hl with | [_], _ => rfl),
    f_plus_f := fn0_of X G a6 l6 c6 q6 (fun _ _ _ _ _ _ us hl => match us, hl with | [_, _], _ => rfl),
    f_minus_f := fn0_of X G a7 l7 c7 q7 (fun _ _ _ _ _ _ us hl => match us, hl with | [_, _], _ => rfl),
    f_times_f := fn0_of X G a8 l8 c8 q8 (fun _ _ _ _ _ _ us hl => match us, hl with | [_, _], _ => rfl),
    f_mixed_f := fn0_of X G a9 l9 c9 q9 (fun _ _ _ _ _ _ us hl => match us, hl with | [_, _, _], _ => rfl),
    f_is_path := fn0_of X G a10 l10 c10 q10 (fun _ _ _ _ _ _ us hl => match us, hl with | [_], _ => rfl),
    f_is_trace_value := fn0_of X G a11 l11 c11 q11 (fun _ _ _ _ _ _ us hl => match us, hl with | [_], _ => rfl),
    f_is_due := fn0_of X G a12 l12 c12 q12 (fun _ _ _ _ _ _ us hl => match us, hl with | [_], _ => rfl),
    f_value_in := fn0_of X G a13 l13 c13 q13 (fun _ _ _ _ _ _ us hl => match us, hl with | [_], _ => rfl),
    f_value_at := fn0_of X G a14 l14 c14 q14 (fun _ _ _ _ _ _ us hl => match us, hl with | [_], _ => rfl),
    f_l_deck := fn0_of X G a15 l15 c15 q15 (fun _ _ _ _ _ _ us hl => match us, hl with | [_], _ => rfl),
    f_l_draw := fn0_of X G a16 l16 c16 q16 (fun _ _ _ _ _ _ us hl => match us, hl with | [_, _], _ => rfl),
    f_l_pick := fn0_of X G a17 l17 c17 q17 (fun _ _ _ _ _ _ us hl => match us, hl with | [_, _], _ => rfl),
    f_l_divisor := fn0_of X G a18 l18 c18 q18 (fun _ _ _ _ _ _ us hl => match us, hl with | [_, _], _ => rfl),
    f_l_lowest := fn0_of X G a19 l19 c19 q19 (fun _ _ _ _ _ _ us hl => match us, hl with | [_, _], _ => rfl),
    f_l_value_at := fn0_of X G a20 l20 c20 q20 (fun _ _ _ _ _ _ us hl => match us, hl with | [_], _ => rfl),
    f_l_is_any := fn0_of X G a21 l21 c21 q21 (fun _ _ _ _ _ _ us hl => match us, hl with | [_], _ => rfl),
    f_l_is_integer := fn0_of X G a22 l22 c22 q22 (fun _ _ _ _ _ _ us hl => match us, hl with | [_, _], _ => rfl),
    f_l_is_trace := fn0_of X G a23 l23 c23 q23 (fun _ _ _ _ _ _ us hl => match us, hl with | [_], _ => rfl),
    f_l_told := fn0_of X G a24 l24 c24 q24 (fun _ _ _ _ _ _ us hl => match us, hl with | [_], _ => rfl),
    f_l_fade := fn0_of X G a25 l25 c25 q25 (fun _ _ _ _ _ _ us hl => match us, hl with | [_, _], _ => rfl),
    f_l_otherwise := fn0_of X G a26 l26 c26 q26 (fun _ _ _ _ _ _ us hl => match us, hl with | [_, _], _ => rfl),
    f_l_is_right := fn0_of X G a27 l27 c27 q27 (fun _ _ _ _ _ _ us hl => match us, hl with | [_, _], _ => rfl),
    f_law := fn0_of X G a28 l28 c28 q28 (fun _ _ _ _ _ _ us hl => match us, hl with | [_], _ => rfl),
    z_abs := PySem.W.mg_none_of X G z_abs,
    z_all := PySem.W.mg_none_of X G z_all,
    z_bool := PySem.W.mg_none_of X G z_bool,
    z_int := PySem.W.mg_none_of X G z_int,
    z_isinstance := PySem.W.mg_none_of X G z_isinstance,
    z_len := PySem.W.mg_none_of X G z_len,
    z_list := PySem.W.mg_none_of X G z_list,
    z_max := PySem.W.mg_none_of X G z_max,
    z_min := PySem.W.mg_none_of X G z_min,
    z_range := PySem.W.mg_none_of X G z_range,
    z_repr := PySem.W.mg_none_of X G z_repr,
    z_str := PySem.W.mg_none_of X G z_str,
    z_tuple := PySem.W.mg_none_of X G z_tuple,
    gcd := PySem.W.mg_of X G gc,
    m_AT_REST := ⟨PySem.W.mg_of X G aC_AT_REST, ⟨tC_AT_REST, rfl⟩, fun _ _ => rfl⟩,
    m_MOVING := ⟨PySem.W.mg_of X G aC_MOVING, ⟨tC_MOVING, rfl⟩, fun _ _ => rfl⟩ }
  have T2 : Tx ⟨K, DL.deckDK "cells" "mixed" "turn", false⟩ mg (.int 2) (.int 2 tC_AT_REST) (.int 6) (.int 6 tC_MOVING) := {
    f_is_int := fn0_of X G a0 l0 c0 q0 (fun _ _ _ _ _ _ us hl => match us, hl with | [_], _ => rfl),
    f_is_from := fn0_of X G a1 l1 c1 q1 (fun _ _ _ _ _ _ us hl => match us, hl with | [_, _], _ => rfl),
    f_is_row := fn0_of X G a2 l2 c2 q2 (fun _ _ _ _ _ _ us hl => match us, hl with | [_, _], _ => rfl),
    f_is_fraction_value := fn0_of X G a3 l3 c3 q3 (fun _ _ _ _ _ _ us hl => match us, hl with | [_], _ => rfl),
    f_low := fn0_of X G a4 l4 c4 q4 (fun _ _ _ _ _ _ us hl => match us, hl with | [_, _], _ => rfl),
    f_as_f := fn0_of X G a5 l5 c5 q5 (fun _ _ _ _ _ _ us hl => match us, hl with | [_], _ => rfl),
    f_plus_f := fn0_of X G a6 l6 c6 q6 (fun _ _ _ _ _ _ us hl => match us, hl with | [_, _], _ => rfl),
    f_minus_f := fn0_of X G a7 l7 c7 q7 (fun _ _ _ _ _ _ us hl => match us, hl with | [_, _], _ => rfl),
    f_times_f := fn0_of X G a8 l8 c8 q8 (fun _ _ _ _ _ _ us hl => match us, hl with | [_, _], _ => rfl),
    f_mixed_f := fn0_of X G a9 l9 c9 q9 (fun _ _ _ _ _ _ us hl => match us, hl with | [_, _, _], _ => rfl),
    f_is_path := fn0_of X G a10 l10 c10 q10 (fun _ _ _ _ _ _ us hl => match us, hl with | [_], _ => rfl),
    f_is_trace_value := fn0_of X G a11 l11 c11 q11 (fun _ _ _ _ _ _ us hl => match us, hl with | [_], _ => rfl),
    f_is_due := fn0_of X G a12 l12 c12 q12 (fun _ _ _ _ _ _ us hl => match us, hl with | [_], _ => rfl),
    f_value_in := fn0_of X G a13 l13 c13 q13 (fun _ _ _ _ _ _ us hl => match us, hl with | [_], _ => rfl),
    f_value_at := fn0_of X G a14 l14 c14 q14 (fun _ _ _ _ _ _ us hl => match us, hl with | [_], _ => rfl),
    f_l_deck := fn0_of X G a15 l15 c15 q15 (fun _ _ _ _ _ _ us hl => match us, hl with | [_], _ => rfl),
    f_l_draw := fn0_of X G a16 l16 c16 q16 (fun _ _ _ _ _ _ us hl => match us, hl with | [_, _], _ => rfl),
    f_l_pick := fn0_of X G a17 l17 c17 q17 (fun _ _ _ _ _ _ us hl => match us, hl with | [_, _], _ => rfl),
    f_l_divisor := fn0_of X G a18 l18 c18 q18 (fun _ _ _ _ _ _ us hl => match us, hl with | [_, _], _ => rfl),
    f_l_lowest := fn0_of X G a19 l19 c19 q19 (fun _ _ _ _ _ _ us hl => match us, hl with | [_, _], _ => rfl),
    f_l_value_at := fn0_of X G a20 l20 c20 q20 (fun _ _ _ _ _ _ us hl => match us, hl with | [_], _ => rfl),
    f_l_is_any := fn0_of X G a21 l21 c21 q21 (fun _ _ _ _ _ _ us hl => match us, hl with | [_], _ => rfl),
    f_l_is_integer := fn0_of X G a22 l22 c22 q22 (fun _ _ _ _ _ _ us hl => match us, hl with | [_, _], _ => rfl),
    f_l_is_trace := fn0_of X G a23 l23 c23 q23 (fun _ _ _ _ _ _ us hl => match us, hl with | [_], _ => rfl),
    f_l_told := fn0_of X G a24 l24 c24 q24 (fun _ _ _ _ _ _ us hl => match us, hl with | [_], _ => rfl),
    f_l_fade := fn0_of X G a25 l25 c25 q25 (fun _ _ _ _ _ _ us hl => match us, hl with | [_, _], _ => rfl),
    f_l_otherwise := fn0_of X G a26 l26 c26 q26 (fun _ _ _ _ _ _ us hl => match us, hl with | [_, _], _ => rfl),
    f_l_is_right := fn0_of X G a27 l27 c27 q27 (fun _ _ _ _ _ _ us hl => match us, hl with | [_, _], _ => rfl),
    f_law := fn0_of X G a28 l28 c28 q28 (fun _ _ _ _ _ _ us hl => match us, hl with | [_], _ => rfl),
    z_abs := PySem.W.mg_none_of X G z_abs,
    z_all := PySem.W.mg_none_of X G z_all,
    z_bool := PySem.W.mg_none_of X G z_bool,
    z_int := PySem.W.mg_none_of X G z_int,
    z_isinstance := PySem.W.mg_none_of X G z_isinstance,
    z_len := PySem.W.mg_none_of X G z_len,
    z_list := PySem.W.mg_none_of X G z_list,
    z_max := PySem.W.mg_none_of X G z_max,
    z_min := PySem.W.mg_none_of X G z_min,
    z_range := PySem.W.mg_none_of X G z_range,
    z_repr := PySem.W.mg_none_of X G z_repr,
    z_str := PySem.W.mg_none_of X G z_str,
    z_tuple := PySem.W.mg_none_of X G z_tuple,
    gcd := PySem.W.mg_of X G gc,
    m_AT_REST := ⟨PySem.W.mg_of X G aC_AT_REST, ⟨tC_AT_REST, rfl⟩, fun _ _ => rfl⟩,
    m_MOVING := ⟨PySem.W.mg_of X G aC_MOVING, ⟨tC_MOVING, rfl⟩, fun _ _ => rfl⟩ }
  have Bb0 : BadX.Txt K mg l.prog "BadState" "BadState.__init__" Cb0 Dk fb0 := {
    gC := PySem.W.mg_of X G gCb0,
    cls := ⟨_, _, _, _, _, _, _, _, _, _, _, _, _, _, clsb0⟩, ov := DL.excOver_of clsb0, sa := sab0, tk := tkb0, noN := noNb0, iC := iCb0, tC := tCb0, kC := kCb0, exC := exCb0, exE := exEb0, tyC := tyCb0, hdC := hdCb0, sup := DL.sup_of clsb0 clsD fiD, self := slfb0, opq := opqb0,
    mgS := PySem.W.mg_none_of X G zS, topS := topS, fn := ⟨_, _, _, _, _, _, _, _, _, _, _, _, _, _, _, _, _, _, _, _, _, _, _, _, _, _, _, _, _, _, fnb0, codb0, kcdb0, vfib0, filb0, celb0, posb0⟩ }
  have BCb0 : BadC K mg Cb0 Dk := {
    xf := ⟨gab0, ggb0, exCb0, hdCb0⟩, noN := noNb0, em := DL.exm_self exCb0 isCb0 tyCb0 sCCb0, hcl := isCb0, ha := hab0, hn := hnb0, ht := htb0, hm := hmb0, isD := DL.kit_of isCD tyD sCDb0 }
  have gDk : mg "DeskError" = some (.ref Dk) := PySem.W.mg_of X G gD
  obtain ⟨dr0, dm0, dn0⟩ := rec0
  have tb0 := TA dr0 dm0 f27 cc0 PT0 _ _ _ _ _ _ (by rw [dn0]; exact PySem.W.mg_of X G a27) l27 rfl rfl kc0 vp0
  have hc0 : ∀ f fd, Fun K "_law_is_right" "_law_is_right" s_l_is_right f fd → mg "_law_is_right" = some (.ref f) → fd.code = .ref cc0 := fun f fd F hm => by
    have e1 := hm.symm.trans (PySem.W.mg_of X G a27)
    cases e1
    have e2 := fun_same F l27
    subst e2
    rfl
  refine ⟨PySem.W.fnOf "law" "law" (defArgs s_law) (defBody s_law) (defScope s_law) .none kV28 dc28 pm28 an28 cd28 ct28, [⟨cc0, PT0, qR⟩], sp_law PT0, ?_, ?_, ?_, ?_, fun s v => .of_eq rfl, fun base _ _ TBS => ?_, ?_⟩
  · intro t ht
    simp only [List.mem_cons, List.not_mem_nil, or_false] at ht
    rcases ht with rfl
    · exact tb0.1
  · intro t ht
    simp only [List.mem_cons, List.not_mem_nil, or_false] at ht
    rcases ht with rfl
    · exact np0
  · intro t ht
    simp only [List.mem_cons, List.not_mem_nil, or_false] at ht
    rcases ht with rfl
    · exact tb0.2
  · exact List.nodup_cons.mpr ⟨by simp, List.nodup_nil⟩
  · have TB0 := TBS ⟨cc0, PT0, qR⟩ (by simp)
    have G2_is_int := ok_is_int (P := l.prog) (w := w) (base := base) T2
    have G2_is_from := ok_is_from (P := l.prog) (w := w) (base := base) T2 G2_is_int
    have G2_is_row := ok_is_row (P := l.prog) (w := w) (base := base) T2
    have G2_is_fraction_value := ok_is_fraction_value (P := l.prog) (w := w) (base := base) T2 G2_is_from G2_is_int G2_is_row
    have G2_low := ok_low (P := l.prog) (w := w) (base := base) T2
    have G2_as_f := ok_as_f (P := l.prog) (w := w) (base := base) T2
    have G2_plus_f := ok_plus_f (P := l.prog) (w := w) (base := base) T2 G2_low
    have G2_minus_f := ok_minus_f (P := l.prog) (w := w) (base := base) T2 G2_plus_f
    have G2_times_f := ok_times_f (P := l.prog) (w := w) (base := base) T2 G2_low
    have G2_mixed_f := ok_mixed_f (P := l.prog) (w := w) (base := base) T2 G2_minus_f G2_plus_f G2_times_f
    have G2_is_path := ok_is_path (P := l.prog) (w := w) (base := base) T2 G2_is_from G2_is_int
    have G2_is_trace_value := ok_is_trace_value (P := l.prog) (w := w) (base := base) T2 G2_is_fraction_value G2_is_path G2_is_row
    have G2_is_due := ok_is_due (P := l.prog) (w := w) (base := base) T2
    have G2_value_in := ok_value_in (P := l.prog) (w := w) (base := base) T2 G2_as_f G2_is_due G2_low G2_mixed_f
    have X0 := okX_value_at (P := l.prog) (w := w) (base := base) T2 rfl Bb0 G2_is_trace_value G2_value_in
    have G_is_int := ok_is_int (P := l.prog) (w := w) (base := base) T
    have G_is_from := ok_is_from (P := l.prog) (w := w) (base := base) T G_is_int
    have G_is_row := ok_is_row (P := l.prog) (w := w) (base := base) T
    have G_is_fraction_value := ok_is_fraction_value (P := l.prog) (w := w) (base := base) T G_is_from G_is_int G_is_row
    have G_low := ok_low (P := l.prog) (w := w) (base := base) T
    have G_as_f := ok_as_f (P := l.prog) (w := w) (base := base) T
    have G_plus_f := ok_plus_f (P := l.prog) (w := w) (base := base) T G_low
    have G_minus_f := ok_minus_f (P := l.prog) (w := w) (base := base) T G_plus_f
    have G_times_f := ok_times_f (P := l.prog) (w := w) (base := base) T G_low
    have G_mixed_f := ok_mixed_f (P := l.prog) (w := w) (base := base) T G_minus_f G_plus_f G_times_f
    have G_is_path := ok_is_path (P := l.prog) (w := w) (base := base) T G_is_from G_is_int
    have G_is_trace_value := ok_is_trace_value (P := l.prog) (w := w) (base := base) T G_is_fraction_value G_is_path G_is_row
    have G_is_due := ok_is_due (P := l.prog) (w := w) (base := base) T
    have G_value_in := ok_value_in (P := l.prog) (w := w) (base := base) T G_as_f G_is_due G_low G_mixed_f
    have G_value_at := ok_value_at (P := l.prog) (w := w) (base := base) T G_is_trace_value G_value_in
    have G_l_deck := ok_l_deck (P := l.prog) (w := w) (base := base) T rfl
    have G_l_draw := ok_l_draw (P := l.prog) (w := w) (base := base) T rfl
    have G_l_pick := ok_l_pick (P := l.prog) (w := w) (base := base) T G_l_draw
    have G_l_divisor := ok_l_divisor (P := l.prog) (w := w) (base := base) T
    have G_l_lowest := ok_l_lowest (P := l.prog) (w := w) (base := base) T G_l_divisor
    have G_l_value_at := ok_l_value_at (P := l.prog) (w := w) (base := base) T G_l_lowest
    have G_l_is_any := ok_l_is_any (P := l.prog) (w := w) (base := base) T
    have G_l_is_integer := ok_l_is_integer (P := l.prog) (w := w) (base := base) T G_l_is_any
    have G_l_is_trace := ok_l_is_trace (P := l.prog) (w := w) (base := base) T G_l_divisor G_l_is_any G_l_is_integer
    have G_l_fade := ok_l_fade (P := l.prog) (w := w) (base := base) T G_l_draw G_l_pick
    have G_l_otherwise := ok_l_otherwise (P := l.prog) (w := w) (base := base) T G_l_draw G_l_pick
    have G_l_is_right := ok_l_is_right (P := l.prog) (w := w) (base := base) T rfl deckDK_nt Bb0 BCb0 gDk TB0 hc0 (PySem.W.mg_none_of X G z_isinstance) X0 G_value_at G_l_otherwise G_l_is_trace G_l_value_at G_l_draw
    have G_law := ok_law (P := l.prog) (w := w) (base := base) T G_l_deck G_l_draw G_l_pick G_l_lowest G_l_fade G_l_is_right G_l_value_at
    obtain ⟨f, fd, h1, h2, _, h4⟩ := G_law.ex
    have e2 := h2.symm.trans hfa
    cases e2
    have e3 := fun_same h1 l28
    subst e3
    exact h4
  · exact fun ns hn R hR => ⟨ns, rfl, hn, ⟨0, rfl⟩, fun mu => hR mu⟩
end My
open PySem PySem.W PyProof.Rows in
set_option maxRecDepth 100000 in
set_option maxHeartbeats 0 in
theorem PySem.Challenge.cw_darkmoves_k14_values_of_cut_fades_holds : PySem.Challenge.rw_darkmoves_k14_values_of_cut_fades.Holds := by
  w_on; o_law; k_head; (case hw => w_witness2)
  k_fill
  refine DL.walk_DT (l := PySem.Challenge.rw_darkmoves_k14_values_of_cut_fades) (DK := DL.deckDK "cells" "mixed" "turn") (x := "script") (n := 63) (r := 10) rfl (by decide) rfl ⟨rfl, by decide, by decide⟩ (fun w h Y => PySem.W.km_in_of Y) ?F
  case F =>
    intro w mg fa h KX G hmg TA
    refine' My.all_mk KX G hmg TA (a0 := ?a0) (l0 := ?l0) (c0 := ?c0) (q0 := ?q0) (a1 := ?a1) (l1 := ?l1) (c1 := ?c1) (q1 := ?q1) (a2 := ?a2) (l2 := ?l2) (c2 := ?c2) (q2 := ?q2) (a3 := ?a3) (l3 := ?l3) (c3 := ?c3) (q3 := ?q3) (a4 := ?a4) (l4 := ?l4) (c4 := ?c4) (q4 := ?q4) (a5 := ?a5) (l5 := ?l5) (c5 := ?c5) (q5 := ?q5) (a6 := ?a6) (l6 := ?l6) (c6 := ?c6) (q6 := ?q6) (a7 := ?a7) (l7 := ?l7) (c7 := ?c7) (q7 := ?q7) (a8 := ?a8) (l8 := ?l8) (c8 := ?c8) (q8 := ?q8) (a9 := ?a9) (l9 := ?l9) (c9 := ?c9) (q9 := ?q9) (a10 := ?a10) (l10 := ?l10) (c10 := ?c10) (q10 := ?q10) (a11 := ?a11) (l11 := ?l11) (c11 := ?c11) (q11 := ?q11) (a12 := ?a12) (l12 := ?l12) (c12 := ?c12) (q12 := ?q12) (a13 := ?a13) (l13 := ?l13) (c13 := ?c13) (q13 := ?q13) (a14 := ?a14) (l14 := ?l14) (c14 := ?c14) (q14 := ?q14) (a15 := ?a15) (l15 := ?l15) (c15 := ?c15) (q15 := ?q15) (a16 := ?a16) (l16 := ?l16) (c16 := ?c16) (q16 := ?q16) (a17 := ?a17) (l17 := ?l17) (c17 := ?c17) (q17 := ?q17) (a18 := ?a18) (l18 := ?l18) (c18 := ?c18) (q18 := ?q18) (a19 := ?a19) (l19 := ?l19) (c19 := ?c19) (q19 := ?q19) (a20 := ?a20) (l20 := ?l20) (c20 := ?c20) (q20 := ?q20) (a21 := ?a21) (l21 := ?l21) (c21 := ?c21) (q21 := ?q21) (a22 := ?a22) (l22 := ?l22) (c22 := ?c22) (q22 := ?q22) (a23 := ?a23) (l23 := ?l23) (c23 := ?c23) (q23 := ?q23) (a24 := ?a24) (l24 := ?l24) (c24 := ?c24) (q24 := ?q24) (a25 := ?a25) (l25 := ?l25) (c25 := ?c25) (q25 := ?q25) (a26 := ?a26) (l26 := ?l26) (c26 := ?c26) (q26 := ?q26) (a27 := ?a27) (l27 := ?l27) (c27 := ?c27) (q27 := ?q27) (kc0 := ?kc0) (vp0 := ?vp0) (np0 := ?np0) (a28 := ?a28) (l28 := ?l28) (c28 := ?c28) (q28 := ?q28) (z_abs := ?z_abs) (z_all := ?z_all) (z_bool := ?z_bool) (z_int := ?z_int) (z_isinstance := ?z_isinstance) (z_len := ?z_len) (z_list := ?z_list) (z_max := ?z_max) (z_min := ?z_min) (z_range := ?z_range) (z_repr := ?z_repr) (z_str := ?z_str) (z_tuple := ?z_tuple) (gc := ?gc) (aC_AT_REST := ?aC_AT_REST) (aC_MOVING := ?aC_MOVING) (gCb0 := ?gCb0) (clsb0 := ?clsb0) (sab0 := ?sab0) (tkb0 := ?tkb0) (noNb0 := ?noNb0) (iCb0 := ?iCb0) (tCb0 := ?tCb0) (kCb0 := ?kCb0) (exCb0 := ?exCb0) (exEb0 := ?exEb0) (tyCb0 := ?tyCb0) (hdCb0 := ?hdCb0) (slfb0 := ?slfb0) (opqb0 := ?opqb0) (fnb0 := ?fnb0) (codb0 := ?codb0) (kcdb0 := ?kcdb0) (vfib0 := ?vfib0) (filb0 := ?filb0) (celb0 := ?celb0) (posb0 := ?posb0) (gab0 := ?gab0) (ggb0 := ?ggb0) (isCb0 := ?isCb0) (sCCb0 := ?sCCb0) (hab0 := ?hab0) (hnb0 := ?hnb0) (htb0 := ?htb0) (hmb0 := ?hmb0) (sCDb0 := ?sCDb0) (clsD := ?clsD) (fiD := ?fiD) (isCD := ?isCD) (tyD := ?tyD) (gD := ?gD) (zS := ?zS) (topS := ?topS) (rec0 := ?rec0)
    (case a0 => k_is)
    (case l0 => k_is)
    (case c0 => k_is)
    (case q0 => k_is)
    (case a1 => k_is)
    (case l1 => k_is)
    (case c1 => k_is)
    (case q1 => k_is)
    (case a2 => k_is)
    (case l2 => k_is)
    (case c2 => k_is)
    (case q2 => k_is)
    (case a3 => k_is)
    (case l3 => k_is)
    (case c3 => k_is)
    (case q3 => k_is)
    (case a4 => k_is)
    (case l4 => k_is)
    (case c4 => k_is)
    (case q4 => k_is)
    (case a5 => k_is)
    (case l5 => k_is)
    (case c5 => k_is)
    (case q5 => k_is)
    (case a6 => k_is)
    (case l6 => k_is)
    (case c6 => k_is)
    (case q6 => k_is)
    (case a7 => k_is)
    (case l7 => k_is)
    (case c7 => k_is)
    (case q7 => k_is)
    (case a8 => k_is)
    (case l8 => k_is)
    (case c8 => k_is)
    (case q8 => k_is)
    (case a9 => k_is)
    (case l9 => k_is)
    (case c9 => k_is)
    (case q9 => k_is)
    (case a10 => k_is)
    (case l10 => k_is)
    (case c10 => k_is)
    (case q10 => k_is)
    (case a11 => k_is)
    (case l11 => k_is)
    (case c11 => k_is)
    (case q11 => k_is)
    (case a12 => k_is)
    (case l12 => k_is)
    (case c12 => k_is)
    (case q12 => k_is)
    (case a13 => k_is)
    (case l13 => k_is)
    (case c13 => k_is)
    (case q13 => k_is)
    (case a14 => k_is)
    (case l14 => k_is)
    (case c14 => k_is)
    (case q14 => k_is)
    (case a15 => k_is)
    (case l15 => k_is)
    (case c15 => k_is)
    (case q15 => k_is)
    (case a16 => k_is)
    (case l16 => k_is)
    (case c16 => k_is)
    (case q16 => k_is)
    (case a17 => k_is)
    (case l17 => k_is)
    (case c17 => k_is)
    (case q17 => k_is)
    (case a18 => k_is)
    (case l18 => k_is)
    (case c18 => k_is)
    (case q18 => k_is)
    (case a19 => k_is)
    (case l19 => k_is)
    (case c19 => k_is)
    (case q19 => k_is)
    (case a20 => k_is)
    (case l20 => k_is)
    (case c20 => k_is)
    (case q20 => k_is)
    (case a21 => k_is)
    (case l21 => k_is)
    (case c21 => k_is)
    (case q21 => k_is)
    (case a22 => k_is)
    (case l22 => k_is)
    (case c22 => k_is)
    (case q22 => k_is)
    (case a23 => k_is)
    (case l23 => k_is)
    (case c23 => k_is)
    (case q23 => k_is)
    (case a24 => k_is)
    (case l24 => k_is)
    (case c24 => k_is)
    (case q24 => k_is)
    (case a25 => k_is)
    (case l25 => k_is)
    (case c25 => k_is)
    (case q25 => k_is)
    (case a26 => k_is)
    (case l26 => k_is)
    (case c26 => k_is)
    (case q26 => k_is)
    (case a27 => k_is)
    (case l27 => k_is)
    (case c27 => k_is)
    (case q27 => k_is)
    (case kc0 => k_is)
    (case vp0 => first | k_is | rfl | kernel_rfl | decide +kernel)
    (case np0 => first | k_is | rfl | kernel_rfl | decide +kernel)
    (case a28 => k_is)
    (case l28 => k_is)
    (case c28 => k_is)
    (case q28 => k_is)
    (case z_abs => k_is)
    (case z_all => k_is)
    (case z_bool => k_is)
    (case z_int => k_is)
    (case z_isinstance => k_is)
    (case z_len => k_is)
    (case z_list => k_is)
    (case z_max => k_is)
    (case z_min => k_is)
    (case z_range => k_is)
    (case z_repr => k_is)
    (case z_str => k_is)
    (case z_tuple => k_is)
    (case gc => k_is)
    (case aC_AT_REST => k_is)
    (case aC_MOVING => k_is)
    (case gCb0 => k_is)
    (case clsb0 => k_is)
    (case sab0 => k_is)
    (case tkb0 => k_is)
    (case noNb0 => k_is)
    (case iCb0 => k_is)
    (case tCb0 => k_is)
    (case kCb0 => k_is)
    (case exCb0 => k_is)
    (case exEb0 => k_is)
    (case tyCb0 => k_is)
    (case hdCb0 => k_is)
    (case slfb0 => k_is)
    (case opqb0 => k_is)
    (case fnb0 => k_is)
    (case codb0 => k_is)
    (case kcdb0 => k_is)
    (case vfib0 => first | k_is | rfl | kernel_rfl | decide +kernel)
    (case filb0 => first | k_is | rfl | kernel_rfl | decide +kernel)
    (case celb0 => k_is)
    (case posb0 => first | k_is | rfl | kernel_rfl | decide +kernel)
    (case gab0 => k_is)
    (case ggb0 => k_is)
    (case isCb0 => k_is)
    (case sCCb0 => k_is)
    (case hab0 => k_is)
    (case hnb0 => k_is)
    (case htb0 => k_is)
    (case hmb0 => k_is)
    (case sCDb0 => k_is)
    (case clsD => k_is)
    (case fiD => k_is)
    (case isCD => k_is)
    (case tyD => k_is)
    (case gD => k_is)
    (case zS => k_is)
    (case topS => first | k_is | rfl | kernel_rfl | decide +kernel)
    (case rec0 => exact DL.rec_of (by decide +kernel))
#print axioms PySem.Challenge.cw_darkmoves_k14_values_of_cut_fades_holds

