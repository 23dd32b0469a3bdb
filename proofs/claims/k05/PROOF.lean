import PyProof.Rows.All
import Wide.All
import OpenK.AllK
import Wide.FinOn
import HandS.ForMost
import HandS.Conv
import HandS.Codes
import HandS.IsInst
import HandS.Gcd
import HandS.Wide
import HandS.Flow
import HandS.Strs
import HandS.SortInts
import HandS.Walk
import HandS.TupAny
import HandS.TupLe
import HandS.TupMul
import HandS.Style
import HandS.NoneIn
import HandS.Deep
import KE.KSortedM
import HandS.Zip
import HandS.More
import KE.DataCmp
import KE.DataMinMax
import KE.SortData
import KE.GoesMore
import HandS.Iter
import PySem.Challenge.RW_flagfloors_k05_whole_least_one
set_option Elab.async false
set_option linter.all false
set_option maxRecDepth 100000
set_option maxHeartbeats 4000000
/-! Fl: a value-semantics layer over HandS. Slots hold pure data (PyData) or own mutable objects; what a def computes is a partial function on slots. -/
namespace Fl
open PySem L2

abbrev D := PyData

/-! ### data in the heap -/
theorem rd_mono {H H' : Hp} {a : Addr} {u : HO} (e : Same H H') (h : Rd H a u) : Rd H' a u := by
  rcases h with h | ⟨o, h⟩
  · exact .inl (e _ _ h)
  · exact .inr ⟨o, e _ _ h⟩
theorem sql_mono {K : PySem.W.Frag} {H H' : Hp} {a : Addr} {xs : List V} (e : Same H H') (h : SqL K H a xs) : SqL K H' a xs := by
  rcases h with h | h
  · exact .inl (rd_mono e h)
  · exact .inr h
theorem sqt_mono {K : PySem.W.Frag} {H H' : Hp} {a : Addr} {xs : List V} (e : Same H H') (h : SqT K H a xs) : SqT K H' a xs := by
  rcases h with h | h
  · exact .inl (rd_mono e h)
  · exact .inr h
mutual
theorem dp_mono {K : PySem.W.Frag} {H H' : Hp} (e : Same H H') : ∀ {v : V} {d : D}, Dp K H v d → Dp K H' v d
  | _, _, .non => .non
  | _, _, .bl b => .bl b
  | _, _, .int i => .int i
  | _, _, .str x => .str x
  | _, _, .lst h r => .lst (sql_mono e h) (dps_mono e r)
  | _, _, .tup h r => .tup (sqt_mono e h) (dps_mono e r)
theorem dps_mono {K : PySem.W.Frag} {H H' : Hp} (e : Same H H') : ∀ {vs : List V} {ds : List D}, DpAll K H vs ds → DpAll K H' vs ds
  | _, _, .nil => .nil
  | _, _, .cons h r => .cons (dp_mono e h) (dps_mono e r)
end
section
variable {K : PySem.W.Frag} {H : Hp}
theorem dps_length : ∀ {vs : List V} {ds : List D}, DpAll K H vs ds → vs.length = ds.length
  | _, _, .nil => rfl
  | _, _, .cons _ r => by rw [List.length_cons, List.length_cons, dps_length r]
theorem dps_get : ∀ {vs : List V} {ds : List D} {i : Nat} {d : D}, DpAll K H vs ds → ds[i]? = some d → ∃ v, vs[i]? = some v ∧ Dp K H v d
  | _, _, i, d, .nil, h => by simp at h
  | _, _, 0, d, .cons (v := v) h r, e => ⟨v, rfl, by simp at e; subst e; exact h⟩
  | _, _, i + 1, d, .cons h r, e => by
    obtain ⟨v, a, b⟩ := dps_get (i := i) (d := d) r (by simpa using e)
    exact ⟨v, by simpa using a, b⟩
theorem dps_get' : ∀ {vs : List V} {ds : List D} {i : Nat} {v : V}, DpAll K H vs ds → vs[i]? = some v → ∃ d, ds[i]? = some d ∧ Dp K H v d
  | _, _, i, v, .nil, h => by simp at h
  | _, _, 0, v, .cons (d := d) h r, e => ⟨d, rfl, by simp at e; subst e; exact h⟩
  | _, _, i + 1, v, .cons h r, e => by
    obtain ⟨d, a, b⟩ := dps_get' (i := i) (v := v) r (by simpa using e)
    exact ⟨d, by simpa using a, b⟩
theorem dps_append : ∀ {vs us : List V} {ds es : List D}, DpAll K H vs ds → DpAll K H us es → DpAll K H (vs ++ us) (ds ++ es)
  | _, _, _, _, .nil, s => s
  | _, _, _, _, .cons h r, s => .cons h (dps_append r s)
theorem dps_take : ∀ {vs : List V} {ds : List D} (n : Nat), DpAll K H vs ds → DpAll K H (vs.take n) (ds.take n)
  | _, _, 0, _ => .nil
  | _, _, _ + 1, .nil => .nil
  | _, _, n + 1, .cons h r => .cons h (dps_take n r)
theorem dps_drop : ∀ {vs : List V} {ds : List D} (n : Nat), DpAll K H vs ds → DpAll K H (vs.drop n) (ds.drop n)
  | _, _, 0, r => r
  | _, _, _ + 1, .nil => .nil
  | _, _, n + 1, .cons h r => dps_drop n r
theorem dps_set : ∀ {vs : List V} {ds : List D} (n : Nat) {v : V} {d : D}, DpAll K H vs ds → Dp K H v d → DpAll K H (vs.set n v) (ds.set n d)
  | _, _, _, _, _, .nil, _ => .nil
  | _, _, 0, _, _, .cons _ r, h => .cons h r
  | _, _, n + 1, _, _, .cons h r, k => .cons h (dps_set n r k)
theorem dps_ints : ∀ (ns : List Int), DpAll K H (ns.map V.int) (ns.map PyData.int)
  | [] => .nil
  | n :: ns => .cons (.int n) (dps_ints ns)
theorem dps_ints_inv : ∀ {vs : List V} {ns : List Int}, DpAll K H vs (ns.map PyData.int) → vs = ns.map V.int
  | _, [], .nil => rfl
  | _, n :: ns, .cons h r => by
    cases h
    rw [dps_ints_inv r]; rfl
theorem dps_reverse : ∀ {vs : List V} {ds : List D}, DpAll K H vs ds → DpAll K H vs.reverse ds.reverse
  | _, _, .nil => .nil
  | _, _, .cons h r => by
    rw [List.reverse_cons, List.reverse_cons]
    exact dps_append (dps_reverse r) (.cons h .nil)
end

/-! ### own objects -/
inductive O where
  | lst (l : List D)
  | dct (l : List (Key × D))
  | set (l : List Int)
  | rows (l : List (List D))

inductive KDp (K : PySem.W.Frag) (B : Hp) : List (Key × V) → List (Key × D) → Prop
  | nil : KDp K B [] []
  | cons {k : Key} {v : V} {d : D} {kvs : List (Key × V)} {ds : List (Key × D)} : Dp K B v d → KDp K B kvs ds → KDp K B ((k, v) :: kvs) ((k, d) :: ds)
inductive Rows (K : PySem.W.Frag) (B H : Hp) : List Addr → List (List D) → Prop
  | nil : Rows K B H [] []
  | cons {b : Addr} {vs : List V} {ds : List D} {bs : List Addr} {ls : List (List D)} : H b = some (.lst vs) → DpAll K B vs ds → Rows K B H bs ls → Rows K B H (b :: bs) (ds :: ls)
/-- an own object with the addresses that it owns -/
inductive OwnR (w : World) (K : PySem.W.Frag) (B H : Hp) : V → O → List Addr → Prop
  | lst {a : Addr} {vs : List V} {ds : List D} : H a = some (.lst vs) → DpAll K B vs ds → OwnR w K B H (.ref a) (.lst ds) [a]
  | dct {a : Addr} {kvs : List (Key × V)} {ds : List (Key × D)} : H a = some (.dK kvs) → KDp K B kvs ds → OwnR w K B H (.ref a) (.dct ds) [a]
  | set {a : Addr} {S : Int → Bool} {n : Nat} {l : List Int} : H a = some (SetO w a S n) → (∀ k, S k = true ↔ k ∈ l) → n = l.length → OwnR w K B H (.ref a) (.set l) [a]
  | rows {a : Addr} {bs : List Addr} {ls : List (List D)} : H a = some (.lst (bs.map V.ref)) → Rows K B H bs ls → OwnR w K B H (.ref a) (.rows ls) (a :: bs)

/-! ### slots -/
inductive Sl where
  | un
  | im (d : D)
  | ow (o : O)
  | mu (o : O)
/-- a result: data, a fresh own object, a place -/
inductive Rs where
  | im (d : D)
  | fr (o : O)
  | pl (i : Nat)

inductive SlR (w : World) (K : PySem.W.Frag) (B H : Hp) : Option V → Sl → List Addr → Prop
  | un {x : Option V} : SlR w K B H x .un []
  | im {v : V} {d : D} : Dp K B v d → SlR w K B H (some v) (.im d) []
  | ow {v : V} {o : O} {As : List Addr} : OwnR w K B H v o As → SlR w K B H (some v) (.ow o) As
  | mu {v : V} {o : O} {As : List Addr} : OwnR w K B H v o As → SlR w K B H (some v) (.mu o) As
inductive SR (w : World) (K : PySem.W.Frag) (B H : Hp) : L2.St → List Sl → List Addr → Prop
  | nil : SR w K B H [] [] []
  | cons {x : Option V} {s : Sl} {As A : List Addr} {σ : L2.St} {S : List Sl} : SlR w K B H x s As → SR w K B H σ S A → SR w K B H (x :: σ) (s :: S) (As ++ A)
inductive RR (w : World) (K : PySem.W.Frag) (σ : L2.St) (B H : Hp) : V → Rs → List Addr → Prop
  | im {v : V} {d : D} : Dp K B v d → RR w K σ B H v (.im d) []
  | fr {v : V} {o : O} {As : List Addr} : OwnR w K B H v o As → RR w K σ B H v (.fr o) As
  | pl {v : V} {i : Nat} : σ[i]? = some (some v) → RR w K σ B H v (.pl i) []
inductive RRs (w : World) (K : PySem.W.Frag) (σ : L2.St) (B H : Hp) : List V → List Rs → List Addr → Prop
  | nil : RRs w K σ B H [] [] []
  | cons {v : V} {r : Rs} {As A : List Addr} {vs : List V} {rs : List Rs} : RR w K σ B H v r As → RRs w K σ B H vs rs A → RRs w K σ B H (v :: vs) (r :: rs) (As ++ A)

/-- what is tracked at the addresses stays -/
def Keep (A : List Addr) (H H' : Hp) : Prop := ∀ a ∈ A, ∀ o, H a = some o → H' a = some o
theorem Keep.sub {A A' : List Addr} {H H' : Hp} (k : Keep A H H') (h : ∀ a ∈ A', a ∈ A) : Keep A' H H' := fun a ha => k a (h a ha)
theorem Keep.of {A : List Addr} {H H' : Hp} (e : Same H H') : Keep A H H' := fun a _ o h => e a o h
section
variable {w : World} {K : PySem.W.Frag} {B B' H H' : Hp}
theorem kdp_mono (e : Same B B') : ∀ {kvs : List (Key × V)} {ds : List (Key × D)}, KDp K B kvs ds → KDp K B' kvs ds
  | _, _, .nil => .nil
  | _, _, .cons h r => .cons (dp_mono e h) (kdp_mono e r)
theorem kdp_length : ∀ {kvs : List (Key × V)} {ds : List (Key × D)}, KDp K B kvs ds → kvs.length = ds.length
  | _, _, .nil => rfl
  | _, _, .cons _ r => by rw [List.length_cons, List.length_cons, kdp_length r]
theorem rows_step (e : Same B B') : ∀ {bs : List Addr} {ls : List (List D)}, Keep bs H H' → Rows K B H bs ls → Rows K B' H' bs ls
  | _, _, _, .nil => .nil
  | _, _, k, .cons h d r => .cons (k _ List.mem_cons_self _ h) (dps_mono e d) (rows_step e (k.sub fun a ha => List.mem_cons_of_mem _ ha) r)
theorem rows_tracked : ∀ {bs : List Addr} {ls : List (List D)}, Rows K B H bs ls → ∀ a ∈ bs, ∃ o, H a = some o
  | _, _, .nil, a, h => by simp at h
  | _, _, .cons h d r, a, ha => by
    rcases List.mem_cons.mp ha with e | ha
    · subst e; exact ⟨_, h⟩
    · exact rows_tracked r a ha
theorem OwnR.step {v : V} {o : O} {As : List Addr} (e : Same B B') (k : Keep As H H') (h : OwnR w K B H v o As) : OwnR w K B' H' v o As := by
  cases h with
  | lst h d => exact .lst (k _ (by simp) _ h) (dps_mono e d)
  | dct h d => exact .dct (k _ (by simp) _ h) (kdp_mono e d)
  | set h d n => exact .set (k _ (by simp) _ h) d n
  | rows h d => exact .rows (k _ (by simp) _ h) (rows_step e (k.sub fun a ha => List.mem_cons_of_mem _ ha) d)
theorem OwnR.tracked {v : V} {o : O} {As : List Addr} (h : OwnR w K B H v o As) : ∀ a ∈ As, ∃ u, H a = some u := by
  cases h with
  | lst h d => intro a ha; simp at ha; subst ha; exact ⟨_, h⟩
  | dct h d => intro a ha; simp at ha; subst ha; exact ⟨_, h⟩
  | set h d n => intro a ha; simp at ha; subst ha; exact ⟨_, h⟩
  | rows h d =>
    intro a ha
    rcases List.mem_cons.mp ha with e | ha
    · subst e; exact ⟨_, h⟩
    · exact rows_tracked d a ha
theorem SlR.step {x : Option V} {s : Sl} {As : List Addr} (e : Same B B') (k : Keep As H H') (h : SlR w K B H x s As) : SlR w K B' H' x s As := by
  cases h with
  | un => exact .un
  | im h => exact .im (dp_mono e h)
  | ow h => exact .ow (h.step e k)
  | mu h => exact .mu (h.step e k)
theorem SlR.tracked {x : Option V} {s : Sl} {As : List Addr} (h : SlR w K B H x s As) : ∀ a ∈ As, ∃ u, H a = some u := by
  cases h with
  | un => intro a ha; simp at ha
  | im h => intro a ha; simp at ha
  | ow h => exact h.tracked
  | mu h => exact h.tracked
theorem SR.step (e : Same B B') : ∀ {σ : L2.St} {S : List Sl} {A : List Addr}, Keep A H H' → SR w K B H σ S A → SR w K B' H' σ S A
  | _, _, _, _, .nil => .nil
  | _, _, _, k, .cons h r => .cons (h.step e (k.sub fun a ha => List.mem_append_left _ ha)) (SR.step e (k.sub fun a ha => List.mem_append_right _ ha) r)
theorem SR.tracked : ∀ {σ : L2.St} {S : List Sl} {A : List Addr}, SR w K B H σ S A → ∀ a ∈ A, ∃ u, H a = some u
  | _, _, _, .nil, a, h => by simp at h
  | _, _, _, .cons h r, a, ha => by
    rcases List.mem_append.mp ha with ha | ha
    · exact h.tracked a ha
    · exact SR.tracked r a ha
theorem SR.length : ∀ {σ : L2.St} {S : List Sl} {A : List Addr}, SR w K B H σ S A → σ.length = S.length
  | _, _, _, .nil => rfl
  | _, _, _, .cons h r => by rw [List.length_cons, List.length_cons, SR.length r]
/-- the slot i: its relation, and what may be put in its place -/
theorem SR.at : ∀ {σ : L2.St} {S : List Sl} {A : List Addr} {i : Nat} {s : Sl}, SR w K B H σ S A → S[i]? = some s → ∃ (x : Option V) (A1 As A2 : List Addr), A = A1 ++ (As ++ A2) ∧ σ[i]? = some x ∧ SlR w K B H x s As ∧
    ∀ {B' H' : Hp} {x' : Option V} {s' : Sl} {As' : List Addr}, Same B B' → Keep (A1 ++ A2) H H' → SlR w K B' H' x' s' As' → SR w K B' H' (σ.set i x') (S.set i s') (A1 ++ (As' ++ A2))
  | _, _, _, i, s, .nil, h => by simp at h
  | _, _, _, 0, s, .cons (x := x) (As := As) (A := A) h r, e => by
    simp at e; subst e
    refine ⟨x, [], As, A, rfl, rfl, h, fun {B' H' x' s' As'} e k q => ?_⟩
    have z := SR.cons q (r.step e (k.sub fun a ha => by simpa using ha))
    exact z
  | _, _, _, i + 1, s, .cons (As := As0) h r, e => by
    obtain ⟨x, A1, As, A2, eA, es, q, f⟩ := SR.at (i := i) (s := s) r (by simpa using e)
    refine ⟨x, As0 ++ A1, As, A2, by rw [eA, List.append_assoc], by simpa using es, q, fun {B' H' x' s' As'} e k q' => ?_⟩
    have h1 := h.step e (k.sub fun a ha => by simp [ha])
    have h2 := f e (k.sub fun a ha => by
      rcases List.mem_append.mp ha with z | z
      · simp [z]
      · simp [z]) q'
    have h3 := SR.cons h1 h2
    rw [List.append_assoc]
    exact h3
theorem RR.step {σ : L2.St} {v : V} {r : Rs} {As : List Addr} (e : Same B B') (k : Keep As H H') (h : RR w K σ B H v r As) : RR w K σ B' H' v r As := by
  cases h with
  | im h => exact .im (dp_mono e h)
  | fr h => exact .fr (h.step e k)
  | pl h => exact .pl h
theorem RR.tracked {σ : L2.St} {v : V} {r : Rs} {As : List Addr} (h : RR w K σ B H v r As) : ∀ a ∈ As, ∃ u, H a = some u := by
  cases h with
  | im h => intro a ha; simp at ha
  | fr h => exact h.tracked
  | pl h => intro a ha; simp at ha
theorem RRs.step {σ : L2.St} (e : Same B B') : ∀ {vs : List V} {rs : List Rs} {A : List Addr}, Keep A H H' → RRs w K σ B H vs rs A → RRs w K σ B' H' vs rs A
  | _, _, _, _, .nil => .nil
  | _, _, _, k, .cons h r => .cons (h.step e (k.sub fun a ha => List.mem_append_left _ ha)) (RRs.step e (k.sub fun a ha => List.mem_append_right _ ha) r)
theorem RRs.tracked {σ : L2.St} : ∀ {vs : List V} {rs : List Rs} {A : List Addr}, RRs w K σ B H vs rs A → ∀ a ∈ A, ∃ u, H a = some u
  | _, _, _, .nil, a, h => by simp at h
  | _, _, _, .cons h r, a, ha => by
    rcases List.mem_append.mp ha with ha | ha
    · exact h.tracked a ha
    · exact RRs.tracked r a ha
end

/-! ### a step of the heap -/
structure Ok (A : List Addr) (B H : Hp) : Prop where
  sub : Same B H
  nd : A.Nodup
  off : ∀ a ∈ A, B a = none
structure Step (A : List Addr) (B H : Hp) (A' : List Addr) (B' H' : Hp) : Prop where
  fr : ∀ a o, H a = some o → a ∉ A → H' a = some o
  bx : Same B B'
  bn : ∀ a o, B' a = some o → B a = some o ∨ H a = none ∨ a ∈ A
  an : ∀ a ∈ A', a ∈ A ∨ H a = none
theorem Step.refl {A : List Addr} {B H : Hp} : Step A B H A B H := ⟨fun _ _ h _ => h, Same.refl B, fun _ _ h => .inl h, fun _ h => .inl h⟩
theorem Step.trans {A A1 A2 : List Addr} {B B1 B2 H H1 H2 : Hp} (s : Step A B H A1 B1 H1) (t : Step A1 B1 H1 A2 B2 H2) : Step A B H A2 B2 H2 := by
  have key : ∀ a, H1 a = none → H a = none ∨ a ∈ A := fun a h => by
    by_cases ha : a ∈ A
    · exact .inr ha
    · cases q : H a with
      | none => exact .inl rfl
      | some o => rw [s.fr a o q ha] at h; cases h
  refine ⟨fun a o h ha => ?_, s.bx.trans t.bx, fun a o h => ?_, fun a h => ?_⟩
  · have n1 : a ∉ A1 := fun z => by
      rcases s.an a z with z | z
      · exact ha z
      · rw [h] at z; cases z
    exact t.fr a o (s.fr a o h ha) n1
  · rcases t.bn a o h with h | h | h
    · exact s.bn a o h
    · exact .inr (key a h)
    · rcases s.an a h with z | z
      · exact .inr (.inr z)
      · exact .inr (.inl z)
  · rcases t.an a h with h | h
    · exact s.an a h
    · exact (key a h).symm
theorem Step.sub {A A' A'' : List Addr} {B B' H H' : Hp} (s : Step A B H A' B' H') (h : ∀ a ∈ A'', a ∈ A') : Step A B H A'' B' H' := ⟨s.fr, s.bx, s.bn, fun a ha => s.an a (h a ha)⟩
theorem Ok.sub' {A A' : List Addr} {B H : Hp} (o : Ok A B H) (nd : A'.Nodup) (h : ∀ a ∈ A', a ∈ A) : Ok A' B H := ⟨o.sub, nd, fun a ha => o.off a (h a ha)⟩
theorem Ok.right {F A : List Addr} {B H : Hp} (o : Ok (F ++ A) B H) : Ok A B H := ⟨o.sub, (List.nodup_append.mp o.nd).2.1, fun a ha => o.off a (List.mem_append_right _ ha)⟩
theorem Ok.left {F A : List Addr} {B H : Hp} (o : Ok (F ++ A) B H) : Ok F B H := ⟨o.sub, (List.nodup_append.mp o.nd).1, fun a ha => o.off a (List.mem_append_left _ ha)⟩
theorem Ok.disj {F A : List Addr} {B H : Hp} (o : Ok (F ++ A) B H) {a : Addr} (h : a ∈ F) : a ∉ A := fun z => (List.nodup_append.mp o.nd).2.2 a h a z rfl
/-- objects that wait beside a step -/
theorem pend {F A1 A2 : List Addr} {B1 B2 H1 H2 : Hp} (o : Ok (F ++ A1) B1 H1) (s : Step A1 B1 H1 A2 B2 H2) (o2 : Ok A2 B2 H2) (tr : ∀ a ∈ F, ∃ u, H1 a = some u) :
    Ok (F ++ A2) B2 H2 ∧ Step (F ++ A1) B1 H1 (F ++ A2) B2 H2 ∧ Keep F H1 H2 := by
  have nin : ∀ a ∈ F, a ∉ A1 := fun a ha => o.disj ha
  have nin2 : ∀ a ∈ F, a ∉ A2 := fun a ha z => by
    rcases s.an a z with z | z
    · exact nin a ha z
    · obtain ⟨u, e⟩ := tr a ha
      rw [e] at z; cases z
  refine ⟨⟨o2.sub, List.nodup_append.mpr ⟨(List.nodup_append.mp o.nd).1, o2.nd, fun a ha b hb e => ?_⟩, fun a ha => ?_⟩, ⟨fun a u h n => ?_, s.bx, fun a u h => ?_, fun a ha => ?_⟩, fun a ha u h => ?_⟩
  · subst e; exact nin2 a ha hb
  · rcases List.mem_append.mp ha with z | z
    · cases q : B2 a with
      | none => rfl
      | some u =>
        rcases s.bn a u q with h | h | h
        · rw [o.off a (List.mem_append_left _ z)] at h; cases h
        · obtain ⟨u', e⟩ := tr a z
          rw [e] at h; cases h
        · exact absurd h (nin a z)
    · exact o2.off a z
  · exact s.fr a u h fun z => n (List.mem_append_right _ z)
  · rcases s.bn a u h with h | h | h
    · exact .inl h
    · exact .inr (.inl h)
    · exact .inr (.inr (List.mem_append_right _ h))
  · rcases List.mem_append.mp ha with z | z
    · exact .inl (List.mem_append_left _ z)
    · rcases s.an a z with z | z
      · exact .inl (List.mem_append_right _ z)
      · exact .inr z
  · exact s.fr a u h (nin a ha)
/-- a new object of the base -/
theorem step_newB {A : List Addr} {B H : Hp} {p : Addr} {o : HO} (k : Ok A B H) (hp : H p = none) (tr : ∀ a ∈ A, ∃ u, H a = some u) : Ok A (upd B p o) (upd H p o) ∧ Step A B H A (upd B p o) (upd H p o) := by
  have bp : B p = none := by
    cases q : B p with
    | none => rfl
    | some u => rw [k.sub p u q] at hp; cases hp
  have pA : ∀ a ∈ A, a ≠ p := fun a ha e => by
    obtain ⟨u, h⟩ := tr a ha
    rw [e, hp] at h; cases h
  refine ⟨⟨fun a u h => ?_, k.nd, fun a ha => ?_⟩, ⟨fun a u h _ => ?_, fun a u h => ?_, fun a u h => ?_, fun a h => .inl h⟩⟩
  · by_cases e : a = p
    · subst e; rw [upd_same] at h ⊢; exact h
    · rw [upd_ne e] at h ⊢; exact k.sub a u h
  · rw [upd_ne (pA a ha)]; exact k.off a ha
  · rw [upd_ne (ne_of_none h hp)]; exact h
  · rw [upd_ne (ne_of_none h bp)]; exact h
  · by_cases e : a = p
    · subst e; exact .inr (.inl hp)
    · rw [upd_ne e] at h; exact .inl h
/-- a new own object -/
theorem step_newA {A : List Addr} {B H : Hp} {p : Addr} {o : HO} (k : Ok A B H) (hp : H p = none) (tr : ∀ a ∈ A, ∃ u, H a = some u) : Ok (p :: A) B (upd H p o) ∧ Step A B H (p :: A) B (upd H p o) := by
  have bp : B p = none := by
    cases q : B p with
    | none => rfl
    | some u => rw [k.sub p u q] at hp; cases hp
  have pA : p ∉ A := fun ha => by
    obtain ⟨u, h⟩ := tr p ha
    rw [hp] at h; cases h
  refine ⟨⟨fun a u h => ?_, List.nodup_cons.mpr ⟨pA, k.nd⟩, fun a ha => ?_⟩, ⟨fun a u h _ => ?_, Same.refl B, fun a u h => .inl h, fun a h => ?_⟩⟩
  · rw [upd_ne (ne_of_none h bp)]; exact k.sub a u h
  · rcases List.mem_cons.mp ha with e | ha
    · subst e; exact bp
    · exact k.off a ha
  · rw [upd_ne (ne_of_none h hp)]; exact h
  · rcases List.mem_cons.mp h with e | h
    · subst e; exact .inr hp
    · exact .inl h
/-- an own object is changed -/
theorem step_mut {A : List Addr} {B H : Hp} {p : Addr} {o : HO} (k : Ok A B H) (hp : p ∈ A) : Ok A B (upd H p o) ∧ Step A B H A B (upd H p o) := by
  have bp := k.off p hp
  refine ⟨⟨fun a u h => ?_, k.nd, k.off⟩, ⟨fun a u h n => ?_, Same.refl B, fun a u h => .inl h, fun a h => .inl h⟩⟩
  · rw [upd_ne (ne_of_none h bp)]; exact k.sub a u h
  · rw [upd_ne (fun e => n (by rw [e]; exact hp))]; exact h
/-- the base with some own objects frozen into it -/
def ov (B H : Hp) (F : List Addr) : Hp := fun a => if a ∈ F then H a else B a
theorem ov_in {B H : Hp} {F : List Addr} {a : Addr} (h : a ∈ F) : ov B H F a = H a := by unfold ov; rw [if_pos h]
theorem ov_out {B H : Hp} {F : List Addr} {a : Addr} (h : a ∉ F) : ov B H F a = B a := by unfold ov; rw [if_neg h]
theorem ov_same {B H : Hp} {F : List Addr} (s : Same B H) : Same B (ov B H F) := fun a o h => by
  by_cases e : a ∈ F
  · rw [ov_in e]; exact s a o h
  · rw [ov_out e]; exact h
theorem ov_sub {B H : Hp} {F : List Addr} (s : Same B H) : Same (ov B H F) H := fun a o h => by
  by_cases e : a ∈ F
  · rw [ov_in e] at h; exact h
  · rw [ov_out e] at h; exact s a o h
theorem step_freeze {F A : List Addr} {B H : Hp} (k : Ok (F ++ A) B H) : Ok A (ov B H F) H ∧ Step (F ++ A) B H A (ov B H F) H := by
  refine ⟨⟨ov_sub k.sub, k.right.nd, fun a ha => ?_⟩, ⟨fun a u h _ => h, ov_same k.sub, fun a u h => ?_, fun a h => .inl (List.mem_append_right _ h)⟩⟩
  · have n : a ∉ F := fun z => k.disj z ha
    rw [ov_out n]; exact k.right.off a ha
  · by_cases e : a ∈ F
    · exact .inr (.inr (List.mem_append_left _ e))
    · rw [ov_out e] at h; exact .inl h

/-- what an own object is, as data -/
def O.toD : O → Option D
  | .lst l => some (.list l)
  | .rows l => some (.list (l.map PyData.list))
  | _ => none
section
variable {w : World} {K : PySem.W.Frag} {B B' H : Hp}
theorem rows_dp (e : Same B B') : ∀ {bs : List Addr} {ls : List (List D)}, (∀ a ∈ bs, B' a = H a) → Rows K B H bs ls → DpAll K B' (bs.map V.ref) (ls.map PyData.list)
  | _, _, _, .nil => .nil
  | _, _, f, .cons h d r => .cons (.lst (.inl (.inl (by rw [f _ List.mem_cons_self]; exact h))) (dps_mono e d)) (rows_dp e (fun a ha => f a (List.mem_cons_of_mem _ ha)) r)
theorem OwnR.data {v : V} {o : O} {As : List Addr} {d : D} (e : Same B B') (f : ∀ a ∈ As, B' a = H a) (h : OwnR w K B H v o As) (ed : o.toD = some d) : Dp K B' v d := by
  cases h with
  | lst h r => cases ed; exact .lst (.inl (.inl (by rw [f _ (by simp)]; exact h))) (dps_mono e r)
  | dct h r => cases ed
  | set h r n => cases ed
  | rows h r =>
    cases ed
    exact .lst (.inl (.inl (by rw [f _ (by simp)]; exact h))) (rows_dp e (fun a ha => f a (List.mem_cons_of_mem _ ha)) r)
end
end Fl
/-! Fl: expressions. -/
namespace Fl
open PySem L2

abbrev SE := List Sl → Option (Rs × List Sl)
abbrev SEs := List Sl → Option (List Rs × List Sl)
abbrev ST := List Sl → Option (Bool × List Sl)
def MuK (S S' : List Sl) : Prop := ∀ (i : Nat) o, S[i]? = some (.mu o) → ∃ o', S'[i]? = some (.mu o')
theorem MuK.refl (S : List Sl) : MuK S S := fun _ o h => ⟨o, h⟩
theorem MuK.trans {S S1 S2 : List Sl} (a : MuK S S1) (b : MuK S1 S2) : MuK S S2 := fun i o h => by
  obtain ⟨o', h'⟩ := a i o h
  exact b i o' h'
/-- what stands behind a piece of code, F: fresh own objects of its result -/
structure Go (w : World) (K : PySem.W.Frag) (σ : L2.St) (S : List Sl) (A : List Addr) (B H : Hp) (S' : List Sl) (A' : List Addr) (B' H' : Hp) (F : List Addr) : Prop where
  sr : SR w K B' H' σ S' A'
  ok : Ok (F ++ A') B' H'
  st : Step A B H (F ++ A') B' H'
  mu : MuK S S'
def EPo (w : World) (K : PySem.W.Frag) (σ : L2.St) (S : List Sl) (A : List Addr) (B H : Hp) (r : Rs) (S' : List Sl) (v : V) (H' : Hp) : Prop :=
  ∃ A' B' F, Go w K σ S A B H S' A' B' H' F ∧ RR w K σ B' H' v r F
def APo (w : World) (K : PySem.W.Frag) (σ : L2.St) (S : List Sl) (A : List Addr) (B H : Hp) (rs : List Rs) (S' : List Sl) (vs : List V) (H' : Hp) : Prop :=
  ∃ A' B' F, Go w K σ S A B H S' A' B' H' F ∧ RRs w K σ B' H' vs rs F
def TPo (w : World) (K : PySem.W.Frag) (σ : L2.St) (S : List Sl) (A : List Addr) (B H : Hp) (S' : List Sl) (H' : Hp) : Prop :=
  ∃ A' B', Go w K σ S A B H S' A' B' H' []
def T (w : World) (K : PySem.W.Frag) (f : SE) : TE := fun σ H Q => ∃ S A B r S', SR w K B H σ S A ∧ Ok A B H ∧ f S = some (r, S') ∧ ∀ v H', EPo w K σ S A B H r S' v H' → Q v H'
def Ta (w : World) (K : PySem.W.Frag) (f : SEs) : TA := fun σ H Q => ∃ S A B r S', SR w K B H σ S A ∧ Ok A B H ∧ f S = some (r, S') ∧ ∀ v H', APo w K σ S A B H r S' v H' → Q v H'
def Tt (w : World) (K : PySem.W.Frag) (f : ST) : TT := fun σ H Q => ∃ S A B r S', SR w K B H σ S A ∧ Ok A B H ∧ f S = some (r, S') ∧ ∀ H', TPo w K σ S A B H S' H' → Q r H'
/-- the expression e computes f -/
def E (X : Cx) (e : Expr) (f : SE) : Prop := PE X e (T X.w X.K f)
def Es (X : Cx) (e : List Expr) (f : SEs) : Prop := PA X e (Ta X.w X.K f)
def Et (X : Cx) (e : Expr) (f : ST) : Prop := PT X e (Tt X.w X.K f)
def Ew (X : Cx) (e : Expr) (f : ST) : Prop := PW X e (Tt X.w X.K f)
section
variable {X : Cx} {e : Expr}
theorem pe_weak {t t' : TE} (h : PE X e t) (hw : ∀ σ H Q, t' σ H Q → t σ H Q) : PE X e t' := ⟨fun pins s σ H Q I h' => h.run pins s σ H Q I (hw _ _ _ h')⟩
theorem pt_weak {t t' : TT} (h : PT X e t) (hw : ∀ σ H Q, t' σ H Q → t σ H Q) : PT X e t' := ⟨fun pins s σ H Q I h' => h.run pins s σ H Q I (hw _ _ _ h')⟩
theorem pw_weak {t t' : TT} (h : PW X e t) (hw : ∀ σ H Q, t' σ H Q → t σ H Q) : PW X e t' := ⟨fun wh pins s σ H Q I h' => h.run wh pins s σ H Q I (hw _ _ _ h')⟩
theorem pa_weak {es : List Expr} {t t' : TA} (h : PA X es t) (hw : ∀ σ H Q, t' σ H Q → t σ H Q) : PA X es t' := ⟨fun p pins s σ H Q I h' => h.run p pins s σ H Q I (hw _ _ _ h')⟩
theorem pe_or2 {t t' : TE} (h : PE X e t) (h' : PE X e t') : PE X e (fun σ H Q => t σ H Q ∨ t' σ H Q) := ⟨fun pins s σ H Q I z => z.elim (h.run pins s σ H Q I) (h'.run pins s σ H Q I)⟩
theorem pi_or2 {tg : Expr} {t t' : TI} (h : PI X tg e t) (h' : PI X tg e t') : PI X tg e (fun σ H Q => t σ H Q ∨ t' σ H Q) := ⟨fun pins s σ H Q I z => z.elim (h.run pins s σ H Q I) (h'.run pins s σ H Q I)⟩
end
section
variable {w : World} {K : PySem.W.Frag} {σ : L2.St} {S S1 S2 : List Sl} {A A1 A2 : List Addr} {B B1 B2 H H1 H2 : Hp} {F F1 F2 : List Addr}
theorem Go.same (sr : SR w K B H σ S A) (ok : Ok A B H) : Go w K σ S A B H S A B H [] := ⟨sr, ok, Step.refl, MuK.refl S⟩
theorem Go.ok0 (g : Go w K σ S A B H S1 A1 B1 H1 F1) : Ok A1 B1 H1 := g.ok.right
/-- one after another; what the first one left waits -/
theorem Go.then_ (g : Go w K σ S A B H S1 A1 B1 H1 F1) (tr : ∀ a ∈ F1, ∃ u, H1 a = some u) (h : Go w K σ S1 A1 B1 H1 S2 A2 B2 H2 F2) : Go w K σ S A B H S2 A2 B2 H2 (F1 ++ F2) ∧ Same B1 B2 ∧ Keep F1 H1 H2 := by
  obtain ⟨p1, p2, p3⟩ := pend g.ok h.st h.ok tr
  refine ⟨⟨h.sr, by rw [List.append_assoc]; exact p1, ?_, g.mu.trans h.mu⟩, h.st.bx, p3⟩
  rw [List.append_assoc]
  exact g.st.trans p2
theorem Go.seq (g : Go w K σ S A B H S1 A1 B1 H1 []) (h : Go w K σ S1 A1 B1 H1 S2 A2 B2 H2 F2) : Go w K σ S A B H S2 A2 B2 H2 F2 := (g.then_ (fun a ha => by simp at ha) h).1
/-- the fresh objects are let go -/
theorem Go.drop (g : Go w K σ S A B H S1 A1 B1 H1 F1) : Go w K σ S A B H S1 A1 B1 H1 [] := ⟨g.sr, g.ok.right, g.st.sub fun a ha => List.mem_append_right _ ha, g.mu⟩
theorem T.mono {f : SE} {Q Q' : VK} (h : T w K f σ H Q) (q : ∀ v H', Q v H' → Q' v H') : T w K f σ H Q' := by
  obtain ⟨S, A, B, r, S', a, b, c, d⟩ := h
  exact ⟨S, A, B, r, S', a, b, c, fun v H' p => q v H' (d v H' p)⟩
theorem Ta.mono {f : SEs} {Q Q' : List V → Hp → Prop} (h : Ta w K f σ H Q) (q : ∀ v H', Q v H' → Q' v H') : Ta w K f σ H Q' := by
  obtain ⟨S, A, B, r, S', a, b, c, d⟩ := h
  exact ⟨S, A, B, r, S', a, b, c, fun v H' p => q v H' (d v H' p)⟩
end

/-! ### argument lists -/
def sNil : SEs := fun S => some ([], S)
def sCons (f : SE) (g : SEs) : SEs := fun S => match f S with
  | some (r, S1) => match g S1 with
    | some (rs, S2) => some (r :: rs, S2)
    | none => none
  | none => none
section
variable {w : World} {K : PySem.W.Frag} {σ : L2.St} {H : Hp}
theorem ta_nil {Q : List V → Hp → Prop} (h : Ta w K sNil σ H Q) : Q [] H := by
  obtain ⟨S, A, B, r, S', sr, ok, e, q⟩ := h
  cases e
  exact q [] H ⟨A, B, [], Go.same sr ok, .nil⟩
theorem ta_cons {f : SE} {g : SEs} {Q : List V → Hp → Prop} (h : Ta w K (sCons f g) σ H Q) : T w K f σ H fun x H1 => Ta w K g σ H1 fun xs H2 => Q (x :: xs) H2 := by
  obtain ⟨S, A, B, r, S', sr, ok, e, q⟩ := h
  unfold sCons at e
  cases e1 : f S with
  | none => rw [e1] at e; cases e
  | some p =>
    obtain ⟨r1, S1⟩ := p
    rw [e1] at e
    simp only at e
    cases e2 : g S1 with
    | none => rw [e2] at e; cases e
    | some p =>
      obtain ⟨rs, S2⟩ := p
      rw [e2] at e
      simp only [Option.some.injEq, Prod.mk.injEq] at e
      obtain ⟨rfl, rfl⟩ := e
      refine ⟨S, A, B, r1, S1, sr, ok, e1, fun v H1 ⟨A1, B1, F1, g1, x1⟩ => ?_⟩
      refine ⟨S1, A1, B1, rs, S2, g1.sr, g1.ok0, e2, fun vs H2 ⟨A2, B2, F2, g2, x2⟩ => ?_⟩
      obtain ⟨h1, h2, h3⟩ := g1.then_ x1.tracked g2
      exact q _ _ ⟨A2, B2, F1 ++ F2, h1, .cons (x1.step h2 h3) x2⟩
theorem ta_two {f g : SE} {Q : List V → Hp → Prop} (h : Ta w K (sCons f (sCons g sNil)) σ H Q) : T w K f σ H fun x H1 => T w K g σ H1 fun y H2 => Q [x, y] H2 :=
  (ta_cons h).mono fun x H1 h => (ta_cons h).mono fun y H2 h => ta_nil h
theorem ta_one {f : SE} {Q : List V → Hp → Prop} (h : Ta w K (sCons f sNil) σ H Q) : T w K f σ H fun x H1 => Q [x] H1 := (ta_cons h).mono fun x H1 h => ta_nil h
end
section
variable {X : Cx} {e : Expr} {es : List Expr}
theorem es_nil : Es X [] sNil := pa_weak pa_nil fun _ _ _ h => ta_nil h
theorem es_cons {f : SE} {g : SEs} (h : E X e f) (hs : Es X es g) (hq : starEach (e :: es) X.env = (false, eval e X.env) :: starEach es X.env := by rfl) : Es X (e :: es) (sCons f g) := pa_weak (pa_cons h hs hq) fun _ _ _ h => ta_cons h
end

/-! ### operations by values -/
abbrev Op := List Sl → List Rs → Option Rs
def OpOk (w : World) (K : PySem.W.Frag) (R : List V → Hp → VK → Prop) (g : Op) : Prop := ∀ (σ : L2.St) (S : List Sl) (A : List Addr) (B H : Hp) (vs : List V) (rs : List Rs) (F : List Addr) (r : Rs) (Q : VK),
  SR w K B H σ S A → RRs w K σ B H vs rs F → Ok (F ++ A) B H → g S rs = some r →
  (∀ v H' B' F', RR w K σ B' H' v r F' → SR w K B' H' σ S A → Ok (F' ++ A) B' H' → Step (F ++ A) B H (F' ++ A) B' H' → Q v H') → R vs H Q
def opS (g : Op) (fs : SEs) : SE := fun S => match fs S with
  | some (rs, S') => match g S' rs with
    | some r => some (r, S')
    | none => none
  | none => none
theorem op_T {w : World} {K : PySem.W.Frag} {R : List V → Hp → VK → Prop} {g : Op} {fs : SEs} {σ : L2.St} {H : Hp} {Q : VK} (o : OpOk w K R g) (h : T w K (opS g fs) σ H Q) : Ta w K fs σ H fun vs H' => R vs H' Q := by
  obtain ⟨S, A, B, r, S', sr, ok, e, q⟩ := h
  unfold opS at e
  cases e1 : fs S with
  | none => rw [e1] at e; cases e
  | some p =>
    obtain ⟨rs, S1⟩ := p
    rw [e1] at e
    simp only at e
    cases e2 : g S1 rs with
    | none => rw [e2] at e; cases e
    | some r1 =>
      rw [e2] at e
      simp only [Option.some.injEq, Prod.mk.injEq] at e
      obtain ⟨rfl, rfl⟩ := e
      refine ⟨S, A, B, rs, S1, sr, ok, e1, fun vs H1 ⟨A1, B1, F1, g1, x1⟩ => ?_⟩
      refine o σ S1 A1 B1 H1 vs rs F1 r1 Q g1.sr x1 g1.ok e2 fun v H' B' F' x s k st => ?_
      exact q v H' ⟨A1, B', F', ⟨s, k, g1.st.trans st, g1.mu⟩, x⟩
section
variable {X : Cx} {a b e : Expr} {es : List Expr} {pos : Pos} {f h : SE} {fs : SEs} {g : Op}
abbrev RV2 (r : V → V → Hp → VK → Prop) : List V → Hp → VK → Prop := fun vs H Q => ∃ x y, vs = [x, y] ∧ r x y H Q
abbrev RV1 (r : V → Hp → VK → Prop) : List V → Hp → VK → Prop := fun vs H Q => ∃ x, vs = [x] ∧ r x H Q
theorem e_bin {op : Operator} {r : V → V → Hp → VK → Prop} (ho : OpR X (binaryOp op) r) (hg : OpOk X.w X.K (RV2 r) g) (ha : E X a f) (hb : E X b h) : E X (.BinOp a op b pos) (opS g (sCons f (sCons h sNil))) :=
  pe_weak (pe_op ho ha hb) fun σ H Q z => (ta_two (op_T hg z)).mono fun x H1 z => z.mono fun y H2 ⟨x', y', e, q⟩ => by cases e; exact q
theorem e_un {op : UnaryOp} {r : V → Hp → VK → Prop} (ho : UnR X (unaryOp op) r) (hg : OpOk X.w X.K (RV1 r) g) (ha : E X a f) : E X (.UnaryOp op a pos) (opS g (sCons f sNil)) :=
  pe_weak (pe_un ho ha) fun σ H Q z => (ta_one (op_T hg z)).mono fun x H1 ⟨x', e, q⟩ => by cases e; exact q
theorem e_cmp {op : CmpOp} {r : V → V → Hp → VK → Prop} (ho : OpR X (compareOp op) r) (hg : OpOk X.w X.K (RV2 r) g) (hm : behindInMarks op b = false) (ha : E X a f) (hb : E X b h) : E X (.Compare a [op] [b] pos) (opS g (sCons f (sCons h sNil))) :=
  pe_weak (pe_cmpR ho ha hb hm) fun σ H Q z => (ta_two (op_T hg z)).mono fun x H1 z => z.mono fun y H2 ⟨x', y', e, q⟩ => by cases e; exact q
theorem e_ix {r : V → V → Hp → VK → Prop} (ho : IxR X r) (hg : OpOk X.w X.K (RV2 r) g) (hs : PlainIx b) (ha : E X a f) (hb : E X b h) : E X (.Subscript a b pos) (opS g (sCons f (sCons h sNil))) :=
  pe_weak (pe_ix ho ha hb hs) fun σ H Q z => (ta_two (op_T hg z)).mono fun x H1 z => z.mono fun y H2 ⟨x', y', e, q⟩ => by cases e; exact q
theorem e_callB {x : Str} {p : Pos} {id : String} {r : List V → Hp → VK → Prop} (hc : CallR X (.builtin id) r) (hgl : Gl X x) (hm : X.mg x = none) (hv : bootBuiltins x = some (.builtin id)) (hg : OpOk X.w X.K r g) (ha : Es X (e :: es) fs)
    (hn : x ≠ "__name__" := by decide) (hdb : (x == ("__debug__" : Str)) = false := by decide) (he : starEach (e :: es) X.env = (false, eval e X.env) :: starEach es X.env := by rfl) (hpl : (backTo pos (starEach es X.env)).any (·.1) = false := by rfl) :
    E X (.Call (.Name x p) (e :: es) [] pos) (opS g fs) := pe_weak (pe_callB hc hgl hm hv ha hn hdb he hpl) fun σ H Q z => op_T hg z
theorem e_callTy {x : Str} {p : Pos} {id : String} {r : List V → Hp → VK → Prop} (hc : CallR X (.type id) r) (hgl : Gl X x) (hm : X.mg x = none) (hv : bootBuiltins x = some (.type id)) (hg : OpOk X.w X.K r g) (ha : Es X (e :: es) fs)
    (hn : x ≠ "__name__" := by decide) (hdb : (x == ("__debug__" : Str)) = false := by decide) (he : starEach (e :: es) X.env = (false, eval e X.env) :: starEach es X.env := by rfl) (hpl : (backTo pos (starEach es X.env)).any (·.1) = false := by rfl) :
    E X (.Call (.Name x p) (e :: es) [] pos) (opS g fs) := pe_weak (pe_callTy hc hgl hm hv ha hn hdb he hpl) fun σ H Q z => op_T hg z
end

/-! ### constants, names -/
def eC (d : D) : SE := fun S => some (.im d, S)
/-- the slot's value; an own object is frozen -/
def eVar (i : Nat) : SE := fun S => match S[i]? with
  | some (.im d) => some (.im d, S)
  | some (.ow o) => match o.toD with
    | some d => some (.im d, S.set i (.im d))
    | none => none
  | _ => none
/-- the slot as a place -/
def ePl (i : Nat) : SE := fun S => match S[i]? with
  | some (.im _) => some (.pl i, S)
  | some (.ow _) => some (.pl i, S)
  | some (.mu _) => some (.pl i, S)
  | _ => none
/-- the own object leaves the slot -/
def eMv (i : Nat) : SE := fun S => match S[i]? with
  | some (.im d) => some (.im d, S)
  | some (.ow o) => some (.fr o, S.set i .un)
  | _ => none
section
variable {X : Cx} {pos : Pos}
theorem t_c {w : World} {K : PySem.W.Frag} {v : V} {d : D} (hd : ∀ B, Dp K B v d) {σ : L2.St} {H : Hp} {Q : VK} (h : T w K (eC d) σ H Q) : tC v σ H Q := by
  obtain ⟨S, A, B, r, S', sr, ok, e, q⟩ := h
  cases e
  exact q v H ⟨A, B, [], Go.same sr ok, .im (hd B)⟩
theorem e_int {i j} : E X (.Constant (.int i) j pos) (eC (.int i)) := pe_weak pe_int fun _ _ _ h => t_c (fun _ => .int i) h
theorem e_bl {b j} : E X (.Constant (.bool b) j pos) (eC (.bool b)) := pe_weak pe_bl fun _ _ _ h => t_c (fun _ => .bl b) h
theorem e_non {j} : E X (.Constant .none j pos) (eC .none) := pe_weak pe_non fun _ _ _ h => t_c (fun _ => .non) h
theorem e_str {x j} : E X (.Constant (.str x) j pos) (eC (.str x)) := pe_weak pe_str fun _ _ _ h => t_c (fun _ => .str x) h
theorem mem_mid {α : Type} {a : α} {A1 As A2 : List α} (h : a ∈ A1 ++ A2) : a ∈ A1 ++ (As ++ A2) := by
  rcases List.mem_append.mp h with h | h
  · simp [h]
  · simp [h]
theorem ok_mid {A1 As A2 : List Addr} {B H : Hp} (o : Ok (A1 ++ (As ++ A2)) B H) : Ok (As ++ (A1 ++ A2)) B H := by
  have p : (A1 ++ (As ++ A2)).Perm (As ++ (A1 ++ A2)) := by
    rw [← List.append_assoc, ← List.append_assoc]
    exact List.Perm.append_right A2 List.perm_append_comm
  exact ⟨o.sub, p.nodup_iff.mp o.nd, fun a ha => o.off a (p.mem_iff.mpr ha)⟩
theorem step_mid {A1 As A2 : List Addr} {B H B' H' : Hp} {A' : List Addr} (s : Step (As ++ (A1 ++ A2)) B H A' B' H') : Step (A1 ++ (As ++ A2)) B H A' B' H' := by
  have p : (A1 ++ (As ++ A2)).Perm (As ++ (A1 ++ A2)) := by
    rw [← List.append_assoc, ← List.append_assoc]
    exact List.Perm.append_right A2 List.perm_append_comm
  exact ⟨fun a o h n => s.fr a o h fun z => n (p.mem_iff.mpr z), s.bx, fun a o h => (s.bn a o h).imp id fun z => z.imp id fun z => p.mem_iff.mpr z, fun a ha => (s.an a ha).imp (fun z => p.mem_iff.mpr z) id⟩
theorem set_same {α : Type} : ∀ {l : List α} {i : Nat} {x : α}, l[i]? = some x → l.set i x = l
  | [], _, _, h => by simp at h
  | a :: l, 0, x, h => by simp at h; subst h; rfl
  | a :: l, i + 1, x, h => by
    rw [List.set_cons_succ, set_same (l := l) (by simpa using h)]
theorem muk_set {S : List Sl} {i : Nat} {s : Sl} (h : ∀ o, S[i]? ≠ some (.mu o)) : MuK S (S.set i s) := fun j o e => by
  by_cases ij : i = j
  · subst ij; exact absurd e (h o)
  · exact ⟨o, by rw [List.getElem?_set_ne ij]; exact e⟩
theorem t_var {w : World} {K : PySem.W.Frag} {i : Nat} {σ : L2.St} {H : Hp} {Q : VK} (h : T w K (eVar i) σ H Q) : tVar i σ H Q := by
  obtain ⟨S, A, B, r, S', sr, ok, e, q⟩ := h
  unfold eVar at e
  cases e1 : S[i]? with
  | none => rw [e1] at e; cases e
  | some s =>
    rw [e1] at e
    obtain ⟨x, A1, As, A2, eA, es, sl, f⟩ := sr.at e1
    cases sl with
    | un => cases e
    | @im v d h =>
      cases e
      exact ⟨v, es, q v H ⟨A, B, [], Go.same sr ok, .im h⟩⟩
    | mu h => cases e
    | @ow v o _ h =>
      simp only at e
      cases e2 : o.toD with
      | none => rw [e2] at e; cases e
      | some d =>
        rw [e2] at e
        cases e
        subst eA
        obtain ⟨k1, s1⟩ := step_freeze (ok_mid ok)
        refine ⟨v, es, q v H ⟨A1 ++ A2, ov B H As, [], ⟨?_, k1, step_mid s1, muk_set fun o' z => by rw [e1] at z; cases z⟩, .im (h.data (ov_same ok.sub) (fun a ha => ov_in ha) e2)⟩⟩
        have z := f (B' := ov B H As) (H' := H) (x' := some v) (s' := .im d) (As' := []) (ov_same ok.sub) (fun a _ o h => h) (.im (h.data (ov_same ok.sub) (fun a ha => ov_in ha) e2))
        rw [set_same es] at z
        exact z
theorem e_var (i : Nat) {x : Str} (hN : X.N[i]? = some x := by rfl) (hv : Vis X.env.scope x := by first | exact Or.inl rfl | exact Or.inr (Or.inl rfl) | exact Or.inr (Or.inr rfl)) (hd : (x == ("__debug__" : Str)) = false := by decide)
    (hcd : (x == ("__classdict__" : Str)) = false := by decide) : E X (.Name x pos) (eVar i) := pe_weak (pe_var hN hv hd hcd) fun _ _ _ h => t_var h
theorem t_pl {w : World} {K : PySem.W.Frag} {i : Nat} {σ : L2.St} {H : Hp} {Q : VK} (h : T w K (ePl i) σ H Q) : tVar i σ H Q := by
  obtain ⟨S, A, B, r, S', sr, ok, e, q⟩ := h
  unfold ePl at e
  cases e1 : S[i]? with
  | none => rw [e1] at e; cases e
  | some s =>
    rw [e1] at e
    obtain ⟨x, A1, As, A2, eA, es, sl, f⟩ := sr.at e1
    cases sl with
    | un => cases e
    | @im v d h => cases e; exact ⟨v, es, q v H ⟨A, B, [], Go.same sr ok, .pl es⟩⟩
    | @mu v o _ h => cases e; exact ⟨v, es, q v H ⟨A, B, [], Go.same sr ok, .pl es⟩⟩
    | @ow v o _ h => cases e; exact ⟨v, es, q v H ⟨A, B, [], Go.same sr ok, .pl es⟩⟩
theorem e_pl (i : Nat) {x : Str} (hN : X.N[i]? = some x := by rfl) (hv : Vis X.env.scope x := by first | exact Or.inl rfl | exact Or.inr (Or.inl rfl) | exact Or.inr (Or.inr rfl)) (hd : (x == ("__debug__" : Str)) = false := by decide)
    (hcd : (x == ("__classdict__" : Str)) = false := by decide) : E X (.Name x pos) (ePl i) := pe_weak (pe_var hN hv hd hcd) fun _ _ _ h => t_pl h
theorem t_mv {w : World} {K : PySem.W.Frag} {i : Nat} {σ : L2.St} {H : Hp} {Q : VK} (h : T w K (eMv i) σ H Q) : tVar i σ H Q := by
  obtain ⟨S, A, B, r, S', sr, ok, e, q⟩ := h
  unfold eMv at e
  cases e1 : S[i]? with
  | none => rw [e1] at e; cases e
  | some s =>
    rw [e1] at e
    obtain ⟨x, A1, As, A2, eA, es, sl, f⟩ := sr.at e1
    cases sl with
    | un => cases e
    | @im v d h => cases e; exact ⟨v, es, q v H ⟨A, B, [], Go.same sr ok, .im h⟩⟩
    | mu h => cases e
    | @ow v o _ h =>
      cases e
      subst eA
      refine ⟨v, es, q v H ⟨A1 ++ A2, B, As, ⟨?_, ok_mid ok, step_mid Step.refl, muk_set fun o' z => by rw [e1] at z; cases z⟩, .fr h⟩⟩
      have z := f (B' := B) (H' := H) (x' := some v) (s' := .un) (As' := []) (Same.refl B) (fun a _ o h => h) .un
      rw [set_same es] at z
      exact z
theorem e_mv (i : Nat) {x : Str} (hN : X.N[i]? = some x := by rfl) (hv : Vis X.env.scope x := by first | exact Or.inl rfl | exact Or.inr (Or.inl rfl) | exact Or.inr (Or.inr rfl)) (hd : (x == ("__debug__" : Str)) = false := by decide)
    (hcd : (x == ("__classdict__" : Str)) = false := by decide) : E X (.Name x pos) (eMv i) := pe_weak (pe_var hN hv hd hcd) fun _ _ _ h => t_mv h
end

/-! ### freezing results, displays -/
def Rs.fz : Rs → Option D
  | .im d => some d
  | .fr o => o.toD
  | .pl _ => none
def fzs : List Rs → Option (List D)
  | [] => some []
  | r :: rs => match r.fz, fzs rs with
    | some d, some ds => some (d :: ds)
    | _, _ => none
section
variable {w : World} {K : PySem.W.Frag} {σ : L2.St} {B B' H : Hp}
theorem RR.data {v : V} {r : Rs} {F : List Addr} {d : D} (e : Same B B') (f : ∀ a ∈ F, B' a = H a) (h : RR w K σ B H v r F) (ed : r.fz = some d) : Dp K B' v d := by
  cases h with
  | im h => cases ed; exact dp_mono e h
  | fr h => exact h.data e f ed
  | pl h => cases ed
theorem RRs.data (e : Same B B') : ∀ {vs : List V} {rs : List Rs} {F : List Addr} {ds : List D}, (∀ a ∈ F, B' a = H a) → RRs w K σ B H vs rs F → fzs rs = some ds → DpAll K B' vs ds
  | _, _, _, ds, _, .nil, ed => by cases ed; exact .nil
  | _, _, _, ds, f, .cons (r := r) (rs := rs) h q, ed => by
    unfold fzs at ed
    cases e1 : r.fz with
    | none => rw [e1] at ed; cases ed
    | some d =>
      rw [e1] at ed
      cases e2 : fzs rs with
      | none => rw [e2] at ed; cases ed
      | some ds' =>
        rw [e2] at ed
        cases ed
        exact .cons (h.data e (fun a ha => f a (List.mem_append_left _ ha)) e1) (RRs.data e (fun a ha => f a (List.mem_append_right _ ha)) q e2)
end
/-- size guard of new sequences -/
def szOk (n : Nat) : Bool := decide (n ≤ 1000000)
theorem szOk_line {n : Nat} (h : szOk n = true) : n ≤ sizeLine := Nat.le_trans (of_decide_eq_true h) (by decide)
theorem szOk_lt {n : Nat} (h : szOk n = true) : n < sizeLine := Nat.lt_of_le_of_lt (of_decide_eq_true h) (by decide)
def gTupD : Op := fun _ rs => match fzs rs with
  | some ds => if szOk ds.length then some (.im (.tuple ds)) else none
  | none => none
def gLstD : Op := fun _ rs => match fzs rs with
  | some ds => if szOk ds.length then some (.fr (.lst ds)) else none
  | none => none
section
variable {w : World} {K : PySem.W.Frag}
theorem op_tupD : OpOk w K (fun xs H Q => xs.length ≤ sizeLine ∧ ∀ p, H p = none → Q (.ref p) (upd H p (.tup xs))) gTupD := by
  intro σ S A B H vs rs F r Q sr x ok e q
  unfold gTupD at e
  cases e1 : fzs rs with
  | none => rw [e1] at e; cases e
  | some ds =>
    rw [e1] at e
    simp only at e
    split at e
    · rename_i hs
      cases e
      obtain ⟨k1, s1⟩ := step_freeze ok
      have dd := x.data (ov_same ok.sub) (fun a ha => ov_in ha) e1
      have sr1 : SR w K (ov B H F) H σ S A := sr.step (ov_same ok.sub) (fun a _ o h => h)
      refine ⟨by rw [dps_length dd]; exact szOk_line hs, fun p hp => ?_⟩
      obtain ⟨k2, s2⟩ := step_newB (o := .tup vs) k1 hp sr1.tracked
      refine q _ _ _ [] (.im (.tup (.inl (.inl upd_same)) (dps_mono s2.bx dd))) (sr1.step s2.bx (fun a ha o h => ?_)) k2 (s1.trans s2)
      rw [upd_ne (ne_of_none h hp)]; exact h
    · cases e
theorem op_lstD : OpOk w K (fun xs H Q => xs.length ≤ sizeLine ∧ ∀ p, H p = none → Q (.ref p) (upd H p (.lst xs))) gLstD := by
  intro σ S A B H vs rs F r Q sr x ok e q
  unfold gLstD at e
  cases e1 : fzs rs with
  | none => rw [e1] at e; cases e
  | some ds =>
    rw [e1] at e
    simp only at e
    split at e
    · rename_i hs
      cases e
      obtain ⟨k1, s1⟩ := step_freeze ok
      have dd := x.data (ov_same ok.sub) (fun a ha => ov_in ha) e1
      have sr1 : SR w K (ov B H F) H σ S A := sr.step (ov_same ok.sub) (fun a _ o h => h)
      refine ⟨by rw [dps_length dd]; exact szOk_line hs, fun p hp => ?_⟩
      obtain ⟨k2, s2⟩ := step_newA (o := .lst vs) k1 hp sr1.tracked
      refine q _ _ _ [p] (.fr (.lst upd_same dd)) (sr1.step (Same.refl _) (fun a ha o h => ?_)) k2 (s1.trans s2)
      rw [upd_ne (ne_of_none h hp)]; exact h
    · cases e
end
section
variable {X : Cx} {es : List Expr} {fs : SEs} {pos : Pos}
theorem e_tup {k : Nat} (h : Es X es fs) (he : PE X (.Tuple es k pos) (tTup (Ta X.w X.K fs)) := by exact pe_tup (by assumption)) : E X (.Tuple es k pos) (opS gTupD fs) := pe_weak he fun _ _ _ z => op_T op_tupD z
theorem e_lst (h : Es X es fs) (he : PE X (.List es pos) (tLst (Ta X.w X.K fs)) := by exact pe_lst (by assumption)) : E X (.List es pos) (opS gLstD fs) := pe_weak he fun _ _ _ z => op_T op_lstD z
end
end Fl
/-! Fl: operations by values. -/
namespace Fl
open PySem L2

/-- a value that is read: its items lie in the base -/
inductive Vw (K : PySem.W.Frag) (B H : Hp) : V → D → Prop
  | non : Vw K B H .non .none
  | bl (b : Bool) : Vw K B H (.bl b) (.bool b)
  | int (i : Int) : Vw K B H (.int i) (.int i)
  | str (s : Str) : Vw K B H (.str s) (.str s)
  | lst {a : Addr} {vs : List V} {ds : List D} : SqL K H a vs → DpAll K B vs ds → Vw K B H (.ref a) (.list ds)
  | tup {a : Addr} {vs : List V} {ds : List D} : SqT K B a vs → DpAll K B vs ds → Vw K B H (.ref a) (.tuple ds)
inductive Vws (K : PySem.W.Frag) (B H : Hp) : List V → List D → Prop
  | nil : Vws K B H [] []
  | cons {v : V} {d : D} {vs : List V} {ds : List D} : Vw K B H v d → Vws K B H vs ds → Vws K B H (v :: vs) (d :: ds)
theorem Vw.of {K : PySem.W.Frag} {B H : Hp} {v : V} {d : D} (e : Same B H) (h : Dp K B v d) : Vw K B H v d := by
  cases h with
  | non => exact .non
  | bl b => exact .bl b
  | int i => exact .int i
  | str s => exact .str s
  | lst h r => exact .lst (sql_mono e h) r
  | tup h r => exact .tup h r
theorem Vw.dp {K : PySem.W.Frag} {B H : Hp} {v : V} {d : D} (e : Same B H) (h : Vw K B H v d) : Dp K H v d := by
  cases h with
  | non => exact .non
  | bl b => exact .bl b
  | int i => exact .int i
  | str s => exact .str s
  | lst h r => exact .lst h (dps_mono e r)
  | tup h r => exact .tup (sqt_mono e h) (dps_mono e r)
/-- what an own object is when it is read in place -/
def O.view : O → Option D
  | .lst l => some (.list l)
  | _ => none
def vw (S : List Sl) : Rs → Option D
  | .im d => some d
  | .fr o => o.view
  | .pl i => match S[i]? with
    | some (.im d) => some d
    | some (.ow o) => o.view
    | some (.mu o) => o.view
    | _ => none
def vws (S : List Sl) : List Rs → Option (List D)
  | [] => some []
  | r :: rs => match vw S r, vws S rs with
    | some d, some ds => some (d :: ds)
    | _, _ => none
section
variable {w : World} {K : PySem.W.Frag} {σ : L2.St} {S : List Sl} {A : List Addr} {B H : Hp}
theorem OwnR.view {v : V} {o : O} {As : List Addr} {d : D} (h : OwnR w K B H v o As) (e : o.view = some d) : Vw K B H v d := by
  cases h with
  | lst h r => cases e; exact .lst (.inl (.inl h)) r
  | dct h r => cases e
  | set h r n => cases e
  | rows h r => cases e
theorem vw_ok {v : V} {r : Rs} {F : List Addr} {d : D} (sr : SR w K B H σ S A) (x : RR w K σ B H v r F) (e : Same B H) (h : vw S r = some d) : Vw K B H v d := by
  cases x with
  | im x => cases h; exact .of e x
  | fr x => exact x.view h
  | pl x =>
    rename_i i
    simp only [vw] at h
    cases e1 : S[i]? with
    | none => rw [e1] at h; cases h
    | some s =>
      rw [e1] at h
      obtain ⟨y, A1, As, A2, eA, es, sl, f⟩ := sr.at e1
      rw [x] at es
      cases es
      cases sl with
      | un => cases h
      | im z => cases h; exact .of e z
      | ow z => exact z.view h
      | mu z => exact z.view h
theorem vws_ok (sr : SR w K B H σ S A) (e : Same B H) : ∀ {vs : List V} {rs : List Rs} {F : List Addr} {ds : List D}, RRs w K σ B H vs rs F → vws S rs = some ds → Vws K B H vs ds
  | _, _, _, ds, .nil, h => by cases h; exact .nil
  | _, _, _, ds, .cons (r := r) (rs := rs) x y, h => by
    unfold vws at h
    cases e1 : vw S r with
    | none => rw [e1] at h; cases h
    | some d =>
      rw [e1] at h
      cases e2 : vws S rs with
      | none => rw [e2] at h; cases h
      | some ds' =>
        rw [e2] at h
        cases h
        exact .cons (vw_ok sr x e e1) (vws_ok sr e y e2)
end
/-- what an operation gives: a value, a new list, a new tuple -/
inductive Res where
  | d (x : D)
  | l (ds : List D)
def Res.rs : Res → Rs
  | .d x => .im x
  | .l ds => .fr (.lst ds)
/-- the wishes of such an operation's rule -/
structure RPost (K : PySem.W.Frag) (B H : Hp) (Q : VK) (res : Res) : Prop where
  val : ∀ x v, res = .d x → Dp K B v x → Q v H
  tup : ∀ ds p vs, res = .d (.tuple ds) → H p = none → DpAll K B vs ds → Q (.ref p) (upd H p (.tup vs))
  lst : ∀ ds p vs, res = .l ds → H p = none → DpAll K B vs ds → Q (.ref p) (upd H p (.lst vs))
def gOp (h : List D → Option Res) : Op := fun S rs => match vws S rs with
  | some ds => match h ds with
    | some r => some r.rs
    | none => none
  | none => none
theorem gOp_ok {w : World} {K : PySem.W.Frag} {R : List V → Hp → VK → Prop} {h : List D → Option Res} (hr : ∀ (B H : Hp) (vs : List V) (ds : List D) (res : Res) (Q : VK), Same B H → Vws K B H vs ds → h ds = some res → RPost K B H Q res → R vs H Q) :
    OpOk w K R (gOp h) := by
  intro σ S A B H vs rs F r Q sr x ok e q
  unfold gOp at e
  cases e1 : vws S rs with
  | none => rw [e1] at e; cases e
  | some ds =>
    rw [e1] at e
    simp only at e
    cases e2 : h ds with
    | none => rw [e2] at e; cases e
    | some res =>
      rw [e2] at e
      cases e
      have k0 := ok.right
      have s0 : Step (F ++ A) B H A B H := Step.refl.sub fun a ha => List.mem_append_right _ ha
      refine hr B H vs ds res Q ok.sub (vws_ok sr ok.sub x e1) e2 ⟨?_, ?_, ?_⟩
      · intro x v ee dd
        subst ee
        exact q v H B [] (.im dd) sr k0 s0
      · intro ds p vs ee hp dd
        subst ee
        obtain ⟨k2, s2⟩ := step_newB (o := .tup vs) k0 hp sr.tracked
        refine q _ _ _ [] (.im (.tup (.inl (.inl upd_same)) (dps_mono s2.bx dd))) (sr.step s2.bx fun a ha o h => ?_) k2 (s0.trans s2)
        rw [upd_ne (ne_of_none h hp)]; exact h
      · intro ds p vs ee hp dd
        subst ee
        obtain ⟨k2, s2⟩ := step_newA (o := .lst vs) k0 hp sr.tracked
        refine q _ _ _ [p] (.fr (.lst upd_same dd)) (sr.step (Same.refl _) fun a ha o h => ?_) k2 (s0.trans s2)
        rw [upd_ne (ne_of_none h hp)]; exact h
theorem OpOk.or {w : World} {K : PySem.W.Frag} {R R' : List V → Hp → VK → Prop} {g g' : Op} (a : OpOk w K R g) (b : OpOk w K R' g') : OpOk w K (fun vs H Q => R vs H Q ∨ R' vs H Q) (fun S rs => match g S rs with | some r => some r | none => g' S rs) := by
  intro σ S A B H vs rs F r Q sr x ok e q
  simp only at e
  cases e1 : g S rs with
  | some r' =>
    rw [e1] at e
    cases e
    exact .inl (a σ S A B H vs rs F r Q sr x ok e1 q)
  | none =>
    rw [e1] at e
    exact .inr (b σ S A B H vs rs F r Q sr x ok e q)
theorem OpOk.imp {w : World} {K : PySem.W.Frag} {R R' : List V → Hp → VK → Prop} {g : Op} (a : OpOk w K R g) (h : ∀ vs H Q, R vs H Q → R' vs H Q) : OpOk w K R' g := fun σ S A B H vs rs F r Q sr x ok e q => h _ _ _ (a σ S A B H vs rs F r Q sr x ok e q)

/-! ### arithmetic -/
def mulOk (i j : Int) : Bool := Nat.ble i.natAbs 18446744073709551615 || (Nat.ble j.natAbs 18446744073709551615 || Nat.ble (i.natAbs.log2 + j.natAbs.log2) 999999)
theorem mulOk_iff {i j : Int} : mulOk i j = true ↔ (-(2 ^ 64) < i ∧ i < 2 ^ 64) ∨ (-(2 ^ 64) < j ∧ j < 2 ^ 64) ∨ (i.natAbs.log2 + j.natAbs.log2 < 1000000) := by
  unfold mulOk
  rw [Bool.or_eq_true, Bool.or_eq_true, Nat.ble_eq, Nat.ble_eq, Nat.ble_eq]
  omega
def divOk (j : Int) : Bool := decide (j ≠ 0 ∧ j.natAbs.log2 < 9000)
def powOk (i j : Int) : Bool := decide (0 ≤ j ∧ j ≤ 1000000 ∧ i.natAbs < 2 ^ 64)
def hAdd : List D → Option Res
  | [.int i, .int j] => some (.d (.int (i + j)))
  | [.tuple a, .tuple b] => if szOk (a.length + b.length) then some (.d (.tuple (a ++ b))) else none
  | [.str a, .str b] => if szOk (a.length + b.length) then some (.d (.str (a ++ b))) else none
  | [.list a, .list b] => if szOk (a.length + b.length) then some (.l (a ++ b)) else none
  | _ => none
def hSub : List D → Option Res
  | [.int i, .int j] => some (.d (.int (i - j)))
  | _ => none
def hMul : List D → Option Res
  | [.int i, .int j] => if mulOk i j then some (.d (.int (i * j))) else none
  | _ => none
def hDiv : List D → Option Res
  | [.int i, .int j] => if divOk j then some (.d (.int (i.fdiv j))) else none
  | _ => none
def hMod : List D → Option Res
  | [.int i, .int j] => if decide (j ≠ 0) then some (.d (.int (i.fmod j))) else none
  | _ => none
def hPow : List D → Option Res
  | [.int i, .int j] => if powOk i j then some (.d (.int (i ^ j.toNat))) else none
  | _ => none
def hNeg : List D → Option Res
  | [.int i] => some (.d (.int (-i)))
  | _ => none
section
variable {X : Cx}
theorem vws2 {K : PySem.W.Frag} {B H : Hp} {vs : List V} {a b : D} (h : Vws K B H vs [a, b]) : ∃ x y, vs = [x, y] ∧ Vw K B H x a ∧ Vw K B H y b := by
  cases h with
  | cons h1 h =>
    cases h with
    | cons h2 h =>
      cases h
      exact ⟨_, _, rfl, h1, h2⟩
theorem vws1 {K : PySem.W.Frag} {B H : Hp} {vs : List V} {a : D} (h : Vws K B H vs [a]) : ∃ x, vs = [x] ∧ Vw K B H x a := by
  cases h with
  | cons h1 h =>
    cases h
    exact ⟨_, rfl, h1⟩
/-- // by any divisor but 0, below 2 ^ 9000 -/
theorem op_fdivX : OpR X (binaryOp .FloorDiv) (rI (fun _ j => j ≠ 0 ∧ j.natAbs.log2 < 9000) fun i j => .int (i.fdiv j)) := opI fun i j _ _ _ _ _ hc q => PyProof.Rows.floordiv_int hc.1 q (.inl (PyProof.noPylong_of_log2 hc.2))
/-! ### list + list, of any kind -/
theorem list_addW (l b : Addr) (items items2 : Array Value) (n n2 : Nat) (sl sl2 : Array (Option Value)) (hz : items.size + items2.size ≤ sizeLine) :
    Meets (Builtin.«list.__add__» ⟨[.ref l, .ref b], []⟩) (fun _ R s => (s.heap.get? l = some { cls := .type "list", dict := none, data := .seq items n, slots := sl } ∧ s.heap.get? b = some { cls := .type "list", dict := none, data := .seq items2 n2, slots := sl2 }) ∧
      R (.ok (.ret (Value.ref s.heap.objs.size))) { s with heap := s.heap.push { cls := Value.type "list", data := Data.seq (items ++ items2) }, toks := s.toks }) :=
  .of_wp fun prog w A R s h => by
    obtain ⟨hp, g, d, tk, os⟩ := s
    obtain ⟨⟨hl, hb⟩, h⟩ := h
    have f3 := AutoSeq1.sub_list_list
    wp_walk using AutoSeq1.wpAny_loadPart' hl, AutoSeq1.wpAny_loadPart' hb
    exact ⟨_, rfl, h⟩
def rCatL (K : PySem.W.Frag) : L2.R2 := fun x y H Q => ∃ l b xs zs, x = .ref l ∧ y = .ref b ∧ SqL K H l xs ∧ SqL K H b zs ∧ xs.length + zs.length ≤ sizeLine ∧ ∀ p, H p = none → Q (.ref p) (upd H p (.lst (xs ++ zs)))
theorem op_catL {X : Cx} : OpR X (binaryOp .Add) (rCatL X.K) := by
  intro pins s σ H x y v u Q I rx ry h
  obtain ⟨l, b, xs, zs, rfl, rfl, hH, hB, hz, q⟩ := h
  cases rx
  cases ry
  obtain ⟨its, r, ⟨⟨cls, dd, data, sl⟩, n, ho, hc, hd, hs⟩, z1⟩ := I.list hH
  obtain ⟨its2, r2, ⟨⟨cls2, dd2, data2, sl2⟩, n2, ho2, hc2, hd2, hs2⟩, z2⟩ := I.list hB
  simp only at hc hd hs hc2 hd2 hs2
  subst hc hd hs hc2 hd2 hs2
  have hsz : its.toArray.size + its2.toArray.size ≤ sizeLine := by
    rw [List.size_toArray, List.size_toArray, ← r.length, ← r2.length]; exact hz
  refine concat_meets ⟨_, ho, rfl⟩ ⟨_, ho2, rfl⟩ noFill_list_add seq_list_add PySem.F.slot_list_add PySem.F.entry_list_add (PySem.F.args_list_add_2 _ _)
    (list_addW l b its.toArray its2.toArray n n2 sl sl2 hsz) ⟨⟨ho, ho2⟩, ?_⟩
  have ea : its.toArray ++ its2.toArray = (its ++ its2).toArray := by simp
  rw [ea]
  exact ⟨.ref _, _, I.lnew (t' := s.toks) (r.append r2) (by rw [List.length_append]; exact hz), rfl, q _ I.fresh⟩
def rAddX (K : PySem.W.Frag) : L2.R2 := fun x y H Q => ((rI0 (fun i j => .int (i + j)) x y H Q ∨ rCatA K x y H Q) ∨ (∃ i j, x = .str i ∧ y = .str j ∧ i.length + j.length ≤ sizeLine ∧ Q (.str (i ++ j)) H)) ∨ rCatL K x y H Q
theorem op_addX : OpR X (binaryOp .Add) (rAddX X.K) := OpR.or (OpR.or (OpR.or op_add op_catA) op_add_str) op_catL
theorem ok_add {w : World} {K : PySem.W.Frag} : OpOk w K (RV2 (rAddX K)) (gOp hAdd) := gOp_ok fun B H vs ds res Q sb v e p => by
  unfold hAdd at e
  split at e
  · cases e
    obtain ⟨x, y, rfl, vx, vy⟩ := vws2 v
    cases vx; cases vy
    exact ⟨_, _, rfl, .inl (.inl (.inl ⟨_, _, rfl, rfl, p.val _ _ rfl (.int _)⟩))⟩
  · split at e
    · rename_i hs
      cases e
      obtain ⟨x, y, rfl, vx, vy⟩ := vws2 v
      cases vx with
      | @tup a vs _ h r =>
        cases vy with
        | @tup b us _ h2 r2 =>
          refine ⟨_, _, rfl, .inl (.inl (.inr ⟨a, b, vs, us, rfl, rfl, sqt_mono sb h, sqt_mono sb h2, ?_, fun z => ?_, fun _ z => ?_, fun _ _ q hq => ?_⟩))⟩
          · rw [dps_length r, dps_length r2]; exact szOk_line hs
          · subst z
            cases r
            exact p.val _ _ rfl (Dp.tup h2 r2)
          · subst z
            cases r2
            exact p.val _ _ rfl (Dp.tup h (by rw [List.append_nil]; exact r))
          · exact p.tup _ _ _ rfl hq (dps_append r r2)
    · cases e
  · split at e
    · rename_i hs
      cases e
      obtain ⟨x, y, rfl, vx, vy⟩ := vws2 v
      cases vx; cases vy
      exact ⟨_, _, rfl, .inl (.inr ⟨_, _, rfl, rfl, szOk_line hs, p.val _ _ rfl (.str _)⟩)⟩
    · cases e
  · split at e
    · rename_i hs
      cases e
      obtain ⟨x, y, rfl, vx, vy⟩ := vws2 v
      cases vx with
      | @lst a vs _ h r =>
        cases vy with
        | @lst b us _ h2 r2 =>
          refine ⟨_, _, rfl, .inr ⟨a, b, vs, us, rfl, rfl, h, h2, ?_, fun q hq => p.lst _ _ _ rfl hq (dps_append r r2)⟩⟩
          rw [dps_length r, dps_length r2]; exact szOk_line hs
    · cases e
  · cases e
theorem ok_int2 {w : World} {K : PySem.W.Frag} {C : Int → Int → Prop} {g : Int → Int → Int} {h : List D → Option Res} (hh : ∀ ds r, h ds = some r → ∃ i j, ds = [.int i, .int j] ∧ C i j ∧ r = .d (.int (g i j))) : OpOk w K (RV2 (rI C fun i j => .int (g i j))) (gOp h) := gOp_ok fun B H vs ds res Q sb v e p => by
  obtain ⟨i, j, rfl, hc, rfl⟩ := hh ds res e
  obtain ⟨x, y, rfl, vx, vy⟩ := vws2 v
  cases vx; cases vy
  exact ⟨_, _, rfl, i, j, rfl, rfl, hc, p.val _ _ rfl (.int _)⟩
theorem ok_sub {w : World} {K : PySem.W.Frag} : OpOk w K (RV2 (rI0 fun i j => .int (i - j))) (gOp hSub) := gOp_ok fun B H vs ds res Q sb v e p => by
  unfold hSub at e
  split at e
  · cases e
    obtain ⟨x, y, rfl, vx, vy⟩ := vws2 v
    cases vx; cases vy
    exact ⟨_, _, rfl, _, _, rfl, rfl, p.val _ _ rfl (.int _)⟩
  · cases e
def rMulX : L2.R2 := fun x y H Q => rI CMul (fun i j => .int (i * j)) x y H Q ∨ rI CMulW (fun i j => .int (i * j)) x y H Q
theorem op_mulX : OpR X (binaryOp .Mult) rMulX := OpR.or op_mul op_mulW
theorem ok_mul {w : World} {K : PySem.W.Frag} : OpOk w K (RV2 rMulX) (gOp hMul) := gOp_ok fun B H vs ds res Q sb v e p => by
  unfold hMul at e
  split at e
  · split at e
    · rename_i hm
      cases e
      obtain ⟨x, y, rfl, vx, vy⟩ := vws2 v
      cases vx; cases vy
      rcases mulOk_iff.mp hm with h | h | h
      · exact ⟨_, _, rfl, .inl ⟨_, _, rfl, rfl, .inl h, p.val _ _ rfl (.int _)⟩⟩
      · exact ⟨_, _, rfl, .inl ⟨_, _, rfl, rfl, .inr h, p.val _ _ rfl (.int _)⟩⟩
      · exact ⟨_, _, rfl, .inr ⟨_, _, rfl, rfl, h, p.val _ _ rfl (.int _)⟩⟩
    · cases e
  · cases e
theorem ok_div {w : World} {K : PySem.W.Frag} : OpOk w K (RV2 (rI (fun _ j => j ≠ 0 ∧ j.natAbs.log2 < 9000) fun i j => .int (i.fdiv j))) (gOp hDiv) := ok_int2 fun ds r e => by
  unfold hDiv at e
  split at e
  · split at e
    · rename_i hm
      cases e
      exact ⟨_, _, rfl, of_decide_eq_true hm, rfl⟩
    · cases e
  · cases e
theorem ok_mod {w : World} {K : PySem.W.Frag} : OpOk w K (RV2 (rI (fun _ j => j ≠ 0) fun i j => .int (i.fmod j))) (gOp hMod) := ok_int2 fun ds r e => by
  unfold hMod at e
  split at e
  · split at e
    · rename_i hm
      cases e
      exact ⟨_, _, rfl, of_decide_eq_true hm, rfl⟩
    · cases e
  · cases e
theorem ok_pow {w : World} {K : PySem.W.Frag} : OpOk w K (RV2 (rI CPow fun i j => .int (i ^ j.toNat))) (gOp hPow) := ok_int2 fun ds r e => by
  unfold hPow at e
  split at e
  · split at e
    · rename_i hm
      cases e
      exact ⟨_, _, rfl, (show 0 ≤ _ ∧ _ ∧ _ from of_decide_eq_true hm), rfl⟩
    · cases e
  · cases e
theorem ok_neg {w : World} {K : PySem.W.Frag} : OpOk w K (RV1 (rU fun i => .int (-i))) (gOp hNeg) := gOp_ok fun B H vs ds res Q sb v e p => by
  unfold hNeg at e
  split at e
  · cases e
    obtain ⟨x, rfl, vx⟩ := vws1 v
    cases vx
    exact ⟨_, rfl, _, rfl, p.val _ _ rfl (.int _)⟩
  · cases e
/-! ### list + list: both own or fresh -/
def ownL (S : List Sl) : Rs → Option (List D)
  | .fr (.lst l) => some l
  | .pl i => match S[i]? with
    | some (.ow (.lst l)) => some l
    | some (.mu (.lst l)) => some l
    | _ => none
  | _ => none
theorem ownL_ok {w : World} {K : PySem.W.Frag} {σ : L2.St} {S : List Sl} {A : List Addr} {B H : Hp} {v : V} {r : Rs} {F : List Addr} {l : List D} (sr : SR w K B H σ S A) (x : RR w K σ B H v r F) (h : ownL S r = some l) : ∃ a vs, v = .ref a ∧ H a = some (.lst vs) ∧ DpAll K B vs l := by
  cases x with
  | im x => cases h
  | fr x =>
    cases x with
    | lst h1 r1 => cases h; exact ⟨_, _, rfl, h1, r1⟩
    | dct h1 r1 => cases h
    | set h1 r1 n => cases h
    | rows h1 r1 => cases h
  | pl x =>
    rename_i i
    simp only [ownL] at h
    cases e1 : S[i]? with
    | none => rw [e1] at h; cases h
    | some s =>
      rw [e1] at h
      obtain ⟨y, A1, As, A2, eA, es, sl, f⟩ := sr.at e1
      rw [x] at es
      cases es
      cases sl with
      | un => cases h
      | im z => cases h
      | ow z =>
        cases z with
        | lst h1 r1 => cases h; exact ⟨_, _, rfl, h1, r1⟩
        | dct h1 r1 => cases h
        | set h1 r1 n => cases h
        | rows h1 r1 => cases h
      | mu z =>
        cases z with
        | lst h1 r1 => cases h; exact ⟨_, _, rfl, h1, r1⟩
        | dct h1 r1 => cases h
        | set h1 r1 n => cases h
        | rows h1 r1 => cases h
abbrev gAdd : Op := gOp hAdd
/-! ### int, list, tuple times an int -/
def repOk (n : Nat) (k : Int) : Bool := Nat.ble n 1000 && Nat.ble k.natAbs 1000
theorem repOk_iff {n : Nat} {k : Int} : repOk n k = true ↔ n ≤ 1000 ∧ -1000 ≤ k ∧ k ≤ 1000 := by
  unfold repOk
  rw [Bool.and_eq_true, Nat.ble_eq, Nat.ble_eq]
  omega
def gRep : Op := fun S rs => match rs with
  | [a, b] => match ownL S a, vw S b with
    | some x, some (.int k) => if repOk x.length k then some (.fr (.lst (List.replicate k.toNat x).flatten)) else none
    | _, _ => none
  | _ => none
theorem dps_rep {K : PySem.W.Frag} {B : Hp} {vs : List V} {ds : List D} (r : DpAll K B vs ds) : ∀ m : Nat, DpAll K B (List.replicate m vs).flatten (List.replicate m ds).flatten
  | 0 => .nil
  | m + 1 => by
    rw [List.replicate_succ, List.replicate_succ, List.flatten_cons, List.flatten_cons]
    exact dps_append r (dps_rep r m)
theorem ok_rep {w : World} {K : PySem.W.Frag} : OpOk w K (RV2 rRep) gRep := by
  intro σ S A B H vs rs F r Q sr x ok e q
  unfold gRep at e
  split at e
  · rename_i a b
    cases x with
    | cons xa x =>
      cases x with
      | cons xb x =>
        cases x
        cases e1 : ownL S a with
        | none => rw [e1] at e; cases e
        | some la =>
          rw [e1] at e
          cases e2 : vw S b with
          | none => rw [e2] at e; cases e
          | some d =>
            rw [e2] at e
            cases d with
            | int k =>
              simp only at e
              split at e
              · rename_i hs
                cases e
                obtain ⟨a, vs, rfl, ha, ra⟩ := ownL_ok sr xa e1
                have vb := vw_ok sr xb ok.sub e2
                cases vb
                have hk := repOk_iff.mp hs
                have hlen := dps_length ra
                refine ⟨_, _, rfl, a, k, vs, rfl, rfl, ha, by omega, by omega, ?_, fun p hp => ?_⟩
                · have a1 : vs.length * k.toNat ≤ 1000 * 1000 := Nat.mul_le_mul (by omega) (by omega)
                  exact Nat.le_trans a1 (by decide)
                · have k0 := ok.right
                  obtain ⟨k2, s2⟩ := step_newA (o := .lst (List.replicate k.toNat vs).flatten) k0 hp sr.tracked
                  refine q _ _ _ [p] (.fr (.lst upd_same (dps_rep ra _))) (sr.step (Same.refl _) fun a ha o h => ?_) k2 ((Step.refl.sub fun a ha => List.mem_append_right _ ha).trans s2)
                  rw [upd_ne (ne_of_none h hp)]; exact h
              · cases e
            | _ => cases e
  · cases e
def hRepT : List D → Option Res
  | [.tuple x, .int k] => if decide (x ≠ [] ∧ 2 ≤ k ∧ k ≤ 1000 ∧ x.length ≤ 1000) then some (.d (.tuple (List.replicate k.toNat x).flatten)) else none
  | _ => none
theorem ok_repT {w : World} {K : PySem.W.Frag} : OpOk w K (RV2 (rRepT K)) (gOp hRepT) := gOp_ok fun B H vs ds res Q sb v e p => by
  unfold hRepT at e
  split at e
  · split at e
    · rename_i hs
      cases e
      obtain ⟨x, y, rfl, vx, vy⟩ := vws2 v
      cases vy
      cases vx with
      | tup h r =>
        have hk := of_decide_eq_true hs
        have hlen := dps_length r
        refine ⟨_, _, rfl, _, _, _, rfl, rfl, sqt_mono sb h, fun z => ?_, hk.2.1, hk.2.2.1, by rw [hlen]; exact hk.2.2.2, fun q hq => p.tup _ _ _ rfl hq (dps_rep r _)⟩
        subst z
        cases r
        exact hk.1 rfl
    · cases e
  · cases e
def gMul : Op := fun S rs => match gOp hMul S rs with
  | some r => some r
  | none => match gRep S rs with
    | some r => some r
    | none => gOp hRepT S rs
def rMulY (K : PySem.W.Frag) : L2.R2 := fun x y H Q => rMulX x y H Q ∨ (rRep x y H Q ∨ rRepT K x y H Q)
theorem op_mulY : OpR X (binaryOp .Mult) (rMulY X.K) := OpR.or op_mulX (OpR.or op_rep op_repT)
theorem ok_mulY {w : World} {K : PySem.W.Frag} : OpOk w K (RV2 (rMulY K)) gMul := (OpOk.or ok_mul (OpOk.or ok_rep ok_repT)).imp fun vs H Q h => by
  rcases h with ⟨x, y, e, h⟩ | ⟨x, y, e, h⟩ | ⟨x, y, e, h⟩
  · exact ⟨x, y, e, .inl h⟩
  · exact ⟨x, y, e, .inr (.inl h)⟩
  · exact ⟨x, y, e, .inr (.inr h)⟩
/-! ### comparisons -/
def sc (d : D) : Bool := match d with
  | .none => true
  | .bool _ => true
  | .int _ => true
  | .str _ => true
  | _ => false
def hEq : List D → Option Res
  | [a, b] => if SeqAt.shaped a && SeqAt.shaped b then some (.d (.bool (PyData.eqv a b))) else none
  | _ => none
def hNe : List D → Option Res
  | [a, b] => if SeqAt.shaped a && SeqAt.shaped b then some (.d (.bool (!PyData.eqv a b))) else none
  | _ => none
theorem ok_eq {w : World} {K : PySem.W.Frag} : OpOk w K (RV2 (rEqD K)) (gOp hEq) := gOp_ok fun B H vs ds res Q sb v e p => by
  unfold hEq at e
  split at e
  · split at e
    · rename_i hm
      cases e
      obtain ⟨x, y, rfl, vx, vy⟩ := vws2 v
      rw [Bool.and_eq_true] at hm
      exact ⟨_, _, rfl, _, _, vx.dp sb, vy.dp sb, hm.1, hm.2, p.val _ _ rfl (.bl _)⟩
    · cases e
  · cases e
theorem ok_ne {w : World} {K : PySem.W.Frag} : OpOk w K (RV2 (rNeD K)) (gOp hNe) := gOp_ok fun B H vs ds res Q sb v e p => by
  unfold hNe at e
  split at e
  · split at e
    · rename_i hm
      cases e
      obtain ⟨x, y, rfl, vx, vy⟩ := vws2 v
      rw [Bool.and_eq_true] at hm
      exact ⟨_, _, rfl, _, _, vx.dp sb, vy.dp sb, hm.1, hm.2, p.val _ _ rfl (.bl _)⟩
    · cases e
  · cases e
def hCmp (g : Int → Int → Bool) : List D → Option Res
  | [.int i, .int j] => some (.d (.bool (g i j)))
  | _ => none
theorem ok_cmp {w : World} {K : PySem.W.Frag} {g : Int → Int → Bool} : OpOk w K (RV2 (rI0 fun i j => .bl (g i j))) (gOp (hCmp g)) := gOp_ok fun B H vs ds res Q sb v e p => by
  unfold hCmp at e
  split at e
  · cases e
    obtain ⟨x, y, rfl, vx, vy⟩ := vws2 v
    cases vx; cases vy
    exact ⟨_, _, rfl, _, _, rfl, rfl, p.val _ _ rfl (.bl _)⟩
  · cases e
def hIsN : List D → Option Res
  | [.none, .none] => some (.d (.bool true))
  | [_, .none] => some (.d (.bool false))
  | _ => none
def hNotN : List D → Option Res
  | [.none, .none] => some (.d (.bool false))
  | [_, .none] => some (.d (.bool true))
  | _ => none
theorem ok_isN {w : World} {K : PySem.W.Frag} : OpOk w K (RV2 (fun x y H Q => y = .non ∧ Q (.bl (decide (x = .non))) H)) (gOp hIsN) := gOp_ok fun B H vs ds res Q sb v e p => by
  unfold hIsN at e
  split at e
  · cases e
    obtain ⟨x, y, rfl, vx, vy⟩ := vws2 v
    cases vx; cases vy
    exact ⟨_, _, rfl, rfl, p.val _ _ rfl (.bl _)⟩
  · rename_i d hd
    cases e
    obtain ⟨x, y, rfl, vx, vy⟩ := vws2 v
    cases vy
    refine ⟨_, _, rfl, rfl, p.val _ _ rfl ?_⟩
    cases vx <;> first | exact absurd rfl hd | exact .bl _
  · cases e
theorem ok_notN {w : World} {K : PySem.W.Frag} : OpOk w K (RV2 (fun x y H Q => y = .non ∧ Q (.bl (!decide (x = .non))) H)) (gOp hNotN) := gOp_ok fun B H vs ds res Q sb v e p => by
  unfold hNotN at e
  split at e
  · cases e
    obtain ⟨x, y, rfl, vx, vy⟩ := vws2 v
    cases vx; cases vy
    exact ⟨_, _, rfl, rfl, p.val _ _ rfl (.bl _)⟩
  · rename_i d hd
    cases e
    obtain ⟨x, y, rfl, vx, vy⟩ := vws2 v
    cases vy
    refine ⟨_, _, rfl, rfl, p.val _ _ rfl ?_⟩
    cases vx <;> first | exact absurd rfl hd | exact .bl _
  · cases e
/-! ### items, slices -/
def hIx : List D → Option Res
  | [.list l, .int i] => match atI l i with
    | some d => some (.d d)
    | none => none
  | [.tuple l, .int i] => match atI l i with
    | some d => some (.d d)
    | none => none
  | [.str z, .int i] => if szOk z.length then match atI z.cps.toList i with
    | some c => some (.d (.str ⟨#[c]⟩))
    | none => none else none
  | _ => none
theorem dps_atI {K : PySem.W.Frag} {B : Hp} {vs : List V} {ds : List D} {i : Int} {d : D} (r : DpAll K B vs ds) (h : atI ds i = some d) : ∃ v, atI vs i = some v ∧ Dp K B v d := by
  unfold atI at h ⊢
  rw [dps_length r]
  cases e : ixN ds.length i with
  | none => rw [e] at h; cases h
  | some j =>
    rw [e] at h
    exact dps_get r h
theorem ok_ix {w : World} {K : PySem.W.Frag} : OpOk w K (RV2 (rIx K)) (gOp hIx) := gOp_ok fun B H vs ds res Q sb v e p => by
  unfold hIx at e
  split at e
  · obtain ⟨x, y, rfl, vx, vy⟩ := vws2 v
    split at e
    · rename_i d ed
      cases e
      cases vy
      cases vx with
      | lst h r =>
        obtain ⟨z, h1, h2⟩ := dps_atI r ed
        exact ⟨_, _, rfl, .inl ⟨_, _, _, z, rfl, rfl, h, h1, p.val _ _ rfl h2⟩⟩
    · cases e
  · obtain ⟨x, y, rfl, vx, vy⟩ := vws2 v
    split at e
    · rename_i d ed
      cases e
      cases vy
      cases vx with
      | tup h r =>
        obtain ⟨z, h1, h2⟩ := dps_atI r ed
        exact ⟨_, _, rfl, .inr (.inl ⟨_, _, _, z, rfl, rfl, sqt_mono sb h, h1, p.val _ _ rfl h2⟩)⟩
    · cases e
  · obtain ⟨x, y, rfl, vx, vy⟩ := vws2 v
    split at e
    · rename_i hs
      split at e
      · rename_i c ec
        cases e
        cases vx; cases vy
        exact ⟨_, _, rfl, .inr (.inr ⟨_, _, c, rfl, rfl, szOk_line hs, ec, p.val _ _ rfl (.str _)⟩)⟩
      · cases e
    · cases e
  · cases e
end
end Fl
/-! Fl: built-ins, dicts, sets, tests. -/
namespace Fl
open PySem L2

/-! ### slices -/
def cutD {α : Type} (l : List α) (lo hi : Option Int) : List α := (l.drop (HT.sIx l.length 0 lo)).take (HT.sIx l.length l.length hi - HT.sIx l.length 0 lo)
def hCut (x : D) (lo hi : Option Int) : Option Res := match x with
  | .list l => some (.l (cutD l lo hi))
  | .tuple l => some (.d (.tuple (cutD l lo hi)))
  | .str z => if szOk z.length then some (.d (.str (cutS z lo hi))) else none
  | _ => none
def rSlX (K : PySem.W.Frag) : V → Option Int → Option Int → Hp → VK → Prop := fun x lo hi H Q => rSlL K x lo hi H Q ∨ (rSlA K x lo hi H Q ∨ rSlS x lo hi H Q)
theorem sl_X {X : L2.Cx} : L2.SlR X (rSlX X.K) := sl_list.or (sl_tupA.or sl_str)
theorem dps_cut {K : PySem.W.Frag} {B : Hp} {vs : List V} {ds : List D} (r : DpAll K B vs ds) (lo hi : Option Int) : DpAll K B (cutV vs lo hi) (cutD ds lo hi) := by
  unfold cutV cutD
  rw [dps_length r]
  exact dps_take _ (dps_drop _ r)
theorem cut_ok {K : PySem.W.Frag} {B H : Hp} {x : V} {d : D} {lo hi : Option Int} {res : Res} {Q : VK} (sb : Same B H) (v : Vw K B H x d) (e : hCut d lo hi = some res) (p : RPost K B H Q res) : rSlX K x lo hi H Q := by
  unfold hCut at e
  split at e
  · cases e
    cases v with
    | lst h r => exact .inl ⟨_, _, rfl, h, fun q hq => p.lst _ _ _ rfl hq (dps_cut r lo hi)⟩
  · cases e
    cases v with
    | @tup a vs ds h r =>
      refine .inr (.inl ⟨_, _, rfl, sqt_mono sb h, fun z => ?_, fun _ q hq => p.tup _ _ _ rfl hq (dps_cut r lo hi)⟩)
      refine p.val _ _ rfl ?_
      have e : cutV vs lo hi = vs := by
        unfold cutV
        rw [z.1, z.2, List.drop_zero, Nat.sub_zero, List.take_length]
      have r2 := dps_cut r lo hi
      rw [e] at r2
      exact .tup h r2
  · split at e
    · rename_i hs
      cases e
      cases v
      exact .inr (.inr ⟨_, rfl, szOk_line hs, p.val _ _ rfl (.str _)⟩)
    · cases e
  · cases e

abbrev SO := List Sl → Option (Option Int × List Sl)
def To (w : World) (K : PySem.W.Frag) (f : SO) : TO := fun σ H Q => ∃ S A B r S', SR w K B H σ S A ∧ Ok A B H ∧ f S = some (r, S') ∧ ∀ H', TPo w K σ S A B H S' H' → Q r H'
def oN : SO := fun S => some (none, S)
def oI (g : SE) : SO := fun S => match g S with
  | some (r, S') => match vw S' r with
    | some (.int i) => some (some i, S')
    | _ => none
  | none => none
section
variable {X : Cx} {e : Expr} {g : SE}
theorem o_none : PO X none (To X.w X.K oN) := by
  refine ⟨fun pins s σ H Q I h => po_none.run pins s σ H Q I ?_⟩
  obtain ⟨S, A, B, r, S', sr, ok, e, q⟩ := h
  cases e
  exact q H ⟨A, B, Go.same sr ok⟩
theorem o_some (he : E X e g) : PO X (some e) (To X.w X.K (oI g)) := by
  refine ⟨fun pins s σ H Q I h => (po_some he).run pins s σ H Q I ?_⟩
  obtain ⟨S, A, B, r, S', sr, ok, e, q⟩ := h
  unfold oI at e
  cases e1 : g S with
  | none => rw [e1] at e; cases e
  | some p =>
    obtain ⟨r1, S1⟩ := p
    rw [e1] at e
    simp only at e
    split at e
    · rename_i i ei
      cases e
      refine ⟨S, A, B, r1, _, sr, ok, e1, fun v H1 ⟨A1, B1, F1, g1, x1⟩ => ?_⟩
      have z := vw_ok g1.sr x1 g1.ok.sub ei
      cases z
      exact ⟨i, rfl, q H1 ⟨A1, B1, g1.drop⟩⟩
    · cases e
end
def eSl (f : SE) (p q : SO) : SE := fun S => match f S with
  | some (r, S1) => match p S1 with
    | some (lo, S2) => match q S2 with
      | some (hi, S3) => match vw S3 r with
        | some d => match hCut d lo hi with
          | some res => some (res.rs, S3)
          | none => none
        | none => none
      | none => none
    | none => none
  | none => none
section
variable {w : World} {K : PySem.W.Frag} {σ : L2.St} {S S1 : List Sl} {A A1 : List Addr} {B B1 H H1 : Hp} {F : List Addr}
/-- the end of an operation at a state -/
theorem fin_res {res : Res} {S0 : List Sl} {A0 : List Addr} {B0 H0 : Hp} {Q : VK} (g : Go w K σ S0 A0 B0 H0 S A B H F) (q : ∀ v H', EPo w K σ S0 A0 B0 H0 res.rs S v H' → Q v H') : RPost K B H Q res := by
  have k0 := g.ok.right
  have s0 := g.st.sub (A'' := A) fun a ha => List.mem_append_right _ ha
  refine ⟨?_, ?_, ?_⟩
  · intro x v ee dd
    subst ee
    exact q v H ⟨A, B, [], g.drop, .im dd⟩
  · intro ds p vs ee hp dd
    subst ee
    obtain ⟨k2, s2⟩ := step_newB (o := .tup vs) k0 hp g.sr.tracked
    refine q _ _ ⟨A, _, [], ⟨g.sr.step s2.bx fun a ha o h => ?_, k2, s0.trans s2, g.mu⟩, .im (.tup (.inl (.inl upd_same)) (dps_mono s2.bx dd))⟩
    rw [upd_ne (ne_of_none h hp)]; exact h
  · intro ds p vs ee hp dd
    subst ee
    obtain ⟨k2, s2⟩ := step_newA (o := .lst vs) k0 hp g.sr.tracked
    refine q _ _ ⟨A, B, [p], ⟨g.sr.step (Same.refl _) fun a ha o h => ?_, k2, s0.trans s2, g.mu⟩, .fr (.lst upd_same dd)⟩
    rw [upd_ne (ne_of_none h hp)]; exact h
end
theorem e_sl {X : Cx} {a : Expr} {b c : Option Expr} {pos p2 : Pos} {f : SE} {p q : SO} (ha : E X a f) (hb : PO X b (To X.w X.K p)) (hc : PO X c (To X.w X.K q)) : E X (.Subscript a (.Slice b c none p2) pos) (eSl f p q) :=
  pe_weak (pe_slice sl_X ha hb hc) fun σ H Q z => by
    obtain ⟨S, A, B, r, S', sr, ok, e, q⟩ := z
    unfold eSl at e
    split at e
    · rename_i r1 S1 e1
      split at e
      · rename_i lo S2 e2
        split at e
        · rename_i hi S3 e3
          split at e
          · rename_i d ed
            split at e
            · rename_i res er
              cases e
              refine ⟨S, A, B, r1, S1, sr, ok, e1, fun v H1 ⟨A1, B1, F1, g1, x1⟩ => ?_⟩
              refine ⟨S1, A1, B1, lo, S2, g1.sr, g1.ok0, e2, fun H2 ⟨A2, B2, g2⟩ => ?_⟩
              obtain ⟨h2, b2, k2⟩ := g1.then_ x1.tracked g2
              have x2 := x1.step b2 k2
              refine ⟨S2, A2, B2, hi, _, g2.sr, g2.ok0, e3, fun H3 ⟨A3, B3, g3⟩ => ?_⟩
              obtain ⟨h3, b3, k3⟩ := h2.then_ (by rw [List.append_nil]; exact x2.tracked) g3
              rw [List.append_nil] at k3
              have x3 := x2.step b3 k3
              exact cut_ok h3.ok.sub (vw_ok h3.sr x3 h3.ok.sub ed) er (fin_res h3 q)
            · cases e
          · cases e
        · cases e
      · cases e
    · cases e
/-! ### built-in functions -/
def hLen : List D → Option Res
  | [.list l] => some (.d (.int l.length))
  | [.tuple l] => some (.d (.int l.length))
  | [.str z] => if szOk z.length then some (.d (.int z.length)) else none
  | _ => none
theorem ok_len {w : World} {K : PySem.W.Frag} : OpOk w K (fun xs H Q => ∃ x n, xs = [x] ∧ LenV K x H n ∧ Q (.int n) H) (gOp hLen) := gOp_ok fun B H vs ds res Q sb v e p => by
  unfold hLen at e
  split at e
  · cases e
    obtain ⟨x, rfl, vx⟩ := vws1 v
    cases vx with
    | lst h r => exact ⟨_, _, rfl, .inl ⟨_, h, (dps_length r).symm⟩, p.val _ _ rfl (.int _)⟩
  · cases e
    obtain ⟨x, rfl, vx⟩ := vws1 v
    cases vx with
    | tup h r => exact ⟨_, _, rfl, .inr ⟨_, sqt_mono sb h, (dps_length r).symm⟩, p.val _ _ rfl (.int _)⟩
  · split at e
    · rename_i hs
      cases e
      obtain ⟨x, rfl, vx⟩ := vws1 v
      cases vx
      exact ⟨_, _, rfl, ⟨szOk_line hs, rfl⟩, p.val _ _ rfl (.int _)⟩
    · cases e
  · cases e
def hInt : List D → Option Res
  | [.int i] => some (.d (.int i))
  | _ => none
theorem ok_int {w : World} {K : PySem.W.Frag} : OpOk w K (fun xs H Q => (∃ i, xs = [.int i] ∧ Q (.int i) H) ∨ ∃ k, xs = [.bl k] ∧ Q (.int (if k then 1 else 0)) H) (gOp hInt) := gOp_ok fun B H vs ds res Q sb v e p => by
  unfold hInt at e
  split at e
  · cases e
    obtain ⟨x, rfl, vx⟩ := vws1 v
    cases vx
    exact .inl ⟨_, rfl, p.val _ _ rfl (.int _)⟩
  · cases e
def hAbs : List D → Option Res
  | [.int i] => some (.d (.int (if i < 0 then -i else i)))
  | _ => none
theorem ok_abs {w : World} {K : PySem.W.Frag} : OpOk w K (fun xs H Q => ∃ i, xs = [.int i] ∧ Q (.int (if i < 0 then -i else i)) H) (gOp hAbs) := gOp_ok fun B H vs ds res Q sb v e p => by
  unfold hAbs at e
  split at e
  · cases e
    obtain ⟨x, rfl, vx⟩ := vws1 v
    cases vx
    exact ⟨_, rfl, p.val _ _ rfl (.int _)⟩
  · cases e
def hGcd : List D → Option Res
  | [.int i, .int j] => some (.d (.int ((Nat.gcd i.natAbs j.natAbs : Nat) : Int)))
  | _ => none
theorem ok_gcd {w : World} {K : PySem.W.Frag} : OpOk w K rGcd (gOp hGcd) := gOp_ok fun B H vs ds res Q sb v e p => by
  unfold hGcd at e
  split at e
  · cases e
    obtain ⟨x, y, rfl, vx, vy⟩ := vws2 v
    cases vx; cases vy
    exact ⟨_, _, rfl, p.val _ _ rfl (.int _)⟩
  · cases e
/-- the ints of a list of data -/
def toInts : List D → Option (List Int)
  | [] => some []
  | .int i :: r => match toInts r with
    | some l => some (i :: l)
    | none => none
  | _ => none
theorem toInts_eq : ∀ {ds : List D} {ns : List Int}, toInts ds = some ns → ds = ns.map PyData.int
  | [], ns, h => by cases h; rfl
  | .int i :: r, ns, h => by
    unfold toInts at h
    split at h
    · rename_i l e
      cases h
      rw [toInts_eq e]; rfl
    · cases h
theorem toInts_map : ∀ ns : List Int, toInts (ns.map PyData.int) = some ns
  | [] => rfl
  | n :: ns => by
    show (match toInts (ns.map PyData.int) with | some l => some (n :: l) | none => none) = _
    rw [toInts_map ns]
def minI : List Int → Option Int
  | [] => none
  | x :: r => some (r.foldl (fun m y => if y < m then y else m) x)
def maxI : List Int → Option Int
  | [] => none
  | x :: r => some (r.foldl (fun m y => if y > m then y else m) x)
theorem foldMin : ∀ (r : List Int) (x : Int), r.foldl (fun m y => if y < m then y else m) x ≤ x ∧ (∀ y ∈ r, r.foldl (fun m y => if y < m then y else m) x ≤ y) ∧ (r.foldl (fun m y => if y < m then y else m) x = x ∨ r.foldl (fun m y => if y < m then y else m) x ∈ r)
  | [], x => ⟨Int.le_refl _, fun _ h => by simp at h, .inl rfl⟩
  | a :: r, x => by
    obtain ⟨h1, h2, h3⟩ := foldMin r (if a < x then a else x)
    rw [List.foldl_cons]
    refine ⟨?_, fun y hy => ?_, ?_⟩
    · split at h1 <;> split <;> omega
    · rcases List.mem_cons.mp hy with e | hy
      · subst e
        split at h1 <;> split <;> omega
      · exact h2 y hy
    · rcases h3 with h3 | h3
      · by_cases q : a < x
        · rw [if_pos q] at h3 ⊢
          exact .inr (by rw [h3]; exact List.mem_cons_self)
        · rw [if_neg q] at h3 ⊢
          exact .inl h3
      · exact .inr (List.mem_cons_of_mem _ h3)
theorem foldMax : ∀ (r : List Int) (x : Int), x ≤ r.foldl (fun m y => if y > m then y else m) x ∧ (∀ y ∈ r, y ≤ r.foldl (fun m y => if y > m then y else m) x) ∧ (r.foldl (fun m y => if y > m then y else m) x = x ∨ r.foldl (fun m y => if y > m then y else m) x ∈ r)
  | [], x => ⟨Int.le_refl _, fun _ h => by simp at h, .inl rfl⟩
  | a :: r, x => by
    obtain ⟨h1, h2, h3⟩ := foldMax r (if a > x then a else x)
    rw [List.foldl_cons]
    refine ⟨?_, fun y hy => ?_, ?_⟩
    · split at h1 <;> split <;> omega
    · rcases List.mem_cons.mp hy with e | hy
      · subst e
        split at h1 <;> split <;> omega
      · exact h2 y hy
    · rcases h3 with h3 | h3
      · by_cases q : a > x
        · rw [if_pos q] at h3 ⊢
          exact .inr (by rw [h3]; exact List.mem_cons_self)
        · rw [if_neg q] at h3 ⊢
          exact .inl h3
      · exact .inr (List.mem_cons_of_mem _ h3)
theorem minI_is {ns : List Int} {m k : Int} (h : minI ns = some m) (hk : k ∈ ns) (hl : ∀ y ∈ ns, k ≤ y) : k = m := by
  cases ns with
  | nil => cases h
  | cons x r =>
    cases h
    obtain ⟨h1, h2, h3⟩ := foldMin r x
    have q : r.foldl (fun m y => if y < m then y else m) x ∈ x :: r := h3.elim (fun e => by rw [e]; exact List.mem_cons_self) (List.mem_cons_of_mem _)
    have := hl _ q
    rcases List.mem_cons.mp hk with e | hk
    · subst e; omega
    · have := h2 k hk; omega
theorem maxI_is {ns : List Int} {m k : Int} (h : maxI ns = some m) (hk : k ∈ ns) (hl : ∀ y ∈ ns, y ≤ k) : k = m := by
  cases ns with
  | nil => cases h
  | cons x r =>
    cases h
    obtain ⟨h1, h2, h3⟩ := foldMax r x
    have q : r.foldl (fun m y => if y > m then y else m) x ∈ x :: r := h3.elim (fun e => by rw [e]; exact List.mem_cons_self) (List.mem_cons_of_mem _)
    have := hl _ q
    rcases List.mem_cons.mp hk with e | hk
    · subst e; omega
    · have := h2 k hk; omega
def hMin : List D → Option Res
  | [.int i, .int j] => some (.d (.int (if j < i then j else i)))
  | [.list l] => match toInts l with
    | some ns => match minI ns with
      | some m => some (.d (.int m))
      | none => none
    | none => none
  | _ => none
def hMax : List D → Option Res
  | [.int i, .int j] => some (.d (.int (if j > i then j else i)))
  | [.list l] => match toInts l with
    | some ns => match maxI ns with
      | some m => some (.d (.int m))
      | none => none
    | none => none
  | _ => none
def rMinX (K : PySem.W.Frag) : List V → Hp → VK → Prop := fun xs H Q => (∃ i j, xs = [.int i, .int j] ∧ Q (.int (if j < i then j else i)) H) ∨ rMin K xs H Q
def rMaxX (K : PySem.W.Frag) : List V → Hp → VK → Prop := fun xs H Q => (∃ i j, xs = [.int i, .int j] ∧ Q (.int (if j > i then j else i)) H) ∨ rMax K xs H Q
theorem ok_min {w : World} {K : PySem.W.Frag} : OpOk w K (rMinX K) (gOp hMin) := gOp_ok fun B H vs ds res Q sb v e p => by
  unfold hMin at e
  split at e
  · cases e
    obtain ⟨x, y, rfl, vx, vy⟩ := vws2 v
    cases vx; cases vy
    exact .inl ⟨_, _, rfl, p.val _ _ rfl (.int _)⟩
  · obtain ⟨x, rfl, vx⟩ := vws1 v
    split at e
    · rename_i ns en
      split at e
      · rename_i m em
        cases e
        cases vx with
        | lst h r =>
          rw [toInts_eq en] at r
          rw [dps_ints_inv r] at h
          refine .inr ⟨_, ns, rfl, h, ?_, fun k hk hl => ?_⟩
          · cases ns with
            | nil => cases em
            | cons _ _ => exact Nat.succ_pos _
          · rw [minI_is em hk hl]; exact p.val _ _ rfl (.int _)
      · cases e
    · cases e
  · cases e
theorem ok_max {w : World} {K : PySem.W.Frag} : OpOk w K (rMaxX K) (gOp hMax) := gOp_ok fun B H vs ds res Q sb v e p => by
  unfold hMax at e
  split at e
  · cases e
    obtain ⟨x, y, rfl, vx, vy⟩ := vws2 v
    cases vx; cases vy
    exact .inl ⟨_, _, rfl, p.val _ _ rfl (.int _)⟩
  · obtain ⟨x, rfl, vx⟩ := vws1 v
    split at e
    · rename_i ns en
      split at e
      · rename_i m em
        cases e
        cases vx with
        | lst h r =>
          rw [toInts_eq en] at r
          rw [dps_ints_inv r] at h
          refine .inr ⟨_, ns, rfl, h, ?_, fun k hk hl => ?_⟩
          · cases ns with
            | nil => cases em
            | cons _ _ => exact Nat.succ_pos _
          · rw [maxI_is em hk hl]; exact p.val _ _ rfl (.int _)
      · cases e
    · cases e
  · cases e
def hSum : List D → Option Res
  | [.list l] => match toInts l with
    | some ns => some (.d (.int ns.sum))
    | none => none
  | _ => none
theorem ok_sum {w : World} {K : PySem.W.Frag} : OpOk w K (rSum K) (gOp hSum) := gOp_ok fun B H vs ds res Q sb v e p => by
  unfold hSum at e
  split at e
  · obtain ⟨x, rfl, vx⟩ := vws1 v
    split at e
    · rename_i ns en
      cases e
      cases vx with
      | lst h r =>
        rw [toInts_eq en] at r
        rw [dps_ints_inv r] at h
        exact ⟨_, ns, rfl, h, p.val _ _ rfl (.int _)⟩
    · cases e
  · cases e
def sortI (ns : List Int) : List Int := ns.mergeSort fun a b => decide (a ≤ b)
theorem sortI_perm (ns : List Int) : (sortI ns).Perm ns := List.mergeSort_perm ns _
theorem sortI_sorted (ns : List Int) : (sortI ns).Pairwise (· ≤ ·) := by
  have h := List.pairwise_mergeSort (le := fun (a b : Int) => decide (a ≤ b)) (fun a b c h1 h2 => by simp only [decide_eq_true_eq] at *; omega) (fun a b => by simp only [Bool.or_eq_true, decide_eq_true_eq]; omega) ns
  exact h.imp fun h => of_decide_eq_true h
theorem sortI_is {ns ns' : List Int} (p : ns'.Perm ns) (h : ns'.Pairwise (· ≤ ·)) : ns' = sortI ns := PySem.W.ksm_same (p.trans (sortI_perm ns).symm) h (sortI_sorted ns)
def hSorted : List D → Option Res
  | [.list l] => match toInts l with
    | some ns => some (.l ((sortI ns).map PyData.int))
    | none => none
  | _ => none
theorem ok_sorted {w : World} {K : PySem.W.Frag} : OpOk w K (rSortedI K) (gOp hSorted) := gOp_ok fun B H vs ds res Q sb v e p => by
  unfold hSorted at e
  split at e
  · obtain ⟨x, rfl, vx⟩ := vws1 v
    split at e
    · rename_i ns en
      cases e
      cases vx with
      | lst h r =>
        rw [toInts_eq en] at r
        rw [dps_ints_inv r] at h
        exact ⟨_, ns, rfl, h, fun ns' q hp hs hq => p.lst _ _ _ rfl hq (by rw [sortI_is hp hs]; exact dps_ints _)⟩
    · cases e
  · cases e
def hTuple : List D → Option Res
  | [.list l] => some (.d (.tuple l))
  | [.tuple l] => some (.d (.tuple l))
  | _ => none
theorem ok_tuple {w : World} {K : PySem.W.Frag} : OpOk w K (fun xs H Q => ∃ p ys, xs = [.ref p] ∧ ((SqL K H p ys ∧ ∀ l, H l = none → Q (.ref l) (upd H l (.tup ys))) ∨ (SqT K H p ys ∧ Q (.ref p) H))) (gOp hTuple) := gOp_ok fun B H vs ds res Q sb v e p => by
  unfold hTuple at e
  split at e
  · cases e
    obtain ⟨x, rfl, vx⟩ := vws1 v
    cases vx with
    | lst h r => exact ⟨_, _, rfl, .inl ⟨h, fun q hq => p.tup _ _ _ rfl hq r⟩⟩
  · cases e
    obtain ⟨x, rfl, vx⟩ := vws1 v
    cases vx with
    | tup h r => exact ⟨_, _, rfl, .inr ⟨sqt_mono sb h, p.val _ _ rfl (.tup h r)⟩⟩
  · cases e
def hList : List D → Option Res
  | [.list l] => some (.l l)
  | [.tuple l] => some (.l l)
  | _ => none
theorem ok_list {w : World} {K : PySem.W.Frag} : OpOk w K (fun xs H Q => ∃ p ys, xs = [.ref p] ∧ (SqL K H p ys ∨ SqT K H p ys) ∧ ∀ l, H l = none → Q (.ref l) (upd H l (.lst ys))) (gOp hList) := gOp_ok fun B H vs ds res Q sb v e p => by
  unfold hList at e
  split at e
  · cases e
    obtain ⟨x, rfl, vx⟩ := vws1 v
    cases vx with
    | lst h r => exact ⟨_, _, rfl, .inl h, fun q hq => p.lst _ _ _ rfl hq r⟩
  · cases e
    obtain ⟨x, rfl, vx⟩ := vws1 v
    cases vx with
    | tup h r => exact ⟨_, _, rfl, .inr (sqt_mono sb h), fun q hq => p.lst _ _ _ rfl hq r⟩
  · cases e
/-! ### isinstance -/
def tyN : D → String
  | .none => "NoneType"
  | .bool _ => "bool"
  | .int _ => "int"
  | .str _ => "str"
  | .list _ => "list"
  | .tuple _ => "tuple"
  | .dict _ => "dict"
/-- isinstance(d, T) for the built-in T -/
def isT : D → String → Option Bool
  | .bool _, T => if T = "bool" ∨ T = "int" then some true else if T = "str" ∨ T = "list" ∨ T = "tuple" then some false else none
  | d, T => if T = "int" ∨ T = "bool" ∨ T = "str" ∨ T = "list" ∨ T = "tuple" then some (decide (tyN d = T)) else none
def hIsi (T : String) : List D → Option Res
  | [d] => match isT d T with
    | some b => some (.d (.bool b))
    | none => none
  | _ => none
theorem kitB_is {n T : String} (hn : n = "NoneType" ∨ n = "bool" ∨ n = "int" ∨ n = "str" ∨ n = "list" ∨ n = "tuple") (hT : T = "int" ∨ T = "bool" ∨ T = "str" ∨ T = "list" ∨ T = "tuple") : kitB n T = some (decide (n = T) || (decide (n = "bool") && decide (T = "int"))) := by
  rcases hn with rfl | rfl | rfl | rfl | rfl | rfl <;> rcases hT with rfl | rfl | rfl | rfl | rfl <;> decide +kernel
theorem ok_isi {w : World} {K : PySem.W.Frag} {T : String} : OpOk w K (fun vs H Q => ∃ x, vs = [x] ∧ rIsi K [x, .ty T] H Q) (gOp (hIsi T)) := gOp_ok fun B H vs ds res Q sb v e p => by
  unfold hIsi at e
  split at e
  · rename_i d
    obtain ⟨x, rfl, vx⟩ := vws1 v
    split at e
    · rename_i b eb
      cases e
      have key : ∃ t, TyX K H x (.type t) ∧ kitB t T = some b := by
        have fin : ∀ {n : String}, (n = "NoneType" ∨ n = "bool" ∨ n = "int" ∨ n = "str" ∨ n = "list" ∨ n = "tuple") → (T = "int" ∨ T = "bool" ∨ T = "str" ∨ T = "list" ∨ T = "tuple") → n ≠ "bool" → b = decide (n = T) → kitB n T = some b := fun hn hT hb e => by
          rw [kitB_is hn hT, e, decide_eq_false hb, Bool.false_and, Bool.or_false]
        cases vx with
        | bl c =>
          refine ⟨"bool", .base (.bl c), ?_⟩
          simp only [isT] at eb
          split at eb
          · rename_i hT
            cases eb
            rcases hT with rfl | rfl <;> decide +kernel
          · split at eb
            · rename_i hT
              cases eb
              rcases hT with rfl | rfl | rfl <;> decide +kernel
            · cases eb
        | non =>
          simp only [isT] at eb
          split at eb
          · rename_i hT
            cases eb
            exact ⟨"NoneType", .base .non, fin (by simp) hT (by decide) rfl⟩
          · cases eb
        | int i =>
          simp only [isT] at eb
          split at eb
          · rename_i hT
            cases eb
            exact ⟨"int", .base (.int i), fin (by simp) hT (by decide) rfl⟩
          · cases eb
        | str s =>
          simp only [isT] at eb
          split at eb
          · rename_i hT
            cases eb
            exact ⟨"str", .base (.str s), fin (by simp) hT (by decide) rfl⟩
          · cases eb
        | lst h r =>
          simp only [isT] at eb
          split at eb
          · rename_i hT
            cases eb
            refine ⟨"list", ?_, fin (by simp) hT (by decide) rfl⟩
            rcases h with (h | ⟨o, h⟩) | ⟨o, its, n, h1, h2, _⟩
            · exact .base (.lst h)
            · exact .base (.frz h)
            · exact .kList h1 h2
          · cases eb
        | tup h r =>
          simp only [isT] at eb
          split at eb
          · rename_i hT
            cases eb
            refine ⟨"tuple", ?_, fin (by simp) hT (by decide) rfl⟩
            rcases sqt_mono sb h with (h | ⟨o, h⟩) | ⟨o, its, n, h1, h2, _⟩
            · exact .base (.tup h)
            · exact .fTuple h
            · exact .kTuple h1 h2
          · cases eb
      obtain ⟨t, k1, k2⟩ := key
      exact ⟨x, rfl, x, .ty T, _, _, b, rfl, .ty T, k1, kit_ty k2, p.val _ _ rfl (.bl _)⟩
    · cases e
  · cases e
section
variable {X : Cx} {a : Expr} {f : SE} {pos p pT : Pos} {x : Str} {T : String}
theorem e_isi (hg : Gl X "isinstance") (hm : X.mg "isinstance" = none) (hgT : Gl X x) (hmT : X.mg x = none) (hvT : bootBuiltins x = some (.type T)) (ha : E X a f) (hxn : x ≠ "__name__" := by decide) (hxd : (x == ("__debug__" : Str)) = false := by decide)
    (h1 : starEach [a, .Name x pT] X.env = (false, eval a X.env) :: starEach [.Name x pT] X.env := by rfl) (h2 : (backTo pos (starEach [.Name x pT] X.env)).any (·.1) = false := by rfl) :
    E X (.Call (.Name "isinstance" p) [a, .Name x pT] [] pos) (opS (gOp (hIsi T)) (sCons f sNil)) :=
  pe_weak (pe_callB call_isi hg hm (by decide +kernel) (pa_cons ha (pa_cons (pe_bltn (v := .ty T) hgT hmT hvT rfl hxn hxd) pa_nil) h1) (by decide) (by decide) h1 h2) fun σ H Q z =>
    (ta_one (op_T ok_isi z)).mono fun x H1 ⟨x', e, q⟩ => by cases e; exact q
end
end Fl
/-! Fl: tests, dicts, sets. -/
namespace Fl
open PySem L2

/-! ### tests -/
def tB' (f : SE) : ST := fun S => match f S with
  | some (.im (.bool b), S') => some (b, S')
  | _ => none
def tNot' (t : ST) : ST := fun S => match t S with
  | some (b, S') => some (!b, S')
  | none => none
def tAnd' (t u : ST) : ST := fun S => match t S with
  | some (true, S') => u S'
  | some (false, S') => some (false, S')
  | none => none
def tOr' (t u : ST) : ST := fun S => match t S with
  | some (true, S') => some (true, S')
  | some (false, S') => u S'
  | none => none
def eNot (f : SE) : SE := fun S => match f S with
  | some (.im (.bool b), S') => some (.im (.bool (!b)), S')
  | _ => none
def eAnd (f g : SE) : SE := fun S => match f S with
  | some (.im (.bool true), S') => g S'
  | some (.im (.bool false), S') => some (.im (.bool false), S')
  | _ => none
def eOr (f g : SE) : SE := fun S => match f S with
  | some (.im (.bool true), S') => some (.im (.bool true), S')
  | some (.im (.bool false), S') => g S'
  | _ => none
def eIf (t : ST) (f g : SE) : SE := fun S => match t S with
  | some (true, S') => f S'
  | some (false, S') => g S'
  | none => none
section
variable {w : World} {K : PySem.W.Frag} {σ : L2.St} {H : Hp}
theorem RR.bl {B : Hp} {v : V} {b : Bool} {F : List Addr} (x : RR w K σ B H v (.im (.bool b)) F) : v = .bl b ∧ F = [] := by
  cases x with
  | im x => cases x; exact ⟨rfl, rfl⟩
theorem Tt.mono {f : ST} {Q Q' : Bool → Hp → Prop} (h : Tt w K f σ H Q) (q : ∀ v H', Q v H' → Q' v H') : Tt w K f σ H Q' := by
  obtain ⟨S, A, B, r, S', a, b, c, d⟩ := h
  exact ⟨S, A, B, r, S', a, b, c, fun H' p => q _ H' (d H' p)⟩
theorem t_tB {f : SE} {Q : Bool → Hp → Prop} (h : Tt w K (tB' f) σ H Q) : tB (T w K f) σ H Q := by
  obtain ⟨S, A, B, r, S', sr, ok, e, q⟩ := h
  unfold tB' at e
  split at e
  · rename_i b S1 e1
    cases e
    refine ⟨S, A, B, _, _, sr, ok, e1, fun v H1 ⟨A1, B1, F1, g1, x1⟩ => ?_⟩
    obtain ⟨rfl, rfl⟩ := x1.bl
    exact ⟨_, rfl, q H1 ⟨A1, B1, g1⟩⟩
  · cases e
theorem t_tnot {t : ST} {Q : Bool → Hp → Prop} (h : Tt w K (tNot' t) σ H Q) : tNot (Tt w K t) σ H Q := by
  obtain ⟨S, A, B, r, S', sr, ok, e, q⟩ := h
  unfold tNot' at e
  split at e
  · rename_i b S1 e1
    cases e
    exact ⟨S, A, B, _, _, sr, ok, e1, q⟩
  · cases e
theorem t_tand {t u : ST} {Q : Bool → Hp → Prop} (h : Tt w K (tAnd' t u) σ H Q) : tAnd (Tt w K t) (Tt w K u) σ H Q := by
  obtain ⟨S, A, B, r, S', sr, ok, e, q⟩ := h
  unfold tAnd' at e
  split at e
  · rename_i S1 e1
    refine ⟨S, A, B, _, S1, sr, ok, e1, fun H1 ⟨A1, B1, g1⟩ => ?_⟩
    refine iteT ?_
    exact ⟨S1, A1, B1, r, S', g1.sr, g1.ok0, e, fun H2 ⟨A2, B2, g2⟩ => q H2 ⟨A2, B2, g1.seq g2⟩⟩
  · rename_i S1 e1
    cases e
    refine ⟨S, A, B, _, _, sr, ok, e1, fun H1 g => ?_⟩
    refine iteF ?_
    exact q H1 g
  · cases e
theorem t_tor {t u : ST} {Q : Bool → Hp → Prop} (h : Tt w K (tOr' t u) σ H Q) : tOr (Tt w K t) (Tt w K u) σ H Q := by
  obtain ⟨S, A, B, r, S', sr, ok, e, q⟩ := h
  unfold tOr' at e
  split at e
  · rename_i S1 e1
    cases e
    refine ⟨S, A, B, _, _, sr, ok, e1, fun H1 g => ?_⟩
    refine iteT ?_
    exact q H1 g
  · rename_i S1 e1
    refine ⟨S, A, B, _, S1, sr, ok, e1, fun H1 ⟨A1, B1, g1⟩ => ?_⟩
    refine iteF ?_
    exact ⟨S1, A1, B1, r, S', g1.sr, g1.ok0, e, fun H2 ⟨A2, B2, g2⟩ => q H2 ⟨A2, B2, g1.seq g2⟩⟩
  · cases e
theorem t_enot {f : SE} {Q : VK} (h : T w K (eNot f) σ H Q) : tNotV (T w K f) σ H Q := by
  obtain ⟨S, A, B, r, S', sr, ok, e, q⟩ := h
  unfold eNot at e
  split at e
  · rename_i b S1 e1
    cases e
    refine ⟨S, A, B, _, _, sr, ok, e1, fun v H1 ⟨A1, B1, F1, g1, x1⟩ => ?_⟩
    obtain ⟨rfl, rfl⟩ := x1.bl
    exact ⟨_, rfl, q _ H1 ⟨A1, B1, [], g1, .im (.bl _)⟩⟩
  · cases e
theorem t_eand {f g : SE} {Q : VK} (h : T w K (eAnd f g) σ H Q) : tAndV (T w K f) (T w K g) σ H Q := by
  obtain ⟨S, A, B, r, S', sr, ok, e, q⟩ := h
  unfold eAnd at e
  split at e
  · rename_i S1 e1
    refine ⟨S, A, B, _, S1, sr, ok, e1, fun v H1 ⟨A1, B1, F1, g1, x1⟩ => ?_⟩
    obtain ⟨rfl, rfl⟩ := x1.bl
    refine ⟨true, rfl, ?_⟩
    refine iteT ?_
    exact ⟨S1, A1, B1, r, S', g1.sr, g1.ok0, e, fun v H2 ⟨A2, B2, F2, g2, x2⟩ => q v H2 ⟨A2, B2, F2, g1.seq g2, x2⟩⟩
  · rename_i S1 e1
    cases e
    refine ⟨S, A, B, _, _, sr, ok, e1, fun v H1 ⟨A1, B1, F1, g1, x1⟩ => ?_⟩
    obtain ⟨rfl, rfl⟩ := x1.bl
    refine ⟨false, rfl, ?_⟩
    refine iteF ?_
    exact q _ H1 ⟨A1, B1, [], g1, .im (.bl _)⟩
  · cases e
theorem t_eor {f g : SE} {Q : VK} (h : T w K (eOr f g) σ H Q) : tOrV (T w K f) (T w K g) σ H Q := by
  obtain ⟨S, A, B, r, S', sr, ok, e, q⟩ := h
  unfold eOr at e
  split at e
  · rename_i S1 e1
    cases e
    refine ⟨S, A, B, _, _, sr, ok, e1, fun v H1 ⟨A1, B1, F1, g1, x1⟩ => ?_⟩
    obtain ⟨rfl, rfl⟩ := x1.bl
    refine ⟨true, rfl, ?_⟩
    refine iteT ?_
    exact q _ H1 ⟨A1, B1, [], g1, .im (.bl _)⟩
  · rename_i S1 e1
    refine ⟨S, A, B, _, S1, sr, ok, e1, fun v H1 ⟨A1, B1, F1, g1, x1⟩ => ?_⟩
    obtain ⟨rfl, rfl⟩ := x1.bl
    refine ⟨false, rfl, ?_⟩
    refine iteF ?_
    exact ⟨S1, A1, B1, r, S', g1.sr, g1.ok0, e, fun v H2 ⟨A2, B2, F2, g2, x2⟩ => q v H2 ⟨A2, B2, F2, g1.seq g2, x2⟩⟩
  · cases e
theorem t_eif {t : ST} {f g : SE} {Q : VK} (h : T w K (eIf t f g) σ H Q) : tIf (Tt w K t) (T w K f) (T w K g) σ H Q := by
  obtain ⟨S, A, B, r, S', sr, ok, e, q⟩ := h
  unfold eIf at e
  split at e
  · rename_i S1 e1
    refine ⟨S, A, B, _, S1, sr, ok, e1, fun H1 ⟨A1, B1, g1⟩ => ?_⟩
    refine iteT ?_
    exact ⟨S1, A1, B1, r, S', g1.sr, g1.ok0, e, fun v H2 ⟨A2, B2, F2, g2, x2⟩ => q v H2 ⟨A2, B2, F2, g1.seq g2, x2⟩⟩
  · rename_i S1 e1
    refine ⟨S, A, B, _, S1, sr, ok, e1, fun H1 ⟨A1, B1, g1⟩ => ?_⟩
    refine iteF ?_
    exact ⟨S1, A1, B1, r, S', g1.sr, g1.ok0, e, fun v H2 ⟨A2, B2, F2, g2, x2⟩ => q v H2 ⟨A2, B2, F2, g1.seq g2, x2⟩⟩
  · cases e
end
section
variable {X : Cx} {a b c : Expr} {rest : List Expr} {pos : Pos} {f g : SE} {t u : ST}
theorem c_val (h : E X a f) (he : ∀ whole, isTrue a X.env whole = (do let v ← whole; standAt a.pos; holding [v] (truthy v)) := by intro _; rfl) : Et X a (tB' f) := pt_weak (pt_val h he) fun _ _ _ z => t_tB z
/-- a comparison as a test -/
theorem c_cmp {op : CmpOp} {r : V → V → Hp → VK → Prop} {o : Op} (ho : OpR X (compareOp op) r) (hg : OpOk X.w X.K (RV2 r) o) (hm : behindInMarks op b = false) (ha : E X a f) (hb : E X b g) :
    Et X (.Compare a [op] [b] pos) (tB' (opS o (sCons f (sCons g sNil)))) :=
  pt_weak (pt_cmpR ho ha hb hm) fun σ H Q z => by
    obtain ⟨S, A, B, r, S', z⟩ := t_tB z
    exact (ta_two (op_T hg ⟨S, A, B, r, S', z⟩)).mono fun x H1 z => z.mono fun y H2 ⟨x', y', e, q⟩ => by cases e; exact q
theorem c_not (h : Et X a t) : Et X (.UnaryOp .Not a pos) (tNot' t) := pt_weak (pt_not h) fun _ _ _ z => t_tnot z
theorem c_and1 (h : Et X a t) : Ew X (.BoolOp .And [a] pos) t := pw_and1 h
theorem c_or1 (h : Et X a t) : Ew X (.BoolOp .Or [a] pos) t := pw_or1 h
theorem c_and (h : Et X a t) (k : Ew X (.BoolOp .And (b :: rest) pos) u) : Ew X (.BoolOp .And (a :: b :: rest) pos) (tAnd' t u) := pw_weak (pw_and h k) fun _ _ _ z => t_tand z
theorem c_or (h : Et X a t) (k : Ew X (.BoolOp .Or (b :: rest) pos) u) : Ew X (.BoolOp .Or (a :: b :: rest) pos) (tOr' t u) := pw_weak (pw_or h k) fun _ _ _ z => t_tor z
theorem c_w {e : Expr} (h : Ew X e t) : Et X e t := PW.pt h
theorem e_one {op} (h : E X a f) : E X (.BoolOp op [a] pos) f := pe_one h
theorem e_and (h : E X a f) (k : E X (.BoolOp .And (b :: rest) pos) g) : E X (.BoolOp .And (a :: b :: rest) pos) (eAnd f g) := pe_weak (pe_and h k) fun _ _ _ z => t_eand z
theorem e_or (h : E X a f) (k : E X (.BoolOp .Or (b :: rest) pos) g) : E X (.BoolOp .Or (a :: b :: rest) pos) (eOr f g) := pe_weak (pe_or h k) fun _ _ _ z => t_eor z
theorem e_not (h : E X a f) : E X (.UnaryOp .Not a pos) (eNot f) := pe_weak (pe_not h) fun _ _ _ z => t_enot z
theorem e_if (hc : Et X c t) (ha : E X a f) (hb : E X b g) : E X (.IfExp c a b pos) (eIf t f g) := pe_weak (pe_ifExp hc ha hb) fun _ _ _ z => t_eif z
end

/-! ### x in y -/
def hIn (neg : Bool) : List D → Option Res
  | [d, .list l] => if SeqAt.shaped d && SeqAt.shaped (.list l) then some (.d (.bool (neg != l.any fun z => PyData.eqv z d))) else none
  | [d, .tuple l] => if sc d && l.all sc then some (.d (.bool (neg != l.any fun z => PyData.eqv z d))) else none
  | _ => none
def ownDct (S : List Sl) : Rs → Option (List (Key × D))
  | .fr (.dct l) => some l
  | .pl i => match S[i]? with
    | some (.ow (.dct l)) => some l
    | some (.mu (.dct l)) => some l
    | _ => none
  | _ => none
def ownSet (S : List Sl) : Rs → Option (List Int)
  | .fr (.set l) => some l
  | .pl i => match S[i]? with
    | some (.ow (.set l)) => some l
    | some (.mu (.set l)) => some l
    | _ => none
  | _ => none
def keyOf : D → Option Key
  | .int i => some (.inl i)
  | .str s => some (.inr s)
  | _ => none
def lookK (ds : List (Key × D)) (k : Key) : Option D := (ds.find? fun kv => decide (kv.1 = k)).map (·.2)
def putD (ds : List (Key × D)) (k : Key) (v : D) : List (Key × D) :=
  if (ds.any fun kv => decide (kv.1 = k)) = true then ds.map (fun kv => if kv.1 = k then (kv.1, v) else kv) else ds ++ [(k, v)]
def gInD (neg : Bool) : Op := fun S rs => match rs with
  | [a, b] => match vw S a, ownDct S b with
    | some d, some l => match keyOf d with
      | some k => some (.im (.bool (neg != (lookK l k).isSome)))
      | none => none
    | _, _ => none
  | _ => none
def gInS (neg : Bool) : Op := fun S rs => match rs with
  | [a, b] => match vw S a, ownSet S b with
    | some (.int i), some l => some (.im (.bool (neg != decide (i ∈ l))))
    | _, _ => none
  | _ => none
section
variable {w : World} {K : PySem.W.Frag} {σ : L2.St} {S : List Sl} {A : List Addr} {B H : Hp}
theorem kdp_look : ∀ {kvs : List (Key × V)} {ds : List (Key × D)} (k : Key), KDp K B kvs ds → (∃ v d, valV kvs k = some v ∧ lookK ds k = some d ∧ Dp K B v d) ∨ (valV kvs k = none ∧ lookK ds k = none)
  | _, _, k, .nil => .inr ⟨rfl, rfl⟩
  | _, _, k, .cons (k := k0) (v := v) (d := d) h r => by
    by_cases e : k0 = k
    · refine .inl ⟨v, d, by simp [valV, List.find?_cons, e], by simp [lookK, List.find?_cons, e], h⟩
    · rcases kdp_look k r with ⟨v', d', a, b, c⟩ | ⟨a, b⟩
      · exact .inl ⟨v', d', by simp [valV, List.find?_cons, e] at a ⊢; exact a, by simp [lookK, List.find?_cons, e] at b ⊢; exact b, c⟩
      · exact .inr ⟨by simp [valV, List.find?_cons, e] at a ⊢; exact a, by simp [lookK, List.find?_cons, e] at b ⊢; exact b⟩
theorem kdp_any : ∀ {kvs : List (Key × V)} {ds : List (Key × D)} (k : Key), KDp K B kvs ds → (kvs.any fun kv => decide (kv.1 = k)) = (ds.any fun kv => decide (kv.1 = k))
  | _, _, k, .nil => rfl
  | _, _, k, .cons h r => by rw [List.any_cons, List.any_cons, kdp_any k r]
theorem kdp_map {k : Key} {v : V} {d : D} (hd : Dp K B v d) : ∀ {kvs : List (Key × V)} {ds : List (Key × D)}, KDp K B kvs ds → KDp K B (kvs.map fun kv => if kv.1 = k then (kv.1, v) else kv) (ds.map fun kv => if kv.1 = k then (kv.1, d) else kv)
  | _, _, .nil => .nil
  | _, _, .cons (k := k0) h r => by
    rw [List.map_cons, List.map_cons]
    by_cases e : k0 = k
    · simp only [e, if_true]
      exact .cons hd (kdp_map hd r)
    · simp only [e, if_false]
      exact .cons h (kdp_map hd r)
theorem kdp_append : ∀ {kvs : List (Key × V)} {ds : List (Key × D)} {k : Key} {v : V} {d : D}, KDp K B kvs ds → Dp K B v d → KDp K B (kvs ++ [(k, v)]) (ds ++ [(k, d)])
  | _, _, _, _, _, .nil, h => .cons h .nil
  | _, _, _, _, _, .cons h r, q => .cons h (kdp_append r q)
theorem kdp_put {kvs : List (Key × V)} {ds : List (Key × D)} {k : Key} {v : V} {d : D} (r : KDp K B kvs ds) (h : Dp K B v d) : KDp K B (putK kvs k v) (putD ds k d) := by
  unfold putK putD
  rw [kdp_any k r]
  split
  · exact kdp_map h r
  · exact kdp_append r h
theorem ownDct_ok {v : V} {r : Rs} {F : List Addr} {l : List (Key × D)} (sr : SR w K B H σ S A) (x : RR w K σ B H v r F) (h : ownDct S r = some l) : ∃ a kvs, v = .ref a ∧ H a = some (.dK kvs) ∧ KDp K B kvs l := by
  cases x with
  | im x => cases h
  | fr x =>
    cases x with
    | lst h1 r1 => cases h
    | dct h1 r1 => cases h; exact ⟨_, _, rfl, h1, r1⟩
    | set h1 r1 n => cases h
    | rows h1 r1 => cases h
  | pl x =>
    rename_i i
    simp only [ownDct] at h
    cases e1 : S[i]? with
    | none => rw [e1] at h; cases h
    | some s =>
      rw [e1] at h
      obtain ⟨y, A1, As, A2, eA, es, sl, f⟩ := sr.at e1
      rw [x] at es
      cases es
      cases sl with
      | un => cases h
      | im z => cases h
      | ow z =>
        cases z with
        | lst h1 r1 => cases h
        | dct h1 r1 => cases h; exact ⟨_, _, rfl, h1, r1⟩
        | set h1 r1 n => cases h
        | rows h1 r1 => cases h
      | mu z =>
        cases z with
        | lst h1 r1 => cases h
        | dct h1 r1 => cases h; exact ⟨_, _, rfl, h1, r1⟩
        | set h1 r1 n => cases h
        | rows h1 r1 => cases h
theorem ownSet_ok {v : V} {r : Rs} {F : List Addr} {l : List Int} (sr : SR w K B H σ S A) (x : RR w K σ B H v r F) (h : ownSet S r = some l) : ∃ a f n, v = .ref a ∧ H a = some (SetO w a f n) ∧ (∀ k, f k = true ↔ k ∈ l) ∧ n = l.length := by
  cases x with
  | im x => cases h
  | fr x =>
    cases x with
    | lst h1 r1 => cases h
    | dct h1 r1 => cases h
    | set h1 r1 n => cases h; exact ⟨_, _, _, rfl, h1, r1, n⟩
    | rows h1 r1 => cases h
  | pl x =>
    rename_i i
    simp only [ownSet] at h
    cases e1 : S[i]? with
    | none => rw [e1] at h; cases h
    | some s =>
      rw [e1] at h
      obtain ⟨y, A1, As, A2, eA, es, sl, f⟩ := sr.at e1
      rw [x] at es
      cases es
      cases sl with
      | un => cases h
      | im z => cases h
      | ow z =>
        cases z with
        | lst h1 r1 => cases h
        | dct h1 r1 => cases h
        | set h1 r1 n => cases h; exact ⟨_, _, _, rfl, h1, r1, n⟩
        | rows h1 r1 => cases h
      | mu z =>
        cases z with
        | lst h1 r1 => cases h
        | dct h1 r1 => cases h
        | set h1 r1 n => cases h; exact ⟨_, _, _, rfl, h1, r1, n⟩
        | rows h1 r1 => cases h
theorem keyOf_ok {v : V} {d : D} {k : Key} (x : Vw K B H v d) (h : keyOf d = some k) : v = kV k := by
  cases x <;> cases h <;> rfl
end
theorem sc_flat {K : PySem.W.Frag} {B H : Hp} {v : V} {d : D} (h : Vw K B H v d) (e : sc d = true) : flatV v = true := by cases h <;> first | rfl | cases e
theorem sc_flat' {K : PySem.W.Frag} {B : Hp} {v : V} {d : D} (h : Dp K B v d) (e : sc d = true) : flatV v = true := by cases h <;> first | rfl | cases e
theorem sc_eqv {K : PySem.W.Frag} {B H : Hp} {v u : V} {d e : D} (h : Dp K B v d) (h' : Vw K B H u e) (sd : sc d = true) (se : sc e = true) : eqV v u = PyData.eqv d e := by
  cases h' <;> first
    | (exfalso; exact Bool.false_ne_true se)
    | (cases h <;> first
      | (exfalso; exact Bool.false_ne_true sd)
      | rfl
      | (unfold eqV PyData.eqv; rfl))
theorem sc_any {K : PySem.W.Frag} {B H : Hp} {u : V} {e : D} (h' : Vw K B H u e) (se : sc e = true) : ∀ {vs : List V} {ds : List D}, DpAll K B vs ds → ds.all sc = true → vs.all flatV = true ∧ (vs.any fun y => eqV y u) = (ds.any fun z => PyData.eqv z e)
  | _, _, .nil, _ => ⟨rfl, rfl⟩
  | _, _, .cons h r, a => by
    rw [List.all_cons, Bool.and_eq_true] at a
    obtain ⟨i1, i2⟩ := sc_any h' se r a.2
    rw [List.all_cons, List.any_cons, List.any_cons, i1, i2, sc_flat' h a.1, sc_eqv h h' a.1 se]
    exact ⟨rfl, rfl⟩
section
variable {w : World} {K : PySem.W.Frag}
theorem ok_in : OpOk w K (RV2 fun x y H Q => rInD K x y H Q ∨ rIn K false x y H Q) (gOp (hIn false)) := gOp_ok fun B H vs ds res Q sb v e p => by
  unfold hIn at e
  split at e
  · split at e
    · rename_i hs
      rw [Bool.and_eq_true] at hs
      cases e
      obtain ⟨x, y, rfl, vx, vy⟩ := vws2 v
      exact ⟨_, _, rfl, .inl ⟨_, _, vx.dp sb, vy.dp sb, hs.1, hs.2, p.val _ _ rfl (by rw [Bool.false_bne]; exact .bl _)⟩⟩
    · cases e
  · split at e
    · rename_i hs
      rw [Bool.and_eq_true] at hs
      cases e
      obtain ⟨x, y, rfl, vx, vy⟩ := vws2 v
      cases vy with
      | @tup a vs _ h r =>
        obtain ⟨h1, h2⟩ := sc_any vx hs.1 r hs.2
        refine ⟨_, _, rfl, .inr ⟨a, vs, rfl, .inr (sqt_mono sb h), sc_flat vx hs.1, h1, p.val _ _ rfl ?_⟩⟩
        rw [if_neg Bool.false_ne_true, Bool.false_bne, ← h2]
        exact .bl _
    · cases e
  · cases e
theorem ok_notin : OpOk w K (RV2 fun x y H Q => rNotInD K x y H Q ∨ rIn K true x y H Q) (gOp (hIn true)) := gOp_ok fun B H vs ds res Q sb v e p => by
  unfold hIn at e
  split at e
  · split at e
    · rename_i hs
      rw [Bool.and_eq_true] at hs
      cases e
      obtain ⟨x, y, rfl, vx, vy⟩ := vws2 v
      exact ⟨_, _, rfl, .inl ⟨_, _, vx.dp sb, vy.dp sb, hs.1, hs.2, p.val _ _ rfl (by rw [Bool.true_bne]; exact .bl _)⟩⟩
    · cases e
  · split at e
    · rename_i hs
      rw [Bool.and_eq_true] at hs
      cases e
      obtain ⟨x, y, rfl, vx, vy⟩ := vws2 v
      cases vy with
      | @tup a vs _ h r =>
        obtain ⟨h1, h2⟩ := sc_any vx hs.1 r hs.2
        refine ⟨_, _, rfl, .inr ⟨a, vs, rfl, .inr (sqt_mono sb h), sc_flat vx hs.1, h1, p.val _ _ rfl ?_⟩⟩
        rw [if_pos rfl, Bool.true_bne, ← h2]
        exact .bl _
    · cases e
  · cases e
/-- an operation that reads own objects and gives a value -/
theorem op_at {R : List V → Hp → VK → Prop} {g : Op} (h : ∀ (σ : L2.St) (S : List Sl) (A : List Addr) (B H : Hp) (vs : List V) (rs : List Rs) (F : List Addr) (r : Rs) (Q : VK), SR w K B H σ S A → RRs w K σ B H vs rs F → Same B H → g S rs = some r →
    (∀ d v, r = .im d → Dp K B v d → Q v H) → R vs H Q) : OpOk w K R g := fun σ S A B H vs rs F r Q sr x ok e q =>
  h σ S A B H vs rs F r Q sr x ok.sub e fun d v er dd => by
    subst er
    exact q v H B [] (.im dd) sr ok.right (Step.refl.sub fun a ha => List.mem_append_right _ ha)
theorem rrs2 {σ : L2.St} {B H : Hp} {vs : List V} {a b : Rs} {F : List Addr} (h : RRs w K σ B H vs [a, b] F) : ∃ x y F1 F2, vs = [x, y] ∧ RR w K σ B H x a F1 ∧ RR w K σ B H y b F2 := by
  cases h with
  | cons h1 h =>
    cases h with
    | cons h2 h =>
      cases h
      exact ⟨_, _, _, _, rfl, h1, h2⟩
def rInDct (neg : Bool) : L2.R2 := fun y x H Q => ∃ a o, x = .ref a ∧ DGet H a y o ∧ Q (.bl (neg != o.isSome)) H
theorem ok_inD {neg : Bool} : OpOk w K (RV2 (rInDct neg)) (gInD neg) := op_at fun σ S A B H vs rs F r Q sr x sb e q => by
  unfold gInD at e
  split at e
  · split at e
    · rename_i d l e1 e2
      split at e
      · rename_i k ek
        cases e
        obtain ⟨x, y, F1, F2, rfl, xa, xb⟩ := rrs2 x
        obtain ⟨a, kvs, rfl, ha, hk⟩ := ownDct_ok sr xb e2
        rw [keyOf_ok (vw_ok sr xa sb e1) ek]
        refine ⟨_, _, rfl, a, _, rfl, DGet.k ha, q _ _ rfl ?_⟩
        rcases kdp_look k hk with ⟨v, d, h1, h2, _⟩ | ⟨h1, h2⟩
        · rw [h1, h2]; exact .bl _
        · rw [h1, h2]; exact .bl _
      · cases e
    · cases e
  · cases e
def rInSet (w : World) (neg : Bool) : L2.R2 := fun x y H Q => ∃ k a S n, x = V.int k ∧ y = V.ref a ∧ H a = some (SetO w a S n) ∧ Q (.bl (neg != S k)) H
theorem ok_inS {neg : Bool} : OpOk w K (RV2 (rInSet w neg)) (gInS neg) := op_at fun σ S A B H vs rs F r Q sr x sb e q => by
  unfold gInS at e
  split at e
  · split at e
    · rename_i i l e1 e2
      cases e
      obtain ⟨x, y, F1, F2, rfl, xa, xb⟩ := rrs2 x
      obtain ⟨a, f, n, rfl, ha, hf, hn⟩ := ownSet_ok sr xb e2
      have z := vw_ok sr xa sb e1
      cases z
      refine ⟨_, _, rfl, i, a, f, n, rfl, rfl, ha, q _ _ rfl ?_⟩
      have ef : f i = decide (i ∈ l) := by
        by_cases hi : i ∈ l
        · rw [decide_eq_true hi]; exact (hf i).mpr hi
        · rw [decide_eq_false hi]
          cases q : f i with
          | false => rfl
          | true => exact absurd ((hf i).mp q) hi
      rw [ef]
      exact .bl _
    · cases e
  · cases e
end
/-- in: a list or tuple; a dict; a set -/
def gIn (neg : Bool) : Op := fun S rs => match gOp (hIn neg) S rs with
  | some r => some r
  | none => match gInD neg S rs with
    | some r => some r
    | none => gInS neg S rs
section
variable {X : Cx} {a b : Expr} {pos : Pos} {f g : SE}
def rInX (w : World) (K : PySem.W.Frag) : L2.R2 := fun x y H Q => (rInD K x y H Q ∨ rIn K false x y H Q) ∨ (rInDct false x y H Q ∨ rInSet w false x y H Q)
def rNotInX (w : World) (K : PySem.W.Frag) : L2.R2 := fun x y H Q => (rNotInD K x y H Q ∨ rIn K true x y H Q) ∨ (rInDct true x y H Q ∨ rInSet w true x y H Q)
theorem ok_inX {w : World} {K : PySem.W.Frag} : OpOk w K (RV2 (rInX w K)) (gIn false) := (OpOk.or ok_in (OpOk.or ok_inD ok_inS)).imp fun vs H Q h => by
  rcases h with ⟨x, y, e, h⟩ | ⟨x, y, e, h⟩ | ⟨x, y, e, h⟩
  · exact ⟨x, y, e, .inl h⟩
  · exact ⟨x, y, e, .inr (.inl h)⟩
  · exact ⟨x, y, e, .inr (.inr h)⟩
theorem ok_notinX {w : World} {K : PySem.W.Frag} : OpOk w K (RV2 (rNotInX w K)) (gIn true) := (OpOk.or ok_notin (OpOk.or ok_inD ok_inS)).imp fun vs H Q h => by
  rcases h with ⟨x, y, e, h⟩ | ⟨x, y, e, h⟩ | ⟨x, y, e, h⟩
  · exact ⟨x, y, e, .inl h⟩
  · exact ⟨x, y, e, .inr (.inl h)⟩
  · exact ⟨x, y, e, .inr (.inr h)⟩
theorem op_inDct (hu : X.A.units + 1 < cLine) : OpR X (compareOp .In) (rInDct false) := by
  intro pins s σ H y x v u Q I ry rx h
  obtain ⟨a, o, rfl, g, q⟩ := h
  obtain rfl : u = Value.ref a := rx
  exact d_in hu I g ry fun s3 I3 => ⟨.bl o.isSome, H, I3, rfl, by simpa using q⟩
theorem op_notinDct (hu : X.A.units + 1 < cLine) : OpR X (compareOp .NotIn) (rInDct true) := by
  intro pins s σ H y x v u Q I ry rx h
  obtain ⟨a, o, rfl, g, q⟩ := h
  obtain rfl : u = Value.ref a := rx
  exact d_notIn hu I g ry fun s3 I3 => ⟨.bl (!o.isSome), H, I3, rfl, by simpa using q⟩
theorem op_inSet : OpR X (compareOp .In) (rInSet X.w false) := fun pins s σ H x y v u Q I rx ry ⟨k, a, S, n, e1, e2, e3, q⟩ => or_sin pins s σ H x y v u Q I rx ry ⟨k, a, S, n, e1, e2, e3, by simpa using q⟩
theorem op_notinSet : OpR X (compareOp .NotIn) (rInSet X.w true) := fun pins s σ H x y v u Q I rx ry ⟨k, a, S, n, e1, e2, e3, q⟩ => or_snotin pins s σ H x y v u Q I rx ry ⟨k, a, S, n, e1, e2, e3, by simpa using q⟩
theorem op_inX (hu : X.A.units + 65 < cLine) : OpR X (compareOp .In) (rInX X.w X.K) := OpR.or (OpR.or (op_inD hu) op_in_seq) (OpR.or (op_inDct (by omega)) op_inSet)
theorem op_notinX (hu : X.A.units + 65 < cLine) : OpR X (compareOp .NotIn) (rNotInX X.w X.K) := OpR.or (OpR.or (op_notInD hu) op_notIn_seq) (OpR.or (op_notinDct (by omega)) op_notinSet)
/-! ### d[k] -/
def rDGetV : L2.R2 := fun x y H Q => ∃ a v, x = .ref a ∧ DGet H a y (some v) ∧ Q v H
open PySem.Spec PyProof.Rows in
theorem ix_dct (hu : X.A.units + 1 < cLine) : IxR X rDGetV := by
  intro value slice pins s σ H x y v u Q I rx ry h hs
  obtain ⟨a, z, rfl, g, q⟩ := h
  obtain rfl : v = Value.ref a := rx
  have hT := dict_typeIs I g
  have h₂ : wpAny (model X.prog X.w) X.A (getItem (.ref a) u) (EP X pins σ Q) X.xe s := d_getItem hu I g ry fun w' s3 I3 rw' => ⟨z, H, I3, rw', q⟩
  unfold subscriptTail
  refine wpAny_bind ?_
  rw [getitemInPython_of_ne hT.not_modules]
  refine wpAny_bind (wpAny_specialOf hT PySem.F.slot_dict_getitem.lookup ?_)
  have fin : wpAny (model X.prog X.w) X.A (subscripted slice false (.ref a) u) (fun r s₃ => wpAny (model X.prog X.w) X.A (letTemporaryGo value (.ref a) r >>= fun _ => pure r) (EP X pins σ Q) X.xe s₃) X.xe s := by
    rw [hs]
    exact wpAny_operating (wpAny_mono h₂ (fun r s₃ h₃ => wpAny_bind (wpAny_letTemporaryGo (wpAny_pure h₃))) fun _ _ x => x)
  first
    | exact wpAny_pure (wpAny_bind fin)
    | exact wpAny_bind (wpAny_pure (wpAny_bind fin))
    | exact wpAny_bind fin

def gDGet : Op := fun S rs => match rs with
  | [a, b] => match ownDct S a, vw S b with
    | some l, some d => match keyOf d with
      | some k => match lookK l k with
        | some x => some (.im x)
        | none => none
      | none => none
    | _, _ => none
  | _ => none
theorem ok_dget {w : World} {K : PySem.W.Frag} : OpOk w K (RV2 rDGetV) gDGet := op_at fun σ S A B H vs rs F r Q sr x sb e q => by
  unfold gDGet at e
  split at e
  · split at e
    · rename_i l d e2 e1
      split at e
      · rename_i k ek
        split at e
        · rename_i y ey
          cases e
          obtain ⟨x, z, F1, F2, rfl, xa, xb⟩ := rrs2 x
          obtain ⟨a, kvs, rfl, ha, hk⟩ := ownDct_ok sr xa e2
          rw [keyOf_ok (vw_ok sr xb sb e1) ek]
          rcases kdp_look k hk with ⟨v, d, h1, h2, h3⟩ | ⟨h1, h2⟩
          · rw [h2] at ey
            cases ey
            exact ⟨_, _, rfl, a, v, rfl, by rw [← h1]; exact DGet.k ha, q _ _ rfl h3⟩
          · rw [h2] at ey; cases ey
        · cases e
      · cases e
    · cases e
  · cases e
def gIx : Op := fun S rs => match gOp hIx S rs with
  | some r => some r
  | none => gDGet S rs
def rIxX (K : PySem.W.Frag) : L2.R2 := fun x y H Q => rIx K x y H Q ∨ rDGetV x y H Q
theorem ix_X (hu : X.A.units + 1 < cLine) : IxR X (rIxX X.K) := ix_seq.or (ix_dct hu)
theorem ok_ixX {w : World} {K : PySem.W.Frag} : OpOk w K (RV2 (rIxX K)) gIx := (OpOk.or ok_ix ok_dget).imp fun vs H Q h => by
  rcases h with ⟨x, y, e, h⟩ | ⟨x, y, e, h⟩
  · exact ⟨x, y, e, .inl h⟩
  · exact ⟨x, y, e, .inr h⟩
end
/-! ### {}, {k: v, ..}, set() -/
def eDct0 : SE := fun S => some (.fr (.dct []), S)
def eSet0 : SE := fun S => some (.fr (.set []), S)
section
variable {X : Cx} {pos p : Pos}
theorem e_dct0 : E X (.Dict [] [] pos) eDct0 := pe_weak pe_dnewK fun σ H Q z => by
  obtain ⟨S, A, B, r, S', sr, ok, e, q⟩ := z
  cases e
  intro a ha
  obtain ⟨k2, s2⟩ := step_newA (o := .dK []) ok ha sr.tracked
  refine q _ _ ⟨A, B, [a], ⟨sr.step (Same.refl _) fun b hb o h => ?_, k2, s2, MuK.refl _⟩, .fr (.dct upd_same .nil)⟩
  rw [upd_ne (ne_of_none h ha)]; exact h
theorem e_set0 (hg : Gl X "set") (hm : X.mg "set" = none) : E X (.Call (.Name "set" p) [] [] pos) eSet0 := pe_weak (pe_callTy0 cr_set0 hg hm (by decide +kernel)) fun σ H Q z => by
  obtain ⟨S, A, B, r, S', sr, ok, e, q⟩ := z
  cases e
  refine ⟨rfl, fun a ha => ?_⟩
  obtain ⟨k2, s2⟩ := step_newA (o := SetO X.w a (fun _ => false) 0) ok ha sr.tracked
  refine q _ _ ⟨A, B, [a], ⟨sr.step (Same.refl _) fun b hb o h => ?_, k2, s2, MuK.refl _⟩, .fr (.set upd_same (fun k => by simp) rfl)⟩
  rw [upd_ne (ne_of_none h ha)]; exact h
end
/-- a written dict with written keys: the values -/
def mkD : List Key → List D → List (Key × D)
  | k :: ks, d :: ds => (k, d) :: mkD ks ds
  | _, _ => []
def eDisp (ks : List Key) (fs : SEs) : SE := fun S => match fs S with
  | some (rs, S') => match fzs rs with
    | some ds => if decide (ds.length = ks.length) && decide (ks.Nodup) then some (.fr (.dct (mkD ks ds)), S') else none
    | none => none
  | none => none
end Fl
/-! Fl: written dicts, methods of own objects, statements. -/
namespace Fl
open PySem L2

def sArgs : List SE → SEs
  | [] => sNil
  | f :: fs => sCons f (sArgs fs)

/-! ### a written dict -/
def eDspl (ks : List Key) (fl : List SE) : SE := eDisp ks (sArgs fl)
def trsOf (w : World) (K : PySem.W.Frag) : List Key → List SE → List (TE × TE)
  | k :: ks, f :: fs => (tC (kV k), T w K f) :: trsOf w K ks fs
  | _, _ => []
def zipK {α : Type} : List Key → List α → List (Key × α)
  | k :: ks, v :: vs => (k, v) :: zipK ks vs
  | _, _ => []
section
variable {w : World} {K : PySem.W.Frag} {σ : L2.St}
theorem trs_ok : ∀ {ks : List Key} {fl : List SE} {H : Hp} {Q : List (V × V) → Hp → Prop}, ks.length = fl.length → Ta w K (sArgs fl) σ H (fun vs H' => Q ((zipK ks vs).map fun kv => (kV kv.1, kv.2)) H') → tPairs (trsOf w K ks fl) σ H Q
  | [], [], H, Q, _, h => ta_nil h
  | k :: ks, f :: fs, H, Q, e, h => by
    show tC (kV k) σ H fun x H1 => T w K f σ H1 fun y H2 => tPairs (trsOf w K ks fs) σ H2 fun ps H3 => Q ((x, y) :: ps) H3
    exact (ta_cons h).mono fun y H2 h2 => trs_ok (by simpa using e) h2
theorem mergeK_snoc : ∀ (more acc : List (Key × V)), ((acc ++ more).map (·.1)).Nodup → mergeK acc more = acc ++ more
  | [], acc, _ => by simp [mergeK]
  | (k, v) :: more, acc, h => by
    have e : putK acc k v = acc ++ [(k, v)] := by
      unfold putK
      rw [if_neg]
      intro z
      rw [List.any_eq_true] at z
      obtain ⟨x, hx, e⟩ := z
      have e := of_decide_eq_true e
      rw [List.map_append, List.nodup_append] at h
      exact h.2.2 x.1 (List.mem_map.mpr ⟨x, hx, rfl⟩) k (by simp) e
    show mergeK (putK acc k v) more = _
    rw [e, mergeK_snoc more (acc ++ [(k, v)]) (by simpa using h)]
    simp
theorem zipK_keys {α : Type} : ∀ {ks : List Key} {vs : List α}, vs.length = ks.length → (zipK ks vs).map (·.1) = ks
  | [], [], _ => rfl
  | k :: ks, v :: vs, e => by
    show k :: (zipK ks vs).map (·.1) = k :: ks
    rw [zipK_keys (by simpa using e)]
theorem zipK_length {α : Type} : ∀ {ks : List Key} {vs : List α}, vs.length = ks.length → (zipK ks vs).length = ks.length
  | [], [], _ => rfl
  | k :: ks, v :: vs, e => by
    show (zipK ks vs).length + 1 = ks.length + 1
    rw [zipK_length (by simpa using e)]
theorem zipK_kdp {B : Hp} : ∀ {ks : List Key} {vs : List V} {ds : List D}, ds.length = ks.length → DpAll K B vs ds → KDp K B (zipK ks vs) (mkD ks ds)
  | [], _, _, e, .nil => .nil
  | k :: ks, _, _, e, .nil => by simp at e
  | [], _, _, e, .cons h r => by simp at e
  | k :: ks, _, _, e, .cons h r => .cons h (zipK_kdp (by simpa using e) r)
end
theorem e_disp {X : Cx} {pos : Pos} {keys : List (Option Expr)} {values : List Expr} {ks : List Key} {fl : List SE} (h : PPs X pos keys values (trsOf X.w X.K ks fl)) (hall : keys.all (·.isSome) = true) (hl : keys.length = values.length) (h0 : keys ≠ [])
    (h15 : keys.length ≤ 15) (hk : ks.length = fl.length) (h16 : ks.length ≤ 15) : E X (.Dict keys values pos) (eDspl ks fl) := pe_weak (pe_disp h hall hl h0 h15) fun σ H Q z => by
  obtain ⟨S, A, B, r, S', sr, ok, e, q⟩ := z
  unfold eDspl eDisp at e
  split at e
  · rename_i rs S1 e1
    split at e
    · rename_i ds e2
      split at e
      · rename_i hc
        cases e
        rw [Bool.and_eq_true] at hc
        have hlen := of_decide_eq_true hc.1
        have hnd := of_decide_eq_true hc.2
        intro p hp
        obtain ⟨k1, s1⟩ := step_newA (o := .dK []) ok hp sr.tracked
        have sr1 : SR X.w X.K B (upd H p (.dK [])) σ S A := sr.step (Same.refl _) fun a ha o h => by
          rw [upd_ne (ne_of_none h hp)]; exact h
        refine trs_ok hk ⟨S, A, B, rs, _, sr1, Ok.right (F := [p]) k1, e1, fun vs H2 ⟨A2, B2, F, g2, x2⟩ => ?_⟩
        obtain ⟨p1, p2, p3⟩ := pend (F := [p]) k1 g2.st g2.ok (fun a ha => by simp at ha; subst ha; exact ⟨_, upd_same⟩)
        have hp2 : H2 p = some (.dK []) := p3 p (by simp) _ upd_same
        have dd := x2.data (B' := ov B2 H2 F) (ov_same g2.ok.sub) (fun a ha => ov_in ha) e2
        have hvl : vs.length = ks.length := by rw [dps_length dd]; exact hlen
        refine ⟨hp2, zipK ks vs, rfl, ?_, ?_⟩
        · rw [zipK_length hvl]; exact h16
        · have em : mergeK [] (zipK ks vs) = zipK ks vs := by
            rw [mergeK_snoc _ [] (by rw [List.nil_append, zipK_keys hvl]; exact hnd)]
            rfl
          rw [em]
          have q1 : Ok (F ++ ([p] ++ A2)) B2 H2 := ok_mid p1
          obtain ⟨f1, f2⟩ := step_freeze q1
          obtain ⟨m1, m2⟩ := step_mut (o := .dK (zipK ks vs)) f1 (p := p) (by simp)
          refine q _ _ ⟨A2, ov B2 H2 F, [p], ⟨?_, m1, ?_, g2.mu⟩, .fr (.dct upd_same (zipK_kdp hlen dd))⟩
          · refine g2.sr.step (ov_same g2.ok.sub) fun a ha o h => ?_
            have n : a ≠ p := fun e => by
              subst e
              exact (List.nodup_append.mp (f1.nd)).2.2 a (by simp) a ha rfl
            rw [upd_ne n]; exact h
          · have t1 : Step ([p] ++ (F ++ A2)) B2 H2 ([p] ++ A2) (ov B2 H2 F) H2 := step_mid f2
            exact (s1.trans p2).trans (t1.trans m2)
      · cases e
    · cases e
  · cases e

/-! ### methods of own objects -/
abbrev Mt := O → List Rs → List Sl → Option (D × O)
def MtOk (w : World) (K : PySem.W.Frag) (R : V → List V → Hp → VK → Prop) (g : Mt) : Prop := ∀ (σ : L2.St) (S : List Sl) (A : List Addr) (B H : Hp) (v : V) (o : O) (As : List Addr) (vs : List V) (rs : List Rs) (F : List Addr) (d : D) (o' : O) (Q : VK),
  SR w K B H σ S A → Ok (F ++ A) B H → OwnR w K B H v o As → RRs w K σ B H vs rs F → g o rs S = some (d, o') →
  (∀ a u y, v = .ref a → a ∈ As → OwnR w K (ov B H F) (upd H a u) v o' As → Dp K (ov B H F) y d → Q y (upd H a u)) → R v vs H Q
def eMeth (c : O → Bool) (i : Nat) (fs : SEs) (g : Mt) : SE := fun S => match S[i]? with
  | some (.ow o0) => if c o0 then match fs S with
    | some (rs, S1) => match S1[i]? with
      | some (.ow o) => match g o rs S1 with
        | some (d, o') => some (.im d, S1.set i (.ow o'))
        | none => none
      | _ => none
    | none => none else none
  | some (.mu o0) => if c o0 then match fs S with
    | some (rs, S1) => match S1[i]? with
      | some (.mu o) => match g o rs S1 with
        | some (d, o') => some (.im d, S1.set i (.mu o'))
        | none => none
      | _ => none
    | none => none else none
  | _ => none
def isL : O → Bool
  | .lst _ => true
  | _ => false
def isS : O → Bool
  | .set _ => true
  | _ => false
theorem OwnR.isL {w : World} {K : PySem.W.Frag} {B H : Hp} {v : V} {o : O} {As : List Addr} (h : OwnR w K B H v o As) (e : Fl.isL o = true) : tyV K "list" v H := by
  cases h with
  | lst h r => exact .inl ⟨rfl, _, .inl (.inl h)⟩
  | dct h r => cases e
  | set h r n => cases e
  | rows h r => cases e
theorem OwnR.isS {w : World} {K : PySem.W.Frag} {B H : Hp} {v : V} {o : O} {As : List Addr} (h : OwnR w K B H v o As) (e : Fl.isS o = true) : ∃ a S n, v = .ref a ∧ H a = some (SetO w a S n) := by
  cases h with
  | lst h r => cases e
  | dct h r => cases e
  | set h r n => exact ⟨_, _, _, rfl, h⟩
  | rows h r => cases e
section
variable {w : World} {K : PySem.W.Frag} {σ : L2.St} {S : List Sl} {A : List Addr} {B H : Hp}
theorem muk_mu {S : List Sl} {i : Nat} {o o' : O} (h : S[i]? = some (.mu o)) : MuK S (S.set i (.mu o')) := fun j z e => by
  by_cases ij : i = j
  · subst ij
    have hl : i < S.length := (List.getElem?_eq_some_iff.mp h).1
    exact ⟨o', by rw [List.getElem?_set_self hl]⟩
  · exact ⟨z, by rw [List.getElem?_set_ne ij]; exact e⟩
theorem MuK.get {S S1 : List Sl} {i : Nat} {o o1 : O} (m : MuK S S1) (h : S[i]? = some (.mu o)) (h1 : S1[i]? = some (.ow o1)) : False := by
  obtain ⟨o', e⟩ := m i o h
  rw [h1] at e; cases e
/-- the state behind a change of the own object in slot i -/
theorem meth_fin {F : List Addr} {S0 : List Sl} {A0 : List Addr} {B0 H0 : Hp} {i : Nat} {v : V} {o o' : O} {vs : List V} {rs : List Rs} {d : D} {g : Mt} {R : V → List V → Hp → VK → Prop} {Q : VK} (hm : MtOk w K R g)
    (gg : Go w K σ S0 A0 B0 H0 S A B H F) (x : RRs w K σ B H vs rs F) (es : σ[i]? = some (some v)) (mu : Bool) (ei : S[i]? = some (if mu then .mu o else .ow o)) (e : g o rs S = some (d, o'))
    (q : ∀ v H', EPo w K σ S0 A0 B0 H0 (.im d) (S.set i (if mu then .mu o' else .ow o')) v H' → Q v H') : R v vs H Q := by
  obtain ⟨y, A1, As, A2, eA, es', sl, f⟩ := gg.sr.at ei
  rw [es] at es'
  cases es'
  have own : OwnR w K B H v o As := by
    cases mu
    · cases sl with
      | ow z => exact z
    · cases sl with
      | mu z => exact z
  refine hm σ S A B H v o As vs rs F d o' Q gg.sr gg.ok own x e fun a u y ev ha own' dd => ?_
  obtain ⟨f1, f2⟩ := step_freeze gg.ok
  have hA : a ∈ A := by rw [eA]; simp [ha]
  obtain ⟨m1, m2⟩ := step_mut (o := u) f1 hA
  refine q y _ ⟨A, ov B H F, [], ⟨?_, m1, (gg.st.trans f2).trans m2, gg.mu.trans ?_⟩, .im dd⟩
  · have keep : Keep (A1 ++ A2) H (upd H a u) := fun b hb o h => by
      have n : b ≠ a := fun e => by
        subst e
        have nd := (ok_mid (eA ▸ f1)).nd
        exact (List.nodup_append.mp nd).2.2 b ha b hb rfl
      rw [upd_ne n]; exact h
    have z := f (x' := some v) (s' := if mu then .mu o' else .ow o') (As' := As) (ov_same gg.ok.sub) keep (by
      cases mu
      · exact .ow own'
      · exact .mu own')
    rw [set_same es] at z
    rw [eA]
    exact z
  · cases mu
    · exact muk_set fun z h => by rw [ei] at h; cases h
    · exact muk_mu ei
theorem t_meth {P : V → Hp → Prop} {c : O → Bool} {R : V → List V → Hp → VK → Prop} {g : Mt} {i : Nat} {fs : SEs} {Q : VK} (hm : MtOk w K R g) (ty : ∀ (B H : Hp) v o As, OwnR w K B H v o As → c o = true → P v H)
    (h : Fl.T w K (eMeth c i fs g) σ H Q) : (tVar i σ H fun x H1 => P x H1 ∧ Ta w K fs σ H1 fun xs H2 => R x xs H2 Q) := by
  obtain ⟨S, A, B, r, S', sr, ok, e, q⟩ := h
  unfold eMeth at e
  split at e
  · rename_i o0 e0
    obtain ⟨y, A1, As, A2, eA, es, sl, f⟩ := sr.at e0
    cases sl with
    | @ow v _ _ z =>
      split at e
      · rename_i hc
        refine ⟨v, es, ty B H v o0 As z hc, ?_⟩
        split at e
        · rename_i rs S1 e1
          split at e
          · rename_i o ei
            split at e
            · rename_i d o' eg
              cases e
              exact ⟨S, A, B, rs, S1, sr, ok, e1, fun vs H2 ⟨A2', B2, F, g2, x2⟩ => meth_fin hm g2 x2 es false ei eg q⟩
            · cases e
          · cases e
        · cases e
      · cases e
  · rename_i o0 e0
    obtain ⟨y, A1, As, A2, eA, es, sl, f⟩ := sr.at e0
    cases sl with
    | @mu v _ _ z =>
      split at e
      · rename_i hc
        refine ⟨v, es, ty B H v o0 As z hc, ?_⟩
        split at e
        · rename_i rs S1 e1
          split at e
          · rename_i o ei
            split at e
            · rename_i d o' eg
              cases e
              exact ⟨S, A, B, rs, S1, sr, ok, e1, fun vs H2 ⟨A2', B2, F, g2, x2⟩ => meth_fin hm g2 x2 es true ei eg q⟩
            · cases e
          · cases e
        · cases e
      · cases e
  · cases e
end
def mAppend : Mt := fun o rs _ => match o, rs with
  | .lst l, [r] => match r.fz with
    | some d => if szOk (l.length + 1) then some (.none, .lst (l ++ [d])) else none
    | none => none
  | _, _ => none
def mExtend : Mt := fun o rs S => match o, rs with
  | .lst l, [r] => match ownL S r with
    | some m => if szOk (l.length + m.length) then some (.none, .lst (l ++ m)) else none
    | none => none
  | _, _ => none
def mPop : Mt := fun o rs _ => match o, rs with
  | .lst l, [] => match l[l.length - 1]? with
    | some d => some (d, .lst l.dropLast)
    | none => none
  | _, _ => none
def mAdd : Mt := fun o rs S => match o, rs with
  | .set l, [r] => match vw S r with
    | some (.int k) => if decide (l.length + 1 ≤ 1000) then some (.none, .set (if k ∈ l then l else l ++ [k])) else none
    | _ => none
  | _, _ => none
section
variable {w : World} {K : PySem.W.Frag}
theorem rrs1 {σ : L2.St} {B H : Hp} {vs : List V} {a : Rs} {F : List Addr} (h : RRs w K σ B H vs [a] F) : ∃ x, vs = [x] ∧ RR w K σ B H x a F := by
  cases h with
  | cons h1 h =>
    cases h
    rw [List.append_nil]
    exact ⟨_, rfl, h1⟩
theorem dps_dropLast {B : Hp} : ∀ {vs : List V} {ds : List D}, DpAll K B vs ds → DpAll K B vs.dropLast ds.dropLast := fun {vs ds} r => by
  rw [List.dropLast_eq_take, List.dropLast_eq_take, dps_length r]
  exact dps_take _ r
theorem mok_append : MtOk w K rAppend mAppend := by
  intro σ S A B H v o As vs rs F d o' Q sr ok own x e q
  unfold mAppend at e
  split at e
  · rename_i l r
    split at e
    · rename_i d1 ed
      split at e
      · rename_i hs
        cases e
        obtain ⟨y, rfl, xr⟩ := rrs1 x
        cases own with
        | @lst a us _ h r =>
          refine ⟨a, us, y, rfl, rfl, h, ?_, q a _ _ rfl (by simp) (.lst upd_same (dps_append (dps_mono (ov_same ok.sub) r) (.cons (xr.data (ov_same ok.sub) (fun b hb => ov_in hb) ed) .nil))) .non⟩
          rw [dps_length r]
          exact Nat.lt_of_lt_of_le (Nat.lt_succ_self _) (szOk_line hs)
      · cases e
    · cases e
  · cases e
theorem mok_extend : MtOk w K rExtend mExtend := by
  intro σ S A B H v o As vs rs F d o' Q sr ok own x e q
  unfold mExtend at e
  split at e
  · rename_i l r
    split at e
    · rename_i m em
      split at e
      · rename_i hs
        cases e
        obtain ⟨y, rfl, xr⟩ := rrs1 x
        obtain ⟨b, zs, rfl, hb, rb⟩ := ownL_ok sr xr em
        cases own with
        | @lst a us _ h r =>
          refine ⟨a, b, us, zs, rfl, rfl, h, hb, ?_, q a _ _ rfl (by simp) (.lst upd_same (dps_append (dps_mono (ov_same ok.sub) r) (dps_mono (ov_same ok.sub) rb))) .non⟩
          rw [dps_length r, dps_length rb]
          exact szOk_line hs
      · cases e
    · cases e
  · cases e
theorem mok_pop : MtOk w K rPop mPop := by
  intro σ S A B H v o As vs rs F d o' Q sr ok own x e q
  unfold mPop at e
  split at e
  · rename_i l
    split at e
    · rename_i d1 ed
      cases e
      cases x
      cases own with
      | @lst a us _ h r =>
        obtain ⟨y, h1, h2⟩ := dps_get r ed
        exact ⟨a, us, y, rfl, rfl, h, by rw [dps_length r]; exact h1, q a _ _ rfl (by simp) (.lst upd_same (dps_mono (ov_same ok.sub) (dps_dropLast r))) (dp_mono (ov_same ok.sub) h2)⟩
    · cases e
  · cases e
theorem mok_add : MtOk w K (rSAdd w) mAdd := by
  intro σ S A B H v o As vs rs F d o' Q sr ok own x e q
  unfold mAdd at e
  split at e
  · rename_i l r
    split at e
    · rename_i k ek
      split at e
      · rename_i hs
        cases e
        obtain ⟨y, rfl, xr⟩ := rrs1 x
        have z := vw_ok sr xr ok.sub ek
        cases z
        cases own with
        | @set a f n _ h r hn =>
          refine ⟨a, k, f, n, rfl, rfl, h, ?_, q a _ _ rfl (by simp) (.set upd_same (fun j => ?_) ?_) .non⟩
          · rw [hn]
            exact Nat.lt_of_le_of_lt (of_decide_eq_true hs) (by decide)
          · rw [Bool.or_eq_true, r j, decide_eq_true_eq]
            split
            · rename_i hk
              exact ⟨fun z => z.elim id fun z => z ▸ hk, .inl⟩
            · rw [List.mem_append, List.mem_singleton]
          · by_cases hk : k ∈ l
            · rw [if_pos hk, if_pos ((r k).mpr hk), hn]
            · rw [if_neg hk, if_neg (fun z => hk ((r k).mp z)), hn, List.length_append, List.length_singleton]
      · cases e
    · cases e
  · cases e
end

end Fl
/-! Fl: statements, loops. -/
namespace Fl
open PySem L2

inductive Out where
  | nx (S : List Sl)
  | bk (S : List Sl)
  | ct (S : List Sl)
  | rt (r : Rs) (S : List Sl)
abbrev SS := List Sl → Option Out
def MuS (S : List Sl) (σ σ' : L2.St) (S' : List Sl) : Prop := ∀ (i : Nat) o, S[i]? = some (.mu o) → σ'[i]? = σ[i]? ∧ ∃ o', S'[i]? = some (.mu o')
theorem MuS.refl (S : List Sl) (σ : L2.St) : MuS S σ σ S := fun _ o h => ⟨rfl, o, h⟩
theorem MuS.trans {S S1 S2 : List Sl} {σ σ1 σ2 : L2.St} (a : MuS S σ σ1 S1) (b : MuS S1 σ1 σ2 S2) : MuS S σ σ2 S2 := fun i o h => by
  obtain ⟨e, o', h'⟩ := a i o h
  obtain ⟨e2, h2⟩ := b i o' h'
  exact ⟨e2.trans e, h2⟩
theorem MuK.s {S S' : List Sl} (h : MuK S S') (σ : L2.St) : MuS S σ σ S' := fun i o e => ⟨rfl, h i o e⟩
structure Gs (w : World) (K : PySem.W.Frag) (σ : L2.St) (S : List Sl) (A : List Addr) (B H : Hp) (σ' : L2.St) (S' : List Sl) (A' : List Addr) (B' H' : Hp) (F : List Addr) : Prop where
  sr : SR w K B' H' σ' S' A'
  ok : Ok (F ++ A') B' H'
  st : Step A B H (F ++ A') B' H'
  mu : MuS S σ σ' S'
theorem Go.gs {w : World} {K : PySem.W.Frag} {σ : L2.St} {S S' : List Sl} {A A' : List Addr} {B B' H H' : Hp} {F : List Addr} (g : Go w K σ S A B H S' A' B' H' F) : Gs w K σ S A B H σ S' A' B' H' F := ⟨g.sr, g.ok, g.st, g.mu.s σ⟩
def SPo (w : World) (K : PySem.W.Frag) (σ : L2.St) (S : List Sl) (A : List Addr) (B H : Hp) (S' : List Sl) (σ' : L2.St) (H' : Hp) : Prop := ∃ A' B', Gs w K σ S A B H σ' S' A' B' H' []
def RPo (w : World) (K : PySem.W.Frag) (σ : L2.St) (S : List Sl) (A : List Addr) (B H : Hp) (r : Rs) (S' : List Sl) (v : V) (H' : Hp) : Prop := ∃ σ' A' B' F, Gs w K σ S A B H σ' S' A' B' H' F ∧ RR w K σ' B' H' v r F
def Fin (w : World) (K : PySem.W.Frag) (D : Ends) (σ : L2.St) (S : List Sl) (A : List Addr) (B H : Hp) : Out → Prop
  | .nx S' => ∀ σ' H', SPo w K σ S A B H S' σ' H' → D.nx σ' H'
  | .bk S' => ∀ σ' H', SPo w K σ S A B H S' σ' H' → D.bk σ' H'
  | .ct S' => ∀ σ' H', SPo w K σ S A B H S' σ' H' → D.ct σ' H'
  | .rt r S' => ∀ v H', RPo w K σ S A B H r S' v H' → D.rt v H'
def Ts (w : World) (K : PySem.W.Frag) (F : SS) : TS := fun D σ H => ∃ S A B out, SR w K B H σ S A ∧ Ok A B H ∧ F S = some out ∧ Fin w K D σ S A B H out
def St' (X : Cx) (st : Stmt) (F : SS) : Prop := PS X st (Ts X.w X.K F)
def Ss (X : Cx) (st : List Stmt) (F : SS) : Prop := PSs X st (Ts X.w X.K F)
section
variable {X : Cx} {st : Stmt} {sts : List Stmt}
theorem ps_weak {t t' : TS} (h : PS X st t) (hw : ∀ D σ H, t' D σ H → t D σ H) : PS X st t' := ⟨fun pins s σ H D I h' => h.run pins s σ H D I (hw _ _ _ h')⟩
theorem pss_weak {t t' : TS} (h : PSs X sts t) (hw : ∀ D σ H, t' D σ H → t D σ H) : PSs X sts t' := ⟨fun pins s σ H D I h' => h.run pins s σ H D I (hw _ _ _ h')⟩
theorem ps_or2 {t t' : TS} (h : PS X st t) (h' : PS X st t') : PS X st (fun D σ H => t D σ H ∨ t' D σ H) := ⟨fun pins s σ H D I z => z.elim (h.run pins s σ H D I) (h'.run pins s σ H D I)⟩
end
section
variable {w : World} {K : PySem.W.Frag} {D : Ends} {σ σ1 σ2 : L2.St} {S S1 S2 : List Sl} {A A1 A2 : List Addr} {B B1 B2 H H1 H2 : Hp} {F F1 F2 : List Addr}
theorem Gs.refl (sr : SR w K B H σ S A) (ok : Ok A B H) : Gs w K σ S A B H σ S A B H [] := ⟨sr, ok, Step.refl, MuS.refl S σ⟩
theorem Gs.seq (g : Gs w K σ S A B H σ1 S1 A1 B1 H1 []) (h : Gs w K σ1 S1 A1 B1 H1 σ2 S2 A2 B2 H2 F2) : Gs w K σ S A B H σ2 S2 A2 B2 H2 F2 := ⟨h.sr, h.ok, g.st.trans h.st, g.mu.trans h.mu⟩
theorem Fin.from {out : Out} (g : Gs w K σ S A B H σ1 S1 A1 B1 H1 []) (h : Fin w K D σ S A B H out) : Fin w K D σ1 S1 A1 B1 H1 out := by
  cases out with
  | nx S' => exact fun σ' H' ⟨A', B', g'⟩ => h σ' H' ⟨A', B', g.seq g'⟩
  | bk S' => exact fun σ' H' ⟨A', B', g'⟩ => h σ' H' ⟨A', B', g.seq g'⟩
  | ct S' => exact fun σ' H' ⟨A', B', g'⟩ => h σ' H' ⟨A', B', g.seq g'⟩
  | rt r S' => exact fun v H' ⟨σ', A', B', F, g', x⟩ => h v H' ⟨σ', A', B', F, g.seq g', x⟩
end

/-! ### blocks -/
def sNop : SS := fun S => some (.nx S)
def sSeq (f g : SS) : SS := fun S => match f S with
  | some (.nx S1) => g S1
  | o => o
def sBrk : SS := fun S => some (.bk S)
def sCnt : SS := fun S => some (.ct S)
def sRet (f : SE) : SS := fun S => match f S with
  | some (.pl _, _) => none
  | some (r, S') => some (.rt r S')
  | none => none
def sRetN : SS := fun S => some (.rt (.im .none) S)
def sDrop (f : SE) : SS := fun S => match f S with
  | some (_, S') => some (.nx S')
  | none => none
def sIf (t : ST) (f g : SS) : SS := fun S => match t S with
  | some (true, S') => f S'
  | some (false, S') => g S'
  | none => none
/-- a statement that is never reached -/
def sDead : SS := fun _ => none
section
variable {X : Cx} {st : Stmt} {rest a b : List Stmt} {e c : Expr} {pos : Pos} {f g : SS} {h : SE} {t : ST}
theorem s_nil : Ss X [] sNop := pss_weak pss_nil fun D σ H ⟨S, A, B, out, sr, ok, e, q⟩ => by
  cases e
  exact q σ H ⟨A, B, Gs.refl sr ok⟩
theorem s_cons (h1 : St' X st f) (h2 : Ss X rest g) : Ss X (st :: rest) (sSeq f g) := pss_weak (pss_cons h1 h2) fun D σ H ⟨S, A, B, out, sr, ok, e, q⟩ => by
  unfold sSeq at e
  split at e
  · rename_i S1 e1
    exact ⟨S, A, B, .nx S1, sr, ok, e1, fun σ1 H1 ⟨A1, B1, g1⟩ => ⟨S1, A1, B1, out, g1.sr, g1.ok, e, q.from g1⟩⟩
  · rename_i hn
    refine ⟨S, A, B, out, sr, ok, e, ?_⟩
    cases out with
    | nx S' => exact absurd e (hn S')
    | bk S' => exact q
    | ct S' => exact q
    | rt r S' => exact q
theorem s_one (h1 : St' X st f) : Ss X [st] f := pss_one h1
theorem s_pass : St' X (.Pass pos) sNop := ps_weak ps_pass fun D σ H ⟨S, A, B, out, sr, ok, e, q⟩ => by
  cases e
  exact q σ H ⟨A, B, Gs.refl sr ok⟩
theorem s_brk : St' X (.Break pos) sBrk := ps_weak ps_break fun D σ H ⟨S, A, B, out, sr, ok, e, q⟩ => by
  cases e
  exact q σ H ⟨A, B, Gs.refl sr ok⟩
theorem s_cnt : St' X (.Continue pos) sCnt := ps_weak ps_continue fun D σ H ⟨S, A, B, out, sr, ok, e, q⟩ => by
  cases e
  exact q σ H ⟨A, B, Gs.refl sr ok⟩
theorem s_ret (he : E X e h) : St' X (.Return (some e) pos) (sRet h) := ps_weak (ps_ret he) fun D σ H ⟨S, A, B, out, sr, ok, e, q⟩ => by
  unfold sRet at e
  split at e
  · cases e
  · rename_i r S' hn e1
    cases e
    exact ⟨S, A, B, r, S', sr, ok, e1, fun v H' ⟨A', B', F, g', x⟩ => q v H' ⟨σ, A', B', F, g'.gs, x⟩⟩
  · cases e
theorem s_retN : St' X (.Return none pos) sRetN := ps_weak ps_retN fun D σ H ⟨S, A, B, out, sr, ok, e, q⟩ => by
  cases e
  exact q .non H ⟨σ, A, B, [], Gs.refl sr ok, .im .non⟩
theorem s_expr (he : E X e h) (hs : swapsWith e none pos.line X.env = pure false := by rfl) : St' X (.Expr e pos) (sDrop h) := ps_weak (ps_expr he hs) fun D σ H ⟨S, A, B, out, sr, ok, e, q⟩ => by
  unfold sDrop at e
  split at e
  · rename_i r S' e1
    cases e
    exact ⟨S, A, B, r, S', sr, ok, e1, fun v H' ⟨A', B', F, g', x⟩ => q σ H' ⟨A', B', g'.drop.gs⟩⟩
  · cases e
theorem s_if (hc : Et X c t) (ha : Ss X a f) (hb : Ss X b g) : St' X (.If c a b pos) (sIf t f g) := ps_weak (ps_if hc ha hb) fun D σ H ⟨S, A, B, out, sr, ok, e, q⟩ => by
  unfold sIf at e
  split at e
  · rename_i S' e1
    refine ⟨S, A, B, true, S', sr, ok, e1, fun H' ⟨A', B', g'⟩ => iteT ?_⟩
    exact ⟨S', A', B', out, g'.sr, g'.ok, e, q.from g'.gs⟩
  · rename_i S' e1
    refine ⟨S, A, B, false, S', sr, ok, e1, fun H' ⟨A', B', g'⟩ => iteF ?_⟩
    exact ⟨S', A', B', out, g'.sr, g'.ok, e, q.from g'.gs⟩
  · cases e
theorem s_dead : St' X st sDead := ps_weak ps_never fun D σ H ⟨S, A, B, out, sr, ok, e, q⟩ => by cases e
end

/-! ### stores -/
def Rs.sl : Rs → Option Sl
  | .im d => some (.im d)
  | .fr o => some (.ow o)
  | .pl _ => none
def isMu (S : List Sl) (i : Nat) : Bool := match S[i]? with
  | some (.mu _) => true
  | some _ => false
  | none => true
def sSet (i : Nat) (f : SE) : SS := fun S => match f S with
  | some (r, S') => match r.sl with
    | some s => if isMu S' i then none else some (.nx (S'.set i s))
    | none => none
  | none => none
/-- targets of data -/
abbrev STg := D → List Sl → Option (List Sl)
def gN (i : Nat) : STg := fun d S => if isMu S i then none else some (S.set i (.im d))
def gTs : List Nat → List D → List Sl → Option (List Sl)
  | [], [], S => some S
  | i :: is, d :: ds, S => match gN i d S with
    | some S' => gTs is ds S'
    | none => none
  | _, _, _ => none
def gT (is : List Nat) : STg := fun d S => match d with
  | .tuple ds => gTs is ds S
  | .list ds => gTs is ds S
  | _ => none
def sAsg (f : SE) (g : STg) : SS := fun S => match f S with
  | some (r, S') => match r.fz with
    | some d => match g d S' with
      | some S2 => some (.nx S2)
      | none => none
    | none => none
  | none => none
def Tg (w : World) (K : PySem.W.Frag) (g : STg) : TG := fun v σ H Q => ∃ S A B d S', SR w K B H σ S A ∧ Ok A B H ∧ Dp K B v d ∧ g d S = some S' ∧ ∀ σ', (∃ A', Gs w K σ S A B H σ' S' A' B H []) → Q σ' H
section
variable {w : World} {K : PySem.W.Frag} {σ : L2.St} {S : List Sl} {A : List Addr} {B H : Hp}
theorem isMu_not {S : List Sl} {i : Nat} (h : ¬ isMu S i = true) : ∃ s, S[i]? = some s ∧ ∀ o, s ≠ .mu o := by
  unfold isMu at h
  cases e : S[i]? with
  | none => rw [e] at h; exact absurd rfl h
  | some s =>
    rw [e] at h
    refine ⟨s, rfl, fun o z => ?_⟩
    subst z
    exact h rfl
theorem mus_set {S : List Sl} {σ : L2.St} {i : Nat} {s : Sl} {x : Option V} (h : ∀ o, S[i]? ≠ some (.mu o)) : MuS S σ (σ.set i x) (S.set i s) := fun j o e => by
  by_cases ij : i = j
  · subst ij; exact absurd e (h o)
  · exact ⟨List.getElem?_set_ne ij, o, by rw [List.getElem?_set_ne ij]; exact e⟩
/-- a result goes into a slot -/
theorem set_slot {i : Nat} {r : Rs} {s : Sl} {v : V} {F : List Addr} (sr : SR w K B H σ S A) (ok : Ok (F ++ A) B H) (x : RR w K σ B H v r F) (hr : r.sl = some s) (hm : ¬ isMu S i = true) :
    ∃ A', SR w K B H (σ.set i (some v)) (S.set i s) A' ∧ Ok A' B H ∧ (∀ a ∈ A', a ∈ F ++ A) ∧ MuS S σ (σ.set i (some v)) (S.set i s) := by
  obtain ⟨s0, e0, hn⟩ := isMu_not hm
  obtain ⟨y, A1, As, A2, eA, es, sl, f⟩ := sr.at e0
  have slr : SlR w K B H (some v) s F := by
    cases x with
    | im x => cases hr; exact .im x
    | fr x => cases hr; exact .ow x
    | pl x => cases hr
  have z := f (B' := B) (H' := H) (x' := some v) (s' := s) (As' := F) (Same.refl B) (fun a _ o h => h) slr
  refine ⟨_, z, ?_, ?_, mus_set fun o e => ?_⟩
  · have p : ∀ a ∈ A1 ++ (F ++ A2), a ∈ F ++ A := fun a ha => by
      rw [eA]
      simp only [List.mem_append] at ha ⊢
      rcases ha with h | h | h
      · exact .inr (.inl h)
      · exact .inl h
      · exact .inr (.inr (.inr h))
    refine ok.sub' ?_ p
    have nd := ok.nd
    rw [eA] at nd
    obtain ⟨n1, n2, n3⟩ := List.nodup_append.mp nd
    obtain ⟨m1, m2, m3⟩ := List.nodup_append.mp n2
    obtain ⟨l1, l2, l3⟩ := List.nodup_append.mp m2
    refine List.nodup_append.mpr ⟨m1, List.nodup_append.mpr ⟨n1, l2, fun a ha b hb => n3 a ha b (by simp [hb])⟩, fun a ha b hb e => ?_⟩
    rcases List.mem_append.mp hb with hb | hb
    · exact n3 b hb a (by simp [ha]) e.symm
    · exact m3 a ha b (by simp [hb]) e
  · intro a ha
    rw [eA]
    simp only [List.mem_append] at ha ⊢
    rcases ha with h | h | h
    · exact .inr (.inl h)
    · exact .inl h
    · exact .inr (.inr (.inr h))
  · rw [e0] at e
    cases e
    exact hn o rfl
theorem tg_name {i : Nat} {v : V} {Q : L2.St → Hp → Prop} (h : Tg w K (gN i) v σ H Q) : gName i v σ H Q := by
  obtain ⟨S, A, B, d, S', sr, ok, dd, e, q⟩ := h
  unfold gN at e
  split at e
  · cases e
  · rename_i hm
    cases e
    obtain ⟨A', z1, z2, z3, z4⟩ := set_slot (F := []) sr ok (.im dd) rfl hm
    exact q _ ⟨A', z1, z2, Step.refl.sub fun a ha => by simpa using z3 a ha, z4⟩
def Tgs (w : World) (K : PySem.W.Frag) (is : List Nat) : TGs := fun vs σ H Q => ∃ S A B ds S', SR w K B H σ S A ∧ Ok A B H ∧ DpAll K B vs ds ∧ gTs is ds S = some S' ∧ ∀ σ', (∃ A', Gs w K σ S A B H σ' S' A' B H []) → Q σ' H
theorem tgs_nil {vs : List V} {Q : L2.St → Hp → Prop} (h : Tgs w K [] vs σ H Q) : gNil vs σ H Q := by
  obtain ⟨S, A, B, ds, S', sr, ok, dd, e, q⟩ := h
  cases dd with
  | nil =>
    cases e
    exact ⟨rfl, q σ ⟨A, Gs.refl sr ok⟩⟩
  | cons h r => cases e
theorem tgs_cons {i : Nat} {is : List Nat} {vs : List V} {Q : L2.St → Hp → Prop} (h : Tgs w K (i :: is) vs σ H Q) : gCons (gName i) (Tgs w K is) vs σ H Q := by
  obtain ⟨S, A, B, ds, S', sr, ok, dd, e, q⟩ := h
  cases dd with
  | nil => cases e
  | @cons v vs d ds hd hr =>
    simp only [gTs] at e
    split at e
    · rename_i S1 e1
      refine ⟨v, vs, rfl, tg_name ⟨S, A, B, d, S1, sr, ok, hd, e1, fun σ1 ⟨A1, g1⟩ => ?_⟩⟩
      exact ⟨S1, A1, B, ds, S', g1.sr, g1.ok, hr, e, fun σ2 ⟨A2, g2⟩ => q σ2 ⟨A2, g1.seq g2⟩⟩
    · cases e
theorem gTs_len : ∀ (is : List Nat) (ds : List D) (S S' : List Sl), gTs is ds S = some S' → ds.length = is.length := by
  intro is
  induction is with
  | nil => intro ds S S' e; cases ds with
    | nil => rfl
    | cons _ _ => cases e
  | cons i is ih => intro ds S S' e; cases ds with
    | nil => cases e
    | cons d ds =>
      simp only [gTs] at e
      split at e
      · rw [List.length_cons, List.length_cons, ih _ _ _ e]
      · cases e
theorem tg_tup {is : List Nat} {v : V} {Q : L2.St → Hp → Prop} {n : Nat} (hn : is.length = n) (h : Tg w K (gT is) v σ H Q) : gTup K n (Tgs w K is) v σ H Q ∨ gUnl K n (Tgs w K is) v σ H Q := by
  obtain ⟨S, A, B, d, S', sr, ok, dd, e, q⟩ := h
  unfold gT at e
  split at e
  · rename_i ds
    cases dd with
    | @tup a vs _ h r =>
      exact .inl ⟨a, vs, rfl, sqt_mono ok.sub h, by rw [dps_length r, gTs_len _ _ _ _ e, hn], S, A, B, ds, S', sr, ok, r, e, q⟩
  · rename_i ds
    cases dd with
    | @lst a vs _ h r =>
      exact .inr ⟨a, vs, rfl, sql_mono ok.sub h, by rw [dps_length r, gTs_len _ _ _ _ e, hn], S, A, B, ds, S', sr, ok, r, e, q⟩
  · cases e
end
section
variable {X : Cx} {e tg : Expr} {h : SE} {g : STg} {pos pos' : Pos}
theorem pg_weak {t t' : TG} (h : PG X tg t) (hw : ∀ v σ H Q, t' v σ H Q → t v σ H Q) : PG X tg t' := ⟨fun pins s σ H v u Q I r q => h.run pins s σ H v u Q I r (hw _ _ _ _ q)⟩
theorem pgs_weak {tgs : List Expr} {t t' : TGs} (h : PGs X tgs t) (hw : ∀ v σ H Q, t' v σ H Q → t v σ H Q) : PGs X tgs t' := ⟨fun pins s σ H v u Q I r q => h.run pins s σ H v u Q I r (hw _ _ _ _ q)⟩
def Gt (X : Cx) (tg : Expr) (g : STg) : Prop := PG X tg (Tg X.w X.K g)
def Gts (X : Cx) (tg : List Expr) (is : List Nat) : Prop := PGs X tg (Tgs X.w X.K is)
theorem g_name (i : Nat) {x : Str} (hN : X.N.Nodup) (hi : X.N[i]? = some x := by rfl) (hx : Loc X.env.scope x := by first | exact Or.inl rfl | exact Or.inr rfl) (hf : X.fn x = true ∨ X.env.scope.names.lookup x = some .local := by first | exact .inl rfl | exact .inr rfl) :
    Gt X (.Name x pos) (gN i) := pg_weak (pg_name hN hi hx hf) fun _ _ _ _ z => tg_name z
theorem gs_nil : Gts X [] [] := pgs_weak pgs_nil fun _ _ _ _ z => tgs_nil z
theorem gs_cons (i : Nat) {x : Str} {es : List Expr} {is : List Nat} (hs : Gts X es is) (hN : X.N.Nodup) (hi : X.N[i]? = some x := by rfl) (hx : Loc X.env.scope x := by first | exact Or.inl rfl | exact Or.inr rfl)
    (hf : X.fn x = true ∨ X.env.scope.names.lookup x = some .local := by first | exact .inl rfl | exact .inr rfl) (hst : (assignEach (.Name x pos :: es) X.env).map (·.2) = assign (.Name x pos) X.env :: (assignEach es X.env).map (·.2) := by rfl) :
    Gts X (.Name x pos :: es) (i :: is) := pgs_weak (pgs_cons (pg_name hN hi hx hf) hs hst) fun _ _ _ _ z => tgs_cons z
theorem pg_or2 {t t' : TG} (h : PG X tg t) (h' : PG X tg t') : PG X tg (fun v σ H Q => t v σ H Q ∨ t' v σ H Q) := ⟨fun pins s σ H v u Q I r z => z.elim (h.run pins s σ H v u Q I r) (h'.run pins s σ H v u Q I r)⟩
theorem g_tupA {es : List Expr} {k n : Nat} {is : List Nat} (hc : X.calm = true) (hn : is.length = n) (h : Gts X es is) (hl : (assignEach es X.env).length = n := by rfl) (hst : (assignEach es X.env).findIdx? (·.1) = none := by rfl) :
    Gt X (.Tuple es k pos) (gT is) := pg_weak (pg_or2 (pg_tup hc h hl hst) (pg_unl hc h hl hst)) fun _ _ _ _ z => tg_tup hn z
theorem s_set (i : Nat) {x : Str} (hN : X.N.Nodup) (he : E X e h) (hi : X.N[i]? = some x := by rfl) (hx : Loc X.env.scope x := by first | exact Or.inl rfl | exact Or.inr rfl) (hs : swapsWith e (some (.Name x pos')) pos.line X.env = pure false := by rfl)
    (hf : X.fn x = true ∨ X.env.scope.names.lookup x = some .local := by first | exact .inl rfl | exact .inr rfl) : St' X (.Assign [.Name x pos'] e pos) (sSet i h) := ps_weak (ps_set hN hi hx he hs hf) fun D σ H ⟨S, A, B, out, sr, ok, e, q⟩ => by
  unfold sSet at e
  split at e
  · rename_i r S' e1
    split at e
    · rename_i s er
      split at e
      · cases e
      · rename_i hm
        cases e
        refine ⟨S, A, B, r, S', sr, ok, e1, fun v H' ⟨A', B', F, g', x⟩ => ?_⟩
        obtain ⟨A2, z1, z2, z3, z4⟩ := set_slot g'.sr g'.ok x er hm
        exact q _ _ ⟨A2, B', z1, z2, g'.st.sub z3, (g'.mu.s σ).trans z4⟩
    · cases e
  · cases e
theorem s_asg (he : E X e h) (hg : Gt X tg g) (hs : swapsWithSole [tg] e pos.line X.env = pure false := by rfl) (hw : swappedStores [tg] e X.env = pure none := by rfl) (h1 : (assignEach [tg] X.env).map (·.2) = [assign tg X.env] := by rfl) :
    St' X (.Assign [tg] e pos) (sAsg h g) := ps_weak (ps_asg he hg hs hw h1) fun D σ H ⟨S, A, B, out, sr, ok, e, q⟩ => by
  unfold sAsg at e
  split at e
  · rename_i r S' e1
    split at e
    · rename_i d ed
      split at e
      · rename_i S2 eg
        cases e
        refine ⟨S, A, B, r, S', sr, ok, e1, fun v H' ⟨A', B', F, g', x⟩ => ?_⟩
        obtain ⟨f1, f2⟩ := step_freeze g'.ok
        have sr1 : SR X.w X.K (ov B' H' F) H' σ S' A' := g'.sr.step (ov_same g'.ok.sub) fun a _ o h => h
        have g1 : Gs X.w X.K σ S A B H σ S' A' (ov B' H' F) H' [] := ⟨sr1, f1, g'.st.trans f2, g'.mu.s σ⟩
        exact ⟨S', A', ov B' H' F, d, S2, sr1, f1, x.data (ov_same g'.ok.sub) (fun a ha => ov_in ha) ed, eg, fun σ2 ⟨A2, g2⟩ => q σ2 _ ⟨A2, _, g1.seq g2⟩⟩
      · cases e
    · cases e
  · cases e
/-- a, b = e1, e2 -/
def sPar (i j : Nat) (f g : SE) : SS := fun S => match sCons f (sCons g sNil) S with
  | some ([r1, r2], S') => match r1.sl, r2.sl with
    | some s1, some s2 => if isMu S' i || isMu S' j then none else some (.nx ((S'.set i s1).set j s2))
    | _, _ => none
  | _ => none
theorem isMu_set {S : List Sl} {i j : Nat} {s : Sl} (ij : i ≠ j) (h : ¬ isMu S j = true) : ¬ isMu (S.set i s) j = true := by
  unfold isMu at h ⊢
  rw [List.getElem?_set_ne ij]
  exact h
theorem s_par {i j : Nat} {x y : Str} {a b : Expr} {px py pt : Pos} {kt k2 : Nat} {pt2 : Pos} {f g : SE} (hc : X.calm = true) (hN : X.N.Nodup) (hi : X.N[i]? = some x) (hj : X.N[j]? = some y) (hij : i ≠ j)
    (ha : Es X [a, b] (sCons f (sCons g sNil))) (hp : PS X (.Assign [.Tuple [.Name x px, .Name y py] kt pt] (.Tuple [a, b] k2 pt2) pos) (tPar i j (Ta X.w X.K (sCons f (sCons g sNil))))) :
    St' X (.Assign [.Tuple [.Name x px, .Name y py] kt pt] (.Tuple [a, b] k2 pt2) pos) (sPar i j f g) := ps_weak hp fun D σ H ⟨S, A, B, out, sr, ok, e, q⟩ => by
  unfold sPar at e
  split at e
  · rename_i r1 r2 S' e1
    split at e
    · rename_i s1 s2 es1 es2
      split at e
      · cases e
      · rename_i hm
        cases e
        rw [Bool.or_eq_true] at hm
        refine ⟨S, A, B, _, S', sr, ok, e1, fun vs H' ⟨A', B', F, g', x⟩ => ?_⟩
        cases x with
        | @cons v _ F1 FA _ _ x1 x =>
          cases x with
          | @cons u _ F2 FB _ _ x2 x =>
            cases x
            refine ⟨v, u, rfl, ?_⟩
            have gok := g'.ok
            have gst := g'.st
            rw [List.append_nil] at gok gst
            have o1 : Ok (F1 ++ (F2 ++ A')) B' H' := by rw [← List.append_assoc]; exact gok
            have o2 : Ok (F2 ++ (F1 ++ A')) B' H' := ok_mid o1
            obtain ⟨A1, z1, z2, z3, z4⟩ := set_slot g'.sr o2.right x1 es1 (fun h => hm (.inl h))
            have o3 : Ok (F2 ++ A1) B' H' := by
              refine o2.sub' ?_ fun a ha => ?_
              · refine List.nodup_append.mpr ⟨o2.left.nd, z2.nd, fun a ha b hb e => ?_⟩
                subst e
                exact o2.disj ha (z3 a hb)
              · rcases List.mem_append.mp ha with h | h
                · exact List.mem_append_left _ h
                · exact List.mem_append_right _ (z3 a h)
            have x2' : RR X.w X.K (σ.set i (some v)) B' H' u r2 F2 := by
              cases x2 with
              | im h => exact .im h
              | fr h => exact .fr h
              | pl h => cases es2
            obtain ⟨A2, y1, y2, y3, y4⟩ := set_slot z1 o3 x2' es2 (isMu_set hij fun h => hm (.inr h))
            refine q _ _ ⟨A2, B', y1, y2, gst.sub fun a ha => ?_, ((g'.mu.s σ).trans z4).trans y4⟩
            rcases List.mem_append.mp (y3 a ha) with h | h
            · simp [h]
            · rcases List.mem_append.mp (z3 a h) with h | h
              · simp [h]
              · simp [h]
    · cases e
  · cases e
end
end Fl
/-! Fl: loops, comprehensions. -/
namespace Fl
open PySem L2

abbrev SI := List Sl → Option (List D × List Sl)
/-- one item of a walk -/
def ItemOk (K : PySem.W.Frag) (B H1 : Hp) (x : V) (H2 : Hp) (d : D) : Prop := (H2 = H1 ∧ Dp K B x d) ∨ ∃ p vs es, x = .ref p ∧ d = .tuple es ∧ H1 p = none ∧ H2 = upd H1 p (.tup vs) ∧ DpAll K B vs es
def WalkD (K : PySem.W.Frag) (J : It) (B : Hp) (ds : List D) : Prop := ∃ (G : Hp → Prop) (Y : Nat → Hp → V → Hp → Prop), L2.Walk J ds.length G Y ∧ (∀ H, Same B H → G H) ∧ ∀ i x H1 H2 d, ds[i]? = some d → Same B H1 → Y i H1 x H2 → ItemOk K B H1 x H2 d
def Ti (w : World) (K : PySem.W.Frag) (it : SI) : TI := fun σ H R => ∃ S A B ds S', SR w K B H σ S A ∧ Ok A B H ∧ it S = some (ds, S') ∧ ∀ J H', (∃ A' B', Go w K σ S A B H S' A' B' H' [] ∧ WalkD K J B' ds) → R J H'
def Iw (X : Cx) (tg e : Expr) (it : SI) : Prop := PI X tg e (Ti X.w X.K it)
theorem pi_weak {X : Cx} {tg e : Expr} {t t' : TI} (h : PI X tg e t) (hw : ∀ σ H Q, t' σ H Q → t σ H Q) : PI X tg e t' := ⟨fun pins s σ H Q I h' => h.run pins s σ H Q I (hw _ _ _ h')⟩
/-- over a list or a tuple -/
def itOf (f : SE) : SI := fun S => match f S with
  | some (r, S') => match r.fz with
    | some (.list l) => some (l, S')
    | some (.tuple l) => some (l, S')
    | _ => none
  | none => none
def rngD (lo : Int) (n : Nat) : List D := (List.range n).map fun i => PyData.int (lo + (i : Nat))
def small62 (i : Int) : Bool := Nat.ble i.natAbs 4000000000
theorem small62_iff {i : Int} : small62 i = true ↔ i.natAbs ≤ 4000000000 := by unfold small62; rw [Nat.ble_eq]
theorem small62_b' {i : Int} (h : small62 i = true) : -(2 ^ 62) ≤ i ∧ i < 2 ^ 62 := by
  have z := small62_iff.mp h
  exact ⟨by omega, by omega⟩
def itR1 (f : SE) : SI := fun S => match f S with
  | some (r, S') => match vw S' r with
    | some (.int n) => if small62 n then some (rngD 0 n.toNat, S') else none
    | _ => none
  | none => none
def itR2 (f g : SE) : SI := fun S => match sCons f (sCons g sNil) S with
  | some (rs, S') => match vws S' rs with
    | some [.int a, .int b] => if small62 a && small62 b then some (rngD a (b - a).toNat, S') else none
    | _ => none
  | none => none
section
variable {X : Cx} {tg e a b : Expr} {f g : SE} {pos p : Pos}
theorem walkD_list {K : PySem.W.Frag} {B : Hp} {a : Addr} {vs : List V} {ds : List D} (h : SqL K B a vs) (r : DpAll K B vs ds) : WalkD K (Itl K a) B ds := by
  refine ⟨_, _, by rw [← dps_length r]; exact walk_list, fun H s => sql_mono s h, fun i x H1 H2 d hd s y => ?_⟩
  obtain ⟨v, h1, h2⟩ := dps_get r hd
  have z := y.2
  rw [h1] at z
  cases z
  exact .inl ⟨y.1, h2⟩
theorem walkD_tup {K : PySem.W.Frag} {B : Hp} {a : Addr} {vs : List V} {ds : List D} (h : SqT K B a vs) (r : DpAll K B vs ds) : WalkD K (Itt K a) B ds := by
  refine ⟨_, _, by rw [← dps_length r]; exact walk_tup, fun H s => sqt_mono s h, fun i x H1 H2 d hd s y => ?_⟩
  obtain ⟨v, h1, h2⟩ := dps_get r hd
  have z := y.2
  rw [h1] at z
  cases z
  exact .inl ⟨y.1, h2⟩
theorem walkD_range {K : PySem.W.Frag} {B : Hp} (lo : Int) (n : Nat) : WalkD K (Itr lo n) B (rngD lo n) := by
  refine ⟨_, _, by unfold rngD; rw [List.length_map, List.length_range]; exact walk_range, fun _ _ => trivial, fun i x H1 H2 d hd s y => ?_⟩
  unfold rngD at hd
  rw [List.getElem?_map] at hd
  cases e : (List.range n)[i]? with
  | none => rw [e] at hd; cases hd
  | some j =>
    rw [e] at hd
    obtain ⟨h1, h2⟩ := List.getElem?_eq_some_iff.mp e
    rw [List.getElem_range] at h2
    subst h2
    cases hd
    refine .inl ⟨y.1, ?_⟩
    rw [y.2]
    exact .int _
theorem i_of (he : E X e f) : Iw X tg e (itOf f) := pi_weak (pi_or2 (pi_list he) (pi_tup he)) fun σ H R ⟨S, A, B, ds, S', sr, ok, e, q⟩ => by
  unfold itOf at e
  split at e
  · rename_i r S1 e1
    split at e
    · rename_i l er
      cases e
      refine .inl ⟨S, A, B, r, _, sr, ok, e1, fun v H1 ⟨A1, B1, F1, g1, x1⟩ => ?_⟩
      obtain ⟨f1, f2⟩ := step_freeze g1.ok
      have dd := x1.data (B' := ov B1 H1 F1) (ov_same g1.ok.sub) (fun a ha => ov_in ha) er
      cases dd with
      | lst h r => exact ⟨_, rfl, ⟨_, sql_mono f1.sub h⟩, q _ H1 ⟨A1, _, ⟨g1.sr.step (ov_same g1.ok.sub) fun a _ o h => h, f1, g1.st.trans f2, g1.mu⟩, walkD_list h r⟩⟩
    · rename_i l er
      cases e
      refine .inr ⟨S, A, B, r, _, sr, ok, e1, fun v H1 ⟨A1, B1, F1, g1, x1⟩ => ?_⟩
      obtain ⟨f1, f2⟩ := step_freeze g1.ok
      have dd := x1.data (B' := ov B1 H1 F1) (ov_same g1.ok.sub) (fun a ha => ov_in ha) er
      cases dd with
      | tup h r => exact ⟨_, rfl, ⟨_, sqt_mono f1.sub h⟩, q _ H1 ⟨A1, _, ⟨g1.sr.step (ov_same g1.ok.sub) fun a _ o h => h, f1, g1.st.trans f2, g1.mu⟩, walkD_tup h r⟩⟩
    · cases e
  · cases e
theorem i_r1 (hg : Gl X "range") (hm : X.mg "range" = none) (ha : E X a f) (hs : starEach [a] X.env = [(false, eval a X.env)] := by rfl) (hq : starEach [a] X.env = (false, eval a X.env) :: starEach [] X.env := by rfl) :
    Iw X tg (.Call (.Name "range" p) [a] [] pos) (itR1 f) := pi_weak (pi_range1 hg hm (es_cons ha es_nil hq) hs) fun σ H R ⟨S, A, B, ds, S', sr, ok, e, q⟩ => by
  unfold itR1 at e
  split at e
  · rename_i r S1 e1
    split at e
    · rename_i n en
      split at e
      · rename_i hn
        cases e
        have hb := small62_b' hn
        refine ⟨S, A, B, [r], S', sr, ok, by unfold sCons; rw [e1]; rfl, fun vs H1 ⟨A1, B1, F1, g1, x1⟩ => ?_⟩
        obtain ⟨y, rfl, xr⟩ := rrs1 x1
        have z := vw_ok g1.sr xr g1.ok.sub en
        cases z
        exact ⟨n, rfl, hb.1, hb.2, q _ H1 ⟨A1, B1, g1.drop, walkD_range 0 _⟩⟩
      · cases e
    · cases e
  · cases e
theorem i_r2 (hg : Gl X "range") (hm : X.mg "range" = none) (ha : E X a f) (hb : E X b g) (hs : starEach [a, b] X.env = [(false, eval a X.env), (false, eval b X.env)] := by rfl) (hs2 : starEach [b] X.env = [(false, eval b X.env)] := by rfl)
    (hq : starEach [a, b] X.env = (false, eval a X.env) :: starEach [b] X.env := by rfl) (hq2 : starEach [b] X.env = (false, eval b X.env) :: starEach [] X.env := by rfl) :
    Iw X tg (.Call (.Name "range" p) [a, b] [] pos) (itR2 f g) := pi_weak (pi_range2 hg hm (es_cons ha (es_cons hb es_nil hq2) hq) hs hs2) fun σ H R ⟨S, A, B, ds, S', sr, ok, e, q⟩ => by
  unfold itR2 at e
  split at e
  · rename_i rs S1 e1
    split at e
    · rename_i i j en
      split at e
      · rename_i hn
        cases e
        rw [Bool.and_eq_true] at hn
        have h1 := small62_b' hn.1
        have h2 := small62_b' hn.2
        refine ⟨S, A, B, rs, _, sr, ok, e1, fun vs H1 ⟨A1, B1, F1, g1, x1⟩ => ?_⟩
        obtain ⟨x, y, rfl, vx, vy⟩ := vws2 (vws_ok g1.sr g1.ok.sub x1 en)
        cases vx; cases vy
        exact ⟨i, j, rfl, ⟨h1.1, h1.2, h2.1, h2.2⟩, q _ H1 ⟨A1, B1, g1.drop, walkD_range i _⟩⟩
      · cases e
    · cases e
  · cases e
end
/-! ### enumerate, zip -/
def enumD : Nat → List D → List D
  | _, [] => []
  | i, d :: ds => .tuple [.int (i : Nat), d] :: enumD (i + 1) ds
def zipD : List D → List D → List D
  | a :: as, b :: bs => .tuple [a, b] :: zipD as bs
  | _, _ => []
theorem enumD_get : ∀ (ds : List D) (k i : Nat), (enumD k ds)[i]? = (ds[i]?).map fun d => PyData.tuple [.int ((k + i : Nat)), d]
  | [], k, i => by simp [enumD]
  | d :: ds, k, 0 => by simp [enumD]
  | d :: ds, k, i + 1 => by
    show (enumD (k + 1) ds)[i]? = _
    rw [enumD_get ds (k + 1) i]
    simp only [List.getElem?_cons_succ]
    rw [show k + 1 + i = k + (i + 1) by omega]
theorem enumD_length : ∀ (ds : List D) (k : Nat), (enumD k ds).length = ds.length
  | [], k => rfl
  | d :: ds, k => by show (enumD (k + 1) ds).length + 1 = _; rw [enumD_length ds]; rfl
theorem zipD_length : ∀ (as bs : List D), (zipD as bs).length = min as.length bs.length
  | [], bs => by simp [zipD]
  | a :: as, [] => by simp [zipD]
  | a :: as, b :: bs => by show (zipD as bs).length + 1 = _; rw [zipD_length as bs, List.length_cons, List.length_cons]; omega
theorem zipD_get : ∀ (as bs : List D) (i : Nat) (d : D), (zipD as bs)[i]? = some d → ∃ x y, as[i]? = some x ∧ bs[i]? = some y ∧ d = .tuple [x, y]
  | [], bs, i, d, h => by simp [zipD] at h
  | a :: as, [], i, d, h => by simp [zipD] at h
  | a :: as, b :: bs, 0, d, h => by simp [zipD] at h; exact ⟨a, b, rfl, rfl, h.symm⟩
  | a :: as, b :: bs, i + 1, d, h => by
    obtain ⟨x, y, h1, h2, h3⟩ := zipD_get as bs i d h
    exact ⟨x, y, by simpa using h1, by simpa using h2, h3⟩
def itEnum (f : SE) : SI := fun S => match f S with
  | some (r, S') => match r.fz with
    | some (.list l) => some (enumD 0 l, S')
    | _ => none
  | none => none
def itZip (f g : SE) : SI := fun S => match sCons f (sCons g sNil) S with
  | some (rs, S') => match fzs rs with
    | some [.list a, .list b] => some (zipD a b, S')
    | some [.tuple a, .tuple b] => some (zipD a b, S')
    | _ => none
  | none => none
section
variable {X : Cx} {e e2 : Expr} {f g : SE} {pos p tpos : Pos} {elts : List Expr} {kk : Nat}
theorem i_enum (hg : Gl X "enumerate") (hm : X.mg "enumerate" = none) (ha : E X e f) (hs : starEach [e] X.env = [(false, eval e X.env)] := by rfl) (hq : starEach [e] X.env = (false, eval e X.env) :: starEach [] X.env := by rfl) :
    Iw X (.Tuple elts kk tpos) (.Call (.Name "enumerate" p) [e] [] pos) (itEnum f) := pi_weak (pi_enum hg hm (es_cons ha es_nil hq) hs) fun σ H R ⟨S, A, B, ds, S', sr, ok, e, q⟩ => by
  unfold itEnum at e
  split at e
  · rename_i r S1 e1
    split at e
    · rename_i l er
      cases e
      refine ⟨S, A, B, [r], S', sr, ok, by unfold sCons; rw [e1]; rfl, fun vs H1 ⟨A1, B1, F1, g1, x1⟩ => ?_⟩
      obtain ⟨y, rfl, xr⟩ := rrs1 x1
      obtain ⟨f1, f2⟩ := step_freeze g1.ok
      have dd := xr.data (B' := ov B1 H1 F1) (ov_same g1.ok.sub) (fun a ha => ov_in ha) er
      cases dd with
      | @lst a vs _ h r =>
        refine ⟨a, vs, rfl, sql_mono f1.sub h, q _ H1 ⟨A1, _, ⟨g1.sr.step (ov_same g1.ok.sub) fun a _ o h => h, f1, g1.st.trans f2, g1.mu⟩, ?_⟩⟩
        refine ⟨_, _, by rw [enumD_length, ← dps_length r]; exact walk_enum, fun H s => sql_mono s h, fun i x H1 H2 d hd s y => ?_⟩
        obtain ⟨T, a1, b1, h1, h2, h3, h4, h5⟩ := y
        cases h4
        rw [enumD_get] at hd
        cases e : l[i]? with
        | none => rw [e] at hd; cases hd
        | some d0 =>
          rw [e] at hd
          cases hd
          obtain ⟨v, q1, q2⟩ := dps_get r e
          have h5 : vs[i]? = some b1 := h5
          rw [q1] at h5
          cases h5
          exact .inr ⟨T, _, _, h1, rfl, h2, h3, .cons (by rw [Nat.zero_add]; exact .int _) (.cons q2 .nil)⟩
    · cases e
  · cases e
theorem i_zip (hg : Gl X "zip") (hm : X.mg "zip" = none) (hp : PI X (.Tuple elts kk tpos) (.Call (.Name "zip" p) [e, e2] [] pos) (RZ.iZipA X.K (Ta X.w X.K (sCons f (sCons g sNil))))) :
    Iw X (.Tuple elts kk tpos) (.Call (.Name "zip" p) [e, e2] [] pos) (itZip f g) := pi_weak hp fun σ H R ⟨S, A, B, ds, S', sr, ok, e, q⟩ => by
  unfold itZip at e
  split at e
  · rename_i rs S1 e1
    split at e
    · rename_i a b er
      cases e
      refine ⟨S, A, B, rs, _, sr, ok, e1, fun vs H1 ⟨A1, B1, F1, g1, x1⟩ => ?_⟩
      obtain ⟨f1, f2⟩ := step_freeze g1.ok
      have dd := x1.data (B' := ov B1 H1 F1) (ov_same g1.ok.sub) (fun a ha => ov_in ha) er
      cases dd with
      | cons d1 dd =>
        cases dd with
        | cons d2 dd =>
          cases dd
          cases d1 with
          | @lst a1 v1 _ h1 r1 =>
            cases d2 with
            | @lst a2 v2 _ h2 r2 =>
              refine ⟨a1, a2, v1, v2, rfl, .inl ⟨sql_mono f1.sub h1, sql_mono f1.sub h2, q _ H1 ⟨A1, _, ⟨g1.sr.step (ov_same g1.ok.sub) fun a _ o h => h, f1, g1.st.trans f2, g1.mu⟩, ?_⟩⟩⟩
              refine ⟨_, _, walk_zip (by rw [zipD_length, ← dps_length r1, ← dps_length r2]), fun H s => ⟨sql_mono s h1, sql_mono s h2⟩, fun i x H1 H2 d hd s y => ?_⟩
              obtain ⟨T, x1, y1, z1, z2, z3, z4, z5⟩ := y
              obtain ⟨x0, y0, e1, e2, rfl⟩ := zipD_get _ _ _ _ hd
              obtain ⟨u1, p1, p2⟩ := dps_get r1 e1
              obtain ⟨u2, p3, p4⟩ := dps_get r2 e2
              have z4 : v1[i]? = some x1 := z4
              have z5 : v2[i]? = some y1 := z5
              rw [p1] at z4
              rw [p3] at z5
              cases z4; cases z5
              exact .inr ⟨T, _, _, z1, rfl, z2, z3, .cons p2 (.cons p4 .nil)⟩
    · rename_i a b er
      cases e
      refine ⟨S, A, B, rs, _, sr, ok, e1, fun vs H1 ⟨A1, B1, F1, g1, x1⟩ => ?_⟩
      obtain ⟨f1, f2⟩ := step_freeze g1.ok
      have dd := x1.data (B' := ov B1 H1 F1) (ov_same g1.ok.sub) (fun a ha => ov_in ha) er
      cases dd with
      | cons d1 dd =>
        cases dd with
        | cons d2 dd =>
          cases dd
          cases d1 with
          | @tup a1 v1 _ h1 r1 =>
            cases d2 with
            | @tup a2 v2 _ h2 r2 =>
              refine ⟨a1, a2, v1, v2, rfl, .inr ⟨sqt_mono f1.sub h1, sqt_mono f1.sub h2, q _ H1 ⟨A1, _, ⟨g1.sr.step (ov_same g1.ok.sub) fun a _ o h => h, f1, g1.st.trans f2, g1.mu⟩, ?_⟩⟩⟩
              have hw : L2.Walk (RZ.ItzT X.K a1 a2) (zipD a b).length (fun H => SqT X.K H a1 v1 ∧ SqT X.K H a2 v2) (YPair (fun i => v1[i]?) (fun i => v2[i]?)) := by
                have hn : (zipD a b).length = min v1.length v2.length := by rw [zipD_length, ← dps_length r1, ← dps_length r2]
                rw [hn]
                refine ⟨fun i _ hi q => ?_, fun _ q => ⟨v1, v2, q.1, q.2, by omega⟩, fun i H v H' _ q y => ?_⟩
                · have h1 : i < v1.length := by omega
                  have h2 : i < v2.length := by omega
                  exact ⟨v1, v2, v1[i], v2[i], q.1, q.2, by simp [h1], by simp [h2]⟩
                · obtain ⟨T, x, z, h1, h2, h3, h4, h5⟩ := y
                  exact ⟨T, x, z, h1, h2, h3, h4 v1 q.1, h5 v2 q.2⟩
              refine ⟨_, _, hw, fun H s => ⟨sqt_mono s h1, sqt_mono s h2⟩, fun i x H1 H2 d hd s y => ?_⟩
              obtain ⟨T, x1, y1, z1, z2, z3, z4, z5⟩ := y
              obtain ⟨x0, y0, e1, e2, rfl⟩ := zipD_get _ _ _ _ hd
              obtain ⟨u1, p1, p2⟩ := dps_get r1 e1
              obtain ⟨u2, p3, p4⟩ := dps_get r2 e2
              have z4 : v1[i]? = some x1 := z4
              have z5 : v2[i]? = some y1 := z5
              rw [p1] at z4
              rw [p3] at z5
              cases z4; cases z5
              exact .inr ⟨T, _, _, z1, rfl, z2, z3, .cons p2 (.cons p4 .nil)⟩
    · cases e
  · cases e
end
/-! ### for -/
def forL (g : STg) (body : SS) : List D → List Sl → Option Out
  | [], S => some (.nx S)
  | d :: ds, S => match g d S with
    | some S1 => match body S1 with
      | some (.nx S2) => forL g body ds S2
      | some (.ct S2) => forL g body ds S2
      | some (.bk S2) => some (.nx S2)
      | some (.rt r S2) => some (.rt r S2)
      | none => none
    | none => none
def sFor (it : SI) (g : STg) (body : SS) : SS := fun S => match it S with
  | some (ds, S1) => forL g body ds S1
  | none => none
def whileL (t : ST) (body : SS) : Nat → List Sl → Option Out
  | 0, _ => none
  | n + 1, S => match t S with
    | some (true, S1) => match body S1 with
      | some (.nx S2) => whileL t body n S2
      | some (.ct S2) => whileL t body n S2
      | some (.bk S2) => some (.nx S2)
      | some (.rt r S2) => some (.rt r S2)
      | none => none
    | some (false, S1) => some (.nx S1)
    | none => none
def sWhile (n : Nat) (t : ST) (body : SS) : SS := whileL t body n
section
variable {w : World} {K : PySem.W.Frag}
/-- an item comes: the base may grow by a pair -/
theorem item_step {σ : L2.St} {S : List Sl} {A : List Addr} {B B0 H1 H2 : Hp} {x : V} {d : D} (sr : SR w K B H1 σ S A) (ok : Ok A B H1) (s0 : Same B0 B) (y : ItemOk K B0 H1 x H2 d) : ∃ B', Gs w K σ S A B H1 σ S A B' H2 [] ∧ Dp K B' x d := by
  rcases y with ⟨rfl, dd⟩ | ⟨p, vs, es, rfl, rfl, hp, rfl, dd⟩
  · exact ⟨B, Gs.refl sr ok, dp_mono s0 dd⟩
  · obtain ⟨k2, s2⟩ := step_newB (o := .tup vs) ok hp sr.tracked
    refine ⟨_, ⟨sr.step s2.bx fun a ha o h => ?_, k2, s2, MuS.refl S σ⟩, .tup (.inl (.inl upd_same)) (dps_mono (s0.trans s2.bx) dd)⟩
    rw [upd_ne (ne_of_none h hp)]; exact h
end
section
variable {X : Cx} {tg iter test : Expr} {body : List Stmt} {it : SI} {g : STg} {f : SS} {t : ST} {pos : Pos}
theorem s_for (hp : PassesOwn (model X.prog X.w) X.A X.env X.xe) (hc : X.calm = true) (hi : Iw X tg iter it) (hg : Gt X tg g) (hb : Ss X body f) (hs : ∀ x, foldedSetIterable iter X.env x = pure x := by intro _; rfl) :
    St' X (.For tg iter body [] pos) (sFor it g f) := ps_weak (ps_for hp hc hi hg hb hs) fun D σ H ⟨S, A, B, out, sr, ok, e, q⟩ => by
  unfold sFor at e
  split at e
  · rename_i ds S1 e1
    refine ⟨S, A, B, ds, S1, sr, ok, e1, fun J H1 ⟨A1, B1, g1, G, Y, wk, hG, hY⟩ => ?_⟩
    have q1 := q.from g1.gs
    refine for_it wk (fun i σ' H' => ∃ S' A' B', Gs X.w X.K σ S1 A1 B1 H1 σ' S' A' B' H' [] ∧ forL g f (ds.drop i) S' = some out) ⟨S1, A1, B1, Gs.refl g1.sr g1.ok, e⟩ (fun i σ' H' _ ⟨S', A', B', g', _⟩ => hG H' (g'.st.bx.trans g'.ok.sub)) ?_ ?_
    · intro i x σ' H' H2 hi ⟨S', A', B', g', e'⟩ y
      obtain ⟨d, hd⟩ : ∃ d, ds[i]? = some d := ⟨ds[i], by simp [hi]⟩
      have ed : ds.drop i = d :: ds.drop (i + 1) := by
        obtain ⟨h1, h2⟩ := List.getElem?_eq_some_iff.mp hd
        rw [← h2]; exact List.drop_eq_getElem_cons h1
      rw [ed] at e'
      simp only [forL] at e'
      split at e'
      · rename_i S2 e2
        obtain ⟨B2, g2, dd⟩ := item_step g'.sr g'.ok g'.st.bx (hY i x H' H2 d hd (g'.st.bx.trans g'.ok.sub) y)
        refine ⟨S', A', B2, d, S2, g2.sr, g2.ok, dd, e2, fun σ3 ⟨A3, g3⟩ => ?_⟩
        have gg := (g'.seq g2).seq g3
        split at e'
        · rename_i S3 e3
          exact ⟨S2, A3, B2, _, g3.sr, g3.ok, e3, fun σ4 H4 ⟨A4, B4, g4⟩ => ⟨S3, A4, B4, gg.seq g4, e'⟩⟩
        · rename_i S3 e3
          exact ⟨S2, A3, B2, _, g3.sr, g3.ok, e3, fun σ4 H4 ⟨A4, B4, g4⟩ => ⟨S3, A4, B4, gg.seq g4, e'⟩⟩
        · rename_i S3 e3
          cases e'
          exact ⟨S2, A3, B2, _, g3.sr, g3.ok, e3, fun σ4 H4 ⟨A4, B4, g4⟩ => q1 σ4 H4 ⟨A4, B4, gg.seq g4⟩⟩
        · rename_i r S3 e3
          cases e'
          exact ⟨S2, A3, B2, _, g3.sr, g3.ok, e3, fun v H4 ⟨σ4, A4, B4, F, g4, x⟩ => q1 v H4 ⟨σ4, A4, B4, F, gg.seq g4, x⟩⟩
        · cases e'
      · cases e'
    · intro σ' H' ⟨S', A', B', g', e'⟩
      rw [List.drop_length] at e'
      cases e'
      exact q1 σ' H' ⟨A', B', g'⟩
  · cases e
theorem s_while (n : Nat) (hp : PassesOwn (model X.prog X.w) X.A X.env X.xe) (hc : Et X test t) (hb : Ss X body f) : St' X (.While test body [] pos) (sWhile n t f) := ps_weak (ps_while hp hc hb) fun D σ H ⟨S, A, B, out, sr, ok, e, q⟩ => by
  refine ⟨fun m σ' H' => ∃ S' A' B', Gs X.w X.K σ S A B H σ' S' A' B' H' [] ∧ whileL t f m S' = some out, ⟨n, S, A, B, Gs.refl sr ok, e⟩, ?_⟩
  intro m σ' H' ⟨S', A', B', g', e'⟩
  cases m with
  | zero => cases e'
  | succ m =>
    simp only [whileL] at e'
    split at e'
    · rename_i S1 e1
      refine ⟨S', A', B', true, S1, g'.sr, g'.ok, e1, fun H1 ⟨A1, B1, g1⟩ => iteT ?_⟩
      have gg := g'.seq g1.gs
      refine ⟨fun σ2 H2 => ∃ S' A' B', Gs X.w X.K σ S A B H σ2 S' A' B' H2 [] ∧ whileL t f m S' = some out, fun σ2 H2 z => ⟨m, Nat.lt_succ_self m, z⟩, ?_⟩
      split at e'
      · rename_i S3 e3
        exact ⟨S1, A1, B1, _, g1.sr, g1.ok, e3, fun σ4 H4 ⟨A4, B4, g4⟩ => ⟨S3, A4, B4, gg.seq g4, e'⟩⟩
      · rename_i S3 e3
        exact ⟨S1, A1, B1, _, g1.sr, g1.ok, e3, fun σ4 H4 ⟨A4, B4, g4⟩ => ⟨S3, A4, B4, gg.seq g4, e'⟩⟩
      · rename_i S3 e3
        cases e'
        exact ⟨S1, A1, B1, _, g1.sr, g1.ok, e3, fun σ4 H4 ⟨A4, B4, g4⟩ => q σ4 H4 ⟨A4, B4, gg.seq g4⟩⟩
      · rename_i r S3 e3
        cases e'
        exact ⟨S1, A1, B1, _, g1.sr, g1.ok, e3, fun v H4 ⟨σ4, A4, B4, F, g4, x⟩ => q v H4 ⟨σ4, A4, B4, F, gg.seq g4, x⟩⟩
      · cases e'
    · rename_i S1 e1
      cases e'
      exact ⟨S', A', B', false, S1, g'.sr, g'.ok, e1, fun H1 ⟨A1, B1, g1⟩ => iteF (q σ' H1 ⟨A1, B1, g'.seq g1.gs⟩)⟩
    · cases e'
end
end Fl
/-! Fl: comprehensions, stores, rows of lists, calls, defs. -/
namespace Fl
open PySem L2

/-! ### [f for x in it if t] -/
def lcL (i : Nat) (t : ST) (f : SE) : List D → List Sl → Option (List D × List Sl)
  | [], S => some ([], S)
  | d :: ds, S => match t (S.set i (.im d)) with
    | some (true, S2) => match f S2 with
      | some (r, S3) => match r.fz with
        | some e => match lcL i t f ds (S3.set i .un) with
          | some (es, S') => some (e :: es, S')
          | none => none
        | none => none
      | none => none
    | some (false, S2) => lcL i t f ds (S2.set i .un)
    | none => none
def isIm (S : List Sl) (i : Nat) : Bool := match S[i]? with
  | some (.im _) => true
  | some .un => true
  | _ => false
def eLc (it : SI) (i : Nat) (t : ST) (f : SE) : SE := fun S => match it S with
  | some (ds, S1) => if isIm S1 i then match lcL i t f ds (S1.set i .un) with
    | some (es, S2) => if szOk ds.length then some (.fr (.lst es), S2.set i (S1.getD i .un)) else none
    | none => none else none
  | none => none
def tY : ST := fun S => some (true, S)
section
variable {w : World} {K : PySem.W.Frag} {σ : L2.St} {S : List Sl} {A : List Addr} {B H : Hp}
theorem lcL_len (i : Nat) (t : ST) (f : SE) : ∀ (ds : List D) (S : List Sl) (es : List D) (S' : List Sl), lcL i t f ds S = some (es, S') → es.length ≤ ds.length
  | [], S, es, S', h => by cases h; exact Nat.le_refl _
  | d :: ds, S, es, S', h => by
    simp only [lcL] at h
    split at h
    · split at h
      · split at h
        · split at h
          · rename_i e1
            cases h
            have := lcL_len i t f ds _ _ _ e1
            rw [List.length_cons, List.length_cons]; omega
          · cases h
        · cases h
      · cases h
    · have := lcL_len i t f ds _ _ _ h
      rw [List.length_cons]; omega
    · cases h
/-- a slot is emptied -/
theorem un_slot {i : Nat} {s : Sl} (sr : SR w K B H σ S A) (h : S[i]? = some s) (x : Option V) : ∃ A', SR w K B H (σ.set i x) (S.set i .un) A' ∧ (∀ a ∈ A', a ∈ A) ∧ (A.Nodup → A'.Nodup) := by
  obtain ⟨y, A1, As, A2, eA, es, sl, f⟩ := sr.at h
  refine ⟨A1 ++ ([] ++ A2), f (Same.refl B) (fun a _ o h => h) .un, fun a ha => ?_, fun nd => ?_⟩
  · rw [eA]
    simp only [List.nil_append, List.mem_append] at ha ⊢
    rcases ha with h | h
    · exact .inl h
    · exact .inr (.inr h)
  · rw [eA] at nd
    obtain ⟨n1, n2, n3⟩ := List.nodup_append.mp nd
    exact List.nodup_append.mpr ⟨n1, (List.nodup_append.mp n2).2.1, fun a ha b hb => n3 a ha b (by simp at hb; simp [hb])⟩
/-- data into a slot -/
theorem im_slot {i : Nat} {s : Sl} {v : V} {d : D} (sr : SR w K B H σ S A) (h : S[i]? = some s) (dd : Dp K B v d) : ∃ A', SR w K B H (σ.set i (some v)) (S.set i (.im d)) A' ∧ (∀ a ∈ A', a ∈ A) ∧ (A.Nodup → A'.Nodup) := by
  obtain ⟨y, A1, As, A2, eA, es, sl, f⟩ := sr.at h
  refine ⟨A1 ++ ([] ++ A2), f (Same.refl B) (fun a _ o h => h) (.im dd), fun a ha => ?_, fun nd => ?_⟩
  · rw [eA]
    simp only [List.nil_append, List.mem_append] at ha ⊢
    rcases ha with h | h
    · exact .inl h
    · exact .inr (.inr h)
  · rw [eA] at nd
    obtain ⟨n1, n2, n3⟩ := List.nodup_append.mp nd
    exact List.nodup_append.mpr ⟨n1, (List.nodup_append.mp n2).2.1, fun a ha b hb => n3 a ha b (by simp at hb; simp [hb])⟩
theorem isIm_get {S : List Sl} {i : Nat} (h : isIm S i = true) : ∃ s, S[i]? = some s ∧ (s = .un ∨ ∃ d, s = .im d) := by
  unfold isIm at h
  cases e : S[i]? with
  | none => rw [e] at h; cases h
  | some s =>
    rw [e] at h
    cases s with
    | un => exact ⟨_, rfl, .inl rfl⟩
    | im d => exact ⟨_, rfl, .inr ⟨d, rfl⟩⟩
    | ow o => cases h
    | mu o => cases h
theorem set_set' {α : Type} (l : List α) (i : Nat) (x y : α) : (l.set i x).set i y = l.set i y := by simp
/-- the reading of a comprehension over one name -/
theorem t_lc {it : SI} {i : Nat} {t : ST} {f : SE} {Q : VK} (h : T w K (eLc it i t f) σ H Q) : tLc (Ti w K it) (gName i) (Tt w K t) (T w K f) [i] σ H Q := by
  obtain ⟨S, A, B, r, S', sr, ok, e, q⟩ := h
  unfold eLc at e
  split at e
  · rename_i ds S1 e1
    split at e
    · rename_i hi
      split at e
      · rename_i es S2 e2
        split at e
        · rename_i hsz
          cases e
          refine ⟨S, A, B, ds, S1, sr, ok, e1, fun J H1 ⟨A1, B1, g1, G, Y, wk, hG, hY⟩ => fun L hL => ?_⟩
          obtain ⟨s0, hs0, hs0'⟩ := isIm_get hi
          -- the start: slot i emptied, the new list waits
          obtain ⟨A2, r1, r2, r3⟩ := un_slot g1.sr hs0 none
          have ok2 : Ok A2 B1 H1 := g1.ok0.sub' (r3 g1.ok0.nd) r2
          obtain ⟨k3, s3⟩ := step_newA (o := .lst []) ok2 hL r1.tracked
          have r1' : SR w K B1 (upd H1 L (.lst [])) (σ.set i none) (S1.set i .un) A2 := r1.step (Same.refl _) fun a ha o h => by
            rw [upd_ne (ne_of_none h hL)]; exact h
          have g0 : Go w K (σ.set i none) (S1.set i .un) A2 B1 H1 (S1.set i .un) A2 B1 (upd H1 L (.lst [])) [L] := ⟨r1', k3, s3, MuK.refl _⟩
          refine lc_it wk (fun j H' => ∃ S' A' B' acc vs rest, Go w K (σ.set i none) (S1.set i .un) A2 B1 H1 S' A' B' H' [L] ∧ H' L = some (.lst vs) ∧ DpAll K B' vs acc ∧ acc.length ≤ j ∧ lcL i t f (ds.drop j) S' = some (rest, S2) ∧ acc ++ rest = es)
            ⟨_, A2, B1, [], [], es, g0, upd_same, .nil, Nat.le_refl _, e2, rfl⟩ (fun j H' _ ⟨S', A', B', acc, vs, rest, g', _⟩ => hG H' (g'.st.bx.trans g'.ok.sub)) ?_ ?_
          · intro j x H' H2 hj ⟨S', A', B', acc, vs, rest, g', hLv, hacc, hlen, e', hrest⟩ y
            obtain ⟨d, hd⟩ : ∃ d, ds[j]? = some d := ⟨ds[j], by simp [hj]⟩
            have ed : ds.drop j = d :: ds.drop (j + 1) := by
              obtain ⟨h1, h2⟩ := List.getElem?_eq_some_iff.mp hd
              rw [← h2]; exact List.drop_eq_getElem_cons h1
            rw [ed] at e'
            simp only [lcL] at e'
            have okL := g'.ok
            obtain ⟨B3, g3, dd⟩ := item_step g'.sr g'.ok.right g'.st.bx (hY j x H' H2 d hd (g'.st.bx.trans g'.ok.sub) y)
            obtain ⟨p1, p2, p3⟩ := pend (F := [L]) okL g3.st g3.ok (fun a ha => by simp at ha; subst ha; exact ⟨_, hLv⟩)
            have hL3 : H2 L = some (.lst vs) := p3 L (by simp) _ hLv
            have hl : i < (S1.set i Sl.un).length := by
              rw [List.length_set]
              exact (List.getElem?_eq_some_iff.mp hs0).1
            have hlS : i < S'.length := by
              rw [← g'.sr.length, g0.sr.length]; exact hl
            have hsl : ∃ s, S'[i]? = some s := ⟨S'[i], by simp [hlS]⟩
            obtain ⟨s1, hs1⟩ := hsl
            have hw : wipe σ [i] = σ.set i none := rfl
            rw [hw]
            show wipe ((σ.set i none).set i (some x)) [i] = σ.set i none ∧ _
            refine ⟨by show ((σ.set i none).set i (some x)).set i none = _; rw [set_set', set_set'], ?_⟩
            obtain ⟨A4, i1, i2, i3⟩ := im_slot g3.sr hs1 dd
            have ok4 : Ok A4 B3 H2 := g3.ok.sub' (i3 g3.ok.nd) i2
            have okL4 : Ok ([L] ++ A4) B3 H2 := p1.sub' (List.nodup_append.mpr ⟨p1.left.nd, i3 g3.ok.nd, fun a ha b hb e => p1.disj ha (e ▸ i2 b hb)⟩) fun a ha => by
              rcases List.mem_append.mp ha with h | h
              · exact List.mem_append_left _ h
              · exact List.mem_append_right _ (i2 a h)
            have noMu : ∀ (k : Nat) o, (S1.set i Sl.un)[k]? = some (.mu o) → i ≠ k := fun k o hk ik => by
              subst ik
              rw [List.getElem?_set_self (by rw [List.length_set] at hl; exact hl)] at hk
              cases hk
            -- from the turn's start to behind a piece of code that ran with L waiting
            have fin : ∀ {S5 : List Sl} {A5 : List Addr} {B5 H5 : Hp} {F5 : List Addr}, Go w K ((σ.set i none).set i (some x)) (S'.set i (.im d)) A4 B3 H2 S5 A5 B5 H5 F5 →
                ∃ A6, SR w K B5 H5 (σ.set i none) (S5.set i .un) A6 ∧ H5 L = some (.lst vs) ∧ DpAll K B5 vs acc ∧ Ok (F5 ++ ([L] ++ A6)) B5 H5 ∧ Step A2 B1 H1 (F5 ++ ([L] ++ A6)) B5 H5 ∧ MuK (S1.set i .un) (S5.set i .un) := by
              intro S5 A5 B5 H5 F5 g5
              obtain ⟨q1, q2, q3⟩ := pend (F := [L]) okL4 g5.st g5.ok (fun a ha => by simp at ha; subst ha; exact ⟨_, hL3⟩)
              have hl5 : i < S5.length := by
                rw [← g5.sr.length, List.length_set, g'.sr.length]; exact hlS
              obtain ⟨A6, u1, u2, u3⟩ := un_slot (s := S5[i]) g5.sr (List.getElem?_eq_getElem hl5) none
              rw [set_set', set_set'] at u1
              have st5 : Step ([L] ++ A') B' H' ([L] ++ (F5 ++ A5)) B5 H5 := (p2.sub (A'' := [L] ++ A4) fun a ha => by
                rcases List.mem_append.mp ha with h | h
                · exact List.mem_append_left _ h
                · exact List.mem_append_right _ (i2 a h)).trans q2
              have nd5 := g5.ok.right.nd
              have sub6 : ∀ a ∈ F5 ++ ([L] ++ A6), a ∈ [L] ++ (F5 ++ A5) := fun a ha => by
                simp only [List.mem_append] at ha ⊢
                rcases ha with h | h | h
                · exact .inr (.inl h)
                · exact .inl h
                · exact .inr (.inr (u2 a h))
              refine ⟨A6, u1, q3 L (by simp) _ hL3, dps_mono (g3.st.bx.trans g5.st.bx) hacc, ?_, g'.st.trans (st5.sub sub6), fun k o hk => ?_⟩
              · have q4 : Ok (F5 ++ ([L] ++ A5)) B5 H5 := ok_mid q1
                refine q4.sub' (List.nodup_append.mpr ⟨q4.left.nd, List.nodup_append.mpr ⟨q1.left.nd, u3 nd5, fun a ha b hb e => ?_⟩, fun a ha b hb e => ?_⟩) fun a ha => ?_
                · exact q1.disj ha (e ▸ List.mem_append_right _ (u2 b hb))
                · refine q4.disj ha (e ▸ ?_)
                  rcases List.mem_append.mp hb with h | h
                  · exact List.mem_append_left _ h
                  · exact List.mem_append_right _ (u2 b h)
                · simp only [List.mem_append] at ha ⊢
                  rcases ha with h | h | h
                  · exact .inl h
                  · exact .inr (.inl h)
                  · exact .inr (.inr (u2 a h))
              · have ik := noMu k o hk
                obtain ⟨o1, h1⟩ := g'.mu k o hk
                obtain ⟨o2, h2⟩ := g5.mu k o1 (by rw [List.getElem?_set_ne ik]; exact h1)
                exact ⟨o2, by rw [List.getElem?_set_ne ik]; exact h2⟩
            split at e'
            · rename_i S5 e5
              refine ⟨S'.set i (.im d), A4, B3, true, S5, i1, ok4, e5, fun H5 ⟨A5, B5, g5⟩ => iteT ?_⟩
              split at e'
              · rename_i r6 S6 e6
                split at e'
                · rename_i el hel
                  split at e'
                  · rename_i es' S7 e7
                    cases e'
                    refine ⟨S5, A5, B5, r6, S6, g5.sr, g5.ok0, e6, fun v H6 ⟨A6, B6, F6, g6, x6⟩ => ?_⟩
                    obtain ⟨A7, f1, f2, f3, f4, f5, f6⟩ := fin (g5.seq g6)
                    refine ⟨vs, f2, ?_, ?_⟩
                    · rw [dps_length f3]
                      have := of_decide_eq_true hsz
                      have hz : sizeLine = 2 ^ 24 := by decide
                      omega
                    · obtain ⟨m1, m2⟩ := step_freeze f4
                      have dd6 : Dp K (ov B6 H6 F6) v el := x6.data (ov_same f4.sub) (fun a ha => ov_in ha) hel
                      obtain ⟨k1, k2⟩ := step_mut (o := .lst (vs ++ [v])) m1 (p := L) (by simp)
                      refine ⟨_, A7, ov B6 H6 F6, acc ++ [el], vs ++ [v], es', ⟨?_, k1, (f5.trans m2).trans k2, f6⟩, upd_same, dps_append (dps_mono (ov_same f4.sub) f3) (.cons dd6 .nil), ?_, e7, ?_⟩
                      · refine f1.step (ov_same f4.sub) fun a ha o h => ?_
                        have n : a ≠ L := fun e => by
                          subst e
                          exact m1.disj (List.mem_singleton.mpr rfl) ha
                        rw [upd_ne n]; exact h
                      · rw [List.length_append, List.length_singleton]; omega
                      · rw [List.append_assoc]; exact hrest
                  · cases e'
                · cases e'
              · cases e'
            · rename_i S5 e5
              refine ⟨S'.set i (.im d), A4, B3, false, S5, i1, ok4, e5, fun H5 ⟨A5, B5, g5⟩ => iteF ?_⟩
              obtain ⟨A6, f1, f2, f3, f4, f5, f6⟩ := fin g5
              exact ⟨_, A6, B5, acc, vs, rest, ⟨f1, f4, f5, f6⟩, f2, f3, by omega, e', hrest⟩
            · cases e'
          · intro H' ⟨S', A', B', acc, vs, rest, g', hLv, hacc, hlen, e', hrest⟩
            rw [List.drop_length] at e'
            cases e'
            rw [List.append_nil] at hrest
            subst hrest
            have hl : i < S1.length := (List.getElem?_eq_some_iff.mp hs0).1
            have hl2 : i < S2.length := by rw [← g'.sr.length, List.length_set, g1.sr.length]; exact hl
            obtain ⟨x0, A8, As8, A9, eA8, es8, sl8, f8⟩ := g1.sr.at hs0
            have slr : SlR w K B' H' x0 s0 [] := by
              rcases hs0' with rfl | ⟨d, rfl⟩
              · exact .un
              · cases sl8 with
                | im h => exact .im (dp_mono g'.st.bx h)
            obtain ⟨y, C1, Cs, C2, eC, es, slc, fc⟩ := g'.sr.at (List.getElem?_eq_getElem hl2)
            have z := fc (B' := B') (H' := H') (x' := x0) (s' := s0) (As' := []) (Same.refl B') (fun a _ o h => h) slr
            rw [set_set', set_same es8] at z
            have subC : ∀ a ∈ C1 ++ ([] ++ C2), a ∈ A' := fun a ha => by
              rw [eC]
              simp only [List.nil_append, List.mem_append] at ha ⊢
              rcases ha with h | h
              · exact .inl h
              · exact .inr (.inr h)
            have ndC : (C1 ++ ([] ++ C2)).Nodup := by
              have nd := g'.ok.right.nd
              rw [eC] at nd
              obtain ⟨n1, n2, n3⟩ := List.nodup_append.mp nd
              exact List.nodup_append.mpr ⟨n1, (List.nodup_append.mp n2).2.1, fun a ha b hb => n3 a ha b (by simp at hb; simp [hb])⟩
            have sub1 : ∀ a ∈ [L] ++ (C1 ++ ([] ++ C2)), a ∈ [L] ++ A' := fun a ha => by
              rcases List.mem_append.mp ha with h | h
              · exact List.mem_append_left _ h
              · exact List.mem_append_right _ (subC a h)
            have eg : S1.getD i .un = s0 := by rw [List.getD_eq_getElem?_getD, hs0]; rfl
            rw [eg] at q
            refine q _ H' ⟨C1 ++ ([] ++ C2), B', [L], ⟨z, ?_, ?_, fun k o hk => ?_⟩, .fr (.lst hLv hacc)⟩
            · exact g'.ok.sub' (List.nodup_append.mpr ⟨g'.ok.left.nd, ndC, fun a ha b hb e => g'.ok.disj ha (e ▸ subC b hb)⟩) sub1
            · exact ((g1.st.sub (A'' := A2) fun a ha => by simpa using r2 a ha).trans g'.st).sub sub1
            · obtain ⟨o1, h1⟩ := g1.mu k o hk
              have ik : i ≠ k := fun e => by
                subst e
                rw [hs0] at h1
                rcases hs0' with rfl | ⟨d, rfl⟩ <;> cases h1
              obtain ⟨o2, h2⟩ := g'.mu k o1 (by rw [List.getElem?_set_ne ik]; exact h1)
              exact ⟨o2, by rw [List.getElem?_set_ne ik]; exact h2⟩
        · cases e
      · cases e
    · cases e
  · cases e
end
end Fl
/-! Fl: comprehensions as expressions, stores, rows of lists, calls, defs. -/
namespace Fl
open PySem L2

section
variable {X : Cx} {elt tg iter c : Expr} {ifs : List Expr} {scope : Scope} {own : List (Str × Nat)} {pos spos py : Pos} {it : SI} {t : ST} {f : SE} {i j : Nat} {y : Str}
/-- the comprehension's tests -/
def Ets (X : Cx) (es : List Expr) (t : ST) : Prop := PTs X es (Tt X.w X.K t)
theorem ets_nil : Ets X [] tY := ⟨fun pins s σ H Q I h => pts_nil.run pins s σ H Q I (by
  obtain ⟨S, A, B, r, S', sr, ok, e, q⟩ := h
  cases e
  exact q H ⟨A, B, Go.same sr ok⟩)⟩
theorem ets_one (h : Et X c t) : Ets X [c] t := pts_one h
theorem e_lc (hp : PE X (.ListComp elt [⟨tg, iter, ifs, 0⟩] scope pos) (tLc (Ti X.w X.K it) (gName i) (Tt X.w X.K t) (T X.w X.K f) [i])) : E X (.ListComp elt [⟨tg, iter, ifs, 0⟩] scope pos) (eLc it i t f) := pe_weak hp fun _ _ _ z => t_lc z
theorem s_setOf {e : Expr} {x : Str} {pos' : Pos} {h : SE} {te : TE} (hp : PS X (.Assign [.Name x pos'] e pos) (tAsg te (gName i))) (hw : ∀ σ H Q, T X.w X.K h σ H Q → te σ H Q) : St' X (.Assign [.Name x pos'] e pos) (sSet i h) := ps_weak hp fun D σ H ⟨S, A, B, out, sr, ok, e, q⟩ => by
  unfold sSet at e
  split at e
  · rename_i r S' e1
    split at e
    · rename_i s er
      split at e
      · cases e
      · rename_i hm
        cases e
        refine hw σ H _ ⟨S, A, B, r, S', sr, ok, e1, fun v H' ⟨A', B', F, g', x⟩ => ?_⟩
        obtain ⟨A2, z1, z2, z3, z4⟩ := set_slot g'.sr g'.ok x er hm
        exact q _ _ ⟨A2, B', z1, z2, g'.st.sub z3, (g'.mu.s σ).trans z4⟩
    · cases e
  · cases e
theorem s_setLc (hp : PS X (.Assign [.Name y py] (.ListComp elt [⟨tg, iter, ifs, 0⟩] scope pos) spos) (tAsg (tLc (Ti X.w X.K it) (gName i) (Tt X.w X.K t) (T X.w X.K f) [i]) (gName j))) :
    St' X (.Assign [.Name y py] (.ListComp elt [⟨tg, iter, ifs, 0⟩] scope pos) spos) (sSet j (eLc it i t f)) := s_setOf hp fun _ _ _ z => t_lc z
end

/-! ### x[i] = e -/
def mSet : Mt := fun o rs S => match o, rs with
  | .lst l, [r, ri] => match r.fz, vw S ri with
    | some d, some (.int k) => match ixN l.length k with
      | some m => some (.none, .lst (l.set m d))
      | none => none
    | _, _ => none
  | .dct l, [r, ri] => match r.fz, vw S ri with
    | some d, some kd => match keyOf kd with
      | some k => if szOk (l.length + 1) then some (.none, .dct (putD l k d)) else none
      | none => none
    | _, _ => none
  | _, _ => none
def rSetX (v : V) (vs : List V) (H : Hp) (Q : VK) : Prop := ∃ x k, vs = [x, k] ∧ (rSetL v k x H (fun H' => Q .non H') ∨ ∃ a H4, v = .ref a ∧ DPut H a k x H4 ∧ Q .non H4)
theorem mok_set {w : World} {K : PySem.W.Frag} : MtOk w K rSetX mSet := by
  intro σ S A B H v o As vs rs F d o' Q sr ok own x e q
  unfold mSet at e
  split at e
  · rename_i l r ri
    split at e
    · rename_i d1 k ed ek
      split at e
      · rename_i m em
        cases e
        obtain ⟨x1, x2, F1, F2, rfl, xa, xb⟩ := rrs2 x
        have z := vw_ok sr xb ok.sub ek
        cases z
        have dd : Dp K (ov B H F) x1 d1 := by
          cases x with
          | cons h1 h2 => exact h1.data (ov_same ok.sub) (fun b hb => ov_in (List.mem_append_left _ hb)) ed
        cases own with
        | @lst a us _ h r =>
          refine ⟨_, _, rfl, .inl ⟨a, us, k, m, rfl, rfl, h, by rw [dps_length r]; exact em, q a _ _ rfl (by simp) (.lst upd_same (dps_set m (dps_mono (ov_same ok.sub) r) dd)) .non⟩⟩
      · cases e
    · cases e
  · rename_i l r ri
    split at e
    · rename_i d1 kd ed ek
      split at e
      · rename_i k ekk
        split at e
        · rename_i hs
          cases e
          obtain ⟨x1, x2, F1, F2, rfl, xa, xb⟩ := rrs2 x
          have z := keyOf_ok (vw_ok sr xb ok.sub ek) ekk
          subst z
          have dd : Dp K (ov B H F) x1 d1 := by
            cases x with
            | cons h1 h2 => exact h1.data (ov_same ok.sub) (fun b hb => ov_in (List.mem_append_left _ hb)) ed
          cases own with
          | @dct a kvs _ h r =>
            refine ⟨_, _, rfl, .inr ⟨a, _, rfl, DPut.k h ?_, q a _ _ rfl (by simp) (.dct upd_same (kdp_put (kdp_mono (ov_same ok.sub) r) dd)) .non⟩⟩
            rw [kdp_length r]
            exact Nat.lt_of_lt_of_le (Nat.lt_succ_self _) (szOk_line hs)
        · cases e
      · cases e
    · cases e
  · cases e
/-- slot j's own object, and what it becomes -/
def own? (S : List Sl) (j : Nat) : Option (Bool × O) := match S[j]? with
  | some (.ow o) => some (false, o)
  | some (.mu o) => some (true, o)
  | _ => none
def putO (S : List Sl) (j : Nat) (b : Bool) (o : O) : List Sl := S.set j (if b then .mu o else .ow o)
def sSub (j : Nat) (f h : SE) : SS := fun S => match f S with
  | some (r, S1) => match own? S1 j with
    | some (b0, _) => match h S1 with
      | some (ri, S2) => match own? S2 j with
        | some (b, o) => if b = b0 then match mSet o [r, ri] S2 with
          | some (_, o') => some (.nx (putO S2 j b o'))
          | none => none else none
        | none => none
      | none => none
    | none => none
  | none => none
theorem own?_get {S : List Sl} {j : Nat} {b : Bool} {o : O} (h : own? S j = some (b, o)) : S[j]? = some (if b then .mu o else .ow o) := by
  unfold own? at h
  split at h
  · rename_i o' e; cases h; exact e
  · rename_i o' e; cases h; exact e
  · cases h
theorem SR.own {w : World} {K : PySem.W.Frag} {B H : Hp} {σ : L2.St} {S : List Sl} {A : List Addr} {j : Nat} {b : Bool} {o : O} (sr : SR w K B H σ S A) (h : own? S j = some (b, o)) : ∃ v, σ[j]? = some (some v) ∧ ∃ As, OwnR w K B H v o As := by
  obtain ⟨y, A1, As, A2, eA, es, sl, f⟩ := sr.at (own?_get h)
  cases b
  · cases sl with
    | ow z => exact ⟨_, es, _, z⟩
  · cases sl with
    | mu z => exact ⟨_, es, _, z⟩
section
variable {X : Cx} {e i : Expr} {f h : SE} {pos p1 p2 : Pos} {x : Str}
theorem s_sub (j : Nat) (he : E X e f) (hi : E X i h) (h1 : PS X (.Assign [.Subscript (.Name x p1) i p2] e pos) (tAsg (T X.w X.K f) (gSub (tVar j) (T X.w X.K h) rSetL))) (h2 : PS X (.Assign [.Subscript (.Name x p1) i p2] e pos) (sDPut (tVar j) (T X.w X.K h) (T X.w X.K f))) :
    St' X (.Assign [.Subscript (.Name x p1) i p2] e pos) (sSub j f h) := ps_weak (ps_or2 h1 h2) fun D σ H ⟨S, A, B, out, sr, ok, e, q⟩ => by
  unfold sSub at e
  split at e
  · rename_i r S1 e1
    split at e
    · rename_i b0 o0 e2
      split at e
      · rename_i ri S2 e3
        split at e
        · rename_i b o e4
          split at e
          · rename_i hb
            subst hb
            split at e
            · rename_i d o' e5
              cases e
              -- the common end
              have fin : ∀ v1 H1, EPo X.w X.K σ S A B H r S1 v1 H1 → ∃ v, σ[j]? = some (some v) ∧ T X.w X.K h σ H1 fun u H2 => rSetX v [v1, u] H2 (fun _ H4 => D.nx σ H4) := by
                intro v1 H1 ⟨A1, B1, F1, g1, x1⟩
                obtain ⟨v, ev, _⟩ := g1.sr.own e2
                refine ⟨v, ev, S1, A1, B1, ri, S2, g1.sr, g1.ok0, e3, fun u H2 ⟨A2, B2, F2, g2, x2⟩ => ?_⟩
                obtain ⟨g3, b3, k3⟩ := g1.then_ x1.tracked g2
                have xx : RRs X.w X.K σ B2 H2 [v1, u] [r, ri] (F1 ++ F2) := by
                  have z := RRs.cons (x1.step b3 k3) (.cons x2 .nil)
                  rw [List.append_nil] at z
                  exact z
                exact meth_fin mok_set g3 xx ev b (own?_get e4) e5 fun y H4 ⟨A4, B4, F4, g4, _⟩ => q σ H4 ⟨A4, B4, g4.drop.gs⟩
              cases o with
              | lst l =>
                left
                refine ⟨S, A, B, r, S1, sr, ok, e1, fun v1 H1 z => ?_⟩
                obtain ⟨v, ev, ht⟩ := fin v1 H1 z
                refine ⟨v, ev, ?_⟩
                obtain ⟨A1, B1, F1, g1, x1⟩ := z
                refine ⟨S1, A1, B1, ri, S2, g1.sr, g1.ok0, e3, fun u H2 ⟨A2, B2, F2, g2, x2⟩ => ?_⟩
                obtain ⟨g3, b3, k3⟩ := g1.then_ x1.tracked g2
                have xx : RRs X.w X.K σ B2 H2 [v1, u] [r, ri] (F1 ++ F2) := by
                  have z := RRs.cons (x1.step b3 k3) (.cons x2 .nil)
                  rw [List.append_nil] at z
                  exact z
                have R := meth_fin mok_set g3 xx ev b (own?_get e4) e5 (Q := fun _ H4 => D.nx σ H4) fun y H4 ⟨A4, B4, F4, g4, _⟩ => q σ H4 ⟨A4, B4, g4.drop.gs⟩
                obtain ⟨x', k', ee, R⟩ := R
                cases ee
                rcases R with R | ⟨a, H4, ea, dp, _⟩
                · exact R
                · exfalso
                  obtain ⟨v', ev', As, own⟩ := g3.sr.own e4
                  rw [ev] at ev'
                  cases ev'
                  cases own with
                  | @lst a2 us _ h0 r0 =>
                    cases ea
                    rcases dp with ⟨kvs, k, hk, _⟩ | ⟨kvs, k, b', hk, _⟩
                    · rw [h0] at hk; cases hk
                    · rw [h0] at hk; cases hk
              | dct l =>
                right
                refine ⟨S, A, B, r, S1, sr, ok, e1, fun v1 H1 z => ?_⟩
                obtain ⟨v, ev, ht⟩ := fin v1 H1 z
                refine ⟨v, ev, ?_⟩
                obtain ⟨A1, B1, F1, g1, x1⟩ := z
                refine ⟨S1, A1, B1, ri, S2, g1.sr, g1.ok0, e3, fun u H2 ⟨A2, B2, F2, g2, x2⟩ => ?_⟩
                obtain ⟨g3, b3, k3⟩ := g1.then_ x1.tracked g2
                have xx : RRs X.w X.K σ B2 H2 [v1, u] [r, ri] (F1 ++ F2) := by
                  have z := RRs.cons (x1.step b3 k3) (.cons x2 .nil)
                  rw [List.append_nil] at z
                  exact z
                have R := meth_fin mok_set g3 xx ev b (own?_get e4) e5 (Q := fun _ H4 => D.nx σ H4) fun y H4 ⟨A4, B4, F4, g4, _⟩ => q σ H4 ⟨A4, B4, g4.drop.gs⟩
                obtain ⟨x', k', ee, R⟩ := R
                cases ee
                rcases R with ⟨a, us, k, m, ea, _, h4, _⟩ | ⟨a, H4, ea, dp, R⟩
                · exfalso
                  obtain ⟨v', ev', As, own⟩ := g3.sr.own e4
                  rw [ev] at ev'
                  cases ev'
                  cases own with
                  | @dct a2 us _ h0 r0 =>
                    cases ea
                    rw [h0] at h4; cases h4
                · exact ⟨a, H4, ea, dp, R⟩
              | set l => cases e5
              | rows l => cases e5
            · cases e
          · cases e
        · cases e
      · cases e
    · cases e
  · cases e
end

/-! ### lists of lists -/
/-- [[..], [..], ..]: the inner lists stay own -/
def rowsOf : List Rs → Option (List (List D))
  | [] => some []
  | .fr (.lst l) :: rs => match rowsOf rs with
    | some ls => some (l :: ls)
    | none => none
  | _ => none
def gRowsD : Op := fun _ rs => match rowsOf rs with
  | some ls => if szOk ls.length then some (.fr (.rows ls)) else none
  | none => none
theorem rowsOf_ok {w : World} {K : PySem.W.Frag} {σ : L2.St} {B H : Hp} : ∀ {vs : List V} {rs : List Rs} {F : List Addr} {ls : List (List D)}, RRs w K σ B H vs rs F → rowsOf rs = some ls → vs = F.map V.ref ∧ Rows K B H F ls
  | _, _, _, ls, .nil, e => by cases e; exact ⟨rfl, .nil⟩
  | _, _, _, ls, .cons (r := r) (rs := rs) h q, e => by
    cases r with
    | im d => cases e
    | pl i => cases e
    | fr o =>
      cases o with
      | lst l =>
        simp only [rowsOf] at e
        split at e
        · rename_i ls' e1
          cases e
          obtain ⟨h1, h2⟩ := rowsOf_ok q e1
          cases h with
          | fr h =>
            cases h with
            | lst h0 r0 =>
              subst h1
              exact ⟨rfl, .cons h0 r0 h2⟩
        · cases e
      | dct l => cases e
      | set l => cases e
      | rows l => cases e
theorem op_rowsD {w : World} {K : PySem.W.Frag} : OpOk w K (fun xs H Q => xs.length ≤ sizeLine ∧ ∀ p, H p = none → Q (.ref p) (upd H p (.lst xs))) gRowsD := by
  intro σ S A B H vs rs F r Q sr x ok e q
  unfold gRowsD at e
  split at e
  · rename_i ls e1
    split at e
    · rename_i hs
      cases e
      obtain ⟨rfl, hr⟩ := rowsOf_ok x e1
      have hl : ∀ {F : List Addr} {ls : List (List D)}, Rows K B H F ls → F.length = ls.length := by
        intro F ls h
        induction h with
        | nil => rfl
        | cons _ _ _ ih => rw [List.length_cons, List.length_cons, ih]
      refine ⟨by rw [List.length_map, hl hr]; exact szOk_line hs, fun p hp => ?_⟩
      obtain ⟨k2, s2⟩ := step_newA (o := .lst (F.map V.ref)) ok hp (fun a ha => by
        rcases List.mem_append.mp ha with h | h
        · exact rows_tracked hr a h
        · exact sr.tracked a h)
      have kp : ∀ (A' : List Addr), Keep A' H (upd H p (.lst (F.map V.ref))) := fun A' a _ o h => by
        rw [upd_ne (ne_of_none h hp)]; exact h
      exact q _ _ _ (p :: F) (.fr (.rows upd_same (rows_step (Same.refl _) (kp F) hr))) (sr.step (Same.refl _) (kp A)) k2 s2
    · cases e
  · cases e
theorem e_rows {X : Cx} {es : List Expr} {fs : SEs} {pos : Pos} (h : Es X es fs) (he : PE X (.List es pos) (tLst (Ta X.w X.K fs)) := by exact pe_lst (by assumption)) : E X (.List es pos) (opS gRowsD fs) := pe_weak he fun _ _ _ z => op_T op_rowsD z
/-- row k of slot j, read -/
def eRow (j : Nat) (k : Int) : SE := fun S => match own? S j with
  | some (_, .rows ls) => match atI ls k with
    | some l => some (.im (.int l.length), S)
    | none => none
  | _ => none
theorem rows_get {K : PySem.W.Frag} {B H : Hp} : ∀ {bs : List Addr} {ls : List (List D)} {i : Nat} {l : List D}, Rows K B H bs ls → ls[i]? = some l → ∃ b vs, bs[i]? = some b ∧ H b = some (.lst vs) ∧ DpAll K B vs l
  | _, _, i, l, .nil, e => by simp at e
  | _, _, 0, l, .cons (b := b) h d r, e => by simp at e; subst e; exact ⟨b, _, rfl, h, d⟩
  | _, _, i + 1, l, .cons h d r, e => by
    obtain ⟨b, vs, h1, h2, h3⟩ := rows_get (i := i) (l := l) r (by simpa using e)
    exact ⟨b, vs, by simpa using h1, h2, h3⟩
theorem rows_len {K : PySem.W.Frag} {B H : Hp} {bs : List Addr} {ls : List (List D)} (h : Rows K B H bs ls) : bs.length = ls.length := by
  induction h with
  | nil => rfl
  | cons _ _ _ ih => rw [List.length_cons, List.length_cons, ih]
theorem rows_set {K : PySem.W.Frag} {B B' H H' : Hp} (sb : Same B B') : ∀ {bs : List Addr} {ls : List (List D)} {i : Nat} {b : Addr} {vs : List V} {l : List D}, Rows K B H bs ls → bs.Nodup → bs[i]? = some b → (∀ a ∈ bs, a ≠ b → ∀ o, H a = some o → H' a = some o) →
    H' b = some (.lst vs) → DpAll K B' vs l → Rows K B' H' bs (ls.set i l)
  | _, _, i, b, vs, l, .nil, nd, e, k, h, d => by simp at e
  | _, _, 0, b, vs, l, .cons (b := b0) (bs := bs) h0 d0 r, nd, e, k, h, d => by
    simp at e; subst e
    have n : b0 ∉ bs := (List.nodup_cons.mp nd).1
    exact .cons h d (rows_step sb (fun a ha o hh => k a (List.mem_cons_of_mem _ ha) (fun z => n (z ▸ ha)) o hh) r)
  | _, _, i + 1, b, vs, l, .cons (b := b0) (bs := bs) h0 d0 r, nd, e, k, h, d => by
    have nd' := List.nodup_cons.mp nd
    have eb : bs[i]? = some b := by simpa using e
    have n : b0 ≠ b := fun z => nd'.1 (z ▸ (List.mem_of_getElem? eb))
    exact .cons (k b0 List.mem_cons_self n _ h0) (dps_mono sb d0) (rows_set sb r nd'.2 eb (fun a ha => k a (List.mem_cons_of_mem _ ha)) h d)
end Fl
/-! Fl: calls, defs. -/
namespace Fl
open PySem L2 PyProof.Rows

/-- what a def computes, on its arguments' slots: the result, the lent ones as they are behind -/
abbrev Fn := List Sl → Option (Rs × List Sl)
def keepMu : Sl → Sl → Sl
  | .mu _, .mu o => .mu o
  | _, _ => .un
def projS : List Sl → List Sl → List Sl
  | a :: as, s :: ss => keepMu a s :: projS as ss
  | _, _ => []
def isPl : Rs → Bool
  | .pl _ => true
  | _ => false
def fnOf (nloc : Nat) (body : SS) : Fn := fun args => match body (args ++ List.replicate nloc .un) with
  | some (.rt r S') => if isPl r || decide (S'.length ≠ args.length + nloc) then none else some (r, projS args S')
  | some (.nx S') => if decide (S'.length ≠ args.length + nloc) then none else some (.im .none, projS args S')
  | _ => none
def spF (w : World) (K : PySem.W.Frag) (n : Nat) (F : Fn) : Sp := fun vs H Q _ => vs.length = n ∧ ∃ S A B r S', SR w K B H (vs.map some) S A ∧ Ok A B H ∧ F S = some (r, S') ∧
  ∀ v H', (∃ A' B' Fr, SR w K B' H' (vs.map some) S' A' ∧ RR w K (vs.map some) B' H' v r Fr ∧ Ok (Fr ++ A') B' H' ∧ Step A B H (Fr ++ A') B' H') → Q v H'
section
variable {w : World} {K : PySem.W.Frag} {B H : Hp}
theorem SR.un : ∀ (σ : L2.St), SR w K B H σ (List.replicate σ.length .un) []
  | [] => .nil
  | x :: σ => by
    have z := SR.cons (SlR.un (x := x)) (SR.un σ)
    exact z
theorem SR.append : ∀ {σ σ' : L2.St} {S S' : List Sl} {A A' : List Addr}, SR w K B H σ S A → SR w K B H σ' S' A' → SR w K B H (σ ++ σ') (S ++ S') (A ++ A')
  | _, _, _, _, _, _, .nil, s => s
  | _, _, _, _, _, _, .cons h r, s => by
    rw [List.append_assoc]
    exact .cons h (SR.append r s)
/-- the lent slots alone -/
theorem SR.proj : ∀ {σ' : L2.St} {S' : List Sl} {A' : List Addr} (vs : List V) (args : List Sl), vs.length = args.length → SR w K B H σ' S' A' → (∀ (i : Nat) o, args[i]? = some (.mu o) → σ'[i]? = (vs.map some)[i]?) → args.length ≤ S'.length →
    ∃ A'', SR w K B H (vs.map some) (projS args S') A'' ∧ A''.Sublist A'
  | _, _, _, [], [], _, sr, _, _ => ⟨[], .nil, List.nil_sublist _⟩
  | _, _, _, v :: vs, a :: as, e, .nil, _, hl => by simp at hl
  | _, _, _, v :: vs, a :: as, e, .cons (x := x) (s := s) (As := As) h r, hm, hl => by
    obtain ⟨A2, h1, h2⟩ := SR.proj vs as (by simpa using e) r (fun i o hi => by simpa using hm (i + 1) o (by simpa using hi)) (by simpa using hl)
    have key : (∃ o o', a = .mu o ∧ s = .mu o') ∨ keepMu a s = .un := by
      cases a <;> cases s <;> first | exact .inr rfl | exact .inl ⟨_, _, rfl, rfl⟩
    rcases key with ⟨o, o', rfl, rfl⟩ | hk
    · have hx : x = some v := by
        have z := hm 0 o rfl
        simp at z
        exact z
      subst hx
      exact ⟨As ++ A2, .cons h h1, List.Sublist.append (List.Sublist.refl _) h2⟩
    · refine ⟨A2, ?_, h2.trans (List.sublist_append_right As _)⟩
      show SR w K B H (some v :: vs.map some) (keepMu a s :: projS as _) A2
      rw [hk]
      have z := SR.cons (SlR.un (x := some v)) h1
      exact z
end
/-- a def that a call may find by the name x -/
structure Callee (P : Program) (w : World) (K : PySem.W.Frag) (mg : Str → Option Value) (base : Heap) (k : Nat) (x : Str) (n : Nat) (F : Fn) : Prop where
  ex : ∃ (f : Addr) (fd : FuncData) (ps : List Str), FnOk P w K mg base CX0 k f fd ps (spF w K n F) ∧ mg x = some (.ref f) ∧ PySem.W.keepIn K (.ref f) = true ∧ L2.Binds K fd ps []
theorem start_eq (N : List Str) (vs : List V) : start N vs = vs.map some ++ List.replicate (N.length - vs.length) none := rfl
section
variable {P : Program} {w : World} {K : PySem.W.Frag} {mg : Str → Option Value} {base : Heap}
/-- THE RULE for a def -/
theorem fn_ok {x qual : Str} {st : Stmt} {f : Addr} {fd : FuncData} {N ps : List Str} {k n nloc : Nat} {F : SS} (FF : L2.Fun K x qual st f fd) (Sc : FnScope N ps (defScope st)) (hn : ps.length = n) (hN : N.length = n + nloc)
    (hb : ∀ (cdv : Value) (A : Around) (outer : List Env) (s : Shared) (H : Hp), Room k (A.deeper (envOfC qual (defScope st) s.heap.objs.size f cdv)) → Ss (cxOf CX0 P w K mg base N qual (defScope st) f cdv A outer s H (fun _ _ _ => False)).nox (defBody st) F) :
    FnOk P w K mg base CX0 (k + 1) f fd ps (spF w K n (fnOf nloc F)) := by
  have hEE : ∀ (cdv : Value) (A : Around) (outer : List Env) (s : Shared) (H : Hp) (EE : XK), (cxOf CX0 P w K mg base N qual (defScope st) f cdv A outer s H EE).nox = (cxOf CX0 P w K mg base N qual (defScope st) f cdv A outer s H (fun _ _ _ => False)).nox := fun cdv A outer s H EE => rfl
  refine FF.ok Sc (fun vs H Q E h => by rw [h.1, hn]) (fun cdv A outer s H vs Q EE hr h => ?_)
  obtain ⟨hl, S, A0, B, r, S', sr, ok, e, q⟩ := h
  have z := hb cdv A outer s H hr
  rw [← hEE cdv A outer s H EE] at z
  refine ⟨_, z, ?_⟩
  have hS : S.length = vs.length := by rw [← sr.length, List.length_map]
  have es : start N vs = vs.map some ++ List.replicate nloc none := by
    rw [start_eq, hl, hN, Nat.add_sub_cancel_left]
  have sr0 : SR w K B H (start N vs) (S ++ List.replicate nloc .un) A0 := by
    rw [es]
    have z := sr.append (SR.un (w := w) (K := K) (B := B) (H := H) (List.replicate nloc none))
    rw [List.length_replicate, List.append_nil] at z
    exact z
  unfold fnOf at e
  -- what is told to the caller
  have fin : ∀ {σ' : L2.St} {S2 : List Sl} {A' : List Addr} {B' H' : Hp} {Fr : List Addr} {v : V} {r : Rs}, isPl r = false → S2.length = S.length + nloc → Gs w K (start N vs) (S ++ List.replicate nloc .un) A0 B H σ' S2 A' B' H' Fr → RR w K σ' B' H' v r Fr →
      (∀ v H', (∃ A' B' Fr, SR w K B' H' (vs.map some) (projS S S2) A' ∧ RR w K (vs.map some) B' H' v r Fr ∧ Ok (Fr ++ A') B' H' ∧ Step A0 B H (Fr ++ A') B' H') → Q v H') → Q v H' := by
    intro σ' S2 A' B' H' Fr v r hp hlen g x q
    have lenS : S.length ≤ S2.length := by omega
    obtain ⟨A2, p1, p2⟩ := SR.proj vs S hS.symm g.sr (fun i o hi => by
      have hi' : (S ++ List.replicate nloc .un)[i]? = some (.mu o) := by
        rw [List.getElem?_append_left (List.getElem?_eq_some_iff.mp hi).1]; exact hi
      obtain ⟨z, _⟩ := g.mu i o hi'
      rw [z, es, List.getElem?_append_left]
      rw [List.length_map, ← hS]; exact (List.getElem?_eq_some_iff.mp hi).1) lenS
    have sub : ∀ a ∈ Fr ++ A2, a ∈ Fr ++ A' := fun a ha => by
      rcases List.mem_append.mp ha with h | h
      · exact List.mem_append_left _ h
      · exact List.mem_append_right _ (p2.subset h)
    refine q v H' ⟨A2, B', Fr, p1, ?_, g.ok.sub' ?_ sub, g.st.sub sub⟩
    · cases x with
      | im h => exact .im h
      | fr h => exact .fr h
      | pl h => cases hp
    · exact (List.Sublist.append (List.Sublist.refl Fr) p2).nodup g.ok.nd
  split at e
  · rename_i r1 S1 e1
    split at e
    · cases e
    · rename_i hp
      rw [Bool.or_eq_true, decide_eq_true_eq] at hp
      cases e
      exact ⟨_, A0, B, _, sr0, ok, e1, fun v H' ⟨σ', A', B', Fr, g, x⟩ => fin (by
        cases h : isPl r with
        | false => rfl
        | true => exact absurd (.inl h) hp) (Classical.byContradiction fun h => hp (.inr h)) g x q⟩
  · rename_i S1 e1
    split at e
    · cases e
    · rename_i hp
      rw [decide_eq_true_eq] at hp
      cases e
      exact ⟨_, A0, B, _, sr0, ok, e1, fun σ' H' ⟨A', B', g⟩ => fin (v := .non) (r := .im .none) rfl (Classical.byContradiction fun h => hp h) g (.im .non) q⟩
  · cases e
end
end Fl
/-! Fl: calls, methods and stores of lists of lists. -/
namespace Fl
open PySem L2 PyProof.Rows

/-- f(e, ..): nothing is lent -/
def eCall (n : Nat) (F : Fn) (fs : SEs) : SE := fun S => match fs S with
  | some (rs, S1) => match fzs rs with
    | some ds => if decide (rs.length = n) then match F (ds.map Sl.im) with
      | some (r, _) => if isPl r then none else some (r, S1)
      | none => none else none
    | none => none
  | none => none
/-- f(x, e, ..): slot i is lent -/
def eCallM (n : Nat) (F : Fn) (i : Nat) (fs : SEs) : SE := fun S => match own? S i with
  | some (b0, _) => match fs S with
    | some (rs, S1) => match own? S1 i, fzs rs with
      | some (b, o), some ds => if decide (b = b0 ∧ rs.length + 1 = n) then match F (.mu o :: ds.map Sl.im) with
        | some (r, .mu o' :: _) => if isPl r then none else some (r, putO S1 i b o')
        | _ => none else none
      | _, _ => none
    | none => none
  | none => none
section
variable {w : World} {K : PySem.W.Frag} {σ : L2.St} {S : List Sl} {A : List Addr} {B H : Hp}
theorem SR.ims : ∀ {vs : List V} {ds : List D}, DpAll K B vs ds → SR w K B H (vs.map some) (ds.map Sl.im) []
  | _, _, .nil => .nil
  | _, _, .cons h r => by
    have z := SR.cons (SlR.im (w := w) (H := H) h) (SR.ims r)
    exact z
theorem rrs_len {vs : List V} {rs : List Rs} {F : List Addr} (h : RRs w K σ B H vs rs F) : vs.length = rs.length := by
  induction h with
  | nil => rfl
  | cons _ _ ih => rw [List.length_cons, List.length_cons, ih]
theorem RR.nopl {σ' : L2.St} {v : V} {r : Rs} {F : List Addr} (h : RR w K σ B H v r F) (hp : ¬ isPl r = true) : RR w K σ' B H v r F := by
  cases h with
  | im h => exact .im h
  | fr h => exact .fr h
  | pl h => exact absurd rfl hp
theorem mem_sub2 {α : Type} {P Q R P' : List α} (h : ∀ a ∈ P', a ∈ P) : ∀ a ∈ Q ++ P' ++ R, a ∈ Q ++ P ++ R := fun a ha => by
  simp only [List.mem_append] at ha ⊢
  rcases ha with (h1 | h1) | h1
  · exact .inl (.inl h1)
  · exact .inl (.inr (h a h1))
  · exact .inr h1
theorem t_call {n : Nat} {F : Fn} {fs : SEs} {E : XK} {Q : VK} (h : Fl.T w K (eCall n F fs) σ H Q) : tCall (spF w K n F) [] E (Ta w K fs) σ H Q := by
  obtain ⟨S, A, B, r, S', sr, ok, e, q⟩ := h
  unfold eCall at e
  split at e
  · rename_i rs S1 e1
    split at e
    · rename_i ds e2
      split at e
      · rename_i hn
        split at e
        · rename_i r1 S2 e3
          split at e
          · cases e
          · rename_i hp
            cases e
            refine ⟨S, A, B, rs, _, sr, ok, e1, fun vs H1 ⟨A1, B1, F1, g1, x1⟩ => ?_⟩
            show spF w K n F (vs ++ []) H1 Q E
            rw [List.append_nil]
            obtain ⟨f1, f2⟩ := step_freeze g1.ok
            have dd := x1.data (B' := ov B1 H1 F1) (ov_same g1.ok.sub) (fun a ha => ov_in ha) e2
            have hl : vs.length = n := (rrs_len x1).trans (of_decide_eq_true hn)
            have sr1 : SR w K (ov B1 H1 F1) H1 σ S' A1 := g1.sr.step (ov_same g1.ok.sub) fun a _ o h => h
            refine ⟨hl, _, [], ov B1 H1 F1, r, _, SR.ims dd, ⟨f1.sub, List.nodup_nil, fun a ha => by simp at ha⟩, e3, fun v H2 ⟨A2, B2, Fr, p1, p2, p3, p4⟩ => ?_⟩
            -- the caller's own objects wait
            have o0 : Ok (A1 ++ []) (ov B1 H1 F1) H1 := by rw [List.append_nil]; exact f1
            obtain ⟨q1, q2, q3⟩ := pend (F := A1) o0 p4 p3 sr1.tracked
            rw [List.append_nil] at q2
            have q1' : Ok (Fr ++ A1) B2 H2 := by
              refine q1.sub' ?_ fun a ha => ?_
              · obtain ⟨n1, n2, n3⟩ := List.nodup_append.mp q1.nd
                exact List.nodup_append.mpr ⟨(List.nodup_append.mp n2).1, n1, fun a ha b hb e => n3 b hb a (List.mem_append_left _ ha) e.symm⟩
              · rcases List.mem_append.mp ha with h | h
                · exact List.mem_append_right _ (List.mem_append_left _ h)
                · exact List.mem_append_left _ h
            refine q v H2 ⟨A1, B2, Fr, ⟨sr1.step p4.bx q3, q1', ?_, g1.mu⟩, p2.nopl hp⟩
            refine (g1.st.trans f2).trans (q2.sub fun a ha => ?_)
            rcases List.mem_append.mp ha with h | h
            · exact List.mem_append_right _ (List.mem_append_left _ h)
            · exact List.mem_append_left _ h
        · cases e
      · cases e
    · cases e
  · cases e
theorem t_callM {n i : Nat} {F : Fn} {fs : SEs} {E : XK} {Q : VK} (h : Fl.T w K (eCallM n F i fs) σ H Q) : tCall (spF w K n F) [] E (tCons (tVar i) (Ta w K fs)) σ H Q := by
  obtain ⟨S, A, B, r, S', sr, ok, e, q⟩ := h
  unfold eCallM at e
  split at e
  · rename_i b0 o0 e0
    obtain ⟨v, ev, _⟩ := sr.own e0
    split at e
    · rename_i rs S1 e1
      split at e
      · rename_i b o ds e2 e3
        split at e
        · rename_i hn
          have hn := of_decide_eq_true hn
          split at e
          · rename_i r1 o' rest e4
            split at e
            · cases e
            · rename_i hp
              cases e
              refine ⟨v, ev, S, A, B, rs, S1, sr, ok, e1, fun vs H1 ⟨A1, B1, F1, g1, x1⟩ => ?_⟩
              show spF w K n F ((v :: vs) ++ []) H1 Q E
              rw [List.append_nil]
              obtain ⟨f1, f2⟩ := step_freeze g1.ok
              have dd := x1.data (B' := ov B1 H1 F1) (ov_same g1.ok.sub) (fun a ha => ov_in ha) e3
              have hl : (v :: vs).length = n := by
                rw [List.length_cons, rrs_len x1]; exact hn.2
              have sr1 : SR w K (ov B1 H1 F1) H1 σ S1 A1 := g1.sr.step (ov_same g1.ok.sub) fun a _ o h => h
              obtain ⟨y, C1, As, C2, eA, es, sl, f⟩ := sr1.at (own?_get e2)
              rw [ev] at es
              cases es
              have own : OwnR w K (ov B1 H1 F1) H1 v o As := by
                cases b
                · cases sl with
                  | ow z => exact z
                · cases sl with
                  | mu z => exact z
              have o1 : Ok (As ++ (C1 ++ C2)) (ov B1 H1 F1) H1 := ok_mid (by rw [← eA]; exact f1)
              have o0 : Ok ((C1 ++ C2) ++ As) (ov B1 H1 F1) H1 := by
                refine o1.sub' ?_ fun a ha => ?_
                · obtain ⟨n1, n2, n3⟩ := List.nodup_append.mp o1.nd
                  exact List.nodup_append.mpr ⟨n2, n1, fun a ha b hb e => n3 b hb a ha e.symm⟩
                · rcases List.mem_append.mp ha with h | h
                  · exact List.mem_append_right _ h
                  · exact List.mem_append_left _ h
              have srA : SR w K (ov B1 H1 F1) H1 ((v :: vs).map some) (.mu o :: ds.map Sl.im) (As ++ []) := SR.cons (SlR.mu own) (SR.ims dd)
              rw [List.append_nil] at srA
              refine ⟨hl, _, As, ov B1 H1 F1, r, _, srA, o0.right, e4, fun u H2 ⟨A2, B2, Fr, p1, p2, p3, p4⟩ => ?_⟩
              have trC : ∀ a ∈ C1 ++ C2, ∃ u, H1 a = some u := fun a ha => sr1.tracked a (by rw [eA]; exact mem_mid ha)
              obtain ⟨q1, q2, q3⟩ := pend (F := C1 ++ C2) o0 p4 p3 trC
              have p1' : SR w K B2 H2 (some v :: vs.map some) (.mu o' :: rest) A2 := p1
              cases p1' with
              | @cons _ _ As' A2r _ _ slm srr =>
                have own2 : OwnR w K B2 H2 v o' As' := by
                  cases slm with
                  | mu z => exact z
                have z := f (B' := B2) (H' := H2) (x' := some v) (s' := if b then .mu o' else .ow o') (As' := As') p4.bx q3 (by
                  cases b
                  · exact .ow own2
                  · exact .mu own2)
                rw [set_same ev] at z
                have subs : ∀ a ∈ Fr ++ (C1 ++ (As' ++ C2)), a ∈ (C1 ++ C2) ++ (Fr ++ (As' ++ A2r)) := fun a ha => by
                  simp only [List.mem_append] at ha ⊢
                  rcases ha with h | h | h | h
                  · exact .inr (.inl h)
                  · exact .inl (.inl h)
                  · exact .inr (.inr (.inl h))
                  · exact .inl (.inr h)
                have nd : (Fr ++ (C1 ++ (As' ++ C2))).Nodup := by
                  obtain ⟨n1, n2, n3⟩ := List.nodup_append.mp q1.nd
                  obtain ⟨m1, m2, m3⟩ := List.nodup_append.mp n1
                  obtain ⟨l1, l2, l3⟩ := List.nodup_append.mp n2
                  obtain ⟨k1, k2, k3⟩ := List.nodup_append.mp l2
                  refine List.nodup_append.mpr ⟨l1, List.nodup_append.mpr ⟨m1, List.nodup_append.mpr ⟨k1, m2, fun a ha b hb e => n3 b (by simp [hb]) a (by simp [ha]) e.symm⟩, fun a ha b hb e => ?_⟩, fun a ha b hb e => ?_⟩
                  · rcases List.mem_append.mp hb with h | h
                    · exact n3 a (by simp [ha]) b (by simp [h]) e
                    · exact m3 a ha b h e
                  · simp only [List.mem_append] at hb
                    rcases hb with h | h | h
                    · exact n3 b (by simp [h]) a (by simp [ha]) e.symm
                    · exact l3 a ha b (by simp [h]) e
                    · exact n3 b (by simp [h]) a (by simp [ha]) e.symm
                refine q u H2 ⟨_, B2, Fr, ⟨z, q1.sub' nd subs, ?_, g1.mu.trans ?_⟩, p2.nopl hp⟩
                · refine (g1.st.trans f2).trans ?_
                  have q2' : Step A1 (ov B1 H1 F1) H1 ((C1 ++ C2) ++ (Fr ++ (As' ++ A2r))) B2 H2 := by
                    have eq : ∀ a, a ∈ A1 ↔ a ∈ (C1 ++ C2) ++ As := fun a => by
                      rw [eA]
                      simp only [List.mem_append]
                      constructor
                      · rintro (h | h | h)
                        · exact .inl (.inl h)
                        · exact .inr h
                        · exact .inl (.inr h)
                      · rintro ((h | h) | h)
                        · exact .inl h
                        · exact .inr (.inr h)
                        · exact .inr (.inl h)
                    exact ⟨fun a o h n => q2.fr a o h fun z => n ((eq a).mpr z), q2.bx, fun a o h => (q2.bn a o h).imp id fun z => z.imp id fun z => (eq a).mpr z, fun a ha => (q2.an a ha).imp (fun z => (eq a).mpr z) id⟩
                  exact q2'.sub subs
                · cases b
                  · exact muk_set fun z h => by rw [own?_get e2] at h; cases h
                  · exact muk_mu (own?_get e2)
          · cases e
        · cases e
      · cases e
    · cases e
  · cases e
end
section
variable {X : Cx} {e : Expr} {es : List Expr} {fs : SEs} {pos p p1 : Pos} {x y : Str} {n k j : Nat} {F : Fn}
theorem e_call (c : Callee X.prog X.w X.K X.mg X.base k x n F) (hr : Room j X.A) (hk : k ≤ j) (hg : Gl X x) (ha : Es X (e :: es) fs)
    (hdb : (x == ("__debug__" : Str)) = false := by decide) (he : starEach (e :: es) X.env = (false, eval e X.env) :: starEach es X.env := by rfl) (hpl : (backTo pos (starEach es X.env)).any (·.1) = false := by rfl) :
    E X (.Call (.Name x p) (e :: es) [] pos) (eCall n F fs) := by
  obtain ⟨f, fd, ps, G, hm, kp, b⟩ := c.ex
  exact pe_weak (pe_call (dvs := []) G (hr.mono hk) hg hm kp b .nil pass0 ha hdb he hpl) fun σ H Q z => t_call z
theorem e_callM (i : Nat) (c : Callee X.prog X.w X.K X.mg X.base k x n F) (hr : Room j X.A) (hk : k ≤ j) (hg : Gl X x) (hv : PE X (.Name y p1) (tVar i)) (ha : Es X es fs)
    (hdb : (x == ("__debug__" : Str)) = false := by decide) (he : starEach (.Name y p1 :: es) X.env = (false, eval (.Name y p1) X.env) :: starEach es X.env := by rfl) (hpl : (backTo pos (starEach es X.env)).any (·.1) = false := by rfl) :
    E X (.Call (.Name x p) (.Name y p1 :: es) [] pos) (eCallM n F i fs) := by
  obtain ⟨f, fd, ps, G, hm, kp, b⟩ := c.ex
  exact pe_weak (pe_call (dvs := []) G (hr.mono hk) hg hm kp b .nil pass0 (pa_cons hv ha he) hdb he hpl) fun σ H Q z => t_callM z
end
end Fl
/-! Fl: further rules. -/
namespace Fl
open PySem L2 PyProof.Rows

section
variable {X : Cx} {e : Expr} {es : List Expr} {fs : SEs} {pos p : Pos} {x : Str}
theorem e_gcd (hg : Gl X x) (hm : X.mg x = some (.builtin "math.gcd")) (ha : Es X (e :: es) fs) (hdb : (x == ("__debug__" : Str)) = false := by decide)
    (he : starEach (e :: es) X.env = (false, eval e X.env) :: starEach es X.env := by rfl) (hpl : (backTo pos (starEach es X.env)).any (·.1) = false := by rfl) :
    E X (.Call (.Name x p) (e :: es) [] pos) (opS (gOp hGcd) fs) := pe_weak (pe_callBfun cr_gcd hg hm ha hdb he hpl) fun σ H Q z => op_T ok_gcd z
theorem e_globI {i : Int} {t : Tok} (hg : Gl X x) (hm : X.mg x = some (.int i t)) (hdb : (x == ("__debug__" : Str)) = false := by decide) : E X (.Name x p) (eC (.int i)) :=
  pe_weak (pe_glob (v := .int i) hg hm ⟨t, rfl⟩ hdb) fun _ _ _ h => t_c (fun _ => .int i) h
end
/-- x op= e, ints -/
def sAug (i : Nat) (g : Int → Int → Int) (f : SE) : SS := fun S => match S[i]? with
  | some (.im (.int a)) => match f S with
    | some (r, S1) => match vw S1 r with
      | some (.int b) => match S1[i]? with
        | some (.im _) => some (.nx (S1.set i (.im (.int (g a b)))))
        | _ => none
      | _ => none
    | none => none
  | _ => none
theorem s_aug {X : Cx} {e : Expr} {x : Str} {pos pos' : Pos} {op : Operator} {g : Int → Int → Int} {f : SE} (i : Nat) (ho : PIp X op (ipI g)) (hN : X.N.Nodup) (he : E X e f) (hi : X.N[i]? = some x := by rfl) (hx : Loc X.env.scope x := by first | exact Or.inl rfl | exact Or.inr rfl)
    (hf : X.fn x = true ∨ X.env.scope.names.lookup x = some .local := by first | exact .inl rfl | exact .inr rfl) : St' X (.AugAssign (.Name x pos') op e pos) (sAug i g f) := ps_weak (ps_aug hN hi hx he ho hf) fun D σ H ⟨S, A, B, out, sr, ok, e, q⟩ => by
  unfold sAug at e
  split at e
  · rename_i a ea
    split at e
    · rename_i r S1 e1
      split at e
      · rename_i b eb
        split at e
        · rename_i d1 e2
          cases e
          obtain ⟨y, A1, As, A2, eA, es, sl, f⟩ := sr.at ea
          cases sl with
          | im z =>
            cases z
            refine ⟨_, es, S, A, B, r, S1, sr, ok, e1, fun v H' ⟨A', B', F, g', x⟩ => ?_⟩
            have z := vw_ok g'.sr x g'.ok.sub eb
            cases z
            refine ⟨a, b, rfl, rfl, ?_⟩
            obtain ⟨A3, i1, i2, i3⟩ := im_slot g'.sr e2 (.int (g a b))
            refine q _ _ ⟨A3, B', i1, g'.ok.right.sub' (i3 g'.ok.right.nd) i2, (g'.st.sub fun a ha => List.mem_append_right _ ha).sub i2, (g'.mu.s σ).trans (mus_set fun o h => by rw [e2] at h; cases h)⟩
        · cases e
      · cases e
    · cases e
  · cases e
end Fl
/-! Fl: rules as gen.py names them. -/
namespace Fl
open PySem L2 PyProof.Rows

theorem hu65_of {k : Nat} {A : Around} (hr : Room k A) : A.units + 65 < cLine := by have := hr.un; omega
section
variable {X : Cx} {es : List Expr} {fs : SEs} {pos : Pos} {k : Nat}
theorem e_tupA (h : Es X es fs) : E X (.Tuple es k pos) (opS gTupD fs) := e_tup h (pe_tup h)
theorem e_lstA (h : Es X es fs) : E X (.List es pos) (opS gLstD fs) := e_lst h (pe_lst h)
theorem e_rowsA (h : Es X es fs) : E X (.List es pos) (opS gRowsD fs) := e_rows h (pe_lst h)
theorem s_parA {x y : Str} {a b : Expr} {px py pt : Pos} {kt k2 : Nat} {pt2 : Pos} {f g : SE} (i j : Nat) (hN : X.N.Nodup) (ha : Es X [a, b] (sCons f (sCons g sNil))) (hc : X.calm = true := by rfl) (hi : X.N[i]? = some x := by rfl) (hj : X.N[j]? = some y := by rfl)
    (hij : i ≠ j := by decide) (hx : X.env.scope.names.lookup x = some .local := by rfl) (hy : X.env.scope.names.lookup y = some .local := by rfl)
    (hw : swappedStores [.Tuple [.Name x px, .Name y py] kt pt] (.Tuple [a, b] k2 pt2) X.env = pure (some [x, y]) := by rfl)
    (hs : swapsWithSole [.Tuple [.Name x px, .Name y py] kt pt] (.Tuple [a, b] k2 pt2) pos.line X.env = pure false := by rfl) :
    St' X (.Assign [.Tuple [.Name x px, .Name y py] kt pt] (.Tuple [a, b] k2 pt2) pos) (sPar i j f g) := s_par hc hN hi hj hij ha (ps_par hc hN hi hj hij hx hy ha hw hs)
theorem s_subA {e i : Expr} {f h : SE} {p1 p2 : Pos} {x : Str} (j : Nat) (hv : PE X (.Name x p1) (tVar j)) (he : E X e f) (hi : E X i h) (hu : X.A.units + 1 < cLine)
    (hs1 : swapsWithSole [.Subscript (.Name x p1) i p2] e pos.line X.env = pure false := by rfl) (hw : swappedStores [.Subscript (.Name x p1) i p2] e X.env = pure none := by rfl)
    (h1 : (assignEach [.Subscript (.Name x p1) i p2] X.env).map (·.2) = [assign (.Subscript (.Name x p1) i p2) X.env] := by rfl)
    (ha : ∀ v, assign (.Subscript (.Name x p1) i p2) X.env v = (do
      let ov ← holding [v] (eval (.Name x p1) X.env)
      let iv ← holding [v, ov] (eval i X.env)
      standAt p2
      holding [v, ov, iv] (setItem ov iv v)
      release [v, ov, iv] []) := by intro _; rfl)
    (hs : swapsWith e (some (.Subscript (.Name x p1) i p2)) pos.line X.env = pure false := by rfl) :
    St' X (.Assign [.Subscript (.Name x p1) i p2] e pos) (sSub j f h) := s_sub j he hi (ps_asg he (pg_sub hv hi set_list ha) hs1 hw h1) (ps_dput hu hv hi he hs)
end
theorem law_end {w : World} {K : PySem.W.Frag} {H : Hp} {a : Addr} {ns : List Int} {F : Fn} (ht : ∀ ns : List Int, ns.length ≤ 63 → ∃ S', F [.im (.list (ns.map PyData.int))] = some (.im (.bool true), S')) (hl : ns.length ≤ 63)
    (hS : SqL K H a (ns.map V.int)) : spF w K 1 F [.ref a] H (fun v _ => v = .bl true) fun _ _ _ => False := by
  obtain ⟨S', e⟩ := ht ns hl
  have s0 : SR w K H H [some (V.ref a)] [.im (.list (ns.map PyData.int))] [] := by
    have z := SR.cons (SlR.im (w := w) (H := H) (Dp.lst hS (dps_ints ns))) (SR.nil (w := w) (K := K) (B := H) (H := H))
    exact z
  refine ⟨rfl, _, [], H, _, S', s0, ⟨Same.refl H, List.nodup_nil, fun a ha => by simp at ha⟩, e, fun v H' ⟨A', B', Fr, _, x, _, _⟩ => ?_⟩
  cases x with
  | im x => cases x; rfl
end Fl
/-! Fl: lists of lists in place: rows[k].extend(..), rows[k][i] = .., len(rows[k]), rows[k] == []. -/
namespace Fl
open PySem L2 PyProof.Rows

/-- row k of slot j: what it is, whether lent, all rows, its place -/
def row? (S : List Sl) (j : Nat) (k : Int) : Option (Bool × List (List D) × Nat × List D) := match own? S j with
  | some (b, .rows ls) => match ixN ls.length k with
    | some i => match ls[i]? with
      | some l => some (b, ls, i, l)
      | none => none
    | none => none
  | _ => none
def isUn : Option Sl → Bool
  | some .un => true
  | _ => false
theorem row?_get {S : List Sl} {j : Nat} {k : Int} {b : Bool} {ls : List (List D)} {i : Nat} {l : List D} (h : row? S j k = some (b, ls, i, l)) : own? S j = some (b, .rows ls) ∧ ixN ls.length k = some i ∧ ls[i]? = some l := by
  unfold row? at h
  split at h
  · rename_i b' ls' e1
    split at h
    · rename_i i' e2
      split at h
      · rename_i l' e3
        cases h
        exact ⟨e1, e2, e3⟩
      · cases h
    · cases h
  · cases h
theorem ok_unmid {A1 As A2 : List Addr} {B H : Hp} (o : Ok (As ++ (A1 ++ A2)) B H) : Ok (A1 ++ (As ++ A2)) B H := by
  have p : (A1 ++ (As ++ A2)).Perm (As ++ (A1 ++ A2)) := by
    rw [← List.append_assoc, ← List.append_assoc]
    exact List.Perm.append_right A2 List.perm_append_comm
  exact ⟨o.sub, p.nodup_iff.mpr o.nd, fun a ha => o.off a (p.mem_iff.mp ha)⟩
theorem step_eqv {A A' A2 : List Addr} {B B' H H' : Hp} (s : Step A B H A2 B' H') (e : ∀ a, a ∈ A ↔ a ∈ A') : Step A' B H A2 B' H' :=
  ⟨fun a o h n => s.fr a o h fun z => n ((e a).mp z), s.bx, fun a o h => (s.bn a o h).imp id fun z => z.imp id fun z => (e a).mp z, fun a ha => (s.an a ha).imp (fun z => (e a).mp z) id⟩
section
variable {w : World} {K : PySem.W.Frag} {σ : L2.St} {S : List Sl} {A : List Addr} {B H : Hp}
theorem row_hide {j : Nat} {b : Bool} {ls : List (List D)} (sr : SR w K B H σ S A) (ok : Ok A B H) (ej : own? S j = some (b, .rows ls)) :
    ∃ (a : Addr) (bs Ah : List Addr), σ[j]? = some (some (.ref a)) ∧ H a = some (.lst (bs.map V.ref)) ∧ Rows K B H bs ls ∧ SR w K B H σ (S.set j .un) Ah ∧ Ok ((a :: bs) ++ Ah) B H ∧ ∀ x, x ∈ (a :: bs) ++ Ah ↔ x ∈ A := by
  obtain ⟨y, A1, As, A2, eA, es, sl, f⟩ := sr.at (own?_get ej)
  have own : ∃ v, y = some v ∧ OwnR w K B H v (.rows ls) As := by
    cases b
    · cases sl with
      | ow z => exact ⟨_, rfl, z⟩
    · cases sl with
      | mu z => exact ⟨_, rfl, z⟩
  obtain ⟨v, rfl, own⟩ := own
  have z := f (B' := B) (H' := H) (x' := some v) (s' := .un) (As' := []) (Same.refl B) (fun a _ o h => h) .un
  rw [set_same es] at z
  subst eA
  cases own with
  | @rows a bs _ h r =>
    refine ⟨a, bs, A1 ++ A2, es, h, r, z, ok_mid ok, fun x => ?_⟩
    simp only [List.mem_append]
    constructor
    · rintro (h | h | h)
      · exact .inr (.inl h)
      · exact .inl h
      · exact .inr (.inr h)
    · rintro (h | h | h)
      · exact .inr (.inl h)
      · exact .inl h
      · exact .inr (.inr h)
theorem row_back {j i : Nat} {b : Bool} {ls : List (List D)} {a p : Addr} {bs Ah A1 F : List Addr} {S1 : List Sl} {B1 H1 : Hp} (ej : own? S j = some (b, .rows ls)) (ea : σ[j]? = some (some (.ref a))) (h : H a = some (.lst (bs.map V.ref))) (r : Rows K B H bs ls)
    (okA : Ok ((a :: bs) ++ Ah) B H) (eA : ∀ x, x ∈ (a :: bs) ++ Ah ↔ x ∈ A) (g : Go w K σ (S.set j .un) Ah B H S1 A1 B1 H1 F) (e1 : isUn S1[j]? = true) (ep : bs[i]? = some p) {u : HO} {y : V} {d : D} {l' : List D}
    (own' : OwnR w K (ov B1 H1 F) (upd H1 p u) (.ref p) (.lst l') [p]) (dd : Dp K (ov B1 H1 F) y d) : EPo w K σ S A B H (.im d) (putO S1 j b (.rows (ls.set i l'))) y (upd H1 p u) := by
  have tr : ∀ x ∈ a :: bs, ∃ u, H x = some u := fun x hx => by
    rcases List.mem_cons.mp hx with rfl | hx
    · exact ⟨_, h⟩
    · exact rows_tracked r x hx
  obtain ⟨p1, p2, p3⟩ := pend (F := a :: bs) okA g.st g.ok tr
  obtain ⟨f1, f2⟩ := step_freeze (ok_mid p1)
  have f2' := step_mid f2
  have pm : p ∈ bs := List.mem_of_getElem? ep
  have pa : p ∈ a :: bs := List.mem_cons_of_mem _ pm
  obtain ⟨m1, m2⟩ := step_mut (o := u) f1 (List.mem_append_left _ pa)
  have nd := (List.nodup_append.mp f1.nd)
  have ndc := List.nodup_cons.mp nd.1
  have ap : a ≠ p := fun z => ndc.1 (z ▸ pm)
  have sb : Same B1 (ov B1 H1 F) := ov_same g.ok.sub
  have rr : Rows K (ov B1 H1 F) H1 bs ls := rows_step (g.st.bx.trans sb) (p3.sub fun x hx => List.mem_cons_of_mem _ hx) r
  have R2 : Rows K (ov B1 H1 F) (upd H1 p u) bs (ls.set i l') := by
    cases own' with
    | lst h' r' => exact rows_set (Same.refl _) rr ndc.2 ep (fun x _ n o hx => by rw [upd_ne n]; exact hx) h' r'
  have ha : upd H1 p u a = some (.lst (bs.map V.ref)) := by
    rw [upd_ne ap]
    exact p3 a List.mem_cons_self _ h
  have OW : OwnR w K (ov B1 H1 F) (upd H1 p u) (.ref a) (.rows (ls.set i l')) (a :: bs) := .rows ha R2
  obtain ⟨s0, es0⟩ : ∃ s0, S1[j]? = some s0 ∧ s0 = .un := by
    unfold isUn at e1
    split at e1
    · rename_i e; exact ⟨_, e, rfl⟩
    · cases e1
  obtain ⟨es0, rfl⟩ := es0
  obtain ⟨y0, C1, Cs, C2, eC, ec, sl, f⟩ := g.sr.at es0
  cases sl with
  | un =>
    rw [ea] at ec
    cases ec
    have z := f (B' := ov B1 H1 F) (H' := upd H1 p u) (x' := some (.ref a)) (s' := if b then .mu (.rows (ls.set i l')) else .ow (.rows (ls.set i l'))) (As' := a :: bs) sb (fun x hx o hh => by
      have n : x ≠ p := fun e => nd.2.2 p pa x (by rw [eC]; simpa using hx) e.symm
      rw [upd_ne n]; exact hh) (by
      cases b
      · exact .ow OW
      · exact .mu OW)
    rw [set_same ea] at z
    have eC' : A1 = C1 ++ C2 := by rw [eC]; rfl
    subst eC'
    have sub : ∀ x, x ∈ C1 ++ ((a :: bs) ++ C2) → x ∈ (a :: bs) ++ (C1 ++ C2) := fun x hx => by
      simp only [List.mem_append] at hx ⊢
      rcases hx with h | h | h
      · exact .inr (.inl h)
      · exact .inl h
      · exact .inr (.inr h)
    refine ⟨_, _, [], ⟨z, show Ok (C1 ++ ((a :: bs) ++ C2)) _ _ from ok_unmid m1, (((step_eqv p2 eA).trans f2').trans m2).sub sub, fun ii o hi => ?_⟩, .im dd⟩
    by_cases ij : j = ii
    · subst ij
      have := own?_get ej
      rw [hi] at this
      cases b
      · cases this
      · refine ⟨.rows (ls.set i l'), ?_⟩
        show (S1.set j _)[j]? = _
        have hj : j < S1.length := by
          rcases Nat.lt_or_ge j S1.length with h | h
          · exact h
          · rw [List.getElem?_eq_none h] at es0; cases es0
        rw [List.getElem?_set_self hj]
        rfl
    · obtain ⟨o', ho⟩ := g.mu ii o (by rw [List.getElem?_set_ne ij]; exact hi)
      exact ⟨o', by show (S1.set j _)[ii]? = _; rw [List.getElem?_set_ne ij]; exact ho⟩
theorem row_ix {j i : Nat} {k : Int} {ls : List (List D)} {a : Addr} {bs : List Addr} {B' H1 : Hp} {Q : VK} (r : Rows K B H bs ls) (ea : σ[j]? = some (some (.ref a))) (h1 : H1 a = some (.lst (bs.map V.ref))) (ei : ixN ls.length k = some i) {p : Addr} (ep : bs[i]? = some p) (q : Q (.ref p) H1) :
    tOp (rIxL K) (tVar j) (tC (.int k)) σ H1 Q := by
  refine ⟨_, ea, a, bs.map V.ref, k, .ref p, rfl, rfl, .of h1, ?_, q⟩
  unfold atI
  rw [List.length_map, rows_len r, ei]
  show (bs.map V.ref)[i]? = _
  rw [List.getElem?_map, ep]
  rfl
end
/-! ### rows[k].m(..) -/
def eRowM (j : Nat) (k : Int) (fs : SEs) (g : Mt) : SE := fun S => match row? S j k with
  | some (b, ls, i, l) => match fs (S.set j .un) with
    | some (rs, S1) => if isUn S1[j]? then match g (.lst l) rs S1 with
      | some (d, .lst l') => some (.im d, putO S1 j b (.rows (ls.set i l')))
      | _ => none else none
    | none => none
  | none => none
theorem t_rowM {w : World} {K : PySem.W.Frag} {R : V → List V → Hp → VK → Prop} {g : Mt} {j : Nat} {k : Int} {fs : SEs} {σ : L2.St} {H : Hp} {Q : VK} (hm : MtOk w K R g) (z : Fl.T w K (eRowM j k fs g) σ H Q) : tBM K "list" R (tOp (rIxL K) (tVar j) (tC (.int k))) (Ta w K fs) σ H Q := by
  obtain ⟨S, A, B, r0, S', sr, ok, e, q⟩ := z
  unfold eRowM at e
  split at e
  · rename_i b ls i l er
    obtain ⟨ej, ei, el⟩ := row?_get er
    obtain ⟨a, bs, Ah, ea, h, r, sr1, okA, eA⟩ := row_hide sr ok ej
    obtain ⟨p, vs, ep, hp, dv⟩ := rows_get r el
    split at e
    · rename_i rs S1 ef
      split at e
      · rename_i eu
        split at e
        · rename_i d l' eg
          cases e
          refine row_ix (B' := B) r ea h ei ep ⟨.inl ⟨rfl, vs, .of hp⟩, S.set j .un, Ah, B, rs, S1, sr1, okA.right, ef, fun us H1 ⟨A1, B1, F, g1, x1⟩ => ?_⟩
          have tr : ∀ x ∈ a :: bs, ∃ u, H x = some u := fun x hx => by
            rcases List.mem_cons.mp hx with rfl | hx
            · exact ⟨_, h⟩
            · exact rows_tracked r x hx
          obtain ⟨p1, p2, p3⟩ := pend (F := a :: bs) okA g1.st g1.ok tr
          have hp1 : H1 p = some (.lst vs) := p3 p (List.mem_cons_of_mem _ (List.mem_of_getElem? ep)) _ hp
          refine hm σ S1 A1 B1 H1 (.ref p) (.lst l) [p] us rs F d (.lst l') Q g1.sr g1.ok (.lst hp1 (dps_mono g1.st.bx dv)) x1 eg fun a' u y ev ha' own' dd => ?_
          cases ev
          exact q y _ (row_back ej ea h r okA eA g1 eu ep own' dd)
        · cases e
      · cases e
    · cases e
  · cases e
/-! ### rows[k][i] = e -/
def sRowSub (j : Nat) (k : Int) (f h : SE) : SS := fun S => match row? S j k with
  | some (b, ls, i, l) => match sCons f (sCons h sNil) (S.set j .un) with
    | some ([r1, r2], S1) => if isUn S1[j]? then match mSet (.lst l) [r1, r2] S1 with
      | some (_, .lst l') => some (.nx (putO S1 j b (.rows (ls.set i l'))))
      | _ => none else none
    | _ => none
  | none => none
/-! ### len(rows[k]), rows[k] == [] -/
def eRowLen (j : Nat) (k : Int) : SE := fun S => match row? S j k with
  | some (_, _, _, l) => some (.im (.int l.length), S)
  | none => none
def eRowNil (j : Nat) (k : Int) : SE := fun S => match row? S j k with
  | some (_, _, _, l) => if SeqAt.shaped (.list l) then some (.im (.bool (PyData.eqv (.list l) (.list []))), S) else none
  | none => none
section
variable {X : Cx} {e : Expr} {es : List Expr} {fs : SEs} {pos cpos apos p1 p2 p3 : Pos} {x y : Str} {k : Int} {kk : Nat}
theorem pe_row (j : Nat) (hv : PE X (.Name x p1) (tVar j)) (hs : PlainIx (.Constant (.int k) kk p2) := by exact fun _ _ => rfl) : PE X (.Subscript (.Name x p1) (.Constant (.int k) kk p2) p3) (tOp (rIxL X.K) (tVar j) (tC (.int k))) := pe_ix ix_list hv pe_int hs
structure Mb (X : Cx) (o : Expr) (name : Str) (e : Expr) (es : List Expr) (apos cpos : Pos) : Prop where
  base : attributeBase o name X.env (eval o X.env) = eval o X.env
  few : ((backTo cpos (starEach (e :: es) X.env)).all (fun x => !x.1) && (backToKw cpos (keywordEach [] X.env)).all (fun x => x.1.isSome)
      && decide ((e :: es).length + ([] : List Keyword).length + (if ([] : List Keyword).isEmpty then 0 else 1) < 30)) = true
  line : (apos.endLine == cpos.line) = true
  st : starEach (e :: es) X.env = (false, eval e X.env) :: starEach es X.env
  plain : (backTo cpos (starEach es X.env)).any (·.1) = false
theorem e_rowExtend (j : Nat) (hv : PE X (.Name x p1) (tVar j)) (hs : Es X (e :: es) fs) (m : Mb X (.Subscript (.Name x p1) (.Constant (.int k) kk p2) p3) "extend" e es apos cpos := by exact ⟨rfl, rfl, rfl, rfl, rfl⟩) :
    E X (.Call (.Attribute (.Subscript (.Name x p1) (.Constant (.int k) kk p2) p3) "extend" apos) (e :: es) [] cpos) (eRowM j k fs mExtend) := pe_weak (pe_bm PySem.F.plainAttrs_list PySem.F.slot_list_extend PySem.F.type_list_extend mt_extend (pe_row j hv) hs m.base m.few m.line m.st m.plain) fun σ H Q z => t_rowM mok_extend z
theorem e_rowAppend (j : Nat) (hv : PE X (.Name x p1) (tVar j)) (hs : Es X (e :: es) fs) (m : Mb X (.Subscript (.Name x p1) (.Constant (.int k) kk p2) p3) "append" e es apos cpos := by exact ⟨rfl, rfl, rfl, rfl, rfl⟩) :
    E X (.Call (.Attribute (.Subscript (.Name x p1) (.Constant (.int k) kk p2) p3) "append" apos) (e :: es) [] cpos) (eRowM j k fs mAppend) := pe_weak (pe_bm PySem.F.plainAttrs_list PySem.F.slot_list_append PySem.F.type_list_append mt_append (pe_row j hv) hs m.base m.few m.line m.st m.plain) fun σ H Q z => t_rowM mok_append z
theorem e_extendA (j : Nat) (hv : PE X (.Name x p1) (tVar j)) (hs : Es X (e :: es) fs) (m : Mb X (.Name x p1) "extend" e es apos cpos := by exact ⟨rfl, rfl, rfl, rfl, rfl⟩) :
    E X (.Call (.Attribute (.Name x p1) "extend" apos) (e :: es) [] cpos) (eMeth isL j fs mExtend) := pe_weak (pe_bm PySem.F.plainAttrs_list PySem.F.slot_list_extend PySem.F.type_list_extend mt_extend hv hs m.base m.few m.line m.st m.plain) fun σ H Q z => t_meth mok_extend (fun B H v o As h => h.isL) z
theorem e_appendA (j : Nat) (hv : PE X (.Name x p1) (tVar j)) (hs : Es X (e :: es) fs) (m : Mb X (.Name x p1) "append" e es apos cpos := by exact ⟨rfl, rfl, rfl, rfl, rfl⟩) :
    E X (.Call (.Attribute (.Name x p1) "append" apos) (e :: es) [] cpos) (eMeth isL j fs mAppend) := pe_weak (pe_bm PySem.F.plainAttrs_list PySem.F.slot_list_append PySem.F.type_list_append mt_append hv hs m.base m.few m.line m.st m.plain) fun σ H Q z => t_meth mok_append (fun B H v o As h => h.isL) z
theorem e_addA (j : Nat) (hv : PE X (.Name x p1) (tVar j)) (hs : Es X (e :: es) fs) (m : Mb X (.Name x p1) "add" e es apos cpos := by exact ⟨rfl, rfl, rfl, rfl, rfl⟩) :
    E X (.Call (.Attribute (.Name x p1) "add" apos) (e :: es) [] cpos) (eMeth isS j fs mAdd) := pe_weak (pe_sadd hv hs m.base m.few m.line m.st m.plain) fun σ H Q z => t_meth mok_add (fun B H v o As h => h.isS) z
theorem e_popA (j : Nat) (hv : PE X (.Name x p1) (tVar j)) (hb : attributeBase (.Name x p1) "pop" X.env (eval (.Name x p1) X.env) = eval (.Name x p1) X.env := by rfl) (hl : (apos.endLine == cpos.line) = true := by rfl) :
    E X (.Call (.Attribute (.Name x p1) "pop" apos) [] [] cpos) (eMeth isL j sNil mPop) := pe_weak (pe_bm0 PySem.F.plainAttrs_list PySem.F.slot_list_pop PySem.F.type_list_pop mt_pop hv hb hl) fun σ H Q z => by
  obtain ⟨v, e, p, q⟩ := t_meth mok_pop (fun B H v o As h => h.isL) z
  exact ⟨v, e, p, ta_nil q⟩
theorem e_rowLen (j : Nat) (hv : PE X (.Name x p1) (tVar j)) (hgl : Gl X y) (hm : X.mg y = none) (hb : bootBuiltins y = some (.builtin "len")) (hn : y ≠ "__name__" := by decide) (hdb : (y == ("__debug__" : Str)) = false := by decide)
    (he : starEach [.Subscript (.Name x p1) (.Constant (.int k) kk p2) p3] X.env = (false, eval (.Subscript (.Name x p1) (.Constant (.int k) kk p2) p3) X.env) :: starEach [] X.env := by rfl) (hpl : (backTo pos (starEach [] X.env)).any (·.1) = false := by rfl) :
    E X (.Call (.Name y cpos) [.Subscript (.Name x p1) (.Constant (.int k) kk p2) p3] [] pos) (eRowLen j k) := pe_weak (pe_callB call_len hgl hm hb (pa_cons (pe_row j hv) pa_nil he) hn hdb he hpl) fun σ H Q z => by
  obtain ⟨S, A, B, r0, S', sr, ok, e, q⟩ := z
  unfold eRowLen at e
  split at e
  · rename_i b ls i l er
    cases e
    obtain ⟨ej, ei, el⟩ := row?_get er
    obtain ⟨a, bs, Ah, ea, h, r, sr1, okA, eA⟩ := row_hide sr ok ej
    obtain ⟨p, vs, ep, hp, dv⟩ := rows_get r el
    refine row_ix (B' := B) r ea h ei ep ⟨_, _, rfl, .inl ⟨vs, .of hp, rfl⟩, ?_⟩
    rw [dps_length dv]
    exact q _ H ⟨A, B, [], Go.same sr ok, .im (.int _)⟩
  · cases e
theorem t_rowNil {w : World} {K : PySem.W.Frag} {σ : L2.St} {H : Hp} {Q : VK} {j : Nat} {k : Int} (z : Fl.T w K (eRowNil j k) σ H Q) : tOp (rEqD K) (tOp (rIxL K) (tVar j) (tC (.int k))) (tLst tNil) σ H Q := by
  obtain ⟨S, A, B, r0, S', sr, ok, e, q⟩ := z
  unfold eRowNil at e
  split at e
  · rename_i b ls i l er
    split at e
    · rename_i hs
      cases e
      obtain ⟨ej, ei, el⟩ := row?_get er
      obtain ⟨a, bs, Ah, ea, h, r, sr1, okA, eA⟩ := row_hide sr ok ej
      obtain ⟨p, vs, ep, hp, dv⟩ := rows_get r el
      refine row_ix (B' := B) r ea h ei ep ⟨Nat.zero_le _, fun c hc => ?_⟩
      have kp : ∀ b o, H b = some o → upd H c (.lst []) b = some o := fun b o hb => by
        rw [upd_ne (ne_of_none hb hc)]; exact hb
      refine ⟨_, _, .lst (.of (kp _ _ hp)) (dps_mono (fun b o hb => kp b o (ok.sub b o hb)) dv), .lst (.of upd_same) .nil, hs, by decide, ?_⟩
      obtain ⟨k2, s2⟩ := step_newB (o := .lst []) ok hc sr.tracked
      exact q _ _ ⟨A, _, [], ⟨sr.step s2.bx fun b _ o hb => kp b o hb, k2, s2, MuK.refl _⟩, .im (.bl _)⟩
    · cases e
  · cases e
theorem e_rowNil (j : Nat) (hu : X.A.units + 64 < cLine) (hv : PE X (.Name x p1) (tVar j)) : E X (.Compare (.Subscript (.Name x p1) (.Constant (.int k) kk p2) p3) [.Eq] [.List [] cpos] pos) (eRowNil j k) :=
  pe_weak (pe_cmpR (op_eqD hu) (pe_row j hv) (pe_lst pa_nil) (nomark _)) fun σ H Q z => t_rowNil z
theorem c_rowNil (j : Nat) (hu : X.A.units + 64 < cLine) (hv : PE X (.Name x p1) (tVar j)) : Et X (.Compare (.Subscript (.Name x p1) (.Constant (.int k) kk p2) p3) [.Eq] [.List [] cpos] pos) (tB' (eRowNil j k)) :=
  pt_weak (pt_cmpR (op_eqD hu) (pe_row j hv) (pe_lst pa_nil) (nomark _)) fun σ H Q z => t_rowNil (t_tB z)
theorem s_rowSub {i : Expr} {f h : SE} (j : Nat) (hv : PE X (.Name x p1) (tVar j)) (he : E X e f) (hi : E X i h)
    (hs1 : swapsWithSole [.Subscript (.Subscript (.Name x p1) (.Constant (.int k) kk p2) p3) i apos] e pos.line X.env = pure false := by rfl) (hw : swappedStores [.Subscript (.Subscript (.Name x p1) (.Constant (.int k) kk p2) p3) i apos] e X.env = pure none := by rfl)
    (h1 : (assignEach [.Subscript (.Subscript (.Name x p1) (.Constant (.int k) kk p2) p3) i apos] X.env).map (·.2) = [assign (.Subscript (.Subscript (.Name x p1) (.Constant (.int k) kk p2) p3) i apos) X.env] := by rfl)
    (ha : ∀ v, assign (.Subscript (.Subscript (.Name x p1) (.Constant (.int k) kk p2) p3) i apos) X.env v = (do
      let ov ← holding [v] (eval (.Subscript (.Name x p1) (.Constant (.int k) kk p2) p3) X.env)
      let iv ← holding [v, ov] (eval i X.env)
      standAt apos
      holding [v, ov, iv] (setItem ov iv v)
      release [v, ov, iv] []) := by intro _; rfl) :
    St' X (.Assign [.Subscript (.Subscript (.Name x p1) (.Constant (.int k) kk p2) p3) i apos] e pos) (sRowSub j k f h) := ps_weak (ps_asg he (pg_sub (pe_row j hv) hi set_list ha) hs1 hw h1) fun D σ H ⟨S, A, B, out, sr, ok, e, q⟩ => by
  unfold sRowSub at e
  split at e
  · rename_i b ls i l er
    obtain ⟨ej, ei, el⟩ := row?_get er
    obtain ⟨a, bs, Ah, ea, hh, r, sr1, okA, eA⟩ := row_hide sr ok ej
    obtain ⟨p, vs, ep, hp, dv⟩ := rows_get r el
    have tr : ∀ x ∈ a :: bs, ∃ u, H x = some u := fun x hx => by
      rcases List.mem_cons.mp hx with rfl | hx
      · exact ⟨_, hh⟩
      · exact rows_tracked r x hx
    split at e
    · rename_i r1 r2 S2 ef
      split at e
      · rename_i eu
        split at e
        · rename_i d l' eg
          cases e
          -- the two parts one after another
          unfold sCons at ef
          split at ef
          · rename_i r1' S1 e1
            split at ef
            · rename_i rs' S2' e2
              cases ef
              split at e2
              · rename_i r2' S3 e3
                simp only [sNil, Option.some.injEq, Prod.mk.injEq, List.cons.injEq, and_true] at e2
                obtain ⟨rfl, rfl⟩ := e2
                refine ⟨S.set j .un, Ah, B, _, S1, sr1, okA.right, e1, fun v1 H1 ⟨A1, B1, F1, g1, x1⟩ => ?_⟩
                obtain ⟨_, _, k3⟩ := pend (F := a :: bs) okA g1.st g1.ok tr
                refine row_ix (B' := B) r ea (k3 a List.mem_cons_self _ hh) ei ep ⟨S1, A1, B1, _, S3, g1.sr, g1.ok0, e3, fun u H2 ⟨A2, B2, F2, g2, x2⟩ => ?_⟩
                obtain ⟨g3, b3, kk3⟩ := g1.then_ x1.tracked g2
                have xx := RRs.cons (x1.step b3 kk3) (RRs.cons x2 (.nil (w := X.w) (K := X.K) (σ := σ) (B := B2) (H := H2)))
                rw [List.append_nil] at xx
                obtain ⟨_, _, k4⟩ := pend (F := a :: bs) okA g3.st g3.ok tr
                have hp2 : H2 p = some (.lst vs) := k4 p (List.mem_cons_of_mem _ (List.mem_of_getElem? ep)) _ hp
                have R := mok_set σ S3 A2 B2 H2 (.ref p) (.lst l) [p] [v1, u] _ (F1 ++ F2) d (.lst l') (fun _ H4 => D.nx σ H4) g3.sr g3.ok (.lst hp2 (dps_mono g3.st.bx dv)) xx eg fun a' u' y ev ha' own' dd => by
                  cases ev
                  obtain ⟨A4, B4, F4, g4, _⟩ := row_back ej ea hh r okA eA g3 eu ep own' dd
                  exact q σ _ ⟨A4, B4, g4.drop.gs⟩
                obtain ⟨x', k', ee, R⟩ := R
                cases ee
                rcases R with R | ⟨a', H4, ea', dp, _⟩
                · exact R
                · exfalso
                  cases ea'
                  rcases dp with ⟨kvs, k, hk, _⟩ | ⟨kvs, k, b', hk, _⟩
                  · rw [hp2] at hk; cases hk
                  · rw [hp2] at hk; cases hk
              · cases e2
            · cases ef
          · cases ef
        · cases e
      · cases e
    · cases e
  · cases e
end
/-! ### xs[::-1] -/
def hRev : List D → Option Res
  | [.list l] => some (.l l.reverse)
  | _ => none
theorem ok_rev {w : World} {K : PySem.W.Frag} : OpOk w K (fun vs H Q => ∃ a xs, vs = [.ref a] ∧ SqL K H a xs ∧ ∀ p, H p = none → Q (.ref p) (upd H p (.lst xs.reverse))) (gOp hRev) := gOp_ok fun B H vs ds res Q sb v e p => by
  unfold hRev at e
  split at e
  · cases e
    obtain ⟨x, rfl, vx⟩ := vws1 v
    cases vx with
    | lst h r => exact ⟨_, _, rfl, h, fun q hq => p.lst _ _ _ rfl hq (dps_reverse r)⟩
  · cases e
section
variable {X : Cx} {e : Expr} {f : SE} {k : Nat} {p1 p2 p3 pos : Pos}
theorem e_rev (he : E X e f) : E X (.Subscript e (.Slice none none (some (.UnaryOp .USub (.Constant (.int 1) k p1) p2)) p3) pos) (opS (gOp hRev) (sCons f sNil)) := pe_weak (pe_revL he) fun σ H Q z =>
  (ta_one (op_T ok_rev z)).mono fun x H1 ⟨a, xs, e, h, q⟩ => by
    cases e
    exact ⟨a, xs, rfl, h, q⟩
theorem s_doc {c : Const} : St' X (.Expr (.Constant c k p1) pos) sNop → St' X (.Expr (.Constant c k p1) pos) sNop := id
end
end Fl
/-! Fl: sorted of dicts and sets, {k: v}, chained comparisons. -/
namespace Fl
open PySem L2 PyProof.Rows

/-! ### sorted(d), sorted(s) -/
def keysI : List (Key × D) → Option (List Int)
  | [] => some []
  | (.inl i, _) :: r => match keysI r with
    | some l => some (i :: l)
    | none => none
  | _ => none
def lt64 (n : Nat) : Bool := Nat.ble n 63
theorem lt64_iff {n : Nat} : lt64 n = true ↔ n < 64 := by unfold lt64; rw [Nat.ble_eq]; omega
def gSortD : Op := fun S rs => match rs with
  | [r] => match ownDct S r with
    | some l => match keysI l with
      | some ks => if lt64 ks.length then some (.fr (.lst ((sortI ks).map PyData.int))) else none
      | none => none
    | none => none
  | _ => none
def gSortS : Op := fun S rs => match rs with
  | [r] => match ownSet S r with
    | some l => if lt64 l.length then some (.fr (.lst ((sortI l).map PyData.int))) else none
    | none => none
  | _ => none
def gSorted : Op := fun S rs => match gOp hSorted S rs with
  | some r => some r
  | none => match gSortD S rs with
    | some r => some r
    | none => gSortS S rs
section
variable {w : World} {K : PySem.W.Frag}
theorem keysI_ok {B : Hp} : ∀ {kvs : List (Key × V)} {l : List (Key × D)} {ks : List Int}, KDp K B kvs l → keysI l = some ks → kvs.map (·.1) = ks.map Sum.inl
  | _, _, ks, .nil, e => by cases e; rfl
  | _, _, ks, .cons (k := k) h r, e => by
    cases k with
    | inl i =>
      simp only [keysI] at e
      split at e
      · rename_i l' e1
        cases e
        rw [List.map_cons, List.map_cons, keysI_ok r e1]
      · cases e
    | inr s => simp [keysI] at e
def rSortDI : List V → Hp → VK → Prop := fun xs H Q => ∃ (a : Addr) (kvs : List (Key × V)) (ks : List Int), xs = [.ref a] ∧ Rd H a (.dK kvs) ∧ kvs.map (·.1) = ks.map Sum.inl ∧ ks.length < 64 ∧
    ∀ (ys : List Int) (p : Addr), ys.Perm ks → ys.Pairwise (· ≤ ·) → H p = none → Q (.ref p) (upd H p (.lst (ys.map V.int)))
theorem ok_sortD : OpOk w K rSortDI gSortD := by
  intro σ S A B H vs rs F r Q sr x ok e q
  unfold gSortD at e
  split at e
  · rename_i r0
    split at e
    · rename_i l e1
      split at e
      · rename_i ks e2
        split at e
        · rename_i h64
          cases e
          obtain ⟨y, rfl, xa⟩ := rrs1 x
          obtain ⟨a, kvs, rfl, ha, hk⟩ := ownDct_ok sr xa e1
          refine ⟨a, kvs, ks, rfl, .inl ha, keysI_ok hk e2, lt64_iff.mp h64, fun ys p hp hs hq => ?_⟩
          obtain ⟨k2, s2⟩ := step_newA (o := .lst (ys.map V.int)) ok.right hq sr.tracked
          refine q _ _ _ [p] (.fr (.lst upd_same (by rw [sortI_is hp hs]; exact dps_ints _))) (sr.step (Same.refl _) fun a ha o h => ?_) k2 ((Step.refl.sub fun a ha => List.mem_append_right _ ha).trans s2)
          rw [upd_ne (ne_of_none h hq)]; exact h
        · cases e
      · cases e
    · cases e
  · cases e
theorem sub_perm : ∀ (ns l : List Int), ns.Nodup → (∀ x ∈ ns, x ∈ l) → l.length = ns.length → ns.Perm l
  | [], l, _, _, e => by
    have : l = [] := List.eq_nil_of_length_eq_zero e
    rw [this]
  | x :: ns, l, nd, h, e => by
    have hx := h x List.mem_cons_self
    have p := List.perm_cons_erase hx
    have nd' := List.nodup_cons.mp nd
    refine (List.Perm.cons x (sub_perm ns (l.erase x) nd'.2 (fun y hy => ?_) ?_)).trans p.symm
    · have n : y ≠ x := fun z => nd'.1 (z ▸ hy)
      exact (List.mem_erase_of_ne n).mpr (h y (List.mem_cons_of_mem _ hy))
    · have := p.length_eq
      rw [List.length_cons] at this e
      omega
theorem ok_sortS : OpOk w K (rSortedSet w) gSortS := by
  intro σ S A B H vs rs F r Q sr x ok e q
  unfold gSortS at e
  split at e
  · rename_i r0
    split at e
    · rename_i l e1
      split at e
      · rename_i h64
        cases e
        obtain ⟨y, rfl, xa⟩ := rrs1 x
        obtain ⟨a, f, n, rfl, ha, hf, hn⟩ := ownSet_ok sr xa e1
        refine ⟨a, f, n, rfl, ha, by rw [hn]; exact lt64_iff.mp h64, fun ns p hs hm hl hq => ?_⟩
        obtain ⟨k2, s2⟩ := step_newA (o := .lst (ns.map V.int)) ok.right hq sr.tracked
        have nd : ns.Nodup := hs.imp fun h => Int.ne_of_lt h
        have pm : ns.Perm l := by
          exact sub_perm ns l nd (fun x hx => (hf x).mp ((hm x).mp hx)) (by rw [hl, hn])
        refine q _ _ _ [p] (.fr (.lst upd_same (by rw [sortI_is pm (hs.imp fun h => Int.le_of_lt h)]; exact dps_ints _))) (sr.step (Same.refl _) fun a ha o h => ?_) k2 ((Step.refl.sub fun a ha => List.mem_append_right _ ha).trans s2)
        rw [upd_ne (ne_of_none h hq)]; exact h
      · cases e
    · cases e
  · cases e
def rSortX (w : World) (K : PySem.W.Frag) : List V → Hp → VK → Prop := fun xs H Q => rSortedI K xs H Q ∨ (rSortDI xs H Q ∨ rSortedSet w xs H Q)
theorem ok_sortX : OpOk w K (rSortX w K) gSorted := OpOk.or ok_sorted (OpOk.or ok_sortD ok_sortS)
theorem cr_sortX {X : Cx} (hc : X.calm = true) : CallR X (.builtin "sorted") (rSortX X.w X.K) := CallR.or cr_sortedI (CallR.or (call_sortedDI hc) (cr_sortedSet hc))
end
/-! ### a op b op c, ints -/
def eChain (p q : Int → Int → Bool) (f g h : SE) : SE := fun S => match sCons f (sCons g sNil) S with
  | some (rs, S1) => match vws S1 rs with
    | some [.int a, .int b] => if p a b then match h S1 with
      | some (r3, S2) => match vw S2 r3 with
        | some (.int c) => some (.im (.bool (q b c)), S2)
        | _ => none
      | none => none else some (.im (.bool false), S1)
    | _ => none
  | none => none
theorem t_chain {w : World} {K : PySem.W.Frag} {p q : Int → Int → Bool} {f g h : SE} {σ : L2.St} {H : Hp} {Q : VK} (z : Fl.T w K (eChain p q f g h) σ H Q) :
    tChain (rI0 fun i j => .bl (p i j)) (rI0 fun i j => .bl (q i j)) (T w K f) (T w K g) (T w K h) σ H Q := by
  obtain ⟨S, A, B, r, S', sr, ok, e, k⟩ := z
  unfold eChain at e
  split at e
  · rename_i rs S1 e1
    split at e
    · rename_i a b e2
      refine ta_two (Q := fun vs H2 => ∃ x y, vs = [x, y] ∧ rI0 (fun i j => .bl (p i j)) x y H2 fun z H3 => ∃ k, z = .bl k ∧ (if k = true then T w K h σ H3 fun w' H4 => rI0 (fun i j => .bl (q i j)) y w' H4 Q else Q (.bl false) H3)) ⟨S, A, B, rs, S1, sr, ok, e1, fun vs H1 ⟨A1, B1, F1, g1, x1⟩ => ?_⟩ |>.mono fun x H1 z => z.mono fun y H2 ⟨x', y', ee, q⟩ => by cases ee; exact q
      have vv := vws_ok g1.sr g1.ok.sub x1 e2
      obtain ⟨x, y, rfl, vx, vy⟩ := vws2 vv
      cases vx; cases vy
      refine ⟨_, _, rfl, a, b, rfl, rfl, p a b, rfl, ?_⟩
      split at e
      · rename_i hp
        rw [if_pos hp]
        split at e
        · rename_i r3 S2 e3
          split at e
          · rename_i c e4
            cases e
            refine ⟨S1, A1, B1, r3, _, g1.sr, g1.ok0, e3, fun v H2 ⟨A2, B2, F2, g2, x2⟩ => ?_⟩
            have vz := vw_ok g2.sr x2 g2.ok.sub e4
            cases vz
            exact ⟨b, c, rfl, rfl, k _ _ ⟨A2, B2, [], (g1.drop.seq g2).drop, .im (.bl _)⟩⟩
          · cases e
        · cases e
      · rename_i hp
        cases e
        rw [if_neg hp]
        exact k _ _ ⟨A1, B1, [], g1.drop, .im (.bl _)⟩
    · cases e
  · cases e
section
variable {X : Cx} {a b c : Expr} {f g h : SE} {pos : Pos} {p q : Int → Int → Bool} {op op' : CmpOp}
theorem e_chain (ho : OpR X (compareOp op) (rI0 fun i j => .bl (p i j))) (ho' : OpR X (compareOp op') (rI0 fun i j => .bl (q i j))) (ha : E X a f) (hb : E X b g) (hc : E X c h) (hm : lastMarks [op, op'] [b, c] = false := by with_unfolding_all rfl) :
    E X (.Compare a [op, op'] [b, c] pos) (eChain p q f g h) := pe_weak (pe_chain ho ho' ha hb hc hm) fun _ _ _ z => t_chain z
theorem c_chain (ho : OpR X (compareOp op) (rI0 fun i j => .bl (p i j))) (ho' : OpR X (compareOp op') (rI0 fun i j => .bl (q i j))) (ha : E X a f) (hb : E X b g) (hc : E X c h) (hm : lastMarks [op, op'] [b, c] = false := by with_unfolding_all rfl) :
    Et X (.Compare a [op, op'] [b, c] pos) (tB' (eChain p q f g h)) := pt_weak (pt_chain ho ho' ha hb hc hm) fun _ _ _ z => t_chain (t_tB z)
end
/-! ### {k: v} -/
def eDict1 (f h : SE) : SE := fun S => match sCons f (sCons h sNil) S with
  | some ([r1, r2], S') => match vw S' r1, r2.fz with
    | some kd, some d => match keyOf kd with
      | some k => some (.fr (.dct [(k, d)]), S')
      | none => none
    | _, _ => none
  | _ => none
theorem e_dict1 {X : Cx} {pos : Pos} {ke ve : Expr} {f h : SE} (hk : E X ke f) (hv : E X ve h) : E X (.Dict [some ke] [ve] pos) (eDict1 f h) := pe_weak (pe_disp (pps_cons hk hv pps_nil) rfl rfl (fun z => by cases z) (by show 1 ≤ 15; decide)) fun σ H Q z => by
  obtain ⟨S, A, B, r, S', sr, ok, e, q⟩ := z
  unfold eDict1 at e
  split at e
  · rename_i r1 r2 S1 e1
    split at e
    · rename_i kd d e2 e3
      split at e
      · rename_i k ek
        cases e
        intro p hp
        obtain ⟨k1, s1⟩ := step_newA (o := .dK []) ok hp sr.tracked
        have sr1 : SR X.w X.K B (upd H p (.dK [])) σ S A := sr.step (Same.refl _) fun a ha o h => by
          rw [upd_ne (ne_of_none h hp)]; exact h
        refine ta_two (Q := fun vs H2 => ∃ x y, vs = [x, y] ∧ H2 p = some (.dK []) ∧ ∃ kvs : List (Key × V), [(x, y)] = kvs.map (fun kv => (kV kv.1, kv.2)) ∧ kvs.length ≤ 15 ∧ Q (.ref p) (upd H2 p (.dK (mergeK [] kvs))))
          ⟨S, A, B, _, _, sr1, Ok.right (F := [p]) k1, e1, fun vs H2 ⟨A2, B2, F, g2, x2⟩ => ?_⟩ |>.mono fun x H1 z => z.mono fun y H2 ⟨x', y', ee, q⟩ => by cases ee; exact q
        obtain ⟨x, y, F1, F2, rfl, xa, xb⟩ := rrs2 x2
        obtain ⟨p1, p2, p3⟩ := pend (F := [p]) k1 g2.st g2.ok (fun a ha => by simp at ha; subst ha; exact ⟨_, upd_same⟩)
        have hp2 : H2 p = some (.dK []) := p3 p (by simp) _ upd_same
        have kx := keyOf_ok (vw_ok g2.sr xa g2.ok.sub e2) ek
        subst kx
        have dd : Dp X.K (ov B2 H2 F) y d := by
          cases x2 with
          | cons h1 h2 =>
            cases h2 with
            | cons h3 h4 =>
              cases h4
              exact h3.data (ov_same g2.ok.sub) (fun b hb => ov_in (List.mem_append_right _ (List.mem_append_left _ hb))) e3
        refine ⟨_, _, rfl, hp2, [(k, y)], rfl, (by show 1 ≤ 15; decide), ?_⟩
        have em : mergeK [] [(k, y)] = [(k, y)] := mergeK_snoc [(k, y)] [] (by simp)
        rw [em]
        have q1 : Ok (F ++ ([p] ++ A2)) B2 H2 := ok_mid p1
        obtain ⟨f1, f2⟩ := step_freeze q1
        obtain ⟨m1, m2⟩ := step_mut (o := .dK [(k, y)]) f1 (p := p) (by simp)
        refine q _ _ ⟨A2, ov B2 H2 F, [p], ⟨?_, m1, ?_, g2.mu⟩, .fr (.dct upd_same (.cons dd .nil))⟩
        · refine g2.sr.step (ov_same g2.ok.sub) fun a ha o h => ?_
          have n : a ≠ p := fun e => by
            subst e
            exact (List.nodup_append.mp (f1.nd)).2.2 a (by simp) a ha rfl
          rw [upd_ne n]; exact h
        · have t1 : Step ([p] ++ (F ++ A2)) B2 H2 ([p] ++ A2) (ov B2 H2 F) H2 := step_mid f2
          exact (s1.trans p2).trans (t1.trans m2)
      · cases e
    · cases e
  · cases e
/-! ### list(range(n)), list(range(a, b)), tuple(range(n)) -/
def eLR1 (f : SE) : SE := fun S => match f S with
  | some (r, S') => match vw S' r with
    | some (.int n) => if small62 n && szOk n.toNat then some (.fr (.lst (rngD 0 n.toNat)), S') else none
    | _ => none
  | none => none
def eTR1 (f : SE) : SE := fun S => match f S with
  | some (r, S') => match vw S' r with
    | some (.int n) => if small62 n && szOk n.toNat then some (.im (.tuple (rngD 0 n.toNat)), S') else none
    | _ => none
  | none => none
def eLR2 (f g : SE) : SE := fun S => match sCons f (sCons g sNil) S with
  | some (rs, S') => match vws S' rs with
    | some [.int a, .int b] => if small62 a && small62 b && szOk (b - a).toNat then some (.fr (.lst (rngD a (b - a).toNat)), S') else none
    | _ => none
  | none => none
theorem dps_rg {K : PySem.W.Frag} {H : Hp} (a : Int) : ∀ l : List Nat, DpAll K H (l.map fun (i : Nat) => V.int (a + (i : Nat))) (l.map fun (i : Nat) => PyData.int (a + (i : Nat)))
  | [] => .nil
  | i :: l => .cons (.int _) (dps_rg a l)
theorem rgOk_of {a b : Int} (h1 : small62 a = true) (h2 : small62 b = true) (h3 : szOk (b - a).toNat = true) : RgOk a b := by
  have z1 := small62_b' h1
  have z2 := small62_b' h2
  have z3 : (b - a).toNat ≤ 1000000 := of_decide_eq_true h3
  exact ⟨z1.1, z1.2, z2.1, z2.2, by omega⟩
section
variable {X : Cx} {a b : Expr} {f g : SE} {p p2 pos pos2 : Pos}
theorem e_listR1 (hc : X.calm = true) (hl : Gl X "list") (ml : X.mg "list" = none) (hr : Gl X "range") (mr : X.mg "range" = none) (ha : E X a f) (na : starEach [a] X.env = (false, eval a X.env) :: starEach [] X.env := by rfl)
    (nb : starEach [.Call (.Name "range" p2) [a] [] pos2] X.env = (false, eval (.Call (.Name "range" p2) [a] [] pos2) X.env) :: starEach [] X.env := by rfl) :
    E X (.Call (.Name "list" p) [.Call (.Name "range" p2) [a] [] pos2] [] pos) (eLR1 f) := pe_weak (pe_listRg hc hl ml (prg_1 hr mr ha na) nb) fun σ H Q z => by
  obtain ⟨S, A, B, r, S', sr, ok, e, q⟩ := z
  unfold eLR1 at e
  split at e
  · rename_i r1 S1 e1
    split at e
    · rename_i n e2
      split at e
      · rename_i hs
        cases e
        rw [Bool.and_eq_true] at hs
        refine ⟨S, A, B, r1, _, sr, ok, e1, fun v H1 ⟨A1, B1, F, g1, x1⟩ => ?_⟩
        have vx := vw_ok g1.sr x1 g1.ok.sub e2
        cases vx
        refine ⟨n, rfl, rgOk_of (by decide) hs.1 (by rw [Int.sub_zero]; exact hs.2), fun t ht => ?_⟩
        obtain ⟨k2, s2⟩ := step_newA (o := .lst (rgV 0 n)) g1.ok.right ht g1.sr.tracked
        have dd : DpAll X.K B1 (rgV 0 n) (rngD 0 n.toNat) := by
          unfold rgV rngD
          rw [Int.sub_zero]
          exact dps_rg 0 _
        refine q _ _ ⟨A1, B1, [t], ⟨g1.sr.step (Same.refl _) fun c hc o h => ?_, k2, (g1.st.trans (Step.refl.sub fun c hc => List.mem_append_right _ hc)).trans s2, g1.mu⟩, .fr (.lst upd_same dd)⟩
        rw [upd_ne (ne_of_none h ht)]; exact h
      · cases e
    · cases e
  · cases e
theorem e_listR2 (hc : X.calm = true) (hl : Gl X "list") (ml : X.mg "list" = none) (hr : Gl X "range") (mr : X.mg "range" = none) (ha : E X a f) (hb : E X b g) (na : starEach [a, b] X.env = (false, eval a X.env) :: starEach [b] X.env := by rfl)
    (nb : starEach [b] X.env = (false, eval b X.env) :: starEach [] X.env := by rfl) (hp : (backTo pos2 (starEach [b] X.env)).any (·.1) = false := by rfl)
    (nc : starEach [.Call (.Name "range" p2) [a, b] [] pos2] X.env = (false, eval (.Call (.Name "range" p2) [a, b] [] pos2) X.env) :: starEach [] X.env := by rfl) :
    E X (.Call (.Name "list" p) [.Call (.Name "range" p2) [a, b] [] pos2] [] pos) (eLR2 f g) := pe_weak (pe_listRg hc hl ml (prg_2 hr mr ha hb na nb hp) nc) fun σ H Q z => by
  obtain ⟨S, A, B, r, S', sr, ok, e, q⟩ := z
  unfold eLR2 at e
  split at e
  · rename_i rs S1 e1
    split at e
    · rename_i i j e2
      split at e
      · rename_i hs
        cases e
        rw [Bool.and_eq_true, Bool.and_eq_true] at hs
        refine ta_two (Q := fun vs H2 => ∃ x y, vs = [x, y] ∧ ∃ i j, x = .int i ∧ y = .int j ∧ (RgOk i j ∧ ∀ q, H2 q = none → Q (.ref q) (upd H2 q (.lst (rgV i j)))))
          ⟨S, A, B, rs, _, sr, ok, e1, fun vs H1 ⟨A1, B1, F, g1, x1⟩ => ?_⟩ |>.mono fun x H1 z => z.mono fun y H2 ⟨x', y', ee, q⟩ => by cases ee; exact q
        obtain ⟨x, y, rfl, vx, vy⟩ := vws2 (vws_ok g1.sr g1.ok.sub x1 e2)
        cases vx; cases vy
        refine ⟨_, _, rfl, i, j, rfl, rfl, rgOk_of hs.1.1 hs.1.2 hs.2, fun t ht => ?_⟩
        obtain ⟨k2, s2⟩ := step_newA (o := .lst (rgV i j)) g1.ok.right ht g1.sr.tracked
        have dd : DpAll X.K B1 (rgV i j) (rngD i (j - i).toNat) := dps_rg i _
        refine q _ _ ⟨A1, B1, [t], ⟨g1.sr.step (Same.refl _) fun c hc o h => ?_, k2, (g1.st.trans (Step.refl.sub fun c hc => List.mem_append_right _ hc)).trans s2, g1.mu⟩, .fr (.lst upd_same dd)⟩
        rw [upd_ne (ne_of_none h ht)]; exact h
      · cases e
    · cases e
  · cases e
end
end Fl
/-! Fl: how the codes are evaluated (plain Lean). -/
namespace Fl
open PySem L2
section
variable {S : List Sl}
theorem sNop_ap : sNop S = some (.nx S) := rfl
theorem sSeq_ap (f g : SS) : sSeq f g S = match f S with
  | some (.nx S1) => g S1
  | o => o := rfl
theorem sBrk_ap : sBrk S = some (.bk S) := rfl
theorem sCnt_ap : sCnt S = some (.ct S) := rfl
theorem sRet_ap (f : SE) : sRet f S = match f S with
  | some (.pl _, _) => none
  | some (r, S') => some (.rt r S')
  | none => none := rfl
theorem sRetN_ap : sRetN S = some (.rt (.im .none) S) := rfl
theorem sDrop_ap (f : SE) : sDrop f S = match f S with
  | some (_, S') => some (.nx S')
  | none => none := rfl
theorem sIf_ap (t : ST) (f g : SS) : sIf t f g S = match t S with
  | some (true, S') => f S'
  | some (false, S') => g S'
  | none => none := rfl
theorem sSet_ap (i : Nat) (f : SE) : sSet i f S = match f S with
  | some (r, S') => match r.sl with
    | some s => if isMu S' i then none else some (.nx (S'.set i s))
    | none => none
  | none => none := rfl
def isM : Sl → Bool
  | .mu _ => true
  | _ => false
theorem isM_un : isM .un = false := rfl
theorem isM_im (d : D) : isM (.im d) = false := rfl
theorem isM_ow (o : O) : isM (.ow o) = false := rfl
theorem isM_mu (o : O) : isM (.mu o) = true := rfl
theorem isMu_ap (i : Nat) : isMu S i = match S[i]? with
  | some s => isM s
  | none => true := by
  unfold isMu
  cases S[i]? with
  | none => rfl
  | some s => cases s <;> rfl
theorem sAsg_ap (f : SE) (g : STg) : sAsg f g S = match f S with
  | some (r, S') => match r.fz with
    | some d => match g d S' with
      | some S2 => some (.nx S2)
      | none => none
    | none => none
  | none => none := rfl
theorem gN_ap (i : Nat) (d : D) : gN i d S = if isMu S i then none else some (S.set i (.im d)) := rfl
theorem gT_ap (is : List Nat) (ds : List D) : gT is (.tuple ds) S = gTs is ds S := rfl
theorem gT_apL (is : List Nat) (ds : List D) : gT is (.list ds) S = gTs is ds S := rfl
theorem sPar_ap (i j : Nat) (f g : SE) : sPar i j f g S = match sCons f (sCons g sNil) S with
  | some ([r1, r2], S') => match r1.sl, r2.sl with
    | some s1, some s2 => if isMu S' i || isMu S' j then none else some (.nx ((S'.set i s1).set j s2))
    | _, _ => none
  | _ => none := rfl
theorem sSub_ap (j : Nat) (f h : SE) : sSub j f h S = match f S with
  | some (r, S1) => match own? S1 j with
    | some (b0, _) => match h S1 with
      | some (ri, S2) => match own? S2 j with
        | some (b, o) => if b = b0 then match mSet o [r, ri] S2 with
          | some (_, o') => some (.nx (putO S2 j b o'))
          | none => none else none
        | none => none
      | none => none
    | none => none
  | none => none := rfl
theorem own?_ap (j : Nat) : own? S j = match S[j]? with
  | some (.ow o) => some (false, o)
  | some (.mu o) => some (true, o)
  | _ => none := rfl
theorem putO_t (j : Nat) (o : O) : putO S j true o = S.set j (.mu o) := rfl
theorem putO_f (j : Nat) (o : O) : putO S j false o = S.set j (.ow o) := rfl
theorem sAug_ap (i : Nat) (g : Int → Int → Int) (f : SE) : sAug i g f S = match S[i]? with
  | some (.im (.int a)) => match f S with
    | some (r, S1) => match vw S1 r with
      | some (.int b) => match S1[i]? with
        | some (.im _) => some (.nx (S1.set i (.im (.int (g a b)))))
        | _ => none
      | _ => none
    | none => none
  | _ => none := rfl
theorem sFor_ap (it : SI) (g : STg) (body : SS) : sFor it g body S = match it S with
  | some (ds, S1) => forL g body ds S1
  | none => none := rfl
theorem eC_ap (d : D) : eC d S = some (.im d, S) := rfl
theorem eVar_ap (i : Nat) : eVar i S = match S[i]? with
  | some (.im d) => some (.im d, S)
  | some (.ow o) => match o.toD with
    | some d => some (.im d, S.set i (.im d))
    | none => none
  | _ => none := rfl
theorem ePl_ap (i : Nat) : ePl i S = match S[i]? with
  | some (.im _) => some (.pl i, S)
  | some (.ow _) => some (.pl i, S)
  | some (.mu _) => some (.pl i, S)
  | _ => none := rfl
theorem eMv_ap (i : Nat) : eMv i S = match S[i]? with
  | some (.im d) => some (.im d, S)
  | some (.ow o) => some (.fr o, S.set i .un)
  | _ => none := rfl
theorem opS_ap (g : Op) (fs : SEs) : opS g fs S = match fs S with
  | some (rs, S') => match g S' rs with
    | some r => some (r, S')
    | none => none
  | none => none := rfl
theorem sNil_ap : sNil S = some ([], S) := rfl
theorem sCons_ap (f : SE) (g : SEs) : sCons f g S = match f S with
  | some (r, S1) => match g S1 with
    | some (rs, S2) => some (r :: rs, S2)
    | none => none
  | none => none := rfl
theorem gOp_ap (h : List D → Option Res) (rs : List Rs) : gOp h S rs = match vws S rs with
  | some ds => match h ds with
    | some r => some r.rs
    | none => none
  | none => none := rfl
theorem vws_nil : vws S [] = some [] := rfl
theorem vws_cons (r : Rs) (rs : List Rs) : vws S (r :: rs) = match vw S r, vws S rs with
  | some d, some ds => some (d :: ds)
  | _, _ => none := rfl
theorem vw_im (d : D) : vw S (.im d) = some d := rfl
theorem vw_fr (l : List D) : vw S (.fr (.lst l)) = some (.list l) := rfl
theorem vw_frd (l : List (Key × D)) : vw S (.fr (.dct l)) = none := rfl
theorem vw_frs (l : List Int) : vw S (.fr (.set l)) = none := rfl
theorem vw_frr (l : List (List D)) : vw S (.fr (.rows l)) = none := rfl
theorem vw_pl (i : Nat) : vw S (.pl i) = match S[i]? with
    | some (.im d) => some d
    | some (.ow o) => o.view
    | some (.mu o) => o.view
    | _ => none := rfl
theorem view_l (l : List D) : (O.lst l).view = some (.list l) := rfl
theorem view_d (l : List (Key × D)) : (O.dct l).view = none := rfl
theorem view_s (l : List Int) : (O.set l).view = none := rfl
theorem view_r (l : List (List D)) : (O.rows l).view = none := rfl
theorem rs_d (d : D) : (Res.d d).rs = .im d := rfl
theorem rs_l (l : List D) : (Res.l l).rs = .fr (.lst l) := rfl
theorem sl_im (d : D) : (Rs.im d).sl = some (.im d) := rfl
theorem sl_fr (o : O) : (Rs.fr o).sl = some (.ow o) := rfl
theorem fz_im (d : D) : (Rs.im d).fz = some d := rfl
theorem fz_fr (l : List D) : (Rs.fr (.lst l)).fz = some (.list l) := rfl
theorem fz_fr2 (l : List (List D)) : (Rs.fr (.rows l)).fz = some (.list (l.map PyData.list)) := rfl
theorem fzs_nil : fzs [] = some [] := rfl
theorem fzs_cons (r : Rs) (rs : List Rs) : fzs (r :: rs) = match r.fz, fzs rs with
  | some d, some ds => some (d :: ds)
  | _, _ => none := rfl
theorem toD_l (l : List D) : (O.lst l).toD = some (.list l) := rfl
theorem toD_r (l : List (List D)) : (O.rows l).toD = some (.list (l.map PyData.list)) := rfl
theorem gTupD_ap (rs : List Rs) : gTupD S rs = match fzs rs with
  | some ds => if szOk ds.length then some (.im (.tuple ds)) else none
  | none => none := rfl
theorem gLstD_ap (rs : List Rs) : gLstD S rs = match fzs rs with
  | some ds => if szOk ds.length then some (.fr (.lst ds)) else none
  | none => none := rfl
theorem gIx_ap (rs : List Rs) : gIx S rs = match gOp hIx S rs with
  | some r => some r
  | none => gDGet S rs := rfl
theorem gDGet_ap (a b : Rs) : gDGet S [a, b] = match ownDct S a, vw S b with
    | some l, some d => match keyOf d with
      | some k => match lookK l k with
        | some x => some (.im x)
        | none => none
      | none => none
    | _, _ => none := rfl
theorem ownDct_pl (i : Nat) : ownDct S (.pl i) = match S[i]? with
    | some (.ow (.dct l)) => some l
    | some (.mu (.dct l)) => some l
    | _ => none := rfl
theorem keyOf_i (i : Int) : keyOf (.int i) = some (.inl i) := rfl
theorem keyOf_s (s : Str) : keyOf (.str s) = some (.inr s) := rfl
theorem gMul_ap (rs : List Rs) : gMul S rs = match gOp hMul S rs with
  | some r => some r
  | none => match gRep S rs with
    | some r => some r
    | none => gOp hRepT S rs := rfl
theorem tB_ap (f : SE) : tB' f S = match f S with
  | some (.im (.bool b), S') => some (b, S')
  | _ => none := rfl
theorem tNot_ap (t : ST) : tNot' t S = match t S with
  | some (b, S') => some (!b, S')
  | none => none := rfl
theorem tAnd_ap (t u : ST) : tAnd' t u S = match t S with
  | some (true, S') => u S'
  | some (false, S') => some (false, S')
  | none => none := rfl
theorem tOr_ap (t u : ST) : tOr' t u S = match t S with
  | some (true, S') => some (true, S')
  | some (false, S') => u S'
  | none => none := rfl
theorem eNot_ap (f : SE) : eNot f S = match f S with
  | some (.im (.bool b), S') => some (.im (.bool (!b)), S')
  | _ => none := rfl
theorem eAnd_ap (f g : SE) : eAnd f g S = match f S with
  | some (.im (.bool true), S') => g S'
  | some (.im (.bool false), S') => some (.im (.bool false), S')
  | _ => none := rfl
theorem eOr_ap (f g : SE) : eOr f g S = match f S with
  | some (.im (.bool true), S') => some (.im (.bool true), S')
  | some (.im (.bool false), S') => g S'
  | _ => none := rfl
theorem eIf_ap (t : ST) (f g : SE) : eIf t f g S = match t S with
  | some (true, S') => f S'
  | some (false, S') => g S'
  | none => none := rfl
theorem tY_ap : tY S = some (true, S) := rfl
theorem eSl_ap (f : SE) (p q : SO) : eSl f p q S = match f S with
  | some (r, S1) => match p S1 with
    | some (lo, S2) => match q S2 with
      | some (hi, S3) => match vw S3 r with
        | some d => match hCut d lo hi with
          | some res => some (res.rs, S3)
          | none => none
        | none => none
      | none => none
    | none => none
  | none => none := rfl
theorem oN_ap : oN S = some (none, S) := rfl
theorem oI_ap (g : SE) : oI g S = match g S with
  | some (r, S') => match vw S' r with
    | some (.int i) => some (some i, S')
    | _ => none
  | none => none := rfl
def seqOf : D → Option (List D)
  | .list l => some l
  | .tuple l => some l
  | _ => none
theorem seqOf_l (l : List D) : seqOf (.list l) = some l := rfl
theorem seqOf_t (l : List D) : seqOf (.tuple l) = some l := rfl
theorem itOf_ap (f : SE) : itOf f S = match f S with
  | some (r, S') => match r.fz with
    | some d => match seqOf d with
      | some l => some (l, S')
      | none => none
    | none => none
  | none => none := by
  unfold itOf
  cases f S with
  | none => rfl
  | some p =>
    obtain ⟨r, S'⟩ := p
    simp only
    cases r.fz with
    | none => rfl
    | some d => cases d <;> rfl
theorem itR1_ap (f : SE) : itR1 f S = match f S with
  | some (r, S') => match vw S' r with
    | some (.int n) => if small62 n then some (rngD 0 n.toNat, S') else none
    | _ => none
  | none => none := rfl
theorem itR2_ap (f g : SE) : itR2 f g S = match sCons f (sCons g sNil) S with
  | some (rs, S') => match vws S' rs with
    | some [.int a, .int b] => if small62 a && small62 b then some (rngD a (b - a).toNat, S') else none
    | _ => none
  | none => none := rfl
theorem eLc_ap (it : SI) (i : Nat) (t : ST) (f : SE) : eLc it i t f S = match it S with
  | some (ds, S1) => if isIm S1 i then match lcL i t f ds (S1.set i .un) with
    | some (es, S2) => if szOk ds.length then some (.fr (.lst es), S2.set i (S1.getD i .un)) else none
    | none => none else none
  | none => none := rfl
theorem isIm_ap (i : Nat) : isIm S i = match S[i]? with
  | some (.im _) => true
  | some .un => true
  | _ => false := rfl
theorem eCall_ap (n : Nat) (F : Fn) (fs : SEs) : eCall n F fs S = match fs S with
  | some (rs, S1) => match fzs rs with
    | some ds => if decide (rs.length = n) then match F (ds.map Sl.im) with
      | some (r, _) => if isPl r then none else some (r, S1)
      | none => none else none
    | none => none
  | none => none := rfl
theorem eCallM_ap (n : Nat) (F : Fn) (i : Nat) (fs : SEs) : eCallM n F i fs S = match own? S i with
  | some (b0, _) => match fs S with
    | some (rs, S1) => match own? S1 i, fzs rs with
      | some (b, o), some ds => if decide (b = b0 ∧ rs.length + 1 = n) then match F (.mu o :: ds.map Sl.im) with
        | some (r, .mu o' :: _) => if isPl r then none else some (r, putO S1 i b o')
        | _ => none else none
      | _, _ => none
    | none => none
  | none => none := rfl
theorem fnOf_ap (n : Nat) (body : SS) (args : List Sl) : fnOf n body args = match body (args ++ List.replicate n .un) with
  | some (.rt r S') => if isPl r || decide (S'.length ≠ args.length + n) then none else some (r, projS args S')
  | some (.nx S') => if decide (S'.length ≠ args.length + n) then none else some (.im .none, projS args S')
  | _ => none := rfl
theorem isPl_im (d : D) : isPl (.im d) = false := rfl
theorem isPl_fr (o : O) : isPl (.fr o) = false := rfl
theorem eDspl_ap (ks : List Key) (fl : List SE) : eDspl ks fl S = match sArgs fl S with
  | some (rs, S') => match fzs rs with
    | some ds => if decide (ds.length = ks.length) && decide (ks.Nodup) then some (.fr (.dct (mkD ks ds)), S') else none
    | none => none
  | none => none := rfl
theorem sArgs_nil : sArgs [] = sNil := rfl
theorem sArgs_cons (f : SE) (fs : List SE) : sArgs (f :: fs) = sCons f (sArgs fs) := rfl
theorem mkD_nil : mkD [] [] = [] := rfl
theorem mkD_cons (k : Key) (d : D) (ks : List Key) (ds : List D) : mkD (k :: ks) (d :: ds) = (k, d) :: mkD ks ds := rfl
theorem mulOk_l {i j : Int} (h1 : -18446744073709551616 < i) (h2 : i < 18446744073709551616) : mulOk i j = true := mulOk_iff.mpr (.inl ⟨h1, h2⟩)
theorem mulOk_r {i j : Int} (h1 : -18446744073709551616 < j) (h2 : j < 18446744073709551616) : mulOk i j = true := mulOk_iff.mpr (.inr (.inl ⟨h1, h2⟩))
theorem getElem?_lit0 {α : Type} (a : α) (l : List α) : (a :: l)[0]? = some a := rfl
theorem keepMu_mu (o o' : O) : keepMu (.mu o) (.mu o') = .mu o' := rfl
theorem keepMu_im (d : D) (s : Sl) : keepMu (.im d) s = .un := rfl
theorem projS_nil (S : List Sl) : projS [] S = [] := rfl
theorem projS_cons (a s : Sl) (as ss : List Sl) : projS (a :: as) (s :: ss) = keepMu a s :: projS as ss := rfl
end
/-! ### the law's dict of cells -/
def mL (l s : D) (c p : D) : List (Key × D) := [(.inr "left", l), (.inr "seed", s), (.inr "cells", c), (.inr "spot", p)]
section
variable {l s c p x : D}
theorem lk_left : lookK (mL l s c p) (.inr "left") = some l := rfl
theorem lk_seed : lookK (mL l s c p) (.inr "seed") = some s := rfl
theorem lk_cells : lookK (mL l s c p) (.inr "cells") = some c := rfl
theorem lk_spot : lookK (mL l s c p) (.inr "spot") = some p := rfl
theorem pt_left : putD (mL l s c p) (.inr "left") x = mL x s c p := rfl
theorem pt_spot : putD (mL l s c p) (.inr "spot") x = mL l s c x := rfl
theorem len_mL : (mL l s c p).length = 4 := rfl
end
theorem cutD_map {α β : Type} (f : α → β) (l : List α) (lo hi : Option Int) : cutD (l.map f) lo hi = (cutD l lo hi).map f := by
  unfold cutD
  rw [List.length_map, List.map_take, List.map_drop]
theorem sIx0 {n d k : Nat} (h : k ≤ n) : HT.sIx n d (some (k : Int)) = k := by
  rw [HT.sIx_nat]; omega
theorem cut_from {α : Type} {l : List α} {k : Nat} (h : k ≤ l.length) : cutD l (some (k : Int)) none = l.drop k := by
  unfold cutD
  rw [sIx0 h, HT.sIx_none, List.take_of_length_le]
  rw [List.length_drop]; exact Nat.le_refl _
theorem cut_to {α : Type} {l : List α} {k : Nat} (h : k ≤ l.length) : cutD l none (some (k : Int)) = l.take k := by
  unfold cutD
  rw [sIx0 h, HT.sIx_none, List.drop_zero, Nat.sub_zero]
theorem cut_any {α : Type} (l : List α) (lo hi : Option Int) : (cutD l lo hi).length ≤ l.length := by
  unfold cutD
  rw [List.length_take, List.length_drop]
  omega
theorem isi_ii (i : Int) : hIsi "int" [.int i] = some (.d (.bool true)) := by unfold hIsi isT; rfl
theorem isi_ib (i : Int) : hIsi "bool" [.int i] = some (.d (.bool false)) := by unfold hIsi isT; rfl
theorem isi_tt (l : List D) : hIsi "tuple" [.tuple l] = some (.d (.bool true)) := by unfold hIsi isT; rfl
theorem isi_ll (l : List D) : hIsi "list" [.list l] = some (.d (.bool true)) := by unfold hIsi isT; rfl
/-- a loop that goes through all its items -/
theorem forL_inv {g : STg} {body : SS} (P : List Sl → Prop) : ∀ {ds : List D} {S : List Sl}, (∀ d ∈ ds, ∀ S, P S → ∃ S1 S2, g d S = some S1 ∧ body S1 = some (.nx S2) ∧ P S2) → P S → ∃ S', forL g body ds S = some (.nx S') ∧ P S'
  | [], S, _, p => ⟨S, rfl, p⟩
  | d :: ds, S, h, p => by
    obtain ⟨S1, S2, e1, e2, p2⟩ := h d List.mem_cons_self S p
    obtain ⟨S', e3, p3⟩ := forL_inv P (ds := ds) (S := S2) (fun d hd => h d (List.mem_cons_of_mem _ hd)) p2
    exact ⟨S', by simp only [forL, e1, e2, e3], p3⟩
theorem rngD_mem {n : Nat} {d : D} (h : d ∈ rngD 0 n) : ∃ k : Nat, d = .int k ∧ k < n := by
  unfold rngD at h
  obtain ⟨k, hk, rfl⟩ := List.mem_map.mp h
  exact ⟨k, by rw [Int.zero_add], List.mem_range.mp hk⟩
theorem rngD_len (lo : Int) (n : Nat) : (rngD lo n).length = n := by unfold rngD; rw [List.length_map, List.length_range]
theorem small62_b {i : Int} (h1 : -1000000000 ≤ i) (h2 : i ≤ 1000000000) : small62 i = true := small62_iff.mpr (by omega)
section
variable {S : List Sl}
theorem row?_ap (j : Nat) (k : Int) : row? S j k = match own? S j with
  | some (b, .rows ls) => match ixN ls.length k with
    | some i => match ls[i]? with
      | some l => some (b, ls, i, l)
      | none => none
    | none => none
  | _ => none := rfl
theorem eRowM_ap (j : Nat) (k : Int) (fs : SEs) (g : Mt) : eRowM j k fs g S = match row? S j k with
  | some (b, ls, i, l) => match fs (S.set j .un) with
    | some (rs, S1) => if isUn S1[j]? then match g (.lst l) rs S1 with
      | some (d, .lst l') => some (.im d, putO S1 j b (.rows (ls.set i l')))
      | _ => none else none
    | none => none
  | none => none := rfl
theorem sRowSub_ap (j : Nat) (k : Int) (f h : SE) : sRowSub j k f h S = match row? S j k with
  | some (b, ls, i, l) => match sCons f (sCons h sNil) (S.set j .un) with
    | some ([r1, r2], S1) => if isUn S1[j]? then match mSet (.lst l) [r1, r2] S1 with
      | some (_, .lst l') => some (.nx (putO S1 j b (.rows (ls.set i l'))))
      | _ => none else none
    | _ => none
  | none => none := rfl
theorem eRowLen_ap (j : Nat) (k : Int) : eRowLen j k S = match row? S j k with
  | some (_, _, _, l) => some (.im (.int l.length), S)
  | none => none := rfl
theorem eRowNil_ap (j : Nat) (k : Int) : eRowNil j k S = match row? S j k with
  | some (_, _, _, l) => if SeqAt.shaped (.list l) then some (.im (.bool (PyData.eqv (.list l) (.list []))), S) else none
  | none => none := rfl
theorem isUn_un : isUn (some .un) = true := rfl
theorem ixN3_0 : ixN 3 0 = some 0 := rfl
theorem ixN3_1 : ixN 3 1 = some 1 := rfl
theorem ixN3_2 : ixN 3 2 = some 2 := rfl
theorem gRowsD_ap (rs : List Rs) : gRowsD S rs = match rowsOf rs with
  | some ls => if szOk ls.length then some (.fr (.rows ls)) else none
  | none => none := rfl
theorem rowsOf_nil : rowsOf [] = some [] := rfl
theorem rowsOf_cons (l : List D) (rs : List Rs) : rowsOf (.fr (.lst l) :: rs) = match rowsOf rs with
    | some ls => some (l :: ls)
    | none => none := rfl
theorem eMeth_ap (c : O → Bool) (i : Nat) (fs : SEs) (g : Mt) : eMeth c i fs g S = match S[i]? with
  | some (.ow o0) => if c o0 then match fs S with
    | some (rs, S1) => match S1[i]? with
      | some (.ow o) => match g o rs S1 with
        | some (d, o') => some (.im d, S1.set i (.ow o'))
        | none => none
      | _ => none
    | none => none else none
  | some (.mu o0) => if c o0 then match fs S with
    | some (rs, S1) => match S1[i]? with
      | some (.mu o) => match g o rs S1 with
        | some (d, o') => some (.im d, S1.set i (.mu o'))
        | none => none
      | _ => none
    | none => none else none
  | _ => none := rfl
theorem isL_l (l : List D) : isL (.lst l) = true := rfl
theorem isS_s (l : List Int) : isS (.set l) = true := rfl
theorem mAppend_ap (l : List D) (r : Rs) : mAppend (.lst l) [r] S = match r.fz with
    | some d => if szOk (l.length + 1) then some (.none, .lst (l ++ [d])) else none
    | none => none := rfl
theorem mExtend_ap (l : List D) (r : Rs) : mExtend (.lst l) [r] S = match ownL S r with
    | some m => if szOk (l.length + m.length) then some (.none, .lst (l ++ m)) else none
    | none => none := rfl
theorem ownL_fr (l : List D) : ownL S (.fr (.lst l)) = some l := rfl
theorem gIn_ap (neg : Bool) (rs : List Rs) : gIn neg S rs = match gOp (hIn neg) S rs with
  | some r => some r
  | none => match gInD neg S rs with
    | some r => some r
    | none => gInS neg S rs := rfl
theorem ownDct_fr (l : List (Key × D)) : ownDct S (.fr (.dct l)) = some l := rfl
theorem gRep_ap (a b : Rs) : gRep S [a, b] = match ownL S a, vw S b with
    | some x, some (.int k) => if repOk x.length k then some (.fr (.lst (List.replicate k.toNat x).flatten)) else none
    | _, _ => none := rfl
end
/-- a comprehension that changes no slot -/
theorem lcL_pure {i : Nat} {t : ST} {f : SE} {S : List Sl} {tst : D → Bool} {val : D → D} (hS : S[i]? = some .un) : ∀ {ds : List D}, (∀ d ∈ ds, t (S.set i (.im d)) = some (tst d, S.set i (.im d))) →
    (∀ d ∈ ds, tst d = true → f (S.set i (.im d)) = some (.im (val d), S.set i (.im d))) → lcL i t f ds S = some ((ds.filter tst).map val, S)
  | [], _, _ => rfl
  | d :: ds, ht, hf => by
    have ih := lcL_pure hS (ds := ds) (fun d hd => ht d (List.mem_cons_of_mem _ hd)) (fun d hd => hf d (List.mem_cons_of_mem _ hd))
    have e : (S.set i (.im d)).set i .un = S := by rw [List.set_set, set_same hS]
    have h1 := ht d List.mem_cons_self
    cases c : tst d with
    | true =>
      have h2 := hf d List.mem_cons_self c
      rw [c] at h1
      simp only [lcL, h1, h2, Rs.fz, e, ih, List.filter_cons, c, if_true, List.map_cons]
    | false =>
      rw [c] at h1
      simp only [lcL, h1, e, ih, List.filter_cons, c, Bool.false_eq_true, if_false]
/-- a comprehension that draws: each turn keeps P -/
theorem lcL_inv {i : Nat} {t : ST} {f : SE} (P : List Sl → Prop) (R : D → Prop) : ∀ {ds : List D} {S : List Sl}, (∀ d ∈ ds, ∀ S, P S → ∃ S2 x S3, t (S.set i (.im d)) = some (true, S2) ∧ f S2 = some (.im x, S3) ∧ R x ∧ P (S3.set i .un)) → P S →
    ∃ es S', lcL i t f ds S = some (es, S') ∧ P S' ∧ es.length = ds.length ∧ ∀ x ∈ es, R x
  | [], S, _, p => ⟨[], S, rfl, p, rfl, fun x h => by simp at h⟩
  | d :: ds, S, h, p => by
    obtain ⟨S2, x, S3, h1, h2, h3, p2⟩ := h d List.mem_cons_self S p
    obtain ⟨es, S', e, p3, l, r⟩ := lcL_inv P R (ds := ds) (S := S3.set i .un) (fun d hd => h d (List.mem_cons_of_mem _ hd)) p2
    refine ⟨x :: es, S', ?_, p3, by rw [List.length_cons, List.length_cons, l], fun y hy => ?_⟩
    · simp only [lcL, h1, h2, Rs.fz, e]
    · rcases List.mem_cons.mp hy with rfl | hy
      · exact h3
      · exact r y hy
/-- a loop that goes through all its items, with continue -/
theorem forL_inv2 {g : STg} {body : SS} (P : List Sl → Prop) : ∀ {ds : List D} {S : List Sl}, (∀ d ∈ ds, ∀ S, P S → ∃ S1 S2, g d S = some S1 ∧ (body S1 = some (.nx S2) ∨ body S1 = some (.ct S2)) ∧ P S2) → P S → ∃ S', forL g body ds S = some (.nx S') ∧ P S'
  | [], S, _, p => ⟨S, rfl, p⟩
  | d :: ds, S, h, p => by
    obtain ⟨S1, S2, e1, e2, p2⟩ := h d List.mem_cons_self S p
    obtain ⟨S', e3, p3⟩ := forL_inv2 P (ds := ds) (S := S2) (fun d hd => h d (List.mem_cons_of_mem _ hd)) p2
    rcases e2 with e2 | e2
    · exact ⟨S', by simp only [forL, e1, e2, e3], p3⟩
    · exact ⟨S', by simp only [forL, e1, e2, e3], p3⟩
/-- a loop that goes through all its items, with continue, counted -/
theorem forL_invN {g : STg} {body : SS} (P : Nat → List Sl → Prop) : ∀ {ds : List D} {k : Nat} {S : List Sl}, (∀ d ∈ ds, ∀ k S, P k S → ∃ S1 S2, g d S = some S1 ∧ (body S1 = some (.nx S2) ∨ body S1 = some (.ct S2)) ∧ P (k + 1) S2) → P k S → ∃ S', forL g body ds S = some (.nx S') ∧ P (k + ds.length) S'
  | [], k, S, _, p => ⟨S, rfl, p⟩
  | d :: ds, k, S, h, p => by
    obtain ⟨S1, S2, e1, e2, p2⟩ := h d List.mem_cons_self k S p
    obtain ⟨S', e3, p3⟩ := forL_invN P (ds := ds) (k := k + 1) (S := S2) (fun d hd => h d (List.mem_cons_of_mem _ hd)) p2
    have e : k + (d :: ds).length = k + 1 + ds.length := by rw [List.length_cons]; omega
    rw [e]
    rcases e2 with e2 | e2
    · exact ⟨S', by simp only [forL, e1, e2, e3], p3⟩
    · exact ⟨S', by simp only [forL, e1, e2, e3], p3⟩
/-- a comprehension that draws, counted -/
theorem lcL_invN {i : Nat} {f : SE} (P : Nat → List Sl → Prop) (R : D → Prop) : ∀ {ds : List D} {k : Nat} {S : List Sl}, (∀ d ∈ ds, ∀ k S, P k S → ∃ x S3, f (S.set i (.im d)) = some (.im x, S3) ∧ R x ∧ P (k + 1) (S3.set i .un)) → P k S →
    ∃ es S', lcL i tY f ds S = some (es, S') ∧ P (k + ds.length) S' ∧ es.length = ds.length ∧ ∀ x ∈ es, R x
  | [], k, S, _, p => ⟨[], S, rfl, p, rfl, fun x h => by simp at h⟩
  | d :: ds, k, S, h, p => by
    obtain ⟨x, S3, h2, h3, p2⟩ := h d List.mem_cons_self k S p
    obtain ⟨es, S', e, p3, l, r⟩ := lcL_invN P R (ds := ds) (k := k + 1) (S := S3.set i .un) (fun d hd => h d (List.mem_cons_of_mem _ hd)) p2
    refine ⟨x :: es, S', ?_, ?_, by rw [List.length_cons, List.length_cons, l], fun y hy => ?_⟩
    · simp only [lcL, tY, h2, Rs.fz, e]
    · have e : k + (d :: ds).length = k + 1 + ds.length := by rw [List.length_cons]; omega
      rw [e]; exact p3
    · rcases List.mem_cons.mp hy with rfl | hy
      · exact h3
      · exact r y hy
/-- a list or a tuple -/
def sq (b : Bool) (l : List D) : D := if b then .tuple l else .list l
theorem sq_t (l : List D) : sq true l = .tuple l := rfl
theorem sq_l (l : List D) : sq false l = .list l := rfl
theorem hIx_sq (b : Bool) (l : List D) (i : Int) : hIx [sq b l, .int i] = match atI l i with
  | some d => some (.d d)
  | none => none := by cases b <;> rfl
theorem hLen_sq (b : Bool) (l : List D) : hLen [sq b l] = some (.d (.int l.length)) := by cases b <;> rfl
theorem seqOf_sq (b : Bool) (l : List D) : seqOf (sq b l) = some l := by cases b <;> rfl
theorem hTuple_sq (b : Bool) (l : List D) : hTuple [sq b l] = some (.d (.tuple l)) := by cases b <;> rfl
section
variable {S : List Sl}
theorem gSorted_ap (rs : List Rs) : gSorted S rs = match gOp hSorted S rs with
  | some r => some r
  | none => match gSortD S rs with
    | some r => some r
    | none => gSortS S rs := rfl
theorem gSortD_ap (r : Rs) : gSortD S [r] = match ownDct S r with
    | some l => match keysI l with
      | some ks => if lt64 ks.length then some (.fr (.lst ((sortI ks).map PyData.int))) else none
      | none => none
    | none => none := rfl
theorem gSortS_ap (r : Rs) : gSortS S [r] = match ownSet S r with
    | some l => if lt64 l.length then some (.fr (.lst ((sortI l).map PyData.int))) else none
    | none => none := rfl
theorem ownSet_pl (i : Nat) : ownSet S (.pl i) = match S[i]? with
    | some (.ow (.set l)) => some l
    | some (.mu (.set l)) => some l
    | _ => none := rfl
theorem eDict1_ap (f h : SE) : eDict1 f h S = match sCons f (sCons h sNil) S with
  | some ([r1, r2], S') => match vw S' r1, r2.fz with
    | some kd, some d => match keyOf kd with
      | some k => some (.fr (.dct [(k, d)]), S')
      | none => none
    | _, _ => none
  | _ => none := rfl
theorem eChain_ap (p q : Int → Int → Bool) (f g h : SE) : eChain p q f g h S = match sCons f (sCons g sNil) S with
  | some (rs, S1) => match vws S1 rs with
    | some [.int a, .int b] => if p a b then match h S1 with
      | some (r3, S2) => match vw S2 r3 with
        | some (.int c) => some (.im (.bool (q b c)), S2)
        | _ => none
      | none => none else some (.im (.bool false), S1)
    | _ => none
  | none => none := rfl
theorem gInD_ap (neg : Bool) (a b : Rs) : gInD neg S [a, b] = match vw S a, ownDct S b with
    | some d, some l => match keyOf d with
      | some k => some (.im (.bool (neg != (lookK l k).isSome)))
      | none => none
    | _, _ => none := rfl
theorem gInS_ap (neg : Bool) (a b : Rs) : gInS neg S [a, b] = match vw S a, ownSet S b with
    | some (.int i), some l => some (.im (.bool (neg != decide (i ∈ l))))
    | _, _ => none := rfl
theorem mPop_ap (l : List D) : mPop (.lst l) [] S = match l[l.length - 1]? with
    | some d => some (d, .lst l.dropLast)
    | none => none := rfl
theorem mAdd_ap (l : List Int) (r : Rs) : mAdd (.set l) [r] S = match vw S r with
    | some (.int k) => if decide (l.length + 1 ≤ 1000) then some (.none, .set (if k ∈ l then l else l ++ [k])) else none
    | _ => none := rfl
theorem eSet0_ap : eSet0 S = some (.fr (.set []), S) := rfl
theorem sWhile_ap (n : Nat) (t : ST) (b : SS) : sWhile n t b S = whileL t b n S := rfl
end
end Fl
/-! Fl: methods of values that change nothing (index), tuple(range(n)), data compared, min of data. -/
namespace Fl
open PySem L2 PyProof.Rows

/-! ### methods of values -/
def eM2 (c : D → Bool) (g : Op) (f : SE) (fs : SEs) : SE := fun S => match f S with
  | some (r, S1) => match vw S1 r with
    | some d => if c d then match fs S1 with
      | some (rs, S2) => match g S2 (r :: rs) with
        | some r' => some (r', S2)
        | none => none
      | none => none else none
    | none => none
  | none => none
def isLd : D → Bool
  | .list _ => true
  | _ => false
abbrev RVC (r : V → List V → Hp → VK → Prop) : List V → Hp → VK → Prop := fun vs H Q => ∃ x xs, vs = x :: xs ∧ r x xs H Q
theorem t_m2 {w : World} {K : PySem.W.Frag} {σ : L2.St} {H : Hp} {c : D → Bool} {g : Op} {f : SE} {fs : SEs} {P : V → Hp → Prop} {R : V → List V → Hp → VK → Prop} {Q : VK} (o : OpOk w K (RVC R) g) (ty : ∀ (B H : Hp) x d, Vw K B H x d → c d = true → P x H)
    (h : Fl.T w K (eM2 c g f fs) σ H Q) : Fl.T w K f σ H fun x H1 => P x H1 ∧ Ta w K fs σ H1 fun xs H2 => R x xs H2 Q := by
  obtain ⟨S, A, B, r, S', sr, ok, e, q⟩ := h
  unfold eM2 at e
  split at e
  · rename_i r1 S1 e1
    split at e
    · rename_i d ed
      split at e
      · rename_i hc
        split at e
        · rename_i rs S2 e2
          split at e
          · rename_i r' eg
            have e := Option.some.inj e
            cases e
            refine ⟨S, A, B, r1, S1, sr, ok, e1, fun v H1 ⟨A1, B1, F1, g1, x1⟩ => ⟨ty B1 H1 v d (vw_ok g1.sr x1 g1.ok.sub ed) hc, ?_⟩⟩
            refine ⟨S1, A1, B1, rs, _, g1.sr, g1.ok0, e2, fun vs H2 ⟨A2, B2, F2, g2, x2⟩ => ?_⟩
            obtain ⟨h1, h2, h3⟩ := g1.then_ x1.tracked g2
            obtain ⟨x, xs, ee, z⟩ := o σ _ A2 B2 H2 (v :: vs) (r1 :: rs) (F1 ++ F2) r Q h1.sr (.cons (x1.step h2 h3) x2) h1.ok eg fun v' H' B' F' x s k st => q v' H' ⟨A2, B', F', ⟨s, k, h1.st.trans st, h1.mu⟩, x⟩
            cases ee
            exact z
          · cases e
        · cases e
      · cases e
    · cases e
  · cases e
/-- the place of the first equal one -/
def fnd (d : D) : List D → Nat → Option Nat
  | [], _ => none
  | z :: l, k => if PyData.eqv z d then some k else fnd d l (k + 1)
theorem fnd_ok {d : D} : ∀ {l : List D} {k j : Nat}, fnd d l k = some j → k ≤ j ∧ (∃ z, l[j - k]? = some z ∧ PyData.eqv z d = true) ∧ ∀ (m : Nat) (z : D), m < j - k → l[m]? = some z → PyData.eqv z d = false
  | [], k, j, h => by cases h
  | z :: l, k, j, h => by
    unfold fnd at h
    split at h
    · rename_i hz
      cases h
      refine ⟨Nat.le_refl _, ⟨z, by simp, hz⟩, fun m y hm => by omega⟩
    · rename_i hz
      obtain ⟨a, ⟨y, hy, hy2⟩, c⟩ := fnd_ok h
      have e : j - k = (j - (k + 1)) + 1 := by omega
      refine ⟨by omega, ⟨y, by rw [e]; simpa using hy, hy2⟩, fun m y hm hy => ?_⟩
      cases m with
      | zero =>
        simp at hy
        subst hy
        simpa using hz
      | succ m => exact c m y (by omega) (by simpa using hy)
def hIndex : List D → Option Res
  | [.list l, d] => if SeqAt.shaped d && SeqAt.shaped (.list l) then match fnd d l 0 with
    | some j => some (.d (.int (j : Nat)))
    | none => none else none
  | _ => none
section
variable {w : World} {K : PySem.W.Frag}
theorem ok_index : OpOk w K (RVC (rIndexD K)) (gOp hIndex) := gOp_ok fun B H vs ds res Q sb v e p => by
  unfold hIndex at e
  split at e
  · rename_i l d
    split at e
    · rename_i hs
      rw [Bool.and_eq_true] at hs
      split at e
      · rename_i j ej
        cases e
        obtain ⟨x, y, rfl, vx, vy⟩ := vws2 v
        obtain ⟨_, ⟨z, hz, hz2⟩, hno⟩ := fnd_ok ej
        rw [Nat.sub_zero] at hz hno
        cases vx with
        | @lst a us _ h r =>
          exact ⟨_, _, rfl, a, y, d, l, j, z, rfl, rfl, .lst h (dps_mono sb r), vy.dp sb, hs.2, hs.1, hz, hz2, fun m z' hm hz' => hno m z' hm hz', p.val _ _ rfl (.int _)⟩
      · cases e
    · cases e
  · cases e
theorem vw_list {B H : Hp} {x : V} {d : D} (h : Vw K B H x d) (e : isLd d = true) : tyV K "list" x H := by
  cases h with
  | lst h r => exact .inl ⟨rfl, _, h⟩
  | non => cases e
  | bl b => cases e
  | int i => cases e
  | str s => cases e
  | tup h r => cases e
end
section
variable {X : Cx} {o e : Expr} {es : List Expr} {apos cpos : Pos} {f : SE} {fs : SEs}
theorem e_index (hu : X.A.units + 65 < cLine) (ho : E X o f) (ha : Es X (e :: es) fs)
    (hbase : attributeBase o "index" X.env (eval o X.env) = eval o X.env := by rfl)
    (hfew : ((backTo cpos (starEach (e :: es) X.env)).all (fun x => !x.1) && (backToKw cpos (keywordEach [] X.env)).all (fun x => x.1.isSome)
      && decide ((e :: es).length + ([] : List Keyword).length + (if ([] : List Keyword).isEmpty then 0 else 1) < 30)) = true := by rfl)
    (hline : (apos.endLine == cpos.line) = true := by rfl) (hs : starEach (e :: es) X.env = (false, eval e X.env) :: starEach es X.env := by rfl) (hplain : (backTo cpos (starEach es X.env)).any (·.1) = false := by rfl) :
    E X (.Call (.Attribute o "index" apos) (e :: es) [] cpos) (eM2 isLd (gOp hIndex) f fs) :=
  pe_weak (pe_bm PySem.F.plainAttrs_list PySem.F.slot_list_index PySem.F.type_list_index (mt_indexD hu) ho ha hbase hfew hline hs hplain) fun σ H Q z => t_m2 ok_index (fun B H x d h c => vw_list h c) z
end
/-! ### tuple(range(n)) -/
section
variable {X : Cx} {a b : Expr} {f g : SE} {p p2 pos pos2 : Pos}
theorem e_tupR1 (hc : X.calm = true) (hl : Gl X "tuple") (ml : X.mg "tuple" = none) (hr : Gl X "range") (mr : X.mg "range" = none) (ha : E X a f) (na : starEach [a] X.env = (false, eval a X.env) :: starEach [] X.env := by rfl)
    (nb : starEach [.Call (.Name "range" p2) [a] [] pos2] X.env = (false, eval (.Call (.Name "range" p2) [a] [] pos2) X.env) :: starEach [] X.env := by rfl) :
    E X (.Call (.Name "tuple" p) [.Call (.Name "range" p2) [a] [] pos2] [] pos) (eTR1 f) := pe_weak (pe_tupRg hc hl ml (prg_1 hr mr ha na) nb) fun σ H Q z => by
  obtain ⟨S, A, B, r, S', sr, ok, e, q⟩ := z
  unfold eTR1 at e
  split at e
  · rename_i r1 S1 e1
    split at e
    · rename_i n e2
      split at e
      · rename_i hs
        cases e
        rw [Bool.and_eq_true] at hs
        refine ⟨S, A, B, r1, _, sr, ok, e1, fun v H1 ⟨A1, B1, F, g1, x1⟩ => ?_⟩
        have vx := vw_ok g1.sr x1 g1.ok.sub e2
        cases vx
        refine ⟨n, rfl, rgOk_of (by decide) hs.1 (by rw [Int.sub_zero]; exact hs.2), fun t ht => ?_⟩
        obtain ⟨k2, s2⟩ := step_newB (o := .tup (rgV 0 n)) g1.ok.right ht g1.sr.tracked
        have dd : DpAll X.K B1 (rgV 0 n) (rngD 0 n.toNat) := by
          unfold rgV rngD
          rw [Int.sub_zero]
          exact dps_rg 0 _
        refine q _ _ ⟨A1, _, [], ⟨g1.sr.step s2.bx fun c hc o h => ?_, k2, (g1.st.trans (Step.refl.sub fun c hc => List.mem_append_right _ hc)).trans s2, g1.mu⟩, .im (.tup (.inl (.inl upd_same)) (dps_mono s2.bx dd))⟩
        rw [upd_ne (ne_of_none h ht)]; exact h
      · cases e
    · cases e
  · cases e
end
/-! ### data compared -/
def nn : D → Bool
  | .none => false
  | _ => true
theorem nn_ne {d : D} (h : nn d = true) : d ≠ .none := fun e => by subst e; cases h
def cmpOk (d e : D) : Bool := PySem.W.alike d e && nn d && Nat.ble d.depth 60
def hLtD : List D → Option Res
  | [d, e] => if cmpOk d e then some (.d (.bool (PySem.W.dataLt d e))) else none
  | _ => none
def hLeD : List D → Option Res
  | [d, e] => if cmpOk d e then some (.d (.bool (!PySem.W.dataLt e d))) else none
  | _ => none
def rLtD (K : PySem.W.Frag) : R2 := fun x y H Q => ∃ d e, Dp K H x d ∧ Dp K H y e ∧ cmpOk d e = true ∧ Q (.bl (PySem.W.dataLt d e)) H
def rLeD (K : PySem.W.Frag) : R2 := fun x y H Q => ∃ d e, Dp K H x d ∧ Dp K H y e ∧ cmpOk d e = true ∧ Q (.bl (!PySem.W.dataLt e d)) H
theorem cmpOk_p {d e : D} (h : cmpOk d e = true) : PySem.W.alike d e = true ∧ d ≠ .none ∧ d.depth ≤ 60 := by
  unfold cmpOk at h
  rw [Bool.and_eq_true, Bool.and_eq_true, Nat.ble_eq] at h
  exact ⟨h.1.1, nn_ne h.1.2, h.2⟩
section
variable {X : Cx}
theorem op_ltD (hu : X.A.units + 65 < cLine) : OpR X (compareOp .Lt) (rLtD X.K) := by
  intro pins s σ H x y v u Q I rx ry h
  obtain ⟨d, e, hd, he, hk, q⟩ := h
  obtain ⟨k1, k2, k3⟩ := cmpOk_p hk
  obtain ⟨as, r1⟩ := Dp.reads I d x v hd rx
  obtain ⟨bs, r2⟩ := Dp.reads I e y u he ry
  exact PySem.W.lt_data r1 r2 k1 k2 (by have := Nat.min_le_left d.depth e.depth; omega) ⟨.bl _, H, I, rfl, q⟩
theorem op_leD (hu : X.A.units + 65 < cLine) : OpR X (compareOp .LtE) (rLeD X.K) := by
  intro pins s σ H x y v u Q I rx ry h
  obtain ⟨d, e, hd, he, hk, q⟩ := h
  obtain ⟨k1, k2, k3⟩ := cmpOk_p hk
  obtain ⟨as, r1⟩ := Dp.reads I d x v hd rx
  obtain ⟨bs, r2⟩ := Dp.reads I e y u he ry
  exact PySem.W.le_data r1 r2 k1 k2 (by have := Nat.min_le_left d.depth e.depth; omega) ⟨.bl _, H, I, rfl, q⟩
end
section
variable {w : World} {K : PySem.W.Frag}
theorem ok_ltD : OpOk w K (RV2 (rLtD K)) (gOp hLtD) := gOp_ok fun B H vs ds res Q sb v e p => by
  unfold hLtD at e
  split at e
  · split at e
    · rename_i hs
      cases e
      obtain ⟨x, y, rfl, vx, vy⟩ := vws2 v
      exact ⟨_, _, rfl, _, _, vx.dp sb, vy.dp sb, hs, p.val _ _ rfl (.bl _)⟩
    · cases e
  · cases e
theorem ok_leD : OpOk w K (RV2 (rLeD K)) (gOp hLeD) := gOp_ok fun B H vs ds res Q sb v e p => by
  unfold hLeD at e
  split at e
  · split at e
    · rename_i hs
      cases e
      obtain ⟨x, y, rfl, vx, vy⟩ := vws2 v
      exact ⟨_, _, rfl, _, _, vx.dp sb, vy.dp sb, hs, p.val _ _ rfl (.bl _)⟩
    · cases e
  · cases e
end
/-! ### min(list of data) -/
def allAl (l : List D) : Bool := l.all (fun x => l.all (PySem.W.alike x)) && l.all nn && Nat.ble (PyData.depthAll l) 60
theorem allAl_p {l : List D} (h : allAl l = true) : PySem.W.AlikeAll l ∧ PyData.depthAll l ≤ 60 := by
  unfold allAl at h
  rw [Bool.and_eq_true, Bool.and_eq_true, Nat.ble_eq, List.all_eq_true, List.all_eq_true] at h
  refine ⟨⟨fun x hx y hy => ?_, fun x hx => nn_ne (h.1.2 x hx)⟩, h.2⟩
  have := h.1.1 x hx
  rw [List.all_eq_true] at this
  exact this y hy
def hMinL : List D → Option Res
  | [.list (x :: xs)] => if allAl (x :: xs) then some (.d (PySem.W.minD x xs)) else none
  | _ => none
def rMinL (K : PySem.W.Frag) : List V → Hp → VK → Prop := fun vs H Q => ∃ (a : Addr) (us : List V) (x : D) (xs : List D), vs = [V.ref a] ∧ SqL K H a us ∧ DpAll K H us (x :: xs) ∧ allAl (x :: xs) = true ∧ ∀ (i : Nat) (v : V), us[i]? = some v → (x :: xs)[i]? = some (PySem.W.minD x xs) → Q v H
theorem minD_mem : ∀ (x : D) (xs : List D), PySem.W.minD x xs ∈ x :: xs
  | x, [] => List.mem_cons_self
  | x, y :: ys => by
    show List.foldl _ (if _ then y else x) ys ∈ _
    split
    · exact List.mem_cons_of_mem _ (minD_mem y ys)
    · rcases List.mem_cons.mp (minD_mem x ys) with e | e
      · exact List.mem_cons.mpr (.inl e)
      · exact List.mem_cons_of_mem _ (List.mem_cons_of_mem _ e)
theorem cr_minL {X : Cx} (hc : X.calm = true) (hu : X.A.units + 65 < cLine) : CallR X (.builtin "min") (rMinL X.K) := by
  intro pins s σ H vs us Q I r h
  obtain ⟨a, ws, x, xs, rfl, hs, hd, hal, q⟩ := h
  obtain ⟨al, dp⟩ := allAl_p hal
  obtain ⟨its, rv, hl, _⟩ := I.list hs
  rw [Vals.ref1 r]
  obtain ⟨as, hr⟩ := Dp.readsAll I (x :: xs) ws its hd rv
  refine PySem.W.min_list_data (I.ok.hd hc) hl.isList (show ReadsAll s.heap its.toArray.toList (x :: xs) as from by rw [List.toList_toArray]; exact hr) al (by omega) fun i u h' tk bs hi hm hk => ?_
  have hi' : its[i]? = some u := by simpa using hi
  have hlt : i < ws.length := by
    have := (List.getElem?_eq_some_iff.mp hi').1
    rw [rv.length]; exact this
  obtain ⟨u', hu', rel⟩ := rv.get (List.getElem?_eq_getElem hlt)
  rw [hi'] at hu'
  cases hu'
  obtain ⟨d, hd', dd⟩ := dps_get' hd (List.getElem?_eq_getElem hlt)
  obtain ⟨cs, rd⟩ := Dp.reads I d _ u dd rel
  have md : PySem.W.minD x xs ∈ x :: xs := by
    exact minD_mem x xs
  have ee := PySem.W.alike_unique d (PySem.W.minD x xs) u cs bs (al.1 d (List.mem_of_getElem? hd') _ md) (PySem.W.reads_keeps hk rd) hm
  exact ⟨ws[i], H, I.kept hk, rel, q i _ (List.getElem?_eq_getElem hlt) (ee ▸ hd')⟩
theorem ok_minL {w : World} {K : PySem.W.Frag} : OpOk w K (rMinL K) (gOp hMinL) := gOp_ok fun B H vs ds res Q sb v e p => by
  unfold hMinL at e
  split at e
  · rename_i x xs
    split at e
    · rename_i hs
      cases e
      obtain ⟨y, rfl, vy⟩ := vws1 v
      cases vy with
      | @lst a us _ h r =>
        refine ⟨a, us, x, xs, rfl, h, dps_mono sb r, hs, fun i v hv hx => ?_⟩
        obtain ⟨v', h1, h2⟩ := dps_get r hx
        rw [hv] at h1
        cases h1
        exact p.val _ _ rfl h2
    · cases e
  · cases e
end Fl
/-! Fl: enumerate(tuple). -/
namespace Fl
open PySem L2 PyProof.Rows
open AutoSeq1 (wpAny_loadPart')

theorem enum_newT (l : Addr) (items : Array Value) (n : Nat) (dct : Option Addr) (sl : Array (Option Value)) :
    Meets (Builtin.«enumerate.__new__» ⟨[.type "enumerate", .ref l], []⟩) (fun _ R s => s.heap.get? l = some { cls := .type "tuple", dict := dct, data := .seq items n, slots := sl } ∧
      R (.ok (.ret (.ref (s.heap.push { cls := .type "tuple_iterator", data := .fields #[.ref l, .int 0 0] }).objs.size)))
        { s with heap := (s.heap.push { cls := .type "tuple_iterator", data := .fields #[.ref l, .int 0 0] }).push { cls := .type "enumerate", data := .fields #[.none, .bool false, .ref s.heap.objs.size, rawInt 0, .none, .none] } }) :=
  .of_wp fun prog w A R s h => by
    obtain ⟨hp, g, d, tk, os⟩ := s; obtain ⟨hl, h⟩ := h
    have hsub := sub_enumerate
    have hL : Heap.IsTuple (Shared.heap ⟨hp, g, d, tk, os⟩) l items := ⟨_, hl, rfl, n, rfl⟩
    wp_walk using wpAny_loadPart' hl
    refine wpAny_stack_any fun st => wpAny_pure ?_
    split
    · rename_i c _ _ _ _ _
      cases (c == Value.type "enumerate")
      · wp_walk using wpAny_loadPart' hl, wpAny_pyIter_tuple hL
        exact ⟨_, rfl, h⟩
      · wp_walk using wpAny_loadPart' hl, wpAny_pyIter_tuple hL
        exact ⟨_, rfl, h⟩
    · wp_walk using wpAny_loadPart' hl, wpAny_pyIter_tuple hL
      exact ⟨_, rfl, h⟩
section
variable {prog : Program} {w : World} {A : Around} {E : Value → Shared → Prop} {s : Shared}
theorem call_enumT {l : Addr} {items : Array Value} {Q : Value → Shared → Prop} (hL : s.heap.IsTuple l items)
    (h : ∀ h', IsEnum h' (s.heap.objs.size + 1) s.heap.objs.size 0 .none → h'.IsTupleIter s.heap.objs.size l 0 → h'.objs.size = s.heap.objs.size + 2 →
      (∀ b o, s.heap.get? b = some o → h'.get? b = some o) → Q (.ref (s.heap.objs.size + 1)) { s with heap := h' }) :
    wpAny (model prog w) A (call (.type "enumerate") [.ref l]) Q E s := by
  obtain ⟨⟨c, dct, dt, sl⟩, hl, hc, n, hd⟩ := hL
  replace hc : c = .type "tuple" := hc
  replace hd : dt = .seq items n := hd
  subst hc hd
  refine callType_new F.called_enumerate (by decide) (F.typeCall_enumerate_1 _) (F.newCall_enumerate_1 _) (fun obj => F.args_object_init_2 obj _) F.entry_enumerate_new
    (enum_newT l items n dct sl) ⟨hl, ?_⟩
  have hz : (s.heap.push { cls := .type "tuple_iterator", data := .fields #[.ref l, .int 0 0] }).objs.size = s.heap.objs.size + 1 := Heap.size_push ..
  show _ ∧ _
  rw [hz]
  have he : IsEnum ((s.heap.push { cls := .type "tuple_iterator", data := .fields #[.ref l, .int 0 0] }).push
      { cls := .type "enumerate", data := .fields #[.none, .bool false, .ref s.heap.objs.size, rawInt 0, .none, .none] }) (s.heap.objs.size + 1) s.heap.objs.size 0 .none := by
    have := Heap.get?_push_size (s.heap.push { cls := .type "tuple_iterator", data := .fields #[.ref l, .int 0 0] })
      (o := { cls := .type "enumerate", data := .fields #[.none, .bool false, .ref s.heap.objs.size, rawInt 0, .none, .none] }) rfl
    rw [hz] at this; exact this
  refine ⟨⟨_, he, rfl⟩, h _ he ⟨_, Heap.get?_push_of_some _ (Heap.get?_push_size _ rfl), rfl, rfl⟩ (by rw [Heap.size_push, hz]) fun b o x => Heap.get?_push_of_some _ (Heap.get?_push_of_some _ x)⟩
end
theorem enumT_end {prog : Program} {w : World} {A : Around} {E : Value → Shared → Prop} {s : Shared} {e it l : Addr} {j : Int} {i : Nat} {items : Array Value} {old : Value} {Q : Option Value → Shared → Prop} (hh : A.handled = none)
    (he : IsEnum s.heap e it j old) (hit : s.heap.IsTupleIter it l i) (hl : s.heap.IsTuple l items) (hx : items[i]? = none)
    (hQ : ∀ h', Heap.ExtBut it s.heap h' → Q none { s with heap := h' }) : wpAny (model prog w) A (pyNext (.ref e)) Q E s := by
  have hT : s.TypeIs (.ref e) "enumerate" := ⟨_, he, rfl⟩
  unfold pyNext
  refine wpAny_bind (wpAny_attempt (wpAny_callSpecial?_slot (name := Str.ofString "__next__") hT F.slot_enumerate_next
    (wpAny_call_entry F.slot_enumerate_next hT F.entry_enumerate_next ?_ (F.args_enumerate_next_1 _))))
  show wpAny _ _ (field (.ref e) 2 >>= _) _ _ _
  refine wpAny_bind (wpAny_field he rfl (x := .ref it) rfl ?_)
  refine wpAny_bind (wpAny_nextOf_tuple_end hh hit hl hx fun h' x he' hx' => ?_)
  obtain ⟨o, ho, hc⟩ := hx'
  refine wpAny_bind (wpAny_isInstance (T := "StopIteration") (b := true) ⟨o, ho, hc⟩ isSubtype_stop ?_)
  exact wpAny_pure (hQ _ he')
/-- the tuple at a, each item in a new pair -/
def IteT (K : PySem.W.Frag) (a : Addr) : It :=
  ⟨fun i H => ∃ (xs : List V) (x : V), SqT K H a xs ∧ xs[i]? = some x, fun i H v H' => ∃ T x, v = .ref T ∧ H T = none ∧ H' = upd H T (.tup [.int (i : Nat), x]) ∧ ∀ xs, SqT K H a xs → xs[i]? = some x, fun i H => ∃ xs : List V, SqT K H a xs ∧ xs.length ≤ i⟩
theorem apart {h : Heap} {a b : Addr} {c d : String} {P Q : Obj → Prop} (ha : ∃ o, h.get? a = some o ∧ o.cls = .type c ∧ P o) (hb : ∃ o, h.get? b = some o ∧ o.cls = .type d ∧ Q o) (hcd : c ≠ d) : a ≠ b := fun e => by
  obtain ⟨o, e1, c1, _⟩ := ha
  obtain ⟨o', e2, c2, _⟩ := hb
  rw [e, e2] at e1
  cases e1
  rw [c1] at c2
  injection c2 with z
  exact hcd z
theorem turn_enumT {P : Program} {w : World} {K : PySem.W.Frag} {elts : List Expr} {kk : Nat} {tpos : Pos} (a e it : Addr) :
    Turn P w K (.Tuple elts kk tpos) (IteT K a) [e, it] e (fun i h => (∃ old, IsEnum h e it ((i : Nat) : Int) old) ∧ h.IsTupleIter it a i ∧ e ≠ it) where
  mem := by simp
  obj := fun i h st b hb => by
    obtain ⟨⟨old, he⟩, ⟨o, ho, hc, hd⟩, _⟩ := st
    have e' : b = e ∨ b = it := by simpa using hb
    rcases e' with z | z
    · rw [z]; exact ⟨_, he, fun v q => nomatch q⟩
    · rw [z]; exact ⟨o, ho, fun v q => by rw [hd] at q; cases q⟩
  keep := fun i h h' st k => let ⟨⟨old, he⟩, hi, hne⟩ := st; ⟨⟨old, k e (by simp) _ he⟩, hi.at fun o q => k it (by simp) o q, hne⟩
  item := by
    intro X hP hw hK hc i pins s σ H E I hf st hg
    subst hP hw hK
    obtain ⟨⟨old, he⟩, hit, hne⟩ := st
    obtain ⟨xs, x, hq, hx⟩ := hg
    obtain ⟨its, rv, p, hz⟩ := I.tuple hq
    obtain ⟨u, hu, ru⟩ := rv.get hx
    have hel : e < s.heap.objs.size := Heap.lt_size he
    have hil : it < s.heap.objs.size := by obtain ⟨_, q, _⟩ := hit; exact Heap.lt_size q
    have ai : a ≠ it := apart p hit (by decide)
    have ae : a ≠ e := apart p (⟨_, he, rfl, trivial⟩ : ∃ o, s.heap.get? e = some o ∧ o.cls = .type "enumerate" ∧ True) (by decide)
    have hlt : i < its.toArray.size := by
      have := (List.getElem?_eq_some_iff.mp hu).1
      simpa using this
    refine wpAny_pyNext_enum_itemD (Draws.tuple (A := X.A.in1) (I.ok.hd hc) it a ai its.toArray) he ⟨hit, p⟩ hlt hne (by simp [hne, Ne.symm ae]) fun x' h' tk hx' ho hst hT hsz hk => ?_
    have ex : x' = u := by
      have h2 : its[i]? = some x' := by simpa using hx'
      rw [hu] at h2
      exact (Option.some.inj h2).symm
    subst ex
    obtain ⟨hit', _⟩ := hst
    refine ⟨_, rfl, wpAny_letOwnedTupleGo_enum (s := { s with heap := h', toks := tk + 1 }) ho fun h'' he' sb => ?_⟩
    have hT2 : h''.get? s.heap.objs.size = some { cls := .type "tuple", data := .seq #[.int i tk, x'] } := (sb.2 _ (Nat.ne_of_gt hel)).trans hT
    have new : ObjOk X.prog X.w (upd H s.heap.objs.size (.tup [.int (i : Nat), x])) h'' s.heap.objs.size (.tup [.int (i : Nat), x]) :=
      ⟨by show 2 ≤ sizeLine; decide, [.int i tk, x'], .cons ⟨_, rfl⟩ (.cons ru .nil), ⟨_, hT2, rfl, _, rfl⟩⟩
    have I1 : Inv X pins σ (upd H s.heap.objs.size (.tup [.int (i : Nat), x])) { s with heap := h'', toks := tk + 1 } :=
      I.turnedNew (ch := [e, it]) (fun b ob hb q => (sb.2 b (fun z => hb (by simp [z]))).trans (hk b ob (fun z => hb (by simp [z])) (fun z => hb (by simp [z])) q)) hf (Nat.le_refl _) new
    refine ⟨.ref s.heap.objs.size, _, I1, rfl, ⟨_, x, rfl, I.hok.fresh (Nat.le_refl _), rfl, fun ys hy => by rw [I.tuple_inj hy hq]; exact hx⟩, ⟨⟨x', ?_⟩, hit'.at fun o q => (sb.2 it (Ne.symm hne)).trans q, hne⟩, fun b hb => ?_⟩
    · have e1 : ((i + 1 : Nat) : Int) = (i : Int) + 1 := by omega
      rw [e1]; exact he'
    · have hb' : b < s.heap.objs.size := by
        have e' : b = e ∨ b = it := by simpa using hb
        rcases e' with z | z
        · rw [z]; exact hel
        · rw [z]; exact hil
      rw [upd_ne (Nat.ne_of_lt hb')]
      exact (hf b hb).1
  done := by
    intro X hP hw hK hc i pins s σ H E I hf st hg
    subst hP hw hK
    obtain ⟨⟨old, he⟩, hit, hne⟩ := st
    obtain ⟨xs, hq, hx⟩ := hg
    obtain ⟨its, rv, p, hz⟩ := I.tuple hq
    obtain ⟨f0, f1, f2, f3, f4, f5⟩ := hf it (by simp)
    have hl := rv.length
    exact enumT_end (I.ok.hd hc) he hit (show s.heap.IsTuple a its.toArray from p) (by simp; omega) fun h' eb => ⟨rfl, I.turned (t' := s.toks) (fun b o hb q => eb b o hb q) f0 f1 f3 f4 f5⟩
  self := fun A i s Q E st h => let ⟨⟨_, he⟩, _⟩ := st; wpAny_pyIter_enum he h
def iEnumT (K : PySem.W.Frag) (ta : TA) : TI := fun σ H R => ta σ H fun vs H1 => ∃ a xs, vs = [.ref a] ∧ SqT K H1 a xs ∧ R (IteT K a) H1
theorem pi_enumT {X : Cx} {e : Expr} {ta : TA} {p pos tpos : Pos} {elts : List Expr} {kk : Nat} (hg : Gl X "enumerate") (hm : X.mg "enumerate" = none) (ha : PA X [e] ta) (hs : starEach [e] X.env = [(false, eval e X.env)] := by rfl) :
    PI X (.Tuple elts kk tpos) (.Call (.Name "enumerate" p) [e] [] pos) (iEnumT X.K ta) := by
  refine ⟨fun pins s σ H R I h => ?_⟩
  refine Call_ (ld_blt I hg hm boot_enumerate (PyProof.Rows.callWith_type1 (thn (ha.run pos pins s σ H _ I h) fun us s1 ⟨vs, H1, I1, r1, q1⟩ => ?_) hs rfl))
  obtain ⟨a, xs, ex, hq, q⟩ := q1
  subst ex
  cases r1 with
  | cons r rr =>
    cases rr
    cases r
    obtain ⟨its, rv, p', hz⟩ := I1.tuple hq
    refine call_enumT (show s1.heap.IsTuple a its.toArray from p') fun h' he hit hsz hk => wpAny_pyIter_enum he ?_
    have I2 : Inv X pins σ H1 { s1 with heap := h' } := I1.kept (t' := s1.toks) hk
    refine ⟨s1.heap.objs.size + 1, [s1.heap.objs.size + 1, s1.heap.objs.size], _, _, H1, rfl, I2, turn_enumT a (s1.heap.objs.size + 1) s1.heap.objs.size, ⟨⟨.none, he⟩, hit, Nat.succ_ne_self _⟩, fun b hb => ?_, q⟩
    have e' : b = s1.heap.objs.size + 1 ∨ b = s1.heap.objs.size := by simpa using hb
    have hle : s1.heap.objs.size ≤ b := by
      rcases e' with z | z
      · rw [z]; exact Nat.le_add_right _ _
      · rw [z]; exact Nat.le_refl _
    exact I1.fpOk hle (I1.hok.fresh hle)
section
variable {K : PySem.W.Frag} {a : Addr} {xs : List V}
theorem walk_enumT : Walk (IteT K a) xs.length (fun H => SqT K H a xs) (YPair (fun i => some (.int (i : Nat))) (fun i => xs[i]?)) := by
  refine ⟨fun i _ hi q => ⟨xs, xs[i], q, by simp [hi]⟩, fun _ q => ⟨xs, q, Nat.le_refl _⟩, fun i H v H' _ q y => ?_⟩
  obtain ⟨T, x, h1, h2, h3, h4⟩ := y
  exact ⟨T, .int (i : Nat), x, h1, h2, h3, rfl, h4 xs q⟩
end
def itEnumX (f : SE) : SI := fun S => match f S with
  | some (r, S') => match r.fz with
    | some (.list l) => some (enumD 0 l, S')
    | some (.tuple l) => some (enumD 0 l, S')
    | _ => none
  | none => none
section
variable {X : Cx} {e : Expr} {f : SE} {pos p tpos : Pos} {elts : List Expr} {kk : Nat}
theorem i_enumX (hg : Gl X "enumerate") (hm : X.mg "enumerate" = none) (ha : E X e f) (hs : starEach [e] X.env = [(false, eval e X.env)] := by rfl) (hq : starEach [e] X.env = (false, eval e X.env) :: starEach [] X.env := by rfl) :
    Iw X (.Tuple elts kk tpos) (.Call (.Name "enumerate" p) [e] [] pos) (itEnumX f) := pi_weak (pi_or2 (pi_enum hg hm (es_cons ha es_nil hq) hs) (pi_enumT hg hm (es_cons ha es_nil hq) hs)) fun σ H R ⟨S, A, B, ds, S', sr, ok, e, q⟩ => by
  unfold itEnumX at e
  split at e
  · rename_i r S1 e1
    split at e
    · rename_i l er
      cases e
      refine .inl ⟨S, A, B, [r], S', sr, ok, by unfold sCons; rw [e1]; rfl, fun vs H1 ⟨A1, B1, F1, g1, x1⟩ => ?_⟩
      obtain ⟨y, rfl, xr⟩ := rrs1 x1
      obtain ⟨f1, f2⟩ := step_freeze g1.ok
      have dd := xr.data (B' := ov B1 H1 F1) (ov_same g1.ok.sub) (fun a ha => ov_in ha) er
      cases dd with
      | @lst a vs _ h r =>
        refine ⟨a, vs, rfl, sql_mono f1.sub h, q _ H1 ⟨A1, _, ⟨g1.sr.step (ov_same g1.ok.sub) fun a _ o h => h, f1, g1.st.trans f2, g1.mu⟩, ?_⟩⟩
        refine ⟨_, _, by rw [enumD_length, ← dps_length r]; exact walk_enum, fun H s => sql_mono s h, fun i x H1 H2 d hd s y => ?_⟩
        obtain ⟨T, a1, b1, h1, h2, h3, h4, h5⟩ := y
        cases h4
        rw [enumD_get] at hd
        cases e : l[i]? with
        | none => rw [e] at hd; cases hd
        | some d0 =>
          rw [e] at hd
          cases hd
          obtain ⟨v, q1, q2⟩ := dps_get r e
          have h5 : vs[i]? = some b1 := h5
          rw [q1] at h5
          cases h5
          exact .inr ⟨T, _, _, h1, rfl, h2, h3, .cons (by rw [Nat.zero_add]; exact .int _) (.cons q2 .nil)⟩
    · rename_i l er
      cases e
      refine .inr ⟨S, A, B, [r], S', sr, ok, by unfold sCons; rw [e1]; rfl, fun vs H1 ⟨A1, B1, F1, g1, x1⟩ => ?_⟩
      obtain ⟨y, rfl, xr⟩ := rrs1 x1
      obtain ⟨f1, f2⟩ := step_freeze g1.ok
      have dd := xr.data (B' := ov B1 H1 F1) (ov_same g1.ok.sub) (fun a ha => ov_in ha) er
      cases dd with
      | @tup a vs _ h r =>
        refine ⟨a, vs, rfl, sqt_mono f1.sub h, q _ H1 ⟨A1, _, ⟨g1.sr.step (ov_same g1.ok.sub) fun a _ o h => h, f1, g1.st.trans f2, g1.mu⟩, ?_⟩⟩
        refine ⟨_, _, by rw [enumD_length, ← dps_length r]; exact walk_enumT, fun H s => sqt_mono s h, fun i x H1 H2 d hd s y => ?_⟩
        obtain ⟨T, a1, b1, h1, h2, h3, h4, h5⟩ := y
        cases h4
        rw [enumD_get] at hd
        cases e : l[i]? with
        | none => rw [e] at hd; cases hd
        | some d0 =>
          rw [e] at hd
          cases hd
          obtain ⟨v, q1, q2⟩ := dps_get r e
          have h5 : vs[i]? = some b1 := h5
          rw [q1] at h5
          cases h5
          exact .inr ⟨T, _, _, h1, rfl, h2, h3, .cons (by rw [Nat.zero_add]; exact .int _) (.cons q2 .nil)⟩
    · cases e
  · cases e
end
section
variable {S : List Sl}
theorem itEnumX_ap (f : SE) : itEnumX f S = match f S with
  | some (r, S') => match r.fz with
    | some d => match seqOf d with
      | some l => some (enumD 0 l, S')
      | none => none
    | none => none
  | none => none := by
  unfold itEnumX
  cases f S with
  | none => rfl
  | some p =>
    obtain ⟨r, S'⟩ := p
    simp only
    cases r.fz with
    | none => rfl
    | some d => cases d <;> rfl
theorem eM2_ap (c : D → Bool) (g : Op) (f : SE) (fs : SEs) : eM2 c g f fs S = match f S with
  | some (r, S1) => match vw S1 r with
    | some d => if c d then match fs S1 with
      | some (rs, S2) => match g S2 (r :: rs) with
        | some r' => some (r', S2)
        | none => none
      | none => none else none
    | none => none
  | none => none := rfl
theorem eTR1_ap (f : SE) : eTR1 f S = match f S with
  | some (r, S') => match vw S' r with
    | some (.int n) => if small62 n && szOk n.toNat then some (.im (.tuple (rngD 0 n.toNat)), S') else none
    | _ => none
  | none => none := rfl
theorem eLR1_ap (f : SE) : eLR1 f S = match f S with
  | some (r, S') => match vw S' r with
    | some (.int n) => if small62 n && szOk n.toNat then some (.fr (.lst (rngD 0 n.toNat)), S') else none
    | _ => none
  | none => none := rfl
end
end Fl
namespace Py
open PySem L2 Fl PyProof.Rows
/- renumbered -/
abbrev renumberedBody : SS := (sSub 2 (eVar 4) (ePl 3))
def b_renumbered : SS := (sSeq (sSet 2 (eLc (itOf (eVar 1)) 3 tY (eC (.int 0))))
  (sSeq (sFor (itEnumX (eVar 1)) (gT [4, 3]) renumberedBody)
  (sSeq (sSet 5 (eLc (itOf (eSl (ePl 0) oN (oI (eC (.int 3))))) 6 tY (opS (gOp hTuple) (sCons (eLc (itOf (eVar 1)) 3 tY (opS gIx (sCons (ePl 2) (sCons (opS gIx (sCons (ePl 6) (sCons (ePl 3) sNil))) sNil)))) sNil))))
  (sSeq (sSet 7 (opS (gOp hTuple) (sCons (eLc (itOf (eVar 1)) 3 tY (opS gIx (sCons (opS gIx (sCons (ePl 0) (sCons (eC (.int 3)) sNil))) (sCons (ePl 3) sNil)))) sNil)))
  (sSeq (sSet 8 (opS (gOp hTuple) (sCons (eLc (itOf (eVar 1)) 3 tY (opS gIx (sCons (opS gIx (sCons (ePl 0) (sCons (eC (.int 4)) sNil))) (sCons (ePl 3) sNil)))) sNil)))
  (sRet (opS gTupD (sCons (opS gIx (sCons (ePl 5) (sCons (eC (.int 0)) sNil))) (sCons (opS gIx (sCons (ePl 5) (sCons (eC (.int 1)) sNil))) (sCons (opS gIx (sCons (ePl 5) (sCons (eC (.int 2)) sNil))) (sCons (eVar 7) (sCons (eVar 8) sNil))))))))))))
def f_renumbered : Fn := fnOf 7 b_renumbered
/- walk -/
abbrev walkBody1 : SS := (sSeq (sSet 6 (opS gIx (sCons (ePl 5) (sCons (opS gIx (sCons (ePl 2) (sCons (ePl 3) sNil))) sNil))))
  (sIf (tB' (opS (gIn true) (sCons (ePl 6) (sCons (ePl 4) sNil)))) (sSeq (sDrop (eMeth isS 4 (sCons (ePl 6) sNil) mAdd))
  (sDrop (eMeth isL 2 (sCons (eVar 6) sNil) mAppend))) sNop))
abbrev walkBody : SS := (sSeq (sFor (itOf (eSl (ePl 0) oN (oI (eC (.int 3))))) (gN 5) walkBody1)
  (sAug 3 (fun i j => i + j) (eC (.int 1))))
def b_walk : SS := (sSeq (sPar 2 3 (opS gLstD (sCons (eVar 1) sNil)) (eC (.int 0)))
  (sSeq (sSet 4 eSet0)
  (sSeq (sDrop (eMeth isS 4 (sCons (ePl 1) sNil) mAdd))
  (sSeq (sWhile 100000 (tB' (opS (gOp (hCmp fun i j => decide (i < j))) (sCons (ePl 3) (sCons (opS (gOp hLen) (sCons (ePl 2) sNil)) sNil)))) walkBody)
  (sRet (opS (gOp hTuple) (sCons (ePl 2) sNil)))))))
def f_walk : Fn := fnOf 5 b_walk
/- least -/
abbrev leastBody : SS := (sSeq (sSet 3 (eCall 2 f_renumbered (sCons (eVar 0) (sCons (eCall 2 f_walk (sCons (eVar 0) (sCons (eVar 2) sNil))) sNil))))
  (sIf (tB' (opS (gOp hLtD) (sCons (ePl 3) (sCons (ePl 1) sNil)))) (sSet 1 (eVar 3)) sNop))
def b_least : SS := (sSeq (sSet 1 (eCall 2 f_renumbered (sCons (eVar 0) (sCons (eCall 2 f_walk (sCons (eVar 0) (sCons (eC (.int 0)) sNil))) sNil))))
  (sSeq (sFor (itR2 (eC (.int 1)) (opS (gOp hLen) (sCons (opS gIx (sCons (ePl 0) (sCons (eC (.int 0)) sNil))) sNil))) (gN 2) leastBody)
  (sRet (eMv 1))))
def f_least : Fn := fnOf 3 b_least
/- _law_begun -/
abbrev law_begunBody : SS := (sSet 5 (opS (gOp hMod) (sCons (opS (gOp hInt) (sCons (opS gAdd (sCons (opS gMul (sCons (ePl 5) (sCons (eC (.int 48271)) sNil))) (sCons (ePl 4) sNil))) sNil)) (sCons (eC (.int 2147483647)) sNil))))
def b_law_begun : SS := (sSeq (sSet 2 (opS gAdd (sCons (eSl (ePl 0) (oI (ePl 1)) oN) (sCons (eSl (ePl 0) oN (oI (ePl 1))) sNil))))
  (sSeq (sSet 3 (eLc (itOf (eVar 2)) 4 (tB' (opS (gOp (hCmp fun i j => decide (j ≤ i))) (sCons (ePl 4) (sCons (opS (gOp hPow) (sCons (eC (.int 10)) (sCons (eC (.int 18)) sNil))) sNil)))) (eVar 4)))
  (sSeq (sSet 5 (opS gAdd (sCons (eC (.int 71)) (sCons (ePl 1) sNil))))
  (sSeq (sFor (itOf (eVar 2)) (gN 4) law_begunBody)
  (sRet (eDspl [.inr "left", .inr "seed", .inr "cells", .inr "spot"] [(eIf (tB' (opS (gOp hNe) (sCons (ePl 3) (sCons (opS gLstD sNil) sNil)))) (opS gIx (sCons (ePl 3) (sCons (eC (.int 0)) sNil))) (eC (.int 0))), (eVar 5), (opS gAdd (sCons (ePl 2) (sCons (opS gLstD (sCons (opS gAdd (sCons (opS gMul (sCons (eC (.int 53)) (sCons (ePl 1) sNil))) (sCons (eC (.int 11)) sNil))) sNil)) sNil))), (eC (.int 0))]))))))
def f_law_begun : Fn := fnOf 4 b_law_begun
/- _law_draw -/
def b_law_draw : SS := (sSeq (sIf (tB' (opS (gOp (hCmp fun i j => decide (j < i))) (sCons (opS gIx (sCons (ePl 0) (sCons (eC (.str "left")) sNil))) (sCons (eC (.int 0)) sNil)))) (sSeq (sSet 2 (opS (gOp hMod) (sCons (opS (gOp hInt) (sCons (opS gIx (sCons (ePl 0) (sCons (eC (.str "left")) sNil))) sNil)) (sCons (ePl 1) sNil))))
  (sSeq (sSub 0 (opS (gOp hDiv) (sCons (opS gIx (sCons (ePl 0) (sCons (eC (.str "left")) sNil))) (sCons (ePl 1) sNil))) (eC (.str "left")))
  (sRet (eMv 2)))) sNop)
  (sSeq (sSet 3 (opS gIx (sCons (ePl 0) (sCons (eC (.str "spot")) sNil))))
  (sSeq (sSub 0 (opS gAdd (sCons (ePl 3) (sCons (eC (.int 1)) sNil))) (eC (.str "spot")))
  (sSeq (sPar 4 5 (opS gIx (sCons (ePl 0) (sCons (eC (.str "cells")) sNil))) (opS gAdd (sCons (opS gIx (sCons (ePl 0) (sCons (eC (.str "seed")) sNil))) (sCons (opS gMul (sCons (opS gMul (sCons (eC (.int 40503)) (sCons (ePl 3) sNil))) (sCons (ePl 3) sNil))) sNil))))
  (sSeq (sSet 6 (opS gIx (sCons (ePl 4) (sCons (opS (gOp hMod) (sCons (opS (gOp hInt) (sCons (ePl 3) sNil)) (sCons (opS (gOp hLen) (sCons (ePl 4) sNil)) sNil))) sNil))))
  (sSeq (sSet 7 (opS (gOp hMod) (sCons (opS (gOp hInt) (sCons (opS gAdd (sCons (opS gMul (sCons (ePl 6) (sCons (opS gAdd (sCons (opS gMul (sCons (eC (.int 2)) (sCons (ePl 3) sNil))) (sCons (eC (.int 3)) sNil))) sNil))) (sCons (ePl 5) sNil))) sNil)) (sCons (eC (.int 2147483647)) sNil))))
  (sSeq (sSet 7 (opS (gOp hMod) (sCons (opS (gOp hInt) (sCons (opS gAdd (sCons (opS gAdd (sCons (opS gMul (sCons (ePl 7) (sCons (ePl 7) sNil))) (sCons (opS gMul (sCons (eC (.int 69621)) (sCons (ePl 3) sNil))) sNil))) (sCons (opS gIx (sCons (ePl 0) (sCons (eC (.str "seed")) sNil))) sNil))) sNil)) (sCons (eC (.int 2147483629)) sNil))))
  (sRet (opS (gOp hMod) (sCons (opS (gOp hDiv) (sCons (opS (gOp hMod) (sCons (opS (gOp hInt) (sCons (opS gAdd (sCons (opS gMul (sCons (ePl 7) (sCons (eC (.int 48271)) sNil))) (sCons (ePl 3) sNil))) sNil)) (sCons (eC (.int 2147483647)) sNil))) (sCons (eC (.int 11)) sNil))) (sCons (ePl 1) sNil)))))))))))
def f_law_draw : Fn := fnOf 6 b_law_draw
/- _law_of -/
def b_law_of : SS := (sRet (opS gIx (sCons (ePl 1) (sCons (eCallM 2 f_law_draw 0 (sCons (opS (gOp hLen) (sCons (ePl 1) sNil)) sNil)) sNil))))
def f_law_of : Fn := fnOf 0 b_law_of
/- _law_put -/
def b_law_put : SS := (sSeq (sSet 2 (eRowLen 0 0))
  (sSeq (sSet 3 (opS gIx (sCons (eDspl [.inr "four", .inr "zero", .inr "two", .inr "both", .inr "one"] [(opS gLstD (sCons (eC (.int 1)) (sCons (eC (.int 0)) (sCons (eC (.int 3)) (sCons (eC (.int 2)) sNil))))), (opS gLstD (sCons (eC (.int 1)) (sCons (eC (.int 0)) sNil))), (opS gLstD (sCons (eC (.int 0)) (sCons (eC (.int 1)) sNil))), (opS gLstD (sCons (eC (.int 1)) (sCons (eC (.int 0)) sNil))), (opS gLstD (sCons (eC (.int 0)) sNil))]) (sCons (ePl 1) sNil))))
  (sSeq (sSet 4 (opS gIx (sCons (eDspl [.inr "four", .inr "zero", .inr "two", .inr "both", .inr "one"] [(opS gLstD (sCons (eC (.int 2)) (sCons (eC (.int 3)) (sCons (eC (.int 0)) (sCons (eC (.int 1)) sNil))))), (opS gLstD (sCons (eC (.int 0)) (sCons (eC (.int 1)) sNil))), (opS gLstD (sCons (eC (.int 1)) (sCons (eC (.int 0)) sNil))), (opS gLstD (sCons (eC (.int 1)) (sCons (eC (.int 0)) sNil))), (opS gLstD (sCons (eC (.int 0)) sNil))]) (sCons (ePl 1) sNil))))
  (sSeq (sDrop (eRowM 0 0 (sCons (eLc (itOf (eVar 3)) 5 tY (opS gAdd (sCons (ePl 2) (sCons (ePl 5) sNil)))) sNil) mExtend))
  (sSeq (sDrop (eRowM 0 1 (sCons (eLc (itR1 (opS (gOp hLen) (sCons (ePl 3) sNil))) 6 tY (opS gAdd (sCons (ePl 2) (sCons (ePl 6) sNil)))) sNil) mExtend))
  (sSeq (sDrop (eRowM 0 2 (sCons (eLc (itOf (eVar 4)) 5 tY (opS gAdd (sCons (ePl 2) (sCons (ePl 5) sNil)))) sNil) mExtend))
  (sRet (opS (gOp hLen) (sCons (ePl 3) sNil)))))))))
def f_law_put : Fn := fnOf 5 b_law_put
/- _law_frame -/
abbrev law_frameBody : SS := (sSeq (sSet 5 (eCallM 2 f_law_of 0 (sCons (opS gLstD (sCons (eC (.str "four")) (sCons (eC (.str "zero")) (sCons (eC (.str "two")) (sCons (eC (.str "both")) (sCons (eC (.str "one")) sNil)))))) sNil)))
  (sSeq (sSet 6 (opS gIx (sCons (eDspl [.inr "four", .inr "zero", .inr "two", .inr "both", .inr "one"] [(eC (.int 4)), (eC (.int 2)), (eC (.int 2)), (eC (.int 2)), (eC (.int 1))]) (sCons (ePl 5) sNil))))
  (sSeq (sSet 7 (eRowLen 2 0))
  (sSeq (sIf (tOr' (tB' (opS (gOp (hCmp fun i j => decide (j < i))) (sCons (opS gAdd (sCons (ePl 7) (sCons (ePl 6) sNil))) (sCons (ePl 1) sNil)))) (tAnd' (tB' (opS (gOp (hCmp fun i j => decide (j < i))) (sCons (ePl 7) (sCons (eC (.int 0)) sNil)))) (tB' (opS (gOp hEq) (sCons (ePl 3) (sCons (opS gLstD sNil) sNil)))))) sCnt sNop)
  (sSeq (sDrop (eCallM 2 f_law_put 2 (sCons (eVar 5) sNil)))
  (sIf (tB' (opS (gOp (hCmp fun i j => decide (j < i))) (sCons (ePl 7) (sCons (eC (.int 0)) sNil)))) (sSeq (sSet 8 (eCallM 2 f_law_of 0 (sCons (eVar 3) sNil)))
  (sSeq (sRowSub 2 1 (eVar 7) (ePl 8))
  (sSeq (sRowSub 2 1 (eVar 8) (ePl 7))
  (sSeq (sSet 3 (eLc (itOf (eVar 3)) 9 (tB' (opS (gOp hNe) (sCons (ePl 9) (sCons (ePl 8) sNil)))) (eVar 9)))
  (sDrop (eMeth isL 3 (sCons (eLc (itR2 (eC (.int 1)) (ePl 6)) 10 tY (opS gAdd (sCons (ePl 7) (sCons (ePl 10) sNil)))) sNil) mExtend)))))) (sSet 3 (eLc (itR1 (ePl 6)) 10 tY (eVar 10)))))))))
abbrev law_frameBody1 : SS := (sIf (tAnd' (tB' (opS (gOp (hCmp fun i j => decide (j < i))) (sCons (opS (gOp hLen) (sCons (ePl 3) sNil)) (sCons (eC (.int 1)) sNil)))) (tB' (opS (gOp (hCmp fun i j => decide (j < i))) (sCons (eCallM 2 f_law_draw 0 (sCons (eC (.int 3)) sNil)) (sCons (eC (.int 0)) sNil))))) (sSeq (sSet 11 (eCallM 2 f_law_of 0 (sCons (eSl (ePl 3) (oI (eC (.int 1))) oN) sNil)))
  (sSeq (sRowSub 2 1 (eVar 11) (opS gIx (sCons (ePl 3) (sCons (eC (.int 0)) sNil))))
  (sSeq (sRowSub 2 1 (opS gIx (sCons (ePl 3) (sCons (eC (.int 0)) sNil))) (ePl 11))
  (sSet 3 (eLc (itOf (eSl (ePl 3) (oI (eC (.int 1))) oN)) 9 (tB' (opS (gOp hNe) (sCons (ePl 9) (sCons (ePl 11) sNil)))) (eVar 9)))))) (sSet 3 (eSl (ePl 3) (oI (eC (.int 1))) oN)))
def b_law_frame : SS := (sSeq (sPar 2 3 (opS gRowsD (sCons (opS gLstD sNil) (sCons (opS gLstD sNil) (sCons (opS gLstD sNil) sNil)))) (opS gLstD sNil))
  (sSeq (sFor (itR1 (opS gAdd (sCons (eC (.int 1)) (sCons (eCallM 2 f_law_draw 0 (sCons (eC (.int 6)) sNil)) sNil)))) (gN 4) law_frameBody)
  (sSeq (sIf (tB' (eRowNil 2 0)) (sSeq (sDrop (eCallM 2 f_law_put 2 (sCons (eC (.str "one")) sNil)))
  (sRet (eMv 2))) sNop)
  (sSeq (sFor (itR1 (opS (gOp hLen) (sCons (ePl 3) sNil))) (gN 4) law_frameBody1)
  (sRet (eMv 2))))))
def f_law_frame : Fn := fnOf 10 b_law_frame
/- _law_class -/
abbrev law_classBody1 : SS := (sIf (tB' (opS (gIn true) (sCons (ePl 5) (sCons (ePl 3) sNil)))) (sDrop (eMeth isL 3 (sCons (eVar 5) sNil) mAppend)) sNop)
abbrev law_classBody : SS := (sSeq (sIf (tB' (opS (gOp (hCmp fun i j => decide (j ≤ i))) (sCons (ePl 4) (sCons (opS (gOp hLen) (sCons (ePl 3) sNil)) sNil)))) (sRet (opS gSorted (sCons (ePl 3) sNil))) sNop)
  (sFor (itOf (opS gLstD (sCons (opS gIx (sCons (ePl 0) (sCons (opS gIx (sCons (ePl 3) (sCons (ePl 4) sNil))) sNil))) (sCons (opS gIx (sCons (ePl 1) (sCons (opS gIx (sCons (ePl 3) (sCons (ePl 4) sNil))) sNil))) sNil)))) (gN 5) law_classBody1))
def b_law_class : SS := (sSeq (sSet 3 (opS gLstD (sCons (eVar 2) sNil)))
  (sSeq (sFor (itR1 (opS (gOp hLen) (sCons (ePl 0) sNil))) (gN 4) law_classBody)
  (sRet (opS gSorted (sCons (ePl 3) sNil)))))
def f_law_class : Fn := fnOf 3 b_law_class
/- _law_round -/
abbrev law_roundBody : SS := (sSeq (sIf (tB' (opS (gOp hEq) (sCons (ePl 3) (sCons (ePl 2) sNil)))) (sRet (eMv 4)) sNop)
  (sSeq (sSet 3 (opS gIx (sCons (ePl 1) (sCons (opS gIx (sCons (ePl 0) (sCons (ePl 3) sNil))) sNil))))
  (sSet 4 (opS gAdd (sCons (ePl 4) (sCons (eC (.int 1)) sNil))))))
def b_law_round : SS := (sSeq (sPar 3 4 (opS gIx (sCons (ePl 1) (sCons (opS gIx (sCons (ePl 0) (sCons (ePl 2) sNil))) sNil))) (eC (.int 1)))
  (sSeq (sFor (itR1 (opS (gOp hLen) (sCons (ePl 0) sNil))) (gN 5) law_roundBody)
  (sRet (eMv 4))))
def f_law_round : Fn := fnOf 3 b_law_round
/- _law_orders -/
abbrev law_ordersBody1 : SS := (sSub 4 (eVar 6) (ePl 7))
abbrev law_ordersBody : SS := (sIf (tB' (opS (gOp hEq) (sCons (opS gIx (sCons (ePl 4) (sCons (ePl 5) sNil))) (sCons (eC (.int 0)) sNil)))) (sSeq (sSet 6 (opS gMul (sCons (eCall 3 f_law_round (sCons (eVar 1) (sCons (eVar 2) (sCons (eVar 5) sNil)))) (sCons (opS gAdd (sCons (eC (.int 1)) (sCons (eCallM 2 f_law_draw 0 (sCons (eVar 3) sNil)) sNil))) sNil))))
  (sFor (itOf (eCall 3 f_law_class (sCons (eVar 1) (sCons (eVar 2) (sCons (eVar 5) sNil))))) (gN 7) law_ordersBody1)) sNop)
def b_law_orders : SS := (sSeq (sSet 4 (eLc (itOf (eVar 1)) 5 tY (eC (.int 0))))
  (sSeq (sFor (itR1 (opS (gOp hLen) (sCons (ePl 1) sNil))) (gN 5) law_ordersBody)
  (sRet (opS (gOp hTuple) (sCons (ePl 4) sNil)))))
def f_law_orders : Fn := fnOf 4 b_law_orders
/- _law_pattern -/
def b_law_pattern : SS := (sSeq (sAsg (eCallM 2 f_law_frame 0 (sCons (eVar 1) sNil)) (gT [3, 4, 5]))
  (sSeq (sSet 6 (eCallM 4 f_law_orders 0 (sCons (eVar 3) (sCons (eVar 4) (sCons (eVar 2) sNil)))))
  (sRet (opS gTupD (sCons (opS (gOp hTuple) (sCons (ePl 3) sNil)) (sCons (opS (gOp hTuple) (sCons (ePl 4) sNil)) (sCons (opS (gOp hTuple) (sCons (ePl 5) sNil)) (sCons (eVar 6) (sCons (eCallM 4 f_law_orders 0 (sCons (eVar 4) (sCons (eVar 5) (sCons (eVar 2) sNil)))) sNil)))))))))
def f_law_pattern : Fn := fnOf 4 b_law_pattern
/- _law_is_number -/
def b_law_is_number : SS := (sRet (eAnd (opS (gOp (hIsi "int")) (sCons (ePl 0) sNil)) (eNot (opS (gOp (hIsi "bool")) (sCons (ePl 0) sNil)))))
def f_law_is_number : Fn := fnOf 0 b_law_is_number
/- _law_is_form -/
abbrev law_is_formBody : SS := (sIf (tOr' (tNot' (tB' (opS (gOp (hIsi "tuple")) (sCons (ePl 1) sNil)))) (tNot' (tB' (eChain (fun i j => decide (i ≤ j)) (fun i j => decide (i ≤ j)) (eC (.int 1)) (opS (gOp hLen) (sCons (ePl 1) sNil)) (eC (.int 240)))))) (sRet (eC (.bool false))) sNop)
abbrev law_is_formBody1 : SS := (sIf (tOr' (tB' (opS (gOp hNe) (sCons (opS (gOp hLen) (sCons (ePl 1) sNil)) (sCons (opS (gOp hLen) (sCons (opS gIx (sCons (ePl 0) (sCons (eC (.int 0)) sNil))) sNil)) sNil)))) (tB' (opS (gOp hNe) (sCons (eLc (itOf (eVar 1)) 2 (tNot' (tB' (eCall 1 f_law_is_number (sCons (eVar 2) sNil)))) (eVar 2)) (sCons (opS gLstD sNil) sNil))))) (sRet (eC (.bool false))) sNop)
def b_law_is_form : SS := (sSeq (sIf (tOr' (tNot' (tB' (opS (gOp (hIsi "tuple")) (sCons (ePl 0) sNil)))) (tB' (opS (gOp hNe) (sCons (opS (gOp hLen) (sCons (ePl 0) sNil)) (sCons (eC (.int 5)) sNil))))) (sRet (eC (.bool false))) sNop)
  (sSeq (sFor (itOf (eVar 0)) (gN 1) law_is_formBody)
  (sSeq (sFor (itOf (eVar 0)) (gN 1) law_is_formBody1)
  (sRet (eC (.bool true))))))
def f_law_is_form : Fn := fnOf 2 b_law_is_form
/- _law_walk -/
abbrev law_walkBody1 : SS := (sSeq (sSet 7 (opS gIx (sCons (ePl 6) (sCons (opS gIx (sCons (ePl 2) (sCons (ePl 5) sNil))) sNil))))
  (sIf (tNot' (tB' (opS gIx (sCons (ePl 3) (sCons (ePl 7) sNil))))) (sSeq (sSub 3 (eC (.bool true)) (ePl 7))
  (sDrop (eMeth isL 2 (sCons (eVar 7) sNil) mAppend))) sNop))
abbrev law_walkBody : SS := (sIf (tB' (opS (gOp (hCmp fun i j => decide (i < j))) (sCons (ePl 5) (sCons (opS (gOp hLen) (sCons (ePl 2) sNil)) sNil)))) (sFor (itOf (eSl (ePl 0) oN (oI (eC (.int 3))))) (gN 6) law_walkBody1) sNop)
def b_law_walk : SS := (sSeq (sPar 2 3 (opS gLstD (sCons (eVar 1) sNil)) (eLc (itR1 (opS (gOp hLen) (sCons (opS gIx (sCons (ePl 0) (sCons (eC (.int 0)) sNil))) sNil))) 4 tY (opS (gOp hEq) (sCons (ePl 4) (sCons (ePl 1) sNil)))))
  (sSeq (sFor (itR1 (opS (gOp hLen) (sCons (opS gIx (sCons (ePl 0) (sCons (eC (.int 0)) sNil))) sNil))) (gN 5) law_walkBody)
  (sRet (eMv 2))))
def f_law_walk : Fn := fnOf 6 b_law_walk
/- _law_is_pattern -/
abbrev law_is_patternBody1 : SS := (sIf (tOr' (tNot' (tB' (eChain (fun i j => decide (i ≤ j)) (fun i j => decide (i < j)) (eC (.int 0)) (opS gIx (sCons (ePl 7) (sCons (ePl 8) sNil))) (opS (gOp hLen) (sCons (ePl 7) sNil))))) (tB' (opS (gOp hNe) (sCons (opS gIx (sCons (ePl 7) (sCons (opS gIx (sCons (ePl 7) (sCons (ePl 8) sNil))) sNil))) (sCons (ePl 8) sNil))))) (sRet (eC (.bool false))) sNop)
abbrev law_is_patternBody : SS := (sFor (itOf (eVar 6)) (gN 8) law_is_patternBody1)
abbrev law_is_patternBody3 : SS := (sSeq (sIf (tOr' (tNot' (tB' (eChain (fun i j => decide (i ≤ j)) (fun i j => decide (i ≤ j)) (eC (.int 1)) (opS gIx (sCons (ePl 11) (sCons (ePl 8) sNil))) (eC (.int 9999))))) (tOr' (tB' (opS (gOp hNe) (sCons (opS gIx (sCons (ePl 11) (sCons (opS gIx (sCons (ePl 9) (sCons (ePl 8) sNil))) sNil))) (sCons (opS gIx (sCons (ePl 11) (sCons (ePl 8) sNil))) sNil)))) (tB' (opS (gOp hNe) (sCons (opS gIx (sCons (ePl 11) (sCons (opS gIx (sCons (ePl 10) (sCons (ePl 8) sNil))) sNil))) (sCons (opS gIx (sCons (ePl 11) (sCons (ePl 8) sNil))) sNil)))))) (sRet (eC (.bool false))) sNop)
  (sIf (tB' (opS (gOp hNe) (sCons (opS (gOp hMod) (sCons (opS (gOp hInt) (sCons (opS gIx (sCons (ePl 11) (sCons (ePl 8) sNil))) sNil)) (sCons (eCall 3 f_law_round (sCons (eVar 9) (sCons (eVar 10) (sCons (eVar 8) sNil)))) sNil))) (sCons (eC (.int 0)) sNil)))) (sRet (eC (.bool false))) sNop))
abbrev law_is_patternBody2 : SS := (sFor (itOf (eVar 6)) (gN 8) law_is_patternBody3)
def b_law_is_pattern : SS := (sSeq (sIf (tNot' (tB' (eCall 1 f_law_is_form (sCons (eVar 0) sNil)))) (sRet (eC (.bool false))) sNop)
  (sSeq (sAsg (eVar 0) (gT [1, 2, 3, 4, 5]))
  (sSeq (sSet 6 (eLR1 (opS (gOp hLen) (sCons (ePl 1) sNil))))
  (sSeq (sFor (itOf (opS gLstD (sCons (eVar 1) (sCons (eVar 2) (sCons (eVar 3) sNil))))) (gN 7) law_is_patternBody)
  (sSeq (sIf (tB' (opS (gOp hNe) (sCons (eLc (itOf (eVar 6)) 8 (tB' (opS (gOp hNe) (sCons (opS gIx (sCons (ePl 1) (sCons (opS gIx (sCons (ePl 3) (sCons (ePl 8) sNil))) sNil))) (sCons (opS gIx (sCons (ePl 3) (sCons (opS gIx (sCons (ePl 1) (sCons (ePl 8) sNil))) sNil))) sNil)))) (eVar 8)) (sCons (opS gLstD sNil) sNil)))) (sRet (eC (.bool false))) sNop)
  (sSeq (sFor (itOf (opS gLstD (sCons (opS gTupD (sCons (eVar 1) (sCons (eVar 2) (sCons (eVar 4) sNil)))) (sCons (opS gTupD (sCons (eVar 2) (sCons (eVar 3) (sCons (eVar 5) sNil)))) sNil)))) (gT [9, 10, 11]) law_is_patternBody2)
  (sRet (opS (gOp hEq) (sCons (opS (gOp hLen) (sCons (eCall 2 f_law_walk (sCons (eVar 0) (sCons (eC (.int 0)) sNil))) sNil)) (sCons (opS (gOp hLen) (sCons (ePl 1) sNil)) sNil))))))))))
def f_law_is_pattern : Fn := fnOf 11 b_law_is_pattern
/- _law_listed -/
abbrev law_listedBody : SS := (sSub 2 (eVar 4) (opS gIx (sCons (ePl 1) (sCons (ePl 4) sNil))))
def b_law_listed : SS := (sSeq (sSet 2 (eLc (itOf (eVar 1)) 3 tY (eC (.int 0))))
  (sSeq (sFor (itR1 (opS (gOp hLen) (sCons (ePl 1) sNil))) (gN 4) law_listedBody)
  (sSeq (sSet 5 (eLc (itOf (eSl (ePl 0) oN (oI (eC (.int 3))))) 6 tY (opS (gOp hTuple) (sCons (eLc (itOf (eVar 1)) 3 tY (opS gIx (sCons (ePl 2) (sCons (opS gIx (sCons (ePl 6) (sCons (ePl 3) sNil))) sNil)))) sNil))))
  (sSeq (sPar 7 8 (opS (gOp hTuple) (sCons (eLc (itOf (eVar 1)) 3 tY (opS gIx (sCons (opS gIx (sCons (ePl 0) (sCons (eC (.int 3)) sNil))) (sCons (ePl 3) sNil)))) sNil)) (opS (gOp hTuple) (sCons (eLc (itOf (eVar 1)) 3 tY (opS gIx (sCons (opS gIx (sCons (ePl 0) (sCons (eC (.int 4)) sNil))) (sCons (ePl 3) sNil)))) sNil)))
  (sRet (opS gTupD (sCons (opS gIx (sCons (ePl 5) (sCons (eC (.int 0)) sNil))) (sCons (opS gIx (sCons (ePl 5) (sCons (eC (.int 1)) sNil))) (sCons (opS gIx (sCons (ePl 5) (sCons (eC (.int 2)) sNil))) (sCons (eVar 7) (sCons (eVar 8) sNil)))))))))))
def f_law_listed : Fn := fnOf 7 b_law_listed
/- _law_least -/
def b_law_least : SS := (sRet (opS (gOp hMinL) (sCons (eLc (itR1 (opS (gOp hLen) (sCons (opS gIx (sCons (ePl 0) (sCons (eC (.int 0)) sNil))) sNil))) 1 tY (eCall 2 f_law_listed (sCons (eVar 0) (sCons (eCall 2 f_law_walk (sCons (eVar 0) (sCons (eVar 1) sNil))) sNil)))) sNil)))
def f_law_least : Fn := fnOf 1 b_law_least
/- _law_shuffled -/
abbrev law_shuffledBody : SS := (sSeq (sSet 5 (eCallM 2 f_law_of 0 (sCons (eVar 2) sNil)))
  (sSeq (sSet 2 (eLc (itOf (eVar 2)) 6 (tB' (opS (gOp hNe) (sCons (ePl 6) (sCons (ePl 5) sNil)))) (eVar 6)))
  (sDrop (eMeth isL 3 (sCons (eVar 5) sNil) mAppend))))
def b_law_shuffled : SS := (sSeq (sPar 2 3 (eLR1 (opS (gOp hLen) (sCons (opS gIx (sCons (ePl 1) (sCons (eC (.int 0)) sNil))) sNil))) (opS gLstD sNil))
  (sSeq (sFor (itR1 (opS (gOp hLen) (sCons (opS gIx (sCons (ePl 1) (sCons (eC (.int 0)) sNil))) sNil))) (gN 4) law_shuffledBody)
  (sRet (eCall 2 f_law_listed (sCons (eVar 1) (sCons (eVar 3) sNil))))))
def f_law_shuffled : Fn := fnOf 5 b_law_shuffled
/- _law_more -/
def b_law_more : SS := (sSeq (sSet 2 (eCall 3 f_law_class (sCons (opS gIx (sCons (ePl 0) (sCons (eC (.int 0)) sNil))) (sCons (opS gIx (sCons (ePl 0) (sCons (eC (.int 1)) sNil))) (sCons (eVar 1) sNil)))))
  (sSeq (sSet 3 (eLc (itR1 (opS (gOp hLen) (sCons (opS gIx (sCons (ePl 0) (sCons (eC (.int 0)) sNil))) sNil))) 4 tY (eIf (tB' (opS (gIn false) (sCons (ePl 4) (sCons (ePl 2) sNil)))) (opS gMul (sCons (opS gIx (sCons (opS gIx (sCons (ePl 0) (sCons (eC (.int 3)) sNil))) (sCons (ePl 4) sNil))) (sCons (eC (.int 2)) sNil))) (opS gIx (sCons (opS gIx (sCons (ePl 0) (sCons (eC (.int 3)) sNil))) (sCons (ePl 4) sNil))))))
  (sRet (opS gTupD (sCons (opS gIx (sCons (ePl 0) (sCons (eC (.int 0)) sNil))) (sCons (opS gIx (sCons (ePl 0) (sCons (eC (.int 1)) sNil))) (sCons (opS gIx (sCons (ePl 0) (sCons (eC (.int 2)) sNil))) (sCons (opS (gOp hTuple) (sCons (ePl 3) sNil)) (sCons (opS gIx (sCons (ePl 0) (sCons (eC (.int 4)) sNil))) sNil)))))))))
def f_law_more : Fn := fnOf 3 b_law_more
/- law -/
abbrev lawBody1 : SS := (sIf (tB' (opS (gOp hNe) (sCons (eCall 1 f_least (sCons (eCallM 2 f_law_shuffled 2 (sCons (eVar 3) sNil)) sNil)) (sCons (ePl 4) sNil)))) (sRet (eC (.bool false))) sNop)
abbrev lawBody : SS := (sSeq (sSet 2 (eCall 2 f_law_begun (sCons (eVar 0) (sCons (eVar 1) sNil))))
  (sSeq (sSet 3 (eCallM 3 f_law_pattern 2 (sCons (eC (.int 10)) (sCons (eC (.int 3)) sNil))))
  (sSeq (sSet 4 (eCall 1 f_law_least (sCons (eVar 3) sNil)))
  (sSeq (sIf (tOr' (tNot' (tB' (eCall 1 f_law_is_pattern (sCons (eCall 1 f_least (sCons (eVar 3) sNil)) sNil)))) (tOr' (tB' (opS (gOp hNe) (sCons (eCall 1 f_least (sCons (eVar 3) sNil)) (sCons (ePl 4) sNil)))) (tB' (opS (gOp hNe) (sCons (eCall 1 f_least (sCons (eVar 4) sNil)) (sCons (ePl 4) sNil)))))) (sRet (eC (.bool false))) sNop)
  (sSeq (sFor (itR1 (eC (.int 3))) (gN 5) lawBody1)
  (sSeq (sSet 6 (eCall 2 f_law_more (sCons (eVar 3) (sCons (eCallM 2 f_law_draw 2 (sCons (opS (gOp hLen) (sCons (opS gIx (sCons (ePl 3) (sCons (eC (.int 0)) sNil))) sNil)) sNil)) sNil))))
  (sIf (tOr' (tB' (opS (gOp hEq) (sCons (eCall 1 f_least (sCons (eCallM 2 f_law_shuffled 2 (sCons (eVar 6) sNil)) sNil)) (sCons (ePl 4) sNil)))) (tOr' (tB' (opS (gOp hNe) (sCons (eCall 1 f_least (sCons (eVar 6) sNil)) (sCons (eCall 1 f_law_least (sCons (eVar 6) sNil)) sNil)))) (tB' (opS (gOp hNe) (sCons (eCall 1 f_least (sCons (eVar 3) sNil)) (sCons (ePl 4) sNil)))))) (sRet (eC (.bool false))) sNop)))))))
def b_law : SS := (sSeq (sFor (itR1 (opS (gOp hMax) (sCons (eC (.int 2)) (sCons (opS (gOp hMin) (sCons (opS (gOp hLen) (sCons (ePl 0) sNil)) (sCons (eC (.int 3)) sNil))) sNil)))) (gN 1) lawBody)
  (sRet (eC (.bool true))))
def f_law : Fn := fnOf 6 b_law
/-! ### mathematics: sizes, tests -/
theorem szOk_le {n : Nat} (h : n ≤ 1000000) : szOk n = true := decide_eq_true h
theorem szOk_0 : szOk 0 = true := by decide
theorem szOk_1 : szOk 1 = true := by decide
theorem szOk_2 : szOk 2 = true := by decide
theorem szOk_3 : szOk 3 = true := by decide
theorem szOk_4 : szOk 4 = true := by decide
theorem szOk_5 : szOk 5 = true := by decide
theorem hCmp_ii (g : Int → Int → Bool) (i j : Int) : hCmp g [.int i, .int j] = some (.d (.bool (g i j))) := rfl
def pd (k : Nat) (d : D) : Prop := d.canLay0 = true ∧ d.depth ≤ k
theorem pd_int (k : Nat) (i : Int) : pd k (.int i) := ⟨by simp [PyData.canLay0], by simp [PyData.depth]⟩
theorem pd_bool (k : Nat) (i : Bool) : pd k (.bool i) := ⟨by simp [PyData.canLay0], by simp [PyData.depth]⟩
theorem pd_all {k : Nat} : ∀ {l : List D}, (∀ x ∈ l, pd k x) → PyData.canLayAll0 l = true ∧ PyData.depthAll l ≤ k
  | [], _ => ⟨by simp [PyData.canLayAll0], by simp [PyData.depthAll]⟩
  | x :: l, h => by
    obtain ⟨a, b⟩ := pd_all (l := l) fun y hy => h y (List.mem_cons_of_mem _ hy)
    obtain ⟨c, d⟩ := h x List.mem_cons_self
    refine ⟨by simp [PyData.canLayAll0, a, c], ?_⟩
    simp only [PyData.depthAll]
    omega
theorem pd_list {k : Nat} {l : List D} (h : ∀ x ∈ l, pd k x) : pd (k + 1) (.list l) := by
  obtain ⟨a, b⟩ := pd_all h
  exact ⟨by simp [PyData.canLay0, a], by simp only [PyData.depth]; omega⟩
theorem pd_tuple {k : Nat} {l : List D} (h : ∀ x ∈ l, pd k x) : pd (k + 1) (.tuple l) := by
  obtain ⟨a, b⟩ := pd_all h
  exact ⟨by simp [PyData.canLay0, a], by simp only [PyData.depth]; omega⟩
theorem pd_sh {k : Nat} {d : D} (h : pd k d) (hk : k ≤ 64) : SeqAt.shaped d = true := by
  unfold SeqAt.shaped
  rw [h.1, Bool.true_and]
  exact decide_eq_true (Nat.le_trans h.2 hk)
theorem pd_ints (l : List Int) : ∀ x ∈ l.map PyData.int, pd 0 x := fun x h => by
  obtain ⟨i, _, rfl⟩ := List.mem_map.mp h
  exact pd_int 0 i
theorem sh_int (i : Int) : SeqAt.shaped (.int i) = true := pd_sh (pd_int 0 i) (by decide)
theorem sh_bool (i : Bool) : SeqAt.shaped (.bool i) = true := pd_sh (pd_bool 0 i) (by decide)
theorem sh_ints (l : List Int) : SeqAt.shaped (.list (l.map PyData.int)) = true := pd_sh (pd_list (pd_ints l)) (by decide)
theorem sh_intsT (l : List Int) : SeqAt.shaped (.tuple (l.map PyData.int)) = true := pd_sh (pd_tuple (pd_ints l)) (by decide)
theorem sh_nil : SeqAt.shaped (.list []) = true := sh_ints []
theorem sh_pair (i j : Int) : SeqAt.shaped (.tuple [.int i, .int j]) = true := sh_intsT [i, j]
theorem eqv_int (i j : Int) : PyData.eqv (.int i) (.int j) = decide (i = j) := by
  simp only [PyData.eqv]
  by_cases h : i = j
  · subst h; simp
  · simp [h]
theorem eqv_bool (i j : Bool) : PyData.eqv (.bool i) (.bool j) = (i == j) := by simp only [PyData.eqv]
theorem eqvA_ints : ∀ (l m : List Int), PyData.eqvAll (l.map .int) (m.map .int) = decide (l = m)
  | [], [] => rfl
  | [], _ :: _ => by simp [PyData.eqvAll]
  | _ :: _, [] => by simp [PyData.eqvAll]
  | x :: l, y :: m => by
    simp only [List.map_cons, PyData.eqvAll, eqv_int, eqvA_ints l m, List.cons.injEq]
    by_cases h : x = y <;> by_cases h2 : l = m <;> simp [h, h2]
theorem eqv_ints (l m : List Int) : PyData.eqv (.list (l.map .int)) (.list (m.map .int)) = decide (l = m) := by
  simp only [PyData.eqv]; exact eqvA_ints l m
theorem eqv_intsT (l m : List Int) : PyData.eqv (.tuple (l.map .int)) (.tuple (m.map .int)) = decide (l = m) := by
  simp only [PyData.eqv]; exact eqvA_ints l m
theorem eqv_pair (i j a b : Int) : PyData.eqv (.tuple [.int i, .int j]) (.tuple [.int a, .int b]) = decide (i = a ∧ j = b) := by
  have h := eqv_intsT [i, j] [a, b]
  simp only [List.map_cons, List.map_nil, List.cons.injEq, and_true] at h
  exact h
theorem small_lt {i : Int} {k : Nat} (h : i.natAbs < 2 ^ k) (hk : 0 < k) : i.natAbs.log2 < k := by
  by_cases e : i.natAbs = 0
  · rw [e]; simpa using hk
  · exact (Nat.log2_lt e).mpr h
theorem mulOk_b {i j : Int} {a b : Nat} (hi : i.natAbs < 2 ^ a) (hj : j.natAbs < 2 ^ b) (ha : 0 < a) (hb : 0 < b) (h : a + b ≤ 1000000) : mulOk i j = true := by
  have h1 := small_lt hi ha
  have h2 := small_lt hj hb
  exact mulOk_iff.mpr (.inr (.inr (by omega)))
theorem divOk_b {j : Int} {k : Nat} (h0 : j ≠ 0) (h : j.natAbs < 2 ^ k) (hk : 0 < k) (hk2 : k ≤ 9000) : divOk j = true := decide_eq_true ⟨h0, Nat.lt_of_lt_of_le (small_lt h hk) hk2⟩
theorem divOk_l {j : Int} (h0 : 0 < j) (h : j < 1000000000000000000000000000000) : divOk j = true := divOk_b (k := 100) (by omega) (by omega) (by decide) (by decide)
theorem fmod_nn {a b : Int} (h : 0 < b) : 0 ≤ a.fmod b := Int.fmod_nonneg_of_pos a h
theorem fmod_lt {a b : Int} (h : 0 < b) : a.fmod b < b := Int.fmod_lt_of_pos a h
theorem atI_ints {l : List Int} {i : Int} (h0 : 0 ≤ i) (h1 : i < l.length) : ∃ c, atI (l.map PyData.int) i = some (.int c) ∧ c ∈ l := by
  have hl : i.toNat < l.length := by omega
  refine ⟨l[i.toNat], ?_, List.getElem_mem hl⟩
  unfold atI ixN
  rw [List.length_map, if_pos h0, if_pos h1]
  show (l.map PyData.int)[i.toNat]? = _
  rw [List.getElem?_map, List.getElem?_eq_getElem hl]
  rfl
/-! ### draws -/
/-- the law's dict of cells, with at most n draws behind it -/
def Good (n : Int) (m : O) : Prop := ∃ (l s : Int) (cs : List Int) (p : Int), m = .dct (mL (.int l) (.int s) (.list (cs.map .int)) (.int p)) ∧ cs ≠ [] ∧ 0 ≤ p ∧ p ≤ n
theorem draw_eq {n b : Int} {m : O} (g : Good n m) (hn : n < 1000000000) (hb : 0 < b) (hb2 : b < 1000000000000000000000000000000) : ∃ v m', f_law_draw [.mu m, .im (.int b)] = some (.im (.int v), [.mu m', .un]) ∧ 0 ≤ v ∧ v < b ∧ Good (n + 1) m' := by
  obtain ⟨l, s, cs, p, rfl, hc, hp0, hp1⟩ := g
  have hb0 : decide (b ≠ 0) = true := decide_eq_true (by omega)
  have hd := divOk_l hb hb2
  unfold f_law_draw b_law_draw
  by_cases hl : 0 < l
  · refine ⟨l.fmod b, .dct (mL (.int (l.fdiv b)) (.int s) (.list (cs.map .int)) (.int p)), ?_, fmod_nn hb, fmod_lt hb, _, _, _, _, rfl, hc, hp0, by omega⟩
    simp only [sNop_ap, row?_ap, eRowM_ap, sRowSub_ap, eRowLen_ap, eRowNil_ap, isUn_un, ixN3_0, ixN3_1, ixN3_2, gRowsD_ap, rowsOf_nil, rowsOf_cons, eMeth_ap, isL_l, isS_s, mAppend_ap, mExtend_ap, ownL_fr, gIn_ap, ownDct_fr, gT_apL, hSorted, hTuple, hList, hRev, sSeq_ap, sBrk_ap, sCnt_ap, sRet_ap, sRetN_ap, sDrop_ap, sIf_ap, sSet_ap, isMu_ap, sAsg_ap, gN_ap, gT_ap, gTs, sPar_ap, sSub_ap, own?_ap, putO_t, putO_f, sAug_ap, sFor_ap, eC_ap, eVar_ap, ePl_ap, eMv_ap, opS_ap, sNil_ap, sCons_ap, gOp_ap, vws_nil, vws_cons, vw_im, vw_fr, vw_frd, vw_frs, vw_frr, vw_pl, view_l, view_d, view_s, view_r, rs_d, rs_l, sl_im, sl_fr, fz_im, fz_fr, fzs_nil, fzs_cons, toD_l, toD_r, gTupD_ap, gLstD_ap, gIx_ap, gDGet_ap, ownDct_pl, keyOf_i, keyOf_s, gMul_ap, tB_ap, tNot_ap, tAnd_ap, tOr_ap, eNot_ap, eAnd_ap, eOr_ap, eIf_ap, tY_ap, eSl_ap, oN_ap, oI_ap, itOf_ap, itR1_ap, itR2_ap, eLc_ap, isIm_ap, eCall_ap, eCallM_ap, fnOf_ap, isPl_im, isPl_fr, eDspl_ap, sArgs_nil, sArgs_cons, mkD_nil, mkD_cons, keepMu_mu, keepMu_im, projS_nil, projS_cons, hAdd, hSub, hMul, hDiv, hMod, hPow, hNeg, hCmp, hEq, hNe, hIsN, hNotN, hIx, hLen, hInt, hAbs, hGcd, hMin, hMax, hCut, isi_ii, isi_ib, isi_tt, isi_ll, isM_un, isM_im, isM_ow, isM_mu, List.getElem?_cons_zero, List.getElem?_cons_succ, List.getElem?_nil, List.set_cons_zero, List.set_cons_succ, List.length_cons, List.length_nil, List.length_map, List.replicate_succ, List.replicate_zero, List.cons_append, List.nil_append, List.map_cons, List.map_nil, Nat.reduceAdd, Nat.zero_add, ne_eq, not_true_eq_false, not_false_eq_true, decide_false, decide_true, Bool.or_self, Bool.or_false, Bool.false_or, Bool.and_self, Bool.false_eq_true, if_false, if_true, reduceIte, szOk_2, szOk_1, szOk_0, szOk_3, lk_left, lk_seed, lk_cells, lk_spot, pt_left, pt_spot, len_mL, mSet, true_and, and_true, List.getD_eq_getElem?_getD, Option.getD_some, seqOf_l, seqOf_t, ↓hIx_sq, ↓hLen_sq, seqOf_sq, ↓hTuple_sq, fz_fr2, gRep_ap, eq_self, gSorted_ap, gSortD_ap, gSortS_ap, ownSet_pl, eDict1_ap, eChain_ap, gInD_ap, gInS_ap, mPop_ap, mAdd_ap, eSet0_ap, sWhile_ap, itEnumX_ap, eM2_ap, eTR1_ap, eLR1_ap, hLtD, hCmp_ii, hl, hb0, hd, szOk_5]
  · have hlen : (cs.map PyData.int).length = cs.length := List.length_map _
    have hpos : 0 < cs.length := List.length_pos_iff.mpr hc
    have hne : decide ((cs.length : Int) ≠ 0) = true := decide_eq_true (by omega)
    have hne1 : decide ((2147483647 : Int) ≠ 0) = true := by decide
    have hne2 : decide ((2147483629 : Int) ≠ 0) = true := by decide
    have hd11 : divOk 11 = true := by decide
    obtain ⟨c, hat, hcm⟩ := atI_ints (l := cs) (i := p.fmod cs.length) (fmod_nn (by omega)) (fmod_lt (by omega))
    have m1 : mulOk 40503 p = true := mulOk_l (by decide) (by decide)
    have m2 : mulOk (40503 * p) p = true := mulOk_r (by omega) (by omega)
    have m3 : mulOk 2 p = true := mulOk_l (by decide) (by decide)
    have m4 : mulOk c (2 * p + 3) = true := mulOk_r (by omega) (by omega)
    have m6 : mulOk 69621 p = true := mulOk_l (by decide) (by decide)
    have m7 : ∀ x : Int, mulOk x 48271 = true := fun x => mulOk_r (by decide) (by decide)
    have q1 := fmod_nn (a := c * (2 * p + 3) + (s + 40503 * p * p)) (b := 2147483647) (by decide)
    have q2 := fmod_lt (a := c * (2 * p + 3) + (s + 40503 * p * p)) (b := 2147483647) (by decide)
    generalize hx : (c * (2 * p + 3) + (s + 40503 * p * p)).fmod 2147483647 = x at q1 q2
    generalize hy : (x * x + 69621 * p + s).fmod 2147483629 = y
    have m5 : mulOk x x = true := mulOk_l (by omega) (by omega)
    refine ⟨(((y * 48271 + p).fmod 2147483647).fdiv 11).fmod b, .dct (mL (.int l) (.int s) (.list (cs.map .int)) (.int (p + 1))), ?_, fmod_nn hb, fmod_lt hb, _, _, _, _, rfl, hc, by omega, by omega⟩
    simp only [sNop_ap, row?_ap, eRowM_ap, sRowSub_ap, eRowLen_ap, eRowNil_ap, isUn_un, ixN3_0, ixN3_1, ixN3_2, gRowsD_ap, rowsOf_nil, rowsOf_cons, eMeth_ap, isL_l, isS_s, mAppend_ap, mExtend_ap, ownL_fr, gIn_ap, ownDct_fr, gT_apL, hSorted, hTuple, hList, hRev, sSeq_ap, sBrk_ap, sCnt_ap, sRet_ap, sRetN_ap, sDrop_ap, sIf_ap, sSet_ap, isMu_ap, sAsg_ap, gN_ap, gT_ap, gTs, sPar_ap, sSub_ap, own?_ap, putO_t, putO_f, sAug_ap, sFor_ap, eC_ap, eVar_ap, ePl_ap, eMv_ap, opS_ap, sNil_ap, sCons_ap, gOp_ap, vws_nil, vws_cons, vw_im, vw_fr, vw_frd, vw_frs, vw_frr, vw_pl, view_l, view_d, view_s, view_r, rs_d, rs_l, sl_im, sl_fr, fz_im, fz_fr, fzs_nil, fzs_cons, toD_l, toD_r, gTupD_ap, gLstD_ap, gIx_ap, gDGet_ap, ownDct_pl, keyOf_i, keyOf_s, gMul_ap, tB_ap, tNot_ap, tAnd_ap, tOr_ap, eNot_ap, eAnd_ap, eOr_ap, eIf_ap, tY_ap, eSl_ap, oN_ap, oI_ap, itOf_ap, itR1_ap, itR2_ap, eLc_ap, isIm_ap, eCall_ap, eCallM_ap, fnOf_ap, isPl_im, isPl_fr, eDspl_ap, sArgs_nil, sArgs_cons, mkD_nil, mkD_cons, keepMu_mu, keepMu_im, projS_nil, projS_cons, hAdd, hSub, hMul, hDiv, hMod, hPow, hNeg, hCmp, hEq, hNe, hIsN, hNotN, hIx, hLen, hInt, hAbs, hGcd, hMin, hMax, hCut, isi_ii, isi_ib, isi_tt, isi_ll, isM_un, isM_im, isM_ow, isM_mu, List.getElem?_cons_zero, List.getElem?_cons_succ, List.getElem?_nil, List.set_cons_zero, List.set_cons_succ, List.length_cons, List.length_nil, List.length_map, List.replicate_succ, List.replicate_zero, List.cons_append, List.nil_append, List.map_cons, List.map_nil, Nat.reduceAdd, Nat.zero_add, ne_eq, not_true_eq_false, not_false_eq_true, decide_false, decide_true, Bool.or_self, Bool.or_false, Bool.false_or, Bool.and_self, Bool.false_eq_true, if_false, if_true, reduceIte, szOk_2, szOk_1, szOk_0, szOk_3, lk_left, lk_seed, lk_cells, lk_spot, pt_left, pt_spot, len_mL, mSet, true_and, and_true, List.getD_eq_getElem?_getD, Option.getD_some, seqOf_l, seqOf_t, ↓hIx_sq, ↓hLen_sq, seqOf_sq, ↓hTuple_sq, fz_fr2, gRep_ap, eq_self, gSorted_ap, gSortD_ap, gSortS_ap, ownSet_pl, eDict1_ap, eChain_ap, gInD_ap, gInS_ap, mPop_ap, mAdd_ap, eSet0_ap, sWhile_ap, itEnumX_ap, eM2_ap, eTR1_ap, eLR1_ap, hLtD, hCmp_ii, hl, hb0, hd, szOk_5, hne, hne1, hne2, hd11, hat, hx, hy, m1, m2, m3, m4, m5, m6, m7]
/-! ### the cells -/
theorem great_eq (a b c : Sl) : ∀ l : List Int, lcL 4 (tB' (opS (gOp (hCmp fun i j => decide (j ≤ i))) (sCons (ePl 4) (sCons (opS (gOp hPow) (sCons (eC (.int 10)) (sCons (eC (.int 18)) sNil))) sNil)))) (eVar 4) (l.map PyData.int) [a, b, c, .un, .un, .un] =
    some ((l.filter fun i => decide (1000000000000000000 ≤ i)).map PyData.int, [a, b, c, .un, .un, .un])
  | [] => rfl
  | i :: l => by
    have ih := great_eq a b c l
    have hp : powOk 10 18 = true := by decide
    have hv : ((10 : Int) ^ (18 : Int).toNat) = 1000000000000000000 := by decide
    by_cases hi : (1000000000000000000 : Int) ≤ i
    · simp only [List.map_cons, lcL, sNop_ap, row?_ap, eRowM_ap, sRowSub_ap, eRowLen_ap, eRowNil_ap, isUn_un, ixN3_0, ixN3_1, ixN3_2, gRowsD_ap, rowsOf_nil, rowsOf_cons, eMeth_ap, isL_l, isS_s, mAppend_ap, mExtend_ap, ownL_fr, gIn_ap, ownDct_fr, gT_apL, hSorted, hTuple, hList, hRev, sSeq_ap, sBrk_ap, sCnt_ap, sRet_ap, sRetN_ap, sDrop_ap, sIf_ap, sSet_ap, isMu_ap, sAsg_ap, gN_ap, gT_ap, gTs, sPar_ap, sSub_ap, own?_ap, putO_t, putO_f, sAug_ap, sFor_ap, eC_ap, eVar_ap, ePl_ap, eMv_ap, opS_ap, sNil_ap, sCons_ap, gOp_ap, vws_nil, vws_cons, vw_im, vw_fr, vw_frd, vw_frs, vw_frr, vw_pl, view_l, view_d, view_s, view_r, rs_d, rs_l, sl_im, sl_fr, fz_im, fz_fr, fzs_nil, fzs_cons, toD_l, toD_r, gTupD_ap, gLstD_ap, gIx_ap, gDGet_ap, ownDct_pl, keyOf_i, keyOf_s, gMul_ap, tB_ap, tNot_ap, tAnd_ap, tOr_ap, eNot_ap, eAnd_ap, eOr_ap, eIf_ap, tY_ap, eSl_ap, oN_ap, oI_ap, itOf_ap, itR1_ap, itR2_ap, eLc_ap, isIm_ap, eCall_ap, eCallM_ap, fnOf_ap, isPl_im, isPl_fr, eDspl_ap, sArgs_nil, sArgs_cons, mkD_nil, mkD_cons, keepMu_mu, keepMu_im, projS_nil, projS_cons, hAdd, hSub, hMul, hDiv, hMod, hPow, hNeg, hCmp, hEq, hNe, hIsN, hNotN, hIx, hLen, hInt, hAbs, hGcd, hMin, hMax, hCut, isi_ii, isi_ib, isi_tt, isi_ll, isM_un, isM_im, isM_ow, isM_mu, List.getElem?_cons_zero, List.getElem?_cons_succ, List.getElem?_nil, List.set_cons_zero, List.set_cons_succ, List.length_cons, List.length_nil, List.length_map, List.replicate_succ, List.replicate_zero, List.cons_append, List.nil_append, List.map_cons, List.map_nil, Nat.reduceAdd, Nat.zero_add, ne_eq, not_true_eq_false, not_false_eq_true, decide_false, decide_true, Bool.or_self, Bool.or_false, Bool.false_or, Bool.and_self, Bool.false_eq_true, if_false, if_true, reduceIte, szOk_2, szOk_1, szOk_0, szOk_3, lk_left, lk_seed, lk_cells, lk_spot, pt_left, pt_spot, len_mL, mSet, true_and, and_true, List.getD_eq_getElem?_getD, Option.getD_some, seqOf_l, seqOf_t, ↓hIx_sq, ↓hLen_sq, seqOf_sq, ↓hTuple_sq, fz_fr2, gRep_ap, eq_self, gSorted_ap, gSortD_ap, gSortS_ap, ownSet_pl, eDict1_ap, eChain_ap, gInD_ap, gInS_ap, mPop_ap, mAdd_ap, eSet0_ap, sWhile_ap, itEnumX_ap, eM2_ap, eTR1_ap, eLR1_ap, hLtD, hp, hv, hi, hCmp_ii, ih, List.filter_cons]
    · simp only [List.map_cons, lcL, sNop_ap, row?_ap, eRowM_ap, sRowSub_ap, eRowLen_ap, eRowNil_ap, isUn_un, ixN3_0, ixN3_1, ixN3_2, gRowsD_ap, rowsOf_nil, rowsOf_cons, eMeth_ap, isL_l, isS_s, mAppend_ap, mExtend_ap, ownL_fr, gIn_ap, ownDct_fr, gT_apL, hSorted, hTuple, hList, hRev, sSeq_ap, sBrk_ap, sCnt_ap, sRet_ap, sRetN_ap, sDrop_ap, sIf_ap, sSet_ap, isMu_ap, sAsg_ap, gN_ap, gT_ap, gTs, sPar_ap, sSub_ap, own?_ap, putO_t, putO_f, sAug_ap, sFor_ap, eC_ap, eVar_ap, ePl_ap, eMv_ap, opS_ap, sNil_ap, sCons_ap, gOp_ap, vws_nil, vws_cons, vw_im, vw_fr, vw_frd, vw_frs, vw_frr, vw_pl, view_l, view_d, view_s, view_r, rs_d, rs_l, sl_im, sl_fr, fz_im, fz_fr, fzs_nil, fzs_cons, toD_l, toD_r, gTupD_ap, gLstD_ap, gIx_ap, gDGet_ap, ownDct_pl, keyOf_i, keyOf_s, gMul_ap, tB_ap, tNot_ap, tAnd_ap, tOr_ap, eNot_ap, eAnd_ap, eOr_ap, eIf_ap, tY_ap, eSl_ap, oN_ap, oI_ap, itOf_ap, itR1_ap, itR2_ap, eLc_ap, isIm_ap, eCall_ap, eCallM_ap, fnOf_ap, isPl_im, isPl_fr, eDspl_ap, sArgs_nil, sArgs_cons, mkD_nil, mkD_cons, keepMu_mu, keepMu_im, projS_nil, projS_cons, hAdd, hSub, hMul, hDiv, hMod, hPow, hNeg, hCmp, hEq, hNe, hIsN, hNotN, hIx, hLen, hInt, hAbs, hGcd, hMin, hMax, hCut, isi_ii, isi_ib, isi_tt, isi_ll, isM_un, isM_im, isM_ow, isM_mu, List.getElem?_cons_zero, List.getElem?_cons_succ, List.getElem?_nil, List.set_cons_zero, List.set_cons_succ, List.length_cons, List.length_nil, List.length_map, List.replicate_succ, List.replicate_zero, List.cons_append, List.nil_append, List.map_cons, List.map_nil, Nat.reduceAdd, Nat.zero_add, ne_eq, not_true_eq_false, not_false_eq_true, decide_false, decide_true, Bool.or_self, Bool.or_false, Bool.false_or, Bool.and_self, Bool.false_eq_true, if_false, if_true, reduceIte, szOk_2, szOk_1, szOk_0, szOk_3, lk_left, lk_seed, lk_cells, lk_spot, pt_left, pt_spot, len_mL, mSet, true_and, and_true, List.getD_eq_getElem?_getD, Option.getD_some, seqOf_l, seqOf_t, ↓hIx_sq, ↓hLen_sq, seqOf_sq, ↓hTuple_sq, fz_fr2, gRep_ap, eq_self, gSorted_ap, gSortD_ap, gSortS_ap, ownSet_pl, eDict1_ap, eChain_ap, gInD_ap, gInS_ap, mPop_ap, mAdd_ap, eSet0_ap, sWhile_ap, itEnumX_ap, eM2_ap, eTR1_ap, eLR1_ap, hLtD, hp, hv, hi, hCmp_ii, ih, List.filter_cons]
theorem seed_eq (a b c d : Sl) : ∀ (l : List Int) (e : Sl) (s : Int), isM e = false → ∃ e' s', forL (gN 4) law_begunBody (l.map PyData.int) [a, b, c, d, e, .im (.int s)] =
    some (.nx [a, b, c, d, e', .im (.int s')])
  | [], e, s, _ => ⟨e, s, rfl⟩
  | i :: l, e, s, he => by
    have m : mulOk s 48271 = true := mulOk_r (by decide) (by decide)
    have hne1 : decide ((2147483647 : Int) ≠ 0) = true := by decide
    obtain ⟨e', s', h⟩ := seed_eq a b c d l (.im (.int i)) ((s * 48271 + i).fmod 2147483647) rfl
    refine ⟨e', s', ?_⟩
    cases e with
    | mu o => cases he
    | un => simp only [List.map_cons, forL, sNop_ap, row?_ap, eRowM_ap, sRowSub_ap, eRowLen_ap, eRowNil_ap, isUn_un, ixN3_0, ixN3_1, ixN3_2, gRowsD_ap, rowsOf_nil, rowsOf_cons, eMeth_ap, isL_l, isS_s, mAppend_ap, mExtend_ap, ownL_fr, gIn_ap, ownDct_fr, gT_apL, hSorted, hTuple, hList, hRev, sSeq_ap, sBrk_ap, sCnt_ap, sRet_ap, sRetN_ap, sDrop_ap, sIf_ap, sSet_ap, isMu_ap, sAsg_ap, gN_ap, gT_ap, gTs, sPar_ap, sSub_ap, own?_ap, putO_t, putO_f, sAug_ap, sFor_ap, eC_ap, eVar_ap, ePl_ap, eMv_ap, opS_ap, sNil_ap, sCons_ap, gOp_ap, vws_nil, vws_cons, vw_im, vw_fr, vw_frd, vw_frs, vw_frr, vw_pl, view_l, view_d, view_s, view_r, rs_d, rs_l, sl_im, sl_fr, fz_im, fz_fr, fzs_nil, fzs_cons, toD_l, toD_r, gTupD_ap, gLstD_ap, gIx_ap, gDGet_ap, ownDct_pl, keyOf_i, keyOf_s, gMul_ap, tB_ap, tNot_ap, tAnd_ap, tOr_ap, eNot_ap, eAnd_ap, eOr_ap, eIf_ap, tY_ap, eSl_ap, oN_ap, oI_ap, itOf_ap, itR1_ap, itR2_ap, eLc_ap, isIm_ap, eCall_ap, eCallM_ap, fnOf_ap, isPl_im, isPl_fr, eDspl_ap, sArgs_nil, sArgs_cons, mkD_nil, mkD_cons, keepMu_mu, keepMu_im, projS_nil, projS_cons, hAdd, hSub, hMul, hDiv, hMod, hPow, hNeg, hCmp, hEq, hNe, hIsN, hNotN, hIx, hLen, hInt, hAbs, hGcd, hMin, hMax, hCut, isi_ii, isi_ib, isi_tt, isi_ll, isM_un, isM_im, isM_ow, isM_mu, List.getElem?_cons_zero, List.getElem?_cons_succ, List.getElem?_nil, List.set_cons_zero, List.set_cons_succ, List.length_cons, List.length_nil, List.length_map, List.replicate_succ, List.replicate_zero, List.cons_append, List.nil_append, List.map_cons, List.map_nil, Nat.reduceAdd, Nat.zero_add, ne_eq, not_true_eq_false, not_false_eq_true, decide_false, decide_true, Bool.or_self, Bool.or_false, Bool.false_or, Bool.and_self, Bool.false_eq_true, if_false, if_true, reduceIte, szOk_2, szOk_1, szOk_0, szOk_3, lk_left, lk_seed, lk_cells, lk_spot, pt_left, pt_spot, len_mL, mSet, true_and, and_true, List.getD_eq_getElem?_getD, Option.getD_some, seqOf_l, seqOf_t, ↓hIx_sq, ↓hLen_sq, seqOf_sq, ↓hTuple_sq, fz_fr2, gRep_ap, eq_self, gSorted_ap, gSortD_ap, gSortS_ap, ownSet_pl, eDict1_ap, eChain_ap, gInD_ap, gInS_ap, mPop_ap, mAdd_ap, eSet0_ap, sWhile_ap, itEnumX_ap, eM2_ap, eTR1_ap, eLR1_ap, hLtD, m, hne1, h]
    | im d => simp only [List.map_cons, forL, sNop_ap, row?_ap, eRowM_ap, sRowSub_ap, eRowLen_ap, eRowNil_ap, isUn_un, ixN3_0, ixN3_1, ixN3_2, gRowsD_ap, rowsOf_nil, rowsOf_cons, eMeth_ap, isL_l, isS_s, mAppend_ap, mExtend_ap, ownL_fr, gIn_ap, ownDct_fr, gT_apL, hSorted, hTuple, hList, hRev, sSeq_ap, sBrk_ap, sCnt_ap, sRet_ap, sRetN_ap, sDrop_ap, sIf_ap, sSet_ap, isMu_ap, sAsg_ap, gN_ap, gT_ap, gTs, sPar_ap, sSub_ap, own?_ap, putO_t, putO_f, sAug_ap, sFor_ap, eC_ap, eVar_ap, ePl_ap, eMv_ap, opS_ap, sNil_ap, sCons_ap, gOp_ap, vws_nil, vws_cons, vw_im, vw_fr, vw_frd, vw_frs, vw_frr, vw_pl, view_l, view_d, view_s, view_r, rs_d, rs_l, sl_im, sl_fr, fz_im, fz_fr, fzs_nil, fzs_cons, toD_l, toD_r, gTupD_ap, gLstD_ap, gIx_ap, gDGet_ap, ownDct_pl, keyOf_i, keyOf_s, gMul_ap, tB_ap, tNot_ap, tAnd_ap, tOr_ap, eNot_ap, eAnd_ap, eOr_ap, eIf_ap, tY_ap, eSl_ap, oN_ap, oI_ap, itOf_ap, itR1_ap, itR2_ap, eLc_ap, isIm_ap, eCall_ap, eCallM_ap, fnOf_ap, isPl_im, isPl_fr, eDspl_ap, sArgs_nil, sArgs_cons, mkD_nil, mkD_cons, keepMu_mu, keepMu_im, projS_nil, projS_cons, hAdd, hSub, hMul, hDiv, hMod, hPow, hNeg, hCmp, hEq, hNe, hIsN, hNotN, hIx, hLen, hInt, hAbs, hGcd, hMin, hMax, hCut, isi_ii, isi_ib, isi_tt, isi_ll, isM_un, isM_im, isM_ow, isM_mu, List.getElem?_cons_zero, List.getElem?_cons_succ, List.getElem?_nil, List.set_cons_zero, List.set_cons_succ, List.length_cons, List.length_nil, List.length_map, List.replicate_succ, List.replicate_zero, List.cons_append, List.nil_append, List.map_cons, List.map_nil, Nat.reduceAdd, Nat.zero_add, ne_eq, not_true_eq_false, not_false_eq_true, decide_false, decide_true, Bool.or_self, Bool.or_false, Bool.false_or, Bool.and_self, Bool.false_eq_true, if_false, if_true, reduceIte, szOk_2, szOk_1, szOk_0, szOk_3, lk_left, lk_seed, lk_cells, lk_spot, pt_left, pt_spot, len_mL, mSet, true_and, and_true, List.getD_eq_getElem?_getD, Option.getD_some, seqOf_l, seqOf_t, ↓hIx_sq, ↓hLen_sq, seqOf_sq, ↓hTuple_sq, fz_fr2, gRep_ap, eq_self, gSorted_ap, gSortD_ap, gSortS_ap, ownSet_pl, eDict1_ap, eChain_ap, gInD_ap, gInS_ap, mPop_ap, mAdd_ap, eSet0_ap, sWhile_ap, itEnumX_ap, eM2_ap, eTR1_ap, eLR1_ap, hLtD, m, hne1, h]
    | ow o => simp only [List.map_cons, forL, sNop_ap, row?_ap, eRowM_ap, sRowSub_ap, eRowLen_ap, eRowNil_ap, isUn_un, ixN3_0, ixN3_1, ixN3_2, gRowsD_ap, rowsOf_nil, rowsOf_cons, eMeth_ap, isL_l, isS_s, mAppend_ap, mExtend_ap, ownL_fr, gIn_ap, ownDct_fr, gT_apL, hSorted, hTuple, hList, hRev, sSeq_ap, sBrk_ap, sCnt_ap, sRet_ap, sRetN_ap, sDrop_ap, sIf_ap, sSet_ap, isMu_ap, sAsg_ap, gN_ap, gT_ap, gTs, sPar_ap, sSub_ap, own?_ap, putO_t, putO_f, sAug_ap, sFor_ap, eC_ap, eVar_ap, ePl_ap, eMv_ap, opS_ap, sNil_ap, sCons_ap, gOp_ap, vws_nil, vws_cons, vw_im, vw_fr, vw_frd, vw_frs, vw_frr, vw_pl, view_l, view_d, view_s, view_r, rs_d, rs_l, sl_im, sl_fr, fz_im, fz_fr, fzs_nil, fzs_cons, toD_l, toD_r, gTupD_ap, gLstD_ap, gIx_ap, gDGet_ap, ownDct_pl, keyOf_i, keyOf_s, gMul_ap, tB_ap, tNot_ap, tAnd_ap, tOr_ap, eNot_ap, eAnd_ap, eOr_ap, eIf_ap, tY_ap, eSl_ap, oN_ap, oI_ap, itOf_ap, itR1_ap, itR2_ap, eLc_ap, isIm_ap, eCall_ap, eCallM_ap, fnOf_ap, isPl_im, isPl_fr, eDspl_ap, sArgs_nil, sArgs_cons, mkD_nil, mkD_cons, keepMu_mu, keepMu_im, projS_nil, projS_cons, hAdd, hSub, hMul, hDiv, hMod, hPow, hNeg, hCmp, hEq, hNe, hIsN, hNotN, hIx, hLen, hInt, hAbs, hGcd, hMin, hMax, hCut, isi_ii, isi_ib, isi_tt, isi_ll, isM_un, isM_im, isM_ow, isM_mu, List.getElem?_cons_zero, List.getElem?_cons_succ, List.getElem?_nil, List.set_cons_zero, List.set_cons_succ, List.length_cons, List.length_nil, List.length_map, List.replicate_succ, List.replicate_zero, List.cons_append, List.nil_append, List.map_cons, List.map_nil, Nat.reduceAdd, Nat.zero_add, ne_eq, not_true_eq_false, not_false_eq_true, decide_false, decide_true, Bool.or_self, Bool.or_false, Bool.false_or, Bool.and_self, Bool.false_eq_true, if_false, if_true, reduceIte, szOk_2, szOk_1, szOk_0, szOk_3, lk_left, lk_seed, lk_cells, lk_spot, pt_left, pt_spot, len_mL, mSet, true_and, and_true, List.getD_eq_getElem?_getD, Option.getD_some, seqOf_l, seqOf_t, ↓hIx_sq, ↓hLen_sq, seqOf_sq, ↓hTuple_sq, fz_fr2, gRep_ap, eq_self, gSorted_ap, gSortD_ap, gSortS_ap, ownSet_pl, eDict1_ap, eChain_ap, gInD_ap, gInS_ap, mPop_ap, mAdd_ap, eSet0_ap, sWhile_ap, itEnumX_ap, eM2_ap, eTR1_ap, eLR1_ap, hLtD, m, hne1, h]
theorem begun_eq (ns : List Int) (k : Int) (hn : ns.length ≤ 1000) : ∃ m, f_law_begun [.im (.list (ns.map PyData.int)), .im (.int k)] = some (.fr m, [.un, .un]) ∧ Good 0 m := by
  have hm : mulOk 53 k = true := mulOk_l (by decide) (by decide)
  have l1 := cut_any ns (some k) none
  have l2 := cut_any ns none (some k)
  generalize e1 : cutD ns (some k) none = u at l1
  generalize e2 : cutD ns none (some k) = v at l2
  have c1 : cutD (ns.map PyData.int) (some k) none = u.map PyData.int := by rw [cutD_map, e1]
  have c2 : cutD (ns.map PyData.int) none (some k) = v.map PyData.int := by rw [cutD_map, e2]
  have z1 : szOk (u.length + v.length) = true := szOk_le (by omega)
  have z2 : szOk (u ++ v).length = true := szOk_le (by rw [List.length_append]; omega)
  have z3 : szOk ((u ++ v).length + 1) = true := szOk_le (by rw [List.length_append]; omega)
  have g := great_eq (.im (.list (ns.map PyData.int))) (.im (.int k)) (.im (.list ((u ++ v).map PyData.int))) (u ++ v)
  generalize e3 : ((u ++ v).filter fun i => decide (1000000000000000000 ≤ i)) = gr at g
  obtain ⟨e', s', hs⟩ := seed_eq (.im (.list (ns.map PyData.int))) (.im (.int k)) (.im (.list ((u ++ v).map PyData.int))) (.ow (.lst (gr.map PyData.int))) (u ++ v) .un (71 + k) rfl
  have ap : u.map PyData.int ++ v.map PyData.int = (u ++ v).map PyData.int := by rw [List.map_append]
  have ap1 : (u ++ v).map PyData.int ++ [PyData.int (53 * k + 11)] = ((u ++ v) ++ [53 * k + 11]).map PyData.int := by rw [List.map_append (l₁ := u ++ v)]; rfl
  have nd : decide (([.inr "left", .inr "seed", .inr "cells", .inr "spot"] : List Key).Nodup) = true := by decide
  have mk : ∀ l s c p : D, [((.inr "left" : Key), l), (.inr "seed", s), (.inr "cells", c), (.inr "spot", p)] = mL l s c p := fun _ _ _ _ => rfl
  cases gr with
  | nil =>
    refine ⟨.dct (mL (.int 0) (.int s') (.list (((u ++ v) ++ [53 * k + 11]).map .int)) (.int 0)), ?_, _, _, _, _, rfl, by simp, by decide, by decide⟩
    have sh : SeqAt.shaped (.list []) = true := sh_nil
    have ev : PyData.eqv (.list []) (.list []) = true := by decide
    rw [List.map_nil] at g hs
    unfold f_law_begun b_law_begun
    simp only [sNop_ap, row?_ap, eRowM_ap, sRowSub_ap, eRowLen_ap, eRowNil_ap, isUn_un, ixN3_0, ixN3_1, ixN3_2, gRowsD_ap, rowsOf_nil, rowsOf_cons, eMeth_ap, isL_l, isS_s, mAppend_ap, mExtend_ap, ownL_fr, gIn_ap, ownDct_fr, gT_apL, hSorted, hTuple, hList, hRev, sSeq_ap, sBrk_ap, sCnt_ap, sRet_ap, sRetN_ap, sDrop_ap, sIf_ap, sSet_ap, isMu_ap, sAsg_ap, gN_ap, gT_ap, gTs, sPar_ap, sSub_ap, own?_ap, putO_t, putO_f, sAug_ap, sFor_ap, eC_ap, eVar_ap, ePl_ap, eMv_ap, opS_ap, sNil_ap, sCons_ap, gOp_ap, vws_nil, vws_cons, vw_im, vw_fr, vw_frd, vw_frs, vw_frr, vw_pl, view_l, view_d, view_s, view_r, rs_d, rs_l, sl_im, sl_fr, fz_im, fz_fr, fzs_nil, fzs_cons, toD_l, toD_r, gTupD_ap, gLstD_ap, gIx_ap, gDGet_ap, ownDct_pl, keyOf_i, keyOf_s, gMul_ap, tB_ap, tNot_ap, tAnd_ap, tOr_ap, eNot_ap, eAnd_ap, eOr_ap, eIf_ap, tY_ap, eSl_ap, oN_ap, oI_ap, itOf_ap, itR1_ap, itR2_ap, eLc_ap, isIm_ap, eCall_ap, eCallM_ap, fnOf_ap, isPl_im, isPl_fr, eDspl_ap, sArgs_nil, sArgs_cons, mkD_nil, mkD_cons, keepMu_mu, keepMu_im, projS_nil, projS_cons, hAdd, hSub, hMul, hDiv, hMod, hPow, hNeg, hCmp, hEq, hNe, hIsN, hNotN, hIx, hLen, hInt, hAbs, hGcd, hMin, hMax, hCut, isi_ii, isi_ib, isi_tt, isi_ll, isM_un, isM_im, isM_ow, isM_mu, List.getElem?_cons_zero, List.getElem?_cons_succ, List.getElem?_nil, List.set_cons_zero, List.set_cons_succ, List.length_cons, List.length_nil, List.length_map, List.replicate_succ, List.replicate_zero, List.cons_append, List.nil_append, List.map_cons, List.map_nil, Nat.reduceAdd, Nat.zero_add, ne_eq, not_true_eq_false, not_false_eq_true, decide_false, decide_true, Bool.or_self, Bool.or_false, Bool.false_or, Bool.and_self, Bool.false_eq_true, if_false, if_true, reduceIte, szOk_2, szOk_1, szOk_0, szOk_3, lk_left, lk_seed, lk_cells, lk_spot, pt_left, pt_spot, len_mL, mSet, true_and, and_true, List.getD_eq_getElem?_getD, Option.getD_some, seqOf_l, seqOf_t, ↓hIx_sq, ↓hLen_sq, seqOf_sq, ↓hTuple_sq, fz_fr2, gRep_ap, eq_self, gSorted_ap, gSortD_ap, gSortS_ap, ownSet_pl, eDict1_ap, eChain_ap, gInD_ap, gInS_ap, mPop_ap, mAdd_ap, eSet0_ap, sWhile_ap, itEnumX_ap, eM2_ap, eTR1_ap, eLR1_ap, hLtD, hm, c1, c2, z1, z2, z3, ap, g, hs, sh, ev, ap1, nd, mk, Bool.not_true, List.getD, Option.getD]
  | cons x gr =>
    refine ⟨.dct (mL (.int x) (.int s') (.list (((u ++ v) ++ [53 * k + 11]).map .int)) (.int 0)), ?_, _, _, _, _, rfl, by simp, by decide, by decide⟩
    have sh : SeqAt.shaped (.list []) = true := sh_nil
    have sh2 : SeqAt.shaped (.list (PyData.int x :: gr.map PyData.int)) = true := sh_ints (x :: gr)
    have ev : PyData.eqv (.list (PyData.int x :: gr.map PyData.int)) (.list []) = false := eqv_ints (x :: gr) []
    have at0 : atI (PyData.int x :: gr.map PyData.int) 0 = some (.int x) := by
      unfold atI ixN
      rw [if_pos (by decide), if_pos (by rw [List.length_cons]; omega)]
      rfl
    rw [List.map_cons] at g hs
    unfold f_law_begun b_law_begun
    simp only [sNop_ap, row?_ap, eRowM_ap, sRowSub_ap, eRowLen_ap, eRowNil_ap, isUn_un, ixN3_0, ixN3_1, ixN3_2, gRowsD_ap, rowsOf_nil, rowsOf_cons, eMeth_ap, isL_l, isS_s, mAppend_ap, mExtend_ap, ownL_fr, gIn_ap, ownDct_fr, gT_apL, hSorted, hTuple, hList, hRev, sSeq_ap, sBrk_ap, sCnt_ap, sRet_ap, sRetN_ap, sDrop_ap, sIf_ap, sSet_ap, isMu_ap, sAsg_ap, gN_ap, gT_ap, gTs, sPar_ap, sSub_ap, own?_ap, putO_t, putO_f, sAug_ap, sFor_ap, eC_ap, eVar_ap, ePl_ap, eMv_ap, opS_ap, sNil_ap, sCons_ap, gOp_ap, vws_nil, vws_cons, vw_im, vw_fr, vw_frd, vw_frs, vw_frr, vw_pl, view_l, view_d, view_s, view_r, rs_d, rs_l, sl_im, sl_fr, fz_im, fz_fr, fzs_nil, fzs_cons, toD_l, toD_r, gTupD_ap, gLstD_ap, gIx_ap, gDGet_ap, ownDct_pl, keyOf_i, keyOf_s, gMul_ap, tB_ap, tNot_ap, tAnd_ap, tOr_ap, eNot_ap, eAnd_ap, eOr_ap, eIf_ap, tY_ap, eSl_ap, oN_ap, oI_ap, itOf_ap, itR1_ap, itR2_ap, eLc_ap, isIm_ap, eCall_ap, eCallM_ap, fnOf_ap, isPl_im, isPl_fr, eDspl_ap, sArgs_nil, sArgs_cons, mkD_nil, mkD_cons, keepMu_mu, keepMu_im, projS_nil, projS_cons, hAdd, hSub, hMul, hDiv, hMod, hPow, hNeg, hCmp, hEq, hNe, hIsN, hNotN, hIx, hLen, hInt, hAbs, hGcd, hMin, hMax, hCut, isi_ii, isi_ib, isi_tt, isi_ll, isM_un, isM_im, isM_ow, isM_mu, List.getElem?_cons_zero, List.getElem?_cons_succ, List.getElem?_nil, List.set_cons_zero, List.set_cons_succ, List.length_cons, List.length_nil, List.length_map, List.replicate_succ, List.replicate_zero, List.cons_append, List.nil_append, List.map_cons, List.map_nil, Nat.reduceAdd, Nat.zero_add, ne_eq, not_true_eq_false, not_false_eq_true, decide_false, decide_true, Bool.or_self, Bool.or_false, Bool.false_or, Bool.and_self, Bool.false_eq_true, if_false, if_true, reduceIte, szOk_2, szOk_1, szOk_0, szOk_3, lk_left, lk_seed, lk_cells, lk_spot, pt_left, pt_spot, len_mL, mSet, true_and, and_true, List.getD_eq_getElem?_getD, Option.getD_some, seqOf_l, seqOf_t, ↓hIx_sq, ↓hLen_sq, seqOf_sq, ↓hTuple_sq, fz_fr2, gRep_ap, eq_self, gSorted_ap, gSortD_ap, gSortS_ap, ownSet_pl, eDict1_ap, eChain_ap, gInD_ap, gInS_ap, mPop_ap, mAdd_ap, eSet0_ap, sWhile_ap, itEnumX_ap, eM2_ap, eTR1_ap, eLR1_ap, hLtD, hm, c1, c2, z1, z2, z3, ap, g, hs, sh, sh2, ev, at0, ap1, nd, mk, Bool.not_false, List.getD, Option.getD]
/-! ### lists of flags -/
def nD (l : List Nat) : List D := l.map fun i => PyData.int (i : Nat)
def gt (l : List Nat) (i : Nat) : Nat := l.getD i 0
theorem nD_len (l : List Nat) : (nD l).length = l.length := List.length_map _
theorem nD_app (a b : List Nat) : nD (a ++ b) = nD a ++ nD b := List.map_append
theorem nD_cons (a : Nat) (b : List Nat) : nD (a :: b) = .int (a : Nat) :: nD b := rfl
theorem nD_nil : nD [] = [] := rfl
theorem nD_ints (l : List Nat) : nD l = (l.map fun (i : Nat) => (i : Int)).map PyData.int := by
  unfold nD
  rw [List.map_map]; rfl
theorem ixN_nat {n i : Nat} (h : i < n) : ixN n (i : Int) = some i := by
  unfold ixN
  rw [if_pos (by omega), if_pos (by omega)]
  rfl
theorem at_l {α : Type} {l : List α} {i : Nat} (h : i < l.length) (d : α) : atI l (i : Int) = some (l.getD i d) := by
  unfold atI
  rw [ixN_nat h]
  show l[i]? = _
  rw [List.getD_eq_getElem?_getD, List.getElem?_eq_getElem h]
  rfl
theorem at_nD {l : List Nat} {i : Nat} (h : i < l.length) : atI (nD l) (i : Int) = some (.int (gt l i : Nat)) := by
  rw [at_l (by rw [nD_len]; exact h) (.int ((0 : Nat) : Int))]
  unfold nD gt
  rw [List.getD_eq_getElem?_getD, List.getD_eq_getElem?_getD, List.getElem?_map]
  cases l[i]? <;> rfl
theorem set_nD (l : List Nat) (i x : Nat) : (nD l).set i (.int (x : Nat)) = nD (l.set i x) := (List.map_set (f := fun i : Nat => PyData.int (i : Nat))).symm
theorem sh_nD (l : List Nat) : SeqAt.shaped (.list (nD l)) = true := by rw [nD_ints]; exact sh_ints _
theorem sh_nDT (l : List Nat) : SeqAt.shaped (.tuple (nD l)) = true := by rw [nD_ints]; exact sh_intsT _
theorem eqv_nD (l m : List Nat) : PyData.eqv (.list (nD l)) (.list (nD m)) = decide (l = m) := by
  rw [nD_ints, nD_ints, eqv_ints]
  by_cases h : l = m
  · subst h; simp
  · rw [decide_eq_false h, decide_eq_false fun z => h ((List.map_inj_right fun x y h => by omega).mp z)]
theorem eqv_nil (l : List Nat) : PyData.eqv (.list (nD l)) (.list []) = decide (l = []) := eqv_nD l []
theorem eqv_nat (i j : Nat) : PyData.eqv (.int (i : Nat)) (.int (j : Nat)) = decide (i = j) := by
  rw [eqv_int]
  by_cases h : i = j
  · subst h; simp
  · rw [decide_eq_false h, decide_eq_false (by omega)]
theorem gt_app {A L : List Nat} (i : Nat) : gt (A ++ L) i = if i < A.length then gt A i else gt L (i - A.length) := by
  unfold gt
  split
  · rename_i h
    rw [List.getD_eq_getElem?_getD, List.getD_eq_getElem?_getD, List.getElem?_append_left h]
  · rename_i h
    rw [List.getD_eq_getElem?_getD, List.getD_eq_getElem?_getD, List.getElem?_append_right (by omega)]
theorem gt_map {L : List Nat} {n k : Nat} (h : k < L.length) : gt (L.map (n + ·)) k = n + gt L k := by
  unfold gt
  rw [List.getD_eq_getElem?_getD, List.getD_eq_getElem?_getD, List.getElem?_map, List.getElem?_eq_getElem h]
  rfl
theorem gt_set {A : List Nat} {i x : Nat} (h : i < A.length) (k : Nat) : gt (A.set i x) k = if k = i then x else gt A k := by
  unfold gt
  rw [List.getD_eq_getElem?_getD, List.getD_eq_getElem?_getD]
  by_cases e : i = k
  · subst e
    rw [List.getElem?_set_self h, if_pos rfl]; rfl
  · rw [List.getElem?_set_ne e, if_neg (Ne.symm e)]
theorem gt_range {n k : Nat} (h : k < n) : gt (List.range n) k = k := by
  unfold gt
  rw [List.getD_eq_getElem?_getD, List.getElem?_range h]; rfl
theorem of_eq {n : Int} {m : O} {l : List D} (g : Good n m) (hn : n < 1000000000) (hl : l ≠ []) (hs : l.length ≤ 1000) : ∃ i m', i < l.length ∧ f_law_of [.mu m, .im (.list l)] = some (.im (l.getD i .none), [.mu m', .un]) ∧ Good (n + 1) m' := by
  have hp : 0 < l.length := List.length_pos_iff.mpr hl
  obtain ⟨v, m', e, h0, h1, g'⟩ := draw_eq (b := (l.length : Int)) g hn (by omega) (by omega)
  have hv : ((v.toNat : Nat) : Int) = v := Int.toNat_of_nonneg h0
  have hi : v.toNat < l.length := by omega
  have ha := at_l hi PyData.none
  rw [hv] at ha
  refine ⟨v.toNat, m', hi, ?_, g'⟩
  unfold f_law_of b_law_of
  simp only [sNop_ap, row?_ap, eRowM_ap, sRowSub_ap, eRowLen_ap, eRowNil_ap, isUn_un, ixN3_0, ixN3_1, ixN3_2, gRowsD_ap, rowsOf_nil, rowsOf_cons, eMeth_ap, isL_l, isS_s, mAppend_ap, mExtend_ap, ownL_fr, gIn_ap, ownDct_fr, gT_apL, hSorted, hTuple, hList, hRev, sSeq_ap, sBrk_ap, sCnt_ap, sRet_ap, sRetN_ap, sDrop_ap, sIf_ap, sSet_ap, isMu_ap, sAsg_ap, gN_ap, gT_ap, gTs, sPar_ap, sSub_ap, own?_ap, putO_t, putO_f, sAug_ap, sFor_ap, eC_ap, eVar_ap, ePl_ap, eMv_ap, opS_ap, sNil_ap, sCons_ap, gOp_ap, vws_nil, vws_cons, vw_im, vw_fr, vw_frd, vw_frs, vw_frr, vw_pl, view_l, view_d, view_s, view_r, rs_d, rs_l, sl_im, sl_fr, fz_im, fz_fr, fzs_nil, fzs_cons, toD_l, toD_r, gTupD_ap, gLstD_ap, gIx_ap, gDGet_ap, ownDct_pl, keyOf_i, keyOf_s, gMul_ap, tB_ap, tNot_ap, tAnd_ap, tOr_ap, eNot_ap, eAnd_ap, eOr_ap, eIf_ap, tY_ap, eSl_ap, oN_ap, oI_ap, itOf_ap, itR1_ap, itR2_ap, eLc_ap, isIm_ap, eCall_ap, eCallM_ap, fnOf_ap, isPl_im, isPl_fr, eDspl_ap, sArgs_nil, sArgs_cons, mkD_nil, mkD_cons, keepMu_mu, keepMu_im, projS_nil, projS_cons, hAdd, hSub, hMul, hDiv, hMod, hPow, hNeg, hCmp, hEq, hNe, hIsN, hNotN, hIx, hLen, hInt, hAbs, hGcd, hMin, hMax, hCut, isi_ii, isi_ib, isi_tt, isi_ll, isM_un, isM_im, isM_ow, isM_mu, List.getElem?_cons_zero, List.getElem?_cons_succ, List.getElem?_nil, List.set_cons_zero, List.set_cons_succ, List.length_cons, List.length_nil, List.length_map, List.replicate_succ, List.replicate_zero, List.cons_append, List.nil_append, List.map_cons, List.map_nil, Nat.reduceAdd, Nat.zero_add, ne_eq, not_true_eq_false, not_false_eq_true, decide_false, decide_true, Bool.or_self, Bool.or_false, Bool.false_or, Bool.and_self, Bool.false_eq_true, if_false, if_true, reduceIte, szOk_2, szOk_1, szOk_0, szOk_3, lk_left, lk_seed, lk_cells, lk_spot, pt_left, pt_spot, len_mL, mSet, true_and, and_true, List.getD_eq_getElem?_getD, Option.getD_some, seqOf_l, seqOf_t, ↓hIx_sq, ↓hLen_sq, seqOf_sq, ↓hTuple_sq, fz_fr2, gRep_ap, eq_self, gSorted_ap, gSortD_ap, gSortS_ap, ownSet_pl, eDict1_ap, eChain_ap, gInD_ap, gInS_ap, mPop_ap, mAdd_ap, eSet0_ap, sWhile_ap, itEnumX_ap, eM2_ap, eTR1_ap, eLR1_ap, hLtD, e, ha]
/-! ### the five words -/
def wN : Nat → Str
  | 0 => "four" | 1 => "zero" | 2 => "two" | 3 => "both" | _ => "one"
def wA : Nat → List Nat
  | 0 => [1, 0, 3, 2] | 1 => [1, 0] | 2 => [0, 1] | 3 => [1, 0] | _ => [0]
def wC : Nat → List Nat
  | 0 => [2, 3, 0, 1] | 1 => [0, 1] | 2 => [1, 0] | 3 => [1, 0] | _ => [0]
def wS : Nat → Nat
  | 0 => 4 | 1 => 2 | 2 => 2 | 3 => 2 | _ => 1
def m5 (a b c d e : D) : List (Key × D) := [(.inr "four", a), (.inr "zero", b), (.inr "two", c), (.inr "both", d), (.inr "one", e)]
theorem mk5 (a b c d e : D) : [((.inr "four" : Key), a), (.inr "zero", b), (.inr "two", c), (.inr "both", d), (.inr "one", e)] = m5 a b c d e := rfl
theorem nd5 : decide (([.inr "four", .inr "zero", .inr "two", .inr "both", .inr "one"] : List Key).Nodup) = true := by decide
section
variable {a b c d e : D}
theorem lk_1 : lookK (m5 a b c d e) (.inr "four") = some a := rfl
theorem lk_2 : lookK (m5 a b c d e) (.inr "zero") = some b := rfl
theorem lk_3 : lookK (m5 a b c d e) (.inr "two") = some c := rfl
theorem lk_4 : lookK (m5 a b c d e) (.inr "both") = some d := rfl
theorem lk_5 : lookK (m5 a b c d e) (.inr "one") = some e := rfl
end
theorem rn1 : rngD 0 ((1 : Nat) : Int).toNat = [.int 0] := rfl
theorem rn2 : rngD 0 ((2 : Nat) : Int).toNat = [.int 0, .int 1] := rfl
theorem rn4 : rngD 0 ((4 : Nat) : Int).toNat = [.int 0, .int 1, .int 2, .int 3] := rfl
theorem s61 : small62 ((1 : Nat) : Int) = true := by decide
theorem s62 : small62 ((2 : Nat) : Int) = true := by decide
theorem s64 : small62 ((4 : Nat) : Int) = true := by decide
def putA (j : Nat) (A : List Nat) : List Nat := A ++ (wA j).map (A.length + ·)
def putB (j : Nat) (B : List Nat) : List Nat := B ++ (List.range (wS j)).map (B.length + ·)
def putC (j : Nat) (C : List Nat) : List Nat := C ++ (wC j).map (C.length + ·)
theorem put_eq (j : Nat) (hj : j < 5) {A B C : List Nat} {n : Nat} (ha : A.length = n) (hb : B.length = n) (hc : C.length = n) (hn : n ≤ 1000) :
    f_law_put [.mu (.rows [nD A, nD B, nD C]), .im (.str (wN j))] = some (.im (.int (wS j : Nat)), [.mu (.rows [nD (putA j A), nD (putB j B), nD (putC j C)]), .un]) := by
  have z4 : szOk (n + 4) = true := szOk_le (by omega)
  have z2 : szOk (n + 2) = true := szOk_le (by omega)
  have z1 : szOk (n + 1) = true := szOk_le (by omega)
  have la : (nD A).length = n := by rw [nD_len, ha]
  have lb : (nD B).length = n := by rw [nD_len, hb]
  have lc : (nD C).length = n := by rw [nD_len, hc]
  unfold f_law_put b_law_put putA putB putC
  rw [ha, hb, hc]
  match j, hj with
  | 0, _ => simp only [sNop_ap, row?_ap, eRowM_ap, sRowSub_ap, eRowLen_ap, eRowNil_ap, isUn_un, ixN3_0, ixN3_1, ixN3_2, gRowsD_ap, rowsOf_nil, rowsOf_cons, eMeth_ap, isL_l, isS_s, mAppend_ap, mExtend_ap, ownL_fr, gIn_ap, ownDct_fr, gT_apL, hSorted, hTuple, hList, hRev, sSeq_ap, sBrk_ap, sCnt_ap, sRet_ap, sRetN_ap, sDrop_ap, sIf_ap, sSet_ap, isMu_ap, sAsg_ap, gN_ap, gT_ap, gTs, sPar_ap, sSub_ap, own?_ap, putO_t, putO_f, sAug_ap, sFor_ap, eC_ap, eVar_ap, ePl_ap, eMv_ap, opS_ap, sNil_ap, sCons_ap, gOp_ap, vws_nil, vws_cons, vw_im, vw_fr, vw_frd, vw_frs, vw_frr, vw_pl, view_l, view_d, view_s, view_r, rs_d, rs_l, sl_im, sl_fr, fz_im, fz_fr, fzs_nil, fzs_cons, toD_l, toD_r, gTupD_ap, gLstD_ap, gIx_ap, gDGet_ap, ownDct_pl, keyOf_i, keyOf_s, gMul_ap, tB_ap, tNot_ap, tAnd_ap, tOr_ap, eNot_ap, eAnd_ap, eOr_ap, eIf_ap, tY_ap, eSl_ap, oN_ap, oI_ap, itOf_ap, itR1_ap, itR2_ap, eLc_ap, isIm_ap, eCall_ap, eCallM_ap, fnOf_ap, isPl_im, isPl_fr, eDspl_ap, sArgs_nil, sArgs_cons, mkD_nil, mkD_cons, keepMu_mu, keepMu_im, projS_nil, projS_cons, hAdd, hSub, hMul, hDiv, hMod, hPow, hNeg, hCmp, hEq, hNe, hIsN, hNotN, hIx, hLen, hInt, hAbs, hGcd, hMin, hMax, hCut, isi_ii, isi_ib, isi_tt, isi_ll, isM_un, isM_im, isM_ow, isM_mu, List.getElem?_cons_zero, List.getElem?_cons_succ, List.getElem?_nil, List.set_cons_zero, List.set_cons_succ, List.length_cons, List.length_nil, List.length_map, List.replicate_succ, List.replicate_zero, List.cons_append, List.nil_append, List.map_cons, List.map_nil, Nat.reduceAdd, Nat.zero_add, ne_eq, not_true_eq_false, not_false_eq_true, decide_false, decide_true, Bool.or_self, Bool.or_false, Bool.false_or, Bool.and_self, Bool.false_eq_true, if_false, if_true, reduceIte, szOk_2, szOk_1, szOk_0, szOk_3, lk_left, lk_seed, lk_cells, lk_spot, pt_left, pt_spot, len_mL, mSet, true_and, and_true, List.getD_eq_getElem?_getD, Option.getD_some, seqOf_l, seqOf_t, ↓hIx_sq, ↓hLen_sq, seqOf_sq, ↓hTuple_sq, fz_fr2, gRep_ap, eq_self, gSorted_ap, gSortD_ap, gSortS_ap, ownSet_pl, eDict1_ap, eChain_ap, gInD_ap, gInS_ap, mPop_ap, mAdd_ap, eSet0_ap, sWhile_ap, itEnumX_ap, eM2_ap, eTR1_ap, eLR1_ap, hLtD, wN, wA, wC, wS, mk5, nd5, lk_1, lk_2, lk_3, lk_4, lk_5, rn1, rn2, rn4, s61, s62, s64, szOk_4, szOk_5, lcL, z4, nD_app, nD_cons, nD_nil, la, lb, lc, Int.natCast_add]; rfl
  | 1, _ => simp only [sNop_ap, row?_ap, eRowM_ap, sRowSub_ap, eRowLen_ap, eRowNil_ap, isUn_un, ixN3_0, ixN3_1, ixN3_2, gRowsD_ap, rowsOf_nil, rowsOf_cons, eMeth_ap, isL_l, isS_s, mAppend_ap, mExtend_ap, ownL_fr, gIn_ap, ownDct_fr, gT_apL, hSorted, hTuple, hList, hRev, sSeq_ap, sBrk_ap, sCnt_ap, sRet_ap, sRetN_ap, sDrop_ap, sIf_ap, sSet_ap, isMu_ap, sAsg_ap, gN_ap, gT_ap, gTs, sPar_ap, sSub_ap, own?_ap, putO_t, putO_f, sAug_ap, sFor_ap, eC_ap, eVar_ap, ePl_ap, eMv_ap, opS_ap, sNil_ap, sCons_ap, gOp_ap, vws_nil, vws_cons, vw_im, vw_fr, vw_frd, vw_frs, vw_frr, vw_pl, view_l, view_d, view_s, view_r, rs_d, rs_l, sl_im, sl_fr, fz_im, fz_fr, fzs_nil, fzs_cons, toD_l, toD_r, gTupD_ap, gLstD_ap, gIx_ap, gDGet_ap, ownDct_pl, keyOf_i, keyOf_s, gMul_ap, tB_ap, tNot_ap, tAnd_ap, tOr_ap, eNot_ap, eAnd_ap, eOr_ap, eIf_ap, tY_ap, eSl_ap, oN_ap, oI_ap, itOf_ap, itR1_ap, itR2_ap, eLc_ap, isIm_ap, eCall_ap, eCallM_ap, fnOf_ap, isPl_im, isPl_fr, eDspl_ap, sArgs_nil, sArgs_cons, mkD_nil, mkD_cons, keepMu_mu, keepMu_im, projS_nil, projS_cons, hAdd, hSub, hMul, hDiv, hMod, hPow, hNeg, hCmp, hEq, hNe, hIsN, hNotN, hIx, hLen, hInt, hAbs, hGcd, hMin, hMax, hCut, isi_ii, isi_ib, isi_tt, isi_ll, isM_un, isM_im, isM_ow, isM_mu, List.getElem?_cons_zero, List.getElem?_cons_succ, List.getElem?_nil, List.set_cons_zero, List.set_cons_succ, List.length_cons, List.length_nil, List.length_map, List.replicate_succ, List.replicate_zero, List.cons_append, List.nil_append, List.map_cons, List.map_nil, Nat.reduceAdd, Nat.zero_add, ne_eq, not_true_eq_false, not_false_eq_true, decide_false, decide_true, Bool.or_self, Bool.or_false, Bool.false_or, Bool.and_self, Bool.false_eq_true, if_false, if_true, reduceIte, szOk_2, szOk_1, szOk_0, szOk_3, lk_left, lk_seed, lk_cells, lk_spot, pt_left, pt_spot, len_mL, mSet, true_and, and_true, List.getD_eq_getElem?_getD, Option.getD_some, seqOf_l, seqOf_t, ↓hIx_sq, ↓hLen_sq, seqOf_sq, ↓hTuple_sq, fz_fr2, gRep_ap, eq_self, gSorted_ap, gSortD_ap, gSortS_ap, ownSet_pl, eDict1_ap, eChain_ap, gInD_ap, gInS_ap, mPop_ap, mAdd_ap, eSet0_ap, sWhile_ap, itEnumX_ap, eM2_ap, eTR1_ap, eLR1_ap, hLtD, wN, wA, wC, wS, mk5, nd5, lk_1, lk_2, lk_3, lk_4, lk_5, rn1, rn2, rn4, s61, s62, s64, szOk_4, szOk_5, lcL, z2, nD_app, nD_cons, nD_nil, la, lb, lc, Int.natCast_add]; rfl
  | 2, _ => simp only [sNop_ap, row?_ap, eRowM_ap, sRowSub_ap, eRowLen_ap, eRowNil_ap, isUn_un, ixN3_0, ixN3_1, ixN3_2, gRowsD_ap, rowsOf_nil, rowsOf_cons, eMeth_ap, isL_l, isS_s, mAppend_ap, mExtend_ap, ownL_fr, gIn_ap, ownDct_fr, gT_apL, hSorted, hTuple, hList, hRev, sSeq_ap, sBrk_ap, sCnt_ap, sRet_ap, sRetN_ap, sDrop_ap, sIf_ap, sSet_ap, isMu_ap, sAsg_ap, gN_ap, gT_ap, gTs, sPar_ap, sSub_ap, own?_ap, putO_t, putO_f, sAug_ap, sFor_ap, eC_ap, eVar_ap, ePl_ap, eMv_ap, opS_ap, sNil_ap, sCons_ap, gOp_ap, vws_nil, vws_cons, vw_im, vw_fr, vw_frd, vw_frs, vw_frr, vw_pl, view_l, view_d, view_s, view_r, rs_d, rs_l, sl_im, sl_fr, fz_im, fz_fr, fzs_nil, fzs_cons, toD_l, toD_r, gTupD_ap, gLstD_ap, gIx_ap, gDGet_ap, ownDct_pl, keyOf_i, keyOf_s, gMul_ap, tB_ap, tNot_ap, tAnd_ap, tOr_ap, eNot_ap, eAnd_ap, eOr_ap, eIf_ap, tY_ap, eSl_ap, oN_ap, oI_ap, itOf_ap, itR1_ap, itR2_ap, eLc_ap, isIm_ap, eCall_ap, eCallM_ap, fnOf_ap, isPl_im, isPl_fr, eDspl_ap, sArgs_nil, sArgs_cons, mkD_nil, mkD_cons, keepMu_mu, keepMu_im, projS_nil, projS_cons, hAdd, hSub, hMul, hDiv, hMod, hPow, hNeg, hCmp, hEq, hNe, hIsN, hNotN, hIx, hLen, hInt, hAbs, hGcd, hMin, hMax, hCut, isi_ii, isi_ib, isi_tt, isi_ll, isM_un, isM_im, isM_ow, isM_mu, List.getElem?_cons_zero, List.getElem?_cons_succ, List.getElem?_nil, List.set_cons_zero, List.set_cons_succ, List.length_cons, List.length_nil, List.length_map, List.replicate_succ, List.replicate_zero, List.cons_append, List.nil_append, List.map_cons, List.map_nil, Nat.reduceAdd, Nat.zero_add, ne_eq, not_true_eq_false, not_false_eq_true, decide_false, decide_true, Bool.or_self, Bool.or_false, Bool.false_or, Bool.and_self, Bool.false_eq_true, if_false, if_true, reduceIte, szOk_2, szOk_1, szOk_0, szOk_3, lk_left, lk_seed, lk_cells, lk_spot, pt_left, pt_spot, len_mL, mSet, true_and, and_true, List.getD_eq_getElem?_getD, Option.getD_some, seqOf_l, seqOf_t, ↓hIx_sq, ↓hLen_sq, seqOf_sq, ↓hTuple_sq, fz_fr2, gRep_ap, eq_self, gSorted_ap, gSortD_ap, gSortS_ap, ownSet_pl, eDict1_ap, eChain_ap, gInD_ap, gInS_ap, mPop_ap, mAdd_ap, eSet0_ap, sWhile_ap, itEnumX_ap, eM2_ap, eTR1_ap, eLR1_ap, hLtD, wN, wA, wC, wS, mk5, nd5, lk_1, lk_2, lk_3, lk_4, lk_5, rn1, rn2, rn4, s61, s62, s64, szOk_4, szOk_5, lcL, z2, nD_app, nD_cons, nD_nil, la, lb, lc, Int.natCast_add]; rfl
  | 3, _ => simp only [sNop_ap, row?_ap, eRowM_ap, sRowSub_ap, eRowLen_ap, eRowNil_ap, isUn_un, ixN3_0, ixN3_1, ixN3_2, gRowsD_ap, rowsOf_nil, rowsOf_cons, eMeth_ap, isL_l, isS_s, mAppend_ap, mExtend_ap, ownL_fr, gIn_ap, ownDct_fr, gT_apL, hSorted, hTuple, hList, hRev, sSeq_ap, sBrk_ap, sCnt_ap, sRet_ap, sRetN_ap, sDrop_ap, sIf_ap, sSet_ap, isMu_ap, sAsg_ap, gN_ap, gT_ap, gTs, sPar_ap, sSub_ap, own?_ap, putO_t, putO_f, sAug_ap, sFor_ap, eC_ap, eVar_ap, ePl_ap, eMv_ap, opS_ap, sNil_ap, sCons_ap, gOp_ap, vws_nil, vws_cons, vw_im, vw_fr, vw_frd, vw_frs, vw_frr, vw_pl, view_l, view_d, view_s, view_r, rs_d, rs_l, sl_im, sl_fr, fz_im, fz_fr, fzs_nil, fzs_cons, toD_l, toD_r, gTupD_ap, gLstD_ap, gIx_ap, gDGet_ap, ownDct_pl, keyOf_i, keyOf_s, gMul_ap, tB_ap, tNot_ap, tAnd_ap, tOr_ap, eNot_ap, eAnd_ap, eOr_ap, eIf_ap, tY_ap, eSl_ap, oN_ap, oI_ap, itOf_ap, itR1_ap, itR2_ap, eLc_ap, isIm_ap, eCall_ap, eCallM_ap, fnOf_ap, isPl_im, isPl_fr, eDspl_ap, sArgs_nil, sArgs_cons, mkD_nil, mkD_cons, keepMu_mu, keepMu_im, projS_nil, projS_cons, hAdd, hSub, hMul, hDiv, hMod, hPow, hNeg, hCmp, hEq, hNe, hIsN, hNotN, hIx, hLen, hInt, hAbs, hGcd, hMin, hMax, hCut, isi_ii, isi_ib, isi_tt, isi_ll, isM_un, isM_im, isM_ow, isM_mu, List.getElem?_cons_zero, List.getElem?_cons_succ, List.getElem?_nil, List.set_cons_zero, List.set_cons_succ, List.length_cons, List.length_nil, List.length_map, List.replicate_succ, List.replicate_zero, List.cons_append, List.nil_append, List.map_cons, List.map_nil, Nat.reduceAdd, Nat.zero_add, ne_eq, not_true_eq_false, not_false_eq_true, decide_false, decide_true, Bool.or_self, Bool.or_false, Bool.false_or, Bool.and_self, Bool.false_eq_true, if_false, if_true, reduceIte, szOk_2, szOk_1, szOk_0, szOk_3, lk_left, lk_seed, lk_cells, lk_spot, pt_left, pt_spot, len_mL, mSet, true_and, and_true, List.getD_eq_getElem?_getD, Option.getD_some, seqOf_l, seqOf_t, ↓hIx_sq, ↓hLen_sq, seqOf_sq, ↓hTuple_sq, fz_fr2, gRep_ap, eq_self, gSorted_ap, gSortD_ap, gSortS_ap, ownSet_pl, eDict1_ap, eChain_ap, gInD_ap, gInS_ap, mPop_ap, mAdd_ap, eSet0_ap, sWhile_ap, itEnumX_ap, eM2_ap, eTR1_ap, eLR1_ap, hLtD, wN, wA, wC, wS, mk5, nd5, lk_1, lk_2, lk_3, lk_4, lk_5, rn1, rn2, rn4, s61, s62, s64, szOk_4, szOk_5, lcL, z2, nD_app, nD_cons, nD_nil, la, lb, lc, Int.natCast_add]; rfl
  | 4, _ => simp only [sNop_ap, row?_ap, eRowM_ap, sRowSub_ap, eRowLen_ap, eRowNil_ap, isUn_un, ixN3_0, ixN3_1, ixN3_2, gRowsD_ap, rowsOf_nil, rowsOf_cons, eMeth_ap, isL_l, isS_s, mAppend_ap, mExtend_ap, ownL_fr, gIn_ap, ownDct_fr, gT_apL, hSorted, hTuple, hList, hRev, sSeq_ap, sBrk_ap, sCnt_ap, sRet_ap, sRetN_ap, sDrop_ap, sIf_ap, sSet_ap, isMu_ap, sAsg_ap, gN_ap, gT_ap, gTs, sPar_ap, sSub_ap, own?_ap, putO_t, putO_f, sAug_ap, sFor_ap, eC_ap, eVar_ap, ePl_ap, eMv_ap, opS_ap, sNil_ap, sCons_ap, gOp_ap, vws_nil, vws_cons, vw_im, vw_fr, vw_frd, vw_frs, vw_frr, vw_pl, view_l, view_d, view_s, view_r, rs_d, rs_l, sl_im, sl_fr, fz_im, fz_fr, fzs_nil, fzs_cons, toD_l, toD_r, gTupD_ap, gLstD_ap, gIx_ap, gDGet_ap, ownDct_pl, keyOf_i, keyOf_s, gMul_ap, tB_ap, tNot_ap, tAnd_ap, tOr_ap, eNot_ap, eAnd_ap, eOr_ap, eIf_ap, tY_ap, eSl_ap, oN_ap, oI_ap, itOf_ap, itR1_ap, itR2_ap, eLc_ap, isIm_ap, eCall_ap, eCallM_ap, fnOf_ap, isPl_im, isPl_fr, eDspl_ap, sArgs_nil, sArgs_cons, mkD_nil, mkD_cons, keepMu_mu, keepMu_im, projS_nil, projS_cons, hAdd, hSub, hMul, hDiv, hMod, hPow, hNeg, hCmp, hEq, hNe, hIsN, hNotN, hIx, hLen, hInt, hAbs, hGcd, hMin, hMax, hCut, isi_ii, isi_ib, isi_tt, isi_ll, isM_un, isM_im, isM_ow, isM_mu, List.getElem?_cons_zero, List.getElem?_cons_succ, List.getElem?_nil, List.set_cons_zero, List.set_cons_succ, List.length_cons, List.length_nil, List.length_map, List.replicate_succ, List.replicate_zero, List.cons_append, List.nil_append, List.map_cons, List.map_nil, Nat.reduceAdd, Nat.zero_add, ne_eq, not_true_eq_false, not_false_eq_true, decide_false, decide_true, Bool.or_self, Bool.or_false, Bool.false_or, Bool.and_self, Bool.false_eq_true, if_false, if_true, reduceIte, szOk_2, szOk_1, szOk_0, szOk_3, lk_left, lk_seed, lk_cells, lk_spot, pt_left, pt_spot, len_mL, mSet, true_and, and_true, List.getD_eq_getElem?_getD, Option.getD_some, seqOf_l, seqOf_t, ↓hIx_sq, ↓hLen_sq, seqOf_sq, ↓hTuple_sq, fz_fr2, gRep_ap, eq_self, gSorted_ap, gSortD_ap, gSortS_ap, ownSet_pl, eDict1_ap, eChain_ap, gInD_ap, gInS_ap, mPop_ap, mAdd_ap, eSet0_ap, sWhile_ap, itEnumX_ap, eM2_ap, eTR1_ap, eLR1_ap, hLtD, wN, wA, wC, wS, mk5, nd5, lk_1, lk_2, lk_3, lk_4, lk_5, rn1, rn2, rn4, s61, s62, s64, szOk_4, szOk_5, lcL, z1, nD_app, nD_cons, nD_nil, la, lb, lc, Int.natCast_add]; rfl
/-! ### frames: three involutions, the first and the third commute, all flags reached from flag 0 -/
structure FI (n : Nat) (A B C : List Nat) : Prop where
  la : A.length = n
  lb : B.length = n
  lc : C.length = n
  ra : ∀ i, i < n → gt A i < n ∧ gt A (gt A i) = i
  rb : ∀ i, i < n → gt B i < n ∧ gt B (gt B i) = i
  rc : ∀ i, i < n → gt C i < n ∧ gt C (gt C i) = i
  cm : ∀ i, i < n → gt C (gt A i) = gt A (gt C i)
  cn : ∀ P : Nat → Prop, P 0 → (∀ i, i < n → P i → P (gt A i) ∧ P (gt B i) ∧ P (gt C i)) → ∀ i, i < n → P i
structure Fre (n : Nat) (B free : List Nat) : Prop where
  fx : ∀ x ∈ free, x < n ∧ gt B x = x
  nd : free.Nodup
structure Wok (s : Nat) (a c : List Nat) : Prop where
  pos : 0 < s
  la : a.length = s
  lc : c.length = s
  ra : ∀ k, k < s → gt a k < s ∧ gt a (gt a k) = k
  rc : ∀ k, k < s → gt c k < s ∧ gt c (gt c k) = k
  cm : ∀ k, k < s → gt c (gt a k) = gt a (gt c k)
  cn : ∀ k, k < s → k = 0 ∨ k = gt a 0 ∨ k = gt c 0 ∨ k = gt c (gt a 0)
theorem wok (j : Nat) (hj : j < 5) : Wok (wS j) (wA j) (wC j) ∧ wS j ≤ 4 := by
  match j, hj with
  | 0, _ => exact ⟨⟨by decide, rfl, rfl, by decide, by decide, by decide, by decide⟩, by decide⟩
  | 1, _ => exact ⟨⟨by decide, rfl, rfl, by decide, by decide, by decide, by decide⟩, by decide⟩
  | 2, _ => exact ⟨⟨by decide, rfl, rfl, by decide, by decide, by decide, by decide⟩, by decide⟩
  | 3, _ => exact ⟨⟨by decide, rfl, rfl, by decide, by decide, by decide, by decide⟩, by decide⟩
  | 4, _ => exact ⟨⟨by decide, rfl, rfl, by decide, by decide, by decide, by decide⟩, by decide⟩
section
variable {n s : Nat} {A B C a c : List Nat}
theorem gt_old (h : A.length = n) {L : List Nat} {i : Nat} (hi : i < n) : gt (A ++ L) i = gt A i := by
  rw [gt_app, if_pos (by omega)]
theorem gt_new (h : A.length = n) {L : List Nat} {k : Nat} (hk : k < L.length) : gt (A ++ L.map (n + ·)) (n + k) = n + gt L k := by
  rw [gt_app, if_neg (by omega), h, Nat.add_sub_cancel_left, gt_map hk]
/-- a list put behind another: an involution -/
theorem inv_app (h : A.length = n) (ra : ∀ i, i < n → gt A i < n ∧ gt A (gt A i) = i) (ha : a.length = s) (rs : ∀ k, k < s → gt a k < s ∧ gt a (gt a k) = k) : ∀ i, i < n + s → gt (A ++ a.map (n + ·)) i < n + s ∧ gt (A ++ a.map (n + ·)) (gt (A ++ a.map (n + ·)) i) = i := by
  intro i hi
  by_cases h1 : i < n
  · obtain ⟨x, y⟩ := ra i h1
    rw [gt_old h h1, gt_old h x]
    exact ⟨by omega, y⟩
  · obtain ⟨k, rfl⟩ : ∃ k, i = n + k := ⟨i - n, by omega⟩
    obtain ⟨x, y⟩ := rs k (by omega)
    rw [gt_new h (by omega), gt_new h (by omega), y]
    exact ⟨by omega, rfl⟩
theorem range_inv : ∀ k, k < s → gt (List.range s) k < s ∧ gt (List.range s) (gt (List.range s) k) = k := fun k hk => by
  rw [gt_range hk, gt_range hk]; exact ⟨hk, rfl⟩
theorem cm_app (F : FI n A B C) (w : Wok s a c) : ∀ i, i < n + s → gt (C ++ c.map (n + ·)) (gt (A ++ a.map (n + ·)) i) = gt (A ++ a.map (n + ·)) (gt (C ++ c.map (n + ·)) i) := by
  intro i hi
  by_cases h1 : i < n
  · rw [gt_old F.la h1, gt_old F.lc h1, gt_old F.lc (F.ra i h1).1, gt_old F.la (F.rc i h1).1, F.cm i h1]
  · obtain ⟨k, rfl⟩ : ∃ k, i = n + k := ⟨i - n, by omega⟩
    have hk : k < s := by omega
    have e1 := gt_new F.la (L := a) (k := k) (by rw [w.la]; exact hk)
    have e2 := gt_new F.lc (L := c) (k := gt a k) (by rw [w.lc]; exact (w.ra k hk).1)
    have e3 := gt_new F.lc (L := c) (k := k) (by rw [w.lc]; exact hk)
    have e4 := gt_new F.la (L := a) (k := gt c k) (by rw [w.la]; exact (w.rc k hk).1)
    rw [e1, e2, e3, e4, w.cm k hk]
/-- two that stay where they are, joined -/
theorem join_inv {x y : Nat} (hb : B.length = n) (rb : ∀ i, i < n → gt B i < n ∧ gt B (gt B i) = i) (hx : x < n) (hy : y < n) (fx : gt B x = x) (fy : gt B y = y) : ∀ i, i < n → gt ((B.set x y).set y x) i < n ∧ gt ((B.set x y).set y x) (gt ((B.set x y).set y x) i) = i := by
  have g : ∀ i, gt ((B.set x y).set y x) i = if i = y then x else if i = x then y else gt B i := fun i => by
    rw [gt_set (by rw [List.length_set]; omega), gt_set (by omega)]
  intro i hi
  rw [g, g]
  by_cases h1 : i = y
  · subst h1
    rw [if_pos rfl]
    by_cases h2 : x = i
    · subst h2; simp [hx]
    · rw [if_neg h2, if_pos rfl]; exact ⟨hx, rfl⟩
  · rw [if_neg h1]
    by_cases h2 : i = x
    · subst h2
      rw [if_pos rfl, if_pos rfl]; exact ⟨hy, rfl⟩
    · rw [if_neg h2]
      obtain ⟨p, q⟩ := rb i hi
      have n1 : gt B i ≠ y := fun e => by
        rw [e, fy] at q; exact h1 q.symm
      have n2 : gt B i ≠ x := fun e => by
        rw [e, fx] at q; exact h2 q.symm
      rw [if_neg n1, if_neg n2]; exact ⟨p, q⟩
theorem join_gt {x y : Nat} (hb : B.length = n) (hx : x < n) (hy : y < n) (i : Nat) : gt ((B.set x y).set y x) i = if i = y then x else if i = x then y else gt B i := by
  rw [gt_set (by rw [List.length_set]; omega), gt_set (by omega)]
theorem FI.join (F : FI n A B C) {x y : Nat} (hx : x < n) (hy : y < n) (fx : gt B x = x) (fy : gt B y = y) : FI n A ((B.set x y).set y x) C := by
  refine ⟨F.la, by rw [List.length_set, List.length_set]; exact F.lb, F.lc, F.ra, join_inv F.lb F.rb hx hy fx fy, F.rc, F.cm, fun P p0 h => F.cn P p0 fun i hi pi => ?_⟩
  obtain ⟨h1, h2, h3⟩ := h i hi pi
  rw [join_gt F.lb hx hy] at h2
  refine ⟨h1, ?_, h3⟩
  by_cases e1 : i = y
  · subst e1; rw [fy]; exact pi
  · rw [if_neg e1] at h2
    by_cases e2 : i = x
    · subst e2; rw [fx]; exact pi
    · rw [if_neg e2] at h2; exact h2
theorem FI.first (w : Wok s a c) : FI s ([] ++ a.map ((0 : Nat) + ·)) ([] ++ (List.range s).map ((0 : Nat) + ·)) ([] ++ c.map ((0 : Nat) + ·)) := by
  have z : ∀ l : List Nat, [] ++ l.map ((0 : Nat) + ·) = l := fun l => by
    rw [List.nil_append]
    exact (List.map_congr_left fun x _ => Nat.zero_add x).trans (List.map_id l)
  rw [z, z, z]
  refine ⟨w.la, List.length_range, w.lc, w.ra, range_inv, w.rc, w.cm, fun P p0 h i hi => ?_⟩
  have h0 := h 0 w.pos p0
  rcases w.cn i hi with e | e | e | e
  · rw [e]; exact p0
  · rw [e]; exact h0.1
  · rw [e]; exact h0.2.2
  · rw [e]; exact (h _ (w.ra 0 w.pos).1 h0.1).2.2
theorem FI.more (F : FI n A B C) (w : Wok s a c) (hn : 0 < n) {x : Nat} (hx : x < n) (fx : gt B x = x) : FI (n + s) (A ++ a.map (n + ·)) (((B ++ (List.range s).map (n + ·)).set x n).set n x) (C ++ c.map (n + ·)) := by
  have lB : (B ++ (List.range s).map (n + ·)).length = n + s := by rw [List.length_append, List.length_map, List.length_range, F.lb]
  have rB := inv_app F.lb F.rb (List.length_range (n := s)) range_inv
  have fxB : gt (B ++ (List.range s).map (n + ·)) x = x := by rw [gt_old F.lb hx, fx]
  have ws := w.pos
  have fnB : gt (B ++ (List.range s).map (n + ·)) n = n := by
    have := gt_new F.lb (L := List.range s) (k := 0) (by rw [List.length_range]; exact w.pos)
    rw [Nat.add_zero, gt_range w.pos, Nat.add_zero] at this
    exact this
  refine ⟨by rw [List.length_append, List.length_map, F.la, w.la], by rw [List.length_set, List.length_set, lB], by rw [List.length_append, List.length_map, F.lc, w.lc], inv_app F.la F.ra w.la w.ra,
    join_inv lB rB (by omega) (by omega) fxB fnB, inv_app F.lc F.rc w.lc w.rc, cm_app F w, fun P p0 h => ?_⟩
  have old : ∀ i, i < n → P i := F.cn P p0 fun i hi pi => by
    obtain ⟨h1, h2, h3⟩ := h i (by omega) pi
    rw [gt_old F.la hi] at h1
    rw [gt_old F.lc hi] at h3
    rw [join_gt lB (by omega) (by omega), if_neg (by omega)] at h2
    refine ⟨h1, ?_, h3⟩
    by_cases e2 : i = x
    · subst e2; rw [fx]; exact pi
    · rw [if_neg e2, gt_old F.lb hi] at h2; exact h2
  have pn : P n := by
    have h2 := (h x (by omega) (old x hx)).2.1
    rw [join_gt lB (by omega) (by omega), if_neg (by omega), if_pos rfl] at h2
    exact h2
  have hA : ∀ k, k < s → P (n + k) → P (n + gt a k) := fun k hk p => by
    have := (h (n + k) (by omega) p).1
    rw [gt_new F.la (by rw [w.la]; exact hk)] at this
    exact this
  have hC : ∀ k, k < s → P (n + k) → P (n + gt c k) := fun k hk p => by
    have := (h (n + k) (by omega) p).2.2
    rw [gt_new F.lc (by rw [w.lc]; exact hk)] at this
    exact this
  intro i hi
  by_cases h1 : i < n
  · exact old i h1
  · obtain ⟨k, rfl⟩ : ∃ k, i = n + k := ⟨i - n, by omega⟩
    have p0' : P (n + 0) := pn
    rcases w.cn k (by omega) with e | e | e | e
    · rw [e]; exact p0'
    · rw [e]; exact hA 0 w.pos p0'
    · rw [e]; exact hC 0 w.pos p0'
    · rw [e]; exact hC _ (w.ra 0 w.pos).1 (hA 0 w.pos p0')
theorem Fre.first : Fre s ([] ++ (List.range s).map ((0 : Nat) + ·)) (List.range s) := by
  have z : ∀ l : List Nat, [] ++ l.map ((0 : Nat) + ·) = l := fun l => by
    rw [List.nil_append]
    exact (List.map_congr_left fun x _ => Nat.zero_add x).trans (List.map_id l)
  rw [z]
  exact ⟨fun x hx => ⟨List.mem_range.mp hx, gt_range (List.mem_range.mp hx)⟩, List.nodup_range⟩
theorem Fre.more {free : List Nat} (hb : B.length = n) (f : Fre n B free) (hs : 0 < s) {x : Nat} (hx : x ∈ free) :
    Fre (n + s) (((B ++ (List.range s).map (n + ·)).set x n).set n x) ((free.filter fun i => decide (i ≠ x)) ++ (List.range (s - 1)).map (n + 1 + ·)) := by
  have lB : (B ++ (List.range s).map (n + ·)).length = n + s := by rw [List.length_append, List.length_map, List.length_range, hb]
  obtain ⟨x1, x2⟩ := f.fx x hx
  refine ⟨fun y hy => ?_, ?_⟩
  · rcases List.mem_append.mp hy with h | h
    · obtain ⟨h1, h2⟩ := List.mem_filter.mp h
      have ne := of_decide_eq_true h2
      obtain ⟨y1, y2⟩ := f.fx y h1
      rw [join_gt lB (by omega) (by omega), if_neg (by omega), if_neg ne, gt_old hb y1]
      exact ⟨by omega, y2⟩
    · obtain ⟨k, hk, rfl⟩ := List.mem_map.mp h
      have hk := List.mem_range.mp hk
      have e : n + 1 + k = n + (k + 1) := by omega
      rw [join_gt lB (by omega) (by omega), if_neg (by omega), if_neg (by omega)]
      refine ⟨by omega, ?_⟩
      rw [e, gt_new hb (by rw [List.length_range]; omega), gt_range (by omega)]
  · refine List.nodup_append.mpr ⟨f.nd.filter _, ?_, fun y hy z hz e => ?_⟩
    · exact List.Pairwise.map _ (fun a b h => by omega) List.nodup_range
    · obtain ⟨k, hk, rfl⟩ := List.mem_map.mp hz
      have := (f.fx y (List.mem_filter.mp hy).1).1
      omega
theorem Fre.glue {free : List Nat} {x y : Nat} (hb : B.length = n) (f : Fre n B (x :: free)) (hy : y ∈ free) : Fre n ((B.set x y).set y x) (free.filter fun i => decide (i ≠ y)) := by
  have nd := List.nodup_cons.mp f.nd
  obtain ⟨x1, x2⟩ := f.fx x List.mem_cons_self
  obtain ⟨y1, y2⟩ := f.fx y (List.mem_cons_of_mem _ hy)
  refine ⟨fun z hz => ?_, nd.2.filter _⟩
  obtain ⟨h1, h2⟩ := List.mem_filter.mp hz
  have ne := of_decide_eq_true h2
  obtain ⟨z1, z2⟩ := f.fx z (List.mem_cons_of_mem _ h1)
  rw [join_gt hb x1 y1, if_neg ne, if_neg (show z ≠ x from fun e => by subst e; exact nd.1 h1)]
  exact ⟨z1, z2⟩
theorem Fre.tail {free : List Nat} {x : Nat} (f : Fre n B (x :: free)) : Fre n B free := ⟨fun z hz => f.fx z (List.mem_cons_of_mem _ hz), (List.nodup_cons.mp f.nd).2⟩
end
/-! ### _law_frame -/
section
variable (s0 s1 s2 s3 s4 s5 s6 s7 s8 s11 : Sl)
theorem filt9 (x : Nat) : ∀ l : List Nat, lcL 9 (tB' (opS (gOp hNe) (sCons (ePl 9) (sCons (ePl 8) sNil)))) (eVar 9) (nD l) [s0, s1, s2, s3, s4, s5, s6, s7, .im (.int (x : Nat)), .un, .un, s11] =
    some (nD (l.filter fun i => decide (i ≠ x)), [s0, s1, s2, s3, s4, s5, s6, s7, .im (.int (x : Nat)), .un, .un, s11])
  | [] => rfl
  | i :: l => by
    have ih := filt9 x l
    by_cases h : i = x
    · have d1 : decide (i = x) = true := decide_eq_true h
      have d2 : decide (i ≠ x) = false := decide_eq_false fun z => z h
      simp only [nD_cons, lcL, sNop_ap, row?_ap, eRowM_ap, sRowSub_ap, eRowLen_ap, eRowNil_ap, isUn_un, ixN3_0, ixN3_1, ixN3_2, gRowsD_ap, rowsOf_nil, rowsOf_cons, eMeth_ap, isL_l, isS_s, mAppend_ap, mExtend_ap, ownL_fr, gIn_ap, ownDct_fr, gT_apL, hSorted, hTuple, hList, hRev, sSeq_ap, sBrk_ap, sCnt_ap, sRet_ap, sRetN_ap, sDrop_ap, sIf_ap, sSet_ap, isMu_ap, sAsg_ap, gN_ap, gT_ap, gTs, sPar_ap, sSub_ap, own?_ap, putO_t, putO_f, sAug_ap, sFor_ap, eC_ap, eVar_ap, ePl_ap, eMv_ap, opS_ap, sNil_ap, sCons_ap, gOp_ap, vws_nil, vws_cons, vw_im, vw_fr, vw_frd, vw_frs, vw_frr, vw_pl, view_l, view_d, view_s, view_r, rs_d, rs_l, sl_im, sl_fr, fz_im, fz_fr, fzs_nil, fzs_cons, toD_l, toD_r, gTupD_ap, gLstD_ap, gIx_ap, gDGet_ap, ownDct_pl, keyOf_i, keyOf_s, gMul_ap, tB_ap, tNot_ap, tAnd_ap, tOr_ap, eNot_ap, eAnd_ap, eOr_ap, eIf_ap, tY_ap, eSl_ap, oN_ap, oI_ap, itOf_ap, itR1_ap, itR2_ap, eLc_ap, isIm_ap, eCall_ap, eCallM_ap, fnOf_ap, isPl_im, isPl_fr, eDspl_ap, sArgs_nil, sArgs_cons, mkD_nil, mkD_cons, keepMu_mu, keepMu_im, projS_nil, projS_cons, hAdd, hSub, hMul, hDiv, hMod, hPow, hNeg, hCmp, hEq, hNe, hIsN, hNotN, hIx, hLen, hInt, hAbs, hGcd, hMin, hMax, hCut, isi_ii, isi_ib, isi_tt, isi_ll, isM_un, isM_im, isM_ow, isM_mu, List.getElem?_cons_zero, List.getElem?_cons_succ, List.getElem?_nil, List.set_cons_zero, List.set_cons_succ, List.length_cons, List.length_nil, List.length_map, List.replicate_succ, List.replicate_zero, List.cons_append, List.nil_append, List.map_cons, List.map_nil, Nat.reduceAdd, Nat.zero_add, ne_eq, not_true_eq_false, not_false_eq_true, decide_false, decide_true, Bool.or_self, Bool.or_false, Bool.false_or, Bool.and_self, Bool.false_eq_true, if_false, if_true, reduceIte, szOk_2, szOk_1, szOk_0, szOk_3, lk_left, lk_seed, lk_cells, lk_spot, pt_left, pt_spot, len_mL, mSet, true_and, and_true, List.getD_eq_getElem?_getD, Option.getD_some, seqOf_l, seqOf_t, ↓hIx_sq, ↓hLen_sq, seqOf_sq, ↓hTuple_sq, fz_fr2, gRep_ap, eq_self, gSorted_ap, gSortD_ap, gSortS_ap, ownSet_pl, eDict1_ap, eChain_ap, gInD_ap, gInS_ap, mPop_ap, mAdd_ap, eSet0_ap, sWhile_ap, itEnumX_ap, eM2_ap, eTR1_ap, eLR1_ap, hLtD, sh_int, eqv_nat, d1, d2, Bool.not_true, ih, List.filter_cons]
    · have d1 : decide (i = x) = false := decide_eq_false h
      have d2 : decide (i ≠ x) = true := decide_eq_true h
      simp only [nD_cons, lcL, sNop_ap, row?_ap, eRowM_ap, sRowSub_ap, eRowLen_ap, eRowNil_ap, isUn_un, ixN3_0, ixN3_1, ixN3_2, gRowsD_ap, rowsOf_nil, rowsOf_cons, eMeth_ap, isL_l, isS_s, mAppend_ap, mExtend_ap, ownL_fr, gIn_ap, ownDct_fr, gT_apL, hSorted, hTuple, hList, hRev, sSeq_ap, sBrk_ap, sCnt_ap, sRet_ap, sRetN_ap, sDrop_ap, sIf_ap, sSet_ap, isMu_ap, sAsg_ap, gN_ap, gT_ap, gTs, sPar_ap, sSub_ap, own?_ap, putO_t, putO_f, sAug_ap, sFor_ap, eC_ap, eVar_ap, ePl_ap, eMv_ap, opS_ap, sNil_ap, sCons_ap, gOp_ap, vws_nil, vws_cons, vw_im, vw_fr, vw_frd, vw_frs, vw_frr, vw_pl, view_l, view_d, view_s, view_r, rs_d, rs_l, sl_im, sl_fr, fz_im, fz_fr, fzs_nil, fzs_cons, toD_l, toD_r, gTupD_ap, gLstD_ap, gIx_ap, gDGet_ap, ownDct_pl, keyOf_i, keyOf_s, gMul_ap, tB_ap, tNot_ap, tAnd_ap, tOr_ap, eNot_ap, eAnd_ap, eOr_ap, eIf_ap, tY_ap, eSl_ap, oN_ap, oI_ap, itOf_ap, itR1_ap, itR2_ap, eLc_ap, isIm_ap, eCall_ap, eCallM_ap, fnOf_ap, isPl_im, isPl_fr, eDspl_ap, sArgs_nil, sArgs_cons, mkD_nil, mkD_cons, keepMu_mu, keepMu_im, projS_nil, projS_cons, hAdd, hSub, hMul, hDiv, hMod, hPow, hNeg, hCmp, hEq, hNe, hIsN, hNotN, hIx, hLen, hInt, hAbs, hGcd, hMin, hMax, hCut, isi_ii, isi_ib, isi_tt, isi_ll, isM_un, isM_im, isM_ow, isM_mu, List.getElem?_cons_zero, List.getElem?_cons_succ, List.getElem?_nil, List.set_cons_zero, List.set_cons_succ, List.length_cons, List.length_nil, List.length_map, List.replicate_succ, List.replicate_zero, List.cons_append, List.nil_append, List.map_cons, List.map_nil, Nat.reduceAdd, Nat.zero_add, ne_eq, not_true_eq_false, not_false_eq_true, decide_false, decide_true, Bool.or_self, Bool.or_false, Bool.false_or, Bool.and_self, Bool.false_eq_true, if_false, if_true, reduceIte, szOk_2, szOk_1, szOk_0, szOk_3, lk_left, lk_seed, lk_cells, lk_spot, pt_left, pt_spot, len_mL, mSet, true_and, and_true, List.getD_eq_getElem?_getD, Option.getD_some, seqOf_l, seqOf_t, ↓hIx_sq, ↓hLen_sq, seqOf_sq, ↓hTuple_sq, fz_fr2, gRep_ap, eq_self, gSorted_ap, gSortD_ap, gSortS_ap, ownSet_pl, eDict1_ap, eChain_ap, gInD_ap, gInS_ap, mPop_ap, mAdd_ap, eSet0_ap, sWhile_ap, itEnumX_ap, eM2_ap, eTR1_ap, eLR1_ap, hLtD, sh_int, eqv_nat, d1, d2, Bool.not_false, ih, List.filter_cons]
theorem filt11 (x : Nat) : ∀ l : List Nat, lcL 9 (tB' (opS (gOp hNe) (sCons (ePl 9) (sCons (ePl 11) sNil)))) (eVar 9) (nD l) [s0, s1, s2, s3, s4, s5, s6, s7, s8, .un, .un, .im (.int (x : Nat))] =
    some (nD (l.filter fun i => decide (i ≠ x)), [s0, s1, s2, s3, s4, s5, s6, s7, s8, .un, .un, .im (.int (x : Nat))])
  | [] => rfl
  | i :: l => by
    have ih := filt11 x l
    by_cases h : i = x
    · have d1 : decide (i = x) = true := decide_eq_true h
      have d2 : decide (i ≠ x) = false := decide_eq_false fun z => z h
      simp only [nD_cons, lcL, sNop_ap, row?_ap, eRowM_ap, sRowSub_ap, eRowLen_ap, eRowNil_ap, isUn_un, ixN3_0, ixN3_1, ixN3_2, gRowsD_ap, rowsOf_nil, rowsOf_cons, eMeth_ap, isL_l, isS_s, mAppend_ap, mExtend_ap, ownL_fr, gIn_ap, ownDct_fr, gT_apL, hSorted, hTuple, hList, hRev, sSeq_ap, sBrk_ap, sCnt_ap, sRet_ap, sRetN_ap, sDrop_ap, sIf_ap, sSet_ap, isMu_ap, sAsg_ap, gN_ap, gT_ap, gTs, sPar_ap, sSub_ap, own?_ap, putO_t, putO_f, sAug_ap, sFor_ap, eC_ap, eVar_ap, ePl_ap, eMv_ap, opS_ap, sNil_ap, sCons_ap, gOp_ap, vws_nil, vws_cons, vw_im, vw_fr, vw_frd, vw_frs, vw_frr, vw_pl, view_l, view_d, view_s, view_r, rs_d, rs_l, sl_im, sl_fr, fz_im, fz_fr, fzs_nil, fzs_cons, toD_l, toD_r, gTupD_ap, gLstD_ap, gIx_ap, gDGet_ap, ownDct_pl, keyOf_i, keyOf_s, gMul_ap, tB_ap, tNot_ap, tAnd_ap, tOr_ap, eNot_ap, eAnd_ap, eOr_ap, eIf_ap, tY_ap, eSl_ap, oN_ap, oI_ap, itOf_ap, itR1_ap, itR2_ap, eLc_ap, isIm_ap, eCall_ap, eCallM_ap, fnOf_ap, isPl_im, isPl_fr, eDspl_ap, sArgs_nil, sArgs_cons, mkD_nil, mkD_cons, keepMu_mu, keepMu_im, projS_nil, projS_cons, hAdd, hSub, hMul, hDiv, hMod, hPow, hNeg, hCmp, hEq, hNe, hIsN, hNotN, hIx, hLen, hInt, hAbs, hGcd, hMin, hMax, hCut, isi_ii, isi_ib, isi_tt, isi_ll, isM_un, isM_im, isM_ow, isM_mu, List.getElem?_cons_zero, List.getElem?_cons_succ, List.getElem?_nil, List.set_cons_zero, List.set_cons_succ, List.length_cons, List.length_nil, List.length_map, List.replicate_succ, List.replicate_zero, List.cons_append, List.nil_append, List.map_cons, List.map_nil, Nat.reduceAdd, Nat.zero_add, ne_eq, not_true_eq_false, not_false_eq_true, decide_false, decide_true, Bool.or_self, Bool.or_false, Bool.false_or, Bool.and_self, Bool.false_eq_true, if_false, if_true, reduceIte, szOk_2, szOk_1, szOk_0, szOk_3, lk_left, lk_seed, lk_cells, lk_spot, pt_left, pt_spot, len_mL, mSet, true_and, and_true, List.getD_eq_getElem?_getD, Option.getD_some, seqOf_l, seqOf_t, ↓hIx_sq, ↓hLen_sq, seqOf_sq, ↓hTuple_sq, fz_fr2, gRep_ap, eq_self, gSorted_ap, gSortD_ap, gSortS_ap, ownSet_pl, eDict1_ap, eChain_ap, gInD_ap, gInS_ap, mPop_ap, mAdd_ap, eSet0_ap, sWhile_ap, itEnumX_ap, eM2_ap, eTR1_ap, eLR1_ap, hLtD, sh_int, eqv_nat, d1, d2, Bool.not_true, ih, List.filter_cons]
    · have d1 : decide (i = x) = false := decide_eq_false h
      have d2 : decide (i ≠ x) = true := decide_eq_true h
      simp only [nD_cons, lcL, sNop_ap, row?_ap, eRowM_ap, sRowSub_ap, eRowLen_ap, eRowNil_ap, isUn_un, ixN3_0, ixN3_1, ixN3_2, gRowsD_ap, rowsOf_nil, rowsOf_cons, eMeth_ap, isL_l, isS_s, mAppend_ap, mExtend_ap, ownL_fr, gIn_ap, ownDct_fr, gT_apL, hSorted, hTuple, hList, hRev, sSeq_ap, sBrk_ap, sCnt_ap, sRet_ap, sRetN_ap, sDrop_ap, sIf_ap, sSet_ap, isMu_ap, sAsg_ap, gN_ap, gT_ap, gTs, sPar_ap, sSub_ap, own?_ap, putO_t, putO_f, sAug_ap, sFor_ap, eC_ap, eVar_ap, ePl_ap, eMv_ap, opS_ap, sNil_ap, sCons_ap, gOp_ap, vws_nil, vws_cons, vw_im, vw_fr, vw_frd, vw_frs, vw_frr, vw_pl, view_l, view_d, view_s, view_r, rs_d, rs_l, sl_im, sl_fr, fz_im, fz_fr, fzs_nil, fzs_cons, toD_l, toD_r, gTupD_ap, gLstD_ap, gIx_ap, gDGet_ap, ownDct_pl, keyOf_i, keyOf_s, gMul_ap, tB_ap, tNot_ap, tAnd_ap, tOr_ap, eNot_ap, eAnd_ap, eOr_ap, eIf_ap, tY_ap, eSl_ap, oN_ap, oI_ap, itOf_ap, itR1_ap, itR2_ap, eLc_ap, isIm_ap, eCall_ap, eCallM_ap, fnOf_ap, isPl_im, isPl_fr, eDspl_ap, sArgs_nil, sArgs_cons, mkD_nil, mkD_cons, keepMu_mu, keepMu_im, projS_nil, projS_cons, hAdd, hSub, hMul, hDiv, hMod, hPow, hNeg, hCmp, hEq, hNe, hIsN, hNotN, hIx, hLen, hInt, hAbs, hGcd, hMin, hMax, hCut, isi_ii, isi_ib, isi_tt, isi_ll, isM_un, isM_im, isM_ow, isM_mu, List.getElem?_cons_zero, List.getElem?_cons_succ, List.getElem?_nil, List.set_cons_zero, List.set_cons_succ, List.length_cons, List.length_nil, List.length_map, List.replicate_succ, List.replicate_zero, List.cons_append, List.nil_append, List.map_cons, List.map_nil, Nat.reduceAdd, Nat.zero_add, ne_eq, not_true_eq_false, not_false_eq_true, decide_false, decide_true, Bool.or_self, Bool.or_false, Bool.false_or, Bool.and_self, Bool.false_eq_true, if_false, if_true, reduceIte, szOk_2, szOk_1, szOk_0, szOk_3, lk_left, lk_seed, lk_cells, lk_spot, pt_left, pt_spot, len_mL, mSet, true_and, and_true, List.getD_eq_getElem?_getD, Option.getD_some, seqOf_l, seqOf_t, ↓hIx_sq, ↓hLen_sq, seqOf_sq, ↓hTuple_sq, fz_fr2, gRep_ap, eq_self, gSorted_ap, gSortD_ap, gSortS_ap, ownSet_pl, eDict1_ap, eChain_ap, gInD_ap, gInS_ap, mPop_ap, mAdd_ap, eSet0_ap, sWhile_ap, itEnumX_ap, eM2_ap, eTR1_ap, eLR1_ap, hLtD, sh_int, eqv_nat, d1, d2, Bool.not_false, ih, List.filter_cons]
theorem shift10 (b : Nat) : ∀ L : List Nat, lcL 10 tY (opS gAdd (sCons (ePl 7) (sCons (ePl 10) sNil))) (L.map fun (i : Nat) => PyData.int (1 + (i : Int))) [s0, s1, s2, s3, s4, s5, s6, .im (.int (b : Nat)), s8, .un, .un, s11] =
    some (nD (L.map (b + 1 + ·)), [s0, s1, s2, s3, s4, s5, s6, .im (.int (b : Nat)), s8, .un, .un, s11])
  | [] => rfl
  | i :: l => by
    have ih := shift10 b l
    have e : (b : Int) + (1 + (i : Int)) = ((b + 1 + i : Nat) : Int) := by omega
    simp only [nD_cons, lcL, sNop_ap, row?_ap, eRowM_ap, sRowSub_ap, eRowLen_ap, eRowNil_ap, isUn_un, ixN3_0, ixN3_1, ixN3_2, gRowsD_ap, rowsOf_nil, rowsOf_cons, eMeth_ap, isL_l, isS_s, mAppend_ap, mExtend_ap, ownL_fr, gIn_ap, ownDct_fr, gT_apL, hSorted, hTuple, hList, hRev, sSeq_ap, sBrk_ap, sCnt_ap, sRet_ap, sRetN_ap, sDrop_ap, sIf_ap, sSet_ap, isMu_ap, sAsg_ap, gN_ap, gT_ap, gTs, sPar_ap, sSub_ap, own?_ap, putO_t, putO_f, sAug_ap, sFor_ap, eC_ap, eVar_ap, ePl_ap, eMv_ap, opS_ap, sNil_ap, sCons_ap, gOp_ap, vws_nil, vws_cons, vw_im, vw_fr, vw_frd, vw_frs, vw_frr, vw_pl, view_l, view_d, view_s, view_r, rs_d, rs_l, sl_im, sl_fr, fz_im, fz_fr, fzs_nil, fzs_cons, toD_l, toD_r, gTupD_ap, gLstD_ap, gIx_ap, gDGet_ap, ownDct_pl, keyOf_i, keyOf_s, gMul_ap, tB_ap, tNot_ap, tAnd_ap, tOr_ap, eNot_ap, eAnd_ap, eOr_ap, eIf_ap, tY_ap, eSl_ap, oN_ap, oI_ap, itOf_ap, itR1_ap, itR2_ap, eLc_ap, isIm_ap, eCall_ap, eCallM_ap, fnOf_ap, isPl_im, isPl_fr, eDspl_ap, sArgs_nil, sArgs_cons, mkD_nil, mkD_cons, keepMu_mu, keepMu_im, projS_nil, projS_cons, hAdd, hSub, hMul, hDiv, hMod, hPow, hNeg, hCmp, hEq, hNe, hIsN, hNotN, hIx, hLen, hInt, hAbs, hGcd, hMin, hMax, hCut, isi_ii, isi_ib, isi_tt, isi_ll, isM_un, isM_im, isM_ow, isM_mu, List.getElem?_cons_zero, List.getElem?_cons_succ, List.getElem?_nil, List.set_cons_zero, List.set_cons_succ, List.length_cons, List.length_nil, List.length_map, List.replicate_succ, List.replicate_zero, List.cons_append, List.nil_append, List.map_cons, List.map_nil, Nat.reduceAdd, Nat.zero_add, ne_eq, not_true_eq_false, not_false_eq_true, decide_false, decide_true, Bool.or_self, Bool.or_false, Bool.false_or, Bool.and_self, Bool.false_eq_true, if_false, if_true, reduceIte, szOk_2, szOk_1, szOk_0, szOk_3, lk_left, lk_seed, lk_cells, lk_spot, pt_left, pt_spot, len_mL, mSet, true_and, and_true, List.getD_eq_getElem?_getD, Option.getD_some, seqOf_l, seqOf_t, ↓hIx_sq, ↓hLen_sq, seqOf_sq, ↓hTuple_sq, fz_fr2, gRep_ap, eq_self, gSorted_ap, gSortD_ap, gSortS_ap, ownSet_pl, eDict1_ap, eChain_ap, gInD_ap, gInS_ap, mPop_ap, mAdd_ap, eSet0_ap, sWhile_ap, itEnumX_ap, eM2_ap, eTR1_ap, eLR1_ap, hLtD, ih, e]
theorem same10 : ∀ L : List Nat, lcL 10 tY (eVar 10) (L.map fun (i : Nat) => PyData.int (i : Int)) [s0, s1, s2, s3, s4, s5, s6, s7, s8, .un, .un, s11] =
    some (nD L, [s0, s1, s2, s3, s4, s5, s6, s7, s8, .un, .un, s11])
  | [] => rfl
  | i :: l => by
    have ih := same10 l
    simp only [nD_cons, lcL, sNop_ap, row?_ap, eRowM_ap, sRowSub_ap, eRowLen_ap, eRowNil_ap, isUn_un, ixN3_0, ixN3_1, ixN3_2, gRowsD_ap, rowsOf_nil, rowsOf_cons, eMeth_ap, isL_l, isS_s, mAppend_ap, mExtend_ap, ownL_fr, gIn_ap, ownDct_fr, gT_apL, hSorted, hTuple, hList, hRev, sSeq_ap, sBrk_ap, sCnt_ap, sRet_ap, sRetN_ap, sDrop_ap, sIf_ap, sSet_ap, isMu_ap, sAsg_ap, gN_ap, gT_ap, gTs, sPar_ap, sSub_ap, own?_ap, putO_t, putO_f, sAug_ap, sFor_ap, eC_ap, eVar_ap, ePl_ap, eMv_ap, opS_ap, sNil_ap, sCons_ap, gOp_ap, vws_nil, vws_cons, vw_im, vw_fr, vw_frd, vw_frs, vw_frr, vw_pl, view_l, view_d, view_s, view_r, rs_d, rs_l, sl_im, sl_fr, fz_im, fz_fr, fzs_nil, fzs_cons, toD_l, toD_r, gTupD_ap, gLstD_ap, gIx_ap, gDGet_ap, ownDct_pl, keyOf_i, keyOf_s, gMul_ap, tB_ap, tNot_ap, tAnd_ap, tOr_ap, eNot_ap, eAnd_ap, eOr_ap, eIf_ap, tY_ap, eSl_ap, oN_ap, oI_ap, itOf_ap, itR1_ap, itR2_ap, eLc_ap, isIm_ap, eCall_ap, eCallM_ap, fnOf_ap, isPl_im, isPl_fr, eDspl_ap, sArgs_nil, sArgs_cons, mkD_nil, mkD_cons, keepMu_mu, keepMu_im, projS_nil, projS_cons, hAdd, hSub, hMul, hDiv, hMod, hPow, hNeg, hCmp, hEq, hNe, hIsN, hNotN, hIx, hLen, hInt, hAbs, hGcd, hMin, hMax, hCut, isi_ii, isi_ib, isi_tt, isi_ll, isM_un, isM_im, isM_ow, isM_mu, List.getElem?_cons_zero, List.getElem?_cons_succ, List.getElem?_nil, List.set_cons_zero, List.set_cons_succ, List.length_cons, List.length_nil, List.length_map, List.replicate_succ, List.replicate_zero, List.cons_append, List.nil_append, List.map_cons, List.map_nil, Nat.reduceAdd, Nat.zero_add, ne_eq, not_true_eq_false, not_false_eq_true, decide_false, decide_true, Bool.or_self, Bool.or_false, Bool.false_or, Bool.and_self, Bool.false_eq_true, if_false, if_true, reduceIte, szOk_2, szOk_1, szOk_0, szOk_3, lk_left, lk_seed, lk_cells, lk_spot, pt_left, pt_spot, len_mL, mSet, true_and, and_true, List.getD_eq_getElem?_getD, Option.getD_some, seqOf_l, seqOf_t, ↓hIx_sq, ↓hLen_sq, seqOf_sq, ↓hTuple_sq, fz_fr2, gRep_ap, eq_self, gSorted_ap, gSortD_ap, gSortS_ap, ownSet_pl, eDict1_ap, eChain_ap, gInD_ap, gInS_ap, mPop_ap, mAdd_ap, eSet0_ap, sWhile_ap, itEnumX_ap, eM2_ap, eTR1_ap, eLR1_ap, hLtD, ih]
end
def fiveW : List D := [.str "four", .str "zero", .str "two", .str "both", .str "one"]
theorem fiveW_get (j : Nat) (hj : j < 5) : fiveW.getD j .none = .str (wN j) := by
  match j, hj with
  | 0, _ => rfl
  | 1, _ => rfl
  | 2, _ => rfl
  | 3, _ => rfl
  | 4, _ => rfl
theorem lk_wS (j : Nat) (hj : j < 5) : lookK (m5 (.int 4) (.int 2) (.int 2) (.int 2) (.int 1)) (.inr (wN j)) = some (.int (wS j : Nat)) := by
  match j, hj with
  | 0, _ => rfl
  | 1, _ => rfl
  | 2, _ => rfl
  | 3, _ => rfl
  | 4, _ => rfl
structure FS1 (n : Int) (M : Nat) (S : List Sl) : Prop where
  ex : ∃ (m : O) (A B C free : List Nat) (q : Nat) (s4 s5 s6 s7 s8 s11 : Sl), S = [.mu m, .im (.int (M : Nat)), .ow (.rows [nD A, nD B, nD C]), .ow (.lst (nD free)), s4, s5, s6, s7, s8, .un, .un, s11] ∧
    isM s4 = false ∧ isM s5 = false ∧ isM s6 = false ∧ isM s7 = false ∧ isM s8 = false ∧ isM s11 = false ∧ Good n m ∧ q ≤ M ∧ free.length ≤ q ∧ ((q = 0 ∧ A = [] ∧ B = [] ∧ C = [] ∧ free = []) ∨ (0 < q ∧ FI q A B C ∧ Fre q B free))
theorem Good.up {n k : Int} {m : O} (g : Good n m) (h : n ≤ k) : Good k m := by
  obtain ⟨l, s, cs, p, e, hc, h0, h1⟩ := g
  exact ⟨l, s, cs, p, e, hc, h0, by omega⟩
theorem nodup_len {l : List Nat} {n : Nat} (nd : l.Nodup) (h : ∀ x ∈ l, x < n) : l.length ≤ n := by
  have := List.Nodup.length_le_of_subset nd (l₂ := List.range n) fun x hx => List.mem_range.mpr (h x hx)
  rw [List.length_range] at this
  exact this
theorem frame_c1 {n : Int} {M q j : Nat} {m m1 : O} {A B C free : List Nat} {s5 s6 s7 s8 s11 : Sl} {d : D} (h5 : isM s5 = false) (h6 : isM s6 = false) (h7 : isM s7 = false) (h8 : isM s8 = false) (hj : j < 5) (la : (nD A).length = q)
    (e1 : f_law_of [.mu m, .im (.list [.str "four", .str "zero", .str "two", .str "both", .str "one"])] = some (.im (.str (wN j)), [.mu m1, .un])) (h1 : M < q + wS j) :
    law_frameBody [.mu m, .im (.int (M : Nat)), .ow (.rows [nD A, nD B, nD C]), .ow (.lst (nD free)), .im d, s5, s6, s7, s8, .un, .un, s11] = some (.ct [.mu m1, .im (.int (M : Nat)), .ow (.rows [nD A, nD B, nD C]), .ow (.lst (nD free)), .im d, .im (.str (wN j)), .im (.int (wS j : Nat)), .im (.int (q : Nat)), s8, .un, .un, s11]) := by
  have hs := lk_wS j hj
  have d1 : decide ((M : Int) < (q : Int) + (wS j : Int)) = true := decide_eq_true (by omega)
  simp only [sNop_ap, row?_ap, eRowM_ap, sRowSub_ap, eRowLen_ap, eRowNil_ap, isUn_un, ixN3_0, ixN3_1, ixN3_2, gRowsD_ap, rowsOf_nil, rowsOf_cons, eMeth_ap, isL_l, isS_s, mAppend_ap, mExtend_ap, ownL_fr, gIn_ap, ownDct_fr, gT_apL, hSorted, hTuple, hList, hRev, sSeq_ap, sBrk_ap, sCnt_ap, sRet_ap, sRetN_ap, sDrop_ap, sIf_ap, sSet_ap, isMu_ap, sAsg_ap, gN_ap, gT_ap, gTs, sPar_ap, sSub_ap, own?_ap, putO_t, putO_f, sAug_ap, sFor_ap, eC_ap, eVar_ap, ePl_ap, eMv_ap, opS_ap, sNil_ap, sCons_ap, gOp_ap, vws_nil, vws_cons, vw_im, vw_fr, vw_frd, vw_frs, vw_frr, vw_pl, view_l, view_d, view_s, view_r, rs_d, rs_l, sl_im, sl_fr, fz_im, fz_fr, fzs_nil, fzs_cons, toD_l, toD_r, gTupD_ap, gLstD_ap, gIx_ap, gDGet_ap, ownDct_pl, keyOf_i, keyOf_s, gMul_ap, tB_ap, tNot_ap, tAnd_ap, tOr_ap, eNot_ap, eAnd_ap, eOr_ap, eIf_ap, tY_ap, eSl_ap, oN_ap, oI_ap, itOf_ap, itR1_ap, itR2_ap, eLc_ap, isIm_ap, eCall_ap, eCallM_ap, fnOf_ap, isPl_im, isPl_fr, eDspl_ap, sArgs_nil, sArgs_cons, mkD_nil, mkD_cons, keepMu_mu, keepMu_im, projS_nil, projS_cons, hAdd, hSub, hMul, hDiv, hMod, hPow, hNeg, hCmp, hEq, hNe, hIsN, hNotN, hIx, hLen, hInt, hAbs, hGcd, hMin, hMax, hCut, isi_ii, isi_ib, isi_tt, isi_ll, isM_un, isM_im, isM_ow, isM_mu, List.getElem?_cons_zero, List.getElem?_cons_succ, List.getElem?_nil, List.set_cons_zero, List.set_cons_succ, List.length_cons, List.length_nil, List.length_map, List.replicate_succ, List.replicate_zero, List.cons_append, List.nil_append, List.map_cons, List.map_nil, Nat.reduceAdd, Nat.zero_add, ne_eq, not_true_eq_false, not_false_eq_true, decide_false, decide_true, Bool.or_self, Bool.or_false, Bool.false_or, Bool.and_self, Bool.false_eq_true, if_false, if_true, reduceIte, szOk_2, szOk_1, szOk_0, szOk_3, lk_left, lk_seed, lk_cells, lk_spot, pt_left, pt_spot, len_mL, mSet, true_and, and_true, List.getD_eq_getElem?_getD, Option.getD_some, seqOf_l, seqOf_t, ↓hIx_sq, ↓hLen_sq, seqOf_sq, ↓hTuple_sq, fz_fr2, gRep_ap, eq_self, gSorted_ap, gSortD_ap, gSortS_ap, ownSet_pl, eDict1_ap, eChain_ap, gInD_ap, gInS_ap, mPop_ap, mAdd_ap, eSet0_ap, sWhile_ap, itEnumX_ap, eM2_ap, eTR1_ap, eLR1_ap, hLtD, e1, h5, h6, h7, h8, mk5, nd5, hs, la, szOk_5, hCmp_ii, d1]
theorem frame_c2 {n : Int} {M q j : Nat} {m m1 : O} {A B C free : List Nat} {s5 s6 s7 s8 s11 : Sl} {d : D} (h5 : isM s5 = false) (h6 : isM s6 = false) (h7 : isM s7 = false) (h8 : isM s8 = false) (hj : j < 5) (la : (nD A).length = q)
    (e1 : f_law_of [.mu m, .im (.list [.str "four", .str "zero", .str "two", .str "both", .str "one"])] = some (.im (.str (wN j)), [.mu m1, .un])) (h1 : ¬ M < q + wS j) (hq0 : 0 < q) (h2 : free = []) :
    law_frameBody [.mu m, .im (.int (M : Nat)), .ow (.rows [nD A, nD B, nD C]), .ow (.lst (nD free)), .im d, s5, s6, s7, s8, .un, .un, s11] = some (.ct [.mu m1, .im (.int (M : Nat)), .ow (.rows [nD A, nD B, nD C]), .ow (.lst (nD free)), .im d, .im (.str (wN j)), .im (.int (wS j : Nat)), .im (.int (q : Nat)), s8, .un, .un, s11]) := by
  subst h2
  have hs := lk_wS j hj
  have d1 : decide ((M : Int) < (q : Int) + (wS j : Int)) = false := decide_eq_false (by omega)
  have d2 : decide ((0 : Int) < ((q : Nat) : Int)) = true := decide_eq_true (by omega)
  have ev : PyData.eqv (.list []) (.list []) = true := by decide
  simp only [sNop_ap, row?_ap, eRowM_ap, sRowSub_ap, eRowLen_ap, eRowNil_ap, isUn_un, ixN3_0, ixN3_1, ixN3_2, gRowsD_ap, rowsOf_nil, rowsOf_cons, eMeth_ap, isL_l, isS_s, mAppend_ap, mExtend_ap, ownL_fr, gIn_ap, ownDct_fr, gT_apL, hSorted, hTuple, hList, hRev, sSeq_ap, sBrk_ap, sCnt_ap, sRet_ap, sRetN_ap, sDrop_ap, sIf_ap, sSet_ap, isMu_ap, sAsg_ap, gN_ap, gT_ap, gTs, sPar_ap, sSub_ap, own?_ap, putO_t, putO_f, sAug_ap, sFor_ap, eC_ap, eVar_ap, ePl_ap, eMv_ap, opS_ap, sNil_ap, sCons_ap, gOp_ap, vws_nil, vws_cons, vw_im, vw_fr, vw_frd, vw_frs, vw_frr, vw_pl, view_l, view_d, view_s, view_r, rs_d, rs_l, sl_im, sl_fr, fz_im, fz_fr, fzs_nil, fzs_cons, toD_l, toD_r, gTupD_ap, gLstD_ap, gIx_ap, gDGet_ap, ownDct_pl, keyOf_i, keyOf_s, gMul_ap, tB_ap, tNot_ap, tAnd_ap, tOr_ap, eNot_ap, eAnd_ap, eOr_ap, eIf_ap, tY_ap, eSl_ap, oN_ap, oI_ap, itOf_ap, itR1_ap, itR2_ap, eLc_ap, isIm_ap, eCall_ap, eCallM_ap, fnOf_ap, isPl_im, isPl_fr, eDspl_ap, sArgs_nil, sArgs_cons, mkD_nil, mkD_cons, keepMu_mu, keepMu_im, projS_nil, projS_cons, hAdd, hSub, hMul, hDiv, hMod, hPow, hNeg, hCmp, hEq, hNe, hIsN, hNotN, hIx, hLen, hInt, hAbs, hGcd, hMin, hMax, hCut, isi_ii, isi_ib, isi_tt, isi_ll, isM_un, isM_im, isM_ow, isM_mu, List.getElem?_cons_zero, List.getElem?_cons_succ, List.getElem?_nil, List.set_cons_zero, List.set_cons_succ, List.length_cons, List.length_nil, List.length_map, List.replicate_succ, List.replicate_zero, List.cons_append, List.nil_append, List.map_cons, List.map_nil, Nat.reduceAdd, Nat.zero_add, ne_eq, not_true_eq_false, not_false_eq_true, decide_false, decide_true, Bool.or_self, Bool.or_false, Bool.false_or, Bool.and_self, Bool.false_eq_true, if_false, if_true, reduceIte, szOk_2, szOk_1, szOk_0, szOk_3, lk_left, lk_seed, lk_cells, lk_spot, pt_left, pt_spot, len_mL, mSet, true_and, and_true, List.getD_eq_getElem?_getD, Option.getD_some, seqOf_l, seqOf_t, ↓hIx_sq, ↓hLen_sq, seqOf_sq, ↓hTuple_sq, fz_fr2, gRep_ap, eq_self, gSorted_ap, gSortD_ap, gSortS_ap, ownSet_pl, eDict1_ap, eChain_ap, gInD_ap, gInS_ap, mPop_ap, mAdd_ap, eSet0_ap, sWhile_ap, itEnumX_ap, eM2_ap, eTR1_ap, eLR1_ap, hLtD, e1, h5, h6, h7, h8, mk5, nd5, hs, la, szOk_5, hCmp_ii, d1, d2, nD_nil, sh_nil, ev]
theorem frame_c3 {M j : Nat} {m m1 : O} {s5 s6 s7 s8 s11 : Sl} {d : D} (h5 : isM s5 = false) (h6 : isM s6 = false) (h7 : isM s7 = false) (h8 : isM s8 = false) (hj : j < 5)
    (e1 : f_law_of [.mu m, .im (.list [.str "four", .str "zero", .str "two", .str "both", .str "one"])] = some (.im (.str (wN j)), [.mu m1, .un])) (h1 : ¬ M < 0 + wS j) :
    law_frameBody [.mu m, .im (.int (M : Nat)), .ow (.rows [[], [], []]), .ow (.lst []), .im d, s5, s6, s7, s8, .un, .un, s11] = some (.nx [.mu m1, .im (.int (M : Nat)), .ow (.rows [nD (putA j []), nD (putB j []), nD (putC j [])]), .ow (.lst (nD (List.range (wS j)))), .im d, .im (.str (wN j)), .im (.int (wS j : Nat)), .im (.int ((0 : Nat) : Int)), s8, .un, .un, s11]) := by
  have hs := lk_wS j hj
  obtain ⟨w, ws⟩ := wok j hj
  have ep := put_eq j hj (A := []) (B := []) (C := []) (n := 0) rfl rfl rfl (by decide)
  have d1 : decide ((M : Int) < ((0 : Nat) : Int) + (wS j : Int)) = false := decide_eq_false (by omega)
  have d2 : decide ((0 : Int) < ((0 : Nat) : Int)) = false := by decide
  have sm : small62 ((wS j : Nat) : Int) = true := small62_b (by omega) (by omega)
  have tn : ((wS j : Nat) : Int).toNat = wS j := Int.toNat_natCast _
  have sz : szOk (wS j) = true := szOk_le (by omega)
  have rl := rngD_len 0 (wS j)
  have sa := same10 (.mu m1) (.im (.int (M : Nat))) (.ow (.rows [nD (putA j []), nD (putB j []), nD (putC j [])])) (.ow (.lst [])) (.im d) (.im (.str (wN j))) (.im (.int (wS j : Nat))) (.im (.int ((0 : Nat) : Int))) s8 s11 (List.range (wS j))
  have rg : rngD 0 (wS j) = (List.range (wS j)).map fun (i : Nat) => PyData.int (i : Int) := by unfold rngD; simp only [Int.zero_add]
  rw [← rg] at sa
  rw [nD_nil] at ep
  simp only [sNop_ap, row?_ap, eRowM_ap, sRowSub_ap, eRowLen_ap, eRowNil_ap, isUn_un, ixN3_0, ixN3_1, ixN3_2, gRowsD_ap, rowsOf_nil, rowsOf_cons, eMeth_ap, isL_l, isS_s, mAppend_ap, mExtend_ap, ownL_fr, gIn_ap, ownDct_fr, gT_apL, hSorted, hTuple, hList, hRev, sSeq_ap, sBrk_ap, sCnt_ap, sRet_ap, sRetN_ap, sDrop_ap, sIf_ap, sSet_ap, isMu_ap, sAsg_ap, gN_ap, gT_ap, gTs, sPar_ap, sSub_ap, own?_ap, putO_t, putO_f, sAug_ap, sFor_ap, eC_ap, eVar_ap, ePl_ap, eMv_ap, opS_ap, sNil_ap, sCons_ap, gOp_ap, vws_nil, vws_cons, vw_im, vw_fr, vw_frd, vw_frs, vw_frr, vw_pl, view_l, view_d, view_s, view_r, rs_d, rs_l, sl_im, sl_fr, fz_im, fz_fr, fzs_nil, fzs_cons, toD_l, toD_r, gTupD_ap, gLstD_ap, gIx_ap, gDGet_ap, ownDct_pl, keyOf_i, keyOf_s, gMul_ap, tB_ap, tNot_ap, tAnd_ap, tOr_ap, eNot_ap, eAnd_ap, eOr_ap, eIf_ap, tY_ap, eSl_ap, oN_ap, oI_ap, itOf_ap, itR1_ap, itR2_ap, eLc_ap, isIm_ap, eCall_ap, eCallM_ap, fnOf_ap, isPl_im, isPl_fr, eDspl_ap, sArgs_nil, sArgs_cons, mkD_nil, mkD_cons, keepMu_mu, keepMu_im, projS_nil, projS_cons, hAdd, hSub, hMul, hDiv, hMod, hPow, hNeg, hCmp, hEq, hNe, hIsN, hNotN, hIx, hLen, hInt, hAbs, hGcd, hMin, hMax, hCut, isi_ii, isi_ib, isi_tt, isi_ll, isM_un, isM_im, isM_ow, isM_mu, List.getElem?_cons_zero, List.getElem?_cons_succ, List.getElem?_nil, List.set_cons_zero, List.set_cons_succ, List.length_cons, List.length_nil, List.length_map, List.replicate_succ, List.replicate_zero, List.cons_append, List.nil_append, List.map_cons, List.map_nil, Nat.reduceAdd, Nat.zero_add, ne_eq, not_true_eq_false, not_false_eq_true, decide_false, decide_true, Bool.or_self, Bool.or_false, Bool.false_or, Bool.and_self, Bool.false_eq_true, if_false, if_true, reduceIte, szOk_2, szOk_1, szOk_0, szOk_3, lk_left, lk_seed, lk_cells, lk_spot, pt_left, pt_spot, len_mL, mSet, true_and, and_true, List.getD_eq_getElem?_getD, Option.getD_some, seqOf_l, seqOf_t, ↓hIx_sq, ↓hLen_sq, seqOf_sq, ↓hTuple_sq, fz_fr2, gRep_ap, eq_self, gSorted_ap, gSortD_ap, gSortS_ap, ownSet_pl, eDict1_ap, eChain_ap, gInD_ap, gInS_ap, mPop_ap, mAdd_ap, eSet0_ap, sWhile_ap, itEnumX_ap, eM2_ap, eTR1_ap, eLR1_ap, hLtD, e1, h5, h6, h7, h8, mk5, nd5, hs, szOk_5, hCmp_ii, d1, d2, nD_nil, ep, sm, tn, sa, rl, sz]
theorem frame_c4 {n : Int} {M q j : Nat} {m m1 m2 : O} {A B C free : List Nat} {s5 s6 s7 s8 s11 : Sl} {d : D} {x : Nat} (h5 : isM s5 = false) (h6 : isM s6 = false) (h7 : isM s7 = false) (h8 : isM s8 = false) (hj : j < 5) (la : (nD A).length = q)
    (e1 : f_law_of [.mu m, .im (.list [.str "four", .str "zero", .str "two", .str "both", .str "one"])] = some (.im (.str (wN j)), [.mu m1, .un]))
    (e2 : f_law_of [.mu m1, .im (.list (nD free))] = some (.im (.int (x : Nat)), [.mu m2, .un])) (lA : A.length = q) (lB : B.length = q) (lC : C.length = q) (hM : M ≤ 500) (hqM : q ≤ M) (hfl : free.length ≤ q) (hx : x < q) (h1 : ¬ M < q + wS j) (hq0 : 0 < q) (h2 : free ≠ []) :
    law_frameBody [.mu m, .im (.int (M : Nat)), .ow (.rows [nD A, nD B, nD C]), .ow (.lst (nD free)), .im d, s5, s6, s7, s8, .un, .un, s11] = some (.nx [.mu m2, .im (.int (M : Nat)), .ow (.rows [nD (putA j A), nD (((putB j B).set x q).set q x), nD (putC j C)]), .ow (.lst (nD ((free.filter fun i => decide (i ≠ x)) ++ (List.range (wS j - 1)).map (q + 1 + ·)))), .im d, .im (.str (wN j)), .im (.int (wS j : Nat)), .im (.int (q : Nat)), .im (.int (x : Nat)), .un, .un, s11]) := by
  have hs := lk_wS j hj
  obtain ⟨w, ws⟩ := wok j hj
  have wp := w.pos
  have ep := put_eq j hj lA lB lC (by omega)
  have d1 : decide ((M : Int) < (q : Int) + (wS j : Int)) = false := decide_eq_false (by omega)
  have d2 : decide ((0 : Int) < ((q : Nat) : Int)) = true := decide_eq_true (by omega)
  have ev : PyData.eqv (.list (nD free)) (.list []) = false := by rw [eqv_nil]; exact decide_eq_false h2
  have lpb : (putB j B).length = q + wS j := by unfold putB; rw [List.length_append, List.length_map, List.length_range, lB]
  have i1 : ixN (nD (putB j B)).length (x : Int) = some x := ixN_nat (by rw [nD_len, lpb]; omega)
  have i2 : ixN (nD ((putB j B).set x q)).length (q : Int) = some q := ixN_nat (by rw [nD_len, List.length_set, lpb]; omega)
  have fl := List.length_filter_le (fun i => decide (i ≠ x)) free
  have sz : szOk (nD free).length = true := szOk_le (by rw [nD_len]; omega)
  have sz2 : szOk ((nD (free.filter fun i => decide (i ≠ x))).length + (nD ((List.range (wS j - 1)).map (q + 1 + ·))).length) = true := szOk_le (by rw [nD_len, nD_len, List.length_map, List.length_range]; omega)
  have sz3 : szOk (wS j - 1) = true := szOk_le (by omega)
  have rl := rngD_len 1 (wS j - 1)
  have sm1 : small62 1 = true := by decide
  have sm : small62 ((wS j : Nat) : Int) = true := small62_b (by omega) (by omega)
  have tn : ((wS j : Nat) - (1 : Int)).toNat = wS j - 1 := by omega
  have fi := filt9 (.mu m2) (.im (.int (M : Nat))) (.ow (.rows [nD (putA j A), nD (((putB j B).set x q).set q x), nD (putC j C)])) (.im (.list (nD free))) (.im d) (.im (.str (wN j))) (.im (.int (wS j : Nat))) (.im (.int (q : Nat))) s11 x free
  have sa := shift10 (.mu m2) (.im (.int (M : Nat))) (.ow (.rows [nD (putA j A), nD (((putB j B).set x q).set q x), nD (putC j C)])) (.ow (.lst (nD (free.filter fun i => decide (i ≠ x))))) (.im d) (.im (.str (wN j))) (.im (.int (wS j : Nat))) (.im (.int (x : Nat))) s11 q (List.range (wS j - 1))
  have rg : rngD 1 (wS j - 1) = (List.range (wS j - 1)).map fun (i : Nat) => PyData.int (1 + (i : Int)) := rfl
  rw [← rg] at sa
  simp only [sNop_ap, row?_ap, eRowM_ap, sRowSub_ap, eRowLen_ap, eRowNil_ap, isUn_un, ixN3_0, ixN3_1, ixN3_2, gRowsD_ap, rowsOf_nil, rowsOf_cons, eMeth_ap, isL_l, isS_s, mAppend_ap, mExtend_ap, ownL_fr, gIn_ap, ownDct_fr, gT_apL, hSorted, hTuple, hList, hRev, sSeq_ap, sBrk_ap, sCnt_ap, sRet_ap, sRetN_ap, sDrop_ap, sIf_ap, sSet_ap, isMu_ap, sAsg_ap, gN_ap, gT_ap, gTs, sPar_ap, sSub_ap, own?_ap, putO_t, putO_f, sAug_ap, sFor_ap, eC_ap, eVar_ap, ePl_ap, eMv_ap, opS_ap, sNil_ap, sCons_ap, gOp_ap, vws_nil, vws_cons, vw_im, vw_fr, vw_frd, vw_frs, vw_frr, vw_pl, view_l, view_d, view_s, view_r, rs_d, rs_l, sl_im, sl_fr, fz_im, fz_fr, fzs_nil, fzs_cons, toD_l, toD_r, gTupD_ap, gLstD_ap, gIx_ap, gDGet_ap, ownDct_pl, keyOf_i, keyOf_s, gMul_ap, tB_ap, tNot_ap, tAnd_ap, tOr_ap, eNot_ap, eAnd_ap, eOr_ap, eIf_ap, tY_ap, eSl_ap, oN_ap, oI_ap, itOf_ap, itR1_ap, itR2_ap, eLc_ap, isIm_ap, eCall_ap, eCallM_ap, fnOf_ap, isPl_im, isPl_fr, eDspl_ap, sArgs_nil, sArgs_cons, mkD_nil, mkD_cons, keepMu_mu, keepMu_im, projS_nil, projS_cons, hAdd, hSub, hMul, hDiv, hMod, hPow, hNeg, hCmp, hEq, hNe, hIsN, hNotN, hIx, hLen, hInt, hAbs, hGcd, hMin, hMax, hCut, isi_ii, isi_ib, isi_tt, isi_ll, isM_un, isM_im, isM_ow, isM_mu, List.getElem?_cons_zero, List.getElem?_cons_succ, List.getElem?_nil, List.set_cons_zero, List.set_cons_succ, List.length_cons, List.length_nil, List.length_map, List.replicate_succ, List.replicate_zero, List.cons_append, List.nil_append, List.map_cons, List.map_nil, Nat.reduceAdd, Nat.zero_add, ne_eq, not_true_eq_false, not_false_eq_true, decide_false, decide_true, Bool.or_self, Bool.or_false, Bool.false_or, Bool.and_self, Bool.false_eq_true, if_false, if_true, reduceIte, szOk_2, szOk_1, szOk_0, szOk_3, lk_left, lk_seed, lk_cells, lk_spot, pt_left, pt_spot, len_mL, mSet, true_and, and_true, List.getD_eq_getElem?_getD, Option.getD_some, seqOf_l, seqOf_t, ↓hIx_sq, ↓hLen_sq, seqOf_sq, ↓hTuple_sq, fz_fr2, gRep_ap, eq_self, gSorted_ap, gSortD_ap, gSortS_ap, ownSet_pl, eDict1_ap, eChain_ap, gInD_ap, gInS_ap, mPop_ap, mAdd_ap, eSet0_ap, sWhile_ap, itEnumX_ap, eM2_ap, eTR1_ap, eLR1_ap, hLtD, e1, e2, h5, h6, h7, h8, mk5, nd5, hs, la, szOk_5, hCmp_ii, d1, d2, ep, ev, sh_nD, sh_nil, i1, i2, set_nD, fi, sa, sz, sz2, sz3, sm, sm1, tn, rl, Bool.and_true, Bool.true_and, nD_app]
theorem frame_turn {n : Int} {M : Nat} {S : List Sl} (f : FS1 n M S) (hn : n < 100000000) (hM : M ≤ 500) (d : D) : ∃ S1 S2, gN 4 d S = some S1 ∧ (law_frameBody S1 = some (.nx S2) ∨ law_frameBody S1 = some (.ct S2)) ∧ FS1 (n + 2) M S2 := by
  obtain ⟨m, A, B, C, free, q, s4, s5, s6, s7, s8, s11, rfl, h4, h5, h6, h7, h8, h11, g, hq, hfl, hf⟩ := f.ex
  obtain ⟨j, m1, hj, e1, g1⟩ := of_eq (l := fiveW) g (by omega) (by simp [fiveW]) (by simp [fiveW])
  have hj : j < 5 := hj
  rw [fiveW_get j hj] at e1
  unfold fiveW at e1
  obtain ⟨w, ws⟩ := wok j hj
  have lA : A.length = q := by
    rcases hf with ⟨h, e, _⟩ | ⟨_, F, _⟩
    · rw [e, h]; rfl
    · exact F.la
  have la : (nD A).length = q := by rw [nD_len]; exact lA
  have e0 : gN 4 d [.mu m, .im (.int (M : Nat)), .ow (.rows [nD A, nD B, nD C]), .ow (.lst (nD free)), s4, s5, s6, s7, s8, .un, .un, s11] = some [.mu m, .im (.int (M : Nat)), .ow (.rows [nD A, nD B, nD C]), .ow (.lst (nD free)), .im d, s5, s6, s7, s8, .un, .un, s11] := by simp only [sNop_ap, row?_ap, eRowM_ap, sRowSub_ap, eRowLen_ap, eRowNil_ap, isUn_un, ixN3_0, ixN3_1, ixN3_2, gRowsD_ap, rowsOf_nil, rowsOf_cons, eMeth_ap, isL_l, isS_s, mAppend_ap, mExtend_ap, ownL_fr, gIn_ap, ownDct_fr, gT_apL, hSorted, hTuple, hList, hRev, sSeq_ap, sBrk_ap, sCnt_ap, sRet_ap, sRetN_ap, sDrop_ap, sIf_ap, sSet_ap, isMu_ap, sAsg_ap, gN_ap, gT_ap, gTs, sPar_ap, sSub_ap, own?_ap, putO_t, putO_f, sAug_ap, sFor_ap, eC_ap, eVar_ap, ePl_ap, eMv_ap, opS_ap, sNil_ap, sCons_ap, gOp_ap, vws_nil, vws_cons, vw_im, vw_fr, vw_frd, vw_frs, vw_frr, vw_pl, view_l, view_d, view_s, view_r, rs_d, rs_l, sl_im, sl_fr, fz_im, fz_fr, fzs_nil, fzs_cons, toD_l, toD_r, gTupD_ap, gLstD_ap, gIx_ap, gDGet_ap, ownDct_pl, keyOf_i, keyOf_s, gMul_ap, tB_ap, tNot_ap, tAnd_ap, tOr_ap, eNot_ap, eAnd_ap, eOr_ap, eIf_ap, tY_ap, eSl_ap, oN_ap, oI_ap, itOf_ap, itR1_ap, itR2_ap, eLc_ap, isIm_ap, eCall_ap, eCallM_ap, fnOf_ap, isPl_im, isPl_fr, eDspl_ap, sArgs_nil, sArgs_cons, mkD_nil, mkD_cons, keepMu_mu, keepMu_im, projS_nil, projS_cons, hAdd, hSub, hMul, hDiv, hMod, hPow, hNeg, hCmp, hEq, hNe, hIsN, hNotN, hIx, hLen, hInt, hAbs, hGcd, hMin, hMax, hCut, isi_ii, isi_ib, isi_tt, isi_ll, isM_un, isM_im, isM_ow, isM_mu, List.getElem?_cons_zero, List.getElem?_cons_succ, List.getElem?_nil, List.set_cons_zero, List.set_cons_succ, List.length_cons, List.length_nil, List.length_map, List.replicate_succ, List.replicate_zero, List.cons_append, List.nil_append, List.map_cons, List.map_nil, Nat.reduceAdd, Nat.zero_add, ne_eq, not_true_eq_false, not_false_eq_true, decide_false, decide_true, Bool.or_self, Bool.or_false, Bool.false_or, Bool.and_self, Bool.false_eq_true, if_false, if_true, reduceIte, szOk_2, szOk_1, szOk_0, szOk_3, lk_left, lk_seed, lk_cells, lk_spot, pt_left, pt_spot, len_mL, mSet, true_and, and_true, List.getD_eq_getElem?_getD, Option.getD_some, seqOf_l, seqOf_t, ↓hIx_sq, ↓hLen_sq, seqOf_sq, ↓hTuple_sq, fz_fr2, gRep_ap, eq_self, gSorted_ap, gSortD_ap, gSortS_ap, ownSet_pl, eDict1_ap, eChain_ap, gInD_ap, gInS_ap, mPop_ap, mAdd_ap, eSet0_ap, sWhile_ap, itEnumX_ap, eM2_ap, eTR1_ap, eLR1_ap, hLtD, h4]
  refine ⟨[.mu m, .im (.int (M : Nat)), .ow (.rows [nD A, nD B, nD C]), .ow (.lst (nD free)), .im d, s5, s6, s7, s8, .un, .un, s11], ?_⟩
  by_cases h1 : M < q + wS j
  · exact ⟨_, e0, .inr (frame_c1 (n := n) h5 h6 h7 h8 hj la e1 h1), ⟨m1, A, B, C, free, q, _, _, _, _, _, _, rfl, rfl, rfl, rfl, rfl, h8, h11, g1.up (by omega), hq, hfl, hf⟩⟩
  · rcases hf with ⟨rfl, rfl, rfl, rfl, rfl⟩ | ⟨hq0, F, fr⟩
    · exact ⟨_, e0, .inl (frame_c3 h5 h6 h7 h8 hj e1 h1), ⟨m1, _, _, _, _, wS j, _, _, _, _, _, _, rfl, rfl, rfl, rfl, rfl, h8, h11, g1.up (by omega), by omega, by rw [List.length_range]; exact Nat.le_refl _, .inr ⟨w.pos, FI.first w, Fre.first⟩⟩⟩
    · by_cases h2 : free = []
      · exact ⟨_, e0, .inr (frame_c2 (n := n) h5 h6 h7 h8 hj la e1 h1 hq0 h2), ⟨m1, A, B, C, free, q, _, _, _, _, _, _, rfl, rfl, rfl, rfl, rfl, h8, h11, g1.up (by omega), hq, hfl, .inr ⟨hq0, F, fr⟩⟩⟩
      · obtain ⟨i, m2, hi, e2, g2⟩ := of_eq (l := nD free) g1 (by omega) (fun z => h2 (by
          cases free with
          | nil => rfl
          | cons a b => cases z)) (by rw [nD_len]; omega)
        rw [nD_len] at hi
        obtain ⟨x, hx, ex⟩ : ∃ x, x ∈ free ∧ (nD free).getD i .none = .int (x : Nat) := by
          refine ⟨free[i], List.getElem_mem hi, ?_⟩
          unfold nD
          rw [List.getD_eq_getElem?_getD, List.getElem?_map, List.getElem?_eq_getElem hi]
          rfl
        rw [ex] at e2
        obtain ⟨x1, x2⟩ := fr.fx x hx
        have k1 := F.more w hq0 x1 x2
        have k2 := Fre.more (s := wS j) F.lb fr w.pos hx
        have pa : A ++ (wA j).map (q + ·) = putA j A := by unfold putA; rw [F.la]
        have pb : B ++ (List.range (wS j)).map (q + ·) = putB j B := by unfold putB; rw [F.lb]
        have pc : C ++ (wC j).map (q + ·) = putC j C := by unfold putC; rw [F.lc]
        rw [pa, pb, pc] at k1
        rw [pb] at k2
        exact ⟨_, e0, .inl (frame_c4 (n := n) h5 h6 h7 h8 hj la e1 e2 F.la F.lb F.lc hM hq hfl x1 h1 hq0 h2), ⟨m2, _, _, _, _, q + wS j, _, _, _, _, _, _, rfl, rfl, rfl, rfl, rfl, rfl, h11, g2.up (by omega), by omega, nodup_len k2.nd fun y hy => (k2.fx y hy).1, .inr ⟨by omega, k1, k2⟩⟩⟩
structure FS2 (n : Int) (M q : Nat) (S : List Sl) : Prop where
  ex : ∃ (m : O) (A B C free : List Nat) (s4 s5 s6 s7 s8 s11 : Sl), S = [.mu m, .im (.int (M : Nat)), .ow (.rows [nD A, nD B, nD C]), .ow (.lst (nD free)), s4, s5, s6, s7, s8, .un, .un, s11] ∧
    isM s4 = false ∧ isM s5 = false ∧ isM s6 = false ∧ isM s7 = false ∧ isM s8 = false ∧ isM s11 = false ∧ Good n m ∧ free.length ≤ q ∧ FI q A B C ∧ Fre q B free
theorem cut_tl (l : List Nat) : cutD (nD l) (some 1) none = nD l.tail := by
  cases l with
  | nil => rfl
  | cons a b =>
    have := cut_from (l := nD (a :: b)) (k := 1) (by rw [nD_len, List.length_cons]; omega)
    exact this
section
variable {M q : Nat} {m m1 m2 : O} {A B C free : List Nat} {s4 s5 s6 s7 s8 s11 : Sl} {d : D}
theorem frame_d1 (h : free.length ≤ 1) (h4 : isM s4 = false) : law_frameBody1 [.mu m, .im (.int (M : Nat)), .ow (.rows [nD A, nD B, nD C]), .ow (.lst (nD free)), .im d, s5, s6, s7, s8, .un, .un, s11] =
    some (.nx [.mu m, .im (.int (M : Nat)), .ow (.rows [nD A, nD B, nD C]), .ow (.lst (nD free.tail)), .im d, s5, s6, s7, s8, .un, .un, s11]) := by
  have d1 : decide ((1 : Int) < ((nD free).length : Int)) = false := decide_eq_false (by rw [nD_len]; omega)
  have ct := cut_tl free
  simp only [sNop_ap, row?_ap, eRowM_ap, sRowSub_ap, eRowLen_ap, eRowNil_ap, isUn_un, ixN3_0, ixN3_1, ixN3_2, gRowsD_ap, rowsOf_nil, rowsOf_cons, eMeth_ap, isL_l, isS_s, mAppend_ap, mExtend_ap, ownL_fr, gIn_ap, ownDct_fr, gT_apL, hSorted, hTuple, hList, hRev, sSeq_ap, sBrk_ap, sCnt_ap, sRet_ap, sRetN_ap, sDrop_ap, sIf_ap, sSet_ap, isMu_ap, sAsg_ap, gN_ap, gT_ap, gTs, sPar_ap, sSub_ap, own?_ap, putO_t, putO_f, sAug_ap, sFor_ap, eC_ap, eVar_ap, ePl_ap, eMv_ap, opS_ap, sNil_ap, sCons_ap, gOp_ap, vws_nil, vws_cons, vw_im, vw_fr, vw_frd, vw_frs, vw_frr, vw_pl, view_l, view_d, view_s, view_r, rs_d, rs_l, sl_im, sl_fr, fz_im, fz_fr, fzs_nil, fzs_cons, toD_l, toD_r, gTupD_ap, gLstD_ap, gIx_ap, gDGet_ap, ownDct_pl, keyOf_i, keyOf_s, gMul_ap, tB_ap, tNot_ap, tAnd_ap, tOr_ap, eNot_ap, eAnd_ap, eOr_ap, eIf_ap, tY_ap, eSl_ap, oN_ap, oI_ap, itOf_ap, itR1_ap, itR2_ap, eLc_ap, isIm_ap, eCall_ap, eCallM_ap, fnOf_ap, isPl_im, isPl_fr, eDspl_ap, sArgs_nil, sArgs_cons, mkD_nil, mkD_cons, keepMu_mu, keepMu_im, projS_nil, projS_cons, hAdd, hSub, hMul, hDiv, hMod, hPow, hNeg, hCmp, hEq, hNe, hIsN, hNotN, hIx, hLen, hInt, hAbs, hGcd, hMin, hMax, hCut, isi_ii, isi_ib, isi_tt, isi_ll, isM_un, isM_im, isM_ow, isM_mu, List.getElem?_cons_zero, List.getElem?_cons_succ, List.getElem?_nil, List.set_cons_zero, List.set_cons_succ, List.length_cons, List.length_nil, List.length_map, List.replicate_succ, List.replicate_zero, List.cons_append, List.nil_append, List.map_cons, List.map_nil, Nat.reduceAdd, Nat.zero_add, ne_eq, not_true_eq_false, not_false_eq_true, decide_false, decide_true, Bool.or_self, Bool.or_false, Bool.false_or, Bool.and_self, Bool.false_eq_true, if_false, if_true, reduceIte, szOk_2, szOk_1, szOk_0, szOk_3, lk_left, lk_seed, lk_cells, lk_spot, pt_left, pt_spot, len_mL, mSet, true_and, and_true, List.getD_eq_getElem?_getD, Option.getD_some, seqOf_l, seqOf_t, ↓hIx_sq, ↓hLen_sq, seqOf_sq, ↓hTuple_sq, fz_fr2, gRep_ap, eq_self, gSorted_ap, gSortD_ap, gSortS_ap, ownSet_pl, eDict1_ap, eChain_ap, gInD_ap, gInS_ap, mPop_ap, mAdd_ap, eSet0_ap, sWhile_ap, itEnumX_ap, eM2_ap, eTR1_ap, eLR1_ap, hLtD, hCmp_ii, d1, ct]
theorem frame_d2 {v : Int} (h : 1 < free.length) (e1 : f_law_draw [.mu m, .im (.int 3)] = some (.im (.int v), [.mu m1, .un])) (hv : ¬ 0 < v) : law_frameBody1 [.mu m, .im (.int (M : Nat)), .ow (.rows [nD A, nD B, nD C]), .ow (.lst (nD free)), .im d, s5, s6, s7, s8, .un, .un, s11] =
    some (.nx [.mu m1, .im (.int (M : Nat)), .ow (.rows [nD A, nD B, nD C]), .ow (.lst (nD free.tail)), .im d, s5, s6, s7, s8, .un, .un, s11]) := by
  have d1 : decide ((1 : Int) < ((nD free).length : Int)) = true := decide_eq_true (by rw [nD_len]; omega)
  have d2 : decide ((0 : Int) < v) = false := decide_eq_false hv
  have ct := cut_tl free
  simp only [sNop_ap, row?_ap, eRowM_ap, sRowSub_ap, eRowLen_ap, eRowNil_ap, isUn_un, ixN3_0, ixN3_1, ixN3_2, gRowsD_ap, rowsOf_nil, rowsOf_cons, eMeth_ap, isL_l, isS_s, mAppend_ap, mExtend_ap, ownL_fr, gIn_ap, ownDct_fr, gT_apL, hSorted, hTuple, hList, hRev, sSeq_ap, sBrk_ap, sCnt_ap, sRet_ap, sRetN_ap, sDrop_ap, sIf_ap, sSet_ap, isMu_ap, sAsg_ap, gN_ap, gT_ap, gTs, sPar_ap, sSub_ap, own?_ap, putO_t, putO_f, sAug_ap, sFor_ap, eC_ap, eVar_ap, ePl_ap, eMv_ap, opS_ap, sNil_ap, sCons_ap, gOp_ap, vws_nil, vws_cons, vw_im, vw_fr, vw_frd, vw_frs, vw_frr, vw_pl, view_l, view_d, view_s, view_r, rs_d, rs_l, sl_im, sl_fr, fz_im, fz_fr, fzs_nil, fzs_cons, toD_l, toD_r, gTupD_ap, gLstD_ap, gIx_ap, gDGet_ap, ownDct_pl, keyOf_i, keyOf_s, gMul_ap, tB_ap, tNot_ap, tAnd_ap, tOr_ap, eNot_ap, eAnd_ap, eOr_ap, eIf_ap, tY_ap, eSl_ap, oN_ap, oI_ap, itOf_ap, itR1_ap, itR2_ap, eLc_ap, isIm_ap, eCall_ap, eCallM_ap, fnOf_ap, isPl_im, isPl_fr, eDspl_ap, sArgs_nil, sArgs_cons, mkD_nil, mkD_cons, keepMu_mu, keepMu_im, projS_nil, projS_cons, hAdd, hSub, hMul, hDiv, hMod, hPow, hNeg, hCmp, hEq, hNe, hIsN, hNotN, hIx, hLen, hInt, hAbs, hGcd, hMin, hMax, hCut, isi_ii, isi_ib, isi_tt, isi_ll, isM_un, isM_im, isM_ow, isM_mu, List.getElem?_cons_zero, List.getElem?_cons_succ, List.getElem?_nil, List.set_cons_zero, List.set_cons_succ, List.length_cons, List.length_nil, List.length_map, List.replicate_succ, List.replicate_zero, List.cons_append, List.nil_append, List.map_cons, List.map_nil, Nat.reduceAdd, Nat.zero_add, ne_eq, not_true_eq_false, not_false_eq_true, decide_false, decide_true, Bool.or_self, Bool.or_false, Bool.false_or, Bool.and_self, Bool.false_eq_true, if_false, if_true, reduceIte, szOk_2, szOk_1, szOk_0, szOk_3, lk_left, lk_seed, lk_cells, lk_spot, pt_left, pt_spot, len_mL, mSet, true_and, and_true, List.getD_eq_getElem?_getD, Option.getD_some, seqOf_l, seqOf_t, ↓hIx_sq, ↓hLen_sq, seqOf_sq, ↓hTuple_sq, fz_fr2, gRep_ap, eq_self, gSorted_ap, gSortD_ap, gSortS_ap, ownSet_pl, eDict1_ap, eChain_ap, gInD_ap, gInS_ap, mPop_ap, mAdd_ap, eSet0_ap, sWhile_ap, itEnumX_ap, eM2_ap, eTR1_ap, eLR1_ap, hLtD, hCmp_ii, d1, e1, d2, ct]
theorem frame_d3 {v : Int} {x y : Nat} {t : List Nat} (ht : 0 < t.length) (hq : q ≤ 500) (htl : t.length ≤ q) (lB : B.length = q) (hx : x < q) (hy : y < q) (h11 : isM s11 = false) (e1 : f_law_draw [.mu m, .im (.int 3)] = some (.im (.int v), [.mu m1, .un])) (hv : 0 < v)
    (e2 : f_law_of [.mu m1, .im (.list (nD t))] = some (.im (.int (y : Nat)), [.mu m2, .un])) : law_frameBody1 [.mu m, .im (.int (M : Nat)), .ow (.rows [nD A, nD B, nD C]), .ow (.lst (nD (x :: t))), .im d, s5, s6, s7, s8, .un, .un, s11] =
    some (.nx [.mu m2, .im (.int (M : Nat)), .ow (.rows [nD A, nD ((B.set x y).set y x), nD C]), .ow (.lst (nD (t.filter fun i => decide (i ≠ y)))), .im d, s5, s6, s7, s8, .un, .un, .im (.int (y : Nat))]) := by
  have d1 : decide ((1 : Int) < ((nD (x :: t)).length : Int)) = true := decide_eq_true (by rw [nD_len, List.length_cons]; omega)
  have d2 : decide ((0 : Int) < v) = true := decide_eq_true hv
  have ct : cutD (nD (x :: t)) (some 1) none = nD t := cut_tl (x :: t)
  have a0 : atI (nD (x :: t)) 0 = some (.int (x : Nat)) := at_nD (l := x :: t) (i := 0) (by rw [List.length_cons]; omega)
  have i1 : ixN (nD B).length (x : Int) = some x := ixN_nat (by rw [nD_len, lB]; exact hx)
  have i2 : ixN (nD (B.set x y)).length (y : Int) = some y := ixN_nat (by rw [nD_len, List.length_set, lB]; exact hy)
  have sz : szOk (nD t).length = true := szOk_le (by rw [nD_len]; omega)
  have fi := filt11 (.mu m2) (.im (.int (M : Nat))) (.ow (.rows [nD A, nD ((B.set x y).set y x), nD C])) (.ow (.lst (nD (x :: t)))) (.im d) s5 s6 s7 s8 y t
  simp only [sNop_ap, row?_ap, eRowM_ap, sRowSub_ap, eRowLen_ap, eRowNil_ap, isUn_un, ixN3_0, ixN3_1, ixN3_2, gRowsD_ap, rowsOf_nil, rowsOf_cons, eMeth_ap, isL_l, isS_s, mAppend_ap, mExtend_ap, ownL_fr, gIn_ap, ownDct_fr, gT_apL, hSorted, hTuple, hList, hRev, sSeq_ap, sBrk_ap, sCnt_ap, sRet_ap, sRetN_ap, sDrop_ap, sIf_ap, sSet_ap, isMu_ap, sAsg_ap, gN_ap, gT_ap, gTs, sPar_ap, sSub_ap, own?_ap, putO_t, putO_f, sAug_ap, sFor_ap, eC_ap, eVar_ap, ePl_ap, eMv_ap, opS_ap, sNil_ap, sCons_ap, gOp_ap, vws_nil, vws_cons, vw_im, vw_fr, vw_frd, vw_frs, vw_frr, vw_pl, view_l, view_d, view_s, view_r, rs_d, rs_l, sl_im, sl_fr, fz_im, fz_fr, fzs_nil, fzs_cons, toD_l, toD_r, gTupD_ap, gLstD_ap, gIx_ap, gDGet_ap, ownDct_pl, keyOf_i, keyOf_s, gMul_ap, tB_ap, tNot_ap, tAnd_ap, tOr_ap, eNot_ap, eAnd_ap, eOr_ap, eIf_ap, tY_ap, eSl_ap, oN_ap, oI_ap, itOf_ap, itR1_ap, itR2_ap, eLc_ap, isIm_ap, eCall_ap, eCallM_ap, fnOf_ap, isPl_im, isPl_fr, eDspl_ap, sArgs_nil, sArgs_cons, mkD_nil, mkD_cons, keepMu_mu, keepMu_im, projS_nil, projS_cons, hAdd, hSub, hMul, hDiv, hMod, hPow, hNeg, hCmp, hEq, hNe, hIsN, hNotN, hIx, hLen, hInt, hAbs, hGcd, hMin, hMax, hCut, isi_ii, isi_ib, isi_tt, isi_ll, isM_un, isM_im, isM_ow, isM_mu, List.getElem?_cons_zero, List.getElem?_cons_succ, List.getElem?_nil, List.set_cons_zero, List.set_cons_succ, List.length_cons, List.length_nil, List.length_map, List.replicate_succ, List.replicate_zero, List.cons_append, List.nil_append, List.map_cons, List.map_nil, Nat.reduceAdd, Nat.zero_add, ne_eq, not_true_eq_false, not_false_eq_true, decide_false, decide_true, Bool.or_self, Bool.or_false, Bool.false_or, Bool.and_self, Bool.false_eq_true, if_false, if_true, reduceIte, szOk_2, szOk_1, szOk_0, szOk_3, lk_left, lk_seed, lk_cells, lk_spot, pt_left, pt_spot, len_mL, mSet, true_and, and_true, List.getD_eq_getElem?_getD, Option.getD_some, seqOf_l, seqOf_t, ↓hIx_sq, ↓hLen_sq, seqOf_sq, ↓hTuple_sq, fz_fr2, gRep_ap, eq_self, gSorted_ap, gSortD_ap, gSortS_ap, ownSet_pl, eDict1_ap, eChain_ap, gInD_ap, gInS_ap, mPop_ap, mAdd_ap, eSet0_ap, sWhile_ap, itEnumX_ap, eM2_ap, eTR1_ap, eLR1_ap, hLtD, hCmp_ii, d1, e1, d2, ct, e2, h11, a0, i1, i2, set_nD, fi, sz]
end
theorem frame_turn2 {n : Int} {M q : Nat} {S : List Sl} (f : FS2 n M q S) (hn : n < 100000000) (hq : q ≤ 500) (d : D) : ∃ S1 S2, gN 4 d S = some S1 ∧ (law_frameBody1 S1 = some (.nx S2) ∨ law_frameBody1 S1 = some (.ct S2)) ∧ FS2 (n + 2) M q S2 := by
  obtain ⟨m, A, B, C, free, s4, s5, s6, s7, s8, s11, rfl, h4, h5, h6, h7, h8, h11, g, hfl, F, fr⟩ := f.ex
  have e0 : gN 4 d [.mu m, .im (.int (M : Nat)), .ow (.rows [nD A, nD B, nD C]), .ow (.lst (nD free)), s4, s5, s6, s7, s8, .un, .un, s11] = some [.mu m, .im (.int (M : Nat)), .ow (.rows [nD A, nD B, nD C]), .ow (.lst (nD free)), .im d, s5, s6, s7, s8, .un, .un, s11] := by simp only [sNop_ap, row?_ap, eRowM_ap, sRowSub_ap, eRowLen_ap, eRowNil_ap, isUn_un, ixN3_0, ixN3_1, ixN3_2, gRowsD_ap, rowsOf_nil, rowsOf_cons, eMeth_ap, isL_l, isS_s, mAppend_ap, mExtend_ap, ownL_fr, gIn_ap, ownDct_fr, gT_apL, hSorted, hTuple, hList, hRev, sSeq_ap, sBrk_ap, sCnt_ap, sRet_ap, sRetN_ap, sDrop_ap, sIf_ap, sSet_ap, isMu_ap, sAsg_ap, gN_ap, gT_ap, gTs, sPar_ap, sSub_ap, own?_ap, putO_t, putO_f, sAug_ap, sFor_ap, eC_ap, eVar_ap, ePl_ap, eMv_ap, opS_ap, sNil_ap, sCons_ap, gOp_ap, vws_nil, vws_cons, vw_im, vw_fr, vw_frd, vw_frs, vw_frr, vw_pl, view_l, view_d, view_s, view_r, rs_d, rs_l, sl_im, sl_fr, fz_im, fz_fr, fzs_nil, fzs_cons, toD_l, toD_r, gTupD_ap, gLstD_ap, gIx_ap, gDGet_ap, ownDct_pl, keyOf_i, keyOf_s, gMul_ap, tB_ap, tNot_ap, tAnd_ap, tOr_ap, eNot_ap, eAnd_ap, eOr_ap, eIf_ap, tY_ap, eSl_ap, oN_ap, oI_ap, itOf_ap, itR1_ap, itR2_ap, eLc_ap, isIm_ap, eCall_ap, eCallM_ap, fnOf_ap, isPl_im, isPl_fr, eDspl_ap, sArgs_nil, sArgs_cons, mkD_nil, mkD_cons, keepMu_mu, keepMu_im, projS_nil, projS_cons, hAdd, hSub, hMul, hDiv, hMod, hPow, hNeg, hCmp, hEq, hNe, hIsN, hNotN, hIx, hLen, hInt, hAbs, hGcd, hMin, hMax, hCut, isi_ii, isi_ib, isi_tt, isi_ll, isM_un, isM_im, isM_ow, isM_mu, List.getElem?_cons_zero, List.getElem?_cons_succ, List.getElem?_nil, List.set_cons_zero, List.set_cons_succ, List.length_cons, List.length_nil, List.length_map, List.replicate_succ, List.replicate_zero, List.cons_append, List.nil_append, List.map_cons, List.map_nil, Nat.reduceAdd, Nat.zero_add, ne_eq, not_true_eq_false, not_false_eq_true, decide_false, decide_true, Bool.or_self, Bool.or_false, Bool.false_or, Bool.and_self, Bool.false_eq_true, if_false, if_true, reduceIte, szOk_2, szOk_1, szOk_0, szOk_3, lk_left, lk_seed, lk_cells, lk_spot, pt_left, pt_spot, len_mL, mSet, true_and, and_true, List.getD_eq_getElem?_getD, Option.getD_some, seqOf_l, seqOf_t, ↓hIx_sq, ↓hLen_sq, seqOf_sq, ↓hTuple_sq, fz_fr2, gRep_ap, eq_self, gSorted_ap, gSortD_ap, gSortS_ap, ownSet_pl, eDict1_ap, eChain_ap, gInD_ap, gInS_ap, mPop_ap, mAdd_ap, eSet0_ap, sWhile_ap, itEnumX_ap, eM2_ap, eTR1_ap, eLR1_ap, hLtD, h4]
  refine ⟨[.mu m, .im (.int (M : Nat)), .ow (.rows [nD A, nD B, nD C]), .ow (.lst (nD free)), .im d, s5, s6, s7, s8, .un, .un, s11], ?_⟩
  have ftl : Fre q B free.tail := by
    cases free with
    | nil => exact fr
    | cons x t => exact fr.tail
  have ltl : free.tail.length ≤ q := by rw [List.length_tail]; omega
  by_cases h1 : free.length ≤ 1
  · exact ⟨_, e0, .inl (frame_d1 (s4 := s4) h1 h4), ⟨m, A, B, C, _, _, _, _, _, _, _, rfl, rfl, h5, h6, h7, h8, h11, g.up (by omega), ltl, F, ftl⟩⟩
  · obtain ⟨v, m1, e1, p1, q1, g1⟩ := draw_eq (b := 3) g (by omega) (by decide) (by decide)
    by_cases hv : 0 < v
    · obtain ⟨x, t, rfl⟩ : ∃ x t, free = x :: t := by
        cases free with
        | nil => exact absurd (Nat.zero_le 1) h1
        | cons x t => exact ⟨x, t, rfl⟩
      rw [List.length_cons] at h1 hfl
      obtain ⟨i, m2, hi, e2, g2⟩ := of_eq (l := nD t) g1 (by omega) (fun z => by
        cases t with
        | nil => simp at h1
        | cons a b => cases z) (by rw [nD_len]; omega)
      rw [nD_len] at hi
      obtain ⟨y, hy, ey⟩ : ∃ y, y ∈ t ∧ (nD t).getD i .none = .int (y : Nat) := by
        refine ⟨t[i], List.getElem_mem hi, ?_⟩
        unfold nD
        rw [List.getD_eq_getElem?_getD, List.getElem?_map, List.getElem?_eq_getElem hi]
        rfl
      rw [ey] at e2
      obtain ⟨x1, x2⟩ := fr.fx x List.mem_cons_self
      obtain ⟨y1, y2⟩ := fr.fx y (List.mem_cons_of_mem _ hy)
      have fl := List.length_filter_le (fun i => decide (i ≠ y)) t
      exact ⟨_, e0, .inl (frame_d3 (by omega) hq (by omega) F.lb x1 y1 h11 e1 hv e2), ⟨m2, A, _, C, _, _, _, _, _, _, _, rfl, rfl, h5, h6, h7, h8, rfl, g2.up (by omega), by omega, F.join x1 y1 x2 y2, Fre.glue F.lb fr hy⟩⟩
    · exact ⟨_, e0, .inl (frame_d2 (by omega) e1 hv), ⟨m1, A, B, C, _, _, _, _, _, _, _, rfl, rfl, h5, h6, h7, h8, h11, g1.up (by omega), ltl, F, ftl⟩⟩
def gN' (g : STg) (d : D) (S S1 : List Sl) : Prop := g d S = some S1
theorem forL_invK {g : STg} {body : SS} (P : Nat → List Sl → Prop) (N : Nat) : ∀ {ds : List D} {k : Nat} {S : List Sl}, k + ds.length ≤ N → (∀ d ∈ ds, ∀ k S, k < N → P k S → ∃ S1 S2, gN' g d S S1 ∧ (body S1 = some (.nx S2) ∨ body S1 = some (.ct S2)) ∧ P (k + 1) S2) → P k S → ∃ S', forL g body ds S = some (.nx S') ∧ P (k + ds.length) S'
  | [], k, S, _, _, p => ⟨S, rfl, p⟩
  | d :: ds, k, S, hN, h, p => by
    rw [List.length_cons] at hN
    obtain ⟨S1, S2, e1, e2, p2⟩ := h d List.mem_cons_self k S (by omega) p
    obtain ⟨S', e3, p3⟩ := forL_invK P N (ds := ds) (k := k + 1) (S := S2) (by omega) (fun d hd => h d (List.mem_cons_of_mem _ hd)) p2
    have e : k + (d :: ds).length = k + 1 + ds.length := by rw [List.length_cons]; omega
    rw [e]
    have e1 : g d S = some S1 := e1
    rcases e2 with e2 | e2
    · exact ⟨S', by simp only [forL, e1, e2, e3], p3⟩
    · exact ⟨S', by simp only [forL, e1, e2, e3], p3⟩
theorem frame_eq {n : Int} {M : Nat} {m : O} (g : Good n m) (hn : n < 10000000) (hM1 : 1 ≤ M) (hM : M ≤ 500) : ∃ (q : Nat) (A B C : List Nat) (m' : O), f_law_frame [.mu m, .im (.int (M : Nat))] = some (.fr (.rows [nD A, nD B, nD C]), [.mu m', .un]) ∧ 1 ≤ q ∧ q ≤ M ∧ FI q A B C ∧ Good (n + 1100) m' := by
  obtain ⟨v, m1, e1, p1, q1, g1⟩ := draw_eq (b := 6) g (by omega) (by decide) (by decide)
  have sm : small62 (1 + v) = true := small62_b (by omega) (by omega)
  have hl : (rngD 0 (1 + v).toNat).length ≤ 6 := by rw [rngD_len]; omega
  obtain ⟨S', el, P'⟩ := forL_invK (g := gN 4) (body := law_frameBody) (fun k S => FS1 (n + 1 + 2 * (k : Nat)) M S) 6 (ds := rngD 0 (1 + v).toNat) (k := 0) (S := [.mu m1, .im (.int (M : Nat)), .ow (.rows [[], [], []]), .ow (.lst []), .un, .un, .un, .un, .un, .un, .un, .un]) (by omega)
    (fun d _ k S hk P => by
      obtain ⟨S1, S2, a, b, c⟩ := frame_turn P (by omega) hM d
      have e : n + 1 + 2 * (k : Int) + 2 = n + 1 + 2 * ((k + 1 : Nat) : Int) := by omega
      rw [e] at c
      exact ⟨S1, S2, a, b, c⟩) ⟨m1, [], [], [], [], 0, _, _, _, _, _, _, rfl, rfl, rfl, rfl, rfl, rfl, rfl, g1.up (by omega), Nat.zero_le _, Nat.le_refl _, .inl ⟨rfl, rfl, rfl, rfl, rfl⟩⟩
  obtain ⟨m2, A, B, C, free, q, s4, s5, s6, s7, s8, s11, rfl, h4, h5, h6, h7, h8, h11, g2, hq, hfl, hf⟩ := P'.ex
  have g2 := g2.up (k := n + 13) (by omega)
  have dv : decide (1 + v ≤ 6) = true := decide_eq_true (by omega)
  rcases hf with ⟨rfl, rfl, rfl, rfl, rfl⟩ | ⟨hq0, F, fr⟩
  · -- nothing was put: one flag
    have ep := put_eq 4 (by decide) (A := []) (B := []) (C := []) (n := 0) rfl rfl rfl (by decide)
    have ew : wN 4 = "one" := rfl
    rw [nD_nil, ew] at ep
    rw [nD_nil] at el
    have ev : PyData.eqv (.list []) (.list []) = true := by decide
    refine ⟨1, putA 4 [], putB 4 [], putC 4 [], m2, ?_, Nat.le_refl _, hM1, FI.first (wok 4 (by decide)).1, g2.up (by omega)⟩
    unfold f_law_frame b_law_frame
    simp only [sNop_ap, row?_ap, eRowM_ap, sRowSub_ap, eRowLen_ap, eRowNil_ap, isUn_un, ixN3_0, ixN3_1, ixN3_2, gRowsD_ap, rowsOf_nil, rowsOf_cons, eMeth_ap, isL_l, isS_s, mAppend_ap, mExtend_ap, ownL_fr, gIn_ap, ownDct_fr, gT_apL, hSorted, hTuple, hList, hRev, sSeq_ap, sBrk_ap, sCnt_ap, sRet_ap, sRetN_ap, sDrop_ap, sIf_ap, sSet_ap, isMu_ap, sAsg_ap, gN_ap, gT_ap, gTs, sPar_ap, sSub_ap, own?_ap, putO_t, putO_f, sAug_ap, sFor_ap, eC_ap, eVar_ap, ePl_ap, eMv_ap, opS_ap, sNil_ap, sCons_ap, gOp_ap, vws_nil, vws_cons, vw_im, vw_fr, vw_frd, vw_frs, vw_frr, vw_pl, view_l, view_d, view_s, view_r, rs_d, rs_l, sl_im, sl_fr, fz_im, fz_fr, fzs_nil, fzs_cons, toD_l, toD_r, gTupD_ap, gLstD_ap, gIx_ap, gDGet_ap, ownDct_pl, keyOf_i, keyOf_s, gMul_ap, tB_ap, tNot_ap, tAnd_ap, tOr_ap, eNot_ap, eAnd_ap, eOr_ap, eIf_ap, tY_ap, eSl_ap, oN_ap, oI_ap, itOf_ap, itR1_ap, itR2_ap, eLc_ap, isIm_ap, eCall_ap, eCallM_ap, fnOf_ap, isPl_im, isPl_fr, eDspl_ap, sArgs_nil, sArgs_cons, mkD_nil, mkD_cons, keepMu_mu, keepMu_im, projS_nil, projS_cons, hAdd, hSub, hMul, hDiv, hMod, hPow, hNeg, hCmp, hEq, hNe, hIsN, hNotN, hIx, hLen, hInt, hAbs, hGcd, hMin, hMax, hCut, isi_ii, isi_ib, isi_tt, isi_ll, isM_un, isM_im, isM_ow, isM_mu, List.getElem?_cons_zero, List.getElem?_cons_succ, List.getElem?_nil, List.set_cons_zero, List.set_cons_succ, List.length_cons, List.length_nil, List.length_map, List.replicate_succ, List.replicate_zero, List.cons_append, List.nil_append, List.map_cons, List.map_nil, Nat.reduceAdd, Nat.zero_add, ne_eq, not_true_eq_false, not_false_eq_true, decide_false, decide_true, Bool.or_self, Bool.or_false, Bool.false_or, Bool.and_self, Bool.false_eq_true, if_false, if_true, reduceIte, szOk_2, szOk_1, szOk_0, szOk_3, lk_left, lk_seed, lk_cells, lk_spot, pt_left, pt_spot, len_mL, mSet, true_and, and_true, List.getD_eq_getElem?_getD, Option.getD_some, seqOf_l, seqOf_t, ↓hIx_sq, ↓hLen_sq, seqOf_sq, ↓hTuple_sq, fz_fr2, gRep_ap, eq_self, gSorted_ap, gSortD_ap, gSortS_ap, ownSet_pl, eDict1_ap, eChain_ap, gInD_ap, gInS_ap, mPop_ap, mAdd_ap, eSet0_ap, sWhile_ap, itEnumX_ap, eM2_ap, eTR1_ap, eLR1_ap, hLtD, e1, sm, el, sh_nil, ev, ep, szOk_3]
  · have lA : (nD A).length = q := by rw [nD_len, F.la]
    have ev : PyData.eqv (.list (nD A)) (.list []) = false := by
      rw [eqv_nil]
      exact decide_eq_false fun z => by
        have := F.la
        rw [z] at this
        simp at this
        omega
    have sm2 : small62 ((nD free).length : Int) = true := small62_b (by omega) (by rw [nD_len]; omega)
    have tn : (((nD free).length : Nat) : Int).toNat = free.length := by rw [nD_len]; exact Int.toNat_natCast _
    have hl2 : (rngD 0 free.length).length ≤ 500 := by rw [rngD_len]; omega
    obtain ⟨S', el2, P'⟩ := forL_invK (g := gN 4) (body := law_frameBody1) (fun k S => FS2 (n + 13 + 2 * (k : Nat)) M q S) 500 (ds := rngD 0 free.length) (k := 0) (S := [.mu m2, .im (.int (M : Nat)), .ow (.rows [nD A, nD B, nD C]), .ow (.lst (nD free)), s4, s5, s6, s7, s8, .un, .un, s11]) (by omega)
      (fun d _ k S hk P => by
        obtain ⟨S1, S2, a, b, c⟩ := frame_turn2 P (by omega) (by omega) d
        have e : n + 13 + 2 * (k : Int) + 2 = n + 13 + 2 * ((k + 1 : Nat) : Int) := by omega
        rw [e] at c
        exact ⟨S1, S2, a, b, c⟩) ⟨m2, A, B, C, free, _, _, _, _, _, _, rfl, h4, h5, h6, h7, h8, h11, g2.up (by omega), hfl, F, fr⟩
    obtain ⟨m3, A', B', C', free', t4, t5, t6, t7, t8, t11, rfl, _, _, _, _, _, _, g3, _, F', _⟩ := P'.ex
    refine ⟨q, A', B', C', m3, ?_, hq0, hq, F', g3.up (by omega)⟩
    unfold f_law_frame b_law_frame
    simp only [sNop_ap, row?_ap, eRowM_ap, sRowSub_ap, eRowLen_ap, eRowNil_ap, isUn_un, ixN3_0, ixN3_1, ixN3_2, gRowsD_ap, rowsOf_nil, rowsOf_cons, eMeth_ap, isL_l, isS_s, mAppend_ap, mExtend_ap, ownL_fr, gIn_ap, ownDct_fr, gT_apL, hSorted, hTuple, hList, hRev, sSeq_ap, sBrk_ap, sCnt_ap, sRet_ap, sRetN_ap, sDrop_ap, sIf_ap, sSet_ap, isMu_ap, sAsg_ap, gN_ap, gT_ap, gTs, sPar_ap, sSub_ap, own?_ap, putO_t, putO_f, sAug_ap, sFor_ap, eC_ap, eVar_ap, ePl_ap, eMv_ap, opS_ap, sNil_ap, sCons_ap, gOp_ap, vws_nil, vws_cons, vw_im, vw_fr, vw_frd, vw_frs, vw_frr, vw_pl, view_l, view_d, view_s, view_r, rs_d, rs_l, sl_im, sl_fr, fz_im, fz_fr, fzs_nil, fzs_cons, toD_l, toD_r, gTupD_ap, gLstD_ap, gIx_ap, gDGet_ap, ownDct_pl, keyOf_i, keyOf_s, gMul_ap, tB_ap, tNot_ap, tAnd_ap, tOr_ap, eNot_ap, eAnd_ap, eOr_ap, eIf_ap, tY_ap, eSl_ap, oN_ap, oI_ap, itOf_ap, itR1_ap, itR2_ap, eLc_ap, isIm_ap, eCall_ap, eCallM_ap, fnOf_ap, isPl_im, isPl_fr, eDspl_ap, sArgs_nil, sArgs_cons, mkD_nil, mkD_cons, keepMu_mu, keepMu_im, projS_nil, projS_cons, hAdd, hSub, hMul, hDiv, hMod, hPow, hNeg, hCmp, hEq, hNe, hIsN, hNotN, hIx, hLen, hInt, hAbs, hGcd, hMin, hMax, hCut, isi_ii, isi_ib, isi_tt, isi_ll, isM_un, isM_im, isM_ow, isM_mu, List.getElem?_cons_zero, List.getElem?_cons_succ, List.getElem?_nil, List.set_cons_zero, List.set_cons_succ, List.length_cons, List.length_nil, List.length_map, List.replicate_succ, List.replicate_zero, List.cons_append, List.nil_append, List.map_cons, List.map_nil, Nat.reduceAdd, Nat.zero_add, ne_eq, not_true_eq_false, not_false_eq_true, decide_false, decide_true, Bool.or_self, Bool.or_false, Bool.false_or, Bool.and_self, Bool.false_eq_true, if_false, if_true, reduceIte, szOk_2, szOk_1, szOk_0, szOk_3, lk_left, lk_seed, lk_cells, lk_spot, pt_left, pt_spot, len_mL, mSet, true_and, and_true, List.getD_eq_getElem?_getD, Option.getD_some, seqOf_l, seqOf_t, ↓hIx_sq, ↓hLen_sq, seqOf_sq, ↓hTuple_sq, fz_fr2, gRep_ap, eq_self, gSorted_ap, gSortD_ap, gSortS_ap, ownSet_pl, eDict1_ap, eChain_ap, gInD_ap, gInS_ap, mPop_ap, mAdd_ap, eSet0_ap, sWhile_ap, itEnumX_ap, eM2_ap, eTR1_ap, eLR1_ap, hLtD, e1, sm, el, sh_nD, ev, sm2, tn, el2, szOk_3]
/-! ### rounds -/
def itr (g : Nat → Nat) : Nat → Nat → Nat
  | 0, x => x
  | k + 1, x => itr g k (g x)
theorem itr_add (g : Nat → Nat) : ∀ (a b x : Nat), itr g (a + b) x = itr g a (itr g b x)
  | a, 0, x => rfl
  | a, b + 1, x => by
    show itr g (a + b) (g x) = _
    rw [itr_add g a b (g x)]; rfl
theorem ex_min {P : Nat → Prop} : ∀ n, P n → ∃ m, P m ∧ ∀ k, k < m → ¬ P k := by
  intro n
  induction n using Nat.strongRecOn with
  | ind n ih =>
    intro hn
    by_cases h : ∃ k, k < n ∧ P k
    · obtain ⟨k, hk, pk⟩ := h
      exact ih k hk pk
    · exact ⟨n, hn, fun k hk pk => h ⟨k, hk, pk⟩⟩
structure IsRound (g : Nat → Nat) (f r : Nat) : Prop where
  pos : 1 ≤ r
  bk : itr g r f = f
  mn : ∀ k, 1 ≤ k → k < r → itr g k f ≠ f
theorem itr_lt {g : Nat → Nat} {n : Nat} (hg : ∀ x, x < n → g x < n) : ∀ (k x : Nat), x < n → itr g k x < n
  | 0, x, h => h
  | k + 1, x, h => itr_lt hg k (g x) (hg x h)
theorem itr_inj {g : Nat → Nat} {n : Nat} (hg : ∀ x, x < n → g x < n) (hi : ∀ x y, x < n → y < n → g x = g y → x = y) : ∀ (k x y : Nat), x < n → y < n → itr g k x = itr g k y → x = y
  | 0, x, y, _, _, e => e
  | k + 1, x, y, hx, hy, e => hi x y hx hy (itr_inj hg hi k (g x) (g y) (hg x hx) (hg y hy) e)
theorem round_ex {g : Nat → Nat} {n : Nat} (hg : ∀ x, x < n → g x < n) (hi : ∀ x y, x < n → y < n → g x = g y → x = y) {f : Nat} (hf : f < n) : ∃ r, r ≤ n ∧ IsRound g f r := by
  have key : ∃ r, 1 ≤ r ∧ r ≤ n ∧ itr g r f = f := by
    refine Classical.byContradiction fun no => ?_
    have nd : ((List.range (n + 1)).map fun i => itr g i f).Nodup := by
      refine List.pairwise_map.mpr (List.Pairwise.imp_of_mem (R := (· < ·)) (fun {a b} ha hb hab e => no ⟨b - a, by omega, by have := List.mem_range.mp hb; omega, ?_⟩) List.pairwise_lt_range)
      have e2 := itr_add g a (b - a) f
      rw [show a + (b - a) = b by omega, ← e] at e2
      exact (itr_inj hg hi a _ _ hf (itr_lt hg _ f hf) e2).symm
    have := nodup_len nd fun x hx => by
      obtain ⟨i, _, rfl⟩ := List.mem_map.mp hx
      exact itr_lt hg i f hf
    rw [List.length_map, List.length_range] at this
    omega
  obtain ⟨r, h1, h2, h3⟩ := key
  obtain ⟨m, ⟨p1, p2⟩, mn⟩ := ex_min (P := fun r => 1 ≤ r ∧ itr g r f = f) r ⟨h1, h3⟩
  have : m ≤ n := by
    rcases Nat.lt_or_ge n m with h | h
    · exact absurd ⟨h1, h3⟩ (mn r (by omega))
    · exact h
  exact ⟨m, this, p1, p2, fun k k1 k2 e => mn k k2 ⟨k1, e⟩⟩
def gb (A B : List Nat) (x : Nat) : Nat := gt B (gt A x)
section
variable {n : Nat} {A B : List Nat}
structure Inv2 (n : Nat) (A B : List Nat) : Prop where
  la : A.length = n
  lb : B.length = n
  ra : ∀ i, i < n → gt A i < n ∧ gt A (gt A i) = i
  rb : ∀ i, i < n → gt B i < n ∧ gt B (gt B i) = i
theorem FI.i01 {C : List Nat} (F : FI n A B C) : Inv2 n A B := ⟨F.la, F.lb, F.ra, F.rb⟩
theorem FI.i12 {C : List Nat} (F : FI n A B C) : Inv2 n B C := ⟨F.lb, F.lc, F.rb, F.rc⟩
theorem gb_lt (I : Inv2 n A B) : ∀ x, x < n → gb A B x < n := fun x hx => (I.rb _ (I.ra x hx).1).1
theorem gb_inj (I : Inv2 n A B) : ∀ x y, x < n → y < n → gb A B x = gb A B y → x = y := fun x y hx hy e => by
  have e1 : gt A x = gt A y := by
    rw [← (I.rb _ (I.ra x hx).1).2, ← (I.rb _ (I.ra y hy).1).2]
    exact congrArg (gt B) e
  rw [← (I.ra x hx).2, ← (I.ra y hy).2, e1]
theorem round_loop (I : Inv2 n A B) (b b' : Bool) {f : Nat} : ∀ (t : Nat) (ds : List D) (p c : Nat) (s5 : Sl), isM s5 = false → p < n → t < ds.length → (∀ k, k < t → itr (gb A B) k p ≠ f) → itr (gb A B) t p = f →
    ∃ x y s, forL (gN 5) law_roundBody ds [.im (sq b (nD A)), .im (sq b' (nD B)), .im (.int (f : Nat)), .im (.int (p : Nat)), .im (.int (c : Nat)), s5] = some (.rt (.im (.int ((c + t : Nat) : Int))) [.im (sq b (nD A)), .im (sq b' (nD B)), .im (.int (f : Nat)), x, y, s])
  | t, [], p, c, s5, _, _, ht, _, _ => by simp at ht
  | 0, d :: ds, p, c, s5, h5, hp, ht, _, e => by
    have e : p = f := e
    have d1 : decide (p = f) = true := decide_eq_true e
    exact ⟨_, _, .im d, by simp only [forL, sNop_ap, row?_ap, eRowM_ap, sRowSub_ap, eRowLen_ap, eRowNil_ap, isUn_un, ixN3_0, ixN3_1, ixN3_2, gRowsD_ap, rowsOf_nil, rowsOf_cons, eMeth_ap, isL_l, isS_s, mAppend_ap, mExtend_ap, ownL_fr, gIn_ap, ownDct_fr, gT_apL, hSorted, hTuple, hList, hRev, sSeq_ap, sBrk_ap, sCnt_ap, sRet_ap, sRetN_ap, sDrop_ap, sIf_ap, sSet_ap, isMu_ap, sAsg_ap, gN_ap, gT_ap, gTs, sPar_ap, sSub_ap, own?_ap, putO_t, putO_f, sAug_ap, sFor_ap, eC_ap, eVar_ap, ePl_ap, eMv_ap, opS_ap, sNil_ap, sCons_ap, gOp_ap, vws_nil, vws_cons, vw_im, vw_fr, vw_frd, vw_frs, vw_frr, vw_pl, view_l, view_d, view_s, view_r, rs_d, rs_l, sl_im, sl_fr, fz_im, fz_fr, fzs_nil, fzs_cons, toD_l, toD_r, gTupD_ap, gLstD_ap, gIx_ap, gDGet_ap, ownDct_pl, keyOf_i, keyOf_s, gMul_ap, tB_ap, tNot_ap, tAnd_ap, tOr_ap, eNot_ap, eAnd_ap, eOr_ap, eIf_ap, tY_ap, eSl_ap, oN_ap, oI_ap, itOf_ap, itR1_ap, itR2_ap, eLc_ap, isIm_ap, eCall_ap, eCallM_ap, fnOf_ap, isPl_im, isPl_fr, eDspl_ap, sArgs_nil, sArgs_cons, mkD_nil, mkD_cons, keepMu_mu, keepMu_im, projS_nil, projS_cons, hAdd, hSub, hMul, hDiv, hMod, hPow, hNeg, hCmp, hEq, hNe, hIsN, hNotN, hIx, hLen, hInt, hAbs, hGcd, hMin, hMax, hCut, isi_ii, isi_ib, isi_tt, isi_ll, isM_un, isM_im, isM_ow, isM_mu, List.getElem?_cons_zero, List.getElem?_cons_succ, List.getElem?_nil, List.set_cons_zero, List.set_cons_succ, List.length_cons, List.length_nil, List.length_map, List.replicate_succ, List.replicate_zero, List.cons_append, List.nil_append, List.map_cons, List.map_nil, Nat.reduceAdd, Nat.zero_add, ne_eq, not_true_eq_false, not_false_eq_true, decide_false, decide_true, Bool.or_self, Bool.or_false, Bool.false_or, Bool.and_self, Bool.false_eq_true, if_false, if_true, reduceIte, szOk_2, szOk_1, szOk_0, szOk_3, lk_left, lk_seed, lk_cells, lk_spot, pt_left, pt_spot, len_mL, mSet, true_and, and_true, List.getD_eq_getElem?_getD, Option.getD_some, seqOf_l, seqOf_t, ↓hIx_sq, ↓hLen_sq, seqOf_sq, ↓hTuple_sq, fz_fr2, gRep_ap, eq_self, gSorted_ap, gSortD_ap, gSortS_ap, ownSet_pl, eDict1_ap, eChain_ap, gInD_ap, gInS_ap, mPop_ap, mAdd_ap, eSet0_ap, sWhile_ap, itEnumX_ap, eM2_ap, eTR1_ap, eLR1_ap, hLtD, h5, sh_int, eqv_nat, d1, Nat.add_zero]; rfl⟩
  | t + 1, d :: ds, p, c, s5, h5, hp, ht, hm, e => by
    have d1 : decide (p = f) = false := decide_eq_false (hm 0 (by omega))
    obtain ⟨x, y, s, ih⟩ := round_loop I b b' t ds (gb A B p) (c + 1) (.im d) rfl (gb_lt I p hp) (by rw [List.length_cons] at ht; omega) (fun k hk => hm (k + 1) (by omega)) e
    have a1 : atI (nD A) (p : Int) = some (.int (gt A p : Nat)) := at_nD (by rw [I.la]; exact hp)
    have a2 : atI (nD B) ((gt A p : Nat) : Int) = some (.int (gt B (gt A p) : Nat)) := at_nD (by rw [I.lb]; exact (I.ra p hp).1)
    have ec : ((c + 1 : Nat) : Int) = (c : Int) + 1 := Int.natCast_add c 1
    have et : c + 1 + t = c + (t + 1) := by omega
    rw [ec, et] at ih
    unfold gb at ih
    refine ⟨x, y, s, ?_⟩
    simp only [forL, sNop_ap, row?_ap, eRowM_ap, sRowSub_ap, eRowLen_ap, eRowNil_ap, isUn_un, ixN3_0, ixN3_1, ixN3_2, gRowsD_ap, rowsOf_nil, rowsOf_cons, eMeth_ap, isL_l, isS_s, mAppend_ap, mExtend_ap, ownL_fr, gIn_ap, ownDct_fr, gT_apL, hSorted, hTuple, hList, hRev, sSeq_ap, sBrk_ap, sCnt_ap, sRet_ap, sRetN_ap, sDrop_ap, sIf_ap, sSet_ap, isMu_ap, sAsg_ap, gN_ap, gT_ap, gTs, sPar_ap, sSub_ap, own?_ap, putO_t, putO_f, sAug_ap, sFor_ap, eC_ap, eVar_ap, ePl_ap, eMv_ap, opS_ap, sNil_ap, sCons_ap, gOp_ap, vws_nil, vws_cons, vw_im, vw_fr, vw_frd, vw_frs, vw_frr, vw_pl, view_l, view_d, view_s, view_r, rs_d, rs_l, sl_im, sl_fr, fz_im, fz_fr, fzs_nil, fzs_cons, toD_l, toD_r, gTupD_ap, gLstD_ap, gIx_ap, gDGet_ap, ownDct_pl, keyOf_i, keyOf_s, gMul_ap, tB_ap, tNot_ap, tAnd_ap, tOr_ap, eNot_ap, eAnd_ap, eOr_ap, eIf_ap, tY_ap, eSl_ap, oN_ap, oI_ap, itOf_ap, itR1_ap, itR2_ap, eLc_ap, isIm_ap, eCall_ap, eCallM_ap, fnOf_ap, isPl_im, isPl_fr, eDspl_ap, sArgs_nil, sArgs_cons, mkD_nil, mkD_cons, keepMu_mu, keepMu_im, projS_nil, projS_cons, hAdd, hSub, hMul, hDiv, hMod, hPow, hNeg, hCmp, hEq, hNe, hIsN, hNotN, hIx, hLen, hInt, hAbs, hGcd, hMin, hMax, hCut, isi_ii, isi_ib, isi_tt, isi_ll, isM_un, isM_im, isM_ow, isM_mu, List.getElem?_cons_zero, List.getElem?_cons_succ, List.getElem?_nil, List.set_cons_zero, List.set_cons_succ, List.length_cons, List.length_nil, List.length_map, List.replicate_succ, List.replicate_zero, List.cons_append, List.nil_append, List.map_cons, List.map_nil, Nat.reduceAdd, Nat.zero_add, ne_eq, not_true_eq_false, not_false_eq_true, decide_false, decide_true, Bool.or_self, Bool.or_false, Bool.false_or, Bool.and_self, Bool.false_eq_true, if_false, if_true, reduceIte, szOk_2, szOk_1, szOk_0, szOk_3, lk_left, lk_seed, lk_cells, lk_spot, pt_left, pt_spot, len_mL, mSet, true_and, and_true, List.getD_eq_getElem?_getD, Option.getD_some, seqOf_l, seqOf_t, ↓hIx_sq, ↓hLen_sq, seqOf_sq, ↓hTuple_sq, fz_fr2, gRep_ap, eq_self, gSorted_ap, gSortD_ap, gSortS_ap, ownSet_pl, eDict1_ap, eChain_ap, gInD_ap, gInS_ap, mPop_ap, mAdd_ap, eSet0_ap, sWhile_ap, itEnumX_ap, eM2_ap, eTR1_ap, eLR1_ap, hLtD, h5, sh_int, eqv_nat, d1, a1, a2, ih]
theorem round_eq (I : Inv2 n A B) (hn : n ≤ 1000) (b b' : Bool) {f : Nat} (hf : f < n) : ∃ r, r ≤ n ∧ IsRound (gb A B) f r ∧ f_law_round [.im (sq b (nD A)), .im (sq b' (nD B)), .im (.int (f : Nat))] = some (.im (.int (r : Nat)), [.un, .un, .un]) := by
  obtain ⟨r, hr, R⟩ := round_ex (gb_lt I) (gb_inj I) hf
  have r1 := R.pos
  have e1 : ∀ k, itr (gb A B) k (gb A B f) = itr (gb A B) (k + 1) f := fun k => rfl
  obtain ⟨x, y, s, h⟩ := round_loop I b b' (f := f) (r - 1) (rngD 0 n) (gb A B f) 1 .un rfl (gb_lt I f hf) (by rw [rngD_len]; omega) (fun k hk => by rw [e1]; exact R.mn (k + 1) (by omega) (by omega)) (by rw [e1, show r - 1 + 1 = r by omega]; exact R.bk)
  rw [show 1 + (r - 1) = r by omega] at h
  have sm : small62 ((n : Nat) : Int) = true := small62_b (by omega) (by omega)
  have tn : ((n : Nat) : Int).toNat = n := Int.toNat_natCast _
  have la : (nD A).length = n := by rw [nD_len, I.la]
  have a1 : atI (nD A) (f : Int) = some (.int (gt A f : Nat)) := at_nD (by rw [I.la]; exact hf)
  have a2 : atI (nD B) ((gt A f : Nat) : Int) = some (.int (gt B (gt A f) : Nat)) := at_nD (by rw [I.lb]; exact (I.ra f hf).1)
  have o1 : ((1 : Nat) : Int) = 1 := rfl
  rw [o1] at h
  unfold gb at h
  refine ⟨r, hr, R, ?_⟩
  unfold f_law_round b_law_round
  simp only [sNop_ap, row?_ap, eRowM_ap, sRowSub_ap, eRowLen_ap, eRowNil_ap, isUn_un, ixN3_0, ixN3_1, ixN3_2, gRowsD_ap, rowsOf_nil, rowsOf_cons, eMeth_ap, isL_l, isS_s, mAppend_ap, mExtend_ap, ownL_fr, gIn_ap, ownDct_fr, gT_apL, hSorted, hTuple, hList, hRev, sSeq_ap, sBrk_ap, sCnt_ap, sRet_ap, sRetN_ap, sDrop_ap, sIf_ap, sSet_ap, isMu_ap, sAsg_ap, gN_ap, gT_ap, gTs, sPar_ap, sSub_ap, own?_ap, putO_t, putO_f, sAug_ap, sFor_ap, eC_ap, eVar_ap, ePl_ap, eMv_ap, opS_ap, sNil_ap, sCons_ap, gOp_ap, vws_nil, vws_cons, vw_im, vw_fr, vw_frd, vw_frs, vw_frr, vw_pl, view_l, view_d, view_s, view_r, rs_d, rs_l, sl_im, sl_fr, fz_im, fz_fr, fzs_nil, fzs_cons, toD_l, toD_r, gTupD_ap, gLstD_ap, gIx_ap, gDGet_ap, ownDct_pl, keyOf_i, keyOf_s, gMul_ap, tB_ap, tNot_ap, tAnd_ap, tOr_ap, eNot_ap, eAnd_ap, eOr_ap, eIf_ap, tY_ap, eSl_ap, oN_ap, oI_ap, itOf_ap, itR1_ap, itR2_ap, eLc_ap, isIm_ap, eCall_ap, eCallM_ap, fnOf_ap, isPl_im, isPl_fr, eDspl_ap, sArgs_nil, sArgs_cons, mkD_nil, mkD_cons, keepMu_mu, keepMu_im, projS_nil, projS_cons, hAdd, hSub, hMul, hDiv, hMod, hPow, hNeg, hCmp, hEq, hNe, hIsN, hNotN, hIx, hLen, hInt, hAbs, hGcd, hMin, hMax, hCut, isi_ii, isi_ib, isi_tt, isi_ll, isM_un, isM_im, isM_ow, isM_mu, List.getElem?_cons_zero, List.getElem?_cons_succ, List.getElem?_nil, List.set_cons_zero, List.set_cons_succ, List.length_cons, List.length_nil, List.length_map, List.replicate_succ, List.replicate_zero, List.cons_append, List.nil_append, List.map_cons, List.map_nil, Nat.reduceAdd, Nat.zero_add, ne_eq, not_true_eq_false, not_false_eq_true, decide_false, decide_true, Bool.or_self, Bool.or_false, Bool.false_or, Bool.and_self, Bool.false_eq_true, if_false, if_true, reduceIte, szOk_2, szOk_1, szOk_0, szOk_3, lk_left, lk_seed, lk_cells, lk_spot, pt_left, pt_spot, len_mL, mSet, true_and, and_true, List.getD_eq_getElem?_getD, Option.getD_some, seqOf_l, seqOf_t, ↓hIx_sq, ↓hLen_sq, seqOf_sq, ↓hTuple_sq, fz_fr2, gRep_ap, eq_self, gSorted_ap, gSortD_ap, gSortS_ap, ownSet_pl, eDict1_ap, eChain_ap, gInD_ap, gInS_ap, mPop_ap, mAdd_ap, eSet0_ap, sWhile_ap, itEnumX_ap, eM2_ap, eTR1_ap, eLR1_ap, hLtD, a1, a2, la, sm, tn, h]
end
/-! ### classes, orders (what comes is in place), patterns -/
theorem toInts_map : ∀ l : List Int, toInts (l.map PyData.int) = some l
  | [] => rfl
  | i :: l => by simp only [List.map_cons, toInts, toInts_map l]
theorem sorted_nD (L : List Nat) : ∃ L' : List Nat, hSorted [.list (nD L)] = some (.l (nD L')) ∧ L'.Perm L := by
  have p := sortI_perm (L.map fun (i : Nat) => (i : Int))
  refine ⟨(sortI (L.map fun (i : Nat) => (i : Int))).map Int.toNat, ?_, ?_⟩
  · have e : hSorted [.list (nD L)] = some (.l ((sortI (L.map fun (i : Nat) => (i : Int))).map PyData.int)) := by
      rw [nD_ints]
      simp only [hSorted, toInts_map]
    rw [e]
    have : nD ((sortI (L.map fun (i : Nat) => (i : Int))).map Int.toNat) = (sortI (L.map fun (i : Nat) => (i : Int))).map PyData.int := by
      unfold nD
      rw [List.map_map]
      refine List.map_congr_left fun x hx => ?_
      obtain ⟨i, _, rfl⟩ := List.mem_map.mp (p.mem_iff.mp hx)
      rfl
    rw [this]
  · have := p.map Int.toNat
    rw [List.map_map] at this
    refine this.trans ?_
    rw [show (Int.toNat ∘ fun (i : Nat) => (i : Int)) = id from funext fun x => Int.toNat_natCast x, List.map_id]
section
variable {n : Nat} {A B : List Nat}
theorem class_one (a b c : Sl) (s4 : Sl) {L : List Nat} {x : Nat} (hL : L.length ≤ 5000) : ∃ L' : List Nat, (L' = L ∨ L' = L ++ [x]) ∧ (x ∈ L → L' = L) ∧ (x ∉ L → L' = L ++ [x]) ∧
    law_classBody1 [a, b, c, .ow (.lst (nD L)), s4, .im (.int (x : Nat))] = some (.nx [a, b, c, .ow (.lst (nD L')), s4, .im (.int (x : Nat))]) := by
  have sz : szOk ((nD L).length + 1) = true := szOk_le (by rw [nD_len]; omega)
  have hany : ((nD L).any fun z => PyData.eqv z (.int (x : Nat))) = decide (x ∈ L) := by
    clear sz hL
    induction L with
    | nil => rfl
    | cons y L ih =>
      rw [nD_cons, List.any_cons, ih, eqv_nat]
      by_cases h : y = x
      · subst h; simp
      · by_cases h2 : x ∈ L
        · simp [h2]
        · simp [h, h2, Ne.symm h]
  have hin : hIn true [.int (x : Nat), .list (nD L)] = some (.d (.bool (true != decide (x ∈ L)))) := by
    show (if SeqAt.shaped (.int (x : Nat)) && SeqAt.shaped (.list (nD L)) then some (Res.d (.bool (true != (nD L).any fun z => PyData.eqv z (.int (x : Nat))))) else none) = _
    rw [sh_int, sh_nD, hany]; rfl
  by_cases h : x ∈ L
  · have e : (true != decide (x ∈ L)) = false := by rw [decide_eq_true h]; rfl
    rw [e] at hin
    exact ⟨L, .inl rfl, fun _ => rfl, fun z => absurd h z, by simp only [sNop_ap, row?_ap, eRowM_ap, sRowSub_ap, eRowLen_ap, eRowNil_ap, isUn_un, ixN3_0, ixN3_1, ixN3_2, gRowsD_ap, rowsOf_nil, rowsOf_cons, eMeth_ap, isL_l, isS_s, mAppend_ap, mExtend_ap, ownL_fr, gIn_ap, ownDct_fr, gT_apL, hSorted, hTuple, hList, hRev, sSeq_ap, sBrk_ap, sCnt_ap, sRet_ap, sRetN_ap, sDrop_ap, sIf_ap, sSet_ap, isMu_ap, sAsg_ap, gN_ap, gT_ap, gTs, sPar_ap, sSub_ap, own?_ap, putO_t, putO_f, sAug_ap, sFor_ap, eC_ap, eVar_ap, ePl_ap, eMv_ap, opS_ap, sNil_ap, sCons_ap, gOp_ap, vws_nil, vws_cons, vw_im, vw_fr, vw_frd, vw_frs, vw_frr, vw_pl, view_l, view_d, view_s, view_r, rs_d, rs_l, sl_im, sl_fr, fz_im, fz_fr, fzs_nil, fzs_cons, toD_l, toD_r, gTupD_ap, gLstD_ap, gIx_ap, gDGet_ap, ownDct_pl, keyOf_i, keyOf_s, gMul_ap, tB_ap, tNot_ap, tAnd_ap, tOr_ap, eNot_ap, eAnd_ap, eOr_ap, eIf_ap, tY_ap, eSl_ap, oN_ap, oI_ap, itOf_ap, itR1_ap, itR2_ap, eLc_ap, isIm_ap, eCall_ap, eCallM_ap, fnOf_ap, isPl_im, isPl_fr, eDspl_ap, sArgs_nil, sArgs_cons, mkD_nil, mkD_cons, keepMu_mu, keepMu_im, projS_nil, projS_cons, hAdd, hSub, hMul, hDiv, hMod, hPow, hNeg, hCmp, hEq, hNe, hIsN, hNotN, hIx, hLen, hInt, hAbs, hGcd, hMin, hMax, hCut, isi_ii, isi_ib, isi_tt, isi_ll, isM_un, isM_im, isM_ow, isM_mu, List.getElem?_cons_zero, List.getElem?_cons_succ, List.getElem?_nil, List.set_cons_zero, List.set_cons_succ, List.length_cons, List.length_nil, List.length_map, List.replicate_succ, List.replicate_zero, List.cons_append, List.nil_append, List.map_cons, List.map_nil, Nat.reduceAdd, Nat.zero_add, ne_eq, not_true_eq_false, not_false_eq_true, decide_false, decide_true, Bool.or_self, Bool.or_false, Bool.false_or, Bool.and_self, Bool.false_eq_true, if_false, if_true, reduceIte, szOk_2, szOk_1, szOk_0, szOk_3, lk_left, lk_seed, lk_cells, lk_spot, pt_left, pt_spot, len_mL, mSet, true_and, and_true, List.getD_eq_getElem?_getD, Option.getD_some, seqOf_l, seqOf_t, ↓hIx_sq, ↓hLen_sq, seqOf_sq, ↓hTuple_sq, fz_fr2, gRep_ap, eq_self, gSorted_ap, gSortD_ap, gSortS_ap, ownSet_pl, eDict1_ap, eChain_ap, gInD_ap, gInS_ap, mPop_ap, mAdd_ap, eSet0_ap, sWhile_ap, itEnumX_ap, eM2_ap, eTR1_ap, eLR1_ap, hLtD, hin]⟩
  · have e : (true != decide (x ∈ L)) = true := by rw [decide_eq_false h]; rfl
    rw [e] at hin
    exact ⟨L ++ [x], .inr rfl, fun z => absurd z h, fun _ => rfl, by simp only [sNop_ap, row?_ap, eRowM_ap, sRowSub_ap, eRowLen_ap, eRowNil_ap, isUn_un, ixN3_0, ixN3_1, ixN3_2, gRowsD_ap, rowsOf_nil, rowsOf_cons, eMeth_ap, isL_l, isS_s, mAppend_ap, mExtend_ap, ownL_fr, gIn_ap, ownDct_fr, gT_apL, hSorted, hTuple, hList, hRev, sSeq_ap, sBrk_ap, sCnt_ap, sRet_ap, sRetN_ap, sDrop_ap, sIf_ap, sSet_ap, isMu_ap, sAsg_ap, gN_ap, gT_ap, gTs, sPar_ap, sSub_ap, own?_ap, putO_t, putO_f, sAug_ap, sFor_ap, eC_ap, eVar_ap, ePl_ap, eMv_ap, opS_ap, sNil_ap, sCons_ap, gOp_ap, vws_nil, vws_cons, vw_im, vw_fr, vw_frd, vw_frs, vw_frr, vw_pl, view_l, view_d, view_s, view_r, rs_d, rs_l, sl_im, sl_fr, fz_im, fz_fr, fzs_nil, fzs_cons, toD_l, toD_r, gTupD_ap, gLstD_ap, gIx_ap, gDGet_ap, ownDct_pl, keyOf_i, keyOf_s, gMul_ap, tB_ap, tNot_ap, tAnd_ap, tOr_ap, eNot_ap, eAnd_ap, eOr_ap, eIf_ap, tY_ap, eSl_ap, oN_ap, oI_ap, itOf_ap, itR1_ap, itR2_ap, eLc_ap, isIm_ap, eCall_ap, eCallM_ap, fnOf_ap, isPl_im, isPl_fr, eDspl_ap, sArgs_nil, sArgs_cons, mkD_nil, mkD_cons, keepMu_mu, keepMu_im, projS_nil, projS_cons, hAdd, hSub, hMul, hDiv, hMod, hPow, hNeg, hCmp, hEq, hNe, hIsN, hNotN, hIx, hLen, hInt, hAbs, hGcd, hMin, hMax, hCut, isi_ii, isi_ib, isi_tt, isi_ll, isM_un, isM_im, isM_ow, isM_mu, List.getElem?_cons_zero, List.getElem?_cons_succ, List.getElem?_nil, List.set_cons_zero, List.set_cons_succ, List.length_cons, List.length_nil, List.length_map, List.replicate_succ, List.replicate_zero, List.cons_append, List.nil_append, List.map_cons, List.map_nil, Nat.reduceAdd, Nat.zero_add, ne_eq, not_true_eq_false, not_false_eq_true, decide_false, decide_true, Bool.or_self, Bool.or_false, Bool.false_or, Bool.and_self, Bool.false_eq_true, if_false, if_true, reduceIte, szOk_2, szOk_1, szOk_0, szOk_3, lk_left, lk_seed, lk_cells, lk_spot, pt_left, pt_spot, len_mL, mSet, true_and, and_true, List.getD_eq_getElem?_getD, Option.getD_some, seqOf_l, seqOf_t, ↓hIx_sq, ↓hLen_sq, seqOf_sq, ↓hTuple_sq, fz_fr2, gRep_ap, eq_self, gSorted_ap, gSortD_ap, gSortS_ap, ownSet_pl, eDict1_ap, eChain_ap, gInD_ap, gInS_ap, mPop_ap, mAdd_ap, eSet0_ap, sWhile_ap, itEnumX_ap, eM2_ap, eTR1_ap, eLR1_ap, hLtD, hin, sz, nD_app, nD_cons, nD_nil]⟩
theorem class_loop (I : Inv2 n A B) (hn : n ≤ 1000) (b b' : Bool) (c : Sl) : ∀ (ks L : List Nat) (s4 s5 : Sl), isM s4 = false → isM s5 = false → L.length + 2 * ks.length ≤ 3000 → (∀ x ∈ L, x < n) →
    ∃ L' : List Nat, (∀ x ∈ L', x < n) ∧ L'.length ≤ 3000 ∧ ∃ s3' s4' s5', forL (gN 4) law_classBody (nD ks) [.im (sq b (nD A)), .im (sq b' (nD B)), c, .ow (.lst (nD L)), s4, s5] = some (.nx [.im (sq b (nD A)), .im (sq b' (nD B)), c, .ow (.lst (nD L')), s4', s5']) ∨
      forL (gN 4) law_classBody (nD ks) [.im (sq b (nD A)), .im (sq b' (nD B)), c, .ow (.lst (nD L)), s4, s5] = some (.rt (.fr (.lst (nD L'))) [.im (sq b (nD A)), .im (sq b' (nD B)), c, s3', s4', s5'])
  | [], L, s4, s5, _, _, hl, hL => ⟨L, hL, by simp at hl; omega, .un, s4, s5, .inl rfl⟩
  | k :: ks, L, s4, s5, h4, h5, hl, hL => by
    rw [List.length_cons] at hl
    by_cases hk : L.length ≤ k
    · obtain ⟨L', e, p⟩ := sorted_nD L
      have d1 : decide (((nD L).length : Int) ≤ (k : Int)) = true := decide_eq_true (by rw [nD_len]; omega)
      refine ⟨L', fun x hx => hL x (p.mem_iff.mp hx), by rw [p.length_eq]; omega, .ow (.lst (nD L)), .im (.int (k : Nat)), s5, .inr ?_⟩
      rw [nD_cons]
      simp only [forL, ↓e, sNop_ap, row?_ap, eRowM_ap, sRowSub_ap, eRowLen_ap, eRowNil_ap, isUn_un, ixN3_0, ixN3_1, ixN3_2, gRowsD_ap, rowsOf_nil, rowsOf_cons, eMeth_ap, isL_l, isS_s, mAppend_ap, mExtend_ap, ownL_fr, gIn_ap, ownDct_fr, gT_apL, hSorted, hTuple, hList, hRev, sSeq_ap, sBrk_ap, sCnt_ap, sRet_ap, sRetN_ap, sDrop_ap, sIf_ap, sSet_ap, isMu_ap, sAsg_ap, gN_ap, gT_ap, gTs, sPar_ap, sSub_ap, own?_ap, putO_t, putO_f, sAug_ap, sFor_ap, eC_ap, eVar_ap, ePl_ap, eMv_ap, opS_ap, sNil_ap, sCons_ap, gOp_ap, vws_nil, vws_cons, vw_im, vw_fr, vw_frd, vw_frs, vw_frr, vw_pl, view_l, view_d, view_s, view_r, rs_d, rs_l, sl_im, sl_fr, fz_im, fz_fr, fzs_nil, fzs_cons, toD_l, toD_r, gTupD_ap, gLstD_ap, gIx_ap, gDGet_ap, ownDct_pl, keyOf_i, keyOf_s, gMul_ap, tB_ap, tNot_ap, tAnd_ap, tOr_ap, eNot_ap, eAnd_ap, eOr_ap, eIf_ap, tY_ap, eSl_ap, oN_ap, oI_ap, itOf_ap, itR1_ap, itR2_ap, eLc_ap, isIm_ap, eCall_ap, eCallM_ap, fnOf_ap, isPl_im, isPl_fr, eDspl_ap, sArgs_nil, sArgs_cons, mkD_nil, mkD_cons, keepMu_mu, keepMu_im, projS_nil, projS_cons, hAdd, hSub, hMul, hDiv, hMod, hPow, hNeg, hCmp, hEq, hNe, hIsN, hNotN, hIx, hLen, hInt, hAbs, hGcd, hMin, hMax, hCut, isi_ii, isi_ib, isi_tt, isi_ll, isM_un, isM_im, isM_ow, isM_mu, List.getElem?_cons_zero, List.getElem?_cons_succ, List.getElem?_nil, List.set_cons_zero, List.set_cons_succ, List.length_cons, List.length_nil, List.length_map, List.replicate_succ, List.replicate_zero, List.cons_append, List.nil_append, List.map_cons, List.map_nil, Nat.reduceAdd, Nat.zero_add, ne_eq, not_true_eq_false, not_false_eq_true, decide_false, decide_true, Bool.or_self, Bool.or_false, Bool.false_or, Bool.and_self, Bool.false_eq_true, if_false, if_true, reduceIte, szOk_2, szOk_1, szOk_0, szOk_3, lk_left, lk_seed, lk_cells, lk_spot, pt_left, pt_spot, len_mL, mSet, true_and, and_true, List.getD_eq_getElem?_getD, Option.getD_some, seqOf_l, seqOf_t, ↓hIx_sq, ↓hLen_sq, seqOf_sq, ↓hTuple_sq, fz_fr2, gRep_ap, eq_self, gSorted_ap, gSortD_ap, gSortS_ap, ownSet_pl, eDict1_ap, eChain_ap, gInD_ap, gInS_ap, mPop_ap, mAdd_ap, eSet0_ap, sWhile_ap, itEnumX_ap, eM2_ap, eTR1_ap, eLR1_ap, hLtD, h4, hCmp_ii, d1]
    · have d1 : decide (((nD L).length : Int) ≤ (k : Int)) = false := decide_eq_false (by rw [nD_len]; omega)
      have hk : k < L.length := by omega
      have hg : gt L k < n := hL _ (by
        unfold gt
        rw [List.getD_eq_getElem?_getD, List.getElem?_eq_getElem hk]
        exact List.getElem_mem hk)
      have a0 : atI (nD L) (k : Int) = some (.int (gt L k : Nat)) := at_nD hk
      have a1 : atI (nD A) ((gt L k : Nat) : Int) = some (.int (gt A (gt L k) : Nat)) := at_nD (by rw [I.la]; exact hg)
      have a2 : atI (nD B) ((gt L k : Nat) : Int) = some (.int (gt B (gt L k) : Nat)) := at_nD (by rw [I.lb]; exact hg)
      obtain ⟨L1, o1, _, _, e1⟩ := class_one (.im (sq b (nD A))) (.im (sq b' (nD B))) c (.im (.int (k : Nat))) (L := L) (x := gt A (gt L k)) (by omega)
      have l1 : L1.length ≤ L.length + 1 := by rcases o1 with rfl | rfl <;> simp
      obtain ⟨L2, o2, _, _, e2⟩ := class_one (.im (sq b (nD A))) (.im (sq b' (nD B))) c (.im (.int (k : Nat))) (L := L1) (x := gt B (gt L k)) (by omega)
      have l2 : L2.length ≤ L1.length + 1 := by rcases o2 with rfl | rfl <;> simp
      have h1 : ∀ x ∈ L1, x < n := by
        rcases o1 with rfl | rfl
        · exact hL
        · intro x hx
          rcases List.mem_append.mp hx with h | h
          · exact hL x h
          · rw [List.mem_singleton.mp h]; exact (I.ra _ hg).1
      have h2 : ∀ x ∈ L2, x < n := by
        rcases o2 with rfl | rfl
        · exact h1
        · intro x hx
          rcases List.mem_append.mp hx with h | h
          · exact h1 x h
          · rw [List.mem_singleton.mp h]; exact (I.rb _ hg).1
      obtain ⟨L', hL', hl', s3', s4', s5', ih⟩ := class_loop I hn b b' c ks L2 (.im (.int (k : Nat))) (.im (.int (gt B (gt L k) : Nat))) rfl rfl (by omega) h2
      refine ⟨L', hL', hl', s3', s4', s5', ?_⟩
      have key : forL (gN 4) law_classBody (nD (k :: ks)) [.im (sq b (nD A)), .im (sq b' (nD B)), c, .ow (.lst (nD L)), s4, s5] = forL (gN 4) law_classBody (nD ks) [.im (sq b (nD A)), .im (sq b' (nD B)), c, .ow (.lst (nD L2)), .im (.int (k : Nat)), .im (.int (gt B (gt L k) : Nat))] := by
        rw [nD_cons]
        simp only [forL, ↓e1, ↓e2, sNop_ap, row?_ap, eRowM_ap, sRowSub_ap, eRowLen_ap, eRowNil_ap, isUn_un, ixN3_0, ixN3_1, ixN3_2, gRowsD_ap, rowsOf_nil, rowsOf_cons, eMeth_ap, isL_l, isS_s, mAppend_ap, mExtend_ap, ownL_fr, gIn_ap, ownDct_fr, gT_apL, hSorted, hTuple, hList, hRev, sSeq_ap, sBrk_ap, sCnt_ap, sRet_ap, sRetN_ap, sDrop_ap, sIf_ap, sSet_ap, isMu_ap, sAsg_ap, gN_ap, gT_ap, gTs, sPar_ap, sSub_ap, own?_ap, putO_t, putO_f, sAug_ap, sFor_ap, eC_ap, eVar_ap, ePl_ap, eMv_ap, opS_ap, sNil_ap, sCons_ap, gOp_ap, vws_nil, vws_cons, vw_im, vw_fr, vw_frd, vw_frs, vw_frr, vw_pl, view_l, view_d, view_s, view_r, rs_d, rs_l, sl_im, sl_fr, fz_im, fz_fr, fzs_nil, fzs_cons, toD_l, toD_r, gTupD_ap, gLstD_ap, gIx_ap, gDGet_ap, ownDct_pl, keyOf_i, keyOf_s, gMul_ap, tB_ap, tNot_ap, tAnd_ap, tOr_ap, eNot_ap, eAnd_ap, eOr_ap, eIf_ap, tY_ap, eSl_ap, oN_ap, oI_ap, itOf_ap, itR1_ap, itR2_ap, eLc_ap, isIm_ap, eCall_ap, eCallM_ap, fnOf_ap, isPl_im, isPl_fr, eDspl_ap, sArgs_nil, sArgs_cons, mkD_nil, mkD_cons, keepMu_mu, keepMu_im, projS_nil, projS_cons, hAdd, hSub, hMul, hDiv, hMod, hPow, hNeg, hCmp, hEq, hNe, hIsN, hNotN, hIx, hLen, hInt, hAbs, hGcd, hMin, hMax, hCut, isi_ii, isi_ib, isi_tt, isi_ll, isM_un, isM_im, isM_ow, isM_mu, List.getElem?_cons_zero, List.getElem?_cons_succ, List.getElem?_nil, List.set_cons_zero, List.set_cons_succ, List.length_cons, List.length_nil, List.length_map, List.replicate_succ, List.replicate_zero, List.cons_append, List.nil_append, List.map_cons, List.map_nil, Nat.reduceAdd, Nat.zero_add, ne_eq, not_true_eq_false, not_false_eq_true, decide_false, decide_true, Bool.or_self, Bool.or_false, Bool.false_or, Bool.and_self, Bool.false_eq_true, if_false, if_true, reduceIte, szOk_2, szOk_1, szOk_0, szOk_3, lk_left, lk_seed, lk_cells, lk_spot, pt_left, pt_spot, len_mL, mSet, true_and, and_true, List.getD_eq_getElem?_getD, Option.getD_some, seqOf_l, seqOf_t, ↓hIx_sq, ↓hLen_sq, seqOf_sq, ↓hTuple_sq, fz_fr2, gRep_ap, eq_self, gSorted_ap, gSortD_ap, gSortS_ap, ownSet_pl, eDict1_ap, eChain_ap, gInD_ap, gInS_ap, mPop_ap, mAdd_ap, eSet0_ap, sWhile_ap, itEnumX_ap, eM2_ap, eTR1_ap, eLR1_ap, hLtD, h4, h5, hCmp_ii, d1, a0, a1, a2]
      rw [key]
      exact ih
theorem rngD_nD (n : Nat) : rngD 0 n = nD (List.range n) := by unfold rngD nD; simp only [Int.zero_add]
theorem class_eq (I : Inv2 n A B) (hn : n ≤ 1000) (b b' : Bool) {f : Nat} (hf : f < n) : ∃ L : List Nat, (∀ x ∈ L, x < n) ∧ L.length ≤ 3000 ∧ f_law_class [.im (sq b (nD A)), .im (sq b' (nD B)), .im (.int (f : Nat))] = some (.fr (.lst (nD L)), [.un, .un, .un]) := by
  obtain ⟨L', hL', hl', s3', s4', s5', h⟩ := class_loop I hn b b' (.im (.int (f : Nat))) (List.range n) [f] .un .un rfl rfl (by rw [List.length_range]; simp; omega) (fun x hx => by rw [List.mem_singleton.mp hx]; exact hf)
  have sm : small62 ((n : Nat) : Int) = true := small62_b (by omega) (by omega)
  have tn : ((n : Nat) : Int).toNat = n := Int.toNat_natCast _
  have la : (nD A).length = n := by rw [nD_len, I.la]
  rw [nD_cons, nD_nil, ← rngD_nD] at h
  rcases h with h | h
  · obtain ⟨L2, e, p⟩ := sorted_nD L'
    refine ⟨L2, fun x hx => hL' x (p.mem_iff.mp hx), by rw [p.length_eq]; exact hl', ?_⟩
    unfold f_law_class b_law_class
    simp only [↓e, ↓h, sNop_ap, row?_ap, eRowM_ap, sRowSub_ap, eRowLen_ap, eRowNil_ap, isUn_un, ixN3_0, ixN3_1, ixN3_2, gRowsD_ap, rowsOf_nil, rowsOf_cons, eMeth_ap, isL_l, isS_s, mAppend_ap, mExtend_ap, ownL_fr, gIn_ap, ownDct_fr, gT_apL, hSorted, hTuple, hList, hRev, sSeq_ap, sBrk_ap, sCnt_ap, sRet_ap, sRetN_ap, sDrop_ap, sIf_ap, sSet_ap, isMu_ap, sAsg_ap, gN_ap, gT_ap, gTs, sPar_ap, sSub_ap, own?_ap, putO_t, putO_f, sAug_ap, sFor_ap, eC_ap, eVar_ap, ePl_ap, eMv_ap, opS_ap, sNil_ap, sCons_ap, gOp_ap, vws_nil, vws_cons, vw_im, vw_fr, vw_frd, vw_frs, vw_frr, vw_pl, view_l, view_d, view_s, view_r, rs_d, rs_l, sl_im, sl_fr, fz_im, fz_fr, fzs_nil, fzs_cons, toD_l, toD_r, gTupD_ap, gLstD_ap, gIx_ap, gDGet_ap, ownDct_pl, keyOf_i, keyOf_s, gMul_ap, tB_ap, tNot_ap, tAnd_ap, tOr_ap, eNot_ap, eAnd_ap, eOr_ap, eIf_ap, tY_ap, eSl_ap, oN_ap, oI_ap, itOf_ap, itR1_ap, itR2_ap, eLc_ap, isIm_ap, eCall_ap, eCallM_ap, fnOf_ap, isPl_im, isPl_fr, eDspl_ap, sArgs_nil, sArgs_cons, mkD_nil, mkD_cons, keepMu_mu, keepMu_im, projS_nil, projS_cons, hAdd, hSub, hMul, hDiv, hMod, hPow, hNeg, hCmp, hEq, hNe, hIsN, hNotN, hIx, hLen, hInt, hAbs, hGcd, hMin, hMax, hCut, isi_ii, isi_ib, isi_tt, isi_ll, isM_un, isM_im, isM_ow, isM_mu, List.getElem?_cons_zero, List.getElem?_cons_succ, List.getElem?_nil, List.set_cons_zero, List.set_cons_succ, List.length_cons, List.length_nil, List.length_map, List.replicate_succ, List.replicate_zero, List.cons_append, List.nil_append, List.map_cons, List.map_nil, Nat.reduceAdd, Nat.zero_add, ne_eq, not_true_eq_false, not_false_eq_true, decide_false, decide_true, Bool.or_self, Bool.or_false, Bool.false_or, Bool.and_self, Bool.false_eq_true, if_false, if_true, reduceIte, szOk_2, szOk_1, szOk_0, szOk_3, lk_left, lk_seed, lk_cells, lk_spot, pt_left, pt_spot, len_mL, mSet, true_and, and_true, List.getD_eq_getElem?_getD, Option.getD_some, seqOf_l, seqOf_t, ↓hIx_sq, ↓hLen_sq, seqOf_sq, ↓hTuple_sq, fz_fr2, gRep_ap, eq_self, gSorted_ap, gSortD_ap, gSortS_ap, ownSet_pl, eDict1_ap, eChain_ap, gInD_ap, gInS_ap, mPop_ap, mAdd_ap, eSet0_ap, sWhile_ap, itEnumX_ap, eM2_ap, eTR1_ap, eLR1_ap, hLtD, la, sm, tn]
  · refine ⟨L', hL', hl', ?_⟩
    unfold f_law_class b_law_class
    simp only [↓h, sNop_ap, row?_ap, eRowM_ap, sRowSub_ap, eRowLen_ap, eRowNil_ap, isUn_un, ixN3_0, ixN3_1, ixN3_2, gRowsD_ap, rowsOf_nil, rowsOf_cons, eMeth_ap, isL_l, isS_s, mAppend_ap, mExtend_ap, ownL_fr, gIn_ap, ownDct_fr, gT_apL, hSorted, hTuple, hList, hRev, sSeq_ap, sBrk_ap, sCnt_ap, sRet_ap, sRetN_ap, sDrop_ap, sIf_ap, sSet_ap, isMu_ap, sAsg_ap, gN_ap, gT_ap, gTs, sPar_ap, sSub_ap, own?_ap, putO_t, putO_f, sAug_ap, sFor_ap, eC_ap, eVar_ap, ePl_ap, eMv_ap, opS_ap, sNil_ap, sCons_ap, gOp_ap, vws_nil, vws_cons, vw_im, vw_fr, vw_frd, vw_frs, vw_frr, vw_pl, view_l, view_d, view_s, view_r, rs_d, rs_l, sl_im, sl_fr, fz_im, fz_fr, fzs_nil, fzs_cons, toD_l, toD_r, gTupD_ap, gLstD_ap, gIx_ap, gDGet_ap, ownDct_pl, keyOf_i, keyOf_s, gMul_ap, tB_ap, tNot_ap, tAnd_ap, tOr_ap, eNot_ap, eAnd_ap, eOr_ap, eIf_ap, tY_ap, eSl_ap, oN_ap, oI_ap, itOf_ap, itR1_ap, itR2_ap, eLc_ap, isIm_ap, eCall_ap, eCallM_ap, fnOf_ap, isPl_im, isPl_fr, eDspl_ap, sArgs_nil, sArgs_cons, mkD_nil, mkD_cons, keepMu_mu, keepMu_im, projS_nil, projS_cons, hAdd, hSub, hMul, hDiv, hMod, hPow, hNeg, hCmp, hEq, hNe, hIsN, hNotN, hIx, hLen, hInt, hAbs, hGcd, hMin, hMax, hCut, isi_ii, isi_ib, isi_tt, isi_ll, isM_un, isM_im, isM_ow, isM_mu, List.getElem?_cons_zero, List.getElem?_cons_succ, List.getElem?_nil, List.set_cons_zero, List.set_cons_succ, List.length_cons, List.length_nil, List.length_map, List.replicate_succ, List.replicate_zero, List.cons_append, List.nil_append, List.map_cons, List.map_nil, Nat.reduceAdd, Nat.zero_add, ne_eq, not_true_eq_false, not_false_eq_true, decide_false, decide_true, Bool.or_self, Bool.or_false, Bool.false_or, Bool.and_self, Bool.false_eq_true, if_false, if_true, reduceIte, szOk_2, szOk_1, szOk_0, szOk_3, lk_left, lk_seed, lk_cells, lk_spot, pt_left, pt_spot, len_mL, mSet, true_and, and_true, List.getD_eq_getElem?_getD, Option.getD_some, seqOf_l, seqOf_t, ↓hIx_sq, ↓hLen_sq, seqOf_sq, ↓hTuple_sq, fz_fr2, gRep_ap, eq_self, gSorted_ap, gSortD_ap, gSortS_ap, ownSet_pl, eDict1_ap, eChain_ap, gInD_ap, gInS_ap, mPop_ap, mAdd_ap, eSet0_ap, sWhile_ap, itEnumX_ap, eM2_ap, eTR1_ap, eLR1_ap, hLtD, la, sm, tn]
theorem zeros (a b c d e f g : Sl) : ∀ l : List Nat, lcL 5 tY (eC (.int 0)) (nD l) [a, b, c, d, e, .un, f, g] = some (nD (l.map fun _ => 0), [a, b, c, d, e, .un, f, g])
  | [] => rfl
  | i :: l => by
    have ih := zeros a b c d e f g l
    simp only [nD_cons, lcL, sNop_ap, row?_ap, eRowM_ap, sRowSub_ap, eRowLen_ap, eRowNil_ap, isUn_un, ixN3_0, ixN3_1, ixN3_2, gRowsD_ap, rowsOf_nil, rowsOf_cons, eMeth_ap, isL_l, isS_s, mAppend_ap, mExtend_ap, ownL_fr, gIn_ap, ownDct_fr, gT_apL, hSorted, hTuple, hList, hRev, sSeq_ap, sBrk_ap, sCnt_ap, sRet_ap, sRetN_ap, sDrop_ap, sIf_ap, sSet_ap, isMu_ap, sAsg_ap, gN_ap, gT_ap, gTs, sPar_ap, sSub_ap, own?_ap, putO_t, putO_f, sAug_ap, sFor_ap, eC_ap, eVar_ap, ePl_ap, eMv_ap, opS_ap, sNil_ap, sCons_ap, gOp_ap, vws_nil, vws_cons, vw_im, vw_fr, vw_frd, vw_frs, vw_frr, vw_pl, view_l, view_d, view_s, view_r, rs_d, rs_l, sl_im, sl_fr, fz_im, fz_fr, fzs_nil, fzs_cons, toD_l, toD_r, gTupD_ap, gLstD_ap, gIx_ap, gDGet_ap, ownDct_pl, keyOf_i, keyOf_s, gMul_ap, tB_ap, tNot_ap, tAnd_ap, tOr_ap, eNot_ap, eAnd_ap, eOr_ap, eIf_ap, tY_ap, eSl_ap, oN_ap, oI_ap, itOf_ap, itR1_ap, itR2_ap, eLc_ap, isIm_ap, eCall_ap, eCallM_ap, fnOf_ap, isPl_im, isPl_fr, eDspl_ap, sArgs_nil, sArgs_cons, mkD_nil, mkD_cons, keepMu_mu, keepMu_im, projS_nil, projS_cons, hAdd, hSub, hMul, hDiv, hMod, hPow, hNeg, hCmp, hEq, hNe, hIsN, hNotN, hIx, hLen, hInt, hAbs, hGcd, hMin, hMax, hCut, isi_ii, isi_ib, isi_tt, isi_ll, isM_un, isM_im, isM_ow, isM_mu, List.getElem?_cons_zero, List.getElem?_cons_succ, List.getElem?_nil, List.set_cons_zero, List.set_cons_succ, List.length_cons, List.length_nil, List.length_map, List.replicate_succ, List.replicate_zero, List.cons_append, List.nil_append, List.map_cons, List.map_nil, Nat.reduceAdd, Nat.zero_add, ne_eq, not_true_eq_false, not_false_eq_true, decide_false, decide_true, Bool.or_self, Bool.or_false, Bool.false_or, Bool.and_self, Bool.false_eq_true, if_false, if_true, reduceIte, szOk_2, szOk_1, szOk_0, szOk_3, lk_left, lk_seed, lk_cells, lk_spot, pt_left, pt_spot, len_mL, mSet, true_and, and_true, List.getD_eq_getElem?_getD, Option.getD_some, seqOf_l, seqOf_t, ↓hIx_sq, ↓hLen_sq, seqOf_sq, ↓hTuple_sq, fz_fr2, gRep_ap, eq_self, gSorted_ap, gSortD_ap, gSortS_ap, ownSet_pl, eDict1_ap, eChain_ap, gInD_ap, gInS_ap, mPop_ap, mAdd_ap, eSet0_ap, sWhile_ap, itEnumX_ap, eM2_ap, eTR1_ap, eLR1_ap, hLtD, ih]
    rfl
theorem put_loop (a b c d : Sl) (v : Nat) : ∀ (ds F : List Nat) (s5 s7 : Sl), isM s7 = false → F.length = n → (∀ x ∈ ds, x < n) → ∃ F' s7', F'.length = n ∧ isM s7' = false ∧
    forL (gN 7) law_ordersBody1 (nD ds) [a, b, c, d, .ow (.lst (nD F)), s5, .im (.int (v : Nat)), s7] = some (.nx [a, b, c, d, .ow (.lst (nD F')), s5, .im (.int (v : Nat)), s7'])
  | [], F, s5, s7, h7, hF, _ => ⟨F, s7, hF, h7, rfl⟩
  | x :: ds, F, s5, s7, h7, hF, hx => by
    have hx0 := hx x List.mem_cons_self
    obtain ⟨F', s7', h1, h2, ih⟩ := put_loop a b c d v ds (F.set x v) s5 (.im (.int (x : Nat))) rfl (by rw [List.length_set]; exact hF) (fun y hy => hx y (List.mem_cons_of_mem _ hy))
    have i1 : ixN (nD F).length (x : Int) = some x := ixN_nat (by rw [nD_len, hF]; exact hx0)
    refine ⟨F', s7', h1, h2, ?_⟩
    rw [nD_cons]
    simp only [forL, sNop_ap, row?_ap, eRowM_ap, sRowSub_ap, eRowLen_ap, eRowNil_ap, isUn_un, ixN3_0, ixN3_1, ixN3_2, gRowsD_ap, rowsOf_nil, rowsOf_cons, eMeth_ap, isL_l, isS_s, mAppend_ap, mExtend_ap, ownL_fr, gIn_ap, ownDct_fr, gT_apL, hSorted, hTuple, hList, hRev, sSeq_ap, sBrk_ap, sCnt_ap, sRet_ap, sRetN_ap, sDrop_ap, sIf_ap, sSet_ap, isMu_ap, sAsg_ap, gN_ap, gT_ap, gTs, sPar_ap, sSub_ap, own?_ap, putO_t, putO_f, sAug_ap, sFor_ap, eC_ap, eVar_ap, ePl_ap, eMv_ap, opS_ap, sNil_ap, sCons_ap, gOp_ap, vws_nil, vws_cons, vw_im, vw_fr, vw_frd, vw_frs, vw_frr, vw_pl, view_l, view_d, view_s, view_r, rs_d, rs_l, sl_im, sl_fr, fz_im, fz_fr, fzs_nil, fzs_cons, toD_l, toD_r, gTupD_ap, gLstD_ap, gIx_ap, gDGet_ap, ownDct_pl, keyOf_i, keyOf_s, gMul_ap, tB_ap, tNot_ap, tAnd_ap, tOr_ap, eNot_ap, eAnd_ap, eOr_ap, eIf_ap, tY_ap, eSl_ap, oN_ap, oI_ap, itOf_ap, itR1_ap, itR2_ap, eLc_ap, isIm_ap, eCall_ap, eCallM_ap, fnOf_ap, isPl_im, isPl_fr, eDspl_ap, sArgs_nil, sArgs_cons, mkD_nil, mkD_cons, keepMu_mu, keepMu_im, projS_nil, projS_cons, hAdd, hSub, hMul, hDiv, hMod, hPow, hNeg, hCmp, hEq, hNe, hIsN, hNotN, hIx, hLen, hInt, hAbs, hGcd, hMin, hMax, hCut, isi_ii, isi_ib, isi_tt, isi_ll, isM_un, isM_im, isM_ow, isM_mu, List.getElem?_cons_zero, List.getElem?_cons_succ, List.getElem?_nil, List.set_cons_zero, List.set_cons_succ, List.length_cons, List.length_nil, List.length_map, List.replicate_succ, List.replicate_zero, List.cons_append, List.nil_append, List.map_cons, List.map_nil, Nat.reduceAdd, Nat.zero_add, ne_eq, not_true_eq_false, not_false_eq_true, decide_false, decide_true, Bool.or_self, Bool.or_false, Bool.false_or, Bool.and_self, Bool.false_eq_true, if_false, if_true, reduceIte, szOk_2, szOk_1, szOk_0, szOk_3, lk_left, lk_seed, lk_cells, lk_spot, pt_left, pt_spot, len_mL, mSet, true_and, and_true, List.getD_eq_getElem?_getD, Option.getD_some, seqOf_l, seqOf_t, ↓hIx_sq, ↓hLen_sq, seqOf_sq, ↓hTuple_sq, fz_fr2, gRep_ap, eq_self, gSorted_ap, gSortD_ap, gSortS_ap, ownSet_pl, eDict1_ap, eChain_ap, gInD_ap, gInS_ap, mPop_ap, mAdd_ap, eSet0_ap, sWhile_ap, itEnumX_ap, eM2_ap, eTR1_ap, eLR1_ap, hLtD, h7, i1, set_nD, ih]
structure OS (n : Nat) (q : Int) (A B : List Nat) (b b' : Bool) (w : Nat) (S : List Sl) : Prop where
  ex : ∃ (m : O) (F : List Nat) (s5 s6 s7 : Sl), S = [.mu m, .im (sq b (nD A)), .im (sq b' (nD B)), .im (.int (w : Nat)), .ow (.lst (nD F)), s5, s6, s7] ∧ isM s5 = false ∧ isM s6 = false ∧ isM s7 = false ∧ Good q m ∧ F.length = n
theorem orders_turn (I : Inv2 n A B) (hn : n ≤ 1000) (b b' : Bool) {q : Int} {w k : Nat} (hk : k < n) (hw1 : 1 ≤ w) (hw : w ≤ 1000000) (hq : q < 100000000) {S : List Sl} (f : OS n q A B b b' w S) :
    ∃ S1 S2, gN 5 (.int (k : Nat)) S = some S1 ∧ (law_ordersBody S1 = some (.nx S2) ∨ law_ordersBody S1 = some (.ct S2)) ∧ OS n (q + 1) A B b b' w S2 := by
  obtain ⟨m, F, s5, s6, s7, rfl, h5, h6, h7, g, hF⟩ := f.ex
  have e0 : gN 5 (.int (k : Nat)) [.mu m, .im (sq b (nD A)), .im (sq b' (nD B)), .im (.int (w : Nat)), .ow (.lst (nD F)), s5, s6, s7] = some [.mu m, .im (sq b (nD A)), .im (sq b' (nD B)), .im (.int (w : Nat)), .ow (.lst (nD F)), .im (.int (k : Nat)), s6, s7] := by simp only [sNop_ap, row?_ap, eRowM_ap, sRowSub_ap, eRowLen_ap, eRowNil_ap, isUn_un, ixN3_0, ixN3_1, ixN3_2, gRowsD_ap, rowsOf_nil, rowsOf_cons, eMeth_ap, isL_l, isS_s, mAppend_ap, mExtend_ap, ownL_fr, gIn_ap, ownDct_fr, gT_apL, hSorted, hTuple, hList, hRev, sSeq_ap, sBrk_ap, sCnt_ap, sRet_ap, sRetN_ap, sDrop_ap, sIf_ap, sSet_ap, isMu_ap, sAsg_ap, gN_ap, gT_ap, gTs, sPar_ap, sSub_ap, own?_ap, putO_t, putO_f, sAug_ap, sFor_ap, eC_ap, eVar_ap, ePl_ap, eMv_ap, opS_ap, sNil_ap, sCons_ap, gOp_ap, vws_nil, vws_cons, vw_im, vw_fr, vw_frd, vw_frs, vw_frr, vw_pl, view_l, view_d, view_s, view_r, rs_d, rs_l, sl_im, sl_fr, fz_im, fz_fr, fzs_nil, fzs_cons, toD_l, toD_r, gTupD_ap, gLstD_ap, gIx_ap, gDGet_ap, ownDct_pl, keyOf_i, keyOf_s, gMul_ap, tB_ap, tNot_ap, tAnd_ap, tOr_ap, eNot_ap, eAnd_ap, eOr_ap, eIf_ap, tY_ap, eSl_ap, oN_ap, oI_ap, itOf_ap, itR1_ap, itR2_ap, eLc_ap, isIm_ap, eCall_ap, eCallM_ap, fnOf_ap, isPl_im, isPl_fr, eDspl_ap, sArgs_nil, sArgs_cons, mkD_nil, mkD_cons, keepMu_mu, keepMu_im, projS_nil, projS_cons, hAdd, hSub, hMul, hDiv, hMod, hPow, hNeg, hCmp, hEq, hNe, hIsN, hNotN, hIx, hLen, hInt, hAbs, hGcd, hMin, hMax, hCut, isi_ii, isi_ib, isi_tt, isi_ll, isM_un, isM_im, isM_ow, isM_mu, List.getElem?_cons_zero, List.getElem?_cons_succ, List.getElem?_nil, List.set_cons_zero, List.set_cons_succ, List.length_cons, List.length_nil, List.length_map, List.replicate_succ, List.replicate_zero, List.cons_append, List.nil_append, List.map_cons, List.map_nil, Nat.reduceAdd, Nat.zero_add, ne_eq, not_true_eq_false, not_false_eq_true, decide_false, decide_true, Bool.or_self, Bool.or_false, Bool.false_or, Bool.and_self, Bool.false_eq_true, if_false, if_true, reduceIte, szOk_2, szOk_1, szOk_0, szOk_3, lk_left, lk_seed, lk_cells, lk_spot, pt_left, pt_spot, len_mL, mSet, true_and, and_true, List.getD_eq_getElem?_getD, Option.getD_some, seqOf_l, seqOf_t, ↓hIx_sq, ↓hLen_sq, seqOf_sq, ↓hTuple_sq, fz_fr2, gRep_ap, eq_self, gSorted_ap, gSortD_ap, gSortS_ap, ownSet_pl, eDict1_ap, eChain_ap, gInD_ap, gInS_ap, mPop_ap, mAdd_ap, eSet0_ap, sWhile_ap, itEnumX_ap, eM2_ap, eTR1_ap, eLR1_ap, hLtD, h5]
  have ak : atI (nD F) (k : Int) = some (.int (gt F k : Nat)) := at_nD (by omega)
  by_cases hz : gt F k = 0
  · obtain ⟨r, hr, R, er⟩ := round_eq I hn b b' hk
    obtain ⟨v, m1, e1, p1, q1, g1⟩ := draw_eq (b := (w : Nat)) g (by omega) (by omega) (by omega)
    obtain ⟨L, hL, hl, ec⟩ := class_eq I hn b b' hk
    have mo : mulOk (r : Int) (1 + v) = true := mulOk_l (by omega) (by omega)
    have ev : ((r * (1 + v.toNat) : Nat) : Int) = (r : Int) * (1 + v) := by
      rw [Int.natCast_mul, Int.natCast_add, Int.toNat_of_nonneg p1]; rfl
    obtain ⟨F', s7', h1, h2, ep⟩ := put_loop (n := n) (.mu m1) (.im (sq b (nD A))) (.im (sq b' (nD B))) (.im (.int (w : Nat))) (r * (1 + v.toNat)) L F (.im (.int (k : Nat))) s7 h7 hF hL
    rw [ev] at ep
    have dz : decide (((gt F k : Nat) : Int) = 0) = true := decide_eq_true (by omega)
    refine ⟨_, [.mu m1, .im (sq b (nD A)), .im (sq b' (nD B)), .im (.int (w : Nat)), .ow (.lst (nD F')), .im (.int (k : Nat)), .im (.int ((r : Int) * (1 + v))), s7'], e0, .inl ?_, ⟨m1, F', _, _, s7', rfl, rfl, rfl, h2, g1, h1⟩⟩
    simp only [↓er, ↓e1, ↓ec, ↓ep, sNop_ap, row?_ap, eRowM_ap, sRowSub_ap, eRowLen_ap, eRowNil_ap, isUn_un, ixN3_0, ixN3_1, ixN3_2, gRowsD_ap, rowsOf_nil, rowsOf_cons, eMeth_ap, isL_l, isS_s, mAppend_ap, mExtend_ap, ownL_fr, gIn_ap, ownDct_fr, gT_apL, hSorted, hTuple, hList, hRev, sSeq_ap, sBrk_ap, sCnt_ap, sRet_ap, sRetN_ap, sDrop_ap, sIf_ap, sSet_ap, isMu_ap, sAsg_ap, gN_ap, gT_ap, gTs, sPar_ap, sSub_ap, own?_ap, putO_t, putO_f, sAug_ap, sFor_ap, eC_ap, eVar_ap, ePl_ap, eMv_ap, opS_ap, sNil_ap, sCons_ap, gOp_ap, vws_nil, vws_cons, vw_im, vw_fr, vw_frd, vw_frs, vw_frr, vw_pl, view_l, view_d, view_s, view_r, rs_d, rs_l, sl_im, sl_fr, fz_im, fz_fr, fzs_nil, fzs_cons, toD_l, toD_r, gTupD_ap, gLstD_ap, gIx_ap, gDGet_ap, ownDct_pl, keyOf_i, keyOf_s, gMul_ap, tB_ap, tNot_ap, tAnd_ap, tOr_ap, eNot_ap, eAnd_ap, eOr_ap, eIf_ap, tY_ap, eSl_ap, oN_ap, oI_ap, itOf_ap, itR1_ap, itR2_ap, eLc_ap, isIm_ap, eCall_ap, eCallM_ap, fnOf_ap, isPl_im, isPl_fr, eDspl_ap, sArgs_nil, sArgs_cons, mkD_nil, mkD_cons, keepMu_mu, keepMu_im, projS_nil, projS_cons, hAdd, hSub, hMul, hDiv, hMod, hPow, hNeg, hCmp, hEq, hNe, hIsN, hNotN, hIx, hLen, hInt, hAbs, hGcd, hMin, hMax, hCut, isi_ii, isi_ib, isi_tt, isi_ll, isM_un, isM_im, isM_ow, isM_mu, List.getElem?_cons_zero, List.getElem?_cons_succ, List.getElem?_nil, List.set_cons_zero, List.set_cons_succ, List.length_cons, List.length_nil, List.length_map, List.replicate_succ, List.replicate_zero, List.cons_append, List.nil_append, List.map_cons, List.map_nil, Nat.reduceAdd, Nat.zero_add, ne_eq, not_true_eq_false, not_false_eq_true, decide_false, decide_true, Bool.or_self, Bool.or_false, Bool.false_or, Bool.and_self, Bool.false_eq_true, if_false, if_true, reduceIte, szOk_2, szOk_1, szOk_0, szOk_3, lk_left, lk_seed, lk_cells, lk_spot, pt_left, pt_spot, len_mL, mSet, true_and, and_true, List.getD_eq_getElem?_getD, Option.getD_some, seqOf_l, seqOf_t, ↓hIx_sq, ↓hLen_sq, seqOf_sq, ↓hTuple_sq, fz_fr2, gRep_ap, eq_self, gSorted_ap, gSortD_ap, gSortS_ap, ownSet_pl, eDict1_ap, eChain_ap, gInD_ap, gInS_ap, mPop_ap, mAdd_ap, eSet0_ap, sWhile_ap, itEnumX_ap, eM2_ap, eTR1_ap, eLR1_ap, hLtD, ak, sh_int, eqv_int, dz, mo, h6]
  · have dz : decide (((gt F k : Nat) : Int) = 0) = false := decide_eq_false (by omega)
    refine ⟨_, [.mu m, .im (sq b (nD A)), .im (sq b' (nD B)), .im (.int (w : Nat)), .ow (.lst (nD F)), .im (.int (k : Nat)), s6, s7], e0, .inl ?_, ⟨m, F, _, _, _, rfl, rfl, h6, h7, g.up (by omega), hF⟩⟩
    simp only [sNop_ap, row?_ap, eRowM_ap, sRowSub_ap, eRowLen_ap, eRowNil_ap, isUn_un, ixN3_0, ixN3_1, ixN3_2, gRowsD_ap, rowsOf_nil, rowsOf_cons, eMeth_ap, isL_l, isS_s, mAppend_ap, mExtend_ap, ownL_fr, gIn_ap, ownDct_fr, gT_apL, hSorted, hTuple, hList, hRev, sSeq_ap, sBrk_ap, sCnt_ap, sRet_ap, sRetN_ap, sDrop_ap, sIf_ap, sSet_ap, isMu_ap, sAsg_ap, gN_ap, gT_ap, gTs, sPar_ap, sSub_ap, own?_ap, putO_t, putO_f, sAug_ap, sFor_ap, eC_ap, eVar_ap, ePl_ap, eMv_ap, opS_ap, sNil_ap, sCons_ap, gOp_ap, vws_nil, vws_cons, vw_im, vw_fr, vw_frd, vw_frs, vw_frr, vw_pl, view_l, view_d, view_s, view_r, rs_d, rs_l, sl_im, sl_fr, fz_im, fz_fr, fzs_nil, fzs_cons, toD_l, toD_r, gTupD_ap, gLstD_ap, gIx_ap, gDGet_ap, ownDct_pl, keyOf_i, keyOf_s, gMul_ap, tB_ap, tNot_ap, tAnd_ap, tOr_ap, eNot_ap, eAnd_ap, eOr_ap, eIf_ap, tY_ap, eSl_ap, oN_ap, oI_ap, itOf_ap, itR1_ap, itR2_ap, eLc_ap, isIm_ap, eCall_ap, eCallM_ap, fnOf_ap, isPl_im, isPl_fr, eDspl_ap, sArgs_nil, sArgs_cons, mkD_nil, mkD_cons, keepMu_mu, keepMu_im, projS_nil, projS_cons, hAdd, hSub, hMul, hDiv, hMod, hPow, hNeg, hCmp, hEq, hNe, hIsN, hNotN, hIx, hLen, hInt, hAbs, hGcd, hMin, hMax, hCut, isi_ii, isi_ib, isi_tt, isi_ll, isM_un, isM_im, isM_ow, isM_mu, List.getElem?_cons_zero, List.getElem?_cons_succ, List.getElem?_nil, List.set_cons_zero, List.set_cons_succ, List.length_cons, List.length_nil, List.length_map, List.replicate_succ, List.replicate_zero, List.cons_append, List.nil_append, List.map_cons, List.map_nil, Nat.reduceAdd, Nat.zero_add, ne_eq, not_true_eq_false, not_false_eq_true, decide_false, decide_true, Bool.or_self, Bool.or_false, Bool.false_or, Bool.and_self, Bool.false_eq_true, if_false, if_true, reduceIte, szOk_2, szOk_1, szOk_0, szOk_3, lk_left, lk_seed, lk_cells, lk_spot, pt_left, pt_spot, len_mL, mSet, true_and, and_true, List.getD_eq_getElem?_getD, Option.getD_some, seqOf_l, seqOf_t, ↓hIx_sq, ↓hLen_sq, seqOf_sq, ↓hTuple_sq, fz_fr2, gRep_ap, eq_self, gSorted_ap, gSortD_ap, gSortS_ap, ownSet_pl, eDict1_ap, eChain_ap, gInD_ap, gInS_ap, mPop_ap, mAdd_ap, eSet0_ap, sWhile_ap, itEnumX_ap, eM2_ap, eTR1_ap, eLR1_ap, hLtD, ak, sh_int, eqv_int, dz]
theorem orders_eq (I : Inv2 n A B) (hn : n ≤ 500) (b b' : Bool) {q : Int} {m : O} {w : Nat} (hw1 : 1 ≤ w) (hw : w ≤ 1000000) (hq : q < 10000000) (g : Good q m) :
    ∃ (F : List Nat) (m' : O), F.length = n ∧ Good (q + 500) m' ∧ f_law_orders [.mu m, .im (sq b (nD A)), .im (sq b' (nD B)), .im (.int (w : Nat))] = some (.im (.tuple (nD F)), [.mu m', .un, .un, .un]) := by
  have z := zeros (.mu m) (.im (sq b (nD A))) (.im (sq b' (nD B))) (.im (.int (w : Nat))) .un .un .un A
  have hl : (rngD 0 n).length ≤ 500 := by rw [rngD_len]; omega
  obtain ⟨S', el, P⟩ := forL_invK (g := gN 5) (body := law_ordersBody) (fun k S => OS n (q + (k : Nat)) A B b b' w S) 500 (ds := rngD 0 n) (k := 0) (S := [.mu m, .im (sq b (nD A)), .im (sq b' (nD B)), .im (.int (w : Nat)), .ow (.lst (nD (A.map fun _ => 0))), .un, .un, .un]) (by omega)
    (fun d hd k S hk P => by
      obtain ⟨j, rfl, hj⟩ := rngD_mem hd
      obtain ⟨S1, S2, a, b, c⟩ := orders_turn I (by omega) b b' hj hw1 hw (by omega) P
      have e : q + (k : Int) + 1 = q + ((k + 1 : Nat) : Int) := by omega
      rw [e] at c
      exact ⟨S1, S2, a, b, c⟩) ⟨m, _, _, _, _, rfl, rfl, rfl, rfl, g.up (by omega), by rw [List.length_map]; exact I.la⟩
  obtain ⟨m', F, s5, s6, s7, rfl, h5, h6, h7, g', hF⟩ := P.ex
  have sm : small62 ((n : Nat) : Int) = true := small62_b (by omega) (by omega)
  have tn : ((n : Nat) : Int).toNat = n := Int.toNat_natCast _
  have la : (nD A).length = n := by rw [nD_len, I.la]
  have sz : szOk n = true := szOk_le (by omega)
  rw [rngD_len] at g'
  refine ⟨F, m', hF, g'.up (by omega), ?_⟩
  unfold f_law_orders b_law_orders
  simp only [↓z, ↓el, sNop_ap, row?_ap, eRowM_ap, sRowSub_ap, eRowLen_ap, eRowNil_ap, isUn_un, ixN3_0, ixN3_1, ixN3_2, gRowsD_ap, rowsOf_nil, rowsOf_cons, eMeth_ap, isL_l, isS_s, mAppend_ap, mExtend_ap, ownL_fr, gIn_ap, ownDct_fr, gT_apL, hSorted, hTuple, hList, hRev, sSeq_ap, sBrk_ap, sCnt_ap, sRet_ap, sRetN_ap, sDrop_ap, sIf_ap, sSet_ap, isMu_ap, sAsg_ap, gN_ap, gT_ap, gTs, sPar_ap, sSub_ap, own?_ap, putO_t, putO_f, sAug_ap, sFor_ap, eC_ap, eVar_ap, ePl_ap, eMv_ap, opS_ap, sNil_ap, sCons_ap, gOp_ap, vws_nil, vws_cons, vw_im, vw_fr, vw_frd, vw_frs, vw_frr, vw_pl, view_l, view_d, view_s, view_r, rs_d, rs_l, sl_im, sl_fr, fz_im, fz_fr, fzs_nil, fzs_cons, toD_l, toD_r, gTupD_ap, gLstD_ap, gIx_ap, gDGet_ap, ownDct_pl, keyOf_i, keyOf_s, gMul_ap, tB_ap, tNot_ap, tAnd_ap, tOr_ap, eNot_ap, eAnd_ap, eOr_ap, eIf_ap, tY_ap, eSl_ap, oN_ap, oI_ap, itOf_ap, itR1_ap, itR2_ap, eLc_ap, isIm_ap, eCall_ap, eCallM_ap, fnOf_ap, isPl_im, isPl_fr, eDspl_ap, sArgs_nil, sArgs_cons, mkD_nil, mkD_cons, keepMu_mu, keepMu_im, projS_nil, projS_cons, hAdd, hSub, hMul, hDiv, hMod, hPow, hNeg, hCmp, hEq, hNe, hIsN, hNotN, hIx, hLen, hInt, hAbs, hGcd, hMin, hMax, hCut, isi_ii, isi_ib, isi_tt, isi_ll, isM_un, isM_im, isM_ow, isM_mu, List.getElem?_cons_zero, List.getElem?_cons_succ, List.getElem?_nil, List.set_cons_zero, List.set_cons_succ, List.length_cons, List.length_nil, List.length_map, List.replicate_succ, List.replicate_zero, List.cons_append, List.nil_append, List.map_cons, List.map_nil, Nat.reduceAdd, Nat.zero_add, ne_eq, not_true_eq_false, not_false_eq_true, decide_false, decide_true, Bool.or_self, Bool.or_false, Bool.false_or, Bool.and_self, Bool.false_eq_true, if_false, if_true, reduceIte, szOk_2, szOk_1, szOk_0, szOk_3, lk_left, lk_seed, lk_cells, lk_spot, pt_left, pt_spot, len_mL, mSet, true_and, and_true, List.getD_eq_getElem?_getD, Option.getD_some, seqOf_l, seqOf_t, ↓hIx_sq, ↓hLen_sq, seqOf_sq, ↓hTuple_sq, fz_fr2, gRep_ap, eq_self, gSorted_ap, gSortD_ap, gSortS_ap, ownSet_pl, eDict1_ap, eChain_ap, gInD_ap, gInS_ap, mPop_ap, mAdd_ap, eSet0_ap, sWhile_ap, itEnumX_ap, eM2_ap, eTR1_ap, eLR1_ap, hLtD, la, sm, tn, sz]
end
theorem pattern_eq {q : Int} {m : O} {M w : Nat} (g : Good q m) (hq : q < 1000000) (hM1 : 1 ≤ M) (hM : M ≤ 500) (hw1 : 1 ≤ w) (hw : w ≤ 1000000) : ∃ (n : Nat) (A B C P Q : List Nat) (m' : O), 1 ≤ n ∧ n ≤ M ∧ FI n A B C ∧ P.length = n ∧ Q.length = n ∧ Good (q + 2100) m' ∧
    f_law_pattern [.mu m, .im (.int (M : Nat)), .im (.int (w : Nat))] = some (.im (.tuple [.tuple (nD A), .tuple (nD B), .tuple (nD C), .tuple (nD P), .tuple (nD Q)]), [.mu m', .un, .un]) := by
  obtain ⟨n, A, B, C, m1, e1, hn1, hn, F, g1⟩ := frame_eq g (by omega) hM1 hM
  obtain ⟨P, m2, hP, g2, e2⟩ := orders_eq F.i01 (by omega) false false hw1 hw (by omega) g1
  obtain ⟨Q, m3, hQ, g3, e3⟩ := orders_eq F.i12 (by omega) false false hw1 hw (by omega) g2
  rw [sq_l, sq_l] at e2 e3
  refine ⟨n, A, B, C, P, Q, m3, hn1, hn, F, hP, hQ, g3.up (by omega), ?_⟩
  unfold f_law_pattern b_law_pattern
  simp only [↓e1, ↓e2, ↓e3, sNop_ap, row?_ap, eRowM_ap, sRowSub_ap, eRowLen_ap, eRowNil_ap, isUn_un, ixN3_0, ixN3_1, ixN3_2, gRowsD_ap, rowsOf_nil, rowsOf_cons, eMeth_ap, isL_l, isS_s, mAppend_ap, mExtend_ap, ownL_fr, gIn_ap, ownDct_fr, gT_apL, hSorted, hTuple, hList, hRev, sSeq_ap, sBrk_ap, sCnt_ap, sRet_ap, sRetN_ap, sDrop_ap, sIf_ap, sSet_ap, isMu_ap, sAsg_ap, gN_ap, gT_ap, gTs, sPar_ap, sSub_ap, own?_ap, putO_t, putO_f, sAug_ap, sFor_ap, eC_ap, eVar_ap, ePl_ap, eMv_ap, opS_ap, sNil_ap, sCons_ap, gOp_ap, vws_nil, vws_cons, vw_im, vw_fr, vw_frd, vw_frs, vw_frr, vw_pl, view_l, view_d, view_s, view_r, rs_d, rs_l, sl_im, sl_fr, fz_im, fz_fr, fzs_nil, fzs_cons, toD_l, toD_r, gTupD_ap, gLstD_ap, gIx_ap, gDGet_ap, ownDct_pl, keyOf_i, keyOf_s, gMul_ap, tB_ap, tNot_ap, tAnd_ap, tOr_ap, eNot_ap, eAnd_ap, eOr_ap, eIf_ap, tY_ap, eSl_ap, oN_ap, oI_ap, itOf_ap, itR1_ap, itR2_ap, eLc_ap, isIm_ap, eCall_ap, eCallM_ap, fnOf_ap, isPl_im, isPl_fr, eDspl_ap, sArgs_nil, sArgs_cons, mkD_nil, mkD_cons, keepMu_mu, keepMu_im, projS_nil, projS_cons, hAdd, hSub, hMul, hDiv, hMod, hPow, hNeg, hCmp, hEq, hNe, hIsN, hNotN, hIx, hLen, hInt, hAbs, hGcd, hMin, hMax, hCut, isi_ii, isi_ib, isi_tt, isi_ll, isM_un, isM_im, isM_ow, isM_mu, List.getElem?_cons_zero, List.getElem?_cons_succ, List.getElem?_nil, List.set_cons_zero, List.set_cons_succ, List.length_cons, List.length_nil, List.length_map, List.replicate_succ, List.replicate_zero, List.cons_append, List.nil_append, List.map_cons, List.map_nil, Nat.reduceAdd, Nat.zero_add, ne_eq, not_true_eq_false, not_false_eq_true, decide_false, decide_true, Bool.or_self, Bool.or_false, Bool.false_or, Bool.and_self, Bool.false_eq_true, if_false, if_true, reduceIte, szOk_2, szOk_1, szOk_0, szOk_3, lk_left, lk_seed, lk_cells, lk_spot, pt_left, pt_spot, len_mL, mSet, true_and, and_true, List.getD_eq_getElem?_getD, Option.getD_some, seqOf_l, seqOf_t, ↓hIx_sq, ↓hLen_sq, seqOf_sq, ↓hTuple_sq, fz_fr2, gRep_ap, eq_self, gSorted_ap, gSortD_ap, gSortS_ap, ownSet_pl, eDict1_ap, eChain_ap, gInD_ap, gInS_ap, mPop_ap, mAdd_ap, eSet0_ap, sWhile_ap, itEnumX_ap, eM2_ap, eTR1_ap, eLR1_ap, hLtD, szOk_5]
/-! ### orbits of two changes -/
inductive Orb (A B : List Nat) (f : Nat) : Nat → Prop
  | base : Orb A B f f
  | a {x : Nat} : Orb A B f x → Orb A B f (gt A x)
  | b {x : Nat} : Orb A B f x → Orb A B f (gt B x)
structure IsCls (A B : List Nat) (f : Nat) (L : List Nat) : Prop where
  srt : L.Pairwise (· < ·)
  mem : ∀ x, x ∈ L ↔ Orb A B f x
theorem srt_ext : ∀ (l m : List Nat), l.Pairwise (· < ·) → m.Pairwise (· < ·) → (∀ x, x ∈ l ↔ x ∈ m) → l = m
  | [], [], _, _, _ => rfl
  | [], b :: m, _, _, h => by have := (h b).mpr List.mem_cons_self; simp at this
  | a :: l, [], _, _, h => by have := (h a).mp List.mem_cons_self; simp at this
  | a :: l, b :: m, hl, hm, h => by
    have pl := List.pairwise_cons.mp hl
    have pm := List.pairwise_cons.mp hm
    have e : a = b := by
      rcases List.mem_cons.mp ((h a).mp List.mem_cons_self) with e | e
      · exact e
      · rcases List.mem_cons.mp ((h b).mpr List.mem_cons_self) with e2 | e2
        · exact e2.symm
        · have h1 := pm.1 a e
          have h2 := pl.1 b e2
          omega
    subst e
    rw [srt_ext l m pl.2 pm.2 fun x => ?_]
    constructor
    · intro hx
      rcases List.mem_cons.mp ((h x).mp (List.mem_cons_of_mem _ hx)) with e | e
      · subst e; have := pl.1 x hx; omega
      · exact e
    · intro hx
      rcases List.mem_cons.mp ((h x).mpr (List.mem_cons_of_mem _ hx)) with e | e
      · subst e; have := pm.1 x hx; omega
      · exact e
theorem IsCls.uniq {A B L M : List Nat} {f : Nat} (h : IsCls A B f L) (k : IsCls A B f M) : L = M := srt_ext L M h.srt k.srt fun x => (h.mem x).trans (k.mem x).symm
theorem sorted_srt {L : List Nat} (nd : L.Nodup) : ∃ L' : List Nat, hSorted [.list (nD L)] = some (.l (nD L')) ∧ L'.Perm L ∧ L'.Pairwise (· < ·) := by
  have p := sortI_perm (L.map fun (i : Nat) => (i : Int))
  have sd : (sortI (L.map fun (i : Nat) => (i : Int))).Pairwise (· ≤ ·) := by
    have := List.pairwise_mergeSort (le := fun (a b : Int) => decide (a ≤ b)) (fun a b c h1 h2 => by simp at *; omega) (fun a b => by simp; omega) (L.map fun (i : Nat) => (i : Int))
    exact this.imp fun h => by simpa using h
  refine ⟨(sortI (L.map fun (i : Nat) => (i : Int))).map Int.toNat, ?_, ?_, ?_⟩
  · have e : hSorted [.list (nD L)] = some (.l ((sortI (L.map fun (i : Nat) => (i : Int))).map PyData.int)) := by
      rw [nD_ints]
      simp only [hSorted, toInts_map]
    rw [e]
    have : nD ((sortI (L.map fun (i : Nat) => (i : Int))).map Int.toNat) = (sortI (L.map fun (i : Nat) => (i : Int))).map PyData.int := by
      unfold nD
      rw [List.map_map]
      refine List.map_congr_left fun x hx => ?_
      obtain ⟨i, _, rfl⟩ := List.mem_map.mp (p.mem_iff.mp hx)
      rfl
    rw [this]
  · have := p.map Int.toNat
    rw [List.map_map] at this
    refine this.trans ?_
    rw [show (Int.toNat ∘ fun (i : Nat) => (i : Int)) = id from funext fun x => Int.toNat_natCast x, List.map_id]
  · have nd2 : (sortI (L.map fun (i : Nat) => (i : Int))).Nodup := p.nodup_iff.mpr (List.pairwise_map.mpr (nd.imp fun h => by omega))
    refine List.pairwise_map.mpr (List.Pairwise.imp_of_mem (fun {a b} ha hb h => ?_) (List.pairwise_and_iff.mpr ⟨sd, nd2⟩))
    obtain ⟨i, _, rfl⟩ := List.mem_map.mp (p.mem_iff.mp ha)
    obtain ⟨j, _, rfl⟩ := List.mem_map.mp (p.mem_iff.mp hb)
    have h1 := h.1
    have h2 := h.2
    simp only [Int.toNat_natCast]
    omega
section
variable {n : Nat} {A B : List Nat}
theorem Orb.lt (I : Inv2 n A B) {f x : Nat} (hf : f < n) (h : Orb A B f x) : x < n := by
  induction h with
  | base => exact hf
  | a _ ih => exact (I.ra _ ih).1
  | b _ ih => exact (I.rb _ ih).1
theorem Orb.sub {f : Nat} {P : Nat → Prop} (h0 : P f) (hc : ∀ x, P x → P (gt A x) ∧ P (gt B x)) {x : Nat} (h : Orb A B f x) : P x := by
  induction h with
  | base => exact h0
  | a _ ih => exact (hc _ ih).1
  | b _ ih => exact (hc _ ih).2
theorem Orb.trans {f x y : Nat} (h : Orb A B f x) (k : Orb A B x y) : Orb A B f y := by
  induction k with
  | base => exact h
  | a _ ih => exact ih.a
  | b _ ih => exact ih.b
theorem Orb.symm (I : Inv2 n A B) {f x : Nat} (hf : f < n) (h : Orb A B f x) : Orb A B x f := by
  induction h with
  | base => exact .base
  | @a y hy ih =>
    have e := (I.ra y (hy.lt I hf)).2
    have : Orb A B (gt A y) y := by
      have := Orb.a (A := A) (B := B) (f := gt A y) .base
      rw [e] at this
      exact this
    exact this.trans ih
  | @b y hy ih =>
    have e := (I.rb y (hy.lt I hf)).2
    have : Orb A B (gt B y) y := by
      have := Orb.b (A := A) (B := B) (f := gt B y) .base
      rw [e] at this
      exact this
    exact this.trans ih
/-- a closed list of reached flags, sorted, is the class -/
theorem cls_of (I : Inv2 n A B) {f : Nat} {L L' : List Nat} (h0 : f ∈ L) (ho : ∀ x ∈ L, Orb A B f x) (hc : ∀ x ∈ L, gt A x ∈ L ∧ gt B x ∈ L) (p : L'.Perm L) (s : L'.Pairwise (· < ·)) : IsCls A B f L' :=
  ⟨s, fun x => p.mem_iff.trans ⟨ho x, fun h => Orb.sub (P := (· ∈ L)) h0 hc h⟩⟩
end
/-! ### _law_class tells the class -/
section
variable {n : Nat} {A B : List Nat}
theorem gt_mem {L : List Nat} {k : Nat} (h : k < L.length) : gt L k ∈ L := by
  unfold gt
  rw [List.getD_eq_getElem?_getD, List.getElem?_eq_getElem h]
  exact List.getElem_mem h
theorem gt_pre {L M : List Nat} {k : Nat} (h : k < L.length) : gt (L ++ M) k = gt L k := by
  rw [gt_app, if_pos h]
structure CI (n : Nat) (A B : List Nat) (f k : Nat) (L : List Nat) : Prop where
  nd : L.Nodup
  f0 : f ∈ L
  ob : ∀ x ∈ L, Orb A B f x
  dn : ∀ i, i < k → i < L.length → gt A (gt L i) ∈ L ∧ gt B (gt L i) ∈ L
theorem CI.len (I : Inv2 n A B) {f k : Nat} {L : List Nat} (c : CI n A B f k L) (hf : f < n) : L.length ≤ n := nodup_len c.nd fun x hx => (c.ob x hx).lt I hf
theorem CI.add {f k : Nat} {L L1 : List Nat} {x : Nat} (c : CI n A B f k L) (hx : Orb A B f x) (o1 : x ∈ L → L1 = L) (o2 : x ∉ L → L1 = L ++ [x]) (hn : k ≤ L.length) : CI n A B f k L1 ∧ x ∈ L1 ∧ L.length ≤ L1.length ∧ (∀ y ∈ L, y ∈ L1) ∧ ∀ i, i < L.length → gt L1 i = gt L i := by
  by_cases h : x ∈ L
  · have e := o1 h
    subst e
    exact ⟨c, h, Nat.le_refl _, fun y hy => hy, fun i _ => rfl⟩
  · have e := o2 h
    subst e
    refine ⟨⟨List.nodup_append.mpr ⟨c.nd, by simp, fun a ha b hb e => ?_⟩, List.mem_append_left _ c.f0, fun y hy => ?_, fun i hi hl => ?_⟩, by simp, by simp, fun y hy => List.mem_append_left _ hy, fun i hi => gt_pre hi⟩
    · rw [List.mem_singleton.mp hb] at e; subst e; exact h ha
    · rcases List.mem_append.mp hy with h | h
      · exact c.ob y h
      · rw [List.mem_singleton.mp h]; exact hx
    · have hi' : i < L.length := by omega
      rw [gt_pre hi']
      obtain ⟨p, q⟩ := c.dn i hi hi'
      exact ⟨List.mem_append_left _ p, List.mem_append_left _ q⟩
theorem mem_gt {L : List Nat} {x : Nat} (h : x ∈ L) : ∃ i, i < L.length ∧ gt L i = x := by
  obtain ⟨i, hi, e⟩ := List.getElem_of_mem h
  refine ⟨i, hi, ?_⟩
  unfold gt
  rw [List.getD_eq_getElem?_getD, List.getElem?_eq_getElem hi, e]; rfl
/-- all are looked at: sorted, it is the class -/
theorem CI.fin (I : Inv2 n A B) {f k : Nat} {L : List Nat} (c : CI n A B f k L) (h : L.length ≤ k) : ∃ L', hSorted [.list (nD L)] = some (.l (nD L')) ∧ IsCls A B f L' := by
  obtain ⟨L', e, p, s⟩ := sorted_srt c.nd
  refine ⟨L', e, cls_of I c.f0 c.ob (fun x hx => ?_) p s⟩
  obtain ⟨i, hi, rfl⟩ := mem_gt hx
  exact c.dn i (by omega) hi
theorem class_loop2 (I : Inv2 n A B) (hn : n ≤ 1000) (b b' : Bool) (c : Sl) {f : Nat} (hf : f < n) : ∀ (t k : Nat) (L : List Nat) (s4 s5 : Sl), isM s4 = false → isM s5 = false → k + t = n → k ≤ L.length → CI n A B f k L →
    ∃ L' : List Nat, ∃ s3' s4' s5', (CI n A B f n L' ∧ n ≤ L'.length ∧ forL (gN 4) law_classBody (nD (List.range' k t)) [.im (sq b (nD A)), .im (sq b' (nD B)), c, .ow (.lst (nD L)), s4, s5] = some (.nx [.im (sq b (nD A)), .im (sq b' (nD B)), c, .ow (.lst (nD L')), s4', s5'])) ∨
      (IsCls A B f L' ∧ forL (gN 4) law_classBody (nD (List.range' k t)) [.im (sq b (nD A)), .im (sq b' (nD B)), c, .ow (.lst (nD L)), s4, s5] = some (.rt (.fr (.lst (nD L'))) [.im (sq b (nD A)), .im (sq b' (nD B)), c, s3', s4', s5']))
  | 0, k, L, s4, s5, _, _, hk, hl, ci => ⟨L, .un, s4, s5, .inl ⟨(by have e : k = n := (by omega); subst e; exact ci), by omega, rfl⟩⟩
  | t + 1, k, L, s4, s5, h4, h5, hkt, hl, ci => by
    rw [List.range'_succ, nD_cons]
    by_cases hk : L.length ≤ k
    · obtain ⟨L', e, p⟩ := ci.fin I hk
      have d1 : decide (((nD L).length : Int) ≤ (k : Int)) = true := decide_eq_true (by rw [nD_len]; omega)
      refine ⟨L', .ow (.lst (nD L)), .im (.int (k : Nat)), s5, .inr ⟨p, ?_⟩⟩
      simp only [forL, ↓e, sNop_ap, row?_ap, eRowM_ap, sRowSub_ap, eRowLen_ap, eRowNil_ap, isUn_un, ixN3_0, ixN3_1, ixN3_2, gRowsD_ap, rowsOf_nil, rowsOf_cons, eMeth_ap, isL_l, isS_s, mAppend_ap, mExtend_ap, ownL_fr, gIn_ap, ownDct_fr, gT_apL, hSorted, hTuple, hList, hRev, sSeq_ap, sBrk_ap, sCnt_ap, sRet_ap, sRetN_ap, sDrop_ap, sIf_ap, sSet_ap, isMu_ap, sAsg_ap, gN_ap, gT_ap, gTs, sPar_ap, sSub_ap, own?_ap, putO_t, putO_f, sAug_ap, sFor_ap, eC_ap, eVar_ap, ePl_ap, eMv_ap, opS_ap, sNil_ap, sCons_ap, gOp_ap, vws_nil, vws_cons, vw_im, vw_fr, vw_frd, vw_frs, vw_frr, vw_pl, view_l, view_d, view_s, view_r, rs_d, rs_l, sl_im, sl_fr, fz_im, fz_fr, fzs_nil, fzs_cons, toD_l, toD_r, gTupD_ap, gLstD_ap, gIx_ap, gDGet_ap, ownDct_pl, keyOf_i, keyOf_s, gMul_ap, tB_ap, tNot_ap, tAnd_ap, tOr_ap, eNot_ap, eAnd_ap, eOr_ap, eIf_ap, tY_ap, eSl_ap, oN_ap, oI_ap, itOf_ap, itR1_ap, itR2_ap, eLc_ap, isIm_ap, eCall_ap, eCallM_ap, fnOf_ap, isPl_im, isPl_fr, eDspl_ap, sArgs_nil, sArgs_cons, mkD_nil, mkD_cons, keepMu_mu, keepMu_im, projS_nil, projS_cons, hAdd, hSub, hMul, hDiv, hMod, hPow, hNeg, hCmp, hEq, hNe, hIsN, hNotN, hIx, hLen, hInt, hAbs, hGcd, hMin, hMax, hCut, isi_ii, isi_ib, isi_tt, isi_ll, isM_un, isM_im, isM_ow, isM_mu, List.getElem?_cons_zero, List.getElem?_cons_succ, List.getElem?_nil, List.set_cons_zero, List.set_cons_succ, List.length_cons, List.length_nil, List.length_map, List.replicate_succ, List.replicate_zero, List.cons_append, List.nil_append, List.map_cons, List.map_nil, Nat.reduceAdd, Nat.zero_add, ne_eq, not_true_eq_false, not_false_eq_true, decide_false, decide_true, Bool.or_self, Bool.or_false, Bool.false_or, Bool.and_self, Bool.false_eq_true, if_false, if_true, reduceIte, szOk_2, szOk_1, szOk_0, szOk_3, lk_left, lk_seed, lk_cells, lk_spot, pt_left, pt_spot, len_mL, mSet, true_and, and_true, List.getD_eq_getElem?_getD, Option.getD_some, seqOf_l, seqOf_t, ↓hIx_sq, ↓hLen_sq, seqOf_sq, ↓hTuple_sq, fz_fr2, gRep_ap, eq_self, gSorted_ap, gSortD_ap, gSortS_ap, ownSet_pl, eDict1_ap, eChain_ap, gInD_ap, gInS_ap, mPop_ap, mAdd_ap, eSet0_ap, sWhile_ap, itEnumX_ap, eM2_ap, eTR1_ap, eLR1_ap, hLtD, h4, hCmp_ii, d1]
    · have d1 : decide (((nD L).length : Int) ≤ (k : Int)) = false := decide_eq_false (by rw [nD_len]; omega)
      have hk : k < L.length := by omega
      have og := ci.ob _ (gt_mem hk)
      have hg : gt L k < n := og.lt I hf
      have ln := ci.len I hf
      have a0 : atI (nD L) (k : Int) = some (.int (gt L k : Nat)) := at_nD hk
      have a1 : atI (nD A) ((gt L k : Nat) : Int) = some (.int (gt A (gt L k) : Nat)) := at_nD (by rw [I.la]; exact hg)
      have a2 : atI (nD B) ((gt L k : Nat) : Int) = some (.int (gt B (gt L k) : Nat)) := at_nD (by rw [I.lb]; exact hg)
      obtain ⟨L1, _, o1, o2, e1⟩ := class_one (.im (sq b (nD A))) (.im (sq b' (nD B))) c (.im (.int (k : Nat))) (L := L) (x := gt A (gt L k)) (by omega)
      obtain ⟨c1, m1, l1, u1, g1⟩ := ci.add og.a o1 o2 hl
      have ln1 := c1.len I hf
      obtain ⟨L2, _, o3, o4, e2⟩ := class_one (.im (sq b (nD A))) (.im (sq b' (nD B))) c (.im (.int (k : Nat))) (L := L1) (x := gt B (gt L k)) (by omega)
      obtain ⟨c2, m2, l2, u2, g2⟩ := c1.add og.b o3 o4 (by omega)
      have c3 : CI n A B f (k + 1) L2 := ⟨c2.nd, c2.f0, c2.ob, fun i hi hil => by
        by_cases h : i < k
        · exact c2.dn i h hil
        · have e : i = k := by omega
          subst e
          rw [g2 i (by omega), g1 i hk]
          exact ⟨u2 _ m1, m2⟩⟩
      obtain ⟨L', s3', s4', s5', ih⟩ := class_loop2 I hn b b' c hf t (k + 1) L2 (.im (.int (k : Nat))) (.im (.int (gt B (gt L k) : Nat))) rfl rfl (by omega) (by omega) c3
      refine ⟨L', s3', s4', s5', ?_⟩
      have key : forL (gN 4) law_classBody (.int (k : Nat) :: nD (List.range' (k + 1) t)) [.im (sq b (nD A)), .im (sq b' (nD B)), c, .ow (.lst (nD L)), s4, s5] = forL (gN 4) law_classBody (nD (List.range' (k + 1) t)) [.im (sq b (nD A)), .im (sq b' (nD B)), c, .ow (.lst (nD L2)), .im (.int (k : Nat)), .im (.int (gt B (gt L k) : Nat))] := by
        simp only [forL, ↓e1, ↓e2, sNop_ap, row?_ap, eRowM_ap, sRowSub_ap, eRowLen_ap, eRowNil_ap, isUn_un, ixN3_0, ixN3_1, ixN3_2, gRowsD_ap, rowsOf_nil, rowsOf_cons, eMeth_ap, isL_l, isS_s, mAppend_ap, mExtend_ap, ownL_fr, gIn_ap, ownDct_fr, gT_apL, hSorted, hTuple, hList, hRev, sSeq_ap, sBrk_ap, sCnt_ap, sRet_ap, sRetN_ap, sDrop_ap, sIf_ap, sSet_ap, isMu_ap, sAsg_ap, gN_ap, gT_ap, gTs, sPar_ap, sSub_ap, own?_ap, putO_t, putO_f, sAug_ap, sFor_ap, eC_ap, eVar_ap, ePl_ap, eMv_ap, opS_ap, sNil_ap, sCons_ap, gOp_ap, vws_nil, vws_cons, vw_im, vw_fr, vw_frd, vw_frs, vw_frr, vw_pl, view_l, view_d, view_s, view_r, rs_d, rs_l, sl_im, sl_fr, fz_im, fz_fr, fzs_nil, fzs_cons, toD_l, toD_r, gTupD_ap, gLstD_ap, gIx_ap, gDGet_ap, ownDct_pl, keyOf_i, keyOf_s, gMul_ap, tB_ap, tNot_ap, tAnd_ap, tOr_ap, eNot_ap, eAnd_ap, eOr_ap, eIf_ap, tY_ap, eSl_ap, oN_ap, oI_ap, itOf_ap, itR1_ap, itR2_ap, eLc_ap, isIm_ap, eCall_ap, eCallM_ap, fnOf_ap, isPl_im, isPl_fr, eDspl_ap, sArgs_nil, sArgs_cons, mkD_nil, mkD_cons, keepMu_mu, keepMu_im, projS_nil, projS_cons, hAdd, hSub, hMul, hDiv, hMod, hPow, hNeg, hCmp, hEq, hNe, hIsN, hNotN, hIx, hLen, hInt, hAbs, hGcd, hMin, hMax, hCut, isi_ii, isi_ib, isi_tt, isi_ll, isM_un, isM_im, isM_ow, isM_mu, List.getElem?_cons_zero, List.getElem?_cons_succ, List.getElem?_nil, List.set_cons_zero, List.set_cons_succ, List.length_cons, List.length_nil, List.length_map, List.replicate_succ, List.replicate_zero, List.cons_append, List.nil_append, List.map_cons, List.map_nil, Nat.reduceAdd, Nat.zero_add, ne_eq, not_true_eq_false, not_false_eq_true, decide_false, decide_true, Bool.or_self, Bool.or_false, Bool.false_or, Bool.and_self, Bool.false_eq_true, if_false, if_true, reduceIte, szOk_2, szOk_1, szOk_0, szOk_3, lk_left, lk_seed, lk_cells, lk_spot, pt_left, pt_spot, len_mL, mSet, true_and, and_true, List.getD_eq_getElem?_getD, Option.getD_some, seqOf_l, seqOf_t, ↓hIx_sq, ↓hLen_sq, seqOf_sq, ↓hTuple_sq, fz_fr2, gRep_ap, eq_self, gSorted_ap, gSortD_ap, gSortS_ap, ownSet_pl, eDict1_ap, eChain_ap, gInD_ap, gInS_ap, mPop_ap, mAdd_ap, eSet0_ap, sWhile_ap, itEnumX_ap, eM2_ap, eTR1_ap, eLR1_ap, hLtD, h4, h5, hCmp_ii, d1, a0, a1, a2]
      rw [key]
      exact ih
theorem class_full (I : Inv2 n A B) (hn : n ≤ 1000) (b b' : Bool) {f : Nat} (hf : f < n) : ∃ L : List Nat, IsCls A B f L ∧ f_law_class [.im (sq b (nD A)), .im (sq b' (nD B)), .im (.int (f : Nat))] = some (.fr (.lst (nD L)), [.un, .un, .un]) := by
  obtain ⟨L', s3', s4', s5', h⟩ := class_loop2 I hn b b' (.im (.int (f : Nat))) hf n 0 [f] .un .un rfl rfl (by omega) (Nat.zero_le _) ⟨by simp, by simp, fun x hx => by rw [List.mem_singleton.mp hx]; exact .base, fun i hi => by omega⟩
  have sm : small62 ((n : Nat) : Int) = true := small62_b (by omega) (by omega)
  have tn : ((n : Nat) : Int).toNat = n := Int.toNat_natCast _
  have la : (nD A).length = n := by rw [nD_len, I.la]
  have rg : rngD 0 n = nD (List.range' 0 n) := by rw [rngD_nD, List.range_eq_range']
  rw [← rg, nD_cons, nD_nil] at h
  rcases h with ⟨ci, hl, h⟩ | ⟨p, h⟩
  · have ln := ci.len I hf
    obtain ⟨L2, e, p⟩ := ci.fin I (by omega)
    refine ⟨L2, p, ?_⟩
    unfold f_law_class b_law_class
    simp only [↓e, ↓h, sNop_ap, row?_ap, eRowM_ap, sRowSub_ap, eRowLen_ap, eRowNil_ap, isUn_un, ixN3_0, ixN3_1, ixN3_2, gRowsD_ap, rowsOf_nil, rowsOf_cons, eMeth_ap, isL_l, isS_s, mAppend_ap, mExtend_ap, ownL_fr, gIn_ap, ownDct_fr, gT_apL, hSorted, hTuple, hList, hRev, sSeq_ap, sBrk_ap, sCnt_ap, sRet_ap, sRetN_ap, sDrop_ap, sIf_ap, sSet_ap, isMu_ap, sAsg_ap, gN_ap, gT_ap, gTs, sPar_ap, sSub_ap, own?_ap, putO_t, putO_f, sAug_ap, sFor_ap, eC_ap, eVar_ap, ePl_ap, eMv_ap, opS_ap, sNil_ap, sCons_ap, gOp_ap, vws_nil, vws_cons, vw_im, vw_fr, vw_frd, vw_frs, vw_frr, vw_pl, view_l, view_d, view_s, view_r, rs_d, rs_l, sl_im, sl_fr, fz_im, fz_fr, fzs_nil, fzs_cons, toD_l, toD_r, gTupD_ap, gLstD_ap, gIx_ap, gDGet_ap, ownDct_pl, keyOf_i, keyOf_s, gMul_ap, tB_ap, tNot_ap, tAnd_ap, tOr_ap, eNot_ap, eAnd_ap, eOr_ap, eIf_ap, tY_ap, eSl_ap, oN_ap, oI_ap, itOf_ap, itR1_ap, itR2_ap, eLc_ap, isIm_ap, eCall_ap, eCallM_ap, fnOf_ap, isPl_im, isPl_fr, eDspl_ap, sArgs_nil, sArgs_cons, mkD_nil, mkD_cons, keepMu_mu, keepMu_im, projS_nil, projS_cons, hAdd, hSub, hMul, hDiv, hMod, hPow, hNeg, hCmp, hEq, hNe, hIsN, hNotN, hIx, hLen, hInt, hAbs, hGcd, hMin, hMax, hCut, isi_ii, isi_ib, isi_tt, isi_ll, isM_un, isM_im, isM_ow, isM_mu, List.getElem?_cons_zero, List.getElem?_cons_succ, List.getElem?_nil, List.set_cons_zero, List.set_cons_succ, List.length_cons, List.length_nil, List.length_map, List.replicate_succ, List.replicate_zero, List.cons_append, List.nil_append, List.map_cons, List.map_nil, Nat.reduceAdd, Nat.zero_add, ne_eq, not_true_eq_false, not_false_eq_true, decide_false, decide_true, Bool.or_self, Bool.or_false, Bool.false_or, Bool.and_self, Bool.false_eq_true, if_false, if_true, reduceIte, szOk_2, szOk_1, szOk_0, szOk_3, lk_left, lk_seed, lk_cells, lk_spot, pt_left, pt_spot, len_mL, mSet, true_and, and_true, List.getD_eq_getElem?_getD, Option.getD_some, seqOf_l, seqOf_t, ↓hIx_sq, ↓hLen_sq, seqOf_sq, ↓hTuple_sq, fz_fr2, gRep_ap, eq_self, gSorted_ap, gSortD_ap, gSortS_ap, ownSet_pl, eDict1_ap, eChain_ap, gInD_ap, gInS_ap, mPop_ap, mAdd_ap, eSet0_ap, sWhile_ap, itEnumX_ap, eM2_ap, eTR1_ap, eLR1_ap, hLtD, la, sm, tn]
  · refine ⟨L', p, ?_⟩
    unfold f_law_class b_law_class
    simp only [↓h, sNop_ap, row?_ap, eRowM_ap, sRowSub_ap, eRowLen_ap, eRowNil_ap, isUn_un, ixN3_0, ixN3_1, ixN3_2, gRowsD_ap, rowsOf_nil, rowsOf_cons, eMeth_ap, isL_l, isS_s, mAppend_ap, mExtend_ap, ownL_fr, gIn_ap, ownDct_fr, gT_apL, hSorted, hTuple, hList, hRev, sSeq_ap, sBrk_ap, sCnt_ap, sRet_ap, sRetN_ap, sDrop_ap, sIf_ap, sSet_ap, isMu_ap, sAsg_ap, gN_ap, gT_ap, gTs, sPar_ap, sSub_ap, own?_ap, putO_t, putO_f, sAug_ap, sFor_ap, eC_ap, eVar_ap, ePl_ap, eMv_ap, opS_ap, sNil_ap, sCons_ap, gOp_ap, vws_nil, vws_cons, vw_im, vw_fr, vw_frd, vw_frs, vw_frr, vw_pl, view_l, view_d, view_s, view_r, rs_d, rs_l, sl_im, sl_fr, fz_im, fz_fr, fzs_nil, fzs_cons, toD_l, toD_r, gTupD_ap, gLstD_ap, gIx_ap, gDGet_ap, ownDct_pl, keyOf_i, keyOf_s, gMul_ap, tB_ap, tNot_ap, tAnd_ap, tOr_ap, eNot_ap, eAnd_ap, eOr_ap, eIf_ap, tY_ap, eSl_ap, oN_ap, oI_ap, itOf_ap, itR1_ap, itR2_ap, eLc_ap, isIm_ap, eCall_ap, eCallM_ap, fnOf_ap, isPl_im, isPl_fr, eDspl_ap, sArgs_nil, sArgs_cons, mkD_nil, mkD_cons, keepMu_mu, keepMu_im, projS_nil, projS_cons, hAdd, hSub, hMul, hDiv, hMod, hPow, hNeg, hCmp, hEq, hNe, hIsN, hNotN, hIx, hLen, hInt, hAbs, hGcd, hMin, hMax, hCut, isi_ii, isi_ib, isi_tt, isi_ll, isM_un, isM_im, isM_ow, isM_mu, List.getElem?_cons_zero, List.getElem?_cons_succ, List.getElem?_nil, List.set_cons_zero, List.set_cons_succ, List.length_cons, List.length_nil, List.length_map, List.replicate_succ, List.replicate_zero, List.cons_append, List.nil_append, List.map_cons, List.map_nil, Nat.reduceAdd, Nat.zero_add, ne_eq, not_true_eq_false, not_false_eq_true, decide_false, decide_true, Bool.or_self, Bool.or_false, Bool.false_or, Bool.and_self, Bool.false_eq_true, if_false, if_true, reduceIte, szOk_2, szOk_1, szOk_0, szOk_3, lk_left, lk_seed, lk_cells, lk_spot, pt_left, pt_spot, len_mL, mSet, true_and, and_true, List.getD_eq_getElem?_getD, Option.getD_some, seqOf_l, seqOf_t, ↓hIx_sq, ↓hLen_sq, seqOf_sq, ↓hTuple_sq, fz_fr2, gRep_ap, eq_self, gSorted_ap, gSortD_ap, gSortS_ap, ownSet_pl, eDict1_ap, eChain_ap, gInD_ap, gInS_ap, mPop_ap, mAdd_ap, eSet0_ap, sWhile_ap, itEnumX_ap, eM2_ap, eTR1_ap, eLR1_ap, hLtD, la, sm, tn]
end
/-! ### listings, numberings, walks (plain) -/
theorem gt_el {L : List Nat} {k : Nat} (h : k < L.length) : gt L k = L[k] := by
  unfold gt
  rw [List.getD_eq_getElem?_getD, List.getElem?_eq_getElem h]; rfl
theorem gt_mapf {L : List Nat} {k : Nat} (f : Nat → Nat) (h : k < L.length) : gt (L.map f) k = f (gt L k) := by
  rw [gt_el (by rw [List.length_map]; exact h), gt_el h, List.getElem_map]
theorem ext_gt {L M : List Nat} (hl : L.length = M.length) (h : ∀ k, k < L.length → gt L k = gt M k) : L = M := by
  refine List.ext_getElem hl fun k h1 h2 => ?_
  rw [← gt_el h1, ← gt_el h2, h k h1]
/-- each of 0, .., n - 1 once -/
structure IsL (n : Nat) (L : List Nat) : Prop where
  ln : L.length = n
  nd : L.Nodup
  lt : ∀ x ∈ L, x < n
section
variable {n : Nat} {L M : List Nat}
theorem IsL.mem (h : IsL n L) : ∀ x, x < n → x ∈ L := by
  intro x hx
  refine Classical.byContradiction fun no => ?_
  have := nodup_len (l := x :: L) (n := n) (List.nodup_cons.mpr ⟨no, h.nd⟩) fun y hy => by
    rcases List.mem_cons.mp hy with rfl | hy
    · exact hx
    · exact h.lt y hy
  rw [List.length_cons, h.ln] at this
  omega
theorem IsL.gl (h : IsL n L) {k : Nat} (hk : k < n) : gt L k < n := h.lt _ (gt_mem (by rw [h.ln]; exact hk))
theorem IsL.il (h : IsL n L) {x : Nat} (hx : x < n) : L.idxOf x < n := by
  have := List.idxOf_lt_length_of_mem (h.mem x hx)
  rw [h.ln] at this
  exact this
theorem IsL.gi (h : IsL n L) {x : Nat} (hx : x < n) : gt L (L.idxOf x) = x := by
  have hl := List.idxOf_lt_length_of_mem (h.mem x hx)
  rw [gt_el hl]
  exact List.getElem_idxOf hl
theorem IsL.ig (h : IsL n L) {k : Nat} (hk : k < n) : L.idxOf (gt L k) = k := by
  have hl : k < L.length := by rw [h.ln]; exact hk
  rw [gt_el hl]
  exact List.Nodup.idxOf_getElem h.nd k hl
theorem isL_range (n : Nat) : IsL n (List.range n) := ⟨List.length_range, List.nodup_range, fun x hx => List.mem_range.mp hx⟩
theorem nodup_mapf {f : Nat → Nat} {g : Nat → Nat} : ∀ {L : List Nat}, L.Nodup → (∀ x ∈ L, g (f x) = x) → (L.map f).Nodup
  | [], _, _ => by simp
  | x :: L, nd, h => by
    obtain ⟨n1, n2⟩ := List.nodup_cons.mp nd
    rw [List.map_cons]
    refine List.nodup_cons.mpr ⟨fun z => ?_, nodup_mapf n2 fun y hy => h y (List.mem_cons_of_mem _ hy)⟩
    obtain ⟨y, hy, e⟩ := List.mem_map.mp z
    have e2 := congrArg g e
    rw [h x List.mem_cons_self, h y (List.mem_cons_of_mem _ hy)] at e2
    exact n1 (e2 ▸ hy)
/-- one listing, then another one -/
theorem IsL.comp (h : IsL n L) (k : IsL n M) : IsL n (M.map (gt L)) := by
  refine ⟨by rw [List.length_map, k.ln], nodup_mapf (g := L.idxOf) k.nd fun x hx => h.ig (k.lt x hx), fun x hx => ?_⟩
  obtain ⟨y, hy, rfl⟩ := List.mem_map.mp hx
  exact h.gl (k.lt y hy)
/-- the listing that leads back -/
def invL (n : Nat) (L : List Nat) : List Nat := (List.range n).map L.idxOf
theorem IsL.inv (h : IsL n L) : IsL n (invL n L) := by
  unfold invL
  refine ⟨by rw [List.length_map, List.length_range], nodup_mapf (g := gt L) List.nodup_range fun x hx => h.gi (List.mem_range.mp hx), fun x hx => ?_⟩
  obtain ⟨y, hy, rfl⟩ := List.mem_map.mp hx
  exact h.il (List.mem_range.mp hy)
theorem gt_invL {x : Nat} (hx : x < n) : gt (invL n L) x = L.idxOf x := by
  unfold invL
  rw [gt_mapf _ (by rw [List.length_range]; exact hx), gt_range hx]
theorem IsL.inv_gt (h : IsL n L) : (invL n L).map (gt L) = List.range n := by
  unfold invL
  rw [List.map_map]
  refine (List.map_congr_left fun x hx => ?_).trans (List.map_id _)
  exact h.gi (List.mem_range.mp hx)
theorem IsL.map_inv (h : IsL n L) (k : IsL n M) : (M.map L.idxOf).map (gt L) = M := by
  rw [List.map_map]
  refine (List.map_congr_left fun x hx => ?_).trans (List.map_id _)
  exact h.gi (k.lt x hx)
theorem IsL.mapIx (h : IsL n L) (k : IsL n M) : IsL n (M.map L.idxOf) := by
  refine ⟨by rw [List.length_map, k.ln], nodup_mapf (g := gt L) k.nd fun x hx => h.gi (k.lt x hx), fun x hx => ?_⟩
  obtain ⟨y, hy, rfl⟩ := List.mem_map.mp hx
  exact h.il (k.lt y hy)
/-! a change, a row of orders numbered anew -/
def renC (L A : List Nat) : List Nat := L.map fun f => L.idxOf (gt A f)
def renO (L P : List Nat) : List Nat := L.map (gt P)
theorem idx_comp (h : IsL n L) (k : IsL n M) {y : Nat} (hy : y < n) : (M.map (gt L)).idxOf y = M.idxOf (L.idxOf y) := by
  have hc := h.comp k
  have e : gt (M.map (gt L)) (M.idxOf (L.idxOf y)) = y := by
    rw [gt_mapf _ (by rw [k.ln]; exact k.il (h.il hy)), k.gi (h.il hy), h.gi hy]
  have := hc.ig (k := M.idxOf (L.idxOf y)) (k.il (h.il hy))
  rw [e] at this
  exact this
theorem renC_comp (h : IsL n L) (k : IsL n M) {A : List Nat} (ha : ∀ i, i < n → gt A i < n) : renC M (renC L A) = renC (M.map (gt L)) A := by
  unfold renC
  rw [List.map_map]
  refine List.map_congr_left fun g hg => ?_
  have hg := k.lt g hg
  rw [gt_mapf _ (by rw [h.ln]; exact hg)]
  show _ = (M.map (gt L)).idxOf (gt A (gt L g))
  rw [idx_comp h k (ha _ (h.gl hg))]
theorem renO_comp (h : IsL n L) (k : IsL n M) (P : List Nat) : renO M (renO L P) = renO (M.map (gt L)) P := by
  unfold renO
  rw [List.map_map]
  refine List.map_congr_left fun g hg => ?_
  rw [gt_mapf _ (by rw [h.ln]; exact k.lt g hg)]
  rfl
theorem renC_id {A : List Nat} (la : A.length = n) (ha : ∀ i, i < n → gt A i < n) : renC (List.range n) A = A := by
  unfold renC
  refine ext_gt (by rw [List.length_map, List.length_range, la]) fun k hk => ?_
  rw [List.length_map, List.length_range] at hk
  rw [gt_mapf _ (by rw [List.length_range]; exact hk), gt_range hk]
  have := (isL_range n).ig (k := gt A k) (ha k hk)
  rw [gt_range (ha k hk)] at this
  exact this
theorem renO_id {P : List Nat} (lp : P.length = n) : renO (List.range n) P = P := by
  unfold renO
  refine ext_gt (by rw [List.length_map, List.length_range, lp]) fun k hk => ?_
  rw [List.length_map, List.length_range] at hk
  rw [gt_mapf _ (by rw [List.length_range]; exact hk), gt_range hk]
theorem renC_gt (h : IsL n L) {A : List Nat} {x : Nat} (hx : x < n) : gt (renC L A) (L.idxOf x) = L.idxOf (gt A x) := by
  unfold renC
  rw [gt_mapf _ (by rw [h.ln]; exact h.il hx), h.gi hx]
theorem renC_at (h : IsL n L) {A : List Nat} {k : Nat} (hk : k < n) : gt (renC L A) k = L.idxOf (gt A (gt L k)) := by
  unfold renC
  rw [gt_mapf _ (by rw [h.ln]; exact hk)]
theorem renO_at (h : IsL n L) {P : List Nat} {k : Nat} (hk : k < n) : gt (renO L P) k = gt P (gt L k) := by
  unfold renO
  rw [gt_mapf _ (by rw [h.ln]; exact hk)]
theorem renC_len (h : IsL n L) (A : List Nat) : (renC L A).length = n := by unfold renC; rw [List.length_map, h.ln]
theorem renO_len (h : IsL n L) (P : List Nat) : (renO L P).length = n := by unfold renO; rw [List.length_map, h.ln]
theorem renC_inv (h : IsL n L) {A : List Nat} (ra : ∀ i, i < n → gt A i < n ∧ gt A (gt A i) = i) : ∀ i, i < n → gt (renC L A) i < n ∧ gt (renC L A) (gt (renC L A) i) = i := fun i hi => by
  obtain ⟨a1, a2⟩ := ra _ (h.gl hi)
  rw [renC_at h hi]
  refine ⟨h.il a1, ?_⟩
  rw [renC_gt h a1, a2, h.ig hi]
end
section
variable {n : Nat} {A B C : List Nat}
/-- from any flag all flags are reached -/
theorem FI.cnx (F : FI n A B C) {P : Nat → Prop} {f : Nat} (hf : f < n) (pf : P f) (h : ∀ i, i < n → P i → P (gt A i) ∧ P (gt B i) ∧ P (gt C i)) : ∀ i, i < n → P i := by
  have p0 : P 0 := Classical.byContradiction fun no => F.cn (fun i => ¬ P i) no (fun i hi hp => by
    obtain ⟨a1, a2⟩ := F.ra i hi
    obtain ⟨b1, b2⟩ := F.rb i hi
    obtain ⟨c1, c2⟩ := F.rc i hi
    refine ⟨fun z => hp ?_, fun z => hp ?_, fun z => hp ?_⟩
    · have := (h _ a1 z).1; rw [a2] at this; exact this
    · have := (h _ b1 z).2.1; rw [b2] at this; exact this
    · have := (h _ c1 z).2.2; rw [c2] at this; exact this) f hf pf
  exact F.cn P p0 h
theorem FI.ren {L : List Nat} (F : FI n A B C) (h : IsL n L) (hn : 0 < n) : FI n (renC L A) (renC L B) (renC L C) := by
  refine ⟨renC_len h A, renC_len h B, renC_len h C, renC_inv h F.ra, renC_inv h F.rb, renC_inv h F.rc, fun i hi => ?_, fun P p0 hp i hi => ?_⟩
  · have g := h.gl hi
    rw [renC_at h hi, renC_at h hi, renC_gt h (F.ra _ g).1, renC_gt h (F.rc _ g).1, F.cm _ g]
  · have := F.cnx (P := fun x => P (L.idxOf x)) (h.gl hn) (by show P (L.idxOf (gt L 0)); rw [h.ig hn]; exact p0) (fun x hx px => by
      have := hp _ (h.il hx) px
      rw [renC_gt h hx, renC_gt h hx, renC_gt h hx] at this
      exact this) _ (h.gl hi)
    rw [h.ig hi] at this
    exact this
/-! walks -/
def stp (L : List Nat) (x : Nat) : List Nat := if x ∈ L then L else L ++ [x]
def ex3 (A B C L : List Nat) (k : Nat) : List Nat := stp (stp (stp L (gt A (gt L k))) (gt B (gt L k))) (gt C (gt L k))
def wkI (A B C : List Nat) : Nat → Nat → List Nat → List Nat
  | 0, _, L => L
  | t + 1, k, L => if k < L.length then wkI A B C t (k + 1) (ex3 A B C L k) else L
def wlk (A B C : List Nat) (n f : Nat) : List Nat := wkI A B C n 0 [f]
theorem gt_app1 {L M : List Nat} {i : Nat} (h : i < L.length) : gt (L ++ M) i = gt L i := by
  unfold gt
  rw [List.getD_eq_getElem?_getD, List.getD_eq_getElem?_getD, List.getElem?_append_left h]
theorem stp_pre (L : List Nat) (x : Nat) : ∃ M, stp L x = L ++ M := by
  unfold stp
  split
  · exact ⟨[], (List.append_nil L).symm⟩
  · exact ⟨[x], rfl⟩
theorem stp_mem (L : List Nat) (x y : Nat) : y ∈ stp L x ↔ y ∈ L ∨ y = x := by
  unfold stp
  split
  · rename_i h
    constructor
    · exact .inl
    · rintro (h | rfl)
      · exact h
      · assumption
  · simp
theorem stp_nd {L : List Nat} (nd : L.Nodup) (x : Nat) : (stp L x).Nodup := by
  unfold stp
  split
  · exact nd
  · rename_i h
    exact List.nodup_append.mpr ⟨nd, by simp, fun a ha b hb e => h (by rw [List.mem_singleton.mp hb] at e; exact e ▸ ha)⟩
theorem ex3_pre (A B C L : List Nat) (k : Nat) : ∃ M, ex3 A B C L k = L ++ M := by
  unfold ex3
  obtain ⟨M1, e1⟩ := stp_pre L (gt A (gt L k))
  obtain ⟨M2, e2⟩ := stp_pre (stp L (gt A (gt L k))) (gt B (gt L k))
  obtain ⟨M3, e3⟩ := stp_pre (stp (stp L (gt A (gt L k))) (gt B (gt L k))) (gt C (gt L k))
  exact ⟨M1 ++ M2 ++ M3, by rw [e3, e2, e1, List.append_assoc, List.append_assoc, List.append_assoc]⟩
structure WIv (n : Nat) (A B C : List Nat) (f k : Nat) (L : List Nat) : Prop where
  nd : L.Nodup
  lt : ∀ x ∈ L, x < n
  hd : ∃ M, L = f :: M
  kl : k ≤ L.length
  dn : ∀ i, i < k → gt A (gt L i) ∈ L ∧ gt B (gt L i) ∈ L ∧ gt C (gt L i) ∈ L
theorem WIv.len {f k : Nat} {L : List Nat} (w : WIv n A B C f k L) : L.length ≤ n := nodup_len w.nd w.lt
theorem WIv.next (F : FI n A B C) {f k : Nat} {L : List Nat} (w : WIv n A B C f k L) (h : k < L.length) : WIv n A B C f (k + 1) (ex3 A B C L k) := by
  have hg := w.lt _ (gt_mem h)
  obtain ⟨M, e⟩ := ex3_pre A B C L k
  have mm : ∀ y, y ∈ ex3 A B C L k ↔ y ∈ L ∨ y = gt A (gt L k) ∨ y = gt B (gt L k) ∨ y = gt C (gt L k) := fun y => by
    unfold ex3
    rw [stp_mem, stp_mem, stp_mem, or_assoc, or_assoc]
  refine ⟨stp_nd (stp_nd (stp_nd w.nd _) _) _, fun x hx => ?_, ?_, by rw [e, List.length_append]; omega, fun i hi => ?_⟩
  · rcases (mm x).mp hx with h | rfl | rfl | rfl
    · exact w.lt x h
    · exact (F.ra _ hg).1
    · exact (F.rb _ hg).1
    · exact (F.rc _ hg).1
  · obtain ⟨M', e'⟩ := w.hd
    exact ⟨M' ++ M, by rw [e, e']; rfl⟩
  · have hl : i < L.length := by omega
    have eg : gt (ex3 A B C L k) i = gt L i := by rw [e, gt_app1 hl]
    rw [eg]
    by_cases hk : i < k
    · obtain ⟨p, q, r⟩ := w.dn i hk
      exact ⟨(mm _).mpr (.inl p), (mm _).mpr (.inl q), (mm _).mpr (.inl r)⟩
    · have : i = k := by omega
      subst this
      exact ⟨(mm _).mpr (.inr (.inl rfl)), (mm _).mpr (.inr (.inr (.inl rfl))), (mm _).mpr (.inr (.inr (.inr rfl)))⟩
theorem WIv.first {f : Nat} (hf : f < n) : WIv n A B C f 0 [f] := ⟨by simp, fun x hx => by rw [List.mem_singleton.mp hx]; exact hf, ⟨[], rfl⟩, Nat.zero_le _, fun i hi => by omega⟩
theorem wkI_end (F : FI n A B C) {f : Nat} : ∀ (t k : Nat) (L : List Nat), WIv n A B C f k L → n ≤ k + t → WIv n A B C f (wkI A B C t k L).length (wkI A B C t k L)
  | 0, k, L, w, h => by
    have := w.len
    have kl := w.kl
    have e : k = L.length := by omega
    subst e
    exact w
  | t + 1, k, L, w, h => by
    unfold wkI
    split
    · rename_i hk
      exact wkI_end F t (k + 1) _ (w.next F hk) (by omega)
    · have kl := w.kl
      have e : k = L.length := by omega
      subst e
      exact w
theorem wlk_isL (F : FI n A B C) {f : Nat} (hf : f < n) : IsL n (wlk A B C n f) := by
  have w := wkI_end F n 0 [f] (WIv.first hf) (by omega)
  show IsL n (wkI A B C n 0 [f])
  generalize wkI A B C n 0 [f] = L at w
  have all := F.cnx (P := fun x => x ∈ L) hf (by obtain ⟨M, e⟩ := w.hd; rw [e]; exact List.mem_cons_self) fun i hi pi => by
    obtain ⟨j, hj, rfl⟩ := mem_gt pi
    exact w.dn j hj
  have l1 := w.len
  have l2 := List.Nodup.length_le_of_subset (List.nodup_range (n := n)) (l₂ := L) fun x hx => all x (List.mem_range.mp hx)
  rw [List.length_range] at l2
  exact ⟨by omega, w.nd, w.lt⟩
theorem wlk_head (F : FI n A B C) {f : Nat} (hf : f < n) : ∃ M, wlk A B C n f = f :: M := (wkI_end F n 0 [f] (WIv.first hf) (by omega)).hd
/-! a walk of what is numbered anew -/
theorem stp_map {φ ψ : Nat → Nat} {L : List Nat} {x : Nat} (h : ∀ y ∈ L, ψ (φ y) = y) (hx : ψ (φ x) = x) : stp (L.map φ) (φ x) = (stp L x).map φ := by
  have e : (φ x ∈ L.map φ) ↔ x ∈ L := by
    constructor
    · intro z
      obtain ⟨y, hy, e⟩ := List.mem_map.mp z
      have := congrArg ψ e
      rw [h y hy, hx] at this
      exact this ▸ hy
    · exact fun z => List.mem_map.mpr ⟨x, z, rfl⟩
  unfold stp
  by_cases hm : x ∈ L
  · rw [if_pos hm, if_pos (e.mpr hm)]
  · rw [if_neg hm, if_neg fun z => hm (e.mp z), List.map_append]; rfl
theorem ex3_map {A' B' C' : List Nat} {φ ψ : Nat → Nat} (h : ∀ y, y < n → ψ (φ y) = y) (F : FI n A B C) (ea : ∀ x, x < n → gt A' (φ x) = φ (gt A x)) (eb : ∀ x, x < n → gt B' (φ x) = φ (gt B x)) (ec : ∀ x, x < n → gt C' (φ x) = φ (gt C x))
    {L : List Nat} (hL : ∀ x ∈ L, x < n) {k : Nat} (hk : k < L.length) : ex3 A' B' C' (L.map φ) k = (ex3 A B C L k).map φ := by
  have hg := hL _ (gt_mem hk)
  unfold ex3
  rw [gt_mapf _ hk, ea _ hg, eb _ hg, ec _ hg]
  have a1 := (F.ra _ hg).1
  have b1 := (F.rb _ hg).1
  have c1 := (F.rc _ hg).1
  rw [stp_map (ψ := ψ) (fun y hy => h y (hL y hy)) (h _ a1)]
  have h1 : ∀ y ∈ stp L (gt A (gt L k)), y < n := fun y hy => by
    rcases (stp_mem _ _ _).mp hy with z | rfl
    · exact hL y z
    · exact a1
  rw [stp_map (ψ := ψ) (fun y hy => h y (h1 y hy)) (h _ b1)]
  have h2 : ∀ y ∈ stp (stp L (gt A (gt L k))) (gt B (gt L k)), y < n := fun y hy => by
    rcases (stp_mem _ _ _).mp hy with z | rfl
    · exact h1 y z
    · exact b1
  rw [stp_map (ψ := ψ) (fun y hy => h y (h2 y hy)) (h _ c1)]
theorem ex3_lt (F : FI n A B C) {L : List Nat} (hL : ∀ x ∈ L, x < n) {k : Nat} (hk : k < L.length) : ∀ x ∈ ex3 A B C L k, x < n := fun y hy => by
  have hg := hL _ (gt_mem hk)
  unfold ex3 at hy
  rw [stp_mem, stp_mem, stp_mem, or_assoc, or_assoc] at hy
  rcases hy with h | rfl | rfl | rfl
  · exact hL y h
  · exact (F.ra _ hg).1
  · exact (F.rb _ hg).1
  · exact (F.rc _ hg).1
theorem wkI_map {A' B' C' : List Nat} {φ ψ : Nat → Nat} (h : ∀ y, y < n → ψ (φ y) = y) (F : FI n A B C) (ea : ∀ x, x < n → gt A' (φ x) = φ (gt A x)) (eb : ∀ x, x < n → gt B' (φ x) = φ (gt B x)) (ec : ∀ x, x < n → gt C' (φ x) = φ (gt C x)) :
    ∀ (t k : Nat) (L : List Nat), (∀ x ∈ L, x < n) → wkI A' B' C' t k (L.map φ) = (wkI A B C t k L).map φ
  | 0, k, L, _ => rfl
  | t + 1, k, L, hL => by
    unfold wkI
    rw [List.length_map]
    by_cases hk : k < L.length
    · rw [if_pos hk, if_pos hk, ex3_map h F ea eb ec hL hk]
      exact wkI_map h F ea eb ec t (k + 1) _ (ex3_lt F hL hk)
    · rw [if_neg hk, if_neg hk]
theorem wlk_ren {L : List Nat} (F : FI n A B C) (h : IsL n L) {f : Nat} (hf : f < n) : wlk (renC L A) (renC L B) (renC L C) n (L.idxOf f) = (wlk A B C n f).map L.idxOf := by
  unfold wlk
  exact wkI_map (φ := L.idxOf) (ψ := gt L) (fun y hy => h.gi hy) F (fun x hx => renC_gt h hx) (fun x hx => renC_gt h hx) (fun x hx => renC_gt h hx) n 0 [f] fun x hx => by rw [List.mem_singleton.mp hx]; exact hf
end
/-! ### walk, _law_walk -/
def V5 (A B C P Q : List Nat) : D := .tuple [.tuple (nD A), .tuple (nD B), .tuple (nD C), .tuple (nD P), .tuple (nD Q)]
theorem cut3 (a b c d e : D) : cutD [a, b, c, d, e] none (some 3) = [a, b, c] := rfl
theorem at5_0 (a b c d e : D) : atI [a, b, c, d, e] 0 = some a := rfl
theorem at5_1 (a b c d e : D) : atI [a, b, c, d, e] 1 = some b := rfl
theorem at5_2 (a b c d e : D) : atI [a, b, c, d, e] 2 = some c := rfl
theorem at5_3 (a b c d e : D) : atI [a, b, c, d, e] 3 = some d := rfl
theorem at5_4 (a b c d e : D) : atI [a, b, c, d, e] 4 = some e := rfl
theorem at3_0 (a b c : D) : atI [a, b, c] 0 = some a := rfl
theorem at3_1 (a b c : D) : atI [a, b, c] 1 = some b := rfl
theorem at3_2 (a b c : D) : atI [a, b, c] 2 = some c := rfl
def zI (L : List Nat) : List Int := L.map fun (i : Nat) => (i : Int)
theorem zI_mem (L : List Nat) (x : Nat) : (x : Int) ∈ zI L ↔ x ∈ L := by
  unfold zI
  rw [List.mem_map]
  constructor
  · rintro ⟨y, hy, e⟩
    rw [show x = y by omega]; exact hy
  · exact fun h => ⟨x, h, rfl⟩
theorem stp_in {L : List Nat} {x : Nat} (h : x ∈ L) : stp L x = L := if_pos h
theorem stp_out {L : List Nat} {x : Nat} (h : x ∉ L) : stp L x = L ++ [x] := if_neg h
theorem stp_len (L : List Nat) (x : Nat) : (stp L x).length ≤ L.length + 1 ∧ L.length ≤ (stp L x).length := by
  unfold stp
  split
  · omega
  · rw [List.length_append, List.length_singleton]; omega
theorem stp_gt {L : List Nat} {x k : Nat} (h : k < L.length) : gt (stp L x) k = gt L k := by
  obtain ⟨M, e⟩ := stp_pre L x
  rw [e, gt_app1 h]
theorem pw_one (s0 s1 s6 : Sl) (h6 : isM s6 = false) {L R : List Nat} {k : Nat} (hk : k < L.length) (hL : L.length ≤ 900) (hr : gt L k < R.length) :
    walkBody1 [s0, s1, .ow (.lst (nD L)), .im (.int (k : Nat)), .ow (.set (zI L)), .im (.tuple (nD R)), s6] =
      some (.nx [s0, s1, .ow (.lst (nD (stp L (gt R (gt L k))))), .im (.int (k : Nat)), .ow (.set (zI (stp L (gt R (gt L k))))), .im (.tuple (nD R)), .im (.int (gt R (gt L k) : Nat))]) := by
  have a1 : atI (nD L) (k : Int) = some (.int (gt L k : Nat)) := at_nD hk
  have a2 : atI (nD R) ((gt L k : Nat) : Int) = some (.int (gt R (gt L k) : Nat)) := at_nD hr
  have m := zI_mem L (gt R (gt L k))
  by_cases h : gt R (gt L k) ∈ L
  · have d1 : decide (((gt R (gt L k) : Nat) : Int) ∈ zI L) = true := decide_eq_true (m.mpr h)
    rw [stp_in h]
    simp only [sNop_ap, row?_ap, eRowM_ap, sRowSub_ap, eRowLen_ap, eRowNil_ap, isUn_un, ixN3_0, ixN3_1, ixN3_2, gRowsD_ap, rowsOf_nil, rowsOf_cons, eMeth_ap, isL_l, isS_s, mAppend_ap, mExtend_ap, ownL_fr, gIn_ap, ownDct_fr, gT_apL, hSorted, hTuple, hList, hRev, sSeq_ap, sBrk_ap, sCnt_ap, sRet_ap, sRetN_ap, sDrop_ap, sIf_ap, sSet_ap, isMu_ap, sAsg_ap, gN_ap, gT_ap, gTs, sPar_ap, sSub_ap, own?_ap, putO_t, putO_f, sAug_ap, sFor_ap, eC_ap, eVar_ap, ePl_ap, eMv_ap, opS_ap, sNil_ap, sCons_ap, gOp_ap, vws_nil, vws_cons, vw_im, vw_fr, vw_frd, vw_frs, vw_frr, vw_pl, view_l, view_d, view_s, view_r, rs_d, rs_l, sl_im, sl_fr, fz_im, fz_fr, fzs_nil, fzs_cons, toD_l, toD_r, gTupD_ap, gLstD_ap, gIx_ap, gDGet_ap, ownDct_pl, keyOf_i, keyOf_s, gMul_ap, tB_ap, tNot_ap, tAnd_ap, tOr_ap, eNot_ap, eAnd_ap, eOr_ap, eIf_ap, tY_ap, eSl_ap, oN_ap, oI_ap, itOf_ap, itR1_ap, itR2_ap, eLc_ap, isIm_ap, eCall_ap, eCallM_ap, fnOf_ap, isPl_im, isPl_fr, eDspl_ap, sArgs_nil, sArgs_cons, mkD_nil, mkD_cons, keepMu_mu, keepMu_im, projS_nil, projS_cons, hAdd, hSub, hMul, hDiv, hMod, hPow, hNeg, hCmp, hEq, hNe, hIsN, hNotN, hIx, hLen, hInt, hAbs, hGcd, hMin, hMax, hCut, isi_ii, isi_ib, isi_tt, isi_ll, isM_un, isM_im, isM_ow, isM_mu, List.getElem?_cons_zero, List.getElem?_cons_succ, List.getElem?_nil, List.set_cons_zero, List.set_cons_succ, List.length_cons, List.length_nil, List.length_map, List.replicate_succ, List.replicate_zero, List.cons_append, List.nil_append, List.map_cons, List.map_nil, Nat.reduceAdd, Nat.zero_add, ne_eq, not_true_eq_false, not_false_eq_true, decide_false, decide_true, Bool.or_self, Bool.or_false, Bool.false_or, Bool.and_self, Bool.false_eq_true, if_false, if_true, reduceIte, szOk_2, szOk_1, szOk_0, szOk_3, lk_left, lk_seed, lk_cells, lk_spot, pt_left, pt_spot, len_mL, mSet, true_and, and_true, List.getD_eq_getElem?_getD, Option.getD_some, seqOf_l, seqOf_t, ↓hIx_sq, ↓hLen_sq, seqOf_sq, ↓hTuple_sq, fz_fr2, gRep_ap, eq_self, gSorted_ap, gSortD_ap, gSortS_ap, ownSet_pl, eDict1_ap, eChain_ap, gInD_ap, gInS_ap, mPop_ap, mAdd_ap, eSet0_ap, sWhile_ap, itEnumX_ap, eM2_ap, eTR1_ap, eLR1_ap, hLtD, h6, a1, a2, hIn, d1, bne_self_eq_false]
  · have n1 : ((gt R (gt L k) : Nat) : Int) ∉ zI L := fun z => h (m.mp z)
    have d1 : decide (((gt R (gt L k) : Nat) : Int) ∈ zI L) = false := decide_eq_false n1
    have zl : (zI L).length = L.length := List.length_map _
    have d2 : decide ((zI L).length + 1 ≤ 1000) = true := decide_eq_true (by omega)
    have sz : szOk ((nD L).length + 1) = true := szOk_le (by rw [nD_len]; omega)
    have za : zI L ++ [((gt R (gt L k) : Nat) : Int)] = zI (L ++ [gt R (gt L k)]) := by unfold zI; rw [List.map_append]; rfl
    rw [stp_out h]
    simp only [sNop_ap, row?_ap, eRowM_ap, sRowSub_ap, eRowLen_ap, eRowNil_ap, isUn_un, ixN3_0, ixN3_1, ixN3_2, gRowsD_ap, rowsOf_nil, rowsOf_cons, eMeth_ap, isL_l, isS_s, mAppend_ap, mExtend_ap, ownL_fr, gIn_ap, ownDct_fr, gT_apL, hSorted, hTuple, hList, hRev, sSeq_ap, sBrk_ap, sCnt_ap, sRet_ap, sRetN_ap, sDrop_ap, sIf_ap, sSet_ap, isMu_ap, sAsg_ap, gN_ap, gT_ap, gTs, sPar_ap, sSub_ap, own?_ap, putO_t, putO_f, sAug_ap, sFor_ap, eC_ap, eVar_ap, ePl_ap, eMv_ap, opS_ap, sNil_ap, sCons_ap, gOp_ap, vws_nil, vws_cons, vw_im, vw_fr, vw_frd, vw_frs, vw_frr, vw_pl, view_l, view_d, view_s, view_r, rs_d, rs_l, sl_im, sl_fr, fz_im, fz_fr, fzs_nil, fzs_cons, toD_l, toD_r, gTupD_ap, gLstD_ap, gIx_ap, gDGet_ap, ownDct_pl, keyOf_i, keyOf_s, gMul_ap, tB_ap, tNot_ap, tAnd_ap, tOr_ap, eNot_ap, eAnd_ap, eOr_ap, eIf_ap, tY_ap, eSl_ap, oN_ap, oI_ap, itOf_ap, itR1_ap, itR2_ap, eLc_ap, isIm_ap, eCall_ap, eCallM_ap, fnOf_ap, isPl_im, isPl_fr, eDspl_ap, sArgs_nil, sArgs_cons, mkD_nil, mkD_cons, keepMu_mu, keepMu_im, projS_nil, projS_cons, hAdd, hSub, hMul, hDiv, hMod, hPow, hNeg, hCmp, hEq, hNe, hIsN, hNotN, hIx, hLen, hInt, hAbs, hGcd, hMin, hMax, hCut, isi_ii, isi_ib, isi_tt, isi_ll, isM_un, isM_im, isM_ow, isM_mu, List.getElem?_cons_zero, List.getElem?_cons_succ, List.getElem?_nil, List.set_cons_zero, List.set_cons_succ, List.length_cons, List.length_nil, List.length_map, List.replicate_succ, List.replicate_zero, List.cons_append, List.nil_append, List.map_cons, List.map_nil, Nat.reduceAdd, Nat.zero_add, ne_eq, not_true_eq_false, not_false_eq_true, decide_false, decide_true, Bool.or_self, Bool.or_false, Bool.false_or, Bool.and_self, Bool.false_eq_true, if_false, if_true, reduceIte, szOk_2, szOk_1, szOk_0, szOk_3, lk_left, lk_seed, lk_cells, lk_spot, pt_left, pt_spot, len_mL, mSet, true_and, and_true, List.getD_eq_getElem?_getD, Option.getD_some, seqOf_l, seqOf_t, ↓hIx_sq, ↓hLen_sq, seqOf_sq, ↓hTuple_sq, fz_fr2, gRep_ap, eq_self, gSorted_ap, gSortD_ap, gSortS_ap, ownSet_pl, eDict1_ap, eChain_ap, gInD_ap, gInS_ap, mPop_ap, mAdd_ap, eSet0_ap, sWhile_ap, itEnumX_ap, eM2_ap, eTR1_ap, eLR1_ap, hLtD, h6, a1, a2, hIn, d1, d2, if_neg n1, sz, za, nD_app, nD_cons, nD_nil, Bool.true_bne, Bool.not_false]
section
variable {n : Nat} {A B C : List Nat}
theorem pw_three (F : FI n A B C) (hn : n ≤ 800) (P Q : D) (s1 s5 s6 : Sl) (h5 : isM s5 = false) (h6 : isM s6 = false) {L : List Nat} {k : Nat} (hk : k < L.length) (hL : ∀ x ∈ L, x < n) (hl : L.length ≤ n) :
    ∃ t5 t6, isM t5 = false ∧ isM t6 = false ∧ walkBody [.im (.tuple [.tuple (nD A), .tuple (nD B), .tuple (nD C), P, Q]), s1, .ow (.lst (nD L)), .im (.int (k : Nat)), .ow (.set (zI L)), s5, s6] =
      some (.nx [.im (.tuple [.tuple (nD A), .tuple (nD B), .tuple (nD C), P, Q]), s1, .ow (.lst (nD (ex3 A B C L k))), .im (.int ((k + 1 : Nat) : Int)), .ow (.set (zI (ex3 A B C L k))), t5, t6]) := by
  have hg := hL _ (gt_mem hk)
  generalize hV : (.tuple [.tuple (nD A), .tuple (nD B), .tuple (nD C), P, Q] : D) = V
  have l1 := stp_len L (gt A (gt L k))
  have l2 := stp_len (stp L (gt A (gt L k))) (gt B (gt L k))
  have g1 : gt (stp L (gt A (gt L k))) k = gt L k := stp_gt hk
  have g2 : gt (stp (stp L (gt A (gt L k))) (gt B (gt L k))) k = gt L k := by rw [stp_gt (by omega), g1]
  have e1 := pw_one (.im V) s1 s6 h6 (L := L) (R := A) hk (by omega) (by rw [F.la]; exact hg)
  have e2 := pw_one (.im V) s1 (.im (.int (gt A (gt L k) : Nat))) rfl (L := stp L (gt A (gt L k))) (R := B) (k := k) (by omega) (by omega) (by rw [g1, F.lb]; exact hg)
  rw [g1] at e2
  have e3 := pw_one (.im V) s1 (.im (.int (gt B (gt L k) : Nat))) rfl (L := stp (stp L (gt A (gt L k))) (gt B (gt L k))) (R := C) (k := k) (by omega) (by omega) (by rw [g2, F.lc]; exact hg)
  rw [g2] at e3
  have cv : hCut V none (some 3) = some (.d (.tuple [.tuple (nD A), .tuple (nD B), .tuple (nD C)])) := by rw [← hV]; rfl
  have ec : (k : Int) + 1 = ((k + 1 : Nat) : Int) := (Int.natCast_add k 1).symm
  refine ⟨.im (.tuple (nD C)), .im (.int (gt C (gt L k) : Nat)), rfl, rfl, ?_⟩
  simp only [forL, ↓e1, ↓e2, ↓e3, ↓cv, sNop_ap, row?_ap, eRowM_ap, sRowSub_ap, eRowLen_ap, eRowNil_ap, isUn_un, ixN3_0, ixN3_1, ixN3_2, gRowsD_ap, rowsOf_nil, rowsOf_cons, eMeth_ap, isL_l, isS_s, mAppend_ap, mExtend_ap, ownL_fr, gIn_ap, ownDct_fr, gT_apL, hSorted, hTuple, hList, hRev, sSeq_ap, sBrk_ap, sCnt_ap, sRet_ap, sRetN_ap, sDrop_ap, sIf_ap, sSet_ap, isMu_ap, sAsg_ap, gN_ap, gT_ap, gTs, sPar_ap, sSub_ap, own?_ap, putO_t, putO_f, sAug_ap, sFor_ap, eC_ap, eVar_ap, ePl_ap, eMv_ap, opS_ap, sNil_ap, sCons_ap, gOp_ap, vws_nil, vws_cons, vw_im, vw_fr, vw_frd, vw_frs, vw_frr, vw_pl, view_l, view_d, view_s, view_r, rs_d, rs_l, sl_im, sl_fr, fz_im, fz_fr, fzs_nil, fzs_cons, toD_l, toD_r, gTupD_ap, gLstD_ap, gIx_ap, gDGet_ap, ownDct_pl, keyOf_i, keyOf_s, gMul_ap, tB_ap, tNot_ap, tAnd_ap, tOr_ap, eNot_ap, eAnd_ap, eOr_ap, eIf_ap, tY_ap, eSl_ap, oN_ap, oI_ap, itOf_ap, itR1_ap, itR2_ap, eLc_ap, isIm_ap, eCall_ap, eCallM_ap, fnOf_ap, isPl_im, isPl_fr, eDspl_ap, sArgs_nil, sArgs_cons, mkD_nil, mkD_cons, keepMu_mu, keepMu_im, projS_nil, projS_cons, hAdd, hSub, hMul, hDiv, hMod, hPow, hNeg, hCmp, hEq, hNe, hIsN, hNotN, hIx, hLen, hInt, hAbs, hGcd, hMin, hMax, hCut, isi_ii, isi_ib, isi_tt, isi_ll, isM_un, isM_im, isM_ow, isM_mu, List.getElem?_cons_zero, List.getElem?_cons_succ, List.getElem?_nil, List.set_cons_zero, List.set_cons_succ, List.length_cons, List.length_nil, List.length_map, List.replicate_succ, List.replicate_zero, List.cons_append, List.nil_append, List.map_cons, List.map_nil, Nat.reduceAdd, Nat.zero_add, ne_eq, not_true_eq_false, not_false_eq_true, decide_false, decide_true, Bool.or_self, Bool.or_false, Bool.false_or, Bool.and_self, Bool.false_eq_true, if_false, if_true, reduceIte, szOk_2, szOk_1, szOk_0, szOk_3, lk_left, lk_seed, lk_cells, lk_spot, pt_left, pt_spot, len_mL, mSet, true_and, and_true, List.getD_eq_getElem?_getD, Option.getD_some, seqOf_l, seqOf_t, ↓hIx_sq, ↓hLen_sq, seqOf_sq, ↓hTuple_sq, fz_fr2, gRep_ap, eq_self, gSorted_ap, gSortD_ap, gSortS_ap, ownSet_pl, eDict1_ap, eChain_ap, gInD_ap, gInS_ap, mPop_ap, mAdd_ap, eSet0_ap, sWhile_ap, itEnumX_ap, eM2_ap, eTR1_ap, eLR1_ap, hLtD, h5, ec]
  rfl
theorem pw_while (F : FI n A B C) (hn : n ≤ 800) (P Q : D) (s1 : Sl) {f : Nat} : ∀ (t fuel k : Nat) (L : List Nat) (s5 s6 : Sl), isM s5 = false → isM s6 = false → WIv n A B C f k L → n ≤ k + t → t < fuel →
    ∃ k' t5 t6, whileL (tB' (opS (gOp (hCmp fun i j => decide (i < j))) (sCons (ePl 3) (sCons (opS (gOp hLen) (sCons (ePl 2) sNil)) sNil)))) walkBody fuel [.im (.tuple [.tuple (nD A), .tuple (nD B), .tuple (nD C), P, Q]), s1, .ow (.lst (nD L)), .im (.int (k : Nat)), .ow (.set (zI L)), s5, s6] =
      some (.nx [.im (.tuple [.tuple (nD A), .tuple (nD B), .tuple (nD C), P, Q]), s1, .ow (.lst (nD (wkI A B C t k L))), k', .ow (.set (zI (wkI A B C t k L))), t5, t6])
  | t, 0, k, L, s5, s6, _, _, _, _, h => by omega
  | 0, fuel + 1, k, L, s5, s6, _, _, w, h, _ => by
    have := w.len
    have d1 : decide ((k : Int) < ((nD L).length : Int)) = false := decide_eq_false (by rw [nD_len]; omega)
    refine ⟨.im (.int (k : Nat)), s5, s6, ?_⟩
    simp only [whileL, sNop_ap, row?_ap, eRowM_ap, sRowSub_ap, eRowLen_ap, eRowNil_ap, isUn_un, ixN3_0, ixN3_1, ixN3_2, gRowsD_ap, rowsOf_nil, rowsOf_cons, eMeth_ap, isL_l, isS_s, mAppend_ap, mExtend_ap, ownL_fr, gIn_ap, ownDct_fr, gT_apL, hSorted, hTuple, hList, hRev, sSeq_ap, sBrk_ap, sCnt_ap, sRet_ap, sRetN_ap, sDrop_ap, sIf_ap, sSet_ap, isMu_ap, sAsg_ap, gN_ap, gT_ap, gTs, sPar_ap, sSub_ap, own?_ap, putO_t, putO_f, sAug_ap, sFor_ap, eC_ap, eVar_ap, ePl_ap, eMv_ap, opS_ap, sNil_ap, sCons_ap, gOp_ap, vws_nil, vws_cons, vw_im, vw_fr, vw_frd, vw_frs, vw_frr, vw_pl, view_l, view_d, view_s, view_r, rs_d, rs_l, sl_im, sl_fr, fz_im, fz_fr, fzs_nil, fzs_cons, toD_l, toD_r, gTupD_ap, gLstD_ap, gIx_ap, gDGet_ap, ownDct_pl, keyOf_i, keyOf_s, gMul_ap, tB_ap, tNot_ap, tAnd_ap, tOr_ap, eNot_ap, eAnd_ap, eOr_ap, eIf_ap, tY_ap, eSl_ap, oN_ap, oI_ap, itOf_ap, itR1_ap, itR2_ap, eLc_ap, isIm_ap, eCall_ap, eCallM_ap, fnOf_ap, isPl_im, isPl_fr, eDspl_ap, sArgs_nil, sArgs_cons, mkD_nil, mkD_cons, keepMu_mu, keepMu_im, projS_nil, projS_cons, hAdd, hSub, hMul, hDiv, hMod, hPow, hNeg, hCmp, hEq, hNe, hIsN, hNotN, hIx, hLen, hInt, hAbs, hGcd, hMin, hMax, hCut, isi_ii, isi_ib, isi_tt, isi_ll, isM_un, isM_im, isM_ow, isM_mu, List.getElem?_cons_zero, List.getElem?_cons_succ, List.getElem?_nil, List.set_cons_zero, List.set_cons_succ, List.length_cons, List.length_nil, List.length_map, List.replicate_succ, List.replicate_zero, List.cons_append, List.nil_append, List.map_cons, List.map_nil, Nat.reduceAdd, Nat.zero_add, ne_eq, not_true_eq_false, not_false_eq_true, decide_false, decide_true, Bool.or_self, Bool.or_false, Bool.false_or, Bool.and_self, Bool.false_eq_true, if_false, if_true, reduceIte, szOk_2, szOk_1, szOk_0, szOk_3, lk_left, lk_seed, lk_cells, lk_spot, pt_left, pt_spot, len_mL, mSet, true_and, and_true, List.getD_eq_getElem?_getD, Option.getD_some, seqOf_l, seqOf_t, ↓hIx_sq, ↓hLen_sq, seqOf_sq, ↓hTuple_sq, fz_fr2, gRep_ap, eq_self, gSorted_ap, gSortD_ap, gSortS_ap, ownSet_pl, eDict1_ap, eChain_ap, gInD_ap, gInS_ap, mPop_ap, mAdd_ap, eSet0_ap, sWhile_ap, itEnumX_ap, eM2_ap, eTR1_ap, eLR1_ap, hLtD, hCmp_ii, d1]
    rfl
  | t + 1, fuel + 1, k, L, s5, s6, h5, h6, w, h, hf => by
    by_cases hk : k < L.length
    · have d1 : decide ((k : Int) < ((nD L).length : Int)) = true := decide_eq_true (by rw [nD_len]; omega)
      obtain ⟨t5, t6, i5, i6, e⟩ := pw_three F hn P Q s1 s5 s6 h5 h6 hk w.lt w.len
      obtain ⟨k', u5, u6, ih⟩ := pw_while F hn P Q s1 t fuel (k + 1) _ t5 t6 i5 i6 (w.next F hk) (by omega) (by omega)
      refine ⟨k', u5, u6, ?_⟩
      rw [show wkI A B C (t + 1) k L = wkI A B C t (k + 1) (ex3 A B C L k) from if_pos hk]
      rw [← ih]
      simp only [whileL, ↓e, sNop_ap, row?_ap, eRowM_ap, sRowSub_ap, eRowLen_ap, eRowNil_ap, isUn_un, ixN3_0, ixN3_1, ixN3_2, gRowsD_ap, rowsOf_nil, rowsOf_cons, eMeth_ap, isL_l, isS_s, mAppend_ap, mExtend_ap, ownL_fr, gIn_ap, ownDct_fr, gT_apL, hSorted, hTuple, hList, hRev, sSeq_ap, sBrk_ap, sCnt_ap, sRet_ap, sRetN_ap, sDrop_ap, sIf_ap, sSet_ap, isMu_ap, sAsg_ap, gN_ap, gT_ap, gTs, sPar_ap, sSub_ap, own?_ap, putO_t, putO_f, sAug_ap, sFor_ap, eC_ap, eVar_ap, ePl_ap, eMv_ap, opS_ap, sNil_ap, sCons_ap, gOp_ap, vws_nil, vws_cons, vw_im, vw_fr, vw_frd, vw_frs, vw_frr, vw_pl, view_l, view_d, view_s, view_r, rs_d, rs_l, sl_im, sl_fr, fz_im, fz_fr, fzs_nil, fzs_cons, toD_l, toD_r, gTupD_ap, gLstD_ap, gIx_ap, gDGet_ap, ownDct_pl, keyOf_i, keyOf_s, gMul_ap, tB_ap, tNot_ap, tAnd_ap, tOr_ap, eNot_ap, eAnd_ap, eOr_ap, eIf_ap, tY_ap, eSl_ap, oN_ap, oI_ap, itOf_ap, itR1_ap, itR2_ap, eLc_ap, isIm_ap, eCall_ap, eCallM_ap, fnOf_ap, isPl_im, isPl_fr, eDspl_ap, sArgs_nil, sArgs_cons, mkD_nil, mkD_cons, keepMu_mu, keepMu_im, projS_nil, projS_cons, hAdd, hSub, hMul, hDiv, hMod, hPow, hNeg, hCmp, hEq, hNe, hIsN, hNotN, hIx, hLen, hInt, hAbs, hGcd, hMin, hMax, hCut, isi_ii, isi_ib, isi_tt, isi_ll, isM_un, isM_im, isM_ow, isM_mu, List.getElem?_cons_zero, List.getElem?_cons_succ, List.getElem?_nil, List.set_cons_zero, List.set_cons_succ, List.length_cons, List.length_nil, List.length_map, List.replicate_succ, List.replicate_zero, List.cons_append, List.nil_append, List.map_cons, List.map_nil, Nat.reduceAdd, Nat.zero_add, ne_eq, not_true_eq_false, not_false_eq_true, decide_false, decide_true, Bool.or_self, Bool.or_false, Bool.false_or, Bool.and_self, Bool.false_eq_true, if_false, if_true, reduceIte, szOk_2, szOk_1, szOk_0, szOk_3, lk_left, lk_seed, lk_cells, lk_spot, pt_left, pt_spot, len_mL, mSet, true_and, and_true, List.getD_eq_getElem?_getD, Option.getD_some, seqOf_l, seqOf_t, ↓hIx_sq, ↓hLen_sq, seqOf_sq, ↓hTuple_sq, fz_fr2, gRep_ap, eq_self, gSorted_ap, gSortD_ap, gSortS_ap, ownSet_pl, eDict1_ap, eChain_ap, gInD_ap, gInS_ap, mPop_ap, mAdd_ap, eSet0_ap, sWhile_ap, itEnumX_ap, eM2_ap, eTR1_ap, eLR1_ap, hLtD, hCmp_ii, d1]
    · have d1 : decide ((k : Int) < ((nD L).length : Int)) = false := decide_eq_false (by rw [nD_len]; omega)
      refine ⟨.im (.int (k : Nat)), s5, s6, ?_⟩
      rw [show wkI A B C (t + 1) k L = L from if_neg hk]
      simp only [whileL, sNop_ap, row?_ap, eRowM_ap, sRowSub_ap, eRowLen_ap, eRowNil_ap, isUn_un, ixN3_0, ixN3_1, ixN3_2, gRowsD_ap, rowsOf_nil, rowsOf_cons, eMeth_ap, isL_l, isS_s, mAppend_ap, mExtend_ap, ownL_fr, gIn_ap, ownDct_fr, gT_apL, hSorted, hTuple, hList, hRev, sSeq_ap, sBrk_ap, sCnt_ap, sRet_ap, sRetN_ap, sDrop_ap, sIf_ap, sSet_ap, isMu_ap, sAsg_ap, gN_ap, gT_ap, gTs, sPar_ap, sSub_ap, own?_ap, putO_t, putO_f, sAug_ap, sFor_ap, eC_ap, eVar_ap, ePl_ap, eMv_ap, opS_ap, sNil_ap, sCons_ap, gOp_ap, vws_nil, vws_cons, vw_im, vw_fr, vw_frd, vw_frs, vw_frr, vw_pl, view_l, view_d, view_s, view_r, rs_d, rs_l, sl_im, sl_fr, fz_im, fz_fr, fzs_nil, fzs_cons, toD_l, toD_r, gTupD_ap, gLstD_ap, gIx_ap, gDGet_ap, ownDct_pl, keyOf_i, keyOf_s, gMul_ap, tB_ap, tNot_ap, tAnd_ap, tOr_ap, eNot_ap, eAnd_ap, eOr_ap, eIf_ap, tY_ap, eSl_ap, oN_ap, oI_ap, itOf_ap, itR1_ap, itR2_ap, eLc_ap, isIm_ap, eCall_ap, eCallM_ap, fnOf_ap, isPl_im, isPl_fr, eDspl_ap, sArgs_nil, sArgs_cons, mkD_nil, mkD_cons, keepMu_mu, keepMu_im, projS_nil, projS_cons, hAdd, hSub, hMul, hDiv, hMod, hPow, hNeg, hCmp, hEq, hNe, hIsN, hNotN, hIx, hLen, hInt, hAbs, hGcd, hMin, hMax, hCut, isi_ii, isi_ib, isi_tt, isi_ll, isM_un, isM_im, isM_ow, isM_mu, List.getElem?_cons_zero, List.getElem?_cons_succ, List.getElem?_nil, List.set_cons_zero, List.set_cons_succ, List.length_cons, List.length_nil, List.length_map, List.replicate_succ, List.replicate_zero, List.cons_append, List.nil_append, List.map_cons, List.map_nil, Nat.reduceAdd, Nat.zero_add, ne_eq, not_true_eq_false, not_false_eq_true, decide_false, decide_true, Bool.or_self, Bool.or_false, Bool.false_or, Bool.and_self, Bool.false_eq_true, if_false, if_true, reduceIte, szOk_2, szOk_1, szOk_0, szOk_3, lk_left, lk_seed, lk_cells, lk_spot, pt_left, pt_spot, len_mL, mSet, true_and, and_true, List.getD_eq_getElem?_getD, Option.getD_some, seqOf_l, seqOf_t, ↓hIx_sq, ↓hLen_sq, seqOf_sq, ↓hTuple_sq, fz_fr2, gRep_ap, eq_self, gSorted_ap, gSortD_ap, gSortS_ap, ownSet_pl, eDict1_ap, eChain_ap, gInD_ap, gInS_ap, mPop_ap, mAdd_ap, eSet0_ap, sWhile_ap, itEnumX_ap, eM2_ap, eTR1_ap, eLR1_ap, hLtD, hCmp_ii, d1]
theorem walk_eq (F : FI n A B C) (hn : n ≤ 800) (P Q : D) {f : Nat} (hf : f < n) : f_walk [.im (.tuple [.tuple (nD A), .tuple (nD B), .tuple (nD C), P, Q]), .im (.int (f : Nat))] = some (.im (.tuple (nD (wlk A B C n f))), [.un, .un]) := by
  obtain ⟨k', t5, t6, e⟩ := pw_while F hn P Q (.im (.int (f : Nat))) n 100000 0 [f] .un .un rfl rfl (WIv.first hf) (by omega) (by omega)
  have w := wlk_isL F hf
  have z0 : zI [f] = [(f : Int)] := rfl
  have i0 : ((f : Nat) : Int) ∉ ([] : List Int) := by simp
  have d2 : decide (1 ≤ 1000) = true := by decide
  have sz : szOk (nD (wkI A B C n 0 [f])).length = true := szOk_le (by
    rw [nD_len]
    have := w.ln
    unfold wlk at this
    omega)
  rw [z0, nD_cons, nD_nil] at e
  unfold f_walk b_walk wlk
  have o0 : ((0 : Nat) : Int) = 0 := rfl
  rw [o0] at e
  simp only [↓e, sNop_ap, row?_ap, eRowM_ap, sRowSub_ap, eRowLen_ap, eRowNil_ap, isUn_un, ixN3_0, ixN3_1, ixN3_2, gRowsD_ap, rowsOf_nil, rowsOf_cons, eMeth_ap, isL_l, isS_s, mAppend_ap, mExtend_ap, ownL_fr, gIn_ap, ownDct_fr, gT_apL, hSorted, hTuple, hList, hRev, sSeq_ap, sBrk_ap, sCnt_ap, sRet_ap, sRetN_ap, sDrop_ap, sIf_ap, sSet_ap, isMu_ap, sAsg_ap, gN_ap, gT_ap, gTs, sPar_ap, sSub_ap, own?_ap, putO_t, putO_f, sAug_ap, sFor_ap, eC_ap, eVar_ap, ePl_ap, eMv_ap, opS_ap, sNil_ap, sCons_ap, gOp_ap, vws_nil, vws_cons, vw_im, vw_fr, vw_frd, vw_frs, vw_frr, vw_pl, view_l, view_d, view_s, view_r, rs_d, rs_l, sl_im, sl_fr, fz_im, fz_fr, fzs_nil, fzs_cons, toD_l, toD_r, gTupD_ap, gLstD_ap, gIx_ap, gDGet_ap, ownDct_pl, keyOf_i, keyOf_s, gMul_ap, tB_ap, tNot_ap, tAnd_ap, tOr_ap, eNot_ap, eAnd_ap, eOr_ap, eIf_ap, tY_ap, eSl_ap, oN_ap, oI_ap, itOf_ap, itR1_ap, itR2_ap, eLc_ap, isIm_ap, eCall_ap, eCallM_ap, fnOf_ap, isPl_im, isPl_fr, eDspl_ap, sArgs_nil, sArgs_cons, mkD_nil, mkD_cons, keepMu_mu, keepMu_im, projS_nil, projS_cons, hAdd, hSub, hMul, hDiv, hMod, hPow, hNeg, hCmp, hEq, hNe, hIsN, hNotN, hIx, hLen, hInt, hAbs, hGcd, hMin, hMax, hCut, isi_ii, isi_ib, isi_tt, isi_ll, isM_un, isM_im, isM_ow, isM_mu, List.getElem?_cons_zero, List.getElem?_cons_succ, List.getElem?_nil, List.set_cons_zero, List.set_cons_succ, List.length_cons, List.length_nil, List.length_map, List.replicate_succ, List.replicate_zero, List.cons_append, List.nil_append, List.map_cons, List.map_nil, Nat.reduceAdd, Nat.zero_add, ne_eq, not_true_eq_false, not_false_eq_true, decide_false, decide_true, Bool.or_self, Bool.or_false, Bool.false_or, Bool.and_self, Bool.false_eq_true, if_false, if_true, reduceIte, szOk_2, szOk_1, szOk_0, szOk_3, lk_left, lk_seed, lk_cells, lk_spot, pt_left, pt_spot, len_mL, mSet, true_and, and_true, List.getD_eq_getElem?_getD, Option.getD_some, seqOf_l, seqOf_t, ↓hIx_sq, ↓hLen_sq, seqOf_sq, ↓hTuple_sq, fz_fr2, gRep_ap, eq_self, gSorted_ap, gSortD_ap, gSortS_ap, ownSet_pl, eDict1_ap, eChain_ap, gInD_ap, gInS_ap, mPop_ap, mAdd_ap, eSet0_ap, sWhile_ap, itEnumX_ap, eM2_ap, eTR1_ap, eLR1_ap, hLtD, d2, if_neg i0, sz]
/-! the law's own -/
def sD (n : Nat) (L : List Nat) : List D := (List.range n).map fun i => .bool (decide (i ∈ L))
theorem sD_len (n : Nat) (L : List Nat) : (sD n L).length = n := by unfold sD; rw [List.length_map, List.length_range]
theorem sD_at {L : List Nat} {x : Nat} (h : x < n) : atI (sD n L) (x : Int) = some (.bool (decide (x ∈ L))) := by
  rw [at_l (by rw [sD_len]; exact h) .none]
  unfold sD
  rw [List.getD_eq_getElem?_getD, List.getElem?_map, List.getElem?_range h]
  rfl
theorem sD_set {L : List Nat} {x : Nat} (h : x < n) : (sD n L).set x (.bool true) = sD n (L ++ [x]) := by
  unfold sD
  refine List.ext_getElem (by simp) fun i h1 h2 => ?_
  rw [List.getElem_set]
  simp only [List.getElem_map, List.getElem_range, List.mem_append, List.mem_singleton]
  by_cases e : x = i
  · subst e; simp
  · rw [if_neg e]
    have : ¬ i = x := fun z => e z.symm
    simp [this]
theorem lw_one (s0 s1 s4 s7 : Sl) (h7 : isM s7 = false) {L R : List Nat} {k : Nat} (hk : k < L.length) (hL : L.length ≤ 900) (hr : gt L k < R.length) (hx : gt R (gt L k) < n) :
    law_walkBody1 [s0, s1, .ow (.lst (nD L)), .ow (.lst (sD n L)), s4, .im (.int (k : Nat)), .im (.tuple (nD R)), s7] =
      some (.nx [s0, s1, .ow (.lst (nD (stp L (gt R (gt L k))))), .ow (.lst (sD n (stp L (gt R (gt L k))))), s4, .im (.int (k : Nat)), .im (.tuple (nD R)), .im (.int (gt R (gt L k) : Nat))]) := by
  have a1 : atI (nD L) (k : Int) = some (.int (gt L k : Nat)) := at_nD hk
  have a2 : atI (nD R) ((gt L k : Nat) : Int) = some (.int (gt R (gt L k) : Nat)) := at_nD hr
  have a3 := sD_at (L := L) hx
  by_cases h : gt R (gt L k) ∈ L
  · have d1 : decide (gt R (gt L k) ∈ L) = true := decide_eq_true h
    rw [stp_in h]
    simp only [sNop_ap, row?_ap, eRowM_ap, sRowSub_ap, eRowLen_ap, eRowNil_ap, isUn_un, ixN3_0, ixN3_1, ixN3_2, gRowsD_ap, rowsOf_nil, rowsOf_cons, eMeth_ap, isL_l, isS_s, mAppend_ap, mExtend_ap, ownL_fr, gIn_ap, ownDct_fr, gT_apL, hSorted, hTuple, hList, hRev, sSeq_ap, sBrk_ap, sCnt_ap, sRet_ap, sRetN_ap, sDrop_ap, sIf_ap, sSet_ap, isMu_ap, sAsg_ap, gN_ap, gT_ap, gTs, sPar_ap, sSub_ap, own?_ap, putO_t, putO_f, sAug_ap, sFor_ap, eC_ap, eVar_ap, ePl_ap, eMv_ap, opS_ap, sNil_ap, sCons_ap, gOp_ap, vws_nil, vws_cons, vw_im, vw_fr, vw_frd, vw_frs, vw_frr, vw_pl, view_l, view_d, view_s, view_r, rs_d, rs_l, sl_im, sl_fr, fz_im, fz_fr, fzs_nil, fzs_cons, toD_l, toD_r, gTupD_ap, gLstD_ap, gIx_ap, gDGet_ap, ownDct_pl, keyOf_i, keyOf_s, gMul_ap, tB_ap, tNot_ap, tAnd_ap, tOr_ap, eNot_ap, eAnd_ap, eOr_ap, eIf_ap, tY_ap, eSl_ap, oN_ap, oI_ap, itOf_ap, itR1_ap, itR2_ap, eLc_ap, isIm_ap, eCall_ap, eCallM_ap, fnOf_ap, isPl_im, isPl_fr, eDspl_ap, sArgs_nil, sArgs_cons, mkD_nil, mkD_cons, keepMu_mu, keepMu_im, projS_nil, projS_cons, hAdd, hSub, hMul, hDiv, hMod, hPow, hNeg, hCmp, hEq, hNe, hIsN, hNotN, hIx, hLen, hInt, hAbs, hGcd, hMin, hMax, hCut, isi_ii, isi_ib, isi_tt, isi_ll, isM_un, isM_im, isM_ow, isM_mu, List.getElem?_cons_zero, List.getElem?_cons_succ, List.getElem?_nil, List.set_cons_zero, List.set_cons_succ, List.length_cons, List.length_nil, List.length_map, List.replicate_succ, List.replicate_zero, List.cons_append, List.nil_append, List.map_cons, List.map_nil, Nat.reduceAdd, Nat.zero_add, ne_eq, not_true_eq_false, not_false_eq_true, decide_false, decide_true, Bool.or_self, Bool.or_false, Bool.false_or, Bool.and_self, Bool.false_eq_true, if_false, if_true, reduceIte, szOk_2, szOk_1, szOk_0, szOk_3, lk_left, lk_seed, lk_cells, lk_spot, pt_left, pt_spot, len_mL, mSet, true_and, and_true, List.getD_eq_getElem?_getD, Option.getD_some, seqOf_l, seqOf_t, ↓hIx_sq, ↓hLen_sq, seqOf_sq, ↓hTuple_sq, fz_fr2, gRep_ap, eq_self, gSorted_ap, gSortD_ap, gSortS_ap, ownSet_pl, eDict1_ap, eChain_ap, gInD_ap, gInS_ap, mPop_ap, mAdd_ap, eSet0_ap, sWhile_ap, itEnumX_ap, eM2_ap, eTR1_ap, eLR1_ap, hLtD, h7, a1, a2, a3, d1, Bool.not_true]
  · have d1 : decide (gt R (gt L k) ∈ L) = false := decide_eq_false h
    have i1 : ixN (sD n L).length ((gt R (gt L k) : Nat) : Int) = some (gt R (gt L k)) := ixN_nat (by rw [sD_len]; exact hx)
    have st := sD_set (L := L) hx
    have sz : szOk ((nD L).length + 1) = true := szOk_le (by rw [nD_len]; omega)
    rw [stp_out h]
    simp only [sNop_ap, row?_ap, eRowM_ap, sRowSub_ap, eRowLen_ap, eRowNil_ap, isUn_un, ixN3_0, ixN3_1, ixN3_2, gRowsD_ap, rowsOf_nil, rowsOf_cons, eMeth_ap, isL_l, isS_s, mAppend_ap, mExtend_ap, ownL_fr, gIn_ap, ownDct_fr, gT_apL, hSorted, hTuple, hList, hRev, sSeq_ap, sBrk_ap, sCnt_ap, sRet_ap, sRetN_ap, sDrop_ap, sIf_ap, sSet_ap, isMu_ap, sAsg_ap, gN_ap, gT_ap, gTs, sPar_ap, sSub_ap, own?_ap, putO_t, putO_f, sAug_ap, sFor_ap, eC_ap, eVar_ap, ePl_ap, eMv_ap, opS_ap, sNil_ap, sCons_ap, gOp_ap, vws_nil, vws_cons, vw_im, vw_fr, vw_frd, vw_frs, vw_frr, vw_pl, view_l, view_d, view_s, view_r, rs_d, rs_l, sl_im, sl_fr, fz_im, fz_fr, fzs_nil, fzs_cons, toD_l, toD_r, gTupD_ap, gLstD_ap, gIx_ap, gDGet_ap, ownDct_pl, keyOf_i, keyOf_s, gMul_ap, tB_ap, tNot_ap, tAnd_ap, tOr_ap, eNot_ap, eAnd_ap, eOr_ap, eIf_ap, tY_ap, eSl_ap, oN_ap, oI_ap, itOf_ap, itR1_ap, itR2_ap, eLc_ap, isIm_ap, eCall_ap, eCallM_ap, fnOf_ap, isPl_im, isPl_fr, eDspl_ap, sArgs_nil, sArgs_cons, mkD_nil, mkD_cons, keepMu_mu, keepMu_im, projS_nil, projS_cons, hAdd, hSub, hMul, hDiv, hMod, hPow, hNeg, hCmp, hEq, hNe, hIsN, hNotN, hIx, hLen, hInt, hAbs, hGcd, hMin, hMax, hCut, isi_ii, isi_ib, isi_tt, isi_ll, isM_un, isM_im, isM_ow, isM_mu, List.getElem?_cons_zero, List.getElem?_cons_succ, List.getElem?_nil, List.set_cons_zero, List.set_cons_succ, List.length_cons, List.length_nil, List.length_map, List.replicate_succ, List.replicate_zero, List.cons_append, List.nil_append, List.map_cons, List.map_nil, Nat.reduceAdd, Nat.zero_add, ne_eq, not_true_eq_false, not_false_eq_true, decide_false, decide_true, Bool.or_self, Bool.or_false, Bool.false_or, Bool.and_self, Bool.false_eq_true, if_false, if_true, reduceIte, szOk_2, szOk_1, szOk_0, szOk_3, lk_left, lk_seed, lk_cells, lk_spot, pt_left, pt_spot, len_mL, mSet, true_and, and_true, List.getD_eq_getElem?_getD, Option.getD_some, seqOf_l, seqOf_t, ↓hIx_sq, ↓hLen_sq, seqOf_sq, ↓hTuple_sq, fz_fr2, gRep_ap, eq_self, gSorted_ap, gSortD_ap, gSortS_ap, ownSet_pl, eDict1_ap, eChain_ap, gInD_ap, gInS_ap, mPop_ap, mAdd_ap, eSet0_ap, sWhile_ap, itEnumX_ap, eM2_ap, eTR1_ap, eLR1_ap, hLtD, h7, a1, a2, a3, d1, Bool.not_false, i1, st, sz, nD_app, nD_cons, nD_nil]
theorem lw_three (F : FI n A B C) (hn : n ≤ 800) (P Q : D) (s1 s4 s6 s7 : Sl) (h6 : isM s6 = false) (h7 : isM s7 = false) {L : List Nat} {k : Nat} (hk : k < L.length) (hL : ∀ x ∈ L, x < n) (hl : L.length ≤ n) :
    ∃ t6 t7, isM t6 = false ∧ isM t7 = false ∧ law_walkBody [.im (.tuple [.tuple (nD A), .tuple (nD B), .tuple (nD C), P, Q]), s1, .ow (.lst (nD L)), .ow (.lst (sD n L)), s4, .im (.int (k : Nat)), s6, s7] =
      some (.nx [.im (.tuple [.tuple (nD A), .tuple (nD B), .tuple (nD C), P, Q]), s1, .ow (.lst (nD (ex3 A B C L k))), .ow (.lst (sD n (ex3 A B C L k))), s4, .im (.int (k : Nat)), t6, t7]) := by
  have hg := hL _ (gt_mem hk)
  generalize hV : (.tuple [.tuple (nD A), .tuple (nD B), .tuple (nD C), P, Q] : D) = V
  have l1 := stp_len L (gt A (gt L k))
  have l2 := stp_len (stp L (gt A (gt L k))) (gt B (gt L k))
  have g1 : gt (stp L (gt A (gt L k))) k = gt L k := stp_gt hk
  have g2 : gt (stp (stp L (gt A (gt L k))) (gt B (gt L k))) k = gt L k := by rw [stp_gt (by omega), g1]
  have e1 := lw_one (n := n) (.im V) s1 s4 s7 h7 (L := L) (R := A) hk (by omega) (by rw [F.la]; exact hg) (F.ra _ hg).1
  have e2 := lw_one (n := n) (.im V) s1 s4 (.im (.int (gt A (gt L k) : Nat))) rfl (L := stp L (gt A (gt L k))) (R := B) (k := k) (by omega) (by omega) (by rw [g1, F.lb]; exact hg) (by rw [g1]; exact (F.rb _ hg).1)
  rw [g1] at e2
  have e3 := lw_one (n := n) (.im V) s1 s4 (.im (.int (gt B (gt L k) : Nat))) rfl (L := stp (stp L (gt A (gt L k))) (gt B (gt L k))) (R := C) (k := k) (by omega) (by omega) (by rw [g2, F.lc]; exact hg) (by rw [g2]; exact (F.rc _ hg).1)
  rw [g2] at e3
  have cv : hCut V none (some 3) = some (.d (.tuple [.tuple (nD A), .tuple (nD B), .tuple (nD C)])) := by rw [← hV]; rfl
  have d1 : decide ((k : Int) < ((nD L).length : Int)) = true := decide_eq_true (by rw [nD_len]; omega)
  refine ⟨.im (.tuple (nD C)), .im (.int (gt C (gt L k) : Nat)), rfl, rfl, ?_⟩
  simp only [forL, ↓e1, ↓e2, ↓e3, ↓cv, sNop_ap, row?_ap, eRowM_ap, sRowSub_ap, eRowLen_ap, eRowNil_ap, isUn_un, ixN3_0, ixN3_1, ixN3_2, gRowsD_ap, rowsOf_nil, rowsOf_cons, eMeth_ap, isL_l, isS_s, mAppend_ap, mExtend_ap, ownL_fr, gIn_ap, ownDct_fr, gT_apL, hSorted, hTuple, hList, hRev, sSeq_ap, sBrk_ap, sCnt_ap, sRet_ap, sRetN_ap, sDrop_ap, sIf_ap, sSet_ap, isMu_ap, sAsg_ap, gN_ap, gT_ap, gTs, sPar_ap, sSub_ap, own?_ap, putO_t, putO_f, sAug_ap, sFor_ap, eC_ap, eVar_ap, ePl_ap, eMv_ap, opS_ap, sNil_ap, sCons_ap, gOp_ap, vws_nil, vws_cons, vw_im, vw_fr, vw_frd, vw_frs, vw_frr, vw_pl, view_l, view_d, view_s, view_r, rs_d, rs_l, sl_im, sl_fr, fz_im, fz_fr, fzs_nil, fzs_cons, toD_l, toD_r, gTupD_ap, gLstD_ap, gIx_ap, gDGet_ap, ownDct_pl, keyOf_i, keyOf_s, gMul_ap, tB_ap, tNot_ap, tAnd_ap, tOr_ap, eNot_ap, eAnd_ap, eOr_ap, eIf_ap, tY_ap, eSl_ap, oN_ap, oI_ap, itOf_ap, itR1_ap, itR2_ap, eLc_ap, isIm_ap, eCall_ap, eCallM_ap, fnOf_ap, isPl_im, isPl_fr, eDspl_ap, sArgs_nil, sArgs_cons, mkD_nil, mkD_cons, keepMu_mu, keepMu_im, projS_nil, projS_cons, hAdd, hSub, hMul, hDiv, hMod, hPow, hNeg, hCmp, hEq, hNe, hIsN, hNotN, hIx, hLen, hInt, hAbs, hGcd, hMin, hMax, hCut, isi_ii, isi_ib, isi_tt, isi_ll, isM_un, isM_im, isM_ow, isM_mu, List.getElem?_cons_zero, List.getElem?_cons_succ, List.getElem?_nil, List.set_cons_zero, List.set_cons_succ, List.length_cons, List.length_nil, List.length_map, List.replicate_succ, List.replicate_zero, List.cons_append, List.nil_append, List.map_cons, List.map_nil, Nat.reduceAdd, Nat.zero_add, ne_eq, not_true_eq_false, not_false_eq_true, decide_false, decide_true, Bool.or_self, Bool.or_false, Bool.false_or, Bool.and_self, Bool.false_eq_true, if_false, if_true, reduceIte, szOk_2, szOk_1, szOk_0, szOk_3, lk_left, lk_seed, lk_cells, lk_spot, pt_left, pt_spot, len_mL, mSet, true_and, and_true, List.getD_eq_getElem?_getD, Option.getD_some, seqOf_l, seqOf_t, ↓hIx_sq, ↓hLen_sq, seqOf_sq, ↓hTuple_sq, fz_fr2, gRep_ap, eq_self, gSorted_ap, gSortD_ap, gSortS_ap, ownSet_pl, eDict1_ap, eChain_ap, gInD_ap, gInS_ap, mPop_ap, mAdd_ap, eSet0_ap, sWhile_ap, itEnumX_ap, eM2_ap, eTR1_ap, eLR1_ap, hLtD, h6, hCmp_ii, d1]
  rfl
theorem lw_idle (s0 s1 s3 s4 s6 s7 : Sl) {L : List Nat} : ∀ (t k : Nat) (s5 : Sl), isM s5 = false → L.length ≤ k → ∃ t5, forL (gN 5) law_walkBody (nD (List.range' k t)) [s0, s1, .ow (.lst (nD L)), s3, s4, s5, s6, s7] =
      some (.nx [s0, s1, .ow (.lst (nD L)), s3, s4, t5, s6, s7])
  | 0, k, s5, _, _ => ⟨s5, rfl⟩
  | t + 1, k, s5, h5, h => by
    obtain ⟨t5, ih⟩ := lw_idle s0 s1 s3 s4 s6 s7 (L := L) t (k + 1) (.im (.int (k : Nat))) rfl (by omega)
    have d1 : decide ((k : Int) < ((nD L).length : Int)) = false := decide_eq_false (by rw [nD_len]; omega)
    refine ⟨t5, ?_⟩
    rw [List.range'_succ, nD_cons, ← ih]
    simp only [forL, sNop_ap, row?_ap, eRowM_ap, sRowSub_ap, eRowLen_ap, eRowNil_ap, isUn_un, ixN3_0, ixN3_1, ixN3_2, gRowsD_ap, rowsOf_nil, rowsOf_cons, eMeth_ap, isL_l, isS_s, mAppend_ap, mExtend_ap, ownL_fr, gIn_ap, ownDct_fr, gT_apL, hSorted, hTuple, hList, hRev, sSeq_ap, sBrk_ap, sCnt_ap, sRet_ap, sRetN_ap, sDrop_ap, sIf_ap, sSet_ap, isMu_ap, sAsg_ap, gN_ap, gT_ap, gTs, sPar_ap, sSub_ap, own?_ap, putO_t, putO_f, sAug_ap, sFor_ap, eC_ap, eVar_ap, ePl_ap, eMv_ap, opS_ap, sNil_ap, sCons_ap, gOp_ap, vws_nil, vws_cons, vw_im, vw_fr, vw_frd, vw_frs, vw_frr, vw_pl, view_l, view_d, view_s, view_r, rs_d, rs_l, sl_im, sl_fr, fz_im, fz_fr, fzs_nil, fzs_cons, toD_l, toD_r, gTupD_ap, gLstD_ap, gIx_ap, gDGet_ap, ownDct_pl, keyOf_i, keyOf_s, gMul_ap, tB_ap, tNot_ap, tAnd_ap, tOr_ap, eNot_ap, eAnd_ap, eOr_ap, eIf_ap, tY_ap, eSl_ap, oN_ap, oI_ap, itOf_ap, itR1_ap, itR2_ap, eLc_ap, isIm_ap, eCall_ap, eCallM_ap, fnOf_ap, isPl_im, isPl_fr, eDspl_ap, sArgs_nil, sArgs_cons, mkD_nil, mkD_cons, keepMu_mu, keepMu_im, projS_nil, projS_cons, hAdd, hSub, hMul, hDiv, hMod, hPow, hNeg, hCmp, hEq, hNe, hIsN, hNotN, hIx, hLen, hInt, hAbs, hGcd, hMin, hMax, hCut, isi_ii, isi_ib, isi_tt, isi_ll, isM_un, isM_im, isM_ow, isM_mu, List.getElem?_cons_zero, List.getElem?_cons_succ, List.getElem?_nil, List.set_cons_zero, List.set_cons_succ, List.length_cons, List.length_nil, List.length_map, List.replicate_succ, List.replicate_zero, List.cons_append, List.nil_append, List.map_cons, List.map_nil, Nat.reduceAdd, Nat.zero_add, ne_eq, not_true_eq_false, not_false_eq_true, decide_false, decide_true, Bool.or_self, Bool.or_false, Bool.false_or, Bool.and_self, Bool.false_eq_true, if_false, if_true, reduceIte, szOk_2, szOk_1, szOk_0, szOk_3, lk_left, lk_seed, lk_cells, lk_spot, pt_left, pt_spot, len_mL, mSet, true_and, and_true, List.getD_eq_getElem?_getD, Option.getD_some, seqOf_l, seqOf_t, ↓hIx_sq, ↓hLen_sq, seqOf_sq, ↓hTuple_sq, fz_fr2, gRep_ap, eq_self, gSorted_ap, gSortD_ap, gSortS_ap, ownSet_pl, eDict1_ap, eChain_ap, gInD_ap, gInS_ap, mPop_ap, mAdd_ap, eSet0_ap, sWhile_ap, itEnumX_ap, eM2_ap, eTR1_ap, eLR1_ap, hLtD, h5, hCmp_ii, d1]
theorem lw_loop (F : FI n A B C) (hn : n ≤ 800) (P Q : D) (s1 s4 : Sl) {f : Nat} : ∀ (t k : Nat) (L : List Nat) (s5 s6 s7 : Sl), isM s5 = false → isM s6 = false → isM s7 = false → WIv n A B C f k L →
    ∃ t5 t6 t7, forL (gN 5) law_walkBody (nD (List.range' k t)) [.im (.tuple [.tuple (nD A), .tuple (nD B), .tuple (nD C), P, Q]), s1, .ow (.lst (nD L)), .ow (.lst (sD n L)), s4, s5, s6, s7] =
      some (.nx [.im (.tuple [.tuple (nD A), .tuple (nD B), .tuple (nD C), P, Q]), s1, .ow (.lst (nD (wkI A B C t k L))), .ow (.lst (sD n (wkI A B C t k L))), s4, t5, t6, t7])
  | 0, k, L, s5, s6, s7, _, _, _, w => ⟨s5, s6, s7, rfl⟩
  | t + 1, k, L, s5, s6, s7, h5, h6, h7, w => by
    by_cases hk : k < L.length
    · obtain ⟨t6, t7, i6, i7, e⟩ := lw_three F hn P Q s1 s4 s6 s7 h6 h7 hk w.lt w.len
      obtain ⟨u5, u6, u7, ih⟩ := lw_loop F hn P Q s1 s4 t (k + 1) _ (.im (.int (k : Nat))) t6 t7 rfl i6 i7 (w.next F hk)
      refine ⟨u5, u6, u7, ?_⟩
      rw [show wkI A B C (t + 1) k L = wkI A B C t (k + 1) (ex3 A B C L k) from if_pos hk]
      rw [List.range'_succ, nD_cons, ← ih]
      simp only [forL, ↓e, sNop_ap, row?_ap, eRowM_ap, sRowSub_ap, eRowLen_ap, eRowNil_ap, isUn_un, ixN3_0, ixN3_1, ixN3_2, gRowsD_ap, rowsOf_nil, rowsOf_cons, eMeth_ap, isL_l, isS_s, mAppend_ap, mExtend_ap, ownL_fr, gIn_ap, ownDct_fr, gT_apL, hSorted, hTuple, hList, hRev, sSeq_ap, sBrk_ap, sCnt_ap, sRet_ap, sRetN_ap, sDrop_ap, sIf_ap, sSet_ap, isMu_ap, sAsg_ap, gN_ap, gT_ap, gTs, sPar_ap, sSub_ap, own?_ap, putO_t, putO_f, sAug_ap, sFor_ap, eC_ap, eVar_ap, ePl_ap, eMv_ap, opS_ap, sNil_ap, sCons_ap, gOp_ap, vws_nil, vws_cons, vw_im, vw_fr, vw_frd, vw_frs, vw_frr, vw_pl, view_l, view_d, view_s, view_r, rs_d, rs_l, sl_im, sl_fr, fz_im, fz_fr, fzs_nil, fzs_cons, toD_l, toD_r, gTupD_ap, gLstD_ap, gIx_ap, gDGet_ap, ownDct_pl, keyOf_i, keyOf_s, gMul_ap, tB_ap, tNot_ap, tAnd_ap, tOr_ap, eNot_ap, eAnd_ap, eOr_ap, eIf_ap, tY_ap, eSl_ap, oN_ap, oI_ap, itOf_ap, itR1_ap, itR2_ap, eLc_ap, isIm_ap, eCall_ap, eCallM_ap, fnOf_ap, isPl_im, isPl_fr, eDspl_ap, sArgs_nil, sArgs_cons, mkD_nil, mkD_cons, keepMu_mu, keepMu_im, projS_nil, projS_cons, hAdd, hSub, hMul, hDiv, hMod, hPow, hNeg, hCmp, hEq, hNe, hIsN, hNotN, hIx, hLen, hInt, hAbs, hGcd, hMin, hMax, hCut, isi_ii, isi_ib, isi_tt, isi_ll, isM_un, isM_im, isM_ow, isM_mu, List.getElem?_cons_zero, List.getElem?_cons_succ, List.getElem?_nil, List.set_cons_zero, List.set_cons_succ, List.length_cons, List.length_nil, List.length_map, List.replicate_succ, List.replicate_zero, List.cons_append, List.nil_append, List.map_cons, List.map_nil, Nat.reduceAdd, Nat.zero_add, ne_eq, not_true_eq_false, not_false_eq_true, decide_false, decide_true, Bool.or_self, Bool.or_false, Bool.false_or, Bool.and_self, Bool.false_eq_true, if_false, if_true, reduceIte, szOk_2, szOk_1, szOk_0, szOk_3, lk_left, lk_seed, lk_cells, lk_spot, pt_left, pt_spot, len_mL, mSet, true_and, and_true, List.getD_eq_getElem?_getD, Option.getD_some, seqOf_l, seqOf_t, ↓hIx_sq, ↓hLen_sq, seqOf_sq, ↓hTuple_sq, fz_fr2, gRep_ap, eq_self, gSorted_ap, gSortD_ap, gSortS_ap, ownSet_pl, eDict1_ap, eChain_ap, gInD_ap, gInS_ap, mPop_ap, mAdd_ap, eSet0_ap, sWhile_ap, itEnumX_ap, eM2_ap, eTR1_ap, eLR1_ap, hLtD, h5]
    · obtain ⟨t5, e⟩ := lw_idle (.im (.tuple [.tuple (nD A), .tuple (nD B), .tuple (nD C), P, Q])) s1 (.ow (.lst (sD n L))) s4 s6 s7 (L := L) (t + 1) k s5 h5 (by omega)
      refine ⟨t5, s6, s7, ?_⟩
      rw [show wkI A B C (t + 1) k L = L from if_neg hk]
      exact e
theorem lw_seen (s0 s2 s3 s5 s6 s7 : Sl) (f : Nat) : ∀ l : List Nat, lcL 4 tY (opS (gOp hEq) (sCons (ePl 4) (sCons (ePl 1) sNil))) (nD l) [s0, .im (.int (f : Nat)), s2, s3, .un, s5, s6, s7] =
    some (l.map fun i => PyData.bool (decide (i ∈ [f])), [s0, .im (.int (f : Nat)), s2, s3, .un, s5, s6, s7])
  | [] => rfl
  | i :: l => by
    have ih := lw_seen s0 s2 s3 s5 s6 s7 f l
    have e : decide (i = f) = decide (i ∈ [f]) := by simp
    simp only [nD_cons, lcL, sNop_ap, row?_ap, eRowM_ap, sRowSub_ap, eRowLen_ap, eRowNil_ap, isUn_un, ixN3_0, ixN3_1, ixN3_2, gRowsD_ap, rowsOf_nil, rowsOf_cons, eMeth_ap, isL_l, isS_s, mAppend_ap, mExtend_ap, ownL_fr, gIn_ap, ownDct_fr, gT_apL, hSorted, hTuple, hList, hRev, sSeq_ap, sBrk_ap, sCnt_ap, sRet_ap, sRetN_ap, sDrop_ap, sIf_ap, sSet_ap, isMu_ap, sAsg_ap, gN_ap, gT_ap, gTs, sPar_ap, sSub_ap, own?_ap, putO_t, putO_f, sAug_ap, sFor_ap, eC_ap, eVar_ap, ePl_ap, eMv_ap, opS_ap, sNil_ap, sCons_ap, gOp_ap, vws_nil, vws_cons, vw_im, vw_fr, vw_frd, vw_frs, vw_frr, vw_pl, view_l, view_d, view_s, view_r, rs_d, rs_l, sl_im, sl_fr, fz_im, fz_fr, fzs_nil, fzs_cons, toD_l, toD_r, gTupD_ap, gLstD_ap, gIx_ap, gDGet_ap, ownDct_pl, keyOf_i, keyOf_s, gMul_ap, tB_ap, tNot_ap, tAnd_ap, tOr_ap, eNot_ap, eAnd_ap, eOr_ap, eIf_ap, tY_ap, eSl_ap, oN_ap, oI_ap, itOf_ap, itR1_ap, itR2_ap, eLc_ap, isIm_ap, eCall_ap, eCallM_ap, fnOf_ap, isPl_im, isPl_fr, eDspl_ap, sArgs_nil, sArgs_cons, mkD_nil, mkD_cons, keepMu_mu, keepMu_im, projS_nil, projS_cons, hAdd, hSub, hMul, hDiv, hMod, hPow, hNeg, hCmp, hEq, hNe, hIsN, hNotN, hIx, hLen, hInt, hAbs, hGcd, hMin, hMax, hCut, isi_ii, isi_ib, isi_tt, isi_ll, isM_un, isM_im, isM_ow, isM_mu, List.getElem?_cons_zero, List.getElem?_cons_succ, List.getElem?_nil, List.set_cons_zero, List.set_cons_succ, List.length_cons, List.length_nil, List.length_map, List.replicate_succ, List.replicate_zero, List.cons_append, List.nil_append, List.map_cons, List.map_nil, Nat.reduceAdd, Nat.zero_add, ne_eq, not_true_eq_false, not_false_eq_true, decide_false, decide_true, Bool.or_self, Bool.or_false, Bool.false_or, Bool.and_self, Bool.false_eq_true, if_false, if_true, reduceIte, szOk_2, szOk_1, szOk_0, szOk_3, lk_left, lk_seed, lk_cells, lk_spot, pt_left, pt_spot, len_mL, mSet, true_and, and_true, List.getD_eq_getElem?_getD, Option.getD_some, seqOf_l, seqOf_t, ↓hIx_sq, ↓hLen_sq, seqOf_sq, ↓hTuple_sq, fz_fr2, gRep_ap, eq_self, gSorted_ap, gSortD_ap, gSortS_ap, ownSet_pl, eDict1_ap, eChain_ap, gInD_ap, gInS_ap, mPop_ap, mAdd_ap, eSet0_ap, sWhile_ap, itEnumX_ap, eM2_ap, eTR1_ap, eLR1_ap, hLtD, ih, sh_int, eqv_nat, e]
theorem law_walk_eq (F : FI n A B C) (hn : n ≤ 800) (P Q : D) {f : Nat} (hf : f < n) : f_law_walk [.im (.tuple [.tuple (nD A), .tuple (nD B), .tuple (nD C), P, Q]), .im (.int (f : Nat))] = some (.fr (.lst (nD (wlk A B C n f))), [.un, .un]) := by
  obtain ⟨t5, t6, t7, e⟩ := lw_loop F hn P Q (.im (.int (f : Nat))) .un n 0 [f] .un .un .un rfl rfl rfl (WIv.first hf)
  have ls := lw_seen (.im (.tuple [.tuple (nD A), .tuple (nD B), .tuple (nD C), P, Q])) .un .un .un .un .un f (List.range n)
  have es : ((List.range n).map fun i => PyData.bool (decide (i ∈ [f]))) = sD n [f] := rfl
  have rg : rngD 0 n = nD (List.range' 0 n) := by rw [rngD_nD, List.range_eq_range']
  rw [es, ← rngD_nD] at ls
  rw [← rg, nD_cons, nD_nil] at e
  have sm : small62 ((n : Nat) : Int) = true := small62_b (by omega) (by omega)
  have tn : ((n : Nat) : Int).toNat = n := Int.toNat_natCast _
  have la : (nD A).length = n := by rw [nD_len, F.la]
  have sz : szOk (rngD 0 n).length = true := szOk_le (by rw [rngD_len]; omega)
  unfold f_law_walk b_law_walk wlk
  simp only [↓e, ↓ls, sNop_ap, row?_ap, eRowM_ap, sRowSub_ap, eRowLen_ap, eRowNil_ap, isUn_un, ixN3_0, ixN3_1, ixN3_2, gRowsD_ap, rowsOf_nil, rowsOf_cons, eMeth_ap, isL_l, isS_s, mAppend_ap, mExtend_ap, ownL_fr, gIn_ap, ownDct_fr, gT_apL, hSorted, hTuple, hList, hRev, sSeq_ap, sBrk_ap, sCnt_ap, sRet_ap, sRetN_ap, sDrop_ap, sIf_ap, sSet_ap, isMu_ap, sAsg_ap, gN_ap, gT_ap, gTs, sPar_ap, sSub_ap, own?_ap, putO_t, putO_f, sAug_ap, sFor_ap, eC_ap, eVar_ap, ePl_ap, eMv_ap, opS_ap, sNil_ap, sCons_ap, gOp_ap, vws_nil, vws_cons, vw_im, vw_fr, vw_frd, vw_frs, vw_frr, vw_pl, view_l, view_d, view_s, view_r, rs_d, rs_l, sl_im, sl_fr, fz_im, fz_fr, fzs_nil, fzs_cons, toD_l, toD_r, gTupD_ap, gLstD_ap, gIx_ap, gDGet_ap, ownDct_pl, keyOf_i, keyOf_s, gMul_ap, tB_ap, tNot_ap, tAnd_ap, tOr_ap, eNot_ap, eAnd_ap, eOr_ap, eIf_ap, tY_ap, eSl_ap, oN_ap, oI_ap, itOf_ap, itR1_ap, itR2_ap, eLc_ap, isIm_ap, eCall_ap, eCallM_ap, fnOf_ap, isPl_im, isPl_fr, eDspl_ap, sArgs_nil, sArgs_cons, mkD_nil, mkD_cons, keepMu_mu, keepMu_im, projS_nil, projS_cons, hAdd, hSub, hMul, hDiv, hMod, hPow, hNeg, hCmp, hEq, hNe, hIsN, hNotN, hIx, hLen, hInt, hAbs, hGcd, hMin, hMax, hCut, isi_ii, isi_ib, isi_tt, isi_ll, isM_un, isM_im, isM_ow, isM_mu, List.getElem?_cons_zero, List.getElem?_cons_succ, List.getElem?_nil, List.set_cons_zero, List.set_cons_succ, List.length_cons, List.length_nil, List.length_map, List.replicate_succ, List.replicate_zero, List.cons_append, List.nil_append, List.map_cons, List.map_nil, Nat.reduceAdd, Nat.zero_add, ne_eq, not_true_eq_false, not_false_eq_true, decide_false, decide_true, Bool.or_self, Bool.or_false, Bool.false_or, Bool.and_self, Bool.false_eq_true, if_false, if_true, reduceIte, szOk_2, szOk_1, szOk_0, szOk_3, lk_left, lk_seed, lk_cells, lk_spot, pt_left, pt_spot, len_mL, mSet, true_and, and_true, List.getD_eq_getElem?_getD, Option.getD_some, seqOf_l, seqOf_t, ↓hIx_sq, ↓hLen_sq, seqOf_sq, ↓hTuple_sq, fz_fr2, gRep_ap, eq_self, gSorted_ap, gSortD_ap, gSortS_ap, ownSet_pl, eDict1_ap, eChain_ap, gInD_ap, gInS_ap, mPop_ap, mAdd_ap, eSet0_ap, sWhile_ap, itEnumX_ap, eM2_ap, eTR1_ap, eLR1_ap, hLtD, at5_0, la, sm, tn, sz]
end
/-! ### renumbered, _law_listed -/
section
variable {n : Nat}
/-- places: a row of the places of the first k entries -/
structure PlI (n : Nat) (L : List Nat) (k : Nat) (G : List Nat) : Prop where
  ln : G.length = n
  at_ : ∀ i, i < k → gt G (gt L i) = i
theorem PlI.next {L : List Nat} (h : IsL n L) {k : Nat} {G : List Nat} (p : PlI n L k G) (hk : k < n) : PlI n L (k + 1) (G.set (gt L k) k) := by
  refine ⟨by rw [List.length_set]; exact p.ln, fun i hi => ?_⟩
  rw [gt_set (by rw [p.ln]; exact h.gl hk)]
  by_cases e : i = k
  · subst e; rw [if_pos rfl]
  · have ne : gt L i ≠ gt L k := fun z => by
      have := congrArg L.idxOf z
      rw [h.ig (by omega), h.ig hk] at this
      exact e this
    rw [if_neg ne]
    exact p.at_ i (by omega)
theorem PlI.fin {L : List Nat} (h : IsL n L) {G : List Nat} (p : PlI n L n G) : G = invL n L := by
  refine ext_gt (by rw [p.ln]; unfold invL; rw [List.length_map, List.length_range]) fun x hx => ?_
  rw [p.ln] at hx
  rw [gt_invL hx]
  have := p.at_ (L.idxOf x) (h.il hx)
  rw [h.gi hx] at this
  exact this
theorem zer3 (s0 s1 s2 s4 s5 s6 s7 s8 : Sl) : ∀ l : List Nat, lcL 3 tY (eC (.int 0)) (nD l) [s0, s1, s2, .un, s4, s5, s6, s7, s8] = some (nD (l.map fun _ => 0), [s0, s1, s2, .un, s4, s5, s6, s7, s8])
  | [] => rfl
  | i :: l => by
    have ih := zer3 s0 s1 s2 s4 s5 s6 s7 s8 l
    simp only [nD_cons, lcL, sNop_ap, row?_ap, eRowM_ap, sRowSub_ap, eRowLen_ap, eRowNil_ap, isUn_un, ixN3_0, ixN3_1, ixN3_2, gRowsD_ap, rowsOf_nil, rowsOf_cons, eMeth_ap, isL_l, isS_s, mAppend_ap, mExtend_ap, ownL_fr, gIn_ap, ownDct_fr, gT_apL, hSorted, hTuple, hList, hRev, sSeq_ap, sBrk_ap, sCnt_ap, sRet_ap, sRetN_ap, sDrop_ap, sIf_ap, sSet_ap, isMu_ap, sAsg_ap, gN_ap, gT_ap, gTs, sPar_ap, sSub_ap, own?_ap, putO_t, putO_f, sAug_ap, sFor_ap, eC_ap, eVar_ap, ePl_ap, eMv_ap, opS_ap, sNil_ap, sCons_ap, gOp_ap, vws_nil, vws_cons, vw_im, vw_fr, vw_frd, vw_frs, vw_frr, vw_pl, view_l, view_d, view_s, view_r, rs_d, rs_l, sl_im, sl_fr, fz_im, fz_fr, fzs_nil, fzs_cons, toD_l, toD_r, gTupD_ap, gLstD_ap, gIx_ap, gDGet_ap, ownDct_pl, keyOf_i, keyOf_s, gMul_ap, tB_ap, tNot_ap, tAnd_ap, tOr_ap, eNot_ap, eAnd_ap, eOr_ap, eIf_ap, tY_ap, eSl_ap, oN_ap, oI_ap, itOf_ap, itR1_ap, itR2_ap, eLc_ap, isIm_ap, eCall_ap, eCallM_ap, fnOf_ap, isPl_im, isPl_fr, eDspl_ap, sArgs_nil, sArgs_cons, mkD_nil, mkD_cons, keepMu_mu, keepMu_im, projS_nil, projS_cons, hAdd, hSub, hMul, hDiv, hMod, hPow, hNeg, hCmp, hEq, hNe, hIsN, hNotN, hIx, hLen, hInt, hAbs, hGcd, hMin, hMax, hCut, isi_ii, isi_ib, isi_tt, isi_ll, isM_un, isM_im, isM_ow, isM_mu, List.getElem?_cons_zero, List.getElem?_cons_succ, List.getElem?_nil, List.set_cons_zero, List.set_cons_succ, List.length_cons, List.length_nil, List.length_map, List.replicate_succ, List.replicate_zero, List.cons_append, List.nil_append, List.map_cons, List.map_nil, Nat.reduceAdd, Nat.zero_add, ne_eq, not_true_eq_false, not_false_eq_true, decide_false, decide_true, Bool.or_self, Bool.or_false, Bool.false_or, Bool.and_self, Bool.false_eq_true, if_false, if_true, reduceIte, szOk_2, szOk_1, szOk_0, szOk_3, lk_left, lk_seed, lk_cells, lk_spot, pt_left, pt_spot, len_mL, mSet, true_and, and_true, List.getD_eq_getElem?_getD, Option.getD_some, seqOf_l, seqOf_t, ↓hIx_sq, ↓hLen_sq, seqOf_sq, ↓hTuple_sq, fz_fr2, gRep_ap, eq_self, gSorted_ap, gSortD_ap, gSortS_ap, ownSet_pl, eDict1_ap, eChain_ap, gInD_ap, gInS_ap, mPop_ap, mAdd_ap, eSet0_ap, sWhile_ap, itEnumX_ap, eM2_ap, eTR1_ap, eLR1_ap, hLtD, ih]
    rfl
theorem inner3 (s0 s1 s4 s5 s7 s8 : Sl) {G R : List Nat} : ∀ l : List Nat, (∀ x ∈ l, x < R.length) → (∀ x ∈ l, gt R x < G.length) →
    lcL 3 tY (opS gIx (sCons (ePl 2) (sCons (opS gIx (sCons (ePl 6) (sCons (ePl 3) sNil))) sNil))) (nD l) [s0, s1, .ow (.lst (nD G)), .un, s4, s5, .im (.tuple (nD R)), s7, s8] =
      some (nD (l.map fun x => gt G (gt R x)), [s0, s1, .ow (.lst (nD G)), .un, s4, s5, .im (.tuple (nD R)), s7, s8])
  | [], _, _ => rfl
  | x :: l, h1, h2 => by
    have ih := inner3 s0 s1 s4 s5 s7 s8 (G := G) (R := R) l (fun y hy => h1 y (List.mem_cons_of_mem _ hy)) fun y hy => h2 y (List.mem_cons_of_mem _ hy)
    have a1 : atI (nD R) (x : Int) = some (.int (gt R x : Nat)) := at_nD (h1 x List.mem_cons_self)
    have a2 : atI (nD G) ((gt R x : Nat) : Int) = some (.int (gt G (gt R x) : Nat)) := at_nD (h2 x List.mem_cons_self)
    simp only [nD_cons, lcL, sNop_ap, row?_ap, eRowM_ap, sRowSub_ap, eRowLen_ap, eRowNil_ap, isUn_un, ixN3_0, ixN3_1, ixN3_2, gRowsD_ap, rowsOf_nil, rowsOf_cons, eMeth_ap, isL_l, isS_s, mAppend_ap, mExtend_ap, ownL_fr, gIn_ap, ownDct_fr, gT_apL, hSorted, hTuple, hList, hRev, sSeq_ap, sBrk_ap, sCnt_ap, sRet_ap, sRetN_ap, sDrop_ap, sIf_ap, sSet_ap, isMu_ap, sAsg_ap, gN_ap, gT_ap, gTs, sPar_ap, sSub_ap, own?_ap, putO_t, putO_f, sAug_ap, sFor_ap, eC_ap, eVar_ap, ePl_ap, eMv_ap, opS_ap, sNil_ap, sCons_ap, gOp_ap, vws_nil, vws_cons, vw_im, vw_fr, vw_frd, vw_frs, vw_frr, vw_pl, view_l, view_d, view_s, view_r, rs_d, rs_l, sl_im, sl_fr, fz_im, fz_fr, fzs_nil, fzs_cons, toD_l, toD_r, gTupD_ap, gLstD_ap, gIx_ap, gDGet_ap, ownDct_pl, keyOf_i, keyOf_s, gMul_ap, tB_ap, tNot_ap, tAnd_ap, tOr_ap, eNot_ap, eAnd_ap, eOr_ap, eIf_ap, tY_ap, eSl_ap, oN_ap, oI_ap, itOf_ap, itR1_ap, itR2_ap, eLc_ap, isIm_ap, eCall_ap, eCallM_ap, fnOf_ap, isPl_im, isPl_fr, eDspl_ap, sArgs_nil, sArgs_cons, mkD_nil, mkD_cons, keepMu_mu, keepMu_im, projS_nil, projS_cons, hAdd, hSub, hMul, hDiv, hMod, hPow, hNeg, hCmp, hEq, hNe, hIsN, hNotN, hIx, hLen, hInt, hAbs, hGcd, hMin, hMax, hCut, isi_ii, isi_ib, isi_tt, isi_ll, isM_un, isM_im, isM_ow, isM_mu, List.getElem?_cons_zero, List.getElem?_cons_succ, List.getElem?_nil, List.set_cons_zero, List.set_cons_succ, List.length_cons, List.length_nil, List.length_map, List.replicate_succ, List.replicate_zero, List.cons_append, List.nil_append, List.map_cons, List.map_nil, Nat.reduceAdd, Nat.zero_add, ne_eq, not_true_eq_false, not_false_eq_true, decide_false, decide_true, Bool.or_self, Bool.or_false, Bool.false_or, Bool.and_self, Bool.false_eq_true, if_false, if_true, reduceIte, szOk_2, szOk_1, szOk_0, szOk_3, lk_left, lk_seed, lk_cells, lk_spot, pt_left, pt_spot, len_mL, mSet, true_and, and_true, List.getD_eq_getElem?_getD, Option.getD_some, seqOf_l, seqOf_t, ↓hIx_sq, ↓hLen_sq, seqOf_sq, ↓hTuple_sq, fz_fr2, gRep_ap, eq_self, gSorted_ap, gSortD_ap, gSortS_ap, ownSet_pl, eDict1_ap, eChain_ap, gInD_ap, gInS_ap, mPop_ap, mAdd_ap, eSet0_ap, sWhile_ap, itEnumX_ap, eM2_ap, eTR1_ap, eLR1_ap, hLtD, ih, a1, a2]
theorem orow3 (k : Int) (V : D) (s1 s2 s4 s5 s6 s7 s8 : Sl) {R : List Nat} (hv : hIx [V, .int k] = some (.d (.tuple (nD R)))) : ∀ l : List Nat, (∀ x ∈ l, x < R.length) →
    lcL 3 tY (opS gIx (sCons (opS gIx (sCons (ePl 0) (sCons (eC (.int k)) sNil))) (sCons (ePl 3) sNil))) (nD l) [.im V, s1, s2, .un, s4, s5, s6, s7, s8] =
      some (nD (l.map fun x => gt R x), [.im V, s1, s2, .un, s4, s5, s6, s7, s8])
  | [], _ => rfl
  | x :: l, h1 => by
    have ih := orow3 k V s1 s2 s4 s5 s6 s7 s8 hv l (fun y hy => h1 y (List.mem_cons_of_mem _ hy))
    have a1 : atI (nD R) (x : Int) = some (.int (gt R x : Nat)) := at_nD (h1 x List.mem_cons_self)
    simp only [nD_cons, lcL, ↓hv, sNop_ap, row?_ap, eRowM_ap, sRowSub_ap, eRowLen_ap, eRowNil_ap, isUn_un, ixN3_0, ixN3_1, ixN3_2, gRowsD_ap, rowsOf_nil, rowsOf_cons, eMeth_ap, isL_l, isS_s, mAppend_ap, mExtend_ap, ownL_fr, gIn_ap, ownDct_fr, gT_apL, hSorted, hTuple, hList, hRev, sSeq_ap, sBrk_ap, sCnt_ap, sRet_ap, sRetN_ap, sDrop_ap, sIf_ap, sSet_ap, isMu_ap, sAsg_ap, gN_ap, gT_ap, gTs, sPar_ap, sSub_ap, own?_ap, putO_t, putO_f, sAug_ap, sFor_ap, eC_ap, eVar_ap, ePl_ap, eMv_ap, opS_ap, sNil_ap, sCons_ap, gOp_ap, vws_nil, vws_cons, vw_im, vw_fr, vw_frd, vw_frs, vw_frr, vw_pl, view_l, view_d, view_s, view_r, rs_d, rs_l, sl_im, sl_fr, fz_im, fz_fr, fzs_nil, fzs_cons, toD_l, toD_r, gTupD_ap, gLstD_ap, gIx_ap, gDGet_ap, ownDct_pl, keyOf_i, keyOf_s, gMul_ap, tB_ap, tNot_ap, tAnd_ap, tOr_ap, eNot_ap, eAnd_ap, eOr_ap, eIf_ap, tY_ap, eSl_ap, oN_ap, oI_ap, itOf_ap, itR1_ap, itR2_ap, eLc_ap, isIm_ap, eCall_ap, eCallM_ap, fnOf_ap, isPl_im, isPl_fr, eDspl_ap, sArgs_nil, sArgs_cons, mkD_nil, mkD_cons, keepMu_mu, keepMu_im, projS_nil, projS_cons, hAdd, hSub, hMul, hDiv, hMod, hPow, hNeg, hCmp, hEq, hNe, hIsN, hNotN, hIx, hLen, hInt, hAbs, hGcd, hMin, hMax, hCut, isi_ii, isi_ib, isi_tt, isi_ll, isM_un, isM_im, isM_ow, isM_mu, List.getElem?_cons_zero, List.getElem?_cons_succ, List.getElem?_nil, List.set_cons_zero, List.set_cons_succ, List.length_cons, List.length_nil, List.length_map, List.replicate_succ, List.replicate_zero, List.cons_append, List.nil_append, List.map_cons, List.map_nil, Nat.reduceAdd, Nat.zero_add, ne_eq, not_true_eq_false, not_false_eq_true, decide_false, decide_true, Bool.or_self, Bool.or_false, Bool.false_or, Bool.and_self, Bool.false_eq_true, if_false, if_true, reduceIte, szOk_2, szOk_1, szOk_0, szOk_3, lk_left, lk_seed, lk_cells, lk_spot, pt_left, pt_spot, len_mL, mSet, true_and, and_true, List.getD_eq_getElem?_getD, Option.getD_some, seqOf_l, seqOf_t, ↓hIx_sq, ↓hLen_sq, seqOf_sq, ↓hTuple_sq, fz_fr2, gRep_ap, eq_self, gSorted_ap, gSortD_ap, gSortS_ap, ownSet_pl, eDict1_ap, eChain_ap, gInD_ap, gInS_ap, mPop_ap, mAdd_ap, eSet0_ap, sWhile_ap, itEnumX_ap, eM2_ap, eTR1_ap, eLR1_ap, hLtD, ih, a1]
/-- the loop of renumbered, of _law_listed -/
theorem enum_nDk : ∀ (l : List Nat) (k : Nat), enumD k (nD l) = (List.range' k l.length).map fun (i : Nat) => PyData.tuple [.int (i : Nat), .int (gt l (i - k) : Nat)]
  | [], k => rfl
  | x :: l, k => by
    have ih := enum_nDk l (k + 1)
    rw [nD_cons, List.length_cons, List.range'_succ, List.map_cons]
    show PyData.tuple [.int (k : Nat), .int (x : Nat)] :: enumD (k + 1) (nD l) = _
    rw [ih, Nat.sub_self]
    have e0 : gt (x :: l) 0 = x := rfl
    rw [e0]
    congr 1
    refine List.map_congr_left fun i hi => ?_
    have := (List.mem_range'_1.mp hi).1
    have e1 : i - k = (i - (k + 1)) + 1 := by omega
    rw [e1]
    rfl
theorem enum_nD {L : List Nat} (h : IsL n L) : enumD 0 (nD L) = (List.range' 0 n).map fun (i : Nat) => PyData.tuple [.int (i : Nat), .int (gt L i : Nat)] := by
  rw [enum_nDk, h.ln]
  refine List.map_congr_left fun i hi => ?_
  rw [Nat.sub_zero]
theorem rn_loop {L : List Nat} (h : IsL n L) (s0 s1 s5 s6 s7 s8 : Sl) : ∀ (t k : Nat) (G : List Nat) (s3 s4 : Sl), (s3 = .un ∨ ∃ d, s3 = .im d) → isM s4 = false → k + t = n → PlI n L k G →
    ∃ t3 t4, (t3 = .un ∨ ∃ d, t3 = .im d) ∧ forL (gT [4, 3]) renumberedBody ((List.range' k t).map fun (i : Nat) => PyData.tuple [.int (i : Nat), .int (gt L i : Nat)]) [s0, s1, .ow (.lst (nD G)), s3, s4, s5, s6, s7, s8] =
      some (.nx [s0, s1, .ow (.lst (nD (invL n L))), t3, t4, s5, s6, s7, s8])
  | 0, k, G, s3, s4, h3, _, hk, p => by
    have e : k = n := by omega
    subst e
    rw [← p.fin h]
    exact ⟨s3, s4, h3, rfl⟩
  | t + 1, k, G, s3, s4, h3, h4, hk, p => by
    obtain ⟨t3, t4, i3, ih⟩ := rn_loop h s0 s1 s5 s6 s7 s8 t (k + 1) _ (.im (.int (gt L k : Nat))) (.im (.int (k : Nat))) (.inr ⟨_, rfl⟩) rfl (by omega) (p.next h (by omega))
    have i1 : ixN (nD G).length ((gt L k : Nat) : Int) = some (gt L k) := ixN_nat (by rw [nD_len, p.ln]; exact h.gl (by omega))
    have m3 : isM s3 = false := by
      rcases h3 with rfl | ⟨d, rfl⟩ <;> rfl
    refine ⟨t3, t4, i3, ?_⟩
    rw [List.range'_succ, List.map_cons, ← ih]
    simp only [forL, sNop_ap, row?_ap, eRowM_ap, sRowSub_ap, eRowLen_ap, eRowNil_ap, isUn_un, ixN3_0, ixN3_1, ixN3_2, gRowsD_ap, rowsOf_nil, rowsOf_cons, eMeth_ap, isL_l, isS_s, mAppend_ap, mExtend_ap, ownL_fr, gIn_ap, ownDct_fr, gT_apL, hSorted, hTuple, hList, hRev, sSeq_ap, sBrk_ap, sCnt_ap, sRet_ap, sRetN_ap, sDrop_ap, sIf_ap, sSet_ap, isMu_ap, sAsg_ap, gN_ap, gT_ap, gTs, sPar_ap, sSub_ap, own?_ap, putO_t, putO_f, sAug_ap, sFor_ap, eC_ap, eVar_ap, ePl_ap, eMv_ap, opS_ap, sNil_ap, sCons_ap, gOp_ap, vws_nil, vws_cons, vw_im, vw_fr, vw_frd, vw_frs, vw_frr, vw_pl, view_l, view_d, view_s, view_r, rs_d, rs_l, sl_im, sl_fr, fz_im, fz_fr, fzs_nil, fzs_cons, toD_l, toD_r, gTupD_ap, gLstD_ap, gIx_ap, gDGet_ap, ownDct_pl, keyOf_i, keyOf_s, gMul_ap, tB_ap, tNot_ap, tAnd_ap, tOr_ap, eNot_ap, eAnd_ap, eOr_ap, eIf_ap, tY_ap, eSl_ap, oN_ap, oI_ap, itOf_ap, itR1_ap, itR2_ap, eLc_ap, isIm_ap, eCall_ap, eCallM_ap, fnOf_ap, isPl_im, isPl_fr, eDspl_ap, sArgs_nil, sArgs_cons, mkD_nil, mkD_cons, keepMu_mu, keepMu_im, projS_nil, projS_cons, hAdd, hSub, hMul, hDiv, hMod, hPow, hNeg, hCmp, hEq, hNe, hIsN, hNotN, hIx, hLen, hInt, hAbs, hGcd, hMin, hMax, hCut, isi_ii, isi_ib, isi_tt, isi_ll, isM_un, isM_im, isM_ow, isM_mu, List.getElem?_cons_zero, List.getElem?_cons_succ, List.getElem?_nil, List.set_cons_zero, List.set_cons_succ, List.length_cons, List.length_nil, List.length_map, List.replicate_succ, List.replicate_zero, List.cons_append, List.nil_append, List.map_cons, List.map_nil, Nat.reduceAdd, Nat.zero_add, ne_eq, not_true_eq_false, not_false_eq_true, decide_false, decide_true, Bool.or_self, Bool.or_false, Bool.false_or, Bool.and_self, Bool.false_eq_true, if_false, if_true, reduceIte, szOk_2, szOk_1, szOk_0, szOk_3, lk_left, lk_seed, lk_cells, lk_spot, pt_left, pt_spot, len_mL, mSet, true_and, and_true, List.getD_eq_getElem?_getD, Option.getD_some, seqOf_l, seqOf_t, ↓hIx_sq, ↓hLen_sq, seqOf_sq, ↓hTuple_sq, fz_fr2, gRep_ap, eq_self, gSorted_ap, gSortD_ap, gSortS_ap, ownSet_pl, eDict1_ap, eChain_ap, gInD_ap, gInS_ap, mPop_ap, mAdd_ap, eSet0_ap, sWhile_ap, itEnumX_ap, eM2_ap, eTR1_ap, eLR1_ap, hLtD, m3, h4, i1, set_nD]
theorem ls_loop {L : List Nat} (h : IsL n L) (b : Bool) (s0 s3 s5 s6 s7 s8 : Sl) : ∀ (t k : Nat) (G : List Nat) (s4 : Sl), isM s4 = false → k + t = n → PlI n L k G →
    ∃ t4, forL (gN 4) law_listedBody (nD (List.range' k t)) [s0, .im (sq b (nD L)), .ow (.lst (nD G)), s3, s4, s5, s6, s7, s8] =
      some (.nx [s0, .im (sq b (nD L)), .ow (.lst (nD (invL n L))), s3, t4, s5, s6, s7, s8])
  | 0, k, G, s4, _, hk, p => by
    have e : k = n := by omega
    subst e
    rw [← p.fin h]
    exact ⟨s4, rfl⟩
  | t + 1, k, G, s4, h4, hk, p => by
    obtain ⟨t4, ih⟩ := ls_loop h b s0 s3 s5 s6 s7 s8 t (k + 1) _ (.im (.int (k : Nat))) rfl (by omega) (p.next h (by omega))
    have a1 : atI (nD L) (k : Int) = some (.int (gt L k : Nat)) := at_nD (by rw [h.ln]; omega)
    have i1 : ixN (nD G).length ((gt L k : Nat) : Int) = some (gt L k) := ixN_nat (by rw [nD_len, p.ln]; exact h.gl (by omega))
    refine ⟨t4, ?_⟩
    rw [List.range'_succ, nD_cons, ← ih]
    simp only [forL, sNop_ap, row?_ap, eRowM_ap, sRowSub_ap, eRowLen_ap, eRowNil_ap, isUn_un, ixN3_0, ixN3_1, ixN3_2, gRowsD_ap, rowsOf_nil, rowsOf_cons, eMeth_ap, isL_l, isS_s, mAppend_ap, mExtend_ap, ownL_fr, gIn_ap, ownDct_fr, gT_apL, hSorted, hTuple, hList, hRev, sSeq_ap, sBrk_ap, sCnt_ap, sRet_ap, sRetN_ap, sDrop_ap, sIf_ap, sSet_ap, isMu_ap, sAsg_ap, gN_ap, gT_ap, gTs, sPar_ap, sSub_ap, own?_ap, putO_t, putO_f, sAug_ap, sFor_ap, eC_ap, eVar_ap, ePl_ap, eMv_ap, opS_ap, sNil_ap, sCons_ap, gOp_ap, vws_nil, vws_cons, vw_im, vw_fr, vw_frd, vw_frs, vw_frr, vw_pl, view_l, view_d, view_s, view_r, rs_d, rs_l, sl_im, sl_fr, fz_im, fz_fr, fzs_nil, fzs_cons, toD_l, toD_r, gTupD_ap, gLstD_ap, gIx_ap, gDGet_ap, ownDct_pl, keyOf_i, keyOf_s, gMul_ap, tB_ap, tNot_ap, tAnd_ap, tOr_ap, eNot_ap, eAnd_ap, eOr_ap, eIf_ap, tY_ap, eSl_ap, oN_ap, oI_ap, itOf_ap, itR1_ap, itR2_ap, eLc_ap, isIm_ap, eCall_ap, eCallM_ap, fnOf_ap, isPl_im, isPl_fr, eDspl_ap, sArgs_nil, sArgs_cons, mkD_nil, mkD_cons, keepMu_mu, keepMu_im, projS_nil, projS_cons, hAdd, hSub, hMul, hDiv, hMod, hPow, hNeg, hCmp, hEq, hNe, hIsN, hNotN, hIx, hLen, hInt, hAbs, hGcd, hMin, hMax, hCut, isi_ii, isi_ib, isi_tt, isi_ll, isM_un, isM_im, isM_ow, isM_mu, List.getElem?_cons_zero, List.getElem?_cons_succ, List.getElem?_nil, List.set_cons_zero, List.set_cons_succ, List.length_cons, List.length_nil, List.length_map, List.replicate_succ, List.replicate_zero, List.cons_append, List.nil_append, List.map_cons, List.map_nil, Nat.reduceAdd, Nat.zero_add, ne_eq, not_true_eq_false, not_false_eq_true, decide_false, decide_true, Bool.or_self, Bool.or_false, Bool.false_or, Bool.and_self, Bool.false_eq_true, if_false, if_true, reduceIte, szOk_2, szOk_1, szOk_0, szOk_3, lk_left, lk_seed, lk_cells, lk_spot, pt_left, pt_spot, len_mL, mSet, true_and, and_true, List.getD_eq_getElem?_getD, Option.getD_some, seqOf_l, seqOf_t, ↓hIx_sq, ↓hLen_sq, seqOf_sq, ↓hTuple_sq, fz_fr2, gRep_ap, eq_self, gSorted_ap, gSortD_ap, gSortS_ap, ownSet_pl, eDict1_ap, eChain_ap, gInD_ap, gInS_ap, mPop_ap, mAdd_ap, eSet0_ap, sWhile_ap, itEnumX_ap, eM2_ap, eTR1_ap, eLR1_ap, hLtD, h4, a1, i1, set_nD]
theorem renC_as {L A : List Nat} (h : IsL n L) (ha : ∀ i, i < n → gt A i < n) : (L.map fun x => gt (invL n L) (gt A x)) = renC L A := by
  unfold renC
  refine List.map_congr_left fun x hx => ?_
  rw [gt_invL (ha x (h.lt x hx))]
theorem invL_len (n : Nat) (L : List Nat) : (invL n L).length = n := by unfold invL; rw [List.length_map, List.length_range]
variable {A B C : List Nat}
/-- the comprehension over the three changes -/
theorem outer6 (F : FI n A B C) {L : List Nat} (h : IsL n L) (hn : n ≤ 800) (b : Bool) (s0 s3 s4 s5 s7 s8 : Sl) (h3 : s3 = .un ∨ ∃ d, s3 = .im d) :
    lcL 6 tY (opS (gOp hTuple) (sCons (eLc (itOf (eVar 1)) 3 tY (opS gIx (sCons (ePl 2) (sCons (opS gIx (sCons (ePl 6) (sCons (ePl 3) sNil))) sNil)))) sNil)) [.tuple (nD A), .tuple (nD B), .tuple (nD C)] [s0, .im (sq b (nD L)), .ow (.lst (nD (invL n L))), s3, s4, s5, .un, s7, s8] =
      some ([.tuple (nD (renC L A)), .tuple (nD (renC L B)), .tuple (nD (renC L C))], [s0, .im (sq b (nD L)), .ow (.lst (nD (invL n L))), s3, s4, s5, .un, s7, s8]) := by
  have sz : szOk (nD L).length = true := szOk_le (by rw [nD_len, h.ln]; omega)
  have ia := inner3 s0 (.im (sq b (nD L))) s4 s5 s7 s8 (G := invL n L) (R := A) L (fun x hx => by rw [F.la]; exact h.lt x hx) fun x hx => by rw [invL_len]; exact (F.ra x (h.lt x hx)).1
  have ib := inner3 s0 (.im (sq b (nD L))) s4 s5 s7 s8 (G := invL n L) (R := B) L (fun x hx => by rw [F.lb]; exact h.lt x hx) fun x hx => by rw [invL_len]; exact (F.rb x (h.lt x hx)).1
  have ic := inner3 s0 (.im (sq b (nD L))) s4 s5 s7 s8 (G := invL n L) (R := C) L (fun x hx => by rw [F.lc]; exact h.lt x hx) fun x hx => by rw [invL_len]; exact (F.rc x (h.lt x hx)).1
  rw [renC_as h fun i hi => (F.ra i hi).1] at ia
  rw [renC_as h fun i hi => (F.rb i hi).1] at ib
  rw [renC_as h fun i hi => (F.rc i hi).1] at ic
  have za : szOk (nD (renC L A)).length = true := szOk_le (by rw [nD_len, renC_len h]; omega)
  have zb : szOk (nD (renC L B)).length = true := szOk_le (by rw [nD_len, renC_len h]; omega)
  have zc : szOk (nD (renC L C)).length = true := szOk_le (by rw [nD_len, renC_len h]; omega)
  rcases h3 with rfl | ⟨d, rfl⟩
  · simp only [lcL, ↓ia, ↓ib, ↓ic, sNop_ap, row?_ap, eRowM_ap, sRowSub_ap, eRowLen_ap, eRowNil_ap, isUn_un, ixN3_0, ixN3_1, ixN3_2, gRowsD_ap, rowsOf_nil, rowsOf_cons, eMeth_ap, isL_l, isS_s, mAppend_ap, mExtend_ap, ownL_fr, gIn_ap, ownDct_fr, gT_apL, hSorted, hTuple, hList, hRev, sSeq_ap, sBrk_ap, sCnt_ap, sRet_ap, sRetN_ap, sDrop_ap, sIf_ap, sSet_ap, isMu_ap, sAsg_ap, gN_ap, gT_ap, gTs, sPar_ap, sSub_ap, own?_ap, putO_t, putO_f, sAug_ap, sFor_ap, eC_ap, eVar_ap, ePl_ap, eMv_ap, opS_ap, sNil_ap, sCons_ap, gOp_ap, vws_nil, vws_cons, vw_im, vw_fr, vw_frd, vw_frs, vw_frr, vw_pl, view_l, view_d, view_s, view_r, rs_d, rs_l, sl_im, sl_fr, fz_im, fz_fr, fzs_nil, fzs_cons, toD_l, toD_r, gTupD_ap, gLstD_ap, gIx_ap, gDGet_ap, ownDct_pl, keyOf_i, keyOf_s, gMul_ap, tB_ap, tNot_ap, tAnd_ap, tOr_ap, eNot_ap, eAnd_ap, eOr_ap, eIf_ap, tY_ap, eSl_ap, oN_ap, oI_ap, itOf_ap, itR1_ap, itR2_ap, eLc_ap, isIm_ap, eCall_ap, eCallM_ap, fnOf_ap, isPl_im, isPl_fr, eDspl_ap, sArgs_nil, sArgs_cons, mkD_nil, mkD_cons, keepMu_mu, keepMu_im, projS_nil, projS_cons, hAdd, hSub, hMul, hDiv, hMod, hPow, hNeg, hCmp, hEq, hNe, hIsN, hNotN, hIx, hLen, hInt, hAbs, hGcd, hMin, hMax, hCut, isi_ii, isi_ib, isi_tt, isi_ll, isM_un, isM_im, isM_ow, isM_mu, List.getElem?_cons_zero, List.getElem?_cons_succ, List.getElem?_nil, List.set_cons_zero, List.set_cons_succ, List.length_cons, List.length_nil, List.length_map, List.replicate_succ, List.replicate_zero, List.cons_append, List.nil_append, List.map_cons, List.map_nil, Nat.reduceAdd, Nat.zero_add, ne_eq, not_true_eq_false, not_false_eq_true, decide_false, decide_true, Bool.or_self, Bool.or_false, Bool.false_or, Bool.and_self, Bool.false_eq_true, if_false, if_true, reduceIte, szOk_2, szOk_1, szOk_0, szOk_3, lk_left, lk_seed, lk_cells, lk_spot, pt_left, pt_spot, len_mL, mSet, true_and, and_true, List.getD_eq_getElem?_getD, Option.getD_some, seqOf_l, seqOf_t, ↓hIx_sq, ↓hLen_sq, seqOf_sq, ↓hTuple_sq, fz_fr2, gRep_ap, eq_self, gSorted_ap, gSortD_ap, gSortS_ap, ownSet_pl, eDict1_ap, eChain_ap, gInD_ap, gInS_ap, mPop_ap, mAdd_ap, eSet0_ap, sWhile_ap, itEnumX_ap, eM2_ap, eTR1_ap, eLR1_ap, hLtD, sz, za, zb, zc]
  · simp only [lcL, ↓ia, ↓ib, ↓ic, sNop_ap, row?_ap, eRowM_ap, sRowSub_ap, eRowLen_ap, eRowNil_ap, isUn_un, ixN3_0, ixN3_1, ixN3_2, gRowsD_ap, rowsOf_nil, rowsOf_cons, eMeth_ap, isL_l, isS_s, mAppend_ap, mExtend_ap, ownL_fr, gIn_ap, ownDct_fr, gT_apL, hSorted, hTuple, hList, hRev, sSeq_ap, sBrk_ap, sCnt_ap, sRet_ap, sRetN_ap, sDrop_ap, sIf_ap, sSet_ap, isMu_ap, sAsg_ap, gN_ap, gT_ap, gTs, sPar_ap, sSub_ap, own?_ap, putO_t, putO_f, sAug_ap, sFor_ap, eC_ap, eVar_ap, ePl_ap, eMv_ap, opS_ap, sNil_ap, sCons_ap, gOp_ap, vws_nil, vws_cons, vw_im, vw_fr, vw_frd, vw_frs, vw_frr, vw_pl, view_l, view_d, view_s, view_r, rs_d, rs_l, sl_im, sl_fr, fz_im, fz_fr, fzs_nil, fzs_cons, toD_l, toD_r, gTupD_ap, gLstD_ap, gIx_ap, gDGet_ap, ownDct_pl, keyOf_i, keyOf_s, gMul_ap, tB_ap, tNot_ap, tAnd_ap, tOr_ap, eNot_ap, eAnd_ap, eOr_ap, eIf_ap, tY_ap, eSl_ap, oN_ap, oI_ap, itOf_ap, itR1_ap, itR2_ap, eLc_ap, isIm_ap, eCall_ap, eCallM_ap, fnOf_ap, isPl_im, isPl_fr, eDspl_ap, sArgs_nil, sArgs_cons, mkD_nil, mkD_cons, keepMu_mu, keepMu_im, projS_nil, projS_cons, hAdd, hSub, hMul, hDiv, hMod, hPow, hNeg, hCmp, hEq, hNe, hIsN, hNotN, hIx, hLen, hInt, hAbs, hGcd, hMin, hMax, hCut, isi_ii, isi_ib, isi_tt, isi_ll, isM_un, isM_im, isM_ow, isM_mu, List.getElem?_cons_zero, List.getElem?_cons_succ, List.getElem?_nil, List.set_cons_zero, List.set_cons_succ, List.length_cons, List.length_nil, List.length_map, List.replicate_succ, List.replicate_zero, List.cons_append, List.nil_append, List.map_cons, List.map_nil, Nat.reduceAdd, Nat.zero_add, ne_eq, not_true_eq_false, not_false_eq_true, decide_false, decide_true, Bool.or_self, Bool.or_false, Bool.false_or, Bool.and_self, Bool.false_eq_true, if_false, if_true, reduceIte, szOk_2, szOk_1, szOk_0, szOk_3, lk_left, lk_seed, lk_cells, lk_spot, pt_left, pt_spot, len_mL, mSet, true_and, and_true, List.getD_eq_getElem?_getD, Option.getD_some, seqOf_l, seqOf_t, ↓hIx_sq, ↓hLen_sq, seqOf_sq, ↓hTuple_sq, fz_fr2, gRep_ap, eq_self, gSorted_ap, gSortD_ap, gSortS_ap, ownSet_pl, eDict1_ap, eChain_ap, gInD_ap, gInS_ap, mPop_ap, mAdd_ap, eSet0_ap, sWhile_ap, itEnumX_ap, eM2_ap, eTR1_ap, eLR1_ap, hLtD, sz, za, zb, zc]
theorem renumbered_eq (F : FI n A B C) (hn : n ≤ 800) {P Q L : List Nat} (hP : P.length = n) (hQ : Q.length = n) (h : IsL n L) (b : Bool) :
    f_renumbered [.im (.tuple [.tuple (nD A), .tuple (nD B), .tuple (nD C), .tuple (nD P), .tuple (nD Q)]), .im (sq b (nD L))] =
      some (.im (.tuple [.tuple (nD (renC L A)), .tuple (nD (renC L B)), .tuple (nD (renC L C)), .tuple (nD (renO L P)), .tuple (nD (renO L Q))]), [.un, .un]) := by
  have z3 := zer3 (.im (.tuple [.tuple (nD A), .tuple (nD B), .tuple (nD C), .tuple (nD P), .tuple (nD Q)])) (.im (sq b (nD L))) .un .un .un .un .un .un L
  obtain ⟨t3, t4, i3, el⟩ := rn_loop h (.im (.tuple [.tuple (nD A), .tuple (nD B), .tuple (nD C), .tuple (nD P), .tuple (nD Q)])) (.im (sq b (nD L))) .un .un .un .un n 0 (L.map fun _ => 0) .un .un (.inl rfl) rfl (by omega) ⟨by rw [List.length_map, h.ln], fun i hi => by omega⟩
  rw [← enum_nD h] at el
  have o6 := outer6 F h hn b (.im (.tuple [.tuple (nD A), .tuple (nD B), .tuple (nD C), .tuple (nD P), .tuple (nD Q)])) t3 t4 .un .un .un i3
  have c3 : hCut (.tuple [.tuple (nD A), .tuple (nD B), .tuple (nD C), .tuple (nD P), .tuple (nD Q)]) none (some 3) = some (.d (.tuple [.tuple (nD A), .tuple (nD B), .tuple (nD C)])) := rfl
  have sz : szOk (nD L).length = true := szOk_le (by rw [nD_len, h.ln]; omega)
  have z1 : szOk (nD (renO L P)).length = true := szOk_le (by rw [nD_len, renO_len h]; omega)
  have z2 : szOk (nD (renO L Q)).length = true := szOk_le (by rw [nD_len, renO_len h]; omega)
  have ep : (L.map fun x => gt P x) = renO L P := rfl
  have eq : (L.map fun x => gt Q x) = renO L Q := rfl
  have o3 := orow3 3 (.tuple [.tuple (nD A), .tuple (nD B), .tuple (nD C), .tuple (nD P), .tuple (nD Q)]) (.im (sq b (nD L))) (.ow (.lst (nD (invL n L)))) t4 (.ow (.lst [.tuple (nD (renC L A)), .tuple (nD (renC L B)), .tuple (nD (renC L C))])) .un .un .un (R := P) rfl L fun x hx => by rw [hP]; exact h.lt x hx
  have o4 := orow3 4 (.tuple [.tuple (nD A), .tuple (nD B), .tuple (nD C), .tuple (nD P), .tuple (nD Q)]) (.im (sq b (nD L))) (.ow (.lst (nD (invL n L)))) t4 (.ow (.lst [.tuple (nD (renC L A)), .tuple (nD (renC L B)), .tuple (nD (renC L C))])) .un (.im (.tuple (nD (renO L P)))) .un (R := Q) rfl L fun x hx => by rw [hQ]; exact h.lt x hx
  rw [ep] at o3
  rw [eq] at o4
  unfold f_renumbered b_renumbered
  rcases i3 with rfl | ⟨d, rfl⟩
  · simp only [↓z3, ↓el, ↓o6, ↓o3, ↓o4, ↓c3, sNop_ap, row?_ap, eRowM_ap, sRowSub_ap, eRowLen_ap, eRowNil_ap, isUn_un, ixN3_0, ixN3_1, ixN3_2, gRowsD_ap, rowsOf_nil, rowsOf_cons, eMeth_ap, isL_l, isS_s, mAppend_ap, mExtend_ap, ownL_fr, gIn_ap, ownDct_fr, gT_apL, hSorted, hTuple, hList, hRev, sSeq_ap, sBrk_ap, sCnt_ap, sRet_ap, sRetN_ap, sDrop_ap, sIf_ap, sSet_ap, isMu_ap, sAsg_ap, gN_ap, gT_ap, gTs, sPar_ap, sSub_ap, own?_ap, putO_t, putO_f, sAug_ap, sFor_ap, eC_ap, eVar_ap, ePl_ap, eMv_ap, opS_ap, sNil_ap, sCons_ap, gOp_ap, vws_nil, vws_cons, vw_im, vw_fr, vw_frd, vw_frs, vw_frr, vw_pl, view_l, view_d, view_s, view_r, rs_d, rs_l, sl_im, sl_fr, fz_im, fz_fr, fzs_nil, fzs_cons, toD_l, toD_r, gTupD_ap, gLstD_ap, gIx_ap, gDGet_ap, ownDct_pl, keyOf_i, keyOf_s, gMul_ap, tB_ap, tNot_ap, tAnd_ap, tOr_ap, eNot_ap, eAnd_ap, eOr_ap, eIf_ap, tY_ap, eSl_ap, oN_ap, oI_ap, itOf_ap, itR1_ap, itR2_ap, eLc_ap, isIm_ap, eCall_ap, eCallM_ap, fnOf_ap, isPl_im, isPl_fr, eDspl_ap, sArgs_nil, sArgs_cons, mkD_nil, mkD_cons, keepMu_mu, keepMu_im, projS_nil, projS_cons, hAdd, hSub, hMul, hDiv, hMod, hPow, hNeg, hCmp, hEq, hNe, hIsN, hNotN, hIx, hLen, hInt, hAbs, hGcd, hMin, hMax, hCut, isi_ii, isi_ib, isi_tt, isi_ll, isM_un, isM_im, isM_ow, isM_mu, List.getElem?_cons_zero, List.getElem?_cons_succ, List.getElem?_nil, List.set_cons_zero, List.set_cons_succ, List.length_cons, List.length_nil, List.length_map, List.replicate_succ, List.replicate_zero, List.cons_append, List.nil_append, List.map_cons, List.map_nil, Nat.reduceAdd, Nat.zero_add, ne_eq, not_true_eq_false, not_false_eq_true, decide_false, decide_true, Bool.or_self, Bool.or_false, Bool.false_or, Bool.and_self, Bool.false_eq_true, if_false, if_true, reduceIte, szOk_2, szOk_1, szOk_0, szOk_3, lk_left, lk_seed, lk_cells, lk_spot, pt_left, pt_spot, len_mL, mSet, true_and, and_true, List.getD_eq_getElem?_getD, Option.getD_some, seqOf_l, seqOf_t, ↓hIx_sq, ↓hLen_sq, seqOf_sq, ↓hTuple_sq, fz_fr2, gRep_ap, eq_self, gSorted_ap, gSortD_ap, gSortS_ap, ownSet_pl, eDict1_ap, eChain_ap, gInD_ap, gInS_ap, mPop_ap, mAdd_ap, eSet0_ap, sWhile_ap, itEnumX_ap, eM2_ap, eTR1_ap, eLR1_ap, hLtD, sz, z1, z2, at3_0, at3_1, at3_2, szOk_5]
  · simp only [↓z3, ↓el, ↓o6, ↓o3, ↓o4, ↓c3, sNop_ap, row?_ap, eRowM_ap, sRowSub_ap, eRowLen_ap, eRowNil_ap, isUn_un, ixN3_0, ixN3_1, ixN3_2, gRowsD_ap, rowsOf_nil, rowsOf_cons, eMeth_ap, isL_l, isS_s, mAppend_ap, mExtend_ap, ownL_fr, gIn_ap, ownDct_fr, gT_apL, hSorted, hTuple, hList, hRev, sSeq_ap, sBrk_ap, sCnt_ap, sRet_ap, sRetN_ap, sDrop_ap, sIf_ap, sSet_ap, isMu_ap, sAsg_ap, gN_ap, gT_ap, gTs, sPar_ap, sSub_ap, own?_ap, putO_t, putO_f, sAug_ap, sFor_ap, eC_ap, eVar_ap, ePl_ap, eMv_ap, opS_ap, sNil_ap, sCons_ap, gOp_ap, vws_nil, vws_cons, vw_im, vw_fr, vw_frd, vw_frs, vw_frr, vw_pl, view_l, view_d, view_s, view_r, rs_d, rs_l, sl_im, sl_fr, fz_im, fz_fr, fzs_nil, fzs_cons, toD_l, toD_r, gTupD_ap, gLstD_ap, gIx_ap, gDGet_ap, ownDct_pl, keyOf_i, keyOf_s, gMul_ap, tB_ap, tNot_ap, tAnd_ap, tOr_ap, eNot_ap, eAnd_ap, eOr_ap, eIf_ap, tY_ap, eSl_ap, oN_ap, oI_ap, itOf_ap, itR1_ap, itR2_ap, eLc_ap, isIm_ap, eCall_ap, eCallM_ap, fnOf_ap, isPl_im, isPl_fr, eDspl_ap, sArgs_nil, sArgs_cons, mkD_nil, mkD_cons, keepMu_mu, keepMu_im, projS_nil, projS_cons, hAdd, hSub, hMul, hDiv, hMod, hPow, hNeg, hCmp, hEq, hNe, hIsN, hNotN, hIx, hLen, hInt, hAbs, hGcd, hMin, hMax, hCut, isi_ii, isi_ib, isi_tt, isi_ll, isM_un, isM_im, isM_ow, isM_mu, List.getElem?_cons_zero, List.getElem?_cons_succ, List.getElem?_nil, List.set_cons_zero, List.set_cons_succ, List.length_cons, List.length_nil, List.length_map, List.replicate_succ, List.replicate_zero, List.cons_append, List.nil_append, List.map_cons, List.map_nil, Nat.reduceAdd, Nat.zero_add, ne_eq, not_true_eq_false, not_false_eq_true, decide_false, decide_true, Bool.or_self, Bool.or_false, Bool.false_or, Bool.and_self, Bool.false_eq_true, if_false, if_true, reduceIte, szOk_2, szOk_1, szOk_0, szOk_3, lk_left, lk_seed, lk_cells, lk_spot, pt_left, pt_spot, len_mL, mSet, true_and, and_true, List.getD_eq_getElem?_getD, Option.getD_some, seqOf_l, seqOf_t, ↓hIx_sq, ↓hLen_sq, seqOf_sq, ↓hTuple_sq, fz_fr2, gRep_ap, eq_self, gSorted_ap, gSortD_ap, gSortS_ap, ownSet_pl, eDict1_ap, eChain_ap, gInD_ap, gInS_ap, mPop_ap, mAdd_ap, eSet0_ap, sWhile_ap, itEnumX_ap, eM2_ap, eTR1_ap, eLR1_ap, hLtD, sz, z1, z2, at3_0, at3_1, at3_2, szOk_5]
theorem listed_eq (F : FI n A B C) (hn : n ≤ 800) {P Q L : List Nat} (hP : P.length = n) (hQ : Q.length = n) (h : IsL n L) (b : Bool) :
    f_law_listed [.im (.tuple [.tuple (nD A), .tuple (nD B), .tuple (nD C), .tuple (nD P), .tuple (nD Q)]), .im (sq b (nD L))] =
      some (.im (.tuple [.tuple (nD (renC L A)), .tuple (nD (renC L B)), .tuple (nD (renC L C)), .tuple (nD (renO L P)), .tuple (nD (renO L Q))]), [.un, .un]) := by
  have z3 := zer3 (.im (.tuple [.tuple (nD A), .tuple (nD B), .tuple (nD C), .tuple (nD P), .tuple (nD Q)])) (.im (sq b (nD L))) .un .un .un .un .un .un L
  obtain ⟨t4, el⟩ := ls_loop h b (.im (.tuple [.tuple (nD A), .tuple (nD B), .tuple (nD C), .tuple (nD P), .tuple (nD Q)])) .un .un .un .un .un n 0 (L.map fun _ => 0) .un rfl (by omega) ⟨by rw [List.length_map, h.ln], fun i hi => by omega⟩
  have rg : rngD 0 n = nD (List.range' 0 n) := by rw [rngD_nD, List.range_eq_range']
  rw [← rg] at el
  have o6 := outer6 F h hn b (.im (.tuple [.tuple (nD A), .tuple (nD B), .tuple (nD C), .tuple (nD P), .tuple (nD Q)])) .un t4 .un .un .un (.inl rfl)
  have o3 := orow3 3 (.tuple [.tuple (nD A), .tuple (nD B), .tuple (nD C), .tuple (nD P), .tuple (nD Q)]) (.im (sq b (nD L))) (.ow (.lst (nD (invL n L)))) t4 (.ow (.lst [.tuple (nD (renC L A)), .tuple (nD (renC L B)), .tuple (nD (renC L C))])) .un .un .un (R := P) rfl L fun x hx => by rw [hP]; exact h.lt x hx
  have o4 := orow3 4 (.tuple [.tuple (nD A), .tuple (nD B), .tuple (nD C), .tuple (nD P), .tuple (nD Q)]) (.im (sq b (nD L))) (.ow (.lst (nD (invL n L)))) t4 (.ow (.lst [.tuple (nD (renC L A)), .tuple (nD (renC L B)), .tuple (nD (renC L C))])) .un .un .un (R := Q) rfl L fun x hx => by rw [hQ]; exact h.lt x hx
  have sz : szOk (nD L).length = true := szOk_le (by rw [nD_len, h.ln]; omega)
  have z1 : szOk (nD (renO L P)).length = true := szOk_le (by rw [nD_len, renO_len h]; omega)
  have z2 : szOk (nD (renO L Q)).length = true := szOk_le (by rw [nD_len, renO_len h]; omega)
  have ll : (nD L).length = n := by rw [nD_len, h.ln]
  have sm : small62 ((n : Nat) : Int) = true := small62_b (by omega) (by omega)
  have tn : ((n : Nat) : Int).toNat = n := Int.toNat_natCast _
  have c3 : hCut (.tuple [.tuple (nD A), .tuple (nD B), .tuple (nD C), .tuple (nD P), .tuple (nD Q)]) none (some 3) = some (.d (.tuple [.tuple (nD A), .tuple (nD B), .tuple (nD C)])) := rfl
  have ep : (L.map fun x => gt P x) = renO L P := rfl
  have eq : (L.map fun x => gt Q x) = renO L Q := rfl
  rw [ep] at o3
  rw [eq] at o4
  have szl : szOk n = true := szOk_le (by omega)
  unfold f_law_listed b_law_listed
  simp only [↓z3, ↓el, ↓o6, ↓o3, ↓o4, ↓c3, sNop_ap, row?_ap, eRowM_ap, sRowSub_ap, eRowLen_ap, eRowNil_ap, isUn_un, ixN3_0, ixN3_1, ixN3_2, gRowsD_ap, rowsOf_nil, rowsOf_cons, eMeth_ap, isL_l, isS_s, mAppend_ap, mExtend_ap, ownL_fr, gIn_ap, ownDct_fr, gT_apL, hSorted, hTuple, hList, hRev, sSeq_ap, sBrk_ap, sCnt_ap, sRet_ap, sRetN_ap, sDrop_ap, sIf_ap, sSet_ap, isMu_ap, sAsg_ap, gN_ap, gT_ap, gTs, sPar_ap, sSub_ap, own?_ap, putO_t, putO_f, sAug_ap, sFor_ap, eC_ap, eVar_ap, ePl_ap, eMv_ap, opS_ap, sNil_ap, sCons_ap, gOp_ap, vws_nil, vws_cons, vw_im, vw_fr, vw_frd, vw_frs, vw_frr, vw_pl, view_l, view_d, view_s, view_r, rs_d, rs_l, sl_im, sl_fr, fz_im, fz_fr, fzs_nil, fzs_cons, toD_l, toD_r, gTupD_ap, gLstD_ap, gIx_ap, gDGet_ap, ownDct_pl, keyOf_i, keyOf_s, gMul_ap, tB_ap, tNot_ap, tAnd_ap, tOr_ap, eNot_ap, eAnd_ap, eOr_ap, eIf_ap, tY_ap, eSl_ap, oN_ap, oI_ap, itOf_ap, itR1_ap, itR2_ap, eLc_ap, isIm_ap, eCall_ap, eCallM_ap, fnOf_ap, isPl_im, isPl_fr, eDspl_ap, sArgs_nil, sArgs_cons, mkD_nil, mkD_cons, keepMu_mu, keepMu_im, projS_nil, projS_cons, hAdd, hSub, hMul, hDiv, hMod, hPow, hNeg, hCmp, hEq, hNe, hIsN, hNotN, hIx, hLen, hInt, hAbs, hGcd, hMin, hMax, hCut, isi_ii, isi_ib, isi_tt, isi_ll, isM_un, isM_im, isM_ow, isM_mu, List.getElem?_cons_zero, List.getElem?_cons_succ, List.getElem?_nil, List.set_cons_zero, List.set_cons_succ, List.length_cons, List.length_nil, List.length_map, List.replicate_succ, List.replicate_zero, List.cons_append, List.nil_append, List.map_cons, List.map_nil, Nat.reduceAdd, Nat.zero_add, ne_eq, not_true_eq_false, not_false_eq_true, decide_false, decide_true, Bool.or_self, Bool.or_false, Bool.false_or, Bool.and_self, Bool.false_eq_true, if_false, if_true, reduceIte, szOk_2, szOk_1, szOk_0, szOk_3, lk_left, lk_seed, lk_cells, lk_spot, pt_left, pt_spot, len_mL, mSet, true_and, and_true, List.getD_eq_getElem?_getD, Option.getD_some, seqOf_l, seqOf_t, ↓hIx_sq, ↓hLen_sq, seqOf_sq, ↓hTuple_sq, fz_fr2, gRep_ap, eq_self, gSorted_ap, gSortD_ap, gSortS_ap, ownSet_pl, eDict1_ap, eChain_ap, gInD_ap, gInS_ap, mPop_ap, mAdd_ap, eSet0_ap, sWhile_ap, itEnumX_ap, eM2_ap, eTR1_ap, eLR1_ap, hLtD, sz, ll, sm, tn, szl, z1, z2, at3_0, at3_1, at3_2, szOk_5]
end
/-! ### orders: multiples of the rounds, the same over a class -/
section
variable {n : Nat} {A B : List Nat}
theorem rnd_uniq {g : Nat → Nat} {f r s : Nat} (a : IsRound g f r) (b : IsRound g f s) : r = s := by
  rcases Nat.lt_trichotomy r s with h | h | h
  · exact absurd a.bk (b.mn r a.pos h)
  · exact h
  · exact absurd b.bk (a.mn s b.pos h)
theorem itr_s (g : Nat → Nat) (k x : Nat) : itr g (k + 1) x = g (itr g k x) := by
  rw [Nat.add_comm, itr_add]; rfl
/-- going on from A f is going back from f -/
theorem itr_A (I : Inv2 n A B) : ∀ (k x : Nat), x < n → itr (gb A B) k (gt A (itr (gb A B) k x)) = gt A x
  | 0, x, _ => rfl
  | k + 1, x, h => by
    have hx := itr_lt (gb_lt I) k x h
    rw [itr_s (gb A B) k x]
    show itr (gb A B) k (gb A B (gt A (gb A B (itr (gb A B) k x)))) = _
    have e : gb A B (gt A (gb A B (itr (gb A B) k x))) = gt A (itr (gb A B) k x) := by
      have h1 := I.ra _ hx
      have h2 := I.rb _ h1.1
      have h3 := I.ra _ h2.1
      show gt B (gt A (gt A (gt B (gt A _)))) = _
      rw [h3.2, h2.2]
    rw [e]
    exact itr_A I k x h
theorem fix_A (I : Inv2 n A B) {k f : Nat} (hf : f < n) (h : itr (gb A B) k f = f) : itr (gb A B) k (gt A f) = gt A f := by
  have := itr_A I k f hf
  rw [h] at this
  exact this
theorem fix_g (I : Inv2 n A B) {k f : Nat} (h : itr (gb A B) k f = f) : itr (gb A B) k (gb A B f) = gb A B f := by
  have e1 : itr (gb A B) k (gb A B f) = itr (gb A B) (k + 1) f := rfl
  rw [e1, itr_s, h]
theorem fix_B (I : Inv2 n A B) {k f : Nat} (hf : f < n) (h : itr (gb A B) k f = f) : itr (gb A B) k (gt B f) = gt B f := by
  have h1 := fix_A I hf h
  have h2 := fix_g I h1
  have e : gb A B (gt A f) = gt B f := by
    show gt B (gt A (gt A f)) = _
    rw [(I.ra f hf).2]
  rw [e] at h2
  exact h2
theorem IsRound.toA (I : Inv2 n A B) {f r : Nat} (hf : f < n) (R : IsRound (gb A B) f r) : IsRound (gb A B) (gt A f) r := ⟨R.pos, fix_A I hf R.bk, fun k h1 h2 e => R.mn k h1 h2 (by
  have := fix_A I (I.ra f hf).1 e
  rw [(I.ra f hf).2] at this
  exact this)⟩
theorem IsRound.toB (I : Inv2 n A B) {f r : Nat} (hf : f < n) (R : IsRound (gb A B) f r) : IsRound (gb A B) (gt B f) r := ⟨R.pos, fix_B I hf R.bk, fun k h1 h2 e => R.mn k h1 h2 (by
  have := fix_B I (I.rb f hf).1 e
  rw [(I.rb f hf).2] at this
  exact this)⟩
theorem IsRound.orb (I : Inv2 n A B) {f r x : Nat} (hf : f < n) (R : IsRound (gb A B) f r) (o : Orb A B f x) : IsRound (gb A B) x r := by
  have : x < n ∧ IsRound (gb A B) x r := Orb.sub (P := fun x => x < n ∧ IsRound (gb A B) x r) ⟨hf, R⟩ (fun y hy => ⟨⟨(I.ra y hy.1).1, hy.2.toA I hy.1⟩, ⟨(I.rb y hy.1).1, hy.2.toB I hy.1⟩⟩) o
  exact this.2
/-- the orders P of the classes of A and B, each the round times 1 to w -/
structure OrdOk (n : Nat) (A B : List Nat) (w : Nat) (P : List Nat) : Prop where
  ln : P.length = n
  ca : ∀ f, f < n → gt P (gt A f) = gt P f
  cb : ∀ f, f < n → gt P (gt B f) = gt P f
  rd : ∀ f, f < n → ∃ r k, r ≤ n ∧ 1 ≤ k ∧ k ≤ w ∧ IsRound (gb A B) f r ∧ gt P f = r * k
theorem OrdOk.pos {w : Nat} {P : List Nat} (o : OrdOk n A B w P) {f : Nat} (hf : f < n) : 1 ≤ gt P f := by
  obtain ⟨r, k, _, k1, _, R, e⟩ := o.rd f hf
  rw [e]
  exact Nat.mul_le_mul R.pos k1
theorem OrdOk.le {w : Nat} {P : List Nat} (o : OrdOk n A B w P) {f : Nat} (hf : f < n) : gt P f ≤ n * w := by
  obtain ⟨r, k, hr, k1, k2, R, e⟩ := o.rd f hf
  rw [e]
  exact Nat.mul_le_mul hr k2
/-- what is put so far -/
structure PutI (n : Nat) (A B : List Nat) (w : Nat) (F : List Nat) : Prop where
  ln : F.length = n
  st : ∀ f, f < n → gt F f ≠ 0 → gt F (gt A f) = gt F f ∧ gt F (gt B f) = gt F f ∧ ∃ r k, r ≤ n ∧ 1 ≤ k ∧ k ≤ w ∧ IsRound (gb A B) f r ∧ gt F f = r * k
theorem put_loop2 (a b c d : Sl) (v : Nat) : ∀ (ds F : List Nat) (s5 s7 : Sl), isM s7 = false → F.length = n → (∀ x ∈ ds, x < n) → ∃ F' s7', F'.length = n ∧ isM s7' = false ∧ (∀ x, gt F' x = if x ∈ ds then v else gt F x) ∧
    forL (gN 7) law_ordersBody1 (nD ds) [a, b, c, d, .ow (.lst (nD F)), s5, .im (.int (v : Nat)), s7] = some (.nx [a, b, c, d, .ow (.lst (nD F')), s5, .im (.int (v : Nat)), s7'])
  | [], F, s5, s7, h7, hF, _ => ⟨F, s7, hF, h7, fun x => by simp, rfl⟩
  | x :: ds, F, s5, s7, h7, hF, hx => by
    have hx0 := hx x List.mem_cons_self
    obtain ⟨F', s7', h1, h2, h3, ih⟩ := put_loop2 a b c d v ds (F.set x v) s5 (.im (.int (x : Nat))) rfl (by rw [List.length_set]; exact hF) (fun y hy => hx y (List.mem_cons_of_mem _ hy))
    have i1 : ixN (nD F).length (x : Int) = some x := ixN_nat (by rw [nD_len, hF]; exact hx0)
    refine ⟨F', s7', h1, h2, fun y => ?_, ?_⟩
    · rw [h3 y, gt_set (by rw [hF]; exact hx0)]
      by_cases e1 : y ∈ ds
      · rw [if_pos e1, if_pos (List.mem_cons_of_mem _ e1)]
      · rw [if_neg e1]
        by_cases e2 : y = x
        · subst e2; rw [if_pos rfl, if_pos List.mem_cons_self]
        · rw [if_neg e2, if_neg fun z => by
            rcases List.mem_cons.mp z with z | z
            · exact e2 z
            · exact e1 z]
    · rw [nD_cons]
      simp only [forL, sNop_ap, row?_ap, eRowM_ap, sRowSub_ap, eRowLen_ap, eRowNil_ap, isUn_un, ixN3_0, ixN3_1, ixN3_2, gRowsD_ap, rowsOf_nil, rowsOf_cons, eMeth_ap, isL_l, isS_s, mAppend_ap, mExtend_ap, ownL_fr, gIn_ap, ownDct_fr, gT_apL, hSorted, hTuple, hList, hRev, sSeq_ap, sBrk_ap, sCnt_ap, sRet_ap, sRetN_ap, sDrop_ap, sIf_ap, sSet_ap, isMu_ap, sAsg_ap, gN_ap, gT_ap, gTs, sPar_ap, sSub_ap, own?_ap, putO_t, putO_f, sAug_ap, sFor_ap, eC_ap, eVar_ap, ePl_ap, eMv_ap, opS_ap, sNil_ap, sCons_ap, gOp_ap, vws_nil, vws_cons, vw_im, vw_fr, vw_frd, vw_frs, vw_frr, vw_pl, view_l, view_d, view_s, view_r, rs_d, rs_l, sl_im, sl_fr, fz_im, fz_fr, fzs_nil, fzs_cons, toD_l, toD_r, gTupD_ap, gLstD_ap, gIx_ap, gDGet_ap, ownDct_pl, keyOf_i, keyOf_s, gMul_ap, tB_ap, tNot_ap, tAnd_ap, tOr_ap, eNot_ap, eAnd_ap, eOr_ap, eIf_ap, tY_ap, eSl_ap, oN_ap, oI_ap, itOf_ap, itR1_ap, itR2_ap, eLc_ap, isIm_ap, eCall_ap, eCallM_ap, fnOf_ap, isPl_im, isPl_fr, eDspl_ap, sArgs_nil, sArgs_cons, mkD_nil, mkD_cons, keepMu_mu, keepMu_im, projS_nil, projS_cons, hAdd, hSub, hMul, hDiv, hMod, hPow, hNeg, hCmp, hEq, hNe, hIsN, hNotN, hIx, hLen, hInt, hAbs, hGcd, hMin, hMax, hCut, isi_ii, isi_ib, isi_tt, isi_ll, isM_un, isM_im, isM_ow, isM_mu, List.getElem?_cons_zero, List.getElem?_cons_succ, List.getElem?_nil, List.set_cons_zero, List.set_cons_succ, List.length_cons, List.length_nil, List.length_map, List.replicate_succ, List.replicate_zero, List.cons_append, List.nil_append, List.map_cons, List.map_nil, Nat.reduceAdd, Nat.zero_add, ne_eq, not_true_eq_false, not_false_eq_true, decide_false, decide_true, Bool.or_self, Bool.or_false, Bool.false_or, Bool.and_self, Bool.false_eq_true, if_false, if_true, reduceIte, szOk_2, szOk_1, szOk_0, szOk_3, lk_left, lk_seed, lk_cells, lk_spot, pt_left, pt_spot, len_mL, mSet, true_and, and_true, List.getD_eq_getElem?_getD, Option.getD_some, seqOf_l, seqOf_t, ↓hIx_sq, ↓hLen_sq, seqOf_sq, ↓hTuple_sq, fz_fr2, gRep_ap, eq_self, gSorted_ap, gSortD_ap, gSortS_ap, ownSet_pl, eDict1_ap, eChain_ap, gInD_ap, gInS_ap, mPop_ap, mAdd_ap, eSet0_ap, sWhile_ap, itEnumX_ap, eM2_ap, eTR1_ap, eLR1_ap, hLtD, h7, i1, set_nD, ih]
structure OS2 (n : Nat) (q : Int) (A B : List Nat) (b b' : Bool) (w j : Nat) (S : List Sl) : Prop where
  ex : ∃ (m : O) (F : List Nat) (s5 s6 s7 : Sl), S = [.mu m, .im (sq b (nD A)), .im (sq b' (nD B)), .im (.int (w : Nat)), .ow (.lst (nD F)), s5, s6, s7] ∧ isM s5 = false ∧ isM s6 = false ∧ isM s7 = false ∧ Good q m ∧ PutI n A B w F ∧ ∀ i, i < j → gt F i ≠ 0
theorem orders_turn2 (I : Inv2 n A B) (hn : n ≤ 1000) (b b' : Bool) {q : Int} {w k : Nat} (hk : k < n) (hw1 : 1 ≤ w) (hw : w ≤ 1000000) (hq : q < 100000000) {S : List Sl} (f : OS2 n q A B b b' w k S) :
    ∃ S1 S2, gN 5 (.int (k : Nat)) S = some S1 ∧ law_ordersBody S1 = some (.nx S2) ∧ OS2 n (q + 1) A B b b' w (k + 1) S2 := by
  obtain ⟨m, F, s5, s6, s7, rfl, h5, h6, h7, g, pF, hj⟩ := f.ex
  have hF := pF.ln
  have e0 : gN 5 (.int (k : Nat)) [.mu m, .im (sq b (nD A)), .im (sq b' (nD B)), .im (.int (w : Nat)), .ow (.lst (nD F)), s5, s6, s7] = some [.mu m, .im (sq b (nD A)), .im (sq b' (nD B)), .im (.int (w : Nat)), .ow (.lst (nD F)), .im (.int (k : Nat)), s6, s7] := by simp only [sNop_ap, row?_ap, eRowM_ap, sRowSub_ap, eRowLen_ap, eRowNil_ap, isUn_un, ixN3_0, ixN3_1, ixN3_2, gRowsD_ap, rowsOf_nil, rowsOf_cons, eMeth_ap, isL_l, isS_s, mAppend_ap, mExtend_ap, ownL_fr, gIn_ap, ownDct_fr, gT_apL, hSorted, hTuple, hList, hRev, sSeq_ap, sBrk_ap, sCnt_ap, sRet_ap, sRetN_ap, sDrop_ap, sIf_ap, sSet_ap, isMu_ap, sAsg_ap, gN_ap, gT_ap, gTs, sPar_ap, sSub_ap, own?_ap, putO_t, putO_f, sAug_ap, sFor_ap, eC_ap, eVar_ap, ePl_ap, eMv_ap, opS_ap, sNil_ap, sCons_ap, gOp_ap, vws_nil, vws_cons, vw_im, vw_fr, vw_frd, vw_frs, vw_frr, vw_pl, view_l, view_d, view_s, view_r, rs_d, rs_l, sl_im, sl_fr, fz_im, fz_fr, fzs_nil, fzs_cons, toD_l, toD_r, gTupD_ap, gLstD_ap, gIx_ap, gDGet_ap, ownDct_pl, keyOf_i, keyOf_s, gMul_ap, tB_ap, tNot_ap, tAnd_ap, tOr_ap, eNot_ap, eAnd_ap, eOr_ap, eIf_ap, tY_ap, eSl_ap, oN_ap, oI_ap, itOf_ap, itR1_ap, itR2_ap, eLc_ap, isIm_ap, eCall_ap, eCallM_ap, fnOf_ap, isPl_im, isPl_fr, eDspl_ap, sArgs_nil, sArgs_cons, mkD_nil, mkD_cons, keepMu_mu, keepMu_im, projS_nil, projS_cons, hAdd, hSub, hMul, hDiv, hMod, hPow, hNeg, hCmp, hEq, hNe, hIsN, hNotN, hIx, hLen, hInt, hAbs, hGcd, hMin, hMax, hCut, isi_ii, isi_ib, isi_tt, isi_ll, isM_un, isM_im, isM_ow, isM_mu, List.getElem?_cons_zero, List.getElem?_cons_succ, List.getElem?_nil, List.set_cons_zero, List.set_cons_succ, List.length_cons, List.length_nil, List.length_map, List.replicate_succ, List.replicate_zero, List.cons_append, List.nil_append, List.map_cons, List.map_nil, Nat.reduceAdd, Nat.zero_add, ne_eq, not_true_eq_false, not_false_eq_true, decide_false, decide_true, Bool.or_self, Bool.or_false, Bool.false_or, Bool.and_self, Bool.false_eq_true, if_false, if_true, reduceIte, szOk_2, szOk_1, szOk_0, szOk_3, lk_left, lk_seed, lk_cells, lk_spot, pt_left, pt_spot, len_mL, mSet, true_and, and_true, List.getD_eq_getElem?_getD, Option.getD_some, seqOf_l, seqOf_t, ↓hIx_sq, ↓hLen_sq, seqOf_sq, ↓hTuple_sq, fz_fr2, gRep_ap, eq_self, gSorted_ap, gSortD_ap, gSortS_ap, ownSet_pl, eDict1_ap, eChain_ap, gInD_ap, gInS_ap, mPop_ap, mAdd_ap, eSet0_ap, sWhile_ap, itEnumX_ap, eM2_ap, eTR1_ap, eLR1_ap, hLtD, h5]
  have ak : atI (nD F) (k : Int) = some (.int (gt F k : Nat)) := at_nD (by omega)
  by_cases hz : gt F k = 0
  · obtain ⟨r, hr, R, er⟩ := round_eq I hn b b' hk
    obtain ⟨v, m1, e1, p1, q1, g1⟩ := draw_eq (b := (w : Nat)) g (by omega) (by omega) (by omega)
    obtain ⟨L, c, ec⟩ := class_full I hn b b' hk
    have hL : ∀ x ∈ L, x < n := fun x hx => ((c.mem x).mp hx).lt I hk
    have mo : mulOk (r : Int) (1 + v) = true := mulOk_l (by omega) (by omega)
    have ev : ((r * (1 + v.toNat) : Nat) : Int) = (r : Int) * (1 + v) := by
      rw [Int.natCast_mul, Int.natCast_add, Int.toNat_of_nonneg p1]; rfl
    have hv0 : r * (1 + v.toNat) ≠ 0 := by
      have := Nat.mul_le_mul R.pos (show 1 ≤ 1 + v.toNat by omega)
      omega
    obtain ⟨F', s7', h1, h2, h3, ep⟩ := put_loop2 (n := n) (.mu m1) (.im (sq b (nD A))) (.im (sq b' (nD B))) (.im (.int (w : Nat))) (r * (1 + v.toNat)) L F (.im (.int (k : Nat))) s7 h7 hF hL
    rw [ev] at ep
    have dz : decide (((gt F k : Nat) : Int) = 0) = true := decide_eq_true (by omega)
    have la : ∀ x, x < n → (gt A x ∈ L ↔ x ∈ L) := fun x hx => ⟨fun h => by
      have := (c.mem _).mpr ((c.mem _).mp h).a
      rw [(I.ra x hx).2] at this
      exact this, fun h => (c.mem _).mpr ((c.mem _).mp h).a⟩
    have lb : ∀ x, x < n → (gt B x ∈ L ↔ x ∈ L) := fun x hx => ⟨fun h => by
      have := (c.mem _).mpr ((c.mem _).mp h).b
      rw [(I.rb x hx).2] at this
      exact this, fun h => (c.mem _).mpr ((c.mem _).mp h).b⟩
    refine ⟨_, [.mu m1, .im (sq b (nD A)), .im (sq b' (nD B)), .im (.int (w : Nat)), .ow (.lst (nD F')), .im (.int (k : Nat)), .im (.int ((r : Int) * (1 + v))), s7'], e0, ?_, ⟨m1, F', _, _, s7', rfl, rfl, rfl, h2, g1, ⟨h1, fun x hx hne => ?_⟩, fun i hi => ?_⟩⟩
    · simp only [↓er, ↓e1, ↓ec, ↓ep, sNop_ap, row?_ap, eRowM_ap, sRowSub_ap, eRowLen_ap, eRowNil_ap, isUn_un, ixN3_0, ixN3_1, ixN3_2, gRowsD_ap, rowsOf_nil, rowsOf_cons, eMeth_ap, isL_l, isS_s, mAppend_ap, mExtend_ap, ownL_fr, gIn_ap, ownDct_fr, gT_apL, hSorted, hTuple, hList, hRev, sSeq_ap, sBrk_ap, sCnt_ap, sRet_ap, sRetN_ap, sDrop_ap, sIf_ap, sSet_ap, isMu_ap, sAsg_ap, gN_ap, gT_ap, gTs, sPar_ap, sSub_ap, own?_ap, putO_t, putO_f, sAug_ap, sFor_ap, eC_ap, eVar_ap, ePl_ap, eMv_ap, opS_ap, sNil_ap, sCons_ap, gOp_ap, vws_nil, vws_cons, vw_im, vw_fr, vw_frd, vw_frs, vw_frr, vw_pl, view_l, view_d, view_s, view_r, rs_d, rs_l, sl_im, sl_fr, fz_im, fz_fr, fzs_nil, fzs_cons, toD_l, toD_r, gTupD_ap, gLstD_ap, gIx_ap, gDGet_ap, ownDct_pl, keyOf_i, keyOf_s, gMul_ap, tB_ap, tNot_ap, tAnd_ap, tOr_ap, eNot_ap, eAnd_ap, eOr_ap, eIf_ap, tY_ap, eSl_ap, oN_ap, oI_ap, itOf_ap, itR1_ap, itR2_ap, eLc_ap, isIm_ap, eCall_ap, eCallM_ap, fnOf_ap, isPl_im, isPl_fr, eDspl_ap, sArgs_nil, sArgs_cons, mkD_nil, mkD_cons, keepMu_mu, keepMu_im, projS_nil, projS_cons, hAdd, hSub, hMul, hDiv, hMod, hPow, hNeg, hCmp, hEq, hNe, hIsN, hNotN, hIx, hLen, hInt, hAbs, hGcd, hMin, hMax, hCut, isi_ii, isi_ib, isi_tt, isi_ll, isM_un, isM_im, isM_ow, isM_mu, List.getElem?_cons_zero, List.getElem?_cons_succ, List.getElem?_nil, List.set_cons_zero, List.set_cons_succ, List.length_cons, List.length_nil, List.length_map, List.replicate_succ, List.replicate_zero, List.cons_append, List.nil_append, List.map_cons, List.map_nil, Nat.reduceAdd, Nat.zero_add, ne_eq, not_true_eq_false, not_false_eq_true, decide_false, decide_true, Bool.or_self, Bool.or_false, Bool.false_or, Bool.and_self, Bool.false_eq_true, if_false, if_true, reduceIte, szOk_2, szOk_1, szOk_0, szOk_3, lk_left, lk_seed, lk_cells, lk_spot, pt_left, pt_spot, len_mL, mSet, true_and, and_true, List.getD_eq_getElem?_getD, Option.getD_some, seqOf_l, seqOf_t, ↓hIx_sq, ↓hLen_sq, seqOf_sq, ↓hTuple_sq, fz_fr2, gRep_ap, eq_self, gSorted_ap, gSortD_ap, gSortS_ap, ownSet_pl, eDict1_ap, eChain_ap, gInD_ap, gInS_ap, mPop_ap, mAdd_ap, eSet0_ap, sWhile_ap, itEnumX_ap, eM2_ap, eTR1_ap, eLR1_ap, hLtD, ak, sh_int, eqv_int, dz, mo, h6]
    · rw [h3 x, h3 (gt A x), h3 (gt B x)]
      rw [h3 x] at hne
      by_cases hm : x ∈ L
      · rw [if_pos hm, if_pos ((la x hx).mpr hm), if_pos ((lb x hx).mpr hm)]
        exact ⟨rfl, rfl, r, 1 + v.toNat, hr, by omega, by omega, R.orb I hk ((c.mem x).mp hm), rfl⟩
      · rw [if_neg hm] at hne ⊢
        rw [if_neg fun z => hm ((la x hx).mp z), if_neg fun z => hm ((lb x hx).mp z)]
        exact pF.st x hx hne
    · rw [h3 i]
      by_cases hm : i ∈ L
      · rw [if_pos hm]; exact hv0
      · rw [if_neg hm]
        have : i ≠ k := fun e => hm ((c.mem i).mpr (e ▸ .base))
        exact hj i (by omega)
  · have dz : decide (((gt F k : Nat) : Int) = 0) = false := decide_eq_false (by omega)
    refine ⟨_, [.mu m, .im (sq b (nD A)), .im (sq b' (nD B)), .im (.int (w : Nat)), .ow (.lst (nD F)), .im (.int (k : Nat)), s6, s7], e0, ?_, ⟨m, F, _, _, _, rfl, rfl, h6, h7, g.up (by omega), pF, fun i hi => ?_⟩⟩
    · simp only [sNop_ap, row?_ap, eRowM_ap, sRowSub_ap, eRowLen_ap, eRowNil_ap, isUn_un, ixN3_0, ixN3_1, ixN3_2, gRowsD_ap, rowsOf_nil, rowsOf_cons, eMeth_ap, isL_l, isS_s, mAppend_ap, mExtend_ap, ownL_fr, gIn_ap, ownDct_fr, gT_apL, hSorted, hTuple, hList, hRev, sSeq_ap, sBrk_ap, sCnt_ap, sRet_ap, sRetN_ap, sDrop_ap, sIf_ap, sSet_ap, isMu_ap, sAsg_ap, gN_ap, gT_ap, gTs, sPar_ap, sSub_ap, own?_ap, putO_t, putO_f, sAug_ap, sFor_ap, eC_ap, eVar_ap, ePl_ap, eMv_ap, opS_ap, sNil_ap, sCons_ap, gOp_ap, vws_nil, vws_cons, vw_im, vw_fr, vw_frd, vw_frs, vw_frr, vw_pl, view_l, view_d, view_s, view_r, rs_d, rs_l, sl_im, sl_fr, fz_im, fz_fr, fzs_nil, fzs_cons, toD_l, toD_r, gTupD_ap, gLstD_ap, gIx_ap, gDGet_ap, ownDct_pl, keyOf_i, keyOf_s, gMul_ap, tB_ap, tNot_ap, tAnd_ap, tOr_ap, eNot_ap, eAnd_ap, eOr_ap, eIf_ap, tY_ap, eSl_ap, oN_ap, oI_ap, itOf_ap, itR1_ap, itR2_ap, eLc_ap, isIm_ap, eCall_ap, eCallM_ap, fnOf_ap, isPl_im, isPl_fr, eDspl_ap, sArgs_nil, sArgs_cons, mkD_nil, mkD_cons, keepMu_mu, keepMu_im, projS_nil, projS_cons, hAdd, hSub, hMul, hDiv, hMod, hPow, hNeg, hCmp, hEq, hNe, hIsN, hNotN, hIx, hLen, hInt, hAbs, hGcd, hMin, hMax, hCut, isi_ii, isi_ib, isi_tt, isi_ll, isM_un, isM_im, isM_ow, isM_mu, List.getElem?_cons_zero, List.getElem?_cons_succ, List.getElem?_nil, List.set_cons_zero, List.set_cons_succ, List.length_cons, List.length_nil, List.length_map, List.replicate_succ, List.replicate_zero, List.cons_append, List.nil_append, List.map_cons, List.map_nil, Nat.reduceAdd, Nat.zero_add, ne_eq, not_true_eq_false, not_false_eq_true, decide_false, decide_true, Bool.or_self, Bool.or_false, Bool.false_or, Bool.and_self, Bool.false_eq_true, if_false, if_true, reduceIte, szOk_2, szOk_1, szOk_0, szOk_3, lk_left, lk_seed, lk_cells, lk_spot, pt_left, pt_spot, len_mL, mSet, true_and, and_true, List.getD_eq_getElem?_getD, Option.getD_some, seqOf_l, seqOf_t, ↓hIx_sq, ↓hLen_sq, seqOf_sq, ↓hTuple_sq, fz_fr2, gRep_ap, eq_self, gSorted_ap, gSortD_ap, gSortS_ap, ownSet_pl, eDict1_ap, eChain_ap, gInD_ap, gInS_ap, mPop_ap, mAdd_ap, eSet0_ap, sWhile_ap, itEnumX_ap, eM2_ap, eTR1_ap, eLR1_ap, hLtD, ak, sh_int, eqv_int, dz]
    · by_cases e : i = k
      · subst e; exact hz
      · exact hj i (by omega)
theorem orders_loop2 (I : Inv2 n A B) (hn : n ≤ 1000) (b b' : Bool) {w : Nat} (hw1 : 1 ≤ w) (hw : w ≤ 1000000) : ∀ (t k : Nat) (q : Int) (S : List Sl), k + t = n → q + (t : Nat) < 10000000 → OS2 n q A B b b' w k S → ∃ S', forL (gN 5) law_ordersBody (nD (List.range' k t)) S = some (.nx S') ∧ OS2 n (q + (t : Nat)) A B b b' w n S'
  | 0, k, q, S, hk, _, st => ⟨S, rfl, by
    have e : k = n := by omega
    subst e
    have : q + ((0 : Nat) : Int) = q := by omega
    rw [this]; exact st⟩
  | t + 1, k, q, S, hk, hq, st => by
    obtain ⟨S1, S2, e1, e2, st2⟩ := orders_turn2 I hn b b' (by omega) hw1 hw (by omega) st
    obtain ⟨S', e3, st3⟩ := orders_loop2 I hn b b' hw1 hw t (k + 1) (q + 1) S2 (by omega) (by omega) st2
    refine ⟨S', ?_, ?_⟩
    · rw [List.range'_succ, nD_cons]
      simp only [forL, e1, e2, e3]
    · have : q + ((t + 1 : Nat) : Int) = q + 1 + (t : Nat) := by omega
      rw [this]; exact st3
theorem orders_full (I : Inv2 n A B) (hn : n ≤ 500) (b b' : Bool) {q : Int} {m : O} {w : Nat} (hw1 : 1 ≤ w) (hw : w ≤ 1000000) (hq : q < 1000000) (g : Good q m) :
    ∃ (F : List Nat) (m' : O), OrdOk n A B w F ∧ Good (q + 500) m' ∧ f_law_orders [.mu m, .im (sq b (nD A)), .im (sq b' (nD B)), .im (.int (w : Nat))] = some (.im (.tuple (nD F)), [.mu m', .un, .un, .un]) := by
  have z := zeros (.mu m) (.im (sq b (nD A))) (.im (sq b' (nD B))) (.im (.int (w : Nat))) .un .un .un A
  have rg : rngD 0 n = nD (List.range' 0 n) := by rw [rngD_nD, List.range_eq_range']
  obtain ⟨S', el, P⟩ := orders_loop2 I (by omega) b b' hw1 hw n 0 q [.mu m, .im (sq b (nD A)), .im (sq b' (nD B)), .im (.int (w : Nat)), .ow (.lst (nD (A.map fun _ => 0))), .un, .un, .un] (by omega) (by omega)
    ⟨m, _, _, _, _, rfl, rfl, rfl, rfl, g, ⟨by rw [List.length_map]; exact I.la, fun f hf hne => absurd (by
      rw [gt_mapf _ (by rw [I.la]; exact hf)]) hne⟩, fun i hi => by omega⟩
  obtain ⟨m', F, s5, s6, s7, rfl, h5, h6, h7, g', pF, all⟩ := P.ex
  rw [← rg] at el
  have sm : small62 ((n : Nat) : Int) = true := small62_b (by omega) (by omega)
  have tn : ((n : Nat) : Int).toNat = n := Int.toNat_natCast _
  have la : (nD A).length = n := by rw [nD_len, I.la]
  have sz : szOk n = true := szOk_le (by omega)
  refine ⟨F, m', ⟨pF.ln, fun f hf => (pF.st f hf (all f hf)).1, fun f hf => (pF.st f hf (all f hf)).2.1, fun f hf => (pF.st f hf (all f hf)).2.2⟩, g'.up (by omega), ?_⟩
  unfold f_law_orders b_law_orders
  simp only [↓z, ↓el, sNop_ap, row?_ap, eRowM_ap, sRowSub_ap, eRowLen_ap, eRowNil_ap, isUn_un, ixN3_0, ixN3_1, ixN3_2, gRowsD_ap, rowsOf_nil, rowsOf_cons, eMeth_ap, isL_l, isS_s, mAppend_ap, mExtend_ap, ownL_fr, gIn_ap, ownDct_fr, gT_apL, hSorted, hTuple, hList, hRev, sSeq_ap, sBrk_ap, sCnt_ap, sRet_ap, sRetN_ap, sDrop_ap, sIf_ap, sSet_ap, isMu_ap, sAsg_ap, gN_ap, gT_ap, gTs, sPar_ap, sSub_ap, own?_ap, putO_t, putO_f, sAug_ap, sFor_ap, eC_ap, eVar_ap, ePl_ap, eMv_ap, opS_ap, sNil_ap, sCons_ap, gOp_ap, vws_nil, vws_cons, vw_im, vw_fr, vw_frd, vw_frs, vw_frr, vw_pl, view_l, view_d, view_s, view_r, rs_d, rs_l, sl_im, sl_fr, fz_im, fz_fr, fzs_nil, fzs_cons, toD_l, toD_r, gTupD_ap, gLstD_ap, gIx_ap, gDGet_ap, ownDct_pl, keyOf_i, keyOf_s, gMul_ap, tB_ap, tNot_ap, tAnd_ap, tOr_ap, eNot_ap, eAnd_ap, eOr_ap, eIf_ap, tY_ap, eSl_ap, oN_ap, oI_ap, itOf_ap, itR1_ap, itR2_ap, eLc_ap, isIm_ap, eCall_ap, eCallM_ap, fnOf_ap, isPl_im, isPl_fr, eDspl_ap, sArgs_nil, sArgs_cons, mkD_nil, mkD_cons, keepMu_mu, keepMu_im, projS_nil, projS_cons, hAdd, hSub, hMul, hDiv, hMod, hPow, hNeg, hCmp, hEq, hNe, hIsN, hNotN, hIx, hLen, hInt, hAbs, hGcd, hMin, hMax, hCut, isi_ii, isi_ib, isi_tt, isi_ll, isM_un, isM_im, isM_ow, isM_mu, List.getElem?_cons_zero, List.getElem?_cons_succ, List.getElem?_nil, List.set_cons_zero, List.set_cons_succ, List.length_cons, List.length_nil, List.length_map, List.replicate_succ, List.replicate_zero, List.cons_append, List.nil_append, List.map_cons, List.map_nil, Nat.reduceAdd, Nat.zero_add, ne_eq, not_true_eq_false, not_false_eq_true, decide_false, decide_true, Bool.or_self, Bool.or_false, Bool.false_or, Bool.and_self, Bool.false_eq_true, if_false, if_true, reduceIte, szOk_2, szOk_1, szOk_0, szOk_3, lk_left, lk_seed, lk_cells, lk_spot, pt_left, pt_spot, len_mL, mSet, true_and, and_true, List.getD_eq_getElem?_getD, Option.getD_some, seqOf_l, seqOf_t, ↓hIx_sq, ↓hLen_sq, seqOf_sq, ↓hTuple_sq, fz_fr2, gRep_ap, eq_self, gSorted_ap, gSortD_ap, gSortS_ap, ownSet_pl, eDict1_ap, eChain_ap, gInD_ap, gInS_ap, mPop_ap, mAdd_ap, eSet0_ap, sWhile_ap, itEnumX_ap, eM2_ap, eTR1_ap, eLR1_ap, hLtD, la, sm, tn, sz]
end
theorem pattern_full {q : Int} {m : O} {M w : Nat} (g : Good q m) (hq : q < 100000) (hM1 : 1 ≤ M) (hM : M ≤ 500) (hw1 : 1 ≤ w) (hw : w ≤ 1000000) : ∃ (n : Nat) (A B C P Q : List Nat) (m' : O), 1 ≤ n ∧ n ≤ M ∧ FI n A B C ∧ OrdOk n A B w P ∧ OrdOk n B C w Q ∧ Good (q + 2100) m' ∧
    f_law_pattern [.mu m, .im (.int (M : Nat)), .im (.int (w : Nat))] = some (.im (.tuple [.tuple (nD A), .tuple (nD B), .tuple (nD C), .tuple (nD P), .tuple (nD Q)]), [.mu m', .un, .un]) := by
  obtain ⟨n, A, B, C, m1, e1, hn1, hn, F, g1⟩ := frame_eq g (by omega) hM1 hM
  obtain ⟨P, m2, hP, g2, e2⟩ := orders_full F.i01 (by omega) false false hw1 hw (by omega) g1
  obtain ⟨Q, m3, hQ, g3, e3⟩ := orders_full F.i12 (by omega) false false hw1 hw (by omega) g2
  rw [sq_l, sq_l] at e2 e3
  refine ⟨n, A, B, C, P, Q, m3, hn1, hn, F, hP, hQ, g3.up (by omega), ?_⟩
  unfold f_law_pattern b_law_pattern
  simp only [↓e1, ↓e2, ↓e3, sNop_ap, row?_ap, eRowM_ap, sRowSub_ap, eRowLen_ap, eRowNil_ap, isUn_un, ixN3_0, ixN3_1, ixN3_2, gRowsD_ap, rowsOf_nil, rowsOf_cons, eMeth_ap, isL_l, isS_s, mAppend_ap, mExtend_ap, ownL_fr, gIn_ap, ownDct_fr, gT_apL, hSorted, hTuple, hList, hRev, sSeq_ap, sBrk_ap, sCnt_ap, sRet_ap, sRetN_ap, sDrop_ap, sIf_ap, sSet_ap, isMu_ap, sAsg_ap, gN_ap, gT_ap, gTs, sPar_ap, sSub_ap, own?_ap, putO_t, putO_f, sAug_ap, sFor_ap, eC_ap, eVar_ap, ePl_ap, eMv_ap, opS_ap, sNil_ap, sCons_ap, gOp_ap, vws_nil, vws_cons, vw_im, vw_fr, vw_frd, vw_frs, vw_frr, vw_pl, view_l, view_d, view_s, view_r, rs_d, rs_l, sl_im, sl_fr, fz_im, fz_fr, fzs_nil, fzs_cons, toD_l, toD_r, gTupD_ap, gLstD_ap, gIx_ap, gDGet_ap, ownDct_pl, keyOf_i, keyOf_s, gMul_ap, tB_ap, tNot_ap, tAnd_ap, tOr_ap, eNot_ap, eAnd_ap, eOr_ap, eIf_ap, tY_ap, eSl_ap, oN_ap, oI_ap, itOf_ap, itR1_ap, itR2_ap, eLc_ap, isIm_ap, eCall_ap, eCallM_ap, fnOf_ap, isPl_im, isPl_fr, eDspl_ap, sArgs_nil, sArgs_cons, mkD_nil, mkD_cons, keepMu_mu, keepMu_im, projS_nil, projS_cons, hAdd, hSub, hMul, hDiv, hMod, hPow, hNeg, hCmp, hEq, hNe, hIsN, hNotN, hIx, hLen, hInt, hAbs, hGcd, hMin, hMax, hCut, isi_ii, isi_ib, isi_tt, isi_ll, isM_un, isM_im, isM_ow, isM_mu, List.getElem?_cons_zero, List.getElem?_cons_succ, List.getElem?_nil, List.set_cons_zero, List.set_cons_succ, List.length_cons, List.length_nil, List.length_map, List.replicate_succ, List.replicate_zero, List.cons_append, List.nil_append, List.map_cons, List.map_nil, Nat.reduceAdd, Nat.zero_add, ne_eq, not_true_eq_false, not_false_eq_true, decide_false, decide_true, Bool.or_self, Bool.or_false, Bool.false_or, Bool.and_self, Bool.false_eq_true, if_false, if_true, reduceIte, szOk_2, szOk_1, szOk_0, szOk_3, lk_left, lk_seed, lk_cells, lk_spot, pt_left, pt_spot, len_mL, mSet, true_and, and_true, List.getD_eq_getElem?_getD, Option.getD_some, seqOf_l, seqOf_t, ↓hIx_sq, ↓hLen_sq, seqOf_sq, ↓hTuple_sq, fz_fr2, gRep_ap, eq_self, gSorted_ap, gSortD_ap, gSortS_ap, ownSet_pl, eDict1_ap, eChain_ap, gInD_ap, gInS_ap, mPop_ap, mAdd_ap, eSet0_ap, sWhile_ap, itEnumX_ap, eM2_ap, eTR1_ap, eLR1_ap, hLtD, szOk_5]
/-! numbered anew -/
section
variable {n : Nat} {A B L : List Nat}
theorem gb_ren (I : Inv2 n A B) (h : IsL n L) {x : Nat} (hx : x < n) : gb (renC L A) (renC L B) (L.idxOf x) = L.idxOf (gb A B x) := by
  show gt (renC L B) (gt (renC L A) (L.idxOf x)) = _
  rw [renC_gt h hx, renC_gt h (I.ra x hx).1]; rfl
theorem itr_ren (I : Inv2 n A B) (h : IsL n L) : ∀ (k x : Nat), x < n → itr (gb (renC L A) (renC L B)) k (L.idxOf x) = L.idxOf (itr (gb A B) k x)
  | 0, x, _ => rfl
  | k + 1, x, hx => by
    show itr _ k (gb _ _ (L.idxOf x)) = L.idxOf (itr _ k (gb A B x))
    rw [gb_ren I h hx, itr_ren I h k _ (gb_lt I x hx)]
theorem idx_inj (h : IsL n L) {x y : Nat} (hx : x < n) (hy : y < n) (e : L.idxOf x = L.idxOf y) : x = y := by
  have := congrArg (gt L) e
  rw [h.gi hx, h.gi hy] at this
  exact this
theorem IsRound.ren (I : Inv2 n A B) (h : IsL n L) {f r : Nat} (hf : f < n) (R : IsRound (gb A B) f r) : IsRound (gb (renC L A) (renC L B)) (L.idxOf f) r :=
  ⟨R.pos, by rw [itr_ren I h r f hf, R.bk], fun k h1 h2 e => R.mn k h1 h2 (idx_inj h (itr_lt (gb_lt I) k f hf) hf (by rw [← itr_ren I h k f hf]; exact e))⟩
theorem OrdOk.ren {w : Nat} {P : List Nat} (I : Inv2 n A B) (h : IsL n L) (o : OrdOk n A B w P) : OrdOk n (renC L A) (renC L B) w (renO L P) := by
  refine ⟨renO_len h P, fun f hf => ?_, fun f hf => ?_, fun f hf => ?_⟩
  · have g := h.gl hf
    rw [renC_at h hf, renO_at h (h.il (I.ra _ g).1), h.gi (I.ra _ g).1, renO_at h hf, o.ca _ g]
  · have g := h.gl hf
    rw [renC_at h hf, renO_at h (h.il (I.rb _ g).1), h.gi (I.rb _ g).1, renO_at h hf, o.cb _ g]
  · have g := h.gl hf
    obtain ⟨r, k, h1, h2, h3, R, e⟩ := o.rd _ g
    have := R.ren I h g
    rw [h.ig hf] at this
    exact ⟨r, k, h1, h2, h3, this, by rw [renO_at h hf]; exact e⟩
end
/-! ### _law_is_pattern of what is one -/
def L5 (A B C P Q : List Nat) : List D := [.tuple (nD A), .tuple (nD B), .tuple (nD C), .tuple (nD P), .tuple (nD Q)]
theorem num_eq (i : Int) : f_law_is_number [.im (.int i)] = some (.im (.bool true), [.un]) := by
  unfold f_law_is_number b_law_is_number
  simp only [sNop_ap, row?_ap, eRowM_ap, sRowSub_ap, eRowLen_ap, eRowNil_ap, isUn_un, ixN3_0, ixN3_1, ixN3_2, gRowsD_ap, rowsOf_nil, rowsOf_cons, eMeth_ap, isL_l, isS_s, mAppend_ap, mExtend_ap, ownL_fr, gIn_ap, ownDct_fr, gT_apL, hSorted, hTuple, hList, hRev, sSeq_ap, sBrk_ap, sCnt_ap, sRet_ap, sRetN_ap, sDrop_ap, sIf_ap, sSet_ap, isMu_ap, sAsg_ap, gN_ap, gT_ap, gTs, sPar_ap, sSub_ap, own?_ap, putO_t, putO_f, sAug_ap, sFor_ap, eC_ap, eVar_ap, ePl_ap, eMv_ap, opS_ap, sNil_ap, sCons_ap, gOp_ap, vws_nil, vws_cons, vw_im, vw_fr, vw_frd, vw_frs, vw_frr, vw_pl, view_l, view_d, view_s, view_r, rs_d, rs_l, sl_im, sl_fr, fz_im, fz_fr, fzs_nil, fzs_cons, toD_l, toD_r, gTupD_ap, gLstD_ap, gIx_ap, gDGet_ap, ownDct_pl, keyOf_i, keyOf_s, gMul_ap, tB_ap, tNot_ap, tAnd_ap, tOr_ap, eNot_ap, eAnd_ap, eOr_ap, eIf_ap, tY_ap, eSl_ap, oN_ap, oI_ap, itOf_ap, itR1_ap, itR2_ap, eLc_ap, isIm_ap, eCall_ap, eCallM_ap, fnOf_ap, isPl_im, isPl_fr, eDspl_ap, sArgs_nil, sArgs_cons, mkD_nil, mkD_cons, keepMu_mu, keepMu_im, projS_nil, projS_cons, hAdd, hSub, hMul, hDiv, hMod, hPow, hNeg, hCmp, hEq, hNe, hIsN, hNotN, hIx, hLen, hInt, hAbs, hGcd, hMin, hMax, hCut, isi_ii, isi_ib, isi_tt, isi_ll, isM_un, isM_im, isM_ow, isM_mu, List.getElem?_cons_zero, List.getElem?_cons_succ, List.getElem?_nil, List.set_cons_zero, List.set_cons_succ, List.length_cons, List.length_nil, List.length_map, List.replicate_succ, List.replicate_zero, List.cons_append, List.nil_append, List.map_cons, List.map_nil, Nat.reduceAdd, Nat.zero_add, ne_eq, not_true_eq_false, not_false_eq_true, decide_false, decide_true, Bool.or_self, Bool.or_false, Bool.false_or, Bool.and_self, Bool.false_eq_true, if_false, if_true, reduceIte, szOk_2, szOk_1, szOk_0, szOk_3, lk_left, lk_seed, lk_cells, lk_spot, pt_left, pt_spot, len_mL, mSet, true_and, and_true, List.getD_eq_getElem?_getD, Option.getD_some, seqOf_l, seqOf_t, ↓hIx_sq, ↓hLen_sq, seqOf_sq, ↓hTuple_sq, fz_fr2, gRep_ap, eq_self, gSorted_ap, gSortD_ap, gSortS_ap, ownSet_pl, eDict1_ap, eChain_ap, gInD_ap, gInS_ap, mPop_ap, mAdd_ap, eSet0_ap, sWhile_ap, itEnumX_ap, eM2_ap, eTR1_ap, eLR1_ap, hLtD, Bool.not_false]
theorem num_lc (s0 s1 : Sl) : ∀ l : List Nat, lcL 2 (tNot' (tB' (eCall 1 f_law_is_number (sCons (eVar 2) sNil)))) (eVar 2) (nD l) [s0, s1, .un] = some ([], [s0, s1, .un])
  | [] => rfl
  | x :: l => by
    have ih := num_lc s0 s1 l
    have e := num_eq (x : Int)
    simp only [nD_cons, lcL, ↓e, sNop_ap, row?_ap, eRowM_ap, sRowSub_ap, eRowLen_ap, eRowNil_ap, isUn_un, ixN3_0, ixN3_1, ixN3_2, gRowsD_ap, rowsOf_nil, rowsOf_cons, eMeth_ap, isL_l, isS_s, mAppend_ap, mExtend_ap, ownL_fr, gIn_ap, ownDct_fr, gT_apL, hSorted, hTuple, hList, hRev, sSeq_ap, sBrk_ap, sCnt_ap, sRet_ap, sRetN_ap, sDrop_ap, sIf_ap, sSet_ap, isMu_ap, sAsg_ap, gN_ap, gT_ap, gTs, sPar_ap, sSub_ap, own?_ap, putO_t, putO_f, sAug_ap, sFor_ap, eC_ap, eVar_ap, ePl_ap, eMv_ap, opS_ap, sNil_ap, sCons_ap, gOp_ap, vws_nil, vws_cons, vw_im, vw_fr, vw_frd, vw_frs, vw_frr, vw_pl, view_l, view_d, view_s, view_r, rs_d, rs_l, sl_im, sl_fr, fz_im, fz_fr, fzs_nil, fzs_cons, toD_l, toD_r, gTupD_ap, gLstD_ap, gIx_ap, gDGet_ap, ownDct_pl, keyOf_i, keyOf_s, gMul_ap, tB_ap, tNot_ap, tAnd_ap, tOr_ap, eNot_ap, eAnd_ap, eOr_ap, eIf_ap, tY_ap, eSl_ap, oN_ap, oI_ap, itOf_ap, itR1_ap, itR2_ap, eLc_ap, isIm_ap, eCall_ap, eCallM_ap, fnOf_ap, isPl_im, isPl_fr, eDspl_ap, sArgs_nil, sArgs_cons, mkD_nil, mkD_cons, keepMu_mu, keepMu_im, projS_nil, projS_cons, hAdd, hSub, hMul, hDiv, hMod, hPow, hNeg, hCmp, hEq, hNe, hIsN, hNotN, hIx, hLen, hInt, hAbs, hGcd, hMin, hMax, hCut, isi_ii, isi_ib, isi_tt, isi_ll, isM_un, isM_im, isM_ow, isM_mu, List.getElem?_cons_zero, List.getElem?_cons_succ, List.getElem?_nil, List.set_cons_zero, List.set_cons_succ, List.length_cons, List.length_nil, List.length_map, List.replicate_succ, List.replicate_zero, List.cons_append, List.nil_append, List.map_cons, List.map_nil, Nat.reduceAdd, Nat.zero_add, ne_eq, not_true_eq_false, not_false_eq_true, decide_false, decide_true, Bool.or_self, Bool.or_false, Bool.false_or, Bool.and_self, Bool.false_eq_true, if_false, if_true, reduceIte, szOk_2, szOk_1, szOk_0, szOk_3, lk_left, lk_seed, lk_cells, lk_spot, pt_left, pt_spot, len_mL, mSet, true_and, and_true, List.getD_eq_getElem?_getD, Option.getD_some, seqOf_l, seqOf_t, ↓hIx_sq, ↓hLen_sq, seqOf_sq, ↓hTuple_sq, fz_fr2, gRep_ap, eq_self, gSorted_ap, gSortD_ap, gSortS_ap, ownSet_pl, eDict1_ap, eChain_ap, gInD_ap, gInS_ap, mPop_ap, mAdd_ap, eSet0_ap, sWhile_ap, itEnumX_ap, eM2_ap, eTR1_ap, eLR1_ap, hLtD, Bool.not_true, ih]
section
variable {n : Nat}
theorem form_loop (hn1 : 1 ≤ n) (hn : n ≤ 240) (s0 s2 : Sl) : ∀ (rows : List (List Nat)) (s1 : Sl), isM s1 = false → (∀ r ∈ rows, r.length = n) → ∃ t1, isM t1 = false ∧ forL (gN 1) law_is_formBody (rows.map fun r => PyData.tuple (nD r)) [s0, s1, s2] = some (.nx [s0, t1, s2])
  | [], s1, h1, _ => ⟨s1, h1, rfl⟩
  | r :: rows, s1, h1, h => by
    obtain ⟨t1, i1, ih⟩ := form_loop hn1 hn s0 s2 rows (.im (.tuple (nD r))) rfl fun x hx => h x (List.mem_cons_of_mem _ hx)
    have l1 : (nD r).length = n := by rw [nD_len]; exact h r List.mem_cons_self
    have d1 : decide ((1 : Int) ≤ (n : Int)) = true := decide_eq_true (by omega)
    have d2 : decide ((n : Int) ≤ 240) = true := decide_eq_true (by omega)
    refine ⟨t1, i1, ?_⟩
    rw [List.map_cons]
    simp only [forL, sNop_ap, row?_ap, eRowM_ap, sRowSub_ap, eRowLen_ap, eRowNil_ap, isUn_un, ixN3_0, ixN3_1, ixN3_2, gRowsD_ap, rowsOf_nil, rowsOf_cons, eMeth_ap, isL_l, isS_s, mAppend_ap, mExtend_ap, ownL_fr, gIn_ap, ownDct_fr, gT_apL, hSorted, hTuple, hList, hRev, sSeq_ap, sBrk_ap, sCnt_ap, sRet_ap, sRetN_ap, sDrop_ap, sIf_ap, sSet_ap, isMu_ap, sAsg_ap, gN_ap, gT_ap, gTs, sPar_ap, sSub_ap, own?_ap, putO_t, putO_f, sAug_ap, sFor_ap, eC_ap, eVar_ap, ePl_ap, eMv_ap, opS_ap, sNil_ap, sCons_ap, gOp_ap, vws_nil, vws_cons, vw_im, vw_fr, vw_frd, vw_frs, vw_frr, vw_pl, view_l, view_d, view_s, view_r, rs_d, rs_l, sl_im, sl_fr, fz_im, fz_fr, fzs_nil, fzs_cons, toD_l, toD_r, gTupD_ap, gLstD_ap, gIx_ap, gDGet_ap, ownDct_pl, keyOf_i, keyOf_s, gMul_ap, tB_ap, tNot_ap, tAnd_ap, tOr_ap, eNot_ap, eAnd_ap, eOr_ap, eIf_ap, tY_ap, eSl_ap, oN_ap, oI_ap, itOf_ap, itR1_ap, itR2_ap, eLc_ap, isIm_ap, eCall_ap, eCallM_ap, fnOf_ap, isPl_im, isPl_fr, eDspl_ap, sArgs_nil, sArgs_cons, mkD_nil, mkD_cons, keepMu_mu, keepMu_im, projS_nil, projS_cons, hAdd, hSub, hMul, hDiv, hMod, hPow, hNeg, hCmp, hEq, hNe, hIsN, hNotN, hIx, hLen, hInt, hAbs, hGcd, hMin, hMax, hCut, isi_ii, isi_ib, isi_tt, isi_ll, isM_un, isM_im, isM_ow, isM_mu, List.getElem?_cons_zero, List.getElem?_cons_succ, List.getElem?_nil, List.set_cons_zero, List.set_cons_succ, List.length_cons, List.length_nil, List.length_map, List.replicate_succ, List.replicate_zero, List.cons_append, List.nil_append, List.map_cons, List.map_nil, Nat.reduceAdd, Nat.zero_add, ne_eq, not_true_eq_false, not_false_eq_true, decide_false, decide_true, Bool.or_self, Bool.or_false, Bool.false_or, Bool.and_self, Bool.false_eq_true, if_false, if_true, reduceIte, szOk_2, szOk_1, szOk_0, szOk_3, lk_left, lk_seed, lk_cells, lk_spot, pt_left, pt_spot, len_mL, mSet, true_and, and_true, List.getD_eq_getElem?_getD, Option.getD_some, seqOf_l, seqOf_t, ↓hIx_sq, ↓hLen_sq, seqOf_sq, ↓hTuple_sq, fz_fr2, gRep_ap, eq_self, gSorted_ap, gSortD_ap, gSortS_ap, ownSet_pl, eDict1_ap, eChain_ap, gInD_ap, gInS_ap, mPop_ap, mAdd_ap, eSet0_ap, sWhile_ap, itEnumX_ap, eM2_ap, eTR1_ap, eLR1_ap, hLtD, h1, l1, d1, d2, Bool.not_true, ih]
theorem form_loop1 (hn : n ≤ 240) (V0 : List Nat) (Vs : List D) (hV : V0.length = n) : ∀ (rows : List (List Nat)) (s1 : Sl), isM s1 = false → (∀ r ∈ rows, r.length = n) → ∃ t1, isM t1 = false ∧ forL (gN 1) law_is_formBody1 (rows.map fun r => PyData.tuple (nD r)) [.im (.tuple (.tuple (nD V0) :: Vs)), s1, .un] = some (.nx [.im (.tuple (.tuple (nD V0) :: Vs)), t1, .un])
  | [], s1, h1, _ => ⟨s1, h1, rfl⟩
  | r :: rows, s1, h1, h => by
    obtain ⟨t1, i1, ih⟩ := form_loop1 hn V0 Vs hV rows (.im (.tuple (nD r))) rfl fun x hx => h x (List.mem_cons_of_mem _ hx)
    have l1 : (nD r).length = n := by rw [nD_len]; exact h r List.mem_cons_self
    have l0 : (nD V0).length = n := by rw [nD_len]; exact hV
    have a0 : atI (PyData.tuple (nD V0) :: Vs) 0 = some (.tuple (nD V0)) := by
      unfold atI ixN
      rw [if_pos (by decide), if_pos (by rw [List.length_cons]; omega)]
      rfl
    have nl := num_lc (.im (.tuple (.tuple (nD V0) :: Vs))) (.im (.tuple (nD r))) r
    have sz : szOk n = true := szOk_le (by omega)
    have ev0 : PyData.eqv (.list []) (.list []) = true := by decide
    have d1 : decide (n = n) = true := decide_eq_true rfl
    refine ⟨t1, i1, ?_⟩
    rw [List.map_cons]
    simp only [forL, ↓nl, sNop_ap, row?_ap, eRowM_ap, sRowSub_ap, eRowLen_ap, eRowNil_ap, isUn_un, ixN3_0, ixN3_1, ixN3_2, gRowsD_ap, rowsOf_nil, rowsOf_cons, eMeth_ap, isL_l, isS_s, mAppend_ap, mExtend_ap, ownL_fr, gIn_ap, ownDct_fr, gT_apL, hSorted, hTuple, hList, hRev, sSeq_ap, sBrk_ap, sCnt_ap, sRet_ap, sRetN_ap, sDrop_ap, sIf_ap, sSet_ap, isMu_ap, sAsg_ap, gN_ap, gT_ap, gTs, sPar_ap, sSub_ap, own?_ap, putO_t, putO_f, sAug_ap, sFor_ap, eC_ap, eVar_ap, ePl_ap, eMv_ap, opS_ap, sNil_ap, sCons_ap, gOp_ap, vws_nil, vws_cons, vw_im, vw_fr, vw_frd, vw_frs, vw_frr, vw_pl, view_l, view_d, view_s, view_r, rs_d, rs_l, sl_im, sl_fr, fz_im, fz_fr, fzs_nil, fzs_cons, toD_l, toD_r, gTupD_ap, gLstD_ap, gIx_ap, gDGet_ap, ownDct_pl, keyOf_i, keyOf_s, gMul_ap, tB_ap, tNot_ap, tAnd_ap, tOr_ap, eNot_ap, eAnd_ap, eOr_ap, eIf_ap, tY_ap, eSl_ap, oN_ap, oI_ap, itOf_ap, itR1_ap, itR2_ap, eLc_ap, isIm_ap, eCall_ap, eCallM_ap, fnOf_ap, isPl_im, isPl_fr, eDspl_ap, sArgs_nil, sArgs_cons, mkD_nil, mkD_cons, keepMu_mu, keepMu_im, projS_nil, projS_cons, hAdd, hSub, hMul, hDiv, hMod, hPow, hNeg, hCmp, hEq, hNe, hIsN, hNotN, hIx, hLen, hInt, hAbs, hGcd, hMin, hMax, hCut, isi_ii, isi_ib, isi_tt, isi_ll, isM_un, isM_im, isM_ow, isM_mu, List.getElem?_cons_zero, List.getElem?_cons_succ, List.getElem?_nil, List.set_cons_zero, List.set_cons_succ, List.length_cons, List.length_nil, List.length_map, List.replicate_succ, List.replicate_zero, List.cons_append, List.nil_append, List.map_cons, List.map_nil, Nat.reduceAdd, Nat.zero_add, ne_eq, not_true_eq_false, not_false_eq_true, decide_false, decide_true, Bool.or_self, Bool.or_false, Bool.false_or, Bool.and_self, Bool.false_eq_true, if_false, if_true, reduceIte, szOk_2, szOk_1, szOk_0, szOk_3, lk_left, lk_seed, lk_cells, lk_spot, pt_left, pt_spot, len_mL, mSet, true_and, and_true, List.getD_eq_getElem?_getD, Option.getD_some, seqOf_l, seqOf_t, ↓hIx_sq, ↓hLen_sq, seqOf_sq, ↓hTuple_sq, fz_fr2, gRep_ap, eq_self, gSorted_ap, gSortD_ap, gSortS_ap, ownSet_pl, eDict1_ap, eChain_ap, gInD_ap, gInS_ap, mPop_ap, mAdd_ap, eSet0_ap, sWhile_ap, itEnumX_ap, eM2_ap, eTR1_ap, eLR1_ap, hLtD, h1, l1, l0, a0, sz, sh_int, eqv_nat, d1, sh_nil, ev0, Bool.not_true, ih]
theorem form_eq (hn1 : 1 ≤ n) (hn : n ≤ 240) {A B C P Q : List Nat} (hA : A.length = n) (hB : B.length = n) (hC : C.length = n) (hP : P.length = n) (hQ : Q.length = n) : f_law_is_form [.im (.tuple (L5 A B C P Q))] = some (.im (.bool true), [.un]) := by
  have all : ∀ r ∈ [A, B, C, P, Q], r.length = n := fun r hr => by
    simp only [List.mem_cons, List.mem_nil_iff, or_false] at hr
    rcases hr with rfl | rfl | rfl | rfl | rfl <;> assumption
  obtain ⟨t1, i1, e1⟩ := form_loop hn1 hn (.im (.tuple (L5 A B C P Q))) .un [A, B, C, P, Q] .un rfl all
  obtain ⟨t2, i2, e2⟩ := form_loop1 hn A [.tuple (nD B), .tuple (nD C), .tuple (nD P), .tuple (nD Q)] hA [A, B, C, P, Q] t1 i1 all
  have em : ([A, B, C, P, Q].map fun r => PyData.tuple (nD r)) = L5 A B C P Q := rfl
  have ec : (PyData.tuple (nD A) :: [.tuple (nD B), .tuple (nD C), .tuple (nD P), .tuple (nD Q)]) = L5 A B C P Q := rfl
  rw [em] at e1 e2
  rw [ec] at e2
  have l5 : (L5 A B C P Q).length = 5 := rfl
  have d5 : decide ((5 : Nat) = 5) = true := decide_eq_true rfl
  have n5 : ((5 : Nat) : Int) = 5 := rfl
  have d5' : decide ((5 : Int) = 5) = true := decide_eq_true rfl
  unfold f_law_is_form b_law_is_form
  simp only [↓e1, ↓e2, sNop_ap, row?_ap, eRowM_ap, sRowSub_ap, eRowLen_ap, eRowNil_ap, isUn_un, ixN3_0, ixN3_1, ixN3_2, gRowsD_ap, rowsOf_nil, rowsOf_cons, eMeth_ap, isL_l, isS_s, mAppend_ap, mExtend_ap, ownL_fr, gIn_ap, ownDct_fr, gT_apL, hSorted, hTuple, hList, hRev, sSeq_ap, sBrk_ap, sCnt_ap, sRet_ap, sRetN_ap, sDrop_ap, sIf_ap, sSet_ap, isMu_ap, sAsg_ap, gN_ap, gT_ap, gTs, sPar_ap, sSub_ap, own?_ap, putO_t, putO_f, sAug_ap, sFor_ap, eC_ap, eVar_ap, ePl_ap, eMv_ap, opS_ap, sNil_ap, sCons_ap, gOp_ap, vws_nil, vws_cons, vw_im, vw_fr, vw_frd, vw_frs, vw_frr, vw_pl, view_l, view_d, view_s, view_r, rs_d, rs_l, sl_im, sl_fr, fz_im, fz_fr, fzs_nil, fzs_cons, toD_l, toD_r, gTupD_ap, gLstD_ap, gIx_ap, gDGet_ap, ownDct_pl, keyOf_i, keyOf_s, gMul_ap, tB_ap, tNot_ap, tAnd_ap, tOr_ap, eNot_ap, eAnd_ap, eOr_ap, eIf_ap, tY_ap, eSl_ap, oN_ap, oI_ap, itOf_ap, itR1_ap, itR2_ap, eLc_ap, isIm_ap, eCall_ap, eCallM_ap, fnOf_ap, isPl_im, isPl_fr, eDspl_ap, sArgs_nil, sArgs_cons, mkD_nil, mkD_cons, keepMu_mu, keepMu_im, projS_nil, projS_cons, hAdd, hSub, hMul, hDiv, hMod, hPow, hNeg, hCmp, hEq, hNe, hIsN, hNotN, hIx, hLen, hInt, hAbs, hGcd, hMin, hMax, hCut, isi_ii, isi_ib, isi_tt, isi_ll, isM_un, isM_im, isM_ow, isM_mu, List.getElem?_cons_zero, List.getElem?_cons_succ, List.getElem?_nil, List.set_cons_zero, List.set_cons_succ, List.length_cons, List.length_nil, List.length_map, List.replicate_succ, List.replicate_zero, List.cons_append, List.nil_append, List.map_cons, List.map_nil, Nat.reduceAdd, Nat.zero_add, ne_eq, not_true_eq_false, not_false_eq_true, decide_false, decide_true, Bool.or_self, Bool.or_false, Bool.false_or, Bool.and_self, Bool.false_eq_true, if_false, if_true, reduceIte, szOk_2, szOk_1, szOk_0, szOk_3, lk_left, lk_seed, lk_cells, lk_spot, pt_left, pt_spot, len_mL, mSet, true_and, and_true, List.getD_eq_getElem?_getD, Option.getD_some, seqOf_l, seqOf_t, ↓hIx_sq, ↓hLen_sq, seqOf_sq, ↓hTuple_sq, fz_fr2, gRep_ap, eq_self, gSorted_ap, gSortD_ap, gSortS_ap, ownSet_pl, eDict1_ap, eChain_ap, gInD_ap, gInS_ap, mPop_ap, mAdd_ap, eSet0_ap, sWhile_ap, itEnumX_ap, eM2_ap, eTR1_ap, eLR1_ap, hLtD, l5, n5, sh_int, eqv_int, d5', Bool.not_true]
/-- the changes: flags, involutions -/
theorem isp_row (s0 s1 s2 s3 s4 s5 s6 s9 s10 s11 : Sl) {R : List Nat} (hl : R.length = n) (hr : ∀ i, i < n → gt R i < n ∧ gt R (gt R i) = i) : ∀ (l : List Nat) (s8 : Sl), (s8 = .un ∨ ∃ d, s8 = .im d) → (∀ x ∈ l, x < n) →
    ∃ t8, (t8 = .un ∨ ∃ d, t8 = .im d) ∧ forL (gN 8) law_is_patternBody1 (nD l) [s0, s1, s2, s3, s4, s5, s6, .im (.tuple (nD R)), s8, s9, s10, s11] = some (.nx [s0, s1, s2, s3, s4, s5, s6, .im (.tuple (nD R)), t8, s9, s10, s11])
  | [], s8, h8, _ => ⟨s8, h8, rfl⟩
  | x :: l, s8, h8, h => by
    obtain ⟨t8, i8, ih⟩ := isp_row s0 s1 s2 s3 s4 s5 s6 s9 s10 s11 hl hr l (.im (.int (x : Nat))) (.inr ⟨_, rfl⟩) fun y hy => h y (List.mem_cons_of_mem _ hy)
    have hx := h x List.mem_cons_self
    obtain ⟨r1, r2⟩ := hr x hx
    have a1 : atI (nD R) (x : Int) = some (.int (gt R x : Nat)) := at_nD (by rw [hl]; exact hx)
    have a2 : atI (nD R) ((gt R x : Nat) : Int) = some (.int (gt R (gt R x) : Nat)) := at_nD (by rw [hl]; exact r1)
    rw [r2] at a2
    have ll : (nD R).length = n := by rw [nD_len, hl]
    have d1 : decide ((0 : Int) ≤ ((gt R x : Nat) : Int)) = true := decide_eq_true (by omega)
    have d2 : decide (((gt R x : Nat) : Int) < (n : Int)) = true := decide_eq_true (by omega)
    have d3 : decide (x = x) = true := decide_eq_true rfl
    have m8 : isM s8 = false := by
      rcases h8 with rfl | ⟨d, rfl⟩ <;> rfl
    refine ⟨t8, i8, ?_⟩
    rw [nD_cons]
    simp only [forL, sNop_ap, row?_ap, eRowM_ap, sRowSub_ap, eRowLen_ap, eRowNil_ap, isUn_un, ixN3_0, ixN3_1, ixN3_2, gRowsD_ap, rowsOf_nil, rowsOf_cons, eMeth_ap, isL_l, isS_s, mAppend_ap, mExtend_ap, ownL_fr, gIn_ap, ownDct_fr, gT_apL, hSorted, hTuple, hList, hRev, sSeq_ap, sBrk_ap, sCnt_ap, sRet_ap, sRetN_ap, sDrop_ap, sIf_ap, sSet_ap, isMu_ap, sAsg_ap, gN_ap, gT_ap, gTs, sPar_ap, sSub_ap, own?_ap, putO_t, putO_f, sAug_ap, sFor_ap, eC_ap, eVar_ap, ePl_ap, eMv_ap, opS_ap, sNil_ap, sCons_ap, gOp_ap, vws_nil, vws_cons, vw_im, vw_fr, vw_frd, vw_frs, vw_frr, vw_pl, view_l, view_d, view_s, view_r, rs_d, rs_l, sl_im, sl_fr, fz_im, fz_fr, fzs_nil, fzs_cons, toD_l, toD_r, gTupD_ap, gLstD_ap, gIx_ap, gDGet_ap, ownDct_pl, keyOf_i, keyOf_s, gMul_ap, tB_ap, tNot_ap, tAnd_ap, tOr_ap, eNot_ap, eAnd_ap, eOr_ap, eIf_ap, tY_ap, eSl_ap, oN_ap, oI_ap, itOf_ap, itR1_ap, itR2_ap, eLc_ap, isIm_ap, eCall_ap, eCallM_ap, fnOf_ap, isPl_im, isPl_fr, eDspl_ap, sArgs_nil, sArgs_cons, mkD_nil, mkD_cons, keepMu_mu, keepMu_im, projS_nil, projS_cons, hAdd, hSub, hMul, hDiv, hMod, hPow, hNeg, hCmp, hEq, hNe, hIsN, hNotN, hIx, hLen, hInt, hAbs, hGcd, hMin, hMax, hCut, isi_ii, isi_ib, isi_tt, isi_ll, isM_un, isM_im, isM_ow, isM_mu, List.getElem?_cons_zero, List.getElem?_cons_succ, List.getElem?_nil, List.set_cons_zero, List.set_cons_succ, List.length_cons, List.length_nil, List.length_map, List.replicate_succ, List.replicate_zero, List.cons_append, List.nil_append, List.map_cons, List.map_nil, Nat.reduceAdd, Nat.zero_add, ne_eq, not_true_eq_false, not_false_eq_true, decide_false, decide_true, Bool.or_self, Bool.or_false, Bool.false_or, Bool.and_self, Bool.false_eq_true, if_false, if_true, reduceIte, szOk_2, szOk_1, szOk_0, szOk_3, lk_left, lk_seed, lk_cells, lk_spot, pt_left, pt_spot, len_mL, mSet, true_and, and_true, List.getD_eq_getElem?_getD, Option.getD_some, seqOf_l, seqOf_t, ↓hIx_sq, ↓hLen_sq, seqOf_sq, ↓hTuple_sq, fz_fr2, gRep_ap, eq_self, gSorted_ap, gSortD_ap, gSortS_ap, ownSet_pl, eDict1_ap, eChain_ap, gInD_ap, gInS_ap, mPop_ap, mAdd_ap, eSet0_ap, sWhile_ap, itEnumX_ap, eM2_ap, eTR1_ap, eLR1_ap, hLtD, m8, a1, a2, ll, d1, d2, d3, sh_int, eqv_nat, Bool.not_true, ih]
theorem isp_sq {A C : List Nat} (hA : A.length = n) (hC : C.length = n) (ra : ∀ i, i < n → gt A i < n) (rc : ∀ i, i < n → gt C i < n) (cm : ∀ i, i < n → gt C (gt A i) = gt A (gt C i)) (s0 s2 s4 s5 s6 s7 s9 s10 s11 : Sl) : ∀ l : List Nat, (∀ x ∈ l, x < n) →
    lcL 8 (tB' (opS (gOp hNe) (sCons (opS gIx (sCons (ePl 1) (sCons (opS gIx (sCons (ePl 3) (sCons (ePl 8) sNil))) sNil))) (sCons (opS gIx (sCons (ePl 3) (sCons (opS gIx (sCons (ePl 1) (sCons (ePl 8) sNil))) sNil))) sNil)))) (eVar 8) (nD l)
      [s0, .im (.tuple (nD A)), s2, .im (.tuple (nD C)), s4, s5, s6, s7, .un, s9, s10, s11] = some ([], [s0, .im (.tuple (nD A)), s2, .im (.tuple (nD C)), s4, s5, s6, s7, .un, s9, s10, s11])
  | [], _ => rfl
  | x :: l, h => by
    have ih := isp_sq hA hC ra rc cm s0 s2 s4 s5 s6 s7 s9 s10 s11 l fun y hy => h y (List.mem_cons_of_mem _ hy)
    have hx := h x List.mem_cons_self
    have a1 : atI (nD A) (x : Int) = some (.int (gt A x : Nat)) := at_nD (by rw [hA]; exact hx)
    have a2 : atI (nD C) (x : Int) = some (.int (gt C x : Nat)) := at_nD (by rw [hC]; exact hx)
    have a3 : atI (nD C) ((gt A x : Nat) : Int) = some (.int (gt C (gt A x) : Nat)) := at_nD (by rw [hC]; exact ra x hx)
    have a4 : atI (nD A) ((gt C x : Nat) : Int) = some (.int (gt A (gt C x) : Nat)) := at_nD (by rw [hA]; exact rc x hx)
    rw [cm x hx] at a3
    have d3 : decide (gt A (gt C x) = gt A (gt C x)) = true := decide_eq_true rfl
    simp only [nD_cons, lcL, sNop_ap, row?_ap, eRowM_ap, sRowSub_ap, eRowLen_ap, eRowNil_ap, isUn_un, ixN3_0, ixN3_1, ixN3_2, gRowsD_ap, rowsOf_nil, rowsOf_cons, eMeth_ap, isL_l, isS_s, mAppend_ap, mExtend_ap, ownL_fr, gIn_ap, ownDct_fr, gT_apL, hSorted, hTuple, hList, hRev, sSeq_ap, sBrk_ap, sCnt_ap, sRet_ap, sRetN_ap, sDrop_ap, sIf_ap, sSet_ap, isMu_ap, sAsg_ap, gN_ap, gT_ap, gTs, sPar_ap, sSub_ap, own?_ap, putO_t, putO_f, sAug_ap, sFor_ap, eC_ap, eVar_ap, ePl_ap, eMv_ap, opS_ap, sNil_ap, sCons_ap, gOp_ap, vws_nil, vws_cons, vw_im, vw_fr, vw_frd, vw_frs, vw_frr, vw_pl, view_l, view_d, view_s, view_r, rs_d, rs_l, sl_im, sl_fr, fz_im, fz_fr, fzs_nil, fzs_cons, toD_l, toD_r, gTupD_ap, gLstD_ap, gIx_ap, gDGet_ap, ownDct_pl, keyOf_i, keyOf_s, gMul_ap, tB_ap, tNot_ap, tAnd_ap, tOr_ap, eNot_ap, eAnd_ap, eOr_ap, eIf_ap, tY_ap, eSl_ap, oN_ap, oI_ap, itOf_ap, itR1_ap, itR2_ap, eLc_ap, isIm_ap, eCall_ap, eCallM_ap, fnOf_ap, isPl_im, isPl_fr, eDspl_ap, sArgs_nil, sArgs_cons, mkD_nil, mkD_cons, keepMu_mu, keepMu_im, projS_nil, projS_cons, hAdd, hSub, hMul, hDiv, hMod, hPow, hNeg, hCmp, hEq, hNe, hIsN, hNotN, hIx, hLen, hInt, hAbs, hGcd, hMin, hMax, hCut, isi_ii, isi_ib, isi_tt, isi_ll, isM_un, isM_im, isM_ow, isM_mu, List.getElem?_cons_zero, List.getElem?_cons_succ, List.getElem?_nil, List.set_cons_zero, List.set_cons_succ, List.length_cons, List.length_nil, List.length_map, List.replicate_succ, List.replicate_zero, List.cons_append, List.nil_append, List.map_cons, List.map_nil, Nat.reduceAdd, Nat.zero_add, ne_eq, not_true_eq_false, not_false_eq_true, decide_false, decide_true, Bool.or_self, Bool.or_false, Bool.false_or, Bool.and_self, Bool.false_eq_true, if_false, if_true, reduceIte, szOk_2, szOk_1, szOk_0, szOk_3, lk_left, lk_seed, lk_cells, lk_spot, pt_left, pt_spot, len_mL, mSet, true_and, and_true, List.getD_eq_getElem?_getD, Option.getD_some, seqOf_l, seqOf_t, ↓hIx_sq, ↓hLen_sq, seqOf_sq, ↓hTuple_sq, fz_fr2, gRep_ap, eq_self, gSorted_ap, gSortD_ap, gSortS_ap, ownSet_pl, eDict1_ap, eChain_ap, gInD_ap, gInS_ap, mPop_ap, mAdd_ap, eSet0_ap, sWhile_ap, itEnumX_ap, eM2_ap, eTR1_ap, eLR1_ap, hLtD, a1, a2, a3, a4, sh_int, eqv_nat, d3, Bool.not_true, ih]
theorem isp_ord {A B P : List Nat} (I : Inv2 n A B) (hn : n ≤ 240) {w : Nat} (o : OrdOk n A B w P) (hw : n * w ≤ 9999) (s0 s1 s2 s3 s4 s5 s6 s7 : Sl) : ∀ (l : List Nat) (s8 : Sl), isM s8 = false → (∀ x ∈ l, x < n) →
    ∃ t8, isM t8 = false ∧ forL (gN 8) law_is_patternBody3 (nD l) [s0, s1, s2, s3, s4, s5, s6, s7, s8, .im (.tuple (nD A)), .im (.tuple (nD B)), .im (.tuple (nD P))] = some (.nx [s0, s1, s2, s3, s4, s5, s6, s7, t8, .im (.tuple (nD A)), .im (.tuple (nD B)), .im (.tuple (nD P))])
  | [], s8, h8, _ => ⟨s8, h8, rfl⟩
  | x :: l, s8, h8, h => by
    obtain ⟨t8, i8, ih⟩ := isp_ord I hn o hw s0 s1 s2 s3 s4 s5 s6 s7 l (.im (.int (x : Nat))) rfl fun y hy => h y (List.mem_cons_of_mem _ hy)
    have hx := h x List.mem_cons_self
    obtain ⟨ra, _⟩ := I.ra x hx
    obtain ⟨rb, _⟩ := I.rb x hx
    have a1 : atI (nD P) (x : Int) = some (.int (gt P x : Nat)) := at_nD (by rw [o.ln]; exact hx)
    have a2 : atI (nD A) (x : Int) = some (.int (gt A x : Nat)) := at_nD (by rw [I.la]; exact hx)
    have a3 : atI (nD B) (x : Int) = some (.int (gt B x : Nat)) := at_nD (by rw [I.lb]; exact hx)
    have a4 : atI (nD P) ((gt A x : Nat) : Int) = some (.int (gt P (gt A x) : Nat)) := at_nD (by rw [o.ln]; exact ra)
    have a5 : atI (nD P) ((gt B x : Nat) : Int) = some (.int (gt P (gt B x) : Nat)) := at_nD (by rw [o.ln]; exact rb)
    rw [o.ca x hx] at a4
    rw [o.cb x hx] at a5
    have p1 := o.pos hx
    have p2 := o.le hx
    have d1 : decide ((1 : Int) ≤ ((gt P x : Nat) : Int)) = true := decide_eq_true (by omega)
    have d2 : decide (((gt P x : Nat) : Int) ≤ 9999) = true := decide_eq_true (by omega)
    have d3 : decide (gt P x = gt P x) = true := decide_eq_true rfl
    obtain ⟨r, hr, R, er⟩ := round_eq I (by omega) true true hx
    rw [sq_t, sq_t] at er
    obtain ⟨r', k, hr', k1, k2, R', ep⟩ := o.rd x hx
    have e := rnd_uniq R R'
    subst e
    have r1 := R.pos
    have mz : ((gt P x : Nat) : Int).fmod (r : Int) = 0 := by
      rw [ep, Int.natCast_mul, Int.fmod_eq_emod_of_nonneg _ (by omega), Int.mul_emod_right]
    have d4 : decide ((r : Int) ≠ 0) = true := decide_eq_true (by omega)
    have d4' : decide (¬ (r : Int) = 0) = true := decide_eq_true (by omega)
    have d5 : decide ((0 : Int) = 0) = true := decide_eq_true rfl
    refine ⟨t8, i8, ?_⟩
    rw [nD_cons]
    simp only [forL, ↓er, sNop_ap, row?_ap, eRowM_ap, sRowSub_ap, eRowLen_ap, eRowNil_ap, isUn_un, ixN3_0, ixN3_1, ixN3_2, gRowsD_ap, rowsOf_nil, rowsOf_cons, eMeth_ap, isL_l, isS_s, mAppend_ap, mExtend_ap, ownL_fr, gIn_ap, ownDct_fr, gT_apL, hSorted, hTuple, hList, hRev, sSeq_ap, sBrk_ap, sCnt_ap, sRet_ap, sRetN_ap, sDrop_ap, sIf_ap, sSet_ap, isMu_ap, sAsg_ap, gN_ap, gT_ap, gTs, sPar_ap, sSub_ap, own?_ap, putO_t, putO_f, sAug_ap, sFor_ap, eC_ap, eVar_ap, ePl_ap, eMv_ap, opS_ap, sNil_ap, sCons_ap, gOp_ap, vws_nil, vws_cons, vw_im, vw_fr, vw_frd, vw_frs, vw_frr, vw_pl, view_l, view_d, view_s, view_r, rs_d, rs_l, sl_im, sl_fr, fz_im, fz_fr, fzs_nil, fzs_cons, toD_l, toD_r, gTupD_ap, gLstD_ap, gIx_ap, gDGet_ap, ownDct_pl, keyOf_i, keyOf_s, gMul_ap, tB_ap, tNot_ap, tAnd_ap, tOr_ap, eNot_ap, eAnd_ap, eOr_ap, eIf_ap, tY_ap, eSl_ap, oN_ap, oI_ap, itOf_ap, itR1_ap, itR2_ap, eLc_ap, isIm_ap, eCall_ap, eCallM_ap, fnOf_ap, isPl_im, isPl_fr, eDspl_ap, sArgs_nil, sArgs_cons, mkD_nil, mkD_cons, keepMu_mu, keepMu_im, projS_nil, projS_cons, hAdd, hSub, hMul, hDiv, hMod, hPow, hNeg, hCmp, hEq, hNe, hIsN, hNotN, hIx, hLen, hInt, hAbs, hGcd, hMin, hMax, hCut, isi_ii, isi_ib, isi_tt, isi_ll, isM_un, isM_im, isM_ow, isM_mu, List.getElem?_cons_zero, List.getElem?_cons_succ, List.getElem?_nil, List.set_cons_zero, List.set_cons_succ, List.length_cons, List.length_nil, List.length_map, List.replicate_succ, List.replicate_zero, List.cons_append, List.nil_append, List.map_cons, List.map_nil, Nat.reduceAdd, Nat.zero_add, ne_eq, not_true_eq_false, not_false_eq_true, decide_false, decide_true, Bool.or_self, Bool.or_false, Bool.false_or, Bool.and_self, Bool.false_eq_true, if_false, if_true, reduceIte, szOk_2, szOk_1, szOk_0, szOk_3, lk_left, lk_seed, lk_cells, lk_spot, pt_left, pt_spot, len_mL, mSet, true_and, and_true, List.getD_eq_getElem?_getD, Option.getD_some, seqOf_l, seqOf_t, ↓hIx_sq, ↓hLen_sq, seqOf_sq, ↓hTuple_sq, fz_fr2, gRep_ap, eq_self, gSorted_ap, gSortD_ap, gSortS_ap, ownSet_pl, eDict1_ap, eChain_ap, gInD_ap, gInS_ap, mPop_ap, mAdd_ap, eSet0_ap, sWhile_ap, itEnumX_ap, eM2_ap, eTR1_ap, eLR1_ap, hLtD, h8, a1, a2, a3, a4, a5, d1, d2, d3, d4, d4', d5, mz, sh_int, eqv_nat, eqv_int, Bool.not_true, ih]
variable {A B C P Q : List Nat}
theorem is_pattern_eq (F : FI n A B C) (hn1 : 1 ≤ n) (hn : n ≤ 240) {w w' : Nat} (hP : OrdOk n A B w P) (hQ : OrdOk n B C w' Q) (hw : n * w ≤ 9999) (hw' : n * w' ≤ 9999) : f_law_is_pattern [.im (.tuple (L5 A B C P Q))] = some (.im (.bool true), [.un]) := by
  have e1 := form_eq hn1 hn F.la F.lb F.lc hP.ln hQ.ln
  have hz : ∀ x ∈ List.range n, x < n := fun x hx => List.mem_range.mp hx
  obtain ⟨u8, i8, ea⟩ := isp_row (.im (.tuple (L5 A B C P Q))) (.im (.tuple (nD A))) (.im (.tuple (nD B))) (.im (.tuple (nD C))) (.im (.tuple (nD P))) (.im (.tuple (nD Q))) (.im (.list (nD (List.range n)))) .un .un .un F.la F.ra (List.range n) .un (.inl rfl) hz
  obtain ⟨v8, j8, eb⟩ := isp_row (.im (.tuple (L5 A B C P Q))) (.im (.tuple (nD A))) (.im (.tuple (nD B))) (.im (.tuple (nD C))) (.im (.tuple (nD P))) (.im (.tuple (nD Q))) (.im (.list (nD (List.range n)))) .un .un .un F.lb F.rb (List.range n) u8 i8 hz
  obtain ⟨w8, k8, ec⟩ := isp_row (.im (.tuple (L5 A B C P Q))) (.im (.tuple (nD A))) (.im (.tuple (nD B))) (.im (.tuple (nD C))) (.im (.tuple (nD P))) (.im (.tuple (nD Q))) (.im (.list (nD (List.range n)))) .un .un .un F.lc F.rc (List.range n) v8 j8 hz
  have es := isp_sq F.la F.lc (fun i hi => (F.ra i hi).1) (fun i hi => (F.rc i hi).1) F.cm (.im (.tuple (L5 A B C P Q))) (.im (.tuple (nD B))) (.im (.tuple (nD P))) (.im (.tuple (nD Q))) (.im (.list (nD (List.range n)))) (.im (.tuple (nD C))) .un .un .un (List.range n) hz
  have m8 : isM w8 = false := by
    rcases k8 with rfl | ⟨d, rfl⟩ <;> rfl
  obtain ⟨x8, y8, ed⟩ := isp_ord F.i01 hn hP hw (.im (.tuple (L5 A B C P Q))) (.im (.tuple (nD A))) (.im (.tuple (nD B))) (.im (.tuple (nD C))) (.im (.tuple (nD P))) (.im (.tuple (nD Q))) (.im (.list (nD (List.range n)))) (.im (.tuple (nD C))) (List.range n) w8 m8 hz
  obtain ⟨z8, _, ef⟩ := isp_ord F.i12 hn hQ hw' (.im (.tuple (L5 A B C P Q))) (.im (.tuple (nD A))) (.im (.tuple (nD B))) (.im (.tuple (nD C))) (.im (.tuple (nD P))) (.im (.tuple (nD Q))) (.im (.list (nD (List.range n)))) (.im (.tuple (nD C))) (List.range n) x8 y8 hz
  have lw := law_walk_eq F (by omega) (.tuple (nD P)) (.tuple (nD Q)) (f := 0) (by omega)
  have le : (.tuple [.tuple (nD A), .tuple (nD B), .tuple (nD C), .tuple (nD P), .tuple (nD Q)] : D) = .tuple (L5 A B C P Q) := rfl
  have o0 : ((0 : Nat) : Int) = 0 := rfl
  rw [le, o0] at lw
  have ll : (nD (wlk A B C n 0)).length = n := by rw [nD_len, (wlk_isL F (f := 0) (by omega)).ln]
  have la : (nD A).length = n := by rw [nD_len, F.la]
  have sm : small62 ((n : Nat) : Int) = true := small62_b (by omega) (by omega)
  have tn : ((n : Nat) : Int).toNat = n := Int.toNat_natCast _
  have sz : szOk n = true := szOk_le (by omega)
  have lr : (nD (List.range n)).length = n := by rw [nD_len, List.length_range]
  have rg := rngD_nD n
  have gt5 : ∀ (d0 d1 d2 d3 d4 d5 d6 d7 d8 d9 d10 d11 : Sl), isM d1 = false → isM d2 = false → isM d3 = false → isM d4 = false → isM d5 = false → gT [1, 2, 3, 4, 5] (.tuple (L5 A B C P Q)) [d0, d1, d2, d3, d4, d5, d6, d7, d8, d9, d10, d11] =
      some [d0, .im (.tuple (nD A)), .im (.tuple (nD B)), .im (.tuple (nD C)), .im (.tuple (nD P)), .im (.tuple (nD Q)), d6, d7, d8, d9, d10, d11] := fun d0 d1 d2 d3 d4 d5 d6 d7 d8 d9 d10 d11 h1 h2 h3 h4 h5 => by
    unfold L5
    simp only [sNop_ap, row?_ap, eRowM_ap, sRowSub_ap, eRowLen_ap, eRowNil_ap, isUn_un, ixN3_0, ixN3_1, ixN3_2, gRowsD_ap, rowsOf_nil, rowsOf_cons, eMeth_ap, isL_l, isS_s, mAppend_ap, mExtend_ap, ownL_fr, gIn_ap, ownDct_fr, gT_apL, hSorted, hTuple, hList, hRev, sSeq_ap, sBrk_ap, sCnt_ap, sRet_ap, sRetN_ap, sDrop_ap, sIf_ap, sSet_ap, isMu_ap, sAsg_ap, gN_ap, gT_ap, gTs, sPar_ap, sSub_ap, own?_ap, putO_t, putO_f, sAug_ap, sFor_ap, eC_ap, eVar_ap, ePl_ap, eMv_ap, opS_ap, sNil_ap, sCons_ap, gOp_ap, vws_nil, vws_cons, vw_im, vw_fr, vw_frd, vw_frs, vw_frr, vw_pl, view_l, view_d, view_s, view_r, rs_d, rs_l, sl_im, sl_fr, fz_im, fz_fr, fzs_nil, fzs_cons, toD_l, toD_r, gTupD_ap, gLstD_ap, gIx_ap, gDGet_ap, ownDct_pl, keyOf_i, keyOf_s, gMul_ap, tB_ap, tNot_ap, tAnd_ap, tOr_ap, eNot_ap, eAnd_ap, eOr_ap, eIf_ap, tY_ap, eSl_ap, oN_ap, oI_ap, itOf_ap, itR1_ap, itR2_ap, eLc_ap, isIm_ap, eCall_ap, eCallM_ap, fnOf_ap, isPl_im, isPl_fr, eDspl_ap, sArgs_nil, sArgs_cons, mkD_nil, mkD_cons, keepMu_mu, keepMu_im, projS_nil, projS_cons, hAdd, hSub, hMul, hDiv, hMod, hPow, hNeg, hCmp, hEq, hNe, hIsN, hNotN, hIx, hLen, hInt, hAbs, hGcd, hMin, hMax, hCut, isi_ii, isi_ib, isi_tt, isi_ll, isM_un, isM_im, isM_ow, isM_mu, List.getElem?_cons_zero, List.getElem?_cons_succ, List.getElem?_nil, List.set_cons_zero, List.set_cons_succ, List.length_cons, List.length_nil, List.length_map, List.replicate_succ, List.replicate_zero, List.cons_append, List.nil_append, List.map_cons, List.map_nil, Nat.reduceAdd, Nat.zero_add, ne_eq, not_true_eq_false, not_false_eq_true, decide_false, decide_true, Bool.or_self, Bool.or_false, Bool.false_or, Bool.and_self, Bool.false_eq_true, if_false, if_true, reduceIte, szOk_2, szOk_1, szOk_0, szOk_3, lk_left, lk_seed, lk_cells, lk_spot, pt_left, pt_spot, len_mL, mSet, true_and, and_true, List.getD_eq_getElem?_getD, Option.getD_some, seqOf_l, seqOf_t, ↓hIx_sq, ↓hLen_sq, seqOf_sq, ↓hTuple_sq, fz_fr2, gRep_ap, eq_self, gSorted_ap, gSortD_ap, gSortS_ap, ownSet_pl, eDict1_ap, eChain_ap, gInD_ap, gInS_ap, mPop_ap, mAdd_ap, eSet0_ap, sWhile_ap, itEnumX_ap, eM2_ap, eTR1_ap, eLR1_ap, hLtD, h1, h2, h3, h4, h5]
  have gu := gt5 (.im (.tuple (L5 A B C P Q))) .un .un .un .un .un .un .un .un .un .un .un rfl rfl rfl rfl rfl
  have ev0 : PyData.eqv (.list []) (.list []) = true := by decide
  have d1 : decide (n = n) = true := decide_eq_true rfl
  unfold f_law_is_pattern b_law_is_pattern
  rcases k8 with rfl | ⟨d, rfl⟩
  · simp only [forL, ↓e1, ↓gu, ↓ea, ↓eb, ↓ec, ↓es, ↓ed, ↓ef, ↓lw, sNop_ap, row?_ap, eRowM_ap, sRowSub_ap, eRowLen_ap, eRowNil_ap, isUn_un, ixN3_0, ixN3_1, ixN3_2, gRowsD_ap, rowsOf_nil, rowsOf_cons, eMeth_ap, isL_l, isS_s, mAppend_ap, mExtend_ap, ownL_fr, gIn_ap, ownDct_fr, gT_apL, hSorted, hTuple, hList, hRev, sSeq_ap, sBrk_ap, sCnt_ap, sRet_ap, sRetN_ap, sDrop_ap, sIf_ap, sSet_ap, isMu_ap, sAsg_ap, gN_ap, gT_ap, gTs, sPar_ap, sSub_ap, own?_ap, putO_t, putO_f, sAug_ap, sFor_ap, eC_ap, eVar_ap, ePl_ap, eMv_ap, opS_ap, sNil_ap, sCons_ap, gOp_ap, vws_nil, vws_cons, vw_im, vw_fr, vw_frd, vw_frs, vw_frr, vw_pl, view_l, view_d, view_s, view_r, rs_d, rs_l, sl_im, sl_fr, fz_im, fz_fr, fzs_nil, fzs_cons, toD_l, toD_r, gTupD_ap, gLstD_ap, gIx_ap, gDGet_ap, ownDct_pl, keyOf_i, keyOf_s, gMul_ap, tB_ap, tNot_ap, tAnd_ap, tOr_ap, eNot_ap, eAnd_ap, eOr_ap, eIf_ap, tY_ap, eSl_ap, oN_ap, oI_ap, itOf_ap, itR1_ap, itR2_ap, eLc_ap, isIm_ap, eCall_ap, eCallM_ap, fnOf_ap, isPl_im, isPl_fr, eDspl_ap, sArgs_nil, sArgs_cons, mkD_nil, mkD_cons, keepMu_mu, keepMu_im, projS_nil, projS_cons, hAdd, hSub, hMul, hDiv, hMod, hPow, hNeg, hCmp, hEq, hNe, hIsN, hNotN, hIx, hLen, hInt, hAbs, hGcd, hMin, hMax, hCut, isi_ii, isi_ib, isi_tt, isi_ll, isM_un, isM_im, isM_ow, isM_mu, List.getElem?_cons_zero, List.getElem?_cons_succ, List.getElem?_nil, List.set_cons_zero, List.set_cons_succ, List.length_cons, List.length_nil, List.length_map, List.replicate_succ, List.replicate_zero, List.cons_append, List.nil_append, List.map_cons, List.map_nil, Nat.reduceAdd, Nat.zero_add, ne_eq, not_true_eq_false, not_false_eq_true, decide_false, decide_true, Bool.or_self, Bool.or_false, Bool.false_or, Bool.and_self, Bool.false_eq_true, if_false, if_true, reduceIte, szOk_2, szOk_1, szOk_0, szOk_3, lk_left, lk_seed, lk_cells, lk_spot, pt_left, pt_spot, len_mL, mSet, true_and, and_true, List.getD_eq_getElem?_getD, Option.getD_some, seqOf_l, seqOf_t, ↓hIx_sq, ↓hLen_sq, seqOf_sq, ↓hTuple_sq, fz_fr2, gRep_ap, eq_self, gSorted_ap, gSortD_ap, gSortS_ap, ownSet_pl, eDict1_ap, eChain_ap, gInD_ap, gInS_ap, mPop_ap, mAdd_ap, eSet0_ap, sWhile_ap, itEnumX_ap, eM2_ap, eTR1_ap, eLR1_ap, hLtD, ll, la, sm, tn, sz, lr, rg, ev0, d1, sh_nil, sh_int, eqv_nat, szOk_3, szOk_2, Bool.not_true]
  · simp only [forL, ↓e1, ↓gu, ↓ea, ↓eb, ↓ec, ↓es, ↓ed, ↓ef, ↓lw, sNop_ap, row?_ap, eRowM_ap, sRowSub_ap, eRowLen_ap, eRowNil_ap, isUn_un, ixN3_0, ixN3_1, ixN3_2, gRowsD_ap, rowsOf_nil, rowsOf_cons, eMeth_ap, isL_l, isS_s, mAppend_ap, mExtend_ap, ownL_fr, gIn_ap, ownDct_fr, gT_apL, hSorted, hTuple, hList, hRev, sSeq_ap, sBrk_ap, sCnt_ap, sRet_ap, sRetN_ap, sDrop_ap, sIf_ap, sSet_ap, isMu_ap, sAsg_ap, gN_ap, gT_ap, gTs, sPar_ap, sSub_ap, own?_ap, putO_t, putO_f, sAug_ap, sFor_ap, eC_ap, eVar_ap, ePl_ap, eMv_ap, opS_ap, sNil_ap, sCons_ap, gOp_ap, vws_nil, vws_cons, vw_im, vw_fr, vw_frd, vw_frs, vw_frr, vw_pl, view_l, view_d, view_s, view_r, rs_d, rs_l, sl_im, sl_fr, fz_im, fz_fr, fzs_nil, fzs_cons, toD_l, toD_r, gTupD_ap, gLstD_ap, gIx_ap, gDGet_ap, ownDct_pl, keyOf_i, keyOf_s, gMul_ap, tB_ap, tNot_ap, tAnd_ap, tOr_ap, eNot_ap, eAnd_ap, eOr_ap, eIf_ap, tY_ap, eSl_ap, oN_ap, oI_ap, itOf_ap, itR1_ap, itR2_ap, eLc_ap, isIm_ap, eCall_ap, eCallM_ap, fnOf_ap, isPl_im, isPl_fr, eDspl_ap, sArgs_nil, sArgs_cons, mkD_nil, mkD_cons, keepMu_mu, keepMu_im, projS_nil, projS_cons, hAdd, hSub, hMul, hDiv, hMod, hPow, hNeg, hCmp, hEq, hNe, hIsN, hNotN, hIx, hLen, hInt, hAbs, hGcd, hMin, hMax, hCut, isi_ii, isi_ib, isi_tt, isi_ll, isM_un, isM_im, isM_ow, isM_mu, List.getElem?_cons_zero, List.getElem?_cons_succ, List.getElem?_nil, List.set_cons_zero, List.set_cons_succ, List.length_cons, List.length_nil, List.length_map, List.replicate_succ, List.replicate_zero, List.cons_append, List.nil_append, List.map_cons, List.map_nil, Nat.reduceAdd, Nat.zero_add, ne_eq, not_true_eq_false, not_false_eq_true, decide_false, decide_true, Bool.or_self, Bool.or_false, Bool.false_or, Bool.and_self, Bool.false_eq_true, if_false, if_true, reduceIte, szOk_2, szOk_1, szOk_0, szOk_3, lk_left, lk_seed, lk_cells, lk_spot, pt_left, pt_spot, len_mL, mSet, true_and, and_true, List.getD_eq_getElem?_getD, Option.getD_some, seqOf_l, seqOf_t, ↓hIx_sq, ↓hLen_sq, seqOf_sq, ↓hTuple_sq, fz_fr2, gRep_ap, eq_self, gSorted_ap, gSortD_ap, gSortS_ap, ownSet_pl, eDict1_ap, eChain_ap, gInD_ap, gInS_ap, mPop_ap, mAdd_ap, eSet0_ap, sWhile_ap, itEnumX_ap, eM2_ap, eTR1_ap, eLR1_ap, hLtD, ll, la, sm, tn, sz, lr, rg, ev0, d1, sh_nil, sh_int, eqv_nat, szOk_3, szOk_2, Bool.not_true]
end
/-! ### tables, the least one -/
section
open PySem.W (dataLt minD alike alikeAll)
theorem al_nD (l m : List Nat) : alike (.tuple (nD l)) (.tuple (nD m)) = true := by
  rw [nD_ints, nD_ints]
  unfold alike
  exact PySem.W.alike_ints _ _
theorem al_L5 (A B C P Q A' B' C' P' Q' : List Nat) : alike (.tuple (L5 A B C P Q)) (.tuple (L5 A' B' C' P' Q')) = true := by
  unfold L5
  rw [alike]
  simp only [alikeAll, al_nD, Bool.and_self]
theorem dp_L5 (A B C P Q : List Nat) : (PyData.tuple (L5 A B C P Q)).depth ≤ 3 := (pd_tuple (k := 2) fun x hx => by
  unfold L5 at hx
  have key : ∀ l : List Nat, pd 2 (.tuple (nD l)) := fun l => by
    have := pd_tuple (k := 1) (l := nD l) fun y hy => by
      rw [nD_ints] at hy
      obtain ⟨i, _, rfl⟩ := List.mem_map.mp hy
      exact pd_int 1 i
    exact this
  simp only [List.mem_cons, List.mem_nil_iff, or_false] at hx
  rcases hx with rfl | rfl | rfl | rfl | rfl <;> exact key _).2
theorem sh_L5 (A B C P Q : List Nat) : SeqAt.shaped (.tuple (L5 A B C P Q)) = true := pd_sh (k := 3) (pd_tuple (k := 2) fun x hx => by
  unfold L5 at hx
  have key : ∀ l : List Nat, pd 2 (.tuple (nD l)) := fun l => by
    have := pd_tuple (k := 1) (l := nD l) fun y hy => by
      rw [nD_ints] at hy
      obtain ⟨i, _, rfl⟩ := List.mem_map.mp hy
      exact pd_int 1 i
    exact this
  simp only [List.mem_cons, List.mem_nil_iff, or_false] at hx
  rcases hx with rfl | rfl | rfl | rfl | rfl <;> exact key _) (by decide)
theorem cmp_L5 (A B C P Q A' B' C' P' Q' : List Nat) : cmpOk (.tuple (L5 A B C P Q)) (.tuple (L5 A' B' C' P' Q')) = true := by
  unfold cmpOk
  rw [al_L5, Bool.true_and]
  have := dp_L5 A B C P Q
  rw [Bool.and_eq_true]
  exact ⟨rfl, by rw [Nat.ble_eq]; omega⟩
theorem eqv_nDT (l m : List Nat) : PyData.eqv (.tuple (nD l)) (.tuple (nD m)) = decide (l = m) := by
  have := eqv_nD l m
  simp only [PyData.eqv] at this ⊢
  exact this
theorem eqv_L5 (A B C P Q A' B' C' P' Q' : List Nat) : PyData.eqv (.tuple (L5 A B C P Q)) (.tuple (L5 A' B' C' P' Q')) = decide (A = A' ∧ B = B' ∧ C = C' ∧ P = P' ∧ Q = Q') := by
  unfold L5
  rw [PyData.eqv]
  simp only [PyData.eqvAll, eqv_nDT, Bool.and_true]
  by_cases h1 : A = A' <;> by_cases h2 : B = B' <;> by_cases h3 : C = C' <;> by_cases h4 : P = P' <;> by_cases h5 : Q = Q' <;> simp [h1, h2, h3, h4, h5]
theorem lt_irr (x : D) : dataLt x x = false := PyProof.Rows.lex_irrefl (O := PyProof.Rows.itemOrd) _
theorem lt_tr {x y z : D} (h : dataLt x y = true) (k : dataLt y z = true) : dataLt x z = true := PyProof.Rows.lex_trans (O := PyProof.Rows.itemOrd) _ _ _ h k
theorem lt_neg {x y z : D} (h : dataLt x z = true) : dataLt x y = true ∨ dataLt y z = true := PyProof.Rows.lex_negTrans (O := PyProof.Rows.itemOrd) _ _ _ h
theorem lt_tot {x y : D} (al : alike x y = true) (h : dataLt x y = false) (k : dataLt y x = false) : PyData.eqv x y = true := by
  have e := PyProof.Rows.lex_total (O := PyProof.Rows.itemOrd) _ _ h k
  cases q : PyData.eqv x y with
  | true => rfl
  | false =>
    have z := (PySem.W.toks_eqv x y al).2 q [.inl 0] [.inl 1]
    rw [e, PySem.W.lex_pre, PyProof.Rows.lex_irrefl] at z
    exact absurd z (by decide)
theorem minD_le : ∀ (xs : List D) (x y : D), y ∈ x :: xs → dataLt y (minD x xs) = false
  | [], x, y, h => by
    rw [List.mem_singleton.mp h]
    exact lt_irr x
  | z :: xs, x, y, h => by
    show dataLt y (minD (if dataLt z x = true then z else x) xs) = false
    by_cases c : dataLt z x = true
    · rw [if_pos c]
      have ih := minD_le xs z
      rcases List.mem_cons.mp h with rfl | h
      · cases q : dataLt y (minD z xs) with
        | false => rfl
        | true =>
          have := ih z List.mem_cons_self
          rw [lt_tr c q] at this
          exact this
      · exact ih y h
    · rw [if_neg c]
      have ih := minD_le xs x
      rcases List.mem_cons.mp h with rfl | h
      · exact ih y List.mem_cons_self
      · rcases List.mem_cons.mp h with rfl | h
        · cases q : dataLt y (minD x xs) with
          | false => rfl
          | true =>
            rcases lt_neg (y := x) q with z | z
            · exact absurd z c
            · rw [ih x List.mem_cons_self] at z; cases z
        · exact ih y (List.mem_cons_of_mem _ h)
/-- a table of five rows -/
def Tb (d : D) : Prop := ∃ A B C P Q : List Nat, d = .tuple (L5 A B C P Q)
theorem tb_eq {x y : D} (hx : Tb x) (hy : Tb y) (h : PyData.eqv x y = true) : x = y := by
  obtain ⟨A, B, C, P, Q, rfl⟩ := hx
  obtain ⟨A', B', C', P', Q', rfl⟩ := hy
  rw [eqv_L5] at h
  obtain ⟨rfl, rfl, rfl, rfl, rfl⟩ := of_decide_eq_true h
  rfl
theorem min_same {x y : D} {xs ys : List D} (hx : ∀ d ∈ x :: xs, Tb d) (hy : ∀ d ∈ y :: ys, Tb d) (h : ∀ d, d ∈ x :: xs ↔ d ∈ y :: ys) : minD x xs = minD y ys := by
  have m1 := minD_mem x xs
  have m2 := minD_mem y ys
  have l1 := minD_le xs x _ ((h _).mpr m2)
  have l2 := minD_le ys y _ ((h _).mp m1)
  refine tb_eq (hx _ m1) (hy _ m2) (lt_tot ?_ l2 l1)
  obtain ⟨A, B, C, P, Q, e⟩ := hx _ m1
  obtain ⟨A', B', C', P', Q', e'⟩ := hy _ m2
  rw [e, e']
  exact al_L5 ..
theorem allAl_tb {l : List D} (h : ∀ d ∈ l, Tb d) : allAl l = true := by
  unfold allAl
  rw [Bool.and_eq_true, Bool.and_eq_true, Nat.ble_eq, List.all_eq_true, List.all_eq_true]
  refine ⟨⟨fun x hx => ?_, fun x hx => ?_⟩, ?_⟩
  · rw [List.all_eq_true]
    intro y hy
    obtain ⟨A, B, C, P, Q, e⟩ := h x hx
    obtain ⟨A', B', C', P', Q', e'⟩ := h y hy
    rw [e, e']
    exact al_L5 ..
  · obtain ⟨A, B, C, P, Q, e⟩ := h x hx
    rw [e]; rfl
  · induction l with
    | nil => simp [PyData.depthAll]
    | cons x l ih =>
      have h1 : x.depth ≤ 60 := by
        obtain ⟨A, B, C, P, Q, e⟩ := h x List.mem_cons_self
        rw [e]
        have := dp_L5 A B C P Q
        omega
      have h2 := ih fun d hd => h d (List.mem_cons_of_mem _ hd)
      simp only [PyData.depthAll]
      omega
/-! the tables along the walks -/
def tbl (n : Nat) (A B C P Q : List Nat) (f : Nat) : D := .tuple (L5 (renC (wlk A B C n f) A) (renC (wlk A B C n f) B) (renC (wlk A B C n f) C) (renO (wlk A B C n f) P) (renO (wlk A B C n f) Q))
theorem tbl_tb (n : Nat) (A B C P Q : List Nat) (f : Nat) : Tb (tbl n A B C P Q f) := ⟨_, _, _, _, _, rfl⟩
/-- the least of them -/
def minT (n : Nat) (A B C P Q : List Nat) : D := minD (tbl n A B C P Q 0) ((List.range' 1 (n - 1)).map (tbl n A B C P Q))
theorem tbs_mem {n : Nat} {A B C P Q : List Nat} (hn : 1 ≤ n) (d : D) : d ∈ tbl n A B C P Q 0 :: (List.range' 1 (n - 1)).map (tbl n A B C P Q) ↔ ∃ f, f < n ∧ d = tbl n A B C P Q f := by
  rw [List.mem_cons, List.mem_map]
  constructor
  · rintro (rfl | ⟨f, hf, rfl⟩)
    · exact ⟨0, by omega, rfl⟩
    · have := List.mem_range'_1.mp hf
      exact ⟨f, by omega, rfl⟩
  · rintro ⟨f, hf, rfl⟩
    by_cases e : f = 0
    · subst e; exact .inl rfl
    · exact .inr ⟨f, List.mem_range'_1.mpr (by omega), rfl⟩
section
variable {n : Nat} {A B C P Q : List Nat}
theorem minT_at (hn : 1 ≤ n) : ∃ f, f < n ∧ minT n A B C P Q = tbl n A B C P Q f := (tbs_mem hn _).mp (minD_mem _ _)
theorem tbl_ren (F : FI n A B C) {L : List Nat} (h : IsL n L) {f : Nat} (hf : f < n) : tbl n (renC L A) (renC L B) (renC L C) (renO L P) (renO L Q) (L.idxOf f) = tbl n A B C P Q f := by
  have w := wlk_isL F hf
  have e := h.map_inv w
  have k : IsL n ((wlk A B C n f).map L.idxOf) := h.mapIx w
  unfold tbl
  rw [wlk_ren F h hf, renC_comp h k (fun i hi => (F.ra i hi).1), renC_comp h k (fun i hi => (F.rb i hi).1), renC_comp h k (fun i hi => (F.rc i hi).1), renO_comp h k, renO_comp h k, e]
/-- the least table is the same however the flags are numbered -/
theorem minT_ren (F : FI n A B C) {L : List Nat} (h : IsL n L) (hn : 1 ≤ n) : minT n (renC L A) (renC L B) (renC L C) (renO L P) (renO L Q) = minT n A B C P Q := by
  refine min_same (fun d hd => ?_) (fun d hd => ?_) fun d => ?_
  · obtain ⟨f, _, rfl⟩ := (tbs_mem hn d).mp hd
    exact tbl_tb ..
  · obtain ⟨f, _, rfl⟩ := (tbs_mem hn d).mp hd
    exact tbl_tb ..
  · rw [tbs_mem hn, tbs_mem hn]
    constructor
    · rintro ⟨f, hf, rfl⟩
      refine ⟨gt L f, h.gl hf, ?_⟩
      rw [← tbl_ren F h (h.gl hf), h.ig hf]
    · rintro ⟨f, hf, rfl⟩
      exact ⟨L.idxOf f, h.il hf, (tbl_ren F h hf).symm⟩
/-! least, _law_least -/
theorem one_tbl (F : FI n A B C) (hn : n ≤ 800) (hP : P.length = n) (hQ : Q.length = n) {f : Nat} (hf : f < n) : f_renumbered [.im (.tuple (L5 A B C P Q)), .im (.tuple (nD (wlk A B C n f)))] = some (.im (tbl n A B C P Q f), [.un, .un]) :=
  renumbered_eq F hn hP hQ (wlk_isL F hf) true
theorem least_loop (F : FI n A B C) (hn : n ≤ 800) (hP : P.length = n) (hQ : Q.length = n) : ∀ (l : List Nat) (a : D) (s2 s3 : Sl), isM s2 = false → isM s3 = false → Tb a → (∀ x ∈ l, x < n) →
    ∃ t2 t3, forL (gN 2) leastBody (nD l) [.im (.tuple (L5 A B C P Q)), .im a, s2, s3] = some (.nx [.im (.tuple (L5 A B C P Q)), .im (minD a (l.map (tbl n A B C P Q))), t2, t3])
  | [], a, s2, s3, _, _, _, _ => ⟨s2, s3, rfl⟩
  | f :: l, a, s2, s3, h2, h3, ha, h => by
    have hf := h f List.mem_cons_self
    have ew := walk_eq F hn (.tuple (nD P)) (.tuple (nD Q)) hf
    have el : (.tuple [.tuple (nD A), .tuple (nD B), .tuple (nD C), .tuple (nD P), .tuple (nD Q)] : D) = .tuple (L5 A B C P Q) := rfl
    rw [el] at ew
    have er := one_tbl F hn hP hQ hf
    have ck : cmpOk (tbl n A B C P Q f) a = true := by
      obtain ⟨A', B', C', P', Q', rfl⟩ := ha
      exact cmp_L5 ..
    have em : minD a (tbl n A B C P Q f :: l.map (tbl n A B C P Q)) = minD (if dataLt (tbl n A B C P Q f) a = true then tbl n A B C P Q f else a) (l.map (tbl n A B C P Q)) := rfl
    rw [nD_cons, List.map_cons, em]
    by_cases c : dataLt (tbl n A B C P Q f) a = true
    · obtain ⟨t2, t3, ih⟩ := least_loop F hn hP hQ l (tbl n A B C P Q f) (.im (.int (f : Nat))) (.im (tbl n A B C P Q f)) rfl rfl (tbl_tb ..) fun x hx => h x (List.mem_cons_of_mem _ hx)
      refine ⟨t2, t3, ?_⟩
      rw [if_pos c, ← ih]
      simp only [forL, ↓ew, ↓er, sNop_ap, row?_ap, eRowM_ap, sRowSub_ap, eRowLen_ap, eRowNil_ap, isUn_un, ixN3_0, ixN3_1, ixN3_2, gRowsD_ap, rowsOf_nil, rowsOf_cons, eMeth_ap, isL_l, isS_s, mAppend_ap, mExtend_ap, ownL_fr, gIn_ap, ownDct_fr, gT_apL, hSorted, hTuple, hList, hRev, sSeq_ap, sBrk_ap, sCnt_ap, sRet_ap, sRetN_ap, sDrop_ap, sIf_ap, sSet_ap, isMu_ap, sAsg_ap, gN_ap, gT_ap, gTs, sPar_ap, sSub_ap, own?_ap, putO_t, putO_f, sAug_ap, sFor_ap, eC_ap, eVar_ap, ePl_ap, eMv_ap, opS_ap, sNil_ap, sCons_ap, gOp_ap, vws_nil, vws_cons, vw_im, vw_fr, vw_frd, vw_frs, vw_frr, vw_pl, view_l, view_d, view_s, view_r, rs_d, rs_l, sl_im, sl_fr, fz_im, fz_fr, fzs_nil, fzs_cons, toD_l, toD_r, gTupD_ap, gLstD_ap, gIx_ap, gDGet_ap, ownDct_pl, keyOf_i, keyOf_s, gMul_ap, tB_ap, tNot_ap, tAnd_ap, tOr_ap, eNot_ap, eAnd_ap, eOr_ap, eIf_ap, tY_ap, eSl_ap, oN_ap, oI_ap, itOf_ap, itR1_ap, itR2_ap, eLc_ap, isIm_ap, eCall_ap, eCallM_ap, fnOf_ap, isPl_im, isPl_fr, eDspl_ap, sArgs_nil, sArgs_cons, mkD_nil, mkD_cons, keepMu_mu, keepMu_im, projS_nil, projS_cons, hAdd, hSub, hMul, hDiv, hMod, hPow, hNeg, hCmp, hEq, hNe, hIsN, hNotN, hIx, hLen, hInt, hAbs, hGcd, hMin, hMax, hCut, isi_ii, isi_ib, isi_tt, isi_ll, isM_un, isM_im, isM_ow, isM_mu, List.getElem?_cons_zero, List.getElem?_cons_succ, List.getElem?_nil, List.set_cons_zero, List.set_cons_succ, List.length_cons, List.length_nil, List.length_map, List.replicate_succ, List.replicate_zero, List.cons_append, List.nil_append, List.map_cons, List.map_nil, Nat.reduceAdd, Nat.zero_add, ne_eq, not_true_eq_false, not_false_eq_true, decide_false, decide_true, Bool.or_self, Bool.or_false, Bool.false_or, Bool.and_self, Bool.false_eq_true, if_false, if_true, reduceIte, szOk_2, szOk_1, szOk_0, szOk_3, lk_left, lk_seed, lk_cells, lk_spot, pt_left, pt_spot, len_mL, mSet, true_and, and_true, List.getD_eq_getElem?_getD, Option.getD_some, seqOf_l, seqOf_t, ↓hIx_sq, ↓hLen_sq, seqOf_sq, ↓hTuple_sq, fz_fr2, gRep_ap, eq_self, gSorted_ap, gSortD_ap, gSortS_ap, ownSet_pl, eDict1_ap, eChain_ap, gInD_ap, gInS_ap, mPop_ap, mAdd_ap, eSet0_ap, sWhile_ap, itEnumX_ap, eM2_ap, eTR1_ap, eLR1_ap, hLtD, h2, h3, ck, c]
    · obtain ⟨t2, t3, ih⟩ := least_loop F hn hP hQ l a (.im (.int (f : Nat))) (.im (tbl n A B C P Q f)) rfl rfl ha fun x hx => h x (List.mem_cons_of_mem _ hx)
      refine ⟨t2, t3, ?_⟩
      have c' : dataLt (tbl n A B C P Q f) a = false := by
        cases q : dataLt (tbl n A B C P Q f) a with
        | true => exact absurd q c
        | false => rfl
      rw [if_neg c, ← ih]
      simp only [forL, ↓ew, ↓er, sNop_ap, row?_ap, eRowM_ap, sRowSub_ap, eRowLen_ap, eRowNil_ap, isUn_un, ixN3_0, ixN3_1, ixN3_2, gRowsD_ap, rowsOf_nil, rowsOf_cons, eMeth_ap, isL_l, isS_s, mAppend_ap, mExtend_ap, ownL_fr, gIn_ap, ownDct_fr, gT_apL, hSorted, hTuple, hList, hRev, sSeq_ap, sBrk_ap, sCnt_ap, sRet_ap, sRetN_ap, sDrop_ap, sIf_ap, sSet_ap, isMu_ap, sAsg_ap, gN_ap, gT_ap, gTs, sPar_ap, sSub_ap, own?_ap, putO_t, putO_f, sAug_ap, sFor_ap, eC_ap, eVar_ap, ePl_ap, eMv_ap, opS_ap, sNil_ap, sCons_ap, gOp_ap, vws_nil, vws_cons, vw_im, vw_fr, vw_frd, vw_frs, vw_frr, vw_pl, view_l, view_d, view_s, view_r, rs_d, rs_l, sl_im, sl_fr, fz_im, fz_fr, fzs_nil, fzs_cons, toD_l, toD_r, gTupD_ap, gLstD_ap, gIx_ap, gDGet_ap, ownDct_pl, keyOf_i, keyOf_s, gMul_ap, tB_ap, tNot_ap, tAnd_ap, tOr_ap, eNot_ap, eAnd_ap, eOr_ap, eIf_ap, tY_ap, eSl_ap, oN_ap, oI_ap, itOf_ap, itR1_ap, itR2_ap, eLc_ap, isIm_ap, eCall_ap, eCallM_ap, fnOf_ap, isPl_im, isPl_fr, eDspl_ap, sArgs_nil, sArgs_cons, mkD_nil, mkD_cons, keepMu_mu, keepMu_im, projS_nil, projS_cons, hAdd, hSub, hMul, hDiv, hMod, hPow, hNeg, hCmp, hEq, hNe, hIsN, hNotN, hIx, hLen, hInt, hAbs, hGcd, hMin, hMax, hCut, isi_ii, isi_ib, isi_tt, isi_ll, isM_un, isM_im, isM_ow, isM_mu, List.getElem?_cons_zero, List.getElem?_cons_succ, List.getElem?_nil, List.set_cons_zero, List.set_cons_succ, List.length_cons, List.length_nil, List.length_map, List.replicate_succ, List.replicate_zero, List.cons_append, List.nil_append, List.map_cons, List.map_nil, Nat.reduceAdd, Nat.zero_add, ne_eq, not_true_eq_false, not_false_eq_true, decide_false, decide_true, Bool.or_self, Bool.or_false, Bool.false_or, Bool.and_self, Bool.false_eq_true, if_false, if_true, reduceIte, szOk_2, szOk_1, szOk_0, szOk_3, lk_left, lk_seed, lk_cells, lk_spot, pt_left, pt_spot, len_mL, mSet, true_and, and_true, List.getD_eq_getElem?_getD, Option.getD_some, seqOf_l, seqOf_t, ↓hIx_sq, ↓hLen_sq, seqOf_sq, ↓hTuple_sq, fz_fr2, gRep_ap, eq_self, gSorted_ap, gSortD_ap, gSortS_ap, ownSet_pl, eDict1_ap, eChain_ap, gInD_ap, gInS_ap, mPop_ap, mAdd_ap, eSet0_ap, sWhile_ap, itEnumX_ap, eM2_ap, eTR1_ap, eLR1_ap, hLtD, h2, h3, ck, c']
theorem rng1 (m : Nat) : rngD 1 m = nD (List.range' 1 m) := by
  unfold rngD nD
  rw [List.range'_eq_map_range, List.map_map]
  refine List.map_congr_left fun i _ => ?_
  show PyData.int (1 + (i : Int)) = PyData.int ((1 + i : Nat) : Int)
  rw [Int.natCast_add]; rfl
theorem least_eq (F : FI n A B C) (hn1 : 1 ≤ n) (hn : n ≤ 800) (hP : P.length = n) (hQ : Q.length = n) : f_least [.im (.tuple (L5 A B C P Q))] = some (.im (minT n A B C P Q), [.un]) := by
  have ew := walk_eq F hn (.tuple (nD P)) (.tuple (nD Q)) (f := 0) (by omega)
  have el : (.tuple [.tuple (nD A), .tuple (nD B), .tuple (nD C), .tuple (nD P), .tuple (nD Q)] : D) = .tuple (L5 A B C P Q) := rfl
  have o0 : ((0 : Nat) : Int) = 0 := rfl
  rw [el, o0] at ew
  have er := one_tbl F hn hP hQ (f := 0) (by omega)
  obtain ⟨t2, t3, e⟩ := least_loop F hn hP hQ (List.range' 1 (n - 1)) (tbl n A B C P Q 0) .un .un rfl rfl (tbl_tb ..) fun x hx => by
    have := List.mem_range'_1.mp hx
    omega
  rw [← rng1] at e
  have a0 : atI (L5 A B C P Q) 0 = some (.tuple (nD A)) := rfl
  have la : (nD A).length = n := by rw [nD_len, F.la]
  have sm : small62 ((n : Nat) : Int) = true := small62_b (by omega) (by omega)
  have sm1 : small62 1 = true := by decide
  have tn : ((n : Nat) - (1 : Int)).toNat = n - 1 := by omega
  unfold f_least b_least minT
  simp only [↓ew, ↓er, ↓e, sNop_ap, row?_ap, eRowM_ap, sRowSub_ap, eRowLen_ap, eRowNil_ap, isUn_un, ixN3_0, ixN3_1, ixN3_2, gRowsD_ap, rowsOf_nil, rowsOf_cons, eMeth_ap, isL_l, isS_s, mAppend_ap, mExtend_ap, ownL_fr, gIn_ap, ownDct_fr, gT_apL, hSorted, hTuple, hList, hRev, sSeq_ap, sBrk_ap, sCnt_ap, sRet_ap, sRetN_ap, sDrop_ap, sIf_ap, sSet_ap, isMu_ap, sAsg_ap, gN_ap, gT_ap, gTs, sPar_ap, sSub_ap, own?_ap, putO_t, putO_f, sAug_ap, sFor_ap, eC_ap, eVar_ap, ePl_ap, eMv_ap, opS_ap, sNil_ap, sCons_ap, gOp_ap, vws_nil, vws_cons, vw_im, vw_fr, vw_frd, vw_frs, vw_frr, vw_pl, view_l, view_d, view_s, view_r, rs_d, rs_l, sl_im, sl_fr, fz_im, fz_fr, fzs_nil, fzs_cons, toD_l, toD_r, gTupD_ap, gLstD_ap, gIx_ap, gDGet_ap, ownDct_pl, keyOf_i, keyOf_s, gMul_ap, tB_ap, tNot_ap, tAnd_ap, tOr_ap, eNot_ap, eAnd_ap, eOr_ap, eIf_ap, tY_ap, eSl_ap, oN_ap, oI_ap, itOf_ap, itR1_ap, itR2_ap, eLc_ap, isIm_ap, eCall_ap, eCallM_ap, fnOf_ap, isPl_im, isPl_fr, eDspl_ap, sArgs_nil, sArgs_cons, mkD_nil, mkD_cons, keepMu_mu, keepMu_im, projS_nil, projS_cons, hAdd, hSub, hMul, hDiv, hMod, hPow, hNeg, hCmp, hEq, hNe, hIsN, hNotN, hIx, hLen, hInt, hAbs, hGcd, hMin, hMax, hCut, isi_ii, isi_ib, isi_tt, isi_ll, isM_un, isM_im, isM_ow, isM_mu, List.getElem?_cons_zero, List.getElem?_cons_succ, List.getElem?_nil, List.set_cons_zero, List.set_cons_succ, List.length_cons, List.length_nil, List.length_map, List.replicate_succ, List.replicate_zero, List.cons_append, List.nil_append, List.map_cons, List.map_nil, Nat.reduceAdd, Nat.zero_add, ne_eq, not_true_eq_false, not_false_eq_true, decide_false, decide_true, Bool.or_self, Bool.or_false, Bool.false_or, Bool.and_self, Bool.false_eq_true, if_false, if_true, reduceIte, szOk_2, szOk_1, szOk_0, szOk_3, lk_left, lk_seed, lk_cells, lk_spot, pt_left, pt_spot, len_mL, mSet, true_and, and_true, List.getD_eq_getElem?_getD, Option.getD_some, seqOf_l, seqOf_t, ↓hIx_sq, ↓hLen_sq, seqOf_sq, ↓hTuple_sq, fz_fr2, gRep_ap, eq_self, gSorted_ap, gSortD_ap, gSortS_ap, ownSet_pl, eDict1_ap, eChain_ap, gInD_ap, gInS_ap, mPop_ap, mAdd_ap, eSet0_ap, sWhile_ap, itEnumX_ap, eM2_ap, eTR1_ap, eLR1_ap, hLtD, a0, la, sm, sm1, tn]
theorem lleast_lc (F : FI n A B C) (hn : n ≤ 800) (hP : P.length = n) (hQ : Q.length = n) : ∀ l : List Nat, (∀ x ∈ l, x < n) →
    lcL 1 tY (eCall 2 f_law_listed (sCons (eVar 0) (sCons (eCall 2 f_law_walk (sCons (eVar 0) (sCons (eVar 1) sNil))) sNil))) (nD l) [.im (.tuple (L5 A B C P Q)), .un] = some (l.map (tbl n A B C P Q), [.im (.tuple (L5 A B C P Q)), .un])
  | [], _ => rfl
  | f :: l, h => by
    have ih := lleast_lc F hn hP hQ l fun x hx => h x (List.mem_cons_of_mem _ hx)
    have hf := h f List.mem_cons_self
    have ew := law_walk_eq F hn (.tuple (nD P)) (.tuple (nD Q)) hf
    have el : (.tuple [.tuple (nD A), .tuple (nD B), .tuple (nD C), .tuple (nD P), .tuple (nD Q)] : D) = .tuple (L5 A B C P Q) := rfl
    rw [el] at ew
    have er : f_law_listed [.im (.tuple (L5 A B C P Q)), .im (.list (nD (wlk A B C n f)))] = some (.im (tbl n A B C P Q f), [.un, .un]) := listed_eq F hn hP hQ (wlk_isL F hf) false
    simp only [nD_cons, List.map_cons, lcL, ↓ew, ↓er, sNop_ap, row?_ap, eRowM_ap, sRowSub_ap, eRowLen_ap, eRowNil_ap, isUn_un, ixN3_0, ixN3_1, ixN3_2, gRowsD_ap, rowsOf_nil, rowsOf_cons, eMeth_ap, isL_l, isS_s, mAppend_ap, mExtend_ap, ownL_fr, gIn_ap, ownDct_fr, gT_apL, hSorted, hTuple, hList, hRev, sSeq_ap, sBrk_ap, sCnt_ap, sRet_ap, sRetN_ap, sDrop_ap, sIf_ap, sSet_ap, isMu_ap, sAsg_ap, gN_ap, gT_ap, gTs, sPar_ap, sSub_ap, own?_ap, putO_t, putO_f, sAug_ap, sFor_ap, eC_ap, eVar_ap, ePl_ap, eMv_ap, opS_ap, sNil_ap, sCons_ap, gOp_ap, vws_nil, vws_cons, vw_im, vw_fr, vw_frd, vw_frs, vw_frr, vw_pl, view_l, view_d, view_s, view_r, rs_d, rs_l, sl_im, sl_fr, fz_im, fz_fr, fzs_nil, fzs_cons, toD_l, toD_r, gTupD_ap, gLstD_ap, gIx_ap, gDGet_ap, ownDct_pl, keyOf_i, keyOf_s, gMul_ap, tB_ap, tNot_ap, tAnd_ap, tOr_ap, eNot_ap, eAnd_ap, eOr_ap, eIf_ap, tY_ap, eSl_ap, oN_ap, oI_ap, itOf_ap, itR1_ap, itR2_ap, eLc_ap, isIm_ap, eCall_ap, eCallM_ap, fnOf_ap, isPl_im, isPl_fr, eDspl_ap, sArgs_nil, sArgs_cons, mkD_nil, mkD_cons, keepMu_mu, keepMu_im, projS_nil, projS_cons, hAdd, hSub, hMul, hDiv, hMod, hPow, hNeg, hCmp, hEq, hNe, hIsN, hNotN, hIx, hLen, hInt, hAbs, hGcd, hMin, hMax, hCut, isi_ii, isi_ib, isi_tt, isi_ll, isM_un, isM_im, isM_ow, isM_mu, List.getElem?_cons_zero, List.getElem?_cons_succ, List.getElem?_nil, List.set_cons_zero, List.set_cons_succ, List.length_cons, List.length_nil, List.length_map, List.replicate_succ, List.replicate_zero, List.cons_append, List.nil_append, List.map_cons, List.map_nil, Nat.reduceAdd, Nat.zero_add, ne_eq, not_true_eq_false, not_false_eq_true, decide_false, decide_true, Bool.or_self, Bool.or_false, Bool.false_or, Bool.and_self, Bool.false_eq_true, if_false, if_true, reduceIte, szOk_2, szOk_1, szOk_0, szOk_3, lk_left, lk_seed, lk_cells, lk_spot, pt_left, pt_spot, len_mL, mSet, true_and, and_true, List.getD_eq_getElem?_getD, Option.getD_some, seqOf_l, seqOf_t, ↓hIx_sq, ↓hLen_sq, seqOf_sq, ↓hTuple_sq, fz_fr2, gRep_ap, eq_self, gSorted_ap, gSortD_ap, gSortS_ap, ownSet_pl, eDict1_ap, eChain_ap, gInD_ap, gInS_ap, mPop_ap, mAdd_ap, eSet0_ap, sWhile_ap, itEnumX_ap, eM2_ap, eTR1_ap, eLR1_ap, hLtD, ih]
theorem law_least_eq (F : FI n A B C) (hn1 : 1 ≤ n) (hn : n ≤ 800) (hP : P.length = n) (hQ : Q.length = n) : f_law_least [.im (.tuple (L5 A B C P Q))] = some (.im (minT n A B C P Q), [.un]) := by
  have e := lleast_lc F hn hP hQ (List.range n) fun x hx => List.mem_range.mp hx
  rw [← rngD_nD] at e
  have a0 : atI (L5 A B C P Q) 0 = some (.tuple (nD A)) := rfl
  have la : (nD A).length = n := by rw [nD_len, F.la]
  have sm : small62 ((n : Nat) : Int) = true := small62_b (by omega) (by omega)
  have tn : ((n : Nat) : Int).toNat = n := Int.toNat_natCast _
  have em : (List.range n).map (tbl n A B C P Q) = tbl n A B C P Q 0 :: (List.range' 1 (n - 1)).map (tbl n A B C P Q) := by
    obtain ⟨k, rfl⟩ : ∃ k, n = k + 1 := ⟨n - 1, by omega⟩
    rw [List.range_eq_range', List.range'_succ, List.map_cons]
    rfl
  rw [em] at e
  have al := allAl_tb (l := tbl n A B C P Q 0 :: (List.range' 1 (n - 1)).map (tbl n A B C P Q)) fun d hd => by
    obtain ⟨f, _, rfl⟩ := (tbs_mem hn1 d).mp hd
    exact tbl_tb ..
  have hm : hMinL [.list (tbl n A B C P Q 0 :: (List.range' 1 (n - 1)).map (tbl n A B C P Q))] = some (.d (minT n A B C P Q)) := by
    unfold hMinL minT
    simp only [al, if_true]
  have sz : szOk (rngD 0 n).length = true := szOk_le (by rw [rngD_len]; omega)
  unfold f_law_least b_law_least
  simp only [↓e, ↓hm, sNop_ap, row?_ap, eRowM_ap, sRowSub_ap, eRowLen_ap, eRowNil_ap, isUn_un, ixN3_0, ixN3_1, ixN3_2, gRowsD_ap, rowsOf_nil, rowsOf_cons, eMeth_ap, isL_l, isS_s, mAppend_ap, mExtend_ap, ownL_fr, gIn_ap, ownDct_fr, gT_apL, hSorted, hTuple, hList, hRev, sSeq_ap, sBrk_ap, sCnt_ap, sRet_ap, sRetN_ap, sDrop_ap, sIf_ap, sSet_ap, isMu_ap, sAsg_ap, gN_ap, gT_ap, gTs, sPar_ap, sSub_ap, own?_ap, putO_t, putO_f, sAug_ap, sFor_ap, eC_ap, eVar_ap, ePl_ap, eMv_ap, opS_ap, sNil_ap, sCons_ap, gOp_ap, vws_nil, vws_cons, vw_im, vw_fr, vw_frd, vw_frs, vw_frr, vw_pl, view_l, view_d, view_s, view_r, rs_d, rs_l, sl_im, sl_fr, fz_im, fz_fr, fzs_nil, fzs_cons, toD_l, toD_r, gTupD_ap, gLstD_ap, gIx_ap, gDGet_ap, ownDct_pl, keyOf_i, keyOf_s, gMul_ap, tB_ap, tNot_ap, tAnd_ap, tOr_ap, eNot_ap, eAnd_ap, eOr_ap, eIf_ap, tY_ap, eSl_ap, oN_ap, oI_ap, itOf_ap, itR1_ap, itR2_ap, eLc_ap, isIm_ap, eCall_ap, eCallM_ap, fnOf_ap, isPl_im, isPl_fr, eDspl_ap, sArgs_nil, sArgs_cons, mkD_nil, mkD_cons, keepMu_mu, keepMu_im, projS_nil, projS_cons, hAdd, hSub, hMul, hDiv, hMod, hPow, hNeg, hCmp, hEq, hNe, hIsN, hNotN, hIx, hLen, hInt, hAbs, hGcd, hMin, hMax, hCut, isi_ii, isi_ib, isi_tt, isi_ll, isM_un, isM_im, isM_ow, isM_mu, List.getElem?_cons_zero, List.getElem?_cons_succ, List.getElem?_nil, List.set_cons_zero, List.set_cons_succ, List.length_cons, List.length_nil, List.length_map, List.replicate_succ, List.replicate_zero, List.cons_append, List.nil_append, List.map_cons, List.map_nil, Nat.reduceAdd, Nat.zero_add, ne_eq, not_true_eq_false, not_false_eq_true, decide_false, decide_true, Bool.or_self, Bool.or_false, Bool.false_or, Bool.and_self, Bool.false_eq_true, if_false, if_true, reduceIte, szOk_2, szOk_1, szOk_0, szOk_3, lk_left, lk_seed, lk_cells, lk_spot, pt_left, pt_spot, len_mL, mSet, true_and, and_true, List.getD_eq_getElem?_getD, Option.getD_some, seqOf_l, seqOf_t, ↓hIx_sq, ↓hLen_sq, seqOf_sq, ↓hTuple_sq, fz_fr2, gRep_ap, eq_self, gSorted_ap, gSortD_ap, gSortS_ap, ownSet_pl, eDict1_ap, eChain_ap, gInD_ap, gInS_ap, mPop_ap, mAdd_ap, eSet0_ap, sWhile_ap, itEnumX_ap, eM2_ap, eTR1_ap, eLR1_ap, hLtD, a0, la, sm, tn, sz]
end
end
/-! ### a drawn numbering -/
theorem filt_len : ∀ {l : List Nat} {x : Nat}, l.Nodup → x ∈ l → (l.filter fun i => decide (i ≠ x)).length + 1 = l.length
  | [], x, _, h => by simp at h
  | y :: l, x, nd, h => by
    obtain ⟨n1, n2⟩ := List.nodup_cons.mp nd
    by_cases e : y = x
    · subst e
      have : l.filter (fun i => decide (i ≠ y)) = l := List.filter_eq_self.mpr fun a ha => decide_eq_true fun z => n1 (z ▸ ha)
      rw [List.filter_cons]
      simp only [ne_eq, not_true_eq_false, decide_false, Bool.false_eq_true, if_false, List.length_cons]
      rw [this]
    · have hx : x ∈ l := by
        rcases List.mem_cons.mp h with h | h
        · exact absurd h.symm e
        · exact h
      have := filt_len n2 hx
      rw [List.filter_cons, if_pos (decide_eq_true e), List.length_cons, List.length_cons, this]
structure ShI (n k : Nat) (left lst : List Nat) : Prop where
  n1 : left.Nodup
  n2 : lst.Nodup
  l1 : ∀ x ∈ left, x < n
  l2 : ∀ x ∈ lst, x < n
  dj : ∀ x ∈ left, x ∉ lst
  e1 : left.length + k = n
  e2 : lst.length = k
theorem ShI.first (n : Nat) : ShI n 0 (List.range n) [] := ⟨List.nodup_range, by simp, fun x hx => List.mem_range.mp hx, fun x hx => by simp at hx, fun x _ hx => by simp at hx, by rw [List.length_range]; rfl, rfl⟩
theorem ShI.next {n k : Nat} {left lst : List Nat} (s : ShI n k left lst) {x : Nat} (hx : x ∈ left) : ShI n (k + 1) (left.filter fun i => decide (i ≠ x)) (lst ++ [x]) := by
  have hl := filt_len s.n1 hx
  have e1 := s.e1
  refine ⟨s.n1.filter _, List.nodup_append.mpr ⟨s.n2, by simp, fun a ha b hb e => s.dj x hx (by rw [List.mem_singleton.mp hb] at e; exact e ▸ ha)⟩, fun y hy => s.l1 y (List.mem_filter.mp hy).1, fun y hy => ?_, fun y hy hz => ?_, by omega, by rw [List.length_append, s.e2]; rfl⟩
  · rcases List.mem_append.mp hy with h | h
    · exact s.l2 y h
    · rw [List.mem_singleton.mp h]; exact s.l1 x hx
  · obtain ⟨h1, h2⟩ := List.mem_filter.mp hy
    rcases List.mem_append.mp hz with h | h
    · exact s.dj y h1 h
    · exact of_decide_eq_true h2 (List.mem_singleton.mp h)
theorem ShI.last {n : Nat} {left lst : List Nat} (s : ShI n n left lst) : IsL n lst := ⟨s.e2, s.n2, s.l2⟩
theorem of_nD {q : Int} {m : O} (g : Good q m) (hq : q < 100000000) {l : List Nat} (h0 : l ≠ []) (hl : l.length ≤ 900) : ∃ (x : Nat) (m' : O), x ∈ l ∧ f_law_of [.mu m, .im (.list (nD l))] = some (.im (.int (x : Nat)), [.mu m', .un]) ∧ Good (q + 1) m' := by
  obtain ⟨i, m1, hi, e1, g1⟩ := of_eq (l := nD l) g (by omega) (fun z => h0 (by
    cases l with
    | nil => rfl
    | cons a b => cases z)) (by rw [nD_len]; omega)
  rw [nD_len] at hi
  have e : (nD l).getD i .none = .int (l[i] : Nat) := by
    unfold nD
    rw [List.getD_eq_getElem?_getD, List.getElem?_map, List.getElem?_eq_getElem hi]
    rfl
  rw [e] at e1
  exact ⟨l[i], m1, List.getElem_mem hi, e1, g1⟩
theorem sh_filt (s0 s1 s2 s3 s4 : Sl) (x : Nat) : ∀ l : List Nat, lcL 6 (tB' (opS (gOp hNe) (sCons (ePl 6) (sCons (ePl 5) sNil)))) (eVar 6) (nD l) [s0, s1, s2, s3, s4, .im (.int (x : Nat)), .un] =
    some (nD (l.filter fun i => decide (i ≠ x)), [s0, s1, s2, s3, s4, .im (.int (x : Nat)), .un])
  | [] => rfl
  | i :: l => by
    have ih := sh_filt s0 s1 s2 s3 s4 x l
    by_cases h : i = x
    · have d1 : decide (i = x) = true := decide_eq_true h
      have d2 : decide (i ≠ x) = false := decide_eq_false fun z => z h
      simp only [nD_cons, lcL, sNop_ap, row?_ap, eRowM_ap, sRowSub_ap, eRowLen_ap, eRowNil_ap, isUn_un, ixN3_0, ixN3_1, ixN3_2, gRowsD_ap, rowsOf_nil, rowsOf_cons, eMeth_ap, isL_l, isS_s, mAppend_ap, mExtend_ap, ownL_fr, gIn_ap, ownDct_fr, gT_apL, hSorted, hTuple, hList, hRev, sSeq_ap, sBrk_ap, sCnt_ap, sRet_ap, sRetN_ap, sDrop_ap, sIf_ap, sSet_ap, isMu_ap, sAsg_ap, gN_ap, gT_ap, gTs, sPar_ap, sSub_ap, own?_ap, putO_t, putO_f, sAug_ap, sFor_ap, eC_ap, eVar_ap, ePl_ap, eMv_ap, opS_ap, sNil_ap, sCons_ap, gOp_ap, vws_nil, vws_cons, vw_im, vw_fr, vw_frd, vw_frs, vw_frr, vw_pl, view_l, view_d, view_s, view_r, rs_d, rs_l, sl_im, sl_fr, fz_im, fz_fr, fzs_nil, fzs_cons, toD_l, toD_r, gTupD_ap, gLstD_ap, gIx_ap, gDGet_ap, ownDct_pl, keyOf_i, keyOf_s, gMul_ap, tB_ap, tNot_ap, tAnd_ap, tOr_ap, eNot_ap, eAnd_ap, eOr_ap, eIf_ap, tY_ap, eSl_ap, oN_ap, oI_ap, itOf_ap, itR1_ap, itR2_ap, eLc_ap, isIm_ap, eCall_ap, eCallM_ap, fnOf_ap, isPl_im, isPl_fr, eDspl_ap, sArgs_nil, sArgs_cons, mkD_nil, mkD_cons, keepMu_mu, keepMu_im, projS_nil, projS_cons, hAdd, hSub, hMul, hDiv, hMod, hPow, hNeg, hCmp, hEq, hNe, hIsN, hNotN, hIx, hLen, hInt, hAbs, hGcd, hMin, hMax, hCut, isi_ii, isi_ib, isi_tt, isi_ll, isM_un, isM_im, isM_ow, isM_mu, List.getElem?_cons_zero, List.getElem?_cons_succ, List.getElem?_nil, List.set_cons_zero, List.set_cons_succ, List.length_cons, List.length_nil, List.length_map, List.replicate_succ, List.replicate_zero, List.cons_append, List.nil_append, List.map_cons, List.map_nil, Nat.reduceAdd, Nat.zero_add, ne_eq, not_true_eq_false, not_false_eq_true, decide_false, decide_true, Bool.or_self, Bool.or_false, Bool.false_or, Bool.and_self, Bool.false_eq_true, if_false, if_true, reduceIte, szOk_2, szOk_1, szOk_0, szOk_3, lk_left, lk_seed, lk_cells, lk_spot, pt_left, pt_spot, len_mL, mSet, true_and, and_true, List.getD_eq_getElem?_getD, Option.getD_some, seqOf_l, seqOf_t, ↓hIx_sq, ↓hLen_sq, seqOf_sq, ↓hTuple_sq, fz_fr2, gRep_ap, eq_self, gSorted_ap, gSortD_ap, gSortS_ap, ownSet_pl, eDict1_ap, eChain_ap, gInD_ap, gInS_ap, mPop_ap, mAdd_ap, eSet0_ap, sWhile_ap, itEnumX_ap, eM2_ap, eTR1_ap, eLR1_ap, hLtD, sh_int, eqv_nat, d1, d2, Bool.not_true, ih, List.filter_cons]
    · have d1 : decide (i = x) = false := decide_eq_false h
      have d2 : decide (i ≠ x) = true := decide_eq_true h
      simp only [nD_cons, lcL, sNop_ap, row?_ap, eRowM_ap, sRowSub_ap, eRowLen_ap, eRowNil_ap, isUn_un, ixN3_0, ixN3_1, ixN3_2, gRowsD_ap, rowsOf_nil, rowsOf_cons, eMeth_ap, isL_l, isS_s, mAppend_ap, mExtend_ap, ownL_fr, gIn_ap, ownDct_fr, gT_apL, hSorted, hTuple, hList, hRev, sSeq_ap, sBrk_ap, sCnt_ap, sRet_ap, sRetN_ap, sDrop_ap, sIf_ap, sSet_ap, isMu_ap, sAsg_ap, gN_ap, gT_ap, gTs, sPar_ap, sSub_ap, own?_ap, putO_t, putO_f, sAug_ap, sFor_ap, eC_ap, eVar_ap, ePl_ap, eMv_ap, opS_ap, sNil_ap, sCons_ap, gOp_ap, vws_nil, vws_cons, vw_im, vw_fr, vw_frd, vw_frs, vw_frr, vw_pl, view_l, view_d, view_s, view_r, rs_d, rs_l, sl_im, sl_fr, fz_im, fz_fr, fzs_nil, fzs_cons, toD_l, toD_r, gTupD_ap, gLstD_ap, gIx_ap, gDGet_ap, ownDct_pl, keyOf_i, keyOf_s, gMul_ap, tB_ap, tNot_ap, tAnd_ap, tOr_ap, eNot_ap, eAnd_ap, eOr_ap, eIf_ap, tY_ap, eSl_ap, oN_ap, oI_ap, itOf_ap, itR1_ap, itR2_ap, eLc_ap, isIm_ap, eCall_ap, eCallM_ap, fnOf_ap, isPl_im, isPl_fr, eDspl_ap, sArgs_nil, sArgs_cons, mkD_nil, mkD_cons, keepMu_mu, keepMu_im, projS_nil, projS_cons, hAdd, hSub, hMul, hDiv, hMod, hPow, hNeg, hCmp, hEq, hNe, hIsN, hNotN, hIx, hLen, hInt, hAbs, hGcd, hMin, hMax, hCut, isi_ii, isi_ib, isi_tt, isi_ll, isM_un, isM_im, isM_ow, isM_mu, List.getElem?_cons_zero, List.getElem?_cons_succ, List.getElem?_nil, List.set_cons_zero, List.set_cons_succ, List.length_cons, List.length_nil, List.length_map, List.replicate_succ, List.replicate_zero, List.cons_append, List.nil_append, List.map_cons, List.map_nil, Nat.reduceAdd, Nat.zero_add, ne_eq, not_true_eq_false, not_false_eq_true, decide_false, decide_true, Bool.or_self, Bool.or_false, Bool.false_or, Bool.and_self, Bool.false_eq_true, if_false, if_true, reduceIte, szOk_2, szOk_1, szOk_0, szOk_3, lk_left, lk_seed, lk_cells, lk_spot, pt_left, pt_spot, len_mL, mSet, true_and, and_true, List.getD_eq_getElem?_getD, Option.getD_some, seqOf_l, seqOf_t, ↓hIx_sq, ↓hLen_sq, seqOf_sq, ↓hTuple_sq, fz_fr2, gRep_ap, eq_self, gSorted_ap, gSortD_ap, gSortS_ap, ownSet_pl, eDict1_ap, eChain_ap, gInD_ap, gInS_ap, mPop_ap, mAdd_ap, eSet0_ap, sWhile_ap, itEnumX_ap, eM2_ap, eTR1_ap, eLR1_ap, hLtD, sh_int, eqv_nat, d1, d2, Bool.not_false, ih, List.filter_cons]
theorem sh_loop (V : D) {n : Nat} (hn : n ≤ 800) : ∀ (t k : Nat) (q : Int) (m : O) (left lst : List Nat) (s4 s5 : Sl), k + t = n → q + (t : Nat) < 100000000 → Good q m → ShI n k left lst → isM s4 = false → isM s5 = false →
    ∃ m' left' lst' t4 t5, Good (q + (t : Nat)) m' ∧ ShI n n left' lst' ∧ forL (gN 4) law_shuffledBody (nD (List.range' k t)) [.mu m, .im V, .ow (.lst (nD left)), .ow (.lst (nD lst)), s4, s5, .un] =
      some (.nx [.mu m', .im V, .ow (.lst (nD left')), .ow (.lst (nD lst')), t4, t5, .un])
  | 0, k, q, m, left, lst, s4, s5, hk, hq, g, s, h4, h5 => by
    have e : k = n := by omega
    subst e
    exact ⟨m, left, lst, s4, s5, g.up (by omega), s, rfl⟩
  | t + 1, k, q, m, left, lst, s4, s5, hk, hq, g, s, h4, h5 => by
    have e1 := s.e1
    have e2 := s.e2
    obtain ⟨x, m1, hx, eo, g1⟩ := of_nD g (by omega) (l := left) (fun z => by rw [z] at e1; simp at e1; omega) (by omega)
    obtain ⟨m', left', lst', t4, t5, g', s', ih⟩ := sh_loop V hn t (k + 1) (q + 1) m1 _ _ (.im (.int (k : Nat))) (.im (.int (x : Nat))) (by omega) (by omega) g1 (s.next hx) rfl rfl
    have fi := sh_filt (.mu m1) (.im V) (.im (.list (nD left))) (.ow (.lst (nD lst))) (.im (.int (k : Nat))) x left
    have sz : szOk (nD left).length = true := szOk_le (by rw [nD_len]; omega)
    have sz2 : szOk ((nD lst).length + 1) = true := szOk_le (by rw [nD_len]; omega)
    refine ⟨m', left', lst', t4, t5, g'.up (by omega), s', ?_⟩
    rw [List.range'_succ, nD_cons, ← ih]
    simp only [forL, ↓eo, ↓fi, sNop_ap, row?_ap, eRowM_ap, sRowSub_ap, eRowLen_ap, eRowNil_ap, isUn_un, ixN3_0, ixN3_1, ixN3_2, gRowsD_ap, rowsOf_nil, rowsOf_cons, eMeth_ap, isL_l, isS_s, mAppend_ap, mExtend_ap, ownL_fr, gIn_ap, ownDct_fr, gT_apL, hSorted, hTuple, hList, hRev, sSeq_ap, sBrk_ap, sCnt_ap, sRet_ap, sRetN_ap, sDrop_ap, sIf_ap, sSet_ap, isMu_ap, sAsg_ap, gN_ap, gT_ap, gTs, sPar_ap, sSub_ap, own?_ap, putO_t, putO_f, sAug_ap, sFor_ap, eC_ap, eVar_ap, ePl_ap, eMv_ap, opS_ap, sNil_ap, sCons_ap, gOp_ap, vws_nil, vws_cons, vw_im, vw_fr, vw_frd, vw_frs, vw_frr, vw_pl, view_l, view_d, view_s, view_r, rs_d, rs_l, sl_im, sl_fr, fz_im, fz_fr, fzs_nil, fzs_cons, toD_l, toD_r, gTupD_ap, gLstD_ap, gIx_ap, gDGet_ap, ownDct_pl, keyOf_i, keyOf_s, gMul_ap, tB_ap, tNot_ap, tAnd_ap, tOr_ap, eNot_ap, eAnd_ap, eOr_ap, eIf_ap, tY_ap, eSl_ap, oN_ap, oI_ap, itOf_ap, itR1_ap, itR2_ap, eLc_ap, isIm_ap, eCall_ap, eCallM_ap, fnOf_ap, isPl_im, isPl_fr, eDspl_ap, sArgs_nil, sArgs_cons, mkD_nil, mkD_cons, keepMu_mu, keepMu_im, projS_nil, projS_cons, hAdd, hSub, hMul, hDiv, hMod, hPow, hNeg, hCmp, hEq, hNe, hIsN, hNotN, hIx, hLen, hInt, hAbs, hGcd, hMin, hMax, hCut, isi_ii, isi_ib, isi_tt, isi_ll, isM_un, isM_im, isM_ow, isM_mu, List.getElem?_cons_zero, List.getElem?_cons_succ, List.getElem?_nil, List.set_cons_zero, List.set_cons_succ, List.length_cons, List.length_nil, List.length_map, List.replicate_succ, List.replicate_zero, List.cons_append, List.nil_append, List.map_cons, List.map_nil, Nat.reduceAdd, Nat.zero_add, ne_eq, not_true_eq_false, not_false_eq_true, decide_false, decide_true, Bool.or_self, Bool.or_false, Bool.false_or, Bool.and_self, Bool.false_eq_true, if_false, if_true, reduceIte, szOk_2, szOk_1, szOk_0, szOk_3, lk_left, lk_seed, lk_cells, lk_spot, pt_left, pt_spot, len_mL, mSet, true_and, and_true, List.getD_eq_getElem?_getD, Option.getD_some, seqOf_l, seqOf_t, ↓hIx_sq, ↓hLen_sq, seqOf_sq, ↓hTuple_sq, fz_fr2, gRep_ap, eq_self, gSorted_ap, gSortD_ap, gSortS_ap, ownSet_pl, eDict1_ap, eChain_ap, gInD_ap, gInS_ap, mPop_ap, mAdd_ap, eSet0_ap, sWhile_ap, itEnumX_ap, eM2_ap, eTR1_ap, eLR1_ap, hLtD, h4, h5, sz, sz2, nD_app, nD_cons, nD_nil]
theorem shuffled_eq {n : Nat} {A B C P Q : List Nat} (F : FI n A B C) (hn : n ≤ 800) (hP : P.length = n) (hQ : Q.length = n) {q : Int} {m : O} (g : Good q m) (hq : q < 10000000) : ∃ (L : List Nat) (m' : O), IsL n L ∧ Good (q + 800) m' ∧
    f_law_shuffled [.mu m, .im (.tuple (L5 A B C P Q))] = some (.im (.tuple (L5 (renC L A) (renC L B) (renC L C) (renO L P) (renO L Q))), [.mu m', .un]) := by
  obtain ⟨m', left', lst', t4, t5, g', s', e⟩ := sh_loop (.tuple (L5 A B C P Q)) hn n 0 q m (List.range n) [] .un .un (by omega) (by omega) g (ShI.first n) rfl rfl
  have rg : rngD 0 n = nD (List.range' 0 n) := by rw [rngD_nD, List.range_eq_range']
  have rg2 : rngD 0 n = nD (List.range n) := rngD_nD n
  rw [← rg, ← rg2, nD_nil] at e
  have er : f_law_listed [.im (.tuple (L5 A B C P Q)), .im (.list (nD lst'))] = _ := listed_eq F hn hP hQ s'.last false
  have a0 : atI (L5 A B C P Q) 0 = some (.tuple (nD A)) := rfl
  have la : (nD A).length = n := by rw [nD_len, F.la]
  have sm : small62 ((n : Nat) : Int) = true := small62_b (by omega) (by omega)
  have tn : ((n : Nat) : Int).toNat = n := Int.toNat_natCast _
  have sz : szOk n = true := szOk_le (by omega)
  refine ⟨lst', m', s'.last, g'.up (by omega), ?_⟩
  unfold f_law_shuffled b_law_shuffled
  simp only [↓e, ↓er, sNop_ap, row?_ap, eRowM_ap, sRowSub_ap, eRowLen_ap, eRowNil_ap, isUn_un, ixN3_0, ixN3_1, ixN3_2, gRowsD_ap, rowsOf_nil, rowsOf_cons, eMeth_ap, isL_l, isS_s, mAppend_ap, mExtend_ap, ownL_fr, gIn_ap, ownDct_fr, gT_apL, hSorted, hTuple, hList, hRev, sSeq_ap, sBrk_ap, sCnt_ap, sRet_ap, sRetN_ap, sDrop_ap, sIf_ap, sSet_ap, isMu_ap, sAsg_ap, gN_ap, gT_ap, gTs, sPar_ap, sSub_ap, own?_ap, putO_t, putO_f, sAug_ap, sFor_ap, eC_ap, eVar_ap, ePl_ap, eMv_ap, opS_ap, sNil_ap, sCons_ap, gOp_ap, vws_nil, vws_cons, vw_im, vw_fr, vw_frd, vw_frs, vw_frr, vw_pl, view_l, view_d, view_s, view_r, rs_d, rs_l, sl_im, sl_fr, fz_im, fz_fr, fzs_nil, fzs_cons, toD_l, toD_r, gTupD_ap, gLstD_ap, gIx_ap, gDGet_ap, ownDct_pl, keyOf_i, keyOf_s, gMul_ap, tB_ap, tNot_ap, tAnd_ap, tOr_ap, eNot_ap, eAnd_ap, eOr_ap, eIf_ap, tY_ap, eSl_ap, oN_ap, oI_ap, itOf_ap, itR1_ap, itR2_ap, eLc_ap, isIm_ap, eCall_ap, eCallM_ap, fnOf_ap, isPl_im, isPl_fr, eDspl_ap, sArgs_nil, sArgs_cons, mkD_nil, mkD_cons, keepMu_mu, keepMu_im, projS_nil, projS_cons, hAdd, hSub, hMul, hDiv, hMod, hPow, hNeg, hCmp, hEq, hNe, hIsN, hNotN, hIx, hLen, hInt, hAbs, hGcd, hMin, hMax, hCut, isi_ii, isi_ib, isi_tt, isi_ll, isM_un, isM_im, isM_ow, isM_mu, List.getElem?_cons_zero, List.getElem?_cons_succ, List.getElem?_nil, List.set_cons_zero, List.set_cons_succ, List.length_cons, List.length_nil, List.length_map, List.replicate_succ, List.replicate_zero, List.cons_append, List.nil_append, List.map_cons, List.map_nil, Nat.reduceAdd, Nat.zero_add, ne_eq, not_true_eq_false, not_false_eq_true, decide_false, decide_true, Bool.or_self, Bool.or_false, Bool.false_or, Bool.and_self, Bool.false_eq_true, if_false, if_true, reduceIte, szOk_2, szOk_1, szOk_0, szOk_3, lk_left, lk_seed, lk_cells, lk_spot, pt_left, pt_spot, len_mL, mSet, true_and, and_true, List.getD_eq_getElem?_getD, Option.getD_some, seqOf_l, seqOf_t, ↓hIx_sq, ↓hLen_sq, seqOf_sq, ↓hTuple_sq, fz_fr2, gRep_ap, eq_self, gSorted_ap, gSortD_ap, gSortS_ap, ownSet_pl, eDict1_ap, eChain_ap, gInD_ap, gInS_ap, mPop_ap, mAdd_ap, eSet0_ap, sWhile_ap, itEnumX_ap, eM2_ap, eTR1_ap, eLR1_ap, hLtD, a0, la, sm, tn, sz]
  rfl
/-! ### another order -/
theorem sum_perm : ∀ {l m : List Nat}, l.Perm m → l.sum = m.sum := fun p => by
  induction p with
  | nil => rfl
  | cons x _ ih => rw [List.sum_cons, List.sum_cons, ih]
  | swap x y l => rw [List.sum_cons, List.sum_cons, List.sum_cons, List.sum_cons]; omega
  | trans _ _ h1 h2 => rw [h1, h2]
theorem sub_permN : ∀ (l m : List Nat), l.Nodup → (∀ x ∈ l, x ∈ m) → m.length = l.length → l.Perm m
  | [], m, _, _, e => by
    have : m = [] := List.eq_nil_of_length_eq_zero e
    rw [this]
  | x :: l, m, nd, h, e => by
    have hx := h x List.mem_cons_self
    have p := List.perm_cons_erase hx
    have nd' := List.nodup_cons.mp nd
    refine (List.Perm.cons x (sub_permN l (m.erase x) nd'.2 (fun y hy => ?_) ?_)).trans p.symm
    · have n : y ≠ x := fun z => nd'.1 (z ▸ hy)
      exact (List.mem_erase_of_ne n).mpr (h y (List.mem_cons_of_mem _ hy))
    · have := p.length_eq
      rw [List.length_cons] at this e
      omega
theorem renO_sum {n : Nat} {L P : List Nat} (h : IsL n L) (hP : P.length = n) : (renO L P).sum = P.sum := by
  have p : L.Perm (List.range n) := sub_permN L (List.range n) h.nd (fun x hx => List.mem_range.mpr (h.lt x hx)) (by rw [List.length_range, h.ln])
  have e : renO (List.range n) P = P := renO_id hP
  unfold renO at e ⊢
  rw [sum_perm (p.map (gt P)), e]
theorem sum_lt' {f g : Nat → Nat} : ∀ {l : List Nat}, (∀ x ∈ l, g x ≤ f x) → (l.map g).sum ≤ (l.map f).sum ∧ ∀ y ∈ l, g y < f y → (l.map g).sum < (l.map f).sum
  | [], _ => ⟨Nat.le_refl _, fun y hy => by simp at hy⟩
  | x :: l, h => by
    obtain ⟨h1, h2⟩ := sum_lt' (f := f) (g := g) (l := l) fun y hy => h y (List.mem_cons_of_mem _ hy)
    have hx := h x List.mem_cons_self
    simp only [List.map_cons, List.sum_cons]
    refine ⟨by omega, fun y hy hl => ?_⟩
    rcases List.mem_cons.mp hy with rfl | hy
    · omega
    · have := h2 y hy hl
      omega
/-- the orders P with those of some flags twice -/
def twice (n : Nat) (L P : List Nat) : List Nat := (List.range n).map fun x => if x ∈ L then gt P x * 2 else gt P x
section
variable {n : Nat} {A B C P Q : List Nat}
theorem in_nD (x : Nat) (L : List Nat) : hIn false [.int (x : Nat), .list (nD L)] = some (.d (.bool (decide (x ∈ L)))) := by
  have hany : ((nD L).any fun z => PyData.eqv z (.int (x : Nat))) = decide (x ∈ L) := by
    induction L with
    | nil => rfl
    | cons y L ih =>
      rw [nD_cons, List.any_cons, ih, eqv_nat]
      by_cases h : y = x
      · subst h; simp
      · by_cases h2 : x ∈ L
        · simp [h2]
        · simp [h, h2, Ne.symm h]
  show (if SeqAt.shaped (.int (x : Nat)) && SeqAt.shaped (.list (nD L)) then some (Res.d (.bool (false != (nD L).any fun z => PyData.eqv z (.int (x : Nat))))) else none) = _
  rw [sh_int, sh_nD, hany]
  simp
theorem more_lc (hP : P.length = n) (s1 s3 : Sl) (L : List Nat) : ∀ l : List Nat, (∀ x ∈ l, x < n) →
    lcL 4 tY (eIf (tB' (opS (gIn false) (sCons (ePl 4) (sCons (ePl 2) sNil)))) (opS gMul (sCons (opS gIx (sCons (opS gIx (sCons (ePl 0) (sCons (eC (.int 3)) sNil))) (sCons (ePl 4) sNil))) (sCons (eC (.int 2)) sNil))) (opS gIx (sCons (opS gIx (sCons (ePl 0) (sCons (eC (.int 3)) sNil))) (sCons (ePl 4) sNil)))) (nD l)
      [.im (.tuple (L5 A B C P Q)), s1, .ow (.lst (nD L)), s3, .un] = some (nD (l.map fun x => if x ∈ L then gt P x * 2 else gt P x), [.im (.tuple (L5 A B C P Q)), s1, .ow (.lst (nD L)), s3, .un])
  | [], _ => rfl
  | x :: l, h => by
    have ih := more_lc hP s1 s3 L l fun y hy => h y (List.mem_cons_of_mem _ hy)
    have hi := in_nD x L
    have a3 : atI (L5 A B C P Q) 3 = some (.tuple (nD P)) := rfl
    have ap : atI (nD P) (x : Int) = some (.int (gt P x : Nat)) := at_nD (by rw [hP]; exact h x List.mem_cons_self)
    by_cases hx : x ∈ L
    · rw [decide_eq_true hx] at hi
      have mo : mulOk ((gt P x : Nat) : Int) 2 = true := mulOk_r (by decide) (by decide)
      have em : ((gt P x : Nat) : Int) * 2 = ((gt P x * 2 : Nat) : Int) := by omega
      rw [List.map_cons, if_pos hx]
      simp only [nD_cons, lcL, ↓hi, sNop_ap, row?_ap, eRowM_ap, sRowSub_ap, eRowLen_ap, eRowNil_ap, isUn_un, ixN3_0, ixN3_1, ixN3_2, gRowsD_ap, rowsOf_nil, rowsOf_cons, eMeth_ap, isL_l, isS_s, mAppend_ap, mExtend_ap, ownL_fr, gIn_ap, ownDct_fr, gT_apL, hSorted, hTuple, hList, hRev, sSeq_ap, sBrk_ap, sCnt_ap, sRet_ap, sRetN_ap, sDrop_ap, sIf_ap, sSet_ap, isMu_ap, sAsg_ap, gN_ap, gT_ap, gTs, sPar_ap, sSub_ap, own?_ap, putO_t, putO_f, sAug_ap, sFor_ap, eC_ap, eVar_ap, ePl_ap, eMv_ap, opS_ap, sNil_ap, sCons_ap, gOp_ap, vws_nil, vws_cons, vw_im, vw_fr, vw_frd, vw_frs, vw_frr, vw_pl, view_l, view_d, view_s, view_r, rs_d, rs_l, sl_im, sl_fr, fz_im, fz_fr, fzs_nil, fzs_cons, toD_l, toD_r, gTupD_ap, gLstD_ap, gIx_ap, gDGet_ap, ownDct_pl, keyOf_i, keyOf_s, gMul_ap, tB_ap, tNot_ap, tAnd_ap, tOr_ap, eNot_ap, eAnd_ap, eOr_ap, eIf_ap, tY_ap, eSl_ap, oN_ap, oI_ap, itOf_ap, itR1_ap, itR2_ap, eLc_ap, isIm_ap, eCall_ap, eCallM_ap, fnOf_ap, isPl_im, isPl_fr, eDspl_ap, sArgs_nil, sArgs_cons, mkD_nil, mkD_cons, keepMu_mu, keepMu_im, projS_nil, projS_cons, hAdd, hSub, hMul, hDiv, hMod, hPow, hNeg, hCmp, hEq, hNe, hIsN, hNotN, hIx, hLen, hInt, hAbs, hGcd, hMin, hMax, hCut, isi_ii, isi_ib, isi_tt, isi_ll, isM_un, isM_im, isM_ow, isM_mu, List.getElem?_cons_zero, List.getElem?_cons_succ, List.getElem?_nil, List.set_cons_zero, List.set_cons_succ, List.length_cons, List.length_nil, List.length_map, List.replicate_succ, List.replicate_zero, List.cons_append, List.nil_append, List.map_cons, List.map_nil, Nat.reduceAdd, Nat.zero_add, ne_eq, not_true_eq_false, not_false_eq_true, decide_false, decide_true, Bool.or_self, Bool.or_false, Bool.false_or, Bool.and_self, Bool.false_eq_true, if_false, if_true, reduceIte, szOk_2, szOk_1, szOk_0, szOk_3, lk_left, lk_seed, lk_cells, lk_spot, pt_left, pt_spot, len_mL, mSet, true_and, and_true, List.getD_eq_getElem?_getD, Option.getD_some, seqOf_l, seqOf_t, ↓hIx_sq, ↓hLen_sq, seqOf_sq, ↓hTuple_sq, fz_fr2, gRep_ap, eq_self, gSorted_ap, gSortD_ap, gSortS_ap, ownSet_pl, eDict1_ap, eChain_ap, gInD_ap, gInS_ap, mPop_ap, mAdd_ap, eSet0_ap, sWhile_ap, itEnumX_ap, eM2_ap, eTR1_ap, eLR1_ap, hLtD, a3, ap, mo, em, ih]
    · rw [decide_eq_false hx] at hi
      rw [List.map_cons, if_neg hx]
      simp only [nD_cons, lcL, ↓hi, sNop_ap, row?_ap, eRowM_ap, sRowSub_ap, eRowLen_ap, eRowNil_ap, isUn_un, ixN3_0, ixN3_1, ixN3_2, gRowsD_ap, rowsOf_nil, rowsOf_cons, eMeth_ap, isL_l, isS_s, mAppend_ap, mExtend_ap, ownL_fr, gIn_ap, ownDct_fr, gT_apL, hSorted, hTuple, hList, hRev, sSeq_ap, sBrk_ap, sCnt_ap, sRet_ap, sRetN_ap, sDrop_ap, sIf_ap, sSet_ap, isMu_ap, sAsg_ap, gN_ap, gT_ap, gTs, sPar_ap, sSub_ap, own?_ap, putO_t, putO_f, sAug_ap, sFor_ap, eC_ap, eVar_ap, ePl_ap, eMv_ap, opS_ap, sNil_ap, sCons_ap, gOp_ap, vws_nil, vws_cons, vw_im, vw_fr, vw_frd, vw_frs, vw_frr, vw_pl, view_l, view_d, view_s, view_r, rs_d, rs_l, sl_im, sl_fr, fz_im, fz_fr, fzs_nil, fzs_cons, toD_l, toD_r, gTupD_ap, gLstD_ap, gIx_ap, gDGet_ap, ownDct_pl, keyOf_i, keyOf_s, gMul_ap, tB_ap, tNot_ap, tAnd_ap, tOr_ap, eNot_ap, eAnd_ap, eOr_ap, eIf_ap, tY_ap, eSl_ap, oN_ap, oI_ap, itOf_ap, itR1_ap, itR2_ap, eLc_ap, isIm_ap, eCall_ap, eCallM_ap, fnOf_ap, isPl_im, isPl_fr, eDspl_ap, sArgs_nil, sArgs_cons, mkD_nil, mkD_cons, keepMu_mu, keepMu_im, projS_nil, projS_cons, hAdd, hSub, hMul, hDiv, hMod, hPow, hNeg, hCmp, hEq, hNe, hIsN, hNotN, hIx, hLen, hInt, hAbs, hGcd, hMin, hMax, hCut, isi_ii, isi_ib, isi_tt, isi_ll, isM_un, isM_im, isM_ow, isM_mu, List.getElem?_cons_zero, List.getElem?_cons_succ, List.getElem?_nil, List.set_cons_zero, List.set_cons_succ, List.length_cons, List.length_nil, List.length_map, List.replicate_succ, List.replicate_zero, List.cons_append, List.nil_append, List.map_cons, List.map_nil, Nat.reduceAdd, Nat.zero_add, ne_eq, not_true_eq_false, not_false_eq_true, decide_false, decide_true, Bool.or_self, Bool.or_false, Bool.false_or, Bool.and_self, Bool.false_eq_true, if_false, if_true, reduceIte, szOk_2, szOk_1, szOk_0, szOk_3, lk_left, lk_seed, lk_cells, lk_spot, pt_left, pt_spot, len_mL, mSet, true_and, and_true, List.getD_eq_getElem?_getD, Option.getD_some, seqOf_l, seqOf_t, ↓hIx_sq, ↓hLen_sq, seqOf_sq, ↓hTuple_sq, fz_fr2, gRep_ap, eq_self, gSorted_ap, gSortD_ap, gSortS_ap, ownSet_pl, eDict1_ap, eChain_ap, gInD_ap, gInS_ap, mPop_ap, mAdd_ap, eSet0_ap, sWhile_ap, itEnumX_ap, eM2_ap, eTR1_ap, eLR1_ap, hLtD, a3, ap, ih]
theorem more_eq (F : FI n A B C) (hn : n ≤ 800) (hP : P.length = n) {f : Nat} (hf : f < n) : ∃ L : List Nat, f ∈ L ∧ f_law_more [.im (.tuple (L5 A B C P Q)), .im (.int (f : Nat))] = some (.im (.tuple (L5 A B C (twice n L P) Q)), [.un, .un]) := by
  obtain ⟨L, c, ec⟩ := class_full F.i01 (by omega) true true hf
  rw [sq_t, sq_t] at ec
  have e := more_lc (A := A) (B := B) (C := C) (Q := Q) hP (.im (.int (f : Nat))) .un L (List.range n) fun x hx => List.mem_range.mp hx
  rw [← rngD_nD] at e
  have a0 : atI (L5 A B C P Q) 0 = some (.tuple (nD A)) := rfl
  have a1 : atI (L5 A B C P Q) 1 = some (.tuple (nD B)) := rfl
  have a2 : atI (L5 A B C P Q) 2 = some (.tuple (nD C)) := rfl
  have a4 : atI (L5 A B C P Q) 4 = some (.tuple (nD Q)) := rfl
  have la : (nD A).length = n := by rw [nD_len, F.la]
  have sm : small62 ((n : Nat) : Int) = true := small62_b (by omega) (by omega)
  have tn : ((n : Nat) : Int).toNat = n := Int.toNat_natCast _
  have sz : szOk (rngD 0 n).length = true := szOk_le (by rw [rngD_len]; omega)
  have sz2 : szOk (nD (twice n L P)).length = true := szOk_le (by
    rw [nD_len]; unfold twice
    rw [List.length_map, List.length_range]; omega)
  have et : ((List.range n).map fun x => if x ∈ L then gt P x * 2 else gt P x) = twice n L P := rfl
  rw [et] at e
  refine ⟨L, (c.mem f).mpr .base, ?_⟩
  unfold f_law_more b_law_more
  simp only [↓ec, ↓e, sNop_ap, row?_ap, eRowM_ap, sRowSub_ap, eRowLen_ap, eRowNil_ap, isUn_un, ixN3_0, ixN3_1, ixN3_2, gRowsD_ap, rowsOf_nil, rowsOf_cons, eMeth_ap, isL_l, isS_s, mAppend_ap, mExtend_ap, ownL_fr, gIn_ap, ownDct_fr, gT_apL, hSorted, hTuple, hList, hRev, sSeq_ap, sBrk_ap, sCnt_ap, sRet_ap, sRetN_ap, sDrop_ap, sIf_ap, sSet_ap, isMu_ap, sAsg_ap, gN_ap, gT_ap, gTs, sPar_ap, sSub_ap, own?_ap, putO_t, putO_f, sAug_ap, sFor_ap, eC_ap, eVar_ap, ePl_ap, eMv_ap, opS_ap, sNil_ap, sCons_ap, gOp_ap, vws_nil, vws_cons, vw_im, vw_fr, vw_frd, vw_frs, vw_frr, vw_pl, view_l, view_d, view_s, view_r, rs_d, rs_l, sl_im, sl_fr, fz_im, fz_fr, fzs_nil, fzs_cons, toD_l, toD_r, gTupD_ap, gLstD_ap, gIx_ap, gDGet_ap, ownDct_pl, keyOf_i, keyOf_s, gMul_ap, tB_ap, tNot_ap, tAnd_ap, tOr_ap, eNot_ap, eAnd_ap, eOr_ap, eIf_ap, tY_ap, eSl_ap, oN_ap, oI_ap, itOf_ap, itR1_ap, itR2_ap, eLc_ap, isIm_ap, eCall_ap, eCallM_ap, fnOf_ap, isPl_im, isPl_fr, eDspl_ap, sArgs_nil, sArgs_cons, mkD_nil, mkD_cons, keepMu_mu, keepMu_im, projS_nil, projS_cons, hAdd, hSub, hMul, hDiv, hMod, hPow, hNeg, hCmp, hEq, hNe, hIsN, hNotN, hIx, hLen, hInt, hAbs, hGcd, hMin, hMax, hCut, isi_ii, isi_ib, isi_tt, isi_ll, isM_un, isM_im, isM_ow, isM_mu, List.getElem?_cons_zero, List.getElem?_cons_succ, List.getElem?_nil, List.set_cons_zero, List.set_cons_succ, List.length_cons, List.length_nil, List.length_map, List.replicate_succ, List.replicate_zero, List.cons_append, List.nil_append, List.map_cons, List.map_nil, Nat.reduceAdd, Nat.zero_add, ne_eq, not_true_eq_false, not_false_eq_true, decide_false, decide_true, Bool.or_self, Bool.or_false, Bool.false_or, Bool.and_self, Bool.false_eq_true, if_false, if_true, reduceIte, szOk_2, szOk_1, szOk_0, szOk_3, lk_left, lk_seed, lk_cells, lk_spot, pt_left, pt_spot, len_mL, mSet, true_and, and_true, List.getD_eq_getElem?_getD, Option.getD_some, seqOf_l, seqOf_t, ↓hIx_sq, ↓hLen_sq, seqOf_sq, ↓hTuple_sq, fz_fr2, gRep_ap, eq_self, gSorted_ap, gSortD_ap, gSortS_ap, ownSet_pl, eDict1_ap, eChain_ap, gInD_ap, gInS_ap, mPop_ap, mAdd_ap, eSet0_ap, sWhile_ap, itEnumX_ap, eM2_ap, eTR1_ap, eLR1_ap, hLtD, a0, a1, a2, a4, la, sm, tn, sz, sz2, szOk_5]
  rfl
theorem twice_len (L P : List Nat) : (twice n L P).length = n := by unfold twice; rw [List.length_map, List.length_range]
theorem twice_sum {L : List Nat} (hP : P.length = n) {f : Nat} (hf : f < n) (hL : f ∈ L) (h1 : 1 ≤ gt P f) : P.sum < (twice n L P).sum := by
  have e : renO (List.range n) P = P := renO_id hP
  unfold renO at e
  have := (sum_lt' (f := fun x => if x ∈ L then gt P x * 2 else gt P x) (g := gt P) (l := List.range n) fun x _ => by
    by_cases hx : x ∈ L
    · simp only [hx, if_true]; omega
    · simp only [hx, if_false]; omega).2 f (List.mem_range.mpr hf) (by simp only [hL, if_true]; omega)
  rw [e] at this
  exact this
/-- another sum of orders: another least table -/
theorem minT_ne (F : FI n A B C) (hn1 : 1 ≤ n) {P' : List Nat} (hP : P.length = n) (hP' : P'.length = n) (h : P.sum < P'.sum) : PyData.eqv (minT n A B C P' Q) (minT n A B C P Q) = false := by
  obtain ⟨f, hf, e⟩ := minT_at (A := A) (B := B) (C := C) (P := P') (Q := Q) hn1
  obtain ⟨f', hf', e'⟩ := minT_at (A := A) (B := B) (C := C) (P := P) (Q := Q) hn1
  rw [e, e']
  unfold tbl
  rw [eqv_L5]
  refine decide_eq_false fun z => ?_
  have z := congrArg List.sum z.2.2.2.1
  rw [renO_sum (wlk_isL F hf) hP', renO_sum (wlk_isL F hf') hP] at z
  omega
theorem tb_refl {d : D} (h : Tb d) : PyData.eqv d d = true ∧ SeqAt.shaped d = true := by
  obtain ⟨A, B, C, P, Q, rfl⟩ := h
  exact ⟨by rw [eqv_L5]; simp, sh_L5 ..⟩
theorem minT_tb (hn1 : 1 ≤ n) : Tb (minT n A B C P Q) := by
  obtain ⟨f, _, e⟩ := minT_at (A := A) (B := B) (C := C) (P := P) (Q := Q) hn1
  rw [e]
  exact tbl_tb ..
end
/-! ### the law -/
structure FV (n : Nat) (A B C P Q : List Nat) : Prop where
  F : FI n A B C
  n1 : 1 ≤ n
  n2 : n ≤ 10
  p : OrdOk n A B 3 P
  q : OrdOk n B C 3 Q
section
variable {n : Nat} {A B C P Q : List Nat}
theorem due_facts (v : FV n A B C P Q) : f_least [.im (minT n A B C P Q)] = some (.im (minT n A B C P Q), [.un]) ∧ f_law_is_pattern [.im (minT n A B C P Q)] = some (.im (.bool true), [.un]) := by
  have n1 := v.n1
  have n2 := v.n2
  obtain ⟨f, hf, e⟩ := minT_at (A := A) (B := B) (C := C) (P := P) (Q := Q) v.n1
  have w := wlk_isL v.F hf
  have F' := v.F.ren w (by omega)
  have le := least_eq F' v.n1 (by omega) (renO_len w P) (renO_len w Q)
  rw [minT_ren v.F w v.n1] at le
  have ip := is_pattern_eq F' v.n1 (by omega) (v.p.ren v.F.i01 w) (v.q.ren v.F.i12 w) (by omega) (by omega)
  rw [e] at le ⊢
  exact ⟨le, ip⟩
theorem shuf_turn (v : FV n A B C P Q) (s0 s1 s6 : Sl) {q : Int} {m : O} (g : Good q m) (hq : q < 1000000) (d : D) :
    ∃ m', Good (q + 800) m' ∧ lawBody1 [s0, s1, .ow m, .im (.tuple (L5 A B C P Q)), .im (minT n A B C P Q), .im d, s6] = some (.nx [s0, s1, .ow m', .im (.tuple (L5 A B C P Q)), .im (minT n A B C P Q), .im d, s6]) := by
  have n1 := v.n1
  have n2 := v.n2
  obtain ⟨L, m', hL, g', e⟩ := shuffled_eq v.F (by omega) v.p.ln v.q.ln g (by omega)
  have F' := v.F.ren hL (by omega)
  have le := least_eq F' v.n1 (by omega) (renO_len hL P) (renO_len hL Q)
  rw [minT_ren v.F hL v.n1] at le
  obtain ⟨r1, r2⟩ := tb_refl (minT_tb (A := A) (B := B) (C := C) (P := P) (Q := Q) v.n1)
  refine ⟨m', g', ?_⟩
  simp only [↓e, ↓le, sNop_ap, row?_ap, eRowM_ap, sRowSub_ap, eRowLen_ap, eRowNil_ap, isUn_un, ixN3_0, ixN3_1, ixN3_2, gRowsD_ap, rowsOf_nil, rowsOf_cons, eMeth_ap, isL_l, isS_s, mAppend_ap, mExtend_ap, ownL_fr, gIn_ap, ownDct_fr, gT_apL, hSorted, hTuple, hList, hRev, sSeq_ap, sBrk_ap, sCnt_ap, sRet_ap, sRetN_ap, sDrop_ap, sIf_ap, sSet_ap, isMu_ap, sAsg_ap, gN_ap, gT_ap, gTs, sPar_ap, sSub_ap, own?_ap, putO_t, putO_f, sAug_ap, sFor_ap, eC_ap, eVar_ap, ePl_ap, eMv_ap, opS_ap, sNil_ap, sCons_ap, gOp_ap, vws_nil, vws_cons, vw_im, vw_fr, vw_frd, vw_frs, vw_frr, vw_pl, view_l, view_d, view_s, view_r, rs_d, rs_l, sl_im, sl_fr, fz_im, fz_fr, fzs_nil, fzs_cons, toD_l, toD_r, gTupD_ap, gLstD_ap, gIx_ap, gDGet_ap, ownDct_pl, keyOf_i, keyOf_s, gMul_ap, tB_ap, tNot_ap, tAnd_ap, tOr_ap, eNot_ap, eAnd_ap, eOr_ap, eIf_ap, tY_ap, eSl_ap, oN_ap, oI_ap, itOf_ap, itR1_ap, itR2_ap, eLc_ap, isIm_ap, eCall_ap, eCallM_ap, fnOf_ap, isPl_im, isPl_fr, eDspl_ap, sArgs_nil, sArgs_cons, mkD_nil, mkD_cons, keepMu_mu, keepMu_im, projS_nil, projS_cons, hAdd, hSub, hMul, hDiv, hMod, hPow, hNeg, hCmp, hEq, hNe, hIsN, hNotN, hIx, hLen, hInt, hAbs, hGcd, hMin, hMax, hCut, isi_ii, isi_ib, isi_tt, isi_ll, isM_un, isM_im, isM_ow, isM_mu, List.getElem?_cons_zero, List.getElem?_cons_succ, List.getElem?_nil, List.set_cons_zero, List.set_cons_succ, List.length_cons, List.length_nil, List.length_map, List.replicate_succ, List.replicate_zero, List.cons_append, List.nil_append, List.map_cons, List.map_nil, Nat.reduceAdd, Nat.zero_add, ne_eq, not_true_eq_false, not_false_eq_true, decide_false, decide_true, Bool.or_self, Bool.or_false, Bool.false_or, Bool.and_self, Bool.false_eq_true, if_false, if_true, reduceIte, szOk_2, szOk_1, szOk_0, szOk_3, lk_left, lk_seed, lk_cells, lk_spot, pt_left, pt_spot, len_mL, mSet, true_and, and_true, List.getD_eq_getElem?_getD, Option.getD_some, seqOf_l, seqOf_t, ↓hIx_sq, ↓hLen_sq, seqOf_sq, ↓hTuple_sq, fz_fr2, gRep_ap, eq_self, gSorted_ap, gSortD_ap, gSortS_ap, ownSet_pl, eDict1_ap, eChain_ap, gInD_ap, gInS_ap, mPop_ap, mAdd_ap, eSet0_ap, sWhile_ap, itEnumX_ap, eM2_ap, eTR1_ap, eLR1_ap, hLtD, r1, r2, Bool.not_true]
theorem inner3_eq (v : FV n A B C P Q) (s0 s1 s5 s6 : Sl) (h5 : isM s5 = false) {q : Int} {m : O} (g : Good q m) (hq : q < 900000) :
    ∃ m' t5, isM t5 = false ∧ Good (q + 2400) m' ∧ forL (gN 5) lawBody1 (rngD 0 3) [s0, s1, .ow m, .im (.tuple (L5 A B C P Q)), .im (minT n A B C P Q), s5, s6] = some (.nx [s0, s1, .ow m', .im (.tuple (L5 A B C P Q)), .im (minT n A B C P Q), t5, s6]) := by
  obtain ⟨m1, g1, e1⟩ := shuf_turn v s0 s1 s6 g (by omega) (.int 0)
  obtain ⟨m2, g2, e2⟩ := shuf_turn v s0 s1 s6 g1 (by omega) (.int 1)
  obtain ⟨m3, g3, e3⟩ := shuf_turn v s0 s1 s6 g2 (by omega) (.int 2)
  have r3 : rngD 0 3 = [.int 0, .int 1, .int 2] := rfl
  refine ⟨m3, .im (.int 2), rfl, g3.up (by omega), ?_⟩
  rw [r3]
  simp only [forL, ↓e1, ↓e2, ↓e3, sNop_ap, row?_ap, eRowM_ap, sRowSub_ap, eRowLen_ap, eRowNil_ap, isUn_un, ixN3_0, ixN3_1, ixN3_2, gRowsD_ap, rowsOf_nil, rowsOf_cons, eMeth_ap, isL_l, isS_s, mAppend_ap, mExtend_ap, ownL_fr, gIn_ap, ownDct_fr, gT_apL, hSorted, hTuple, hList, hRev, sSeq_ap, sBrk_ap, sCnt_ap, sRet_ap, sRetN_ap, sDrop_ap, sIf_ap, sSet_ap, isMu_ap, sAsg_ap, gN_ap, gT_ap, gTs, sPar_ap, sSub_ap, own?_ap, putO_t, putO_f, sAug_ap, sFor_ap, eC_ap, eVar_ap, ePl_ap, eMv_ap, opS_ap, sNil_ap, sCons_ap, gOp_ap, vws_nil, vws_cons, vw_im, vw_fr, vw_frd, vw_frs, vw_frr, vw_pl, view_l, view_d, view_s, view_r, rs_d, rs_l, sl_im, sl_fr, fz_im, fz_fr, fzs_nil, fzs_cons, toD_l, toD_r, gTupD_ap, gLstD_ap, gIx_ap, gDGet_ap, ownDct_pl, keyOf_i, keyOf_s, gMul_ap, tB_ap, tNot_ap, tAnd_ap, tOr_ap, eNot_ap, eAnd_ap, eOr_ap, eIf_ap, tY_ap, eSl_ap, oN_ap, oI_ap, itOf_ap, itR1_ap, itR2_ap, eLc_ap, isIm_ap, eCall_ap, eCallM_ap, fnOf_ap, isPl_im, isPl_fr, eDspl_ap, sArgs_nil, sArgs_cons, mkD_nil, mkD_cons, keepMu_mu, keepMu_im, projS_nil, projS_cons, hAdd, hSub, hMul, hDiv, hMod, hPow, hNeg, hCmp, hEq, hNe, hIsN, hNotN, hIx, hLen, hInt, hAbs, hGcd, hMin, hMax, hCut, isi_ii, isi_ib, isi_tt, isi_ll, isM_un, isM_im, isM_ow, isM_mu, List.getElem?_cons_zero, List.getElem?_cons_succ, List.getElem?_nil, List.set_cons_zero, List.set_cons_succ, List.length_cons, List.length_nil, List.length_map, List.replicate_succ, List.replicate_zero, List.cons_append, List.nil_append, List.map_cons, List.map_nil, Nat.reduceAdd, Nat.zero_add, ne_eq, not_true_eq_false, not_false_eq_true, decide_false, decide_true, Bool.or_self, Bool.or_false, Bool.false_or, Bool.and_self, Bool.false_eq_true, if_false, if_true, reduceIte, szOk_2, szOk_1, szOk_0, szOk_3, lk_left, lk_seed, lk_cells, lk_spot, pt_left, pt_spot, len_mL, mSet, true_and, and_true, List.getD_eq_getElem?_getD, Option.getD_some, seqOf_l, seqOf_t, ↓hIx_sq, ↓hLen_sq, seqOf_sq, ↓hTuple_sq, fz_fr2, gRep_ap, eq_self, gSorted_ap, gSortD_ap, gSortS_ap, ownSet_pl, eDict1_ap, eChain_ap, gInD_ap, gInS_ap, mPop_ap, mAdd_ap, eSet0_ap, sWhile_ap, itEnumX_ap, eM2_ap, eTR1_ap, eLR1_ap, hLtD, h5]
structure LS (s0 : Sl) (S : List Sl) : Prop where
  ex : ∃ (s1 s2 s3 s4 s5 s6 : Sl), S = [s0, s1, s2, s3, s4, s5, s6] ∧ isM s1 = false ∧ isM s2 = false ∧ isM s3 = false ∧ isM s4 = false ∧ isM s5 = false ∧ isM s6 = false
theorem outer_turn (ns : List Int) (hn : ns.length ≤ 63) (k : Nat) {S : List Sl} (P : LS (.im (.list (ns.map PyData.int))) S) : ∃ S1 S2, gN 1 (.int (k : Nat)) S = some S1 ∧ lawBody S1 = some (.nx S2) ∧ LS (.im (.list (ns.map PyData.int))) S2 := by
  obtain ⟨s1, s2, s3, s4, s5, s6, rfl, h1, h2, h3, h4, h5, h6⟩ := P.ex
  obtain ⟨m, em, gm⟩ := begun_eq ns k (by omega)
  obtain ⟨n, A, B, C, P, Q, m', hn1, hn2, F, hP, hQ, g, ep⟩ := pattern_full (M := 10) (w := 3) gm (by decide) (by decide) (by decide) (by decide) (by decide)
  have v : FV n A B C P Q := ⟨F, hn1, hn2, hP, hQ⟩
  have c10 : ((10 : Nat) : Int) = 10 := rfl
  have c3 : ((3 : Nat) : Int) = 3 := rfl
  have el : (.tuple [.tuple (nD A), .tuple (nD B), .tuple (nD C), .tuple (nD P), .tuple (nD Q)] : D) = .tuple (L5 A B C P Q) := rfl
  rw [c10, c3, el] at ep
  have l1 := law_least_eq F hn1 (by omega) hP.ln hQ.ln
  have l2 := least_eq F hn1 (by omega) hP.ln hQ.ln
  obtain ⟨l3, l4⟩ := due_facts v
  obtain ⟨r1, r2⟩ := tb_refl (minT_tb (A := A) (B := B) (C := C) (P := P) (Q := Q) hn1)
  obtain ⟨m1, t5, i5, g1, e1⟩ := inner3_eq v (.im (.list (ns.map PyData.int))) (.im (.int (k : Nat))) s5 s6 h5 g (by omega)
  obtain ⟨x, m2, e2, x0, x1, g2⟩ := draw_eq (b := (n : Nat)) g1 (by omega) (by omega) (by omega)
  obtain ⟨f, rfl⟩ : ∃ f : Nat, x = (f : Nat) := ⟨x.toNat, (Int.toNat_of_nonneg x0).symm⟩
  have hf : f < n := by omega
  obtain ⟨L, hL, e3⟩ := more_eq (Q := Q) F (by omega) hP.ln hf
  have hs := twice_sum hP.ln hf hL (hP.pos hf)
  have tl := twice_len (n := n) L P
  obtain ⟨L2, m3, hL2, g3, e4⟩ := shuffled_eq F (by omega) tl hQ.ln g2 (by omega)
  have F' := F.ren hL2 (by omega)
  have l5 := least_eq F' hn1 (by omega) (renO_len hL2 (twice n L P)) (renO_len hL2 Q)
  rw [minT_ren F hL2 hn1] at l5
  have ne := minT_ne (Q := Q) F hn1 hP.ln tl hs
  have l6 := least_eq F hn1 (by omega) tl hQ.ln
  have l7 := law_least_eq F hn1 (by omega) tl hQ.ln
  obtain ⟨r3, r4⟩ := tb_refl (minT_tb (A := A) (B := B) (C := C) (P := twice n L P) (Q := Q) hn1)
  have a0 : atI (L5 A B C P Q) 0 = some (.tuple (nD A)) := rfl
  have la : (nD A).length = n := by rw [nD_len, F.la]
  have sm : small62 3 = true := by decide
  have tn : (3 : Int).toNat = 3 := rfl
  refine ⟨[.im (.list (ns.map PyData.int)), .im (.int (k : Nat)), s2, s3, s4, s5, s6], _, ?_, ?_, ⟨.im (.int (k : Nat)), .ow m3, .im (.tuple (L5 A B C P Q)), .im (minT n A B C P Q), t5, .im (.tuple (L5 A B C (twice n L P) Q)), rfl, rfl, rfl, rfl, rfl, i5, rfl⟩⟩
  · simp only [sNop_ap, row?_ap, eRowM_ap, sRowSub_ap, eRowLen_ap, eRowNil_ap, isUn_un, ixN3_0, ixN3_1, ixN3_2, gRowsD_ap, rowsOf_nil, rowsOf_cons, eMeth_ap, isL_l, isS_s, mAppend_ap, mExtend_ap, ownL_fr, gIn_ap, ownDct_fr, gT_apL, hSorted, hTuple, hList, hRev, sSeq_ap, sBrk_ap, sCnt_ap, sRet_ap, sRetN_ap, sDrop_ap, sIf_ap, sSet_ap, isMu_ap, sAsg_ap, gN_ap, gT_ap, gTs, sPar_ap, sSub_ap, own?_ap, putO_t, putO_f, sAug_ap, sFor_ap, eC_ap, eVar_ap, ePl_ap, eMv_ap, opS_ap, sNil_ap, sCons_ap, gOp_ap, vws_nil, vws_cons, vw_im, vw_fr, vw_frd, vw_frs, vw_frr, vw_pl, view_l, view_d, view_s, view_r, rs_d, rs_l, sl_im, sl_fr, fz_im, fz_fr, fzs_nil, fzs_cons, toD_l, toD_r, gTupD_ap, gLstD_ap, gIx_ap, gDGet_ap, ownDct_pl, keyOf_i, keyOf_s, gMul_ap, tB_ap, tNot_ap, tAnd_ap, tOr_ap, eNot_ap, eAnd_ap, eOr_ap, eIf_ap, tY_ap, eSl_ap, oN_ap, oI_ap, itOf_ap, itR1_ap, itR2_ap, eLc_ap, isIm_ap, eCall_ap, eCallM_ap, fnOf_ap, isPl_im, isPl_fr, eDspl_ap, sArgs_nil, sArgs_cons, mkD_nil, mkD_cons, keepMu_mu, keepMu_im, projS_nil, projS_cons, hAdd, hSub, hMul, hDiv, hMod, hPow, hNeg, hCmp, hEq, hNe, hIsN, hNotN, hIx, hLen, hInt, hAbs, hGcd, hMin, hMax, hCut, isi_ii, isi_ib, isi_tt, isi_ll, isM_un, isM_im, isM_ow, isM_mu, List.getElem?_cons_zero, List.getElem?_cons_succ, List.getElem?_nil, List.set_cons_zero, List.set_cons_succ, List.length_cons, List.length_nil, List.length_map, List.replicate_succ, List.replicate_zero, List.cons_append, List.nil_append, List.map_cons, List.map_nil, Nat.reduceAdd, Nat.zero_add, ne_eq, not_true_eq_false, not_false_eq_true, decide_false, decide_true, Bool.or_self, Bool.or_false, Bool.false_or, Bool.and_self, Bool.false_eq_true, if_false, if_true, reduceIte, szOk_2, szOk_1, szOk_0, szOk_3, lk_left, lk_seed, lk_cells, lk_spot, pt_left, pt_spot, len_mL, mSet, true_and, and_true, List.getD_eq_getElem?_getD, Option.getD_some, seqOf_l, seqOf_t, ↓hIx_sq, ↓hLen_sq, seqOf_sq, ↓hTuple_sq, fz_fr2, gRep_ap, eq_self, gSorted_ap, gSortD_ap, gSortS_ap, ownSet_pl, eDict1_ap, eChain_ap, gInD_ap, gInS_ap, mPop_ap, mAdd_ap, eSet0_ap, sWhile_ap, itEnumX_ap, eM2_ap, eTR1_ap, eLR1_ap, hLtD, h1]
  · simp only [↓em, ↓ep, ↓l1, ↓l2, ↓l3, ↓l4, ↓e1, ↓e2, ↓e3, ↓e4, ↓l5, ↓l6, ↓l7, sNop_ap, row?_ap, eRowM_ap, sRowSub_ap, eRowLen_ap, eRowNil_ap, isUn_un, ixN3_0, ixN3_1, ixN3_2, gRowsD_ap, rowsOf_nil, rowsOf_cons, eMeth_ap, isL_l, isS_s, mAppend_ap, mExtend_ap, ownL_fr, gIn_ap, ownDct_fr, gT_apL, hSorted, hTuple, hList, hRev, sSeq_ap, sBrk_ap, sCnt_ap, sRet_ap, sRetN_ap, sDrop_ap, sIf_ap, sSet_ap, isMu_ap, sAsg_ap, gN_ap, gT_ap, gTs, sPar_ap, sSub_ap, own?_ap, putO_t, putO_f, sAug_ap, sFor_ap, eC_ap, eVar_ap, ePl_ap, eMv_ap, opS_ap, sNil_ap, sCons_ap, gOp_ap, vws_nil, vws_cons, vw_im, vw_fr, vw_frd, vw_frs, vw_frr, vw_pl, view_l, view_d, view_s, view_r, rs_d, rs_l, sl_im, sl_fr, fz_im, fz_fr, fzs_nil, fzs_cons, toD_l, toD_r, gTupD_ap, gLstD_ap, gIx_ap, gDGet_ap, ownDct_pl, keyOf_i, keyOf_s, gMul_ap, tB_ap, tNot_ap, tAnd_ap, tOr_ap, eNot_ap, eAnd_ap, eOr_ap, eIf_ap, tY_ap, eSl_ap, oN_ap, oI_ap, itOf_ap, itR1_ap, itR2_ap, eLc_ap, isIm_ap, eCall_ap, eCallM_ap, fnOf_ap, isPl_im, isPl_fr, eDspl_ap, sArgs_nil, sArgs_cons, mkD_nil, mkD_cons, keepMu_mu, keepMu_im, projS_nil, projS_cons, hAdd, hSub, hMul, hDiv, hMod, hPow, hNeg, hCmp, hEq, hNe, hIsN, hNotN, hIx, hLen, hInt, hAbs, hGcd, hMin, hMax, hCut, isi_ii, isi_ib, isi_tt, isi_ll, isM_un, isM_im, isM_ow, isM_mu, List.getElem?_cons_zero, List.getElem?_cons_succ, List.getElem?_nil, List.set_cons_zero, List.set_cons_succ, List.length_cons, List.length_nil, List.length_map, List.replicate_succ, List.replicate_zero, List.cons_append, List.nil_append, List.map_cons, List.map_nil, Nat.reduceAdd, Nat.zero_add, ne_eq, not_true_eq_false, not_false_eq_true, decide_false, decide_true, Bool.or_self, Bool.or_false, Bool.false_or, Bool.and_self, Bool.false_eq_true, if_false, if_true, reduceIte, szOk_2, szOk_1, szOk_0, szOk_3, lk_left, lk_seed, lk_cells, lk_spot, pt_left, pt_spot, len_mL, mSet, true_and, and_true, List.getD_eq_getElem?_getD, Option.getD_some, seqOf_l, seqOf_t, ↓hIx_sq, ↓hLen_sq, seqOf_sq, ↓hTuple_sq, fz_fr2, gRep_ap, eq_self, gSorted_ap, gSortD_ap, gSortS_ap, ownSet_pl, eDict1_ap, eChain_ap, gInD_ap, gInS_ap, mPop_ap, mAdd_ap, eSet0_ap, sWhile_ap, itEnumX_ap, eM2_ap, eTR1_ap, eLR1_ap, hLtD, h2, h3, h4, h6, r1, r2, r3, r4, ne, a0, la, sm, tn, Bool.not_true]
theorem law_true : ∀ ns : List Int, ns.length ≤ 63 → ∃ S', f_law [.im (.list (ns.map PyData.int))] = some (.im (.bool true), S') := by
  intro ns hn
  obtain ⟨N, hN, e8⟩ : ∃ n : Nat, n ≤ 3 ∧ (if (if (3 : Int) < (ns.length : Int) then 3 else (ns.length : Int)) > 2 then (if (3 : Int) < (ns.length : Int) then 3 else (ns.length : Int)) else 2) = (n : Int) := by
    by_cases h1 : 3 < ns.length
    · refine ⟨3, by decide, ?_⟩
      rw [if_pos (show (3 : Int) < (ns.length : Int) by omega), if_pos (by decide)]
      rfl
    · by_cases h2 : 2 < ns.length
      · refine ⟨ns.length, by omega, ?_⟩
        rw [if_neg (show ¬ (3 : Int) < (ns.length : Int) by omega), if_pos (by omega)]
      · refine ⟨2, by decide, ?_⟩
        rw [if_neg (show ¬ (3 : Int) < (ns.length : Int) by omega), if_neg (by omega)]
        rfl
  obtain ⟨S', e, P⟩ := forL_inv (g := gN 1) (body := lawBody) (LS (.im (.list (ns.map PyData.int)))) (ds := rngD 0 N) (S := [.im (.list (ns.map PyData.int)), .un, .un, .un, .un, .un, .un]) (fun d hd S P => by
    obtain ⟨k, rfl, hk⟩ := rngD_mem hd
    exact outer_turn ns hn k P) ⟨.un, .un, .un, .un, .un, .un, rfl, rfl, rfl, rfl, rfl, rfl, rfl⟩
  obtain ⟨s1, s2, s3, s4, s5, s6, rfl, _⟩ := P.ex
  have sm : small62 (N : Int) = true := small62_b (by omega) (by omega)
  have tn : ((N : Nat) : Int).toNat = N := Int.toNat_natCast N
  refine ⟨[.un], ?_⟩
  unfold f_law b_law
  simp only [↓e, sNop_ap, row?_ap, eRowM_ap, sRowSub_ap, eRowLen_ap, eRowNil_ap, isUn_un, ixN3_0, ixN3_1, ixN3_2, gRowsD_ap, rowsOf_nil, rowsOf_cons, eMeth_ap, isL_l, isS_s, mAppend_ap, mExtend_ap, ownL_fr, gIn_ap, ownDct_fr, gT_apL, hSorted, hTuple, hList, hRev, sSeq_ap, sBrk_ap, sCnt_ap, sRet_ap, sRetN_ap, sDrop_ap, sIf_ap, sSet_ap, isMu_ap, sAsg_ap, gN_ap, gT_ap, gTs, sPar_ap, sSub_ap, own?_ap, putO_t, putO_f, sAug_ap, sFor_ap, eC_ap, eVar_ap, ePl_ap, eMv_ap, opS_ap, sNil_ap, sCons_ap, gOp_ap, vws_nil, vws_cons, vw_im, vw_fr, vw_frd, vw_frs, vw_frr, vw_pl, view_l, view_d, view_s, view_r, rs_d, rs_l, sl_im, sl_fr, fz_im, fz_fr, fzs_nil, fzs_cons, toD_l, toD_r, gTupD_ap, gLstD_ap, gIx_ap, gDGet_ap, ownDct_pl, keyOf_i, keyOf_s, gMul_ap, tB_ap, tNot_ap, tAnd_ap, tOr_ap, eNot_ap, eAnd_ap, eOr_ap, eIf_ap, tY_ap, eSl_ap, oN_ap, oI_ap, itOf_ap, itR1_ap, itR2_ap, eLc_ap, isIm_ap, eCall_ap, eCallM_ap, fnOf_ap, isPl_im, isPl_fr, eDspl_ap, sArgs_nil, sArgs_cons, mkD_nil, mkD_cons, keepMu_mu, keepMu_im, projS_nil, projS_cons, hAdd, hSub, hMul, hDiv, hMod, hPow, hNeg, hCmp, hEq, hNe, hIsN, hNotN, hIx, hLen, hInt, hAbs, hGcd, hMin, hMax, hCut, isi_ii, isi_ib, isi_tt, isi_ll, isM_un, isM_im, isM_ow, isM_mu, List.getElem?_cons_zero, List.getElem?_cons_succ, List.getElem?_nil, List.set_cons_zero, List.set_cons_succ, List.length_cons, List.length_nil, List.length_map, List.replicate_succ, List.replicate_zero, List.cons_append, List.nil_append, List.map_cons, List.map_nil, Nat.reduceAdd, Nat.zero_add, ne_eq, not_true_eq_false, not_false_eq_true, decide_false, decide_true, Bool.or_self, Bool.or_false, Bool.false_or, Bool.and_self, Bool.false_eq_true, if_false, if_true, reduceIte, szOk_2, szOk_1, szOk_0, szOk_3, lk_left, lk_seed, lk_cells, lk_spot, pt_left, pt_spot, len_mL, mSet, true_and, and_true, List.getD_eq_getElem?_getD, Option.getD_some, seqOf_l, seqOf_t, ↓hIx_sq, ↓hLen_sq, seqOf_sq, ↓hTuple_sq, fz_fr2, gRep_ap, eq_self, gSorted_ap, gSortD_ap, gSortS_ap, ownSet_pl, eDict1_ap, eChain_ap, gInD_ap, gInS_ap, mPop_ap, mAdd_ap, eSet0_ap, sWhile_ap, itEnumX_ap, eM2_ap, eTR1_ap, eLR1_ap, hLtD, e8, sm, tn]
end
def top (i : Nat) : Stmt := PySem.Challenge.pw_flagfloors_k05_whole_least_one.main.body.getD i (.Pass ⟨0, 0, 0, 0⟩)
structure Tx (K : PySem.W.Frag) (mg : Str → Option Value) : Prop where
  b_bool : mg "bool" = none
  b_enumerate : mg "enumerate" = none
  b_int : mg "int" = none
  b_isinstance : mg "isinstance" = none
  b_len : mg "len" = none
  b_list : mg "list" = none
  b_max : mg "max" = none
  b_min : mg "min" = none
  b_range : mg "range" = none
  b_set : mg "set" = none
  b_sorted : mg "sorted" = none
  b_tuple : mg "tuple" = none
section
variable {P : Program} {w : World} {K : PySem.W.Frag} {mg : Str → Option Value} {base : Heap}
abbrev s_renumbered : Stmt := top 1
abbrev N_renumbered : List Str := ["pattern", "listing", "number", "flag", "place", "changes", "change", "p", "q"]
theorem sc_renumbered : FnScope N_renumbered ["pattern", "listing"] (defScope s_renumbered) := ⟨rfl, rfl, rfl, by decide +kernel, rfl, by decide +kernel, by decide +kernel⟩
theorem ok_renumbered {f : Addr} {fd : FuncData} (T : Tx K mg) (FF : L2.Fun K "renumbered" "renumbered" s_renumbered f fd) (hm : mg "renumbered" = some (.ref f)) : Callee P w K mg base 1 "renumbered" 2 f_renumbered := by
  refine ⟨f, fd, ["pattern", "listing"], fn_ok FF sc_renumbered rfl rfl (fun cdv A outer s H hr => ?_), hm, FF.kp, FF.binds fun _ _ _ _ _ _ us hl => match us, hl with | [_, _], _ => rfl⟩
  have hu1 := hu_of hr
  have hu64 := hr.units
  have hu65 := hu65_of hr
  exact (s_cons (s_set 2 sc_renumbered.nd (e_lc (pe_lc (own := [("flag", 3)]) (g := gName 3) rfl sc_renumbered.nd (i_of (e_var 1)) (blkOk_by (own := [("flag", 3)]) (N := N_renumbered) (sc := defScope s_renumbered) (by decide +kernel)) (fun _ _ _ _ _ => pg_name (i := 3) sc_renumbered.nd rfl (by first | exact Or.inl rfl | exact Or.inr rfl)) (fun _ _ _ _ _ => ets_nil) (fun _ _ _ _ _ => e_int))))
  (s_cons (s_for PassesOwn.never rfl (i_enumX rfl T.b_enumerate (e_var 1)) (g_tupA rfl rfl (gs_cons 4 (gs_cons 3 gs_nil sc_renumbered.nd) sc_renumbered.nd)) (s_one (s_subA 2 (pv 2) (e_var 4) (e_pl 3) hu1)))
  (s_cons (s_setLc (ps_setLc (i := 5) (own := [("change", 6)]) (g := gName 6) rfl sc_renumbered.nd rfl rfl (sw_true rfl rfl rfl (by decide +kernel)) (i_of (e_sl (e_pl 0) o_none (o_some e_int))) (blkOk_by (own := [("change", 6)]) (N := N_renumbered) (sc := defScope s_renumbered) (by decide +kernel)) (fun _ _ _ _ _ => pg_name (i := 6) sc_renumbered.nd rfl (by first | exact Or.inl rfl | exact Or.inr rfl)) (fun _ _ _ _ _ => ets_nil) (fun _ _ _ _ _ => (e_callTy call_tuple_of rfl T.b_tuple (by decide +kernel) ok_tuple (es_cons (e_lc (pe_lc (own := [("flag", 3)]) (g := gName 3) rfl sc_renumbered.nd (i_of (e_var 1)) (blkOk_by (own := [("flag", 3)]) (N := N_renumbered) (sc := relS _ (defScope s_renumbered)) (by decide +kernel)) (fun _ _ _ _ _ => pg_name (i := 3) sc_renumbered.nd rfl (by first | exact Or.inl rfl | exact Or.inr rfl)) (fun _ _ _ _ _ => ets_nil) (fun _ _ _ _ _ => (e_ix (ix_X hu1) ok_ixX (fun _ _ => rfl) (e_pl 2) (e_ix (ix_X hu1) ok_ixX (fun _ _ => rfl) (e_pl 6) (e_pl 3)))))) es_nil)))))
  (s_cons (s_set 7 sc_renumbered.nd (e_callTy call_tuple_of rfl T.b_tuple (by decide +kernel) ok_tuple (es_cons (e_lc (pe_lc (own := [("flag", 3)]) (g := gName 3) rfl sc_renumbered.nd (i_of (e_var 1)) (blkOk_by (own := [("flag", 3)]) (N := N_renumbered) (sc := defScope s_renumbered) (by decide +kernel)) (fun _ _ _ _ _ => pg_name (i := 3) sc_renumbered.nd rfl (by first | exact Or.inl rfl | exact Or.inr rfl)) (fun _ _ _ _ _ => ets_nil) (fun _ _ _ _ _ => (e_ix (ix_X hu1) ok_ixX (fun _ _ => rfl) (e_ix (ix_X hu1) ok_ixX (fun _ _ => rfl) (e_pl 0) e_int) (e_pl 3))))) es_nil)))
  (s_cons (s_set 8 sc_renumbered.nd (e_callTy call_tuple_of rfl T.b_tuple (by decide +kernel) ok_tuple (es_cons (e_lc (pe_lc (own := [("flag", 3)]) (g := gName 3) rfl sc_renumbered.nd (i_of (e_var 1)) (blkOk_by (own := [("flag", 3)]) (N := N_renumbered) (sc := defScope s_renumbered) (by decide +kernel)) (fun _ _ _ _ _ => pg_name (i := 3) sc_renumbered.nd rfl (by first | exact Or.inl rfl | exact Or.inr rfl)) (fun _ _ _ _ _ => ets_nil) (fun _ _ _ _ _ => (e_ix (ix_X hu1) ok_ixX (fun _ _ => rfl) (e_ix (ix_X hu1) ok_ixX (fun _ _ => rfl) (e_pl 0) e_int) (e_pl 3))))) es_nil)))
  (s_one (s_ret (e_tupA (es_cons (e_ix (ix_X hu1) ok_ixX (fun _ _ => rfl) (e_pl 5) e_int) (es_cons (e_ix (ix_X hu1) ok_ixX (fun _ _ => rfl) (e_pl 5) e_int) (es_cons (e_ix (ix_X hu1) ok_ixX (fun _ _ => rfl) (e_pl 5) e_int) (es_cons (e_var 7) (es_cons (e_var 8) es_nil)))))))))))))
abbrev s_walk : Stmt := top 2
abbrev N_walk : List Str := ["pattern", "flag", "listing", "place", "seen", "change", "target"]
theorem sc_walk : FnScope N_walk ["pattern", "flag"] (defScope s_walk) := ⟨rfl, rfl, rfl, by decide +kernel, rfl, by decide +kernel, by decide +kernel⟩
theorem ok_walk {f : Addr} {fd : FuncData} (T : Tx K mg) (FF : L2.Fun K "walk" "walk" s_walk f fd) (hm : mg "walk" = some (.ref f)) : Callee P w K mg base 1 "walk" 2 f_walk := by
  refine ⟨f, fd, ["pattern", "flag"], fn_ok FF sc_walk rfl rfl (fun cdv A outer s H hr => ?_), hm, FF.kp, FF.binds fun _ _ _ _ _ _ us hl => match us, hl with | [_, _], _ => rfl⟩
  have hu1 := hu_of hr
  have hu64 := hr.units
  have hu65 := hu65_of hr
  exact (s_cons (s_parA 2 3 sc_walk.nd (es_cons (e_lstA (es_cons (e_var 1) es_nil)) (es_cons e_int es_nil)))
  (s_cons (s_set 4 sc_walk.nd (e_set0 rfl T.b_set))
  (s_cons (s_expr (e_addA 4 (pv 4) (es_cons (e_pl 1) es_nil)))
  (s_cons (s_while 100000 PassesOwn.never (c_cmp op_lt ok_cmp (nomark _) (e_pl 3) (e_callB call_len rfl T.b_len (by decide +kernel) ok_len (es_cons (e_pl 2) es_nil))) (s_cons (s_for PassesOwn.never rfl (i_of (e_sl (e_pl 0) o_none (o_some e_int))) (g_name 5 sc_walk.nd) (s_cons (s_set 6 sc_walk.nd (e_ix (ix_X hu1) ok_ixX (fun _ _ => rfl) (e_pl 5) (e_ix (ix_X hu1) ok_ixX (fun _ _ => rfl) (e_pl 2) (e_pl 3))))
  (s_one (s_if (c_cmp (op_notinX hu65) ok_notinX rfl (e_pl 6) (e_pl 4)) (s_cons (s_expr (e_addA 4 (pv 4) (es_cons (e_pl 6) es_nil)))
  (s_one (s_expr (e_appendA 2 (pv 2) (es_cons (e_var 6) es_nil))))) s_nil))))
  (s_one (s_aug 3 ip_add sc_walk.nd e_int))))
  (s_one (s_ret (e_callTy call_tuple_of rfl T.b_tuple (by decide +kernel) ok_tuple (es_cons (e_pl 2) es_nil))))))))
abbrev s_least : Stmt := top 3
abbrev N_least : List Str := ["pattern", "best", "flag", "found"]
theorem sc_least : FnScope N_least ["pattern"] (defScope s_least) := ⟨rfl, rfl, rfl, by decide +kernel, rfl, by decide +kernel, by decide +kernel⟩
theorem ok_least {f : Addr} {fd : FuncData} (T : Tx K mg) (h_renumbered : Callee P w K mg base 1 "renumbered" 2 f_renumbered) (h_walk : Callee P w K mg base 1 "walk" 2 f_walk) (FF : L2.Fun K "least" "least" s_least f fd) (hm : mg "least" = some (.ref f)) : Callee P w K mg base 2 "least" 1 f_least := by
  refine ⟨f, fd, ["pattern"], fn_ok FF sc_least rfl rfl (fun cdv A outer s H hr => ?_), hm, FF.kp, FF.binds fun _ _ _ _ _ _ us hl => match us, hl with | [_], _ => rfl⟩
  have hu1 := hu_of hr
  have hu64 := hr.units
  have hu65 := hu65_of hr
  exact (s_cons (s_set 1 sc_least.nd (e_call h_renumbered hr (by decide) rfl (es_cons (e_var 0) (es_cons (e_call h_walk hr (by decide) rfl (es_cons (e_var 0) (es_cons e_int es_nil))) es_nil))))
  (s_cons (s_for PassesOwn.never rfl (i_r2 rfl T.b_range e_int (e_callB call_len rfl T.b_len (by decide +kernel) ok_len (es_cons (e_ix (ix_X hu1) ok_ixX (fun _ _ => rfl) (e_pl 0) e_int) es_nil))) (g_name 2 sc_least.nd) (s_cons (s_set 3 sc_least.nd (e_call h_renumbered hr (by decide) rfl (es_cons (e_var 0) (es_cons (e_call h_walk hr (by decide) rfl (es_cons (e_var 0) (es_cons (e_var 2) es_nil))) es_nil))))
  (s_one (s_if (c_cmp (op_ltD hu65) ok_ltD (nomark _) (e_pl 3) (e_pl 1)) (s_one (s_set 1 sc_least.nd (e_var 3))) s_nil))))
  (s_one (s_ret (e_mv 1)))))
abbrev s_law_begun : Stmt := top 5
abbrev N_law_begun : List Str := ["script", "k", "cells", "great", "cell", "seed"]
theorem sc_law_begun : FnScope N_law_begun ["script", "k"] (defScope s_law_begun) := ⟨rfl, rfl, rfl, by decide +kernel, rfl, by decide +kernel, by decide +kernel⟩
theorem ok_law_begun {f : Addr} {fd : FuncData} (T : Tx K mg) (FF : L2.Fun K "_law_begun" "_law_begun" s_law_begun f fd) (hm : mg "_law_begun" = some (.ref f)) : Callee P w K mg base 1 "_law_begun" 2 f_law_begun := by
  refine ⟨f, fd, ["script", "k"], fn_ok FF sc_law_begun rfl rfl (fun cdv A outer s H hr => ?_), hm, FF.kp, FF.binds fun _ _ _ _ _ _ us hl => match us, hl with | [_, _], _ => rfl⟩
  have hu1 := hu_of hr
  have hu64 := hr.units
  have hu65 := hu65_of hr
  exact (s_cons (s_set 2 sc_law_begun.nd (e_bin op_addX ok_add (e_sl (e_pl 0) (o_some (e_pl 1)) o_none) (e_sl (e_pl 0) o_none (o_some (e_pl 1)))))
  (s_cons (s_setLc (ps_setLc (i := 3) (own := [("cell", 4)]) (g := gName 4) rfl sc_law_begun.nd rfl rfl (sw_true rfl rfl rfl (by decide +kernel)) (i_of (e_var 2)) (blkOk_by (own := [("cell", 4)]) (N := N_law_begun) (sc := defScope s_law_begun) (by decide +kernel)) (fun _ _ _ _ _ => pg_name (i := 4) sc_law_begun.nd rfl (by first | exact Or.inl rfl | exact Or.inr rfl)) (fun _ _ _ _ _ => (ets_one (c_cmp op_ge ok_cmp (nomark _) (e_pl 4) (e_bin op_pow ok_pow e_int e_int)))) (fun _ _ _ _ _ => (e_var 4))))
  (s_cons (s_set 5 sc_law_begun.nd (e_bin op_addX ok_add e_int (e_pl 1)))
  (s_cons (s_for PassesOwn.never rfl (i_of (e_var 2)) (g_name 4 sc_law_begun.nd) (s_one (s_set 5 sc_law_begun.nd (e_bin op_modN ok_mod (e_callTy call_int1 rfl T.b_int (by decide +kernel) ok_int (es_cons (e_bin op_addX ok_add (e_bin op_mulY ok_mulY (e_pl 5) e_int) (e_pl 4)) es_nil)) e_int))))
  (s_one (s_ret (e_disp (pps_cons pe_str (e_if (c_cmp (op_neD hu64) ok_ne (nomark _) (e_pl 3) (e_lstA es_nil)) (e_ix (ix_X hu1) ok_ixX (fun _ _ => rfl) (e_pl 3) e_int) e_int) (pps_cons pe_str (e_var 5) (pps_cons pe_str (e_bin op_addX ok_add (e_pl 2) (e_lstA (es_cons (e_bin op_addX ok_add (e_bin op_mulY ok_mulY e_int (e_pl 1)) e_int) es_nil))) (pps_cons pe_str e_int pps_nil)))) (by rfl) (by rfl) (fun z => by cases z) (by decide) rfl (by decide))))))))
abbrev s_law_draw : Stmt := top 6
abbrev N_law_draw : List Str := ["m", "below", "found", "spot", "cells", "extra", "cell", "blend"]
theorem sc_law_draw : FnScope N_law_draw ["m", "below"] (defScope s_law_draw) := ⟨rfl, rfl, rfl, by decide +kernel, rfl, by decide +kernel, by decide +kernel⟩
theorem ok_law_draw {f : Addr} {fd : FuncData} (T : Tx K mg) (FF : L2.Fun K "_law_draw" "_law_draw" s_law_draw f fd) (hm : mg "_law_draw" = some (.ref f)) : Callee P w K mg base 1 "_law_draw" 2 f_law_draw := by
  refine ⟨f, fd, ["m", "below"], fn_ok FF sc_law_draw rfl rfl (fun cdv A outer s H hr => ?_), hm, FF.kp, FF.binds fun _ _ _ _ _ _ us hl => match us, hl with | [_, _], _ => rfl⟩
  have hu1 := hu_of hr
  have hu64 := hr.units
  have hu65 := hu65_of hr
  exact (s_cons (s_if (c_cmp op_gt ok_cmp (nomark _) (e_ix (ix_X hu1) ok_ixX (fun _ _ => rfl) (e_pl 0) e_str) e_int) (s_cons (s_set 2 sc_law_draw.nd (e_bin op_modN ok_mod (e_callTy call_int1 rfl T.b_int (by decide +kernel) ok_int (es_cons (e_ix (ix_X hu1) ok_ixX (fun _ _ => rfl) (e_pl 0) e_str) es_nil)) (e_pl 1)))
  (s_cons (s_subA 0 (pv 0) (e_bin op_fdivX ok_div (e_ix (ix_X hu1) ok_ixX (fun _ _ => rfl) (e_pl 0) e_str) (e_pl 1)) e_str hu1)
  (s_one (s_ret (e_mv 2))))) s_nil)
  (s_cons (s_set 3 sc_law_draw.nd (e_ix (ix_X hu1) ok_ixX (fun _ _ => rfl) (e_pl 0) e_str))
  (s_cons (s_subA 0 (pv 0) (e_bin op_addX ok_add (e_pl 3) e_int) e_str hu1)
  (s_cons (s_parA 4 5 sc_law_draw.nd (es_cons (e_ix (ix_X hu1) ok_ixX (fun _ _ => rfl) (e_pl 0) e_str) (es_cons (e_bin op_addX ok_add (e_ix (ix_X hu1) ok_ixX (fun _ _ => rfl) (e_pl 0) e_str) (e_bin op_mulY ok_mulY (e_bin op_mulY ok_mulY e_int (e_pl 3)) (e_pl 3))) es_nil)))
  (s_cons (s_set 6 sc_law_draw.nd (e_ix (ix_X hu1) ok_ixX (fun _ _ => rfl) (e_pl 4) (e_bin op_modN ok_mod (e_callTy call_int1 rfl T.b_int (by decide +kernel) ok_int (es_cons (e_pl 3) es_nil)) (e_callB call_len rfl T.b_len (by decide +kernel) ok_len (es_cons (e_pl 4) es_nil)))))
  (s_cons (s_set 7 sc_law_draw.nd (e_bin op_modN ok_mod (e_callTy call_int1 rfl T.b_int (by decide +kernel) ok_int (es_cons (e_bin op_addX ok_add (e_bin op_mulY ok_mulY (e_pl 6) (e_bin op_addX ok_add (e_bin op_mulY ok_mulY e_int (e_pl 3)) e_int)) (e_pl 5)) es_nil)) e_int))
  (s_cons (s_set 7 sc_law_draw.nd (e_bin op_modN ok_mod (e_callTy call_int1 rfl T.b_int (by decide +kernel) ok_int (es_cons (e_bin op_addX ok_add (e_bin op_addX ok_add (e_bin op_mulY ok_mulY (e_pl 7) (e_pl 7)) (e_bin op_mulY ok_mulY e_int (e_pl 3))) (e_ix (ix_X hu1) ok_ixX (fun _ _ => rfl) (e_pl 0) e_str)) es_nil)) e_int))
  (s_one (s_ret (e_bin op_modN ok_mod (e_bin op_fdivX ok_div (e_bin op_modN ok_mod (e_callTy call_int1 rfl T.b_int (by decide +kernel) ok_int (es_cons (e_bin op_addX ok_add (e_bin op_mulY ok_mulY (e_pl 7) e_int) (e_pl 3)) es_nil)) e_int) e_int) (e_pl 1)))))))))))
abbrev s_law_of : Stmt := top 7
abbrev N_law_of : List Str := ["m", "some"]
theorem sc_law_of : FnScope N_law_of ["m", "some"] (defScope s_law_of) := ⟨rfl, rfl, rfl, by decide +kernel, rfl, by decide +kernel, by decide +kernel⟩
theorem ok_law_of {f : Addr} {fd : FuncData} (T : Tx K mg) (h_law_draw : Callee P w K mg base 1 "_law_draw" 2 f_law_draw) (FF : L2.Fun K "_law_of" "_law_of" s_law_of f fd) (hm : mg "_law_of" = some (.ref f)) : Callee P w K mg base 2 "_law_of" 2 f_law_of := by
  refine ⟨f, fd, ["m", "some"], fn_ok FF sc_law_of rfl rfl (fun cdv A outer s H hr => ?_), hm, FF.kp, FF.binds fun _ _ _ _ _ _ us hl => match us, hl with | [_, _], _ => rfl⟩
  have hu1 := hu_of hr
  have hu64 := hr.units
  have hu65 := hu65_of hr
  exact (s_one (s_ret (e_ix (ix_X hu1) ok_ixX (fun _ _ => rfl) (e_pl 1) (e_callM 0 h_law_draw hr (by decide) rfl (pv 0) (es_cons (e_callB call_len rfl T.b_len (by decide +kernel) ok_len (es_cons (e_pl 1) es_nil)) es_nil)))))
abbrev s_law_put : Stmt := top 8
abbrev N_law_put : List Str := ["rows", "word", "base", "first", "third", "entry", "k"]
theorem sc_law_put : FnScope N_law_put ["rows", "word"] (defScope s_law_put) := ⟨rfl, rfl, rfl, by decide +kernel, rfl, by decide +kernel, by decide +kernel⟩
theorem ok_law_put {f : Addr} {fd : FuncData} (T : Tx K mg) (FF : L2.Fun K "_law_put" "_law_put" s_law_put f fd) (hm : mg "_law_put" = some (.ref f)) : Callee P w K mg base 1 "_law_put" 2 f_law_put := by
  refine ⟨f, fd, ["rows", "word"], fn_ok FF sc_law_put rfl rfl (fun cdv A outer s H hr => ?_), hm, FF.kp, FF.binds fun _ _ _ _ _ _ us hl => match us, hl with | [_, _], _ => rfl⟩
  have hu1 := hu_of hr
  have hu64 := hr.units
  have hu65 := hu65_of hr
  exact (s_cons (s_set 2 sc_law_put.nd (e_rowLen 0 (pv 0) rfl T.b_len (by decide +kernel)))
  (s_cons (s_set 3 sc_law_put.nd (e_ix (ix_X hu1) ok_ixX (fun _ _ => rfl) (e_disp (pps_cons pe_str (e_lstA (es_cons e_int (es_cons e_int (es_cons e_int (es_cons e_int es_nil))))) (pps_cons pe_str (e_lstA (es_cons e_int (es_cons e_int es_nil))) (pps_cons pe_str (e_lstA (es_cons e_int (es_cons e_int es_nil))) (pps_cons pe_str (e_lstA (es_cons e_int (es_cons e_int es_nil))) (pps_cons pe_str (e_lstA (es_cons e_int es_nil)) pps_nil))))) (by rfl) (by rfl) (fun z => by cases z) (by decide) rfl (by decide)) (e_pl 1)))
  (s_cons (s_set 4 sc_law_put.nd (e_ix (ix_X hu1) ok_ixX (fun _ _ => rfl) (e_disp (pps_cons pe_str (e_lstA (es_cons e_int (es_cons e_int (es_cons e_int (es_cons e_int es_nil))))) (pps_cons pe_str (e_lstA (es_cons e_int (es_cons e_int es_nil))) (pps_cons pe_str (e_lstA (es_cons e_int (es_cons e_int es_nil))) (pps_cons pe_str (e_lstA (es_cons e_int (es_cons e_int es_nil))) (pps_cons pe_str (e_lstA (es_cons e_int es_nil)) pps_nil))))) (by rfl) (by rfl) (fun z => by cases z) (by decide) rfl (by decide)) (e_pl 1)))
  (s_cons (s_expr (e_rowExtend 0 (pv 0) (es_cons (e_lc (pe_lc (own := [("entry", 5)]) (g := gName 5) rfl sc_law_put.nd (i_of (e_var 3)) (blkOk_by (own := [("entry", 5)]) (N := N_law_put) (sc := defScope s_law_put) (by decide +kernel)) (fun _ _ _ _ _ => pg_name (i := 5) sc_law_put.nd rfl (by first | exact Or.inl rfl | exact Or.inr rfl)) (fun _ _ _ _ _ => ets_nil) (fun _ _ _ _ _ => (e_bin op_addX ok_add (e_pl 2) (e_pl 5))))) es_nil)))
  (s_cons (s_expr (e_rowExtend 0 (pv 0) (es_cons (e_lc (pe_lc (own := [("k", 6)]) (g := gName 6) rfl sc_law_put.nd (i_r1 rfl T.b_range (e_callB call_len rfl T.b_len (by decide +kernel) ok_len (es_cons (e_pl 3) es_nil))) (blkOk_by (own := [("k", 6)]) (N := N_law_put) (sc := defScope s_law_put) (by decide +kernel)) (fun _ _ _ _ _ => pg_name (i := 6) sc_law_put.nd rfl (by first | exact Or.inl rfl | exact Or.inr rfl)) (fun _ _ _ _ _ => ets_nil) (fun _ _ _ _ _ => (e_bin op_addX ok_add (e_pl 2) (e_pl 6))))) es_nil)))
  (s_cons (s_expr (e_rowExtend 0 (pv 0) (es_cons (e_lc (pe_lc (own := [("entry", 5)]) (g := gName 5) rfl sc_law_put.nd (i_of (e_var 4)) (blkOk_by (own := [("entry", 5)]) (N := N_law_put) (sc := defScope s_law_put) (by decide +kernel)) (fun _ _ _ _ _ => pg_name (i := 5) sc_law_put.nd rfl (by first | exact Or.inl rfl | exact Or.inr rfl)) (fun _ _ _ _ _ => ets_nil) (fun _ _ _ _ _ => (e_bin op_addX ok_add (e_pl 2) (e_pl 5))))) es_nil)))
  (s_one (s_ret (e_callB call_len rfl T.b_len (by decide +kernel) ok_len (es_cons (e_pl 3) es_nil))))))))))
abbrev s_law_frame : Stmt := top 9
abbrev N_law_frame : List Str := ["m", "most", "rows", "free", "turn", "word", "size", "base", "link", "flag", "k", "other"]
theorem sc_law_frame : FnScope N_law_frame ["m", "most"] (defScope s_law_frame) := ⟨rfl, rfl, rfl, by decide +kernel, rfl, by decide +kernel, by decide +kernel⟩
theorem ok_law_frame {f : Addr} {fd : FuncData} (T : Tx K mg) (h_law_draw : Callee P w K mg base 1 "_law_draw" 2 f_law_draw) (h_law_of : Callee P w K mg base 2 "_law_of" 2 f_law_of) (h_law_put : Callee P w K mg base 1 "_law_put" 2 f_law_put) (FF : L2.Fun K "_law_frame" "_law_frame" s_law_frame f fd) (hm : mg "_law_frame" = some (.ref f)) : Callee P w K mg base 3 "_law_frame" 2 f_law_frame := by
  refine ⟨f, fd, ["m", "most"], fn_ok FF sc_law_frame rfl rfl (fun cdv A outer s H hr => ?_), hm, FF.kp, FF.binds fun _ _ _ _ _ _ us hl => match us, hl with | [_, _], _ => rfl⟩
  have hu1 := hu_of hr
  have hu64 := hr.units
  have hu65 := hu65_of hr
  exact (s_cons (s_parA 2 3 sc_law_frame.nd (es_cons (e_rowsA (es_cons (e_lstA es_nil) (es_cons (e_lstA es_nil) (es_cons (e_lstA es_nil) es_nil)))) (es_cons (e_lstA es_nil) es_nil)))
  (s_cons (s_for PassesOwn.never rfl (i_r1 rfl T.b_range (e_bin op_addX ok_add e_int (e_callM 0 h_law_draw hr (by decide) rfl (pv 0) (es_cons e_int es_nil)))) (g_name 4 sc_law_frame.nd) (s_cons (s_set 5 sc_law_frame.nd (e_callM 0 h_law_of hr (by decide) rfl (pv 0) (es_cons (e_lstA (es_cons e_str (es_cons e_str (es_cons e_str (es_cons e_str (es_cons e_str es_nil)))))) es_nil)))
  (s_cons (s_set 6 sc_law_frame.nd (e_ix (ix_X hu1) ok_ixX (fun _ _ => rfl) (e_disp (pps_cons pe_str e_int (pps_cons pe_str e_int (pps_cons pe_str e_int (pps_cons pe_str e_int (pps_cons pe_str e_int pps_nil))))) (by rfl) (by rfl) (fun z => by cases z) (by decide) rfl (by decide)) (e_pl 5)))
  (s_cons (s_set 7 sc_law_frame.nd (e_rowLen 2 (pv 2) rfl T.b_len (by decide +kernel)))
  (s_cons (s_if (c_w (c_or (c_cmp op_gt ok_cmp (nomark _) (e_bin op_addX ok_add (e_pl 7) (e_pl 6)) (e_pl 1)) (c_or1 (c_w (c_and (c_cmp op_gt ok_cmp (nomark _) (e_pl 7) e_int) (c_and1 (c_cmp (op_eqD hu64) ok_eq (nomark _) (e_pl 3) (e_lstA es_nil)))))))) (s_one s_cnt) s_nil)
  (s_cons (s_expr (e_callM 2 h_law_put hr (by decide) rfl (pv 2) (es_cons (e_var 5) es_nil)))
  (s_one (s_if (c_cmp op_gt ok_cmp (nomark _) (e_pl 7) e_int) (s_cons (s_set 8 sc_law_frame.nd (e_callM 0 h_law_of hr (by decide) rfl (pv 0) (es_cons (e_var 3) es_nil)))
  (s_cons (s_rowSub 2 (pv 2) (e_var 7) (e_pl 8))
  (s_cons (s_rowSub 2 (pv 2) (e_var 8) (e_pl 7))
  (s_cons (s_setLc (ps_setLc (i := 3) (own := [("flag", 9)]) (g := gName 9) rfl sc_law_frame.nd rfl rfl (sw_true rfl rfl rfl (by decide +kernel)) (i_of (e_var 3)) (blkOk_by (own := [("flag", 9)]) (N := N_law_frame) (sc := defScope s_law_frame) (by decide +kernel)) (fun _ _ _ _ _ => pg_name (i := 9) sc_law_frame.nd rfl (by first | exact Or.inl rfl | exact Or.inr rfl)) (fun _ _ _ _ _ => (ets_one (c_cmp (op_neD hu64) ok_ne (nomark _) (e_pl 9) (e_pl 8)))) (fun _ _ _ _ _ => (e_var 9))))
  (s_one (s_expr (e_extendA 3 (pv 3) (es_cons (e_lc (pe_lc (own := [("k", 10)]) (g := gName 10) rfl sc_law_frame.nd (i_r2 rfl T.b_range e_int (e_pl 6)) (blkOk_by (own := [("k", 10)]) (N := N_law_frame) (sc := defScope s_law_frame) (by decide +kernel)) (fun _ _ _ _ _ => pg_name (i := 10) sc_law_frame.nd rfl (by first | exact Or.inl rfl | exact Or.inr rfl)) (fun _ _ _ _ _ => ets_nil) (fun _ _ _ _ _ => (e_bin op_addX ok_add (e_pl 7) (e_pl 10))))) es_nil)))))))) (s_one (s_setLc (ps_setLc (i := 3) (own := [("k", 10)]) (g := gName 10) rfl sc_law_frame.nd rfl rfl (sw_true rfl rfl rfl (by decide +kernel)) (i_r1 rfl T.b_range (e_pl 6)) (blkOk_by (own := [("k", 10)]) (N := N_law_frame) (sc := defScope s_law_frame) (by decide +kernel)) (fun _ _ _ _ _ => pg_name (i := 10) sc_law_frame.nd rfl (by first | exact Or.inl rfl | exact Or.inr rfl)) (fun _ _ _ _ _ => ets_nil) (fun _ _ _ _ _ => (e_var 10)))))))))))))
  (s_cons (s_if (c_rowNil 2 hu64 (pv 2)) (s_cons (s_expr (e_callM 2 h_law_put hr (by decide) rfl (pv 2) (es_cons e_str es_nil)))
  (s_one (s_ret (e_mv 2)))) s_nil)
  (s_cons (s_for PassesOwn.never rfl (i_r1 rfl T.b_range (e_callB call_len rfl T.b_len (by decide +kernel) ok_len (es_cons (e_pl 3) es_nil))) (g_name 4 sc_law_frame.nd) (s_one (s_if (c_w (c_and (c_cmp op_gt ok_cmp (nomark _) (e_callB call_len rfl T.b_len (by decide +kernel) ok_len (es_cons (e_pl 3) es_nil)) e_int) (c_and1 (c_cmp op_gt ok_cmp (nomark _) (e_callM 0 h_law_draw hr (by decide) rfl (pv 0) (es_cons e_int es_nil)) e_int)))) (s_cons (s_set 11 sc_law_frame.nd (e_callM 0 h_law_of hr (by decide) rfl (pv 0) (es_cons (e_sl (e_pl 3) (o_some e_int) o_none) es_nil)))
  (s_cons (s_rowSub 2 (pv 2) (e_var 11) (e_ix (ix_X hu1) ok_ixX (fun _ _ => rfl) (e_pl 3) e_int))
  (s_cons (s_rowSub 2 (pv 2) (e_ix (ix_X hu1) ok_ixX (fun _ _ => rfl) (e_pl 3) e_int) (e_pl 11))
  (s_one (s_setLc (ps_setLc (i := 3) (own := [("flag", 9)]) (g := gName 9) rfl sc_law_frame.nd rfl rfl (sw_true rfl rfl rfl (by decide +kernel)) (i_of (e_sl (e_pl 3) (o_some e_int) o_none)) (blkOk_by (own := [("flag", 9)]) (N := N_law_frame) (sc := defScope s_law_frame) (by decide +kernel)) (fun _ _ _ _ _ => pg_name (i := 9) sc_law_frame.nd rfl (by first | exact Or.inl rfl | exact Or.inr rfl)) (fun _ _ _ _ _ => (ets_one (c_cmp (op_neD hu64) ok_ne (nomark _) (e_pl 9) (e_pl 11)))) (fun _ _ _ _ _ => (e_var 9)))))))) (s_one (s_set 3 sc_law_frame.nd (e_sl (e_pl 3) (o_some e_int) o_none))))))
  (s_one (s_ret (e_mv 2)))))))
abbrev s_law_class : Stmt := top 10
abbrev N_law_class : List Str := ["one", "other", "flag", "found", "k", "far"]
theorem sc_law_class : FnScope N_law_class ["one", "other", "flag"] (defScope s_law_class) := ⟨rfl, rfl, rfl, by decide +kernel, rfl, by decide +kernel, by decide +kernel⟩
theorem ok_law_class {f : Addr} {fd : FuncData} (T : Tx K mg) (FF : L2.Fun K "_law_class" "_law_class" s_law_class f fd) (hm : mg "_law_class" = some (.ref f)) : Callee P w K mg base 1 "_law_class" 3 f_law_class := by
  refine ⟨f, fd, ["one", "other", "flag"], fn_ok FF sc_law_class rfl rfl (fun cdv A outer s H hr => ?_), hm, FF.kp, FF.binds fun _ _ _ _ _ _ us hl => match us, hl with | [_, _, _], _ => rfl⟩
  have hu1 := hu_of hr
  have hu64 := hr.units
  have hu65 := hu65_of hr
  exact (s_cons (s_set 3 sc_law_class.nd (e_lstA (es_cons (e_var 2) es_nil)))
  (s_cons (s_for PassesOwn.never rfl (i_r1 rfl T.b_range (e_callB call_len rfl T.b_len (by decide +kernel) ok_len (es_cons (e_pl 0) es_nil))) (g_name 4 sc_law_class.nd) (s_cons (s_if (c_cmp op_ge ok_cmp (nomark _) (e_pl 4) (e_callB call_len rfl T.b_len (by decide +kernel) ok_len (es_cons (e_pl 3) es_nil))) (s_one (s_ret (e_callB (cr_sortX rfl) rfl T.b_sorted (by decide +kernel) ok_sortX (es_cons (e_pl 3) es_nil)))) s_nil)
  (s_one (s_for PassesOwn.never rfl (i_of (e_lstA (es_cons (e_ix (ix_X hu1) ok_ixX (fun _ _ => rfl) (e_pl 0) (e_ix (ix_X hu1) ok_ixX (fun _ _ => rfl) (e_pl 3) (e_pl 4))) (es_cons (e_ix (ix_X hu1) ok_ixX (fun _ _ => rfl) (e_pl 1) (e_ix (ix_X hu1) ok_ixX (fun _ _ => rfl) (e_pl 3) (e_pl 4))) es_nil)))) (g_name 5 sc_law_class.nd) (s_one (s_if (c_cmp (op_notinX hu65) ok_notinX rfl (e_pl 5) (e_pl 3)) (s_one (s_expr (e_appendA 3 (pv 3) (es_cons (e_var 5) es_nil)))) s_nil))))))
  (s_one (s_ret (e_callB (cr_sortX rfl) rfl T.b_sorted (by decide +kernel) ok_sortX (es_cons (e_pl 3) es_nil))))))
abbrev s_law_round : Stmt := top 11
abbrev N_law_round : List Str := ["one", "other", "flag", "place", "count", "k"]
theorem sc_law_round : FnScope N_law_round ["one", "other", "flag"] (defScope s_law_round) := ⟨rfl, rfl, rfl, by decide +kernel, rfl, by decide +kernel, by decide +kernel⟩
theorem ok_law_round {f : Addr} {fd : FuncData} (T : Tx K mg) (FF : L2.Fun K "_law_round" "_law_round" s_law_round f fd) (hm : mg "_law_round" = some (.ref f)) : Callee P w K mg base 1 "_law_round" 3 f_law_round := by
  refine ⟨f, fd, ["one", "other", "flag"], fn_ok FF sc_law_round rfl rfl (fun cdv A outer s H hr => ?_), hm, FF.kp, FF.binds fun _ _ _ _ _ _ us hl => match us, hl with | [_, _, _], _ => rfl⟩
  have hu1 := hu_of hr
  have hu64 := hr.units
  have hu65 := hu65_of hr
  exact (s_cons (s_parA 3 4 sc_law_round.nd (es_cons (e_ix (ix_X hu1) ok_ixX (fun _ _ => rfl) (e_pl 1) (e_ix (ix_X hu1) ok_ixX (fun _ _ => rfl) (e_pl 0) (e_pl 2))) (es_cons e_int es_nil)))
  (s_cons (s_for PassesOwn.never rfl (i_r1 rfl T.b_range (e_callB call_len rfl T.b_len (by decide +kernel) ok_len (es_cons (e_pl 0) es_nil))) (g_name 5 sc_law_round.nd) (s_cons (s_if (c_cmp (op_eqD hu64) ok_eq (nomark _) (e_pl 3) (e_pl 2)) (s_one (s_ret (e_mv 4))) s_nil)
  (s_cons (s_set 3 sc_law_round.nd (e_ix (ix_X hu1) ok_ixX (fun _ _ => rfl) (e_pl 1) (e_ix (ix_X hu1) ok_ixX (fun _ _ => rfl) (e_pl 0) (e_pl 3))))
  (s_one (s_set 4 sc_law_round.nd (e_bin op_addX ok_add (e_pl 4) e_int))))))
  (s_one (s_ret (e_mv 4)))))
abbrev s_law_orders : Stmt := top 12
abbrev N_law_orders : List Str := ["m", "one", "other", "wide", "found", "flag", "order", "far"]
theorem sc_law_orders : FnScope N_law_orders ["m", "one", "other", "wide"] (defScope s_law_orders) := ⟨rfl, rfl, rfl, by decide +kernel, rfl, by decide +kernel, by decide +kernel⟩
theorem ok_law_orders {f : Addr} {fd : FuncData} (T : Tx K mg) (h_law_draw : Callee P w K mg base 1 "_law_draw" 2 f_law_draw) (h_law_class : Callee P w K mg base 1 "_law_class" 3 f_law_class) (h_law_round : Callee P w K mg base 1 "_law_round" 3 f_law_round) (FF : L2.Fun K "_law_orders" "_law_orders" s_law_orders f fd) (hm : mg "_law_orders" = some (.ref f)) : Callee P w K mg base 2 "_law_orders" 4 f_law_orders := by
  refine ⟨f, fd, ["m", "one", "other", "wide"], fn_ok FF sc_law_orders rfl rfl (fun cdv A outer s H hr => ?_), hm, FF.kp, FF.binds fun _ _ _ _ _ _ us hl => match us, hl with | [_, _, _, _], _ => rfl⟩
  have hu1 := hu_of hr
  have hu64 := hr.units
  have hu65 := hu65_of hr
  exact (s_cons (s_setLc (ps_setLc (i := 4) (own := [("flag", 5)]) (g := gName 5) rfl sc_law_orders.nd rfl rfl (sw_true rfl rfl rfl (by decide +kernel)) (i_of (e_var 1)) (blkOk_by (own := [("flag", 5)]) (N := N_law_orders) (sc := defScope s_law_orders) (by decide +kernel)) (fun _ _ _ _ _ => pg_name (i := 5) sc_law_orders.nd rfl (by first | exact Or.inl rfl | exact Or.inr rfl)) (fun _ _ _ _ _ => ets_nil) (fun _ _ _ _ _ => e_int)))
  (s_cons (s_for PassesOwn.never rfl (i_r1 rfl T.b_range (e_callB call_len rfl T.b_len (by decide +kernel) ok_len (es_cons (e_pl 1) es_nil))) (g_name 5 sc_law_orders.nd) (s_one (s_if (c_cmp (op_eqD hu64) ok_eq (nomark _) (e_ix (ix_X hu1) ok_ixX (fun _ _ => rfl) (e_pl 4) (e_pl 5)) e_int) (s_cons (s_set 6 sc_law_orders.nd (e_bin op_mulY ok_mulY (e_call h_law_round hr (by decide) rfl (es_cons (e_var 1) (es_cons (e_var 2) (es_cons (e_var 5) es_nil)))) (e_bin op_addX ok_add e_int (e_callM 0 h_law_draw hr (by decide) rfl (pv 0) (es_cons (e_var 3) es_nil)))))
  (s_one (s_for PassesOwn.never rfl (i_of (e_call h_law_class hr (by decide) rfl (es_cons (e_var 1) (es_cons (e_var 2) (es_cons (e_var 5) es_nil))))) (g_name 7 sc_law_orders.nd) (s_one (s_subA 4 (pv 4) (e_var 6) (e_pl 7) hu1))))) s_nil)))
  (s_one (s_ret (e_callTy call_tuple_of rfl T.b_tuple (by decide +kernel) ok_tuple (es_cons (e_pl 4) es_nil))))))
abbrev s_law_pattern : Stmt := top 13
abbrev N_law_pattern : List Str := ["m", "most", "wide", "s0", "s1", "s2", "p"]
theorem sc_law_pattern : FnScope N_law_pattern ["m", "most", "wide"] (defScope s_law_pattern) := ⟨rfl, rfl, rfl, by decide +kernel, rfl, by decide +kernel, by decide +kernel⟩
theorem ok_law_pattern {f : Addr} {fd : FuncData} (T : Tx K mg) (h_law_frame : Callee P w K mg base 3 "_law_frame" 2 f_law_frame) (h_law_orders : Callee P w K mg base 2 "_law_orders" 4 f_law_orders) (FF : L2.Fun K "_law_pattern" "_law_pattern" s_law_pattern f fd) (hm : mg "_law_pattern" = some (.ref f)) : Callee P w K mg base 4 "_law_pattern" 3 f_law_pattern := by
  refine ⟨f, fd, ["m", "most", "wide"], fn_ok FF sc_law_pattern rfl rfl (fun cdv A outer s H hr => ?_), hm, FF.kp, FF.binds fun _ _ _ _ _ _ us hl => match us, hl with | [_, _, _], _ => rfl⟩
  have hu1 := hu_of hr
  have hu64 := hr.units
  have hu65 := hu65_of hr
  exact (s_cons (s_asg (e_callM 0 h_law_frame hr (by decide) rfl (pv 0) (es_cons (e_var 1) es_nil)) (g_tupA rfl rfl (gs_cons 3 (gs_cons 4 (gs_cons 5 gs_nil sc_law_pattern.nd) sc_law_pattern.nd) sc_law_pattern.nd)))
  (s_cons (s_set 6 sc_law_pattern.nd (e_callM 0 h_law_orders hr (by decide) rfl (pv 0) (es_cons (e_var 3) (es_cons (e_var 4) (es_cons (e_var 2) es_nil)))))
  (s_one (s_ret (e_tupA (es_cons (e_callTy call_tuple_of rfl T.b_tuple (by decide +kernel) ok_tuple (es_cons (e_pl 3) es_nil)) (es_cons (e_callTy call_tuple_of rfl T.b_tuple (by decide +kernel) ok_tuple (es_cons (e_pl 4) es_nil)) (es_cons (e_callTy call_tuple_of rfl T.b_tuple (by decide +kernel) ok_tuple (es_cons (e_pl 5) es_nil)) (es_cons (e_var 6) (es_cons (e_callM 0 h_law_orders hr (by decide) rfl (pv 0) (es_cons (e_var 4) (es_cons (e_var 5) (es_cons (e_var 2) es_nil)))) es_nil))))))))))
abbrev s_law_is_number : Stmt := top 14
abbrev N_law_is_number : List Str := ["value"]
theorem sc_law_is_number : FnScope N_law_is_number ["value"] (defScope s_law_is_number) := ⟨rfl, rfl, rfl, by decide +kernel, rfl, by decide +kernel, by decide +kernel⟩
theorem ok_law_is_number {f : Addr} {fd : FuncData} (T : Tx K mg) (FF : L2.Fun K "_law_is_number" "_law_is_number" s_law_is_number f fd) (hm : mg "_law_is_number" = some (.ref f)) : Callee P w K mg base 1 "_law_is_number" 1 f_law_is_number := by
  refine ⟨f, fd, ["value"], fn_ok FF sc_law_is_number rfl rfl (fun cdv A outer s H hr => ?_), hm, FF.kp, FF.binds fun _ _ _ _ _ _ us hl => match us, hl with | [_], _ => rfl⟩
  have hu1 := hu_of hr
  have hu64 := hr.units
  have hu65 := hu65_of hr
  exact (s_one (s_ret (e_and (e_isi rfl T.b_isinstance rfl T.b_int (by decide +kernel) (e_pl 0)) (e_one (e_not (e_isi rfl T.b_isinstance rfl T.b_bool (by decide +kernel) (e_pl 0)))))))
abbrev s_law_is_form : Stmt := top 15
abbrev N_law_is_form : List Str := ["value", "row", "one"]
theorem sc_law_is_form : FnScope N_law_is_form ["value"] (defScope s_law_is_form) := ⟨rfl, rfl, rfl, by decide +kernel, rfl, by decide +kernel, by decide +kernel⟩
theorem ok_law_is_form {f : Addr} {fd : FuncData} (T : Tx K mg) (h_law_is_number : Callee P w K mg base 1 "_law_is_number" 1 f_law_is_number) (FF : L2.Fun K "_law_is_form" "_law_is_form" s_law_is_form f fd) (hm : mg "_law_is_form" = some (.ref f)) : Callee P w K mg base 2 "_law_is_form" 1 f_law_is_form := by
  refine ⟨f, fd, ["value"], fn_ok FF sc_law_is_form rfl rfl (fun cdv A outer s H hr => ?_), hm, FF.kp, FF.binds fun _ _ _ _ _ _ us hl => match us, hl with | [_], _ => rfl⟩
  have hu1 := hu_of hr
  have hu64 := hr.units
  have hu65 := hu65_of hr
  exact (s_cons (s_if (c_w (c_or (c_not (c_val (e_isi rfl T.b_isinstance rfl T.b_tuple (by decide +kernel) (e_pl 0)))) (c_or1 (c_cmp (op_neD hu64) ok_ne (nomark _) (e_callB call_len rfl T.b_len (by decide +kernel) ok_len (es_cons (e_pl 0) es_nil)) e_int)))) (s_one (s_ret e_bl)) s_nil)
  (s_cons (s_for PassesOwn.never rfl (i_of (e_var 0)) (g_name 1 sc_law_is_form.nd) (s_one (s_if (c_w (c_or (c_not (c_val (e_isi rfl T.b_isinstance rfl T.b_tuple (by decide +kernel) (e_pl 1)))) (c_or1 (c_not (c_chain op_le op_le e_int (e_callB call_len rfl T.b_len (by decide +kernel) ok_len (es_cons (e_pl 1) es_nil)) e_int))))) (s_one (s_ret e_bl)) s_nil)))
  (s_cons (s_for PassesOwn.never rfl (i_of (e_var 0)) (g_name 1 sc_law_is_form.nd) (s_one (s_if (c_w (c_or (c_cmp (op_neD hu64) ok_ne (nomark _) (e_callB call_len rfl T.b_len (by decide +kernel) ok_len (es_cons (e_pl 1) es_nil)) (e_callB call_len rfl T.b_len (by decide +kernel) ok_len (es_cons (e_ix (ix_X hu1) ok_ixX (fun _ _ => rfl) (e_pl 0) e_int) es_nil))) (c_or1 (c_cmp (op_neD hu64) ok_ne (nomark _) (e_lc (pe_lc (own := [("one", 2)]) (g := gName 2) rfl sc_law_is_form.nd (i_of (e_var 1)) (blkOk_by (own := [("one", 2)]) (N := N_law_is_form) (sc := defScope s_law_is_form) (by decide +kernel)) (fun _ _ _ _ _ => pg_name (i := 2) sc_law_is_form.nd rfl (by first | exact Or.inl rfl | exact Or.inr rfl)) (fun _ _ _ _ _ => (ets_one (c_not (c_val (e_call h_law_is_number hr (by decide) rfl (es_cons (e_var 2) es_nil)))))) (fun _ _ _ _ _ => (e_var 2)))) (e_lstA es_nil))))) (s_one (s_ret e_bl)) s_nil)))
  (s_one (s_ret e_bl)))))
abbrev s_law_walk : Stmt := top 17
abbrev N_law_walk : List Str := ["value", "flag", "found", "seen", "one", "k", "s", "far"]
theorem sc_law_walk : FnScope N_law_walk ["value", "flag"] (defScope s_law_walk) := ⟨rfl, rfl, rfl, by decide +kernel, rfl, by decide +kernel, by decide +kernel⟩
theorem ok_law_walk {f : Addr} {fd : FuncData} (T : Tx K mg) (FF : L2.Fun K "_law_walk" "_law_walk" s_law_walk f fd) (hm : mg "_law_walk" = some (.ref f)) : Callee P w K mg base 1 "_law_walk" 2 f_law_walk := by
  refine ⟨f, fd, ["value", "flag"], fn_ok FF sc_law_walk rfl rfl (fun cdv A outer s H hr => ?_), hm, FF.kp, FF.binds fun _ _ _ _ _ _ us hl => match us, hl with | [_, _], _ => rfl⟩
  have hu1 := hu_of hr
  have hu64 := hr.units
  have hu65 := hu65_of hr
  exact (s_cons (s_parA 2 3 sc_law_walk.nd (es_cons (e_lstA (es_cons (e_var 1) es_nil)) (es_cons (e_lc (pe_lc (own := [("one", 4)]) (g := gName 4) rfl sc_law_walk.nd (i_r1 rfl T.b_range (e_callB call_len rfl T.b_len (by decide +kernel) ok_len (es_cons (e_ix (ix_X hu1) ok_ixX (fun _ _ => rfl) (e_pl 0) e_int) es_nil))) (blkOk_by (own := [("one", 4)]) (N := N_law_walk) (sc := defScope s_law_walk) (by decide +kernel)) (fun _ _ _ _ _ => pg_name (i := 4) sc_law_walk.nd rfl (by first | exact Or.inl rfl | exact Or.inr rfl)) (fun _ _ _ _ _ => ets_nil) (fun _ _ _ _ _ => (e_cmp (op_eqD hu64) ok_eq (nomark _) (e_pl 4) (e_pl 1))))) es_nil)))
  (s_cons (s_for PassesOwn.never rfl (i_r1 rfl T.b_range (e_callB call_len rfl T.b_len (by decide +kernel) ok_len (es_cons (e_ix (ix_X hu1) ok_ixX (fun _ _ => rfl) (e_pl 0) e_int) es_nil))) (g_name 5 sc_law_walk.nd) (s_one (s_if (c_cmp op_lt ok_cmp (nomark _) (e_pl 5) (e_callB call_len rfl T.b_len (by decide +kernel) ok_len (es_cons (e_pl 2) es_nil))) (s_one (s_for PassesOwn.never rfl (i_of (e_sl (e_pl 0) o_none (o_some e_int))) (g_name 6 sc_law_walk.nd) (s_cons (s_set 7 sc_law_walk.nd (e_ix (ix_X hu1) ok_ixX (fun _ _ => rfl) (e_pl 6) (e_ix (ix_X hu1) ok_ixX (fun _ _ => rfl) (e_pl 2) (e_pl 5))))
  (s_one (s_if (c_not (c_val (e_ix (ix_X hu1) ok_ixX (fun _ _ => rfl) (e_pl 3) (e_pl 7)))) (s_cons (s_subA 3 (pv 3) e_bl (e_pl 7) hu1)
  (s_one (s_expr (e_appendA 2 (pv 2) (es_cons (e_var 7) es_nil))))) s_nil))))) s_nil)))
  (s_one (s_ret (e_mv 2)))))
abbrev s_law_is_pattern : Stmt := top 16
abbrev N_law_is_pattern : List Str := ["value", "s0", "s1", "s2", "p", "q", "flags", "s", "flag", "one", "other", "row"]
theorem sc_law_is_pattern : FnScope N_law_is_pattern ["value"] (defScope s_law_is_pattern) := ⟨rfl, rfl, rfl, by decide +kernel, rfl, by decide +kernel, by decide +kernel⟩
theorem ok_law_is_pattern {f : Addr} {fd : FuncData} (T : Tx K mg) (h_law_round : Callee P w K mg base 1 "_law_round" 3 f_law_round) (h_law_is_form : Callee P w K mg base 2 "_law_is_form" 1 f_law_is_form) (h_law_walk : Callee P w K mg base 1 "_law_walk" 2 f_law_walk) (FF : L2.Fun K "_law_is_pattern" "_law_is_pattern" s_law_is_pattern f fd) (hm : mg "_law_is_pattern" = some (.ref f)) : Callee P w K mg base 3 "_law_is_pattern" 1 f_law_is_pattern := by
  refine ⟨f, fd, ["value"], fn_ok FF sc_law_is_pattern rfl rfl (fun cdv A outer s H hr => ?_), hm, FF.kp, FF.binds fun _ _ _ _ _ _ us hl => match us, hl with | [_], _ => rfl⟩
  have hu1 := hu_of hr
  have hu64 := hr.units
  have hu65 := hu65_of hr
  exact (s_cons (s_if (c_not (c_val (e_call h_law_is_form hr (by decide) rfl (es_cons (e_var 0) es_nil)))) (s_one (s_ret e_bl)) s_nil)
  (s_cons (s_asg (e_var 0) (g_tupA rfl rfl (gs_cons 1 (gs_cons 2 (gs_cons 3 (gs_cons 4 (gs_cons 5 gs_nil sc_law_is_pattern.nd) sc_law_is_pattern.nd) sc_law_is_pattern.nd) sc_law_is_pattern.nd) sc_law_is_pattern.nd)))
  (s_cons (s_set 6 sc_law_is_pattern.nd (e_listR1 rfl rfl T.b_list rfl T.b_range (e_callB call_len rfl T.b_len (by decide +kernel) ok_len (es_cons (e_pl 1) es_nil))))
  (s_cons (s_for PassesOwn.never rfl (i_of (e_lstA (es_cons (e_var 1) (es_cons (e_var 2) (es_cons (e_var 3) es_nil))))) (g_name 7 sc_law_is_pattern.nd) (s_one (s_for PassesOwn.never rfl (i_of (e_var 6)) (g_name 8 sc_law_is_pattern.nd) (s_one (s_if (c_w (c_or (c_not (c_chain op_le op_lt e_int (e_ix (ix_X hu1) ok_ixX (fun _ _ => rfl) (e_pl 7) (e_pl 8)) (e_callB call_len rfl T.b_len (by decide +kernel) ok_len (es_cons (e_pl 7) es_nil)))) (c_or1 (c_cmp (op_neD hu64) ok_ne (nomark _) (e_ix (ix_X hu1) ok_ixX (fun _ _ => rfl) (e_pl 7) (e_ix (ix_X hu1) ok_ixX (fun _ _ => rfl) (e_pl 7) (e_pl 8))) (e_pl 8))))) (s_one (s_ret e_bl)) s_nil)))))
  (s_cons (s_if (c_cmp (op_neD hu64) ok_ne (nomark _) (e_lc (pe_lc (own := [("flag", 8)]) (g := gName 8) rfl sc_law_is_pattern.nd (i_of (e_var 6)) (blkOk_by (own := [("flag", 8)]) (N := N_law_is_pattern) (sc := defScope s_law_is_pattern) (by decide +kernel)) (fun _ _ _ _ _ => pg_name (i := 8) sc_law_is_pattern.nd rfl (by first | exact Or.inl rfl | exact Or.inr rfl)) (fun _ _ _ _ _ => (ets_one (c_cmp (op_neD hu64) ok_ne (nomark _) (e_ix (ix_X hu1) ok_ixX (fun _ _ => rfl) (e_pl 1) (e_ix (ix_X hu1) ok_ixX (fun _ _ => rfl) (e_pl 3) (e_pl 8))) (e_ix (ix_X hu1) ok_ixX (fun _ _ => rfl) (e_pl 3) (e_ix (ix_X hu1) ok_ixX (fun _ _ => rfl) (e_pl 1) (e_pl 8)))))) (fun _ _ _ _ _ => (e_var 8)))) (e_lstA es_nil)) (s_one (s_ret e_bl)) s_nil)
  (s_cons (s_for PassesOwn.never rfl (i_of (e_lstA (es_cons (e_tupA (es_cons (e_var 1) (es_cons (e_var 2) (es_cons (e_var 4) es_nil)))) (es_cons (e_tupA (es_cons (e_var 2) (es_cons (e_var 3) (es_cons (e_var 5) es_nil)))) es_nil)))) (g_tupA rfl rfl (gs_cons 9 (gs_cons 10 (gs_cons 11 gs_nil sc_law_is_pattern.nd) sc_law_is_pattern.nd) sc_law_is_pattern.nd)) (s_one (s_for PassesOwn.never rfl (i_of (e_var 6)) (g_name 8 sc_law_is_pattern.nd) (s_cons (s_if (c_w (c_or (c_not (c_chain op_le op_le e_int (e_ix (ix_X hu1) ok_ixX (fun _ _ => rfl) (e_pl 11) (e_pl 8)) e_int)) (c_or (c_cmp (op_neD hu64) ok_ne (nomark _) (e_ix (ix_X hu1) ok_ixX (fun _ _ => rfl) (e_pl 11) (e_ix (ix_X hu1) ok_ixX (fun _ _ => rfl) (e_pl 9) (e_pl 8))) (e_ix (ix_X hu1) ok_ixX (fun _ _ => rfl) (e_pl 11) (e_pl 8))) (c_or1 (c_cmp (op_neD hu64) ok_ne (nomark _) (e_ix (ix_X hu1) ok_ixX (fun _ _ => rfl) (e_pl 11) (e_ix (ix_X hu1) ok_ixX (fun _ _ => rfl) (e_pl 10) (e_pl 8))) (e_ix (ix_X hu1) ok_ixX (fun _ _ => rfl) (e_pl 11) (e_pl 8))))))) (s_one (s_ret e_bl)) s_nil)
  (s_one (s_if (c_cmp (op_neD hu64) ok_ne (nomark _) (e_bin op_modN ok_mod (e_callTy call_int1 rfl T.b_int (by decide +kernel) ok_int (es_cons (e_ix (ix_X hu1) ok_ixX (fun _ _ => rfl) (e_pl 11) (e_pl 8)) es_nil)) (e_call h_law_round hr (by decide) rfl (es_cons (e_var 9) (es_cons (e_var 10) (es_cons (e_var 8) es_nil))))) e_int) (s_one (s_ret e_bl)) s_nil))))))
  (s_one (s_ret (e_cmp (op_eqD hu64) ok_eq (nomark _) (e_callB call_len rfl T.b_len (by decide +kernel) ok_len (es_cons (e_call h_law_walk hr (by decide) rfl (es_cons (e_var 0) (es_cons e_int es_nil))) es_nil)) (e_callB call_len rfl T.b_len (by decide +kernel) ok_len (es_cons (e_pl 1) es_nil)))))))))))
abbrev s_law_listed : Stmt := top 18
abbrev N_law_listed : List Str := ["value", "listing", "places", "flag", "k", "rows", "s", "p", "q"]
theorem sc_law_listed : FnScope N_law_listed ["value", "listing"] (defScope s_law_listed) := ⟨rfl, rfl, rfl, by decide +kernel, rfl, by decide +kernel, by decide +kernel⟩
theorem ok_law_listed {f : Addr} {fd : FuncData} (T : Tx K mg) (FF : L2.Fun K "_law_listed" "_law_listed" s_law_listed f fd) (hm : mg "_law_listed" = some (.ref f)) : Callee P w K mg base 1 "_law_listed" 2 f_law_listed := by
  refine ⟨f, fd, ["value", "listing"], fn_ok FF sc_law_listed rfl rfl (fun cdv A outer s H hr => ?_), hm, FF.kp, FF.binds fun _ _ _ _ _ _ us hl => match us, hl with | [_, _], _ => rfl⟩
  have hu1 := hu_of hr
  have hu64 := hr.units
  have hu65 := hu65_of hr
  exact (s_cons (s_set 2 sc_law_listed.nd (e_lc (pe_lc (own := [("flag", 3)]) (g := gName 3) rfl sc_law_listed.nd (i_of (e_var 1)) (blkOk_by (own := [("flag", 3)]) (N := N_law_listed) (sc := defScope s_law_listed) (by decide +kernel)) (fun _ _ _ _ _ => pg_name (i := 3) sc_law_listed.nd rfl (by first | exact Or.inl rfl | exact Or.inr rfl)) (fun _ _ _ _ _ => ets_nil) (fun _ _ _ _ _ => e_int))))
  (s_cons (s_for PassesOwn.never rfl (i_r1 rfl T.b_range (e_callB call_len rfl T.b_len (by decide +kernel) ok_len (es_cons (e_pl 1) es_nil))) (g_name 4 sc_law_listed.nd) (s_one (s_subA 2 (pv 2) (e_var 4) (e_ix (ix_X hu1) ok_ixX (fun _ _ => rfl) (e_pl 1) (e_pl 4)) hu1)))
  (s_cons (s_setLc (ps_setLc (i := 5) (own := [("s", 6)]) (g := gName 6) rfl sc_law_listed.nd rfl rfl (sw_true rfl rfl rfl (by decide +kernel)) (i_of (e_sl (e_pl 0) o_none (o_some e_int))) (blkOk_by (own := [("s", 6)]) (N := N_law_listed) (sc := defScope s_law_listed) (by decide +kernel)) (fun _ _ _ _ _ => pg_name (i := 6) sc_law_listed.nd rfl (by first | exact Or.inl rfl | exact Or.inr rfl)) (fun _ _ _ _ _ => ets_nil) (fun _ _ _ _ _ => (e_callTy call_tuple_of rfl T.b_tuple (by decide +kernel) ok_tuple (es_cons (e_lc (pe_lc (own := [("flag", 3)]) (g := gName 3) rfl sc_law_listed.nd (i_of (e_var 1)) (blkOk_by (own := [("flag", 3)]) (N := N_law_listed) (sc := relS _ (defScope s_law_listed)) (by decide +kernel)) (fun _ _ _ _ _ => pg_name (i := 3) sc_law_listed.nd rfl (by first | exact Or.inl rfl | exact Or.inr rfl)) (fun _ _ _ _ _ => ets_nil) (fun _ _ _ _ _ => (e_ix (ix_X hu1) ok_ixX (fun _ _ => rfl) (e_pl 2) (e_ix (ix_X hu1) ok_ixX (fun _ _ => rfl) (e_pl 6) (e_pl 3)))))) es_nil)))))
  (s_cons (s_parA 7 8 sc_law_listed.nd (es_cons (e_callTy call_tuple_of rfl T.b_tuple (by decide +kernel) ok_tuple (es_cons (e_lc (pe_lc (own := [("flag", 3)]) (g := gName 3) rfl sc_law_listed.nd (i_of (e_var 1)) (blkOk_by (own := [("flag", 3)]) (N := N_law_listed) (sc := defScope s_law_listed) (by decide +kernel)) (fun _ _ _ _ _ => pg_name (i := 3) sc_law_listed.nd rfl (by first | exact Or.inl rfl | exact Or.inr rfl)) (fun _ _ _ _ _ => ets_nil) (fun _ _ _ _ _ => (e_ix (ix_X hu1) ok_ixX (fun _ _ => rfl) (e_ix (ix_X hu1) ok_ixX (fun _ _ => rfl) (e_pl 0) e_int) (e_pl 3))))) es_nil)) (es_cons (e_callTy call_tuple_of rfl T.b_tuple (by decide +kernel) ok_tuple (es_cons (e_lc (pe_lc (own := [("flag", 3)]) (g := gName 3) rfl sc_law_listed.nd (i_of (e_var 1)) (blkOk_by (own := [("flag", 3)]) (N := N_law_listed) (sc := defScope s_law_listed) (by decide +kernel)) (fun _ _ _ _ _ => pg_name (i := 3) sc_law_listed.nd rfl (by first | exact Or.inl rfl | exact Or.inr rfl)) (fun _ _ _ _ _ => ets_nil) (fun _ _ _ _ _ => (e_ix (ix_X hu1) ok_ixX (fun _ _ => rfl) (e_ix (ix_X hu1) ok_ixX (fun _ _ => rfl) (e_pl 0) e_int) (e_pl 3))))) es_nil)) es_nil)))
  (s_one (s_ret (e_tupA (es_cons (e_ix (ix_X hu1) ok_ixX (fun _ _ => rfl) (e_pl 5) e_int) (es_cons (e_ix (ix_X hu1) ok_ixX (fun _ _ => rfl) (e_pl 5) e_int) (es_cons (e_ix (ix_X hu1) ok_ixX (fun _ _ => rfl) (e_pl 5) e_int) (es_cons (e_var 7) (es_cons (e_var 8) es_nil))))))))))))
abbrev s_law_least : Stmt := top 19
abbrev N_law_least : List Str := ["value", "flag"]
theorem sc_law_least : FnScope N_law_least ["value"] (defScope s_law_least) := ⟨rfl, rfl, rfl, by decide +kernel, rfl, by decide +kernel, by decide +kernel⟩
theorem ok_law_least {f : Addr} {fd : FuncData} (T : Tx K mg) (h_law_walk : Callee P w K mg base 1 "_law_walk" 2 f_law_walk) (h_law_listed : Callee P w K mg base 1 "_law_listed" 2 f_law_listed) (FF : L2.Fun K "_law_least" "_law_least" s_law_least f fd) (hm : mg "_law_least" = some (.ref f)) : Callee P w K mg base 2 "_law_least" 1 f_law_least := by
  refine ⟨f, fd, ["value"], fn_ok FF sc_law_least rfl rfl (fun cdv A outer s H hr => ?_), hm, FF.kp, FF.binds fun _ _ _ _ _ _ us hl => match us, hl with | [_], _ => rfl⟩
  have hu1 := hu_of hr
  have hu64 := hr.units
  have hu65 := hu65_of hr
  exact (s_one (s_ret (e_callB (cr_minL rfl hu65) rfl T.b_min (by decide +kernel) ok_minL (es_cons (e_lc (pe_lc (own := [("flag", 1)]) (g := gName 1) rfl sc_law_least.nd (i_r1 rfl T.b_range (e_callB call_len rfl T.b_len (by decide +kernel) ok_len (es_cons (e_ix (ix_X hu1) ok_ixX (fun _ _ => rfl) (e_pl 0) e_int) es_nil))) (blkOk_by (own := [("flag", 1)]) (N := N_law_least) (sc := defScope s_law_least) (by decide +kernel)) (fun _ _ _ _ _ => pg_name (i := 1) sc_law_least.nd rfl (by first | exact Or.inl rfl | exact Or.inr rfl)) (fun _ _ _ _ _ => ets_nil) (fun _ _ _ _ _ => (e_call h_law_listed hr (by decide) rfl (es_cons (e_var 0) (es_cons (e_call h_law_walk hr (by decide) rfl (es_cons (e_var 0) (es_cons (e_var 1) es_nil))) es_nil)))))) es_nil))))
abbrev s_law_shuffled : Stmt := top 20
abbrev N_law_shuffled : List Str := ["m", "value", "left", "listing", "k", "flag", "one"]
theorem sc_law_shuffled : FnScope N_law_shuffled ["m", "value"] (defScope s_law_shuffled) := ⟨rfl, rfl, rfl, by decide +kernel, rfl, by decide +kernel, by decide +kernel⟩
theorem ok_law_shuffled {f : Addr} {fd : FuncData} (T : Tx K mg) (h_law_of : Callee P w K mg base 2 "_law_of" 2 f_law_of) (h_law_listed : Callee P w K mg base 1 "_law_listed" 2 f_law_listed) (FF : L2.Fun K "_law_shuffled" "_law_shuffled" s_law_shuffled f fd) (hm : mg "_law_shuffled" = some (.ref f)) : Callee P w K mg base 3 "_law_shuffled" 2 f_law_shuffled := by
  refine ⟨f, fd, ["m", "value"], fn_ok FF sc_law_shuffled rfl rfl (fun cdv A outer s H hr => ?_), hm, FF.kp, FF.binds fun _ _ _ _ _ _ us hl => match us, hl with | [_, _], _ => rfl⟩
  have hu1 := hu_of hr
  have hu64 := hr.units
  have hu65 := hu65_of hr
  exact (s_cons (s_parA 2 3 sc_law_shuffled.nd (es_cons (e_listR1 rfl rfl T.b_list rfl T.b_range (e_callB call_len rfl T.b_len (by decide +kernel) ok_len (es_cons (e_ix (ix_X hu1) ok_ixX (fun _ _ => rfl) (e_pl 1) e_int) es_nil))) (es_cons (e_lstA es_nil) es_nil)))
  (s_cons (s_for PassesOwn.never rfl (i_r1 rfl T.b_range (e_callB call_len rfl T.b_len (by decide +kernel) ok_len (es_cons (e_ix (ix_X hu1) ok_ixX (fun _ _ => rfl) (e_pl 1) e_int) es_nil))) (g_name 4 sc_law_shuffled.nd) (s_cons (s_set 5 sc_law_shuffled.nd (e_callM 0 h_law_of hr (by decide) rfl (pv 0) (es_cons (e_var 2) es_nil)))
  (s_cons (s_setLc (ps_setLc (i := 2) (own := [("one", 6)]) (g := gName 6) rfl sc_law_shuffled.nd rfl rfl (sw_true rfl rfl rfl (by decide +kernel)) (i_of (e_var 2)) (blkOk_by (own := [("one", 6)]) (N := N_law_shuffled) (sc := defScope s_law_shuffled) (by decide +kernel)) (fun _ _ _ _ _ => pg_name (i := 6) sc_law_shuffled.nd rfl (by first | exact Or.inl rfl | exact Or.inr rfl)) (fun _ _ _ _ _ => (ets_one (c_cmp (op_neD hu64) ok_ne (nomark _) (e_pl 6) (e_pl 5)))) (fun _ _ _ _ _ => (e_var 6))))
  (s_one (s_expr (e_appendA 3 (pv 3) (es_cons (e_var 5) es_nil)))))))
  (s_one (s_ret (e_call h_law_listed hr (by decide) rfl (es_cons (e_var 1) (es_cons (e_var 3) es_nil)))))))
abbrev s_law_more : Stmt := top 21
abbrev N_law_more : List Str := ["value", "flag", "members", "p", "one"]
theorem sc_law_more : FnScope N_law_more ["value", "flag"] (defScope s_law_more) := ⟨rfl, rfl, rfl, by decide +kernel, rfl, by decide +kernel, by decide +kernel⟩
theorem ok_law_more {f : Addr} {fd : FuncData} (T : Tx K mg) (h_law_class : Callee P w K mg base 1 "_law_class" 3 f_law_class) (FF : L2.Fun K "_law_more" "_law_more" s_law_more f fd) (hm : mg "_law_more" = some (.ref f)) : Callee P w K mg base 2 "_law_more" 2 f_law_more := by
  refine ⟨f, fd, ["value", "flag"], fn_ok FF sc_law_more rfl rfl (fun cdv A outer s H hr => ?_), hm, FF.kp, FF.binds fun _ _ _ _ _ _ us hl => match us, hl with | [_, _], _ => rfl⟩
  have hu1 := hu_of hr
  have hu64 := hr.units
  have hu65 := hu65_of hr
  exact (s_cons (s_set 2 sc_law_more.nd (e_call h_law_class hr (by decide) rfl (es_cons (e_ix (ix_X hu1) ok_ixX (fun _ _ => rfl) (e_pl 0) e_int) (es_cons (e_ix (ix_X hu1) ok_ixX (fun _ _ => rfl) (e_pl 0) e_int) (es_cons (e_var 1) es_nil)))))
  (s_cons (s_setLc (ps_setLc (i := 3) (own := [("one", 4)]) (g := gName 4) rfl sc_law_more.nd rfl rfl (sw_true rfl rfl rfl (by decide +kernel)) (i_r1 rfl T.b_range (e_callB call_len rfl T.b_len (by decide +kernel) ok_len (es_cons (e_ix (ix_X hu1) ok_ixX (fun _ _ => rfl) (e_pl 0) e_int) es_nil))) (blkOk_by (own := [("one", 4)]) (N := N_law_more) (sc := defScope s_law_more) (by decide +kernel)) (fun _ _ _ _ _ => pg_name (i := 4) sc_law_more.nd rfl (by first | exact Or.inl rfl | exact Or.inr rfl)) (fun _ _ _ _ _ => ets_nil) (fun _ _ _ _ _ => (e_if (c_cmp (op_inX hu65) ok_inX rfl (e_pl 4) (e_pl 2)) (e_bin op_mulY ok_mulY (e_ix (ix_X hu1) ok_ixX (fun _ _ => rfl) (e_ix (ix_X hu1) ok_ixX (fun _ _ => rfl) (e_pl 0) e_int) (e_pl 4)) e_int) (e_ix (ix_X hu1) ok_ixX (fun _ _ => rfl) (e_ix (ix_X hu1) ok_ixX (fun _ _ => rfl) (e_pl 0) e_int) (e_pl 4))))))
  (s_one (s_ret (e_tupA (es_cons (e_ix (ix_X hu1) ok_ixX (fun _ _ => rfl) (e_pl 0) e_int) (es_cons (e_ix (ix_X hu1) ok_ixX (fun _ _ => rfl) (e_pl 0) e_int) (es_cons (e_ix (ix_X hu1) ok_ixX (fun _ _ => rfl) (e_pl 0) e_int) (es_cons (e_callTy call_tuple_of rfl T.b_tuple (by decide +kernel) ok_tuple (es_cons (e_pl 3) es_nil)) (es_cons (e_ix (ix_X hu1) ok_ixX (fun _ _ => rfl) (e_pl 0) e_int) es_nil))))))))))
abbrev s_law : Stmt := top 22
abbrev N_law : List Str := ["script", "k", "m", "value", "due", "turn", "other"]
theorem sc_law : FnScope N_law ["script"] (defScope s_law) := ⟨rfl, rfl, rfl, by decide +kernel, rfl, by decide +kernel, by decide +kernel⟩
theorem ok_law_fn {f : Addr} {fd : FuncData} (T : Tx K mg) (h_least : Callee P w K mg base 2 "least" 1 f_least) (h_law_begun : Callee P w K mg base 1 "_law_begun" 2 f_law_begun) (h_law_draw : Callee P w K mg base 1 "_law_draw" 2 f_law_draw) (h_law_pattern : Callee P w K mg base 4 "_law_pattern" 3 f_law_pattern) (h_law_is_pattern : Callee P w K mg base 3 "_law_is_pattern" 1 f_law_is_pattern) (h_law_least : Callee P w K mg base 2 "_law_least" 1 f_law_least) (h_law_shuffled : Callee P w K mg base 3 "_law_shuffled" 2 f_law_shuffled) (h_law_more : Callee P w K mg base 2 "_law_more" 2 f_law_more) (FF : L2.Fun K "law" "law" s_law f fd) : FnOk P w K mg base CX0 5 f fd ["script"] (spF w K 1 f_law) := by
  refine fn_ok FF sc_law rfl rfl (fun cdv A outer s H hr => ?_)
  have hu1 := hu_of hr
  have hu64 := hr.units
  have hu65 := hu65_of hr
  exact (s_cons (s_for PassesOwn.never rfl (i_r1 rfl T.b_range (e_callB (CallR.or (call_max2 rfl) (cr_max rfl)) rfl T.b_max (by decide +kernel) ok_max (es_cons e_int (es_cons (e_callB (CallR.or (call_min2 rfl) (cr_min rfl)) rfl T.b_min (by decide +kernel) ok_min (es_cons (e_callB call_len rfl T.b_len (by decide +kernel) ok_len (es_cons (e_pl 0) es_nil)) (es_cons e_int es_nil))) es_nil)))) (g_name 1 sc_law.nd) (s_cons (s_set 2 sc_law.nd (e_call h_law_begun hr (by decide) rfl (es_cons (e_var 0) (es_cons (e_var 1) es_nil))))
  (s_cons (s_set 3 sc_law.nd (e_callM 2 h_law_pattern hr (by decide) rfl (pv 2) (es_cons e_int (es_cons e_int es_nil))))
  (s_cons (s_set 4 sc_law.nd (e_call h_law_least hr (by decide) rfl (es_cons (e_var 3) es_nil)))
  (s_cons (s_if (c_w (c_or (c_not (c_val (e_call h_law_is_pattern hr (by decide) rfl (es_cons (e_call h_least hr (by decide) rfl (es_cons (e_var 3) es_nil)) es_nil)))) (c_or (c_cmp (op_neD hu64) ok_ne (nomark _) (e_call h_least hr (by decide) rfl (es_cons (e_var 3) es_nil)) (e_pl 4)) (c_or1 (c_cmp (op_neD hu64) ok_ne (nomark _) (e_call h_least hr (by decide) rfl (es_cons (e_var 4) es_nil)) (e_pl 4)))))) (s_one (s_ret e_bl)) s_nil)
  (s_cons (s_for PassesOwn.never rfl (i_r1 rfl T.b_range e_int) (g_name 5 sc_law.nd) (s_one (s_if (c_cmp (op_neD hu64) ok_ne (nomark _) (e_call h_least hr (by decide) rfl (es_cons (e_callM 2 h_law_shuffled hr (by decide) rfl (pv 2) (es_cons (e_var 3) es_nil)) es_nil)) (e_pl 4)) (s_one (s_ret e_bl)) s_nil)))
  (s_cons (s_set 6 sc_law.nd (e_call h_law_more hr (by decide) rfl (es_cons (e_var 3) (es_cons (e_callM 2 h_law_draw hr (by decide) rfl (pv 2) (es_cons (e_callB call_len rfl T.b_len (by decide +kernel) ok_len (es_cons (e_ix (ix_X hu1) ok_ixX (fun _ _ => rfl) (e_pl 3) e_int) es_nil)) es_nil)) es_nil))))
  (s_one (s_if (c_w (c_or (c_cmp (op_eqD hu64) ok_eq (nomark _) (e_call h_least hr (by decide) rfl (es_cons (e_callM 2 h_law_shuffled hr (by decide) rfl (pv 2) (es_cons (e_var 6) es_nil)) es_nil)) (e_pl 4)) (c_or (c_cmp (op_neD hu64) ok_ne (nomark _) (e_call h_least hr (by decide) rfl (es_cons (e_var 6) es_nil)) (e_call h_law_least hr (by decide) rfl (es_cons (e_var 6) es_nil))) (c_or1 (c_cmp (op_neD hu64) ok_ne (nomark _) (e_call h_least hr (by decide) rfl (es_cons (e_var 3) es_nil)) (e_pl 4)))))) (s_one (s_ret e_bl)) s_nil)))))))))
  (s_one (s_ret e_bl)))
end
theorem all_mk {P : Program} {w : World} {K : PySem.W.Frag} {h : Heap} {mg : Str → Option Value} {fa f0 f1 f2 f3 f4 f5 f6 f7 f8 f9 f10 f11 f12 f13 f14 f15 f16 f17 f18 f19 f20 : Addr} (X : K.In h) (G : h.Ns mainGlobals mg) (hfa : mg "law" = some (.ref fa))
    {od0 an0 : Option Addr} {sl0 : Array (Option Value)} {oc0 kV0 dc0 pm0 cd0 ct0 : Value}
    {od1 an1 : Option Addr} {sl1 : Array (Option Value)} {oc1 kV1 dc1 pm1 cd1 ct1 : Value}
    {od2 an2 : Option Addr} {sl2 : Array (Option Value)} {oc2 kV2 dc2 pm2 cd2 ct2 : Value}
    {od3 an3 : Option Addr} {sl3 : Array (Option Value)} {oc3 kV3 dc3 pm3 cd3 ct3 : Value}
    {od4 an4 : Option Addr} {sl4 : Array (Option Value)} {oc4 kV4 dc4 pm4 cd4 ct4 : Value}
    {od5 an5 : Option Addr} {sl5 : Array (Option Value)} {oc5 kV5 dc5 pm5 cd5 ct5 : Value}
    {od6 an6 : Option Addr} {sl6 : Array (Option Value)} {oc6 kV6 dc6 pm6 cd6 ct6 : Value}
    {od7 an7 : Option Addr} {sl7 : Array (Option Value)} {oc7 kV7 dc7 pm7 cd7 ct7 : Value}
    {od8 an8 : Option Addr} {sl8 : Array (Option Value)} {oc8 kV8 dc8 pm8 cd8 ct8 : Value}
    {od9 an9 : Option Addr} {sl9 : Array (Option Value)} {oc9 kV9 dc9 pm9 cd9 ct9 : Value}
    {od10 an10 : Option Addr} {sl10 : Array (Option Value)} {oc10 kV10 dc10 pm10 cd10 ct10 : Value}
    {od11 an11 : Option Addr} {sl11 : Array (Option Value)} {oc11 kV11 dc11 pm11 cd11 ct11 : Value}
    {od12 an12 : Option Addr} {sl12 : Array (Option Value)} {oc12 kV12 dc12 pm12 cd12 ct12 : Value}
    {od13 an13 : Option Addr} {sl13 : Array (Option Value)} {oc13 kV13 dc13 pm13 cd13 ct13 : Value}
    {od14 an14 : Option Addr} {sl14 : Array (Option Value)} {oc14 kV14 dc14 pm14 cd14 ct14 : Value}
    {od15 an15 : Option Addr} {sl15 : Array (Option Value)} {oc15 kV15 dc15 pm15 cd15 ct15 : Value}
    {od16 an16 : Option Addr} {sl16 : Array (Option Value)} {oc16 kV16 dc16 pm16 cd16 ct16 : Value}
    {od17 an17 : Option Addr} {sl17 : Array (Option Value)} {oc17 kV17 dc17 pm17 cd17 ct17 : Value}
    {od18 an18 : Option Addr} {sl18 : Array (Option Value)} {oc18 kV18 dc18 pm18 cd18 ct18 : Value}
    {od19 an19 : Option Addr} {sl19 : Array (Option Value)} {oc19 kV19 dc19 pm19 cd19 ct19 : Value}
    {od20 an20 : Option Addr} {sl20 : Array (Option Value)} {oc20 kV20 dc20 pm20 cd20 ct20 : Value}
    (a0 : PySem.W.nsIn K mainGlobals "renumbered" = some (some (.ref f0))) (l0 : K.lookup f0 = some ⟨oc0, od0, .func (PySem.W.fnOf "renumbered" "renumbered" (defArgs s_renumbered) (defBody s_renumbered) (defScope s_renumbered) .none kV0 dc0 pm0 an0 cd0 ct0), sl0⟩) (c0 : PySem.W.codeIn K cd0 "renumbered" = true) (k0 : PySem.W.keepIn K (.ref f0) = true)
    (a1 : PySem.W.nsIn K mainGlobals "walk" = some (some (.ref f1))) (l1 : K.lookup f1 = some ⟨oc1, od1, .func (PySem.W.fnOf "walk" "walk" (defArgs s_walk) (defBody s_walk) (defScope s_walk) .none kV1 dc1 pm1 an1 cd1 ct1), sl1⟩) (c1 : PySem.W.codeIn K cd1 "walk" = true) (k1 : PySem.W.keepIn K (.ref f1) = true)
    (a2 : PySem.W.nsIn K mainGlobals "least" = some (some (.ref f2))) (l2 : K.lookup f2 = some ⟨oc2, od2, .func (PySem.W.fnOf "least" "least" (defArgs s_least) (defBody s_least) (defScope s_least) .none kV2 dc2 pm2 an2 cd2 ct2), sl2⟩) (c2 : PySem.W.codeIn K cd2 "least" = true) (k2 : PySem.W.keepIn K (.ref f2) = true)
    (a3 : PySem.W.nsIn K mainGlobals "_law_begun" = some (some (.ref f3))) (l3 : K.lookup f3 = some ⟨oc3, od3, .func (PySem.W.fnOf "_law_begun" "_law_begun" (defArgs s_law_begun) (defBody s_law_begun) (defScope s_law_begun) .none kV3 dc3 pm3 an3 cd3 ct3), sl3⟩) (c3 : PySem.W.codeIn K cd3 "_law_begun" = true) (k3 : PySem.W.keepIn K (.ref f3) = true)
    (a4 : PySem.W.nsIn K mainGlobals "_law_draw" = some (some (.ref f4))) (l4 : K.lookup f4 = some ⟨oc4, od4, .func (PySem.W.fnOf "_law_draw" "_law_draw" (defArgs s_law_draw) (defBody s_law_draw) (defScope s_law_draw) .none kV4 dc4 pm4 an4 cd4 ct4), sl4⟩) (c4 : PySem.W.codeIn K cd4 "_law_draw" = true) (k4 : PySem.W.keepIn K (.ref f4) = true)
    (a5 : PySem.W.nsIn K mainGlobals "_law_of" = some (some (.ref f5))) (l5 : K.lookup f5 = some ⟨oc5, od5, .func (PySem.W.fnOf "_law_of" "_law_of" (defArgs s_law_of) (defBody s_law_of) (defScope s_law_of) .none kV5 dc5 pm5 an5 cd5 ct5), sl5⟩) (c5 : PySem.W.codeIn K cd5 "_law_of" = true) (k5 : PySem.W.keepIn K (.ref f5) = true)
    (a6 : PySem.W.nsIn K mainGlobals "_law_put" = some (some (.ref f6))) (l6 : K.lookup f6 = some ⟨oc6, od6, .func (PySem.W.fnOf "_law_put" "_law_put" (defArgs s_law_put) (defBody s_law_put) (defScope s_law_put) .none kV6 dc6 pm6 an6 cd6 ct6), sl6⟩) (c6 : PySem.W.codeIn K cd6 "_law_put" = true) (k6 : PySem.W.keepIn K (.ref f6) = true)
    (a7 : PySem.W.nsIn K mainGlobals "_law_frame" = some (some (.ref f7))) (l7 : K.lookup f7 = some ⟨oc7, od7, .func (PySem.W.fnOf "_law_frame" "_law_frame" (defArgs s_law_frame) (defBody s_law_frame) (defScope s_law_frame) .none kV7 dc7 pm7 an7 cd7 ct7), sl7⟩) (c7 : PySem.W.codeIn K cd7 "_law_frame" = true) (k7 : PySem.W.keepIn K (.ref f7) = true)
    (a8 : PySem.W.nsIn K mainGlobals "_law_class" = some (some (.ref f8))) (l8 : K.lookup f8 = some ⟨oc8, od8, .func (PySem.W.fnOf "_law_class" "_law_class" (defArgs s_law_class) (defBody s_law_class) (defScope s_law_class) .none kV8 dc8 pm8 an8 cd8 ct8), sl8⟩) (c8 : PySem.W.codeIn K cd8 "_law_class" = true) (k8 : PySem.W.keepIn K (.ref f8) = true)
    (a9 : PySem.W.nsIn K mainGlobals "_law_round" = some (some (.ref f9))) (l9 : K.lookup f9 = some ⟨oc9, od9, .func (PySem.W.fnOf "_law_round" "_law_round" (defArgs s_law_round) (defBody s_law_round) (defScope s_law_round) .none kV9 dc9 pm9 an9 cd9 ct9), sl9⟩) (c9 : PySem.W.codeIn K cd9 "_law_round" = true) (k9 : PySem.W.keepIn K (.ref f9) = true)
    (a10 : PySem.W.nsIn K mainGlobals "_law_orders" = some (some (.ref f10))) (l10 : K.lookup f10 = some ⟨oc10, od10, .func (PySem.W.fnOf "_law_orders" "_law_orders" (defArgs s_law_orders) (defBody s_law_orders) (defScope s_law_orders) .none kV10 dc10 pm10 an10 cd10 ct10), sl10⟩) (c10 : PySem.W.codeIn K cd10 "_law_orders" = true) (k10 : PySem.W.keepIn K (.ref f10) = true)
    (a11 : PySem.W.nsIn K mainGlobals "_law_pattern" = some (some (.ref f11))) (l11 : K.lookup f11 = some ⟨oc11, od11, .func (PySem.W.fnOf "_law_pattern" "_law_pattern" (defArgs s_law_pattern) (defBody s_law_pattern) (defScope s_law_pattern) .none kV11 dc11 pm11 an11 cd11 ct11), sl11⟩) (c11 : PySem.W.codeIn K cd11 "_law_pattern" = true) (k11 : PySem.W.keepIn K (.ref f11) = true)
    (a12 : PySem.W.nsIn K mainGlobals "_law_is_number" = some (some (.ref f12))) (l12 : K.lookup f12 = some ⟨oc12, od12, .func (PySem.W.fnOf "_law_is_number" "_law_is_number" (defArgs s_law_is_number) (defBody s_law_is_number) (defScope s_law_is_number) .none kV12 dc12 pm12 an12 cd12 ct12), sl12⟩) (c12 : PySem.W.codeIn K cd12 "_law_is_number" = true) (k12 : PySem.W.keepIn K (.ref f12) = true)
    (a13 : PySem.W.nsIn K mainGlobals "_law_is_form" = some (some (.ref f13))) (l13 : K.lookup f13 = some ⟨oc13, od13, .func (PySem.W.fnOf "_law_is_form" "_law_is_form" (defArgs s_law_is_form) (defBody s_law_is_form) (defScope s_law_is_form) .none kV13 dc13 pm13 an13 cd13 ct13), sl13⟩) (c13 : PySem.W.codeIn K cd13 "_law_is_form" = true) (k13 : PySem.W.keepIn K (.ref f13) = true)
    (a14 : PySem.W.nsIn K mainGlobals "_law_walk" = some (some (.ref f14))) (l14 : K.lookup f14 = some ⟨oc14, od14, .func (PySem.W.fnOf "_law_walk" "_law_walk" (defArgs s_law_walk) (defBody s_law_walk) (defScope s_law_walk) .none kV14 dc14 pm14 an14 cd14 ct14), sl14⟩) (c14 : PySem.W.codeIn K cd14 "_law_walk" = true) (k14 : PySem.W.keepIn K (.ref f14) = true)
    (a15 : PySem.W.nsIn K mainGlobals "_law_is_pattern" = some (some (.ref f15))) (l15 : K.lookup f15 = some ⟨oc15, od15, .func (PySem.W.fnOf "_law_is_pattern" "_law_is_pattern" (defArgs s_law_is_pattern) (defBody s_law_is_pattern) (defScope s_law_is_pattern) .none kV15 dc15 pm15 an15 cd15 ct15), sl15⟩) (c15 : PySem.W.codeIn K cd15 "_law_is_pattern" = true) (k15 : PySem.W.keepIn K (.ref f15) = true)
    (a16 : PySem.W.nsIn K mainGlobals "_law_listed" = some (some (.ref f16))) (l16 : K.lookup f16 = some ⟨oc16, od16, .func (PySem.W.fnOf "_law_listed" "_law_listed" (defArgs s_law_listed) (defBody s_law_listed) (defScope s_law_listed) .none kV16 dc16 pm16 an16 cd16 ct16), sl16⟩) (c16 : PySem.W.codeIn K cd16 "_law_listed" = true) (k16 : PySem.W.keepIn K (.ref f16) = true)
    (a17 : PySem.W.nsIn K mainGlobals "_law_least" = some (some (.ref f17))) (l17 : K.lookup f17 = some ⟨oc17, od17, .func (PySem.W.fnOf "_law_least" "_law_least" (defArgs s_law_least) (defBody s_law_least) (defScope s_law_least) .none kV17 dc17 pm17 an17 cd17 ct17), sl17⟩) (c17 : PySem.W.codeIn K cd17 "_law_least" = true) (k17 : PySem.W.keepIn K (.ref f17) = true)
    (a18 : PySem.W.nsIn K mainGlobals "_law_shuffled" = some (some (.ref f18))) (l18 : K.lookup f18 = some ⟨oc18, od18, .func (PySem.W.fnOf "_law_shuffled" "_law_shuffled" (defArgs s_law_shuffled) (defBody s_law_shuffled) (defScope s_law_shuffled) .none kV18 dc18 pm18 an18 cd18 ct18), sl18⟩) (c18 : PySem.W.codeIn K cd18 "_law_shuffled" = true) (k18 : PySem.W.keepIn K (.ref f18) = true)
    (a19 : PySem.W.nsIn K mainGlobals "_law_more" = some (some (.ref f19))) (l19 : K.lookup f19 = some ⟨oc19, od19, .func (PySem.W.fnOf "_law_more" "_law_more" (defArgs s_law_more) (defBody s_law_more) (defScope s_law_more) .none kV19 dc19 pm19 an19 cd19 ct19), sl19⟩) (c19 : PySem.W.codeIn K cd19 "_law_more" = true) (k19 : PySem.W.keepIn K (.ref f19) = true)
    (a20 : PySem.W.nsIn K mainGlobals "law" = some (some (.ref f20))) (l20 : K.lookup f20 = some ⟨oc20, od20, .func (PySem.W.fnOf "law" "law" (defArgs s_law) (defBody s_law) (defScope s_law) .none kV20 dc20 pm20 an20 cd20 ct20), sl20⟩) (c20 : PySem.W.codeIn K cd20 "law" = true) (k20 : PySem.W.keepIn K (.ref f20) = true)
    (z_bool : PySem.W.nsIn K mainGlobals "bool" = some none) (z_enumerate : PySem.W.nsIn K mainGlobals "enumerate" = some none) (z_int : PySem.W.nsIn K mainGlobals "int" = some none) (z_isinstance : PySem.W.nsIn K mainGlobals "isinstance" = some none) (z_len : PySem.W.nsIn K mainGlobals "len" = some none) (z_list : PySem.W.nsIn K mainGlobals "list" = some none) (z_max : PySem.W.nsIn K mainGlobals "max" = some none) (z_min : PySem.W.nsIn K mainGlobals "min" = some none) (z_range : PySem.W.nsIn K mainGlobals "range" = some none) (z_set : PySem.W.nsIn K mainGlobals "set" = some none) (z_sorted : PySem.W.nsIn K mainGlobals "sorted" = some none) (z_tuple : PySem.W.nsIn K mainGlobals "tuple" = some none) :
    ∃ fd : FuncData, (∀ (s : Shared) (v : Value), BindsTo s fd ⟨[v], []⟩ [("script", v)]) ∧ ∀ base : Heap, K.In base → base.Ns mainGlobals mg → FnOk P w K mg base CX0 5 fa fd ["script"] (spF w K 1 f_law) := by
  have e := hfa.symm.trans (PySem.W.mg_of X G a20)
  cases e
  have T : Tx K mg := ⟨PySem.W.mg_none_of X G z_bool, PySem.W.mg_none_of X G z_enumerate, PySem.W.mg_none_of X G z_int, PySem.W.mg_none_of X G z_isinstance, PySem.W.mg_none_of X G z_len, PySem.W.mg_none_of X G z_list, PySem.W.mg_none_of X G z_max, PySem.W.mg_none_of X G z_min, PySem.W.mg_none_of X G z_range, PySem.W.mg_none_of X G z_set, PySem.W.mg_none_of X G z_sorted, PySem.W.mg_none_of X G z_tuple⟩
  refine ⟨PySem.W.fnOf "law" "law" (defArgs s_law) (defBody s_law) (defScope s_law) .none kV20 dc20 pm20 an20 cd20 ct20, fun s v => .of_eq rfl, fun base _ _ => ?_⟩
  have H_renumbered : Callee P w K mg base 1 "renumbered" 2 f_renumbered := ok_renumbered T  (fun_mk (st := s_renumbered) l0 c0 k0) (PySem.W.mg_of X G a0)
  have H_walk : Callee P w K mg base 1 "walk" 2 f_walk := ok_walk T  (fun_mk (st := s_walk) l1 c1 k1) (PySem.W.mg_of X G a1)
  have H_least : Callee P w K mg base 2 "least" 1 f_least := ok_least T H_renumbered H_walk (fun_mk (st := s_least) l2 c2 k2) (PySem.W.mg_of X G a2)
  have H_law_begun : Callee P w K mg base 1 "_law_begun" 2 f_law_begun := ok_law_begun T  (fun_mk (st := s_law_begun) l3 c3 k3) (PySem.W.mg_of X G a3)
  have H_law_draw : Callee P w K mg base 1 "_law_draw" 2 f_law_draw := ok_law_draw T  (fun_mk (st := s_law_draw) l4 c4 k4) (PySem.W.mg_of X G a4)
  have H_law_of : Callee P w K mg base 2 "_law_of" 2 f_law_of := ok_law_of T H_law_draw (fun_mk (st := s_law_of) l5 c5 k5) (PySem.W.mg_of X G a5)
  have H_law_put : Callee P w K mg base 1 "_law_put" 2 f_law_put := ok_law_put T  (fun_mk (st := s_law_put) l6 c6 k6) (PySem.W.mg_of X G a6)
  have H_law_frame : Callee P w K mg base 3 "_law_frame" 2 f_law_frame := ok_law_frame T H_law_draw H_law_of H_law_put (fun_mk (st := s_law_frame) l7 c7 k7) (PySem.W.mg_of X G a7)
  have H_law_class : Callee P w K mg base 1 "_law_class" 3 f_law_class := ok_law_class T  (fun_mk (st := s_law_class) l8 c8 k8) (PySem.W.mg_of X G a8)
  have H_law_round : Callee P w K mg base 1 "_law_round" 3 f_law_round := ok_law_round T  (fun_mk (st := s_law_round) l9 c9 k9) (PySem.W.mg_of X G a9)
  have H_law_orders : Callee P w K mg base 2 "_law_orders" 4 f_law_orders := ok_law_orders T H_law_draw H_law_class H_law_round (fun_mk (st := s_law_orders) l10 c10 k10) (PySem.W.mg_of X G a10)
  have H_law_pattern : Callee P w K mg base 4 "_law_pattern" 3 f_law_pattern := ok_law_pattern T H_law_frame H_law_orders (fun_mk (st := s_law_pattern) l11 c11 k11) (PySem.W.mg_of X G a11)
  have H_law_is_number : Callee P w K mg base 1 "_law_is_number" 1 f_law_is_number := ok_law_is_number T  (fun_mk (st := s_law_is_number) l12 c12 k12) (PySem.W.mg_of X G a12)
  have H_law_is_form : Callee P w K mg base 2 "_law_is_form" 1 f_law_is_form := ok_law_is_form T H_law_is_number (fun_mk (st := s_law_is_form) l13 c13 k13) (PySem.W.mg_of X G a13)
  have H_law_walk : Callee P w K mg base 1 "_law_walk" 2 f_law_walk := ok_law_walk T  (fun_mk (st := s_law_walk) l14 c14 k14) (PySem.W.mg_of X G a14)
  have H_law_is_pattern : Callee P w K mg base 3 "_law_is_pattern" 1 f_law_is_pattern := ok_law_is_pattern T H_law_round H_law_is_form H_law_walk (fun_mk (st := s_law_is_pattern) l15 c15 k15) (PySem.W.mg_of X G a15)
  have H_law_listed : Callee P w K mg base 1 "_law_listed" 2 f_law_listed := ok_law_listed T  (fun_mk (st := s_law_listed) l16 c16 k16) (PySem.W.mg_of X G a16)
  have H_law_least : Callee P w K mg base 2 "_law_least" 1 f_law_least := ok_law_least T H_law_walk H_law_listed (fun_mk (st := s_law_least) l17 c17 k17) (PySem.W.mg_of X G a17)
  have H_law_shuffled : Callee P w K mg base 3 "_law_shuffled" 2 f_law_shuffled := ok_law_shuffled T H_law_of H_law_listed (fun_mk (st := s_law_shuffled) l18 c18 k18) (PySem.W.mg_of X G a18)
  have H_law_more : Callee P w K mg base 2 "_law_more" 2 f_law_more := ok_law_more T H_law_class (fun_mk (st := s_law_more) l19 c19 k19) (PySem.W.mg_of X G a19)
  exact ok_law_fn T H_least H_law_begun H_law_draw H_law_pattern H_law_is_pattern H_law_least H_law_shuffled H_law_more (fun_mk (st := s_law) l20 c20 k20)
theorem walk {l : PySem.W.OpenLaw} {q : Program} {loose : List Str} {XP : (Str → Option Value) → Heap → Prop} {YP : World → Heap → Prop} {d : DefRec} {K : Params → PySem.W.Frag} (hn : l.most = some 63) (hdf : d.params.defaults = [])
    (hY : ∀ (w : World) (h : Heap), YP w h → (K w.params).In h)
    (F : ∀ (w : World) (mg : Str → Option Value) (fa : Addr) (h : Heap), (K w.params).In h → h.Ns mainGlobals mg → mg d.name = some (.ref fa) →
      ∃ fd : FuncData, (∀ (s : Shared) (u : Value), BindsTo s fd ⟨[u], []⟩ [("script", u)]) ∧ ∀ base : Heap, (K w.params).In base → base.Ns mainGlobals mg → FnOk l.prog w (K w.params) mg base CX0 5 fa fd ["script"] (spF w (K w.params) 1 f_law)) :
    PySem.W.WalkO q loose XP YP l.row.toRowW d [] (fun f vs => PySem.call f vs) :=
  L2.walk_of (n := 63) (k := 5) (x := "script") (CX := fun _ => CX0) (sp := fun w => spF w (K w.params) 1 f_law) hn (by decide) hdf ⟨rfl, by decide, by decide⟩ hY F (fun w H a ns hl hO hS => law_end law_true hl hS) fun _ _ _ _ _ z => z
end Py
open PySem PySem.W PyProof.Rows in
set_option maxRecDepth 100000 in
set_option maxHeartbeats 0 in
theorem PySem.Challenge.cw_flagfloors_k05_whole_least_one_holds : PySem.Challenge.rw_flagfloors_k05_whole_least_one.Holds := by
  w_on; o_law; k_head; (case hw => w_witness2)
  k_fill
  refine Py.walk (l := PySem.Challenge.rw_flagfloors_k05_whole_least_one) rfl rfl (fun w h Y => PySem.W.kIn_of Y) ?F
  case F =>
    intro w mg fa h KX G hmg
    refine' Py.all_mk KX G hmg ?a0 ?l0 ?c0 ?k0 ?a1 ?l1 ?c1 ?k1 ?a2 ?l2 ?c2 ?k2 ?a3 ?l3 ?c3 ?k3 ?a4 ?l4 ?c4 ?k4 ?a5 ?l5 ?c5 ?k5 ?a6 ?l6 ?c6 ?k6 ?a7 ?l7 ?c7 ?k7 ?a8 ?l8 ?c8 ?k8 ?a9 ?l9 ?c9 ?k9 ?a10 ?l10 ?c10 ?k10 ?a11 ?l11 ?c11 ?k11 ?a12 ?l12 ?c12 ?k12 ?a13 ?l13 ?c13 ?k13 ?a14 ?l14 ?c14 ?k14 ?a15 ?l15 ?c15 ?k15 ?a16 ?l16 ?c16 ?k16 ?a17 ?l17 ?c17 ?k17 ?a18 ?l18 ?c18 ?k18 ?a19 ?l19 ?c19 ?k19 ?a20 ?l20 ?c20 ?k20 ?z_bool ?z_enumerate ?z_int ?z_isinstance ?z_len ?z_list ?z_max ?z_min ?z_range ?z_set ?z_sorted ?z_tuple
    (case a0 => k_is)
    (case l0 => k_is)
    (case c0 => k_is)
    (case k0 => k_is)
    (case a1 => k_is)
    (case l1 => k_is)
    (case c1 => k_is)
    (case k1 => k_is)
    (case a2 => k_is)
    (case l2 => k_is)
    (case c2 => k_is)
    (case k2 => k_is)
    (case a3 => k_is)
    (case l3 => k_is)
    (case c3 => k_is)
    (case k3 => k_is)
    (case a4 => k_is)
    (case l4 => k_is)
    (case c4 => k_is)
    (case k4 => k_is)
    (case a5 => k_is)
    (case l5 => k_is)
    (case c5 => k_is)
    (case k5 => k_is)
    (case a6 => k_is)
    (case l6 => k_is)
    (case c6 => k_is)
    (case k6 => k_is)
    (case a7 => k_is)
    (case l7 => k_is)
    (case c7 => k_is)
    (case k7 => k_is)
    (case a8 => k_is)
    (case l8 => k_is)
    (case c8 => k_is)
    (case k8 => k_is)
    (case a9 => k_is)
    (case l9 => k_is)
    (case c9 => k_is)
    (case k9 => k_is)
    (case a10 => k_is)
    (case l10 => k_is)
    (case c10 => k_is)
    (case k10 => k_is)
    (case a11 => k_is)
    (case l11 => k_is)
    (case c11 => k_is)
    (case k11 => k_is)
    (case a12 => k_is)
    (case l12 => k_is)
    (case c12 => k_is)
    (case k12 => k_is)
    (case a13 => k_is)
    (case l13 => k_is)
    (case c13 => k_is)
    (case k13 => k_is)
    (case a14 => k_is)
    (case l14 => k_is)
    (case c14 => k_is)
    (case k14 => k_is)
    (case a15 => k_is)
    (case l15 => k_is)
    (case c15 => k_is)
    (case k15 => k_is)
    (case a16 => k_is)
    (case l16 => k_is)
    (case c16 => k_is)
    (case k16 => k_is)
    (case a17 => k_is)
    (case l17 => k_is)
    (case c17 => k_is)
    (case k17 => k_is)
    (case a18 => k_is)
    (case l18 => k_is)
    (case c18 => k_is)
    (case k18 => k_is)
    (case a19 => k_is)
    (case l19 => k_is)
    (case c19 => k_is)
    (case k19 => k_is)
    (case a20 => k_is)
    (case l20 => k_is)
    (case c20 => k_is)
    (case k20 => k_is)
    (case z_bool => k_is)
    (case z_enumerate => k_is)
    (case z_int => k_is)
    (case z_isinstance => k_is)
    (case z_len => k_is)
    (case z_list => k_is)
    (case z_max => k_is)
    (case z_min => k_is)
    (case z_range => k_is)
    (case z_set => k_is)
    (case z_sorted => k_is)
    (case z_tuple => k_is)
