import PyProof.Rows.All
import Wide.All
import OpenK.AllK
import Wide.FinOn
import HandS.ForMost
import HandS.Conv
import HandS.Codes
import HandS.IsInst
import HandS.Gcd
import HandS.Wide
import HandS.Flow
import HandS.Strs
import HandS.SortInts
import HandS.Walk
import HandS.TupAny
import HandS.TupLe
import HandS.TupMul
import HandS.Style
import HandS.NoneIn
import HandS.Deep
import KE.KSortedM
import HandS.Zip
import HandS.More
import KE.DataCmp
import KE.DataMinMax
import KE.SortData
import KE.GoesMore
import HandS.Iter
import KE.KDictDisplayH
import KE.KDictSum
import HandS.TupLen
import HandS.WordsDict
import KE.DataFind
import PyProof.ReprRoads
import HandS.Ends
import KE.SortCalls
import PySem.Challenge.RW_flagfloors_k38_whole_names_of_the_ball
set_option Elab.async false
set_option linter.all false
set_option maxRecDepth 100000
set_option maxHeartbeats 4000000
/-! Fl: a value-semantics layer over HandS. Slots hold pure data (PyData) or own mutable objects; what a def computes is a partial function on slots. -/
namespace Fl
open PySem L2

abbrev D := PyData

/-! ### data in the heap -/
theorem rd_mono {H H' : Hp} {a : Addr} {u : HO} (e : Same H H') (h : Rd H a u) : Rd H' a u := by
  rcases h with h | ⟨o, h⟩
  · exact .inl (e _ _ h)
  · exact .inr ⟨o, e _ _ h⟩
theorem sql_mono {K : PySem.W.Frag} {H H' : Hp} {a : Addr} {xs : List V} (e : Same H H') (h : SqL K H a xs) : SqL K H' a xs := by
  rcases h with h | h
  · exact .inl (rd_mono e h)
  · exact .inr h
/-- a tuple of the run: tracked as such -/
theorem sqt_mono {K : PySem.W.Frag} {H H' : Hp} {a : Addr} {xs : List V} (e : Same H H') (h : H a = some (.tup xs)) : SqT K H' a xs := .inl (.inl (e _ _ h))
mutual
/-- data: as L2.Dp, but each tuple is tracked as such (so it may be a dict's key) -/
inductive Dp (K : PySem.W.Frag) (H : Hp) : V → D → Prop
  | non : Dp K H .non .none
  | bl (b : Bool) : Dp K H (.bl b) (.bool b)
  | int (i : Int) : Dp K H (.int i) (.int i)
  | str (s : Str) : Dp K H (.str s) (.str s)
  | lst {a : Addr} {vs : List V} {ds : List D} : SqL K H a vs → DpAll K H vs ds → Dp K H (.ref a) (.list ds)
  | tup {a : Addr} {vs : List V} {ds : List D} : H a = some (.tup vs) → DpAll K H vs ds → Dp K H (.ref a) (.tuple ds)
inductive DpAll (K : PySem.W.Frag) (H : Hp) : List V → List D → Prop
  | nil : DpAll K H [] []
  | cons {v : V} {vs : List V} {d : D} {ds : List D} : Dp K H v d → DpAll K H vs ds → DpAll K H (v :: vs) (d :: ds)
end
mutual
theorem Dp.l2 {K : PySem.W.Frag} {H : Hp} : ∀ {v : V} {d : D}, Dp K H v d → L2.Dp K H v d
  | _, _, .non => .non
  | _, _, .bl b => .bl b
  | _, _, .int i => .int i
  | _, _, .str x => .str x
  | _, _, .lst h r => .lst h (DpAll.l2 r)
  | _, _, .tup h r => .tup (.inl (.inl h)) (DpAll.l2 r)
theorem DpAll.l2 {K : PySem.W.Frag} {H : Hp} : ∀ {vs : List V} {ds : List D}, DpAll K H vs ds → L2.DpAll K H vs ds
  | _, _, .nil => .nil
  | _, _, .cons h r => .cons (Dp.l2 h) (DpAll.l2 r)
end
mutual
theorem dp_mono {K : PySem.W.Frag} {H H' : Hp} (e : Same H H') : ∀ {v : V} {d : D}, Dp K H v d → Dp K H' v d
  | _, _, .non => .non
  | _, _, .bl b => .bl b
  | _, _, .int i => .int i
  | _, _, .str x => .str x
  | _, _, .lst h r => .lst (sql_mono e h) (dps_mono e r)
  | _, _, .tup h r => .tup (e _ _ h) (dps_mono e r)
theorem dps_mono {K : PySem.W.Frag} {H H' : Hp} (e : Same H H') : ∀ {vs : List V} {ds : List D}, DpAll K H vs ds → DpAll K H' vs ds
  | _, _, .nil => .nil
  | _, _, .cons h r => .cons (dp_mono e h) (dps_mono e r)
end
section
variable {K : PySem.W.Frag} {H : Hp}
theorem dps_length : ∀ {vs : List V} {ds : List D}, DpAll K H vs ds → vs.length = ds.length
  | _, _, .nil => rfl
  | _, _, .cons _ r => by rw [List.length_cons, List.length_cons, dps_length r]
theorem dps_get : ∀ {vs : List V} {ds : List D} {i : Nat} {d : D}, DpAll K H vs ds → ds[i]? = some d → ∃ v, vs[i]? = some v ∧ Dp K H v d
  | _, _, i, d, .nil, h => by simp at h
  | _, _, 0, d, .cons (v := v) h r, e => ⟨v, rfl, by simp at e; subst e; exact h⟩
  | _, _, i + 1, d, .cons h r, e => by
    obtain ⟨v, a, b⟩ := dps_get (i := i) (d := d) r (by simpa using e)
    exact ⟨v, by simpa using a, b⟩
theorem dps_get' : ∀ {vs : List V} {ds : List D} {i : Nat} {v : V}, DpAll K H vs ds → vs[i]? = some v → ∃ d, ds[i]? = some d ∧ Dp K H v d
  | _, _, i, v, .nil, h => by simp at h
  | _, _, 0, v, .cons (d := d) h r, e => ⟨d, rfl, by simp at e; subst e; exact h⟩
  | _, _, i + 1, v, .cons h r, e => by
    obtain ⟨d, a, b⟩ := dps_get' (i := i) (v := v) r (by simpa using e)
    exact ⟨d, by simpa using a, b⟩
theorem dps_append : ∀ {vs us : List V} {ds es : List D}, DpAll K H vs ds → DpAll K H us es → DpAll K H (vs ++ us) (ds ++ es)
  | _, _, _, _, .nil, s => s
  | _, _, _, _, .cons h r, s => .cons h (dps_append r s)
theorem dps_take : ∀ {vs : List V} {ds : List D} (n : Nat), DpAll K H vs ds → DpAll K H (vs.take n) (ds.take n)
  | _, _, 0, _ => .nil
  | _, _, _ + 1, .nil => .nil
  | _, _, n + 1, .cons h r => .cons h (dps_take n r)
theorem dps_drop : ∀ {vs : List V} {ds : List D} (n : Nat), DpAll K H vs ds → DpAll K H (vs.drop n) (ds.drop n)
  | _, _, 0, r => r
  | _, _, _ + 1, .nil => .nil
  | _, _, n + 1, .cons h r => dps_drop n r
theorem dps_set : ∀ {vs : List V} {ds : List D} (n : Nat) {v : V} {d : D}, DpAll K H vs ds → Dp K H v d → DpAll K H (vs.set n v) (ds.set n d)
  | _, _, _, _, _, .nil, _ => .nil
  | _, _, 0, _, _, .cons _ r, h => .cons h r
  | _, _, n + 1, _, _, .cons h r, k => .cons h (dps_set n r k)
theorem dps_ints : ∀ (ns : List Int), DpAll K H (ns.map V.int) (ns.map PyData.int)
  | [] => .nil
  | n :: ns => .cons (.int n) (dps_ints ns)
theorem dps_ints_inv : ∀ {vs : List V} {ns : List Int}, DpAll K H vs (ns.map PyData.int) → vs = ns.map V.int
  | _, [], .nil => rfl
  | _, n :: ns, .cons h r => by
    cases h
    rw [dps_ints_inv r]; rfl
theorem dps_reverse : ∀ {vs : List V} {ds : List D}, DpAll K H vs ds → DpAll K H vs.reverse ds.reverse
  | _, _, .nil => .nil
  | _, _, .cons h r => by
    rw [List.reverse_cons, List.reverse_cons]
    exact dps_append (dps_reverse r) (.cons h .nil)
end

/-! ### own objects -/
inductive O where
  | lst (l : List D)
  | dct (l : List (Key × D))
  | dctT (l : List (List Key × D))
  | set (l : List Int)
  | rows (l : List (List D))

inductive KDp {κ : Type} (K : PySem.W.Frag) (B : Hp) : List (κ × V) → List (κ × D) → Prop
  | nil : KDp K B [] []
  | cons {k : κ} {v : V} {d : D} {kvs : List (κ × V)} {ds : List (κ × D)} : Dp K B v d → KDp K B kvs ds → KDp K B ((k, v) :: kvs) ((k, d) :: ds)
inductive Rows (K : PySem.W.Frag) (B H : Hp) : List Addr → List (List D) → Prop
  | nil : Rows K B H [] []
  | cons {b : Addr} {vs : List V} {ds : List D} {bs : List Addr} {ls : List (List D)} : H b = some (.lst vs) → DpAll K B vs ds → Rows K B H bs ls → Rows K B H (b :: bs) (ds :: ls)
/-- an own object with the addresses that it owns -/
inductive OwnR (w : World) (K : PySem.W.Frag) (B H : Hp) : V → O → List Addr → Prop
  | lst {a : Addr} {vs : List V} {ds : List D} : H a = some (.lst vs) → DpAll K B vs ds → OwnR w K B H (.ref a) (.lst ds) [a]
  | dct {a : Addr} {kvs : List (Key × V)} {ds : List (Key × D)} : H a = some (.dK kvs) → KDp K B kvs ds → OwnR w K B H (.ref a) (.dct ds) [a]
  | dctT {a : Addr} {kvs : List (List Key × V)} {ds : List (List Key × D)} : H a = some (.dT kvs) → KDp K B kvs ds → OwnR w K B H (.ref a) (.dctT ds) [a]
  | set {a : Addr} {S : Int → Bool} {n : Nat} {l : List Int} : H a = some (SetO w a S n) → (∀ k, S k = true ↔ k ∈ l) → n = l.length → OwnR w K B H (.ref a) (.set l) [a]
  | rows {a : Addr} {bs : List Addr} {ls : List (List D)} : H a = some (.lst (bs.map V.ref)) → Rows K B H bs ls → OwnR w K B H (.ref a) (.rows ls) (a :: bs)

/-! ### slots -/
inductive Sl where
  | un
  | im (d : D)
  | ow (o : O)
  | mu (o : O)
/-- a result: data, a fresh own object, a place -/
inductive Rs where
  | im (d : D)
  | fr (o : O)
  | pl (i : Nat)

inductive SlR (w : World) (K : PySem.W.Frag) (B H : Hp) : Option V → Sl → List Addr → Prop
  | un {x : Option V} : SlR w K B H x .un []
  | im {v : V} {d : D} : Dp K B v d → SlR w K B H (some v) (.im d) []
  | ow {v : V} {o : O} {As : List Addr} : OwnR w K B H v o As → SlR w K B H (some v) (.ow o) As
  | mu {v : V} {o : O} {As : List Addr} : OwnR w K B H v o As → SlR w K B H (some v) (.mu o) As
inductive SR (w : World) (K : PySem.W.Frag) (B H : Hp) : L2.St → List Sl → List Addr → Prop
  | nil : SR w K B H [] [] []
  | cons {x : Option V} {s : Sl} {As A : List Addr} {σ : L2.St} {S : List Sl} : SlR w K B H x s As → SR w K B H σ S A → SR w K B H (x :: σ) (s :: S) (As ++ A)
inductive RR (w : World) (K : PySem.W.Frag) (σ : L2.St) (B H : Hp) : V → Rs → List Addr → Prop
  | im {v : V} {d : D} : Dp K B v d → RR w K σ B H v (.im d) []
  | fr {v : V} {o : O} {As : List Addr} : OwnR w K B H v o As → RR w K σ B H v (.fr o) As
  | pl {v : V} {i : Nat} : σ[i]? = some (some v) → RR w K σ B H v (.pl i) []
inductive RRs (w : World) (K : PySem.W.Frag) (σ : L2.St) (B H : Hp) : List V → List Rs → List Addr → Prop
  | nil : RRs w K σ B H [] [] []
  | cons {v : V} {r : Rs} {As A : List Addr} {vs : List V} {rs : List Rs} : RR w K σ B H v r As → RRs w K σ B H vs rs A → RRs w K σ B H (v :: vs) (r :: rs) (As ++ A)

/-- what is tracked at the addresses stays -/
def Keep (A : List Addr) (H H' : Hp) : Prop := ∀ a ∈ A, ∀ o, H a = some o → H' a = some o
theorem Keep.sub {A A' : List Addr} {H H' : Hp} (k : Keep A H H') (h : ∀ a ∈ A', a ∈ A) : Keep A' H H' := fun a ha => k a (h a ha)
theorem Keep.of {A : List Addr} {H H' : Hp} (e : Same H H') : Keep A H H' := fun a _ o h => e a o h
section
variable {w : World} {K : PySem.W.Frag} {B B' H H' : Hp}
theorem kdp_mono {κ : Type} (e : Same B B') : ∀ {kvs : List (κ × V)} {ds : List (κ × D)}, KDp K B kvs ds → KDp K B' kvs ds
  | _, _, .nil => .nil
  | _, _, .cons h r => .cons (dp_mono e h) (kdp_mono e r)
theorem kdp_length {κ : Type} : ∀ {kvs : List (κ × V)} {ds : List (κ × D)}, KDp K B kvs ds → kvs.length = ds.length
  | _, _, .nil => rfl
  | _, _, .cons _ r => by rw [List.length_cons, List.length_cons, kdp_length r]
theorem rows_step (e : Same B B') : ∀ {bs : List Addr} {ls : List (List D)}, Keep bs H H' → Rows K B H bs ls → Rows K B' H' bs ls
  | _, _, _, .nil => .nil
  | _, _, k, .cons h d r => .cons (k _ List.mem_cons_self _ h) (dps_mono e d) (rows_step e (k.sub fun a ha => List.mem_cons_of_mem _ ha) r)
theorem rows_tracked : ∀ {bs : List Addr} {ls : List (List D)}, Rows K B H bs ls → ∀ a ∈ bs, ∃ o, H a = some o
  | _, _, .nil, a, h => by simp at h
  | _, _, .cons h d r, a, ha => by
    rcases List.mem_cons.mp ha with e | ha
    · subst e; exact ⟨_, h⟩
    · exact rows_tracked r a ha
theorem OwnR.step {v : V} {o : O} {As : List Addr} (e : Same B B') (k : Keep As H H') (h : OwnR w K B H v o As) : OwnR w K B' H' v o As := by
  cases h with
  | lst h d => exact .lst (k _ (by simp) _ h) (dps_mono e d)
  | dct h d => exact .dct (k _ (by simp) _ h) (kdp_mono e d)
  | dctT h d => exact .dctT (k _ (by simp) _ h) (kdp_mono e d)
  | set h d n => exact .set (k _ (by simp) _ h) d n
  | rows h d => exact .rows (k _ (by simp) _ h) (rows_step e (k.sub fun a ha => List.mem_cons_of_mem _ ha) d)
theorem OwnR.tracked {v : V} {o : O} {As : List Addr} (h : OwnR w K B H v o As) : ∀ a ∈ As, ∃ u, H a = some u := by
  cases h with
  | lst h d => intro a ha; simp at ha; subst ha; exact ⟨_, h⟩
  | dct h d => intro a ha; simp at ha; subst ha; exact ⟨_, h⟩
  | dctT h d => intro a ha; simp at ha; subst ha; exact ⟨_, h⟩
  | set h d n => intro a ha; simp at ha; subst ha; exact ⟨_, h⟩
  | rows h d =>
    intro a ha
    rcases List.mem_cons.mp ha with e | ha
    · subst e; exact ⟨_, h⟩
    · exact rows_tracked d a ha
theorem rows_nt {B H : Hp} : ∀ {bs : List Addr} {ls : List (List D)}, Rows K B H bs ls → ∀ a ∈ bs, ∀ vs, H a ≠ some (.tup vs)
  | _, _, .nil => fun a ha => by simp at ha
  | _, _, .cons h d r => fun a ha vs e => by
    rcases List.mem_cons.mp ha with q | ha
    · subst q; rw [h] at e; cases e
    · exact rows_nt r a ha vs e
theorem OwnR.nt {v : V} {o : O} {As : List Addr} (h : OwnR w K B H v o As) : ∀ a ∈ As, ∀ vs, H a ≠ some (.tup vs) := by
  cases h with
  | lst h d => intro a ha vs e; simp at ha; subst ha; rw [h] at e; cases e
  | dct h d => intro a ha vs e; simp at ha; subst ha; rw [h] at e; cases e
  | dctT h d => intro a ha vs e; simp at ha; subst ha; rw [h] at e; cases e
  | set h d n => intro a ha vs e; simp at ha; subst ha; rw [h] at e; cases e
  | rows h d =>
    intro a ha vs e
    rcases List.mem_cons.mp ha with q | ha
    · subst q; rw [h] at e; cases e
    · exact rows_nt d a ha vs e
theorem SlR.step {x : Option V} {s : Sl} {As : List Addr} (e : Same B B') (k : Keep As H H') (h : SlR w K B H x s As) : SlR w K B' H' x s As := by
  cases h with
  | un => exact .un
  | im h => exact .im (dp_mono e h)
  | ow h => exact .ow (h.step e k)
  | mu h => exact .mu (h.step e k)
theorem SlR.tracked {x : Option V} {s : Sl} {As : List Addr} (h : SlR w K B H x s As) : ∀ a ∈ As, ∃ u, H a = some u := by
  cases h with
  | un => intro a ha; simp at ha
  | im h => intro a ha; simp at ha
  | ow h => exact h.tracked
  | mu h => exact h.tracked
theorem SR.step (e : Same B B') : ∀ {σ : L2.St} {S : List Sl} {A : List Addr}, Keep A H H' → SR w K B H σ S A → SR w K B' H' σ S A
  | _, _, _, _, .nil => .nil
  | _, _, _, k, .cons h r => .cons (h.step e (k.sub fun a ha => List.mem_append_left _ ha)) (SR.step e (k.sub fun a ha => List.mem_append_right _ ha) r)
theorem SR.tracked : ∀ {σ : L2.St} {S : List Sl} {A : List Addr}, SR w K B H σ S A → ∀ a ∈ A, ∃ u, H a = some u
  | _, _, _, .nil, a, h => by simp at h
  | _, _, _, .cons h r, a, ha => by
    rcases List.mem_append.mp ha with ha | ha
    · exact h.tracked a ha
    · exact SR.tracked r a ha
theorem SR.length : ∀ {σ : L2.St} {S : List Sl} {A : List Addr}, SR w K B H σ S A → σ.length = S.length
  | _, _, _, .nil => rfl
  | _, _, _, .cons h r => by rw [List.length_cons, List.length_cons, SR.length r]
/-- the slot i: its relation, and what may be put in its place -/
theorem SR.at : ∀ {σ : L2.St} {S : List Sl} {A : List Addr} {i : Nat} {s : Sl}, SR w K B H σ S A → S[i]? = some s → ∃ (x : Option V) (A1 As A2 : List Addr), A = A1 ++ (As ++ A2) ∧ σ[i]? = some x ∧ SlR w K B H x s As ∧
    ∀ {B' H' : Hp} {x' : Option V} {s' : Sl} {As' : List Addr}, Same B B' → Keep (A1 ++ A2) H H' → SlR w K B' H' x' s' As' → SR w K B' H' (σ.set i x') (S.set i s') (A1 ++ (As' ++ A2))
  | _, _, _, i, s, .nil, h => by simp at h
  | _, _, _, 0, s, .cons (x := x) (As := As) (A := A) h r, e => by
    simp at e; subst e
    refine ⟨x, [], As, A, rfl, rfl, h, fun {B' H' x' s' As'} e k q => ?_⟩
    have z := SR.cons q (r.step e (k.sub fun a ha => by simpa using ha))
    exact z
  | _, _, _, i + 1, s, .cons (As := As0) h r, e => by
    obtain ⟨x, A1, As, A2, eA, es, q, f⟩ := SR.at (i := i) (s := s) r (by simpa using e)
    refine ⟨x, As0 ++ A1, As, A2, by rw [eA, List.append_assoc], by simpa using es, q, fun {B' H' x' s' As'} e k q' => ?_⟩
    have h1 := h.step e (k.sub fun a ha => by simp [ha])
    have h2 := f e (k.sub fun a ha => by
      rcases List.mem_append.mp ha with z | z
      · simp [z]
      · simp [z]) q'
    have h3 := SR.cons h1 h2
    rw [List.append_assoc]
    exact h3
theorem RR.step {σ : L2.St} {v : V} {r : Rs} {As : List Addr} (e : Same B B') (k : Keep As H H') (h : RR w K σ B H v r As) : RR w K σ B' H' v r As := by
  cases h with
  | im h => exact .im (dp_mono e h)
  | fr h => exact .fr (h.step e k)
  | pl h => exact .pl h
theorem RR.tracked {σ : L2.St} {v : V} {r : Rs} {As : List Addr} (h : RR w K σ B H v r As) : ∀ a ∈ As, ∃ u, H a = some u := by
  cases h with
  | im h => intro a ha; simp at ha
  | fr h => exact h.tracked
  | pl h => intro a ha; simp at ha
theorem RRs.step {σ : L2.St} (e : Same B B') : ∀ {vs : List V} {rs : List Rs} {A : List Addr}, Keep A H H' → RRs w K σ B H vs rs A → RRs w K σ B' H' vs rs A
  | _, _, _, _, .nil => .nil
  | _, _, _, k, .cons h r => .cons (h.step e (k.sub fun a ha => List.mem_append_left _ ha)) (RRs.step e (k.sub fun a ha => List.mem_append_right _ ha) r)
theorem RRs.tracked {σ : L2.St} : ∀ {vs : List V} {rs : List Rs} {A : List Addr}, RRs w K σ B H vs rs A → ∀ a ∈ A, ∃ u, H a = some u
  | _, _, _, .nil, a, h => by simp at h
  | _, _, _, .cons h r, a, ha => by
    rcases List.mem_append.mp ha with ha | ha
    · exact h.tracked a ha
    · exact RRs.tracked r a ha
end

/-! ### a step of the heap -/
structure Ok (A : List Addr) (B H : Hp) : Prop where
  sub : Same B H
  nd : A.Nodup
  off : ∀ a ∈ A, B a = none
  nt : ∀ a ∈ A, ∀ vs, H a ≠ some (.tup vs)
structure Step (A : List Addr) (B H : Hp) (A' : List Addr) (B' H' : Hp) : Prop where
  fr : ∀ a o, H a = some o → a ∉ A → H' a = some o
  bx : Same B B'
  bn : ∀ a o, B' a = some o → B a = some o ∨ H a = none ∨ a ∈ A ∨ ∃ vs, H a = some (.tup vs)
  an : ∀ a ∈ A', a ∈ A ∨ H a = none
theorem Step.refl {A : List Addr} {B H : Hp} : Step A B H A B H := ⟨fun _ _ h _ => h, Same.refl B, fun _ _ h => .inl h, fun _ h => .inl h⟩
theorem Step.trans {A A1 A2 : List Addr} {B B1 B2 H H1 H2 : Hp} (s : Step A B H A1 B1 H1) (t : Step A1 B1 H1 A2 B2 H2) : Step A B H A2 B2 H2 := by
  have key : ∀ a, H1 a = none → H a = none ∨ a ∈ A := fun a h => by
    by_cases ha : a ∈ A
    · exact .inr ha
    · cases q : H a with
      | none => exact .inl rfl
      | some o => rw [s.fr a o q ha] at h; cases h
  refine ⟨fun a o h ha => ?_, s.bx.trans t.bx, fun a o h => ?_, fun a h => ?_⟩
  · have n1 : a ∉ A1 := fun z => by
      rcases s.an a z with z | z
      · exact ha z
      · rw [h] at z; cases z
    exact t.fr a o (s.fr a o h ha) n1
  · rcases t.bn a o h with h | h | h | ⟨vs, h⟩
    · exact s.bn a o h
    · rcases key a h with z | z
      · exact .inr (.inl z)
      · exact .inr (.inr (.inl z))
    · rcases s.an a h with z | z
      · exact .inr (.inr (.inl z))
      · exact .inr (.inl z)
    · by_cases ha : a ∈ A
      · exact .inr (.inr (.inl ha))
      · cases q : H a with
        | none => exact .inr (.inl rfl)
        | some o =>
          have := s.fr a o q ha
          rw [h] at this
          cases this
          exact .inr (.inr (.inr ⟨vs, rfl⟩))
  · rcases t.an a h with h | h
    · exact s.an a h
    · exact (key a h).symm
theorem Step.sub {A A' A'' : List Addr} {B B' H H' : Hp} (s : Step A B H A' B' H') (h : ∀ a ∈ A'', a ∈ A') : Step A B H A'' B' H' := ⟨s.fr, s.bx, s.bn, fun a ha => s.an a (h a ha)⟩
theorem Ok.sub' {A A' : List Addr} {B H : Hp} (o : Ok A B H) (nd : A'.Nodup) (h : ∀ a ∈ A', a ∈ A) : Ok A' B H := ⟨o.sub, nd, fun a ha => o.off a (h a ha), fun a ha => o.nt a (h a ha)⟩
theorem Ok.right {F A : List Addr} {B H : Hp} (o : Ok (F ++ A) B H) : Ok A B H := ⟨o.sub, (List.nodup_append.mp o.nd).2.1, fun a ha => o.off a (List.mem_append_right _ ha), fun a ha => o.nt a (List.mem_append_right _ ha)⟩
theorem Ok.left {F A : List Addr} {B H : Hp} (o : Ok (F ++ A) B H) : Ok F B H := ⟨o.sub, (List.nodup_append.mp o.nd).1, fun a ha => o.off a (List.mem_append_left _ ha), fun a ha => o.nt a (List.mem_append_left _ ha)⟩
theorem Ok.disj {F A : List Addr} {B H : Hp} (o : Ok (F ++ A) B H) {a : Addr} (h : a ∈ F) : a ∉ A := fun z => (List.nodup_append.mp o.nd).2.2 a h a z rfl
/-- objects that wait beside a step -/
theorem pend {F A1 A2 : List Addr} {B1 B2 H1 H2 : Hp} (o : Ok (F ++ A1) B1 H1) (s : Step A1 B1 H1 A2 B2 H2) (o2 : Ok A2 B2 H2) (tr : ∀ a ∈ F, ∃ u, H1 a = some u) :
    Ok (F ++ A2) B2 H2 ∧ Step (F ++ A1) B1 H1 (F ++ A2) B2 H2 ∧ Keep F H1 H2 := by
  have nin : ∀ a ∈ F, a ∉ A1 := fun a ha => o.disj ha
  have nin2 : ∀ a ∈ F, a ∉ A2 := fun a ha z => by
    rcases s.an a z with z | z
    · exact nin a ha z
    · obtain ⟨u, e⟩ := tr a ha
      rw [e] at z; cases z
  refine ⟨⟨o2.sub, List.nodup_append.mpr ⟨(List.nodup_append.mp o.nd).1, o2.nd, fun a ha b hb e => ?_⟩, fun a ha => ?_, fun a ha vs => ?_⟩, ⟨fun a u h n => ?_, s.bx, fun a u h => ?_, fun a ha => ?_⟩, fun a ha u h => ?_⟩
  · subst e; exact nin2 a ha hb
  · rcases List.mem_append.mp ha with z | z
    · cases q : B2 a with
      | none => rfl
      | some u =>
        rcases s.bn a u q with h | h | h | ⟨vs, h⟩
        · rw [o.off a (List.mem_append_left _ z)] at h; cases h
        · obtain ⟨u', e⟩ := tr a z
          rw [e] at h; cases h
        · exact absurd h (nin a z)
        · exact absurd h (o.nt a (List.mem_append_left _ z) vs)
    · exact o2.off a z
  · rcases List.mem_append.mp ha with z | z
    · intro h
      obtain ⟨u', e⟩ := tr a z
      have := s.fr a u' e (nin a z)
      rw [h] at this
      cases this
      exact o.nt a (List.mem_append_left _ z) vs e
    · exact o2.nt a z vs
  · exact s.fr a u h fun z => n (List.mem_append_right _ z)
  · rcases s.bn a u h with h | h | h | h
    · exact .inl h
    · exact .inr (.inl h)
    · exact .inr (.inr (.inl (List.mem_append_right _ h)))
    · exact .inr (.inr (.inr h))
  · rcases List.mem_append.mp ha with z | z
    · exact .inl (List.mem_append_left _ z)
    · rcases s.an a z with z | z
      · exact .inl (List.mem_append_right _ z)
      · exact .inr z
  · exact s.fr a u h (nin a ha)
/-- a new object of the base -/
theorem step_newB {A : List Addr} {B H : Hp} {p : Addr} {o : HO} (k : Ok A B H) (hp : H p = none) (tr : ∀ a ∈ A, ∃ u, H a = some u) : Ok A (upd B p o) (upd H p o) ∧ Step A B H A (upd B p o) (upd H p o) := by
  have bp : B p = none := by
    cases q : B p with
    | none => rfl
    | some u => rw [k.sub p u q] at hp; cases hp
  have pA : ∀ a ∈ A, a ≠ p := fun a ha e => by
    obtain ⟨u, h⟩ := tr a ha
    rw [e, hp] at h; cases h
  refine ⟨⟨fun a u h => ?_, k.nd, fun a ha => ?_, fun a ha => by rw [upd_ne (pA a ha)]; exact k.nt a ha⟩, ⟨fun a u h _ => ?_, fun a u h => ?_, fun a u h => ?_, fun a h => .inl h⟩⟩
  · by_cases e : a = p
    · subst e; rw [upd_same] at h ⊢; exact h
    · rw [upd_ne e] at h ⊢; exact k.sub a u h
  · rw [upd_ne (pA a ha)]; exact k.off a ha
  · rw [upd_ne (ne_of_none h hp)]; exact h
  · rw [upd_ne (ne_of_none h bp)]; exact h
  · by_cases e : a = p
    · subst e; exact .inr (.inl hp)
    · rw [upd_ne e] at h; exact .inl h
/-- a new own object -/
theorem step_newA {A : List Addr} {B H : Hp} {p : Addr} {o : HO} (k : Ok A B H) (hp : H p = none) (tr : ∀ a ∈ A, ∃ u, H a = some u) (ht : ∀ vs, o ≠ .tup vs := by intro vs h; cases h) : Ok (p :: A) B (upd H p o) ∧ Step A B H (p :: A) B (upd H p o) := by
  have bp : B p = none := by
    cases q : B p with
    | none => rfl
    | some u => rw [k.sub p u q] at hp; cases hp
  have pA : p ∉ A := fun ha => by
    obtain ⟨u, h⟩ := tr p ha
    rw [hp] at h; cases h
  refine ⟨⟨fun a u h => ?_, List.nodup_cons.mpr ⟨pA, k.nd⟩, fun a ha => ?_, fun a ha vs => ?_⟩, ⟨fun a u h _ => ?_, Same.refl B, fun a u h => .inl h, fun a h => ?_⟩⟩
  · rw [upd_ne (ne_of_none h bp)]; exact k.sub a u h
  · rcases List.mem_cons.mp ha with e | ha
    · subst e; exact bp
    · exact k.off a ha
  · rcases List.mem_cons.mp ha with e | ha
    · subst e; rw [upd_same]; exact fun z => ht vs (Option.some.inj z)
    · have n : a ≠ p := fun e => pA (by rw [← e]; exact ha)
      rw [upd_ne n]; exact k.nt a ha vs
  · rw [upd_ne (ne_of_none h hp)]; exact h
  · rcases List.mem_cons.mp h with e | h
    · subst e; exact .inr hp
    · exact .inl h
/-- an own object is changed -/
theorem step_mut {A : List Addr} {B H : Hp} {p : Addr} {o : HO} (k : Ok A B H) (hp : p ∈ A) (ht : ∀ vs, o ≠ .tup vs := by intro vs h; cases h) : Ok A B (upd H p o) ∧ Step A B H A B (upd H p o) := by
  have bp := k.off p hp
  refine ⟨⟨fun a u h => ?_, k.nd, k.off, fun a ha vs => ?_⟩, ⟨fun a u h n => ?_, Same.refl B, fun a u h => .inl h, fun a h => .inl h⟩⟩
  · rw [upd_ne (ne_of_none h bp)]; exact k.sub a u h
  · by_cases e : a = p
    · subst e; rw [upd_same]; exact fun z => ht vs (Option.some.inj z)
    · rw [upd_ne e]; exact k.nt a ha vs
  · rw [upd_ne (fun e => n (by rw [e]; exact hp))]; exact h
/-- the base with some own objects frozen into it -/
def ov (B H : Hp) (F : List Addr) : Hp := fun a => if a ∈ F then H a else B a
theorem ov_in {B H : Hp} {F : List Addr} {a : Addr} (h : a ∈ F) : ov B H F a = H a := by unfold ov; rw [if_pos h]
theorem ov_out {B H : Hp} {F : List Addr} {a : Addr} (h : a ∉ F) : ov B H F a = B a := by unfold ov; rw [if_neg h]
theorem ov_same {B H : Hp} {F : List Addr} (s : Same B H) : Same B (ov B H F) := fun a o h => by
  by_cases e : a ∈ F
  · rw [ov_in e]; exact s a o h
  · rw [ov_out e]; exact h
theorem ov_sub {B H : Hp} {F : List Addr} (s : Same B H) : Same (ov B H F) H := fun a o h => by
  by_cases e : a ∈ F
  · rw [ov_in e] at h; exact h
  · rw [ov_out e] at h; exact s a o h
theorem step_freeze {F A : List Addr} {B H : Hp} (k : Ok (F ++ A) B H) : Ok A (ov B H F) H ∧ Step (F ++ A) B H A (ov B H F) H := by
  refine ⟨⟨ov_sub k.sub, k.right.nd, fun a ha => ?_, k.right.nt⟩, ⟨fun a u h _ => h, ov_same k.sub, fun a u h => ?_, fun a h => .inl (List.mem_append_right _ h)⟩⟩
  · have n : a ∉ F := fun z => k.disj z ha
    rw [ov_out n]; exact k.right.off a ha
  · by_cases e : a ∈ F
    · exact .inr (.inr (.inl (List.mem_append_left _ e)))
    · rw [ov_out e] at h; exact .inl h

/-- a tuple that is there already, taken into the base -/
theorem step_tupB {A : List Addr} {B H : Hp} {b : Addr} {vs : List V} (k : Ok A B H) (hb : H b = some (.tup vs)) : Ok A (upd B b (.tup vs)) H ∧ Step A B H A (upd B b (.tup vs)) H := by
  have nb : ∀ a ∈ A, a ≠ b := fun a ha e => k.nt a ha vs (by rw [e]; exact hb)
  refine ⟨⟨fun a u h => ?_, k.nd, fun a ha => by rw [upd_ne (nb a ha)]; exact k.off a ha, k.nt⟩, ⟨fun a u h _ => h, fun a u h => ?_, fun a u h => ?_, fun a h => .inl h⟩⟩
  · by_cases e : a = b
    · subst e; rw [upd_same] at h; cases h; exact hb
    · rw [upd_ne e] at h; exact k.sub a u h
  · by_cases e : a = b
    · subst e; rw [upd_same]; rw [k.sub a u h] at hb; exact hb.symm
    · rw [upd_ne e]; exact h
  · by_cases e : a = b
    · subst e; exact .inr (.inr (.inr ⟨vs, hb⟩))
    · rw [upd_ne e] at h; exact .inl h
/-- what an own object is, as data -/
def O.toD : O → Option D
  | .lst l => some (.list l)
  | .rows l => some (.list (l.map PyData.list))
  | _ => none
section
variable {w : World} {K : PySem.W.Frag} {B B' H : Hp}
theorem rows_dp (e : Same B B') : ∀ {bs : List Addr} {ls : List (List D)}, (∀ a ∈ bs, B' a = H a) → Rows K B H bs ls → DpAll K B' (bs.map V.ref) (ls.map PyData.list)
  | _, _, _, .nil => .nil
  | _, _, f, .cons h d r => .cons (.lst (.inl (.inl (by rw [f _ List.mem_cons_self]; exact h))) (dps_mono e d)) (rows_dp e (fun a ha => f a (List.mem_cons_of_mem _ ha)) r)
theorem OwnR.data {v : V} {o : O} {As : List Addr} {d : D} (e : Same B B') (f : ∀ a ∈ As, B' a = H a) (h : OwnR w K B H v o As) (ed : o.toD = some d) : Dp K B' v d := by
  cases h with
  | lst h r => cases ed; exact .lst (.inl (.inl (by rw [f _ (by simp)]; exact h))) (dps_mono e r)
  | dct h r => cases ed
  | dctT h r => cases ed
  | set h r n => cases ed
  | rows h r =>
    cases ed
    exact .lst (.inl (.inl (by rw [f _ (by simp)]; exact h))) (rows_dp e (fun a ha => f a (List.mem_cons_of_mem _ ha)) r)
end
end Fl
/-! Fl: expressions. -/
namespace Fl
open PySem L2

abbrev SE := List Sl → Option (Rs × List Sl)
abbrev SEs := List Sl → Option (List Rs × List Sl)
abbrev ST := List Sl → Option (Bool × List Sl)
def MuK (S S' : List Sl) : Prop := ∀ (i : Nat) o, S[i]? = some (.mu o) → ∃ o', S'[i]? = some (.mu o')
theorem MuK.refl (S : List Sl) : MuK S S := fun _ o h => ⟨o, h⟩
theorem MuK.trans {S S1 S2 : List Sl} (a : MuK S S1) (b : MuK S1 S2) : MuK S S2 := fun i o h => by
  obtain ⟨o', h'⟩ := a i o h
  exact b i o' h'
/-- what stands behind a piece of code, F: fresh own objects of its result -/
structure Go (w : World) (K : PySem.W.Frag) (σ : L2.St) (S : List Sl) (A : List Addr) (B H : Hp) (S' : List Sl) (A' : List Addr) (B' H' : Hp) (F : List Addr) : Prop where
  sr : SR w K B' H' σ S' A'
  ok : Ok (F ++ A') B' H'
  st : Step A B H (F ++ A') B' H'
  mu : MuK S S'
def EPo (w : World) (K : PySem.W.Frag) (σ : L2.St) (S : List Sl) (A : List Addr) (B H : Hp) (r : Rs) (S' : List Sl) (v : V) (H' : Hp) : Prop :=
  ∃ A' B' F, Go w K σ S A B H S' A' B' H' F ∧ RR w K σ B' H' v r F
def APo (w : World) (K : PySem.W.Frag) (σ : L2.St) (S : List Sl) (A : List Addr) (B H : Hp) (rs : List Rs) (S' : List Sl) (vs : List V) (H' : Hp) : Prop :=
  ∃ A' B' F, Go w K σ S A B H S' A' B' H' F ∧ RRs w K σ B' H' vs rs F
def TPo (w : World) (K : PySem.W.Frag) (σ : L2.St) (S : List Sl) (A : List Addr) (B H : Hp) (S' : List Sl) (H' : Hp) : Prop :=
  ∃ A' B', Go w K σ S A B H S' A' B' H' []
def T (w : World) (K : PySem.W.Frag) (f : SE) : TE := fun σ H Q => ∃ S A B r S', SR w K B H σ S A ∧ Ok A B H ∧ f S = some (r, S') ∧ ∀ v H', EPo w K σ S A B H r S' v H' → Q v H'
def Ta (w : World) (K : PySem.W.Frag) (f : SEs) : TA := fun σ H Q => ∃ S A B r S', SR w K B H σ S A ∧ Ok A B H ∧ f S = some (r, S') ∧ ∀ v H', APo w K σ S A B H r S' v H' → Q v H'
def Tt (w : World) (K : PySem.W.Frag) (f : ST) : TT := fun σ H Q => ∃ S A B r S', SR w K B H σ S A ∧ Ok A B H ∧ f S = some (r, S') ∧ ∀ H', TPo w K σ S A B H S' H' → Q r H'
/-- the expression e computes f -/
def E (X : Cx) (e : Expr) (f : SE) : Prop := PE X e (T X.w X.K f)
def Es (X : Cx) (e : List Expr) (f : SEs) : Prop := PA X e (Ta X.w X.K f)
def Et (X : Cx) (e : Expr) (f : ST) : Prop := PT X e (Tt X.w X.K f)
def Ew (X : Cx) (e : Expr) (f : ST) : Prop := PW X e (Tt X.w X.K f)
section
variable {X : Cx} {e : Expr}
theorem pe_weak {t t' : TE} (h : PE X e t) (hw : ∀ σ H Q, t' σ H Q → t σ H Q) : PE X e t' := ⟨fun pins s σ H Q I h' => h.run pins s σ H Q I (hw _ _ _ h')⟩
theorem pt_weak {t t' : TT} (h : PT X e t) (hw : ∀ σ H Q, t' σ H Q → t σ H Q) : PT X e t' := ⟨fun pins s σ H Q I h' => h.run pins s σ H Q I (hw _ _ _ h')⟩
theorem pw_weak {t t' : TT} (h : PW X e t) (hw : ∀ σ H Q, t' σ H Q → t σ H Q) : PW X e t' := ⟨fun wh pins s σ H Q I h' => h.run wh pins s σ H Q I (hw _ _ _ h')⟩
theorem pa_weak {es : List Expr} {t t' : TA} (h : PA X es t) (hw : ∀ σ H Q, t' σ H Q → t σ H Q) : PA X es t' := ⟨fun p pins s σ H Q I h' => h.run p pins s σ H Q I (hw _ _ _ h')⟩
theorem pe_or2 {t t' : TE} (h : PE X e t) (h' : PE X e t') : PE X e (fun σ H Q => t σ H Q ∨ t' σ H Q) := ⟨fun pins s σ H Q I z => z.elim (h.run pins s σ H Q I) (h'.run pins s σ H Q I)⟩
theorem pi_or2 {tg : Expr} {t t' : TI} (h : PI X tg e t) (h' : PI X tg e t') : PI X tg e (fun σ H Q => t σ H Q ∨ t' σ H Q) := ⟨fun pins s σ H Q I z => z.elim (h.run pins s σ H Q I) (h'.run pins s σ H Q I)⟩
end
section
variable {w : World} {K : PySem.W.Frag} {σ : L2.St} {S S1 S2 : List Sl} {A A1 A2 : List Addr} {B B1 B2 H H1 H2 : Hp} {F F1 F2 : List Addr}
theorem Go.same (sr : SR w K B H σ S A) (ok : Ok A B H) : Go w K σ S A B H S A B H [] := ⟨sr, ok, Step.refl, MuK.refl S⟩
theorem Go.ok0 (g : Go w K σ S A B H S1 A1 B1 H1 F1) : Ok A1 B1 H1 := g.ok.right
/-- one after another; what the first one left waits -/
theorem Go.then_ (g : Go w K σ S A B H S1 A1 B1 H1 F1) (tr : ∀ a ∈ F1, ∃ u, H1 a = some u) (h : Go w K σ S1 A1 B1 H1 S2 A2 B2 H2 F2) : Go w K σ S A B H S2 A2 B2 H2 (F1 ++ F2) ∧ Same B1 B2 ∧ Keep F1 H1 H2 := by
  obtain ⟨p1, p2, p3⟩ := pend g.ok h.st h.ok tr
  refine ⟨⟨h.sr, by rw [List.append_assoc]; exact p1, ?_, g.mu.trans h.mu⟩, h.st.bx, p3⟩
  rw [List.append_assoc]
  exact g.st.trans p2
theorem Go.seq (g : Go w K σ S A B H S1 A1 B1 H1 []) (h : Go w K σ S1 A1 B1 H1 S2 A2 B2 H2 F2) : Go w K σ S A B H S2 A2 B2 H2 F2 := (g.then_ (fun a ha => by simp at ha) h).1
/-- the fresh objects are let go -/
theorem Go.drop (g : Go w K σ S A B H S1 A1 B1 H1 F1) : Go w K σ S A B H S1 A1 B1 H1 [] := ⟨g.sr, g.ok.right, g.st.sub fun a ha => List.mem_append_right _ ha, g.mu⟩
theorem T.mono {f : SE} {Q Q' : VK} (h : T w K f σ H Q) (q : ∀ v H', Q v H' → Q' v H') : T w K f σ H Q' := by
  obtain ⟨S, A, B, r, S', a, b, c, d⟩ := h
  exact ⟨S, A, B, r, S', a, b, c, fun v H' p => q v H' (d v H' p)⟩
theorem Ta.mono {f : SEs} {Q Q' : List V → Hp → Prop} (h : Ta w K f σ H Q) (q : ∀ v H', Q v H' → Q' v H') : Ta w K f σ H Q' := by
  obtain ⟨S, A, B, r, S', a, b, c, d⟩ := h
  exact ⟨S, A, B, r, S', a, b, c, fun v H' p => q v H' (d v H' p)⟩
end

/-! ### argument lists -/
def sNil : SEs := fun S => some ([], S)
def sCons (f : SE) (g : SEs) : SEs := fun S => match f S with
  | some (r, S1) => match g S1 with
    | some (rs, S2) => some (r :: rs, S2)
    | none => none
  | none => none
section
variable {w : World} {K : PySem.W.Frag} {σ : L2.St} {H : Hp}
theorem ta_nil {Q : List V → Hp → Prop} (h : Ta w K sNil σ H Q) : Q [] H := by
  obtain ⟨S, A, B, r, S', sr, ok, e, q⟩ := h
  cases e
  exact q [] H ⟨A, B, [], Go.same sr ok, .nil⟩
theorem ta_cons {f : SE} {g : SEs} {Q : List V → Hp → Prop} (h : Ta w K (sCons f g) σ H Q) : T w K f σ H fun x H1 => Ta w K g σ H1 fun xs H2 => Q (x :: xs) H2 := by
  obtain ⟨S, A, B, r, S', sr, ok, e, q⟩ := h
  unfold sCons at e
  cases e1 : f S with
  | none => rw [e1] at e; cases e
  | some p =>
    obtain ⟨r1, S1⟩ := p
    rw [e1] at e
    simp only at e
    cases e2 : g S1 with
    | none => rw [e2] at e; cases e
    | some p =>
      obtain ⟨rs, S2⟩ := p
      rw [e2] at e
      simp only [Option.some.injEq, Prod.mk.injEq] at e
      obtain ⟨rfl, rfl⟩ := e
      refine ⟨S, A, B, r1, S1, sr, ok, e1, fun v H1 ⟨A1, B1, F1, g1, x1⟩ => ?_⟩
      refine ⟨S1, A1, B1, rs, S2, g1.sr, g1.ok0, e2, fun vs H2 ⟨A2, B2, F2, g2, x2⟩ => ?_⟩
      obtain ⟨h1, h2, h3⟩ := g1.then_ x1.tracked g2
      exact q _ _ ⟨A2, B2, F1 ++ F2, h1, .cons (x1.step h2 h3) x2⟩
theorem ta_two {f g : SE} {Q : List V → Hp → Prop} (h : Ta w K (sCons f (sCons g sNil)) σ H Q) : T w K f σ H fun x H1 => T w K g σ H1 fun y H2 => Q [x, y] H2 :=
  (ta_cons h).mono fun x H1 h => (ta_cons h).mono fun y H2 h => ta_nil h
theorem ta_one {f : SE} {Q : List V → Hp → Prop} (h : Ta w K (sCons f sNil) σ H Q) : T w K f σ H fun x H1 => Q [x] H1 := (ta_cons h).mono fun x H1 h => ta_nil h
end
section
variable {X : Cx} {e : Expr} {es : List Expr}
theorem es_nil : Es X [] sNil := pa_weak pa_nil fun _ _ _ h => ta_nil h
theorem es_cons {f : SE} {g : SEs} (h : E X e f) (hs : Es X es g) (hq : starEach (e :: es) X.env = (false, eval e X.env) :: starEach es X.env := by rfl) : Es X (e :: es) (sCons f g) := pa_weak (pa_cons h hs hq) fun _ _ _ h => ta_cons h
end

/-! ### operations by values -/
abbrev Op := List Sl → List Rs → Option Rs
def OpOk (w : World) (K : PySem.W.Frag) (R : List V → Hp → VK → Prop) (g : Op) : Prop := ∀ (σ : L2.St) (S : List Sl) (A : List Addr) (B H : Hp) (vs : List V) (rs : List Rs) (F : List Addr) (r : Rs) (Q : VK),
  SR w K B H σ S A → RRs w K σ B H vs rs F → Ok (F ++ A) B H → g S rs = some r →
  (∀ v H' B' F', RR w K σ B' H' v r F' → SR w K B' H' σ S A → Ok (F' ++ A) B' H' → Step (F ++ A) B H (F' ++ A) B' H' → Q v H') → R vs H Q
def opS (g : Op) (fs : SEs) : SE := fun S => match fs S with
  | some (rs, S') => match g S' rs with
    | some r => some (r, S')
    | none => none
  | none => none
theorem op_T {w : World} {K : PySem.W.Frag} {R : List V → Hp → VK → Prop} {g : Op} {fs : SEs} {σ : L2.St} {H : Hp} {Q : VK} (o : OpOk w K R g) (h : T w K (opS g fs) σ H Q) : Ta w K fs σ H fun vs H' => R vs H' Q := by
  obtain ⟨S, A, B, r, S', sr, ok, e, q⟩ := h
  unfold opS at e
  cases e1 : fs S with
  | none => rw [e1] at e; cases e
  | some p =>
    obtain ⟨rs, S1⟩ := p
    rw [e1] at e
    simp only at e
    cases e2 : g S1 rs with
    | none => rw [e2] at e; cases e
    | some r1 =>
      rw [e2] at e
      simp only [Option.some.injEq, Prod.mk.injEq] at e
      obtain ⟨rfl, rfl⟩ := e
      refine ⟨S, A, B, rs, S1, sr, ok, e1, fun vs H1 ⟨A1, B1, F1, g1, x1⟩ => ?_⟩
      refine o σ S1 A1 B1 H1 vs rs F1 r1 Q g1.sr x1 g1.ok e2 fun v H' B' F' x s k st => ?_
      exact q v H' ⟨A1, B', F', ⟨s, k, g1.st.trans st, g1.mu⟩, x⟩
section
variable {X : Cx} {a b e : Expr} {es : List Expr} {pos : Pos} {f h : SE} {fs : SEs} {g : Op}
abbrev RV2 (r : V → V → Hp → VK → Prop) : List V → Hp → VK → Prop := fun vs H Q => ∃ x y, vs = [x, y] ∧ r x y H Q
abbrev RV1 (r : V → Hp → VK → Prop) : List V → Hp → VK → Prop := fun vs H Q => ∃ x, vs = [x] ∧ r x H Q
theorem e_bin {op : Operator} {r : V → V → Hp → VK → Prop} (ho : OpR X (binaryOp op) r) (hg : OpOk X.w X.K (RV2 r) g) (ha : E X a f) (hb : E X b h) : E X (.BinOp a op b pos) (opS g (sCons f (sCons h sNil))) :=
  pe_weak (pe_op ho ha hb) fun σ H Q z => (ta_two (op_T hg z)).mono fun x H1 z => z.mono fun y H2 ⟨x', y', e, q⟩ => by cases e; exact q
theorem e_un {op : UnaryOp} {r : V → Hp → VK → Prop} (ho : UnR X (unaryOp op) r) (hg : OpOk X.w X.K (RV1 r) g) (ha : E X a f) : E X (.UnaryOp op a pos) (opS g (sCons f sNil)) :=
  pe_weak (pe_un ho ha) fun σ H Q z => (ta_one (op_T hg z)).mono fun x H1 ⟨x', e, q⟩ => by cases e; exact q
theorem e_cmp {op : CmpOp} {r : V → V → Hp → VK → Prop} (ho : OpR X (compareOp op) r) (hg : OpOk X.w X.K (RV2 r) g) (hm : behindInMarks op b = false) (ha : E X a f) (hb : E X b h) : E X (.Compare a [op] [b] pos) (opS g (sCons f (sCons h sNil))) :=
  pe_weak (pe_cmpR ho ha hb hm) fun σ H Q z => (ta_two (op_T hg z)).mono fun x H1 z => z.mono fun y H2 ⟨x', y', e, q⟩ => by cases e; exact q
theorem e_ix {r : V → V → Hp → VK → Prop} (ho : IxR X r) (hg : OpOk X.w X.K (RV2 r) g) (hs : PlainIx b) (ha : E X a f) (hb : E X b h) : E X (.Subscript a b pos) (opS g (sCons f (sCons h sNil))) :=
  pe_weak (pe_ix ho ha hb hs) fun σ H Q z => (ta_two (op_T hg z)).mono fun x H1 z => z.mono fun y H2 ⟨x', y', e, q⟩ => by cases e; exact q
theorem e_callB {x : Str} {p : Pos} {id : String} {r : List V → Hp → VK → Prop} (hc : CallR X (.builtin id) r) (hgl : Gl X x) (hm : X.mg x = none) (hv : bootBuiltins x = some (.builtin id)) (hg : OpOk X.w X.K r g) (ha : Es X (e :: es) fs)
    (hn : x ≠ "__name__" := by decide) (hdb : (x == ("__debug__" : Str)) = false := by decide) (he : starEach (e :: es) X.env = (false, eval e X.env) :: starEach es X.env := by rfl) (hpl : (backTo pos (starEach es X.env)).any (·.1) = false := by rfl) :
    E X (.Call (.Name x p) (e :: es) [] pos) (opS g fs) := pe_weak (pe_callB hc hgl hm hv ha hn hdb he hpl) fun σ H Q z => op_T hg z
theorem e_callTy {x : Str} {p : Pos} {id : String} {r : List V → Hp → VK → Prop} (hc : CallR X (.type id) r) (hgl : Gl X x) (hm : X.mg x = none) (hv : bootBuiltins x = some (.type id)) (hg : OpOk X.w X.K r g) (ha : Es X (e :: es) fs)
    (hn : x ≠ "__name__" := by decide) (hdb : (x == ("__debug__" : Str)) = false := by decide) (he : starEach (e :: es) X.env = (false, eval e X.env) :: starEach es X.env := by rfl) (hpl : (backTo pos (starEach es X.env)).any (·.1) = false := by rfl) :
    E X (.Call (.Name x p) (e :: es) [] pos) (opS g fs) := pe_weak (pe_callTy hc hgl hm hv ha hn hdb he hpl) fun σ H Q z => op_T hg z
end

/-! ### constants, names -/
def eC (d : D) : SE := fun S => some (.im d, S)
/-- the slot's value; an own object is frozen -/
def eVar (i : Nat) : SE := fun S => match S[i]? with
  | some (.im d) => some (.im d, S)
  | some (.ow o) => match o.toD with
    | some d => some (.im d, S.set i (.im d))
    | none => none
  | _ => none
/-- the slot as a place -/
def ePl (i : Nat) : SE := fun S => match S[i]? with
  | some (.im _) => some (.pl i, S)
  | some (.ow _) => some (.pl i, S)
  | some (.mu _) => some (.pl i, S)
  | _ => none
/-- the own object leaves the slot -/
def eMv (i : Nat) : SE := fun S => match S[i]? with
  | some (.im d) => some (.im d, S)
  | some (.ow o) => some (.fr o, S.set i .un)
  | _ => none
section
variable {X : Cx} {pos : Pos}
theorem t_c {w : World} {K : PySem.W.Frag} {v : V} {d : D} (hd : ∀ B, Dp K B v d) {σ : L2.St} {H : Hp} {Q : VK} (h : T w K (eC d) σ H Q) : tC v σ H Q := by
  obtain ⟨S, A, B, r, S', sr, ok, e, q⟩ := h
  cases e
  exact q v H ⟨A, B, [], Go.same sr ok, .im (hd B)⟩
theorem e_int {i j} : E X (.Constant (.int i) j pos) (eC (.int i)) := pe_weak pe_int fun _ _ _ h => t_c (fun _ => .int i) h
theorem e_bl {b j} : E X (.Constant (.bool b) j pos) (eC (.bool b)) := pe_weak pe_bl fun _ _ _ h => t_c (fun _ => .bl b) h
theorem e_non {j} : E X (.Constant .none j pos) (eC .none) := pe_weak pe_non fun _ _ _ h => t_c (fun _ => .non) h
theorem e_str {x j} : E X (.Constant (.str x) j pos) (eC (.str x)) := pe_weak pe_str fun _ _ _ h => t_c (fun _ => .str x) h
theorem mem_mid {α : Type} {a : α} {A1 As A2 : List α} (h : a ∈ A1 ++ A2) : a ∈ A1 ++ (As ++ A2) := by
  rcases List.mem_append.mp h with h | h
  · simp [h]
  · simp [h]
theorem ok_mid {A1 As A2 : List Addr} {B H : Hp} (o : Ok (A1 ++ (As ++ A2)) B H) : Ok (As ++ (A1 ++ A2)) B H := by
  have p : (A1 ++ (As ++ A2)).Perm (As ++ (A1 ++ A2)) := by
    rw [← List.append_assoc, ← List.append_assoc]
    exact List.Perm.append_right A2 List.perm_append_comm
  exact ⟨o.sub, p.nodup_iff.mp o.nd, fun a ha => o.off a (p.mem_iff.mpr ha), fun a ha => o.nt a (p.mem_iff.mpr ha)⟩
theorem step_mid {A1 As A2 : List Addr} {B H B' H' : Hp} {A' : List Addr} (s : Step (As ++ (A1 ++ A2)) B H A' B' H') : Step (A1 ++ (As ++ A2)) B H A' B' H' := by
  have p : (A1 ++ (As ++ A2)).Perm (As ++ (A1 ++ A2)) := by
    rw [← List.append_assoc, ← List.append_assoc]
    exact List.Perm.append_right A2 List.perm_append_comm
  exact ⟨fun a o h n => s.fr a o h fun z => n (p.mem_iff.mpr z), s.bx, fun a o h => (s.bn a o h).imp id fun z => z.imp id fun z => z.imp (fun z => p.mem_iff.mpr z) id, fun a ha => (s.an a ha).imp (fun z => p.mem_iff.mpr z) id⟩
theorem set_same {α : Type} : ∀ {l : List α} {i : Nat} {x : α}, l[i]? = some x → l.set i x = l
  | [], _, _, h => by simp at h
  | a :: l, 0, x, h => by simp at h; subst h; rfl
  | a :: l, i + 1, x, h => by
    rw [List.set_cons_succ, set_same (l := l) (by simpa using h)]
theorem muk_set {S : List Sl} {i : Nat} {s : Sl} (h : ∀ o, S[i]? ≠ some (.mu o)) : MuK S (S.set i s) := fun j o e => by
  by_cases ij : i = j
  · subst ij; exact absurd e (h o)
  · exact ⟨o, by rw [List.getElem?_set_ne ij]; exact e⟩
theorem t_var {w : World} {K : PySem.W.Frag} {i : Nat} {σ : L2.St} {H : Hp} {Q : VK} (h : T w K (eVar i) σ H Q) : tVar i σ H Q := by
  obtain ⟨S, A, B, r, S', sr, ok, e, q⟩ := h
  unfold eVar at e
  cases e1 : S[i]? with
  | none => rw [e1] at e; cases e
  | some s =>
    rw [e1] at e
    obtain ⟨x, A1, As, A2, eA, es, sl, f⟩ := sr.at e1
    cases sl with
    | un => cases e
    | @im v d h =>
      cases e
      exact ⟨v, es, q v H ⟨A, B, [], Go.same sr ok, .im h⟩⟩
    | mu h => cases e
    | @ow v o _ h =>
      simp only at e
      cases e2 : o.toD with
      | none => rw [e2] at e; cases e
      | some d =>
        rw [e2] at e
        cases e
        subst eA
        obtain ⟨k1, s1⟩ := step_freeze (ok_mid ok)
        refine ⟨v, es, q v H ⟨A1 ++ A2, ov B H As, [], ⟨?_, k1, step_mid s1, muk_set fun o' z => by rw [e1] at z; cases z⟩, .im (h.data (ov_same ok.sub) (fun a ha => ov_in ha) e2)⟩⟩
        have z := f (B' := ov B H As) (H' := H) (x' := some v) (s' := .im d) (As' := []) (ov_same ok.sub) (fun a _ o h => h) (.im (h.data (ov_same ok.sub) (fun a ha => ov_in ha) e2))
        rw [set_same es] at z
        exact z
theorem e_var (i : Nat) {x : Str} (hN : X.N[i]? = some x := by rfl) (hv : Vis X.env.scope x := by first | exact Or.inl rfl | exact Or.inr (Or.inl rfl) | exact Or.inr (Or.inr rfl)) (hd : (x == ("__debug__" : Str)) = false := by decide)
    (hcd : (x == ("__classdict__" : Str)) = false := by decide) : E X (.Name x pos) (eVar i) := pe_weak (pe_var hN hv hd hcd) fun _ _ _ h => t_var h
theorem t_pl {w : World} {K : PySem.W.Frag} {i : Nat} {σ : L2.St} {H : Hp} {Q : VK} (h : T w K (ePl i) σ H Q) : tVar i σ H Q := by
  obtain ⟨S, A, B, r, S', sr, ok, e, q⟩ := h
  unfold ePl at e
  cases e1 : S[i]? with
  | none => rw [e1] at e; cases e
  | some s =>
    rw [e1] at e
    obtain ⟨x, A1, As, A2, eA, es, sl, f⟩ := sr.at e1
    cases sl with
    | un => cases e
    | @im v d h => cases e; exact ⟨v, es, q v H ⟨A, B, [], Go.same sr ok, .pl es⟩⟩
    | @mu v o _ h => cases e; exact ⟨v, es, q v H ⟨A, B, [], Go.same sr ok, .pl es⟩⟩
    | @ow v o _ h => cases e; exact ⟨v, es, q v H ⟨A, B, [], Go.same sr ok, .pl es⟩⟩
theorem e_pl (i : Nat) {x : Str} (hN : X.N[i]? = some x := by rfl) (hv : Vis X.env.scope x := by first | exact Or.inl rfl | exact Or.inr (Or.inl rfl) | exact Or.inr (Or.inr rfl)) (hd : (x == ("__debug__" : Str)) = false := by decide)
    (hcd : (x == ("__classdict__" : Str)) = false := by decide) : E X (.Name x pos) (ePl i) := pe_weak (pe_var hN hv hd hcd) fun _ _ _ h => t_pl h
theorem t_mv {w : World} {K : PySem.W.Frag} {i : Nat} {σ : L2.St} {H : Hp} {Q : VK} (h : T w K (eMv i) σ H Q) : tVar i σ H Q := by
  obtain ⟨S, A, B, r, S', sr, ok, e, q⟩ := h
  unfold eMv at e
  cases e1 : S[i]? with
  | none => rw [e1] at e; cases e
  | some s =>
    rw [e1] at e
    obtain ⟨x, A1, As, A2, eA, es, sl, f⟩ := sr.at e1
    cases sl with
    | un => cases e
    | @im v d h => cases e; exact ⟨v, es, q v H ⟨A, B, [], Go.same sr ok, .im h⟩⟩
    | mu h => cases e
    | @ow v o _ h =>
      cases e
      subst eA
      refine ⟨v, es, q v H ⟨A1 ++ A2, B, As, ⟨?_, ok_mid ok, step_mid Step.refl, muk_set fun o' z => by rw [e1] at z; cases z⟩, .fr h⟩⟩
      have z := f (B' := B) (H' := H) (x' := some v) (s' := .un) (As' := []) (Same.refl B) (fun a _ o h => h) .un
      rw [set_same es] at z
      exact z
theorem e_mv (i : Nat) {x : Str} (hN : X.N[i]? = some x := by rfl) (hv : Vis X.env.scope x := by first | exact Or.inl rfl | exact Or.inr (Or.inl rfl) | exact Or.inr (Or.inr rfl)) (hd : (x == ("__debug__" : Str)) = false := by decide)
    (hcd : (x == ("__classdict__" : Str)) = false := by decide) : E X (.Name x pos) (eMv i) := pe_weak (pe_var hN hv hd hcd) fun _ _ _ h => t_mv h
end

/-! ### freezing results, displays -/
def Rs.fz : Rs → Option D
  | .im d => some d
  | .fr o => o.toD
  | .pl _ => none
def fzs : List Rs → Option (List D)
  | [] => some []
  | r :: rs => match r.fz, fzs rs with
    | some d, some ds => some (d :: ds)
    | _, _ => none
section
variable {w : World} {K : PySem.W.Frag} {σ : L2.St} {B B' H : Hp}
theorem RR.data {v : V} {r : Rs} {F : List Addr} {d : D} (e : Same B B') (f : ∀ a ∈ F, B' a = H a) (h : RR w K σ B H v r F) (ed : r.fz = some d) : Dp K B' v d := by
  cases h with
  | im h => cases ed; exact dp_mono e h
  | fr h => exact h.data e f ed
  | pl h => cases ed
theorem RRs.data (e : Same B B') : ∀ {vs : List V} {rs : List Rs} {F : List Addr} {ds : List D}, (∀ a ∈ F, B' a = H a) → RRs w K σ B H vs rs F → fzs rs = some ds → DpAll K B' vs ds
  | _, _, _, ds, _, .nil, ed => by cases ed; exact .nil
  | _, _, _, ds, f, .cons (r := r) (rs := rs) h q, ed => by
    unfold fzs at ed
    cases e1 : r.fz with
    | none => rw [e1] at ed; cases ed
    | some d =>
      rw [e1] at ed
      cases e2 : fzs rs with
      | none => rw [e2] at ed; cases ed
      | some ds' =>
        rw [e2] at ed
        cases ed
        exact .cons (h.data e (fun a ha => f a (List.mem_append_left _ ha)) e1) (RRs.data e (fun a ha => f a (List.mem_append_right _ ha)) q e2)
end
/-- size guard of new sequences -/
def szOk (n : Nat) : Bool := decide (n ≤ 1000000)
theorem szOk_line {n : Nat} (h : szOk n = true) : n ≤ sizeLine := Nat.le_trans (of_decide_eq_true h) (by decide)
theorem szOk_lt {n : Nat} (h : szOk n = true) : n < sizeLine := Nat.lt_of_le_of_lt (of_decide_eq_true h) (by decide)
def gTupD : Op := fun _ rs => match fzs rs with
  | some ds => if szOk ds.length then some (.im (.tuple ds)) else none
  | none => none
def gLstD : Op := fun _ rs => match fzs rs with
  | some ds => if szOk ds.length then some (.fr (.lst ds)) else none
  | none => none
section
variable {w : World} {K : PySem.W.Frag}
theorem op_tupD : OpOk w K (fun xs H Q => xs.length ≤ sizeLine ∧ ∀ p, H p = none → Q (.ref p) (upd H p (.tup xs))) gTupD := by
  intro σ S A B H vs rs F r Q sr x ok e q
  unfold gTupD at e
  cases e1 : fzs rs with
  | none => rw [e1] at e; cases e
  | some ds =>
    rw [e1] at e
    simp only at e
    split at e
    · rename_i hs
      cases e
      obtain ⟨k1, s1⟩ := step_freeze ok
      have dd := x.data (ov_same ok.sub) (fun a ha => ov_in ha) e1
      have sr1 : SR w K (ov B H F) H σ S A := sr.step (ov_same ok.sub) (fun a _ o h => h)
      refine ⟨by rw [dps_length dd]; exact szOk_line hs, fun p hp => ?_⟩
      obtain ⟨k2, s2⟩ := step_newB (o := .tup vs) k1 hp sr1.tracked
      refine q _ _ _ [] (.im (.tup upd_same (dps_mono s2.bx dd))) (sr1.step s2.bx (fun a ha o h => ?_)) k2 (s1.trans s2)
      rw [upd_ne (ne_of_none h hp)]; exact h
    · cases e
theorem op_lstD : OpOk w K (fun xs H Q => xs.length ≤ sizeLine ∧ ∀ p, H p = none → Q (.ref p) (upd H p (.lst xs))) gLstD := by
  intro σ S A B H vs rs F r Q sr x ok e q
  unfold gLstD at e
  cases e1 : fzs rs with
  | none => rw [e1] at e; cases e
  | some ds =>
    rw [e1] at e
    simp only at e
    split at e
    · rename_i hs
      cases e
      obtain ⟨k1, s1⟩ := step_freeze ok
      have dd := x.data (ov_same ok.sub) (fun a ha => ov_in ha) e1
      have sr1 : SR w K (ov B H F) H σ S A := sr.step (ov_same ok.sub) (fun a _ o h => h)
      refine ⟨by rw [dps_length dd]; exact szOk_line hs, fun p hp => ?_⟩
      obtain ⟨k2, s2⟩ := step_newA (o := .lst vs) k1 hp sr1.tracked
      refine q _ _ _ [p] (.fr (.lst upd_same dd)) (sr1.step (Same.refl _) (fun a ha o h => ?_)) k2 (s1.trans s2)
      rw [upd_ne (ne_of_none h hp)]; exact h
    · cases e
end
section
variable {X : Cx} {es : List Expr} {fs : SEs} {pos : Pos}
theorem e_tup {k : Nat} (h : Es X es fs) (he : PE X (.Tuple es k pos) (tTup (Ta X.w X.K fs)) := by exact pe_tup (by assumption)) : E X (.Tuple es k pos) (opS gTupD fs) := pe_weak he fun _ _ _ z => op_T op_tupD z
theorem e_lst (h : Es X es fs) (he : PE X (.List es pos) (tLst (Ta X.w X.K fs)) := by exact pe_lst (by assumption)) : E X (.List es pos) (opS gLstD fs) := pe_weak he fun _ _ _ z => op_T op_lstD z
end
end Fl
/-! Fl: operations by values. -/
namespace Fl
open PySem L2

/-- a value that is read: its items lie in the base -/
inductive Vw (K : PySem.W.Frag) (B H : Hp) : V → D → Prop
  | non : Vw K B H .non .none
  | bl (b : Bool) : Vw K B H (.bl b) (.bool b)
  | int (i : Int) : Vw K B H (.int i) (.int i)
  | str (s : Str) : Vw K B H (.str s) (.str s)
  | lst {a : Addr} {vs : List V} {ds : List D} : SqL K H a vs → DpAll K B vs ds → Vw K B H (.ref a) (.list ds)
  | tup {a : Addr} {vs : List V} {ds : List D} : B a = some (.tup vs) → DpAll K B vs ds → Vw K B H (.ref a) (.tuple ds)
inductive Vws (K : PySem.W.Frag) (B H : Hp) : List V → List D → Prop
  | nil : Vws K B H [] []
  | cons {v : V} {d : D} {vs : List V} {ds : List D} : Vw K B H v d → Vws K B H vs ds → Vws K B H (v :: vs) (d :: ds)
theorem Vw.of {K : PySem.W.Frag} {B H : Hp} {v : V} {d : D} (e : Same B H) (h : Dp K B v d) : Vw K B H v d := by
  cases h with
  | non => exact .non
  | bl b => exact .bl b
  | int i => exact .int i
  | str s => exact .str s
  | lst h r => exact .lst (sql_mono e h) r
  | tup h r => exact .tup h r
theorem Vw.dp {K : PySem.W.Frag} {B H : Hp} {v : V} {d : D} (e : Same B H) (h : Vw K B H v d) : L2.Dp K H v d := by
  cases h with
  | non => exact .non
  | bl b => exact .bl b
  | int i => exact .int i
  | str s => exact .str s
  | lst h r => exact .lst h (dps_mono e r).l2
  | tup h r => exact .tup (sqt_mono e h) (dps_mono e r).l2
/-- what an own object is when it is read in place -/
def O.view : O → Option D
  | .lst l => some (.list l)
  | _ => none
def vw (S : List Sl) : Rs → Option D
  | .im d => some d
  | .fr o => o.view
  | .pl i => match S[i]? with
    | some (.im d) => some d
    | some (.ow o) => o.view
    | some (.mu o) => o.view
    | _ => none
def vws (S : List Sl) : List Rs → Option (List D)
  | [] => some []
  | r :: rs => match vw S r, vws S rs with
    | some d, some ds => some (d :: ds)
    | _, _ => none
section
variable {w : World} {K : PySem.W.Frag} {σ : L2.St} {S : List Sl} {A : List Addr} {B H : Hp}
theorem OwnR.view {v : V} {o : O} {As : List Addr} {d : D} (h : OwnR w K B H v o As) (e : o.view = some d) : Vw K B H v d := by
  cases h with
  | lst h r => cases e; exact .lst (.inl (.inl h)) r
  | dct h r => cases e
  | set h r n => cases e
  | rows h r => cases e
  | dctT h r => cases e
theorem vw_ok {v : V} {r : Rs} {F : List Addr} {d : D} (sr : SR w K B H σ S A) (x : RR w K σ B H v r F) (e : Same B H) (h : vw S r = some d) : Vw K B H v d := by
  cases x with
  | im x => cases h; exact .of e x
  | fr x => exact x.view h
  | pl x =>
    rename_i i
    simp only [vw] at h
    cases e1 : S[i]? with
    | none => rw [e1] at h; cases h
    | some s =>
      rw [e1] at h
      obtain ⟨y, A1, As, A2, eA, es, sl, f⟩ := sr.at e1
      rw [x] at es
      cases es
      cases sl with
      | un => cases h
      | im z => cases h; exact .of e z
      | ow z => exact z.view h
      | mu z => exact z.view h
theorem vws_ok (sr : SR w K B H σ S A) (e : Same B H) : ∀ {vs : List V} {rs : List Rs} {F : List Addr} {ds : List D}, RRs w K σ B H vs rs F → vws S rs = some ds → Vws K B H vs ds
  | _, _, _, ds, .nil, h => by cases h; exact .nil
  | _, _, _, ds, .cons (r := r) (rs := rs) x y, h => by
    unfold vws at h
    cases e1 : vw S r with
    | none => rw [e1] at h; cases h
    | some d =>
      rw [e1] at h
      cases e2 : vws S rs with
      | none => rw [e2] at h; cases h
      | some ds' =>
        rw [e2] at h
        cases h
        exact .cons (vw_ok sr x e e1) (vws_ok sr e y e2)
end
/-- what an operation gives: a value, a new list, a new tuple -/
inductive Res where
  | d (x : D)
  | l (ds : List D)
def Res.rs : Res → Rs
  | .d x => .im x
  | .l ds => .fr (.lst ds)
/-- the wishes of such an operation's rule -/
structure RPost (K : PySem.W.Frag) (B H : Hp) (Q : VK) (res : Res) : Prop where
  val : ∀ x v, res = .d x → Dp K B v x → Q v H
  tup : ∀ ds p vs, res = .d (.tuple ds) → H p = none → DpAll K B vs ds → Q (.ref p) (upd H p (.tup vs))
  lst : ∀ ds p vs, res = .l ds → H p = none → DpAll K B vs ds → Q (.ref p) (upd H p (.lst vs))
def gOp (h : List D → Option Res) : Op := fun S rs => match vws S rs with
  | some ds => match h ds with
    | some r => some r.rs
    | none => none
  | none => none
theorem gOp_ok {w : World} {K : PySem.W.Frag} {R : List V → Hp → VK → Prop} {h : List D → Option Res} (hr : ∀ (B H : Hp) (vs : List V) (ds : List D) (res : Res) (Q : VK), Same B H → Vws K B H vs ds → h ds = some res → RPost K B H Q res → R vs H Q) :
    OpOk w K R (gOp h) := by
  intro σ S A B H vs rs F r Q sr x ok e q
  unfold gOp at e
  cases e1 : vws S rs with
  | none => rw [e1] at e; cases e
  | some ds =>
    rw [e1] at e
    simp only at e
    cases e2 : h ds with
    | none => rw [e2] at e; cases e
    | some res =>
      rw [e2] at e
      cases e
      have k0 := ok.right
      have s0 : Step (F ++ A) B H A B H := Step.refl.sub fun a ha => List.mem_append_right _ ha
      refine hr B H vs ds res Q ok.sub (vws_ok sr ok.sub x e1) e2 ⟨?_, ?_, ?_⟩
      · intro x v ee dd
        subst ee
        exact q v H B [] (.im dd) sr k0 s0
      · intro ds p vs ee hp dd
        subst ee
        obtain ⟨k2, s2⟩ := step_newB (o := .tup vs) k0 hp sr.tracked
        refine q _ _ _ [] (.im (.tup upd_same (dps_mono s2.bx dd))) (sr.step s2.bx fun a ha o h => ?_) k2 (s0.trans s2)
        rw [upd_ne (ne_of_none h hp)]; exact h
      · intro ds p vs ee hp dd
        subst ee
        obtain ⟨k2, s2⟩ := step_newA (o := .lst vs) k0 hp sr.tracked
        refine q _ _ _ [p] (.fr (.lst upd_same dd)) (sr.step (Same.refl _) fun a ha o h => ?_) k2 (s0.trans s2)
        rw [upd_ne (ne_of_none h hp)]; exact h
theorem OpOk.or {w : World} {K : PySem.W.Frag} {R R' : List V → Hp → VK → Prop} {g g' : Op} (a : OpOk w K R g) (b : OpOk w K R' g') : OpOk w K (fun vs H Q => R vs H Q ∨ R' vs H Q) (fun S rs => match g S rs with | some r => some r | none => g' S rs) := by
  intro σ S A B H vs rs F r Q sr x ok e q
  simp only at e
  cases e1 : g S rs with
  | some r' =>
    rw [e1] at e
    cases e
    exact .inl (a σ S A B H vs rs F r Q sr x ok e1 q)
  | none =>
    rw [e1] at e
    exact .inr (b σ S A B H vs rs F r Q sr x ok e q)
theorem OpOk.imp {w : World} {K : PySem.W.Frag} {R R' : List V → Hp → VK → Prop} {g : Op} (a : OpOk w K R g) (h : ∀ vs H Q, R vs H Q → R' vs H Q) : OpOk w K R' g := fun σ S A B H vs rs F r Q sr x ok e q => h _ _ _ (a σ S A B H vs rs F r Q sr x ok e q)

/-! ### arithmetic -/
def mulOk (i j : Int) : Bool := Nat.ble i.natAbs 18446744073709551615 || (Nat.ble j.natAbs 18446744073709551615 || Nat.ble (i.natAbs.log2 + j.natAbs.log2) 999999)
theorem mulOk_iff {i j : Int} : mulOk i j = true ↔ (-(2 ^ 64) < i ∧ i < 2 ^ 64) ∨ (-(2 ^ 64) < j ∧ j < 2 ^ 64) ∨ (i.natAbs.log2 + j.natAbs.log2 < 1000000) := by
  unfold mulOk
  rw [Bool.or_eq_true, Bool.or_eq_true, Nat.ble_eq, Nat.ble_eq, Nat.ble_eq]
  omega
def divOk (j : Int) : Bool := decide (j ≠ 0 ∧ j.natAbs.log2 < 9000)
def powOk (i j : Int) : Bool := decide (0 ≤ j ∧ j ≤ 1000000 ∧ i.natAbs < 2 ^ 64)
def hAdd : List D → Option Res
  | [.int i, .int j] => some (.d (.int (i + j)))
  | [.tuple a, .tuple b] => if szOk (a.length + b.length) then some (.d (.tuple (a ++ b))) else none
  | [.str a, .str b] => if szOk (a.length + b.length) then some (.d (.str (a ++ b))) else none
  | [.list a, .list b] => if szOk (a.length + b.length) then some (.l (a ++ b)) else none
  | _ => none
def hSub : List D → Option Res
  | [.int i, .int j] => some (.d (.int (i - j)))
  | _ => none
def hMul : List D → Option Res
  | [.int i, .int j] => if mulOk i j then some (.d (.int (i * j))) else none
  | _ => none
def hDiv : List D → Option Res
  | [.int i, .int j] => if divOk j then some (.d (.int (i.fdiv j))) else none
  | _ => none
def hMod : List D → Option Res
  | [.int i, .int j] => if decide (j ≠ 0) then some (.d (.int (i.fmod j))) else none
  | _ => none
def hPow : List D → Option Res
  | [.int i, .int j] => if powOk i j then some (.d (.int (i ^ j.toNat))) else none
  | _ => none
def hNeg : List D → Option Res
  | [.int i] => some (.d (.int (-i)))
  | _ => none
section
variable {X : Cx}
theorem vws2 {K : PySem.W.Frag} {B H : Hp} {vs : List V} {a b : D} (h : Vws K B H vs [a, b]) : ∃ x y, vs = [x, y] ∧ Vw K B H x a ∧ Vw K B H y b := by
  cases h with
  | cons h1 h =>
    cases h with
    | cons h2 h =>
      cases h
      exact ⟨_, _, rfl, h1, h2⟩
theorem vws1 {K : PySem.W.Frag} {B H : Hp} {vs : List V} {a : D} (h : Vws K B H vs [a]) : ∃ x, vs = [x] ∧ Vw K B H x a := by
  cases h with
  | cons h1 h =>
    cases h
    exact ⟨_, rfl, h1⟩
/-- // by any divisor but 0, below 2 ^ 9000 -/
theorem op_fdivX : OpR X (binaryOp .FloorDiv) (rI (fun _ j => j ≠ 0 ∧ j.natAbs.log2 < 9000) fun i j => .int (i.fdiv j)) := opI fun i j _ _ _ _ _ hc q => PyProof.Rows.floordiv_int hc.1 q (.inl (PyProof.noPylong_of_log2 hc.2))
/-! ### list + list, of any kind -/
theorem list_addW (l b : Addr) (items items2 : Array Value) (n n2 : Nat) (sl sl2 : Array (Option Value)) (hz : items.size + items2.size ≤ sizeLine) :
    Meets (Builtin.«list.__add__» ⟨[.ref l, .ref b], []⟩) (fun _ R s => (s.heap.get? l = some { cls := .type "list", dict := none, data := .seq items n, slots := sl } ∧ s.heap.get? b = some { cls := .type "list", dict := none, data := .seq items2 n2, slots := sl2 }) ∧
      R (.ok (.ret (Value.ref s.heap.objs.size))) { s with heap := s.heap.push { cls := Value.type "list", data := Data.seq (items ++ items2) }, toks := s.toks }) :=
  .of_wp fun prog w A R s h => by
    obtain ⟨hp, g, d, tk, os⟩ := s
    obtain ⟨⟨hl, hb⟩, h⟩ := h
    have f3 := AutoSeq1.sub_list_list
    wp_walk using AutoSeq1.wpAny_loadPart' hl, AutoSeq1.wpAny_loadPart' hb
    exact ⟨_, rfl, h⟩
def rCatL (K : PySem.W.Frag) : L2.R2 := fun x y H Q => ∃ l b xs zs, x = .ref l ∧ y = .ref b ∧ SqL K H l xs ∧ SqL K H b zs ∧ xs.length + zs.length ≤ sizeLine ∧ ∀ p, H p = none → Q (.ref p) (upd H p (.lst (xs ++ zs)))
theorem op_catL {X : Cx} : OpR X (binaryOp .Add) (rCatL X.K) := by
  intro pins s σ H x y v u Q I rx ry h
  obtain ⟨l, b, xs, zs, rfl, rfl, hH, hB, hz, q⟩ := h
  cases rx
  cases ry
  obtain ⟨its, r, ⟨⟨cls, dd, data, sl⟩, n, ho, hc, hd, hs⟩, z1⟩ := I.list hH
  obtain ⟨its2, r2, ⟨⟨cls2, dd2, data2, sl2⟩, n2, ho2, hc2, hd2, hs2⟩, z2⟩ := I.list hB
  simp only at hc hd hs hc2 hd2 hs2
  subst hc hd hs hc2 hd2 hs2
  have hsz : its.toArray.size + its2.toArray.size ≤ sizeLine := by
    rw [List.size_toArray, List.size_toArray, ← r.length, ← r2.length]; exact hz
  refine concat_meets ⟨_, ho, rfl⟩ ⟨_, ho2, rfl⟩ noFill_list_add seq_list_add PySem.F.slot_list_add PySem.F.entry_list_add (PySem.F.args_list_add_2 _ _)
    (list_addW l b its.toArray its2.toArray n n2 sl sl2 hsz) ⟨⟨ho, ho2⟩, ?_⟩
  have ea : its.toArray ++ its2.toArray = (its ++ its2).toArray := by simp
  rw [ea]
  exact ⟨.ref _, _, I.lnew (t' := s.toks) (r.append r2) (by rw [List.length_append]; exact hz), rfl, q _ I.fresh⟩
def rAddX (K : PySem.W.Frag) : L2.R2 := fun x y H Q => ((rI0 (fun i j => .int (i + j)) x y H Q ∨ rCatA K x y H Q) ∨ (∃ i j, x = .str i ∧ y = .str j ∧ i.length + j.length ≤ sizeLine ∧ Q (.str (i ++ j)) H)) ∨ rCatL K x y H Q
theorem op_addX : OpR X (binaryOp .Add) (rAddX X.K) := OpR.or (OpR.or (OpR.or op_add op_catA) op_add_str) op_catL
theorem ok_add {w : World} {K : PySem.W.Frag} : OpOk w K (RV2 (rAddX K)) (gOp hAdd) := gOp_ok fun B H vs ds res Q sb v e p => by
  unfold hAdd at e
  split at e
  · cases e
    obtain ⟨x, y, rfl, vx, vy⟩ := vws2 v
    cases vx; cases vy
    exact ⟨_, _, rfl, .inl (.inl (.inl ⟨_, _, rfl, rfl, p.val _ _ rfl (.int _)⟩))⟩
  · split at e
    · rename_i hs
      cases e
      obtain ⟨x, y, rfl, vx, vy⟩ := vws2 v
      cases vx with
      | @tup a vs _ h r =>
        cases vy with
        | @tup b us _ h2 r2 =>
          refine ⟨_, _, rfl, .inl (.inl (.inr ⟨a, b, vs, us, rfl, rfl, sqt_mono sb h, sqt_mono sb h2, ?_, fun z => ?_, fun _ z => ?_, fun _ _ q hq => ?_⟩))⟩
          · rw [dps_length r, dps_length r2]; exact szOk_line hs
          · subst z
            cases r
            exact p.val _ _ rfl (Dp.tup h2 r2)
          · subst z
            cases r2
            exact p.val _ _ rfl (Dp.tup h (by rw [List.append_nil]; exact r))
          · exact p.tup _ _ _ rfl hq (dps_append r r2)
    · cases e
  · split at e
    · rename_i hs
      cases e
      obtain ⟨x, y, rfl, vx, vy⟩ := vws2 v
      cases vx; cases vy
      exact ⟨_, _, rfl, .inl (.inr ⟨_, _, rfl, rfl, szOk_line hs, p.val _ _ rfl (.str _)⟩)⟩
    · cases e
  · split at e
    · rename_i hs
      cases e
      obtain ⟨x, y, rfl, vx, vy⟩ := vws2 v
      cases vx with
      | @lst a vs _ h r =>
        cases vy with
        | @lst b us _ h2 r2 =>
          refine ⟨_, _, rfl, .inr ⟨a, b, vs, us, rfl, rfl, h, h2, ?_, fun q hq => p.lst _ _ _ rfl hq (dps_append r r2)⟩⟩
          rw [dps_length r, dps_length r2]; exact szOk_line hs
    · cases e
  · cases e
theorem ok_int2 {w : World} {K : PySem.W.Frag} {C : Int → Int → Prop} {g : Int → Int → Int} {h : List D → Option Res} (hh : ∀ ds r, h ds = some r → ∃ i j, ds = [.int i, .int j] ∧ C i j ∧ r = .d (.int (g i j))) : OpOk w K (RV2 (rI C fun i j => .int (g i j))) (gOp h) := gOp_ok fun B H vs ds res Q sb v e p => by
  obtain ⟨i, j, rfl, hc, rfl⟩ := hh ds res e
  obtain ⟨x, y, rfl, vx, vy⟩ := vws2 v
  cases vx; cases vy
  exact ⟨_, _, rfl, i, j, rfl, rfl, hc, p.val _ _ rfl (.int _)⟩
theorem ok_sub {w : World} {K : PySem.W.Frag} : OpOk w K (RV2 (rI0 fun i j => .int (i - j))) (gOp hSub) := gOp_ok fun B H vs ds res Q sb v e p => by
  unfold hSub at e
  split at e
  · cases e
    obtain ⟨x, y, rfl, vx, vy⟩ := vws2 v
    cases vx; cases vy
    exact ⟨_, _, rfl, _, _, rfl, rfl, p.val _ _ rfl (.int _)⟩
  · cases e
def rMulX : L2.R2 := fun x y H Q => rI CMul (fun i j => .int (i * j)) x y H Q ∨ rI CMulW (fun i j => .int (i * j)) x y H Q
theorem op_mulX : OpR X (binaryOp .Mult) rMulX := OpR.or op_mul op_mulW
theorem ok_mul {w : World} {K : PySem.W.Frag} : OpOk w K (RV2 rMulX) (gOp hMul) := gOp_ok fun B H vs ds res Q sb v e p => by
  unfold hMul at e
  split at e
  · split at e
    · rename_i hm
      cases e
      obtain ⟨x, y, rfl, vx, vy⟩ := vws2 v
      cases vx; cases vy
      rcases mulOk_iff.mp hm with h | h | h
      · exact ⟨_, _, rfl, .inl ⟨_, _, rfl, rfl, .inl h, p.val _ _ rfl (.int _)⟩⟩
      · exact ⟨_, _, rfl, .inl ⟨_, _, rfl, rfl, .inr h, p.val _ _ rfl (.int _)⟩⟩
      · exact ⟨_, _, rfl, .inr ⟨_, _, rfl, rfl, h, p.val _ _ rfl (.int _)⟩⟩
    · cases e
  · cases e
theorem ok_div {w : World} {K : PySem.W.Frag} : OpOk w K (RV2 (rI (fun _ j => j ≠ 0 ∧ j.natAbs.log2 < 9000) fun i j => .int (i.fdiv j))) (gOp hDiv) := ok_int2 fun ds r e => by
  unfold hDiv at e
  split at e
  · split at e
    · rename_i hm
      cases e
      exact ⟨_, _, rfl, of_decide_eq_true hm, rfl⟩
    · cases e
  · cases e
theorem ok_mod {w : World} {K : PySem.W.Frag} : OpOk w K (RV2 (rI (fun _ j => j ≠ 0) fun i j => .int (i.fmod j))) (gOp hMod) := ok_int2 fun ds r e => by
  unfold hMod at e
  split at e
  · split at e
    · rename_i hm
      cases e
      exact ⟨_, _, rfl, of_decide_eq_true hm, rfl⟩
    · cases e
  · cases e
theorem ok_pow {w : World} {K : PySem.W.Frag} : OpOk w K (RV2 (rI CPow fun i j => .int (i ^ j.toNat))) (gOp hPow) := ok_int2 fun ds r e => by
  unfold hPow at e
  split at e
  · split at e
    · rename_i hm
      cases e
      exact ⟨_, _, rfl, (show 0 ≤ _ ∧ _ ∧ _ from of_decide_eq_true hm), rfl⟩
    · cases e
  · cases e
theorem ok_neg {w : World} {K : PySem.W.Frag} : OpOk w K (RV1 (rU fun i => .int (-i))) (gOp hNeg) := gOp_ok fun B H vs ds res Q sb v e p => by
  unfold hNeg at e
  split at e
  · cases e
    obtain ⟨x, rfl, vx⟩ := vws1 v
    cases vx
    exact ⟨_, rfl, _, rfl, p.val _ _ rfl (.int _)⟩
  · cases e
/-! ### list + list: both own or fresh -/
def ownL (S : List Sl) : Rs → Option (List D)
  | .fr (.lst l) => some l
  | .pl i => match S[i]? with
    | some (.ow (.lst l)) => some l
    | some (.mu (.lst l)) => some l
    | _ => none
  | _ => none
theorem ownL_ok {w : World} {K : PySem.W.Frag} {σ : L2.St} {S : List Sl} {A : List Addr} {B H : Hp} {v : V} {r : Rs} {F : List Addr} {l : List D} (sr : SR w K B H σ S A) (x : RR w K σ B H v r F) (h : ownL S r = some l) : ∃ a vs, v = .ref a ∧ H a = some (.lst vs) ∧ DpAll K B vs l := by
  cases x with
  | im x => cases h
  | fr x =>
    cases x with
    | lst h1 r1 => cases h; exact ⟨_, _, rfl, h1, r1⟩
    | dct h1 r1 => cases h
    | set h1 r1 n => cases h
    | rows h1 r1 => cases h
    | dctT h1 r1 => cases h
  | pl x =>
    rename_i i
    simp only [ownL] at h
    cases e1 : S[i]? with
    | none => rw [e1] at h; cases h
    | some s =>
      rw [e1] at h
      obtain ⟨y, A1, As, A2, eA, es, sl, f⟩ := sr.at e1
      rw [x] at es
      cases es
      cases sl with
      | un => cases h
      | im z => cases h
      | ow z =>
        cases z with
        | lst h1 r1 => cases h; exact ⟨_, _, rfl, h1, r1⟩
        | dct h1 r1 => cases h
        | set h1 r1 n => cases h
        | rows h1 r1 => cases h
        | dctT h1 r1 => cases h
      | mu z =>
        cases z with
        | lst h1 r1 => cases h; exact ⟨_, _, rfl, h1, r1⟩
        | dct h1 r1 => cases h
        | set h1 r1 n => cases h
        | rows h1 r1 => cases h
        | dctT h1 r1 => cases h
abbrev gAdd : Op := gOp hAdd
/-! ### int, list, tuple times an int -/
def repOk (n : Nat) (k : Int) : Bool := Nat.ble n 1000 && Nat.ble k.natAbs 1000
theorem repOk_iff {n : Nat} {k : Int} : repOk n k = true ↔ n ≤ 1000 ∧ -1000 ≤ k ∧ k ≤ 1000 := by
  unfold repOk
  rw [Bool.and_eq_true, Nat.ble_eq, Nat.ble_eq]
  omega
def gRep : Op := fun S rs => match rs with
  | [a, b] => match ownL S a, vw S b with
    | some x, some (.int k) => if repOk x.length k then some (.fr (.lst (List.replicate k.toNat x).flatten)) else none
    | _, _ => none
  | _ => none
theorem dps_rep {K : PySem.W.Frag} {B : Hp} {vs : List V} {ds : List D} (r : DpAll K B vs ds) : ∀ m : Nat, DpAll K B (List.replicate m vs).flatten (List.replicate m ds).flatten
  | 0 => .nil
  | m + 1 => by
    rw [List.replicate_succ, List.replicate_succ, List.flatten_cons, List.flatten_cons]
    exact dps_append r (dps_rep r m)
theorem ok_rep {w : World} {K : PySem.W.Frag} : OpOk w K (RV2 rRep) gRep := by
  intro σ S A B H vs rs F r Q sr x ok e q
  unfold gRep at e
  split at e
  · rename_i a b
    cases x with
    | cons xa x =>
      cases x with
      | cons xb x =>
        cases x
        cases e1 : ownL S a with
        | none => rw [e1] at e; cases e
        | some la =>
          rw [e1] at e
          cases e2 : vw S b with
          | none => rw [e2] at e; cases e
          | some d =>
            rw [e2] at e
            cases d with
            | int k =>
              simp only at e
              split at e
              · rename_i hs
                cases e
                obtain ⟨a, vs, rfl, ha, ra⟩ := ownL_ok sr xa e1
                have vb := vw_ok sr xb ok.sub e2
                cases vb
                have hk := repOk_iff.mp hs
                have hlen := dps_length ra
                refine ⟨_, _, rfl, a, k, vs, rfl, rfl, ha, by omega, by omega, ?_, fun p hp => ?_⟩
                · have a1 : vs.length * k.toNat ≤ 1000 * 1000 := Nat.mul_le_mul (by omega) (by omega)
                  exact Nat.le_trans a1 (by decide)
                · have k0 := ok.right
                  obtain ⟨k2, s2⟩ := step_newA (o := .lst (List.replicate k.toNat vs).flatten) k0 hp sr.tracked
                  refine q _ _ _ [p] (.fr (.lst upd_same (dps_rep ra _))) (sr.step (Same.refl _) fun a ha o h => ?_) k2 ((Step.refl.sub fun a ha => List.mem_append_right _ ha).trans s2)
                  rw [upd_ne (ne_of_none h hp)]; exact h
              · cases e
            | _ => cases e
  · cases e
def hRepT : List D → Option Res
  | [.tuple x, .int k] => if decide (x ≠ [] ∧ 2 ≤ k ∧ k ≤ 1000 ∧ x.length ≤ 1000) then some (.d (.tuple (List.replicate k.toNat x).flatten)) else none
  | _ => none
theorem ok_repT {w : World} {K : PySem.W.Frag} : OpOk w K (RV2 (rRepT K)) (gOp hRepT) := gOp_ok fun B H vs ds res Q sb v e p => by
  unfold hRepT at e
  split at e
  · split at e
    · rename_i hs
      cases e
      obtain ⟨x, y, rfl, vx, vy⟩ := vws2 v
      cases vy
      cases vx with
      | tup h r =>
        have hk := of_decide_eq_true hs
        have hlen := dps_length r
        refine ⟨_, _, rfl, _, _, _, rfl, rfl, sqt_mono sb h, fun z => ?_, hk.2.1, hk.2.2.1, by rw [hlen]; exact hk.2.2.2, fun q hq => p.tup _ _ _ rfl hq (dps_rep r _)⟩
        subst z
        cases r
        exact hk.1 rfl
    · cases e
  · cases e
def gMul : Op := fun S rs => match gOp hMul S rs with
  | some r => some r
  | none => match gRep S rs with
    | some r => some r
    | none => gOp hRepT S rs
def rMulY (K : PySem.W.Frag) : L2.R2 := fun x y H Q => rMulX x y H Q ∨ (rRep x y H Q ∨ rRepT K x y H Q)
theorem op_mulY : OpR X (binaryOp .Mult) (rMulY X.K) := OpR.or op_mulX (OpR.or op_rep op_repT)
theorem ok_mulY {w : World} {K : PySem.W.Frag} : OpOk w K (RV2 (rMulY K)) gMul := (OpOk.or ok_mul (OpOk.or ok_rep ok_repT)).imp fun vs H Q h => by
  rcases h with ⟨x, y, e, h⟩ | ⟨x, y, e, h⟩ | ⟨x, y, e, h⟩
  · exact ⟨x, y, e, .inl h⟩
  · exact ⟨x, y, e, .inr (.inl h)⟩
  · exact ⟨x, y, e, .inr (.inr h)⟩
/-! ### comparisons -/
def sc (d : D) : Bool := match d with
  | .none => true
  | .bool _ => true
  | .int _ => true
  | .str _ => true
  | _ => false
def hEq : List D → Option Res
  | [a, b] => if SeqAt.shaped a && SeqAt.shaped b then some (.d (.bool (PyData.eqv a b))) else none
  | _ => none
def hNe : List D → Option Res
  | [a, b] => if SeqAt.shaped a && SeqAt.shaped b then some (.d (.bool (!PyData.eqv a b))) else none
  | _ => none
theorem ok_eq {w : World} {K : PySem.W.Frag} : OpOk w K (RV2 (rEqD K)) (gOp hEq) := gOp_ok fun B H vs ds res Q sb v e p => by
  unfold hEq at e
  split at e
  · split at e
    · rename_i hm
      cases e
      obtain ⟨x, y, rfl, vx, vy⟩ := vws2 v
      rw [Bool.and_eq_true] at hm
      exact ⟨_, _, rfl, _, _, vx.dp sb, vy.dp sb, hm.1, hm.2, p.val _ _ rfl (.bl _)⟩
    · cases e
  · cases e
theorem ok_ne {w : World} {K : PySem.W.Frag} : OpOk w K (RV2 (rNeD K)) (gOp hNe) := gOp_ok fun B H vs ds res Q sb v e p => by
  unfold hNe at e
  split at e
  · split at e
    · rename_i hm
      cases e
      obtain ⟨x, y, rfl, vx, vy⟩ := vws2 v
      rw [Bool.and_eq_true] at hm
      exact ⟨_, _, rfl, _, _, vx.dp sb, vy.dp sb, hm.1, hm.2, p.val _ _ rfl (.bl _)⟩
    · cases e
  · cases e
def hCmp (g : Int → Int → Bool) : List D → Option Res
  | [.int i, .int j] => some (.d (.bool (g i j)))
  | _ => none
theorem ok_cmp {w : World} {K : PySem.W.Frag} {g : Int → Int → Bool} : OpOk w K (RV2 (rI0 fun i j => .bl (g i j))) (gOp (hCmp g)) := gOp_ok fun B H vs ds res Q sb v e p => by
  unfold hCmp at e
  split at e
  · cases e
    obtain ⟨x, y, rfl, vx, vy⟩ := vws2 v
    cases vx; cases vy
    exact ⟨_, _, rfl, _, _, rfl, rfl, p.val _ _ rfl (.bl _)⟩
  · cases e
def hIsN : List D → Option Res
  | [.none, .none] => some (.d (.bool true))
  | [_, .none] => some (.d (.bool false))
  | _ => none
def hNotN : List D → Option Res
  | [.none, .none] => some (.d (.bool false))
  | [_, .none] => some (.d (.bool true))
  | _ => none
theorem ok_isN {w : World} {K : PySem.W.Frag} : OpOk w K (RV2 (fun x y H Q => y = .non ∧ Q (.bl (decide (x = .non))) H)) (gOp hIsN) := gOp_ok fun B H vs ds res Q sb v e p => by
  unfold hIsN at e
  split at e
  · cases e
    obtain ⟨x, y, rfl, vx, vy⟩ := vws2 v
    cases vx; cases vy
    exact ⟨_, _, rfl, rfl, p.val _ _ rfl (.bl _)⟩
  · rename_i d hd
    cases e
    obtain ⟨x, y, rfl, vx, vy⟩ := vws2 v
    cases vy
    refine ⟨_, _, rfl, rfl, p.val _ _ rfl ?_⟩
    cases vx <;> first | exact absurd rfl hd | exact .bl _
  · cases e
theorem ok_notN {w : World} {K : PySem.W.Frag} : OpOk w K (RV2 (fun x y H Q => y = .non ∧ Q (.bl (!decide (x = .non))) H)) (gOp hNotN) := gOp_ok fun B H vs ds res Q sb v e p => by
  unfold hNotN at e
  split at e
  · cases e
    obtain ⟨x, y, rfl, vx, vy⟩ := vws2 v
    cases vx; cases vy
    exact ⟨_, _, rfl, rfl, p.val _ _ rfl (.bl _)⟩
  · rename_i d hd
    cases e
    obtain ⟨x, y, rfl, vx, vy⟩ := vws2 v
    cases vy
    refine ⟨_, _, rfl, rfl, p.val _ _ rfl ?_⟩
    cases vx <;> first | exact absurd rfl hd | exact .bl _
  · cases e
/-! ### items, slices -/
def hIx : List D → Option Res
  | [.list l, .int i] => match atI l i with
    | some d => some (.d d)
    | none => none
  | [.tuple l, .int i] => match atI l i with
    | some d => some (.d d)
    | none => none
  | [.str z, .int i] => if szOk z.length then match atI z.cps.toList i with
    | some c => some (.d (.str ⟨#[c]⟩))
    | none => none else none
  | _ => none
theorem dps_atI {K : PySem.W.Frag} {B : Hp} {vs : List V} {ds : List D} {i : Int} {d : D} (r : DpAll K B vs ds) (h : atI ds i = some d) : ∃ v, atI vs i = some v ∧ Dp K B v d := by
  unfold atI at h ⊢
  rw [dps_length r]
  cases e : ixN ds.length i with
  | none => rw [e] at h; cases h
  | some j =>
    rw [e] at h
    exact dps_get r h
theorem ok_ix {w : World} {K : PySem.W.Frag} : OpOk w K (RV2 (rIx K)) (gOp hIx) := gOp_ok fun B H vs ds res Q sb v e p => by
  unfold hIx at e
  split at e
  · obtain ⟨x, y, rfl, vx, vy⟩ := vws2 v
    split at e
    · rename_i d ed
      cases e
      cases vy
      cases vx with
      | lst h r =>
        obtain ⟨z, h1, h2⟩ := dps_atI r ed
        exact ⟨_, _, rfl, .inl ⟨_, _, _, z, rfl, rfl, h, h1, p.val _ _ rfl h2⟩⟩
    · cases e
  · obtain ⟨x, y, rfl, vx, vy⟩ := vws2 v
    split at e
    · rename_i d ed
      cases e
      cases vy
      cases vx with
      | tup h r =>
        obtain ⟨z, h1, h2⟩ := dps_atI r ed
        exact ⟨_, _, rfl, .inr (.inl ⟨_, _, _, z, rfl, rfl, sqt_mono sb h, h1, p.val _ _ rfl h2⟩)⟩
    · cases e
  · obtain ⟨x, y, rfl, vx, vy⟩ := vws2 v
    split at e
    · rename_i hs
      split at e
      · rename_i c ec
        cases e
        cases vx; cases vy
        exact ⟨_, _, rfl, .inr (.inr ⟨_, _, c, rfl, rfl, szOk_line hs, ec, p.val _ _ rfl (.str _)⟩)⟩
      · cases e
    · cases e
  · cases e
end
end Fl
/-! Fl: built-ins, dicts, sets, tests. -/
namespace Fl
open PySem L2

/-! ### slices -/
def cutD {α : Type} (l : List α) (lo hi : Option Int) : List α := (l.drop (HT.sIx l.length 0 lo)).take (HT.sIx l.length l.length hi - HT.sIx l.length 0 lo)
def hCut (x : D) (lo hi : Option Int) : Option Res := match x with
  | .list l => some (.l (cutD l lo hi))
  | .tuple l => some (.d (.tuple (cutD l lo hi)))
  | .str z => if szOk z.length then some (.d (.str (cutS z lo hi))) else none
  | _ => none
def rSlX (K : PySem.W.Frag) : V → Option Int → Option Int → Hp → VK → Prop := fun x lo hi H Q => rSlL K x lo hi H Q ∨ (rSlA K x lo hi H Q ∨ rSlS x lo hi H Q)
theorem sl_X {X : L2.Cx} : L2.SlR X (rSlX X.K) := sl_list.or (sl_tupA.or sl_str)
theorem dps_cut {K : PySem.W.Frag} {B : Hp} {vs : List V} {ds : List D} (r : DpAll K B vs ds) (lo hi : Option Int) : DpAll K B (cutV vs lo hi) (cutD ds lo hi) := by
  unfold cutV cutD
  rw [dps_length r]
  exact dps_take _ (dps_drop _ r)
theorem cut_ok {K : PySem.W.Frag} {B H : Hp} {x : V} {d : D} {lo hi : Option Int} {res : Res} {Q : VK} (sb : Same B H) (v : Vw K B H x d) (e : hCut d lo hi = some res) (p : RPost K B H Q res) : rSlX K x lo hi H Q := by
  unfold hCut at e
  split at e
  · cases e
    cases v with
    | lst h r => exact .inl ⟨_, _, rfl, h, fun q hq => p.lst _ _ _ rfl hq (dps_cut r lo hi)⟩
  · cases e
    cases v with
    | @tup a vs ds h r =>
      refine .inr (.inl ⟨_, _, rfl, sqt_mono sb h, fun z => ?_, fun _ q hq => p.tup _ _ _ rfl hq (dps_cut r lo hi)⟩)
      refine p.val _ _ rfl ?_
      have e : cutV vs lo hi = vs := by
        unfold cutV
        rw [z.1, z.2, List.drop_zero, Nat.sub_zero, List.take_length]
      have r2 := dps_cut r lo hi
      rw [e] at r2
      exact .tup h r2
  · split at e
    · rename_i hs
      cases e
      cases v
      exact .inr (.inr ⟨_, rfl, szOk_line hs, p.val _ _ rfl (.str _)⟩)
    · cases e
  · cases e

abbrev SO := List Sl → Option (Option Int × List Sl)
def To (w : World) (K : PySem.W.Frag) (f : SO) : TO := fun σ H Q => ∃ S A B r S', SR w K B H σ S A ∧ Ok A B H ∧ f S = some (r, S') ∧ ∀ H', TPo w K σ S A B H S' H' → Q r H'
def oN : SO := fun S => some (none, S)
def oI (g : SE) : SO := fun S => match g S with
  | some (r, S') => match vw S' r with
    | some (.int i) => some (some i, S')
    | _ => none
  | none => none
section
variable {X : Cx} {e : Expr} {g : SE}
theorem o_none : PO X none (To X.w X.K oN) := by
  refine ⟨fun pins s σ H Q I h => po_none.run pins s σ H Q I ?_⟩
  obtain ⟨S, A, B, r, S', sr, ok, e, q⟩ := h
  cases e
  exact q H ⟨A, B, Go.same sr ok⟩
theorem o_some (he : E X e g) : PO X (some e) (To X.w X.K (oI g)) := by
  refine ⟨fun pins s σ H Q I h => (po_some he).run pins s σ H Q I ?_⟩
  obtain ⟨S, A, B, r, S', sr, ok, e, q⟩ := h
  unfold oI at e
  cases e1 : g S with
  | none => rw [e1] at e; cases e
  | some p =>
    obtain ⟨r1, S1⟩ := p
    rw [e1] at e
    simp only at e
    split at e
    · rename_i i ei
      cases e
      refine ⟨S, A, B, r1, _, sr, ok, e1, fun v H1 ⟨A1, B1, F1, g1, x1⟩ => ?_⟩
      have z := vw_ok g1.sr x1 g1.ok.sub ei
      cases z
      exact ⟨i, rfl, q H1 ⟨A1, B1, g1.drop⟩⟩
    · cases e
end
def eSl (f : SE) (p q : SO) : SE := fun S => match f S with
  | some (r, S1) => match p S1 with
    | some (lo, S2) => match q S2 with
      | some (hi, S3) => match vw S3 r with
        | some d => match hCut d lo hi with
          | some res => some (res.rs, S3)
          | none => none
        | none => none
      | none => none
    | none => none
  | none => none
section
variable {w : World} {K : PySem.W.Frag} {σ : L2.St} {S S1 : List Sl} {A A1 : List Addr} {B B1 H H1 : Hp} {F : List Addr}
/-- the end of an operation at a state -/
theorem fin_res {res : Res} {S0 : List Sl} {A0 : List Addr} {B0 H0 : Hp} {Q : VK} (g : Go w K σ S0 A0 B0 H0 S A B H F) (q : ∀ v H', EPo w K σ S0 A0 B0 H0 res.rs S v H' → Q v H') : RPost K B H Q res := by
  have k0 := g.ok.right
  have s0 := g.st.sub (A'' := A) fun a ha => List.mem_append_right _ ha
  refine ⟨?_, ?_, ?_⟩
  · intro x v ee dd
    subst ee
    exact q v H ⟨A, B, [], g.drop, .im dd⟩
  · intro ds p vs ee hp dd
    subst ee
    obtain ⟨k2, s2⟩ := step_newB (o := .tup vs) k0 hp g.sr.tracked
    refine q _ _ ⟨A, _, [], ⟨g.sr.step s2.bx fun a ha o h => ?_, k2, s0.trans s2, g.mu⟩, .im (.tup upd_same (dps_mono s2.bx dd))⟩
    rw [upd_ne (ne_of_none h hp)]; exact h
  · intro ds p vs ee hp dd
    subst ee
    obtain ⟨k2, s2⟩ := step_newA (o := .lst vs) k0 hp g.sr.tracked
    refine q _ _ ⟨A, B, [p], ⟨g.sr.step (Same.refl _) fun a ha o h => ?_, k2, s0.trans s2, g.mu⟩, .fr (.lst upd_same dd)⟩
    rw [upd_ne (ne_of_none h hp)]; exact h
end
theorem e_sl {X : Cx} {a : Expr} {b c : Option Expr} {pos p2 : Pos} {f : SE} {p q : SO} (ha : E X a f) (hb : PO X b (To X.w X.K p)) (hc : PO X c (To X.w X.K q)) : E X (.Subscript a (.Slice b c none p2) pos) (eSl f p q) :=
  pe_weak (pe_slice sl_X ha hb hc) fun σ H Q z => by
    obtain ⟨S, A, B, r, S', sr, ok, e, q⟩ := z
    unfold eSl at e
    split at e
    · rename_i r1 S1 e1
      split at e
      · rename_i lo S2 e2
        split at e
        · rename_i hi S3 e3
          split at e
          · rename_i d ed
            split at e
            · rename_i res er
              cases e
              refine ⟨S, A, B, r1, S1, sr, ok, e1, fun v H1 ⟨A1, B1, F1, g1, x1⟩ => ?_⟩
              refine ⟨S1, A1, B1, lo, S2, g1.sr, g1.ok0, e2, fun H2 ⟨A2, B2, g2⟩ => ?_⟩
              obtain ⟨h2, b2, k2⟩ := g1.then_ x1.tracked g2
              have x2 := x1.step b2 k2
              refine ⟨S2, A2, B2, hi, _, g2.sr, g2.ok0, e3, fun H3 ⟨A3, B3, g3⟩ => ?_⟩
              obtain ⟨h3, b3, k3⟩ := h2.then_ (by rw [List.append_nil]; exact x2.tracked) g3
              rw [List.append_nil] at k3
              have x3 := x2.step b3 k3
              exact cut_ok h3.ok.sub (vw_ok h3.sr x3 h3.ok.sub ed) er (fin_res h3 q)
            · cases e
          · cases e
        · cases e
      · cases e
    · cases e
/-! ### built-in functions -/
def hLen : List D → Option Res
  | [.list l] => some (.d (.int l.length))
  | [.tuple l] => some (.d (.int l.length))
  | [.str z] => if szOk z.length then some (.d (.int z.length)) else none
  | _ => none
theorem ok_len {w : World} {K : PySem.W.Frag} : OpOk w K (fun xs H Q => ∃ x n, xs = [x] ∧ LenV K x H n ∧ Q (.int n) H) (gOp hLen) := gOp_ok fun B H vs ds res Q sb v e p => by
  unfold hLen at e
  split at e
  · cases e
    obtain ⟨x, rfl, vx⟩ := vws1 v
    cases vx with
    | lst h r => exact ⟨_, _, rfl, .inl ⟨_, h, (dps_length r).symm⟩, p.val _ _ rfl (.int _)⟩
  · cases e
    obtain ⟨x, rfl, vx⟩ := vws1 v
    cases vx with
    | tup h r => exact ⟨_, _, rfl, .inr ⟨_, sqt_mono sb h, (dps_length r).symm⟩, p.val _ _ rfl (.int _)⟩
  · split at e
    · rename_i hs
      cases e
      obtain ⟨x, rfl, vx⟩ := vws1 v
      cases vx
      exact ⟨_, _, rfl, ⟨szOk_line hs, rfl⟩, p.val _ _ rfl (.int _)⟩
    · cases e
  · cases e
def hInt : List D → Option Res
  | [.int i] => some (.d (.int i))
  | _ => none
theorem ok_int {w : World} {K : PySem.W.Frag} : OpOk w K (fun xs H Q => (∃ i, xs = [.int i] ∧ Q (.int i) H) ∨ ∃ k, xs = [.bl k] ∧ Q (.int (if k then 1 else 0)) H) (gOp hInt) := gOp_ok fun B H vs ds res Q sb v e p => by
  unfold hInt at e
  split at e
  · cases e
    obtain ⟨x, rfl, vx⟩ := vws1 v
    cases vx
    exact .inl ⟨_, rfl, p.val _ _ rfl (.int _)⟩
  · cases e
def hAbs : List D → Option Res
  | [.int i] => some (.d (.int (if i < 0 then -i else i)))
  | _ => none
theorem ok_abs {w : World} {K : PySem.W.Frag} : OpOk w K (fun xs H Q => ∃ i, xs = [.int i] ∧ Q (.int (if i < 0 then -i else i)) H) (gOp hAbs) := gOp_ok fun B H vs ds res Q sb v e p => by
  unfold hAbs at e
  split at e
  · cases e
    obtain ⟨x, rfl, vx⟩ := vws1 v
    cases vx
    exact ⟨_, rfl, p.val _ _ rfl (.int _)⟩
  · cases e
def hGcd : List D → Option Res
  | [.int i, .int j] => some (.d (.int ((Nat.gcd i.natAbs j.natAbs : Nat) : Int)))
  | _ => none
theorem ok_gcd {w : World} {K : PySem.W.Frag} : OpOk w K rGcd (gOp hGcd) := gOp_ok fun B H vs ds res Q sb v e p => by
  unfold hGcd at e
  split at e
  · cases e
    obtain ⟨x, y, rfl, vx, vy⟩ := vws2 v
    cases vx; cases vy
    exact ⟨_, _, rfl, p.val _ _ rfl (.int _)⟩
  · cases e
/-- the ints of a list of data -/
def toInts : List D → Option (List Int)
  | [] => some []
  | .int i :: r => match toInts r with
    | some l => some (i :: l)
    | none => none
  | _ => none
theorem toInts_eq : ∀ {ds : List D} {ns : List Int}, toInts ds = some ns → ds = ns.map PyData.int
  | [], ns, h => by cases h; rfl
  | .int i :: r, ns, h => by
    unfold toInts at h
    split at h
    · rename_i l e
      cases h
      rw [toInts_eq e]; rfl
    · cases h
theorem toInts_map : ∀ ns : List Int, toInts (ns.map PyData.int) = some ns
  | [] => rfl
  | n :: ns => by
    show (match toInts (ns.map PyData.int) with | some l => some (n :: l) | none => none) = _
    rw [toInts_map ns]
def minI : List Int → Option Int
  | [] => none
  | x :: r => some (r.foldl (fun m y => if y < m then y else m) x)
def maxI : List Int → Option Int
  | [] => none
  | x :: r => some (r.foldl (fun m y => if y > m then y else m) x)
theorem foldMin : ∀ (r : List Int) (x : Int), r.foldl (fun m y => if y < m then y else m) x ≤ x ∧ (∀ y ∈ r, r.foldl (fun m y => if y < m then y else m) x ≤ y) ∧ (r.foldl (fun m y => if y < m then y else m) x = x ∨ r.foldl (fun m y => if y < m then y else m) x ∈ r)
  | [], x => ⟨Int.le_refl _, fun _ h => by simp at h, .inl rfl⟩
  | a :: r, x => by
    obtain ⟨h1, h2, h3⟩ := foldMin r (if a < x then a else x)
    rw [List.foldl_cons]
    refine ⟨?_, fun y hy => ?_, ?_⟩
    · split at h1 <;> split <;> omega
    · rcases List.mem_cons.mp hy with e | hy
      · subst e
        split at h1 <;> split <;> omega
      · exact h2 y hy
    · rcases h3 with h3 | h3
      · by_cases q : a < x
        · rw [if_pos q] at h3 ⊢
          exact .inr (by rw [h3]; exact List.mem_cons_self)
        · rw [if_neg q] at h3 ⊢
          exact .inl h3
      · exact .inr (List.mem_cons_of_mem _ h3)
theorem foldMax : ∀ (r : List Int) (x : Int), x ≤ r.foldl (fun m y => if y > m then y else m) x ∧ (∀ y ∈ r, y ≤ r.foldl (fun m y => if y > m then y else m) x) ∧ (r.foldl (fun m y => if y > m then y else m) x = x ∨ r.foldl (fun m y => if y > m then y else m) x ∈ r)
  | [], x => ⟨Int.le_refl _, fun _ h => by simp at h, .inl rfl⟩
  | a :: r, x => by
    obtain ⟨h1, h2, h3⟩ := foldMax r (if a > x then a else x)
    rw [List.foldl_cons]
    refine ⟨?_, fun y hy => ?_, ?_⟩
    · split at h1 <;> split <;> omega
    · rcases List.mem_cons.mp hy with e | hy
      · subst e
        split at h1 <;> split <;> omega
      · exact h2 y hy
    · rcases h3 with h3 | h3
      · by_cases q : a > x
        · rw [if_pos q] at h3 ⊢
          exact .inr (by rw [h3]; exact List.mem_cons_self)
        · rw [if_neg q] at h3 ⊢
          exact .inl h3
      · exact .inr (List.mem_cons_of_mem _ h3)
theorem minI_is {ns : List Int} {m k : Int} (h : minI ns = some m) (hk : k ∈ ns) (hl : ∀ y ∈ ns, k ≤ y) : k = m := by
  cases ns with
  | nil => cases h
  | cons x r =>
    cases h
    obtain ⟨h1, h2, h3⟩ := foldMin r x
    have q : r.foldl (fun m y => if y < m then y else m) x ∈ x :: r := h3.elim (fun e => by rw [e]; exact List.mem_cons_self) (List.mem_cons_of_mem _)
    have := hl _ q
    rcases List.mem_cons.mp hk with e | hk
    · subst e; omega
    · have := h2 k hk; omega
theorem maxI_is {ns : List Int} {m k : Int} (h : maxI ns = some m) (hk : k ∈ ns) (hl : ∀ y ∈ ns, y ≤ k) : k = m := by
  cases ns with
  | nil => cases h
  | cons x r =>
    cases h
    obtain ⟨h1, h2, h3⟩ := foldMax r x
    have q : r.foldl (fun m y => if y > m then y else m) x ∈ x :: r := h3.elim (fun e => by rw [e]; exact List.mem_cons_self) (List.mem_cons_of_mem _)
    have := hl _ q
    rcases List.mem_cons.mp hk with e | hk
    · subst e; omega
    · have := h2 k hk; omega
def hMin : List D → Option Res
  | [.int i, .int j] => some (.d (.int (if j < i then j else i)))
  | [.list l] => match toInts l with
    | some ns => match minI ns with
      | some m => some (.d (.int m))
      | none => none
    | none => none
  | _ => none
def hMax : List D → Option Res
  | [.int i, .int j] => some (.d (.int (if j > i then j else i)))
  | [.list l] => match toInts l with
    | some ns => match maxI ns with
      | some m => some (.d (.int m))
      | none => none
    | none => none
  | _ => none
def rMinX (K : PySem.W.Frag) : List V → Hp → VK → Prop := fun xs H Q => (∃ i j, xs = [.int i, .int j] ∧ Q (.int (if j < i then j else i)) H) ∨ rMin K xs H Q
def rMaxX (K : PySem.W.Frag) : List V → Hp → VK → Prop := fun xs H Q => (∃ i j, xs = [.int i, .int j] ∧ Q (.int (if j > i then j else i)) H) ∨ rMax K xs H Q
theorem ok_min {w : World} {K : PySem.W.Frag} : OpOk w K (rMinX K) (gOp hMin) := gOp_ok fun B H vs ds res Q sb v e p => by
  unfold hMin at e
  split at e
  · cases e
    obtain ⟨x, y, rfl, vx, vy⟩ := vws2 v
    cases vx; cases vy
    exact .inl ⟨_, _, rfl, p.val _ _ rfl (.int _)⟩
  · obtain ⟨x, rfl, vx⟩ := vws1 v
    split at e
    · rename_i ns en
      split at e
      · rename_i m em
        cases e
        cases vx with
        | lst h r =>
          rw [toInts_eq en] at r
          rw [dps_ints_inv r] at h
          refine .inr ⟨_, ns, rfl, h, ?_, fun k hk hl => ?_⟩
          · cases ns with
            | nil => cases em
            | cons _ _ => exact Nat.succ_pos _
          · rw [minI_is em hk hl]; exact p.val _ _ rfl (.int _)
      · cases e
    · cases e
  · cases e
theorem ok_max {w : World} {K : PySem.W.Frag} : OpOk w K (rMaxX K) (gOp hMax) := gOp_ok fun B H vs ds res Q sb v e p => by
  unfold hMax at e
  split at e
  · cases e
    obtain ⟨x, y, rfl, vx, vy⟩ := vws2 v
    cases vx; cases vy
    exact .inl ⟨_, _, rfl, p.val _ _ rfl (.int _)⟩
  · obtain ⟨x, rfl, vx⟩ := vws1 v
    split at e
    · rename_i ns en
      split at e
      · rename_i m em
        cases e
        cases vx with
        | lst h r =>
          rw [toInts_eq en] at r
          rw [dps_ints_inv r] at h
          refine .inr ⟨_, ns, rfl, h, ?_, fun k hk hl => ?_⟩
          · cases ns with
            | nil => cases em
            | cons _ _ => exact Nat.succ_pos _
          · rw [maxI_is em hk hl]; exact p.val _ _ rfl (.int _)
      · cases e
    · cases e
  · cases e
def hSum : List D → Option Res
  | [.list l] => match toInts l with
    | some ns => some (.d (.int ns.sum))
    | none => none
  | _ => none
theorem ok_sum {w : World} {K : PySem.W.Frag} : OpOk w K (rSum K) (gOp hSum) := gOp_ok fun B H vs ds res Q sb v e p => by
  unfold hSum at e
  split at e
  · obtain ⟨x, rfl, vx⟩ := vws1 v
    split at e
    · rename_i ns en
      cases e
      cases vx with
      | lst h r =>
        rw [toInts_eq en] at r
        rw [dps_ints_inv r] at h
        exact ⟨_, ns, rfl, h, p.val _ _ rfl (.int _)⟩
    · cases e
  · cases e
def sortI (ns : List Int) : List Int := ns.mergeSort fun a b => decide (a ≤ b)
theorem sortI_perm (ns : List Int) : (sortI ns).Perm ns := List.mergeSort_perm ns _
theorem sortI_sorted (ns : List Int) : (sortI ns).Pairwise (· ≤ ·) := by
  have h := List.pairwise_mergeSort (le := fun (a b : Int) => decide (a ≤ b)) (fun a b c h1 h2 => by simp only [decide_eq_true_eq] at *; omega) (fun a b => by simp only [Bool.or_eq_true, decide_eq_true_eq]; omega) ns
  exact h.imp fun h => of_decide_eq_true h
theorem sortI_is {ns ns' : List Int} (p : ns'.Perm ns) (h : ns'.Pairwise (· ≤ ·)) : ns' = sortI ns := PySem.W.ksm_same (p.trans (sortI_perm ns).symm) h (sortI_sorted ns)
def hSorted : List D → Option Res
  | [.list l] => match toInts l with
    | some ns => some (.l ((sortI ns).map PyData.int))
    | none => none
  | _ => none
theorem ok_sorted {w : World} {K : PySem.W.Frag} : OpOk w K (rSortedI K) (gOp hSorted) := gOp_ok fun B H vs ds res Q sb v e p => by
  unfold hSorted at e
  split at e
  · obtain ⟨x, rfl, vx⟩ := vws1 v
    split at e
    · rename_i ns en
      cases e
      cases vx with
      | lst h r =>
        rw [toInts_eq en] at r
        rw [dps_ints_inv r] at h
        exact ⟨_, ns, rfl, h, fun ns' q hp hs hq => p.lst _ _ _ rfl hq (by rw [sortI_is hp hs]; exact dps_ints _)⟩
    · cases e
  · cases e
def hTuple : List D → Option Res
  | [.list l] => some (.d (.tuple l))
  | [.tuple l] => some (.d (.tuple l))
  | _ => none
theorem ok_tuple {w : World} {K : PySem.W.Frag} : OpOk w K (fun xs H Q => ∃ p ys, xs = [.ref p] ∧ ((SqL K H p ys ∧ ∀ l, H l = none → Q (.ref l) (upd H l (.tup ys))) ∨ (SqT K H p ys ∧ Q (.ref p) H))) (gOp hTuple) := gOp_ok fun B H vs ds res Q sb v e p => by
  unfold hTuple at e
  split at e
  · cases e
    obtain ⟨x, rfl, vx⟩ := vws1 v
    cases vx with
    | lst h r => exact ⟨_, _, rfl, .inl ⟨h, fun q hq => p.tup _ _ _ rfl hq r⟩⟩
  · cases e
    obtain ⟨x, rfl, vx⟩ := vws1 v
    cases vx with
    | tup h r => exact ⟨_, _, rfl, .inr ⟨sqt_mono sb h, p.val _ _ rfl (.tup h r)⟩⟩
  · cases e
def hList : List D → Option Res
  | [.list l] => some (.l l)
  | [.tuple l] => some (.l l)
  | _ => none
theorem ok_list {w : World} {K : PySem.W.Frag} : OpOk w K (fun xs H Q => ∃ p ys, xs = [.ref p] ∧ (SqL K H p ys ∨ SqT K H p ys) ∧ ∀ l, H l = none → Q (.ref l) (upd H l (.lst ys))) (gOp hList) := gOp_ok fun B H vs ds res Q sb v e p => by
  unfold hList at e
  split at e
  · cases e
    obtain ⟨x, rfl, vx⟩ := vws1 v
    cases vx with
    | lst h r => exact ⟨_, _, rfl, .inl h, fun q hq => p.lst _ _ _ rfl hq r⟩
  · cases e
    obtain ⟨x, rfl, vx⟩ := vws1 v
    cases vx with
    | tup h r => exact ⟨_, _, rfl, .inr (sqt_mono sb h), fun q hq => p.lst _ _ _ rfl hq r⟩
  · cases e
/-! ### isinstance -/
def tyN : D → String
  | .none => "NoneType"
  | .bool _ => "bool"
  | .int _ => "int"
  | .str _ => "str"
  | .list _ => "list"
  | .tuple _ => "tuple"
  | .dict _ => "dict"
/-- isinstance(d, T) for the built-in T -/
def isT : D → String → Option Bool
  | .bool _, T => if T = "bool" ∨ T = "int" then some true else if T = "str" ∨ T = "list" ∨ T = "tuple" then some false else none
  | d, T => if T = "int" ∨ T = "bool" ∨ T = "str" ∨ T = "list" ∨ T = "tuple" then some (decide (tyN d = T)) else none
def hIsi (T : String) : List D → Option Res
  | [d] => match isT d T with
    | some b => some (.d (.bool b))
    | none => none
  | _ => none
theorem kitB_is {n T : String} (hn : n = "NoneType" ∨ n = "bool" ∨ n = "int" ∨ n = "str" ∨ n = "list" ∨ n = "tuple") (hT : T = "int" ∨ T = "bool" ∨ T = "str" ∨ T = "list" ∨ T = "tuple") : kitB n T = some (decide (n = T) || (decide (n = "bool") && decide (T = "int"))) := by
  rcases hn with rfl | rfl | rfl | rfl | rfl | rfl <;> rcases hT with rfl | rfl | rfl | rfl | rfl <;> decide +kernel
theorem ok_isi {w : World} {K : PySem.W.Frag} {T : String} : OpOk w K (fun vs H Q => ∃ x, vs = [x] ∧ rIsi K [x, .ty T] H Q) (gOp (hIsi T)) := gOp_ok fun B H vs ds res Q sb v e p => by
  unfold hIsi at e
  split at e
  · rename_i d
    obtain ⟨x, rfl, vx⟩ := vws1 v
    split at e
    · rename_i b eb
      cases e
      have key : ∃ t, TyX K H x (.type t) ∧ kitB t T = some b := by
        have fin : ∀ {n : String}, (n = "NoneType" ∨ n = "bool" ∨ n = "int" ∨ n = "str" ∨ n = "list" ∨ n = "tuple") → (T = "int" ∨ T = "bool" ∨ T = "str" ∨ T = "list" ∨ T = "tuple") → n ≠ "bool" → b = decide (n = T) → kitB n T = some b := fun hn hT hb e => by
          rw [kitB_is hn hT, e, decide_eq_false hb, Bool.false_and, Bool.or_false]
        cases vx with
        | bl c =>
          refine ⟨"bool", .base (.bl c), ?_⟩
          simp only [isT] at eb
          split at eb
          · rename_i hT
            cases eb
            rcases hT with rfl | rfl <;> decide +kernel
          · split at eb
            · rename_i hT
              cases eb
              rcases hT with rfl | rfl | rfl <;> decide +kernel
            · cases eb
        | non =>
          simp only [isT] at eb
          split at eb
          · rename_i hT
            cases eb
            exact ⟨"NoneType", .base .non, fin (by simp) hT (by decide) rfl⟩
          · cases eb
        | int i =>
          simp only [isT] at eb
          split at eb
          · rename_i hT
            cases eb
            exact ⟨"int", .base (.int i), fin (by simp) hT (by decide) rfl⟩
          · cases eb
        | str s =>
          simp only [isT] at eb
          split at eb
          · rename_i hT
            cases eb
            exact ⟨"str", .base (.str s), fin (by simp) hT (by decide) rfl⟩
          · cases eb
        | lst h r =>
          simp only [isT] at eb
          split at eb
          · rename_i hT
            cases eb
            refine ⟨"list", ?_, fin (by simp) hT (by decide) rfl⟩
            rcases h with (h | ⟨o, h⟩) | ⟨o, its, n, h1, h2, _⟩
            · exact .base (.lst h)
            · exact .base (.frz h)
            · exact .kList h1 h2
          · cases eb
        | tup h r =>
          simp only [isT] at eb
          split at eb
          · rename_i hT
            cases eb
            refine ⟨"tuple", ?_, fin (by simp) hT (by decide) rfl⟩
            rcases sqt_mono sb h with (h | ⟨o, h⟩) | ⟨o, its, n, h1, h2, _⟩
            · exact .base (.tup h)
            · exact .fTuple h
            · exact .kTuple h1 h2
          · cases eb
      obtain ⟨t, k1, k2⟩ := key
      exact ⟨x, rfl, x, .ty T, _, _, b, rfl, .ty T, k1, kit_ty k2, p.val _ _ rfl (.bl _)⟩
    · cases e
  · cases e
section
variable {X : Cx} {a : Expr} {f : SE} {pos p pT : Pos} {x : Str} {T : String}
theorem e_isi (hg : Gl X "isinstance") (hm : X.mg "isinstance" = none) (hgT : Gl X x) (hmT : X.mg x = none) (hvT : bootBuiltins x = some (.type T)) (ha : E X a f) (hxn : x ≠ "__name__" := by decide) (hxd : (x == ("__debug__" : Str)) = false := by decide)
    (h1 : starEach [a, .Name x pT] X.env = (false, eval a X.env) :: starEach [.Name x pT] X.env := by rfl) (h2 : (backTo pos (starEach [.Name x pT] X.env)).any (·.1) = false := by rfl) :
    E X (.Call (.Name "isinstance" p) [a, .Name x pT] [] pos) (opS (gOp (hIsi T)) (sCons f sNil)) :=
  pe_weak (pe_callB call_isi hg hm (by decide +kernel) (pa_cons ha (pa_cons (pe_bltn (v := .ty T) hgT hmT hvT rfl hxn hxd) pa_nil) h1) (by decide) (by decide) h1 h2) fun σ H Q z =>
    (ta_one (op_T ok_isi z)).mono fun x H1 ⟨x', e, q⟩ => by cases e; exact q
end
end Fl
/-! Fl: tests, dicts, sets. -/
namespace Fl
open PySem L2

/-! ### tests -/
def tB' (f : SE) : ST := fun S => match f S with
  | some (.im (.bool b), S') => some (b, S')
  | _ => none
def tNot' (t : ST) : ST := fun S => match t S with
  | some (b, S') => some (!b, S')
  | none => none
def tAnd' (t u : ST) : ST := fun S => match t S with
  | some (true, S') => u S'
  | some (false, S') => some (false, S')
  | none => none
def tOr' (t u : ST) : ST := fun S => match t S with
  | some (true, S') => some (true, S')
  | some (false, S') => u S'
  | none => none
def eNot (f : SE) : SE := fun S => match f S with
  | some (.im (.bool b), S') => some (.im (.bool (!b)), S')
  | _ => none
def eAnd (f g : SE) : SE := fun S => match f S with
  | some (.im (.bool true), S') => g S'
  | some (.im (.bool false), S') => some (.im (.bool false), S')
  | _ => none
def eOr (f g : SE) : SE := fun S => match f S with
  | some (.im (.bool true), S') => some (.im (.bool true), S')
  | some (.im (.bool false), S') => g S'
  | _ => none
def eIf (t : ST) (f g : SE) : SE := fun S => match t S with
  | some (true, S') => f S'
  | some (false, S') => g S'
  | none => none
section
variable {w : World} {K : PySem.W.Frag} {σ : L2.St} {H : Hp}
theorem RR.bl {B : Hp} {v : V} {b : Bool} {F : List Addr} (x : RR w K σ B H v (.im (.bool b)) F) : v = .bl b ∧ F = [] := by
  cases x with
  | im x => cases x; exact ⟨rfl, rfl⟩
theorem Tt.mono {f : ST} {Q Q' : Bool → Hp → Prop} (h : Tt w K f σ H Q) (q : ∀ v H', Q v H' → Q' v H') : Tt w K f σ H Q' := by
  obtain ⟨S, A, B, r, S', a, b, c, d⟩ := h
  exact ⟨S, A, B, r, S', a, b, c, fun H' p => q _ H' (d H' p)⟩
theorem t_tB {f : SE} {Q : Bool → Hp → Prop} (h : Tt w K (tB' f) σ H Q) : tB (T w K f) σ H Q := by
  obtain ⟨S, A, B, r, S', sr, ok, e, q⟩ := h
  unfold tB' at e
  split at e
  · rename_i b S1 e1
    cases e
    refine ⟨S, A, B, _, _, sr, ok, e1, fun v H1 ⟨A1, B1, F1, g1, x1⟩ => ?_⟩
    obtain ⟨rfl, rfl⟩ := x1.bl
    exact ⟨_, rfl, q H1 ⟨A1, B1, g1⟩⟩
  · cases e
theorem t_tnot {t : ST} {Q : Bool → Hp → Prop} (h : Tt w K (tNot' t) σ H Q) : tNot (Tt w K t) σ H Q := by
  obtain ⟨S, A, B, r, S', sr, ok, e, q⟩ := h
  unfold tNot' at e
  split at e
  · rename_i b S1 e1
    cases e
    exact ⟨S, A, B, _, _, sr, ok, e1, q⟩
  · cases e
theorem t_tand {t u : ST} {Q : Bool → Hp → Prop} (h : Tt w K (tAnd' t u) σ H Q) : tAnd (Tt w K t) (Tt w K u) σ H Q := by
  obtain ⟨S, A, B, r, S', sr, ok, e, q⟩ := h
  unfold tAnd' at e
  split at e
  · rename_i S1 e1
    refine ⟨S, A, B, _, S1, sr, ok, e1, fun H1 ⟨A1, B1, g1⟩ => ?_⟩
    refine iteT ?_
    exact ⟨S1, A1, B1, r, S', g1.sr, g1.ok0, e, fun H2 ⟨A2, B2, g2⟩ => q H2 ⟨A2, B2, g1.seq g2⟩⟩
  · rename_i S1 e1
    cases e
    refine ⟨S, A, B, _, _, sr, ok, e1, fun H1 g => ?_⟩
    refine iteF ?_
    exact q H1 g
  · cases e
theorem t_tor {t u : ST} {Q : Bool → Hp → Prop} (h : Tt w K (tOr' t u) σ H Q) : tOr (Tt w K t) (Tt w K u) σ H Q := by
  obtain ⟨S, A, B, r, S', sr, ok, e, q⟩ := h
  unfold tOr' at e
  split at e
  · rename_i S1 e1
    cases e
    refine ⟨S, A, B, _, _, sr, ok, e1, fun H1 g => ?_⟩
    refine iteT ?_
    exact q H1 g
  · rename_i S1 e1
    refine ⟨S, A, B, _, S1, sr, ok, e1, fun H1 ⟨A1, B1, g1⟩ => ?_⟩
    refine iteF ?_
    exact ⟨S1, A1, B1, r, S', g1.sr, g1.ok0, e, fun H2 ⟨A2, B2, g2⟩ => q H2 ⟨A2, B2, g1.seq g2⟩⟩
  · cases e
theorem t_enot {f : SE} {Q : VK} (h : T w K (eNot f) σ H Q) : tNotV (T w K f) σ H Q := by
  obtain ⟨S, A, B, r, S', sr, ok, e, q⟩ := h
  unfold eNot at e
  split at e
  · rename_i b S1 e1
    cases e
    refine ⟨S, A, B, _, _, sr, ok, e1, fun v H1 ⟨A1, B1, F1, g1, x1⟩ => ?_⟩
    obtain ⟨rfl, rfl⟩ := x1.bl
    exact ⟨_, rfl, q _ H1 ⟨A1, B1, [], g1, .im (.bl _)⟩⟩
  · cases e
theorem t_eand {f g : SE} {Q : VK} (h : T w K (eAnd f g) σ H Q) : tAndV (T w K f) (T w K g) σ H Q := by
  obtain ⟨S, A, B, r, S', sr, ok, e, q⟩ := h
  unfold eAnd at e
  split at e
  · rename_i S1 e1
    refine ⟨S, A, B, _, S1, sr, ok, e1, fun v H1 ⟨A1, B1, F1, g1, x1⟩ => ?_⟩
    obtain ⟨rfl, rfl⟩ := x1.bl
    refine ⟨true, rfl, ?_⟩
    refine iteT ?_
    exact ⟨S1, A1, B1, r, S', g1.sr, g1.ok0, e, fun v H2 ⟨A2, B2, F2, g2, x2⟩ => q v H2 ⟨A2, B2, F2, g1.seq g2, x2⟩⟩
  · rename_i S1 e1
    cases e
    refine ⟨S, A, B, _, _, sr, ok, e1, fun v H1 ⟨A1, B1, F1, g1, x1⟩ => ?_⟩
    obtain ⟨rfl, rfl⟩ := x1.bl
    refine ⟨false, rfl, ?_⟩
    refine iteF ?_
    exact q _ H1 ⟨A1, B1, [], g1, .im (.bl _)⟩
  · cases e
theorem t_eor {f g : SE} {Q : VK} (h : T w K (eOr f g) σ H Q) : tOrV (T w K f) (T w K g) σ H Q := by
  obtain ⟨S, A, B, r, S', sr, ok, e, q⟩ := h
  unfold eOr at e
  split at e
  · rename_i S1 e1
    cases e
    refine ⟨S, A, B, _, _, sr, ok, e1, fun v H1 ⟨A1, B1, F1, g1, x1⟩ => ?_⟩
    obtain ⟨rfl, rfl⟩ := x1.bl
    refine ⟨true, rfl, ?_⟩
    refine iteT ?_
    exact q _ H1 ⟨A1, B1, [], g1, .im (.bl _)⟩
  · rename_i S1 e1
    refine ⟨S, A, B, _, S1, sr, ok, e1, fun v H1 ⟨A1, B1, F1, g1, x1⟩ => ?_⟩
    obtain ⟨rfl, rfl⟩ := x1.bl
    refine ⟨false, rfl, ?_⟩
    refine iteF ?_
    exact ⟨S1, A1, B1, r, S', g1.sr, g1.ok0, e, fun v H2 ⟨A2, B2, F2, g2, x2⟩ => q v H2 ⟨A2, B2, F2, g1.seq g2, x2⟩⟩
  · cases e
theorem t_eif {t : ST} {f g : SE} {Q : VK} (h : T w K (eIf t f g) σ H Q) : tIf (Tt w K t) (T w K f) (T w K g) σ H Q := by
  obtain ⟨S, A, B, r, S', sr, ok, e, q⟩ := h
  unfold eIf at e
  split at e
  · rename_i S1 e1
    refine ⟨S, A, B, _, S1, sr, ok, e1, fun H1 ⟨A1, B1, g1⟩ => ?_⟩
    refine iteT ?_
    exact ⟨S1, A1, B1, r, S', g1.sr, g1.ok0, e, fun v H2 ⟨A2, B2, F2, g2, x2⟩ => q v H2 ⟨A2, B2, F2, g1.seq g2, x2⟩⟩
  · rename_i S1 e1
    refine ⟨S, A, B, _, S1, sr, ok, e1, fun H1 ⟨A1, B1, g1⟩ => ?_⟩
    refine iteF ?_
    exact ⟨S1, A1, B1, r, S', g1.sr, g1.ok0, e, fun v H2 ⟨A2, B2, F2, g2, x2⟩ => q v H2 ⟨A2, B2, F2, g1.seq g2, x2⟩⟩
  · cases e
end
section
variable {X : Cx} {a b c : Expr} {rest : List Expr} {pos : Pos} {f g : SE} {t u : ST}
theorem c_val (h : E X a f) (he : ∀ whole, isTrue a X.env whole = (do let v ← whole; standAt a.pos; holding [v] (truthy v)) := by intro _; rfl) : Et X a (tB' f) := pt_weak (pt_val h he) fun _ _ _ z => t_tB z
/-- a comparison as a test -/
theorem c_cmp {op : CmpOp} {r : V → V → Hp → VK → Prop} {o : Op} (ho : OpR X (compareOp op) r) (hg : OpOk X.w X.K (RV2 r) o) (hm : behindInMarks op b = false) (ha : E X a f) (hb : E X b g) :
    Et X (.Compare a [op] [b] pos) (tB' (opS o (sCons f (sCons g sNil)))) :=
  pt_weak (pt_cmpR ho ha hb hm) fun σ H Q z => by
    obtain ⟨S, A, B, r, S', z⟩ := t_tB z
    exact (ta_two (op_T hg ⟨S, A, B, r, S', z⟩)).mono fun x H1 z => z.mono fun y H2 ⟨x', y', e, q⟩ => by cases e; exact q
theorem c_not (h : Et X a t) : Et X (.UnaryOp .Not a pos) (tNot' t) := pt_weak (pt_not h) fun _ _ _ z => t_tnot z
theorem c_and1 (h : Et X a t) : Ew X (.BoolOp .And [a] pos) t := pw_and1 h
theorem c_or1 (h : Et X a t) : Ew X (.BoolOp .Or [a] pos) t := pw_or1 h
theorem c_and (h : Et X a t) (k : Ew X (.BoolOp .And (b :: rest) pos) u) : Ew X (.BoolOp .And (a :: b :: rest) pos) (tAnd' t u) := pw_weak (pw_and h k) fun _ _ _ z => t_tand z
theorem c_or (h : Et X a t) (k : Ew X (.BoolOp .Or (b :: rest) pos) u) : Ew X (.BoolOp .Or (a :: b :: rest) pos) (tOr' t u) := pw_weak (pw_or h k) fun _ _ _ z => t_tor z
theorem c_w {e : Expr} (h : Ew X e t) : Et X e t := PW.pt h
theorem e_one {op} (h : E X a f) : E X (.BoolOp op [a] pos) f := pe_one h
theorem e_and (h : E X a f) (k : E X (.BoolOp .And (b :: rest) pos) g) : E X (.BoolOp .And (a :: b :: rest) pos) (eAnd f g) := pe_weak (pe_and h k) fun _ _ _ z => t_eand z
theorem e_or (h : E X a f) (k : E X (.BoolOp .Or (b :: rest) pos) g) : E X (.BoolOp .Or (a :: b :: rest) pos) (eOr f g) := pe_weak (pe_or h k) fun _ _ _ z => t_eor z
theorem e_not (h : E X a f) : E X (.UnaryOp .Not a pos) (eNot f) := pe_weak (pe_not h) fun _ _ _ z => t_enot z
theorem e_if (hc : Et X c t) (ha : E X a f) (hb : E X b g) : E X (.IfExp c a b pos) (eIf t f g) := pe_weak (pe_ifExp hc ha hb) fun _ _ _ z => t_eif z
end

/-! ### x in y -/
def hIn (neg : Bool) : List D → Option Res
  | [d, .list l] => if SeqAt.shaped d && SeqAt.shaped (.list l) then some (.d (.bool (neg != l.any fun z => PyData.eqv z d))) else none
  | [d, .tuple l] => if SeqAt.shaped d && SeqAt.shaped (.tuple l) then some (.d (.bool (neg != l.any fun z => PyData.eqv z d))) else none
  | _ => none
def ownDct (S : List Sl) : Rs → Option (List (Key × D))
  | .fr (.dct l) => some l
  | .pl i => match S[i]? with
    | some (.ow (.dct l)) => some l
    | some (.mu (.dct l)) => some l
    | _ => none
  | _ => none
def ownSet (S : List Sl) : Rs → Option (List Int)
  | .fr (.set l) => some l
  | .pl i => match S[i]? with
    | some (.ow (.set l)) => some l
    | some (.mu (.set l)) => some l
    | _ => none
  | _ => none
def keyOf : D → Option Key
  | .int i => some (.inl i)
  | .str s => some (.inr s)
  | _ => none
def lookK {κ : Type} [DecidableEq κ] (ds : List (κ × D)) (k : κ) : Option D := (ds.find? fun kv => decide (kv.1 = k)).map (·.2)
def putD {κ : Type} [DecidableEq κ] (ds : List (κ × D)) (k : κ) (v : D) : List (κ × D) :=
  if (ds.any fun kv => decide (kv.1 = k)) = true then ds.map (fun kv => if kv.1 = k then (kv.1, v) else kv) else ds ++ [(k, v)]
def gInD (neg : Bool) : Op := fun S rs => match rs with
  | [a, b] => match vw S a, ownDct S b with
    | some d, some l => match keyOf d with
      | some k => some (.im (.bool (neg != (lookK l k).isSome)))
      | none => none
    | _, _ => none
  | _ => none
def keysOf : List D → Option (List Key)
  | [] => some []
  | d :: ds => match keyOf d, keysOf ds with
    | some k, some ks => some (k :: ks)
    | _, _ => none
def keyT : D → Option (List Key)
  | .tuple ds => keysOf ds
  | _ => none
def ownDctT (S : List Sl) : Rs → Option (List (List Key × D))
  | .fr (.dctT l) => some l
  | .pl i => match S[i]? with
    | some (.ow (.dctT l)) => some l
    | some (.mu (.dctT l)) => some l
    | _ => none
  | _ => none
def gInT (neg : Bool) : Op := fun S rs => match rs with
  | [a, b] => match vw S a, ownDctT S b with
    | some d, some l => match keyT d with
      | some k => some (.im (.bool (neg != (lookK l k).isSome)))
      | none => none
    | _, _ => none
  | _ => none
def gInS (neg : Bool) : Op := fun S rs => match rs with
  | [a, b] => match vw S a, ownSet S b with
    | some (.int i), some l => some (.im (.bool (neg != decide (i ∈ l))))
    | _, _ => none
  | _ => none
section
variable {w : World} {K : PySem.W.Frag} {σ : L2.St} {S : List Sl} {A : List Addr} {B H : Hp}
theorem kdp_look {κ : Type} [DecidableEq κ] : ∀ {kvs : List (κ × V)} {ds : List (κ × D)} (k : κ), KDp K B kvs ds → (∃ v d, valV kvs k = some v ∧ lookK ds k = some d ∧ Dp K B v d) ∨ (valV kvs k = none ∧ lookK ds k = none)
  | _, _, k, .nil => .inr ⟨rfl, rfl⟩
  | _, _, k, .cons (k := k0) (v := v) (d := d) h r => by
    by_cases e : k0 = k
    · refine .inl ⟨v, d, by simp [valV, List.find?_cons, e], by simp [lookK, List.find?_cons, e], h⟩
    · rcases kdp_look k r with ⟨v', d', a, b, c⟩ | ⟨a, b⟩
      · exact .inl ⟨v', d', by simp [valV, List.find?_cons, e] at a ⊢; exact a, by simp [lookK, List.find?_cons, e] at b ⊢; exact b, c⟩
      · exact .inr ⟨by simp [valV, List.find?_cons, e] at a ⊢; exact a, by simp [lookK, List.find?_cons, e] at b ⊢; exact b⟩
theorem kdp_any {κ : Type} [DecidableEq κ] : ∀ {kvs : List (κ × V)} {ds : List (κ × D)} (k : κ), KDp K B kvs ds → (kvs.any fun kv => decide (kv.1 = k)) = (ds.any fun kv => decide (kv.1 = k))
  | _, _, k, .nil => rfl
  | _, _, k, .cons h r => by rw [List.any_cons, List.any_cons, kdp_any k r]
theorem kdp_map {κ : Type} [DecidableEq κ] {k : κ} {v : V} {d : D} (hd : Dp K B v d) : ∀ {kvs : List (κ × V)} {ds : List (κ × D)}, KDp K B kvs ds → KDp K B (kvs.map fun kv => if kv.1 = k then (kv.1, v) else kv) (ds.map fun kv => if kv.1 = k then (kv.1, d) else kv)
  | _, _, .nil => .nil
  | _, _, .cons (k := k0) h r => by
    rw [List.map_cons, List.map_cons]
    by_cases e : k0 = k
    · simp only [e, if_true]
      exact .cons hd (kdp_map hd r)
    · simp only [e, if_false]
      exact .cons h (kdp_map hd r)
theorem kdp_append {κ : Type} [DecidableEq κ] : ∀ {kvs : List (κ × V)} {ds : List (κ × D)} {k : κ} {v : V} {d : D}, KDp K B kvs ds → Dp K B v d → KDp K B (kvs ++ [(k, v)]) (ds ++ [(k, d)])
  | _, _, _, _, _, .nil, h => .cons h .nil
  | _, _, _, _, _, .cons h r, q => .cons h (kdp_append r q)
theorem kdp_put {κ : Type} [DecidableEq κ] {kvs : List (κ × V)} {ds : List (κ × D)} {k : κ} {v : V} {d : D} (r : KDp K B kvs ds) (h : Dp K B v d) : KDp K B (putK kvs k v) (putD ds k d) := by
  unfold putK putD
  rw [kdp_any k r]
  split
  · exact kdp_map h r
  · exact kdp_append r h
theorem ownDct_ok {v : V} {r : Rs} {F : List Addr} {l : List (Key × D)} (sr : SR w K B H σ S A) (x : RR w K σ B H v r F) (h : ownDct S r = some l) : ∃ a kvs, v = .ref a ∧ H a = some (.dK kvs) ∧ KDp K B kvs l := by
  cases x with
  | im x => cases h
  | fr x =>
    cases x with
    | lst h1 r1 => cases h
    | dct h1 r1 => cases h; exact ⟨_, _, rfl, h1, r1⟩
    | set h1 r1 n => cases h
    | rows h1 r1 => cases h
    | dctT h1 r1 => cases h
  | pl x =>
    rename_i i
    simp only [ownDct] at h
    cases e1 : S[i]? with
    | none => rw [e1] at h; cases h
    | some s =>
      rw [e1] at h
      obtain ⟨y, A1, As, A2, eA, es, sl, f⟩ := sr.at e1
      rw [x] at es
      cases es
      cases sl with
      | un => cases h
      | im z => cases h
      | ow z =>
        cases z with
        | lst h1 r1 => cases h
        | dct h1 r1 => cases h; exact ⟨_, _, rfl, h1, r1⟩
        | set h1 r1 n => cases h
        | rows h1 r1 => cases h
        | dctT h1 r1 => cases h
      | mu z =>
        cases z with
        | lst h1 r1 => cases h
        | dct h1 r1 => cases h; exact ⟨_, _, rfl, h1, r1⟩
        | set h1 r1 n => cases h
        | rows h1 r1 => cases h
        | dctT h1 r1 => cases h
theorem ownDctT_ok {v : V} {r : Rs} {F : List Addr} {l : List (List Key × D)} (sr : SR w K B H σ S A) (x : RR w K σ B H v r F) (h : ownDctT S r = some l) : ∃ a kvs, v = .ref a ∧ H a = some (.dT kvs) ∧ KDp K B kvs l := by
  cases x with
  | im x => cases h
  | fr x =>
    cases x with
    | lst h1 r1 => cases h
    | dctT h1 r1 => cases h; exact ⟨_, _, rfl, h1, r1⟩
    | dct h1 r1 => cases h
    | set h1 r1 n => cases h
    | rows h1 r1 => cases h
  | pl x =>
    rename_i i
    simp only [ownDctT] at h
    cases e1 : S[i]? with
    | none => rw [e1] at h; cases h
    | some s =>
      rw [e1] at h
      obtain ⟨y, A1, As, A2, eA, es, sl, f⟩ := sr.at e1
      rw [x] at es
      cases es
      cases sl with
      | un => cases h
      | im z => cases h
      | ow z =>
        cases z with
        | lst h1 r1 => cases h
        | dctT h1 r1 => cases h; exact ⟨_, _, rfl, h1, r1⟩
        | dct h1 r1 => cases h
        | set h1 r1 n => cases h
        | rows h1 r1 => cases h
      | mu z =>
        cases z with
        | lst h1 r1 => cases h
        | dctT h1 r1 => cases h; exact ⟨_, _, rfl, h1, r1⟩
        | dct h1 r1 => cases h
        | set h1 r1 n => cases h
        | rows h1 r1 => cases h
theorem keysOf_ok : ∀ {vs : List V} {ds : List D} {ks : List Key}, DpAll K B vs ds → keysOf ds = some ks → vs = ks.map kV
  | _, _, ks, .nil, h => by cases h; rfl
  | _, _, ks, .cons (d := d) (ds := ds) x r, h => by
    unfold keysOf at h
    split at h
    · rename_i k ks' e1 e2
      cases h
      rw [keysOf_ok r e2, List.map_cons]
      congr 1
      cases x <;> cases e1 <;> rfl
    · cases h
theorem keyT_ok {v : V} {d : D} {k : List Key} (x : Vw K B H v d) (sb : Same B H) (h : keyT d = some k) : ∃ b, v = .ref b ∧ H b = some (.tup (k.map kV)) := by
  cases x <;> try cases h
  rename_i a vs ds e r
  exact ⟨a, rfl, by rw [← keysOf_ok r h]; exact sb _ _ e⟩
theorem ownSet_ok {v : V} {r : Rs} {F : List Addr} {l : List Int} (sr : SR w K B H σ S A) (x : RR w K σ B H v r F) (h : ownSet S r = some l) : ∃ a f n, v = .ref a ∧ H a = some (SetO w a f n) ∧ (∀ k, f k = true ↔ k ∈ l) ∧ n = l.length := by
  cases x with
  | im x => cases h
  | fr x =>
    cases x with
    | lst h1 r1 => cases h
    | dct h1 r1 => cases h
    | set h1 r1 n => cases h; exact ⟨_, _, _, rfl, h1, r1, n⟩
    | rows h1 r1 => cases h
    | dctT h1 r1 => cases h
  | pl x =>
    rename_i i
    simp only [ownSet] at h
    cases e1 : S[i]? with
    | none => rw [e1] at h; cases h
    | some s =>
      rw [e1] at h
      obtain ⟨y, A1, As, A2, eA, es, sl, f⟩ := sr.at e1
      rw [x] at es
      cases es
      cases sl with
      | un => cases h
      | im z => cases h
      | ow z =>
        cases z with
        | lst h1 r1 => cases h
        | dct h1 r1 => cases h
        | set h1 r1 n => cases h; exact ⟨_, _, _, rfl, h1, r1, n⟩
        | rows h1 r1 => cases h
        | dctT h1 r1 => cases h
      | mu z =>
        cases z with
        | lst h1 r1 => cases h
        | dct h1 r1 => cases h
        | set h1 r1 n => cases h; exact ⟨_, _, _, rfl, h1, r1, n⟩
        | rows h1 r1 => cases h
        | dctT h1 r1 => cases h
theorem keyOf_ok {v : V} {d : D} {k : Key} (x : Vw K B H v d) (h : keyOf d = some k) : v = kV k := by
  cases x <;> cases h <;> rfl
end
theorem sc_flat {K : PySem.W.Frag} {B H : Hp} {v : V} {d : D} (h : Vw K B H v d) (e : sc d = true) : flatV v = true := by cases h <;> first | rfl | cases e
theorem sc_flat' {K : PySem.W.Frag} {B : Hp} {v : V} {d : D} (h : Dp K B v d) (e : sc d = true) : flatV v = true := by cases h <;> first | rfl | cases e
theorem sc_eqv {K : PySem.W.Frag} {B H : Hp} {v u : V} {d e : D} (h : Dp K B v d) (h' : Vw K B H u e) (sd : sc d = true) (se : sc e = true) : eqV v u = PyData.eqv d e := by
  cases h' <;> first
    | (exfalso; exact Bool.false_ne_true se)
    | (cases h <;> first
      | (exfalso; exact Bool.false_ne_true sd)
      | rfl
      | (unfold eqV PyData.eqv; rfl))
theorem sc_any {K : PySem.W.Frag} {B H : Hp} {u : V} {e : D} (h' : Vw K B H u e) (se : sc e = true) : ∀ {vs : List V} {ds : List D}, DpAll K B vs ds → ds.all sc = true → vs.all flatV = true ∧ (vs.any fun y => eqV y u) = (ds.any fun z => PyData.eqv z e)
  | _, _, .nil, _ => ⟨rfl, rfl⟩
  | _, _, .cons h r, a => by
    rw [List.all_cons, Bool.and_eq_true] at a
    obtain ⟨i1, i2⟩ := sc_any h' se r a.2
    rw [List.all_cons, List.any_cons, List.any_cons, i1, i2, sc_flat' h a.1, sc_eqv h h' a.1 se]
    exact ⟨rfl, rfl⟩
/-- x in t, t a tuple of data of any depth -/
def rInDT (K : PySem.W.Frag) (neg : Bool) : L2.R2 := fun x y H Q => ∃ d ds, L2.Dp K H x d ∧ L2.Dp K H y (.tuple ds) ∧ SeqAt.shaped d = true ∧ SeqAt.shaped (.tuple ds) = true ∧ Q (.bl (neg != ds.any fun z => PyData.eqv z d)) H
theorem op_inDT {X : Cx} (hu : X.A.units + 65 < cLine) : OpR X (compareOp .In) (rInDT X.K false) := by
  intro pins s σ H x y v u Q I rx ry h
  obtain ⟨d, ds, hd, he, sd, se, q⟩ := h
  obtain ⟨as, r1⟩ := L2.Dp.reads I d x v hd rx
  obtain ⟨bs, r2⟩ := L2.Dp.reads I (.tuple ds) y u he ry
  rw [Bool.false_bne] at q
  exact SeqAt.in_tuple_reads r2 r1 (SeqAt.canLay_of_shaped se) (SeqAt.canLay_of_shaped sd) (PyProof.Rows.room_in_shaped sd hu) ⟨.bl _, H, I, rfl, q⟩
theorem op_notInDT {X : Cx} (hu : X.A.units + 65 < cLine) : OpR X (compareOp .NotIn) (rInDT X.K true) := by
  intro pins s σ H x y v u Q I rx ry h
  obtain ⟨d, ds, hd, he, sd, se, q⟩ := h
  obtain ⟨as, r1⟩ := L2.Dp.reads I d x v hd rx
  obtain ⟨bs, r2⟩ := L2.Dp.reads I (.tuple ds) y u he ry
  rw [Bool.true_bne] at q
  exact SeqAt.notIn_tuple_reads r2 r1 (SeqAt.canLay_of_shaped se) (SeqAt.canLay_of_shaped sd) (PyProof.Rows.room_in_shaped sd hu) ⟨.bl _, H, I, rfl, q⟩
section
variable {w : World} {K : PySem.W.Frag}
theorem ok_in : OpOk w K (RV2 fun x y H Q => rInD K x y H Q ∨ rInDT K false x y H Q) (gOp (hIn false)) := gOp_ok fun B H vs ds res Q sb v e p => by
  unfold hIn at e
  split at e
  · split at e
    · rename_i hs
      rw [Bool.and_eq_true] at hs
      cases e
      obtain ⟨x, y, rfl, vx, vy⟩ := vws2 v
      exact ⟨_, _, rfl, .inl ⟨_, _, vx.dp sb, vy.dp sb, hs.1, hs.2, p.val _ _ rfl (by rw [Bool.false_bne]; exact .bl _)⟩⟩
    · cases e
  · split at e
    · rename_i hs
      rw [Bool.and_eq_true] at hs
      cases e
      obtain ⟨x, y, rfl, vx, vy⟩ := vws2 v
      exact ⟨_, _, rfl, .inr ⟨_, _, vx.dp sb, vy.dp sb, hs.1, hs.2, p.val _ _ rfl (.bl _)⟩⟩
    · cases e
  · cases e
theorem ok_notin : OpOk w K (RV2 fun x y H Q => rNotInD K x y H Q ∨ rInDT K true x y H Q) (gOp (hIn true)) := gOp_ok fun B H vs ds res Q sb v e p => by
  unfold hIn at e
  split at e
  · split at e
    · rename_i hs
      rw [Bool.and_eq_true] at hs
      cases e
      obtain ⟨x, y, rfl, vx, vy⟩ := vws2 v
      exact ⟨_, _, rfl, .inl ⟨_, _, vx.dp sb, vy.dp sb, hs.1, hs.2, p.val _ _ rfl (by rw [Bool.true_bne]; exact .bl _)⟩⟩
    · cases e
  · split at e
    · rename_i hs
      rw [Bool.and_eq_true] at hs
      cases e
      obtain ⟨x, y, rfl, vx, vy⟩ := vws2 v
      exact ⟨_, _, rfl, .inr ⟨_, _, vx.dp sb, vy.dp sb, hs.1, hs.2, p.val _ _ rfl (.bl _)⟩⟩
    · cases e
  · cases e
/-- an operation that reads own objects and gives a value -/
theorem op_at {R : List V → Hp → VK → Prop} {g : Op} (h : ∀ (σ : L2.St) (S : List Sl) (A : List Addr) (B H : Hp) (vs : List V) (rs : List Rs) (F : List Addr) (r : Rs) (Q : VK), SR w K B H σ S A → RRs w K σ B H vs rs F → Same B H → g S rs = some r →
    (∀ d v, r = .im d → Dp K B v d → Q v H) → R vs H Q) : OpOk w K R g := fun σ S A B H vs rs F r Q sr x ok e q =>
  h σ S A B H vs rs F r Q sr x ok.sub e fun d v er dd => by
    subst er
    exact q v H B [] (.im dd) sr ok.right (Step.refl.sub fun a ha => List.mem_append_right _ ha)
theorem rrs2 {σ : L2.St} {B H : Hp} {vs : List V} {a b : Rs} {F : List Addr} (h : RRs w K σ B H vs [a, b] F) : ∃ x y F1 F2, vs = [x, y] ∧ RR w K σ B H x a F1 ∧ RR w K σ B H y b F2 := by
  cases h with
  | cons h1 h =>
    cases h with
    | cons h2 h =>
      cases h
      exact ⟨_, _, _, _, rfl, h1, h2⟩
def rInDct (neg : Bool) : L2.R2 := fun y x H Q => ∃ a o, x = .ref a ∧ DGet H a y o ∧ Q (.bl (neg != o.isSome)) H
theorem ok_inD {neg : Bool} : OpOk w K (RV2 (rInDct neg)) (gInD neg) := op_at fun σ S A B H vs rs F r Q sr x sb e q => by
  unfold gInD at e
  split at e
  · split at e
    · rename_i d l e1 e2
      split at e
      · rename_i k ek
        cases e
        obtain ⟨x, y, F1, F2, rfl, xa, xb⟩ := rrs2 x
        obtain ⟨a, kvs, rfl, ha, hk⟩ := ownDct_ok sr xb e2
        rw [keyOf_ok (vw_ok sr xa sb e1) ek]
        refine ⟨_, _, rfl, a, _, rfl, DGet.k ha, q _ _ rfl ?_⟩
        rcases kdp_look k hk with ⟨v, d, h1, h2, _⟩ | ⟨h1, h2⟩
        · rw [h1, h2]; exact .bl _
        · rw [h1, h2]; exact .bl _
      · cases e
    · cases e
  · cases e
theorem ok_inT {neg : Bool} : OpOk w K (RV2 (rInDct neg)) (gInT neg) := op_at fun σ S A B H vs rs F r Q sr x sb e q => by
  unfold gInT at e
  split at e
  · split at e
    · rename_i d l e1 e2
      split at e
      · rename_i k ek
        cases e
        obtain ⟨x, y, F1, F2, rfl, xa, xb⟩ := rrs2 x
        obtain ⟨a, kvs, rfl, ha, hk⟩ := ownDctT_ok sr xb e2
        obtain ⟨b, rfl, hb⟩ := keyT_ok (vw_ok sr xa sb e1) sb ek
        refine ⟨_, _, rfl, a, _, rfl, DGet.t ha hb, q _ _ rfl ?_⟩
        rcases kdp_look k hk with ⟨v, d, h1, h2, _⟩ | ⟨h1, h2⟩
        · rw [h1, h2]; exact .bl _
        · rw [h1, h2]; exact .bl _
      · cases e
    · cases e
  · cases e
def rInSet (w : World) (neg : Bool) : L2.R2 := fun x y H Q => ∃ k a S n, x = V.int k ∧ y = V.ref a ∧ H a = some (SetO w a S n) ∧ Q (.bl (neg != S k)) H
theorem ok_inS {neg : Bool} : OpOk w K (RV2 (rInSet w neg)) (gInS neg) := op_at fun σ S A B H vs rs F r Q sr x sb e q => by
  unfold gInS at e
  split at e
  · split at e
    · rename_i i l e1 e2
      cases e
      obtain ⟨x, y, F1, F2, rfl, xa, xb⟩ := rrs2 x
      obtain ⟨a, f, n, rfl, ha, hf, hn⟩ := ownSet_ok sr xb e2
      have z := vw_ok sr xa sb e1
      cases z
      refine ⟨_, _, rfl, i, a, f, n, rfl, rfl, ha, q _ _ rfl ?_⟩
      have ef : f i = decide (i ∈ l) := by
        by_cases hi : i ∈ l
        · rw [decide_eq_true hi]; exact (hf i).mpr hi
        · rw [decide_eq_false hi]
          cases q : f i with
          | false => rfl
          | true => exact absurd ((hf i).mp q) hi
      rw [ef]
      exact .bl _
    · cases e
  · cases e
end
/-- in: a list or tuple; a dict; a set -/
def gIn (neg : Bool) : Op := fun S rs => match gOp (hIn neg) S rs with
  | some r => some r
  | none => match gInD neg S rs with
    | some r => some r
    | none => match gInS neg S rs with
      | some r => some r
      | none => gInT neg S rs
section
variable {X : Cx} {a b : Expr} {pos : Pos} {f g : SE}
def rInX (w : World) (K : PySem.W.Frag) : L2.R2 := fun x y H Q => (rInD K x y H Q ∨ rInDT K false x y H Q) ∨ (rInDct false x y H Q ∨ rInSet w false x y H Q)
def rNotInX (w : World) (K : PySem.W.Frag) : L2.R2 := fun x y H Q => (rNotInD K x y H Q ∨ rInDT K true x y H Q) ∨ (rInDct true x y H Q ∨ rInSet w true x y H Q)
theorem ok_inX {w : World} {K : PySem.W.Frag} : OpOk w K (RV2 (rInX w K)) (gIn false) := (OpOk.or ok_in (OpOk.or ok_inD (OpOk.or ok_inS ok_inT))).imp fun vs H Q h => by
  rcases h with ⟨x, y, e, h⟩ | ⟨x, y, e, h⟩ | ⟨x, y, e, h⟩ | ⟨x, y, e, h⟩
  · exact ⟨x, y, e, .inl h⟩
  · exact ⟨x, y, e, .inr (.inl h)⟩
  · exact ⟨x, y, e, .inr (.inr h)⟩
  · exact ⟨x, y, e, .inr (.inl h)⟩
theorem ok_notinX {w : World} {K : PySem.W.Frag} : OpOk w K (RV2 (rNotInX w K)) (gIn true) := (OpOk.or ok_notin (OpOk.or ok_inD (OpOk.or ok_inS ok_inT))).imp fun vs H Q h => by
  rcases h with ⟨x, y, e, h⟩ | ⟨x, y, e, h⟩ | ⟨x, y, e, h⟩ | ⟨x, y, e, h⟩
  · exact ⟨x, y, e, .inl h⟩
  · exact ⟨x, y, e, .inr (.inl h)⟩
  · exact ⟨x, y, e, .inr (.inr h)⟩
  · exact ⟨x, y, e, .inr (.inl h)⟩
theorem op_inDct (hu : X.A.units + 1 < cLine) : OpR X (compareOp .In) (rInDct false) := by
  intro pins s σ H y x v u Q I ry rx h
  obtain ⟨a, o, rfl, g, q⟩ := h
  obtain rfl : u = Value.ref a := rx
  exact d_in hu I g ry fun s3 I3 => ⟨.bl o.isSome, H, I3, rfl, by simpa using q⟩
theorem op_notinDct (hu : X.A.units + 1 < cLine) : OpR X (compareOp .NotIn) (rInDct true) := by
  intro pins s σ H y x v u Q I ry rx h
  obtain ⟨a, o, rfl, g, q⟩ := h
  obtain rfl : u = Value.ref a := rx
  exact d_notIn hu I g ry fun s3 I3 => ⟨.bl (!o.isSome), H, I3, rfl, by simpa using q⟩
theorem op_inSet : OpR X (compareOp .In) (rInSet X.w false) := fun pins s σ H x y v u Q I rx ry ⟨k, a, S, n, e1, e2, e3, q⟩ => or_sin pins s σ H x y v u Q I rx ry ⟨k, a, S, n, e1, e2, e3, by simpa using q⟩
theorem op_notinSet : OpR X (compareOp .NotIn) (rInSet X.w true) := fun pins s σ H x y v u Q I rx ry ⟨k, a, S, n, e1, e2, e3, q⟩ => or_snotin pins s σ H x y v u Q I rx ry ⟨k, a, S, n, e1, e2, e3, by simpa using q⟩
theorem op_inX (hu : X.A.units + 65 < cLine) : OpR X (compareOp .In) (rInX X.w X.K) := OpR.or (OpR.or (op_inD hu) (op_inDT hu)) (OpR.or (op_inDct (by omega)) op_inSet)
theorem op_notinX (hu : X.A.units + 65 < cLine) : OpR X (compareOp .NotIn) (rNotInX X.w X.K) := OpR.or (OpR.or (op_notInD hu) (op_notInDT hu)) (OpR.or (op_notinDct (by omega)) op_notinSet)
/-! ### d[k] -/
def rDGetV : L2.R2 := fun x y H Q => ∃ a v, x = .ref a ∧ DGet H a y (some v) ∧ Q v H
open PySem.Spec PyProof.Rows in
theorem ix_dct (hu : X.A.units + 1 < cLine) : IxR X rDGetV := by
  intro value slice pins s σ H x y v u Q I rx ry h hs
  obtain ⟨a, z, rfl, g, q⟩ := h
  obtain rfl : v = Value.ref a := rx
  have hT := dict_typeIs I g
  have h₂ : wpAny (model X.prog X.w) X.A (getItem (.ref a) u) (EP X pins σ Q) X.xe s := d_getItem hu I g ry fun w' s3 I3 rw' => ⟨z, H, I3, rw', q⟩
  unfold subscriptTail
  refine wpAny_bind ?_
  rw [getitemInPython_of_ne hT.not_modules]
  refine wpAny_bind (wpAny_specialOf hT PySem.F.slot_dict_getitem.lookup ?_)
  have fin : wpAny (model X.prog X.w) X.A (subscripted slice false (.ref a) u) (fun r s₃ => wpAny (model X.prog X.w) X.A (letTemporaryGo value (.ref a) r >>= fun _ => pure r) (EP X pins σ Q) X.xe s₃) X.xe s := by
    rw [hs]
    exact wpAny_operating (wpAny_mono h₂ (fun r s₃ h₃ => wpAny_bind (wpAny_letTemporaryGo (wpAny_pure h₃))) fun _ _ x => x)
  first
    | exact wpAny_pure (wpAny_bind fin)
    | exact wpAny_bind (wpAny_pure (wpAny_bind fin))
    | exact wpAny_bind fin

def gDGet : Op := fun S rs => match rs with
  | [a, b] => match ownDct S a, vw S b with
    | some l, some d => match keyOf d with
      | some k => match lookK l k with
        | some x => some (.im x)
        | none => none
      | none => none
    | _, _ => none
  | _ => none
theorem ok_dget {w : World} {K : PySem.W.Frag} : OpOk w K (RV2 rDGetV) gDGet := op_at fun σ S A B H vs rs F r Q sr x sb e q => by
  unfold gDGet at e
  split at e
  · split at e
    · rename_i l d e2 e1
      split at e
      · rename_i k ek
        split at e
        · rename_i y ey
          cases e
          obtain ⟨x, z, F1, F2, rfl, xa, xb⟩ := rrs2 x
          obtain ⟨a, kvs, rfl, ha, hk⟩ := ownDct_ok sr xa e2
          rw [keyOf_ok (vw_ok sr xb sb e1) ek]
          rcases kdp_look k hk with ⟨v, d, h1, h2, h3⟩ | ⟨h1, h2⟩
          · rw [h2] at ey
            cases ey
            exact ⟨_, _, rfl, a, v, rfl, by rw [← h1]; exact DGet.k ha, q _ _ rfl h3⟩
          · rw [h2] at ey; cases ey
        · cases e
      · cases e
    · cases e
  · cases e
def gDGetT : Op := fun S rs => match rs with
  | [a, b] => match ownDctT S a, vw S b with
    | some l, some d => match keyT d with
      | some k => match lookK l k with
        | some x => some (.im x)
        | none => none
      | none => none
    | _, _ => none
  | _ => none
theorem ok_dgetT {w : World} {K : PySem.W.Frag} : OpOk w K (RV2 rDGetV) gDGetT := op_at fun σ S A B H vs rs F r Q sr x sb e q => by
  unfold gDGetT at e
  split at e
  · split at e
    · rename_i l d e2 e1
      split at e
      · rename_i k ek
        split at e
        · rename_i y ey
          cases e
          obtain ⟨x, z, F1, F2, rfl, xa, xb⟩ := rrs2 x
          obtain ⟨a, kvs, rfl, ha, hk⟩ := ownDctT_ok sr xa e2
          obtain ⟨b, rfl, hb⟩ := keyT_ok (vw_ok sr xb sb e1) sb ek
          rcases kdp_look k hk with ⟨v, d, h1, h2, h3⟩ | ⟨h1, h2⟩
          · rw [h2] at ey
            cases ey
            exact ⟨_, _, rfl, a, v, rfl, by rw [← h1]; exact DGet.t ha hb, q _ _ rfl h3⟩
          · rw [h2] at ey; cases ey
        · cases e
      · cases e
    · cases e
  · cases e
def gIx : Op := fun S rs => match gOp hIx S rs with
  | some r => some r
  | none => match gDGet S rs with
    | some r => some r
    | none => gDGetT S rs
def rIxX (K : PySem.W.Frag) : L2.R2 := fun x y H Q => rIx K x y H Q ∨ rDGetV x y H Q
theorem ix_X (hu : X.A.units + 1 < cLine) : IxR X (rIxX X.K) := ix_seq.or (ix_dct hu)
theorem ok_ixX {w : World} {K : PySem.W.Frag} : OpOk w K (RV2 (rIxX K)) gIx := (OpOk.or ok_ix (OpOk.or ok_dget ok_dgetT)).imp fun vs H Q h => by
  rcases h with ⟨x, y, e, h⟩ | ⟨x, y, e, h⟩ | ⟨x, y, e, h⟩
  · exact ⟨x, y, e, .inl h⟩
  · exact ⟨x, y, e, .inr h⟩
  · exact ⟨x, y, e, .inr h⟩
end
/-! ### {}, {k: v, ..}, set() -/
def eDctT0 : SE := fun S => some (.fr (.dctT []), S)
def eDct0 : SE := fun S => some (.fr (.dct []), S)
def eSet0 : SE := fun S => some (.fr (.set []), S)
section
variable {X : Cx} {pos p : Pos}
theorem e_dct0 : E X (.Dict [] [] pos) eDct0 := pe_weak pe_dnewK fun σ H Q z => by
  obtain ⟨S, A, B, r, S', sr, ok, e, q⟩ := z
  cases e
  intro a ha
  obtain ⟨k2, s2⟩ := step_newA (o := .dK []) ok ha sr.tracked
  refine q _ _ ⟨A, B, [a], ⟨sr.step (Same.refl _) fun b hb o h => ?_, k2, s2, MuK.refl _⟩, .fr (.dct upd_same .nil)⟩
  rw [upd_ne (ne_of_none h ha)]; exact h
theorem e_dctT0 : E X (.Dict [] [] pos) eDctT0 := pe_weak pe_dnewT fun σ H Q z => by
  obtain ⟨S, A, B, r, S', sr, ok, e, q⟩ := z
  cases e
  intro a ha
  obtain ⟨k2, s2⟩ := step_newA (o := .dT []) ok ha sr.tracked
  refine q _ _ ⟨A, B, [a], ⟨sr.step (Same.refl _) fun b hb o h => ?_, k2, s2, MuK.refl _⟩, .fr (.dctT upd_same .nil)⟩
  rw [upd_ne (ne_of_none h ha)]; exact h
theorem e_set0 (hg : Gl X "set") (hm : X.mg "set" = none) : E X (.Call (.Name "set" p) [] [] pos) eSet0 := pe_weak (pe_callTy0 cr_set0 hg hm (by decide +kernel)) fun σ H Q z => by
  obtain ⟨S, A, B, r, S', sr, ok, e, q⟩ := z
  cases e
  refine ⟨rfl, fun a ha => ?_⟩
  obtain ⟨k2, s2⟩ := step_newA (o := SetO X.w a (fun _ => false) 0) ok ha sr.tracked
  refine q _ _ ⟨A, B, [a], ⟨sr.step (Same.refl _) fun b hb o h => ?_, k2, s2, MuK.refl _⟩, .fr (.set upd_same (fun k => by simp) rfl)⟩
  rw [upd_ne (ne_of_none h ha)]; exact h
end
/-- a written dict with written keys: the values -/
def mkD : List Key → List D → List (Key × D)
  | k :: ks, d :: ds => (k, d) :: mkD ks ds
  | _, _ => []
def eDisp (ks : List Key) (fs : SEs) : SE := fun S => match fs S with
  | some (rs, S') => match fzs rs with
    | some ds => if decide (ds.length = ks.length) && decide (ks.Nodup) then some (.fr (.dct (mkD ks ds)), S') else none
    | none => none
  | none => none
end Fl
/-! Fl: written dicts, methods of own objects, statements. -/
namespace Fl
open PySem L2

def sArgs : List SE → SEs
  | [] => sNil
  | f :: fs => sCons f (sArgs fs)

/-! ### a written dict -/
def eDspl (ks : List Key) (fl : List SE) : SE := eDisp ks (sArgs fl)
def trsOf (w : World) (K : PySem.W.Frag) : List Key → List SE → List (TE × TE)
  | k :: ks, f :: fs => (tC (kV k), T w K f) :: trsOf w K ks fs
  | _, _ => []
def zipK {α : Type} : List Key → List α → List (Key × α)
  | k :: ks, v :: vs => (k, v) :: zipK ks vs
  | _, _ => []
section
variable {w : World} {K : PySem.W.Frag} {σ : L2.St}
theorem trs_ok : ∀ {ks : List Key} {fl : List SE} {H : Hp} {Q : List (V × V) → Hp → Prop}, ks.length = fl.length → Ta w K (sArgs fl) σ H (fun vs H' => Q ((zipK ks vs).map fun kv => (kV kv.1, kv.2)) H') → tPairs (trsOf w K ks fl) σ H Q
  | [], [], H, Q, _, h => ta_nil h
  | k :: ks, f :: fs, H, Q, e, h => by
    show tC (kV k) σ H fun x H1 => T w K f σ H1 fun y H2 => tPairs (trsOf w K ks fs) σ H2 fun ps H3 => Q ((x, y) :: ps) H3
    exact (ta_cons h).mono fun y H2 h2 => trs_ok (by simpa using e) h2
theorem mergeK_snoc : ∀ (more acc : List (Key × V)), ((acc ++ more).map (·.1)).Nodup → mergeK acc more = acc ++ more
  | [], acc, _ => by simp [mergeK]
  | (k, v) :: more, acc, h => by
    have e : putK acc k v = acc ++ [(k, v)] := by
      unfold putK
      rw [if_neg]
      intro z
      rw [List.any_eq_true] at z
      obtain ⟨x, hx, e⟩ := z
      have e := of_decide_eq_true e
      rw [List.map_append, List.nodup_append] at h
      exact h.2.2 x.1 (List.mem_map.mpr ⟨x, hx, rfl⟩) k (by simp) e
    show mergeK (putK acc k v) more = _
    rw [e, mergeK_snoc more (acc ++ [(k, v)]) (by simpa using h)]
    simp
theorem zipK_keys {α : Type} : ∀ {ks : List Key} {vs : List α}, vs.length = ks.length → (zipK ks vs).map (·.1) = ks
  | [], [], _ => rfl
  | k :: ks, v :: vs, e => by
    show k :: (zipK ks vs).map (·.1) = k :: ks
    rw [zipK_keys (by simpa using e)]
theorem zipK_length {α : Type} : ∀ {ks : List Key} {vs : List α}, vs.length = ks.length → (zipK ks vs).length = ks.length
  | [], [], _ => rfl
  | k :: ks, v :: vs, e => by
    show (zipK ks vs).length + 1 = ks.length + 1
    rw [zipK_length (by simpa using e)]
theorem zipK_kdp {B : Hp} : ∀ {ks : List Key} {vs : List V} {ds : List D}, ds.length = ks.length → DpAll K B vs ds → KDp K B (zipK ks vs) (mkD ks ds)
  | [], _, _, e, .nil => .nil
  | k :: ks, _, _, e, .nil => by simp at e
  | [], _, _, e, .cons h r => by simp at e
  | k :: ks, _, _, e, .cons h r => .cons h (zipK_kdp (by simpa using e) r)
end
theorem e_disp {X : Cx} {pos : Pos} {keys : List (Option Expr)} {values : List Expr} {ks : List Key} {fl : List SE} (h : PPs X pos keys values (trsOf X.w X.K ks fl)) (hall : keys.all (·.isSome) = true) (hl : keys.length = values.length) (h0 : keys ≠ [])
    (h15 : keys.length ≤ 15) (hk : ks.length = fl.length) (h16 : ks.length ≤ 15) : E X (.Dict keys values pos) (eDspl ks fl) := pe_weak (pe_disp h hall hl h0 h15) fun σ H Q z => by
  obtain ⟨S, A, B, r, S', sr, ok, e, q⟩ := z
  unfold eDspl eDisp at e
  split at e
  · rename_i rs S1 e1
    split at e
    · rename_i ds e2
      split at e
      · rename_i hc
        cases e
        rw [Bool.and_eq_true] at hc
        have hlen := of_decide_eq_true hc.1
        have hnd := of_decide_eq_true hc.2
        intro p hp
        obtain ⟨k1, s1⟩ := step_newA (o := .dK []) ok hp sr.tracked
        have sr1 : SR X.w X.K B (upd H p (.dK [])) σ S A := sr.step (Same.refl _) fun a ha o h => by
          rw [upd_ne (ne_of_none h hp)]; exact h
        refine trs_ok hk ⟨S, A, B, rs, _, sr1, Ok.right (F := [p]) k1, e1, fun vs H2 ⟨A2, B2, F, g2, x2⟩ => ?_⟩
        obtain ⟨p1, p2, p3⟩ := pend (F := [p]) k1 g2.st g2.ok (fun a ha => by simp at ha; subst ha; exact ⟨_, upd_same⟩)
        have hp2 : H2 p = some (.dK []) := p3 p (by simp) _ upd_same
        have dd := x2.data (B' := ov B2 H2 F) (ov_same g2.ok.sub) (fun a ha => ov_in ha) e2
        have hvl : vs.length = ks.length := by rw [dps_length dd]; exact hlen
        refine ⟨hp2, zipK ks vs, rfl, ?_, ?_⟩
        · rw [zipK_length hvl]; exact h16
        · have em : mergeK [] (zipK ks vs) = zipK ks vs := by
            rw [mergeK_snoc _ [] (by rw [List.nil_append, zipK_keys hvl]; exact hnd)]
            rfl
          rw [em]
          have q1 : Ok (F ++ ([p] ++ A2)) B2 H2 := ok_mid p1
          obtain ⟨f1, f2⟩ := step_freeze q1
          obtain ⟨m1, m2⟩ := step_mut (o := .dK (zipK ks vs)) f1 (p := p) (by simp)
          refine q _ _ ⟨A2, ov B2 H2 F, [p], ⟨?_, m1, ?_, g2.mu⟩, .fr (.dct upd_same (zipK_kdp hlen dd))⟩
          · refine g2.sr.step (ov_same g2.ok.sub) fun a ha o h => ?_
            have n : a ≠ p := fun e => by
              subst e
              exact (List.nodup_append.mp (f1.nd)).2.2 a (by simp) a ha rfl
            rw [upd_ne n]; exact h
          · have t1 : Step ([p] ++ (F ++ A2)) B2 H2 ([p] ++ A2) (ov B2 H2 F) H2 := step_mid f2
            exact (s1.trans p2).trans (t1.trans m2)
      · cases e
    · cases e
  · cases e

/-! ### methods of own objects -/
abbrev Mt := O → List Rs → List Sl → Option (D × O)
def MtOk (w : World) (K : PySem.W.Frag) (R : V → List V → Hp → VK → Prop) (g : Mt) : Prop := ∀ (σ : L2.St) (S : List Sl) (A : List Addr) (B H : Hp) (v : V) (o : O) (As : List Addr) (vs : List V) (rs : List Rs) (F : List Addr) (d : D) (o' : O) (Q : VK),
  SR w K B H σ S A → Ok (F ++ A) B H → OwnR w K B H v o As → RRs w K σ B H vs rs F → g o rs S = some (d, o') →
  (∀ a u y, v = .ref a → a ∈ As → OwnR w K (ov B H F) (upd H a u) v o' As → Dp K (ov B H F) y d → Q y (upd H a u)) → R v vs H Q
def eMeth (c : O → Bool) (i : Nat) (fs : SEs) (g : Mt) : SE := fun S => match S[i]? with
  | some (.ow o0) => if c o0 then match fs S with
    | some (rs, S1) => match S1[i]? with
      | some (.ow o) => match g o rs S1 with
        | some (d, o') => some (.im d, S1.set i (.ow o'))
        | none => none
      | _ => none
    | none => none else none
  | some (.mu o0) => if c o0 then match fs S with
    | some (rs, S1) => match S1[i]? with
      | some (.mu o) => match g o rs S1 with
        | some (d, o') => some (.im d, S1.set i (.mu o'))
        | none => none
      | _ => none
    | none => none else none
  | _ => none
def isL : O → Bool
  | .lst _ => true
  | _ => false
def isS : O → Bool
  | .set _ => true
  | _ => false
theorem OwnR.isL {w : World} {K : PySem.W.Frag} {B H : Hp} {v : V} {o : O} {As : List Addr} (h : OwnR w K B H v o As) (e : Fl.isL o = true) : tyV K "list" v H := by
  cases h with
  | lst h r => exact .inl ⟨rfl, _, .inl (.inl h)⟩
  | dct h r => cases e
  | set h r n => cases e
  | rows h r => cases e
  | dctT h r => cases e
theorem OwnR.isS {w : World} {K : PySem.W.Frag} {B H : Hp} {v : V} {o : O} {As : List Addr} (h : OwnR w K B H v o As) (e : Fl.isS o = true) : ∃ a S n, v = .ref a ∧ H a = some (SetO w a S n) := by
  cases h with
  | lst h r => cases e
  | dct h r => cases e
  | set h r n => exact ⟨_, _, _, rfl, h⟩
  | rows h r => cases e
  | dctT h r => cases e
section
variable {w : World} {K : PySem.W.Frag} {σ : L2.St} {S : List Sl} {A : List Addr} {B H : Hp}
theorem muk_mu {S : List Sl} {i : Nat} {o o' : O} (h : S[i]? = some (.mu o)) : MuK S (S.set i (.mu o')) := fun j z e => by
  by_cases ij : i = j
  · subst ij
    have hl : i < S.length := (List.getElem?_eq_some_iff.mp h).1
    exact ⟨o', by rw [List.getElem?_set_self hl]⟩
  · exact ⟨z, by rw [List.getElem?_set_ne ij]; exact e⟩
theorem MuK.get {S S1 : List Sl} {i : Nat} {o o1 : O} (m : MuK S S1) (h : S[i]? = some (.mu o)) (h1 : S1[i]? = some (.ow o1)) : False := by
  obtain ⟨o', e⟩ := m i o h
  rw [h1] at e; cases e
/-- the state behind a change of the own object in slot i -/
theorem meth_fin {F : List Addr} {S0 : List Sl} {A0 : List Addr} {B0 H0 : Hp} {i : Nat} {v : V} {o o' : O} {vs : List V} {rs : List Rs} {d : D} {g : Mt} {R : V → List V → Hp → VK → Prop} {Q : VK} (hm : MtOk w K R g)
    (gg : Go w K σ S0 A0 B0 H0 S A B H F) (x : RRs w K σ B H vs rs F) (es : σ[i]? = some (some v)) (mu : Bool) (ei : S[i]? = some (if mu then .mu o else .ow o)) (e : g o rs S = some (d, o'))
    (q : ∀ v H', EPo w K σ S0 A0 B0 H0 (.im d) (S.set i (if mu then .mu o' else .ow o')) v H' → Q v H') : R v vs H Q := by
  obtain ⟨y, A1, As, A2, eA, es', sl, f⟩ := gg.sr.at ei
  rw [es] at es'
  cases es'
  have own : OwnR w K B H v o As := by
    cases mu
    · cases sl with
      | ow z => exact z
    · cases sl with
      | mu z => exact z
  refine hm σ S A B H v o As vs rs F d o' Q gg.sr gg.ok own x e fun a u y ev ha own' dd => ?_
  obtain ⟨f1, f2⟩ := step_freeze gg.ok
  have hA : a ∈ A := by rw [eA]; simp [ha]
  obtain ⟨m1, m2⟩ := step_mut (o := u) f1 hA fun vs e => own'.nt a ha vs (by rw [e]; exact upd_same)
  refine q y _ ⟨A, ov B H F, [], ⟨?_, m1, (gg.st.trans f2).trans m2, gg.mu.trans ?_⟩, .im dd⟩
  · have keep : Keep (A1 ++ A2) H (upd H a u) := fun b hb o h => by
      have n : b ≠ a := fun e => by
        subst e
        have nd := (ok_mid (eA ▸ f1)).nd
        exact (List.nodup_append.mp nd).2.2 b ha b hb rfl
      rw [upd_ne n]; exact h
    have z := f (x' := some v) (s' := if mu then .mu o' else .ow o') (As' := As) (ov_same gg.ok.sub) keep (by
      cases mu
      · exact .ow own'
      · exact .mu own')
    rw [set_same es] at z
    rw [eA]
    exact z
  · cases mu
    · exact muk_set fun z h => by rw [ei] at h; cases h
    · exact muk_mu ei
theorem t_meth {P : V → Hp → Prop} {c : O → Bool} {R : V → List V → Hp → VK → Prop} {g : Mt} {i : Nat} {fs : SEs} {Q : VK} (hm : MtOk w K R g) (ty : ∀ (B H : Hp) v o As, OwnR w K B H v o As → c o = true → P v H)
    (h : Fl.T w K (eMeth c i fs g) σ H Q) : (tVar i σ H fun x H1 => P x H1 ∧ Ta w K fs σ H1 fun xs H2 => R x xs H2 Q) := by
  obtain ⟨S, A, B, r, S', sr, ok, e, q⟩ := h
  unfold eMeth at e
  split at e
  · rename_i o0 e0
    obtain ⟨y, A1, As, A2, eA, es, sl, f⟩ := sr.at e0
    cases sl with
    | @ow v _ _ z =>
      split at e
      · rename_i hc
        refine ⟨v, es, ty B H v o0 As z hc, ?_⟩
        split at e
        · rename_i rs S1 e1
          split at e
          · rename_i o ei
            split at e
            · rename_i d o' eg
              cases e
              exact ⟨S, A, B, rs, S1, sr, ok, e1, fun vs H2 ⟨A2', B2, F, g2, x2⟩ => meth_fin hm g2 x2 es false ei eg q⟩
            · cases e
          · cases e
        · cases e
      · cases e
  · rename_i o0 e0
    obtain ⟨y, A1, As, A2, eA, es, sl, f⟩ := sr.at e0
    cases sl with
    | @mu v _ _ z =>
      split at e
      · rename_i hc
        refine ⟨v, es, ty B H v o0 As z hc, ?_⟩
        split at e
        · rename_i rs S1 e1
          split at e
          · rename_i o ei
            split at e
            · rename_i d o' eg
              cases e
              exact ⟨S, A, B, rs, S1, sr, ok, e1, fun vs H2 ⟨A2', B2, F, g2, x2⟩ => meth_fin hm g2 x2 es true ei eg q⟩
            · cases e
          · cases e
        · cases e
      · cases e
  · cases e
end
def mAppend : Mt := fun o rs _ => match o, rs with
  | .lst l, [r] => match r.fz with
    | some d => if szOk (l.length + 1) then some (.none, .lst (l ++ [d])) else none
    | none => none
  | _, _ => none
def mExtend : Mt := fun o rs S => match o, rs with
  | .lst l, [r] => match ownL S r with
    | some m => if szOk (l.length + m.length) then some (.none, .lst (l ++ m)) else none
    | none => none
  | _, _ => none
def mPop : Mt := fun o rs _ => match o, rs with
  | .lst l, [] => match l[l.length - 1]? with
    | some d => some (d, .lst l.dropLast)
    | none => none
  | _, _ => none
def mAdd : Mt := fun o rs S => match o, rs with
  | .set l, [r] => match vw S r with
    | some (.int k) => if decide (l.length + 1 ≤ 1000) then some (.none, .set (if k ∈ l then l else l ++ [k])) else none
    | _ => none
  | _, _ => none
section
variable {w : World} {K : PySem.W.Frag}
theorem rrs1 {σ : L2.St} {B H : Hp} {vs : List V} {a : Rs} {F : List Addr} (h : RRs w K σ B H vs [a] F) : ∃ x, vs = [x] ∧ RR w K σ B H x a F := by
  cases h with
  | cons h1 h =>
    cases h
    rw [List.append_nil]
    exact ⟨_, rfl, h1⟩
theorem dps_dropLast {B : Hp} : ∀ {vs : List V} {ds : List D}, DpAll K B vs ds → DpAll K B vs.dropLast ds.dropLast := fun {vs ds} r => by
  rw [List.dropLast_eq_take, List.dropLast_eq_take, dps_length r]
  exact dps_take _ r
theorem mok_append : MtOk w K rAppend mAppend := by
  intro σ S A B H v o As vs rs F d o' Q sr ok own x e q
  unfold mAppend at e
  split at e
  · rename_i l r
    split at e
    · rename_i d1 ed
      split at e
      · rename_i hs
        cases e
        obtain ⟨y, rfl, xr⟩ := rrs1 x
        cases own with
        | @lst a us _ h r =>
          refine ⟨a, us, y, rfl, rfl, h, ?_, q a _ _ rfl (by simp) (.lst upd_same (dps_append (dps_mono (ov_same ok.sub) r) (.cons (xr.data (ov_same ok.sub) (fun b hb => ov_in hb) ed) .nil))) .non⟩
          rw [dps_length r]
          exact Nat.lt_of_lt_of_le (Nat.lt_succ_self _) (szOk_line hs)
      · cases e
    · cases e
  · cases e
theorem mok_extend : MtOk w K rExtend mExtend := by
  intro σ S A B H v o As vs rs F d o' Q sr ok own x e q
  unfold mExtend at e
  split at e
  · rename_i l r
    split at e
    · rename_i m em
      split at e
      · rename_i hs
        cases e
        obtain ⟨y, rfl, xr⟩ := rrs1 x
        obtain ⟨b, zs, rfl, hb, rb⟩ := ownL_ok sr xr em
        cases own with
        | @lst a us _ h r =>
          refine ⟨a, b, us, zs, rfl, rfl, h, hb, ?_, q a _ _ rfl (by simp) (.lst upd_same (dps_append (dps_mono (ov_same ok.sub) r) (dps_mono (ov_same ok.sub) rb))) .non⟩
          rw [dps_length r, dps_length rb]
          exact szOk_line hs
      · cases e
    · cases e
  · cases e
theorem mok_pop : MtOk w K rPop mPop := by
  intro σ S A B H v o As vs rs F d o' Q sr ok own x e q
  unfold mPop at e
  split at e
  · rename_i l
    split at e
    · rename_i d1 ed
      cases e
      cases x
      cases own with
      | @lst a us _ h r =>
        obtain ⟨y, h1, h2⟩ := dps_get r ed
        exact ⟨a, us, y, rfl, rfl, h, by rw [dps_length r]; exact h1, q a _ _ rfl (by simp) (.lst upd_same (dps_mono (ov_same ok.sub) (dps_dropLast r))) (dp_mono (ov_same ok.sub) h2)⟩
    · cases e
  · cases e
theorem mok_add : MtOk w K (rSAdd w) mAdd := by
  intro σ S A B H v o As vs rs F d o' Q sr ok own x e q
  unfold mAdd at e
  split at e
  · rename_i l r
    split at e
    · rename_i k ek
      split at e
      · rename_i hs
        cases e
        obtain ⟨y, rfl, xr⟩ := rrs1 x
        have z := vw_ok sr xr ok.sub ek
        cases z
        cases own with
        | @set a f n _ h r hn =>
          refine ⟨a, k, f, n, rfl, rfl, h, ?_, q a _ _ rfl (by simp) (.set upd_same (fun j => ?_) ?_) .non⟩
          · rw [hn]
            exact Nat.lt_of_le_of_lt (of_decide_eq_true hs) (by decide)
          · rw [Bool.or_eq_true, r j, decide_eq_true_eq]
            split
            · rename_i hk
              exact ⟨fun z => z.elim id fun z => z ▸ hk, .inl⟩
            · rw [List.mem_append, List.mem_singleton]
          · by_cases hk : k ∈ l
            · rw [if_pos hk, if_pos ((r k).mpr hk), hn]
            · rw [if_neg hk, if_neg (fun z => hk ((r k).mp z)), hn, List.length_append, List.length_singleton]
      · cases e
    · cases e
  · cases e
end

end Fl
/-! Fl: statements, loops. -/
namespace Fl
open PySem L2

inductive Out where
  | nx (S : List Sl)
  | bk (S : List Sl)
  | ct (S : List Sl)
  | rt (r : Rs) (S : List Sl)
abbrev SS := List Sl → Option Out
def MuS (S : List Sl) (σ σ' : L2.St) (S' : List Sl) : Prop := ∀ (i : Nat) o, S[i]? = some (.mu o) → σ'[i]? = σ[i]? ∧ ∃ o', S'[i]? = some (.mu o')
theorem MuS.refl (S : List Sl) (σ : L2.St) : MuS S σ σ S := fun _ o h => ⟨rfl, o, h⟩
theorem MuS.trans {S S1 S2 : List Sl} {σ σ1 σ2 : L2.St} (a : MuS S σ σ1 S1) (b : MuS S1 σ1 σ2 S2) : MuS S σ σ2 S2 := fun i o h => by
  obtain ⟨e, o', h'⟩ := a i o h
  obtain ⟨e2, h2⟩ := b i o' h'
  exact ⟨e2.trans e, h2⟩
theorem MuK.s {S S' : List Sl} (h : MuK S S') (σ : L2.St) : MuS S σ σ S' := fun i o e => ⟨rfl, h i o e⟩
structure Gs (w : World) (K : PySem.W.Frag) (σ : L2.St) (S : List Sl) (A : List Addr) (B H : Hp) (σ' : L2.St) (S' : List Sl) (A' : List Addr) (B' H' : Hp) (F : List Addr) : Prop where
  sr : SR w K B' H' σ' S' A'
  ok : Ok (F ++ A') B' H'
  st : Step A B H (F ++ A') B' H'
  mu : MuS S σ σ' S'
theorem Go.gs {w : World} {K : PySem.W.Frag} {σ : L2.St} {S S' : List Sl} {A A' : List Addr} {B B' H H' : Hp} {F : List Addr} (g : Go w K σ S A B H S' A' B' H' F) : Gs w K σ S A B H σ S' A' B' H' F := ⟨g.sr, g.ok, g.st, g.mu.s σ⟩
def SPo (w : World) (K : PySem.W.Frag) (σ : L2.St) (S : List Sl) (A : List Addr) (B H : Hp) (S' : List Sl) (σ' : L2.St) (H' : Hp) : Prop := ∃ A' B', Gs w K σ S A B H σ' S' A' B' H' []
def RPo (w : World) (K : PySem.W.Frag) (σ : L2.St) (S : List Sl) (A : List Addr) (B H : Hp) (r : Rs) (S' : List Sl) (v : V) (H' : Hp) : Prop := ∃ σ' A' B' F, Gs w K σ S A B H σ' S' A' B' H' F ∧ RR w K σ' B' H' v r F
def Fin (w : World) (K : PySem.W.Frag) (D : Ends) (σ : L2.St) (S : List Sl) (A : List Addr) (B H : Hp) : Out → Prop
  | .nx S' => ∀ σ' H', SPo w K σ S A B H S' σ' H' → D.nx σ' H'
  | .bk S' => ∀ σ' H', SPo w K σ S A B H S' σ' H' → D.bk σ' H'
  | .ct S' => ∀ σ' H', SPo w K σ S A B H S' σ' H' → D.ct σ' H'
  | .rt r S' => ∀ v H', RPo w K σ S A B H r S' v H' → D.rt v H'
def Ts (w : World) (K : PySem.W.Frag) (F : SS) : TS := fun D σ H => ∃ S A B out, SR w K B H σ S A ∧ Ok A B H ∧ F S = some out ∧ Fin w K D σ S A B H out
def St' (X : Cx) (st : Stmt) (F : SS) : Prop := PS X st (Ts X.w X.K F)
def Ss (X : Cx) (st : List Stmt) (F : SS) : Prop := PSs X st (Ts X.w X.K F)
section
variable {X : Cx} {st : Stmt} {sts : List Stmt}
theorem ps_weak {t t' : TS} (h : PS X st t) (hw : ∀ D σ H, t' D σ H → t D σ H) : PS X st t' := ⟨fun pins s σ H D I h' => h.run pins s σ H D I (hw _ _ _ h')⟩
theorem pss_weak {t t' : TS} (h : PSs X sts t) (hw : ∀ D σ H, t' D σ H → t D σ H) : PSs X sts t' := ⟨fun pins s σ H D I h' => h.run pins s σ H D I (hw _ _ _ h')⟩
theorem ps_or2 {t t' : TS} (h : PS X st t) (h' : PS X st t') : PS X st (fun D σ H => t D σ H ∨ t' D σ H) := ⟨fun pins s σ H D I z => z.elim (h.run pins s σ H D I) (h'.run pins s σ H D I)⟩
end
section
variable {w : World} {K : PySem.W.Frag} {D : Ends} {σ σ1 σ2 : L2.St} {S S1 S2 : List Sl} {A A1 A2 : List Addr} {B B1 B2 H H1 H2 : Hp} {F F1 F2 : List Addr}
theorem Gs.refl (sr : SR w K B H σ S A) (ok : Ok A B H) : Gs w K σ S A B H σ S A B H [] := ⟨sr, ok, Step.refl, MuS.refl S σ⟩
theorem Gs.seq (g : Gs w K σ S A B H σ1 S1 A1 B1 H1 []) (h : Gs w K σ1 S1 A1 B1 H1 σ2 S2 A2 B2 H2 F2) : Gs w K σ S A B H σ2 S2 A2 B2 H2 F2 := ⟨h.sr, h.ok, g.st.trans h.st, g.mu.trans h.mu⟩
theorem Fin.from {out : Out} (g : Gs w K σ S A B H σ1 S1 A1 B1 H1 []) (h : Fin w K D σ S A B H out) : Fin w K D σ1 S1 A1 B1 H1 out := by
  cases out with
  | nx S' => exact fun σ' H' ⟨A', B', g'⟩ => h σ' H' ⟨A', B', g.seq g'⟩
  | bk S' => exact fun σ' H' ⟨A', B', g'⟩ => h σ' H' ⟨A', B', g.seq g'⟩
  | ct S' => exact fun σ' H' ⟨A', B', g'⟩ => h σ' H' ⟨A', B', g.seq g'⟩
  | rt r S' => exact fun v H' ⟨σ', A', B', F, g', x⟩ => h v H' ⟨σ', A', B', F, g.seq g', x⟩
end

/-! ### blocks -/
def sNop : SS := fun S => some (.nx S)
def sSeq (f g : SS) : SS := fun S => match f S with
  | some (.nx S1) => g S1
  | o => o
def sBrk : SS := fun S => some (.bk S)
def sCnt : SS := fun S => some (.ct S)
def sRet (f : SE) : SS := fun S => match f S with
  | some (.pl _, _) => none
  | some (r, S') => some (.rt r S')
  | none => none
def sRetN : SS := fun S => some (.rt (.im .none) S)
def sDrop (f : SE) : SS := fun S => match f S with
  | some (_, S') => some (.nx S')
  | none => none
def sIf (t : ST) (f g : SS) : SS := fun S => match t S with
  | some (true, S') => f S'
  | some (false, S') => g S'
  | none => none
/-- a statement that is never reached -/
def sDead : SS := fun _ => none
section
variable {X : Cx} {st : Stmt} {rest a b : List Stmt} {e c : Expr} {pos : Pos} {f g : SS} {h : SE} {t : ST}
theorem s_nil : Ss X [] sNop := pss_weak pss_nil fun D σ H ⟨S, A, B, out, sr, ok, e, q⟩ => by
  cases e
  exact q σ H ⟨A, B, Gs.refl sr ok⟩
theorem s_cons (h1 : St' X st f) (h2 : Ss X rest g) : Ss X (st :: rest) (sSeq f g) := pss_weak (pss_cons h1 h2) fun D σ H ⟨S, A, B, out, sr, ok, e, q⟩ => by
  unfold sSeq at e
  split at e
  · rename_i S1 e1
    exact ⟨S, A, B, .nx S1, sr, ok, e1, fun σ1 H1 ⟨A1, B1, g1⟩ => ⟨S1, A1, B1, out, g1.sr, g1.ok, e, q.from g1⟩⟩
  · rename_i hn
    refine ⟨S, A, B, out, sr, ok, e, ?_⟩
    cases out with
    | nx S' => exact absurd e (hn S')
    | bk S' => exact q
    | ct S' => exact q
    | rt r S' => exact q
theorem s_one (h1 : St' X st f) : Ss X [st] f := pss_one h1
theorem s_pass : St' X (.Pass pos) sNop := ps_weak ps_pass fun D σ H ⟨S, A, B, out, sr, ok, e, q⟩ => by
  cases e
  exact q σ H ⟨A, B, Gs.refl sr ok⟩
theorem s_brk : St' X (.Break pos) sBrk := ps_weak ps_break fun D σ H ⟨S, A, B, out, sr, ok, e, q⟩ => by
  cases e
  exact q σ H ⟨A, B, Gs.refl sr ok⟩
theorem s_cnt : St' X (.Continue pos) sCnt := ps_weak ps_continue fun D σ H ⟨S, A, B, out, sr, ok, e, q⟩ => by
  cases e
  exact q σ H ⟨A, B, Gs.refl sr ok⟩
theorem s_ret (he : E X e h) : St' X (.Return (some e) pos) (sRet h) := ps_weak (ps_ret he) fun D σ H ⟨S, A, B, out, sr, ok, e, q⟩ => by
  unfold sRet at e
  split at e
  · cases e
  · rename_i r S' hn e1
    cases e
    exact ⟨S, A, B, r, S', sr, ok, e1, fun v H' ⟨A', B', F, g', x⟩ => q v H' ⟨σ, A', B', F, g'.gs, x⟩⟩
  · cases e
theorem s_retN : St' X (.Return none pos) sRetN := ps_weak ps_retN fun D σ H ⟨S, A, B, out, sr, ok, e, q⟩ => by
  cases e
  exact q .non H ⟨σ, A, B, [], Gs.refl sr ok, .im .non⟩
theorem s_expr (he : E X e h) (hs : swapsWith e none pos.line X.env = pure false := by rfl) : St' X (.Expr e pos) (sDrop h) := ps_weak (ps_expr he hs) fun D σ H ⟨S, A, B, out, sr, ok, e, q⟩ => by
  unfold sDrop at e
  split at e
  · rename_i r S' e1
    cases e
    exact ⟨S, A, B, r, S', sr, ok, e1, fun v H' ⟨A', B', F, g', x⟩ => q σ H' ⟨A', B', g'.drop.gs⟩⟩
  · cases e
theorem s_if (hc : Et X c t) (ha : Ss X a f) (hb : Ss X b g) : St' X (.If c a b pos) (sIf t f g) := ps_weak (ps_if hc ha hb) fun D σ H ⟨S, A, B, out, sr, ok, e, q⟩ => by
  unfold sIf at e
  split at e
  · rename_i S' e1
    refine ⟨S, A, B, true, S', sr, ok, e1, fun H' ⟨A', B', g'⟩ => iteT ?_⟩
    exact ⟨S', A', B', out, g'.sr, g'.ok, e, q.from g'.gs⟩
  · rename_i S' e1
    refine ⟨S, A, B, false, S', sr, ok, e1, fun H' ⟨A', B', g'⟩ => iteF ?_⟩
    exact ⟨S', A', B', out, g'.sr, g'.ok, e, q.from g'.gs⟩
  · cases e
theorem s_dead : St' X st sDead := ps_weak ps_never fun D σ H ⟨S, A, B, out, sr, ok, e, q⟩ => by cases e
end

/-! ### stores -/
def Rs.sl : Rs → Option Sl
  | .im d => some (.im d)
  | .fr o => some (.ow o)
  | .pl _ => none
def isMu (S : List Sl) (i : Nat) : Bool := match S[i]? with
  | some (.mu _) => true
  | some _ => false
  | none => true
def sSet (i : Nat) (f : SE) : SS := fun S => match f S with
  | some (r, S') => match r.sl with
    | some s => if isMu S' i then none else some (.nx (S'.set i s))
    | none => none
  | none => none
/-- targets of data -/
abbrev STg := D → List Sl → Option (List Sl)
def gN (i : Nat) : STg := fun d S => if isMu S i then none else some (S.set i (.im d))
def gTs : List Nat → List D → List Sl → Option (List Sl)
  | [], [], S => some S
  | i :: is, d :: ds, S => match gN i d S with
    | some S' => gTs is ds S'
    | none => none
  | _, _, _ => none
def gT (is : List Nat) : STg := fun d S => match d with
  | .tuple ds => gTs is ds S
  | .list ds => gTs is ds S
  | _ => none
def sAsg (f : SE) (g : STg) : SS := fun S => match f S with
  | some (r, S') => match r.fz with
    | some d => match g d S' with
      | some S2 => some (.nx S2)
      | none => none
    | none => none
  | none => none
def Tg (w : World) (K : PySem.W.Frag) (g : STg) : TG := fun v σ H Q => ∃ S A B d S', SR w K B H σ S A ∧ Ok A B H ∧ Dp K B v d ∧ g d S = some S' ∧ ∀ σ', (∃ A', Gs w K σ S A B H σ' S' A' B H []) → Q σ' H
section
variable {w : World} {K : PySem.W.Frag} {σ : L2.St} {S : List Sl} {A : List Addr} {B H : Hp}
theorem isMu_not {S : List Sl} {i : Nat} (h : ¬ isMu S i = true) : ∃ s, S[i]? = some s ∧ ∀ o, s ≠ .mu o := by
  unfold isMu at h
  cases e : S[i]? with
  | none => rw [e] at h; exact absurd rfl h
  | some s =>
    rw [e] at h
    refine ⟨s, rfl, fun o z => ?_⟩
    subst z
    exact h rfl
theorem mus_set {S : List Sl} {σ : L2.St} {i : Nat} {s : Sl} {x : Option V} (h : ∀ o, S[i]? ≠ some (.mu o)) : MuS S σ (σ.set i x) (S.set i s) := fun j o e => by
  by_cases ij : i = j
  · subst ij; exact absurd e (h o)
  · exact ⟨List.getElem?_set_ne ij, o, by rw [List.getElem?_set_ne ij]; exact e⟩
/-- a result goes into a slot -/
theorem set_slot {i : Nat} {r : Rs} {s : Sl} {v : V} {F : List Addr} (sr : SR w K B H σ S A) (ok : Ok (F ++ A) B H) (x : RR w K σ B H v r F) (hr : r.sl = some s) (hm : ¬ isMu S i = true) :
    ∃ A', SR w K B H (σ.set i (some v)) (S.set i s) A' ∧ Ok A' B H ∧ (∀ a ∈ A', a ∈ F ++ A) ∧ MuS S σ (σ.set i (some v)) (S.set i s) := by
  obtain ⟨s0, e0, hn⟩ := isMu_not hm
  obtain ⟨y, A1, As, A2, eA, es, sl, f⟩ := sr.at e0
  have slr : SlR w K B H (some v) s F := by
    cases x with
    | im x => cases hr; exact .im x
    | fr x => cases hr; exact .ow x
    | pl x => cases hr
  have z := f (B' := B) (H' := H) (x' := some v) (s' := s) (As' := F) (Same.refl B) (fun a _ o h => h) slr
  refine ⟨_, z, ?_, ?_, mus_set fun o e => ?_⟩
  · have p : ∀ a ∈ A1 ++ (F ++ A2), a ∈ F ++ A := fun a ha => by
      rw [eA]
      simp only [List.mem_append] at ha ⊢
      rcases ha with h | h | h
      · exact .inr (.inl h)
      · exact .inl h
      · exact .inr (.inr (.inr h))
    refine ok.sub' ?_ p
    have nd := ok.nd
    rw [eA] at nd
    obtain ⟨n1, n2, n3⟩ := List.nodup_append.mp nd
    obtain ⟨m1, m2, m3⟩ := List.nodup_append.mp n2
    obtain ⟨l1, l2, l3⟩ := List.nodup_append.mp m2
    refine List.nodup_append.mpr ⟨m1, List.nodup_append.mpr ⟨n1, l2, fun a ha b hb => n3 a ha b (by simp [hb])⟩, fun a ha b hb e => ?_⟩
    rcases List.mem_append.mp hb with hb | hb
    · exact n3 b hb a (by simp [ha]) e.symm
    · exact m3 a ha b (by simp [hb]) e
  · intro a ha
    rw [eA]
    simp only [List.mem_append] at ha ⊢
    rcases ha with h | h | h
    · exact .inr (.inl h)
    · exact .inl h
    · exact .inr (.inr (.inr h))
  · rw [e0] at e
    cases e
    exact hn o rfl
theorem tg_name {i : Nat} {v : V} {Q : L2.St → Hp → Prop} (h : Tg w K (gN i) v σ H Q) : gName i v σ H Q := by
  obtain ⟨S, A, B, d, S', sr, ok, dd, e, q⟩ := h
  unfold gN at e
  split at e
  · cases e
  · rename_i hm
    cases e
    obtain ⟨A', z1, z2, z3, z4⟩ := set_slot (F := []) sr ok (.im dd) rfl hm
    exact q _ ⟨A', z1, z2, Step.refl.sub fun a ha => by simpa using z3 a ha, z4⟩
def Tgs (w : World) (K : PySem.W.Frag) (is : List Nat) : TGs := fun vs σ H Q => ∃ S A B ds S', SR w K B H σ S A ∧ Ok A B H ∧ DpAll K B vs ds ∧ gTs is ds S = some S' ∧ ∀ σ', (∃ A', Gs w K σ S A B H σ' S' A' B H []) → Q σ' H
theorem tgs_nil {vs : List V} {Q : L2.St → Hp → Prop} (h : Tgs w K [] vs σ H Q) : gNil vs σ H Q := by
  obtain ⟨S, A, B, ds, S', sr, ok, dd, e, q⟩ := h
  cases dd with
  | nil =>
    cases e
    exact ⟨rfl, q σ ⟨A, Gs.refl sr ok⟩⟩
  | cons h r => cases e
theorem tgs_cons {i : Nat} {is : List Nat} {vs : List V} {Q : L2.St → Hp → Prop} (h : Tgs w K (i :: is) vs σ H Q) : gCons (gName i) (Tgs w K is) vs σ H Q := by
  obtain ⟨S, A, B, ds, S', sr, ok, dd, e, q⟩ := h
  cases dd with
  | nil => cases e
  | @cons v vs d ds hd hr =>
    simp only [gTs] at e
    split at e
    · rename_i S1 e1
      refine ⟨v, vs, rfl, tg_name ⟨S, A, B, d, S1, sr, ok, hd, e1, fun σ1 ⟨A1, g1⟩ => ?_⟩⟩
      exact ⟨S1, A1, B, ds, S', g1.sr, g1.ok, hr, e, fun σ2 ⟨A2, g2⟩ => q σ2 ⟨A2, g1.seq g2⟩⟩
    · cases e
theorem gTs_len : ∀ (is : List Nat) (ds : List D) (S S' : List Sl), gTs is ds S = some S' → ds.length = is.length := by
  intro is
  induction is with
  | nil => intro ds S S' e; cases ds with
    | nil => rfl
    | cons _ _ => cases e
  | cons i is ih => intro ds S S' e; cases ds with
    | nil => cases e
    | cons d ds =>
      simp only [gTs] at e
      split at e
      · rw [List.length_cons, List.length_cons, ih _ _ _ e]
      · cases e
theorem tg_tup {is : List Nat} {v : V} {Q : L2.St → Hp → Prop} {n : Nat} (hn : is.length = n) (h : Tg w K (gT is) v σ H Q) : gTup K n (Tgs w K is) v σ H Q ∨ gUnl K n (Tgs w K is) v σ H Q := by
  obtain ⟨S, A, B, d, S', sr, ok, dd, e, q⟩ := h
  unfold gT at e
  split at e
  · rename_i ds
    cases dd with
    | @tup a vs _ h r =>
      exact .inl ⟨a, vs, rfl, sqt_mono ok.sub h, by rw [dps_length r, gTs_len _ _ _ _ e, hn], S, A, B, ds, S', sr, ok, r, e, q⟩
  · rename_i ds
    cases dd with
    | @lst a vs _ h r =>
      exact .inr ⟨a, vs, rfl, sql_mono ok.sub h, by rw [dps_length r, gTs_len _ _ _ _ e, hn], S, A, B, ds, S', sr, ok, r, e, q⟩
  · cases e
end
section
variable {X : Cx} {e tg : Expr} {h : SE} {g : STg} {pos pos' : Pos}
theorem pg_weak {t t' : TG} (h : PG X tg t) (hw : ∀ v σ H Q, t' v σ H Q → t v σ H Q) : PG X tg t' := ⟨fun pins s σ H v u Q I r q => h.run pins s σ H v u Q I r (hw _ _ _ _ q)⟩
theorem pgs_weak {tgs : List Expr} {t t' : TGs} (h : PGs X tgs t) (hw : ∀ v σ H Q, t' v σ H Q → t v σ H Q) : PGs X tgs t' := ⟨fun pins s σ H v u Q I r q => h.run pins s σ H v u Q I r (hw _ _ _ _ q)⟩
def Gt (X : Cx) (tg : Expr) (g : STg) : Prop := PG X tg (Tg X.w X.K g)
def Gts (X : Cx) (tg : List Expr) (is : List Nat) : Prop := PGs X tg (Tgs X.w X.K is)
theorem g_name (i : Nat) {x : Str} (hN : X.N.Nodup) (hi : X.N[i]? = some x := by rfl) (hx : Loc X.env.scope x := by first | exact Or.inl rfl | exact Or.inr rfl) (hf : X.fn x = true ∨ X.env.scope.names.lookup x = some .local := by first | exact .inl rfl | exact .inr rfl) :
    Gt X (.Name x pos) (gN i) := pg_weak (pg_name hN hi hx hf) fun _ _ _ _ z => tg_name z
theorem gs_nil : Gts X [] [] := pgs_weak pgs_nil fun _ _ _ _ z => tgs_nil z
theorem gs_cons (i : Nat) {x : Str} {es : List Expr} {is : List Nat} (hs : Gts X es is) (hN : X.N.Nodup) (hi : X.N[i]? = some x := by rfl) (hx : Loc X.env.scope x := by first | exact Or.inl rfl | exact Or.inr rfl)
    (hf : X.fn x = true ∨ X.env.scope.names.lookup x = some .local := by first | exact .inl rfl | exact .inr rfl) (hst : (assignEach (.Name x pos :: es) X.env).map (·.2) = assign (.Name x pos) X.env :: (assignEach es X.env).map (·.2) := by rfl) :
    Gts X (.Name x pos :: es) (i :: is) := pgs_weak (pgs_cons (pg_name hN hi hx hf) hs hst) fun _ _ _ _ z => tgs_cons z
theorem pg_or2 {t t' : TG} (h : PG X tg t) (h' : PG X tg t') : PG X tg (fun v σ H Q => t v σ H Q ∨ t' v σ H Q) := ⟨fun pins s σ H v u Q I r z => z.elim (h.run pins s σ H v u Q I r) (h'.run pins s σ H v u Q I r)⟩
theorem g_tupA {es : List Expr} {k n : Nat} {is : List Nat} (hc : X.calm = true) (hn : is.length = n) (h : Gts X es is) (hl : (assignEach es X.env).length = n := by rfl) (hst : (assignEach es X.env).findIdx? (·.1) = none := by rfl) :
    Gt X (.Tuple es k pos) (gT is) := pg_weak (pg_or2 (pg_tup hc h hl hst) (pg_unl hc h hl hst)) fun _ _ _ _ z => tg_tup hn z
theorem s_set (i : Nat) {x : Str} (hN : X.N.Nodup) (he : E X e h) (hi : X.N[i]? = some x := by rfl) (hx : Loc X.env.scope x := by first | exact Or.inl rfl | exact Or.inr rfl) (hs : swapsWith e (some (.Name x pos')) pos.line X.env = pure false := by rfl)
    (hf : X.fn x = true ∨ X.env.scope.names.lookup x = some .local := by first | exact .inl rfl | exact .inr rfl) : St' X (.Assign [.Name x pos'] e pos) (sSet i h) := ps_weak (ps_set hN hi hx he hs hf) fun D σ H ⟨S, A, B, out, sr, ok, e, q⟩ => by
  unfold sSet at e
  split at e
  · rename_i r S' e1
    split at e
    · rename_i s er
      split at e
      · cases e
      · rename_i hm
        cases e
        refine ⟨S, A, B, r, S', sr, ok, e1, fun v H' ⟨A', B', F, g', x⟩ => ?_⟩
        obtain ⟨A2, z1, z2, z3, z4⟩ := set_slot g'.sr g'.ok x er hm
        exact q _ _ ⟨A2, B', z1, z2, g'.st.sub z3, (g'.mu.s σ).trans z4⟩
    · cases e
  · cases e
theorem s_asg (he : E X e h) (hg : Gt X tg g) (hs : swapsWithSole [tg] e pos.line X.env = pure false := by rfl) (hw : swappedStores [tg] e X.env = pure none := by rfl) (h1 : (assignEach [tg] X.env).map (·.2) = [assign tg X.env] := by rfl) :
    St' X (.Assign [tg] e pos) (sAsg h g) := ps_weak (ps_asg he hg hs hw h1) fun D σ H ⟨S, A, B, out, sr, ok, e, q⟩ => by
  unfold sAsg at e
  split at e
  · rename_i r S' e1
    split at e
    · rename_i d ed
      split at e
      · rename_i S2 eg
        cases e
        refine ⟨S, A, B, r, S', sr, ok, e1, fun v H' ⟨A', B', F, g', x⟩ => ?_⟩
        obtain ⟨f1, f2⟩ := step_freeze g'.ok
        have sr1 : SR X.w X.K (ov B' H' F) H' σ S' A' := g'.sr.step (ov_same g'.ok.sub) fun a _ o h => h
        have g1 : Gs X.w X.K σ S A B H σ S' A' (ov B' H' F) H' [] := ⟨sr1, f1, g'.st.trans f2, g'.mu.s σ⟩
        exact ⟨S', A', ov B' H' F, d, S2, sr1, f1, x.data (ov_same g'.ok.sub) (fun a ha => ov_in ha) ed, eg, fun σ2 ⟨A2, g2⟩ => q σ2 _ ⟨A2, _, g1.seq g2⟩⟩
      · cases e
    · cases e
  · cases e
/-- a, b = e1, e2 -/
def sPar (i j : Nat) (f g : SE) : SS := fun S => match sCons f (sCons g sNil) S with
  | some ([r1, r2], S') => match r1.sl, r2.sl with
    | some s1, some s2 => if isMu S' i || isMu S' j then none else some (.nx ((S'.set i s1).set j s2))
    | _, _ => none
  | _ => none
theorem isMu_set {S : List Sl} {i j : Nat} {s : Sl} (ij : i ≠ j) (h : ¬ isMu S j = true) : ¬ isMu (S.set i s) j = true := by
  unfold isMu at h ⊢
  rw [List.getElem?_set_ne ij]
  exact h
theorem s_par {i j : Nat} {x y : Str} {a b : Expr} {px py pt : Pos} {kt k2 : Nat} {pt2 : Pos} {f g : SE} (hc : X.calm = true) (hN : X.N.Nodup) (hi : X.N[i]? = some x) (hj : X.N[j]? = some y) (hij : i ≠ j)
    (ha : Es X [a, b] (sCons f (sCons g sNil))) (hp : PS X (.Assign [.Tuple [.Name x px, .Name y py] kt pt] (.Tuple [a, b] k2 pt2) pos) (tPar i j (Ta X.w X.K (sCons f (sCons g sNil))))) :
    St' X (.Assign [.Tuple [.Name x px, .Name y py] kt pt] (.Tuple [a, b] k2 pt2) pos) (sPar i j f g) := ps_weak hp fun D σ H ⟨S, A, B, out, sr, ok, e, q⟩ => by
  unfold sPar at e
  split at e
  · rename_i r1 r2 S' e1
    split at e
    · rename_i s1 s2 es1 es2
      split at e
      · cases e
      · rename_i hm
        cases e
        rw [Bool.or_eq_true] at hm
        refine ⟨S, A, B, _, S', sr, ok, e1, fun vs H' ⟨A', B', F, g', x⟩ => ?_⟩
        cases x with
        | @cons v _ F1 FA _ _ x1 x =>
          cases x with
          | @cons u _ F2 FB _ _ x2 x =>
            cases x
            refine ⟨v, u, rfl, ?_⟩
            have gok := g'.ok
            have gst := g'.st
            rw [List.append_nil] at gok gst
            have o1 : Ok (F1 ++ (F2 ++ A')) B' H' := by rw [← List.append_assoc]; exact gok
            have o2 : Ok (F2 ++ (F1 ++ A')) B' H' := ok_mid o1
            obtain ⟨A1, z1, z2, z3, z4⟩ := set_slot g'.sr o2.right x1 es1 (fun h => hm (.inl h))
            have o3 : Ok (F2 ++ A1) B' H' := by
              refine o2.sub' ?_ fun a ha => ?_
              · refine List.nodup_append.mpr ⟨o2.left.nd, z2.nd, fun a ha b hb e => ?_⟩
                subst e
                exact o2.disj ha (z3 a hb)
              · rcases List.mem_append.mp ha with h | h
                · exact List.mem_append_left _ h
                · exact List.mem_append_right _ (z3 a h)
            have x2' : RR X.w X.K (σ.set i (some v)) B' H' u r2 F2 := by
              cases x2 with
              | im h => exact .im h
              | fr h => exact .fr h
              | pl h => cases es2
            obtain ⟨A2, y1, y2, y3, y4⟩ := set_slot z1 o3 x2' es2 (isMu_set hij fun h => hm (.inr h))
            refine q _ _ ⟨A2, B', y1, y2, gst.sub fun a ha => ?_, ((g'.mu.s σ).trans z4).trans y4⟩
            rcases List.mem_append.mp (y3 a ha) with h | h
            · simp [h]
            · rcases List.mem_append.mp (z3 a h) with h | h
              · simp [h]
              · simp [h]
    · cases e
  · cases e
end
end Fl
/-! Fl: loops, comprehensions. -/
namespace Fl
open PySem L2

abbrev SI := List Sl → Option (List D × List Sl)
/-- one item of a walk -/
def ItemOk (K : PySem.W.Frag) (B H1 : Hp) (x : V) (H2 : Hp) (d : D) : Prop := (H2 = H1 ∧ Dp K B x d) ∨ ∃ p vs es, x = .ref p ∧ d = .tuple es ∧ H1 p = none ∧ H2 = upd H1 p (.tup vs) ∧ DpAll K B vs es
def WalkD (K : PySem.W.Frag) (J : It) (B : Hp) (ds : List D) : Prop := ∃ (G : Hp → Prop) (Y : Nat → Hp → V → Hp → Prop), L2.Walk J ds.length G Y ∧ (∀ H, Same B H → G H) ∧ ∀ i x H1 H2 d, ds[i]? = some d → Same B H1 → Y i H1 x H2 → ItemOk K B H1 x H2 d
def Ti (w : World) (K : PySem.W.Frag) (it : SI) : TI := fun σ H R => ∃ S A B ds S', SR w K B H σ S A ∧ Ok A B H ∧ it S = some (ds, S') ∧ ∀ J H', (∃ A' B', Go w K σ S A B H S' A' B' H' [] ∧ WalkD K J B' ds) → R J H'
def Iw (X : Cx) (tg e : Expr) (it : SI) : Prop := PI X tg e (Ti X.w X.K it)
theorem pi_weak {X : Cx} {tg e : Expr} {t t' : TI} (h : PI X tg e t) (hw : ∀ σ H Q, t' σ H Q → t σ H Q) : PI X tg e t' := ⟨fun pins s σ H Q I h' => h.run pins s σ H Q I (hw _ _ _ h')⟩
/-- over a list or a tuple -/
def itOf (f : SE) : SI := fun S => match f S with
  | some (r, S') => match r.fz with
    | some (.list l) => some (l, S')
    | some (.tuple l) => some (l, S')
    | _ => none
  | none => none
def rngD (lo : Int) (n : Nat) : List D := (List.range n).map fun i => PyData.int (lo + (i : Nat))
def small62 (i : Int) : Bool := Nat.ble i.natAbs 4000000000
theorem small62_iff {i : Int} : small62 i = true ↔ i.natAbs ≤ 4000000000 := by unfold small62; rw [Nat.ble_eq]
theorem small62_b' {i : Int} (h : small62 i = true) : -(2 ^ 62) ≤ i ∧ i < 2 ^ 62 := by
  have z := small62_iff.mp h
  exact ⟨by omega, by omega⟩
def itR1 (f : SE) : SI := fun S => match f S with
  | some (r, S') => match vw S' r with
    | some (.int n) => if small62 n then some (rngD 0 n.toNat, S') else none
    | _ => none
  | none => none
def itR2 (f g : SE) : SI := fun S => match sCons f (sCons g sNil) S with
  | some (rs, S') => match vws S' rs with
    | some [.int a, .int b] => if small62 a && small62 b then some (rngD a (b - a).toNat, S') else none
    | _ => none
  | none => none
section
variable {X : Cx} {tg e a b : Expr} {f g : SE} {pos p : Pos}
theorem walkD_list {K : PySem.W.Frag} {B : Hp} {a : Addr} {vs : List V} {ds : List D} (h : SqL K B a vs) (r : DpAll K B vs ds) : WalkD K (Itl K a) B ds := by
  refine ⟨_, _, by rw [← dps_length r]; exact walk_list, fun H s => sql_mono s h, fun i x H1 H2 d hd s y => ?_⟩
  obtain ⟨v, h1, h2⟩ := dps_get r hd
  have z := y.2
  rw [h1] at z
  cases z
  exact .inl ⟨y.1, h2⟩
theorem walkD_tup {K : PySem.W.Frag} {B : Hp} {a : Addr} {vs : List V} {ds : List D} (h : B a = some (.tup vs)) (r : DpAll K B vs ds) : WalkD K (Itt K a) B ds := by
  refine ⟨_, _, by rw [← dps_length r]; exact walk_tup, fun H s => sqt_mono s h, fun i x H1 H2 d hd s y => ?_⟩
  obtain ⟨v, h1, h2⟩ := dps_get r hd
  have z := y.2
  rw [h1] at z
  cases z
  exact .inl ⟨y.1, h2⟩
theorem walkD_range {K : PySem.W.Frag} {B : Hp} (lo : Int) (n : Nat) : WalkD K (Itr lo n) B (rngD lo n) := by
  refine ⟨_, _, by unfold rngD; rw [List.length_map, List.length_range]; exact walk_range, fun _ _ => trivial, fun i x H1 H2 d hd s y => ?_⟩
  unfold rngD at hd
  rw [List.getElem?_map] at hd
  cases e : (List.range n)[i]? with
  | none => rw [e] at hd; cases hd
  | some j =>
    rw [e] at hd
    obtain ⟨h1, h2⟩ := List.getElem?_eq_some_iff.mp e
    rw [List.getElem_range] at h2
    subst h2
    cases hd
    refine .inl ⟨y.1, ?_⟩
    rw [y.2]
    exact .int _
theorem i_of (he : E X e f) : Iw X tg e (itOf f) := pi_weak (pi_or2 (pi_list he) (pi_tup he)) fun σ H R ⟨S, A, B, ds, S', sr, ok, e, q⟩ => by
  unfold itOf at e
  split at e
  · rename_i r S1 e1
    split at e
    · rename_i l er
      cases e
      refine .inl ⟨S, A, B, r, _, sr, ok, e1, fun v H1 ⟨A1, B1, F1, g1, x1⟩ => ?_⟩
      obtain ⟨f1, f2⟩ := step_freeze g1.ok
      have dd := x1.data (B' := ov B1 H1 F1) (ov_same g1.ok.sub) (fun a ha => ov_in ha) er
      cases dd with
      | lst h r => exact ⟨_, rfl, ⟨_, sql_mono f1.sub h⟩, q _ H1 ⟨A1, _, ⟨g1.sr.step (ov_same g1.ok.sub) fun a _ o h => h, f1, g1.st.trans f2, g1.mu⟩, walkD_list h r⟩⟩
    · rename_i l er
      cases e
      refine .inr ⟨S, A, B, r, _, sr, ok, e1, fun v H1 ⟨A1, B1, F1, g1, x1⟩ => ?_⟩
      obtain ⟨f1, f2⟩ := step_freeze g1.ok
      have dd := x1.data (B' := ov B1 H1 F1) (ov_same g1.ok.sub) (fun a ha => ov_in ha) er
      cases dd with
      | tup h r => exact ⟨_, rfl, ⟨_, sqt_mono f1.sub h⟩, q _ H1 ⟨A1, _, ⟨g1.sr.step (ov_same g1.ok.sub) fun a _ o h => h, f1, g1.st.trans f2, g1.mu⟩, walkD_tup h r⟩⟩
    · cases e
  · cases e
theorem i_r1 (hg : Gl X "range") (hm : X.mg "range" = none) (ha : E X a f) (hs : starEach [a] X.env = [(false, eval a X.env)] := by rfl) (hq : starEach [a] X.env = (false, eval a X.env) :: starEach [] X.env := by rfl) :
    Iw X tg (.Call (.Name "range" p) [a] [] pos) (itR1 f) := pi_weak (pi_range1 hg hm (es_cons ha es_nil hq) hs) fun σ H R ⟨S, A, B, ds, S', sr, ok, e, q⟩ => by
  unfold itR1 at e
  split at e
  · rename_i r S1 e1
    split at e
    · rename_i n en
      split at e
      · rename_i hn
        cases e
        have hb := small62_b' hn
        refine ⟨S, A, B, [r], S', sr, ok, by unfold sCons; rw [e1]; rfl, fun vs H1 ⟨A1, B1, F1, g1, x1⟩ => ?_⟩
        obtain ⟨y, rfl, xr⟩ := rrs1 x1
        have z := vw_ok g1.sr xr g1.ok.sub en
        cases z
        exact ⟨n, rfl, hb.1, hb.2, q _ H1 ⟨A1, B1, g1.drop, walkD_range 0 _⟩⟩
      · cases e
    · cases e
  · cases e
theorem i_r2 (hg : Gl X "range") (hm : X.mg "range" = none) (ha : E X a f) (hb : E X b g) (hs : starEach [a, b] X.env = [(false, eval a X.env), (false, eval b X.env)] := by rfl) (hs2 : starEach [b] X.env = [(false, eval b X.env)] := by rfl)
    (hq : starEach [a, b] X.env = (false, eval a X.env) :: starEach [b] X.env := by rfl) (hq2 : starEach [b] X.env = (false, eval b X.env) :: starEach [] X.env := by rfl) :
    Iw X tg (.Call (.Name "range" p) [a, b] [] pos) (itR2 f g) := pi_weak (pi_range2 hg hm (es_cons ha (es_cons hb es_nil hq2) hq) hs hs2) fun σ H R ⟨S, A, B, ds, S', sr, ok, e, q⟩ => by
  unfold itR2 at e
  split at e
  · rename_i rs S1 e1
    split at e
    · rename_i i j en
      split at e
      · rename_i hn
        cases e
        rw [Bool.and_eq_true] at hn
        have h1 := small62_b' hn.1
        have h2 := small62_b' hn.2
        refine ⟨S, A, B, rs, _, sr, ok, e1, fun vs H1 ⟨A1, B1, F1, g1, x1⟩ => ?_⟩
        obtain ⟨x, y, rfl, vx, vy⟩ := vws2 (vws_ok g1.sr g1.ok.sub x1 en)
        cases vx; cases vy
        exact ⟨i, j, rfl, ⟨h1.1, h1.2, h2.1, h2.2⟩, q _ H1 ⟨A1, B1, g1.drop, walkD_range i _⟩⟩
      · cases e
    · cases e
  · cases e
end
/-! ### enumerate, zip -/
def enumD : Nat → List D → List D
  | _, [] => []
  | i, d :: ds => .tuple [.int (i : Nat), d] :: enumD (i + 1) ds
def zipD : List D → List D → List D
  | a :: as, b :: bs => .tuple [a, b] :: zipD as bs
  | _, _ => []
theorem enumD_get : ∀ (ds : List D) (k i : Nat), (enumD k ds)[i]? = (ds[i]?).map fun d => PyData.tuple [.int ((k + i : Nat)), d]
  | [], k, i => by simp [enumD]
  | d :: ds, k, 0 => by simp [enumD]
  | d :: ds, k, i + 1 => by
    show (enumD (k + 1) ds)[i]? = _
    rw [enumD_get ds (k + 1) i]
    simp only [List.getElem?_cons_succ]
    rw [show k + 1 + i = k + (i + 1) by omega]
theorem enumD_length : ∀ (ds : List D) (k : Nat), (enumD k ds).length = ds.length
  | [], k => rfl
  | d :: ds, k => by show (enumD (k + 1) ds).length + 1 = _; rw [enumD_length ds]; rfl
theorem zipD_length : ∀ (as bs : List D), (zipD as bs).length = min as.length bs.length
  | [], bs => by simp [zipD]
  | a :: as, [] => by simp [zipD]
  | a :: as, b :: bs => by show (zipD as bs).length + 1 = _; rw [zipD_length as bs, List.length_cons, List.length_cons]; omega
theorem zipD_get : ∀ (as bs : List D) (i : Nat) (d : D), (zipD as bs)[i]? = some d → ∃ x y, as[i]? = some x ∧ bs[i]? = some y ∧ d = .tuple [x, y]
  | [], bs, i, d, h => by simp [zipD] at h
  | a :: as, [], i, d, h => by simp [zipD] at h
  | a :: as, b :: bs, 0, d, h => by simp [zipD] at h; exact ⟨a, b, rfl, rfl, h.symm⟩
  | a :: as, b :: bs, i + 1, d, h => by
    obtain ⟨x, y, h1, h2, h3⟩ := zipD_get as bs i d h
    exact ⟨x, y, by simpa using h1, by simpa using h2, h3⟩
def itEnum (f : SE) : SI := fun S => match f S with
  | some (r, S') => match r.fz with
    | some (.list l) => some (enumD 0 l, S')
    | _ => none
  | none => none
def itZip (f g : SE) : SI := fun S => match sCons f (sCons g sNil) S with
  | some (rs, S') => match fzs rs with
    | some [.list a, .list b] => some (zipD a b, S')
    | some [.tuple a, .tuple b] => some (zipD a b, S')
    | _ => none
  | none => none
section
variable {X : Cx} {e e2 : Expr} {f g : SE} {pos p tpos : Pos} {elts : List Expr} {kk : Nat}
theorem i_enum (hg : Gl X "enumerate") (hm : X.mg "enumerate" = none) (ha : E X e f) (hs : starEach [e] X.env = [(false, eval e X.env)] := by rfl) (hq : starEach [e] X.env = (false, eval e X.env) :: starEach [] X.env := by rfl) :
    Iw X (.Tuple elts kk tpos) (.Call (.Name "enumerate" p) [e] [] pos) (itEnum f) := pi_weak (pi_enum hg hm (es_cons ha es_nil hq) hs) fun σ H R ⟨S, A, B, ds, S', sr, ok, e, q⟩ => by
  unfold itEnum at e
  split at e
  · rename_i r S1 e1
    split at e
    · rename_i l er
      cases e
      refine ⟨S, A, B, [r], S', sr, ok, by unfold sCons; rw [e1]; rfl, fun vs H1 ⟨A1, B1, F1, g1, x1⟩ => ?_⟩
      obtain ⟨y, rfl, xr⟩ := rrs1 x1
      obtain ⟨f1, f2⟩ := step_freeze g1.ok
      have dd := xr.data (B' := ov B1 H1 F1) (ov_same g1.ok.sub) (fun a ha => ov_in ha) er
      cases dd with
      | @lst a vs _ h r =>
        refine ⟨a, vs, rfl, sql_mono f1.sub h, q _ H1 ⟨A1, _, ⟨g1.sr.step (ov_same g1.ok.sub) fun a _ o h => h, f1, g1.st.trans f2, g1.mu⟩, ?_⟩⟩
        refine ⟨_, _, by rw [enumD_length, ← dps_length r]; exact walk_enum, fun H s => sql_mono s h, fun i x H1 H2 d hd s y => ?_⟩
        obtain ⟨T, a1, b1, h1, h2, h3, h4, h5⟩ := y
        cases h4
        rw [enumD_get] at hd
        cases e : l[i]? with
        | none => rw [e] at hd; cases hd
        | some d0 =>
          rw [e] at hd
          cases hd
          obtain ⟨v, q1, q2⟩ := dps_get r e
          have h5 : vs[i]? = some b1 := h5
          rw [q1] at h5
          cases h5
          exact .inr ⟨T, _, _, h1, rfl, h2, h3, .cons (by rw [Nat.zero_add]; exact .int _) (.cons q2 .nil)⟩
    · cases e
  · cases e
theorem i_zip (hg : Gl X "zip") (hm : X.mg "zip" = none) (hp : PI X (.Tuple elts kk tpos) (.Call (.Name "zip" p) [e, e2] [] pos) (RZ.iZipA X.K (Ta X.w X.K (sCons f (sCons g sNil))))) :
    Iw X (.Tuple elts kk tpos) (.Call (.Name "zip" p) [e, e2] [] pos) (itZip f g) := pi_weak hp fun σ H R ⟨S, A, B, ds, S', sr, ok, e, q⟩ => by
  unfold itZip at e
  split at e
  · rename_i rs S1 e1
    split at e
    · rename_i a b er
      cases e
      refine ⟨S, A, B, rs, _, sr, ok, e1, fun vs H1 ⟨A1, B1, F1, g1, x1⟩ => ?_⟩
      obtain ⟨f1, f2⟩ := step_freeze g1.ok
      have dd := x1.data (B' := ov B1 H1 F1) (ov_same g1.ok.sub) (fun a ha => ov_in ha) er
      cases dd with
      | cons d1 dd =>
        cases dd with
        | cons d2 dd =>
          cases dd
          cases d1 with
          | @lst a1 v1 _ h1 r1 =>
            cases d2 with
            | @lst a2 v2 _ h2 r2 =>
              refine ⟨a1, a2, v1, v2, rfl, .inl ⟨sql_mono f1.sub h1, sql_mono f1.sub h2, q _ H1 ⟨A1, _, ⟨g1.sr.step (ov_same g1.ok.sub) fun a _ o h => h, f1, g1.st.trans f2, g1.mu⟩, ?_⟩⟩⟩
              refine ⟨_, _, walk_zip (by rw [zipD_length, ← dps_length r1, ← dps_length r2]), fun H s => ⟨sql_mono s h1, sql_mono s h2⟩, fun i x H1 H2 d hd s y => ?_⟩
              obtain ⟨T, x1, y1, z1, z2, z3, z4, z5⟩ := y
              obtain ⟨x0, y0, e1, e2, rfl⟩ := zipD_get _ _ _ _ hd
              obtain ⟨u1, p1, p2⟩ := dps_get r1 e1
              obtain ⟨u2, p3, p4⟩ := dps_get r2 e2
              have z4 : v1[i]? = some x1 := z4
              have z5 : v2[i]? = some y1 := z5
              rw [p1] at z4
              rw [p3] at z5
              cases z4; cases z5
              exact .inr ⟨T, _, _, z1, rfl, z2, z3, .cons p2 (.cons p4 .nil)⟩
    · rename_i a b er
      cases e
      refine ⟨S, A, B, rs, _, sr, ok, e1, fun vs H1 ⟨A1, B1, F1, g1, x1⟩ => ?_⟩
      obtain ⟨f1, f2⟩ := step_freeze g1.ok
      have dd := x1.data (B' := ov B1 H1 F1) (ov_same g1.ok.sub) (fun a ha => ov_in ha) er
      cases dd with
      | cons d1 dd =>
        cases dd with
        | cons d2 dd =>
          cases dd
          cases d1 with
          | @tup a1 v1 _ h1 r1 =>
            cases d2 with
            | @tup a2 v2 _ h2 r2 =>
              refine ⟨a1, a2, v1, v2, rfl, .inr ⟨sqt_mono f1.sub h1, sqt_mono f1.sub h2, q _ H1 ⟨A1, _, ⟨g1.sr.step (ov_same g1.ok.sub) fun a _ o h => h, f1, g1.st.trans f2, g1.mu⟩, ?_⟩⟩⟩
              have hw : L2.Walk (RZ.ItzT X.K a1 a2) (zipD a b).length (fun H => SqT X.K H a1 v1 ∧ SqT X.K H a2 v2) (YPair (fun i => v1[i]?) (fun i => v2[i]?)) := by
                have hn : (zipD a b).length = min v1.length v2.length := by rw [zipD_length, ← dps_length r1, ← dps_length r2]
                rw [hn]
                refine ⟨fun i _ hi q => ?_, fun _ q => ⟨v1, v2, q.1, q.2, by omega⟩, fun i H v H' _ q y => ?_⟩
                · have h1 : i < v1.length := by omega
                  have h2 : i < v2.length := by omega
                  exact ⟨v1, v2, v1[i], v2[i], q.1, q.2, by simp [h1], by simp [h2]⟩
                · obtain ⟨T, x, z, h1, h2, h3, h4, h5⟩ := y
                  exact ⟨T, x, z, h1, h2, h3, h4 v1 q.1, h5 v2 q.2⟩
              refine ⟨_, _, hw, fun H s => ⟨sqt_mono s h1, sqt_mono s h2⟩, fun i x H1 H2 d hd s y => ?_⟩
              obtain ⟨T, x1, y1, z1, z2, z3, z4, z5⟩ := y
              obtain ⟨x0, y0, e1, e2, rfl⟩ := zipD_get _ _ _ _ hd
              obtain ⟨u1, p1, p2⟩ := dps_get r1 e1
              obtain ⟨u2, p3, p4⟩ := dps_get r2 e2
              have z4 : v1[i]? = some x1 := z4
              have z5 : v2[i]? = some y1 := z5
              rw [p1] at z4
              rw [p3] at z5
              cases z4; cases z5
              exact .inr ⟨T, _, _, z1, rfl, z2, z3, .cons p2 (.cons p4 .nil)⟩
    · cases e
  · cases e
end
/-! ### for -/
def forL (g : STg) (body : SS) : List D → List Sl → Option Out
  | [], S => some (.nx S)
  | d :: ds, S => match g d S with
    | some S1 => match body S1 with
      | some (.nx S2) => forL g body ds S2
      | some (.ct S2) => forL g body ds S2
      | some (.bk S2) => some (.nx S2)
      | some (.rt r S2) => some (.rt r S2)
      | none => none
    | none => none
def sFor (it : SI) (g : STg) (body : SS) : SS := fun S => match it S with
  | some (ds, S1) => forL g body ds S1
  | none => none
def whileL (t : ST) (body : SS) : Nat → List Sl → Option Out
  | 0, _ => none
  | n + 1, S => match t S with
    | some (true, S1) => match body S1 with
      | some (.nx S2) => whileL t body n S2
      | some (.ct S2) => whileL t body n S2
      | some (.bk S2) => some (.nx S2)
      | some (.rt r S2) => some (.rt r S2)
      | none => none
    | some (false, S1) => some (.nx S1)
    | none => none
def sWhile (n : Nat) (t : ST) (body : SS) : SS := whileL t body n
section
variable {w : World} {K : PySem.W.Frag}
/-- an item comes: the base may grow by a pair -/
theorem item_step {σ : L2.St} {S : List Sl} {A : List Addr} {B B0 H1 H2 : Hp} {x : V} {d : D} (sr : SR w K B H1 σ S A) (ok : Ok A B H1) (s0 : Same B0 B) (y : ItemOk K B0 H1 x H2 d) : ∃ B', Gs w K σ S A B H1 σ S A B' H2 [] ∧ Dp K B' x d := by
  rcases y with ⟨rfl, dd⟩ | ⟨p, vs, es, rfl, rfl, hp, rfl, dd⟩
  · exact ⟨B, Gs.refl sr ok, dp_mono s0 dd⟩
  · obtain ⟨k2, s2⟩ := step_newB (o := .tup vs) ok hp sr.tracked
    refine ⟨_, ⟨sr.step s2.bx fun a ha o h => ?_, k2, s2, MuS.refl S σ⟩, .tup upd_same (dps_mono (s0.trans s2.bx) dd)⟩
    rw [upd_ne (ne_of_none h hp)]; exact h
end
section
variable {X : Cx} {tg iter test : Expr} {body : List Stmt} {it : SI} {g : STg} {f : SS} {t : ST} {pos : Pos}
theorem s_for (hp : PassesOwn (model X.prog X.w) X.A X.env X.xe) (hc : X.calm = true) (hi : Iw X tg iter it) (hg : Gt X tg g) (hb : Ss X body f) (hs : ∀ x, foldedSetIterable iter X.env x = pure x := by intro _; rfl) :
    St' X (.For tg iter body [] pos) (sFor it g f) := ps_weak (ps_for hp hc hi hg hb hs) fun D σ H ⟨S, A, B, out, sr, ok, e, q⟩ => by
  unfold sFor at e
  split at e
  · rename_i ds S1 e1
    refine ⟨S, A, B, ds, S1, sr, ok, e1, fun J H1 ⟨A1, B1, g1, G, Y, wk, hG, hY⟩ => ?_⟩
    have q1 := q.from g1.gs
    refine for_it wk (fun i σ' H' => ∃ S' A' B', Gs X.w X.K σ S1 A1 B1 H1 σ' S' A' B' H' [] ∧ forL g f (ds.drop i) S' = some out) ⟨S1, A1, B1, Gs.refl g1.sr g1.ok, e⟩ (fun i σ' H' _ ⟨S', A', B', g', _⟩ => hG H' (g'.st.bx.trans g'.ok.sub)) ?_ ?_
    · intro i x σ' H' H2 hi ⟨S', A', B', g', e'⟩ y
      obtain ⟨d, hd⟩ : ∃ d, ds[i]? = some d := ⟨ds[i], by simp [hi]⟩
      have ed : ds.drop i = d :: ds.drop (i + 1) := by
        obtain ⟨h1, h2⟩ := List.getElem?_eq_some_iff.mp hd
        rw [← h2]; exact List.drop_eq_getElem_cons h1
      rw [ed] at e'
      simp only [forL] at e'
      split at e'
      · rename_i S2 e2
        obtain ⟨B2, g2, dd⟩ := item_step g'.sr g'.ok g'.st.bx (hY i x H' H2 d hd (g'.st.bx.trans g'.ok.sub) y)
        refine ⟨S', A', B2, d, S2, g2.sr, g2.ok, dd, e2, fun σ3 ⟨A3, g3⟩ => ?_⟩
        have gg := (g'.seq g2).seq g3
        split at e'
        · rename_i S3 e3
          exact ⟨S2, A3, B2, _, g3.sr, g3.ok, e3, fun σ4 H4 ⟨A4, B4, g4⟩ => ⟨S3, A4, B4, gg.seq g4, e'⟩⟩
        · rename_i S3 e3
          exact ⟨S2, A3, B2, _, g3.sr, g3.ok, e3, fun σ4 H4 ⟨A4, B4, g4⟩ => ⟨S3, A4, B4, gg.seq g4, e'⟩⟩
        · rename_i S3 e3
          cases e'
          exact ⟨S2, A3, B2, _, g3.sr, g3.ok, e3, fun σ4 H4 ⟨A4, B4, g4⟩ => q1 σ4 H4 ⟨A4, B4, gg.seq g4⟩⟩
        · rename_i r S3 e3
          cases e'
          exact ⟨S2, A3, B2, _, g3.sr, g3.ok, e3, fun v H4 ⟨σ4, A4, B4, F, g4, x⟩ => q1 v H4 ⟨σ4, A4, B4, F, gg.seq g4, x⟩⟩
        · cases e'
      · cases e'
    · intro σ' H' ⟨S', A', B', g', e'⟩
      rw [List.drop_length] at e'
      cases e'
      exact q1 σ' H' ⟨A', B', g'⟩
  · cases e
theorem s_while (n : Nat) (hp : PassesOwn (model X.prog X.w) X.A X.env X.xe) (hc : Et X test t) (hb : Ss X body f) : St' X (.While test body [] pos) (sWhile n t f) := ps_weak (ps_while hp hc hb) fun D σ H ⟨S, A, B, out, sr, ok, e, q⟩ => by
  refine ⟨fun m σ' H' => ∃ S' A' B', Gs X.w X.K σ S A B H σ' S' A' B' H' [] ∧ whileL t f m S' = some out, ⟨n, S, A, B, Gs.refl sr ok, e⟩, ?_⟩
  intro m σ' H' ⟨S', A', B', g', e'⟩
  cases m with
  | zero => cases e'
  | succ m =>
    simp only [whileL] at e'
    split at e'
    · rename_i S1 e1
      refine ⟨S', A', B', true, S1, g'.sr, g'.ok, e1, fun H1 ⟨A1, B1, g1⟩ => iteT ?_⟩
      have gg := g'.seq g1.gs
      refine ⟨fun σ2 H2 => ∃ S' A' B', Gs X.w X.K σ S A B H σ2 S' A' B' H2 [] ∧ whileL t f m S' = some out, fun σ2 H2 z => ⟨m, Nat.lt_succ_self m, z⟩, ?_⟩
      split at e'
      · rename_i S3 e3
        exact ⟨S1, A1, B1, _, g1.sr, g1.ok, e3, fun σ4 H4 ⟨A4, B4, g4⟩ => ⟨S3, A4, B4, gg.seq g4, e'⟩⟩
      · rename_i S3 e3
        exact ⟨S1, A1, B1, _, g1.sr, g1.ok, e3, fun σ4 H4 ⟨A4, B4, g4⟩ => ⟨S3, A4, B4, gg.seq g4, e'⟩⟩
      · rename_i S3 e3
        cases e'
        exact ⟨S1, A1, B1, _, g1.sr, g1.ok, e3, fun σ4 H4 ⟨A4, B4, g4⟩ => q σ4 H4 ⟨A4, B4, gg.seq g4⟩⟩
      · rename_i r S3 e3
        cases e'
        exact ⟨S1, A1, B1, _, g1.sr, g1.ok, e3, fun v H4 ⟨σ4, A4, B4, F, g4, x⟩ => q v H4 ⟨σ4, A4, B4, F, gg.seq g4, x⟩⟩
      · cases e'
    · rename_i S1 e1
      cases e'
      exact ⟨S', A', B', false, S1, g'.sr, g'.ok, e1, fun H1 ⟨A1, B1, g1⟩ => iteF (q σ' H1 ⟨A1, B1, g'.seq g1.gs⟩)⟩
    · cases e'
end
end Fl
/-! Fl: comprehensions, stores, rows of lists, calls, defs. -/
namespace Fl
open PySem L2

/-! ### [f for x in it if t] -/
def lcL (i : Nat) (t : ST) (f : SE) : List D → List Sl → Option (List D × List Sl)
  | [], S => some ([], S)
  | d :: ds, S => match t (S.set i (.im d)) with
    | some (true, S2) => match f S2 with
      | some (r, S3) => match r.fz with
        | some e => match lcL i t f ds (S3.set i .un) with
          | some (es, S') => some (e :: es, S')
          | none => none
        | none => none
      | none => none
    | some (false, S2) => lcL i t f ds (S2.set i .un)
    | none => none
def isIm (S : List Sl) (i : Nat) : Bool := match S[i]? with
  | some (.im _) => true
  | some .un => true
  | _ => false
def eLc (it : SI) (i : Nat) (t : ST) (f : SE) : SE := fun S => match it S with
  | some (ds, S1) => if isIm S1 i then match lcL i t f ds (S1.set i .un) with
    | some (es, S2) => if szOk ds.length then some (.fr (.lst es), S2.set i (S1.getD i .un)) else none
    | none => none else none
  | none => none
def tY : ST := fun S => some (true, S)
section
variable {w : World} {K : PySem.W.Frag} {σ : L2.St} {S : List Sl} {A : List Addr} {B H : Hp}
theorem lcL_len (i : Nat) (t : ST) (f : SE) : ∀ (ds : List D) (S : List Sl) (es : List D) (S' : List Sl), lcL i t f ds S = some (es, S') → es.length ≤ ds.length
  | [], S, es, S', h => by cases h; exact Nat.le_refl _
  | d :: ds, S, es, S', h => by
    simp only [lcL] at h
    split at h
    · split at h
      · split at h
        · split at h
          · rename_i e1
            cases h
            have := lcL_len i t f ds _ _ _ e1
            rw [List.length_cons, List.length_cons]; omega
          · cases h
        · cases h
      · cases h
    · have := lcL_len i t f ds _ _ _ h
      rw [List.length_cons]; omega
    · cases h
/-- a slot is emptied -/
theorem un_slot {i : Nat} {s : Sl} (sr : SR w K B H σ S A) (h : S[i]? = some s) (x : Option V) : ∃ A', SR w K B H (σ.set i x) (S.set i .un) A' ∧ (∀ a ∈ A', a ∈ A) ∧ (A.Nodup → A'.Nodup) := by
  obtain ⟨y, A1, As, A2, eA, es, sl, f⟩ := sr.at h
  refine ⟨A1 ++ ([] ++ A2), f (Same.refl B) (fun a _ o h => h) .un, fun a ha => ?_, fun nd => ?_⟩
  · rw [eA]
    simp only [List.nil_append, List.mem_append] at ha ⊢
    rcases ha with h | h
    · exact .inl h
    · exact .inr (.inr h)
  · rw [eA] at nd
    obtain ⟨n1, n2, n3⟩ := List.nodup_append.mp nd
    exact List.nodup_append.mpr ⟨n1, (List.nodup_append.mp n2).2.1, fun a ha b hb => n3 a ha b (by simp at hb; simp [hb])⟩
/-- data into a slot -/
theorem im_slot {i : Nat} {s : Sl} {v : V} {d : D} (sr : SR w K B H σ S A) (h : S[i]? = some s) (dd : Dp K B v d) : ∃ A', SR w K B H (σ.set i (some v)) (S.set i (.im d)) A' ∧ (∀ a ∈ A', a ∈ A) ∧ (A.Nodup → A'.Nodup) := by
  obtain ⟨y, A1, As, A2, eA, es, sl, f⟩ := sr.at h
  refine ⟨A1 ++ ([] ++ A2), f (Same.refl B) (fun a _ o h => h) (.im dd), fun a ha => ?_, fun nd => ?_⟩
  · rw [eA]
    simp only [List.nil_append, List.mem_append] at ha ⊢
    rcases ha with h | h
    · exact .inl h
    · exact .inr (.inr h)
  · rw [eA] at nd
    obtain ⟨n1, n2, n3⟩ := List.nodup_append.mp nd
    exact List.nodup_append.mpr ⟨n1, (List.nodup_append.mp n2).2.1, fun a ha b hb => n3 a ha b (by simp at hb; simp [hb])⟩
theorem isIm_get {S : List Sl} {i : Nat} (h : isIm S i = true) : ∃ s, S[i]? = some s ∧ (s = .un ∨ ∃ d, s = .im d) := by
  unfold isIm at h
  cases e : S[i]? with
  | none => rw [e] at h; cases h
  | some s =>
    rw [e] at h
    cases s with
    | un => exact ⟨_, rfl, .inl rfl⟩
    | im d => exact ⟨_, rfl, .inr ⟨d, rfl⟩⟩
    | ow o => cases h
    | mu o => cases h
theorem set_set' {α : Type} (l : List α) (i : Nat) (x y : α) : (l.set i x).set i y = l.set i y := by simp
/-- the reading of a comprehension over one name -/
theorem t_lc {it : SI} {i : Nat} {t : ST} {f : SE} {Q : VK} (h : T w K (eLc it i t f) σ H Q) : tLc (Ti w K it) (gName i) (Tt w K t) (T w K f) [i] σ H Q := by
  obtain ⟨S, A, B, r, S', sr, ok, e, q⟩ := h
  unfold eLc at e
  split at e
  · rename_i ds S1 e1
    split at e
    · rename_i hi
      split at e
      · rename_i es S2 e2
        split at e
        · rename_i hsz
          cases e
          refine ⟨S, A, B, ds, S1, sr, ok, e1, fun J H1 ⟨A1, B1, g1, G, Y, wk, hG, hY⟩ => fun L hL => ?_⟩
          obtain ⟨s0, hs0, hs0'⟩ := isIm_get hi
          -- the start: slot i emptied, the new list waits
          obtain ⟨A2, r1, r2, r3⟩ := un_slot g1.sr hs0 none
          have ok2 : Ok A2 B1 H1 := g1.ok0.sub' (r3 g1.ok0.nd) r2
          obtain ⟨k3, s3⟩ := step_newA (o := .lst []) ok2 hL r1.tracked
          have r1' : SR w K B1 (upd H1 L (.lst [])) (σ.set i none) (S1.set i .un) A2 := r1.step (Same.refl _) fun a ha o h => by
            rw [upd_ne (ne_of_none h hL)]; exact h
          have g0 : Go w K (σ.set i none) (S1.set i .un) A2 B1 H1 (S1.set i .un) A2 B1 (upd H1 L (.lst [])) [L] := ⟨r1', k3, s3, MuK.refl _⟩
          refine lc_it wk (fun j H' => ∃ S' A' B' acc vs rest, Go w K (σ.set i none) (S1.set i .un) A2 B1 H1 S' A' B' H' [L] ∧ H' L = some (.lst vs) ∧ DpAll K B' vs acc ∧ acc.length ≤ j ∧ lcL i t f (ds.drop j) S' = some (rest, S2) ∧ acc ++ rest = es)
            ⟨_, A2, B1, [], [], es, g0, upd_same, .nil, Nat.le_refl _, e2, rfl⟩ (fun j H' _ ⟨S', A', B', acc, vs, rest, g', _⟩ => hG H' (g'.st.bx.trans g'.ok.sub)) ?_ ?_
          · intro j x H' H2 hj ⟨S', A', B', acc, vs, rest, g', hLv, hacc, hlen, e', hrest⟩ y
            obtain ⟨d, hd⟩ : ∃ d, ds[j]? = some d := ⟨ds[j], by simp [hj]⟩
            have ed : ds.drop j = d :: ds.drop (j + 1) := by
              obtain ⟨h1, h2⟩ := List.getElem?_eq_some_iff.mp hd
              rw [← h2]; exact List.drop_eq_getElem_cons h1
            rw [ed] at e'
            simp only [lcL] at e'
            have okL := g'.ok
            obtain ⟨B3, g3, dd⟩ := item_step g'.sr g'.ok.right g'.st.bx (hY j x H' H2 d hd (g'.st.bx.trans g'.ok.sub) y)
            obtain ⟨p1, p2, p3⟩ := pend (F := [L]) okL g3.st g3.ok (fun a ha => by simp at ha; subst ha; exact ⟨_, hLv⟩)
            have hL3 : H2 L = some (.lst vs) := p3 L (by simp) _ hLv
            have hl : i < (S1.set i Sl.un).length := by
              rw [List.length_set]
              exact (List.getElem?_eq_some_iff.mp hs0).1
            have hlS : i < S'.length := by
              rw [← g'.sr.length, g0.sr.length]; exact hl
            have hsl : ∃ s, S'[i]? = some s := ⟨S'[i], by simp [hlS]⟩
            obtain ⟨s1, hs1⟩ := hsl
            have hw : wipe σ [i] = σ.set i none := rfl
            rw [hw]
            show wipe ((σ.set i none).set i (some x)) [i] = σ.set i none ∧ _
            refine ⟨by show ((σ.set i none).set i (some x)).set i none = _; rw [set_set', set_set'], ?_⟩
            obtain ⟨A4, i1, i2, i3⟩ := im_slot g3.sr hs1 dd
            have ok4 : Ok A4 B3 H2 := g3.ok.sub' (i3 g3.ok.nd) i2
            have okL4 : Ok ([L] ++ A4) B3 H2 := p1.sub' (List.nodup_append.mpr ⟨p1.left.nd, i3 g3.ok.nd, fun a ha b hb e => p1.disj ha (e ▸ i2 b hb)⟩) fun a ha => by
              rcases List.mem_append.mp ha with h | h
              · exact List.mem_append_left _ h
              · exact List.mem_append_right _ (i2 a h)
            have noMu : ∀ (k : Nat) o, (S1.set i Sl.un)[k]? = some (.mu o) → i ≠ k := fun k o hk ik => by
              subst ik
              rw [List.getElem?_set_self (by rw [List.length_set] at hl; exact hl)] at hk
              cases hk
            -- from the turn's start to behind a piece of code that ran with L waiting
            have fin : ∀ {S5 : List Sl} {A5 : List Addr} {B5 H5 : Hp} {F5 : List Addr}, Go w K ((σ.set i none).set i (some x)) (S'.set i (.im d)) A4 B3 H2 S5 A5 B5 H5 F5 →
                ∃ A6, SR w K B5 H5 (σ.set i none) (S5.set i .un) A6 ∧ H5 L = some (.lst vs) ∧ DpAll K B5 vs acc ∧ Ok (F5 ++ ([L] ++ A6)) B5 H5 ∧ Step A2 B1 H1 (F5 ++ ([L] ++ A6)) B5 H5 ∧ MuK (S1.set i .un) (S5.set i .un) := by
              intro S5 A5 B5 H5 F5 g5
              obtain ⟨q1, q2, q3⟩ := pend (F := [L]) okL4 g5.st g5.ok (fun a ha => by simp at ha; subst ha; exact ⟨_, hL3⟩)
              have hl5 : i < S5.length := by
                rw [← g5.sr.length, List.length_set, g'.sr.length]; exact hlS
              obtain ⟨A6, u1, u2, u3⟩ := un_slot (s := S5[i]) g5.sr (List.getElem?_eq_getElem hl5) none
              rw [set_set', set_set'] at u1
              have st5 : Step ([L] ++ A') B' H' ([L] ++ (F5 ++ A5)) B5 H5 := (p2.sub (A'' := [L] ++ A4) fun a ha => by
                rcases List.mem_append.mp ha with h | h
                · exact List.mem_append_left _ h
                · exact List.mem_append_right _ (i2 a h)).trans q2
              have nd5 := g5.ok.right.nd
              have sub6 : ∀ a ∈ F5 ++ ([L] ++ A6), a ∈ [L] ++ (F5 ++ A5) := fun a ha => by
                simp only [List.mem_append] at ha ⊢
                rcases ha with h | h | h
                · exact .inr (.inl h)
                · exact .inl h
                · exact .inr (.inr (u2 a h))
              refine ⟨A6, u1, q3 L (by simp) _ hL3, dps_mono (g3.st.bx.trans g5.st.bx) hacc, ?_, g'.st.trans (st5.sub sub6), fun k o hk => ?_⟩
              · have q4 : Ok (F5 ++ ([L] ++ A5)) B5 H5 := ok_mid q1
                refine q4.sub' (List.nodup_append.mpr ⟨q4.left.nd, List.nodup_append.mpr ⟨q1.left.nd, u3 nd5, fun a ha b hb e => ?_⟩, fun a ha b hb e => ?_⟩) fun a ha => ?_
                · exact q1.disj ha (e ▸ List.mem_append_right _ (u2 b hb))
                · refine q4.disj ha (e ▸ ?_)
                  rcases List.mem_append.mp hb with h | h
                  · exact List.mem_append_left _ h
                  · exact List.mem_append_right _ (u2 b h)
                · simp only [List.mem_append] at ha ⊢
                  rcases ha with h | h | h
                  · exact .inl h
                  · exact .inr (.inl h)
                  · exact .inr (.inr (u2 a h))
              · have ik := noMu k o hk
                obtain ⟨o1, h1⟩ := g'.mu k o hk
                obtain ⟨o2, h2⟩ := g5.mu k o1 (by rw [List.getElem?_set_ne ik]; exact h1)
                exact ⟨o2, by rw [List.getElem?_set_ne ik]; exact h2⟩
            split at e'
            · rename_i S5 e5
              refine ⟨S'.set i (.im d), A4, B3, true, S5, i1, ok4, e5, fun H5 ⟨A5, B5, g5⟩ => iteT ?_⟩
              split at e'
              · rename_i r6 S6 e6
                split at e'
                · rename_i el hel
                  split at e'
                  · rename_i es' S7 e7
                    cases e'
                    refine ⟨S5, A5, B5, r6, S6, g5.sr, g5.ok0, e6, fun v H6 ⟨A6, B6, F6, g6, x6⟩ => ?_⟩
                    obtain ⟨A7, f1, f2, f3, f4, f5, f6⟩ := fin (g5.seq g6)
                    refine ⟨vs, f2, ?_, ?_⟩
                    · rw [dps_length f3]
                      have := of_decide_eq_true hsz
                      have hz : sizeLine = 2 ^ 24 := by decide
                      omega
                    · obtain ⟨m1, m2⟩ := step_freeze f4
                      have dd6 : Dp K (ov B6 H6 F6) v el := x6.data (ov_same f4.sub) (fun a ha => ov_in ha) hel
                      obtain ⟨k1, k2⟩ := step_mut (o := .lst (vs ++ [v])) m1 (p := L) (by simp)
                      refine ⟨_, A7, ov B6 H6 F6, acc ++ [el], vs ++ [v], es', ⟨?_, k1, (f5.trans m2).trans k2, f6⟩, upd_same, dps_append (dps_mono (ov_same f4.sub) f3) (.cons dd6 .nil), ?_, e7, ?_⟩
                      · refine f1.step (ov_same f4.sub) fun a ha o h => ?_
                        have n : a ≠ L := fun e => by
                          subst e
                          exact m1.disj (List.mem_singleton.mpr rfl) ha
                        rw [upd_ne n]; exact h
                      · rw [List.length_append, List.length_singleton]; omega
                      · rw [List.append_assoc]; exact hrest
                  · cases e'
                · cases e'
              · cases e'
            · rename_i S5 e5
              refine ⟨S'.set i (.im d), A4, B3, false, S5, i1, ok4, e5, fun H5 ⟨A5, B5, g5⟩ => iteF ?_⟩
              obtain ⟨A6, f1, f2, f3, f4, f5, f6⟩ := fin g5
              exact ⟨_, A6, B5, acc, vs, rest, ⟨f1, f4, f5, f6⟩, f2, f3, by omega, e', hrest⟩
            · cases e'
          · intro H' ⟨S', A', B', acc, vs, rest, g', hLv, hacc, hlen, e', hrest⟩
            rw [List.drop_length] at e'
            cases e'
            rw [List.append_nil] at hrest
            subst hrest
            have hl : i < S1.length := (List.getElem?_eq_some_iff.mp hs0).1
            have hl2 : i < S2.length := by rw [← g'.sr.length, List.length_set, g1.sr.length]; exact hl
            obtain ⟨x0, A8, As8, A9, eA8, es8, sl8, f8⟩ := g1.sr.at hs0
            have slr : SlR w K B' H' x0 s0 [] := by
              rcases hs0' with rfl | ⟨d, rfl⟩
              · exact .un
              · cases sl8 with
                | im h => exact .im (dp_mono g'.st.bx h)
            obtain ⟨y, C1, Cs, C2, eC, es, slc, fc⟩ := g'.sr.at (List.getElem?_eq_getElem hl2)
            have z := fc (B' := B') (H' := H') (x' := x0) (s' := s0) (As' := []) (Same.refl B') (fun a _ o h => h) slr
            rw [set_set', set_same es8] at z
            have subC : ∀ a ∈ C1 ++ ([] ++ C2), a ∈ A' := fun a ha => by
              rw [eC]
              simp only [List.nil_append, List.mem_append] at ha ⊢
              rcases ha with h | h
              · exact .inl h
              · exact .inr (.inr h)
            have ndC : (C1 ++ ([] ++ C2)).Nodup := by
              have nd := g'.ok.right.nd
              rw [eC] at nd
              obtain ⟨n1, n2, n3⟩ := List.nodup_append.mp nd
              exact List.nodup_append.mpr ⟨n1, (List.nodup_append.mp n2).2.1, fun a ha b hb => n3 a ha b (by simp at hb; simp [hb])⟩
            have sub1 : ∀ a ∈ [L] ++ (C1 ++ ([] ++ C2)), a ∈ [L] ++ A' := fun a ha => by
              rcases List.mem_append.mp ha with h | h
              · exact List.mem_append_left _ h
              · exact List.mem_append_right _ (subC a h)
            have eg : S1.getD i .un = s0 := by rw [List.getD_eq_getElem?_getD, hs0]; rfl
            rw [eg] at q
            refine q _ H' ⟨C1 ++ ([] ++ C2), B', [L], ⟨z, ?_, ?_, fun k o hk => ?_⟩, .fr (.lst hLv hacc)⟩
            · exact g'.ok.sub' (List.nodup_append.mpr ⟨g'.ok.left.nd, ndC, fun a ha b hb e => g'.ok.disj ha (e ▸ subC b hb)⟩) sub1
            · exact ((g1.st.sub (A'' := A2) fun a ha => by simpa using r2 a ha).trans g'.st).sub sub1
            · obtain ⟨o1, h1⟩ := g1.mu k o hk
              have ik : i ≠ k := fun e => by
                subst e
                rw [hs0] at h1
                rcases hs0' with rfl | ⟨d, rfl⟩ <;> cases h1
              obtain ⟨o2, h2⟩ := g'.mu k o1 (by rw [List.getElem?_set_ne ik]; exact h1)
              exact ⟨o2, by rw [List.getElem?_set_ne ik]; exact h2⟩
        · cases e
      · cases e
    · cases e
  · cases e
end
end Fl
/-! Fl: comprehensions as expressions, stores, rows of lists, calls, defs. -/
namespace Fl
open PySem L2

section
variable {X : Cx} {elt tg iter c : Expr} {ifs : List Expr} {scope : Scope} {own : List (Str × Nat)} {pos spos py : Pos} {it : SI} {t : ST} {f : SE} {i j : Nat} {y : Str}
/-- the comprehension's tests -/
def Ets (X : Cx) (es : List Expr) (t : ST) : Prop := PTs X es (Tt X.w X.K t)
theorem ets_nil : Ets X [] tY := ⟨fun pins s σ H Q I h => pts_nil.run pins s σ H Q I (by
  obtain ⟨S, A, B, r, S', sr, ok, e, q⟩ := h
  cases e
  exact q H ⟨A, B, Go.same sr ok⟩)⟩
theorem ets_one (h : Et X c t) : Ets X [c] t := pts_one h
theorem e_lc (hp : PE X (.ListComp elt [⟨tg, iter, ifs, 0⟩] scope pos) (tLc (Ti X.w X.K it) (gName i) (Tt X.w X.K t) (T X.w X.K f) [i])) : E X (.ListComp elt [⟨tg, iter, ifs, 0⟩] scope pos) (eLc it i t f) := pe_weak hp fun _ _ _ z => t_lc z
theorem s_setOf {e : Expr} {x : Str} {pos' : Pos} {h : SE} {te : TE} (hp : PS X (.Assign [.Name x pos'] e pos) (tAsg te (gName i))) (hw : ∀ σ H Q, T X.w X.K h σ H Q → te σ H Q) : St' X (.Assign [.Name x pos'] e pos) (sSet i h) := ps_weak hp fun D σ H ⟨S, A, B, out, sr, ok, e, q⟩ => by
  unfold sSet at e
  split at e
  · rename_i r S' e1
    split at e
    · rename_i s er
      split at e
      · cases e
      · rename_i hm
        cases e
        refine hw σ H _ ⟨S, A, B, r, S', sr, ok, e1, fun v H' ⟨A', B', F, g', x⟩ => ?_⟩
        obtain ⟨A2, z1, z2, z3, z4⟩ := set_slot g'.sr g'.ok x er hm
        exact q _ _ ⟨A2, B', z1, z2, g'.st.sub z3, (g'.mu.s σ).trans z4⟩
    · cases e
  · cases e
theorem s_setLc (hp : PS X (.Assign [.Name y py] (.ListComp elt [⟨tg, iter, ifs, 0⟩] scope pos) spos) (tAsg (tLc (Ti X.w X.K it) (gName i) (Tt X.w X.K t) (T X.w X.K f) [i]) (gName j))) :
    St' X (.Assign [.Name y py] (.ListComp elt [⟨tg, iter, ifs, 0⟩] scope pos) spos) (sSet j (eLc it i t f)) := s_setOf hp fun _ _ _ z => t_lc z
end

/-! ### x[i] = e -/
def mSet : Mt := fun o rs S => match o, rs with
  | .lst l, [r, ri] => match r.fz, vw S ri with
    | some d, some (.int k) => match ixN l.length k with
      | some m => some (.none, .lst (l.set m d))
      | none => none
    | _, _ => none
  | .dct l, [r, ri] => match r.fz, vw S ri with
    | some d, some kd => match keyOf kd with
      | some k => if szOk (l.length + 1) then some (.none, .dct (putD l k d)) else none
      | none => none
    | _, _ => none
  | .dctT l, [r, ri] => match r.fz, vw S ri with
    | some d, some kd => match keyT kd with
      | some k => if szOk (l.length + 1) then some (.none, .dctT (putD l k d)) else none
      | none => none
    | _, _ => none
  | _, _ => none
def rSetX (v : V) (vs : List V) (H : Hp) (Q : VK) : Prop := ∃ x k, vs = [x, k] ∧ (rSetL v k x H (fun H' => Q .non H') ∨ ∃ a H4, v = .ref a ∧ DPut H a k x H4 ∧ Q .non H4)
theorem mok_set {w : World} {K : PySem.W.Frag} : MtOk w K rSetX mSet := by
  intro σ S A B H v o As vs rs F d o' Q sr ok own x e q
  unfold mSet at e
  split at e
  · rename_i l r ri
    split at e
    · rename_i d1 k ed ek
      split at e
      · rename_i m em
        cases e
        obtain ⟨x1, x2, F1, F2, rfl, xa, xb⟩ := rrs2 x
        have z := vw_ok sr xb ok.sub ek
        cases z
        have dd : Dp K (ov B H F) x1 d1 := by
          cases x with
          | cons h1 h2 => exact h1.data (ov_same ok.sub) (fun b hb => ov_in (List.mem_append_left _ hb)) ed
        cases own with
        | @lst a us _ h r =>
          refine ⟨_, _, rfl, .inl ⟨a, us, k, m, rfl, rfl, h, by rw [dps_length r]; exact em, q a _ _ rfl (by simp) (.lst upd_same (dps_set m (dps_mono (ov_same ok.sub) r) dd)) .non⟩⟩
      · cases e
    · cases e
  · rename_i l r ri
    split at e
    · rename_i d1 kd ed ek
      split at e
      · rename_i k ekk
        split at e
        · rename_i hs
          cases e
          obtain ⟨x1, x2, F1, F2, rfl, xa, xb⟩ := rrs2 x
          have z := keyOf_ok (vw_ok sr xb ok.sub ek) ekk
          subst z
          have dd : Dp K (ov B H F) x1 d1 := by
            cases x with
            | cons h1 h2 => exact h1.data (ov_same ok.sub) (fun b hb => ov_in (List.mem_append_left _ hb)) ed
          cases own with
          | @dct a kvs _ h r =>
            refine ⟨_, _, rfl, .inr ⟨a, _, rfl, DPut.k h ?_, q a _ _ rfl (by simp) (.dct upd_same (kdp_put (kdp_mono (ov_same ok.sub) r) dd)) .non⟩⟩
            rw [kdp_length r]
            exact Nat.lt_of_lt_of_le (Nat.lt_succ_self _) (szOk_line hs)
        · cases e
      · cases e
    · cases e
  · rename_i l r ri
    split at e
    · rename_i d1 kd ed ek
      split at e
      · rename_i k ekk
        split at e
        · rename_i hs
          cases e
          obtain ⟨x1, x2, F1, F2, rfl, xa, xb⟩ := rrs2 x
          obtain ⟨b0, rfl, hb0⟩ := keyT_ok (vw_ok sr xb ok.sub ek) ok.sub ekk
          have dd : Dp K (ov B H F) x1 d1 := by
            cases x with
            | cons h1 h2 => exact h1.data (ov_same ok.sub) (fun b hb => ov_in (List.mem_append_left _ hb)) ed
          cases own with
          | @dctT a kvs _ h r =>
            refine ⟨_, _, rfl, .inr ⟨a, _, rfl, DPut.t h hb0 ?_, q a _ _ rfl (by simp) (.dctT upd_same (kdp_put (kdp_mono (ov_same ok.sub) r) dd)) .non⟩⟩
            rw [kdp_length r]
            exact Nat.lt_of_lt_of_le (Nat.lt_succ_self _) (szOk_line hs)
        · cases e
      · cases e
    · cases e
  · cases e
/-- slot j's own object, and what it becomes -/
def own? (S : List Sl) (j : Nat) : Option (Bool × O) := match S[j]? with
  | some (.ow o) => some (false, o)
  | some (.mu o) => some (true, o)
  | _ => none
def putO (S : List Sl) (j : Nat) (b : Bool) (o : O) : List Sl := S.set j (if b then .mu o else .ow o)
def sSub (j : Nat) (f h : SE) : SS := fun S => match f S with
  | some (r, S1) => match own? S1 j with
    | some (b0, _) => match h S1 with
      | some (ri, S2) => match own? S2 j with
        | some (b, o) => if b = b0 then match mSet o [r, ri] S2 with
          | some (_, o') => some (.nx (putO S2 j b o'))
          | none => none else none
        | none => none
      | none => none
    | none => none
  | none => none
theorem own?_get {S : List Sl} {j : Nat} {b : Bool} {o : O} (h : own? S j = some (b, o)) : S[j]? = some (if b then .mu o else .ow o) := by
  unfold own? at h
  split at h
  · rename_i o' e; cases h; exact e
  · rename_i o' e; cases h; exact e
  · cases h
theorem SR.own {w : World} {K : PySem.W.Frag} {B H : Hp} {σ : L2.St} {S : List Sl} {A : List Addr} {j : Nat} {b : Bool} {o : O} (sr : SR w K B H σ S A) (h : own? S j = some (b, o)) : ∃ v, σ[j]? = some (some v) ∧ ∃ As, OwnR w K B H v o As := by
  obtain ⟨y, A1, As, A2, eA, es, sl, f⟩ := sr.at (own?_get h)
  cases b
  · cases sl with
    | ow z => exact ⟨_, es, _, z⟩
  · cases sl with
    | mu z => exact ⟨_, es, _, z⟩
section
variable {X : Cx} {e i : Expr} {f h : SE} {pos p1 p2 : Pos} {x : Str}
theorem s_sub (j : Nat) (he : E X e f) (hi : E X i h) (h1 : PS X (.Assign [.Subscript (.Name x p1) i p2] e pos) (tAsg (T X.w X.K f) (gSub (tVar j) (T X.w X.K h) rSetL))) (h2 : PS X (.Assign [.Subscript (.Name x p1) i p2] e pos) (sDPut (tVar j) (T X.w X.K h) (T X.w X.K f))) :
    St' X (.Assign [.Subscript (.Name x p1) i p2] e pos) (sSub j f h) := ps_weak (ps_or2 h1 h2) fun D σ H ⟨S, A, B, out, sr, ok, e, q⟩ => by
  unfold sSub at e
  split at e
  · rename_i r S1 e1
    split at e
    · rename_i b0 o0 e2
      split at e
      · rename_i ri S2 e3
        split at e
        · rename_i b o e4
          split at e
          · rename_i hb
            subst hb
            split at e
            · rename_i d o' e5
              cases e
              -- the common end
              have fin : ∀ v1 H1, EPo X.w X.K σ S A B H r S1 v1 H1 → ∃ v, σ[j]? = some (some v) ∧ T X.w X.K h σ H1 fun u H2 => rSetX v [v1, u] H2 (fun _ H4 => D.nx σ H4) := by
                intro v1 H1 ⟨A1, B1, F1, g1, x1⟩
                obtain ⟨v, ev, _⟩ := g1.sr.own e2
                refine ⟨v, ev, S1, A1, B1, ri, S2, g1.sr, g1.ok0, e3, fun u H2 ⟨A2, B2, F2, g2, x2⟩ => ?_⟩
                obtain ⟨g3, b3, k3⟩ := g1.then_ x1.tracked g2
                have xx : RRs X.w X.K σ B2 H2 [v1, u] [r, ri] (F1 ++ F2) := by
                  have z := RRs.cons (x1.step b3 k3) (.cons x2 .nil)
                  rw [List.append_nil] at z
                  exact z
                exact meth_fin mok_set g3 xx ev b (own?_get e4) e5 fun y H4 ⟨A4, B4, F4, g4, _⟩ => q σ H4 ⟨A4, B4, g4.drop.gs⟩
              cases o with
              | lst l =>
                left
                refine ⟨S, A, B, r, S1, sr, ok, e1, fun v1 H1 z => ?_⟩
                obtain ⟨v, ev, ht⟩ := fin v1 H1 z
                refine ⟨v, ev, ?_⟩
                obtain ⟨A1, B1, F1, g1, x1⟩ := z
                refine ⟨S1, A1, B1, ri, S2, g1.sr, g1.ok0, e3, fun u H2 ⟨A2, B2, F2, g2, x2⟩ => ?_⟩
                obtain ⟨g3, b3, k3⟩ := g1.then_ x1.tracked g2
                have xx : RRs X.w X.K σ B2 H2 [v1, u] [r, ri] (F1 ++ F2) := by
                  have z := RRs.cons (x1.step b3 k3) (.cons x2 .nil)
                  rw [List.append_nil] at z
                  exact z
                have R := meth_fin mok_set g3 xx ev b (own?_get e4) e5 (Q := fun _ H4 => D.nx σ H4) fun y H4 ⟨A4, B4, F4, g4, _⟩ => q σ H4 ⟨A4, B4, g4.drop.gs⟩
                obtain ⟨x', k', ee, R⟩ := R
                cases ee
                rcases R with R | ⟨a, H4, ea, dp, _⟩
                · exact R
                · exfalso
                  obtain ⟨v', ev', As, own⟩ := g3.sr.own e4
                  rw [ev] at ev'
                  cases ev'
                  cases own with
                  | @lst a2 us _ h0 r0 =>
                    cases ea
                    rcases dp with ⟨kvs, k, hk, _⟩ | ⟨kvs, k, b', hk, _⟩
                    · rw [h0] at hk; cases hk
                    · rw [h0] at hk; cases hk
              | dct l =>
                right
                refine ⟨S, A, B, r, S1, sr, ok, e1, fun v1 H1 z => ?_⟩
                obtain ⟨v, ev, ht⟩ := fin v1 H1 z
                refine ⟨v, ev, ?_⟩
                obtain ⟨A1, B1, F1, g1, x1⟩ := z
                refine ⟨S1, A1, B1, ri, S2, g1.sr, g1.ok0, e3, fun u H2 ⟨A2, B2, F2, g2, x2⟩ => ?_⟩
                obtain ⟨g3, b3, k3⟩ := g1.then_ x1.tracked g2
                have xx : RRs X.w X.K σ B2 H2 [v1, u] [r, ri] (F1 ++ F2) := by
                  have z := RRs.cons (x1.step b3 k3) (.cons x2 .nil)
                  rw [List.append_nil] at z
                  exact z
                have R := meth_fin mok_set g3 xx ev b (own?_get e4) e5 (Q := fun _ H4 => D.nx σ H4) fun y H4 ⟨A4, B4, F4, g4, _⟩ => q σ H4 ⟨A4, B4, g4.drop.gs⟩
                obtain ⟨x', k', ee, R⟩ := R
                cases ee
                rcases R with ⟨a, us, k, m, ea, _, h4, _⟩ | ⟨a, H4, ea, dp, R⟩
                · exfalso
                  obtain ⟨v', ev', As, own⟩ := g3.sr.own e4
                  rw [ev] at ev'
                  cases ev'
                  cases own with
                  | @dct a2 us _ h0 r0 =>
                    cases ea
                    rw [h0] at h4; cases h4
                · exact ⟨a, H4, ea, dp, R⟩
              | dctT l =>
                right
                refine ⟨S, A, B, r, S1, sr, ok, e1, fun v1 H1 z => ?_⟩
                obtain ⟨v, ev, ht⟩ := fin v1 H1 z
                refine ⟨v, ev, ?_⟩
                obtain ⟨A1, B1, F1, g1, x1⟩ := z
                refine ⟨S1, A1, B1, ri, S2, g1.sr, g1.ok0, e3, fun u H2 ⟨A2, B2, F2, g2, x2⟩ => ?_⟩
                obtain ⟨g3, b3, k3⟩ := g1.then_ x1.tracked g2
                have xx : RRs X.w X.K σ B2 H2 [v1, u] [r, ri] (F1 ++ F2) := by
                  have z := RRs.cons (x1.step b3 k3) (.cons x2 .nil)
                  rw [List.append_nil] at z
                  exact z
                have R := meth_fin mok_set g3 xx ev b (own?_get e4) e5 (Q := fun _ H4 => D.nx σ H4) fun y H4 ⟨A4, B4, F4, g4, _⟩ => q σ H4 ⟨A4, B4, g4.drop.gs⟩
                obtain ⟨x', k', ee, R⟩ := R
                cases ee
                rcases R with ⟨a, us, k, m, ea, _, h4, _⟩ | ⟨a, H4, ea, dp, R⟩
                · exfalso
                  obtain ⟨v', ev', As, own⟩ := g3.sr.own e4
                  rw [ev] at ev'
                  cases ev'
                  cases own with
                  | @dctT a2 us _ h0 r0 =>
                    cases ea
                    rw [h0] at h4; cases h4
                · exact ⟨a, H4, ea, dp, R⟩
              | set l => cases e5
              | rows l => cases e5
            · cases e
          · cases e
        · cases e
      · cases e
    · cases e
  · cases e
end

/-! ### lists of lists -/
/-- [[..], [..], ..]: the inner lists stay own -/
def rowsOf : List Rs → Option (List (List D))
  | [] => some []
  | .fr (.lst l) :: rs => match rowsOf rs with
    | some ls => some (l :: ls)
    | none => none
  | _ => none
def gRowsD : Op := fun _ rs => match rowsOf rs with
  | some ls => if szOk ls.length then some (.fr (.rows ls)) else none
  | none => none
theorem rowsOf_ok {w : World} {K : PySem.W.Frag} {σ : L2.St} {B H : Hp} : ∀ {vs : List V} {rs : List Rs} {F : List Addr} {ls : List (List D)}, RRs w K σ B H vs rs F → rowsOf rs = some ls → vs = F.map V.ref ∧ Rows K B H F ls
  | _, _, _, ls, .nil, e => by cases e; exact ⟨rfl, .nil⟩
  | _, _, _, ls, .cons (r := r) (rs := rs) h q, e => by
    cases r with
    | im d => cases e
    | pl i => cases e
    | fr o =>
      cases o with
      | lst l =>
        simp only [rowsOf] at e
        split at e
        · rename_i ls' e1
          cases e
          obtain ⟨h1, h2⟩ := rowsOf_ok q e1
          cases h with
          | fr h =>
            cases h with
            | lst h0 r0 =>
              subst h1
              exact ⟨rfl, .cons h0 r0 h2⟩
        · cases e
      | dct l => cases e
      | dctT l => cases e
      | set l => cases e
      | rows l => cases e
theorem op_rowsD {w : World} {K : PySem.W.Frag} : OpOk w K (fun xs H Q => xs.length ≤ sizeLine ∧ ∀ p, H p = none → Q (.ref p) (upd H p (.lst xs))) gRowsD := by
  intro σ S A B H vs rs F r Q sr x ok e q
  unfold gRowsD at e
  split at e
  · rename_i ls e1
    split at e
    · rename_i hs
      cases e
      obtain ⟨rfl, hr⟩ := rowsOf_ok x e1
      have hl : ∀ {F : List Addr} {ls : List (List D)}, Rows K B H F ls → F.length = ls.length := by
        intro F ls h
        induction h with
        | nil => rfl
        | cons _ _ _ ih => rw [List.length_cons, List.length_cons, ih]
      refine ⟨by rw [List.length_map, hl hr]; exact szOk_line hs, fun p hp => ?_⟩
      obtain ⟨k2, s2⟩ := step_newA (o := .lst (F.map V.ref)) ok hp (fun a ha => by
        rcases List.mem_append.mp ha with h | h
        · exact rows_tracked hr a h
        · exact sr.tracked a h)
      have kp : ∀ (A' : List Addr), Keep A' H (upd H p (.lst (F.map V.ref))) := fun A' a _ o h => by
        rw [upd_ne (ne_of_none h hp)]; exact h
      exact q _ _ _ (p :: F) (.fr (.rows upd_same (rows_step (Same.refl _) (kp F) hr))) (sr.step (Same.refl _) (kp A)) k2 s2
    · cases e
  · cases e
theorem e_rows {X : Cx} {es : List Expr} {fs : SEs} {pos : Pos} (h : Es X es fs) (he : PE X (.List es pos) (tLst (Ta X.w X.K fs)) := by exact pe_lst (by assumption)) : E X (.List es pos) (opS gRowsD fs) := pe_weak he fun _ _ _ z => op_T op_rowsD z
/-- row k of slot j, read -/
def eRow (j : Nat) (k : Int) : SE := fun S => match own? S j with
  | some (_, .rows ls) => match atI ls k with
    | some l => some (.im (.int l.length), S)
    | none => none
  | _ => none
theorem rows_get {K : PySem.W.Frag} {B H : Hp} : ∀ {bs : List Addr} {ls : List (List D)} {i : Nat} {l : List D}, Rows K B H bs ls → ls[i]? = some l → ∃ b vs, bs[i]? = some b ∧ H b = some (.lst vs) ∧ DpAll K B vs l
  | _, _, i, l, .nil, e => by simp at e
  | _, _, 0, l, .cons (b := b) h d r, e => by simp at e; subst e; exact ⟨b, _, rfl, h, d⟩
  | _, _, i + 1, l, .cons h d r, e => by
    obtain ⟨b, vs, h1, h2, h3⟩ := rows_get (i := i) (l := l) r (by simpa using e)
    exact ⟨b, vs, by simpa using h1, h2, h3⟩
theorem rows_len {K : PySem.W.Frag} {B H : Hp} {bs : List Addr} {ls : List (List D)} (h : Rows K B H bs ls) : bs.length = ls.length := by
  induction h with
  | nil => rfl
  | cons _ _ _ ih => rw [List.length_cons, List.length_cons, ih]
theorem rows_set {K : PySem.W.Frag} {B B' H H' : Hp} (sb : Same B B') : ∀ {bs : List Addr} {ls : List (List D)} {i : Nat} {b : Addr} {vs : List V} {l : List D}, Rows K B H bs ls → bs.Nodup → bs[i]? = some b → (∀ a ∈ bs, a ≠ b → ∀ o, H a = some o → H' a = some o) →
    H' b = some (.lst vs) → DpAll K B' vs l → Rows K B' H' bs (ls.set i l)
  | _, _, i, b, vs, l, .nil, nd, e, k, h, d => by simp at e
  | _, _, 0, b, vs, l, .cons (b := b0) (bs := bs) h0 d0 r, nd, e, k, h, d => by
    simp at e; subst e
    have n : b0 ∉ bs := (List.nodup_cons.mp nd).1
    exact .cons h d (rows_step sb (fun a ha o hh => k a (List.mem_cons_of_mem _ ha) (fun z => n (z ▸ ha)) o hh) r)
  | _, _, i + 1, b, vs, l, .cons (b := b0) (bs := bs) h0 d0 r, nd, e, k, h, d => by
    have nd' := List.nodup_cons.mp nd
    have eb : bs[i]? = some b := by simpa using e
    have n : b0 ≠ b := fun z => nd'.1 (z ▸ (List.mem_of_getElem? eb))
    exact .cons (k b0 List.mem_cons_self n _ h0) (dps_mono sb d0) (rows_set sb r nd'.2 eb (fun a ha => k a (List.mem_cons_of_mem _ ha)) h d)
end Fl
/-! Fl: calls, defs. -/
namespace Fl
open PySem L2 PyProof.Rows

/-- what a def computes, on its arguments' slots: the result, the lent ones as they are behind -/
abbrev Fn := List Sl → Option (Rs × List Sl)
def keepMu : Sl → Sl → Sl
  | .mu _, .mu o => .mu o
  | _, _ => .un
def projS : List Sl → List Sl → List Sl
  | a :: as, s :: ss => keepMu a s :: projS as ss
  | _, _ => []
def isPl : Rs → Bool
  | .pl _ => true
  | _ => false
def fnOf (nloc : Nat) (body : SS) : Fn := fun args => match body (args ++ List.replicate nloc .un) with
  | some (.rt r S') => if isPl r || decide (S'.length ≠ args.length + nloc) then none else some (r, projS args S')
  | some (.nx S') => if decide (S'.length ≠ args.length + nloc) then none else some (.im .none, projS args S')
  | _ => none
def spF (w : World) (K : PySem.W.Frag) (n : Nat) (F : Fn) : Sp := fun vs H Q _ => vs.length = n ∧ ∃ S A B r S', SR w K B H (vs.map some) S A ∧ Ok A B H ∧ F S = some (r, S') ∧
  ∀ v H', (∃ A' B' Fr, SR w K B' H' (vs.map some) S' A' ∧ RR w K (vs.map some) B' H' v r Fr ∧ Ok (Fr ++ A') B' H' ∧ Step A B H (Fr ++ A') B' H') → Q v H'
section
variable {w : World} {K : PySem.W.Frag} {B H : Hp}
theorem SR.un : ∀ (σ : L2.St), SR w K B H σ (List.replicate σ.length .un) []
  | [] => .nil
  | x :: σ => by
    have z := SR.cons (SlR.un (x := x)) (SR.un σ)
    exact z
theorem SR.append : ∀ {σ σ' : L2.St} {S S' : List Sl} {A A' : List Addr}, SR w K B H σ S A → SR w K B H σ' S' A' → SR w K B H (σ ++ σ') (S ++ S') (A ++ A')
  | _, _, _, _, _, _, .nil, s => s
  | _, _, _, _, _, _, .cons h r, s => by
    rw [List.append_assoc]
    exact .cons h (SR.append r s)
/-- the lent slots alone -/
theorem SR.proj : ∀ {σ' : L2.St} {S' : List Sl} {A' : List Addr} (vs : List V) (args : List Sl), vs.length = args.length → SR w K B H σ' S' A' → (∀ (i : Nat) o, args[i]? = some (.mu o) → σ'[i]? = (vs.map some)[i]?) → args.length ≤ S'.length →
    ∃ A'', SR w K B H (vs.map some) (projS args S') A'' ∧ A''.Sublist A'
  | _, _, _, [], [], _, sr, _, _ => ⟨[], .nil, List.nil_sublist _⟩
  | _, _, _, v :: vs, a :: as, e, .nil, _, hl => by simp at hl
  | _, _, _, v :: vs, a :: as, e, .cons (x := x) (s := s) (As := As) h r, hm, hl => by
    obtain ⟨A2, h1, h2⟩ := SR.proj vs as (by simpa using e) r (fun i o hi => by simpa using hm (i + 1) o (by simpa using hi)) (by simpa using hl)
    have key : (∃ o o', a = .mu o ∧ s = .mu o') ∨ keepMu a s = .un := by
      cases a <;> cases s <;> first | exact .inr rfl | exact .inl ⟨_, _, rfl, rfl⟩
    rcases key with ⟨o, o', rfl, rfl⟩ | hk
    · have hx : x = some v := by
        have z := hm 0 o rfl
        simp at z
        exact z
      subst hx
      exact ⟨As ++ A2, .cons h h1, List.Sublist.append (List.Sublist.refl _) h2⟩
    · refine ⟨A2, ?_, h2.trans (List.sublist_append_right As _)⟩
      show SR w K B H (some v :: vs.map some) (keepMu a s :: projS as _) A2
      rw [hk]
      have z := SR.cons (SlR.un (x := some v)) h1
      exact z
end
/-- a def that a call may find by the name x -/
structure Callee (P : Program) (w : World) (K : PySem.W.Frag) (mg : Str → Option Value) (base : Heap) (k : Nat) (x : Str) (n : Nat) (F : Fn) : Prop where
  ex : ∃ (f : Addr) (fd : FuncData) (ps : List Str), FnOk P w K mg base CX0 k f fd ps (spF w K n F) ∧ mg x = some (.ref f) ∧ PySem.W.keepIn K (.ref f) = true ∧ L2.Binds K fd ps []
theorem start_eq (N : List Str) (vs : List V) : start N vs = vs.map some ++ List.replicate (N.length - vs.length) none := rfl
section
variable {P : Program} {w : World} {K : PySem.W.Frag} {mg : Str → Option Value} {base : Heap}
/-- a body at its arguments -/
theorem fn_body {X : Cx} {N : List Str} {n nloc : Nat} {F : SS} {body : List Stmt} (hw : X.w = w) (hK : X.K = K) (hN : N.length = n + nloc) (z : Ss X body F) {vs : List V} {H : Hp} {Q : VK} {E : XK} (h : spF w K n (fnOf nloc F) vs H Q E) :
    ∃ t, PSs X body t ∧ t { nx := fun _ H' => Q .non H', rt := Q } (start N vs) H := by
  obtain ⟨hl, S, A0, B, r, S', sr, ok, e, q⟩ := h
  refine ⟨_, z, ?_⟩
  rw [hw, hK]
  have hS : S.length = vs.length := by rw [← sr.length, List.length_map]
  have es : start N vs = vs.map some ++ List.replicate nloc none := by
    rw [start_eq, hl, hN, Nat.add_sub_cancel_left]
  have sr0 : SR w K B H (start N vs) (S ++ List.replicate nloc .un) A0 := by
    rw [es]
    have z := sr.append (SR.un (w := w) (K := K) (B := B) (H := H) (List.replicate nloc none))
    rw [List.length_replicate, List.append_nil] at z
    exact z
  unfold fnOf at e
  -- what is told to the caller
  have fin : ∀ {σ' : L2.St} {S2 : List Sl} {A' : List Addr} {B' H' : Hp} {Fr : List Addr} {v : V} {r : Rs}, isPl r = false → S2.length = S.length + nloc → Gs w K (start N vs) (S ++ List.replicate nloc .un) A0 B H σ' S2 A' B' H' Fr → RR w K σ' B' H' v r Fr →
      (∀ v H', (∃ A' B' Fr, SR w K B' H' (vs.map some) (projS S S2) A' ∧ RR w K (vs.map some) B' H' v r Fr ∧ Ok (Fr ++ A') B' H' ∧ Step A0 B H (Fr ++ A') B' H') → Q v H') → Q v H' := by
    intro σ' S2 A' B' H' Fr v r hp hlen g x q
    have lenS : S.length ≤ S2.length := by omega
    obtain ⟨A2, p1, p2⟩ := SR.proj vs S hS.symm g.sr (fun i o hi => by
      have hi' : (S ++ List.replicate nloc .un)[i]? = some (.mu o) := by
        rw [List.getElem?_append_left (List.getElem?_eq_some_iff.mp hi).1]; exact hi
      obtain ⟨z, _⟩ := g.mu i o hi'
      rw [z, es, List.getElem?_append_left]
      rw [List.length_map, ← hS]; exact (List.getElem?_eq_some_iff.mp hi).1) lenS
    have sub : ∀ a ∈ Fr ++ A2, a ∈ Fr ++ A' := fun a ha => by
      rcases List.mem_append.mp ha with h | h
      · exact List.mem_append_left _ h
      · exact List.mem_append_right _ (p2.subset h)
    refine q v H' ⟨A2, B', Fr, p1, ?_, g.ok.sub' ?_ sub, g.st.sub sub⟩
    · cases x with
      | im h => exact .im h
      | fr h => exact .fr h
      | pl h => cases hp
    · exact (List.Sublist.append (List.Sublist.refl Fr) p2).nodup g.ok.nd
  split at e
  · rename_i r1 S1 e1
    split at e
    · cases e
    · rename_i hp
      rw [Bool.or_eq_true, decide_eq_true_eq] at hp
      cases e
      exact ⟨_, A0, B, _, sr0, ok, e1, fun v H' ⟨σ', A', B', Fr, g, x⟩ => fin (by
        cases h : isPl r with
        | false => rfl
        | true => exact absurd (.inl h) hp) (Classical.byContradiction fun h => hp (.inr h)) g x q⟩
  · rename_i S1 e1
    split at e
    · cases e
    · rename_i hp
      rw [decide_eq_true_eq] at hp
      cases e
      exact ⟨_, A0, B, _, sr0, ok, e1, fun σ' H' ⟨A', B', g⟩ => fin (v := .non) (r := .im .none) rfl (Classical.byContradiction fun h => hp h) g (.im .non) q⟩
  · cases e
/-- THE RULE for a def -/
theorem fn_ok {x qual : Str} {st : Stmt} {f : Addr} {fd : FuncData} {N ps : List Str} {k n nloc : Nat} {F : SS} (FF : L2.Fun K x qual st f fd) (Sc : FnScope N ps (defScope st)) (hn : ps.length = n) (hN : N.length = n + nloc)
    (hb : ∀ (cdv : Value) (A : Around) (outer : List Env) (s : Shared) (H : Hp), Room k (A.deeper (envOfC qual (defScope st) s.heap.objs.size f cdv)) → Ss (cxOf CX0 P w K mg base N qual (defScope st) f cdv A outer s H (fun _ _ _ => False)).nox (defBody st) F) :
    FnOk P w K mg base CX0 (k + 1) f fd ps (spF w K n (fnOf nloc F)) := by
  have hEE : ∀ (cdv : Value) (A : Around) (outer : List Env) (s : Shared) (H : Hp) (EE : XK), (cxOf CX0 P w K mg base N qual (defScope st) f cdv A outer s H EE).nox = (cxOf CX0 P w K mg base N qual (defScope st) f cdv A outer s H (fun _ _ _ => False)).nox := fun cdv A outer s H EE => rfl
  refine FF.ok Sc (fun vs H Q E h => by rw [h.1, hn]) (fun cdv A outer s H vs Q EE hr h => ?_)
  have z := hb cdv A outer s H hr
  rw [← hEE cdv A outer s H EE] at z
  exact fn_body rfl rfl hN z h
end
end Fl
/-! Fl: calls, methods and stores of lists of lists. -/
namespace Fl
open PySem L2 PyProof.Rows

/-- f(e, ..): nothing is lent -/
def eCall (n : Nat) (F : Fn) (fs : SEs) : SE := fun S => match fs S with
  | some (rs, S1) => match fzs rs with
    | some ds => if decide (rs.length = n) then match F (ds.map Sl.im) with
      | some (r, _) => if isPl r then none else some (r, S1)
      | none => none else none
    | none => none
  | none => none
/-- f(x, e, ..): slot i is lent -/
def eCallM (n : Nat) (F : Fn) (i : Nat) (fs : SEs) : SE := fun S => match own? S i with
  | some (b0, _) => match fs S with
    | some (rs, S1) => match own? S1 i, fzs rs with
      | some (b, o), some ds => if decide (b = b0 ∧ rs.length + 1 = n) then match F (.mu o :: ds.map Sl.im) with
        | some (r, .mu o' :: _) => if isPl r then none else some (r, putO S1 i b o')
        | _ => none else none
      | _, _ => none
    | none => none
  | none => none
section
variable {w : World} {K : PySem.W.Frag} {σ : L2.St} {S : List Sl} {A : List Addr} {B H : Hp}
theorem SR.ims : ∀ {vs : List V} {ds : List D}, DpAll K B vs ds → SR w K B H (vs.map some) (ds.map Sl.im) []
  | _, _, .nil => .nil
  | _, _, .cons h r => by
    have z := SR.cons (SlR.im (w := w) (H := H) h) (SR.ims r)
    exact z
theorem rrs_len {vs : List V} {rs : List Rs} {F : List Addr} (h : RRs w K σ B H vs rs F) : vs.length = rs.length := by
  induction h with
  | nil => rfl
  | cons _ _ ih => rw [List.length_cons, List.length_cons, ih]
theorem RR.nopl {σ' : L2.St} {v : V} {r : Rs} {F : List Addr} (h : RR w K σ B H v r F) (hp : ¬ isPl r = true) : RR w K σ' B H v r F := by
  cases h with
  | im h => exact .im h
  | fr h => exact .fr h
  | pl h => exact absurd rfl hp
theorem mem_sub2 {α : Type} {P Q R P' : List α} (h : ∀ a ∈ P', a ∈ P) : ∀ a ∈ Q ++ P' ++ R, a ∈ Q ++ P ++ R := fun a ha => by
  simp only [List.mem_append] at ha ⊢
  rcases ha with (h1 | h1) | h1
  · exact .inl (.inl h1)
  · exact .inl (.inr (h a h1))
  · exact .inr h1
theorem t_call {n : Nat} {F : Fn} {fs : SEs} {E : XK} {Q : VK} (h : Fl.T w K (eCall n F fs) σ H Q) : tCall (spF w K n F) [] E (Ta w K fs) σ H Q := by
  obtain ⟨S, A, B, r, S', sr, ok, e, q⟩ := h
  unfold eCall at e
  split at e
  · rename_i rs S1 e1
    split at e
    · rename_i ds e2
      split at e
      · rename_i hn
        split at e
        · rename_i r1 S2 e3
          split at e
          · cases e
          · rename_i hp
            cases e
            refine ⟨S, A, B, rs, _, sr, ok, e1, fun vs H1 ⟨A1, B1, F1, g1, x1⟩ => ?_⟩
            show spF w K n F (vs ++ []) H1 Q E
            rw [List.append_nil]
            obtain ⟨f1, f2⟩ := step_freeze g1.ok
            have dd := x1.data (B' := ov B1 H1 F1) (ov_same g1.ok.sub) (fun a ha => ov_in ha) e2
            have hl : vs.length = n := (rrs_len x1).trans (of_decide_eq_true hn)
            have sr1 : SR w K (ov B1 H1 F1) H1 σ S' A1 := g1.sr.step (ov_same g1.ok.sub) fun a _ o h => h
            refine ⟨hl, _, [], ov B1 H1 F1, r, _, SR.ims dd, ⟨f1.sub, List.nodup_nil, fun a ha => by simp at ha, fun a ha => by simp at ha⟩, e3, fun v H2 ⟨A2, B2, Fr, p1, p2, p3, p4⟩ => ?_⟩
            -- the caller's own objects wait
            have o0 : Ok (A1 ++ []) (ov B1 H1 F1) H1 := by rw [List.append_nil]; exact f1
            obtain ⟨q1, q2, q3⟩ := pend (F := A1) o0 p4 p3 sr1.tracked
            rw [List.append_nil] at q2
            have q1' : Ok (Fr ++ A1) B2 H2 := by
              refine q1.sub' ?_ fun a ha => ?_
              · obtain ⟨n1, n2, n3⟩ := List.nodup_append.mp q1.nd
                exact List.nodup_append.mpr ⟨(List.nodup_append.mp n2).1, n1, fun a ha b hb e => n3 b hb a (List.mem_append_left _ ha) e.symm⟩
              · rcases List.mem_append.mp ha with h | h
                · exact List.mem_append_right _ (List.mem_append_left _ h)
                · exact List.mem_append_left _ h
            refine q v H2 ⟨A1, B2, Fr, ⟨sr1.step p4.bx q3, q1', ?_, g1.mu⟩, p2.nopl hp⟩
            refine (g1.st.trans f2).trans (q2.sub fun a ha => ?_)
            rcases List.mem_append.mp ha with h | h
            · exact List.mem_append_right _ (List.mem_append_left _ h)
            · exact List.mem_append_left _ h
        · cases e
      · cases e
    · cases e
  · cases e
theorem t_callM {n i : Nat} {F : Fn} {fs : SEs} {E : XK} {Q : VK} (h : Fl.T w K (eCallM n F i fs) σ H Q) : tCall (spF w K n F) [] E (tCons (tVar i) (Ta w K fs)) σ H Q := by
  obtain ⟨S, A, B, r, S', sr, ok, e, q⟩ := h
  unfold eCallM at e
  split at e
  · rename_i b0 o0 e0
    obtain ⟨v, ev, _⟩ := sr.own e0
    split at e
    · rename_i rs S1 e1
      split at e
      · rename_i b o ds e2 e3
        split at e
        · rename_i hn
          have hn := of_decide_eq_true hn
          split at e
          · rename_i r1 o' rest e4
            split at e
            · cases e
            · rename_i hp
              cases e
              refine ⟨v, ev, S, A, B, rs, S1, sr, ok, e1, fun vs H1 ⟨A1, B1, F1, g1, x1⟩ => ?_⟩
              show spF w K n F ((v :: vs) ++ []) H1 Q E
              rw [List.append_nil]
              obtain ⟨f1, f2⟩ := step_freeze g1.ok
              have dd := x1.data (B' := ov B1 H1 F1) (ov_same g1.ok.sub) (fun a ha => ov_in ha) e3
              have hl : (v :: vs).length = n := by
                rw [List.length_cons, rrs_len x1]; exact hn.2
              have sr1 : SR w K (ov B1 H1 F1) H1 σ S1 A1 := g1.sr.step (ov_same g1.ok.sub) fun a _ o h => h
              obtain ⟨y, C1, As, C2, eA, es, sl, f⟩ := sr1.at (own?_get e2)
              rw [ev] at es
              cases es
              have own : OwnR w K (ov B1 H1 F1) H1 v o As := by
                cases b
                · cases sl with
                  | ow z => exact z
                · cases sl with
                  | mu z => exact z
              have o1 : Ok (As ++ (C1 ++ C2)) (ov B1 H1 F1) H1 := ok_mid (by rw [← eA]; exact f1)
              have o0 : Ok ((C1 ++ C2) ++ As) (ov B1 H1 F1) H1 := by
                refine o1.sub' ?_ fun a ha => ?_
                · obtain ⟨n1, n2, n3⟩ := List.nodup_append.mp o1.nd
                  exact List.nodup_append.mpr ⟨n2, n1, fun a ha b hb e => n3 b hb a ha e.symm⟩
                · rcases List.mem_append.mp ha with h | h
                  · exact List.mem_append_right _ h
                  · exact List.mem_append_left _ h
              have srA : SR w K (ov B1 H1 F1) H1 ((v :: vs).map some) (.mu o :: ds.map Sl.im) (As ++ []) := SR.cons (SlR.mu own) (SR.ims dd)
              rw [List.append_nil] at srA
              refine ⟨hl, _, As, ov B1 H1 F1, r, _, srA, o0.right, e4, fun u H2 ⟨A2, B2, Fr, p1, p2, p3, p4⟩ => ?_⟩
              have trC : ∀ a ∈ C1 ++ C2, ∃ u, H1 a = some u := fun a ha => sr1.tracked a (by rw [eA]; exact mem_mid ha)
              obtain ⟨q1, q2, q3⟩ := pend (F := C1 ++ C2) o0 p4 p3 trC
              have p1' : SR w K B2 H2 (some v :: vs.map some) (.mu o' :: rest) A2 := p1
              cases p1' with
              | @cons _ _ As' A2r _ _ slm srr =>
                have own2 : OwnR w K B2 H2 v o' As' := by
                  cases slm with
                  | mu z => exact z
                have z := f (B' := B2) (H' := H2) (x' := some v) (s' := if b then .mu o' else .ow o') (As' := As') p4.bx q3 (by
                  cases b
                  · exact .ow own2
                  · exact .mu own2)
                rw [set_same ev] at z
                have subs : ∀ a ∈ Fr ++ (C1 ++ (As' ++ C2)), a ∈ (C1 ++ C2) ++ (Fr ++ (As' ++ A2r)) := fun a ha => by
                  simp only [List.mem_append] at ha ⊢
                  rcases ha with h | h | h | h
                  · exact .inr (.inl h)
                  · exact .inl (.inl h)
                  · exact .inr (.inr (.inl h))
                  · exact .inl (.inr h)
                have nd : (Fr ++ (C1 ++ (As' ++ C2))).Nodup := by
                  obtain ⟨n1, n2, n3⟩ := List.nodup_append.mp q1.nd
                  obtain ⟨m1, m2, m3⟩ := List.nodup_append.mp n1
                  obtain ⟨l1, l2, l3⟩ := List.nodup_append.mp n2
                  obtain ⟨k1, k2, k3⟩ := List.nodup_append.mp l2
                  refine List.nodup_append.mpr ⟨l1, List.nodup_append.mpr ⟨m1, List.nodup_append.mpr ⟨k1, m2, fun a ha b hb e => n3 b (by simp [hb]) a (by simp [ha]) e.symm⟩, fun a ha b hb e => ?_⟩, fun a ha b hb e => ?_⟩
                  · rcases List.mem_append.mp hb with h | h
                    · exact n3 a (by simp [ha]) b (by simp [h]) e
                    · exact m3 a ha b h e
                  · simp only [List.mem_append] at hb
                    rcases hb with h | h | h
                    · exact n3 b (by simp [h]) a (by simp [ha]) e.symm
                    · exact l3 a ha b (by simp [h]) e
                    · exact n3 b (by simp [h]) a (by simp [ha]) e.symm
                refine q u H2 ⟨_, B2, Fr, ⟨z, q1.sub' nd subs, ?_, g1.mu.trans ?_⟩, p2.nopl hp⟩
                · refine (g1.st.trans f2).trans ?_
                  have q2' : Step A1 (ov B1 H1 F1) H1 ((C1 ++ C2) ++ (Fr ++ (As' ++ A2r))) B2 H2 := by
                    have eq : ∀ a, a ∈ A1 ↔ a ∈ (C1 ++ C2) ++ As := fun a => by
                      rw [eA]
                      simp only [List.mem_append]
                      constructor
                      · rintro (h | h | h)
                        · exact .inl (.inl h)
                        · exact .inr h
                        · exact .inl (.inr h)
                      · rintro ((h | h) | h)
                        · exact .inl h
                        · exact .inr (.inr h)
                        · exact .inr (.inl h)
                    exact ⟨fun a o h n => q2.fr a o h fun z => n ((eq a).mpr z), q2.bx, fun a o h => (q2.bn a o h).imp id fun z => z.imp id fun z => z.imp (fun z => (eq a).mpr z) id, fun a ha => (q2.an a ha).imp (fun z => (eq a).mpr z) id⟩
                  exact q2'.sub subs
                · cases b
                  · exact muk_set fun z h => by rw [own?_get e2] at h; cases h
                  · exact muk_mu (own?_get e2)
          · cases e
        · cases e
      · cases e
    · cases e
  · cases e
end
section
variable {X : Cx} {e : Expr} {es : List Expr} {fs : SEs} {pos p p1 : Pos} {x y : Str} {n k j : Nat} {F : Fn}
theorem e_call (c : Callee X.prog X.w X.K X.mg X.base k x n F) (hr : Room j X.A) (hk : k ≤ j) (hg : Gl X x) (ha : Es X (e :: es) fs)
    (hdb : (x == ("__debug__" : Str)) = false := by decide) (he : starEach (e :: es) X.env = (false, eval e X.env) :: starEach es X.env := by rfl) (hpl : (backTo pos (starEach es X.env)).any (·.1) = false := by rfl) :
    E X (.Call (.Name x p) (e :: es) [] pos) (eCall n F fs) := by
  obtain ⟨f, fd, ps, G, hm, kp, b⟩ := c.ex
  exact pe_weak (pe_call (dvs := []) G (hr.mono hk) hg hm kp b .nil pass0 ha hdb he hpl) fun σ H Q z => t_call z
theorem e_callM (i : Nat) (c : Callee X.prog X.w X.K X.mg X.base k x n F) (hr : Room j X.A) (hk : k ≤ j) (hg : Gl X x) (hv : PE X (.Name y p1) (tVar i)) (ha : Es X es fs)
    (hdb : (x == ("__debug__" : Str)) = false := by decide) (he : starEach (.Name y p1 :: es) X.env = (false, eval (.Name y p1) X.env) :: starEach es X.env := by rfl) (hpl : (backTo pos (starEach es X.env)).any (·.1) = false := by rfl) :
    E X (.Call (.Name x p) (.Name y p1 :: es) [] pos) (eCallM n F i fs) := by
  obtain ⟨f, fd, ps, G, hm, kp, b⟩ := c.ex
  exact pe_weak (pe_call (dvs := []) G (hr.mono hk) hg hm kp b .nil pass0 (pa_cons hv ha he) hdb he hpl) fun σ H Q z => t_callM z
end
end Fl
/-! Fl: further rules. -/
namespace Fl
open PySem L2 PyProof.Rows

section
variable {X : Cx} {e : Expr} {es : List Expr} {fs : SEs} {pos p : Pos} {x : Str}
theorem e_gcd (hg : Gl X x) (hm : X.mg x = some (.builtin "math.gcd")) (ha : Es X (e :: es) fs) (hdb : (x == ("__debug__" : Str)) = false := by decide)
    (he : starEach (e :: es) X.env = (false, eval e X.env) :: starEach es X.env := by rfl) (hpl : (backTo pos (starEach es X.env)).any (·.1) = false := by rfl) :
    E X (.Call (.Name x p) (e :: es) [] pos) (opS (gOp hGcd) fs) := pe_weak (pe_callBfun cr_gcd hg hm ha hdb he hpl) fun σ H Q z => op_T ok_gcd z
theorem e_globI {i : Int} {t : Tok} (hg : Gl X x) (hm : X.mg x = some (.int i t)) (hdb : (x == ("__debug__" : Str)) = false := by decide) : E X (.Name x p) (eC (.int i)) :=
  pe_weak (pe_glob (v := .int i) hg hm ⟨t, rfl⟩ hdb) fun _ _ _ h => t_c (fun _ => .int i) h
end
/-- x op= e, ints -/
def sAug (i : Nat) (g : Int → Int → Int) (f : SE) : SS := fun S => match S[i]? with
  | some (.im (.int a)) => match f S with
    | some (r, S1) => match vw S1 r with
      | some (.int b) => match S1[i]? with
        | some (.im _) => some (.nx (S1.set i (.im (.int (g a b)))))
        | _ => none
      | _ => none
    | none => none
  | _ => none
theorem s_aug {X : Cx} {e : Expr} {x : Str} {pos pos' : Pos} {op : Operator} {g : Int → Int → Int} {f : SE} (i : Nat) (ho : PIp X op (ipI g)) (hN : X.N.Nodup) (he : E X e f) (hi : X.N[i]? = some x := by rfl) (hx : Loc X.env.scope x := by first | exact Or.inl rfl | exact Or.inr rfl)
    (hf : X.fn x = true ∨ X.env.scope.names.lookup x = some .local := by first | exact .inl rfl | exact .inr rfl) : St' X (.AugAssign (.Name x pos') op e pos) (sAug i g f) := ps_weak (ps_aug hN hi hx he ho hf) fun D σ H ⟨S, A, B, out, sr, ok, e, q⟩ => by
  unfold sAug at e
  split at e
  · rename_i a ea
    split at e
    · rename_i r S1 e1
      split at e
      · rename_i b eb
        split at e
        · rename_i d1 e2
          cases e
          obtain ⟨y, A1, As, A2, eA, es, sl, f⟩ := sr.at ea
          cases sl with
          | im z =>
            cases z
            refine ⟨_, es, S, A, B, r, S1, sr, ok, e1, fun v H' ⟨A', B', F, g', x⟩ => ?_⟩
            have z := vw_ok g'.sr x g'.ok.sub eb
            cases z
            refine ⟨a, b, rfl, rfl, ?_⟩
            obtain ⟨A3, i1, i2, i3⟩ := im_slot g'.sr e2 (.int (g a b))
            refine q _ _ ⟨A3, B', i1, g'.ok.right.sub' (i3 g'.ok.right.nd) i2, (g'.st.sub fun a ha => List.mem_append_right _ ha).sub i2, (g'.mu.s σ).trans (mus_set fun o h => by rw [e2] at h; cases h)⟩
        · cases e
      · cases e
    · cases e
  · cases e
end Fl
/-! Fl: rules as gen.py names them. -/
namespace Fl
open PySem L2 PyProof.Rows

theorem hu65_of {k : Nat} {A : Around} (hr : Room k A) : A.units + 65 < cLine := by have := hr.un; omega
section
variable {X : Cx} {es : List Expr} {fs : SEs} {pos : Pos} {k : Nat}
theorem e_tupA (h : Es X es fs) : E X (.Tuple es k pos) (opS gTupD fs) := e_tup h (pe_tup h)
theorem e_lstA (h : Es X es fs) : E X (.List es pos) (opS gLstD fs) := e_lst h (pe_lst h)
theorem e_rowsA (h : Es X es fs) : E X (.List es pos) (opS gRowsD fs) := e_rows h (pe_lst h)
theorem s_parA {x y : Str} {a b : Expr} {px py pt : Pos} {kt k2 : Nat} {pt2 : Pos} {f g : SE} (i j : Nat) (hN : X.N.Nodup) (ha : Es X [a, b] (sCons f (sCons g sNil))) (hc : X.calm = true := by rfl) (hi : X.N[i]? = some x := by rfl) (hj : X.N[j]? = some y := by rfl)
    (hij : i ≠ j := by decide) (hx : X.env.scope.names.lookup x = some .local := by rfl) (hy : X.env.scope.names.lookup y = some .local := by rfl)
    (hw : swappedStores [.Tuple [.Name x px, .Name y py] kt pt] (.Tuple [a, b] k2 pt2) X.env = pure (some [x, y]) := by rfl)
    (hs : swapsWithSole [.Tuple [.Name x px, .Name y py] kt pt] (.Tuple [a, b] k2 pt2) pos.line X.env = pure false := by rfl) :
    St' X (.Assign [.Tuple [.Name x px, .Name y py] kt pt] (.Tuple [a, b] k2 pt2) pos) (sPar i j f g) := s_par hc hN hi hj hij ha (ps_par hc hN hi hj hij hx hy ha hw hs)
theorem s_subA {e i : Expr} {f h : SE} {p1 p2 : Pos} {x : Str} (j : Nat) (hv : PE X (.Name x p1) (tVar j)) (he : E X e f) (hi : E X i h) (hu : X.A.units + 1 < cLine)
    (hs1 : swapsWithSole [.Subscript (.Name x p1) i p2] e pos.line X.env = pure false := by rfl) (hw : swappedStores [.Subscript (.Name x p1) i p2] e X.env = pure none := by rfl)
    (h1 : (assignEach [.Subscript (.Name x p1) i p2] X.env).map (·.2) = [assign (.Subscript (.Name x p1) i p2) X.env] := by rfl)
    (ha : ∀ v, assign (.Subscript (.Name x p1) i p2) X.env v = (do
      let ov ← holding [v] (eval (.Name x p1) X.env)
      let iv ← holding [v, ov] (eval i X.env)
      standAt p2
      holding [v, ov, iv] (setItem ov iv v)
      release [v, ov, iv] []) := by intro _; rfl)
    (hs : swapsWith e (some (.Subscript (.Name x p1) i p2)) pos.line X.env = pure false := by rfl) :
    St' X (.Assign [.Subscript (.Name x p1) i p2] e pos) (sSub j f h) := s_sub j he hi (ps_asg he (pg_sub hv hi set_list ha) hs1 hw h1) (ps_dput hu hv hi he hs)
end
theorem law_end {w : World} {K : PySem.W.Frag} {H : Hp} {a : Addr} {ns : List Int} {F : Fn} (ht : ∀ ns : List Int, ns.length ≤ 63 → ∃ S', F [.im (.list (ns.map PyData.int))] = some (.im (.bool true), S')) (hl : ns.length ≤ 63)
    (hS : SqL K H a (ns.map V.int)) : spF w K 1 F [.ref a] H (fun v _ => v = .bl true) fun _ _ _ => False := by
  obtain ⟨S', e⟩ := ht ns hl
  have s0 : SR w K H H [some (V.ref a)] [.im (.list (ns.map PyData.int))] [] := by
    have z := SR.cons (SlR.im (w := w) (H := H) (Dp.lst hS (dps_ints ns))) (SR.nil (w := w) (K := K) (B := H) (H := H))
    exact z
  refine ⟨rfl, _, [], H, _, S', s0, ⟨Same.refl H, List.nodup_nil, fun a ha => by simp at ha, fun a ha => by simp at ha⟩, e, fun v H' ⟨A', B', Fr, _, x, _, _⟩ => ?_⟩
  cases x with
  | im x => cases x; rfl
end Fl
/-! Fl: lists of lists in place: rows[k].extend(..), rows[k][i] = .., len(rows[k]), rows[k] == []. -/
namespace Fl
open PySem L2 PyProof.Rows

/-- row k of slot j: what it is, whether lent, all rows, its place -/
def row? (S : List Sl) (j : Nat) (k : Int) : Option (Bool × List (List D) × Nat × List D) := match own? S j with
  | some (b, .rows ls) => match ixN ls.length k with
    | some i => match ls[i]? with
      | some l => some (b, ls, i, l)
      | none => none
    | none => none
  | _ => none
def isUn : Option Sl → Bool
  | some .un => true
  | _ => false
theorem row?_get {S : List Sl} {j : Nat} {k : Int} {b : Bool} {ls : List (List D)} {i : Nat} {l : List D} (h : row? S j k = some (b, ls, i, l)) : own? S j = some (b, .rows ls) ∧ ixN ls.length k = some i ∧ ls[i]? = some l := by
  unfold row? at h
  split at h
  · rename_i b' ls' e1
    split at h
    · rename_i i' e2
      split at h
      · rename_i l' e3
        cases h
        exact ⟨e1, e2, e3⟩
      · cases h
    · cases h
  · cases h
theorem ok_unmid {A1 As A2 : List Addr} {B H : Hp} (o : Ok (As ++ (A1 ++ A2)) B H) : Ok (A1 ++ (As ++ A2)) B H := by
  have p : (A1 ++ (As ++ A2)).Perm (As ++ (A1 ++ A2)) := by
    rw [← List.append_assoc, ← List.append_assoc]
    exact List.Perm.append_right A2 List.perm_append_comm
  exact ⟨o.sub, p.nodup_iff.mpr o.nd, fun a ha => o.off a (p.mem_iff.mp ha), fun a ha => o.nt a (p.mem_iff.mp ha)⟩
theorem step_eqv {A A' A2 : List Addr} {B B' H H' : Hp} (s : Step A B H A2 B' H') (e : ∀ a, a ∈ A ↔ a ∈ A') : Step A' B H A2 B' H' :=
  ⟨fun a o h n => s.fr a o h fun z => n ((e a).mp z), s.bx, fun a o h => (s.bn a o h).imp id fun z => z.imp id fun z => z.imp (fun z => (e a).mp z) id, fun a ha => (s.an a ha).imp (fun z => (e a).mp z) id⟩
section
variable {w : World} {K : PySem.W.Frag} {σ : L2.St} {S : List Sl} {A : List Addr} {B H : Hp}
theorem row_hide {j : Nat} {b : Bool} {ls : List (List D)} (sr : SR w K B H σ S A) (ok : Ok A B H) (ej : own? S j = some (b, .rows ls)) :
    ∃ (a : Addr) (bs Ah : List Addr), σ[j]? = some (some (.ref a)) ∧ H a = some (.lst (bs.map V.ref)) ∧ Rows K B H bs ls ∧ SR w K B H σ (S.set j .un) Ah ∧ Ok ((a :: bs) ++ Ah) B H ∧ ∀ x, x ∈ (a :: bs) ++ Ah ↔ x ∈ A := by
  obtain ⟨y, A1, As, A2, eA, es, sl, f⟩ := sr.at (own?_get ej)
  have own : ∃ v, y = some v ∧ OwnR w K B H v (.rows ls) As := by
    cases b
    · cases sl with
      | ow z => exact ⟨_, rfl, z⟩
    · cases sl with
      | mu z => exact ⟨_, rfl, z⟩
  obtain ⟨v, rfl, own⟩ := own
  have z := f (B' := B) (H' := H) (x' := some v) (s' := .un) (As' := []) (Same.refl B) (fun a _ o h => h) .un
  rw [set_same es] at z
  subst eA
  cases own with
  | @rows a bs _ h r =>
    refine ⟨a, bs, A1 ++ A2, es, h, r, z, ok_mid ok, fun x => ?_⟩
    simp only [List.mem_append]
    constructor
    · rintro (h | h | h)
      · exact .inr (.inl h)
      · exact .inl h
      · exact .inr (.inr h)
    · rintro (h | h | h)
      · exact .inr (.inl h)
      · exact .inl h
      · exact .inr (.inr h)
theorem row_back {j i : Nat} {b : Bool} {ls : List (List D)} {a p : Addr} {bs Ah A1 F : List Addr} {S1 : List Sl} {B1 H1 : Hp} (ej : own? S j = some (b, .rows ls)) (ea : σ[j]? = some (some (.ref a))) (h : H a = some (.lst (bs.map V.ref))) (r : Rows K B H bs ls)
    (okA : Ok ((a :: bs) ++ Ah) B H) (eA : ∀ x, x ∈ (a :: bs) ++ Ah ↔ x ∈ A) (g : Go w K σ (S.set j .un) Ah B H S1 A1 B1 H1 F) (e1 : isUn S1[j]? = true) (ep : bs[i]? = some p) {u : HO} {y : V} {d : D} {l' : List D}
    (own' : OwnR w K (ov B1 H1 F) (upd H1 p u) (.ref p) (.lst l') [p]) (dd : Dp K (ov B1 H1 F) y d) : EPo w K σ S A B H (.im d) (putO S1 j b (.rows (ls.set i l'))) y (upd H1 p u) := by
  have tr : ∀ x ∈ a :: bs, ∃ u, H x = some u := fun x hx => by
    rcases List.mem_cons.mp hx with rfl | hx
    · exact ⟨_, h⟩
    · exact rows_tracked r x hx
  obtain ⟨p1, p2, p3⟩ := pend (F := a :: bs) okA g.st g.ok tr
  obtain ⟨f1, f2⟩ := step_freeze (ok_mid p1)
  have f2' := step_mid f2
  have pm : p ∈ bs := List.mem_of_getElem? ep
  have pa : p ∈ a :: bs := List.mem_cons_of_mem _ pm
  obtain ⟨m1, m2⟩ := step_mut (o := u) f1 (List.mem_append_left _ pa) (fun vs e => own'.nt p List.mem_cons_self vs (by rw [e]; exact upd_same))
  have nd := (List.nodup_append.mp f1.nd)
  have ndc := List.nodup_cons.mp nd.1
  have ap : a ≠ p := fun z => ndc.1 (z ▸ pm)
  have sb : Same B1 (ov B1 H1 F) := ov_same g.ok.sub
  have rr : Rows K (ov B1 H1 F) H1 bs ls := rows_step (g.st.bx.trans sb) (p3.sub fun x hx => List.mem_cons_of_mem _ hx) r
  have R2 : Rows K (ov B1 H1 F) (upd H1 p u) bs (ls.set i l') := by
    cases own' with
    | lst h' r' => exact rows_set (Same.refl _) rr ndc.2 ep (fun x _ n o hx => by rw [upd_ne n]; exact hx) h' r'
  have ha : upd H1 p u a = some (.lst (bs.map V.ref)) := by
    rw [upd_ne ap]
    exact p3 a List.mem_cons_self _ h
  have OW : OwnR w K (ov B1 H1 F) (upd H1 p u) (.ref a) (.rows (ls.set i l')) (a :: bs) := .rows ha R2
  obtain ⟨s0, es0⟩ : ∃ s0, S1[j]? = some s0 ∧ s0 = .un := by
    unfold isUn at e1
    split at e1
    · rename_i e; exact ⟨_, e, rfl⟩
    · cases e1
  obtain ⟨es0, rfl⟩ := es0
  obtain ⟨y0, C1, Cs, C2, eC, ec, sl, f⟩ := g.sr.at es0
  cases sl with
  | un =>
    rw [ea] at ec
    cases ec
    have z := f (B' := ov B1 H1 F) (H' := upd H1 p u) (x' := some (.ref a)) (s' := if b then .mu (.rows (ls.set i l')) else .ow (.rows (ls.set i l'))) (As' := a :: bs) sb (fun x hx o hh => by
      have n : x ≠ p := fun e => nd.2.2 p pa x (by rw [eC]; simpa using hx) e.symm
      rw [upd_ne n]; exact hh) (by
      cases b
      · exact .ow OW
      · exact .mu OW)
    rw [set_same ea] at z
    have eC' : A1 = C1 ++ C2 := by rw [eC]; rfl
    subst eC'
    have sub : ∀ x, x ∈ C1 ++ ((a :: bs) ++ C2) → x ∈ (a :: bs) ++ (C1 ++ C2) := fun x hx => by
      simp only [List.mem_append] at hx ⊢
      rcases hx with h | h | h
      · exact .inr (.inl h)
      · exact .inl h
      · exact .inr (.inr h)
    refine ⟨_, _, [], ⟨z, show Ok (C1 ++ ((a :: bs) ++ C2)) _ _ from ok_unmid m1, (((step_eqv p2 eA).trans f2').trans m2).sub sub, fun ii o hi => ?_⟩, .im dd⟩
    by_cases ij : j = ii
    · subst ij
      have := own?_get ej
      rw [hi] at this
      cases b
      · cases this
      · refine ⟨.rows (ls.set i l'), ?_⟩
        show (S1.set j _)[j]? = _
        have hj : j < S1.length := by
          rcases Nat.lt_or_ge j S1.length with h | h
          · exact h
          · rw [List.getElem?_eq_none h] at es0; cases es0
        rw [List.getElem?_set_self hj]
        rfl
    · obtain ⟨o', ho⟩ := g.mu ii o (by rw [List.getElem?_set_ne ij]; exact hi)
      exact ⟨o', by show (S1.set j _)[ii]? = _; rw [List.getElem?_set_ne ij]; exact ho⟩
theorem row_ix {j i : Nat} {k : Int} {ls : List (List D)} {a : Addr} {bs : List Addr} {B' H1 : Hp} {Q : VK} (r : Rows K B H bs ls) (ea : σ[j]? = some (some (.ref a))) (h1 : H1 a = some (.lst (bs.map V.ref))) (ei : ixN ls.length k = some i) {p : Addr} (ep : bs[i]? = some p) (q : Q (.ref p) H1) :
    tOp (rIxL K) (tVar j) (tC (.int k)) σ H1 Q := by
  refine ⟨_, ea, a, bs.map V.ref, k, .ref p, rfl, rfl, .of h1, ?_, q⟩
  unfold atI
  rw [List.length_map, rows_len r, ei]
  show (bs.map V.ref)[i]? = _
  rw [List.getElem?_map, ep]
  rfl
end
/-! ### rows[k].m(..) -/
def eRowM (j : Nat) (k : Int) (fs : SEs) (g : Mt) : SE := fun S => match row? S j k with
  | some (b, ls, i, l) => match fs (S.set j .un) with
    | some (rs, S1) => if isUn S1[j]? then match g (.lst l) rs S1 with
      | some (d, .lst l') => some (.im d, putO S1 j b (.rows (ls.set i l')))
      | _ => none else none
    | none => none
  | none => none
theorem t_rowM {w : World} {K : PySem.W.Frag} {R : V → List V → Hp → VK → Prop} {g : Mt} {j : Nat} {k : Int} {fs : SEs} {σ : L2.St} {H : Hp} {Q : VK} (hm : MtOk w K R g) (z : Fl.T w K (eRowM j k fs g) σ H Q) : tBM K "list" R (tOp (rIxL K) (tVar j) (tC (.int k))) (Ta w K fs) σ H Q := by
  obtain ⟨S, A, B, r0, S', sr, ok, e, q⟩ := z
  unfold eRowM at e
  split at e
  · rename_i b ls i l er
    obtain ⟨ej, ei, el⟩ := row?_get er
    obtain ⟨a, bs, Ah, ea, h, r, sr1, okA, eA⟩ := row_hide sr ok ej
    obtain ⟨p, vs, ep, hp, dv⟩ := rows_get r el
    split at e
    · rename_i rs S1 ef
      split at e
      · rename_i eu
        split at e
        · rename_i d l' eg
          cases e
          refine row_ix (B' := B) r ea h ei ep ⟨.inl ⟨rfl, vs, .of hp⟩, S.set j .un, Ah, B, rs, S1, sr1, okA.right, ef, fun us H1 ⟨A1, B1, F, g1, x1⟩ => ?_⟩
          have tr : ∀ x ∈ a :: bs, ∃ u, H x = some u := fun x hx => by
            rcases List.mem_cons.mp hx with rfl | hx
            · exact ⟨_, h⟩
            · exact rows_tracked r x hx
          obtain ⟨p1, p2, p3⟩ := pend (F := a :: bs) okA g1.st g1.ok tr
          have hp1 : H1 p = some (.lst vs) := p3 p (List.mem_cons_of_mem _ (List.mem_of_getElem? ep)) _ hp
          refine hm σ S1 A1 B1 H1 (.ref p) (.lst l) [p] us rs F d (.lst l') Q g1.sr g1.ok (.lst hp1 (dps_mono g1.st.bx dv)) x1 eg fun a' u y ev ha' own' dd => ?_
          cases ev
          exact q y _ (row_back ej ea h r okA eA g1 eu ep own' dd)
        · cases e
      · cases e
    · cases e
  · cases e
/-! ### rows[k][i] = e -/
def sRowSub (j : Nat) (k : Int) (f h : SE) : SS := fun S => match row? S j k with
  | some (b, ls, i, l) => match sCons f (sCons h sNil) (S.set j .un) with
    | some ([r1, r2], S1) => if isUn S1[j]? then match mSet (.lst l) [r1, r2] S1 with
      | some (_, .lst l') => some (.nx (putO S1 j b (.rows (ls.set i l'))))
      | _ => none else none
    | _ => none
  | none => none
/-! ### len(rows[k]), rows[k] == [] -/
def eRowLen (j : Nat) (k : Int) : SE := fun S => match row? S j k with
  | some (_, _, _, l) => some (.im (.int l.length), S)
  | none => none
def eRowNil (j : Nat) (k : Int) : SE := fun S => match row? S j k with
  | some (_, _, _, l) => if SeqAt.shaped (.list l) then some (.im (.bool (PyData.eqv (.list l) (.list []))), S) else none
  | none => none
section
variable {X : Cx} {e : Expr} {es : List Expr} {fs : SEs} {pos cpos apos p1 p2 p3 : Pos} {x y : Str} {k : Int} {kk : Nat}
theorem pe_row (j : Nat) (hv : PE X (.Name x p1) (tVar j)) (hs : PlainIx (.Constant (.int k) kk p2) := by exact fun _ _ => rfl) : PE X (.Subscript (.Name x p1) (.Constant (.int k) kk p2) p3) (tOp (rIxL X.K) (tVar j) (tC (.int k))) := pe_ix ix_list hv pe_int hs
structure Mb (X : Cx) (o : Expr) (name : Str) (e : Expr) (es : List Expr) (apos cpos : Pos) : Prop where
  base : attributeBase o name X.env (eval o X.env) = eval o X.env
  few : ((backTo cpos (starEach (e :: es) X.env)).all (fun x => !x.1) && (backToKw cpos (keywordEach [] X.env)).all (fun x => x.1.isSome)
      && decide ((e :: es).length + ([] : List Keyword).length + (if ([] : List Keyword).isEmpty then 0 else 1) < 30)) = true
  line : (apos.endLine == cpos.line) = true
  st : starEach (e :: es) X.env = (false, eval e X.env) :: starEach es X.env
  plain : (backTo cpos (starEach es X.env)).any (·.1) = false
theorem e_rowExtend (j : Nat) (hv : PE X (.Name x p1) (tVar j)) (hs : Es X (e :: es) fs) (m : Mb X (.Subscript (.Name x p1) (.Constant (.int k) kk p2) p3) "extend" e es apos cpos := by exact ⟨rfl, rfl, rfl, rfl, rfl⟩) :
    E X (.Call (.Attribute (.Subscript (.Name x p1) (.Constant (.int k) kk p2) p3) "extend" apos) (e :: es) [] cpos) (eRowM j k fs mExtend) := pe_weak (pe_bm PySem.F.plainAttrs_list PySem.F.slot_list_extend PySem.F.type_list_extend mt_extend (pe_row j hv) hs m.base m.few m.line m.st m.plain) fun σ H Q z => t_rowM mok_extend z
theorem e_rowAppend (j : Nat) (hv : PE X (.Name x p1) (tVar j)) (hs : Es X (e :: es) fs) (m : Mb X (.Subscript (.Name x p1) (.Constant (.int k) kk p2) p3) "append" e es apos cpos := by exact ⟨rfl, rfl, rfl, rfl, rfl⟩) :
    E X (.Call (.Attribute (.Subscript (.Name x p1) (.Constant (.int k) kk p2) p3) "append" apos) (e :: es) [] cpos) (eRowM j k fs mAppend) := pe_weak (pe_bm PySem.F.plainAttrs_list PySem.F.slot_list_append PySem.F.type_list_append mt_append (pe_row j hv) hs m.base m.few m.line m.st m.plain) fun σ H Q z => t_rowM mok_append z
theorem e_extendA (j : Nat) (hv : PE X (.Name x p1) (tVar j)) (hs : Es X (e :: es) fs) (m : Mb X (.Name x p1) "extend" e es apos cpos := by exact ⟨rfl, rfl, rfl, rfl, rfl⟩) :
    E X (.Call (.Attribute (.Name x p1) "extend" apos) (e :: es) [] cpos) (eMeth isL j fs mExtend) := pe_weak (pe_bm PySem.F.plainAttrs_list PySem.F.slot_list_extend PySem.F.type_list_extend mt_extend hv hs m.base m.few m.line m.st m.plain) fun σ H Q z => t_meth mok_extend (fun B H v o As h => h.isL) z
theorem e_appendA (j : Nat) (hv : PE X (.Name x p1) (tVar j)) (hs : Es X (e :: es) fs) (m : Mb X (.Name x p1) "append" e es apos cpos := by exact ⟨rfl, rfl, rfl, rfl, rfl⟩) :
    E X (.Call (.Attribute (.Name x p1) "append" apos) (e :: es) [] cpos) (eMeth isL j fs mAppend) := pe_weak (pe_bm PySem.F.plainAttrs_list PySem.F.slot_list_append PySem.F.type_list_append mt_append hv hs m.base m.few m.line m.st m.plain) fun σ H Q z => t_meth mok_append (fun B H v o As h => h.isL) z
theorem e_addA (j : Nat) (hv : PE X (.Name x p1) (tVar j)) (hs : Es X (e :: es) fs) (m : Mb X (.Name x p1) "add" e es apos cpos := by exact ⟨rfl, rfl, rfl, rfl, rfl⟩) :
    E X (.Call (.Attribute (.Name x p1) "add" apos) (e :: es) [] cpos) (eMeth isS j fs mAdd) := pe_weak (pe_sadd hv hs m.base m.few m.line m.st m.plain) fun σ H Q z => t_meth mok_add (fun B H v o As h => h.isS) z
theorem e_popA (j : Nat) (hv : PE X (.Name x p1) (tVar j)) (hb : attributeBase (.Name x p1) "pop" X.env (eval (.Name x p1) X.env) = eval (.Name x p1) X.env := by rfl) (hl : (apos.endLine == cpos.line) = true := by rfl) :
    E X (.Call (.Attribute (.Name x p1) "pop" apos) [] [] cpos) (eMeth isL j sNil mPop) := pe_weak (pe_bm0 PySem.F.plainAttrs_list PySem.F.slot_list_pop PySem.F.type_list_pop mt_pop hv hb hl) fun σ H Q z => by
  obtain ⟨v, e, p, q⟩ := t_meth mok_pop (fun B H v o As h => h.isL) z
  exact ⟨v, e, p, ta_nil q⟩
theorem e_rowLen (j : Nat) (hv : PE X (.Name x p1) (tVar j)) (hgl : Gl X y) (hm : X.mg y = none) (hb : bootBuiltins y = some (.builtin "len")) (hn : y ≠ "__name__" := by decide) (hdb : (y == ("__debug__" : Str)) = false := by decide)
    (he : starEach [.Subscript (.Name x p1) (.Constant (.int k) kk p2) p3] X.env = (false, eval (.Subscript (.Name x p1) (.Constant (.int k) kk p2) p3) X.env) :: starEach [] X.env := by rfl) (hpl : (backTo pos (starEach [] X.env)).any (·.1) = false := by rfl) :
    E X (.Call (.Name y cpos) [.Subscript (.Name x p1) (.Constant (.int k) kk p2) p3] [] pos) (eRowLen j k) := pe_weak (pe_callB call_len hgl hm hb (pa_cons (pe_row j hv) pa_nil he) hn hdb he hpl) fun σ H Q z => by
  obtain ⟨S, A, B, r0, S', sr, ok, e, q⟩ := z
  unfold eRowLen at e
  split at e
  · rename_i b ls i l er
    cases e
    obtain ⟨ej, ei, el⟩ := row?_get er
    obtain ⟨a, bs, Ah, ea, h, r, sr1, okA, eA⟩ := row_hide sr ok ej
    obtain ⟨p, vs, ep, hp, dv⟩ := rows_get r el
    refine row_ix (B' := B) r ea h ei ep ⟨_, _, rfl, .inl ⟨vs, .of hp, rfl⟩, ?_⟩
    rw [dps_length dv]
    exact q _ H ⟨A, B, [], Go.same sr ok, .im (.int _)⟩
  · cases e
theorem t_rowNil {w : World} {K : PySem.W.Frag} {σ : L2.St} {H : Hp} {Q : VK} {j : Nat} {k : Int} (z : Fl.T w K (eRowNil j k) σ H Q) : tOp (rEqD K) (tOp (rIxL K) (tVar j) (tC (.int k))) (tLst tNil) σ H Q := by
  obtain ⟨S, A, B, r0, S', sr, ok, e, q⟩ := z
  unfold eRowNil at e
  split at e
  · rename_i b ls i l er
    split at e
    · rename_i hs
      cases e
      obtain ⟨ej, ei, el⟩ := row?_get er
      obtain ⟨a, bs, Ah, ea, h, r, sr1, okA, eA⟩ := row_hide sr ok ej
      obtain ⟨p, vs, ep, hp, dv⟩ := rows_get r el
      refine row_ix (B' := B) r ea h ei ep ⟨Nat.zero_le _, fun c hc => ?_⟩
      have kp : ∀ b o, H b = some o → upd H c (.lst []) b = some o := fun b o hb => by
        rw [upd_ne (ne_of_none hb hc)]; exact hb
      refine ⟨_, _, .lst (.of (kp _ _ hp)) (dps_mono (fun b o hb => kp b o (ok.sub b o hb)) dv).l2, .lst (.of upd_same) .nil, hs, by decide, ?_⟩
      obtain ⟨k2, s2⟩ := step_newB (o := .lst []) ok hc sr.tracked
      exact q _ _ ⟨A, _, [], ⟨sr.step s2.bx fun b _ o hb => kp b o hb, k2, s2, MuK.refl _⟩, .im (.bl _)⟩
    · cases e
  · cases e
theorem e_rowNil (j : Nat) (hu : X.A.units + 64 < cLine) (hv : PE X (.Name x p1) (tVar j)) : E X (.Compare (.Subscript (.Name x p1) (.Constant (.int k) kk p2) p3) [.Eq] [.List [] cpos] pos) (eRowNil j k) :=
  pe_weak (pe_cmpR (op_eqD hu) (pe_row j hv) (pe_lst pa_nil) (nomark _)) fun σ H Q z => t_rowNil z
theorem c_rowNil (j : Nat) (hu : X.A.units + 64 < cLine) (hv : PE X (.Name x p1) (tVar j)) : Et X (.Compare (.Subscript (.Name x p1) (.Constant (.int k) kk p2) p3) [.Eq] [.List [] cpos] pos) (tB' (eRowNil j k)) :=
  pt_weak (pt_cmpR (op_eqD hu) (pe_row j hv) (pe_lst pa_nil) (nomark _)) fun σ H Q z => t_rowNil (t_tB z)
theorem s_rowSub {i : Expr} {f h : SE} (j : Nat) (hv : PE X (.Name x p1) (tVar j)) (he : E X e f) (hi : E X i h)
    (hs1 : swapsWithSole [.Subscript (.Subscript (.Name x p1) (.Constant (.int k) kk p2) p3) i apos] e pos.line X.env = pure false := by rfl) (hw : swappedStores [.Subscript (.Subscript (.Name x p1) (.Constant (.int k) kk p2) p3) i apos] e X.env = pure none := by rfl)
    (h1 : (assignEach [.Subscript (.Subscript (.Name x p1) (.Constant (.int k) kk p2) p3) i apos] X.env).map (·.2) = [assign (.Subscript (.Subscript (.Name x p1) (.Constant (.int k) kk p2) p3) i apos) X.env] := by rfl)
    (ha : ∀ v, assign (.Subscript (.Subscript (.Name x p1) (.Constant (.int k) kk p2) p3) i apos) X.env v = (do
      let ov ← holding [v] (eval (.Subscript (.Name x p1) (.Constant (.int k) kk p2) p3) X.env)
      let iv ← holding [v, ov] (eval i X.env)
      standAt apos
      holding [v, ov, iv] (setItem ov iv v)
      release [v, ov, iv] []) := by intro _; rfl) :
    St' X (.Assign [.Subscript (.Subscript (.Name x p1) (.Constant (.int k) kk p2) p3) i apos] e pos) (sRowSub j k f h) := ps_weak (ps_asg he (pg_sub (pe_row j hv) hi set_list ha) hs1 hw h1) fun D σ H ⟨S, A, B, out, sr, ok, e, q⟩ => by
  unfold sRowSub at e
  split at e
  · rename_i b ls i l er
    obtain ⟨ej, ei, el⟩ := row?_get er
    obtain ⟨a, bs, Ah, ea, hh, r, sr1, okA, eA⟩ := row_hide sr ok ej
    obtain ⟨p, vs, ep, hp, dv⟩ := rows_get r el
    have tr : ∀ x ∈ a :: bs, ∃ u, H x = some u := fun x hx => by
      rcases List.mem_cons.mp hx with rfl | hx
      · exact ⟨_, hh⟩
      · exact rows_tracked r x hx
    split at e
    · rename_i r1 r2 S2 ef
      split at e
      · rename_i eu
        split at e
        · rename_i d l' eg
          cases e
          -- the two parts one after another
          unfold sCons at ef
          split at ef
          · rename_i r1' S1 e1
            split at ef
            · rename_i rs' S2' e2
              cases ef
              split at e2
              · rename_i r2' S3 e3
                simp only [sNil, Option.some.injEq, Prod.mk.injEq, List.cons.injEq, and_true] at e2
                obtain ⟨rfl, rfl⟩ := e2
                refine ⟨S.set j .un, Ah, B, _, S1, sr1, okA.right, e1, fun v1 H1 ⟨A1, B1, F1, g1, x1⟩ => ?_⟩
                obtain ⟨_, _, k3⟩ := pend (F := a :: bs) okA g1.st g1.ok tr
                refine row_ix (B' := B) r ea (k3 a List.mem_cons_self _ hh) ei ep ⟨S1, A1, B1, _, S3, g1.sr, g1.ok0, e3, fun u H2 ⟨A2, B2, F2, g2, x2⟩ => ?_⟩
                obtain ⟨g3, b3, kk3⟩ := g1.then_ x1.tracked g2
                have xx := RRs.cons (x1.step b3 kk3) (RRs.cons x2 (.nil (w := X.w) (K := X.K) (σ := σ) (B := B2) (H := H2)))
                rw [List.append_nil] at xx
                obtain ⟨_, _, k4⟩ := pend (F := a :: bs) okA g3.st g3.ok tr
                have hp2 : H2 p = some (.lst vs) := k4 p (List.mem_cons_of_mem _ (List.mem_of_getElem? ep)) _ hp
                have R := mok_set σ S3 A2 B2 H2 (.ref p) (.lst l) [p] [v1, u] _ (F1 ++ F2) d (.lst l') (fun _ H4 => D.nx σ H4) g3.sr g3.ok (.lst hp2 (dps_mono g3.st.bx dv)) xx eg fun a' u' y ev ha' own' dd => by
                  cases ev
                  obtain ⟨A4, B4, F4, g4, _⟩ := row_back ej ea hh r okA eA g3 eu ep own' dd
                  exact q σ _ ⟨A4, B4, g4.drop.gs⟩
                obtain ⟨x', k', ee, R⟩ := R
                cases ee
                rcases R with R | ⟨a', H4, ea', dp, _⟩
                · exact R
                · exfalso
                  cases ea'
                  rcases dp with ⟨kvs, k, hk, _⟩ | ⟨kvs, k, b', hk, _⟩
                  · rw [hp2] at hk; cases hk
                  · rw [hp2] at hk; cases hk
              · cases e2
            · cases ef
          · cases ef
        · cases e
      · cases e
    · cases e
  · cases e
end
/-! ### xs[::-1] -/
def hRev : List D → Option Res
  | [.list l] => some (.l l.reverse)
  | _ => none
theorem ok_rev {w : World} {K : PySem.W.Frag} : OpOk w K (fun vs H Q => ∃ a xs, vs = [.ref a] ∧ SqL K H a xs ∧ ∀ p, H p = none → Q (.ref p) (upd H p (.lst xs.reverse))) (gOp hRev) := gOp_ok fun B H vs ds res Q sb v e p => by
  unfold hRev at e
  split at e
  · cases e
    obtain ⟨x, rfl, vx⟩ := vws1 v
    cases vx with
    | lst h r => exact ⟨_, _, rfl, h, fun q hq => p.lst _ _ _ rfl hq (dps_reverse r)⟩
  · cases e
section
variable {X : Cx} {e : Expr} {f : SE} {k : Nat} {p1 p2 p3 pos : Pos}
theorem e_rev (he : E X e f) : E X (.Subscript e (.Slice none none (some (.UnaryOp .USub (.Constant (.int 1) k p1) p2)) p3) pos) (opS (gOp hRev) (sCons f sNil)) := pe_weak (pe_revL he) fun σ H Q z =>
  (ta_one (op_T ok_rev z)).mono fun x H1 ⟨a, xs, e, h, q⟩ => by
    cases e
    exact ⟨a, xs, rfl, h, q⟩
theorem s_doc {c : Const} : St' X (.Expr (.Constant c k p1) pos) sNop → St' X (.Expr (.Constant c k p1) pos) sNop := id
end
end Fl
/-! Fl: sorted of dicts and sets, {k: v}, chained comparisons. -/
namespace Fl
open PySem L2 PyProof.Rows

/-! ### sorted(d), sorted(s) -/
def keysI : List (Key × D) → Option (List Int)
  | [] => some []
  | (.inl i, _) :: r => match keysI r with
    | some l => some (i :: l)
    | none => none
  | _ => none
def lt64 (n : Nat) : Bool := Nat.ble n 63
theorem lt64_iff {n : Nat} : lt64 n = true ↔ n < 64 := by unfold lt64; rw [Nat.ble_eq]; omega
def gSortD : Op := fun S rs => match rs with
  | [r] => match ownDct S r with
    | some l => match keysI l with
      | some ks => if lt64 ks.length then some (.fr (.lst ((sortI ks).map PyData.int))) else none
      | none => none
    | none => none
  | _ => none
def gSortS : Op := fun S rs => match rs with
  | [r] => match ownSet S r with
    | some l => if lt64 l.length then some (.fr (.lst ((sortI l).map PyData.int))) else none
    | none => none
  | _ => none
def gSorted : Op := fun S rs => match gOp hSorted S rs with
  | some r => some r
  | none => match gSortD S rs with
    | some r => some r
    | none => gSortS S rs
section
variable {w : World} {K : PySem.W.Frag}
theorem keysI_ok {B : Hp} : ∀ {kvs : List (Key × V)} {l : List (Key × D)} {ks : List Int}, KDp K B kvs l → keysI l = some ks → kvs.map (·.1) = ks.map Sum.inl
  | _, _, ks, .nil, e => by cases e; rfl
  | _, _, ks, .cons (k := k) h r, e => by
    cases k with
    | inl i =>
      simp only [keysI] at e
      split at e
      · rename_i l' e1
        cases e
        rw [List.map_cons, List.map_cons, keysI_ok r e1]
      · cases e
    | inr s => simp [keysI] at e
def rSortDI : List V → Hp → VK → Prop := fun xs H Q => ∃ (a : Addr) (kvs : List (Key × V)) (ks : List Int), xs = [.ref a] ∧ Rd H a (.dK kvs) ∧ kvs.map (·.1) = ks.map Sum.inl ∧ ks.length < 64 ∧
    ∀ (ys : List Int) (p : Addr), ys.Perm ks → ys.Pairwise (· ≤ ·) → H p = none → Q (.ref p) (upd H p (.lst (ys.map V.int)))
theorem ok_sortD : OpOk w K rSortDI gSortD := by
  intro σ S A B H vs rs F r Q sr x ok e q
  unfold gSortD at e
  split at e
  · rename_i r0
    split at e
    · rename_i l e1
      split at e
      · rename_i ks e2
        split at e
        · rename_i h64
          cases e
          obtain ⟨y, rfl, xa⟩ := rrs1 x
          obtain ⟨a, kvs, rfl, ha, hk⟩ := ownDct_ok sr xa e1
          refine ⟨a, kvs, ks, rfl, .inl ha, keysI_ok hk e2, lt64_iff.mp h64, fun ys p hp hs hq => ?_⟩
          obtain ⟨k2, s2⟩ := step_newA (o := .lst (ys.map V.int)) ok.right hq sr.tracked
          refine q _ _ _ [p] (.fr (.lst upd_same (by rw [sortI_is hp hs]; exact dps_ints _))) (sr.step (Same.refl _) fun a ha o h => ?_) k2 ((Step.refl.sub fun a ha => List.mem_append_right _ ha).trans s2)
          rw [upd_ne (ne_of_none h hq)]; exact h
        · cases e
      · cases e
    · cases e
  · cases e
theorem sub_perm : ∀ (ns l : List Int), ns.Nodup → (∀ x ∈ ns, x ∈ l) → l.length = ns.length → ns.Perm l
  | [], l, _, _, e => by
    have : l = [] := List.eq_nil_of_length_eq_zero e
    rw [this]
  | x :: ns, l, nd, h, e => by
    have hx := h x List.mem_cons_self
    have p := List.perm_cons_erase hx
    have nd' := List.nodup_cons.mp nd
    refine (List.Perm.cons x (sub_perm ns (l.erase x) nd'.2 (fun y hy => ?_) ?_)).trans p.symm
    · have n : y ≠ x := fun z => nd'.1 (z ▸ hy)
      exact (List.mem_erase_of_ne n).mpr (h y (List.mem_cons_of_mem _ hy))
    · have := p.length_eq
      rw [List.length_cons] at this e
      omega
theorem ok_sortS : OpOk w K (rSortedSet w) gSortS := by
  intro σ S A B H vs rs F r Q sr x ok e q
  unfold gSortS at e
  split at e
  · rename_i r0
    split at e
    · rename_i l e1
      split at e
      · rename_i h64
        cases e
        obtain ⟨y, rfl, xa⟩ := rrs1 x
        obtain ⟨a, f, n, rfl, ha, hf, hn⟩ := ownSet_ok sr xa e1
        refine ⟨a, f, n, rfl, ha, by rw [hn]; exact lt64_iff.mp h64, fun ns p hs hm hl hq => ?_⟩
        obtain ⟨k2, s2⟩ := step_newA (o := .lst (ns.map V.int)) ok.right hq sr.tracked
        have nd : ns.Nodup := hs.imp fun h => Int.ne_of_lt h
        have pm : ns.Perm l := by
          exact sub_perm ns l nd (fun x hx => (hf x).mp ((hm x).mp hx)) (by rw [hl, hn])
        refine q _ _ _ [p] (.fr (.lst upd_same (by rw [sortI_is pm (hs.imp fun h => Int.le_of_lt h)]; exact dps_ints _))) (sr.step (Same.refl _) fun a ha o h => ?_) k2 ((Step.refl.sub fun a ha => List.mem_append_right _ ha).trans s2)
        rw [upd_ne (ne_of_none h hq)]; exact h
      · cases e
    · cases e
  · cases e
def rSortX (w : World) (K : PySem.W.Frag) : List V → Hp → VK → Prop := fun xs H Q => rSortedI K xs H Q ∨ (rSortDI xs H Q ∨ rSortedSet w xs H Q)
theorem ok_sortX : OpOk w K (rSortX w K) gSorted := OpOk.or ok_sorted (OpOk.or ok_sortD ok_sortS)
theorem cr_sortX {X : Cx} (hc : X.calm = true) : CallR X (.builtin "sorted") (rSortX X.w X.K) := CallR.or cr_sortedI (CallR.or (call_sortedDI hc) (cr_sortedSet hc))
end
/-! ### a op b op c, ints -/
def eChain (p q : Int → Int → Bool) (f g h : SE) : SE := fun S => match sCons f (sCons g sNil) S with
  | some (rs, S1) => match vws S1 rs with
    | some [.int a, .int b] => if p a b then match h S1 with
      | some (r3, S2) => match vw S2 r3 with
        | some (.int c) => some (.im (.bool (q b c)), S2)
        | _ => none
      | none => none else some (.im (.bool false), S1)
    | _ => none
  | none => none
theorem t_chain {w : World} {K : PySem.W.Frag} {p q : Int → Int → Bool} {f g h : SE} {σ : L2.St} {H : Hp} {Q : VK} (z : Fl.T w K (eChain p q f g h) σ H Q) :
    tChain (rI0 fun i j => .bl (p i j)) (rI0 fun i j => .bl (q i j)) (T w K f) (T w K g) (T w K h) σ H Q := by
  obtain ⟨S, A, B, r, S', sr, ok, e, k⟩ := z
  unfold eChain at e
  split at e
  · rename_i rs S1 e1
    split at e
    · rename_i a b e2
      refine ta_two (Q := fun vs H2 => ∃ x y, vs = [x, y] ∧ rI0 (fun i j => .bl (p i j)) x y H2 fun z H3 => ∃ k, z = .bl k ∧ (if k = true then T w K h σ H3 fun w' H4 => rI0 (fun i j => .bl (q i j)) y w' H4 Q else Q (.bl false) H3)) ⟨S, A, B, rs, S1, sr, ok, e1, fun vs H1 ⟨A1, B1, F1, g1, x1⟩ => ?_⟩ |>.mono fun x H1 z => z.mono fun y H2 ⟨x', y', ee, q⟩ => by cases ee; exact q
      have vv := vws_ok g1.sr g1.ok.sub x1 e2
      obtain ⟨x, y, rfl, vx, vy⟩ := vws2 vv
      cases vx; cases vy
      refine ⟨_, _, rfl, a, b, rfl, rfl, p a b, rfl, ?_⟩
      split at e
      · rename_i hp
        rw [if_pos hp]
        split at e
        · rename_i r3 S2 e3
          split at e
          · rename_i c e4
            cases e
            refine ⟨S1, A1, B1, r3, _, g1.sr, g1.ok0, e3, fun v H2 ⟨A2, B2, F2, g2, x2⟩ => ?_⟩
            have vz := vw_ok g2.sr x2 g2.ok.sub e4
            cases vz
            exact ⟨b, c, rfl, rfl, k _ _ ⟨A2, B2, [], (g1.drop.seq g2).drop, .im (.bl _)⟩⟩
          · cases e
        · cases e
      · rename_i hp
        cases e
        rw [if_neg hp]
        exact k _ _ ⟨A1, B1, [], g1.drop, .im (.bl _)⟩
    · cases e
  · cases e
section
variable {X : Cx} {a b c : Expr} {f g h : SE} {pos : Pos} {p q : Int → Int → Bool} {op op' : CmpOp}
theorem e_chain (ho : OpR X (compareOp op) (rI0 fun i j => .bl (p i j))) (ho' : OpR X (compareOp op') (rI0 fun i j => .bl (q i j))) (ha : E X a f) (hb : E X b g) (hc : E X c h) (hm : lastMarks [op, op'] [b, c] = false := by with_unfolding_all rfl) :
    E X (.Compare a [op, op'] [b, c] pos) (eChain p q f g h) := pe_weak (pe_chain ho ho' ha hb hc hm) fun _ _ _ z => t_chain z
theorem c_chain (ho : OpR X (compareOp op) (rI0 fun i j => .bl (p i j))) (ho' : OpR X (compareOp op') (rI0 fun i j => .bl (q i j))) (ha : E X a f) (hb : E X b g) (hc : E X c h) (hm : lastMarks [op, op'] [b, c] = false := by with_unfolding_all rfl) :
    Et X (.Compare a [op, op'] [b, c] pos) (tB' (eChain p q f g h)) := pt_weak (pt_chain ho ho' ha hb hc hm) fun _ _ _ z => t_chain (t_tB z)
end
/-! ### {k: v} -/
def eDict1 (f h : SE) : SE := fun S => match sCons f (sCons h sNil) S with
  | some ([r1, r2], S') => match vw S' r1, r2.fz with
    | some kd, some d => match keyOf kd with
      | some k => some (.fr (.dct [(k, d)]), S')
      | none => none
    | _, _ => none
  | _ => none
theorem e_dict1 {X : Cx} {pos : Pos} {ke ve : Expr} {f h : SE} (hk : E X ke f) (hv : E X ve h) : E X (.Dict [some ke] [ve] pos) (eDict1 f h) := pe_weak (pe_disp (pps_cons hk hv pps_nil) rfl rfl (fun z => by cases z) (by show 1 ≤ 15; decide)) fun σ H Q z => by
  obtain ⟨S, A, B, r, S', sr, ok, e, q⟩ := z
  unfold eDict1 at e
  split at e
  · rename_i r1 r2 S1 e1
    split at e
    · rename_i kd d e2 e3
      split at e
      · rename_i k ek
        cases e
        intro p hp
        obtain ⟨k1, s1⟩ := step_newA (o := .dK []) ok hp sr.tracked
        have sr1 : SR X.w X.K B (upd H p (.dK [])) σ S A := sr.step (Same.refl _) fun a ha o h => by
          rw [upd_ne (ne_of_none h hp)]; exact h
        refine ta_two (Q := fun vs H2 => ∃ x y, vs = [x, y] ∧ H2 p = some (.dK []) ∧ ∃ kvs : List (Key × V), [(x, y)] = kvs.map (fun kv => (kV kv.1, kv.2)) ∧ kvs.length ≤ 15 ∧ Q (.ref p) (upd H2 p (.dK (mergeK [] kvs))))
          ⟨S, A, B, _, _, sr1, Ok.right (F := [p]) k1, e1, fun vs H2 ⟨A2, B2, F, g2, x2⟩ => ?_⟩ |>.mono fun x H1 z => z.mono fun y H2 ⟨x', y', ee, q⟩ => by cases ee; exact q
        obtain ⟨x, y, F1, F2, rfl, xa, xb⟩ := rrs2 x2
        obtain ⟨p1, p2, p3⟩ := pend (F := [p]) k1 g2.st g2.ok (fun a ha => by simp at ha; subst ha; exact ⟨_, upd_same⟩)
        have hp2 : H2 p = some (.dK []) := p3 p (by simp) _ upd_same
        have kx := keyOf_ok (vw_ok g2.sr xa g2.ok.sub e2) ek
        subst kx
        have dd : Dp X.K (ov B2 H2 F) y d := by
          cases x2 with
          | cons h1 h2 =>
            cases h2 with
            | cons h3 h4 =>
              cases h4
              exact h3.data (ov_same g2.ok.sub) (fun b hb => ov_in (List.mem_append_right _ (List.mem_append_left _ hb))) e3
        refine ⟨_, _, rfl, hp2, [(k, y)], rfl, (by show 1 ≤ 15; decide), ?_⟩
        have em : mergeK [] [(k, y)] = [(k, y)] := mergeK_snoc [(k, y)] [] (by simp)
        rw [em]
        have q1 : Ok (F ++ ([p] ++ A2)) B2 H2 := ok_mid p1
        obtain ⟨f1, f2⟩ := step_freeze q1
        obtain ⟨m1, m2⟩ := step_mut (o := .dK [(k, y)]) f1 (p := p) (by simp)
        refine q _ _ ⟨A2, ov B2 H2 F, [p], ⟨?_, m1, ?_, g2.mu⟩, .fr (.dct upd_same (.cons dd .nil))⟩
        · refine g2.sr.step (ov_same g2.ok.sub) fun a ha o h => ?_
          have n : a ≠ p := fun e => by
            subst e
            exact (List.nodup_append.mp (f1.nd)).2.2 a (by simp) a ha rfl
          rw [upd_ne n]; exact h
        · have t1 : Step ([p] ++ (F ++ A2)) B2 H2 ([p] ++ A2) (ov B2 H2 F) H2 := step_mid f2
          exact (s1.trans p2).trans (t1.trans m2)
      · cases e
    · cases e
  · cases e
/-! ### list(range(n)), list(range(a, b)), tuple(range(n)) -/
def eLR1 (f : SE) : SE := fun S => match f S with
  | some (r, S') => match vw S' r with
    | some (.int n) => if small62 n && szOk n.toNat then some (.fr (.lst (rngD 0 n.toNat)), S') else none
    | _ => none
  | none => none
def eTR1 (f : SE) : SE := fun S => match f S with
  | some (r, S') => match vw S' r with
    | some (.int n) => if small62 n && szOk n.toNat then some (.im (.tuple (rngD 0 n.toNat)), S') else none
    | _ => none
  | none => none
def eLR2 (f g : SE) : SE := fun S => match sCons f (sCons g sNil) S with
  | some (rs, S') => match vws S' rs with
    | some [.int a, .int b] => if small62 a && small62 b && szOk (b - a).toNat then some (.fr (.lst (rngD a (b - a).toNat)), S') else none
    | _ => none
  | none => none
theorem dps_rg {K : PySem.W.Frag} {H : Hp} (a : Int) : ∀ l : List Nat, DpAll K H (l.map fun (i : Nat) => V.int (a + (i : Nat))) (l.map fun (i : Nat) => PyData.int (a + (i : Nat)))
  | [] => .nil
  | i :: l => .cons (.int _) (dps_rg a l)
theorem rgOk_of {a b : Int} (h1 : small62 a = true) (h2 : small62 b = true) (h3 : szOk (b - a).toNat = true) : RgOk a b := by
  have z1 := small62_b' h1
  have z2 := small62_b' h2
  have z3 : (b - a).toNat ≤ 1000000 := of_decide_eq_true h3
  exact ⟨z1.1, z1.2, z2.1, z2.2, by omega⟩
section
variable {X : Cx} {a b : Expr} {f g : SE} {p p2 pos pos2 : Pos}
theorem e_listR1 (hc : X.calm = true) (hl : Gl X "list") (ml : X.mg "list" = none) (hr : Gl X "range") (mr : X.mg "range" = none) (ha : E X a f) (na : starEach [a] X.env = (false, eval a X.env) :: starEach [] X.env := by rfl)
    (nb : starEach [.Call (.Name "range" p2) [a] [] pos2] X.env = (false, eval (.Call (.Name "range" p2) [a] [] pos2) X.env) :: starEach [] X.env := by rfl) :
    E X (.Call (.Name "list" p) [.Call (.Name "range" p2) [a] [] pos2] [] pos) (eLR1 f) := pe_weak (pe_listRg hc hl ml (prg_1 hr mr ha na) nb) fun σ H Q z => by
  obtain ⟨S, A, B, r, S', sr, ok, e, q⟩ := z
  unfold eLR1 at e
  split at e
  · rename_i r1 S1 e1
    split at e
    · rename_i n e2
      split at e
      · rename_i hs
        cases e
        rw [Bool.and_eq_true] at hs
        refine ⟨S, A, B, r1, _, sr, ok, e1, fun v H1 ⟨A1, B1, F, g1, x1⟩ => ?_⟩
        have vx := vw_ok g1.sr x1 g1.ok.sub e2
        cases vx
        refine ⟨n, rfl, rgOk_of (by decide) hs.1 (by rw [Int.sub_zero]; exact hs.2), fun t ht => ?_⟩
        obtain ⟨k2, s2⟩ := step_newA (o := .lst (rgV 0 n)) g1.ok.right ht g1.sr.tracked
        have dd : DpAll X.K B1 (rgV 0 n) (rngD 0 n.toNat) := by
          unfold rgV rngD
          rw [Int.sub_zero]
          exact dps_rg 0 _
        refine q _ _ ⟨A1, B1, [t], ⟨g1.sr.step (Same.refl _) fun c hc o h => ?_, k2, (g1.st.trans (Step.refl.sub fun c hc => List.mem_append_right _ hc)).trans s2, g1.mu⟩, .fr (.lst upd_same dd)⟩
        rw [upd_ne (ne_of_none h ht)]; exact h
      · cases e
    · cases e
  · cases e
theorem e_listR2 (hc : X.calm = true) (hl : Gl X "list") (ml : X.mg "list" = none) (hr : Gl X "range") (mr : X.mg "range" = none) (ha : E X a f) (hb : E X b g) (na : starEach [a, b] X.env = (false, eval a X.env) :: starEach [b] X.env := by rfl)
    (nb : starEach [b] X.env = (false, eval b X.env) :: starEach [] X.env := by rfl) (hp : (backTo pos2 (starEach [b] X.env)).any (·.1) = false := by rfl)
    (nc : starEach [.Call (.Name "range" p2) [a, b] [] pos2] X.env = (false, eval (.Call (.Name "range" p2) [a, b] [] pos2) X.env) :: starEach [] X.env := by rfl) :
    E X (.Call (.Name "list" p) [.Call (.Name "range" p2) [a, b] [] pos2] [] pos) (eLR2 f g) := pe_weak (pe_listRg hc hl ml (prg_2 hr mr ha hb na nb hp) nc) fun σ H Q z => by
  obtain ⟨S, A, B, r, S', sr, ok, e, q⟩ := z
  unfold eLR2 at e
  split at e
  · rename_i rs S1 e1
    split at e
    · rename_i i j e2
      split at e
      · rename_i hs
        cases e
        rw [Bool.and_eq_true, Bool.and_eq_true] at hs
        refine ta_two (Q := fun vs H2 => ∃ x y, vs = [x, y] ∧ ∃ i j, x = .int i ∧ y = .int j ∧ (RgOk i j ∧ ∀ q, H2 q = none → Q (.ref q) (upd H2 q (.lst (rgV i j)))))
          ⟨S, A, B, rs, _, sr, ok, e1, fun vs H1 ⟨A1, B1, F, g1, x1⟩ => ?_⟩ |>.mono fun x H1 z => z.mono fun y H2 ⟨x', y', ee, q⟩ => by cases ee; exact q
        obtain ⟨x, y, rfl, vx, vy⟩ := vws2 (vws_ok g1.sr g1.ok.sub x1 e2)
        cases vx; cases vy
        refine ⟨_, _, rfl, i, j, rfl, rfl, rgOk_of hs.1.1 hs.1.2 hs.2, fun t ht => ?_⟩
        obtain ⟨k2, s2⟩ := step_newA (o := .lst (rgV i j)) g1.ok.right ht g1.sr.tracked
        have dd : DpAll X.K B1 (rgV i j) (rngD i (j - i).toNat) := dps_rg i _
        refine q _ _ ⟨A1, B1, [t], ⟨g1.sr.step (Same.refl _) fun c hc o h => ?_, k2, (g1.st.trans (Step.refl.sub fun c hc => List.mem_append_right _ hc)).trans s2, g1.mu⟩, .fr (.lst upd_same dd)⟩
        rw [upd_ne (ne_of_none h ht)]; exact h
      · cases e
    · cases e
  · cases e
end
end Fl
/-! Fl: how the codes are evaluated (plain Lean). -/
namespace Fl
open PySem L2
section
variable {S : List Sl}
theorem sNop_ap : sNop S = some (.nx S) := rfl
theorem sSeq_ap (f g : SS) : sSeq f g S = match f S with
  | some (.nx S1) => g S1
  | o => o := rfl
theorem sBrk_ap : sBrk S = some (.bk S) := rfl
theorem sCnt_ap : sCnt S = some (.ct S) := rfl
theorem sRet_ap (f : SE) : sRet f S = match f S with
  | some (.pl _, _) => none
  | some (r, S') => some (.rt r S')
  | none => none := rfl
theorem sRetN_ap : sRetN S = some (.rt (.im .none) S) := rfl
theorem sDrop_ap (f : SE) : sDrop f S = match f S with
  | some (_, S') => some (.nx S')
  | none => none := rfl
theorem sIf_ap (t : ST) (f g : SS) : sIf t f g S = match t S with
  | some (true, S') => f S'
  | some (false, S') => g S'
  | none => none := rfl
theorem sSet_ap (i : Nat) (f : SE) : sSet i f S = match f S with
  | some (r, S') => match r.sl with
    | some s => if isMu S' i then none else some (.nx (S'.set i s))
    | none => none
  | none => none := rfl
def isM : Sl → Bool
  | .mu _ => true
  | _ => false
theorem isM_un : isM .un = false := rfl
theorem isM_im (d : D) : isM (.im d) = false := rfl
theorem isM_ow (o : O) : isM (.ow o) = false := rfl
theorem isM_mu (o : O) : isM (.mu o) = true := rfl
theorem isMu_ap (i : Nat) : isMu S i = match S[i]? with
  | some s => isM s
  | none => true := by
  unfold isMu
  cases S[i]? with
  | none => rfl
  | some s => cases s <;> rfl
theorem sAsg_ap (f : SE) (g : STg) : sAsg f g S = match f S with
  | some (r, S') => match r.fz with
    | some d => match g d S' with
      | some S2 => some (.nx S2)
      | none => none
    | none => none
  | none => none := rfl
theorem gN_ap (i : Nat) (d : D) : gN i d S = if isMu S i then none else some (S.set i (.im d)) := rfl
theorem gT_ap (is : List Nat) (ds : List D) : gT is (.tuple ds) S = gTs is ds S := rfl
theorem gT_apL (is : List Nat) (ds : List D) : gT is (.list ds) S = gTs is ds S := rfl
theorem sPar_ap (i j : Nat) (f g : SE) : sPar i j f g S = match sCons f (sCons g sNil) S with
  | some ([r1, r2], S') => match r1.sl, r2.sl with
    | some s1, some s2 => if isMu S' i || isMu S' j then none else some (.nx ((S'.set i s1).set j s2))
    | _, _ => none
  | _ => none := rfl
theorem sSub_ap (j : Nat) (f h : SE) : sSub j f h S = match f S with
  | some (r, S1) => match own? S1 j with
    | some (b0, _) => match h S1 with
      | some (ri, S2) => match own? S2 j with
        | some (b, o) => if b = b0 then match mSet o [r, ri] S2 with
          | some (_, o') => some (.nx (putO S2 j b o'))
          | none => none else none
        | none => none
      | none => none
    | none => none
  | none => none := rfl
theorem own?_ap (j : Nat) : own? S j = match S[j]? with
  | some (.ow o) => some (false, o)
  | some (.mu o) => some (true, o)
  | _ => none := rfl
theorem putO_t (j : Nat) (o : O) : putO S j true o = S.set j (.mu o) := rfl
theorem putO_f (j : Nat) (o : O) : putO S j false o = S.set j (.ow o) := rfl
theorem sAug_ap (i : Nat) (g : Int → Int → Int) (f : SE) : sAug i g f S = match S[i]? with
  | some (.im (.int a)) => match f S with
    | some (r, S1) => match vw S1 r with
      | some (.int b) => match S1[i]? with
        | some (.im _) => some (.nx (S1.set i (.im (.int (g a b)))))
        | _ => none
      | _ => none
    | none => none
  | _ => none := rfl
theorem sFor_ap (it : SI) (g : STg) (body : SS) : sFor it g body S = match it S with
  | some (ds, S1) => forL g body ds S1
  | none => none := rfl
theorem eC_ap (d : D) : eC d S = some (.im d, S) := rfl
theorem eVar_ap (i : Nat) : eVar i S = match S[i]? with
  | some (.im d) => some (.im d, S)
  | some (.ow o) => match o.toD with
    | some d => some (.im d, S.set i (.im d))
    | none => none
  | _ => none := rfl
theorem ePl_ap (i : Nat) : ePl i S = match S[i]? with
  | some (.im _) => some (.pl i, S)
  | some (.ow _) => some (.pl i, S)
  | some (.mu _) => some (.pl i, S)
  | _ => none := rfl
theorem eMv_ap (i : Nat) : eMv i S = match S[i]? with
  | some (.im d) => some (.im d, S)
  | some (.ow o) => some (.fr o, S.set i .un)
  | _ => none := rfl
theorem opS_ap (g : Op) (fs : SEs) : opS g fs S = match fs S with
  | some (rs, S') => match g S' rs with
    | some r => some (r, S')
    | none => none
  | none => none := rfl
theorem sNil_ap : sNil S = some ([], S) := rfl
theorem sCons_ap (f : SE) (g : SEs) : sCons f g S = match f S with
  | some (r, S1) => match g S1 with
    | some (rs, S2) => some (r :: rs, S2)
    | none => none
  | none => none := rfl
theorem gOp_ap (h : List D → Option Res) (rs : List Rs) : gOp h S rs = match vws S rs with
  | some ds => match h ds with
    | some r => some r.rs
    | none => none
  | none => none := rfl
theorem vws_nil : vws S [] = some [] := rfl
theorem vws_cons (r : Rs) (rs : List Rs) : vws S (r :: rs) = match vw S r, vws S rs with
  | some d, some ds => some (d :: ds)
  | _, _ => none := rfl
theorem vw_im (d : D) : vw S (.im d) = some d := rfl
theorem vw_fr (l : List D) : vw S (.fr (.lst l)) = some (.list l) := rfl
theorem vw_frd (l : List (Key × D)) : vw S (.fr (.dct l)) = none := rfl
theorem vw_frs (l : List Int) : vw S (.fr (.set l)) = none := rfl
theorem vw_frr (l : List (List D)) : vw S (.fr (.rows l)) = none := rfl
theorem vw_pl (i : Nat) : vw S (.pl i) = match S[i]? with
    | some (.im d) => some d
    | some (.ow o) => o.view
    | some (.mu o) => o.view
    | _ => none := rfl
theorem view_l (l : List D) : (O.lst l).view = some (.list l) := rfl
theorem view_d (l : List (Key × D)) : (O.dct l).view = none := rfl
theorem view_dT (l : List (List Key × D)) : (O.dctT l).view = none := rfl
theorem view_s (l : List Int) : (O.set l).view = none := rfl
theorem view_r (l : List (List D)) : (O.rows l).view = none := rfl
theorem rs_d (d : D) : (Res.d d).rs = .im d := rfl
theorem rs_l (l : List D) : (Res.l l).rs = .fr (.lst l) := rfl
theorem sl_im (d : D) : (Rs.im d).sl = some (.im d) := rfl
theorem sl_fr (o : O) : (Rs.fr o).sl = some (.ow o) := rfl
theorem fz_im (d : D) : (Rs.im d).fz = some d := rfl
theorem fz_fr (l : List D) : (Rs.fr (.lst l)).fz = some (.list l) := rfl
theorem fz_fr2 (l : List (List D)) : (Rs.fr (.rows l)).fz = some (.list (l.map PyData.list)) := rfl
theorem fzs_nil : fzs [] = some [] := rfl
theorem fzs_cons (r : Rs) (rs : List Rs) : fzs (r :: rs) = match r.fz, fzs rs with
  | some d, some ds => some (d :: ds)
  | _, _ => none := rfl
theorem toD_l (l : List D) : (O.lst l).toD = some (.list l) := rfl
theorem toD_r (l : List (List D)) : (O.rows l).toD = some (.list (l.map PyData.list)) := rfl
theorem gTupD_ap (rs : List Rs) : gTupD S rs = match fzs rs with
  | some ds => if szOk ds.length then some (.im (.tuple ds)) else none
  | none => none := rfl
theorem gLstD_ap (rs : List Rs) : gLstD S rs = match fzs rs with
  | some ds => if szOk ds.length then some (.fr (.lst ds)) else none
  | none => none := rfl
theorem gIx_ap (rs : List Rs) : gIx S rs = match gOp hIx S rs with
  | some r => some r
  | none => match gDGet S rs with
    | some r => some r
    | none => gDGetT S rs := rfl
theorem gDGetT_ap (a b : Rs) : gDGetT S [a, b] = match ownDctT S a, vw S b with
    | some l, some d => match keyT d with
      | some k => match lookK l k with
        | some x => some (.im x)
        | none => none
      | none => none
    | _, _ => none := rfl
theorem ownDctT_pl (i : Nat) : ownDctT S (.pl i) = match S[i]? with
    | some (.ow (.dctT l)) => some l
    | some (.mu (.dctT l)) => some l
    | _ => none := rfl
theorem gInT_ap (neg : Bool) (a b : Rs) : gInT neg S [a, b] = match vw S a, ownDctT S b with
    | some d, some l => match keyT d with
      | some k => some (.im (.bool (neg != (lookK l k).isSome)))
      | none => none
    | _, _ => none := rfl
theorem keyT_t (ds : List D) : keyT (.tuple ds) = keysOf ds := rfl
theorem keysOf_nil : keysOf [] = some [] := rfl
theorem keysOf_cons (d : D) (ds : List D) : keysOf (d :: ds) = match keyOf d, keysOf ds with
    | some k, some ks => some (k :: ks)
    | _, _ => none := rfl
theorem eDctT0_ap : eDctT0 S = some (.fr (.dctT []), S) := rfl
theorem gDGet_ap (a b : Rs) : gDGet S [a, b] = match ownDct S a, vw S b with
    | some l, some d => match keyOf d with
      | some k => match lookK l k with
        | some x => some (.im x)
        | none => none
      | none => none
    | _, _ => none := rfl
theorem ownDct_pl (i : Nat) : ownDct S (.pl i) = match S[i]? with
    | some (.ow (.dct l)) => some l
    | some (.mu (.dct l)) => some l
    | _ => none := rfl
theorem keyOf_i (i : Int) : keyOf (.int i) = some (.inl i) := rfl
theorem keyOf_s (s : Str) : keyOf (.str s) = some (.inr s) := rfl
theorem gMul_ap (rs : List Rs) : gMul S rs = match gOp hMul S rs with
  | some r => some r
  | none => match gRep S rs with
    | some r => some r
    | none => gOp hRepT S rs := rfl
theorem tB_ap (f : SE) : tB' f S = match f S with
  | some (.im (.bool b), S') => some (b, S')
  | _ => none := rfl
theorem tNot_ap (t : ST) : tNot' t S = match t S with
  | some (b, S') => some (!b, S')
  | none => none := rfl
theorem tAnd_ap (t u : ST) : tAnd' t u S = match t S with
  | some (true, S') => u S'
  | some (false, S') => some (false, S')
  | none => none := rfl
theorem tOr_ap (t u : ST) : tOr' t u S = match t S with
  | some (true, S') => some (true, S')
  | some (false, S') => u S'
  | none => none := rfl
theorem eNot_ap (f : SE) : eNot f S = match f S with
  | some (.im (.bool b), S') => some (.im (.bool (!b)), S')
  | _ => none := rfl
theorem eAnd_ap (f g : SE) : eAnd f g S = match f S with
  | some (.im (.bool true), S') => g S'
  | some (.im (.bool false), S') => some (.im (.bool false), S')
  | _ => none := rfl
theorem eOr_ap (f g : SE) : eOr f g S = match f S with
  | some (.im (.bool true), S') => some (.im (.bool true), S')
  | some (.im (.bool false), S') => g S'
  | _ => none := rfl
theorem eIf_ap (t : ST) (f g : SE) : eIf t f g S = match t S with
  | some (true, S') => f S'
  | some (false, S') => g S'
  | none => none := rfl
theorem tY_ap : tY S = some (true, S) := rfl
theorem eSl_ap (f : SE) (p q : SO) : eSl f p q S = match f S with
  | some (r, S1) => match p S1 with
    | some (lo, S2) => match q S2 with
      | some (hi, S3) => match vw S3 r with
        | some d => match hCut d lo hi with
          | some res => some (res.rs, S3)
          | none => none
        | none => none
      | none => none
    | none => none
  | none => none := rfl
theorem oN_ap : oN S = some (none, S) := rfl
theorem oI_ap (g : SE) : oI g S = match g S with
  | some (r, S') => match vw S' r with
    | some (.int i) => some (some i, S')
    | _ => none
  | none => none := rfl
def seqOf : D → Option (List D)
  | .list l => some l
  | .tuple l => some l
  | _ => none
theorem seqOf_l (l : List D) : seqOf (.list l) = some l := rfl
theorem seqOf_t (l : List D) : seqOf (.tuple l) = some l := rfl
theorem itOf_ap (f : SE) : itOf f S = match f S with
  | some (r, S') => match r.fz with
    | some d => match seqOf d with
      | some l => some (l, S')
      | none => none
    | none => none
  | none => none := by
  unfold itOf
  cases f S with
  | none => rfl
  | some p =>
    obtain ⟨r, S'⟩ := p
    simp only
    cases r.fz with
    | none => rfl
    | some d => cases d <;> rfl
theorem itR1_ap (f : SE) : itR1 f S = match f S with
  | some (r, S') => match vw S' r with
    | some (.int n) => if small62 n then some (rngD 0 n.toNat, S') else none
    | _ => none
  | none => none := rfl
theorem itR2_ap (f g : SE) : itR2 f g S = match sCons f (sCons g sNil) S with
  | some (rs, S') => match vws S' rs with
    | some [.int a, .int b] => if small62 a && small62 b then some (rngD a (b - a).toNat, S') else none
    | _ => none
  | none => none := rfl
theorem eLc_ap (it : SI) (i : Nat) (t : ST) (f : SE) : eLc it i t f S = match it S with
  | some (ds, S1) => if isIm S1 i then match lcL i t f ds (S1.set i .un) with
    | some (es, S2) => if szOk ds.length then some (.fr (.lst es), S2.set i (S1.getD i .un)) else none
    | none => none else none
  | none => none := rfl
theorem isIm_ap (i : Nat) : isIm S i = match S[i]? with
  | some (.im _) => true
  | some .un => true
  | _ => false := rfl
theorem eCall_ap (n : Nat) (F : Fn) (fs : SEs) : eCall n F fs S = match fs S with
  | some (rs, S1) => match fzs rs with
    | some ds => if decide (rs.length = n) then match F (ds.map Sl.im) with
      | some (r, _) => if isPl r then none else some (r, S1)
      | none => none else none
    | none => none
  | none => none := rfl
theorem eCallM_ap (n : Nat) (F : Fn) (i : Nat) (fs : SEs) : eCallM n F i fs S = match own? S i with
  | some (b0, _) => match fs S with
    | some (rs, S1) => match own? S1 i, fzs rs with
      | some (b, o), some ds => if decide (b = b0 ∧ rs.length + 1 = n) then match F (.mu o :: ds.map Sl.im) with
        | some (r, .mu o' :: _) => if isPl r then none else some (r, putO S1 i b o')
        | _ => none else none
      | _, _ => none
    | none => none
  | none => none := rfl
theorem fnOf_ap (n : Nat) (body : SS) (args : List Sl) : fnOf n body args = match body (args ++ List.replicate n .un) with
  | some (.rt r S') => if isPl r || decide (S'.length ≠ args.length + n) then none else some (r, projS args S')
  | some (.nx S') => if decide (S'.length ≠ args.length + n) then none else some (.im .none, projS args S')
  | _ => none := rfl
theorem isPl_im (d : D) : isPl (.im d) = false := rfl
theorem isPl_fr (o : O) : isPl (.fr o) = false := rfl
theorem eDspl_ap (ks : List Key) (fl : List SE) : eDspl ks fl S = match sArgs fl S with
  | some (rs, S') => match fzs rs with
    | some ds => if decide (ds.length = ks.length) && decide (ks.Nodup) then some (.fr (.dct (mkD ks ds)), S') else none
    | none => none
  | none => none := rfl
theorem sArgs_nil : sArgs [] = sNil := rfl
theorem sArgs_cons (f : SE) (fs : List SE) : sArgs (f :: fs) = sCons f (sArgs fs) := rfl
theorem mkD_nil : mkD [] [] = [] := rfl
theorem mkD_cons (k : Key) (d : D) (ks : List Key) (ds : List D) : mkD (k :: ks) (d :: ds) = (k, d) :: mkD ks ds := rfl
theorem mulOk_l {i j : Int} (h1 : -18446744073709551616 < i) (h2 : i < 18446744073709551616) : mulOk i j = true := mulOk_iff.mpr (.inl ⟨h1, h2⟩)
theorem mulOk_r {i j : Int} (h1 : -18446744073709551616 < j) (h2 : j < 18446744073709551616) : mulOk i j = true := mulOk_iff.mpr (.inr (.inl ⟨h1, h2⟩))
theorem getElem?_lit0 {α : Type} (a : α) (l : List α) : (a :: l)[0]? = some a := rfl
theorem keepMu_mu (o o' : O) : keepMu (.mu o) (.mu o') = .mu o' := rfl
theorem keepMu_im (d : D) (s : Sl) : keepMu (.im d) s = .un := rfl
theorem projS_nil (S : List Sl) : projS [] S = [] := rfl
theorem projS_cons (a s : Sl) (as ss : List Sl) : projS (a :: as) (s :: ss) = keepMu a s :: projS as ss := rfl
end
/-! ### the law's dict of cells -/
def mL (l s : D) (c p : D) : List (Key × D) := [(.inr "left", l), (.inr "seed", s), (.inr "cells", c), (.inr "spot", p)]
section
variable {l s c p x : D}
theorem lk_left : lookK (mL l s c p) (.inr "left") = some l := rfl
theorem lk_seed : lookK (mL l s c p) (.inr "seed") = some s := rfl
theorem lk_cells : lookK (mL l s c p) (.inr "cells") = some c := rfl
theorem lk_spot : lookK (mL l s c p) (.inr "spot") = some p := rfl
theorem pt_left : putD (mL l s c p) (.inr "left") x = mL x s c p := rfl
theorem pt_spot : putD (mL l s c p) (.inr "spot") x = mL l s c x := rfl
theorem len_mL : (mL l s c p).length = 4 := rfl
end
theorem cutD_map {α β : Type} (f : α → β) (l : List α) (lo hi : Option Int) : cutD (l.map f) lo hi = (cutD l lo hi).map f := by
  unfold cutD
  rw [List.length_map, List.map_take, List.map_drop]
theorem sIx0 {n d k : Nat} (h : k ≤ n) : HT.sIx n d (some (k : Int)) = k := by
  rw [HT.sIx_nat]; omega
theorem cut_from {α : Type} {l : List α} {k : Nat} (h : k ≤ l.length) : cutD l (some (k : Int)) none = l.drop k := by
  unfold cutD
  rw [sIx0 h, HT.sIx_none, List.take_of_length_le]
  rw [List.length_drop]; exact Nat.le_refl _
theorem cut_to {α : Type} {l : List α} {k : Nat} (h : k ≤ l.length) : cutD l none (some (k : Int)) = l.take k := by
  unfold cutD
  rw [sIx0 h, HT.sIx_none, List.drop_zero, Nat.sub_zero]
theorem cut_any {α : Type} (l : List α) (lo hi : Option Int) : (cutD l lo hi).length ≤ l.length := by
  unfold cutD
  rw [List.length_take, List.length_drop]
  omega
theorem isi_ii (i : Int) : hIsi "int" [.int i] = some (.d (.bool true)) := by unfold hIsi isT; rfl
theorem isi_ib (i : Int) : hIsi "bool" [.int i] = some (.d (.bool false)) := by unfold hIsi isT; rfl
theorem isi_tt (l : List D) : hIsi "tuple" [.tuple l] = some (.d (.bool true)) := by unfold hIsi isT; rfl
theorem isi_ll (l : List D) : hIsi "list" [.list l] = some (.d (.bool true)) := by unfold hIsi isT; rfl
/-- a loop that goes through all its items -/
theorem forL_inv {g : STg} {body : SS} (P : List Sl → Prop) : ∀ {ds : List D} {S : List Sl}, (∀ d ∈ ds, ∀ S, P S → ∃ S1 S2, g d S = some S1 ∧ body S1 = some (.nx S2) ∧ P S2) → P S → ∃ S', forL g body ds S = some (.nx S') ∧ P S'
  | [], S, _, p => ⟨S, rfl, p⟩
  | d :: ds, S, h, p => by
    obtain ⟨S1, S2, e1, e2, p2⟩ := h d List.mem_cons_self S p
    obtain ⟨S', e3, p3⟩ := forL_inv P (ds := ds) (S := S2) (fun d hd => h d (List.mem_cons_of_mem _ hd)) p2
    exact ⟨S', by simp only [forL, e1, e2, e3], p3⟩
theorem rngD_mem {n : Nat} {d : D} (h : d ∈ rngD 0 n) : ∃ k : Nat, d = .int k ∧ k < n := by
  unfold rngD at h
  obtain ⟨k, hk, rfl⟩ := List.mem_map.mp h
  exact ⟨k, by rw [Int.zero_add], List.mem_range.mp hk⟩
theorem rngD_len (lo : Int) (n : Nat) : (rngD lo n).length = n := by unfold rngD; rw [List.length_map, List.length_range]
theorem small62_b {i : Int} (h1 : -1000000000 ≤ i) (h2 : i ≤ 1000000000) : small62 i = true := small62_iff.mpr (by omega)
section
variable {S : List Sl}
theorem row?_ap (j : Nat) (k : Int) : row? S j k = match own? S j with
  | some (b, .rows ls) => match ixN ls.length k with
    | some i => match ls[i]? with
      | some l => some (b, ls, i, l)
      | none => none
    | none => none
  | _ => none := rfl
theorem eRowM_ap (j : Nat) (k : Int) (fs : SEs) (g : Mt) : eRowM j k fs g S = match row? S j k with
  | some (b, ls, i, l) => match fs (S.set j .un) with
    | some (rs, S1) => if isUn S1[j]? then match g (.lst l) rs S1 with
      | some (d, .lst l') => some (.im d, putO S1 j b (.rows (ls.set i l')))
      | _ => none else none
    | none => none
  | none => none := rfl
theorem sRowSub_ap (j : Nat) (k : Int) (f h : SE) : sRowSub j k f h S = match row? S j k with
  | some (b, ls, i, l) => match sCons f (sCons h sNil) (S.set j .un) with
    | some ([r1, r2], S1) => if isUn S1[j]? then match mSet (.lst l) [r1, r2] S1 with
      | some (_, .lst l') => some (.nx (putO S1 j b (.rows (ls.set i l'))))
      | _ => none else none
    | _ => none
  | none => none := rfl
theorem eRowLen_ap (j : Nat) (k : Int) : eRowLen j k S = match row? S j k with
  | some (_, _, _, l) => some (.im (.int l.length), S)
  | none => none := rfl
theorem eRowNil_ap (j : Nat) (k : Int) : eRowNil j k S = match row? S j k with
  | some (_, _, _, l) => if SeqAt.shaped (.list l) then some (.im (.bool (PyData.eqv (.list l) (.list []))), S) else none
  | none => none := rfl
theorem isUn_un : isUn (some .un) = true := rfl
theorem ixN3_0 : ixN 3 0 = some 0 := rfl
theorem ixN3_1 : ixN 3 1 = some 1 := rfl
theorem ixN3_2 : ixN 3 2 = some 2 := rfl
theorem gRowsD_ap (rs : List Rs) : gRowsD S rs = match rowsOf rs with
  | some ls => if szOk ls.length then some (.fr (.rows ls)) else none
  | none => none := rfl
theorem rowsOf_nil : rowsOf [] = some [] := rfl
theorem rowsOf_cons (l : List D) (rs : List Rs) : rowsOf (.fr (.lst l) :: rs) = match rowsOf rs with
    | some ls => some (l :: ls)
    | none => none := rfl
theorem eMeth_ap (c : O → Bool) (i : Nat) (fs : SEs) (g : Mt) : eMeth c i fs g S = match S[i]? with
  | some (.ow o0) => if c o0 then match fs S with
    | some (rs, S1) => match S1[i]? with
      | some (.ow o) => match g o rs S1 with
        | some (d, o') => some (.im d, S1.set i (.ow o'))
        | none => none
      | _ => none
    | none => none else none
  | some (.mu o0) => if c o0 then match fs S with
    | some (rs, S1) => match S1[i]? with
      | some (.mu o) => match g o rs S1 with
        | some (d, o') => some (.im d, S1.set i (.mu o'))
        | none => none
      | _ => none
    | none => none else none
  | _ => none := rfl
theorem isL_l (l : List D) : isL (.lst l) = true := rfl
theorem isS_s (l : List Int) : isS (.set l) = true := rfl
theorem mAppend_ap (l : List D) (r : Rs) : mAppend (.lst l) [r] S = match r.fz with
    | some d => if szOk (l.length + 1) then some (.none, .lst (l ++ [d])) else none
    | none => none := rfl
theorem mExtend_ap (l : List D) (r : Rs) : mExtend (.lst l) [r] S = match ownL S r with
    | some m => if szOk (l.length + m.length) then some (.none, .lst (l ++ m)) else none
    | none => none := rfl
theorem ownL_fr (l : List D) : ownL S (.fr (.lst l)) = some l := rfl
theorem gIn_ap (neg : Bool) (rs : List Rs) : gIn neg S rs = match gOp (hIn neg) S rs with
  | some r => some r
  | none => match gInD neg S rs with
    | some r => some r
    | none => match gInS neg S rs with
      | some r => some r
      | none => gInT neg S rs := rfl
theorem ownDct_fr (l : List (Key × D)) : ownDct S (.fr (.dct l)) = some l := rfl
theorem gRep_ap (a b : Rs) : gRep S [a, b] = match ownL S a, vw S b with
    | some x, some (.int k) => if repOk x.length k then some (.fr (.lst (List.replicate k.toNat x).flatten)) else none
    | _, _ => none := rfl
end
/-- a comprehension that changes no slot -/
theorem lcL_pure {i : Nat} {t : ST} {f : SE} {S : List Sl} {tst : D → Bool} {val : D → D} (hS : S[i]? = some .un) : ∀ {ds : List D}, (∀ d ∈ ds, t (S.set i (.im d)) = some (tst d, S.set i (.im d))) →
    (∀ d ∈ ds, tst d = true → f (S.set i (.im d)) = some (.im (val d), S.set i (.im d))) → lcL i t f ds S = some ((ds.filter tst).map val, S)
  | [], _, _ => rfl
  | d :: ds, ht, hf => by
    have ih := lcL_pure hS (ds := ds) (fun d hd => ht d (List.mem_cons_of_mem _ hd)) (fun d hd => hf d (List.mem_cons_of_mem _ hd))
    have e : (S.set i (.im d)).set i .un = S := by rw [List.set_set, set_same hS]
    have h1 := ht d List.mem_cons_self
    cases c : tst d with
    | true =>
      have h2 := hf d List.mem_cons_self c
      rw [c] at h1
      simp only [lcL, h1, h2, Rs.fz, e, ih, List.filter_cons, c, if_true, List.map_cons]
    | false =>
      rw [c] at h1
      simp only [lcL, h1, e, ih, List.filter_cons, c, Bool.false_eq_true, if_false]
/-- a comprehension that draws: each turn keeps P -/
theorem lcL_inv {i : Nat} {t : ST} {f : SE} (P : List Sl → Prop) (R : D → Prop) : ∀ {ds : List D} {S : List Sl}, (∀ d ∈ ds, ∀ S, P S → ∃ S2 x S3, t (S.set i (.im d)) = some (true, S2) ∧ f S2 = some (.im x, S3) ∧ R x ∧ P (S3.set i .un)) → P S →
    ∃ es S', lcL i t f ds S = some (es, S') ∧ P S' ∧ es.length = ds.length ∧ ∀ x ∈ es, R x
  | [], S, _, p => ⟨[], S, rfl, p, rfl, fun x h => by simp at h⟩
  | d :: ds, S, h, p => by
    obtain ⟨S2, x, S3, h1, h2, h3, p2⟩ := h d List.mem_cons_self S p
    obtain ⟨es, S', e, p3, l, r⟩ := lcL_inv P R (ds := ds) (S := S3.set i .un) (fun d hd => h d (List.mem_cons_of_mem _ hd)) p2
    refine ⟨x :: es, S', ?_, p3, by rw [List.length_cons, List.length_cons, l], fun y hy => ?_⟩
    · simp only [lcL, h1, h2, Rs.fz, e]
    · rcases List.mem_cons.mp hy with rfl | hy
      · exact h3
      · exact r y hy
/-- a loop that goes through all its items, with continue -/
theorem forL_inv2 {g : STg} {body : SS} (P : List Sl → Prop) : ∀ {ds : List D} {S : List Sl}, (∀ d ∈ ds, ∀ S, P S → ∃ S1 S2, g d S = some S1 ∧ (body S1 = some (.nx S2) ∨ body S1 = some (.ct S2)) ∧ P S2) → P S → ∃ S', forL g body ds S = some (.nx S') ∧ P S'
  | [], S, _, p => ⟨S, rfl, p⟩
  | d :: ds, S, h, p => by
    obtain ⟨S1, S2, e1, e2, p2⟩ := h d List.mem_cons_self S p
    obtain ⟨S', e3, p3⟩ := forL_inv2 P (ds := ds) (S := S2) (fun d hd => h d (List.mem_cons_of_mem _ hd)) p2
    rcases e2 with e2 | e2
    · exact ⟨S', by simp only [forL, e1, e2, e3], p3⟩
    · exact ⟨S', by simp only [forL, e1, e2, e3], p3⟩
/-- a loop that goes through all its items, with continue, counted -/
theorem forL_invN {g : STg} {body : SS} (P : Nat → List Sl → Prop) : ∀ {ds : List D} {k : Nat} {S : List Sl}, (∀ d ∈ ds, ∀ k S, P k S → ∃ S1 S2, g d S = some S1 ∧ (body S1 = some (.nx S2) ∨ body S1 = some (.ct S2)) ∧ P (k + 1) S2) → P k S → ∃ S', forL g body ds S = some (.nx S') ∧ P (k + ds.length) S'
  | [], k, S, _, p => ⟨S, rfl, p⟩
  | d :: ds, k, S, h, p => by
    obtain ⟨S1, S2, e1, e2, p2⟩ := h d List.mem_cons_self k S p
    obtain ⟨S', e3, p3⟩ := forL_invN P (ds := ds) (k := k + 1) (S := S2) (fun d hd => h d (List.mem_cons_of_mem _ hd)) p2
    have e : k + (d :: ds).length = k + 1 + ds.length := by rw [List.length_cons]; omega
    rw [e]
    rcases e2 with e2 | e2
    · exact ⟨S', by simp only [forL, e1, e2, e3], p3⟩
    · exact ⟨S', by simp only [forL, e1, e2, e3], p3⟩
/-- a comprehension that draws, counted -/
theorem lcL_invN {i : Nat} {f : SE} (P : Nat → List Sl → Prop) (R : D → Prop) : ∀ {ds : List D} {k : Nat} {S : List Sl}, (∀ d ∈ ds, ∀ k S, P k S → ∃ x S3, f (S.set i (.im d)) = some (.im x, S3) ∧ R x ∧ P (k + 1) (S3.set i .un)) → P k S →
    ∃ es S', lcL i tY f ds S = some (es, S') ∧ P (k + ds.length) S' ∧ es.length = ds.length ∧ ∀ x ∈ es, R x
  | [], k, S, _, p => ⟨[], S, rfl, p, rfl, fun x h => by simp at h⟩
  | d :: ds, k, S, h, p => by
    obtain ⟨x, S3, h2, h3, p2⟩ := h d List.mem_cons_self k S p
    obtain ⟨es, S', e, p3, l, r⟩ := lcL_invN P R (ds := ds) (k := k + 1) (S := S3.set i .un) (fun d hd => h d (List.mem_cons_of_mem _ hd)) p2
    refine ⟨x :: es, S', ?_, ?_, by rw [List.length_cons, List.length_cons, l], fun y hy => ?_⟩
    · simp only [lcL, tY, h2, Rs.fz, e]
    · have e : k + (d :: ds).length = k + 1 + ds.length := by rw [List.length_cons]; omega
      rw [e]; exact p3
    · rcases List.mem_cons.mp hy with rfl | hy
      · exact h3
      · exact r y hy
/-- a list or a tuple -/
def sq (b : Bool) (l : List D) : D := if b then .tuple l else .list l
theorem sq_t (l : List D) : sq true l = .tuple l := rfl
theorem sq_l (l : List D) : sq false l = .list l := rfl
theorem hIx_sq (b : Bool) (l : List D) (i : Int) : hIx [sq b l, .int i] = match atI l i with
  | some d => some (.d d)
  | none => none := by cases b <;> rfl
theorem hLen_sq (b : Bool) (l : List D) : hLen [sq b l] = some (.d (.int l.length)) := by cases b <;> rfl
theorem seqOf_sq (b : Bool) (l : List D) : seqOf (sq b l) = some l := by cases b <;> rfl
theorem hTuple_sq (b : Bool) (l : List D) : hTuple [sq b l] = some (.d (.tuple l)) := by cases b <;> rfl
section
variable {S : List Sl}
theorem gSorted_ap (rs : List Rs) : gSorted S rs = match gOp hSorted S rs with
  | some r => some r
  | none => match gSortD S rs with
    | some r => some r
    | none => gSortS S rs := rfl
theorem gSortD_ap (r : Rs) : gSortD S [r] = match ownDct S r with
    | some l => match keysI l with
      | some ks => if lt64 ks.length then some (.fr (.lst ((sortI ks).map PyData.int))) else none
      | none => none
    | none => none := rfl
theorem gSortS_ap (r : Rs) : gSortS S [r] = match ownSet S r with
    | some l => if lt64 l.length then some (.fr (.lst ((sortI l).map PyData.int))) else none
    | none => none := rfl
theorem ownSet_pl (i : Nat) : ownSet S (.pl i) = match S[i]? with
    | some (.ow (.set l)) => some l
    | some (.mu (.set l)) => some l
    | _ => none := rfl
theorem eDict1_ap (f h : SE) : eDict1 f h S = match sCons f (sCons h sNil) S with
  | some ([r1, r2], S') => match vw S' r1, r2.fz with
    | some kd, some d => match keyOf kd with
      | some k => some (.fr (.dct [(k, d)]), S')
      | none => none
    | _, _ => none
  | _ => none := rfl
theorem eChain_ap (p q : Int → Int → Bool) (f g h : SE) : eChain p q f g h S = match sCons f (sCons g sNil) S with
  | some (rs, S1) => match vws S1 rs with
    | some [.int a, .int b] => if p a b then match h S1 with
      | some (r3, S2) => match vw S2 r3 with
        | some (.int c) => some (.im (.bool (q b c)), S2)
        | _ => none
      | none => none else some (.im (.bool false), S1)
    | _ => none
  | none => none := rfl
theorem gInD_ap (neg : Bool) (a b : Rs) : gInD neg S [a, b] = match vw S a, ownDct S b with
    | some d, some l => match keyOf d with
      | some k => some (.im (.bool (neg != (lookK l k).isSome)))
      | none => none
    | _, _ => none := rfl
theorem gInS_ap (neg : Bool) (a b : Rs) : gInS neg S [a, b] = match ownSet S b with
    | some l => match vw S a with
      | some (.int i) => some (.im (.bool (neg != decide (i ∈ l))))
      | _ => none
    | none => none := by
  unfold gInS
  simp only
  cases ownSet S b with
  | none => cases vw S a with
    | none => rfl
    | some d => cases d <;> rfl
  | some l => cases vw S a with
    | none => rfl
    | some d => cases d <;> rfl
theorem mPop_ap (l : List D) : mPop (.lst l) [] S = match l[l.length - 1]? with
    | some d => some (d, .lst l.dropLast)
    | none => none := rfl
theorem mAdd_ap (l : List Int) (r : Rs) : mAdd (.set l) [r] S = match vw S r with
    | some (.int k) => if decide (l.length + 1 ≤ 1000) then some (.none, .set (if k ∈ l then l else l ++ [k])) else none
    | _ => none := rfl
theorem eSet0_ap : eSet0 S = some (.fr (.set []), S) := rfl
theorem sWhile_ap (n : Nat) (t : ST) (b : SS) : sWhile n t b S = whileL t b n S := rfl
end
end Fl
/-! Fl: methods of values that change nothing (index), tuple(range(n)), data compared, min of data. -/
namespace Fl
open PySem L2 PyProof.Rows

/-! ### methods of values -/
def eM2 (c : D → Bool) (g : Op) (f : SE) (fs : SEs) : SE := fun S => match f S with
  | some (r, S1) => match vw S1 r with
    | some d => if c d then match fs S1 with
      | some (rs, S2) => match g S2 (r :: rs) with
        | some r' => some (r', S2)
        | none => none
      | none => none else none
    | none => none
  | none => none
def isLd : D → Bool
  | .list _ => true
  | _ => false
abbrev RVC (r : V → List V → Hp → VK → Prop) : List V → Hp → VK → Prop := fun vs H Q => ∃ x xs, vs = x :: xs ∧ r x xs H Q
theorem t_m2 {w : World} {K : PySem.W.Frag} {σ : L2.St} {H : Hp} {c : D → Bool} {g : Op} {f : SE} {fs : SEs} {P : V → Hp → Prop} {R : V → List V → Hp → VK → Prop} {Q : VK} (o : OpOk w K (RVC R) g) (ty : ∀ (B H : Hp) x d, Vw K B H x d → c d = true → P x H)
    (h : Fl.T w K (eM2 c g f fs) σ H Q) : Fl.T w K f σ H fun x H1 => P x H1 ∧ Ta w K fs σ H1 fun xs H2 => R x xs H2 Q := by
  obtain ⟨S, A, B, r, S', sr, ok, e, q⟩ := h
  unfold eM2 at e
  split at e
  · rename_i r1 S1 e1
    split at e
    · rename_i d ed
      split at e
      · rename_i hc
        split at e
        · rename_i rs S2 e2
          split at e
          · rename_i r' eg
            have e := Option.some.inj e
            cases e
            refine ⟨S, A, B, r1, S1, sr, ok, e1, fun v H1 ⟨A1, B1, F1, g1, x1⟩ => ⟨ty B1 H1 v d (vw_ok g1.sr x1 g1.ok.sub ed) hc, ?_⟩⟩
            refine ⟨S1, A1, B1, rs, _, g1.sr, g1.ok0, e2, fun vs H2 ⟨A2, B2, F2, g2, x2⟩ => ?_⟩
            obtain ⟨h1, h2, h3⟩ := g1.then_ x1.tracked g2
            obtain ⟨x, xs, ee, z⟩ := o σ _ A2 B2 H2 (v :: vs) (r1 :: rs) (F1 ++ F2) r Q h1.sr (.cons (x1.step h2 h3) x2) h1.ok eg fun v' H' B' F' x s k st => q v' H' ⟨A2, B', F', ⟨s, k, h1.st.trans st, h1.mu⟩, x⟩
            cases ee
            exact z
          · cases e
        · cases e
      · cases e
    · cases e
  · cases e
/-- the place of the first equal one -/
def fnd (d : D) : List D → Nat → Option Nat
  | [], _ => none
  | z :: l, k => if PyData.eqv z d then some k else fnd d l (k + 1)
theorem fnd_ok {d : D} : ∀ {l : List D} {k j : Nat}, fnd d l k = some j → k ≤ j ∧ (∃ z, l[j - k]? = some z ∧ PyData.eqv z d = true) ∧ ∀ (m : Nat) (z : D), m < j - k → l[m]? = some z → PyData.eqv z d = false
  | [], k, j, h => by cases h
  | z :: l, k, j, h => by
    unfold fnd at h
    split at h
    · rename_i hz
      cases h
      refine ⟨Nat.le_refl _, ⟨z, by simp, hz⟩, fun m y hm => by omega⟩
    · rename_i hz
      obtain ⟨a, ⟨y, hy, hy2⟩, c⟩ := fnd_ok h
      have e : j - k = (j - (k + 1)) + 1 := by omega
      refine ⟨by omega, ⟨y, by rw [e]; simpa using hy, hy2⟩, fun m y hm hy => ?_⟩
      cases m with
      | zero =>
        simp at hy
        subst hy
        simpa using hz
      | succ m => exact c m y (by omega) (by simpa using hy)
def hIndex : List D → Option Res
  | [.list l, d] => if SeqAt.shaped d && SeqAt.shaped (.list l) then match fnd d l 0 with
    | some j => some (.d (.int (j : Nat)))
    | none => none else none
  | _ => none
section
variable {w : World} {K : PySem.W.Frag}
theorem ok_index : OpOk w K (RVC (rIndexD K)) (gOp hIndex) := gOp_ok fun B H vs ds res Q sb v e p => by
  unfold hIndex at e
  split at e
  · rename_i l d
    split at e
    · rename_i hs
      rw [Bool.and_eq_true] at hs
      split at e
      · rename_i j ej
        cases e
        obtain ⟨x, y, rfl, vx, vy⟩ := vws2 v
        obtain ⟨_, ⟨z, hz, hz2⟩, hno⟩ := fnd_ok ej
        rw [Nat.sub_zero] at hz hno
        cases vx with
        | @lst a us _ h r =>
          exact ⟨_, _, rfl, a, y, d, l, j, z, rfl, rfl, .lst h (dps_mono sb r).l2, vy.dp sb, hs.2, hs.1, hz, hz2, fun m z' hm hz' => hno m z' hm hz', p.val _ _ rfl (.int _)⟩
      · cases e
    · cases e
  · cases e
theorem vw_list {B H : Hp} {x : V} {d : D} (h : Vw K B H x d) (e : isLd d = true) : tyV K "list" x H := by
  cases h with
  | lst h r => exact .inl ⟨rfl, _, h⟩
  | non => cases e
  | bl b => cases e
  | int i => cases e
  | str s => cases e
  | tup h r => cases e
end
section
variable {X : Cx} {o e : Expr} {es : List Expr} {apos cpos : Pos} {f : SE} {fs : SEs}
theorem e_index (hu : X.A.units + 65 < cLine) (ho : E X o f) (ha : Es X (e :: es) fs)
    (hbase : attributeBase o "index" X.env (eval o X.env) = eval o X.env := by rfl)
    (hfew : ((backTo cpos (starEach (e :: es) X.env)).all (fun x => !x.1) && (backToKw cpos (keywordEach [] X.env)).all (fun x => x.1.isSome)
      && decide ((e :: es).length + ([] : List Keyword).length + (if ([] : List Keyword).isEmpty then 0 else 1) < 30)) = true := by rfl)
    (hline : (apos.endLine == cpos.line) = true := by rfl) (hs : starEach (e :: es) X.env = (false, eval e X.env) :: starEach es X.env := by rfl) (hplain : (backTo cpos (starEach es X.env)).any (·.1) = false := by rfl) :
    E X (.Call (.Attribute o "index" apos) (e :: es) [] cpos) (eM2 isLd (gOp hIndex) f fs) :=
  pe_weak (pe_bm PySem.F.plainAttrs_list PySem.F.slot_list_index PySem.F.type_list_index (mt_indexD hu) ho ha hbase hfew hline hs hplain) fun σ H Q z => t_m2 ok_index (fun B H x d h c => vw_list h c) z
end
/-! ### tuple(range(n)) -/
section
variable {X : Cx} {a b : Expr} {f g : SE} {p p2 pos pos2 : Pos}
theorem e_tupR1 (hc : X.calm = true) (hl : Gl X "tuple") (ml : X.mg "tuple" = none) (hr : Gl X "range") (mr : X.mg "range" = none) (ha : E X a f) (na : starEach [a] X.env = (false, eval a X.env) :: starEach [] X.env := by rfl)
    (nb : starEach [.Call (.Name "range" p2) [a] [] pos2] X.env = (false, eval (.Call (.Name "range" p2) [a] [] pos2) X.env) :: starEach [] X.env := by rfl) :
    E X (.Call (.Name "tuple" p) [.Call (.Name "range" p2) [a] [] pos2] [] pos) (eTR1 f) := pe_weak (pe_tupRg hc hl ml (prg_1 hr mr ha na) nb) fun σ H Q z => by
  obtain ⟨S, A, B, r, S', sr, ok, e, q⟩ := z
  unfold eTR1 at e
  split at e
  · rename_i r1 S1 e1
    split at e
    · rename_i n e2
      split at e
      · rename_i hs
        cases e
        rw [Bool.and_eq_true] at hs
        refine ⟨S, A, B, r1, _, sr, ok, e1, fun v H1 ⟨A1, B1, F, g1, x1⟩ => ?_⟩
        have vx := vw_ok g1.sr x1 g1.ok.sub e2
        cases vx
        refine ⟨n, rfl, rgOk_of (by decide) hs.1 (by rw [Int.sub_zero]; exact hs.2), fun t ht => ?_⟩
        obtain ⟨k2, s2⟩ := step_newB (o := .tup (rgV 0 n)) g1.ok.right ht g1.sr.tracked
        have dd : DpAll X.K B1 (rgV 0 n) (rngD 0 n.toNat) := by
          unfold rgV rngD
          rw [Int.sub_zero]
          exact dps_rg 0 _
        refine q _ _ ⟨A1, _, [], ⟨g1.sr.step s2.bx fun c hc o h => ?_, k2, (g1.st.trans (Step.refl.sub fun c hc => List.mem_append_right _ hc)).trans s2, g1.mu⟩, .im (.tup upd_same (dps_mono s2.bx dd))⟩
        rw [upd_ne (ne_of_none h ht)]; exact h
      · cases e
    · cases e
  · cases e
end
/-! ### data compared -/
def nn : D → Bool
  | .none => false
  | _ => true
theorem nn_ne {d : D} (h : nn d = true) : d ≠ .none := fun e => by subst e; cases h
def cmpOk (d e : D) : Bool := PySem.W.alike d e && nn d && Nat.ble d.depth 60
def hLtD : List D → Option Res
  | [d, e] => if cmpOk d e then some (.d (.bool (PySem.W.dataLt d e))) else none
  | _ => none
def hLeD : List D → Option Res
  | [d, e] => if cmpOk d e then some (.d (.bool (!PySem.W.dataLt e d))) else none
  | _ => none
def rLtD (K : PySem.W.Frag) : R2 := fun x y H Q => ∃ d e, L2.Dp K H x d ∧ L2.Dp K H y e ∧ cmpOk d e = true ∧ Q (.bl (PySem.W.dataLt d e)) H
def rLeD (K : PySem.W.Frag) : R2 := fun x y H Q => ∃ d e, L2.Dp K H x d ∧ L2.Dp K H y e ∧ cmpOk d e = true ∧ Q (.bl (!PySem.W.dataLt e d)) H
theorem cmpOk_p {d e : D} (h : cmpOk d e = true) : PySem.W.alike d e = true ∧ d ≠ .none ∧ d.depth ≤ 60 := by
  unfold cmpOk at h
  rw [Bool.and_eq_true, Bool.and_eq_true, Nat.ble_eq] at h
  exact ⟨h.1.1, nn_ne h.1.2, h.2⟩
section
variable {X : Cx}
theorem op_ltD (hu : X.A.units + 65 < cLine) : OpR X (compareOp .Lt) (rLtD X.K) := by
  intro pins s σ H x y v u Q I rx ry h
  obtain ⟨d, e, hd, he, hk, q⟩ := h
  obtain ⟨k1, k2, k3⟩ := cmpOk_p hk
  obtain ⟨as, r1⟩ := L2.Dp.reads I d x v hd rx
  obtain ⟨bs, r2⟩ := L2.Dp.reads I e y u he ry
  exact PySem.W.lt_data r1 r2 k1 k2 (by have := Nat.min_le_left d.depth e.depth; omega) ⟨.bl _, H, I, rfl, q⟩
theorem op_leD (hu : X.A.units + 65 < cLine) : OpR X (compareOp .LtE) (rLeD X.K) := by
  intro pins s σ H x y v u Q I rx ry h
  obtain ⟨d, e, hd, he, hk, q⟩ := h
  obtain ⟨k1, k2, k3⟩ := cmpOk_p hk
  obtain ⟨as, r1⟩ := L2.Dp.reads I d x v hd rx
  obtain ⟨bs, r2⟩ := L2.Dp.reads I e y u he ry
  exact PySem.W.le_data r1 r2 k1 k2 (by have := Nat.min_le_left d.depth e.depth; omega) ⟨.bl _, H, I, rfl, q⟩
end
section
variable {w : World} {K : PySem.W.Frag}
theorem ok_ltD : OpOk w K (RV2 (rLtD K)) (gOp hLtD) := gOp_ok fun B H vs ds res Q sb v e p => by
  unfold hLtD at e
  split at e
  · split at e
    · rename_i hs
      cases e
      obtain ⟨x, y, rfl, vx, vy⟩ := vws2 v
      exact ⟨_, _, rfl, _, _, vx.dp sb, vy.dp sb, hs, p.val _ _ rfl (.bl _)⟩
    · cases e
  · cases e
theorem ok_leD : OpOk w K (RV2 (rLeD K)) (gOp hLeD) := gOp_ok fun B H vs ds res Q sb v e p => by
  unfold hLeD at e
  split at e
  · split at e
    · rename_i hs
      cases e
      obtain ⟨x, y, rfl, vx, vy⟩ := vws2 v
      exact ⟨_, _, rfl, _, _, vx.dp sb, vy.dp sb, hs, p.val _ _ rfl (.bl _)⟩
    · cases e
  · cases e
end
/-! ### min(list of data) -/
def allAl (l : List D) : Bool := l.all (fun x => l.all (PySem.W.alike x)) && l.all nn && Nat.ble (PyData.depthAll l) 60
theorem allAl_p {l : List D} (h : allAl l = true) : PySem.W.AlikeAll l ∧ PyData.depthAll l ≤ 60 := by
  unfold allAl at h
  rw [Bool.and_eq_true, Bool.and_eq_true, Nat.ble_eq, List.all_eq_true, List.all_eq_true] at h
  refine ⟨⟨fun x hx y hy => ?_, fun x hx => nn_ne (h.1.2 x hx)⟩, h.2⟩
  have := h.1.1 x hx
  rw [List.all_eq_true] at this
  exact this y hy
def hMinL : List D → Option Res
  | [.list (x :: xs)] => if allAl (x :: xs) then some (.d (PySem.W.minD x xs)) else none
  | _ => none
def rMinL (K : PySem.W.Frag) : List V → Hp → VK → Prop := fun vs H Q => ∃ (a : Addr) (us : List V) (x : D) (xs : List D), vs = [V.ref a] ∧ SqL K H a us ∧ DpAll K H us (x :: xs) ∧ allAl (x :: xs) = true ∧ ∀ (i : Nat) (v : V), us[i]? = some v → (x :: xs)[i]? = some (PySem.W.minD x xs) → Q v H
theorem minD_mem : ∀ (x : D) (xs : List D), PySem.W.minD x xs ∈ x :: xs
  | x, [] => List.mem_cons_self
  | x, y :: ys => by
    show List.foldl _ (if _ then y else x) ys ∈ _
    split
    · exact List.mem_cons_of_mem _ (minD_mem y ys)
    · rcases List.mem_cons.mp (minD_mem x ys) with e | e
      · exact List.mem_cons.mpr (.inl e)
      · exact List.mem_cons_of_mem _ (List.mem_cons_of_mem _ e)
theorem cr_minL {X : Cx} (hc : X.calm = true) (hu : X.A.units + 65 < cLine) : CallR X (.builtin "min") (rMinL X.K) := by
  intro pins s σ H vs us Q I r h
  obtain ⟨a, ws, x, xs, rfl, hs, hd, hal, q⟩ := h
  obtain ⟨al, dp⟩ := allAl_p hal
  obtain ⟨its, rv, hl, _⟩ := I.list hs
  rw [Vals.ref1 r]
  obtain ⟨as, hr⟩ := L2.Dp.readsAll I (x :: xs) ws its hd.l2 rv
  refine PySem.W.min_list_data (I.ok.hd hc) hl.isList (show ReadsAll s.heap its.toArray.toList (x :: xs) as from by rw [List.toList_toArray]; exact hr) al (by omega) fun i u h' tk bs hi hm hk => ?_
  have hi' : its[i]? = some u := by simpa using hi
  have hlt : i < ws.length := by
    have := (List.getElem?_eq_some_iff.mp hi').1
    rw [rv.length]; exact this
  obtain ⟨u', hu', rel⟩ := rv.get (List.getElem?_eq_getElem hlt)
  rw [hi'] at hu'
  cases hu'
  obtain ⟨d, hd', dd⟩ := dps_get' hd (List.getElem?_eq_getElem hlt)
  obtain ⟨cs, rd⟩ := L2.Dp.reads I d _ u dd.l2 rel
  have md : PySem.W.minD x xs ∈ x :: xs := by
    exact minD_mem x xs
  have ee := PySem.W.alike_unique d (PySem.W.minD x xs) u cs bs (al.1 d (List.mem_of_getElem? hd') _ md) (PySem.W.reads_keeps hk rd) hm
  exact ⟨ws[i], H, I.kept hk, rel, q i _ (List.getElem?_eq_getElem hlt) (ee ▸ hd')⟩
theorem ok_minL {w : World} {K : PySem.W.Frag} : OpOk w K (rMinL K) (gOp hMinL) := gOp_ok fun B H vs ds res Q sb v e p => by
  unfold hMinL at e
  split at e
  · rename_i x xs
    split at e
    · rename_i hs
      cases e
      obtain ⟨y, rfl, vy⟩ := vws1 v
      cases vy with
      | @lst a us _ h r =>
        refine ⟨a, us, x, xs, rfl, h, dps_mono sb r, hs, fun i v hv hx => ?_⟩
        obtain ⟨v', h1, h2⟩ := dps_get r hx
        rw [hv] at h1
        cases h1
        exact p.val _ _ rfl h2
    · cases e
  · cases e
end Fl
/-! Fl: enumerate(tuple). -/
namespace Fl
open PySem L2 PyProof.Rows
open AutoSeq1 (wpAny_loadPart')

theorem enum_newT (l : Addr) (items : Array Value) (n : Nat) (dct : Option Addr) (sl : Array (Option Value)) :
    Meets (Builtin.«enumerate.__new__» ⟨[.type "enumerate", .ref l], []⟩) (fun _ R s => s.heap.get? l = some { cls := .type "tuple", dict := dct, data := .seq items n, slots := sl } ∧
      R (.ok (.ret (.ref (s.heap.push { cls := .type "tuple_iterator", data := .fields #[.ref l, .int 0 0] }).objs.size)))
        { s with heap := (s.heap.push { cls := .type "tuple_iterator", data := .fields #[.ref l, .int 0 0] }).push { cls := .type "enumerate", data := .fields #[.none, .bool false, .ref s.heap.objs.size, rawInt 0, .none, .none] } }) :=
  .of_wp fun prog w A R s h => by
    obtain ⟨hp, g, d, tk, os⟩ := s; obtain ⟨hl, h⟩ := h
    have hsub := sub_enumerate
    have hL : Heap.IsTuple (Shared.heap ⟨hp, g, d, tk, os⟩) l items := ⟨_, hl, rfl, n, rfl⟩
    wp_walk using wpAny_loadPart' hl
    refine wpAny_stack_any fun st => wpAny_pure ?_
    split
    · rename_i c _ _ _ _ _
      cases (c == Value.type "enumerate")
      · wp_walk using wpAny_loadPart' hl, wpAny_pyIter_tuple hL
        exact ⟨_, rfl, h⟩
      · wp_walk using wpAny_loadPart' hl, wpAny_pyIter_tuple hL
        exact ⟨_, rfl, h⟩
    · wp_walk using wpAny_loadPart' hl, wpAny_pyIter_tuple hL
      exact ⟨_, rfl, h⟩
section
variable {prog : Program} {w : World} {A : Around} {E : Value → Shared → Prop} {s : Shared}
theorem call_enumT {l : Addr} {items : Array Value} {Q : Value → Shared → Prop} (hL : s.heap.IsTuple l items)
    (h : ∀ h', IsEnum h' (s.heap.objs.size + 1) s.heap.objs.size 0 .none → h'.IsTupleIter s.heap.objs.size l 0 → h'.objs.size = s.heap.objs.size + 2 →
      (∀ b o, s.heap.get? b = some o → h'.get? b = some o) → Q (.ref (s.heap.objs.size + 1)) { s with heap := h' }) :
    wpAny (model prog w) A (call (.type "enumerate") [.ref l]) Q E s := by
  obtain ⟨⟨c, dct, dt, sl⟩, hl, hc, n, hd⟩ := hL
  replace hc : c = .type "tuple" := hc
  replace hd : dt = .seq items n := hd
  subst hc hd
  refine callType_new F.called_enumerate (by decide) (F.typeCall_enumerate_1 _) (F.newCall_enumerate_1 _) (fun obj => F.args_object_init_2 obj _) F.entry_enumerate_new
    (enum_newT l items n dct sl) ⟨hl, ?_⟩
  have hz : (s.heap.push { cls := .type "tuple_iterator", data := .fields #[.ref l, .int 0 0] }).objs.size = s.heap.objs.size + 1 := Heap.size_push ..
  show _ ∧ _
  rw [hz]
  have he : IsEnum ((s.heap.push { cls := .type "tuple_iterator", data := .fields #[.ref l, .int 0 0] }).push
      { cls := .type "enumerate", data := .fields #[.none, .bool false, .ref s.heap.objs.size, rawInt 0, .none, .none] }) (s.heap.objs.size + 1) s.heap.objs.size 0 .none := by
    have := Heap.get?_push_size (s.heap.push { cls := .type "tuple_iterator", data := .fields #[.ref l, .int 0 0] })
      (o := { cls := .type "enumerate", data := .fields #[.none, .bool false, .ref s.heap.objs.size, rawInt 0, .none, .none] }) rfl
    rw [hz] at this; exact this
  refine ⟨⟨_, he, rfl⟩, h _ he ⟨_, Heap.get?_push_of_some _ (Heap.get?_push_size _ rfl), rfl, rfl⟩ (by rw [Heap.size_push, hz]) fun b o x => Heap.get?_push_of_some _ (Heap.get?_push_of_some _ x)⟩
end
theorem enumT_end {prog : Program} {w : World} {A : Around} {E : Value → Shared → Prop} {s : Shared} {e it l : Addr} {j : Int} {i : Nat} {items : Array Value} {old : Value} {Q : Option Value → Shared → Prop} (hh : A.handled = none)
    (he : IsEnum s.heap e it j old) (hit : s.heap.IsTupleIter it l i) (hl : s.heap.IsTuple l items) (hx : items[i]? = none)
    (hQ : ∀ h', Heap.ExtBut it s.heap h' → Q none { s with heap := h' }) : wpAny (model prog w) A (pyNext (.ref e)) Q E s := by
  have hT : s.TypeIs (.ref e) "enumerate" := ⟨_, he, rfl⟩
  unfold pyNext
  refine wpAny_bind (wpAny_attempt (wpAny_callSpecial?_slot (name := Str.ofString "__next__") hT F.slot_enumerate_next
    (wpAny_call_entry F.slot_enumerate_next hT F.entry_enumerate_next ?_ (F.args_enumerate_next_1 _))))
  show wpAny _ _ (field (.ref e) 2 >>= _) _ _ _
  refine wpAny_bind (wpAny_field he rfl (x := .ref it) rfl ?_)
  refine wpAny_bind (wpAny_nextOf_tuple_end hh hit hl hx fun h' x he' hx' => ?_)
  obtain ⟨o, ho, hc⟩ := hx'
  refine wpAny_bind (wpAny_isInstance (T := "StopIteration") (b := true) ⟨o, ho, hc⟩ isSubtype_stop ?_)
  exact wpAny_pure (hQ _ he')
/-- the tuple at a, each item in a new pair -/
def IteT (K : PySem.W.Frag) (a : Addr) : It :=
  ⟨fun i H => ∃ (xs : List V) (x : V), SqT K H a xs ∧ xs[i]? = some x, fun i H v H' => ∃ T x, v = .ref T ∧ H T = none ∧ H' = upd H T (.tup [.int (i : Nat), x]) ∧ ∀ xs, SqT K H a xs → xs[i]? = some x, fun i H => ∃ xs : List V, SqT K H a xs ∧ xs.length ≤ i⟩
theorem apart {h : Heap} {a b : Addr} {c d : String} {P Q : Obj → Prop} (ha : ∃ o, h.get? a = some o ∧ o.cls = .type c ∧ P o) (hb : ∃ o, h.get? b = some o ∧ o.cls = .type d ∧ Q o) (hcd : c ≠ d) : a ≠ b := fun e => by
  obtain ⟨o, e1, c1, _⟩ := ha
  obtain ⟨o', e2, c2, _⟩ := hb
  rw [e, e2] at e1
  cases e1
  rw [c1] at c2
  injection c2 with z
  exact hcd z
theorem turn_enumT {P : Program} {w : World} {K : PySem.W.Frag} {elts : List Expr} {kk : Nat} {tpos : Pos} (a e it : Addr) :
    Turn P w K (.Tuple elts kk tpos) (IteT K a) [e, it] e (fun i h => (∃ old, IsEnum h e it ((i : Nat) : Int) old) ∧ h.IsTupleIter it a i ∧ e ≠ it) where
  mem := by simp
  obj := fun i h st b hb => by
    obtain ⟨⟨old, he⟩, ⟨o, ho, hc, hd⟩, _⟩ := st
    have e' : b = e ∨ b = it := by simpa using hb
    rcases e' with z | z
    · rw [z]; exact ⟨_, he, fun v q => nomatch q⟩
    · rw [z]; exact ⟨o, ho, fun v q => by rw [hd] at q; cases q⟩
  keep := fun i h h' st k => let ⟨⟨old, he⟩, hi, hne⟩ := st; ⟨⟨old, k e (by simp) _ he⟩, hi.at fun o q => k it (by simp) o q, hne⟩
  item := by
    intro X hP hw hK hc i pins s σ H E I hf st hg
    subst hP hw hK
    obtain ⟨⟨old, he⟩, hit, hne⟩ := st
    obtain ⟨xs, x, hq, hx⟩ := hg
    obtain ⟨its, rv, p, hz⟩ := I.tuple hq
    obtain ⟨u, hu, ru⟩ := rv.get hx
    have hel : e < s.heap.objs.size := Heap.lt_size he
    have hil : it < s.heap.objs.size := by obtain ⟨_, q, _⟩ := hit; exact Heap.lt_size q
    have ai : a ≠ it := apart p hit (by decide)
    have ae : a ≠ e := apart p (⟨_, he, rfl, trivial⟩ : ∃ o, s.heap.get? e = some o ∧ o.cls = .type "enumerate" ∧ True) (by decide)
    have hlt : i < its.toArray.size := by
      have := (List.getElem?_eq_some_iff.mp hu).1
      simpa using this
    refine wpAny_pyNext_enum_itemD (Draws.tuple (A := X.A.in1) (I.ok.hd hc) it a ai its.toArray) he ⟨hit, p⟩ hlt hne (by simp [hne, Ne.symm ae]) fun x' h' tk hx' ho hst hT hsz hk => ?_
    have ex : x' = u := by
      have h2 : its[i]? = some x' := by simpa using hx'
      rw [hu] at h2
      exact (Option.some.inj h2).symm
    subst ex
    obtain ⟨hit', _⟩ := hst
    refine ⟨_, rfl, wpAny_letOwnedTupleGo_enum (s := { s with heap := h', toks := tk + 1 }) ho fun h'' he' sb => ?_⟩
    have hT2 : h''.get? s.heap.objs.size = some { cls := .type "tuple", data := .seq #[.int i tk, x'] } := (sb.2 _ (Nat.ne_of_gt hel)).trans hT
    have new : ObjOk X.prog X.w (upd H s.heap.objs.size (.tup [.int (i : Nat), x])) h'' s.heap.objs.size (.tup [.int (i : Nat), x]) :=
      ⟨by show 2 ≤ sizeLine; decide, [.int i tk, x'], .cons ⟨_, rfl⟩ (.cons ru .nil), ⟨_, hT2, rfl, _, rfl⟩⟩
    have I1 : Inv X pins σ (upd H s.heap.objs.size (.tup [.int (i : Nat), x])) { s with heap := h'', toks := tk + 1 } :=
      I.turnedNew (ch := [e, it]) (fun b ob hb q => (sb.2 b (fun z => hb (by simp [z]))).trans (hk b ob (fun z => hb (by simp [z])) (fun z => hb (by simp [z])) q)) hf (Nat.le_refl _) new
    refine ⟨.ref s.heap.objs.size, _, I1, rfl, ⟨_, x, rfl, I.hok.fresh (Nat.le_refl _), rfl, fun ys hy => by rw [I.tuple_inj hy hq]; exact hx⟩, ⟨⟨x', ?_⟩, hit'.at fun o q => (sb.2 it (Ne.symm hne)).trans q, hne⟩, fun b hb => ?_⟩
    · have e1 : ((i + 1 : Nat) : Int) = (i : Int) + 1 := by omega
      rw [e1]; exact he'
    · have hb' : b < s.heap.objs.size := by
        have e' : b = e ∨ b = it := by simpa using hb
        rcases e' with z | z
        · rw [z]; exact hel
        · rw [z]; exact hil
      rw [upd_ne (Nat.ne_of_lt hb')]
      exact (hf b hb).1
  done := by
    intro X hP hw hK hc i pins s σ H E I hf st hg
    subst hP hw hK
    obtain ⟨⟨old, he⟩, hit, hne⟩ := st
    obtain ⟨xs, hq, hx⟩ := hg
    obtain ⟨its, rv, p, hz⟩ := I.tuple hq
    obtain ⟨f0, f1, f2, f3, f4, f5⟩ := hf it (by simp)
    have hl := rv.length
    exact enumT_end (I.ok.hd hc) he hit (show s.heap.IsTuple a its.toArray from p) (by simp; omega) fun h' eb => ⟨rfl, I.turned (t' := s.toks) (fun b o hb q => eb b o hb q) f0 f1 f3 f4 f5⟩
  self := fun A i s Q E st h => let ⟨⟨_, he⟩, _⟩ := st; wpAny_pyIter_enum he h
def iEnumT (K : PySem.W.Frag) (ta : TA) : TI := fun σ H R => ta σ H fun vs H1 => ∃ a xs, vs = [.ref a] ∧ SqT K H1 a xs ∧ R (IteT K a) H1
theorem pi_enumT {X : Cx} {e : Expr} {ta : TA} {p pos tpos : Pos} {elts : List Expr} {kk : Nat} (hg : Gl X "enumerate") (hm : X.mg "enumerate" = none) (ha : PA X [e] ta) (hs : starEach [e] X.env = [(false, eval e X.env)] := by rfl) :
    PI X (.Tuple elts kk tpos) (.Call (.Name "enumerate" p) [e] [] pos) (iEnumT X.K ta) := by
  refine ⟨fun pins s σ H R I h => ?_⟩
  refine Call_ (ld_blt I hg hm boot_enumerate (PyProof.Rows.callWith_type1 (thn (ha.run pos pins s σ H _ I h) fun us s1 ⟨vs, H1, I1, r1, q1⟩ => ?_) hs rfl))
  obtain ⟨a, xs, ex, hq, q⟩ := q1
  subst ex
  cases r1 with
  | cons r rr =>
    cases rr
    cases r
    obtain ⟨its, rv, p', hz⟩ := I1.tuple hq
    refine call_enumT (show s1.heap.IsTuple a its.toArray from p') fun h' he hit hsz hk => wpAny_pyIter_enum he ?_
    have I2 : Inv X pins σ H1 { s1 with heap := h' } := I1.kept (t' := s1.toks) hk
    refine ⟨s1.heap.objs.size + 1, [s1.heap.objs.size + 1, s1.heap.objs.size], _, _, H1, rfl, I2, turn_enumT a (s1.heap.objs.size + 1) s1.heap.objs.size, ⟨⟨.none, he⟩, hit, Nat.succ_ne_self _⟩, fun b hb => ?_, q⟩
    have e' : b = s1.heap.objs.size + 1 ∨ b = s1.heap.objs.size := by simpa using hb
    have hle : s1.heap.objs.size ≤ b := by
      rcases e' with z | z
      · rw [z]; exact Nat.le_add_right _ _
      · rw [z]; exact Nat.le_refl _
    exact I1.fpOk hle (I1.hok.fresh hle)
section
variable {K : PySem.W.Frag} {a : Addr} {xs : List V}
theorem walk_enumT : Walk (IteT K a) xs.length (fun H => SqT K H a xs) (YPair (fun i => some (.int (i : Nat))) (fun i => xs[i]?)) := by
  refine ⟨fun i _ hi q => ⟨xs, xs[i], q, by simp [hi]⟩, fun _ q => ⟨xs, q, Nat.le_refl _⟩, fun i H v H' _ q y => ?_⟩
  obtain ⟨T, x, h1, h2, h3, h4⟩ := y
  exact ⟨T, .int (i : Nat), x, h1, h2, h3, rfl, h4 xs q⟩
end
def itEnumX (f : SE) : SI := fun S => match f S with
  | some (r, S') => match r.fz with
    | some (.list l) => some (enumD 0 l, S')
    | some (.tuple l) => some (enumD 0 l, S')
    | _ => none
  | none => none
section
variable {X : Cx} {e : Expr} {f : SE} {pos p tpos : Pos} {elts : List Expr} {kk : Nat}
theorem i_enumX (hg : Gl X "enumerate") (hm : X.mg "enumerate" = none) (ha : E X e f) (hs : starEach [e] X.env = [(false, eval e X.env)] := by rfl) (hq : starEach [e] X.env = (false, eval e X.env) :: starEach [] X.env := by rfl) :
    Iw X (.Tuple elts kk tpos) (.Call (.Name "enumerate" p) [e] [] pos) (itEnumX f) := pi_weak (pi_or2 (pi_enum hg hm (es_cons ha es_nil hq) hs) (pi_enumT hg hm (es_cons ha es_nil hq) hs)) fun σ H R ⟨S, A, B, ds, S', sr, ok, e, q⟩ => by
  unfold itEnumX at e
  split at e
  · rename_i r S1 e1
    split at e
    · rename_i l er
      cases e
      refine .inl ⟨S, A, B, [r], S', sr, ok, by unfold sCons; rw [e1]; rfl, fun vs H1 ⟨A1, B1, F1, g1, x1⟩ => ?_⟩
      obtain ⟨y, rfl, xr⟩ := rrs1 x1
      obtain ⟨f1, f2⟩ := step_freeze g1.ok
      have dd := xr.data (B' := ov B1 H1 F1) (ov_same g1.ok.sub) (fun a ha => ov_in ha) er
      cases dd with
      | @lst a vs _ h r =>
        refine ⟨a, vs, rfl, sql_mono f1.sub h, q _ H1 ⟨A1, _, ⟨g1.sr.step (ov_same g1.ok.sub) fun a _ o h => h, f1, g1.st.trans f2, g1.mu⟩, ?_⟩⟩
        refine ⟨_, _, by rw [enumD_length, ← dps_length r]; exact walk_enum, fun H s => sql_mono s h, fun i x H1 H2 d hd s y => ?_⟩
        obtain ⟨T, a1, b1, h1, h2, h3, h4, h5⟩ := y
        cases h4
        rw [enumD_get] at hd
        cases e : l[i]? with
        | none => rw [e] at hd; cases hd
        | some d0 =>
          rw [e] at hd
          cases hd
          obtain ⟨v, q1, q2⟩ := dps_get r e
          have h5 : vs[i]? = some b1 := h5
          rw [q1] at h5
          cases h5
          exact .inr ⟨T, _, _, h1, rfl, h2, h3, .cons (by rw [Nat.zero_add]; exact .int _) (.cons q2 .nil)⟩
    · rename_i l er
      cases e
      refine .inr ⟨S, A, B, [r], S', sr, ok, by unfold sCons; rw [e1]; rfl, fun vs H1 ⟨A1, B1, F1, g1, x1⟩ => ?_⟩
      obtain ⟨y, rfl, xr⟩ := rrs1 x1
      obtain ⟨f1, f2⟩ := step_freeze g1.ok
      have dd := xr.data (B' := ov B1 H1 F1) (ov_same g1.ok.sub) (fun a ha => ov_in ha) er
      cases dd with
      | @tup a vs _ h r =>
        refine ⟨a, vs, rfl, sqt_mono f1.sub h, q _ H1 ⟨A1, _, ⟨g1.sr.step (ov_same g1.ok.sub) fun a _ o h => h, f1, g1.st.trans f2, g1.mu⟩, ?_⟩⟩
        refine ⟨_, _, by rw [enumD_length, ← dps_length r]; exact walk_enumT, fun H s => sqt_mono s h, fun i x H1 H2 d hd s y => ?_⟩
        obtain ⟨T, a1, b1, h1, h2, h3, h4, h5⟩ := y
        cases h4
        rw [enumD_get] at hd
        cases e : l[i]? with
        | none => rw [e] at hd; cases hd
        | some d0 =>
          rw [e] at hd
          cases hd
          obtain ⟨v, q1, q2⟩ := dps_get r e
          have h5 : vs[i]? = some b1 := h5
          rw [q1] at h5
          cases h5
          exact .inr ⟨T, _, _, h1, rfl, h2, h3, .cons (by rw [Nat.zero_add]; exact .int _) (.cons q2 .nil)⟩
    · cases e
  · cases e
end
section
variable {S : List Sl}
theorem itEnumX_ap (f : SE) : itEnumX f S = match f S with
  | some (r, S') => match r.fz with
    | some d => match seqOf d with
      | some l => some (enumD 0 l, S')
      | none => none
    | none => none
  | none => none := by
  unfold itEnumX
  cases f S with
  | none => rfl
  | some p =>
    obtain ⟨r, S'⟩ := p
    simp only
    cases r.fz with
    | none => rfl
    | some d => cases d <;> rfl
theorem eM2_ap (c : D → Bool) (g : Op) (f : SE) (fs : SEs) : eM2 c g f fs S = match f S with
  | some (r, S1) => match vw S1 r with
    | some d => if c d then match fs S1 with
      | some (rs, S2) => match g S2 (r :: rs) with
        | some r' => some (r', S2)
        | none => none
      | none => none else none
    | none => none
  | none => none := rfl
theorem eTR1_ap (f : SE) : eTR1 f S = match f S with
  | some (r, S') => match vw S' r with
    | some (.int n) => if small62 n && szOk n.toNat then some (.im (.tuple (rngD 0 n.toNat)), S') else none
    | _ => none
  | none => none := rfl
theorem eLR1_ap (f : SE) : eLR1 f S = match f S with
  | some (r, S') => match vw S' r with
    | some (.int n) => if small62 n && szOk n.toNat then some (.fr (.lst (rngD 0 n.toNat)), S') else none
    | _ => none
  | none => none := rfl
end
end Fl
/-! Fl: {t: v} with a tuple t as the key. -/
namespace Fl
open PySem L2 PyProof.Rows

def tDisp1T (tk tv : TE) : TE := fun σ H Q => ∀ p, H p = none → tk σ (upd H p (.dT [])) fun x H1 => tv σ H1 fun y0 H2 => ∃ (b : Addr) (k : List Key) (y : V), [(x, y0)] = [((.ref b : V), y)] ∧ H2 b = some (.tup (k.map kV)) ∧ H2 p = some (.dT []) ∧ Q (.ref p) (upd H2 p (.dT [(k, y)]))
theorem pe_disp1T {X : Cx} {pos : Pos} {ke ve : Expr} {tk tv : TE} (hu : X.A.units + 1 < cLine) (hk : PE X ke tk) (hv : PE X ve tv) : PE X (.Dict [some ke] [ve] pos) (tDisp1T tk tv) := by
  refine ⟨fun pins s σ H Q I q => ?_⟩
  have hn := I.hok.fresh (Nat.le_refl s.heap.objs.size)
  have I1 := I.laid (a := s.heap.objs.size) (o := .dT []) (h' := s.heap.push { cls := .type "dict", data := .dict #[] }) (t' := s.toks) (fun _ _ q => Heap.get?_push_of_some _ q) (Nat.le_refl _) (dt_empty s.heap I.big)
  have hp : PPs X pos [some ke] [ve] [(tk, tv)] := pps_cons hk hv pps_nil
  rw [arm_eval_Dict, zip_pairTrees [some ke] [ve] X.env pos rfl rfl, dictDisplay_pairs (pairTrees [some ke] [ve] X.env pos) (by simp [pairTrees]) (by simp [pairTrees])]
  have hu0 : (tupleKind (mixKind X.prog X.w)).room X.A := Nat.lt_of_le_of_lt (Nat.le_succ _) hu
  refine wpAny_bind (wpAny_standAt (wpAny_bind (wpAny_subDictH (knd := tupleKind (mixKind X.prog X.w)) hu0 (by simp [pairTrees]) (thn (hp.run pins _ σ _ (fun ps H2 => ∃ (b : Addr) (k : List Key) (y : V), ps = [(.ref b, y)] ∧ H2 b = some (.tup (k.map kV)) ∧ H2 s.heap.objs.size = some (.dT []) ∧ Q (.ref s.heap.objs.size) (upd H2 s.heap.objs.size (.dT [(k, y)]))) I1 ?_) fun ws s2 ⟨ps, H2, I2, rel, b, k, y, e, hb, hd, q2⟩ => ?_))))
  · exact q _ hn
  · subst e
    cases rel with
    | @cons a c as cs h t =>
      cases t
      obtain ⟨c1, c2⟩ := c
      obtain ⟨r1, r2⟩ := h
      cases (show c1 = Value.ref b from r1)
      obtain ⟨z, hsm, xs, rk, dd⟩ := dt_of I2.hok hd
      cases rk
      refine ⟨[(k, b, c2)], ⟨rfl, rfl, key_of I2.hok hb, trivial⟩, dd, fun h' tk' dd' hs => wpAny_pure ⟨.ref s.heap.objs.size, _, ?_, rfl, q2⟩⟩
      obtain ⟨qo, es, ep, hq, h2, h3, h4, _, h5⟩ := dd'
      have kt : KT H2 [(k, y)] (storedAllH [] [(k, b, c2)]) := KT.put (H := H2) (kvs := []) (xs := []) .nil k hb r2
      refine d_write I2 (by rw [hd]; exact True.intro) hs ⟨qo, hq⟩ ⟨by show 1 ≤ sizeLine; decide, hsm, _, kt.keeps fun c ys ec => ?_, qo, es, ep, hq, h2, h3, h4, h5⟩
      rw [upd_ne (ne_of ec hd (fun z => nomatch z))]
      exact ec
def eDict1T (f h : SE) : SE := fun S => match sCons f (sCons h sNil) S with
  | some ([r1, r2], S') => match vw S' r1, r2.fz with
    | some kd, some d => match keyT kd with
      | some k => some (.fr (.dctT [(k, d)]), S')
      | none => none
    | _, _ => none
  | _ => none
theorem e_dict1T {X : Cx} {pos : Pos} {ke ve : Expr} {f h : SE} (hu : X.A.units + 1 < cLine) (hk : E X ke f) (hv : E X ve h) : E X (.Dict [some ke] [ve] pos) (eDict1T f h) := pe_weak (pe_disp1T hu hk hv) fun σ H Q z => by
  obtain ⟨S, A, B, r, S', sr, ok, e, q⟩ := z
  unfold eDict1T at e
  split at e
  · rename_i r1 r2 S1 e1
    split at e
    · rename_i kd d e2 e3
      split at e
      · rename_i k ek
        cases e
        intro p hp
        obtain ⟨k1, s1⟩ := step_newA (o := .dT []) ok hp sr.tracked
        have sr1 : SR X.w X.K B (upd H p (.dT [])) σ S A := sr.step (Same.refl _) fun a ha o h => by
          rw [upd_ne (ne_of_none h hp)]; exact h
        refine ta_two (Q := fun vs H2 => ∃ x y0, vs = [x, y0] ∧ ∃ (b : Addr) (k : List Key) (y : V), [(x, y0)] = [((.ref b : V), y)] ∧ H2 b = some (.tup (k.map kV)) ∧ H2 p = some (.dT []) ∧ Q (.ref p) (upd H2 p (.dT [(k, y)])))
          ⟨S, A, B, _, _, sr1, Ok.right (F := [p]) k1, e1, fun vs H2 ⟨A2, B2, F, g2, x2⟩ => ?_⟩ |>.mono fun x H1 z => z.mono fun y H2 ⟨x', y', ee, q⟩ => by cases ee; exact q
        obtain ⟨x, y, F1, F2, rfl, xa, xb⟩ := rrs2 x2
        obtain ⟨p1, p2, p3⟩ := pend (F := [p]) k1 g2.st g2.ok (fun a ha => by simp at ha; subst ha; exact ⟨_, upd_same⟩)
        have hp2 : H2 p = some (.dT []) := p3 p (by simp) _ upd_same
        obtain ⟨b, rfl, hb⟩ := keyT_ok (vw_ok g2.sr xa g2.ok.sub e2) g2.ok.sub ek
        have dd : Dp X.K (ov B2 H2 F) y d := by
          cases x2 with
          | cons h1 h2 =>
            cases h2 with
            | cons h3 h4 =>
              cases h4
              exact h3.data (ov_same g2.ok.sub) (fun b hb => ov_in (List.mem_append_right _ (List.mem_append_left _ hb))) e3
        refine ⟨_, _, rfl, b, k, y, rfl, hb, hp2, ?_⟩
        have q1 : Ok (F ++ ([p] ++ A2)) B2 H2 := ok_mid p1
        obtain ⟨f1, f2⟩ := step_freeze q1
        obtain ⟨m1, m2⟩ := step_mut (o := .dT [(k, y)]) f1 (p := p) (by simp)
        refine q _ _ ⟨A2, ov B2 H2 F, [p], ⟨?_, m1, ?_, g2.mu⟩, .fr (.dctT upd_same (.cons dd .nil))⟩
        · refine g2.sr.step (ov_same g2.ok.sub) fun a ha o h => ?_
          have n : a ≠ p := fun e => by
            subst e
            exact (List.nodup_append.mp (f1.nd)).2.2 a (by simp) a ha rfl
          rw [upd_ne n]; exact h
        · have t1 : Step ([p] ++ (F ++ A2)) B2 H2 ([p] ++ A2) (ov B2 H2 F) H2 := step_mid f2
          exact (s1.trans p2).trans (t1.trans m2)
      · cases e
    · cases e
  · cases e
theorem eDict1T_ap {S : List Sl} (f h : SE) : eDict1T f h S = match sCons f (sCons h sNil) S with
  | some ([r1, r2], S') => match vw S' r1, r2.fz with
    | some kd, some d => match keyT kd with
      | some k => some (.fr (.dctT [(k, d)]), S')
      | none => none
    | _, _ => none
  | _ => none := rfl
/-! ### is, is not of truth values -/
def hIsB : List D → Option Res
  | [.bool a, .bool b] => some (.d (.bool (decide (a = b))))
  | _ => none
def hNotB : List D → Option Res
  | [.bool a, .bool b] => some (.d (.bool (!decide (a = b))))
  | _ => none
theorem ok_isB {w : World} {K : PySem.W.Frag} : OpOk w K (RV2 rIsB) (gOp hIsB) := gOp_ok fun B H vs ds res Q sb v e p => by
  unfold hIsB at e
  split at e
  · cases e
    obtain ⟨x, y, rfl, vx, vy⟩ := vws2 v
    cases vx; cases vy
    exact ⟨_, _, rfl, _, _, rfl, rfl, p.val _ _ rfl (.bl _)⟩
  · cases e
theorem ok_notB {w : World} {K : PySem.W.Frag} : OpOk w K (RV2 rNotB) (gOp hNotB) := gOp_ok fun B H vs ds res Q sb v e p => by
  unfold hNotB at e
  split at e
  · cases e
    obtain ⟨x, y, rfl, vx, vy⟩ := vws2 v
    cases vx; cases vy
    exact ⟨_, _, rfl, _, _, rfl, rfl, p.val _ _ rfl (.bl _)⟩
  · cases e
end Fl
/-! Fl: sorted of lists and tuples of any data that can be compared. -/
namespace PySem.W
open PySem PySem.Calls PyProof.Rows
section
variable {prog : Program} {w : World} {A : Around} {E : Value → Shared → Prop} {s : Shared}
/-- the items of a tuple, collected into a new list -/
theorem collect_tupl {l : Addr} {vs : List Value} {Q : List Value → Shared → Prop} (hl : s.heap.IsTuple l vs.toArray)
    (h : Q vs { s with heap := (s.heap.push (seqObj "list" #[] 0)).update s.heap.objs.size (Obj.mapSeq (· ++ vs.toArray)) }) (hsz : vs.length ≤ sizeLine) :
    wpAny (model prog w) A (collect (.ref l)) Q E s := by
  obtain ⟨o, ho, hc, n, hd⟩ := id hl
  unfold collect
  refine wpAny_bind (wpAny_runValue (codeAny_builtin entry_proto_collect' ?_))
  show wpAny _ _ (do again (.builtin "list.__iadd__" ⟨[← newList [], .ref l], []⟩)) _ _ s
  refine wpAny_bind (wpAny_newList (wpAny_pure ⟨Code.quiet_builtin _ (by decide +kernel), codeAny_builtin entry_list_iadd' ?_⟩))
  show wpAny _ _ (Builtin.List.listExtendWith (.ref s.heap.objs.size) (.ref l) (.ref s.heap.objs.size)) _ _ { s with heap := s.heap.push (seqObj "list" #[] 0) }
  unfold Builtin.List.listExtendWith
  have ho' : (s.heap.push (seqObj "list" #[] 0)).get? l = some o := Heap.get?_push_of_some _ ho
  refine wpAny_bind (wpAny_typeOf (T := "tuple") ⟨o, ho', hc⟩ ?_)
  have ht : (Value.type "tuple" == Value.type "tuple") = true := by rfl
  rw [if_pos (by rw [ht]; simp)]
  refine wpAny_bind (listItems_at ho' hd ?_)
  refine wpAny_bind (listItems_at (xs := #[]) (n := 0) (Heap.get?_push_size _ rfl) rfl ?_)
  rw [if_neg (by simp)]
  refine wpAny_bind (listUpdate_at (xs := #[]) (n := 0) (Heap.get?_push_size _ rfl) rfl ?_ (Nat.zero_le _) (by show (#[] ++ vs.toArray).size ≤ sizeLine + 1; simp only [Array.size_append, List.size_toArray, List.length_nil]; omega))
  refine wpAny_pure ?_
  show wpAny (model prog w) A (do
      let o ← load s.heap.objs.size
      match o.data with
      | .seq xs _ => pure xs.toList
      | _ => unsupported "internal:collect") Q E { s with heap := (s.heap.push (seqObj "list" #[] 0)).update s.heap.objs.size (Obj.mapSeq (· ++ vs.toArray)) }
  refine wpAny_bind (wpAny_load (get?_update_seq (Heap.get?_push_size _ rfl) _) ?_)
  show wpAny _ _ (pure ((#[] : Array Value) ++ vs.toArray).toList) Q E _
  rw [show ((#[] : Array Value) ++ vs.toArray).toList = vs by simp]
  exact wpAny_pure h
theorem sorted_of_sortT {l : Addr} {vs : List Value} {kw : List (Str × Value)} {Q : Value → Shared → Prop} (hl : s.heap.IsTuple l vs.toArray) (hL : vs.length ≤ sizeLine) (ha1 : argsOk "sorted" ⟨[.ref l], kw⟩) (ha2 : ∀ x, argsOk "list.sort" ⟨[.ref x], kw⟩)
    (body : ∀ E' : Value → Shared → Prop, wpAny (model prog w) A.in1.in1 (Builtin.«list.sort» ⟨[.ref (s.heap.objs.size + 1)], kw⟩) (fun f s' => f = .done (.ret .none) ∧ Q (.ref (s.heap.objs.size + 1)) s') E' { s with heap := copyHeap s.heap vs }) :
    wpAny (model prog w) A (call (.builtin "sorted") [.ref l] kw) Q E s := by
  refine call_function_entry_kw kind_sorted plain_sorted entry_sorted ha1 ?_
  unfold Builtin.«sorted»
  refine wpAny_bind (m := checkCount "sorted" 1 1 _) (wpAny_pure ?_)
  refine wpAny_bind (collect_tupl hl ?_ hL)
  refine wpAny_bind (wpAny_newList ?_ hL)
  have hsz : ((s.heap.push (seqObj "list" #[] 0)).update s.heap.objs.size (Obj.mapSeq (· ++ vs.toArray))).objs.size = s.heap.objs.size + 1 := by
    rw [Heap.size_update, size_push']
  show wpAny _ _ _ _ _ { s with heap := copyHeap s.heap vs }
  rw [hsz]
  refine wpAny_bind (wpAny_holding (wpAny_call_entry_kw slot_list_sort ⟨_, copyHeap_at s.heap vs, rfl⟩ entry_list_sort ?body (ha2 _)))
  case body =>
    show wpAny (model prog w) A.in1.in1 (Builtin.«list.sort» ⟨[.ref (s.heap.objs.size + 1)], kw⟩) _ _ _
    refine wpAny_mono (body _) (fun f s' hf => ?_) fun _ _ e => e
    obtain ⟨rfl, hq⟩ := hf
    exact ⟨_, rfl, wpAny_pure ⟨_, rfl, hq⟩⟩
theorem sorted_valsT {κ : PyProof.Rows.KeyKind} {l : Addr} {vs : List Value} {Q : Value → Shared → Prop} (hl : s.heap.IsTuple l vs.toArray) (S : SortsAt prog w A.in1.in1 { s with heap := sortingHeap (copyHeap s.heap vs) (s.heap.objs.size + 1) vs } κ vs) (hL : vs.length ≤ sizeLine)
    (h : Q (.ref (s.heap.objs.size + 1)) { s with heap := sortedAll s.heap vs (sortVals κ false vs vs).toArray }) : wpAny (model prog w) A (call (.builtin "sorted") [.ref l]) Q E s :=
  sorted_of_sortT hl hL (args_sorted1 _) (fun _ => args_list_sort _) fun _ => list_sort_vals (s := { s with heap := copyHeap s.heap vs }) (copyHeap_at s.heap vs) S hL ⟨rfl, h⟩
theorem sorted_dataT {β : Type} {R : Value → β → Prop} {vs : List Value} {bs : List β} {enc : β → PyData} {l : Addr} {Q : Value → Shared → Prop} (hl : s.heap.IsTuple l vs.toArray) (e : EachIs R vs bs) (er : EachIs (fun v b => ∃ as, Reads s.heap v (enc b) as) vs bs) (hal : AllAlike (bs.map enc)) (hk : Sortable (bs.map enc)) (hL : bs.length ≤ sizeLine)
    (hu : ∀ b, b ∈ bs → A.units + 2 + (enc b).depth < cLine) (h : ∀ out, out.length = bs.length → EachIs R out (bs.mergeSort (dataLe false enc)) → Q (.ref (s.heap.objs.size + 1)) { s with heap := sortedAll s.heap vs (List.toArray out) }) :
    wpAny (model prog w) A (call (.builtin "sorted") [.ref l]) Q E s := by
  have er' : EachIs (fun v b => ∃ as, Reads (sortingHeap (copyHeap s.heap vs) (s.heap.objs.size + 1) vs) v (enc b) as) vs bs := er.mono fun _ _ ⟨as, r⟩ => ⟨as, PyProof.Rows.Reads.keeps (fun _ _ => sorting_copy_old) r⟩
  exact sorted_valsT hl (SortsAt.data (s := { s with heap := sortingHeap (copyHeap s.heap vs) (s.heap.objs.size + 1) vs }) (each_map (R := fun v d => ∃ as, Reads (sortingHeap (copyHeap s.heap vs) (s.heap.objs.size + 1) vs) v d as) enc er') hal hk (bound_map hu)) (by rw [e.length]; exact hL)
    (h _ (by rw [sortVals_length false rfl]; exact e.length) (sortVals_data false e er' hal))
end
end PySem.W
namespace Fl
open PySem L2 PyProof.Rows
def tup1 : D → Bool
  | .tuple (_ :: _) => true
  | _ => false
def notT : D → Bool
  | .none => false
  | .tuple _ => false
  | _ => true
/-- what sorted takes here -/
def srtOk (l : List D) : Bool := l.all (fun x => l.all (PySem.W.alike x)) && ((l.all tup1 || l.all notT) && l.all fun x => Nat.ble x.depth 60)
theorem srtOk_p {l : List D} (h : srtOk l = true) : PySem.W.AllAlike (l.map id) ∧ PySem.W.Sortable (l.map id) ∧ ∀ d ∈ l, d.depth ≤ 60 := by
  unfold srtOk at h
  rw [Bool.and_eq_true, Bool.and_eq_true, Bool.or_eq_true, List.all_eq_true, List.all_eq_true] at h
  rw [List.map_id]
  refine ⟨fun x hx y hy => ?_, ?_, fun x hx => ?_⟩
  · have := h.1 x hx
    rw [List.all_eq_true] at this
    exact this y hy
  · rcases h.2.1 with k | k
    · refine .inl fun d hd => ?_
      have := k d hd
      unfold tup1 at this
      split at this
      · exact ⟨_, _, rfl⟩
      · cases this
    · rw [List.all_eq_true] at k
      refine .inr fun d hd => ?_
      have := k d hd
      constructor
      · rintro rfl; cases this
      · rintro xs rfl; cases this
  · have := h.2.2
    rw [List.all_eq_true] at this
    have := this x hx
    rw [Nat.ble_eq] at this
    exact this
def sortV (l : List D) : List D := l.mergeSort (PySem.W.dataLe false id)
def hSortV : List D → Option Res
  | [.list l] => if srtOk l then some (.l (sortV l)) else none
  | [.tuple l] => if srtOk l then some (.l (sortV l)) else none
  | _ => none
def rSortV (K : PySem.W.Frag) : List V → Hp → VK → Prop := fun vs H Q => ∃ (a : Addr) (us : List V) (xs : List D) (B : Hp), Same B H ∧ vs = [V.ref a] ∧ (SqL K H a us ∨ SqT K H a us) ∧ DpAll K B us xs ∧ srtOk xs = true ∧
  ∀ (ys : List V) (p : Addr), DpAll K B ys (sortV xs) → H p = none → Q (.ref p) (upd H p (.lst ys))
theorem each_dps {K : PySem.W.Frag} {H : Hp} : ∀ {vs : List Value} {us : List V} {xs : List D}, Vals us vs → DpAll K H us xs → PySem.W.EachIs (fun v d => ∃ u, RelV u v ∧ Dp K H u d) vs xs
  | _, _, _, .nil, .nil => .nil
  | _, _, _, .cons h r, .cons d ds => .cons ⟨_, h, d⟩ (each_dps r ds)
theorem dps_each {K : PySem.W.Frag} {H : Hp} : ∀ {vs : List Value} {xs : List D}, PySem.W.EachIs (fun v d => ∃ u, RelV u v ∧ Dp K H u d) vs xs → ∃ us, Vals us vs ∧ DpAll K H us xs
  | _, _, .nil => ⟨[], .nil, .nil⟩
  | _, _, .cons ⟨u, h, d⟩ r => by
    obtain ⟨us, h1, h2⟩ := dps_each r
    exact ⟨u :: us, .cons h h1, .cons d h2⟩
theorem dps_len2 {K : PySem.W.Frag} {H : Hp} : ∀ {us : List V} {xs : List D}, DpAll K H us xs → us.length = xs.length
  | _, _, .nil => rfl
  | _, _, .cons _ r => by rw [List.length_cons, List.length_cons, dps_len2 r]
theorem cr_sortDat {X : Cx} (hu : X.A.units + 65 < cLine) : CallR X (.builtin "sorted") (rSortV X.K) := by
  intro pins s σ H vs us Q I r h
  obtain ⟨a, ws, xs, B, sb, rfl, hs, hd, hok, q⟩ := h
  obtain ⟨al, so, dp⟩ := srtOk_p hok
  rw [Vals.ref1 r]
  have key : ∀ its : List Value, Vals ws its → its.length ≤ sizeLine → ∀ out : List Value, out.length = xs.length → PySem.W.EachIs (fun v d => ∃ u, RelV u v ∧ Dp X.K B u d) out (xs.mergeSort (PySem.W.dataLe false id)) → EP X pins σ Q (.ref (s.heap.objs.size + 1)) { s with heap := sortedAll s.heap its (List.toArray out) } := fun its rv hz out ho eo => by
    obtain ⟨ys, h1, h2⟩ := dps_each eo
    obtain ⟨n, hn⟩ := sortedAll_at s.heap its out.toArray
    refine ⟨.ref (s.heap.objs.size + 1), upd H (s.heap.objs.size + 1) (.lst ys), I.laid (t' := s.toks) (fun b o e => sortedAll_old e) (Nat.le_succ _) ⟨?_, out, n, h1, hn⟩, rfl, q ys _ h2 (I.hok.fresh (Nat.le_succ _))⟩
    have e1 := dps_len2 hd
    have e2 := h1.length
    have e3 := rv.length
    omega
  rcases hs with hs | hs
  · obtain ⟨its, rv, hl, hz⟩ := I.list hs
    have hz' : its.length ≤ sizeLine := by rw [← rv.length]; exact hz
    obtain ⟨as, hr⟩ := L2.Dp.readsAll I xs ws its (dps_mono sb hd).l2 rv
    refine PySem.W.sorted_data (bs := xs) (enc := id) hl.isList (each_dps rv hd) ?_ al so (by rw [← dps_len2 hd, rv.length]; exact hz') (fun d hdm => ?_) (key its rv hz')
    · exact PySem.W.readsAll_each id (by rw [List.map_id]; exact hr)
    · have := dp d hdm
      show X.A.units + 2 + d.depth < cLine
      omega
  · obtain ⟨its, rv, hl, hz⟩ := I.tuple hs
    have hz' : its.length ≤ sizeLine := by rw [← rv.length]; exact hz
    obtain ⟨as, hr⟩ := L2.Dp.readsAll I xs ws its (dps_mono sb hd).l2 rv
    refine PySem.W.sorted_dataT (bs := xs) (enc := id) hl (each_dps rv hd) ?_ al so (by rw [← dps_len2 hd, rv.length]; exact hz') (fun d hdm => ?_) (key its rv hz')
    · exact PySem.W.readsAll_each id (by rw [List.map_id]; exact hr)
    · have := dp d hdm
      show X.A.units + 2 + d.depth < cLine
      omega
theorem ok_sortDat {w : World} {K : PySem.W.Frag} : OpOk w K (rSortV K) (gOp hSortV) := gOp_ok fun B H vs ds res Q sb v e p => by
  unfold hSortV at e
  split at e
  · split at e
    · rename_i hs
      cases e
      obtain ⟨y, rfl, vy⟩ := vws1 v
      cases vy with
      | @lst a us _ h r => exact ⟨a, us, _, B, sb, rfl, .inl h, r, hs, fun ys p' hd hp => p.lst _ _ _ rfl hp hd⟩
    · cases e
  · split at e
    · rename_i hs
      cases e
      obtain ⟨y, rfl, vy⟩ := vws1 v
      cases vy with
      | @tup a us _ h r => exact ⟨a, us, _, B, sb, rfl, .inr (.inl (show Rd H a (.tup us) from .inl (sb _ _ h))), r, hs, fun ys p' hd hp => p.lst _ _ _ rfl hp hd⟩
    · cases e
  · cases e
theorem e_globE {X : Cx} {x : Str} {p : Pos} {i : Int} (hg : Gl X x) (hm : ∃ t, X.mg x = some (.int i t)) (hdb : (x == ("__debug__" : Str)) = false := by decide) : E X (.Name x p) (eC (.int i)) := by
  obtain ⟨t, h⟩ := hm
  exact e_globI hg h hdb
end Fl
/-! Fl: list(d), sorted(d), d a dict with tuples as keys. -/
namespace Fl
open PySem L2 PyProof.Rows
def kd : Key → D
  | .inl i => .int i
  | .inr s => .str s
/-- a key as data -/
def kD (k : List Key) : D := .tuple (k.map kd)
section
variable {w : World} {K : PySem.W.Frag} {A : List Addr} {B H : Hp}
theorem dps_kd (B : Hp) : ∀ k : List Key, DpAll K B (k.map kV) (k.map kd)
  | [] => .nil
  | .inl i :: k => .cons (.int i) (dps_kd B k)
  | .inr s :: k => .cons (.str s) (dps_kd B k)
theorem dps_kd_inv : ∀ (k : List Key) {us : List V}, DpAll K H us (k.map kd) → us = k.map kV
  | [], _, .nil => rfl
  | .inl i :: k, _, .cons h r => by
    cases h
    rw [dps_kd_inv k r]; rfl
  | .inr s :: k, _, .cons h r => by
    cases h
    rw [dps_kd_inv k r]; rfl
/-- tuples that are there already, taken into the base -/
theorem keysB (k : Ok A B H) : ∀ {ys : List V} {ds : List D}, (∀ d ∈ ds, ∃ k, d = kD k) → DpAll K H ys ds → ∃ B', Ok A B' H ∧ Step A B H A B' H ∧ DpAll K B' ys ds
  | _, _, _, .nil => ⟨B, k, Step.refl, .nil⟩
  | _, d :: ds, hk, .cons h r => by
    obtain ⟨B1, k1, s1, d1⟩ := keysB k (fun d hd => hk d (List.mem_cons_of_mem _ hd)) r
    obtain ⟨key, rfl⟩ := hk d List.mem_cons_self
    cases h with
    | @tup a us _ ha hu =>
      obtain ⟨k2, s2⟩ := step_tupB k1 ha
      refine ⟨_, k2, s1.trans s2, .cons (.tup upd_same ?_) (dps_mono s2.bx d1)⟩
      rw [dps_kd_inv key hu]
      exact dps_kd _ key
theorem keys_dps : ∀ {kvs : List (List Key × V)} {bs : List Addr}, IsKeys H kvs bs → DpAll K H (bs.map V.ref) (kvs.map fun p => kD p.1)
  | [], [], _ => .nil
  | p :: kvs, b :: bs, h => by
    cases h with
    | cons h1 h2 => exact .cons (.tup h1 (dps_kd _ _)) (keys_dps h2)
theorem kdp_keys {κ : Type} : ∀ {kvs : List (κ × V)} {ds : List (κ × D)}, KDp K B kvs ds → kvs.map (·.1) = ds.map (·.1)
  | _, _, .nil => rfl
  | _, _, .cons h r => by rw [List.map_cons, List.map_cons, kdp_keys r]
end
def gListT : Op := fun S rs => match rs with
  | [r] => match ownDctT S r with
    | some l => some (.fr (.lst (l.map fun kv => kD kv.1)))
    | none => none
  | _ => none
def gSortT : Op := fun S rs => match rs with
  | [r] => match ownDctT S r with
    | some l => if srtOk (l.map fun kv => kD kv.1) then some (.fr (.lst (sortV (l.map fun kv => kD kv.1)))) else none
    | none => none
  | _ => none
/-- the rest of both: a new list of these tuples -/
theorem keys_end {w : World} {K : PySem.W.Frag} {σ : L2.St} {S : List Sl} {A F : List Addr} {B H : Hp} {Q : VK} {ys : List V} {ds : List D} {p : Addr} (sr : SR w K B H σ S A) (ok : Ok (F ++ A) B H) (hk : ∀ d ∈ ds, ∃ k, d = kD k) (hd : DpAll K H ys ds) (hp : H p = none)
    (q : ∀ v H' B' F', RR w K σ B' H' v (.fr (.lst ds)) F' → SR w K B' H' σ S A → Ok (F' ++ A) B' H' → Step (F ++ A) B H (F' ++ A) B' H' → Q v H') : Q (.ref p) (upd H p (.lst ys)) := by
  obtain ⟨B1, k1, s1, d1⟩ := keysB ok.right hk hd
  have sr1 : SR w K B1 H σ S A := sr.step s1.bx fun a _ o h => h
  obtain ⟨k2, s2⟩ := step_newA (o := .lst ys) k1 hp sr1.tracked
  refine q _ _ _ [p] (.fr (.lst upd_same d1)) (sr1.step (Same.refl _) fun a ha o h => ?_) k2 (?_)
  · rw [upd_ne (ne_of_none h hp)]; exact h
  · exact ((Step.refl.sub fun a ha => List.mem_append_right _ ha).trans s1).trans s2
def rListT : List V → Hp → VK → Prop := fun xs H Q => ∃ d kvs, xs = [V.ref d] ∧ Rd H d (.dT kvs) ∧ ∀ p bs, H p = none → IsKeys H kvs bs → Q (.ref p) (upd H p (.lst (bs.map V.ref)))
theorem ok_listDT {w : World} {K : PySem.W.Frag} : OpOk w K rListT gListT := by
  intro σ S A B H vs rs F r Q sr x ok e q
  unfold gListT at e
  split at e
  · rename_i r0
    split at e
    · rename_i l e1
      cases e
      obtain ⟨y, rfl, xa⟩ := rrs1 x
      obtain ⟨a, kvs, rfl, ha, hk⟩ := ownDctT_ok sr xa e1
      refine ⟨a, kvs, rfl, .inl ha, fun p bs hp hks => ?_⟩
      have ke := kdp_keys hk
      have ee : (kvs.map fun p => kD p.1) = l.map fun kv => kD kv.1 := by
        have := congrArg (List.map kD) ke
        rw [List.map_map, List.map_map] at this
        exact this
      refine keys_end sr ok (ds := l.map fun kv => kD kv.1) (fun d hd => ?_) (by rw [← ee]; exact keys_dps hks) hp q
      obtain ⟨kv, _, rfl⟩ := List.mem_map.mp hd
      exact ⟨_, rfl⟩
    · cases e
  · cases e
/-- sorted(d), d a dict with tuples as keys -/
def rSortT (K : PySem.W.Frag) : List V → Hp → VK → Prop := fun xs H Q => ∃ d kvs, xs = [V.ref d] ∧ Rd H d (.dT kvs) ∧ srtOk (kvs.map fun p => kD p.1) = true ∧ ∀ (ys : List V) (p : Addr), H p = none → DpAll K H ys (sortV (kvs.map fun p => kD p.1)) → Q (.ref p) (upd H p (.lst ys))
theorem ok_sortDT {w : World} {K : PySem.W.Frag} : OpOk w K (rSortT K) gSortT := by
  intro σ S A B H vs rs F r Q sr x ok e q
  unfold gSortT at e
  split at e
  · rename_i r0
    split at e
    · rename_i l e1
      split at e
      · rename_i hs
        cases e
        obtain ⟨y, rfl, xa⟩ := rrs1 x
        obtain ⟨a, kvs, rfl, ha, hk⟩ := ownDctT_ok sr xa e1
        have ke := kdp_keys hk
        have ee : (kvs.map fun p => kD p.1) = l.map fun kv => kD kv.1 := by
          have := congrArg (List.map kD) ke
          rw [List.map_map, List.map_map] at this
          exact this
        refine ⟨a, kvs, rfl, .inl ha, by rw [ee]; exact hs, fun ys p hp hd => ?_⟩
        rw [ee] at hd
        refine keys_end sr ok (ds := sortV (l.map fun kv => kD kv.1)) (fun d hd => ?_) hd hp q
        have := (List.mergeSort_perm (l.map fun kv => kD kv.1) (PySem.W.dataLe false id)).mem_iff.mp hd
        obtain ⟨kv, _, rfl⟩ := List.mem_map.mp this
        exact ⟨_, rfl⟩
      · cases e
    · cases e
  · cases e
open PySem.Calls PySem.W in
theorem cr_sortDT {X : Cx} (hc : X.calm = true) (hu : X.A.units + 65 < cLine) : CallR X (.builtin "sorted") (rSortT X.K) := by
  intro pins s σ H xs us Q I r h
  obtain ⟨d, kvs, rfl, hd, hok, q⟩ := h
  obtain ⟨u, rfl, rx⟩ := r.one
  cases rx
  obtain ⟨z, hs, ks, pr, o, es, ep, ho, hx, hdt, he, hn⟩ := (show ObjOk X.prog X.w H s.heap d (.dT kvs) from hd.ok I.hok)
  have l1 : es.size = ks.length := size_of_entries he
  have l2 : kvs.length = ks.length := Paired.length pr
  obtain ⟨al, so, dp⟩ := srtOk_p hok
  refine call_function_entry kind_sorted plain_sorted entry_sorted (args_sorted1 _) ?_
  unfold Builtin.«sorted»
  refine wpAny_bind (m := checkCount "sorted" 1 1 _) (wpAny_pure ?_)
  refine wpAny_bind (kdu_collect (A := X.A.in1) (kdl_raw hs hx hdt) (I.ok.hd hc) ho (by omega) fun h' tk acc hk it => ?_)
  have ea : acc.toList = ks.map fun x => Value.ref x.2.1 := by
    have hl : acc.toList.length = ks.length := by rw [Array.length_toList, it.1]; exact l1
    apply List.ext_getElem?
    intro j
    rw [List.getElem?_map]
    cases hj : acc.toList[j]? with
    | none =>
      have h1 := List.getElem?_eq_none_iff.mp hj
      rw [List.getElem?_eq_none (by omega)]
      all_goals rfl
    | some v =>
      obtain ⟨en, hen, hv⟩ := it.2 j v (by rw [← Array.getElem?_toList]; exact hj)
      have qe := entry_at he j
      rw [hen] at qe
      cases hb : ks[j]? with
      | none =>
        rw [hb] at qe
        exact nomatch (show some en = none from qe)
      | some b =>
        rw [hb] at qe
        have e2 : en = entryOfKey (tupleKind (mixKind X.prog X.w)) b := Option.some.inj qe
        rw [hv, e2]
        all_goals rfl
  have eb : acc.toList = (ks.map fun x => x.2.1).map Value.ref := by rw [ea, List.map_map]; all_goals rfl
  have rv : Vals ((ks.map fun x => x.2.1).map V.ref) acc.toList := by rw [eb]; exact vals_refs _
  have dk := keys_dps (K := X.K) (isKeys_of pr)
  have hz : acc.toList.length ≤ sizeLine := by rw [ea, List.length_map]; omega
  obtain ⟨as, hr⟩ := L2.Dp.readsAll I _ _ _ dk.l2 rv
  have ed := each_dps rv dk
  have er := readsAll_each id (by rw [List.map_id]; exact hr)
  generalize hds : (kvs.map fun p => kD p.1) = ds at *
  generalize acc.toList = its at *
  refine wpAny_bind (wpAny_newList ?_ hz)
  show wpAny _ _ _ _ _ { s with heap := h'.push (seqObj "list" its.toArray 0), toks := tk }
  have hat : (h'.push (seqObj "list" its.toArray 0)).get? h'.objs.size = some (seqObj "list" its.toArray 0) := Heap.get?_push_size _ rfl
  have hold : ∀ b o, s.heap.get? b = some o → (h'.push (seqObj "list" its.toArray 0)).get? b = some o := fun b o e => Heap.get?_push_of_some _ (hk b o e)
  have hne : ∀ b o, s.heap.get? b = some o → b ≠ h'.objs.size := fun b o e z => by
    exact Nat.ne_of_lt (Heap.lt_size (hk b o e)) z
  refine wpAny_bind (wpAny_holding (wpAny_call_entry_kw slot_list_sort ⟨_, hat, rfl⟩ entry_list_sort ?body (args_list_sort _)))
  case body =>
    have er' : EachIs (fun v b => ∃ as, Reads (sortingHeap (h'.push (seqObj "list" its.toArray 0)) h'.objs.size its) v (id b) as) its ds := er.mono fun _ _ ⟨as, r⟩ => ⟨as, PyProof.Rows.Reads.keeps (fun b o e => sortingHeap_old (hne b o e) (hold b o e)) r⟩
    refine wpAny_mono (list_sort_vals (s := { s with heap := h'.push (seqObj "list" its.toArray 0), toks := tk }) hat (SortsAt.data (s := { s with heap := sortingHeap (h'.push (seqObj "list" its.toArray 0)) h'.objs.size its, toks := tk }) (each_map (R := fun v d => ∃ as, Reads (sortingHeap (h'.push (seqObj "list" its.toArray 0)) h'.objs.size its) v d as) id er') al so (bound_map (A := X.A.in1.in1) (enc := id) fun d hd => ?_)) hz (P := fun f s' => f = .done (.ret .none) ∧ EP X pins σ Q (.ref h'.objs.size) s') ⟨rfl, ?_⟩) (fun f s' hf => ?_) fun _ _ e => e
    · have := dp d hd
      show X.A.in1.in1.units + d.depth < cLine
      show X.A.units + 1 + 1 + d.depth < cLine
      omega
    · have eo := sortVals_data (enc := id) false ed er' al
      obtain ⟨ys, h1, h2⟩ := dps_each eo
      generalize sortVals (dataKind (sortingHeap (h'.push (seqObj "list" its.toArray 0)) h'.objs.size its) (ds.map id)) false its its = out at *
      obtain ⟨n, hn2⟩ := sortedHeap_at (out := out.toArray) hat
      have hlo : out.length = its.length := by
        have e1 := eo.length
        have e2 := ed.length
        rw [List.length_mergeSort] at e1
        omega
      have kp : ∀ b o, h'.get? b = some o → (sortedHeap (h'.push (seqObj "list" its.toArray 0)) h'.objs.size its out.toArray).get? b = some o := fun b o e => by
        have e2 : (h'.push (seqObj "list" its.toArray 0)).get? b = some o := Heap.get?_push_of_some _ e
        rw [sortedHeap_old (Nat.ne_of_lt (Heap.lt_size e)) (Heap.lt_size e2)]
        exact e2
      have I' : Inv X pins σ H { s with heap := h', toks := tk } := I.kept hk
      refine ⟨.ref h'.objs.size, upd H h'.objs.size (.lst ys), I'.laid (t' := tk) kp (Nat.le_refl _) ⟨?_, out, n, h1, hn2⟩, rfl, q ys _ (I'.hok.fresh (Nat.le_refl _)) h2⟩
      have := h1.length
      omega
    · obtain ⟨rfl, hq⟩ := hf
      exact ⟨_, rfl, wpAny_pure ⟨_, rfl, hq⟩⟩
/-! ### len(d) -/
def gLenD : Op := fun S rs => match rs with
  | [r] => match ownDct S r with
    | some l => some (.im (.int (l.length : Nat)))
    | none => none
  | _ => none
def gLenT : Op := fun S rs => match rs with
  | [r] => match ownDctT S r with
    | some l => some (.im (.int (l.length : Nat)))
    | none => none
  | _ => none
def rLenD : List V → Hp → VK → Prop := fun xs H Q => ∃ a kvs, xs = [V.ref a] ∧ H a = some (.dK kvs) ∧ Q (.int kvs.length) H
theorem ok_lenD {w : World} {K : PySem.W.Frag} : OpOk w K rLenD gLenD := op_at fun σ S A B H vs rs F r Q sr x sb e q => by
  unfold gLenD at e
  split at e
  · split at e
    · rename_i l e1
      cases e
      obtain ⟨y, rfl, xa⟩ := rrs1 x
      obtain ⟨a, kvs, rfl, ha, hk⟩ := ownDct_ok sr xa e1
      exact ⟨a, kvs, rfl, ha, q _ _ rfl (by rw [kdp_length hk]; exact .int _)⟩
    · cases e
  · cases e
theorem ok_lenT {w : World} {K : PySem.W.Frag} : OpOk w K rLenT gLenT := op_at fun σ S A B H vs rs F r Q sr x sb e q => by
  unfold gLenT at e
  split at e
  · split at e
    · rename_i l e1
      cases e
      obtain ⟨y, rfl, xa⟩ := rrs1 x
      obtain ⟨a, kvs, rfl, ha, hk⟩ := ownDctT_ok sr xa e1
      exact ⟨a, kvs, rfl, ha, q _ _ rfl (by rw [kdp_length hk]; exact .int _)⟩
    · cases e
  · cases e
end Fl
/-! Fl: l.count(i), l a list of ints. -/
namespace Fl
open PySem L2 PyProof.Rows
def hCount : List D → Option Res
  | [.list l, .int i] => match toInts l with
    | some ns => some (.d (.int (ns.count i : Nat)))
    | none => none
  | _ => none
def rCountI (K : PySem.W.Frag) : V → List V → Hp → VK → Prop := fun x xs H Q => ∃ (a : Addr) (ns : List Int) (i : Int), x = V.ref a ∧ xs = [V.int i] ∧ L2.Dp K H (V.ref a) (.list (ns.map PyData.int)) ∧ Q (.int (ns.count i : Nat)) H
theorem plain_ints : ∀ ns : List Int, PyData.plainAll (ns.map PyData.int) = true
  | [] => by simp [PyData.plainAll]
  | n :: ns => by simp [PyData.plainAll, PyData.plain, plain_ints ns]
theorem depth_ints : ∀ ns : List Int, PyData.depthAll (ns.map PyData.int) = 0
  | [] => by simp [PyData.depthAll]
  | n :: ns => by simp [PyData.depthAll, PyData.depth, depth_ints ns]
theorem count_ints (i : Int) : ∀ ns : List Int, (ns.map PyData.int).countP (fun y => PyData.eqv y (.int i)) = ns.count i
  | [] => rfl
  | n :: ns => by
    have e : PyData.eqv (.int n) (.int i) = (n == i) := by simp only [PyData.eqv]
    rw [List.map_cons, List.countP_cons, List.count_cons, count_ints i ns, e]
theorem mt_countI {X : L2.Cx} (hu : X.A.units + 65 < cLine) : MtR X "list.count" (rCountI X.K) := by
  intro pins s σ H x xs v us Q I rx rxs h
  obtain ⟨a, ns, i, rfl, rfl, hl, q⟩ := h
  cases rx
  cases rxs with
  | cons ry rt =>
    rename_i uy ut
    cases rt
    obtain ⟨bs, r1⟩ := L2.Dp.reads I (.int i) (.int i) uy (.int i) ry
    cases hl with
    | lst hs ha =>
      obtain ⟨its, rv, pl, hlen⟩ := I.list hs
      obtain ⟨as, h4⟩ := L2.Dp.readsAll I _ _ its ha rv
      refine PySem.SeqAt.count_list_data (vs := its.toArray) pl.isList (show ReadsAll s.heap its.toArray.toList _ as from h4) r1 (plain_ints ns) (by simp [PyData.plain]) (by rw [depth_ints]; simp only [PyData.depth]; omega) ?_
      rw [count_ints]
      exact ⟨.int (ns.count i : Nat), H, I.tok _, ⟨_, rfl⟩, q⟩
section
variable {w : World} {K : PySem.W.Frag}
theorem ok_count : OpOk w K (RVC (rCountI K)) (gOp hCount) := gOp_ok fun B H vs ds res Q sb v e p => by
  unfold hCount at e
  split at e
  · rename_i l i
    split at e
    · rename_i ns en
      cases e
      obtain ⟨x, y, rfl, vx, vy⟩ := vws2 v
      cases vy
      cases vx with
      | @lst a us _ h r =>
        have el := toInts_eq en
        refine ⟨_, _, rfl, a, ns, i, rfl, rfl, ?_, p.val _ _ rfl (.int _)⟩
        rw [← el]
        exact .lst h (dps_mono sb r).l2
    · cases e
  · cases e
end
section
variable {X : L2.Cx} {o e : Expr} {es : List Expr} {apos cpos : Pos} {f : SE} {fs : SEs}
theorem e_count' (hu : X.A.units + 65 < cLine) (ho : E X o f) (ha : Es X (e :: es) fs)
    (hbase : attributeBase o "count" X.env (eval o X.env) = eval o X.env := by rfl)
    (hfew : ((backTo cpos (starEach (e :: es) X.env)).all (fun x => !x.1) && (backToKw cpos (keywordEach [] X.env)).all (fun x => x.1.isSome)
      && decide ((e :: es).length + ([] : List Keyword).length + (if ([] : List Keyword).isEmpty then 0 else 1) < 30)) = true := by rfl)
    (hline : (apos.endLine == cpos.line) = true := by rfl) (hs : starEach (e :: es) X.env = (false, eval e X.env) :: starEach es X.env := by rfl) (hplain : (backTo cpos (starEach es X.env)).any (·.1) = false := by rfl) :
    E X (.Call (.Attribute o "count" apos) (e :: es) [] cpos) (eM2 isLd (gOp hCount) f fs) :=
  pe_weak (pe_bm PySem.F.plainAttrs_list PySem.F.slot_list_count PySem.F.type_list_count (mt_countI hu) ho ha hbase hfew hline hs hplain) fun σ H Q z => t_m2 ok_count (fun B H x d h c => vw_list h c) z
end
/-! ### max(t), min(t), t a tuple of ints -/
def hMaxT : List D → Option Res
  | [.tuple l] => match toInts l with
    | some (n :: ns) => some (.d (.int (ns.foldl max n)))
    | _ => none
  | _ => none
def hMinT : List D → Option Res
  | [.tuple l] => match toInts l with
    | some (n :: ns) => some (.d (.int (ns.foldl min n)))
    | _ => none
  | _ => none
def rExT (f : Int → Int → Int) (K : PySem.W.Frag) : List V → Hp → VK → Prop := fun vs H Q => ∃ (a : Addr) (n : Int) (ns : List Int), vs = [V.ref a] ∧ L2.Dp K H (V.ref a) (.tuple ((n :: ns).map PyData.int)) ∧ Q (.int (ns.foldl f n)) H
theorem alike_ints (l : List Int) : PySem.W.AlikeAll (l.map PyData.int) := ⟨fun x hx y hy => by
  obtain ⟨i, _, rfl⟩ := List.mem_map.mp hx
  obtain ⟨j, _, rfl⟩ := List.mem_map.mp hy
  simp [PySem.W.alike], fun x hx => by
  obtain ⟨i, _, rfl⟩ := List.mem_map.mp hx
  simp⟩
theorem reads_intV {h : Heap} {v : Value} {i : Int} {bs : List Addr} (r : Reads h v (.int i) bs) : ∃ t, v = .int i t := by
  cases r
  exact ⟨_, rfl⟩
theorem cr_maxT {X : L2.Cx} (hc : X.calm = true) (hu : X.A.units + 65 < cLine) : CallR X (.builtin "max") (rExT max X.K) := by
  intro pins s σ H vs us Q I r h
  obtain ⟨a, n, ns, rfl, hd, q⟩ := h
  rw [Vals.ref1 r]
  cases hd with
  | tup hs ha =>
    obtain ⟨its, rv, pl, hlen⟩ := I.tuple hs
    obtain ⟨as, hr⟩ := L2.Dp.readsAll I _ _ its ha rv
    refine PySem.W.max_tuple_data (vs := its.toArray) (x := .int n) (xs := ns.map PyData.int) (as := as) (I.ok.hd hc) pl (by rw [List.toList_toArray]; exact hr) (alike_ints (n :: ns)) (by rw [show (PyData.int n :: ns.map PyData.int) = (n :: ns).map PyData.int from rfl, depth_ints]; omega) fun i u h' tk bs hi hm hk => ?_
    rw [PySem.W.maxD_ints] at hm
    obtain ⟨t, rfl⟩ := reads_intV hm
    exact ⟨.int _, H, I.kept hk, ⟨_, rfl⟩, q⟩
theorem cr_minT {X : L2.Cx} (hc : X.calm = true) (hu : X.A.units + 65 < cLine) : CallR X (.builtin "min") (rExT min X.K) := by
  intro pins s σ H vs us Q I r h
  obtain ⟨a, n, ns, rfl, hd, q⟩ := h
  rw [Vals.ref1 r]
  cases hd with
  | tup hs ha =>
    obtain ⟨its, rv, pl, hlen⟩ := I.tuple hs
    obtain ⟨as, hr⟩ := L2.Dp.readsAll I _ _ its ha rv
    refine PySem.W.min_tuple_data (vs := its.toArray) (x := .int n) (xs := ns.map PyData.int) (as := as) (I.ok.hd hc) pl (by rw [List.toList_toArray]; exact hr) (alike_ints (n :: ns)) (by rw [show (PyData.int n :: ns.map PyData.int) = (n :: ns).map PyData.int from rfl, depth_ints]; omega) fun i u h' tk bs hi hm hk => ?_
    rw [PySem.W.minD_ints] at hm
    obtain ⟨t, rfl⟩ := reads_intV hm
    exact ⟨.int _, H, I.kept hk, ⟨_, rfl⟩, q⟩
section
variable {w : World} {K : PySem.W.Frag}
theorem ok_maxT : OpOk w K (rExT max K) (gOp hMaxT) := gOp_ok fun B H vs ds res Q sb v e p => by
  unfold hMaxT at e
  split at e
  · rename_i l
    split at e
    · rename_i n ns en
      cases e
      obtain ⟨y, rfl, vy⟩ := vws1 v
      have el := toInts_eq en
      have dv := vy.dp sb
      cases vy with
      | @tup a us _ h r =>
        refine ⟨a, n, ns, rfl, ?_, p.val _ _ rfl (.int _)⟩
        rw [← el]
        exact dv
    · cases e
  · cases e
theorem ok_minT : OpOk w K (rExT min K) (gOp hMinT) := gOp_ok fun B H vs ds res Q sb v e p => by
  unfold hMinT at e
  split at e
  · rename_i l
    split at e
    · rename_i n ns en
      cases e
      obtain ⟨y, rfl, vy⟩ := vws1 v
      have el := toInts_eq en
      have dv := vy.dp sb
      cases vy with
      | @tup a us _ h r =>
        refine ⟨a, n, ns, rfl, ?_, p.val _ _ rfl (.int _)⟩
        rw [← el]
        exact dv
    · cases e
  · cases e
end
/-! ### a, b, c = e1, e2, e3 -/
def sPar3 (i j l : Nat) (f g h : SE) : SS := fun S => match sCons f (sCons g (sCons h sNil)) S with
  | some ([r1, r2, r3], S') => match r1.sl, r2.sl, r3.sl with
    | some s1, some s2, some s3 => if isMu S' i || (isMu S' j || isMu S' l) then none else some (.nx (((S'.set i s1).set j s2).set l s3))
    | _, _, _ => none
  | _ => none
theorem rr_slot {w : World} {K : PySem.W.Frag} {σ σ' : L2.St} {B H : Hp} {v : V} {r : Rs} {F : List Addr} {s : Sl} (x : RR w K σ B H v r F) (e : r.sl = some s) : RR w K σ' B H v r F := by
  cases x with
  | im h => exact .im h
  | fr h => exact .fr h
  | pl h => cases e
theorem s_par3 {X : L2.Cx} {pos : Pos} {i j l : Nat} {x y z : Str} {a b c : Expr} {px py pz pt : Pos} {kt k2 : Nat} {pt2 : Pos} {f g h : SE} (hc : X.calm = true) (hN : X.N.Nodup) (hi : X.N[i]? = some x) (hj : X.N[j]? = some y) (hl : X.N[l]? = some z) (hij : i ≠ j) (hil : i ≠ l) (hjl : j ≠ l)
    (hp : PS X (.Assign [.Tuple [.Name x px, .Name y py, .Name z pz] kt pt] (.Tuple [a, b, c] k2 pt2) pos) (tPar3 i j l (Ta X.w X.K (sCons f (sCons g (sCons h sNil)))))) :
    St' X (.Assign [.Tuple [.Name x px, .Name y py, .Name z pz] kt pt] (.Tuple [a, b, c] k2 pt2) pos) (sPar3 i j l f g h) := ps_weak hp fun D σ H ⟨S, A, B, out, sr, ok, e, q⟩ => by
  unfold sPar3 at e
  split at e
  · rename_i r1 r2 r3 S' e1
    split at e
    · rename_i s1 s2 s3 es1 es2 es3
      split at e
      · cases e
      · rename_i hm
        cases e
        rw [Bool.or_eq_true, Bool.or_eq_true] at hm
        refine ⟨S, A, B, _, S', sr, ok, e1, fun vs H' ⟨A', B', F, g', x⟩ => ?_⟩
        cases x with
        | @cons v _ F1 FA _ _ x1 x =>
          cases x with
          | @cons u _ F2 FB _ _ x2 x =>
            cases x with
            | @cons w _ F3 FC _ _ x3 x =>
              cases x
              refine ⟨v, u, w, rfl, ?_⟩
              have gok := g'.ok
              have gst := g'.st
              rw [List.append_nil] at gok gst
              have o : Ok ((F1 ++ F2) ++ (F3 ++ A')) B' H' := by
                have z : (F1 ++ (F2 ++ F3)) ++ A' = (F1 ++ F2) ++ (F3 ++ A') := by simp [List.append_assoc]
                rw [← z]; exact gok
              have q3 : Ok (F3 ++ ((F1 ++ F2) ++ A')) B' H' := ok_mid o
              have o2 : Ok (F2 ++ (F1 ++ A')) B' H' := ok_mid (by rw [← List.append_assoc]; exact q3.right)
              obtain ⟨A1, z1, z2, z3, z4⟩ := set_slot g'.sr o2.right x1 es1 (fun h => hm (.inl h))
              have o3 : Ok (F2 ++ A1) B' H' := by
                refine o2.sub' ?_ fun a ha => ?_
                · refine List.nodup_append.mpr ⟨o2.left.nd, z2.nd, fun a ha b hb e => ?_⟩
                  subst e
                  exact o2.disj ha (z3 a hb)
                · rcases List.mem_append.mp ha with h | h
                  · exact List.mem_append_left _ h
                  · exact List.mem_append_right _ (z3 a h)
              obtain ⟨A2, y1, y2, y3, y4⟩ := set_slot z1 o3 (rr_slot x2 es2) es2 (isMu_set hij fun h => hm (.inr (.inl h)))
              have sub2 : ∀ a ∈ A2, a ∈ (F1 ++ F2) ++ A' := fun a ha => by
                rcases List.mem_append.mp (y3 a ha) with h | h
                · simp [h]
                · rcases List.mem_append.mp (z3 a h) with h | h
                  · simp [h]
                  · simp [h]
              have o4 : Ok (F3 ++ A2) B' H' := by
                refine q3.sub' ?_ fun a ha => ?_
                · refine List.nodup_append.mpr ⟨q3.left.nd, y2.nd, fun a ha b hb e => ?_⟩
                  subst e
                  exact q3.disj ha (sub2 a hb)
                · rcases List.mem_append.mp ha with h | h
                  · exact List.mem_append_left _ h
                  · exact List.mem_append_right _ (sub2 a h)
              obtain ⟨A3, w1, w2, w3, w4⟩ := set_slot y1 o4 (rr_slot x3 es3) es3 (isMu_set hjl (isMu_set hil fun h => hm (.inr (.inr h))))
              refine q _ _ ⟨A3, B', w1, w2, gst.sub fun a ha => ?_, (((g'.mu.s σ).trans z4).trans y4).trans w4⟩
              rcases List.mem_append.mp (w3 a ha) with h | h
              · simp [h]
              · have := sub2 a h
                simp only [List.mem_append] at this ⊢
                rcases this with (h | h) | h
                · exact .inl (.inl h)
                · exact .inl (.inr (.inl h))
                · exact .inr h
    · cases e
  · cases e
theorem s_par3A {X : L2.Cx} {pos : Pos} {x y z : Str} {a b c : Expr} {px py pz pt : Pos} {kt k2 : Nat} {pt2 : Pos} {f g h : SE} (i j l : Nat) (hN : X.N.Nodup) (ha : Es X [a, b, c] (sCons f (sCons g (sCons h sNil)))) (hc : X.calm = true := by rfl) (hi : X.N[i]? = some x := by rfl) (hj : X.N[j]? = some y := by rfl) (hl : X.N[l]? = some z := by rfl)
    (hij : i ≠ j := by decide) (hil : i ≠ l := by decide) (hjl : j ≠ l := by decide) (hx : X.env.scope.names.lookup x = some .local := by rfl) (hy : X.env.scope.names.lookup y = some .local := by rfl) (hz : X.env.scope.names.lookup z = some .local := by rfl)
    (hw : swappedStores [.Tuple [.Name x px, .Name y py, .Name z pz] kt pt] (.Tuple [a, b, c] k2 pt2) X.env = pure (some [x, y, z]) := by rfl)
    (hs : swapsWithSole [.Tuple [.Name x px, .Name y py, .Name z pz] kt pt] (.Tuple [a, b, c] k2 pt2) pos.line X.env = pure false := by rfl) :
    St' X (.Assign [.Tuple [.Name x px, .Name y py, .Name z pz] kt pt] (.Tuple [a, b, c] k2 pt2) pos) (sPar3 i j l f g h) := s_par3 hc hN hi hj hl hij hil hjl (ps_par3 hc hN hi hj hl hij hil hjl hx hy hz ha hw hs)
section
variable {S : List Sl}
theorem sPar3_ap (i j l : Nat) (f g h : SE) : sPar3 i j l f g h S = match sCons f (sCons g (sCons h sNil)) S with
  | some ([r1, r2, r3], S') => match r1.sl, r2.sl, r3.sl with
    | some s1, some s2, some s3 => if isMu S' i || (isMu S' j || isMu S' l) then none else some (.nx (((S'.set i s1).set j s2).set l s3))
    | _, _, _ => none
  | _ => none := rfl
end
/-! ### [f for x in xs if t], xs an own list of ints that stays in place -/
def isInts (S : List Sl) (j : Nat) (ns : List Int) : Bool := match S[j]? with
  | some (.ow (.lst ds)) => match toInts ds with
    | some ms => decide (ms = ns)
    | none => false
  | _ => false
def tG (j : Nat) (ns : List Int) (t : ST) : ST := fun S => if isInts S j ns then t S else none
def eLcP (j i : Nat) (t : ST) (f : SE) : SE := fun S => match S[j]? with
  | some (.ow (.lst ds)) => match toInts ds with
    | some ns => if isIm S i then match lcL i (tG j ns t) f ds (S.set i .un) with
      | some (es, S2) => if isInts S2 j ns && szOk ds.length then some (.fr (.lst es), S2.set i (S.getD i .un)) else none
      | none => none else none
    | none => none
  | _ => none
section
variable {w : World} {K : PySem.W.Frag} {σ : L2.St} {S : List Sl} {A : List Addr} {B H : Hp}
theorem dps_intsV : ∀ {ns : List Int} {vs : List V}, DpAll K B vs (ns.map PyData.int) → vs = ns.map V.int
  | [], _, .nil => rfl
  | n :: ns, _, .cons h r => by
    cases h
    rw [dps_intsV r, List.map_cons]
theorem isInts_sr {ns : List Int} {j : Nat} (sr : SR w K B H σ S A) (h : isInts S j ns = true) : ∃ a, σ[j]? = some (some (.ref a)) ∧ H a = some (.lst (ns.map V.int)) := by
  unfold isInts at h
  split at h
  · rename_i ds e
    split at h
    · rename_i ms em
      have em := toInts_eq em
      rw [of_decide_eq_true h] at em
      obtain ⟨x, A1, As, A2, eA, es, sl, f⟩ := sr.at e
      cases sl with
      | ow o =>
        cases o with
        | lst h r =>
          rw [em] at r
          rw [dps_intsV r] at h
          exact ⟨_, es, h⟩
    · cases h
  · cases h
theorem t_lcP {j i : Nat} {t : ST} {f : SE} {Q : VK} (h : T w K (eLcP j i t f) σ H Q) : tLc (iList K (tVar j)) (gName i) (Tt w K t) (T w K f) [i] σ H Q := by
  obtain ⟨S, A, B, r, S', sr, ok, e, q⟩ := h
  unfold eLcP at e
  split at e
  · rename_i ds ej
    split at e
    · rename_i ns en
      split at e
      · rename_i hi
        split at e
        · rename_i es S2 e2
          split at e
          · rename_i hsz
            rw [Bool.and_eq_true] at hsz
            obtain ⟨hin, hsz⟩ := hsz
            cases e
            have hin0 : isInts S j ns = true := by
              unfold isInts
              rw [ej]
              simp only [en, decide_true]
            obtain ⟨a, ea, ha⟩ := isInts_sr sr hin0
            have eds := toInts_eq en
            have ll : ds.length = (ns.map V.int).length := by rw [eds, List.length_map, List.length_map]
            obtain ⟨s0, hs0, hs0'⟩ := isIm_get hi
            have ij : i ≠ j := fun z => by
              subst z
              rw [hs0] at ej
              cases ej
              rcases hs0' with z | ⟨d, z⟩ <;> cases z
            have eaN : (σ.set i none)[j]? = some (some (.ref a)) := by rw [List.getElem?_set_ne ij]; exact ea
            refine ⟨.ref a, ea, a, rfl, ⟨_, .inl (.inl ha)⟩, fun L hL => ?_⟩
            have g1 : Go w K σ S A B H S A B H [] := Go.same sr ok
            -- the start: slot i emptied, the new list waits
            obtain ⟨A2, r1, r2, r3⟩ := un_slot g1.sr hs0 none
            have ok2 : Ok A2 B H := g1.ok0.sub' (r3 g1.ok0.nd) r2
            obtain ⟨k3, s3⟩ := step_newA (o := .lst []) ok2 hL r1.tracked
            have r1' : SR w K B (upd H L (.lst [])) (σ.set i none) (S.set i .un) A2 := r1.step (Same.refl _) fun a ha o h => by
              rw [upd_ne (ne_of_none h hL)]; exact h
            have g0 : Go w K (σ.set i none) (S.set i .un) A2 B H (S.set i .un) A2 B (upd H L (.lst [])) [L] := ⟨r1', k3, s3, MuK.refl _⟩
            refine lc_it (walk_list (K := K) (a := a) (xs := ns.map V.int)) (fun j1 H' => ∃ S' A' B' acc vs rest, Go w K (σ.set i none) (S.set i .un) A2 B H S' A' B' H' [L] ∧ H' L = some (.lst vs) ∧ DpAll K B' vs acc ∧ acc.length ≤ j1 ∧ lcL i (tG j ns t) f (ds.drop j1) S' = some (rest, S2) ∧ acc ++ rest = es)
              ⟨_, A2, B, [], [], es, g0, upd_same, .nil, Nat.le_refl _, e2, rfl⟩ (fun j1 H' hj1 ⟨S', A', B', acc, vs, rest, g', _, _, _, e', _⟩ => ?_) ?_ ?_
            · have hI : isInts S' j ns = true := by
                rcases Nat.lt_or_ge j1 ds.length with h | h
                · have ed : ds.drop j1 = ds[j1] :: ds.drop (j1 + 1) := List.drop_eq_getElem_cons h
                  rw [ed] at e'
                  simp only [lcL, tG] at e'
                  by_cases c : isInts (S'.set i (.im ds[j1])) j ns = true
                  · have : isInts (S'.set i (.im ds[j1])) j ns = isInts S' j ns := by unfold isInts; rw [List.getElem?_set_ne ij]
                    rw [← this]; exact c
                  · rw [if_neg c] at e'; cases e'
                · rw [List.drop_eq_nil_of_le h] at e'
                  cases e'
                  exact hin
              obtain ⟨a', ea', ha'⟩ := isInts_sr g'.sr hI
              rw [eaN] at ea'
              cases ea'
              exact .inl (.inl ha')
            · intro j1 x H' H2 hj ⟨S', A', B', acc, vs, rest, g', hLv, hacc, hlen, e', hrest⟩ y
              have hj0 : j1 < ds.length := by rw [ll]; exact hj
              obtain ⟨d, hd⟩ : ∃ d, ds[j1]? = some d := ⟨ds[j1], by simp [hj0]⟩
              have ed : ds.drop j1 = d :: ds.drop (j1 + 1) := by
                obtain ⟨h1, h2⟩ := List.getElem?_eq_some_iff.mp hd
                rw [← h2]; exact List.drop_eq_getElem_cons h1
              rw [ed] at e'
              simp only [lcL] at e'
              have okL := g'.ok
              have hI2 : isInts (S'.set i (.im d)) j ns = true := by
                by_cases c : isInts (S'.set i (.im d)) j ns = true
                · exact c
                · simp only [tG, if_neg c] at e'; cases e'
              simp only [tG, if_pos hI2] at e'
              have eH : H2 = H' := y.1
              obtain ⟨B3, g3, dd⟩ := item_step (d := d) (x := x) (H2 := H2) (B0 := B') g'.sr g'.ok.right (Same.refl B') (.inl ⟨y.1, (by
                have z := y.2
                rw [List.getElem?_map] at z
                rw [eds, List.getElem?_map] at hd
                cases e9 : ns[j1]? with
                | none => rw [e9] at hd; cases hd
                | some n9 =>
                  rw [e9] at hd z
                  cases hd
                  cases z
                  exact .int _)⟩)
              obtain ⟨p1, p2, p3⟩ := pend (F := [L]) okL g3.st g3.ok (fun a ha => by simp at ha; subst ha; exact ⟨_, hLv⟩)
              have hL3 : H2 L = some (.lst vs) := p3 L (by simp) _ hLv
              have hl : i < (S.set i Sl.un).length := by
                rw [List.length_set]
                exact (List.getElem?_eq_some_iff.mp hs0).1
              have hlS : i < S'.length := by
                rw [← g'.sr.length, g0.sr.length]; exact hl
              have hsl : ∃ s, S'[i]? = some s := ⟨S'[i], by simp [hlS]⟩
              obtain ⟨s1, hs1⟩ := hsl
              have hw : wipe σ [i] = σ.set i none := rfl
              rw [hw]
              show wipe ((σ.set i none).set i (some x)) [i] = σ.set i none ∧ _
              refine ⟨by show ((σ.set i none).set i (some x)).set i none = _; rw [set_set', set_set'], ?_⟩
              obtain ⟨A4, i1, i2, i3⟩ := im_slot g3.sr hs1 dd
              have ok4 : Ok A4 B3 H2 := g3.ok.sub' (i3 g3.ok.nd) i2
              have okL4 : Ok ([L] ++ A4) B3 H2 := p1.sub' (List.nodup_append.mpr ⟨p1.left.nd, i3 g3.ok.nd, fun a ha b hb e => p1.disj ha (e ▸ i2 b hb)⟩) fun a ha => by
                rcases List.mem_append.mp ha with h | h
                · exact List.mem_append_left _ h
                · exact List.mem_append_right _ (i2 a h)
              have noMu : ∀ (k : Nat) o, (S.set i Sl.un)[k]? = some (.mu o) → i ≠ k := fun k o hk ik => by
                subst ik
                rw [List.getElem?_set_self (by rw [List.length_set] at hl; exact hl)] at hk
                cases hk
              -- from the turn's start to behind a piece of code that ran with L waiting
              have fin : ∀ {S5 : List Sl} {A5 : List Addr} {B5 H5 : Hp} {F5 : List Addr}, Go w K ((σ.set i none).set i (some x)) (S'.set i (.im d)) A4 B3 H2 S5 A5 B5 H5 F5 →
                  ∃ A6, SR w K B5 H5 (σ.set i none) (S5.set i .un) A6 ∧ H5 L = some (.lst vs) ∧ DpAll K B5 vs acc ∧ Ok (F5 ++ ([L] ++ A6)) B5 H5 ∧ Step A2 B H (F5 ++ ([L] ++ A6)) B5 H5 ∧ MuK (S.set i .un) (S5.set i .un) := by
                intro S5 A5 B5 H5 F5 g5
                obtain ⟨q1, q2, q3⟩ := pend (F := [L]) okL4 g5.st g5.ok (fun a ha => by simp at ha; subst ha; exact ⟨_, hL3⟩)
                have hl5 : i < S5.length := by
                  rw [← g5.sr.length, List.length_set, g'.sr.length]; exact hlS
                obtain ⟨A6, u1, u2, u3⟩ := un_slot (s := S5[i]) g5.sr (List.getElem?_eq_getElem hl5) none
                rw [set_set', set_set'] at u1
                have st5 : Step ([L] ++ A') B' H' ([L] ++ (F5 ++ A5)) B5 H5 := (p2.sub (A'' := [L] ++ A4) fun a ha => by
                  rcases List.mem_append.mp ha with h | h
                  · exact List.mem_append_left _ h
                  · exact List.mem_append_right _ (i2 a h)).trans q2
                have nd5 := g5.ok.right.nd
                have sub6 : ∀ a ∈ F5 ++ ([L] ++ A6), a ∈ [L] ++ (F5 ++ A5) := fun a ha => by
                  simp only [List.mem_append] at ha ⊢
                  rcases ha with h | h | h
                  · exact .inr (.inl h)
                  · exact .inl h
                  · exact .inr (.inr (u2 a h))
                refine ⟨A6, u1, q3 L (by simp) _ hL3, dps_mono (g3.st.bx.trans g5.st.bx) hacc, ?_, g'.st.trans (st5.sub sub6), fun k o hk => ?_⟩
                · have q4 : Ok (F5 ++ ([L] ++ A5)) B5 H5 := ok_mid q1
                  refine q4.sub' (List.nodup_append.mpr ⟨q4.left.nd, List.nodup_append.mpr ⟨q1.left.nd, u3 nd5, fun a ha b hb e => ?_⟩, fun a ha b hb e => ?_⟩) fun a ha => ?_
                  · exact q1.disj ha (e ▸ List.mem_append_right _ (u2 b hb))
                  · refine q4.disj ha (e ▸ ?_)
                    rcases List.mem_append.mp hb with h | h
                    · exact List.mem_append_left _ h
                    · exact List.mem_append_right _ (u2 b h)
                  · simp only [List.mem_append] at ha ⊢
                    rcases ha with h | h | h
                    · exact .inl h
                    · exact .inr (.inl h)
                    · exact .inr (.inr (u2 a h))
                · have ik := noMu k o hk
                  obtain ⟨o1, h1⟩ := g'.mu k o hk
                  obtain ⟨o2, h2⟩ := g5.mu k o1 (by rw [List.getElem?_set_ne ik]; exact h1)
                  exact ⟨o2, by rw [List.getElem?_set_ne ik]; exact h2⟩
              split at e'
              · rename_i S5 e5
                refine ⟨S'.set i (.im d), A4, B3, true, S5, i1, ok4, e5, fun H5 ⟨A5, B5, g5⟩ => iteT ?_⟩
                split at e'
                · rename_i r6 S6 e6
                  split at e'
                  · rename_i el hel
                    split at e'
                    · rename_i es' S7 e7
                      cases e'
                      refine ⟨S5, A5, B5, r6, S6, g5.sr, g5.ok0, e6, fun v H6 ⟨A6, B6, F6, g6, x6⟩ => ?_⟩
                      obtain ⟨A7, f1, f2, f3, f4, f5, f6⟩ := fin (g5.seq g6)
                      refine ⟨vs, f2, ?_, ?_⟩
                      · rw [dps_length f3]
                        have := of_decide_eq_true hsz
                        have hz : sizeLine = 2 ^ 24 := by decide
                        omega
                      · obtain ⟨m1, m2⟩ := step_freeze f4
                        have dd6 : Dp K (ov B6 H6 F6) v el := x6.data (ov_same f4.sub) (fun a ha => ov_in ha) hel
                        obtain ⟨k1, k2⟩ := step_mut (o := .lst (vs ++ [v])) m1 (p := L) (by simp)
                        refine ⟨_, A7, ov B6 H6 F6, acc ++ [el], vs ++ [v], es', ⟨?_, k1, (f5.trans m2).trans k2, f6⟩, upd_same, dps_append (dps_mono (ov_same f4.sub) f3) (.cons dd6 .nil), ?_, e7, ?_⟩
                        · refine f1.step (ov_same f4.sub) fun a ha o h => ?_
                          have n : a ≠ L := fun e => by
                            subst e
                            exact m1.disj (List.mem_singleton.mpr rfl) ha
                          rw [upd_ne n]; exact h
                        · rw [List.length_append, List.length_singleton]; omega
                        · rw [List.append_assoc]; exact hrest
                    · cases e'
                  · cases e'
                · cases e'
              · rename_i S5 e5
                refine ⟨S'.set i (.im d), A4, B3, false, S5, i1, ok4, e5, fun H5 ⟨A5, B5, g5⟩ => iteF ?_⟩
                obtain ⟨A6, f1, f2, f3, f4, f5, f6⟩ := fin g5
                exact ⟨_, A6, B5, acc, vs, rest, ⟨f1, f4, f5, f6⟩, f2, f3, by omega, e', hrest⟩
              · cases e'
            · intro H' ⟨S', A', B', acc, vs, rest, g', hLv, hacc, hlen, e', hrest⟩
              rw [show ds.drop (ns.map V.int).length = [] by rw [← ll]; exact List.drop_length] at e'
              cases e'
              rw [List.append_nil] at hrest
              subst hrest
              have hl : i < S.length := (List.getElem?_eq_some_iff.mp hs0).1
              have hl2 : i < S2.length := by rw [← g'.sr.length, List.length_set, g1.sr.length]; exact hl
              obtain ⟨x0, A8, As8, A9, eA8, es8, sl8, f8⟩ := g1.sr.at hs0
              have slr : SlR w K B' H' x0 s0 [] := by
                rcases hs0' with rfl | ⟨d, rfl⟩
                · exact .un
                · cases sl8 with
                  | im h => exact .im (dp_mono g'.st.bx h)
              obtain ⟨y, C1, Cs, C2, eC, es, slc, fc⟩ := g'.sr.at (List.getElem?_eq_getElem hl2)
              have z := fc (B' := B') (H' := H') (x' := x0) (s' := s0) (As' := []) (Same.refl B') (fun a _ o h => h) slr
              rw [set_set', set_same es8] at z
              have subC : ∀ a ∈ C1 ++ ([] ++ C2), a ∈ A' := fun a ha => by
                rw [eC]
                simp only [List.nil_append, List.mem_append] at ha ⊢
                rcases ha with h | h
                · exact .inl h
                · exact .inr (.inr h)
              have ndC : (C1 ++ ([] ++ C2)).Nodup := by
                have nd := g'.ok.right.nd
                rw [eC] at nd
                obtain ⟨n1, n2, n3⟩ := List.nodup_append.mp nd
                exact List.nodup_append.mpr ⟨n1, (List.nodup_append.mp n2).2.1, fun a ha b hb => n3 a ha b (by simp at hb; simp [hb])⟩
              have sub1 : ∀ a ∈ [L] ++ (C1 ++ ([] ++ C2)), a ∈ [L] ++ A' := fun a ha => by
                rcases List.mem_append.mp ha with h | h
                · exact List.mem_append_left _ h
                · exact List.mem_append_right _ (subC a h)
              have eg : S.getD i .un = s0 := by rw [List.getD_eq_getElem?_getD, hs0]; rfl
              rw [eg] at q
              refine q _ H' ⟨C1 ++ ([] ++ C2), B', [L], ⟨z, ?_, ?_, fun k o hk => ?_⟩, .fr (.lst hLv hacc)⟩
              · exact g'.ok.sub' (List.nodup_append.mpr ⟨g'.ok.left.nd, ndC, fun a ha b hb e => g'.ok.disj ha (e ▸ subC b hb)⟩) sub1
              · exact ((g1.st.sub (A'' := A2) fun a ha => by simpa using r2 a ha).trans g'.st).sub sub1
              · obtain ⟨o1, h1⟩ := g1.mu k o hk
                have ik : i ≠ k := fun e => by
                  subst e
                  rw [hs0] at h1
                  rcases hs0' with rfl | ⟨d, rfl⟩ <;> cases h1
                obtain ⟨o2, h2⟩ := g'.mu k o1 (by rw [List.getElem?_set_ne ik]; exact h1)
                exact ⟨o2, by rw [List.getElem?_set_ne ik]; exact h2⟩
          · cases e
        · cases e
      · cases e
    · cases e
  · cases e
end
section
variable {X : Cx} {elt tg c : Expr} {ifs : List Expr} {scope : Scope} {pos npos : Pos} {t : ST} {f : SE} {i j : Nat} {x : Str}
theorem e_lcP (hp : PE X (.ListComp elt [⟨tg, .Name x npos, ifs, 0⟩] scope pos) (tLc (iList X.K (tVar j)) (gName i) (Tt X.w X.K t) (T X.w X.K f) [i])) : E X (.ListComp elt [⟨tg, .Name x npos, ifs, 0⟩] scope pos) (eLcP j i t f) := pe_weak hp fun _ _ _ z => t_lcP z
theorem s_setLcP {j' : Nat} {y : Str} {py spos : Pos} (hp : PS X (.Assign [.Name y py] (.ListComp elt [⟨tg, .Name x npos, ifs, 0⟩] scope pos) spos) (tAsg (tLc (iList X.K (tVar j)) (gName i) (Tt X.w X.K t) (T X.w X.K f) [i]) (gName j'))) :
    St' X (.Assign [.Name y py] (.ListComp elt [⟨tg, .Name x npos, ifs, 0⟩] scope pos) spos) (sSet j' (eLcP j i t f)) := s_setOf hp fun _ _ _ z => t_lcP z
theorem i_pl {tg : Expr} (j : Nat) (hN : X.N[j]? = some x := by rfl) (hv : Vis X.env.scope x := by first | exact Or.inl rfl | exact Or.inr (Or.inl rfl) | exact Or.inr (Or.inr rfl)) (hd : (x == ("__debug__" : Str)) = false := by decide)
    (hcd : (x == ("__classdict__" : Str)) = false := by decide) : PI X tg (.Name x npos) (iList X.K (tVar j)) := pi_list (pe_var hN hv hd hcd)
end
end Fl
/-! Fl: defs that are called where no repr is under way (A.guards = some []), and repr of data. -/
namespace Fl
open PySem L2 PyProof.Rows
/-- room, and no guard is set -/
structure RoomG (k : Nat) (A : Around) : Prop where
  r : Room k A
  g : A.guards = some []
theorem RoomG.mono {j k : Nat} {A : Around} (h : RoomG k A) (l : j ≤ k) : RoomG j A := ⟨h.r.mono l, h.g⟩
theorem RoomG.deeper {k : Nat} {A : Around} (h : RoomG (k + 1) A) (env : Env) : RoomG k (A.deeper env) := ⟨h.r.deeper env, h.g⟩
/-- a promise that is given there alone -/
structure FnG (P : Program) (w : World) (K : PySem.W.Frag) (mg : Str → Option Value) (base : Heap) (k : Nat) (f : Addr) (fd : FuncData) (ps : List Str) (sp : Sp) : Prop where
  len : ∀ vs H Q E, sp vs H Q E → vs.length = ps.length
  run : ∀ (A : Around) (outer : List Env) (s : Shared) (H : Hp) (args : Args) (us : List Value) (vs : List V) (Q : VK) (E : XK), RoomG k A → Env0 P w K mg base A outer s H → BindsTo s fd args (ps.zip us) → Vals vs us → sp vs H Q E →
    codeAny (model P w) A (.call (.ref f) args) (CR CX0 outer P w H s Q E) s
structure CalleeG (P : Program) (w : World) (K : PySem.W.Frag) (mg : Str → Option Value) (base : Heap) (k : Nat) (x : Str) (n : Nat) (F : Fn) : Prop where
  ex : ∃ (f : Addr) (fd : FuncData) (ps : List Str), FnG P w K mg base k f fd ps (spF w K n F) ∧ mg x = some (.ref f) ∧ PySem.W.keepIn K (.ref f) = true ∧ L2.Binds K fd ps []
section
variable {P : Program} {w : World} {K : PySem.W.Frag} {mg : Str → Option Value} {base : Heap}
theorem fn_okG {x qual : Str} {st : Stmt} {f : Addr} {fd : FuncData} {N ps : List Str} {k n nloc : Nat} {F : SS} (FF : L2.Fun K x qual st f fd) (Sc : FnScope N ps (defScope st)) (hn : ps.length = n) (hN : N.length = n + nloc)
    (hb : ∀ (cdv : Value) (A : Around) (outer : List Env) (s : Shared) (H : Hp), RoomG k (A.deeper (envOfC qual (defScope st) s.heap.objs.size f cdv)) → Ss (cxOf CX0 P w K mg base N qual (defScope st) f cdv A outer s H (fun _ _ _ => False)).nox (defBody st) F) :
    FnG P w K mg base (k + 1) f fd ps (spF w K n (fnOf nloc F)) := by
  obtain ⟨oc, od, kV, doc, pm, an, cdv, ct, osl, rfl, lk, hcd⟩ := FF.ex
  refine ⟨fun vs H Q E h => by rw [h.1, hn], fun A outer s H args us vs Q E hr e0 hbt r hsp => ?_⟩
  have hl : vs.length = ps.length := by rw [hsp.1, hn]
  have KX : K.In s.heap := e0.mod.kin.keeps fun b o e => (e0.bs b o e).1
  refine codeAny_call_function hr.r.depth (KX _ _ lk) rfl Sc.co Sc.gen rfl (PySem.W.codeRec_of KX hcd) (hbt _ _ _ _ ?_)
  refine wpAny_newFunctionEnv_cells Sc.kind (fun ⟨y, v⟩ hy => ?_) fun env he s1 x => ?_
  · rcases Sc.par y (List.of_mem_zip hy).1 with q | q
    · exact .inl q
    · exact .inr ⟨q, PySem.W.cellsFrom_some _ _ _ (.inl q)⟩
  subst he
  refine ⟨(e0.mod.nolimit.keeps fun b o e => (e0.bs b o e).1).keeps x.toInCall.keep, codeAny_func ?_⟩
  obtain ⟨t, ht, hq⟩ := fn_body (E := E) rfl rfl hN (hb cdv A outer s H (hr.deeper _)) hsp
  refine wpAny_mono (ht.nox.run [] s1 (start N vs) H _ (inv_start Sc hr.r.hd e0 hl r x) hq) (fun fl s' hs => ?_) fun e s' hs => hs
  cases fl with
  | ret u =>
    obtain ⟨v, σ', H', J, rv, q⟩ := hs
    exact ⟨v, H', J.os, J.bare, J.base, J.hok, rv, q⟩
  | next =>
    obtain ⟨σ', H', J, q⟩ := hs
    exact ⟨.non, H', J.os, J.bare, J.base, J.hok, rfl, q⟩
  | brk => obtain ⟨_, _, _, q⟩ := hs; exact False.elim q
  | cont => obtain ⟨_, _, _, q⟩ := hs; exact False.elim q
end
section
variable {X : Cx} {k j n : Nat} {f : Addr} {fd : FuncData} {ps : List Str} {sp : Sp} {x y : Str} {p p1 pos : Pos} {e : Expr} {es : List Expr} {t : TA} {fs : SEs} {F : Fn}
theorem pe_callG (G : FnG X.prog X.w X.K X.mg X.base k f fd ps sp) (hr : RoomG k X.A) (hg : Gl X x) (hm : X.mg x = some (.ref f)) (hk : PySem.W.keepIn X.K (.ref f) = true) (hb : L2.Binds X.K fd ps [])
    (ha : PA X (e :: es) t) (hdb : (x == ("__debug__" : Str)) = false := by decide) (he : starEach (e :: es) X.env = (false, eval e X.env) :: starEach es X.env := by rfl) (hpl : (backTo pos (starEach es X.env)).any (·.1) = false := by rfl) :
    PE X (.Call (.Name x p) (e :: es) [] pos) (tCall sp [] E0 t) := by
  refine ⟨fun pins s σ H Q I h => wpAny_Call_Name_kw (ld_glob I hg hm ?_ hdb)⟩
  refine PySem.W.callWith_K (h₀ := X.base) I.ok.mod.kin hk (thn (ha.run pos pins s σ H _ I h) fun us s1 ⟨vs, H1, I1, r, q⟩ => ⟨I1.kIn, ?_⟩) he hpl
  have q : sp (vs ++ []) H1 Q E0 := q
  rw [List.append_nil] at q
  have hb' := hb s1 us I1.kIn (by rw [List.append_nil, ← r.length]; exact G.len _ _ _ _ q)
  rw [List.append_nil] at hb'
  refine wpAny_call (codeAny_mono (G.run X.A X.stack s1 H1 ⟨us, []⟩ us vs Q E0 hr I1.env0 hb' r q) fun r s' hq => ?_)
  cases r with
  | error e => exact False.elim hq
  | ok fl =>
    cases fl with
    | ret u => exact I1.after hq
    | next => exact False.elim hq
    | brk => exact False.elim hq
    | cont => exact False.elim hq
theorem e_callG (c : CalleeG X.prog X.w X.K X.mg X.base k x n F) (hr : RoomG j X.A) (hk : k ≤ j) (hg : Gl X x) (ha : Es X (e :: es) fs)
    (hdb : (x == ("__debug__" : Str)) = false := by decide) (he : starEach (e :: es) X.env = (false, eval e X.env) :: starEach es X.env := by rfl) (hpl : (backTo pos (starEach es X.env)).any (·.1) = false := by rfl) :
    E X (.Call (.Name x p) (e :: es) [] pos) (eCall n F fs) := by
  obtain ⟨f, fd, ps, G, hm, kp, b⟩ := c.ex
  exact pe_weak (pe_callG G (hr.mono hk) hg hm kp b ha hdb he hpl) fun σ H Q z => t_call z
theorem e_callMG (i : Nat) (c : CalleeG X.prog X.w X.K X.mg X.base k x n F) (hr : RoomG j X.A) (hk : k ≤ j) (hg : Gl X x) (hv : PE X (.Name y p1) (tVar i)) (ha : Es X es fs)
    (hdb : (x == ("__debug__" : Str)) = false := by decide) (he : starEach (.Name y p1 :: es) X.env = (false, eval (.Name y p1) X.env) :: starEach es X.env := by rfl) (hpl : (backTo pos (starEach es X.env)).any (·.1) = false := by rfl) :
    E X (.Call (.Name x p) (.Name y p1 :: es) [] pos) (eCallM n F i fs) := by
  obtain ⟨f, fd, ps, G, hm, kp, b⟩ := c.ex
  exact pe_weak (pe_callG G (hr.mono hk) hg hm kp b (pa_cons hv ha he) hdb he hpl) fun σ H Q z => t_callM z
end
/-! ### the law's call -/
section
variable {P : Program} {w : World} {K : PySem.W.Frag} {mg mb : Str → Option Value} {k : Nat} {fa a : Addr} {fd : FuncData} {x : Str} {sp : Sp} {s₁ : Shared} {vs : List Value} {ns : List Int}
def scrO (vs : List Value) : Obj := { cls := .type "list", data := .seq vs.toArray }
/-- the script alone is known, if it is not the module's -/
def scrH (t : Bool) (a : Addr) (vs : List Value) (ns : List Int) : Hp := fun b => if t = true ∧ b = a then some (.frz (scrO vs) (.lst (ns.map V.int))) else none
theorem scrH_some {t : Bool} {b : Addr} {u : HO} (h : scrH t a vs ns b = some u) : t = true ∧ b = a ∧ u = .frz (scrO vs) (.lst (ns.map V.int)) := by
  unfold scrH at h
  split at h
  · rename_i c
    cases h
    exact ⟨c.1, c.2, rfl⟩
  · cases h
theorem law_callG (KX : K.In s₁.heap) (hns : s₁.heap.Ns mainGlobals mg) (hb : s₁.heap.Ns builtinsNs mb) (hbb : ∀ x : Str, x ≠ "__name__" → mb x = bootBuiltins x) (hlim : s₁.heap.NoLimit) (hg : s₁.gens = #[])
    (ha : s₁.heap.get? a = some (scrO vs)) (hi : IntsAre vs ns) (hl : ns.length ≤ sizeLine) (hr : RoomG k callerA)
    (F : ∀ base : Heap, K.In base → base.Ns mainGlobals mg → FnG P w K mg base k fa fd [x] sp) (hbind : ∀ (s : Shared) (u : Value), BindsTo s fd ⟨[u], []⟩ [(x, u)])
    (hsp : ∀ H : Hp, SqL K H a (ns.map V.int) → sp [.ref a] H (fun v _ => v = .bl true) fun _ _ _ => False) :
    codeAny (model P w) callerA (.call (.ref fa) ⟨[.ref a], []⟩) (fun r s' => r = .ok (.ret (.bool true)) ∧ OldK s₁.heap s'.heap ∧ s'.os = s₁.os ∧ AllBare s'.gens) s₁ := by
  have rv := L2.vals_ints hi
  -- tracked unless the module has it
  obtain ⟨t, ht⟩ : ∃ t : Bool, t = (K.lookup a).isNone := ⟨_, rfl⟩
  have own : SqL K (scrH t a vs ns) a (ns.map V.int) := by
    cases hk : K.lookup a with
    | none =>
      rw [hk] at ht
      exact .inl (.inr ⟨scrO vs, by unfold scrH; rw [if_pos ⟨ht, rfl⟩]⟩)
    | some o =>
      have e := (ha.symm.trans (KX a o hk))
      cases e
      exact .inr ⟨_, vs.toArray, _, hk, rfl, rfl, rfl, by rw [List.size_toArray, hi.length]; exact hl, rv⟩
  have hok : HOk P w (scrH t a vs ns) s₁.heap := fun b u z => by
    obtain ⟨_, rfl, rfl⟩ := scrH_some z
    exact ⟨ha, by rw [List.length_map]; exact hl, vs, _, rv, ha⟩
  have free : ∀ {b : Addr} {o : Obj}, s₁.heap.get? b = some o → (∀ arr n, o.data ≠ .seq arr n) → scrH t a vs ns b = none := fun {b o} e d => by
    cases q : scrH t a vs ns b with
    | none => rfl
    | some u =>
      obtain ⟨_, rfl, _⟩ := scrH_some q
      rw [ha] at e
      cases e
      exact absurd rfl (d _ _)
  have ns' : ∀ {b : Addr} {m : Str → Option Value}, s₁.heap.Ns b m → (hidT s₁.heap (scrH t a vs ns)).Ns b m := fun {b m} ⟨o, es, ep, e, d, r⟩ => ⟨o, es, ep, hidT_get e (free e fun arr n z => by rw [d] at z; cases z), d, r⟩
  have hKb : K.In (hidT s₁.heap (scrH t a vs ns)) := fun b o e => hidT_get (KX b o e) (by
    cases q : scrH t a vs ns b with
    | none => rfl
    | some u =>
      obtain ⟨z, rfl, _⟩ := scrH_some q
      rw [z, e] at ht
      cases ht)
  obtain ⟨mc, l1, l2⟩ := hlim
  have e0 : Env0 P w K mg (hidT s₁.heap (scrH t a vs ns)) callerA [] s₁ (scrH t a vs ns) :=
    ⟨rfl, ⟨hKb, ns' hns, ⟨mb, ns' hb, hbb⟩, ⟨mc, ns' l1, l2⟩⟩, fun b o e => of_hidT e, Nat.le_of_eq (hidT_size _ _), trivial, fun b z => absurd (show b ∈ ([] : List Addr) from z) (by simp), hok, .of_eq hg⟩
  refine codeAny_mono ((F _ hKb (ns' hns)).run callerA [] s₁ _ ⟨[.ref a], []⟩ [.ref a] [.ref a] _ _ hr e0 (hbind s₁ (.ref a)) (.cons rfl .nil) (hsp _ own)) fun r s' h => ?_
  cases r with
  | error e => exact False.elim h
  | ok fl =>
    cases fl with
    | next => exact False.elim h
    | brk => exact False.elim h
    | cont => exact False.elim h
    | ret u =>
      obtain ⟨v, H', os, bare, un, hok', r', q⟩ := h
      have q : v = .bl true := q
      subst q
      have r' : u = Value.bool true := r'
      subst r'
      refine ⟨rfl, OldK.of_keep fun b o e => ?_, os, bare⟩
      cases q : scrH t a vs ns b with
      | none => exact un.keep b o e q (by intro z; exact absurd (show b ∈ ([] : List Addr) from z) (by simp)) (by simp)
      | some u =>
        obtain ⟨_, rfl, rfl⟩ := scrH_some q
        have e1 := ha.symm.trans e
        cases e1
        exact (hok' _ _ (un.frzs _ _ _ q)).1
end
theorem walk_ofG {l : PySem.W.OpenLaw} {n k : Nat} {q : Program} {loose : List Str} {XP : (Str → Option Value) → Heap → Prop} {YP : World → Heap → Prop} {d : DefRec} {K : Params → PySem.W.Frag} {sp : World → Sp} {x : Str}
    (hn : l.most = some n) (hn2 : n ≤ sizeLine) (hdf : d.params.defaults = []) (hr : RoomG k callerA)
    (hY : ∀ (w : World) (h : Heap), YP w h → (K w.params).In h)
    (F : ∀ (w : World) (mg : Str → Option Value) (fa : Addr) (h : Heap), (K w.params).In h → h.Ns mainGlobals mg → mg d.name = some (.ref fa) →
      ∃ fd : FuncData, (∀ (s : Shared) (u : Value), BindsTo s fd ⟨[u], []⟩ [(x, u)]) ∧
        ∀ base : Heap, (K w.params).In base → base.Ns mainGlobals mg → FnG l.prog w (K w.params) mg base k fa fd [x] (sp w))
    (hsp : ∀ (w : World) (H : Hp) (a : Addr) (ns : List Int), ns.length ≤ n → SqL (K w.params) H a (ns.map V.int) → sp w [.ref a] H (fun v _ => v = .bl true) fun _ _ _ => False) :
    PySem.W.WalkO q loose XP YP l.row.toRowW d [] (fun f vs => PySem.call f vs) :=
  Att.attach_call hn hdf fun w s₀ s₁ mg mb fa o pm cd doc a vs ns G Y ho hd hcd hmg hobj hints hlen hg => by
    obtain ⟨fd, hb, hF⟩ := F w mg fa _ (hY w _ Y) G.T.g hmg
    exact law_callG (hY w _ Y) G.T.g G.T.b G.T.builtins G.T.nolimit hg hobj hints (Nat.le_trans hlen hn2) hr hF hb fun H hS => hsp w H a ns hlen hS
/-! ### repr(d), d a list or a tuple of data -/
def hRepr : List D → Option Res
  | [d] => if d.showable && decide (d.shown.length ≤ sizeLine) && decide (d.depth ≤ 60) && !d.hasDict then match d with
    | .list _ => some (.d (.str d.shown))
    | .tuple _ => some (.d (.str d.shown))
    | _ => none else none
  | _ => none
def rReprD (K : PySem.W.Frag) : List V → Hp → VK → Prop := fun vs H Q => ∃ (a : Addr) (d : D), vs = [V.ref a] ∧ L2.Dp K H (V.ref a) d ∧ d.showable = true ∧ d.shown.length ≤ sizeLine ∧ d.depth ≤ 60 ∧ d.hasDict = false ∧ Q (.str d.shown) H
theorem cr_repr {X : L2.Cx} {k : Nat} (hr : RoomG k X.A) : CallR X (.builtin "repr") (rReprD X.K) := by
  intro pins s σ H vs us Q I r h
  obtain ⟨a, d, rfl, hd, h1, h2, h3, h4, q⟩ := h
  rw [Vals.ref1 r]
  obtain ⟨as, rd⟩ := L2.Dp.reads I d (V.ref a) (.ref a) hd rfl
  have hu := hr.r.un
  refine repr_of_reads' rd h1 (fun z => by rw [h4] at z; cases z) hr.g (by omega) (fun b o e => e) (fun h' u tk hk => ?_) h2
  exact ⟨.str d.shown, H, I.kept hk, ⟨u, rfl⟩, q⟩
section
variable {w : World} {K : PySem.W.Frag}
theorem ok_repr : OpOk w K (rReprD K) (gOp hRepr) := gOp_ok fun B H vs ds res Q sb v e p => by
  unfold hRepr at e
  split at e
  · rename_i d
    split at e
    · rename_i hc
      simp only [Bool.and_eq_true, Bool.not_eq_true', decide_eq_true_eq] at hc
      obtain ⟨⟨⟨h1, h2⟩, h3⟩, h4⟩ := hc
      obtain ⟨y, rfl, vy⟩ := vws1 v
      have dv := vy.dp sb
      split at e
      · rename_i l
        cases e
        cases vy with
        | @lst a us _ h r => exact ⟨a, _, rfl, dv, h1, h2, h3, h4, p.val _ _ rfl (.str _)⟩
      · rename_i l
        cases e
        cases vy with
        | @tup a us _ h r => exact ⟨a, _, rfl, dv, h1, h2, h3, h4, p.val _ _ rfl (.str _)⟩
      · cases e
    · cases e
  · cases e
end
end Fl
/-! Fl: min(a, b) of two data. -/
namespace Fl
open PySem L2 PyProof.Rows
section
variable {prog : Program} {w : World} {A : Around} {E : Value → Shared → Prop} {s : Shared}
theorem min_two_data {a b : Value} {x y : PyData} {as bs : List Addr} {Q : Value → Shared → Prop} (hh : A.handled = none) (ra : Reads s.heap a x as) (rb : Reads s.heap b y bs) (al : PySem.W.AlikeAll [x, y]) (hu : A.units + 1 + PyData.depthAll [x, y] < cLine)
    (h : ∀ (i : Nat) v h' tk cs, [a, b][i]? = some v → Reads h' v (PySem.W.minD x [y]) cs → (∀ c o, s.heap.get? c = some o → h'.get? c = some o) → Q v { s with heap := h', toks := tk }) :
    wpAny (model prog w) A (PySem.call (.builtin "min") [a, b]) Q E s := by
  have hname : (toString "min" ++ toString ".loop" : String) = "min.loop" := by decide
  refine call_function_tree F.kind_min F.plain_min F.entry_min (F.args_min2 _ _) ?_
  show wpAny _ A.in1 (Builtin.Builtins.bindParams "min" ["key", "default"] 0 ⟨[], []⟩ >>= _) _ _ s
  refine wpAny_bind (wpAny_of_eq (show Builtin.Builtins.bindParams "min" ["key", "default"] 0 ⟨[], []⟩ = pure [none, none] from rfl) ?_)
  show wpAny _ A.in1 (newTuple [a, b] >>= _) _ _ s
  refine wpAny_bind (wpAny_newObj_type ?_)
  have kp : ∀ c o, s.heap.get? c = some o → (s.heap.push { cls := .type "tuple", data := .seq #[a, b] }).get? c = some o := fun c o e => Heap.get?_push_of_some _ e
  have hT : (s.heap.push { cls := .type "tuple", data := .seq #[a, b] }).IsTuple s.heap.objs.size #[a, b] := ⟨_, Heap.get?_push_size _ rfl, rfl, 0, rfl⟩
  have hr : ReadsAll (s.heap.push { cls := .type "tuple", data := .seq #[a, b] }) [a, b] [x, y] (as ++ (bs ++ [])) := .cons (Reads.keeps kp ra) (.cons (Reads.keeps kp rb) .nil)
  refine wpAny_bind (PySem.W.iter_tupleW (A := A.in1) hh hT fun s₂ e W st hfp hw hk => ?_)
  refine wpAny_bind (wpAny_newObj_type ?_)
  have hSf : s₂.heap.objs.size ∉ [(s.heap.push { cls := .type "tuple", data := .seq #[a, b] }).objs.size, s.heap.objs.size] := fun hm => Nat.lt_irrefl _ (hfp _ hm)
  rw [hname]
  refine wpAny_pure ⟨plainId_quiet F.plain_min_loop _, codeAny_min_loop_firstH W _ hw _ (PySem.W.cmpIn_lt (A := A.in1) (s := { s with heap := s.heap.push { cls := .type "tuple", data := .seq #[a, b] } }) hr al (by show A.units + 1 + _ < _; exact hu)) s₂.heap.objs.size hSf (fresh_in hk) _ (show 0 < 2 by decide) (fun c o e => Heap.get?_push_of_some _ (hk c o e)) (W.frame 0 s₂ _ s₂.toks st (Nat.le_refl _) fun c _ o e => Heap.get?_push_of_some _ e) (Heap.get?_push_size _ rfl) fun v s' hP hm => ?_⟩
  obtain ⟨h', tk, rfl, hk'⟩ := PySem.W.moved_old e rfl (Moved.drop_new (tk := s₂.toks) hm (Nat.le_refl _))
  obtain ⟨cs, r, _, _, _⟩ := PySem.W.readsAll_atA (vs := #[a, b]) hr _ v hP
  have e2 := (PySem.W.argBest_fold PySem.W.dataLt PyData.none x [y] 1 (Nat.le_refl _)).2
  exact h _ v h' tk cs (by simpa using hP) (Reads.keeps hk' (by unfold PySem.W.minD; rw [show List.take 1 [y] = [y] from rfl] at e2; rw [← e2]; exact r)) fun c o ec => hk' c o (kp c o ec)
end
def hMin2D : List D → Option Res
  | [.tuple a, .tuple b] => if allAl [.tuple a, .tuple b] then some (.d (PySem.W.minD (.tuple a) [.tuple b])) else none
  | _ => none
def rMin2D (K : PySem.W.Frag) : List V → Hp → VK → Prop := fun vs H Q => ∃ (u v : V) (x y : D), vs = [u, v] ∧ Dp K H u x ∧ Dp K H v y ∧ allAl [x, y] = true ∧ ∀ (i : Nat) (z : V), [u, v][i]? = some z → [x, y][i]? = some (PySem.W.minD x [y]) → Q z H
theorem cr_min2D {X : Cx} (hc : X.calm = true) (hu : X.A.units + 65 < cLine) : CallR X (.builtin "min") (rMin2D X.K) := by
  intro pins s σ H vs us Q I r h
  obtain ⟨u, v, x, y, rfl, hx, hy, hal, q⟩ := h
  obtain ⟨al, dp⟩ := allAl_p hal
  obtain ⟨u', v', rfl, r1, r2⟩ := vals2 r
  obtain ⟨as, ra⟩ := L2.Dp.reads I x u u' hx.l2 r1
  obtain ⟨bs, rb⟩ := L2.Dp.reads I y v v' hy.l2 r2
  refine min_two_data (I.ok.hd hc) ra rb al (by omega) fun i z h' tk cs hi hm hk => ?_
  have md : PySem.W.minD x [y] ∈ [x, y] := minD_mem x [y]
  rcases i with _ | _ | i
  · cases hi
    have ee := PySem.W.alike_unique x (PySem.W.minD x [y]) _ as cs (al.1 x List.mem_cons_self _ md) (Reads.keeps hk ra) hm
    exact ⟨u, H, I.kept hk, r1, q 0 u rfl (by rw [← ee]; rfl)⟩
  · cases hi
    have ee := PySem.W.alike_unique y (PySem.W.minD x [y]) _ bs cs (al.1 y (by simp) _ md) (Reads.keeps hk rb) hm
    exact ⟨v, H, I.kept hk, r2, q 1 v rfl (by rw [← ee]; rfl)⟩
  · cases hi
theorem ok_min2D {w : World} {K : PySem.W.Frag} : OpOk w K (rMin2D K) (gOp hMin2D) := gOp_ok fun B H vs ds res Q sb v e p => by
  unfold hMin2D at e
  split at e
  · rename_i a b
    split at e
    · rename_i hs
      cases e
      obtain ⟨x, y, rfl, vx, vy⟩ := vws2 v
      cases vx with
      | tup h1 r1 =>
        cases vy with
        | tup h2 r2 =>
          have dx := Dp.tup h1 r1
          have dy := Dp.tup h2 r2
          refine ⟨_, _, _, _, rfl, dp_mono sb dx, dp_mono sb dy, hs, fun i z hz hi => ?_⟩
          rcases i with _ | _ | i
          · cases hz
            have hi : PyData.tuple a = PySem.W.minD (.tuple a) [.tuple b] := by simpa using hi
            exact p.val _ _ rfl (hi ▸ dx)
          · cases hz
            have hi : PyData.tuple b = PySem.W.minD (.tuple a) [.tuple b] := by simpa using hi
            exact p.val _ _ rfl (hi ▸ dy)
          · cases hz
    · cases e
  · cases e
/-! ### t[::-1], t a tuple -/
section
variable {prog : Program} {w : World} {A : Around} {E : Value → Shared → Prop} {s : Shared}
theorem rev_adjust (n : Nat) : Builtin.Slice.sliceAdjust none none (-1) (n : Int) = ((n : Int) - 1, -1) := by
  unfold Builtin.Slice.sliceAdjust
  have h1 : (-1 : Int) < 0 := by omega
  simp only [h1, if_true]
theorem rev_places (n : Nat) : Builtin.Slice.slicePlaces ((n : Int) - 1) (-1) (-1) = n := by
  unfold Builtin.Slice.slicePlaces
  have h1 : ¬ ((-1 : Int) > 0) := by omega
  simp only [h1, if_false, show (-(-1 : Int)) = 1 by decide, Int.ediv_one]
  split <;> omega
theorem fm_congr {α β : Type} {f g : α → Option β} : ∀ {l : List α}, (∀ x ∈ l, f x = g x) → l.filterMap f = l.filterMap g
  | [], _ => rfl
  | x :: l, h => by
    rw [List.filterMap_cons, List.filterMap_cons, h x List.mem_cons_self, fm_congr fun y hy => h y (List.mem_cons_of_mem _ hy)]
theorem rev_pick : ∀ (xs : List Value), (List.range xs.length).filterMap (fun (k : Nat) => xs[((xs.length : Int) - 1 + (k : Int) * (-1)).toNat]?) = xs.reverse := fun xs => by
  have e : (List.range xs.length).filterMap (fun (k : Nat) => xs[((xs.length : Int) - 1 + (k : Int) * (-1)).toNat]?) = (List.range xs.length).filterMap (fun (k : Nat) => xs.reverse[k]?) := by
    refine fm_congr fun k hk => ?_
    have hk := List.mem_range.mp hk
    rw [List.getElem?_reverse hk]
    congr 1
    omega
  rw [e]
  have z : ∀ l : List Value, (List.range l.length).filterMap (fun (k : Nat) => l[k]?) = l := by
    intro l
    induction l with
    | nil => rfl
    | cons a l ih =>
      rw [List.length_cons, List.range_succ_eq_map, List.filterMap_cons]
      simp only [List.getElem?_cons_zero, List.filterMap_map]
      refine congrArg (a :: ·) ?_
      exact ih
  have := z xs.reverse
  rwa [List.length_reverse] at this
theorem getItem_tuple_rev {t sl : Addr} {items : Array Value} {vs : Value} {Q : Value → Shared → Prop} (ht : IsTup s.heap t items) (hs : s.heap.IsSliceOf sl .none .none vs) (ps : IsPart vs (some (-1)))
    (h : Q (.ref s.heap.objs.size) { s with heap := s.heap.push { cls := .type "tuple", data := .seq items.toList.reverse.toArray } }) (hsz : items.size ≤ sizeLine) : wpAny (model prog w) A (getItem (.ref t) (.ref sl)) Q E s := by
  obtain ⟨u, rfl⟩ : ∃ u, vs = .int (-1) u := by cases ps; exact ⟨_, rfl⟩
  have hz : sizeOk (.seq items.toList.reverse.toArray) := by
    show items.toList.reverse.toArray.size ≤ sizeLine
    simpa using hsz
  obtain ⟨os, hos, hcs, hds⟩ := id hs
  have ap : ∀ {R : Int × Int × Nat → Shared → Prop} {A : Around} {E : Value → Shared → Prop}, R ((items.size : Int) - 1, -1, items.size) s → wpAny (model prog w) A (Builtin.Slice.sliceApplied (.ref sl) (pure (items.size : Int))) R E s := fun {R A E} hR => by
    unfold Builtin.Slice.sliceApplied Builtin.Slice.sliceFields
    refine wpAny_bind (wpAny_bind (wpAny_field hos hds (x := .none) rfl (wpAny_bind (wpAny_field hos hds (x := .none) rfl (wpAny_bind (wpAny_field hos hds (x := .int (-1) u) rfl (wpAny_pure ?_)))))))
    refine wpAny_bind (slicePart_int ?_)
    show wpAny _ _ (if ((-1 : Int) == 0) = true then _ else _) _ _ s
    rw [if_neg (by decide)]
    refine wpAny_bind (slicePart_none (wpAny_bind (slicePart_none (wpAny_bind (wpAny_pure ?_)))))
    show wpAny _ _ (match Builtin.Slice.sliceAdjust none none (-1) (items.size : Int) with | (lo, hi) => pure (lo, (-1 : Int), Builtin.Slice.slicePlaces lo hi (-1))) _ _ s
    rw [rev_adjust]
    show wpAny _ _ (pure ((items.size : Int) - 1, (-1 : Int), Builtin.Slice.slicePlaces ((items.size : Int) - 1) (-1) (-1))) _ _ s
    rw [rev_places]
    exact wpAny_pure hR
  unfold getItem
  try with_reducible refine wpAny_holding ?_
  first | refine wpAny_bind (wpAny_pure ?_) | skip
  refine wpAny_bind (wpAny_sequenceKey ht.typeIs (by decide) ?_)
  refine wpAny_bind (wpAny_callSpecial?_slot (name := Str.ofString "__getitem__") ht.typeIs slot_tuple_getitem
    (wpAny_call_entry slot_tuple_getitem ht.typeIs entry_tuple_getitem ?_ (args_tuple_getitem _ _)))
  show wpAny _ _ (Builtin.Tuple.tupleItemsOf (.ref t) >>= _) _ _ s
  refine wpAny_bind (tupleItemsOf_ ht (wpAny_bind (wpAny_typeOf (⟨os, hos, hcs⟩ : s.TypeIs (.ref sl) "slice") ?_)))
  rw [if_pos (by decide)]
  refine wpAny_bind (ap ?_)
  show wpAny _ _ (if ((items.size : Int) - 1 == 0 && (-1 : Int) == 1 && items.size == items.size) = true then _ else _) _ _ s
  rw [if_neg (by rw [show ((-1 : Int) == 1) = false by decide, Bool.and_false, Bool.false_and]; exact Bool.false_ne_true)]
  have pk : ((List.range items.size).filterMap fun (k : Nat) => items[((items.size : Int) - 1 + (k : Int) * (-1)).toNat]?).toArray = items.toList.reverse.toArray := by
    have := rev_pick items.toList
    simp only [Array.length_toList, Array.getElem?_toList] at this
    rw [this]
  rw [pk]
  first
    | exact wpAny_bind (m := Builtin.Tuple.tupleExact _) (wpAny_newObj_type (wpAny_pure ⟨_, rfl, wpAny_pure h⟩) hz)
    | exact wpAny_bind (m := Builtin.Tuple.tupleExact _) (wpAny_newObj_type (wpAny_bind (wpAny_pure (wpAny_pure ⟨_, rfl, wpAny_pure h⟩))) hz)
    | exact wpAny_bind (wpAny_bind (m := Builtin.Tuple.tupleExact _) (wpAny_newObj_type (wpAny_pure (wpAny_pure ⟨_, rfl, wpAny_pure h⟩)) hz))
    | exact wpAny_bind (wpAny_bind (m := Builtin.Tuple.tupleExact _) (wpAny_newObj_type (wpAny_pure ⟨_, rfl, wpAny_pure h⟩) hz))
end
section
variable {X : Cx} {e : Expr} {te : TE} {k : Nat} {p1 p2 p3 pos : Pos} {f : SE}
def tRevT (K : PySem.W.Frag) (te : TE) : TE := fun σ H Q => te σ H fun x H1 => ∃ a xs, x = .ref a ∧ SqT K H1 a xs ∧ ∀ p, H1 p = none → Q (.ref p) (upd H1 p (.tup xs.reverse))
theorem pe_revT (he : PE X e te) : PE X (.Subscript e (.Slice none none (some (.UnaryOp .USub (.Constant (.int 1) k p1) p2)) p3) pos) (tRevT X.K te) := by
  refine ⟨fun pins s σ H Q I h => Subscript_ (thn (he.run pins s σ H _ I h) fun v s1 ⟨x, H1, I1, r1, a, xs, ex, hx, q⟩ => ?_)⟩
  subst ex
  cases r1
  have hst : PO X (some (.UnaryOp .USub (.Constant (.int 1) k p1) p2)) (tPart (tUn (rU fun i => .int (-i)) (tC (.int 1)))) := po_some (pe_un un_neg pe_int)
  refine wpAny_Slice (thn (po_none.run pins s1 σ H1 (fun o H2 => o = none ∧ H2 = H1) I1 ⟨rfl, rfl⟩) fun vl s2 ⟨l, H2, I2, pl, el, e2⟩ => ?_)
  subst el e2
  refine thn (po_none.run pins s2 σ H2 (fun o H3 => o = none ∧ H3 = H2) I2 ⟨rfl, rfl⟩) fun vu s3 ⟨u, H3, I3, pu, eu, e3⟩ => ?_
  subst eu e3
  refine thn (hst.run pins s3 σ H3 (fun o H4 => o = some (-1) ∧ H4 = H3) I3 ⟨1, rfl, -1, rfl, rfl, rfl⟩) fun vs s4 ⟨o, H4, I4, ps, eo, e4⟩ => ?_
  subst eo e4
  obtain rfl : vl = .none := by cases pl; rfl
  obtain rfl : vu = .none := by cases pu; rfl
  have I5 : Inv X pins σ H4 { s4 with heap := s4.heap.push { cls := .type "slice", data := .fields #[.none, .none, vs] } } := I4.kept (t' := s4.toks) fun b ob q => Heap.get?_push_of_some _ q
  obtain ⟨its, r, ht, hz⟩ := I5.tuple hx
  have hlen := r.length
  show wpAny (model X.prog X.w) X.A (subscriptTail e (.Slice none none (some (.UnaryOp .USub (.Constant (.int 1) k p1) p2)) p3) (.ref a) (.ref s4.heap.objs.size)) (EP X pins σ Q) X.xe { s4 with heap := s4.heap.push { cls := .type "slice", data := .fields #[.none, .none, vs] } }
  refine tail_any (ops := [.ref a, .ref s4.heap.objs.size]) ht.typeIs (slot_tuple_getitem.lookup) ?_ (by with_unfolding_all rfl)
  refine getItem_tuple_rev ht (Heap.IsSliceOf.new _ .none .none vs) ps ?_ (by rw [List.size_toArray]; omega)
  rw [List.toList_toArray]
  refine ⟨.ref _, _, I5.laid (t' := s4.toks) (o := .tup xs.reverse) (fun b ob q => Heap.get?_push_of_some _ q) (Nat.le_refl _) ?_, rfl, q _ (I5.hok.fresh (Nat.le_refl _))⟩
  exact ⟨by rw [List.length_reverse]; exact hz, _, r.reverse, ⟨_, Heap.get?_push_size _ rfl, rfl, _, rfl⟩⟩
end
def hRevX : List D → Option Res
  | [.list l] => some (.l l.reverse)
  | [.tuple l] => some (.d (.tuple l.reverse))
  | _ => none
def hRevT : List D → Option Res
  | [.tuple l] => some (.d (.tuple l.reverse))
  | _ => none
theorem ok_revT {w : World} {K : PySem.W.Frag} : OpOk w K (fun vs H Q => ∃ a xs, vs = [.ref a] ∧ SqT K H a xs ∧ ∀ p, H p = none → Q (.ref p) (upd H p (.tup xs.reverse))) (gOp hRevT) := gOp_ok fun B H vs ds res Q sb v e p => by
  unfold hRevT at e
  split at e
  · cases e
    obtain ⟨x, rfl, vx⟩ := vws1 v
    cases vx with
    | tup h r => exact ⟨_, _, rfl, sqt_mono sb h, fun q hq => p.tup _ _ _ rfl hq (dps_reverse r)⟩
  · cases e
theorem hRevX_or {ds : List D} {r : Res} (h : hRevX ds = some r) : hRev ds = some r ∨ hRevT ds = some r := by
  unfold hRevX at h
  split at h
  · exact .inl h
  · exact .inr h
  · cases h
theorem revX_or {f : SEs} {S : List Sl} {x : Rs × List Sl} (e : opS (gOp hRevX) f S = some x) : opS (gOp hRev) f S = some x ∨ opS (gOp hRevT) f S = some x := by
  unfold opS at e ⊢
  cases ef : f S with
  | none => rw [ef] at e; cases e
  | some p =>
    obtain ⟨rs, S1⟩ := p
    rw [ef] at e
    simp only [gOp] at e ⊢
    cases ed : vws S1 rs with
    | none => rw [ed] at e; cases e
    | some ds =>
      rw [ed] at e
      simp only at e ⊢
      cases er : hRevX ds with
      | none => rw [er] at e; cases e
      | some r =>
        rw [er] at e
        rcases hRevX_or er with z | z
        · exact .inl (by rw [z]; exact e)
        · exact .inr (by rw [z]; exact e)
section
variable {X : Cx} {e : Expr} {f : SE} {k : Nat} {p1 p2 p3 pos : Pos}
theorem e_revX (he : E X e f) : E X (.Subscript e (.Slice none none (some (.UnaryOp .USub (.Constant (.int 1) k p1) p2)) p3) pos) (opS (gOp hRevX) (sCons f sNil)) := pe_weak (pe_or2 (pe_revL he) (pe_revT he)) fun σ H Q ⟨S, A, B, r, S', sr, ok, e, q⟩ => by
  rcases revX_or e with e | e
  · exact .inl ((ta_one (op_T ok_rev ⟨S, A, B, r, S', sr, ok, e, q⟩)).mono fun x H1 ⟨a, xs, e, h, q⟩ => by
      cases e
      exact ⟨a, xs, rfl, h, q⟩)
  · exact .inr ((ta_one (op_T ok_revT ⟨S, A, B, r, S', sr, ok, e, q⟩)).mono fun x H1 ⟨a, xs, e, h, q⟩ => by
      cases e
      exact ⟨a, xs, rfl, h, q⟩)
end
end Fl
/-! ### sorted(tuples), some of them empty -/
namespace PySem.W
open PySem PySem.Calls PyProof.Rows
section
variable {prog : Program} {w : World} {A : Around} {s : Shared} {E : Value → Shared → Prop}
/-- a tuple's own __lt__, as sorting makes it -/
theorem oneLt_tup {xs ys : List PyData} {a b : Value} {as bs : List Addr} {Q : Bool → Shared → Prop} (ra : Reads s.heap a (.tuple xs) as) (rb : Reads s.heap b (.tuple ys) bs) (hal : alikeAll xs ys = true) (hu : A.units + min (PyData.tuple xs).depth (PyData.tuple ys).depth < cLine) (hq : Q (dataLt (.tuple xs) (.tuple ys)) s) :
    wpAny (model prog w) A (oneLt' true a b) Q E s := by
  cases ra with
  | @tuple l o vs n _ as₁ h1 h2 h3 h4 =>
    cases rb with
    | @tuple l' o' vs' n' _ bs₁ k1 k2 k3 k4 =>
      have n1 : vs.size = xs.length := by simpa using SeqAt.ReadsAll.length _ _ _ h4
      have n2 : vs'.size = ys.length := by simpa using SeqAt.ReadsAll.length _ _ _ k4
      rw [dataLt_tuple, ← firstLt_toks xs ys hal, ← n1, ← n2] at hq
      rw [oneLt'_eq]
      simp only [if_true]
      refine wpAny_bind (wpAny_cRoomFor (SeqAt.room_here hu) ?_)
      obtain ⟨cls, dd, data, sl⟩ := o
      obtain ⟨cls2, dd2, data2, sl2⟩ := o'
      simp only at h2 h3 k2 k3
      subst h2 h3 k2 k3
      refine wpAny_bind (wpAny_callSpecialIfBound?_slot (T := "tuple") ⟨_, h1, rfl⟩ PySem.F.slot_tuple_lt (call_meets PySem.F.slot_tuple_lt ⟨_, h1, rfl⟩ PySem.F.entry_tuple_lt (PySem.F.args_tuple_lt_2 _ _)
        (SeqAt.tuple_ltAt l l' vs vs' n n' dd dd2 sl sl2 (SeqAt.pairEq xs ys) (fun j => dataLt (xs.getD j .none) (ys.getD j .none))) ⟨h1, k1, fun j j1 j2 => ?_, fun j j1 j2 hj => ?_, ?_⟩))
      · have := eqAt_alikeAll xs ys A.in1 s vs.toList vs'.toList _ _ h4 k4 hal (SeqAt.room_in hu) j (by simpa using j1) (by simpa using j2)
        simpa using this
      · have := rcLt_alikeAll xs ys A.in1 s vs.toList vs'.toList _ _ h4 k4 hal (SeqAt.room_in hu) j (by simpa using j1) (by simpa using j2) hj
        simpa using this
      · exact wpAny_truthy_bool hq
def isNE : PyData → Bool
  | .tuple (_ :: _) => true
  | _ => false
/-- the first items of tuples, where there are any -/
theorem tup_firsts {M : Model} {h : Heap} : ∀ {vs : List Value} {ds : List PyData}, EachIs (fun v d => ∃ as, Reads h v d as) vs ds → (∀ d ∈ ds, ∃ xs, d = .tuple xs) →
    ∃ fs : List (Option Value), fs.map Option.isSome = ds.map isNE ∧ ∀ {A : Around} {E : Value → Shared → Prop} {s : Shared} {Q : List (Option Value) → Shared → Prop}, s.heap = h → Q fs s → wpAny M A (vs.mapM firstOfTuple') Q E s
  | _, _, .nil, _ => ⟨[], rfl, fun {A E s Q} _ hq => by rw [List.mapM_nil]; exact wpAny_pure hq⟩
  | v :: vs, d :: ds, .cons ⟨as, r⟩ t, ht => by
    obtain ⟨fs, h1, h2⟩ := tup_firsts (M := M) t fun d hd => ht d (List.mem_cons_of_mem _ hd)
    obtain ⟨xs, rfl⟩ := ht d List.mem_cons_self
    cases r with
    | @tuple a o arr n _ _ ho hc hd hr =>
      refine ⟨arr[0]? :: fs, ?_, fun {A E s Q} hs hq => ?_⟩
      · rw [List.map_cons, List.map_cons, h1]
        congr 1
        have hl := SeqAt.ReadsAll.length _ _ _ hr
        cases xs with
        | nil =>
          have : arr.size = 0 := by simpa using hl
          rw [Array.getElem?_eq_none (by omega)]
          rfl
        | cons x xs =>
          have : 0 < arr.size := by simp at hl; omega
          rw [Array.getElem?_eq_getElem this]
          rfl
      · subst hs
        rw [List.mapM_cons]
        refine wpAny_bind ?_
        rw [kas_first_eq]
        refine wpAny_bind (Looks.here (show Looks M s.heap (typeOf (.ref a)) o.cls from (Looks.ld ho).andThen .now) ?_)
        rw [hc, if_neg (by first | decide | simp)]
        exact wpAny_bind (listItems_at ho hd (wpAny_pure (wpAny_bind (h2 rfl (wpAny_pure hq)))))
/-- values that read as alike tuples can be sorted -/
theorem SortsAt.tups {vs : List Value} {ds : List PyData} (e : EachIs (fun v d => ∃ as, Reads s.heap v d as) vs ds) (hal : AllAlike ds) (ht : ∀ d ∈ ds, ∃ xs, d = .tuple xs) (hu : ∀ d, d ∈ ds → A.units + d.depth < cLine) : SortsAt prog w A s (dataKind s.heap ds) vs := by
  by_cases hall : ∀ d ∈ ds, ∃ x r, d = .tuple (x :: r)
  · exact SortsAt.data e hal (.inl hall) hu
  refine ⟨fun v hv => ?_, ?_⟩
  · obtain ⟨d, hd, as, r⟩ := e.left v hv
    exact ⟨_, dataKind_some hal hd r⟩
  have room : ∀ {d d' : PyData}, d ∈ ds → A.units + min d.depth d'.depth < cLine := fun {d d'} hd => Nat.lt_of_le_of_lt (Nat.add_le_add_left (Nat.min_le_left _ _) _) (hu d hd)
  obtain ⟨fs, f1, f2⟩ := tup_firsts (M := model prog w) e ht
  have hlen := e.length
  have notAll : fs.toArray.all (fun x => x.isSome) = false := by
    rw [List.all_toArray]
    refine Bool.eq_false_iff.mpr fun z => hall fun d hd => ?_
    have z2 : (fs.map Option.isSome).all id = true := by rw [List.all_map]; exact z
    rw [f1, List.all_map, List.all_eq_true] at z2
    have := z2 d hd
    obtain ⟨xs, rfl⟩ := ht d hd
    cases xs with
    | nil => cases this
    | cons x r => exact ⟨x, r, rfl⟩
  have key : ∀ {kd : SortKind}, (∀ (E : Value → Shared → Prop) (x y : Value) {Q : Bool → Shared → Prop} {xs ys : List PyData} {as bs : List Addr}, PyData.tuple xs ∈ ds → PyData.tuple ys ∈ ds → Reads s.heap x (.tuple xs) as → Reads s.heap y (.tuple ys) bs → Q (dataLt (.tuple xs) (.tuple ys)) s → wpAny (model prog w) A (keyLt' kd x y) Q E s) → H.LtAt prog w A s (dataKind s.heap ds) kd :=
    fun {kd} k E x y a b Q ha hb hq => by
      obtain ⟨d, as, hd, ra, rfl⟩ := dataKind_inv ha
      obtain ⟨d', as', hd', rb, rfl⟩ := dataKind_inv hb
      obtain ⟨xs, rfl⟩ := ht d hd
      obtain ⟨ys, rfl⟩ := ht d' hd'
      exact k E x y hd hd' ra rb hq
  have alk : ∀ {xs ys : List PyData}, PyData.tuple xs ∈ ds → PyData.tuple ys ∈ ds → alikeAll xs ys = true := fun {xs ys} h1 h2 => by
    have := hal _ h1 _ h2
    simpa [alike] using this
  cases hf : (fs[0]?.bind id).isSome with
  | true =>
    refine ⟨general', key fun E x y {Q xs ys as bs} hx hy rx ry hq => ?_, fun h2 E Q hq => ?_⟩
    · exact oneLt_alike (f := false) (fun z => by cases z) rx ry (hal _ hx _ hy) (fun z => by cases z) (room hx) hq
    · rw [keyKind'_eq, List.mapM_toArray, map_eq_pure_bind]
      refine wpAny_bind (wpAny_bind (f2 rfl (wpAny_pure ?_)))
      rw [if_neg (by rw [notAll]; exact Bool.false_ne_true), if_pos (by rw [List.getElem?_toArray]; exact hf)]
      exact wpAny_pure hq
  | false =>
    refine ⟨oneType', key fun E x y {Q xs ys as bs} hx hy rx ry hq => oneLt_tup rx ry (alk hx hy) (room hx) hq, fun h2 E Q hq => ?_⟩
    rw [keyKind'_eq, List.mapM_toArray, map_eq_pure_bind]
    refine wpAny_bind (wpAny_bind (f2 rfl (wpAny_pure ?_)))
    rw [if_neg (by rw [notAll]; exact Bool.false_ne_true), if_neg (by rw [List.getElem?_toArray, hf]; exact Bool.false_ne_true)]
    rw [oneTypeOnly'_eq, List.mapM_toArray, map_eq_pure_bind]
    refine wpAny_bind (wpAny_bind (wpAny_bind (kas_mapM (r := Value.type "tuple") _ (fun v hv Q' hq => ?_) (wpAny_pure ?_))))
    · obtain ⟨d, hd, as, r⟩ := e.left v hv
      obtain ⟨xs, rfl⟩ := ht d hd
      exact (looks_reads r).here hq
    · obtain ⟨v0, vr, rfl⟩ : ∃ v0 vr, vs = v0 :: vr := by
        cases vs with
        | nil => simp at h2
        | cons a b => exact ⟨a, b, rfl⟩
      have hall2 : ((List.map (fun _ => Value.type "tuple") (v0 :: vr)).toArray.all fun x => x == Value.type "tuple") = true := by
        simp only [List.all_toArray, List.all_map, List.all_eq_true]
        intro _ _
        rfl
      have h0 : (List.map (fun _ => Value.type "tuple") (v0 :: vr)).toArray[0]? = some (Value.type "tuple") := by simp
      rw [h0]
      simp only [hall2, if_true]
      exact wpAny_pure (wpAny_pure hq)
end
end PySem.W
namespace Fl
open PySem L2 PyProof.Rows
def isTp : D → Bool
  | .tuple _ => true
  | _ => false
def srtOkE (l : List D) : Bool := l.all (fun x => l.all (PySem.W.alike x)) && (l.all isTp && l.all fun x => Nat.ble x.depth 60)
theorem srtOkE_p {l : List D} (h : srtOkE l = true) : PySem.W.AllAlike l ∧ (∀ d ∈ l, ∃ xs, d = .tuple xs) ∧ ∀ d ∈ l, d.depth ≤ 60 := by
  unfold srtOkE at h
  rw [Bool.and_eq_true, Bool.and_eq_true, List.all_eq_true, List.all_eq_true, List.all_eq_true] at h
  obtain ⟨h1, h2, h3⟩ := h
  refine ⟨fun x hx y hy => ?_, fun d hd => ?_, fun d hd => by have := h3 d hd; rwa [Nat.ble_eq] at this⟩
  · have := h1 x hx
    rw [List.all_eq_true] at this
    exact this y hy
  · have := h2 d hd
    cases d with
    | tuple xs => exact ⟨xs, rfl⟩
    | _ => cases this
def hSortE : List D → Option Res
  | [.list l] => if srtOkE l then some (.l (sortV l)) else none
  | _ => none
def rSortE (K : PySem.W.Frag) : List V → Hp → VK → Prop := fun vs H Q => ∃ (a : Addr) (us : List V) (xs : List D) (B : Hp), Same B H ∧ vs = [V.ref a] ∧ SqL K H a us ∧ DpAll K B us xs ∧ srtOkE xs = true ∧
  ∀ (ys : List V) (p : Addr), DpAll K B ys (sortV xs) → H p = none → Q (.ref p) (upd H p (.lst ys))
theorem cr_sortE {X : Cx} (hu : X.A.units + 65 < cLine) : CallR X (.builtin "sorted") (rSortE X.K) := by
  intro pins s σ H vs us Q I r h
  obtain ⟨a, ws, xs, B, sb, rfl, hs, hd, hok, q⟩ := h
  obtain ⟨al, so, dp⟩ := srtOkE_p hok
  rw [Vals.ref1 r]
  obtain ⟨its, rv, hl, hz⟩ := I.list hs
  have hz' : its.length ≤ sizeLine := by rw [← rv.length]; exact hz
  obtain ⟨as, hr⟩ := L2.Dp.readsAll I xs ws its (dps_mono sb hd).l2 rv
  have er : PySem.W.EachIs (fun v b => ∃ as, Reads s.heap v b as) its xs := PySem.W.readsAll_each id (by rw [List.map_id]; exact hr)
  have er' : PySem.W.EachIs (fun v b => ∃ as, Reads (PySem.W.sortingHeap (PySem.W.copyHeap s.heap its) (s.heap.objs.size + 1) its) v b as) its xs := er.mono fun _ _ ⟨as, r⟩ => ⟨as, PyProof.Rows.Reads.keeps (fun _ _ => PySem.W.sorting_copy_old) r⟩
  have eR := each_dps rv hd
  refine PySem.W.sorted_vals hl.isList (PySem.W.SortsAt.tups (s := { s with heap := PySem.W.sortingHeap (PySem.W.copyHeap s.heap its) (s.heap.objs.size + 1) its }) er' al so fun d hdm => ?_) hz' ?_
  · have := dp d hdm
    show X.A.units + 2 + d.depth < cLine
    omega
  · have eo := PySem.W.sortVals_data (enc := id) false eR er' (by rw [List.map_id]; exact al)
    obtain ⟨ys, h1, h2⟩ := dps_each eo
    obtain ⟨n, hn⟩ := sortedAll_at s.heap its (PySem.W.sortVals (PySem.W.dataKind (PySem.W.sortingHeap (PySem.W.copyHeap s.heap its) (s.heap.objs.size + 1) its) xs) false its its).toArray
    have e1 := dps_len2 hd
    have e2 := h1.length
    have e3 := rv.length
    have e4 : (PySem.W.sortVals (PySem.W.dataKind (PySem.W.sortingHeap (PySem.W.copyHeap s.heap its) (s.heap.objs.size + 1) its) xs) false its its).length = its.length := PySem.W.sortVals_length false rfl
    rw [show xs.map id = xs from List.map_id xs] at *
    exact ⟨.ref (s.heap.objs.size + 1), upd H (s.heap.objs.size + 1) (.lst ys), I.laid (t' := s.toks) (fun b o e => sortedAll_old e) (Nat.le_succ _) ⟨by omega, _, n, h1, hn⟩, rfl, q ys _ h2 (I.hok.fresh (Nat.le_succ _))⟩
theorem ok_sortE {w : World} {K : PySem.W.Frag} : OpOk w K (rSortE K) (gOp hSortE) := gOp_ok fun B H vs ds res Q sb v e p => by
  unfold hSortE at e
  split at e
  · split at e
    · rename_i hs
      cases e
      obtain ⟨y, rfl, vy⟩ := vws1 v
      cases vy with
      | @lst a us _ h r => exact ⟨a, us, _, B, sb, rfl, h, r, hs, fun ys p' hd hp => p.lst _ _ _ rfl hp hd⟩
    · cases e
  · cases e
/-! ### a == b of texts -/
def hEqS : List D → Option Res
  | [.str a, .str b] => some (.d (.bool (decide (a = b))))
  | _ => none
theorem ok_eqS {w : World} {K : PySem.W.Frag} : OpOk w K (RV2 L2.rEq) (gOp hEqS) := gOp_ok fun B H vs ds res Q sb v e p => by
  unfold hEqS at e
  split at e
  · rename_i a b
    cases e
    obtain ⟨x, y, rfl, vx, vy⟩ := vws2 v
    cases vx
    cases vy
    refine ⟨_, _, rfl, rfl, ?_⟩
    have q := p.val (.bool (decide (a = b))) (.bl (decide (a = b))) rfl (.bl _)
    by_cases h : a = b
    · subst h; simpa using q
    · have : decide (V.str a = V.str b) = decide (a = b) := by simp [h]
      rw [this]; exact q
  · cases e
end Fl
/-! Fl: a comprehension over pairs: [f for a, b in it if t]. -/
namespace Fl
open PySem L2
def lcQ (i j : Nat) (t : ST) (f : SE) : List D → List Sl → Option (List D × List Sl)
  | [], S => some ([], S)
  | .tuple [a, b] :: ds, S => match t ((S.set i (.im a)).set j (.im b)) with
    | some (true, S2) => match f S2 with
      | some (r, S3) => match r.fz with
        | some e => match lcQ i j t f ds ((S3.set j .un).set i .un) with
          | some (es, S') => some (e :: es, S')
          | none => none
        | none => none
      | none => none
    | some (false, S2) => lcQ i j t f ds ((S2.set j .un).set i .un)
    | none => none
  | _ :: _, _ => none
def eLcQ (it : SI) (i j : Nat) (t : ST) (f : SE) : SE := fun S => match it S with
  | some (ds, S1) => if decide (i ≠ j) && (isIm S1 i && isIm S1 j) then match lcQ i j t f ds ((S1.set j .un).set i .un) with
    | some (es, S2) => if szOk ds.length then some (.fr (.lst es), (S2.set i (S1.getD i .un)).set j (S1.getD j .un)) else none
    | none => none else none
  | none => none
section
variable {w : World} {K : PySem.W.Frag} {σ : L2.St} {S : List Sl} {A : List Addr} {B H : Hp}
theorem un2 {i j : Nat} {s t : Sl} (ij : i ≠ j) (sr : SR w K B H σ S A) (h : S[i]? = some s) (h' : S[j]? = some t) (x y : Option V) : ∃ A', SR w K B H ((σ.set j y).set i x) ((S.set j .un).set i .un) A' ∧ (∀ a ∈ A', a ∈ A) ∧ (A.Nodup → A'.Nodup) := by
  obtain ⟨A1, r1, r2, r3⟩ := un_slot sr h' y
  obtain ⟨A2, q1, q2, q3⟩ := un_slot (s := s) r1 (by rw [List.getElem?_set_ne (Ne.symm ij)]; exact h) x
  exact ⟨A2, q1, fun a ha => r2 a (q2 a ha), fun n => q3 (r3 n)⟩
theorem im2 {i j : Nat} {s t : Sl} {v u : V} {d e : D} (ij : i ≠ j) (sr : SR w K B H σ S A) (h : S[i]? = some s) (h' : S[j]? = some t) (dd : Dp K B v d) (de : Dp K B u e) :
    ∃ A', SR w K B H ((σ.set i (some v)).set j (some u)) ((S.set i (.im d)).set j (.im e)) A' ∧ (∀ a ∈ A', a ∈ A) ∧ (A.Nodup → A'.Nodup) := by
  obtain ⟨A1, r1, r2, r3⟩ := im_slot sr h dd
  obtain ⟨A2, q1, q2, q3⟩ := im_slot (s := t) r1 (by rw [List.getElem?_set_ne ij]; exact h') de
  exact ⟨A2, q1, fun a ha => r2 a (q2 a ha), fun n => q3 (r3 n)⟩
theorem re1 {i : Nat} {x0 : Option V} {s0 : Sl} (sr : SR w K B H σ S A) (hl : i < S.length) (slr : SlR w K B H x0 s0 []) : ∃ A', SR w K B H (σ.set i x0) (S.set i s0) A' ∧ (∀ a ∈ A', a ∈ A) ∧ (A.Nodup → A'.Nodup) := by
  obtain ⟨y, C1, Cs, C2, eC, es, slc, fc⟩ := sr.at (List.getElem?_eq_getElem hl)
  refine ⟨C1 ++ ([] ++ C2), fc (Same.refl B) (fun a _ o h => h) slr, fun a ha => ?_, fun nd => ?_⟩
  · rw [eC]
    simp only [List.nil_append, List.mem_append] at ha ⊢
    rcases ha with h | h
    · exact .inl h
    · exact .inr (.inr h)
  · rw [eC] at nd
    obtain ⟨n1, n2, n3⟩ := List.nodup_append.mp nd
    exact List.nodup_append.mpr ⟨n1, (List.nodup_append.mp n2).2.1, fun a ha b hb => n3 a ha b (by simp at hb; simp [hb])⟩
theorem wipe2 {α : Type} (l : List α) {i j : Nat} (ij : i ≠ j) (z x y : α) : ((((((l.set j z).set i z).set i x).set j y).set j z).set i z) = (l.set j z).set i z := by
  refine List.ext_getElem? fun k => ?_
  simp only [List.getElem?_set, List.length_set]
  by_cases c1 : i = k <;> by_cases c2 : j = k <;> simp [c1, c2]
theorem back2 {α : Type} {l : List α} {i j : Nat} (ij : i ≠ j) {z x y : α} (hx : l[i]? = some x) (hy : l[j]? = some y) : ((((l.set j z).set i z).set i x).set j y) = l := by
  refine List.ext_getElem? fun k => ?_
  simp only [List.getElem?_set, List.length_set]
  have h1 := (List.getElem?_eq_some_iff.mp hx).1
  have h2 := (List.getElem?_eq_some_iff.mp hy).1
  by_cases c1 : i = k
  · subst c1
    simp [Ne.symm ij, h1]
    exact ((List.getElem?_eq_some_iff.mp hx).2).symm
  · by_cases c2 : j = k
    · subst c2
      simp [h2]
      exact ((List.getElem?_eq_some_iff.mp hy).2).symm
    · simp [c1, c2]
theorem isIm_slr {s0 : Sl} {x0 : Option V} {As : List Addr} (h : s0 = .un ∨ ∃ d, s0 = .im d) (sl : SlR w K B H x0 s0 As) {B' H' : Hp} (sb : Same B B') : SlR w K B' H' x0 s0 [] := by
  rcases h with rfl | ⟨d, rfl⟩
  · exact .un
  · cases sl with
    | im h => exact .im (dp_mono sb h)
/-- the reading of a comprehension over a pair of names -/
theorem t_lcQ {it : SI} {i j : Nat} {t : ST} {f : SE} {Q : VK} (h : T w K (eLcQ it i j t f) σ H Q) : tLc (Ti w K it) (gTup K 2 (gCons (gName i) (gCons (gName j) gNil))) (Tt w K t) (T w K f) [i, j] σ H Q := by
  obtain ⟨S, A, B, r, S', sr, ok, e, q⟩ := h
  unfold eLcQ at e
  split at e
  · rename_i ds S1 e1
    split at e
    · rename_i hi0
      rw [Bool.and_eq_true, Bool.and_eq_true, decide_eq_true_eq] at hi0
      obtain ⟨ij, hi, hj⟩ := hi0
      split at e
      · rename_i es S2 e2
        split at e
        · rename_i hsz
          cases e
          refine ⟨S, A, B, ds, S1, sr, ok, e1, fun J H1 ⟨A1, B1, g1, G, Y, wk, hG, hY⟩ => fun L hL => ?_⟩
          obtain ⟨s0, hs0, hs0'⟩ := isIm_get hi
          obtain ⟨t0, ht0, ht0'⟩ := isIm_get hj
          -- the start: both slots emptied, the new list waits
          obtain ⟨A2, r1, r2, r3⟩ := un2 ij g1.sr hs0 ht0 none none
          have ok2 : Ok A2 B1 H1 := g1.ok0.sub' (r3 g1.ok0.nd) r2
          obtain ⟨k3, s3⟩ := step_newA (o := .lst []) ok2 hL r1.tracked
          have r1' : SR w K B1 (upd H1 L (.lst [])) ((σ.set j none).set i none) ((S1.set j .un).set i .un) A2 := r1.step (Same.refl _) fun a ha o h => by
            rw [upd_ne (ne_of_none h hL)]; exact h
          have g0 : Go w K ((σ.set j none).set i none) ((S1.set j .un).set i .un) A2 B1 H1 ((S1.set j .un).set i .un) A2 B1 (upd H1 L (.lst [])) [L] := ⟨r1', k3, s3, MuK.refl _⟩
          refine lc_it wk (fun k0 H' => ∃ S' A' B' acc vs rest, Go w K ((σ.set j none).set i none) ((S1.set j .un).set i .un) A2 B1 H1 S' A' B' H' [L] ∧ H' L = some (.lst vs) ∧ DpAll K B' vs acc ∧ acc.length ≤ k0 ∧ lcQ i j t f (ds.drop k0) S' = some (rest, S2) ∧ acc ++ rest = es)
            ⟨_, A2, B1, [], [], es, g0, upd_same, .nil, Nat.le_refl _, e2, rfl⟩ (fun k0 H' _ ⟨S', A', B', acc, vs, rest, g', _⟩ => hG H' (g'.st.bx.trans g'.ok.sub)) ?_ ?_
          · intro k0 x H' H2 hk0 ⟨S', A', B', acc, vs, rest, g', hLv, hacc, hlen, e', hrest⟩ y
            obtain ⟨d, hd⟩ : ∃ d, ds[k0]? = some d := ⟨ds[k0], by simp [hk0]⟩
            have ed : ds.drop k0 = d :: ds.drop (k0 + 1) := by
              obtain ⟨h1, h2⟩ := List.getElem?_eq_some_iff.mp hd
              rw [← h2]; exact List.drop_eq_getElem_cons h1
            rw [ed] at e'
            obtain ⟨d1, d2, rfl⟩ : ∃ d1 d2, d = .tuple [d1, d2] := by
              unfold lcQ at e'
              split at e'
              · rename_i h; cases h
              · rename_i h; cases h; exact ⟨_, _, rfl⟩
              · cases e'
            simp only [lcQ] at e'
            have okL := g'.ok
            obtain ⟨B3, g3, dd⟩ := item_step g'.sr g'.ok.right g'.st.bx (hY k0 x H' H2 _ hd (g'.st.bx.trans g'.ok.sub) y)
            obtain ⟨p1, p2, p3⟩ := pend (F := [L]) okL g3.st g3.ok (fun a ha => by simp at ha; subst ha; exact ⟨_, hLv⟩)
            have hL3 : H2 L = some (.lst vs) := p3 L (by simp) _ hLv
            have hl : i < ((S1.set j Sl.un).set i Sl.un).length := by
              rw [List.length_set, List.length_set]
              exact (List.getElem?_eq_some_iff.mp hs0).1
            have hlj : j < ((S1.set j Sl.un).set i Sl.un).length := by
              rw [List.length_set, List.length_set]
              exact (List.getElem?_eq_some_iff.mp ht0).1
            have lenS : S'.length = ((S1.set j Sl.un).set i Sl.un).length := by rw [← g'.sr.length, g0.sr.length]
            have hs1 : S'[i]? = some (S'[i]'(by omega)) := List.getElem?_eq_getElem _
            have ht1 : S'[j]? = some (S'[j]'(by omega)) := List.getElem?_eq_getElem _
            obtain ⟨p, va, vb, rfl, hp, da, db⟩ : ∃ p va vb, x = .ref p ∧ B3 p = some (.tup [va, vb]) ∧ Dp K B3 va d1 ∧ Dp K B3 vb d2 := by
              cases dd with
              | tup h r =>
                cases r with
                | cons r1 r =>
                  cases r with
                  | cons r2 r =>
                    cases r
                    exact ⟨_, _, _, rfl, h, r1, r2⟩
            have hw : wipe σ [i, j] = (σ.set j none).set i none := rfl
            rw [hw]
            refine ⟨p, [va, vb], rfl, .inl (.inl (g3.ok.sub _ _ hp)), rfl, va, [vb], rfl, vb, [], rfl, rfl, ?_⟩
            show wipe ((((σ.set j none).set i none).set i (some va)).set j (some vb)) [i, j] = (σ.set j none).set i none ∧ _
            have hback : ((((((σ.set j none).set i none).set i (some va)).set j (some vb)).set j none).set i none) = (σ.set j none).set i none := wipe2 σ ij none (some va) (some vb)
            refine ⟨hback, ?_⟩
            obtain ⟨A4, i1, i2, i3⟩ := im2 ij g3.sr hs1 ht1 da db
            have ok4 : Ok A4 B3 H2 := g3.ok.sub' (i3 g3.ok.nd) i2
            have okL4 : Ok ([L] ++ A4) B3 H2 := p1.sub' (List.nodup_append.mpr ⟨p1.left.nd, i3 g3.ok.nd, fun a ha b hb e => p1.disj ha (e ▸ i2 b hb)⟩) fun a ha => by
              rcases List.mem_append.mp ha with h | h
              · exact List.mem_append_left _ h
              · exact List.mem_append_right _ (i2 a h)
            have noMu : ∀ (k : Nat) o, ((S1.set j Sl.un).set i Sl.un)[k]? = some (.mu o) → i ≠ k ∧ j ≠ k := fun k o hk => by
              refine ⟨fun ik => ?_, fun jk => ?_⟩
              · subst ik
                rw [List.getElem?_set_self (by rw [List.length_set, List.length_set] at hl; rw [List.length_set]; exact hl)] at hk
                cases hk
              · subst jk
                rw [List.getElem?_set_ne ij, List.getElem?_set_self (by rw [List.length_set, List.length_set] at hlj; exact hlj)] at hk
                cases hk
            -- from the turn's start to behind a piece of code that ran with L waiting
            have fin : ∀ {S5 : List Sl} {A5 : List Addr} {B5 H5 : Hp} {F5 : List Addr}, Go w K ((((σ.set j none).set i none).set i (some va)).set j (some vb)) ((S'.set i (.im d1)).set j (.im d2)) A4 B3 H2 S5 A5 B5 H5 F5 →
                ∃ A6, SR w K B5 H5 ((σ.set j none).set i none) ((S5.set j .un).set i .un) A6 ∧ H5 L = some (.lst vs) ∧ DpAll K B5 vs acc ∧ Ok (F5 ++ ([L] ++ A6)) B5 H5 ∧ Step A2 B1 H1 (F5 ++ ([L] ++ A6)) B5 H5 ∧ MuK ((S1.set j .un).set i .un) ((S5.set j .un).set i .un) := by
              intro S5 A5 B5 H5 F5 g5
              obtain ⟨q1, q2, q3⟩ := pend (F := [L]) okL4 g5.st g5.ok (fun a ha => by simp at ha; subst ha; exact ⟨_, hL3⟩)
              have len5 : S5.length = S'.length := by rw [← g5.sr.length, List.length_set, List.length_set, g'.sr.length]
              obtain ⟨A6, u1, u2, u3⟩ := un2 (i := i) (j := j) (s := S5[i]'(by omega)) (t := S5[j]'(by omega)) ij g5.sr (List.getElem?_eq_getElem _) (List.getElem?_eq_getElem _) none none
              rw [hback] at u1
              have st5 : Step ([L] ++ A') B' H' ([L] ++ (F5 ++ A5)) B5 H5 := (p2.sub (A'' := [L] ++ A4) fun a ha => by
                rcases List.mem_append.mp ha with h | h
                · exact List.mem_append_left _ h
                · exact List.mem_append_right _ (i2 a h)).trans q2
              have nd5 := g5.ok.right.nd
              have sub6 : ∀ a ∈ F5 ++ ([L] ++ A6), a ∈ [L] ++ (F5 ++ A5) := fun a ha => by
                simp only [List.mem_append] at ha ⊢
                rcases ha with h | h | h
                · exact .inr (.inl h)
                · exact .inl h
                · exact .inr (.inr (u2 a h))
              refine ⟨A6, u1, q3 L (by simp) _ hL3, dps_mono (g3.st.bx.trans g5.st.bx) hacc, ?_, g'.st.trans (st5.sub sub6), fun k o hk => ?_⟩
              · have q4 : Ok (F5 ++ ([L] ++ A5)) B5 H5 := ok_mid q1
                refine q4.sub' (List.nodup_append.mpr ⟨q4.left.nd, List.nodup_append.mpr ⟨q1.left.nd, u3 nd5, fun a ha b hb e => ?_⟩, fun a ha b hb e => ?_⟩) fun a ha => ?_
                · exact q1.disj ha (e ▸ List.mem_append_right _ (u2 b hb))
                · refine q4.disj ha (e ▸ ?_)
                  rcases List.mem_append.mp hb with h | h
                  · exact List.mem_append_left _ h
                  · exact List.mem_append_right _ (u2 b h)
                · simp only [List.mem_append] at ha ⊢
                  rcases ha with h | h | h
                  · exact .inl h
                  · exact .inr (.inl h)
                  · exact .inr (.inr (u2 a h))
              · obtain ⟨ik, jk⟩ := noMu k o hk
                obtain ⟨o1, h1⟩ := g'.mu k o hk
                obtain ⟨o2, h2⟩ := g5.mu k o1 (by rw [List.getElem?_set_ne jk, List.getElem?_set_ne ik]; exact h1)
                exact ⟨o2, by rw [List.getElem?_set_ne ik, List.getElem?_set_ne jk]; exact h2⟩
            split at e'
            · rename_i S5 e5
              refine ⟨(S'.set i (.im d1)).set j (.im d2), A4, B3, true, S5, i1, ok4, e5, fun H5 ⟨A5, B5, g5⟩ => iteT ?_⟩
              split at e'
              · rename_i r6 S6 e6
                split at e'
                · rename_i el hel
                  split at e'
                  · rename_i es' S7 e7
                    cases e'
                    refine ⟨S5, A5, B5, r6, S6, g5.sr, g5.ok0, e6, fun v H6 ⟨A6, B6, F6, g6, x6⟩ => ?_⟩
                    obtain ⟨A7, f1, f2, f3, f4, f5, f6⟩ := fin (g5.seq g6)
                    refine ⟨vs, f2, ?_, ?_⟩
                    · rw [dps_length f3]
                      have := of_decide_eq_true hsz
                      have hz : sizeLine = 2 ^ 24 := by decide
                      omega
                    · obtain ⟨m1, m2⟩ := step_freeze f4
                      have dd6 : Dp K (ov B6 H6 F6) v el := x6.data (ov_same f4.sub) (fun a ha => ov_in ha) hel
                      obtain ⟨k1, k2⟩ := step_mut (o := .lst (vs ++ [v])) m1 (p := L) (by simp)
                      refine ⟨_, A7, ov B6 H6 F6, acc ++ [el], vs ++ [v], es', ⟨?_, k1, (f5.trans m2).trans k2, f6⟩, upd_same, dps_append (dps_mono (ov_same f4.sub) f3) (.cons dd6 .nil), ?_, e7, ?_⟩
                      · refine f1.step (ov_same f4.sub) fun a ha o h => ?_
                        have n : a ≠ L := fun e => by
                          subst e
                          exact m1.disj (List.mem_singleton.mpr rfl) ha
                        rw [upd_ne n]; exact h
                      · rw [List.length_append, List.length_singleton]; omega
                      · rw [List.append_assoc]; exact hrest
                  · cases e'
                · cases e'
              · cases e'
            · rename_i S5 e5
              refine ⟨(S'.set i (.im d1)).set j (.im d2), A4, B3, false, S5, i1, ok4, e5, fun H5 ⟨A5, B5, g5⟩ => iteF ?_⟩
              obtain ⟨A6, f1, f2, f3, f4, f5, f6⟩ := fin g5
              exact ⟨_, A6, B5, acc, vs, rest, ⟨f1, f4, f5, f6⟩, f2, f3, by omega, e', hrest⟩
            · cases e'
          · intro H' ⟨S', A', B', acc, vs, rest, g', hLv, hacc, hlen, e', hrest⟩
            rw [List.drop_length] at e'
            cases e'
            rw [List.append_nil] at hrest
            subst hrest
            have len2 : S2.length = S1.length := by rw [← g'.sr.length, List.length_set, List.length_set, g1.sr.length]
            have hl : i < S1.length := (List.getElem?_eq_some_iff.mp hs0).1
            have hlj : j < S1.length := (List.getElem?_eq_some_iff.mp ht0).1
            obtain ⟨x0, A8, As8, A9, eA8, es8, sl8, f8⟩ := g1.sr.at hs0
            obtain ⟨y0, C8, Cs8, C9, eC8, ec8, sc8, fc8⟩ := g1.sr.at ht0
            obtain ⟨D1, z1, z2, z3⟩ := re1 (S := S2) (i := i) g'.sr (by omega) (isIm_slr hs0' sl8 (B' := B') (H' := H') g'.st.bx)
            obtain ⟨D2, y1, y2, y3⟩ := re1 (i := j) z1 (by rw [List.length_set]; omega) (isIm_slr ht0' sc8 (B' := B') (H' := H') g'.st.bx)
            rw [back2 ij es8 ec8] at y1
            have subD : ∀ a ∈ D2, a ∈ A' := fun a ha => z2 a (y2 a ha)
            have ndD : D2.Nodup := y3 (z3 g'.ok.right.nd)
            have sub1 : ∀ a ∈ [L] ++ D2, a ∈ [L] ++ A' := fun a ha => by
              rcases List.mem_append.mp ha with h | h
              · exact List.mem_append_left _ h
              · exact List.mem_append_right _ (subD a h)
            have eg : S1.getD i .un = s0 := by rw [List.getD_eq_getElem?_getD, hs0]; rfl
            have eg2 : S1.getD j .un = t0 := by rw [List.getD_eq_getElem?_getD, ht0]; rfl
            rw [eg, eg2] at q
            refine q _ H' ⟨D2, B', [L], ⟨y1, ?_, ?_, fun k o hk => ?_⟩, .fr (.lst hLv hacc)⟩
            · exact g'.ok.sub' (List.nodup_append.mpr ⟨g'.ok.left.nd, ndD, fun a ha b hb e => g'.ok.disj ha (e ▸ subD b hb)⟩) sub1
            · exact ((g1.st.sub (A'' := A2) fun a ha => by simpa using r2 a ha).trans g'.st).sub sub1
            · obtain ⟨o1, h1⟩ := g1.mu k o hk
              have ik : i ≠ k := fun e => by
                subst e
                rw [hs0] at h1
                rcases hs0' with rfl | ⟨d, rfl⟩ <;> cases h1
              have jk : j ≠ k := fun e => by
                subst e
                rw [ht0] at h1
                rcases ht0' with rfl | ⟨d, rfl⟩ <;> cases h1
              obtain ⟨o2, h2⟩ := g'.mu k o1 (by rw [List.getElem?_set_ne ik, List.getElem?_set_ne jk]; exact h1)
              exact ⟨o2, by rw [List.getElem?_set_ne jk, List.getElem?_set_ne ik]; exact h2⟩
        · cases e
      · cases e
    · cases e
  · cases e
end
section
variable {X : Cx} {elt tg iter c : Expr} {ifs : List Expr} {scope : Scope} {pos spos py : Pos} {it : SI} {t : ST} {f : SE} {i j k : Nat} {y : Str}
theorem e_lcQ (hp : PE X (.ListComp elt [⟨tg, iter, ifs, 0⟩] scope pos) (tLc (Ti X.w X.K it) (gTup X.K 2 (gCons (gName i) (gCons (gName j) gNil))) (Tt X.w X.K t) (T X.w X.K f) [i, j])) : E X (.ListComp elt [⟨tg, iter, ifs, 0⟩] scope pos) (eLcQ it i j t f) := pe_weak hp fun _ _ _ z => t_lcQ z
theorem s_setLcQ (hp : PS X (.Assign [.Name y py] (.ListComp elt [⟨tg, iter, ifs, 0⟩] scope pos) spos) (tAsg (tLc (Ti X.w X.K it) (gTup X.K 2 (gCons (gName i) (gCons (gName j) gNil))) (Tt X.w X.K t) (T X.w X.K f) [i, j]) (gName k))) :
    St' X (.Assign [.Name y py] (.ListComp elt [⟨tg, iter, ifs, 0⟩] scope pos) spos) (sSet k (eLcQ it i j t f)) := s_setOf hp fun _ _ _ z => t_lcQ z
end
/-! ### any(l), all(l), l a list of truth values -/
def toBls : List D → Option (List Bool)
  | [] => some []
  | .bool b :: r => match toBls r with
    | some l => some (b :: l)
    | none => none
  | _ => none
theorem toBls_V {K : PySem.W.Frag} {B : Hp} : ∀ {ds : List D} {bs : List Bool} {vs : List V}, toBls ds = some bs → DpAll K B vs ds → vs = bs.map V.bl
  | [], bs, _, h, .nil => by cases h; rfl
  | .bool b :: r, bs, _, h, .cons hv hr => by
    unfold toBls at h
    split at h
    · rename_i l e
      cases h
      cases hv
      rw [List.map_cons, toBls_V e hr]
    · cases h
  | .none :: _, _, _, h, _ => by cases h
  | .int _ :: _, _, _, h, _ => by cases h
  | .str _ :: _, _, _, h, _ => by cases h
  | .list _ :: _, _, _, h, _ => by cases h
  | .tuple _ :: _, _, _, h, _ => by cases h
  | .dict _ :: _, _, _, h, _ => by cases h
def hAny : List D → Option Res
  | [.list l] => match toBls l with
    | some bs => some (.d (.bool (bs.any id)))
    | none => none
  | _ => none
def hAll : List D → Option Res
  | [.list l] => match toBls l with
    | some bs => some (.d (.bool (bs.all id)))
    | none => none
  | _ => none
section
variable {w : World} {K : PySem.W.Frag}
theorem ok_any : OpOk w K (L2.rAny K) (gOp hAny) := gOp_ok fun B H vs ds res Q sb v e p => by
  unfold hAny at e
  split at e
  · split at e
    · rename_i bs en
      cases e
      obtain ⟨y, rfl, vy⟩ := vws1 v
      cases vy with
      | @lst a us _ h r =>
        rw [toBls_V en r] at h
        exact ⟨a, bs, rfl, h, p.val _ _ rfl (.bl _)⟩
    · cases e
  · cases e
theorem ok_all : OpOk w K (L2.rAll K) (gOp hAll) := gOp_ok fun B H vs ds res Q sb v e p => by
  unfold hAll at e
  split at e
  · split at e
    · rename_i bs en
      cases e
      obtain ⟨y, rfl, vy⟩ := vws1 v
      cases vy with
      | @lst a us _ h r =>
        rw [toBls_V en r] at h
        exact ⟨a, bs, rfl, h, p.val _ _ rfl (.bl _)⟩
    · cases e
  · cases e
end
/-! ### a tuple times 0 or 1 -/
open PySem PySem.Spec PyProof.Rows in
theorem tuple_mul1W (l : Addr) (items : Array Value) (n : Nat) (dd : Option Addr) (sl : Array (Option Value)) (u : Tok) :
    Meets (Builtin.«tuple.__mul__» ⟨[.ref l, .int 1 u], []⟩) (fun _ R s => s.heap.get? l = some { cls := .type "tuple", dict := dd, data := .seq items n, slots := sl } ∧ R (.ok (.ret (Value.ref l))) s) :=
  .of_wp fun prog w A R s h => by
    obtain ⟨hp, g, d, tk, os⟩ := s
    obtain ⟨hl, h⟩ := h
    have f1 := AutoSeq1.idx_int
    have c0 : (decide ((1 : Int) < -(2 ^ 63)) || decide ((1 : Int) ≥ 2 ^ 63)) = false := by decide
    have c1 : (items.isEmpty || (1 : Int) == 1) = true := by rw [Bool.or_eq_true]; exact .inr rfl
    wp_walk using wpAny_loadPart' hl
    repeat (first
      | (refine wpAny_ite_false (decide_eq_false (by rw [c0]; exact Bool.false_ne_true)) ?_; wp_walk using wpAny_loadPart' hl)
      | (refine wpAny_ite_true (decide_eq_true c1) ?_; wp_walk using wpAny_loadPart' hl))
    exact ⟨_, rfl, h⟩
open PySem PySem.Spec PyProof.Rows in
theorem tuple_mul0W (l : Addr) (items : Array Value) (n : Nat) (dd : Option Addr) (sl : Array (Option Value)) (u : Tok) (hne : items.isEmpty = false) :
    Meets (Builtin.«tuple.__mul__» ⟨[.ref l, .int 0 u], []⟩) (fun _ R s => s.heap.get? l = some { cls := .type "tuple", dict := dd, data := .seq items n, slots := sl } ∧
      R (.ok (.ret (Value.ref s.heap.objs.size))) { s with heap := s.heap.push { cls := Value.type "tuple", data := Data.seq #[] }, toks := s.toks }) :=
  .of_wp fun prog w A R s h => by
    obtain ⟨hp, g, d, tk, os⟩ := s
    obtain ⟨hl, h⟩ := h
    have f1 := AutoSeq1.idx_int
    have c0 : (decide ((0 : Int) < -(2 ^ 63)) || decide ((0 : Int) ≥ 2 ^ 63)) = false := by decide
    have c1 : (items.isEmpty || (0 : Int) == 1) = false := by rw [hne]; rfl
    have c2 : (decide ((0 : Int) ≤ 0) || items.isEmpty) = true := by rw [hne]; rfl
    wp_walk using wpAny_loadPart' hl
    repeat (first
      | (refine wpAny_ite_false (decide_eq_false (by rw [c0]; exact Bool.false_ne_true)) ?_; wp_walk using wpAny_loadPart' hl)
      | (refine wpAny_ite_false (decide_eq_false (by rw [c1]; exact Bool.false_ne_true)) ?_; wp_walk using wpAny_loadPart' hl)
      | (refine wpAny_ite_true (decide_eq_true c2) ?_; wp_walk using wpAny_loadPart' hl))
    exact ⟨_, rfl, h⟩
def rRepT1 (K : PySem.W.Frag) : L2.R2 := fun x y H Q => ∃ l k xs, x = .ref l ∧ y = .int k ∧ SqT K H l xs ∧ xs ≠ [] ∧ ((k = 1 ∧ Q (.ref l) H) ∨ (k = 0 ∧ ∀ p, H p = none → Q (.ref p) (upd H p (.tup []))))
section
variable {X : L2.Cx}
open PySem PySem.Spec PyProof.Rows in
theorem op_repT1 : OpR X (binaryOp .Mult) (rRepT1 X.K) := by
  intro pins s σ H x y v u Q I rx ry h
  obtain ⟨l, k, xs, rfl, rfl, hT, hne, h⟩ := h
  cases rx
  obtain ⟨t, rfl⟩ := ry
  obtain ⟨its, r, ⟨⟨cls, dd, data, sl⟩, ho, hc, n, hd⟩, hs⟩ := I.tuple hT
  simp only at hc hd
  subst hc hd
  have hle : its.length = xs.length := r.length.symm
  have hn : its ≠ [] := fun e => hne (by
    rw [e] at hle
    exact List.eq_nil_of_length_eq_zero hle.symm)
  have hi : its.toArray.isEmpty = false := by
    cases its with
    | nil => exact absurd rfl hn
    | cons a b => rfl
  rcases h with ⟨rfl, q⟩ | ⟨rfl, q⟩
  · refine wpAny_binaryOp_repeat_ref (T := "tuple") (U := "int") (by decide) ⟨_, ho, rfl⟩ (fun s' => typeIs_int s' 1 t) noFill_tuple_mul F.fills_int_mul F.slot_int_rmul repeat_tuple F.slot_int_index.lookup
      (call_meets F.slot_int_rmul (typeIs_int s 1 t) F.entry_int_rmul (F.args_int_rmul_2 _ _) (int_rmul_tuple 1 t l its.toArray n dd sl)
        ⟨ho, rfl, ⟨_, ho, rfl⟩, call_meets F.slot_tuple_mul ⟨_, ho, rfl⟩ F.entry_tuple_mul (F.args_tuple_mul_2 _ _) (tuple_mul1W l its.toArray n dd sl t) ⟨ho, ?_⟩⟩)
    exact ⟨.ref l, H, I, rfl, q⟩
  · refine wpAny_binaryOp_repeat_ref (T := "tuple") (U := "int") (by decide) ⟨_, ho, rfl⟩ (fun s' => typeIs_int s' 0 t) noFill_tuple_mul F.fills_int_mul F.slot_int_rmul repeat_tuple F.slot_int_index.lookup
      (call_meets F.slot_int_rmul (typeIs_int s 0 t) F.entry_int_rmul (F.args_int_rmul_2 _ _) (int_rmul_tuple 0 t l its.toArray n dd sl)
        ⟨ho, rfl, ⟨_, ho, rfl⟩, call_meets F.slot_tuple_mul ⟨_, ho, rfl⟩ F.entry_tuple_mul (F.args_tuple_mul_2 _ _) (tuple_mul0W l its.toArray n dd sl t hi) ⟨ho, ?_⟩⟩)
    refine ⟨.ref s.heap.objs.size, _, I.laid (t' := s.toks) (o := .tup []) (fun b ob q => Heap.get?_push_of_some _ q) (Nat.le_refl _) ?_, rfl, q _ (I.hok.fresh (Nat.le_refl _))⟩
    exact ⟨by rw [sizeLine_eq]; decide, [], .nil, IsTup.new _ _⟩
end
def hRep1 : List D → Option Res
  | [.tuple x, .int k] => if decide (x ≠ [] ∧ (k = 0 ∨ k = 1)) then some (.d (.tuple (if k = 1 then x else []))) else none
  | _ => none
theorem ok_rep1 {w : World} {K : PySem.W.Frag} : OpOk w K (RV2 (rRepT1 K)) (gOp hRep1) := gOp_ok fun B H vs ds res Q sb v e p => by
  unfold hRep1 at e
  split at e
  · split at e
    · rename_i hs
      cases e
      obtain ⟨x, y, rfl, vx, vy⟩ := vws2 v
      cases vy
      cases vx with
      | tup h r =>
        have hk := of_decide_eq_true hs
        refine ⟨_, _, rfl, _, _, _, rfl, rfl, sqt_mono sb h, fun z => ?_, ?_⟩
        · subst z
          cases r
          exact hk.1 rfl
        · rcases hk.2 with rfl | rfl
          · exact .inr ⟨rfl, fun q hq => p.tup _ _ _ rfl hq .nil⟩
          · exact .inl ⟨rfl, p.val _ _ rfl (.tup h r)⟩
    · cases e
  · cases e
/-! ### sorted of a tuple of ints -/
section
open PySem PySem.Spec PyProof.Rows L2
variable {prog : Program} {w : World} {A : Around} {Er : Value → Shared → Prop} {s : Shared}
theorem collect_tupI {l : Addr} {vs : List Value} {Q : List Value → Shared → Prop} (hl : IsTup s.heap l vs.toArray)
    (h : Q vs { s with heap := (s.heap.push (seqObj "list" #[] 0)).update s.heap.objs.size (Obj.mapSeq (· ++ vs.toArray)) }) (hsz : vs.length ≤ sizeLine) :
    wpAny (model prog w) A (collect (.ref l)) Q Er s := by
  obtain ⟨o, ho, hc, n, hd⟩ := id hl
  unfold collect
  refine wpAny_bind (wpAny_runValue (codeAny_builtin entry_proto_collect' ?_))
  show wpAny _ _ (do again (.builtin "list.__iadd__" ⟨[← newList [], .ref l], []⟩)) _ _ s
  refine wpAny_bind (wpAny_newList (wpAny_pure ⟨Code.quiet_builtin _ (by decide +kernel), codeAny_builtin entry_list_iadd' ?_⟩))
  show wpAny _ _ (Builtin.List.listExtendWith (.ref s.heap.objs.size) (.ref l) (.ref s.heap.objs.size)) _ _ { s with heap := s.heap.push (seqObj "list" #[] 0) }
  unfold Builtin.List.listExtendWith
  have ho' : (s.heap.push (seqObj "list" #[] 0)).get? l = some o := Heap.get?_push_of_some _ ho
  refine wpAny_bind (wpAny_typeOf (T := "tuple") ⟨o, ho', hc⟩ ?_)
  have ht : (Value.type "tuple" == Value.type "tuple") = true := by rfl
  rw [if_pos (by rw [ht]; simp)]
  refine wpAny_bind (listItems_at ho' hd ?_)
  refine wpAny_bind (listItems_at (xs := #[]) (n := 0) (Heap.get?_push_size _ rfl) rfl ?_)
  rw [if_neg (by simp)]
  refine wpAny_bind (listUpdate_at (xs := #[]) (n := 0) (Heap.get?_push_size _ rfl) rfl ?_ (Nat.zero_le _) (by show (#[] ++ vs.toArray).size ≤ sizeLine + 1; simp only [Array.size_append, List.size_toArray, List.length_nil]; omega))
  refine wpAny_pure ?_
  show wpAny (model prog w) A (do
      let o ← load s.heap.objs.size
      match o.data with
      | .seq xs _ => pure xs.toList
      | _ => unsupported "internal:collect") Q Er { s with heap := (s.heap.push (seqObj "list" #[] 0)).update s.heap.objs.size (Obj.mapSeq (· ++ vs.toArray)) }
  refine wpAny_bind (wpAny_load (get?_update_seq (Heap.get?_push_size _ rfl) _) ?_)
  show wpAny _ _ (pure ((#[] : Array Value) ++ vs.toArray).toList) Q Er _
  rw [show ((#[] : Array Value) ++ vs.toArray).toList = vs by simp]
  exact wpAny_pure h
open SrtO in
theorem sorted_ordT {l : Addr} {vs : List Value} {ltv : Value → Value → Bool} {Q : Value → Shared → Prop} (O : Swo ltv) (hl : IsTup s.heap l vs.toArray) (hz : vs.length ≤ sizeLine)
    (hS : 2 ≤ vs.length → ∀ (h₁ : Heap) (a : Addr), h₁.get? a = some (seqObj "list" vs.toArray 0) → (∀ b o, s.heap.get? b = some o → b ≠ a ∧ h₁.get? b = some o) → SortableO prog w A.in1.in1 { s with heap := h₁ } a vs ltv)
    (h : ∀ out : List Value, Srtd ltv out → Stb ltv out vs → Q (.ref (s.heap.objs.size + 1)) { s with heap := sortedAll s.heap vs out.toArray }) :
    wpAny (model prog w) A (call (.builtin "sorted") [.ref l]) Q Er s := by
  refine Calls.call_function_entry kind_sorted plain_sorted entry_sorted (args_sorted1 _) ?_
  unfold Builtin.«sorted»
  refine wpAny_bind (m := checkCount "sorted" 1 1 _) (wpAny_pure ?_)
  refine wpAny_bind (collect_tupI hl ?_ hz)
  refine wpAny_bind (wpAny_newList ?_ hz)
  have hsz : ((s.heap.push (seqObj "list" #[] 0)).update s.heap.objs.size (Obj.mapSeq (· ++ vs.toArray))).objs.size = s.heap.objs.size + 1 := by
    rw [Heap.size_update, size_push']
  have hoL : (((s.heap.push (seqObj "list" #[] 0)).update s.heap.objs.size (Obj.mapSeq (· ++ vs.toArray))).push (seqObj "list" vs.toArray 0)).get? (s.heap.objs.size + 1) = some (seqObj "list" vs.toArray 0) := by
    rw [← hsz]; exact Heap.get?_push_size _ rfl
  have keep : ∀ b o, s.heap.get? b = some o → b ≠ s.heap.objs.size + 1 ∧ (((s.heap.push (seqObj "list" #[] 0)).update s.heap.objs.size (Obj.mapSeq (· ++ vs.toArray))).push (seqObj "list" vs.toArray 0)).get? b = some o := fun b o q => by
    have hlt : b < s.heap.objs.size := Heap.lt_size q
    refine ⟨Nat.ne_of_lt (Nat.lt_succ_of_lt hlt), Heap.get?_push_of_some _ ?_⟩
    rw [Heap.get?_update_ne _ _ _ _ (Nat.ne_of_lt hlt)]
    exact Heap.get?_push_of_some _ q
  show wpAny _ _ _ _ _ { s with heap := ((s.heap.push (seqObj "list" #[] 0)).update s.heap.objs.size (Obj.mapSeq (· ++ vs.toArray))).push (seqObj "list" vs.toArray 0) }
  rw [hsz]
  refine wpAny_bind (wpAny_holding (wpAny_call_entry slot_list_sort ⟨_, hoL, rfl⟩ entry_list_sort (list_sort_ord O hoL hz (fun h2 => hS h2 _ _ hoL keep) fun out hs hb => ⟨_, rfl, ?_⟩) (args_list_sort _)))
  exact wpAny_pure ⟨_, rfl, h out hs hb⟩
end
def rSortedT (K : PySem.W.Frag) : List V → Hp → VK → Prop := fun vs H Q => ∃ (a : Addr) (ns : List Int), vs = [V.ref a] ∧ SqT K H a (ns.map V.int) ∧
  ∀ (ns' : List Int) (p : Addr), ns'.Perm ns → ns'.Pairwise (· ≤ ·) → H p = none → Q (.ref p) (upd H p (.lst (ns'.map V.int)))
open PySem PySem.Spec PyProof.Rows L2 in
theorem cr_sortedT {X : L2.Cx} : CallR X (.builtin "sorted") (rSortedT X.K) := by
  intro pins s σ H vs us Q I r h
  obtain ⟨a, ns, rfl, hs, q⟩ := h
  obtain ⟨its, rv, hl, hz⟩ := I.tuple hs
  rw [Vals.ref1 r]
  have hi := rv.ints
  refine sorted_ordT SrtO.swo_int hl (by rw [← rv.length]; exact hz) (fun h2 h₁ a' _ _ => SrtO.ints_sortable hi h2) fun out h1 h2 => ?_
  obtain ⟨k1, k2, k3⟩ := SrtO.ints_out hi h1 h2
  obtain ⟨ep, he'⟩ := PyProof.Rows.sortedAll_at s.heap its out.toArray
  have hlen : ((out.map SrtO.iv).map V.int).length ≤ sizeLine := by
    rw [List.length_map, k2.length_eq]
    rw [List.length_map] at hz
    exact hz
  exact ⟨.ref _, upd H (s.heap.objs.size + 1) (.lst ((out.map SrtO.iv).map V.int)), I.laid (t' := s.toks) (fun _ _ => PyProof.Rows.sortedAll_old) (Nat.le_succ _) ⟨hlen, out, ep, vals_of_ints k1, he'⟩, rfl, q _ _ k2 k3 (I.hok.fresh (Nat.le_succ _))⟩
def hSortedT : List D → Option Res
  | [.tuple l] => match toInts l with
    | some ns => some (.l ((sortI ns).map PyData.int))
    | none => none
  | _ => none
theorem ok_sortedT {w : World} {K : PySem.W.Frag} : OpOk w K (rSortedT K) (gOp hSortedT) := gOp_ok fun B H vs ds res Q sb v e p => by
  unfold hSortedT at e
  split at e
  · obtain ⟨x, rfl, vx⟩ := vws1 v
    split at e
    · rename_i ns en
      cases e
      cases vx with
      | tup h r =>
        rw [toInts_eq en] at r
        rw [dps_ints_inv r] at h
        exact ⟨_, ns, rfl, sqt_mono sb h, fun ns' q hp hs hq => p.lst _ _ _ rfl hq (by rw [sortI_is hp hs]; exact dps_ints _)⟩
    · cases e
  · cases e
/-! ### calls without arguments -/
section
variable {X : Cx} {k j n : Nat} {f : Addr} {fd : FuncData} {ps : List Str} {sp : Sp} {x : Str} {p pos : Pos} {F : Fn}
theorem e_call0 (c : Callee X.prog X.w X.K X.mg X.base k x n F) (hr : Room j X.A) (hk : k ≤ j) (hg : Gl X x) (hdb : (x == ("__debug__" : Str)) = false := by decide) :
    E X (.Call (.Name x p) [] [] pos) (eCall n F sNil) := by
  obtain ⟨f, fd, ps, G, hm, kp, b⟩ := c.ex
  exact pe_weak (pe_call0 (dvs := []) (E := E0) G (hr.mono hk) hg hm kp b .nil pass0 hdb) fun σ H Q z => ta_nil (t_call (E := E0) z)
theorem pe_callG0 (G : FnG X.prog X.w X.K X.mg X.base k f fd ps sp) (hr : RoomG k X.A) (hg : Gl X x) (hm : X.mg x = some (.ref f)) (hk : PySem.W.keepIn X.K (.ref f) = true) (hb : L2.Binds X.K fd ps [])
    (hdb : (x == ("__debug__" : Str)) = false := by decide) : PE X (.Call (.Name x p) [] [] pos) (tCall sp [] E0 tNil) := by
  refine ⟨fun pins s σ H Q I h => wpAny_Call_Name_kw (ld_glob I hg hm ?_ hdb)⟩
  refine PySem.W.callWith_K0 I.kIn hk ?_
  have q : sp ([] ++ []) H Q E0 := h
  have hb' := hb s [] I.kIn (by rw [List.append_nil]; exact G.len _ _ _ _ q)
  rw [List.append_nil] at hb'
  refine wpAny_call (codeAny_mono (G.run X.A X.stack s H ⟨[], []⟩ [] [] Q E0 hr I.env0 hb' .nil q) fun r s' hq => ?_)
  cases r with
  | error e => exact False.elim hq
  | ok fl =>
    cases fl with
    | ret u => exact I.after hq
    | next => exact False.elim hq
    | brk => exact False.elim hq
    | cont => exact False.elim hq
theorem e_callG0 (c : CalleeG X.prog X.w X.K X.mg X.base k x n F) (hr : RoomG j X.A) (hk : k ≤ j) (hg : Gl X x) (hdb : (x == ("__debug__" : Str)) = false := by decide) :
    E X (.Call (.Name x p) [] [] pos) (eCall n F sNil) := by
  obtain ⟨f, fd, ps, G, hm, kp, b⟩ := c.ex
  exact pe_weak (pe_callG0 G (hr.mono hk) hg hm kp b hdb) fun σ H Q z => ta_nil (t_call (E := E0) z)
end
end Fl
namespace Py
open PySem L2 Fl PyProof.Rows
/- ratio -/
def b_ratio : SS := (sSeq (sSet 2 (opS (gOp hGcd) (sCons (ePl 0) (sCons (ePl 1) sNil))))
  (sSeq (sIf (tB' (opS (gOp (hCmp fun i j => decide (i < j))) (sCons (ePl 1) (sCons (eC (.int 0)) sNil)))) (sSet 2 (opS (gOp hNeg) (sCons (ePl 2) sNil))) sNop)
  (sRet (opS gTupD (sCons (opS (gOp hDiv) (sCons (ePl 0) (sCons (ePl 2) sNil))) (sCons (opS (gOp hDiv) (sCons (ePl 1) (sCons (ePl 2) sNil))) sNil))))))
def f_ratio : Fn := fnOf 1 b_ratio
/- over -/
def b_over : SS := (sRet (eCall 2 f_ratio (sCons (opS gMul (sCons (opS gIx (sCons (ePl 0) (sCons (eC (.int 0)) sNil))) (sCons (opS gIx (sCons (ePl 1) (sCons (eC (.int 1)) sNil))) sNil))) (sCons (opS gMul (sCons (opS gIx (sCons (ePl 0) (sCons (eC (.int 1)) sNil))) (sCons (opS gIx (sCons (ePl 1) (sCons (eC (.int 0)) sNil))) sNil))) sNil))))
def f_over : Fn := fnOf 0 b_over
/- minus -/
def b_minus : SS := (sRet (eCall 2 f_ratio (sCons (opS (gOp hSub) (sCons (opS gMul (sCons (opS gIx (sCons (ePl 0) (sCons (eC (.int 0)) sNil))) (sCons (opS gIx (sCons (ePl 1) (sCons (eC (.int 1)) sNil))) sNil))) (sCons (opS gMul (sCons (opS gIx (sCons (ePl 1) (sCons (eC (.int 0)) sNil))) (sCons (opS gIx (sCons (ePl 0) (sCons (eC (.int 1)) sNil))) sNil))) sNil))) (sCons (opS gMul (sCons (opS gIx (sCons (ePl 0) (sCons (eC (.int 1)) sNil))) (sCons (opS gIx (sCons (ePl 1) (sCons (eC (.int 1)) sNil))) sNil))) sNil))))
def f_minus : Fn := fnOf 0 b_minus
/- name_sum -/
abbrev name_sumBody : SS := (sSet 5 (eCall 2 f_minus (sCons (eVar 5) (sCons (eCall 2 f_ratio (sCons (opS (gOp hSub) (sCons (opS gMul (sCons (eC (.int 2)) (sCons (ePl 6) sNil))) (sCons (eC (.int 2)) sNil))) (sCons (eVar 6) sNil))) sNil))))
abbrev name_sumBody2 : SS := (sSet 5 (eCall 2 f_minus (sCons (eVar 5) (sCons (eCall 2 f_ratio (sCons (opS (gOp hSub) (sCons (ePl 6) (sCons (eC (.int 1)) sNil))) (sCons (eVar 6) sNil))) sNil))))
abbrev name_sumBody1 : SS := (sFor (itOf (eVar 7)) (gN 6) name_sumBody2)
def b_name_sum : SS := (sSeq (sAsg (eVar 0) (gT [1, 2, 3, 4]))
  (sSeq (sSet 5 (eCall 2 f_ratio (sCons (opS (gOp hSub) (sCons (opS (gOp hSub) (sCons (opS (gOp hSub) (sCons (eC (.int 4)) (sCons (opS gMul (sCons (eC (.int 4)) (sCons (ePl 1) sNil))) sNil))) (sCons (opS gMul (sCons (eC (.int 2)) (sCons (ePl 4) sNil))) sNil))) (sCons (opS gMul (sCons (eC (.int 2)) (sCons (opS (gOp hLen) (sCons (ePl 3) sNil)) sNil))) sNil))) (sCons (eC (.int 1)) sNil))))
  (sSeq (sFor (itOf (eVar 2)) (gN 6) name_sumBody)
  (sSeq (sFor (itOf (eVar 3)) (gN 7) name_sumBody1)
  (sRet (eMv 5))))))
def f_name_sum : Fn := fnOf 7 b_name_sum
/- ball_count -/
def b_ball_count : SS := (sRet (opS gIx (sCons (eCall 2 f_over (sCons (eCall 2 f_ratio (sCons (eC (.int 4)) (sCons (eC (.int 1)) sNil))) (sCons (eCall 1 f_name_sum (sCons (eVar 0) sNil)) sNil))) (sCons (eC (.int 0)) sNil))))
def f_ball_count : Fn := fnOf 0 b_ball_count
/- _law_begun -/
abbrev law_begunBody : SS := (sSet 5 (opS (gOp hMod) (sCons (opS (gOp hInt) (sCons (opS gAdd (sCons (opS gMul (sCons (ePl 5) (sCons (eC (.int 48271)) sNil))) (sCons (ePl 4) sNil))) sNil)) (sCons (eC (.int 2147483647)) sNil))))
def b_law_begun : SS := (sSeq (sSet 2 (opS gAdd (sCons (eSl (ePl 0) (oI (ePl 1)) oN) (sCons (eSl (ePl 0) oN (oI (ePl 1))) sNil))))
  (sSeq (sSet 3 (eLc (itOf (eVar 2)) 4 (tB' (opS (gOp (hCmp fun i j => decide (j ≤ i))) (sCons (ePl 4) (sCons (opS (gOp hPow) (sCons (eC (.int 10)) (sCons (eC (.int 18)) sNil))) sNil)))) (eVar 4)))
  (sSeq (sSet 5 (opS gAdd (sCons (eC (.int 71)) (sCons (ePl 1) sNil))))
  (sSeq (sFor (itOf (eVar 2)) (gN 4) law_begunBody)
  (sRet (eDspl [.inr "left", .inr "seed", .inr "cells", .inr "spot"] [(eIf (tB' (opS (gOp hNe) (sCons (ePl 3) (sCons (opS gLstD sNil) sNil)))) (opS gIx (sCons (ePl 3) (sCons (eC (.int 0)) sNil))) (eC (.int 0))), (eVar 5), (opS gAdd (sCons (ePl 2) (sCons (opS gLstD (sCons (opS gAdd (sCons (opS gMul (sCons (eC (.int 53)) (sCons (ePl 1) sNil))) (sCons (eC (.int 11)) sNil))) sNil)) sNil))), (eC (.int 0))]))))))
def f_law_begun : Fn := fnOf 4 b_law_begun
/- _law_like -/
def b_law_like : SS := (sRet (opS (gOp hEqS) (sCons (opS (gOp hRepr) (sCons (ePl 0) sNil)) (sCons (opS (gOp hRepr) (sCons (ePl 1) sNil)) sNil))))
def f_law_like : Fn := fnOf 0 b_law_like
/- _law_draw -/
def b_law_draw : SS := (sSeq (sIf (tB' (opS (gOp (hCmp fun i j => decide (j < i))) (sCons (opS gIx (sCons (ePl 0) (sCons (eC (.str "left")) sNil))) (sCons (eC (.int 0)) sNil)))) (sSeq (sSet 2 (opS (gOp hMod) (sCons (opS (gOp hInt) (sCons (opS gIx (sCons (ePl 0) (sCons (eC (.str "left")) sNil))) sNil)) (sCons (ePl 1) sNil))))
  (sSeq (sSub 0 (opS (gOp hDiv) (sCons (opS gIx (sCons (ePl 0) (sCons (eC (.str "left")) sNil))) (sCons (ePl 1) sNil))) (eC (.str "left")))
  (sRet (eMv 2)))) sNop)
  (sSeq (sSet 3 (opS gIx (sCons (ePl 0) (sCons (eC (.str "spot")) sNil))))
  (sSeq (sSub 0 (opS gAdd (sCons (ePl 3) (sCons (eC (.int 1)) sNil))) (eC (.str "spot")))
  (sSeq (sPar 4 5 (opS gIx (sCons (ePl 0) (sCons (eC (.str "cells")) sNil))) (opS gAdd (sCons (opS gIx (sCons (ePl 0) (sCons (eC (.str "seed")) sNil))) (sCons (opS gMul (sCons (opS gMul (sCons (eC (.int 40503)) (sCons (ePl 3) sNil))) (sCons (ePl 3) sNil))) sNil))))
  (sSeq (sSet 6 (opS gIx (sCons (ePl 4) (sCons (opS (gOp hMod) (sCons (opS (gOp hInt) (sCons (ePl 3) sNil)) (sCons (opS (gOp hLen) (sCons (ePl 4) sNil)) sNil))) sNil))))
  (sSeq (sSet 7 (opS (gOp hMod) (sCons (opS (gOp hInt) (sCons (opS gAdd (sCons (opS gMul (sCons (ePl 6) (sCons (opS gAdd (sCons (opS gMul (sCons (eC (.int 2)) (sCons (ePl 3) sNil))) (sCons (eC (.int 3)) sNil))) sNil))) (sCons (ePl 5) sNil))) sNil)) (sCons (eC (.int 2147483647)) sNil))))
  (sSeq (sSet 7 (opS (gOp hMod) (sCons (opS (gOp hInt) (sCons (opS gAdd (sCons (opS gAdd (sCons (opS gMul (sCons (ePl 7) (sCons (ePl 7) sNil))) (sCons (opS gMul (sCons (eC (.int 69621)) (sCons (ePl 3) sNil))) sNil))) (sCons (opS gIx (sCons (ePl 0) (sCons (eC (.str "seed")) sNil))) sNil))) sNil)) (sCons (eC (.int 2147483629)) sNil))))
  (sRet (opS (gOp hMod) (sCons (opS (gOp hDiv) (sCons (opS (gOp hMod) (sCons (opS (gOp hInt) (sCons (opS gAdd (sCons (opS gMul (sCons (ePl 7) (sCons (eC (.int 48271)) sNil))) (sCons (ePl 3) sNil))) sNil)) (sCons (eC (.int 2147483647)) sNil))) (sCons (eC (.int 11)) sNil))) (sCons (ePl 1) sNil)))))))))))
def f_law_draw : Fn := fnOf 6 b_law_draw
/- _law_of -/
def b_law_of : SS := (sRet (opS gIx (sCons (ePl 1) (sCons (eCallM 2 f_law_draw 0 (sCons (opS (gOp hLen) (sCons (ePl 1) sNil)) sNil)) sNil))))
def f_law_of : Fn := fnOf 0 b_law_of
/- _law_family -/
def b_law_family : SS := (sSeq (sSet 1 (eCallM 2 f_law_of 0 (sCons (opS gLstD (sCons (eC (.int 2)) (sCons (eC (.int 3)) (sCons (eC (.int 4)) (sCons (eC (.int 5)) (sCons (eC (.int 6)) (sCons (opS gAdd (sCons (eC (.int 2)) (sCons (eCallM 2 f_law_draw 0 (sCons (eC (.int 9998)) sNil)) sNil))) sNil))))))) sNil)))
  (sSeq (sSet 2 (opS gAdd (sCons (eC (.int 3)) (sCons (eCallM 2 f_law_draw 0 (sCons (eC (.int 3)) sNil)) sNil))))
  (sSeq (sSet 3 (opS gLstD (sCons (opS gTupD (sCons (eC (.int 0)) (sCons (opS gTupD (sCons (eVar 1) (sCons (eVar 1) sNil))) (sCons (opS gTupD sNil) (sCons (eC (.int 0)) sNil))))) (sCons (opS gTupD (sCons (eC (.int 0)) (sCons (opS gTupD sNil) (sCons (opS gTupD (sCons (opS gTupD (sCons (eVar 1) (sCons (eVar 1) sNil))) sNil)) (sCons (eC (.int 0)) sNil))))) (sCons (opS gTupD (sCons (eC (.int 0)) (sCons (opS gTupD (sCons (eVar 1) sNil)) (sCons (opS gTupD (sCons (opS gTupD sNil) sNil)) (sCons (eC (.int 0)) sNil))))) (sCons (opS gTupD (sCons (eC (.int 0)) (sCons (opS gTupD (sCons (eVar 1) sNil)) (sCons (opS gTupD sNil) (sCons (eC (.int 1)) sNil))))) (sCons (opS gTupD (sCons (eC (.int 0)) (sCons (opS gTupD (sCons (eC (.int 2)) (sCons (eC (.int 2)) (sCons (eVar 1) sNil)))) (sCons (opS gTupD sNil) (sCons (eC (.int 0)) sNil))))) sNil)))))))
  (sSeq (sSet 3 (opS gAdd (sCons (ePl 3) (sCons (opS gLstD (sCons (opS gTupD (sCons (eC (.int 0)) (sCons (opS gTupD sNil) (sCons (opS gTupD (sCons (opS gTupD (sCons (eC (.int 2)) (sCons (eC (.int 2)) (sCons (eVar 1) sNil)))) sNil)) (sCons (eC (.int 0)) sNil))))) (sCons (opS gTupD (sCons (eC (.int 0)) (sCons (opS gTupD (sCons (eC (.int 2)) sNil)) (sCons (opS gTupD (sCons (opS gTupD (sCons (eVar 1) sNil)) sNil)) (sCons (eC (.int 0)) sNil))))) (sCons (opS gTupD (sCons (eC (.int 0)) (sCons (opS gTupD (sCons (eC (.int 2)) (sCons (eC (.int 3)) (sCons (eVar 2) sNil)))) (sCons (opS gTupD sNil) (sCons (eC (.int 0)) sNil))))) (sCons (opS gTupD (sCons (eC (.int 0)) (sCons (opS gTupD sNil) (sCons (opS gTupD (sCons (opS gTupD (sCons (eC (.int 2)) (sCons (eC (.int 3)) (sCons (eVar 2) sNil)))) sNil)) (sCons (eC (.int 0)) sNil))))) sNil))))) sNil))))
  (sRet (eCallM 2 f_law_of 0 (sCons (opS gAdd (sCons (ePl 3) (sCons (opS gLstD (sCons (opS gTupD (sCons (eC (.int 0)) (sCons (opS gTupD (sCons (eC (.int 3)) sNil)) (sCons (opS gTupD (sCons (opS gTupD (sCons (eC (.int 2)) sNil)) sNil)) (sCons (eC (.int 0)) sNil))))) (sCons (opS gTupD (sCons (eC (.int 0)) (sCons (opS gTupD sNil) (sCons (opS gTupD sNil) (sCons (eC (.int 0)) sNil))))) (sCons (opS gTupD (sCons (eC (.int 0)) (sCons (opS gTupD sNil) (sCons (opS gTupD (sCons (opS gTupD sNil) sNil)) (sCons (eC (.int 0)) sNil))))) (sCons (opS gTupD (sCons (eC (.int 0)) (sCons (opS gTupD sNil) (sCons (opS gTupD sNil) (sCons (eC (.int 1)) sNil))))) sNil))))) sNil))) sNil)))))))
def f_law_family : Fn := fnOf 3 b_law_family
/- _law_first -/
def b_law_first : SS := (sRet (eIf (tB' (opS (gOp hNe) (sCons (ePl 0) (sCons (opS gTupD sNil) sNil)))) (opS (gOp hMinL) (sCons (eLc (itR1 (opS (gOp hLen) (sCons (ePl 0) sNil))) 1 tY (opS gAdd (sCons (eSl (ePl 0) (oI (ePl 1)) oN) (sCons (eSl (ePl 0) oN (oI (ePl 1))) sNil)))) sNil)) (opS gTupD sNil)))
def f_law_first : Fn := fnOf 1 b_law_first
/- _law_shape -/
def b_law_shape : SS := (sSeq (sAsg (opS gTupD (sCons (eLc (itOf (eVar 0)) 4 tY (eCall 1 f_law_first (sCons (eVar 4) sNil))) (sCons (eLc (itOf (eVar 0)) 4 tY (eCall 1 f_law_first (sCons (opS (gOp hRevX) (sCons (ePl 4) sNil)) sNil))) sNil))) (gT [2, 3]))
  (sSeq (sIf (tB' (eVar 1)) (sRet (opS (gOp hMin2D) (sCons (opS (gOp hTuple) (sCons (opS (gOp hSortE) (sCons (ePl 2) sNil)) sNil)) (sCons (opS (gOp hTuple) (sCons (opS (gOp hSortE) (sCons (ePl 3) sNil)) sNil)) sNil)))) sNop)
  (sRet (opS (gOp hTuple) (sCons (opS (gOp hSortE) (sCons (eLc (itR1 (opS (gOp hLen) (sCons (ePl 0) sNil))) 5 tY (opS (gOp hMin2D) (sCons (opS gIx (sCons (ePl 2) (sCons (ePl 5) sNil))) (sCons (opS gIx (sCons (ePl 3) (sCons (ePl 5) sNil))) sNil)))) sNil)) sNil)))))
def f_law_shape : Fn := fnOf 4 b_law_shape
/- _law_normal -/
def b_law_normal : SS := (sSeq (sIf (tB' (opS (gOp (hCmp fun i j => decide (j < i))) (sCons (ePl 3) (sCons (eC (.int 0)) sNil)))) (sPar 0 3 (eC (.int 0)) (opS gAdd (sCons (ePl 3) (sCons (opS gMul (sCons (eC (.int 2)) (sCons (ePl 0) sNil))) sNil)))) sNop)
  (sSeq (sSet 4 (eLc (itOf (eVar 2)) 5 tY (opS (gOp hTuple) (sCons (eLc (itOf (eVar 5)) 6 (tB' (opS (gOp (hCmp fun i j => decide (j < i))) (sCons (ePl 6) (sCons (eC (.int 1)) sNil)))) (eVar 6)) sNil))))
  (sRet (opS gTupD (sCons (eVar 0) (sCons (opS (gOp hTuple) (sCons (opS gSorted (sCons (eLc (itOf (eVar 1)) 6 (tB' (opS (gOp (hCmp fun i j => decide (j < i))) (sCons (ePl 6) (sCons (eC (.int 1)) sNil)))) (eVar 6)) sNil)) sNil)) (sCons (eCall 2 f_law_shape (sCons (eVar 4) (sCons (opS (gOp hEq) (sCons (ePl 3) (sCons (eC (.int 0)) sNil))) sNil))) (sCons (eVar 3) sNil))))))))
def f_law_normal : Fn := fnOf 3 b_law_normal
/- _law_near -/
def b_law_near : SS := (sSeq (sAsg (eVar 1) (gT [2, 3, 4, 5]))
  (sSeq (sAsg (opS gTupD (sCons (opS gAdd (sCons (eC (.int 2)) (sCons (eCallM 2 f_law_draw 0 (sCons (eC (.int 8)) sNil)) sNil))) (sCons (eCallM 2 f_law_draw 0 (sCons (eC (.int 6)) sNil)) sNil))) (gT [6, 7]))
  (sSeq (sIf (tB' (opS (gOp hEq) (sCons (ePl 7) (sCons (eC (.int 0)) sNil)))) (sSet 3 (opS gAdd (sCons (ePl 3) (sCons (opS gTupD (sCons (eVar 6) sNil)) sNil)))) sNop)
  (sSeq (sIf (tB' (opS (gOp hEq) (sCons (ePl 7) (sCons (eC (.int 1)) sNil)))) (sSet 3 (eSl (ePl 3) (oI (eC (.int 1))) oN)) sNop)
  (sSeq (sIf (tB' (opS (gOp hEq) (sCons (ePl 7) (sCons (eC (.int 2)) sNil)))) (sSet 4 (opS (gOp hTuple) (sCons (eLc (itOf (eVar 4)) 8 tY (opS gAdd (sCons (ePl 8) (sCons (opS gTupD (sCons (eVar 6) sNil)) sNil)))) sNil))) sNop)
  (sSeq (sIf (tB' (opS (gOp hEq) (sCons (ePl 7) (sCons (eC (.int 3)) sNil)))) (sSet 4 (opS (gOp hTuple) (sCons (eLc (itOf (eVar 4)) 8 tY (eSl (ePl 8) (oI (eC (.int 1))) oN)) sNil))) sNop)
  (sSeq (sIf (tB' (opS (gOp hEq) (sCons (ePl 7) (sCons (eC (.int 4)) sNil)))) (sSet 4 (eCallM 2 f_law_of 0 (sCons (opS gLstD (sCons (opS gAdd (sCons (ePl 4) (sCons (opS gTupD (sCons (opS gTupD sNil) sNil)) sNil))) (sCons (eSl (ePl 4) (oI (eC (.int 1))) oN) (sCons (opS gTupD (sCons (opS gTupD (sCons (eVar 6) sNil)) sNil)) sNil)))) sNil))) sNop)
  (sSeq (sIf (tB' (opS (gOp hEq) (sCons (ePl 7) (sCons (eC (.int 5)) sNil)))) (sPar 2 5 (eCallM 2 f_law_of 0 (sCons (opS gLstD (sCons (eC (.int 0)) (sCons (eC (.int 0)) (sCons (eC (.int 1)) sNil)))) sNil)) (opS gAdd (sCons (ePl 5) (sCons (eCallM 2 f_law_draw 0 (sCons (eC (.int 2)) sNil)) sNil)))) sNop)
  (sRet (eCall 4 f_law_normal (sCons (eVar 2) (sCons (eVar 3) (sCons (eVar 4) (sCons (eVar 5) sNil))))))))))))))
def f_law_near : Fn := fnOf 7 b_law_near
/- times -/
def b_times : SS := (sRet (eCall 2 f_ratio (sCons (opS gMul (sCons (opS gIx (sCons (ePl 0) (sCons (eC (.int 0)) sNil))) (sCons (opS gIx (sCons (ePl 1) (sCons (eC (.int 0)) sNil))) sNil))) (sCons (opS gMul (sCons (opS gIx (sCons (ePl 0) (sCons (eC (.int 1)) sNil))) (sCons (opS gIx (sCons (ePl 1) (sCons (eC (.int 1)) sNil))) sNil))) sNil))))
def f_times : Fn := fnOf 0 b_times
/- is_bad -/
def b_is_bad : SS := (sSeq (sAsg (eVar 0) (gT [1, 2, 3, 4]))
  (sSeq (sIf (tOr' (tB' (opS (gOp (hCmp fun i j => decide (j < i))) (sCons (ePl 1) (sCons (eC (.int 0)) sNil)))) (tOr' (tB' (opS (gOp (hCmp fun i j => decide (j < i))) (sCons (ePl 4) (sCons (eC (.int 0)) sNil)))) (tB' (opS (gOp (hCmp fun i j => decide (j < i))) (sCons (opS (gOp hLen) (sCons (ePl 3) sNil)) (sCons (eC (.int 1)) sNil)))))) (sRet (eC (.bool false))) sNop)
  (sSeq (sIf (tAnd' (tB' (opS (gOp hNe) (sCons (ePl 3) (sCons (opS gTupD sNil) sNil)))) (tB' (opS (gOp hNe) (sCons (ePl 2) (sCons (opS gTupD sNil) sNil))))) (sRet (eC (.bool false))) sNop)
  (sSeq (sSet 5 (eIf (tB' (opS (gOp hEq) (sCons (ePl 3) (sCons (opS gTupD sNil) sNil)))) (eVar 2) (opS gIx (sCons (ePl 3) (sCons (eC (.int 0)) sNil)))))
  (sRet (eOr (opS (gOp hEq) (sCons (opS (gOp hLen) (sCons (ePl 5) sNil)) (sCons (eC (.int 1)) sNil))) (eAnd (opS (gOp hEq) (sCons (opS (gOp hLen) (sCons (ePl 5) sNil)) (sCons (eC (.int 2)) sNil))) (opS (gOp hNe) (sCons (opS gIx (sCons (ePl 5) (sCons (eC (.int 0)) sNil))) (sCons (opS gIx (sCons (ePl 5) (sCons (eC (.int 1)) sNil))) sNil))))))))))
def f_is_bad : Fn := fnOf 5 b_is_bad
/- sign_of -/
def b_sign_of : SS := (sSeq (sIf (tB' (opS (gOp (hCmp fun i j => decide (j < i))) (sCons (opS gIx (sCons (ePl 0) (sCons (eC (.int 0)) sNil))) (sCons (eC (.int 0)) sNil)))) (sRet (eC (.int 1))) sNop)
  (sRet (eIf (tB' (opS (gOp (hCmp fun i j => decide (i < j))) (sCons (opS gIx (sCons (ePl 0) (sCons (eC (.int 0)) sNil))) (sCons (eC (.int 0)) sNil)))) (opS (gOp hNeg) (sCons (eC (.int 1)) sNil)) (eC (.int 0)))))
def f_sign_of : Fn := fnOf 0 b_sign_of
/- side_of -/
def b_side_of : SS := (sSeq (sIf (tB' (eCall 1 f_is_bad (sCons (eVar 0) sNil))) (sRet (eC (.str "bad"))) sNop)
  (sRet (opS gIx (sCons (opS gTupD (sCons (eC (.str "saddle")) (sCons (eC (.str "plane")) (sCons (eC (.str "ball")) sNil)))) (sCons (opS gAdd (sCons (eCall 1 f_sign_of (sCons (eCall 1 f_name_sum (sCons (eVar 0) sNil)) sNil)) (sCons (eC (.int 1)) sNil))) sNil)))))
def f_side_of : Fn := fnOf 0 b_side_of
/- _law_turned_count -/
def b_law_turned_count : SS := (sSeq (sIf (tB' (opS (gOp (hCmp fun i j => decide (i < j))) (sCons (opS (gOp hLen) (sCons (ePl 0) sNil)) (sCons (eC (.int 3)) sNil)))) (sSeq (sAsg (eIf (tOr' (tB' (opS (gOp hEq) (sCons (ePl 0) (sCons (opS gTupD sNil) sNil)))) (tB' (opS (gOp hEq) (sCons (opS (gOp hLen) (sCons (ePl 0) sNil)) (sCons (eC (.int 2)) sNil))))) (eSl (opS gAdd (sCons (ePl 0) (sCons (opS gTupD (sCons (eC (.int 1)) (sCons (eC (.int 1)) sNil))) sNil))) oN (oI (eC (.int 2)))) (opS gTupD (sCons (eC (.int 1)) (sCons (opS gIx (sCons (ePl 0) (sCons (eC (.int 0)) sNil))) sNil)))) (gT [1, 2]))
  (sRet (eIf (tB' (opS (gOp hEq) (sCons (ePl 1) (sCons (ePl 2) sNil)))) (eVar 1) (eC (.int 0))))) sNop)
  (sSeq (sIf (tOr' (tB' (opS (gOp (hCmp fun i j => decide (j < i))) (sCons (opS (gOp hLen) (sCons (ePl 0) sNil)) (sCons (eC (.int 3)) sNil)))) (tB' (opS (gOp (hCmp fun i j => decide (j < i))) (sCons (opS gIx (sCons (ePl 0) (sCons (eC (.int 0)) sNil))) (sCons (eC (.int 2)) sNil))))) (sRet (eC (.int 0))) sNop)
  (sSeq (sIf (tB' (opS (gOp hEq) (sCons (opS gIx (sCons (ePl 0) (sCons (eC (.int 1)) sNil))) (sCons (eC (.int 2)) sNil)))) (sRet (opS gMul (sCons (eC (.int 2)) (sCons (opS gIx (sCons (ePl 0) (sCons (eC (.int 2)) sNil))) sNil)))) sNop)
  (sSeq (sIf (tOr' (tB' (opS (gOp (hCmp fun i j => decide (j < i))) (sCons (opS gIx (sCons (ePl 0) (sCons (eC (.int 1)) sNil))) (sCons (eC (.int 3)) sNil)))) (tB' (opS (gOp (hCmp fun i j => decide (j < i))) (sCons (opS gIx (sCons (ePl 0) (sCons (eC (.int 2)) sNil))) (sCons (eC (.int 5)) sNil))))) (sRet (eC (.int 0))) sNop)
  (sRet (opS gIx (sCons (eDspl [.inl 3, .inl 4, .inl 5] [(eC (.int 12)), (eC (.int 24)), (eC (.int 60))]) (sCons (opS gIx (sCons (ePl 0) (sCons (eC (.int 2)) sNil))) sNil))))))))
def f_law_turned_count : Fn := fnOf 2 b_law_turned_count
/- _law_count -/
def b_law_count : SS := (sSeq (sAsg (eVar 0) (gT [1, 2, 3, 4]))
  (sSeq (sIf (tOr' (tB' (opS (gOp (hCmp fun i j => decide (j < i))) (sCons (ePl 1) (sCons (eC (.int 0)) sNil)))) (tOr' (tB' (opS (gOp (hCmp fun i j => decide (j < i))) (sCons (ePl 4) (sCons (eC (.int 1)) sNil)))) (tOr' (tB' (opS (gOp (hCmp fun i j => decide (j < i))) (sCons (opS (gOp hLen) (sCons (ePl 3) sNil)) (sCons (eC (.int 1)) sNil)))) (tB' (opS (gOp (hCmp fun i j => decide (j < i))) (sCons (opS gAdd (sCons (ePl 4) (sCons (opS (gOp hLen) (sCons (ePl 3) sNil)) sNil))) (sCons (eC (.int 1)) sNil))))))) (sRet (eC (.int 0))) sNop)
  (sSeq (sIf (tB' (opS (gOp hEq) (sCons (ePl 4) (sCons (eC (.int 1)) sNil)))) (sRet (eIf (tB' (opS (gOp (hCmp fun i j => decide (i < j))) (sCons (opS (gOp hLen) (sCons (ePl 2) sNil)) (sCons (eC (.int 2)) sNil)))) (opS gMul (sCons (eC (.int 2)) (sCons (eIf (tB' (opS (gOp hNe) (sCons (ePl 2) (sCons (opS gTupD sNil) sNil)))) (opS gIx (sCons (ePl 2) (sCons (eC (.int 0)) sNil))) (eC (.int 1))) sNil))) (eC (.int 0)))) sNop)
  (sSeq (sIf (tB' (opS (gOp hEq) (sCons (ePl 3) (sCons (opS gTupD sNil) sNil)))) (sRet (eCall 1 f_law_turned_count (sCons (eVar 2) sNil))) sNop)
  (sSeq (sIf (tB' (opS (gOp hEq) (sCons (ePl 2) (sCons (opS gTupD sNil) sNil)))) (sRet (opS gMul (sCons (eC (.int 2)) (sCons (eCall 1 f_law_turned_count (sCons (opS (gOp hTuple) (sCons (opS (gOp hSortedT) (sCons (opS gIx (sCons (ePl 3) (sCons (eC (.int 0)) sNil))) sNil)) sNil)) sNil)) sNil)))) sNop)
  (sSeq (sIf (tAnd' (tB' (opS (gOp hEq) (sCons (opS (gOp hLen) (sCons (ePl 2) sNil)) (sCons (eC (.int 1)) sNil)))) (tB' (opS (gOp hEq) (sCons (ePl 3) (sCons (opS gTupD (sCons (opS gTupD sNil) sNil)) sNil))))) (sRet (opS gMul (sCons (eC (.int 2)) (sCons (opS gIx (sCons (ePl 2) (sCons (eC (.int 0)) sNil))) sNil)))) sNop)
  (sSeq (sIf (tAnd' (tB' (opS (gOp hEq) (sCons (ePl 2) (sCons (opS gTupD (sCons (eC (.int 2)) sNil)) sNil)))) (tB' (opS (gOp hEq) (sCons (opS (gOp hLen) (sCons (opS gIx (sCons (ePl 3) (sCons (eC (.int 0)) sNil))) sNil)) (sCons (eC (.int 1)) sNil))))) (sRet (opS gMul (sCons (eC (.int 4)) (sCons (opS gIx (sCons (opS gIx (sCons (ePl 3) (sCons (eC (.int 0)) sNil))) (sCons (eC (.int 0)) sNil))) sNil)))) sNop)
  (sRet (eIf (tAnd' (tB' (opS (gOp hEq) (sCons (ePl 2) (sCons (opS gTupD (sCons (eC (.int 3)) sNil)) sNil)))) (tB' (opS (gOp hEq) (sCons (ePl 3) (sCons (opS gTupD (sCons (opS gTupD (sCons (eC (.int 2)) sNil)) sNil)) sNil))))) (eC (.int 24)) (eC (.int 0)))))))))))
def f_law_count : Fn := fnOf 4 b_law_count
/- _law_is_bad -/
def b_law_is_bad : SS := (sSeq (sAsg (eVar 0) (gT [1, 2, 3, 4]))
  (sSeq (sIf (tOr' (tB' (opS (gOp (hCmp fun i j => decide (j < i))) (sCons (opS gAdd (sCons (ePl 1) (sCons (ePl 4) sNil))) (sCons (eC (.int 0)) sNil)))) (tOr' (tB' (opS (gOp (hCmp fun i j => decide (j < i))) (sCons (opS (gOp hLen) (sCons (ePl 3) sNil)) (sCons (eC (.int 1)) sNil)))) (tAnd' (tB' (opS (gOp hNe) (sCons (ePl 3) (sCons (opS gTupD sNil) sNil)))) (tB' (opS (gOp hNe) (sCons (ePl 2) (sCons (opS gTupD sNil) sNil))))))) (sRet (eC (.bool false))) sNop)
  (sSeq (sSet 5 (eIf (tB' (opS (gOp hEq) (sCons (ePl 3) (sCons (opS gTupD sNil) sNil)))) (eVar 2) (opS gIx (sCons (ePl 3) (sCons (eC (.int 0)) sNil)))))
  (sRet (eOr (opS (gOp hEq) (sCons (opS (gOp hLen) (sCons (ePl 5) sNil)) (sCons (eC (.int 1)) sNil))) (eAnd (opS (gOp hEq) (sCons (opS (gOp hLen) (sCons (ePl 5) sNil)) (sCons (eC (.int 2)) sNil))) (opS (gOp hNe) (sCons (opS gIx (sCons (ePl 5) (sCons (eC (.int 0)) sNil))) (sCons (opS gIx (sCons (ePl 5) (sCons (eC (.int 1)) sNil))) sNil)))))))))
def f_law_is_bad : Fn := fnOf 5 b_law_is_bad
/- _law_right -/
def b_law_right : SS := (sSeq (sPar 1 2 (eCall 1 f_law_count (sCons (eVar 0) sNil)) (eCall 1 f_law_is_bad (sCons (eVar 0) sNil)))
  (sSeq (sSet 3 (eCall 1 f_side_of (sCons (eVar 0) sNil)))
  (sSeq (sIf (tOr' (tB' (opS (gOp hNe) (sCons (opS (gOp hEq) (sCons (ePl 3) (sCons (eC (.str "ball")) sNil))) (sCons (opS (gOp (hCmp fun i j => decide (j < i))) (sCons (ePl 1) (sCons (eC (.int 0)) sNil))) sNil)))) (tNot' (tB' (eCall 2 f_law_like (sCons (opS gLstD (sCons (eCall 1 f_is_bad (sCons (eVar 0) sNil)) (sCons (opS (gOp hEq) (sCons (ePl 3) (sCons (eC (.str "bad")) sNil))) sNil))) (sCons (opS gLstD (sCons (eVar 2) (sCons (eVar 2) sNil))) sNil)))))) (sRet (eC (.bool false))) sNop)
  (sSeq (sIf (tB' (opS (gOp hEq) (sCons (ePl 1) (sCons (eC (.int 0)) sNil)))) (sRet (eC (.bool true))) sNop)
  (sRet (eCall 2 f_law_like (sCons (opS gLstD (sCons (eCall 1 f_ball_count (sCons (eVar 0) sNil)) (sCons (eCall 2 f_times (sCons (eCall 2 f_ratio (sCons (eVar 1) (sCons (eC (.int 1)) sNil))) (sCons (eCall 1 f_name_sum (sCons (eVar 0) sNil)) sNil))) sNil))) (sCons (opS gLstD (sCons (eVar 1) (sCons (opS gTupD (sCons (eC (.int 4)) (sCons (eC (.int 1)) sNil))) sNil))) sNil))))))))
def f_law_right : Fn := fnOf 3 b_law_right
/- law -/
abbrev lawBody : SS := (sIf (tNot' (tB' (eCall 1 f_law_right (sCons (eVar 2) sNil)))) (sRet (eC (.bool false))) sNop)
abbrev lawBody2 : SS := (sSeq (sSet 2 (eCallM 1 f_law_family 6 sNil))
  (sIf (tOr' (tNot' (tB' (eCall 1 f_law_right (sCons (eVar 2) sNil)))) (tOr' (tNot' (tB' (eCall 1 f_law_right (sCons (eCallM 2 f_law_near 6 (sCons (eVar 2) sNil)) sNil)))) (tNot' (tB' (eCall 1 f_law_right (sCons (eCallM 2 f_law_near 6 (sCons (eCallM 2 f_law_near 6 (sCons (eVar 2) sNil)) sNil)) sNil)))))) (sRet (eC (.bool false))) sNop))
abbrev lawBody1 : SS := (sSeq (sSet 6 (eCall 2 f_law_begun (sCons (eVar 0) (sCons (eVar 5) sNil))))
  (sFor (itR1 (eC (.int 4))) (gN 7) lawBody2))
def b_law : SS := (sSeq (sSet 1 (opS gLstD (sCons (opS gTupD (sCons (eC (.int 0)) (sCons (opS gTupD sNil) (sCons (opS gTupD sNil) (sCons (eC (.int 0)) sNil))))) (sCons (opS gTupD (sCons (eC (.int 0)) (sCons (opS gTupD sNil) (sCons (opS gTupD (sCons (opS gTupD sNil) sNil)) (sCons (eC (.int 0)) sNil))))) (sCons (opS gTupD (sCons (eC (.int 0)) (sCons (opS gTupD sNil) (sCons (opS gTupD sNil) (sCons (eC (.int 1)) sNil))))) (sCons (opS gTupD (sCons (eC (.int 0)) (sCons (opS gTupD (sCons (eC (.int 5)) sNil)) (sCons (opS gTupD sNil) (sCons (eC (.int 1)) sNil))))) (sCons (opS gTupD (sCons (eC (.int 0)) (sCons (opS gTupD (sCons (eC (.int 2)) (sCons (eC (.int 2)) (sCons (eC (.int 9999)) sNil)))) (sCons (opS gTupD sNil) (sCons (eC (.int 0)) sNil))))) (sCons (opS gTupD (sCons (eC (.int 0)) (sCons (opS gTupD sNil) (sCons (opS gTupD (sCons (opS gTupD (sCons (eC (.int 2)) (sCons (eC (.int 3)) (sCons (eC (.int 5)) sNil)))) sNil)) (sCons (eC (.int 0)) sNil))))) sNil))))))))
  (sSeq (sSet 1 (opS gAdd (sCons (ePl 1) (sCons (opS gLstD (sCons (opS gTupD (sCons (eC (.int 0)) (sCons (opS gTupD (sCons (eC (.int 3)) sNil)) (sCons (opS gTupD (sCons (opS gTupD (sCons (eC (.int 2)) sNil)) sNil)) (sCons (eC (.int 0)) sNil))))) (sCons (opS gTupD (sCons (eC (.int 0)) (sCons (opS gTupD (sCons (eC (.int 2)) (sCons (eC (.int 3)) sNil))) (sCons (opS gTupD sNil) (sCons (eC (.int 0)) sNil))))) (sCons (opS gTupD (sCons (eC (.int 0)) (sCons (opS gTupD sNil) (sCons (opS gTupD (sCons (opS gTupD (sCons (eC (.int 4)) sNil)) sNil)) (sCons (eC (.int 0)) sNil))))) (sCons (opS gTupD (sCons (eC (.int 0)) (sCons (opS gTupD (sCons (eC (.int 2)) sNil)) (sCons (opS gTupD (sCons (opS gTupD (sCons (eC (.int 7)) sNil)) sNil)) (sCons (eC (.int 0)) sNil))))) (sCons (opS gTupD (sCons (eC (.int 0)) (sCons (opS gTupD (sCons (eC (.int 2)) (sCons (eC (.int 3)) (sCons (eC (.int 6)) sNil)))) (sCons (opS gTupD sNil) (sCons (eC (.int 0)) sNil))))) sNil)))))) sNil))))
  (sSeq (sFor (itOf (eVar 1)) (gN 2) lawBody)
  (sSeq (sSet 3 (opS gLstD (sCons (opS gTupD (sCons (opS gIx (sCons (ePl 1) (sCons (eC (.int 0)) sNil))) (sCons (eC (.int 1)) sNil))) (sCons (opS gTupD (sCons (opS gIx (sCons (ePl 1) (sCons (eC (.int 1)) sNil))) (sCons (eC (.int 2)) sNil))) (sCons (opS gTupD (sCons (opS gIx (sCons (ePl 1) (sCons (eC (.int 3)) sNil))) (sCons (eC (.int 10)) sNil))) (sCons (opS gTupD (sCons (opS gIx (sCons (ePl 1) (sCons (eC (.int 4)) sNil))) (sCons (eC (.int 19998)) sNil))) (sCons (opS gTupD (sCons (opS gIx (sCons (ePl 1) (sCons (eC (.int 5)) sNil))) (sCons (eC (.int 120)) sNil))) (sCons (opS gTupD (sCons (opS gIx (sCons (ePl 1) (sCons (eC (.int 6)) sNil))) (sCons (eC (.int 24)) sNil))) (sCons (opS gTupD (sCons (opS gIx (sCons (ePl 1) (sCons (eC (.int 9)) sNil))) (sCons (eC (.int 28)) sNil))) sNil)))))))))
  (sSeq (sIf (tNot' (tB' (eCall 2 f_law_like (sCons (eLcQ (itOf (eVar 3)) 2 4 tY (eCall 1 f_ball_count (sCons (eVar 2) sNil))) (sCons (eLcQ (itOf (eVar 3)) 2 4 tY (eVar 4)) sNil))))) (sRet (eC (.bool false))) sNop)
  (sSeq (sFor (itR1 (opS (gOp hMin) (sCons (opS (gOp hLen) (sCons (ePl 0) sNil)) (sCons (eC (.int 3)) sNil)))) (gN 5) lawBody1)
  (sRet (eC (.bool true)))))))))
def f_law : Fn := fnOf 7 b_law
/-! ### mathematics: sizes, tests -/
theorem szOk_le {n : Nat} (h : n ≤ 1000000) : szOk n = true := decide_eq_true h
theorem szOk_0 : szOk 0 = true := by decide
theorem szOk_1 : szOk 1 = true := by decide
theorem szOk_2 : szOk 2 = true := by decide
theorem szOk_3 : szOk 3 = true := by decide
theorem szOk_4 : szOk 4 = true := by decide
theorem szOk_5 : szOk 5 = true := by decide
theorem hCmp_ii (g : Int → Int → Bool) (i j : Int) : hCmp g [.int i, .int j] = some (.d (.bool (g i j))) := rfl
def pd (k : Nat) (d : D) : Prop := d.canLay0 = true ∧ d.depth ≤ k
theorem pd_int (k : Nat) (i : Int) : pd k (.int i) := ⟨by simp [PyData.canLay0], by simp [PyData.depth]⟩
theorem pd_bool (k : Nat) (i : Bool) : pd k (.bool i) := ⟨by simp [PyData.canLay0], by simp [PyData.depth]⟩
theorem pd_all {k : Nat} : ∀ {l : List D}, (∀ x ∈ l, pd k x) → PyData.canLayAll0 l = true ∧ PyData.depthAll l ≤ k
  | [], _ => ⟨by simp [PyData.canLayAll0], by simp [PyData.depthAll]⟩
  | x :: l, h => by
    obtain ⟨a, b⟩ := pd_all (l := l) fun y hy => h y (List.mem_cons_of_mem _ hy)
    obtain ⟨c, d⟩ := h x List.mem_cons_self
    refine ⟨by simp [PyData.canLayAll0, a, c], ?_⟩
    simp only [PyData.depthAll]
    omega
theorem pd_list {k : Nat} {l : List D} (h : ∀ x ∈ l, pd k x) : pd (k + 1) (.list l) := by
  obtain ⟨a, b⟩ := pd_all h
  exact ⟨by simp [PyData.canLay0, a], by simp only [PyData.depth]; omega⟩
theorem pd_tuple {k : Nat} {l : List D} (h : ∀ x ∈ l, pd k x) : pd (k + 1) (.tuple l) := by
  obtain ⟨a, b⟩ := pd_all h
  exact ⟨by simp [PyData.canLay0, a], by simp only [PyData.depth]; omega⟩
theorem pd_sh {k : Nat} {d : D} (h : pd k d) (hk : k ≤ 64) : SeqAt.shaped d = true := by
  unfold SeqAt.shaped
  rw [h.1, Bool.true_and]
  exact decide_eq_true (Nat.le_trans h.2 hk)
theorem pd_ints (l : List Int) : ∀ x ∈ l.map PyData.int, pd 0 x := fun x h => by
  obtain ⟨i, _, rfl⟩ := List.mem_map.mp h
  exact pd_int 0 i
theorem sh_int (i : Int) : SeqAt.shaped (.int i) = true := pd_sh (pd_int 0 i) (by decide)
theorem sh_bool (i : Bool) : SeqAt.shaped (.bool i) = true := pd_sh (pd_bool 0 i) (by decide)
theorem sh_ints (l : List Int) : SeqAt.shaped (.list (l.map PyData.int)) = true := pd_sh (pd_list (pd_ints l)) (by decide)
theorem sh_intsT (l : List Int) : SeqAt.shaped (.tuple (l.map PyData.int)) = true := pd_sh (pd_tuple (pd_ints l)) (by decide)
theorem sh_nil : SeqAt.shaped (.list []) = true := sh_ints []
theorem sh_pair (i j : Int) : SeqAt.shaped (.tuple [.int i, .int j]) = true := sh_intsT [i, j]
theorem eqv_int (i j : Int) : PyData.eqv (.int i) (.int j) = decide (i = j) := by
  simp only [PyData.eqv]
  by_cases h : i = j
  · subst h; simp
  · simp [h]
theorem eqv_bool (i j : Bool) : PyData.eqv (.bool i) (.bool j) = (i == j) := by simp only [PyData.eqv]
theorem eqvA_ints : ∀ (l m : List Int), PyData.eqvAll (l.map .int) (m.map .int) = decide (l = m)
  | [], [] => rfl
  | [], _ :: _ => by simp [PyData.eqvAll]
  | _ :: _, [] => by simp [PyData.eqvAll]
  | x :: l, y :: m => by
    simp only [List.map_cons, PyData.eqvAll, eqv_int, eqvA_ints l m, List.cons.injEq]
    by_cases h : x = y <;> by_cases h2 : l = m <;> simp [h, h2]
theorem eqv_ints (l m : List Int) : PyData.eqv (.list (l.map .int)) (.list (m.map .int)) = decide (l = m) := by
  simp only [PyData.eqv]; exact eqvA_ints l m
theorem eqv_intsT (l m : List Int) : PyData.eqv (.tuple (l.map .int)) (.tuple (m.map .int)) = decide (l = m) := by
  simp only [PyData.eqv]; exact eqvA_ints l m
theorem eqv_pair (i j a b : Int) : PyData.eqv (.tuple [.int i, .int j]) (.tuple [.int a, .int b]) = decide (i = a ∧ j = b) := by
  have h := eqv_intsT [i, j] [a, b]
  simp only [List.map_cons, List.map_nil, List.cons.injEq, and_true] at h
  exact h
theorem small_lt {i : Int} {k : Nat} (h : i.natAbs < 2 ^ k) (hk : 0 < k) : i.natAbs.log2 < k := by
  by_cases e : i.natAbs = 0
  · rw [e]; simpa using hk
  · exact (Nat.log2_lt e).mpr h
theorem mulOk_b {i j : Int} {a b : Nat} (hi : i.natAbs < 2 ^ a) (hj : j.natAbs < 2 ^ b) (ha : 0 < a) (hb : 0 < b) (h : a + b ≤ 1000000) : mulOk i j = true := by
  have h1 := small_lt hi ha
  have h2 := small_lt hj hb
  exact mulOk_iff.mpr (.inr (.inr (by omega)))
theorem divOk_b {j : Int} {k : Nat} (h0 : j ≠ 0) (h : j.natAbs < 2 ^ k) (hk : 0 < k) (hk2 : k ≤ 9000) : divOk j = true := decide_eq_true ⟨h0, Nat.lt_of_lt_of_le (small_lt h hk) hk2⟩
theorem divOk_l {j : Int} (h0 : 0 < j) (h : j < 1000000000000000000000000000000) : divOk j = true := divOk_b (k := 100) (by omega) (by omega) (by decide) (by decide)
theorem fmod_nn {a b : Int} (h : 0 < b) : 0 ≤ a.fmod b := Int.fmod_nonneg_of_pos a h
theorem fmod_lt {a b : Int} (h : 0 < b) : a.fmod b < b := Int.fmod_lt_of_pos a h
theorem atI_ints {l : List Int} {i : Int} (h0 : 0 ≤ i) (h1 : i < l.length) : ∃ c, atI (l.map PyData.int) i = some (.int c) ∧ c ∈ l := by
  have hl : i.toNat < l.length := by omega
  refine ⟨l[i.toNat], ?_, List.getElem_mem hl⟩
  unfold atI ixN
  rw [List.length_map, if_pos h0, if_pos h1]
  show (l.map PyData.int)[i.toNat]? = _
  rw [List.getElem?_map, List.getElem?_eq_getElem hl]
  rfl
/-! ### draws -/
/-- the law's dict of cells, with at most n draws behind it -/
def Good (n : Int) (m : O) : Prop := ∃ (l s : Int) (cs : List Int) (p : Int), m = .dct (mL (.int l) (.int s) (.list (cs.map .int)) (.int p)) ∧ cs ≠ [] ∧ 0 ≤ p ∧ p ≤ n
theorem draw_eq {n b : Int} {m : O} (g : Good n m) (hn : n < 1000000000) (hb : 0 < b) (hb2 : b < 1000000000000000000000000000000) : ∃ v m', f_law_draw [.mu m, .im (.int b)] = some (.im (.int v), [.mu m', .un]) ∧ 0 ≤ v ∧ v < b ∧ Good (n + 1) m' := by
  obtain ⟨l, s, cs, p, rfl, hc, hp0, hp1⟩ := g
  have hb0 : decide (b ≠ 0) = true := decide_eq_true (by omega)
  have hd := divOk_l hb hb2
  unfold f_law_draw b_law_draw
  by_cases hl : 0 < l
  · refine ⟨l.fmod b, .dct (mL (.int (l.fdiv b)) (.int s) (.list (cs.map .int)) (.int p)), ?_, fmod_nn hb, fmod_lt hb, _, _, _, _, rfl, hc, hp0, by omega⟩
    simp only [sNop_ap, row?_ap, eRowM_ap, sRowSub_ap, eRowLen_ap, eRowNil_ap, isUn_un, ixN3_0, ixN3_1, ixN3_2, gRowsD_ap, rowsOf_nil, rowsOf_cons, eMeth_ap, isL_l, isS_s, mAppend_ap, mExtend_ap, ownL_fr, gIn_ap, ownDct_fr, gT_apL, hSorted, hTuple, hList, hRev, hRevX, hEqS, sSeq_ap, sBrk_ap, sCnt_ap, sRet_ap, sRetN_ap, sDrop_ap, sIf_ap, sSet_ap, isMu_ap, sAsg_ap, gN_ap, gT_ap, gTs, sPar_ap, sSub_ap, own?_ap, putO_t, putO_f, sAug_ap, sFor_ap, eC_ap, eVar_ap, ePl_ap, eMv_ap, opS_ap, sNil_ap, sCons_ap, gOp_ap, vws_nil, vws_cons, vw_im, vw_fr, vw_frd, vw_frs, vw_frr, vw_pl, view_l, view_d, view_s, view_r, rs_d, rs_l, sl_im, sl_fr, fz_im, fz_fr, fzs_nil, fzs_cons, toD_l, toD_r, gTupD_ap, gLstD_ap, gIx_ap, gDGet_ap, ownDct_pl, keyOf_i, keyOf_s, gMul_ap, tB_ap, tNot_ap, tAnd_ap, tOr_ap, eNot_ap, eAnd_ap, eOr_ap, eIf_ap, tY_ap, eSl_ap, oN_ap, oI_ap, itOf_ap, itR1_ap, itR2_ap, eLc_ap, isIm_ap, eCall_ap, eCallM_ap, fnOf_ap, isPl_im, isPl_fr, eDspl_ap, sArgs_nil, sArgs_cons, mkD_nil, mkD_cons, keepMu_mu, keepMu_im, projS_nil, projS_cons, hAdd, hSub, hMul, hDiv, hMod, hPow, hNeg, hCmp, hEq, hNe, hIsN, hNotN, hIx, hLen, hInt, hAbs, hGcd, hMin, hMax, hCut, isi_ii, isi_ib, isi_tt, isi_ll, isM_un, isM_im, isM_ow, isM_mu, List.getElem?_cons_zero, List.getElem?_cons_succ, List.getElem?_nil, List.set_cons_zero, List.set_cons_succ, List.length_cons, List.length_nil, List.length_map, List.replicate_succ, List.replicate_zero, List.cons_append, List.nil_append, List.map_cons, List.map_nil, Nat.reduceAdd, Nat.zero_add, ne_eq, not_true_eq_false, not_false_eq_true, decide_false, decide_true, Bool.or_self, Bool.or_false, Bool.false_or, Bool.and_self, Bool.false_eq_true, if_false, if_true, reduceIte, szOk_2, szOk_1, szOk_0, szOk_3, lk_left, lk_seed, lk_cells, lk_spot, pt_left, pt_spot, len_mL, mSet, true_and, and_true, List.getD_eq_getElem?_getD, Option.getD_some, seqOf_l, seqOf_t, ↓hIx_sq, ↓hLen_sq, seqOf_sq, ↓hTuple_sq, fz_fr2, gRep_ap, eq_self, gSorted_ap, gSortD_ap, gSortS_ap, ownSet_pl, eDict1_ap, eChain_ap, gInD_ap, gInS_ap, mPop_ap, mAdd_ap, eSet0_ap, sWhile_ap, itEnumX_ap, eM2_ap, eTR1_ap, eLR1_ap, hLtD, gDGetT_ap, ownDctT_pl, gInT_ap, keyT_t, keysOf_nil, keysOf_cons, eDctT0_ap, view_dT, eDict1T_ap, hIsB, hNotB, sPar3_ap, hCmp_ii, hl, hb0, hd, szOk_5]
  · have hlen : (cs.map PyData.int).length = cs.length := List.length_map _
    have hpos : 0 < cs.length := List.length_pos_iff.mpr hc
    have hne : decide ((cs.length : Int) ≠ 0) = true := decide_eq_true (by omega)
    have hne1 : decide ((2147483647 : Int) ≠ 0) = true := by decide
    have hne2 : decide ((2147483629 : Int) ≠ 0) = true := by decide
    have hd11 : divOk 11 = true := by decide
    obtain ⟨c, hat, hcm⟩ := atI_ints (l := cs) (i := p.fmod cs.length) (fmod_nn (by omega)) (fmod_lt (by omega))
    have m1 : mulOk 40503 p = true := mulOk_l (by decide) (by decide)
    have m2 : mulOk (40503 * p) p = true := mulOk_r (by omega) (by omega)
    have m3 : mulOk 2 p = true := mulOk_l (by decide) (by decide)
    have m4 : mulOk c (2 * p + 3) = true := mulOk_r (by omega) (by omega)
    have m6 : mulOk 69621 p = true := mulOk_l (by decide) (by decide)
    have m7 : ∀ x : Int, mulOk x 48271 = true := fun x => mulOk_r (by decide) (by decide)
    have q1 := fmod_nn (a := c * (2 * p + 3) + (s + 40503 * p * p)) (b := 2147483647) (by decide)
    have q2 := fmod_lt (a := c * (2 * p + 3) + (s + 40503 * p * p)) (b := 2147483647) (by decide)
    generalize hx : (c * (2 * p + 3) + (s + 40503 * p * p)).fmod 2147483647 = x at q1 q2
    generalize hy : (x * x + 69621 * p + s).fmod 2147483629 = y
    have m5 : mulOk x x = true := mulOk_l (by omega) (by omega)
    refine ⟨(((y * 48271 + p).fmod 2147483647).fdiv 11).fmod b, .dct (mL (.int l) (.int s) (.list (cs.map .int)) (.int (p + 1))), ?_, fmod_nn hb, fmod_lt hb, _, _, _, _, rfl, hc, by omega, by omega⟩
    simp only [sNop_ap, row?_ap, eRowM_ap, sRowSub_ap, eRowLen_ap, eRowNil_ap, isUn_un, ixN3_0, ixN3_1, ixN3_2, gRowsD_ap, rowsOf_nil, rowsOf_cons, eMeth_ap, isL_l, isS_s, mAppend_ap, mExtend_ap, ownL_fr, gIn_ap, ownDct_fr, gT_apL, hSorted, hTuple, hList, hRev, hRevX, hEqS, sSeq_ap, sBrk_ap, sCnt_ap, sRet_ap, sRetN_ap, sDrop_ap, sIf_ap, sSet_ap, isMu_ap, sAsg_ap, gN_ap, gT_ap, gTs, sPar_ap, sSub_ap, own?_ap, putO_t, putO_f, sAug_ap, sFor_ap, eC_ap, eVar_ap, ePl_ap, eMv_ap, opS_ap, sNil_ap, sCons_ap, gOp_ap, vws_nil, vws_cons, vw_im, vw_fr, vw_frd, vw_frs, vw_frr, vw_pl, view_l, view_d, view_s, view_r, rs_d, rs_l, sl_im, sl_fr, fz_im, fz_fr, fzs_nil, fzs_cons, toD_l, toD_r, gTupD_ap, gLstD_ap, gIx_ap, gDGet_ap, ownDct_pl, keyOf_i, keyOf_s, gMul_ap, tB_ap, tNot_ap, tAnd_ap, tOr_ap, eNot_ap, eAnd_ap, eOr_ap, eIf_ap, tY_ap, eSl_ap, oN_ap, oI_ap, itOf_ap, itR1_ap, itR2_ap, eLc_ap, isIm_ap, eCall_ap, eCallM_ap, fnOf_ap, isPl_im, isPl_fr, eDspl_ap, sArgs_nil, sArgs_cons, mkD_nil, mkD_cons, keepMu_mu, keepMu_im, projS_nil, projS_cons, hAdd, hSub, hMul, hDiv, hMod, hPow, hNeg, hCmp, hEq, hNe, hIsN, hNotN, hIx, hLen, hInt, hAbs, hGcd, hMin, hMax, hCut, isi_ii, isi_ib, isi_tt, isi_ll, isM_un, isM_im, isM_ow, isM_mu, List.getElem?_cons_zero, List.getElem?_cons_succ, List.getElem?_nil, List.set_cons_zero, List.set_cons_succ, List.length_cons, List.length_nil, List.length_map, List.replicate_succ, List.replicate_zero, List.cons_append, List.nil_append, List.map_cons, List.map_nil, Nat.reduceAdd, Nat.zero_add, ne_eq, not_true_eq_false, not_false_eq_true, decide_false, decide_true, Bool.or_self, Bool.or_false, Bool.false_or, Bool.and_self, Bool.false_eq_true, if_false, if_true, reduceIte, szOk_2, szOk_1, szOk_0, szOk_3, lk_left, lk_seed, lk_cells, lk_spot, pt_left, pt_spot, len_mL, mSet, true_and, and_true, List.getD_eq_getElem?_getD, Option.getD_some, seqOf_l, seqOf_t, ↓hIx_sq, ↓hLen_sq, seqOf_sq, ↓hTuple_sq, fz_fr2, gRep_ap, eq_self, gSorted_ap, gSortD_ap, gSortS_ap, ownSet_pl, eDict1_ap, eChain_ap, gInD_ap, gInS_ap, mPop_ap, mAdd_ap, eSet0_ap, sWhile_ap, itEnumX_ap, eM2_ap, eTR1_ap, eLR1_ap, hLtD, gDGetT_ap, ownDctT_pl, gInT_ap, keyT_t, keysOf_nil, keysOf_cons, eDctT0_ap, view_dT, eDict1T_ap, hIsB, hNotB, sPar3_ap, hCmp_ii, hl, hb0, hd, szOk_5, hne, hne1, hne2, hd11, hat, hx, hy, m1, m2, m3, m4, m5, m6, m7]

/-! ### the cells -/
theorem great_eq (a b c : Sl) : ∀ l : List Int, lcL 4 (tB' (opS (gOp (hCmp fun i j => decide (j ≤ i))) (sCons (ePl 4) (sCons (opS (gOp hPow) (sCons (eC (.int 10)) (sCons (eC (.int 18)) sNil))) sNil)))) (eVar 4) (l.map PyData.int) [a, b, c, .un, .un, .un] =
    some ((l.filter fun i => decide (1000000000000000000 ≤ i)).map PyData.int, [a, b, c, .un, .un, .un])
  | [] => rfl
  | i :: l => by
    have ih := great_eq a b c l
    have hp : powOk 10 18 = true := by decide
    have hv : ((10 : Int) ^ (18 : Int).toNat) = 1000000000000000000 := by decide
    by_cases hi : (1000000000000000000 : Int) ≤ i
    · simp only [List.map_cons, lcL, sNop_ap, row?_ap, eRowM_ap, sRowSub_ap, eRowLen_ap, eRowNil_ap, isUn_un, ixN3_0, ixN3_1, ixN3_2, gRowsD_ap, rowsOf_nil, rowsOf_cons, eMeth_ap, isL_l, isS_s, mAppend_ap, mExtend_ap, ownL_fr, gIn_ap, ownDct_fr, gT_apL, hSorted, hTuple, hList, hRev, hRevX, hEqS, sSeq_ap, sBrk_ap, sCnt_ap, sRet_ap, sRetN_ap, sDrop_ap, sIf_ap, sSet_ap, isMu_ap, sAsg_ap, gN_ap, gT_ap, gTs, sPar_ap, sSub_ap, own?_ap, putO_t, putO_f, sAug_ap, sFor_ap, eC_ap, eVar_ap, ePl_ap, eMv_ap, opS_ap, sNil_ap, sCons_ap, gOp_ap, vws_nil, vws_cons, vw_im, vw_fr, vw_frd, vw_frs, vw_frr, vw_pl, view_l, view_d, view_s, view_r, rs_d, rs_l, sl_im, sl_fr, fz_im, fz_fr, fzs_nil, fzs_cons, toD_l, toD_r, gTupD_ap, gLstD_ap, gIx_ap, gDGet_ap, ownDct_pl, keyOf_i, keyOf_s, gMul_ap, tB_ap, tNot_ap, tAnd_ap, tOr_ap, eNot_ap, eAnd_ap, eOr_ap, eIf_ap, tY_ap, eSl_ap, oN_ap, oI_ap, itOf_ap, itR1_ap, itR2_ap, eLc_ap, isIm_ap, eCall_ap, eCallM_ap, fnOf_ap, isPl_im, isPl_fr, eDspl_ap, sArgs_nil, sArgs_cons, mkD_nil, mkD_cons, keepMu_mu, keepMu_im, projS_nil, projS_cons, hAdd, hSub, hMul, hDiv, hMod, hPow, hNeg, hCmp, hEq, hNe, hIsN, hNotN, hIx, hLen, hInt, hAbs, hGcd, hMin, hMax, hCut, isi_ii, isi_ib, isi_tt, isi_ll, isM_un, isM_im, isM_ow, isM_mu, List.getElem?_cons_zero, List.getElem?_cons_succ, List.getElem?_nil, List.set_cons_zero, List.set_cons_succ, List.length_cons, List.length_nil, List.length_map, List.replicate_succ, List.replicate_zero, List.cons_append, List.nil_append, List.map_cons, List.map_nil, Nat.reduceAdd, Nat.zero_add, ne_eq, not_true_eq_false, not_false_eq_true, decide_false, decide_true, Bool.or_self, Bool.or_false, Bool.false_or, Bool.and_self, Bool.false_eq_true, if_false, if_true, reduceIte, szOk_2, szOk_1, szOk_0, szOk_3, lk_left, lk_seed, lk_cells, lk_spot, pt_left, pt_spot, len_mL, mSet, true_and, and_true, List.getD_eq_getElem?_getD, Option.getD_some, seqOf_l, seqOf_t, ↓hIx_sq, ↓hLen_sq, seqOf_sq, ↓hTuple_sq, fz_fr2, gRep_ap, eq_self, gSorted_ap, gSortD_ap, gSortS_ap, ownSet_pl, eDict1_ap, eChain_ap, gInD_ap, gInS_ap, mPop_ap, mAdd_ap, eSet0_ap, sWhile_ap, itEnumX_ap, eM2_ap, eTR1_ap, eLR1_ap, hLtD, gDGetT_ap, ownDctT_pl, gInT_ap, keyT_t, keysOf_nil, keysOf_cons, eDctT0_ap, view_dT, eDict1T_ap, hIsB, hNotB, sPar3_ap, hp, hv, hi, hCmp_ii, ih, List.filter_cons]
    · simp only [List.map_cons, lcL, sNop_ap, row?_ap, eRowM_ap, sRowSub_ap, eRowLen_ap, eRowNil_ap, isUn_un, ixN3_0, ixN3_1, ixN3_2, gRowsD_ap, rowsOf_nil, rowsOf_cons, eMeth_ap, isL_l, isS_s, mAppend_ap, mExtend_ap, ownL_fr, gIn_ap, ownDct_fr, gT_apL, hSorted, hTuple, hList, hRev, hRevX, hEqS, sSeq_ap, sBrk_ap, sCnt_ap, sRet_ap, sRetN_ap, sDrop_ap, sIf_ap, sSet_ap, isMu_ap, sAsg_ap, gN_ap, gT_ap, gTs, sPar_ap, sSub_ap, own?_ap, putO_t, putO_f, sAug_ap, sFor_ap, eC_ap, eVar_ap, ePl_ap, eMv_ap, opS_ap, sNil_ap, sCons_ap, gOp_ap, vws_nil, vws_cons, vw_im, vw_fr, vw_frd, vw_frs, vw_frr, vw_pl, view_l, view_d, view_s, view_r, rs_d, rs_l, sl_im, sl_fr, fz_im, fz_fr, fzs_nil, fzs_cons, toD_l, toD_r, gTupD_ap, gLstD_ap, gIx_ap, gDGet_ap, ownDct_pl, keyOf_i, keyOf_s, gMul_ap, tB_ap, tNot_ap, tAnd_ap, tOr_ap, eNot_ap, eAnd_ap, eOr_ap, eIf_ap, tY_ap, eSl_ap, oN_ap, oI_ap, itOf_ap, itR1_ap, itR2_ap, eLc_ap, isIm_ap, eCall_ap, eCallM_ap, fnOf_ap, isPl_im, isPl_fr, eDspl_ap, sArgs_nil, sArgs_cons, mkD_nil, mkD_cons, keepMu_mu, keepMu_im, projS_nil, projS_cons, hAdd, hSub, hMul, hDiv, hMod, hPow, hNeg, hCmp, hEq, hNe, hIsN, hNotN, hIx, hLen, hInt, hAbs, hGcd, hMin, hMax, hCut, isi_ii, isi_ib, isi_tt, isi_ll, isM_un, isM_im, isM_ow, isM_mu, List.getElem?_cons_zero, List.getElem?_cons_succ, List.getElem?_nil, List.set_cons_zero, List.set_cons_succ, List.length_cons, List.length_nil, List.length_map, List.replicate_succ, List.replicate_zero, List.cons_append, List.nil_append, List.map_cons, List.map_nil, Nat.reduceAdd, Nat.zero_add, ne_eq, not_true_eq_false, not_false_eq_true, decide_false, decide_true, Bool.or_self, Bool.or_false, Bool.false_or, Bool.and_self, Bool.false_eq_true, if_false, if_true, reduceIte, szOk_2, szOk_1, szOk_0, szOk_3, lk_left, lk_seed, lk_cells, lk_spot, pt_left, pt_spot, len_mL, mSet, true_and, and_true, List.getD_eq_getElem?_getD, Option.getD_some, seqOf_l, seqOf_t, ↓hIx_sq, ↓hLen_sq, seqOf_sq, ↓hTuple_sq, fz_fr2, gRep_ap, eq_self, gSorted_ap, gSortD_ap, gSortS_ap, ownSet_pl, eDict1_ap, eChain_ap, gInD_ap, gInS_ap, mPop_ap, mAdd_ap, eSet0_ap, sWhile_ap, itEnumX_ap, eM2_ap, eTR1_ap, eLR1_ap, hLtD, gDGetT_ap, ownDctT_pl, gInT_ap, keyT_t, keysOf_nil, keysOf_cons, eDctT0_ap, view_dT, eDict1T_ap, hIsB, hNotB, sPar3_ap, hp, hv, hi, hCmp_ii, ih, List.filter_cons]
theorem seed_eq (a b c d : Sl) : ∀ (l : List Int) (e : Sl) (s : Int), isM e = false → ∃ e' s', forL (gN 4) law_begunBody (l.map PyData.int) [a, b, c, d, e, .im (.int s)] =
    some (.nx [a, b, c, d, e', .im (.int s')])
  | [], e, s, _ => ⟨e, s, rfl⟩
  | i :: l, e, s, he => by
    have m : mulOk s 48271 = true := mulOk_r (by decide) (by decide)
    have hne1 : decide ((2147483647 : Int) ≠ 0) = true := by decide
    obtain ⟨e', s', h⟩ := seed_eq a b c d l (.im (.int i)) ((s * 48271 + i).fmod 2147483647) rfl
    refine ⟨e', s', ?_⟩
    cases e with
    | mu o => cases he
    | un => simp only [List.map_cons, forL, sNop_ap, row?_ap, eRowM_ap, sRowSub_ap, eRowLen_ap, eRowNil_ap, isUn_un, ixN3_0, ixN3_1, ixN3_2, gRowsD_ap, rowsOf_nil, rowsOf_cons, eMeth_ap, isL_l, isS_s, mAppend_ap, mExtend_ap, ownL_fr, gIn_ap, ownDct_fr, gT_apL, hSorted, hTuple, hList, hRev, hRevX, hEqS, sSeq_ap, sBrk_ap, sCnt_ap, sRet_ap, sRetN_ap, sDrop_ap, sIf_ap, sSet_ap, isMu_ap, sAsg_ap, gN_ap, gT_ap, gTs, sPar_ap, sSub_ap, own?_ap, putO_t, putO_f, sAug_ap, sFor_ap, eC_ap, eVar_ap, ePl_ap, eMv_ap, opS_ap, sNil_ap, sCons_ap, gOp_ap, vws_nil, vws_cons, vw_im, vw_fr, vw_frd, vw_frs, vw_frr, vw_pl, view_l, view_d, view_s, view_r, rs_d, rs_l, sl_im, sl_fr, fz_im, fz_fr, fzs_nil, fzs_cons, toD_l, toD_r, gTupD_ap, gLstD_ap, gIx_ap, gDGet_ap, ownDct_pl, keyOf_i, keyOf_s, gMul_ap, tB_ap, tNot_ap, tAnd_ap, tOr_ap, eNot_ap, eAnd_ap, eOr_ap, eIf_ap, tY_ap, eSl_ap, oN_ap, oI_ap, itOf_ap, itR1_ap, itR2_ap, eLc_ap, isIm_ap, eCall_ap, eCallM_ap, fnOf_ap, isPl_im, isPl_fr, eDspl_ap, sArgs_nil, sArgs_cons, mkD_nil, mkD_cons, keepMu_mu, keepMu_im, projS_nil, projS_cons, hAdd, hSub, hMul, hDiv, hMod, hPow, hNeg, hCmp, hEq, hNe, hIsN, hNotN, hIx, hLen, hInt, hAbs, hGcd, hMin, hMax, hCut, isi_ii, isi_ib, isi_tt, isi_ll, isM_un, isM_im, isM_ow, isM_mu, List.getElem?_cons_zero, List.getElem?_cons_succ, List.getElem?_nil, List.set_cons_zero, List.set_cons_succ, List.length_cons, List.length_nil, List.length_map, List.replicate_succ, List.replicate_zero, List.cons_append, List.nil_append, List.map_cons, List.map_nil, Nat.reduceAdd, Nat.zero_add, ne_eq, not_true_eq_false, not_false_eq_true, decide_false, decide_true, Bool.or_self, Bool.or_false, Bool.false_or, Bool.and_self, Bool.false_eq_true, if_false, if_true, reduceIte, szOk_2, szOk_1, szOk_0, szOk_3, lk_left, lk_seed, lk_cells, lk_spot, pt_left, pt_spot, len_mL, mSet, true_and, and_true, List.getD_eq_getElem?_getD, Option.getD_some, seqOf_l, seqOf_t, ↓hIx_sq, ↓hLen_sq, seqOf_sq, ↓hTuple_sq, fz_fr2, gRep_ap, eq_self, gSorted_ap, gSortD_ap, gSortS_ap, ownSet_pl, eDict1_ap, eChain_ap, gInD_ap, gInS_ap, mPop_ap, mAdd_ap, eSet0_ap, sWhile_ap, itEnumX_ap, eM2_ap, eTR1_ap, eLR1_ap, hLtD, gDGetT_ap, ownDctT_pl, gInT_ap, keyT_t, keysOf_nil, keysOf_cons, eDctT0_ap, view_dT, eDict1T_ap, hIsB, hNotB, sPar3_ap, m, hne1, h]
    | im d => simp only [List.map_cons, forL, sNop_ap, row?_ap, eRowM_ap, sRowSub_ap, eRowLen_ap, eRowNil_ap, isUn_un, ixN3_0, ixN3_1, ixN3_2, gRowsD_ap, rowsOf_nil, rowsOf_cons, eMeth_ap, isL_l, isS_s, mAppend_ap, mExtend_ap, ownL_fr, gIn_ap, ownDct_fr, gT_apL, hSorted, hTuple, hList, hRev, hRevX, hEqS, sSeq_ap, sBrk_ap, sCnt_ap, sRet_ap, sRetN_ap, sDrop_ap, sIf_ap, sSet_ap, isMu_ap, sAsg_ap, gN_ap, gT_ap, gTs, sPar_ap, sSub_ap, own?_ap, putO_t, putO_f, sAug_ap, sFor_ap, eC_ap, eVar_ap, ePl_ap, eMv_ap, opS_ap, sNil_ap, sCons_ap, gOp_ap, vws_nil, vws_cons, vw_im, vw_fr, vw_frd, vw_frs, vw_frr, vw_pl, view_l, view_d, view_s, view_r, rs_d, rs_l, sl_im, sl_fr, fz_im, fz_fr, fzs_nil, fzs_cons, toD_l, toD_r, gTupD_ap, gLstD_ap, gIx_ap, gDGet_ap, ownDct_pl, keyOf_i, keyOf_s, gMul_ap, tB_ap, tNot_ap, tAnd_ap, tOr_ap, eNot_ap, eAnd_ap, eOr_ap, eIf_ap, tY_ap, eSl_ap, oN_ap, oI_ap, itOf_ap, itR1_ap, itR2_ap, eLc_ap, isIm_ap, eCall_ap, eCallM_ap, fnOf_ap, isPl_im, isPl_fr, eDspl_ap, sArgs_nil, sArgs_cons, mkD_nil, mkD_cons, keepMu_mu, keepMu_im, projS_nil, projS_cons, hAdd, hSub, hMul, hDiv, hMod, hPow, hNeg, hCmp, hEq, hNe, hIsN, hNotN, hIx, hLen, hInt, hAbs, hGcd, hMin, hMax, hCut, isi_ii, isi_ib, isi_tt, isi_ll, isM_un, isM_im, isM_ow, isM_mu, List.getElem?_cons_zero, List.getElem?_cons_succ, List.getElem?_nil, List.set_cons_zero, List.set_cons_succ, List.length_cons, List.length_nil, List.length_map, List.replicate_succ, List.replicate_zero, List.cons_append, List.nil_append, List.map_cons, List.map_nil, Nat.reduceAdd, Nat.zero_add, ne_eq, not_true_eq_false, not_false_eq_true, decide_false, decide_true, Bool.or_self, Bool.or_false, Bool.false_or, Bool.and_self, Bool.false_eq_true, if_false, if_true, reduceIte, szOk_2, szOk_1, szOk_0, szOk_3, lk_left, lk_seed, lk_cells, lk_spot, pt_left, pt_spot, len_mL, mSet, true_and, and_true, List.getD_eq_getElem?_getD, Option.getD_some, seqOf_l, seqOf_t, ↓hIx_sq, ↓hLen_sq, seqOf_sq, ↓hTuple_sq, fz_fr2, gRep_ap, eq_self, gSorted_ap, gSortD_ap, gSortS_ap, ownSet_pl, eDict1_ap, eChain_ap, gInD_ap, gInS_ap, mPop_ap, mAdd_ap, eSet0_ap, sWhile_ap, itEnumX_ap, eM2_ap, eTR1_ap, eLR1_ap, hLtD, gDGetT_ap, ownDctT_pl, gInT_ap, keyT_t, keysOf_nil, keysOf_cons, eDctT0_ap, view_dT, eDict1T_ap, hIsB, hNotB, sPar3_ap, m, hne1, h]
    | ow o => simp only [List.map_cons, forL, sNop_ap, row?_ap, eRowM_ap, sRowSub_ap, eRowLen_ap, eRowNil_ap, isUn_un, ixN3_0, ixN3_1, ixN3_2, gRowsD_ap, rowsOf_nil, rowsOf_cons, eMeth_ap, isL_l, isS_s, mAppend_ap, mExtend_ap, ownL_fr, gIn_ap, ownDct_fr, gT_apL, hSorted, hTuple, hList, hRev, hRevX, hEqS, sSeq_ap, sBrk_ap, sCnt_ap, sRet_ap, sRetN_ap, sDrop_ap, sIf_ap, sSet_ap, isMu_ap, sAsg_ap, gN_ap, gT_ap, gTs, sPar_ap, sSub_ap, own?_ap, putO_t, putO_f, sAug_ap, sFor_ap, eC_ap, eVar_ap, ePl_ap, eMv_ap, opS_ap, sNil_ap, sCons_ap, gOp_ap, vws_nil, vws_cons, vw_im, vw_fr, vw_frd, vw_frs, vw_frr, vw_pl, view_l, view_d, view_s, view_r, rs_d, rs_l, sl_im, sl_fr, fz_im, fz_fr, fzs_nil, fzs_cons, toD_l, toD_r, gTupD_ap, gLstD_ap, gIx_ap, gDGet_ap, ownDct_pl, keyOf_i, keyOf_s, gMul_ap, tB_ap, tNot_ap, tAnd_ap, tOr_ap, eNot_ap, eAnd_ap, eOr_ap, eIf_ap, tY_ap, eSl_ap, oN_ap, oI_ap, itOf_ap, itR1_ap, itR2_ap, eLc_ap, isIm_ap, eCall_ap, eCallM_ap, fnOf_ap, isPl_im, isPl_fr, eDspl_ap, sArgs_nil, sArgs_cons, mkD_nil, mkD_cons, keepMu_mu, keepMu_im, projS_nil, projS_cons, hAdd, hSub, hMul, hDiv, hMod, hPow, hNeg, hCmp, hEq, hNe, hIsN, hNotN, hIx, hLen, hInt, hAbs, hGcd, hMin, hMax, hCut, isi_ii, isi_ib, isi_tt, isi_ll, isM_un, isM_im, isM_ow, isM_mu, List.getElem?_cons_zero, List.getElem?_cons_succ, List.getElem?_nil, List.set_cons_zero, List.set_cons_succ, List.length_cons, List.length_nil, List.length_map, List.replicate_succ, List.replicate_zero, List.cons_append, List.nil_append, List.map_cons, List.map_nil, Nat.reduceAdd, Nat.zero_add, ne_eq, not_true_eq_false, not_false_eq_true, decide_false, decide_true, Bool.or_self, Bool.or_false, Bool.false_or, Bool.and_self, Bool.false_eq_true, if_false, if_true, reduceIte, szOk_2, szOk_1, szOk_0, szOk_3, lk_left, lk_seed, lk_cells, lk_spot, pt_left, pt_spot, len_mL, mSet, true_and, and_true, List.getD_eq_getElem?_getD, Option.getD_some, seqOf_l, seqOf_t, ↓hIx_sq, ↓hLen_sq, seqOf_sq, ↓hTuple_sq, fz_fr2, gRep_ap, eq_self, gSorted_ap, gSortD_ap, gSortS_ap, ownSet_pl, eDict1_ap, eChain_ap, gInD_ap, gInS_ap, mPop_ap, mAdd_ap, eSet0_ap, sWhile_ap, itEnumX_ap, eM2_ap, eTR1_ap, eLR1_ap, hLtD, gDGetT_ap, ownDctT_pl, gInT_ap, keyT_t, keysOf_nil, keysOf_cons, eDctT0_ap, view_dT, eDict1T_ap, hIsB, hNotB, sPar3_ap, m, hne1, h]
theorem begun_eq (ns : List Int) (k : Int) (hn : ns.length ≤ 1000) : ∃ m, f_law_begun [.im (.list (ns.map PyData.int)), .im (.int k)] = some (.fr m, [.un, .un]) ∧ Good 0 m := by
  have hm : mulOk 53 k = true := mulOk_l (by decide) (by decide)
  have l1 := cut_any ns (some k) none
  have l2 := cut_any ns none (some k)
  generalize e1 : cutD ns (some k) none = u at l1
  generalize e2 : cutD ns none (some k) = v at l2
  have c1 : cutD (ns.map PyData.int) (some k) none = u.map PyData.int := by rw [cutD_map, e1]
  have c2 : cutD (ns.map PyData.int) none (some k) = v.map PyData.int := by rw [cutD_map, e2]
  have z1 : szOk (u.length + v.length) = true := szOk_le (by omega)
  have z2 : szOk (u ++ v).length = true := szOk_le (by rw [List.length_append]; omega)
  have z3 : szOk ((u ++ v).length + 1) = true := szOk_le (by rw [List.length_append]; omega)
  have g := great_eq (.im (.list (ns.map PyData.int))) (.im (.int k)) (.im (.list ((u ++ v).map PyData.int))) (u ++ v)
  generalize e3 : ((u ++ v).filter fun i => decide (1000000000000000000 ≤ i)) = gr at g
  obtain ⟨e', s', hs⟩ := seed_eq (.im (.list (ns.map PyData.int))) (.im (.int k)) (.im (.list ((u ++ v).map PyData.int))) (.ow (.lst (gr.map PyData.int))) (u ++ v) .un (71 + k) rfl
  have ap : u.map PyData.int ++ v.map PyData.int = (u ++ v).map PyData.int := by rw [List.map_append]
  have ap1 : (u ++ v).map PyData.int ++ [PyData.int (53 * k + 11)] = ((u ++ v) ++ [53 * k + 11]).map PyData.int := by rw [List.map_append (l₁ := u ++ v)]; rfl
  have nd : decide (([.inr "left", .inr "seed", .inr "cells", .inr "spot"] : List Key).Nodup) = true := by decide
  have mk : ∀ l s c p : D, [((.inr "left" : Key), l), (.inr "seed", s), (.inr "cells", c), (.inr "spot", p)] = mL l s c p := fun _ _ _ _ => rfl
  cases gr with
  | nil =>
    refine ⟨.dct (mL (.int 0) (.int s') (.list (((u ++ v) ++ [53 * k + 11]).map .int)) (.int 0)), ?_, _, _, _, _, rfl, by simp, by decide, by decide⟩
    have sh : SeqAt.shaped (.list []) = true := sh_nil
    have ev : PyData.eqv (.list []) (.list []) = true := by decide
    rw [List.map_nil] at g hs
    unfold f_law_begun b_law_begun
    simp only [sNop_ap, row?_ap, eRowM_ap, sRowSub_ap, eRowLen_ap, eRowNil_ap, isUn_un, ixN3_0, ixN3_1, ixN3_2, gRowsD_ap, rowsOf_nil, rowsOf_cons, eMeth_ap, isL_l, isS_s, mAppend_ap, mExtend_ap, ownL_fr, gIn_ap, ownDct_fr, gT_apL, hSorted, hTuple, hList, hRev, hRevX, hEqS, sSeq_ap, sBrk_ap, sCnt_ap, sRet_ap, sRetN_ap, sDrop_ap, sIf_ap, sSet_ap, isMu_ap, sAsg_ap, gN_ap, gT_ap, gTs, sPar_ap, sSub_ap, own?_ap, putO_t, putO_f, sAug_ap, sFor_ap, eC_ap, eVar_ap, ePl_ap, eMv_ap, opS_ap, sNil_ap, sCons_ap, gOp_ap, vws_nil, vws_cons, vw_im, vw_fr, vw_frd, vw_frs, vw_frr, vw_pl, view_l, view_d, view_s, view_r, rs_d, rs_l, sl_im, sl_fr, fz_im, fz_fr, fzs_nil, fzs_cons, toD_l, toD_r, gTupD_ap, gLstD_ap, gIx_ap, gDGet_ap, ownDct_pl, keyOf_i, keyOf_s, gMul_ap, tB_ap, tNot_ap, tAnd_ap, tOr_ap, eNot_ap, eAnd_ap, eOr_ap, eIf_ap, tY_ap, eSl_ap, oN_ap, oI_ap, itOf_ap, itR1_ap, itR2_ap, eLc_ap, isIm_ap, eCall_ap, eCallM_ap, fnOf_ap, isPl_im, isPl_fr, eDspl_ap, sArgs_nil, sArgs_cons, mkD_nil, mkD_cons, keepMu_mu, keepMu_im, projS_nil, projS_cons, hAdd, hSub, hMul, hDiv, hMod, hPow, hNeg, hCmp, hEq, hNe, hIsN, hNotN, hIx, hLen, hInt, hAbs, hGcd, hMin, hMax, hCut, isi_ii, isi_ib, isi_tt, isi_ll, isM_un, isM_im, isM_ow, isM_mu, List.getElem?_cons_zero, List.getElem?_cons_succ, List.getElem?_nil, List.set_cons_zero, List.set_cons_succ, List.length_cons, List.length_nil, List.length_map, List.replicate_succ, List.replicate_zero, List.cons_append, List.nil_append, List.map_cons, List.map_nil, Nat.reduceAdd, Nat.zero_add, ne_eq, not_true_eq_false, not_false_eq_true, decide_false, decide_true, Bool.or_self, Bool.or_false, Bool.false_or, Bool.and_self, Bool.false_eq_true, if_false, if_true, reduceIte, szOk_2, szOk_1, szOk_0, szOk_3, lk_left, lk_seed, lk_cells, lk_spot, pt_left, pt_spot, len_mL, mSet, true_and, and_true, List.getD_eq_getElem?_getD, Option.getD_some, seqOf_l, seqOf_t, ↓hIx_sq, ↓hLen_sq, seqOf_sq, ↓hTuple_sq, fz_fr2, gRep_ap, eq_self, gSorted_ap, gSortD_ap, gSortS_ap, ownSet_pl, eDict1_ap, eChain_ap, gInD_ap, gInS_ap, mPop_ap, mAdd_ap, eSet0_ap, sWhile_ap, itEnumX_ap, eM2_ap, eTR1_ap, eLR1_ap, hLtD, gDGetT_ap, ownDctT_pl, gInT_ap, keyT_t, keysOf_nil, keysOf_cons, eDctT0_ap, view_dT, eDict1T_ap, hIsB, hNotB, sPar3_ap, hm, c1, c2, z1, z2, z3, ap, g, hs, sh, ev, ap1, nd, mk, Bool.not_true, List.getD, Option.getD]
  | cons x gr =>
    refine ⟨.dct (mL (.int x) (.int s') (.list (((u ++ v) ++ [53 * k + 11]).map .int)) (.int 0)), ?_, _, _, _, _, rfl, by simp, by decide, by decide⟩
    have sh : SeqAt.shaped (.list []) = true := sh_nil
    have sh2 : SeqAt.shaped (.list (PyData.int x :: gr.map PyData.int)) = true := sh_ints (x :: gr)
    have ev : PyData.eqv (.list (PyData.int x :: gr.map PyData.int)) (.list []) = false := eqv_ints (x :: gr) []
    have at0 : atI (PyData.int x :: gr.map PyData.int) 0 = some (.int x) := by
      unfold atI ixN
      rw [if_pos (by decide), if_pos (by rw [List.length_cons]; omega)]
      rfl
    rw [List.map_cons] at g hs
    unfold f_law_begun b_law_begun
    simp only [sNop_ap, row?_ap, eRowM_ap, sRowSub_ap, eRowLen_ap, eRowNil_ap, isUn_un, ixN3_0, ixN3_1, ixN3_2, gRowsD_ap, rowsOf_nil, rowsOf_cons, eMeth_ap, isL_l, isS_s, mAppend_ap, mExtend_ap, ownL_fr, gIn_ap, ownDct_fr, gT_apL, hSorted, hTuple, hList, hRev, hRevX, hEqS, sSeq_ap, sBrk_ap, sCnt_ap, sRet_ap, sRetN_ap, sDrop_ap, sIf_ap, sSet_ap, isMu_ap, sAsg_ap, gN_ap, gT_ap, gTs, sPar_ap, sSub_ap, own?_ap, putO_t, putO_f, sAug_ap, sFor_ap, eC_ap, eVar_ap, ePl_ap, eMv_ap, opS_ap, sNil_ap, sCons_ap, gOp_ap, vws_nil, vws_cons, vw_im, vw_fr, vw_frd, vw_frs, vw_frr, vw_pl, view_l, view_d, view_s, view_r, rs_d, rs_l, sl_im, sl_fr, fz_im, fz_fr, fzs_nil, fzs_cons, toD_l, toD_r, gTupD_ap, gLstD_ap, gIx_ap, gDGet_ap, ownDct_pl, keyOf_i, keyOf_s, gMul_ap, tB_ap, tNot_ap, tAnd_ap, tOr_ap, eNot_ap, eAnd_ap, eOr_ap, eIf_ap, tY_ap, eSl_ap, oN_ap, oI_ap, itOf_ap, itR1_ap, itR2_ap, eLc_ap, isIm_ap, eCall_ap, eCallM_ap, fnOf_ap, isPl_im, isPl_fr, eDspl_ap, sArgs_nil, sArgs_cons, mkD_nil, mkD_cons, keepMu_mu, keepMu_im, projS_nil, projS_cons, hAdd, hSub, hMul, hDiv, hMod, hPow, hNeg, hCmp, hEq, hNe, hIsN, hNotN, hIx, hLen, hInt, hAbs, hGcd, hMin, hMax, hCut, isi_ii, isi_ib, isi_tt, isi_ll, isM_un, isM_im, isM_ow, isM_mu, List.getElem?_cons_zero, List.getElem?_cons_succ, List.getElem?_nil, List.set_cons_zero, List.set_cons_succ, List.length_cons, List.length_nil, List.length_map, List.replicate_succ, List.replicate_zero, List.cons_append, List.nil_append, List.map_cons, List.map_nil, Nat.reduceAdd, Nat.zero_add, ne_eq, not_true_eq_false, not_false_eq_true, decide_false, decide_true, Bool.or_self, Bool.or_false, Bool.false_or, Bool.and_self, Bool.false_eq_true, if_false, if_true, reduceIte, szOk_2, szOk_1, szOk_0, szOk_3, lk_left, lk_seed, lk_cells, lk_spot, pt_left, pt_spot, len_mL, mSet, true_and, and_true, List.getD_eq_getElem?_getD, Option.getD_some, seqOf_l, seqOf_t, ↓hIx_sq, ↓hLen_sq, seqOf_sq, ↓hTuple_sq, fz_fr2, gRep_ap, eq_self, gSorted_ap, gSortD_ap, gSortS_ap, ownSet_pl, eDict1_ap, eChain_ap, gInD_ap, gInS_ap, mPop_ap, mAdd_ap, eSet0_ap, sWhile_ap, itEnumX_ap, eM2_ap, eTR1_ap, eLR1_ap, hLtD, gDGetT_ap, ownDctT_pl, gInT_ap, keyT_t, keysOf_nil, keysOf_cons, eDctT0_ap, view_dT, eDict1T_ap, hIsB, hNotB, sPar3_ap, hm, c1, c2, z1, z2, z3, ap, g, hs, sh, sh2, ev, at0, ap1, nd, mk, Bool.not_false, List.getD, Option.getD]

/-! ### lists of flags -/
def nD (l : List Nat) : List D := l.map fun i => PyData.int (i : Nat)
def gt (l : List Nat) (i : Nat) : Nat := l.getD i 0
theorem nD_len (l : List Nat) : (nD l).length = l.length := List.length_map _
theorem nD_app (a b : List Nat) : nD (a ++ b) = nD a ++ nD b := List.map_append
theorem nD_cons (a : Nat) (b : List Nat) : nD (a :: b) = .int (a : Nat) :: nD b := rfl
theorem nD_nil : nD [] = [] := rfl
theorem nD_set (L : List Nat) (i x : Nat) : (nD L).set i (.int (x : Nat)) = nD (L.set i x) := by
  unfold nD
  rw [List.map_set]
theorem nD_ints (l : List Nat) : nD l = (l.map fun (i : Nat) => (i : Int)).map PyData.int := by
  unfold nD
  rw [List.map_map]; rfl
theorem ixN_nat {n i : Nat} (h : i < n) : ixN n (i : Int) = some i := by
  unfold ixN
  rw [if_pos (by omega), if_pos (by omega)]
  rfl
theorem at_l {α : Type} {l : List α} {i : Nat} (h : i < l.length) (d : α) : atI l (i : Int) = some (l.getD i d) := by
  unfold atI
  rw [ixN_nat h]
  show l[i]? = _
  rw [List.getD_eq_getElem?_getD, List.getElem?_eq_getElem h]
  rfl
theorem at_nD {l : List Nat} {i : Nat} (h : i < l.length) : atI (nD l) (i : Int) = some (.int (gt l i : Nat)) := by
  rw [at_l (by rw [nD_len]; exact h) (.int ((0 : Nat) : Int))]
  unfold nD gt
  rw [List.getD_eq_getElem?_getD, List.getD_eq_getElem?_getD, List.getElem?_map]
  cases l[i]? <;> rfl
theorem set_nD (l : List Nat) (i x : Nat) : (nD l).set i (.int (x : Nat)) = nD (l.set i x) := (List.map_set (f := fun i : Nat => PyData.int (i : Nat))).symm
theorem sh_nD (l : List Nat) : SeqAt.shaped (.list (nD l)) = true := by rw [nD_ints]; exact sh_ints _
theorem sh_nDT (l : List Nat) : SeqAt.shaped (.tuple (nD l)) = true := by rw [nD_ints]; exact sh_intsT _
theorem eqv_nD (l m : List Nat) : PyData.eqv (.list (nD l)) (.list (nD m)) = decide (l = m) := by
  rw [nD_ints, nD_ints, eqv_ints]
  by_cases h : l = m
  · subst h; simp
  · rw [decide_eq_false h, decide_eq_false fun z => h ((List.map_inj_right fun x y h => by omega).mp z)]
theorem eqv_nil (l : List Nat) : PyData.eqv (.list (nD l)) (.list []) = decide (l = []) := eqv_nD l []
theorem eqv_nat (i j : Nat) : PyData.eqv (.int (i : Nat)) (.int (j : Nat)) = decide (i = j) := by
  rw [eqv_int]
  by_cases h : i = j
  · subst h; simp
  · rw [decide_eq_false h, decide_eq_false (by omega)]
theorem gt_app {A L : List Nat} (i : Nat) : gt (A ++ L) i = if i < A.length then gt A i else gt L (i - A.length) := by
  unfold gt
  split
  · rename_i h
    rw [List.getD_eq_getElem?_getD, List.getD_eq_getElem?_getD, List.getElem?_append_left h]
  · rename_i h
    rw [List.getD_eq_getElem?_getD, List.getD_eq_getElem?_getD, List.getElem?_append_right (by omega)]
theorem gt_map {L : List Nat} {n k : Nat} (h : k < L.length) : gt (L.map (n + ·)) k = n + gt L k := by
  unfold gt
  rw [List.getD_eq_getElem?_getD, List.getD_eq_getElem?_getD, List.getElem?_map, List.getElem?_eq_getElem h]
  rfl
theorem gt_set {A : List Nat} {i x : Nat} (h : i < A.length) (k : Nat) : gt (A.set i x) k = if k = i then x else gt A k := by
  unfold gt
  rw [List.getD_eq_getElem?_getD, List.getD_eq_getElem?_getD]
  by_cases e : i = k
  · subst e
    rw [List.getElem?_set_self h, if_pos rfl]; rfl
  · rw [List.getElem?_set_ne e, if_neg (Ne.symm e)]
theorem gt_range {n k : Nat} (h : k < n) : gt (List.range n) k = k := by
  unfold gt
  rw [List.getD_eq_getElem?_getD, List.getElem?_range h]; rfl
theorem of_eq {n : Int} {m : O} {l : List D} (g : Good n m) (hn : n < 1000000000) (hl : l ≠ []) (hs : l.length ≤ 1000) : ∃ i m', i < l.length ∧ f_law_of [.mu m, .im (.list l)] = some (.im (l.getD i .none), [.mu m', .un]) ∧ Good (n + 1) m' := by
  have hp : 0 < l.length := List.length_pos_iff.mpr hl
  obtain ⟨v, m', e, h0, h1, g'⟩ := draw_eq (b := (l.length : Int)) g hn (by omega) (by omega)
  have hv : ((v.toNat : Nat) : Int) = v := Int.toNat_of_nonneg h0
  have hi : v.toNat < l.length := by omega
  have ha := at_l hi PyData.none
  rw [hv] at ha
  refine ⟨v.toNat, m', hi, ?_, g'⟩
  unfold f_law_of b_law_of
  simp only [sNop_ap, row?_ap, eRowM_ap, sRowSub_ap, eRowLen_ap, eRowNil_ap, isUn_un, ixN3_0, ixN3_1, ixN3_2, gRowsD_ap, rowsOf_nil, rowsOf_cons, eMeth_ap, isL_l, isS_s, mAppend_ap, mExtend_ap, ownL_fr, gIn_ap, ownDct_fr, gT_apL, hSorted, hTuple, hList, hRev, hRevX, hEqS, sSeq_ap, sBrk_ap, sCnt_ap, sRet_ap, sRetN_ap, sDrop_ap, sIf_ap, sSet_ap, isMu_ap, sAsg_ap, gN_ap, gT_ap, gTs, sPar_ap, sSub_ap, own?_ap, putO_t, putO_f, sAug_ap, sFor_ap, eC_ap, eVar_ap, ePl_ap, eMv_ap, opS_ap, sNil_ap, sCons_ap, gOp_ap, vws_nil, vws_cons, vw_im, vw_fr, vw_frd, vw_frs, vw_frr, vw_pl, view_l, view_d, view_s, view_r, rs_d, rs_l, sl_im, sl_fr, fz_im, fz_fr, fzs_nil, fzs_cons, toD_l, toD_r, gTupD_ap, gLstD_ap, gIx_ap, gDGet_ap, ownDct_pl, keyOf_i, keyOf_s, gMul_ap, tB_ap, tNot_ap, tAnd_ap, tOr_ap, eNot_ap, eAnd_ap, eOr_ap, eIf_ap, tY_ap, eSl_ap, oN_ap, oI_ap, itOf_ap, itR1_ap, itR2_ap, eLc_ap, isIm_ap, eCall_ap, eCallM_ap, fnOf_ap, isPl_im, isPl_fr, eDspl_ap, sArgs_nil, sArgs_cons, mkD_nil, mkD_cons, keepMu_mu, keepMu_im, projS_nil, projS_cons, hAdd, hSub, hMul, hDiv, hMod, hPow, hNeg, hCmp, hEq, hNe, hIsN, hNotN, hIx, hLen, hInt, hAbs, hGcd, hMin, hMax, hCut, isi_ii, isi_ib, isi_tt, isi_ll, isM_un, isM_im, isM_ow, isM_mu, List.getElem?_cons_zero, List.getElem?_cons_succ, List.getElem?_nil, List.set_cons_zero, List.set_cons_succ, List.length_cons, List.length_nil, List.length_map, List.replicate_succ, List.replicate_zero, List.cons_append, List.nil_append, List.map_cons, List.map_nil, Nat.reduceAdd, Nat.zero_add, ne_eq, not_true_eq_false, not_false_eq_true, decide_false, decide_true, Bool.or_self, Bool.or_false, Bool.false_or, Bool.and_self, Bool.false_eq_true, if_false, if_true, reduceIte, szOk_2, szOk_1, szOk_0, szOk_3, lk_left, lk_seed, lk_cells, lk_spot, pt_left, pt_spot, len_mL, mSet, true_and, and_true, List.getD_eq_getElem?_getD, Option.getD_some, seqOf_l, seqOf_t, ↓hIx_sq, ↓hLen_sq, seqOf_sq, ↓hTuple_sq, fz_fr2, gRep_ap, eq_self, gSorted_ap, gSortD_ap, gSortS_ap, ownSet_pl, eDict1_ap, eChain_ap, gInD_ap, gInS_ap, mPop_ap, mAdd_ap, eSet0_ap, sWhile_ap, itEnumX_ap, eM2_ap, eTR1_ap, eLR1_ap, hLtD, gDGetT_ap, ownDctT_pl, gInT_ap, keyT_t, keysOf_nil, keysOf_cons, eDctT0_ap, view_dT, eDict1T_ap, hIsB, hNotB, sPar3_ap, e, ha]
/-! ### the five words -/
def wN : Nat → Str
  | 0 => "four" | 1 => "zero" | 2 => "two" | 3 => "both" | _ => "one"
def wA : Nat → List Nat
  | 0 => [1, 0, 3, 2] | 1 => [1, 0] | 2 => [0, 1] | 3 => [1, 0] | _ => [0]
def wC : Nat → List Nat
  | 0 => [2, 3, 0, 1] | 1 => [0, 1] | 2 => [1, 0] | 3 => [1, 0] | _ => [0]
def wS : Nat → Nat
  | 0 => 4 | 1 => 2 | 2 => 2 | 3 => 2 | _ => 1
def m5 (a b c d e : D) : List (Key × D) := [(.inr "four", a), (.inr "zero", b), (.inr "two", c), (.inr "both", d), (.inr "one", e)]
theorem mk5 (a b c d e : D) : [((.inr "four" : Key), a), (.inr "zero", b), (.inr "two", c), (.inr "both", d), (.inr "one", e)] = m5 a b c d e := rfl
theorem nd5 : decide (([.inr "four", .inr "zero", .inr "two", .inr "both", .inr "one"] : List Key).Nodup) = true := by decide
section
variable {a b c d e : D}
theorem lk_1 : lookK (m5 a b c d e) (.inr "four") = some a := rfl
theorem lk_2 : lookK (m5 a b c d e) (.inr "zero") = some b := rfl
theorem lk_3 : lookK (m5 a b c d e) (.inr "two") = some c := rfl
theorem lk_4 : lookK (m5 a b c d e) (.inr "both") = some d := rfl
theorem lk_5 : lookK (m5 a b c d e) (.inr "one") = some e := rfl
end
theorem rn1 : rngD 0 ((1 : Nat) : Int).toNat = [.int 0] := rfl
theorem rn2 : rngD 0 ((2 : Nat) : Int).toNat = [.int 0, .int 1] := rfl
theorem rn4 : rngD 0 ((4 : Nat) : Int).toNat = [.int 0, .int 1, .int 2, .int 3] := rfl
theorem s61 : small62 ((1 : Nat) : Int) = true := by decide
theorem s62 : small62 ((2 : Nat) : Int) = true := by decide
theorem s64 : small62 ((4 : Nat) : Int) = true := by decide
def putA (j : Nat) (A : List Nat) : List Nat := A ++ (wA j).map (A.length + ·)
def putB (j : Nat) (B : List Nat) : List Nat := B ++ (List.range (wS j)).map (B.length + ·)
def putC (j : Nat) (C : List Nat) : List Nat := C ++ (wC j).map (C.length + ·)
/-! ### lists of rows of flags -/
def tuD (l : List (List Nat)) : List D := l.map fun R => .tuple (nD R)
theorem tuD_len (l : List (List Nat)) : (tuD l).length = l.length := List.length_map _
theorem pd_nDT (k : Nat) (l : List Nat) : pd (k + 1) (.tuple (nD l)) := pd_tuple fun y hy => by
  rw [nD_ints] at hy
  obtain ⟨i, _, rfl⟩ := List.mem_map.mp hy
  exact pd_int k i
theorem sh_tuD (l : List (List Nat)) : SeqAt.shaped (.tuple (tuD l)) = true := pd_sh (k := 2) (pd_tuple (k := 1) fun x hx => by
  obtain ⟨R, _, rfl⟩ := List.mem_map.mp hx
  exact pd_nDT 0 R) (by decide)
theorem eqv_nDT (l m : List Nat) : PyData.eqv (.tuple (nD l)) (.tuple (nD m)) = decide (l = m) := by
  have := eqv_nD l m
  simp only [PyData.eqv] at this ⊢
  exact this
theorem eqvA_tuD : ∀ l m : List (List Nat), PyData.eqvAll (tuD l) (tuD m) = decide (l = m)
  | [], [] => rfl
  | [], _ :: _ => by simp [tuD, PyData.eqvAll]
  | _ :: _, [] => by simp [tuD, PyData.eqvAll]
  | x :: l, y :: m => by
    have ih := eqvA_tuD l m
    show PyData.eqvAll (.tuple (nD x) :: tuD l) (.tuple (nD y) :: tuD m) = _
    simp only [PyData.eqvAll, eqv_nDT, ih, List.cons.injEq]
    by_cases h : x = y <;> by_cases h2 : l = m <;> simp [h, h2]
theorem eqv_tuD (l m : List (List Nat)) : PyData.eqv (.tuple (tuD l)) (.tuple (tuD m)) = decide (l = m) := by
  simp only [PyData.eqv]; exact eqvA_tuD l m
theorem at_tuD {l : List (List Nat)} {k : Nat} (h : k < l.length) : atI (tuD l) (k : Int) = some (.tuple (nD l[k])) := by
  rw [at_l (by rw [tuD_len]; exact h) .none]
  unfold tuD
  rw [List.getD_eq_getElem?_getD, List.getElem?_map, List.getElem?_eq_getElem h]
  rfl
theorem al_nD (l m : List Nat) : PySem.W.alike (.tuple (nD l)) (.tuple (nD m)) = true := by
  rw [nD_ints, nD_ints]
  unfold PySem.W.alike
  exact PySem.W.alike_ints _ _
theorem depth_nD (l : List Nat) : (PyData.tuple (nD l)).depth ≤ 60 := by
  have := (pd_nDT 0 l).2
  omega
theorem allAl_of {l : List D} (h1 : ∀ x ∈ l, ∀ y ∈ l, PySem.W.alike x y = true) (h2 : ∀ x ∈ l, nn x = true) (h3 : ∀ x ∈ l, x.depth ≤ 60) : allAl l = true := by
  unfold allAl
  rw [Bool.and_eq_true, Bool.and_eq_true, Nat.ble_eq, List.all_eq_true, List.all_eq_true]
  refine ⟨⟨fun x hx => by rw [List.all_eq_true]; exact fun y hy => h1 x hx y hy, h2⟩, ?_⟩
  clear h1 h2
  induction l with
  | nil => simp [PyData.depthAll]
  | cons x l ih =>
    have a1 := h3 x List.mem_cons_self
    have a2 := ih fun d hd => h3 d (List.mem_cons_of_mem _ hd)
    simp only [PyData.depthAll]
    omega
theorem allAl_tuD (L : List (List Nat)) : allAl (tuD L) = true := by
  refine allAl_of (fun x hx y hy => ?_) (fun x hx => ?_) fun x hx => ?_
  · obtain ⟨R, _, rfl⟩ := List.mem_map.mp hx
    obtain ⟨S, _, rfl⟩ := List.mem_map.mp hy
    exact al_nD R S
  · obtain ⟨R, _, rfl⟩ := List.mem_map.mp hx
    rfl
  · obtain ⟨R, _, rfl⟩ := List.mem_map.mp hx
    exact depth_nD R
/-- the members of a list of rows, as another order of the rows -/
theorem perm_map {α β : Type} {f : α → β} : ∀ {m : List β} {l : List α}, m.Perm (l.map f) → ∃ l' : List α, l'.Perm l ∧ m = l'.map f
  | [], l, h => by
    have := h.length_eq
    rw [List.length_map] at this
    have e : l = [] := List.eq_nil_of_length_eq_zero this.symm
    exact ⟨[], by rw [e], rfl⟩
  | b :: m, l, h => by
    have hb : b ∈ l.map f := h.mem_iff.mp List.mem_cons_self
    obtain ⟨a, ha, e⟩ := List.mem_map.mp hb
    obtain ⟨s, t, es⟩ := List.append_of_mem ha
    subst es e
    rw [List.map_append, List.map_cons] at h
    have h2 : m.Perm ((s ++ t).map f) := by
      rw [List.map_append]
      exact List.Perm.cons_inv (h.trans List.perm_middle)
    obtain ⟨l', p, e⟩ := perm_map h2
    exact ⟨a :: l', (List.Perm.cons a p).trans List.perm_middle.symm, by rw [List.map_cons, e]⟩
theorem sortV_perm (l : List D) : (sortV l).Perm l := List.mergeSort_perm _ _
theorem sortV_tu (L : List (List Nat)) : ∃ L', L'.Perm L ∧ sortV (tuD L) = tuD L' := perm_map (sortV_perm (tuD L))
theorem srtOkE_tuD (L : List (List Nat)) : srtOkE (tuD L) = true := by
  unfold srtOkE
  rw [Bool.and_eq_true, Bool.and_eq_true, List.all_eq_true, List.all_eq_true, List.all_eq_true]
  refine ⟨fun x hx => ?_, fun x hx => ?_, fun x hx => ?_⟩
  · rw [List.all_eq_true]
    intro y hy
    obtain ⟨R, _, rfl⟩ := List.mem_map.mp hx
    obtain ⟨S, _, rfl⟩ := List.mem_map.mp hy
    exact al_nD R S
  · obtain ⟨R, _, rfl⟩ := List.mem_map.mp hx
    rfl
  · obtain ⟨R, _, rfl⟩ := List.mem_map.mp hx
    rw [Nat.ble_eq]
    exact depth_nD R
theorem Good.up {n k : Int} {m : O} (g : Good n m) (h : n ≤ k) : Good k m := by
  obtain ⟨l, s, cs, p, e, hc, h0, h1⟩ := g
  exact ⟨l, s, cs, p, e, hc, h0, by omega⟩

/-! ### the order of data -/
section
open PySem.W (dataLt minD alike alikeAll)
theorem lt_irr (x : D) : dataLt x x = false := PyProof.Rows.lex_irrefl (O := PyProof.Rows.itemOrd) _
theorem lt_tr {x y z : D} (h : dataLt x y = true) (k : dataLt y z = true) : dataLt x z = true := PyProof.Rows.lex_trans (O := PyProof.Rows.itemOrd) _ _ _ h k
theorem lt_neg {x y z : D} (h : dataLt x z = true) : dataLt x y = true ∨ dataLt y z = true := PyProof.Rows.lex_negTrans (O := PyProof.Rows.itemOrd) _ _ _ h
theorem lt_tot {x y : D} (al : alike x y = true) (h : dataLt x y = false) (k : dataLt y x = false) : PyData.eqv x y = true := by
  have e := PyProof.Rows.lex_total (O := PyProof.Rows.itemOrd) _ _ h k
  cases q : PyData.eqv x y with
  | true => rfl
  | false =>
    have z := (PySem.W.toks_eqv x y al).2 q [.inl 0] [.inl 1]
    rw [e, PySem.W.lex_pre, PyProof.Rows.lex_irrefl] at z
    exact absurd z (by decide)
theorem minD_le : ∀ (xs : List D) (x y : D), y ∈ x :: xs → dataLt y (minD x xs) = false
  | [], x, y, h => by
    rw [List.mem_singleton.mp h]
    exact lt_irr x
  | z :: xs, x, y, h => by
    show dataLt y (minD (if dataLt z x = true then z else x) xs) = false
    by_cases c : dataLt z x = true
    · rw [if_pos c]
      have ih := minD_le xs z
      rcases List.mem_cons.mp h with rfl | h
      · cases q : dataLt y (minD z xs) with
        | false => rfl
        | true =>
          have := ih z List.mem_cons_self
          rw [lt_tr c q] at this
          exact this
      · exact ih y h
    · rw [if_neg c]
      have ih := minD_le xs x
      rcases List.mem_cons.mp h with rfl | h
      · exact ih y List.mem_cons_self
      · rcases List.mem_cons.mp h with rfl | h
        · cases q : dataLt y (minD x xs) with
          | false => rfl
          | true =>
            rcases lt_neg (y := x) q with z | z
            · exact absurd z c
            · rw [ih x List.mem_cons_self] at z; cases z
        · exact ih y (List.mem_cons_of_mem _ h)
theorem le_tr {x y z : D} (h : dataLt y x = false) (k : dataLt z y = false) : dataLt z x = false := by
  cases q : dataLt z x with
  | false => rfl
  | true =>
    rcases lt_neg (y := y) q with r | r
    · rw [k] at r; cases r
    · rw [h] at r; cases r
theorem le_tot (x y : D) : dataLt y x = false ∨ dataLt x y = false := by
  cases h : dataLt y x with
  | false => exact .inl rfl
  | true =>
    refine .inr ?_
    cases k : dataLt x y with
    | false => rfl
    | true =>
      have := lt_tr h k
      rw [lt_irr] at this; cases this
/-- sorting forgets the order -/
theorem sortV_same {l m : List D} (p : l.Perm m) (anti : ∀ x ∈ l, ∀ y ∈ l, dataLt x y = false → dataLt y x = false → x = y) : sortV l = sortV m := by
  have un : ∀ x y : D, PySem.W.dataLe false id x y = !dataLt y x := fun x y => rfl
  have so : ∀ l : List D, (sortV l).Pairwise fun a b => PySem.W.dataLe false id a b = true := fun l => by
    unfold sortV
    refine List.pairwise_mergeSort (fun a b c h1 h2 => ?_) (fun a b => ?_) l
    · simp only [un, Bool.not_eq_true'] at h1 h2 ⊢
      exact le_tr h1 h2
    · simp only [un, Bool.or_eq_true, Bool.not_eq_true']
      exact le_tot a b
  have pl := (sortV_perm l)
  refine List.Perm.eq_of_pairwise (le := fun a b => PySem.W.dataLe false id a b = true) (fun x y hx hy h1 h2 => ?_) (so l) (so m) (pl.trans (p.trans (sortV_perm m).symm))
  simp only [un, Bool.not_eq_true'] at h1 h2
  exact anti x (pl.mem_iff.mp hx) y (p.mem_iff.mpr ((sortV_perm m).mem_iff.mp hy)) h2 h1
theorem anti_nD (R S : List Nat) (h : dataLt (.tuple (nD R)) (.tuple (nD S)) = false) (k : dataLt (.tuple (nD S)) (.tuple (nD R)) = false) : R = S := by
  have := lt_tot (al_nD R S) h k
  rw [eqv_nDT] at this
  exact of_decide_eq_true this
end

/-! ### repr of the same data -/
mutual
def rc : D → Nat
  | .none => 4
  | .bool _ => 5
  | .int _ => 1921
  | .str x => 10 * x.length + 2
  | .list xs => rcA xs + 3
  | .tuple xs => rcA xs + 3
  | .dict _ => 0
def rcA : List D → Nat
  | [] => 0
  | x :: xs => rc x + 2 + rcA xs
end
mutual
def rk : D → Bool
  | .none => true
  | .bool _ => true
  | .int i => decide (i.natAbs.log2 < 1920)
  | .str x => x.cps.toList.all fun c => decide (c < 16 ^ 8)
  | .list xs => rkA xs
  | .tuple xs => rkA xs
  | .dict _ => false
def rkA : List D → Bool
  | [] => true
  | x :: xs => rk x && rkA xs
end
mutual
theorem rk_ok : ∀ d : D, rk d = true → d.showable = true ∧ d.hasDict = false ∧ d.shown.length ≤ rc d
  | .none, _ => ⟨rfl, rfl, by decide⟩
  | .bool b, _ => ⟨rfl, rfl, by cases b <;> decide⟩
  | .int i, h => by
    simp only [rk, decide_eq_true_eq] at h
    have e : (PyData.shown (.int i)).length = (toString i).length := by
      show (Str.ofString (toString i)).length = _
      exact PySem.ofString_length _
    have e2 := int_text_length_le (a := i) (k := 1920) (by decide) h
    refine ⟨by simp only [PyData.showable, h, decide_true], rfl, ?_⟩
    rw [e]
    simp only [rc]
    omega
  | .str x, h => by
    simp only [rk, List.all_eq_true, decide_eq_true_eq] at h
    exact ⟨rfl, rfl, StrLaws.reprText_len x h⟩
  | .list xs, h => by
    simp only [rk] at h
    obtain ⟨h1, h2, h3⟩ := rkA_ok xs h
    refine ⟨by simp only [PyData.showable]; exact h1, by simp only [PyData.hasDict]; exact h2, ?_⟩
    simp only [PyData.shown, rc]
    have := listText_len_le (PyData.shownAll xs)
    omega
  | .tuple xs, h => by
    simp only [rk] at h
    obtain ⟨h1, h2, h3⟩ := rkA_ok xs h
    refine ⟨by simp only [PyData.showable]; exact h1, by simp only [PyData.hasDict]; exact h2, ?_⟩
    simp only [PyData.shown, rc]
    have := tupleText_len_le (PyData.shownAll xs)
    omega
  | .dict kvs, h => by simp only [rk] at h; cases h
theorem rkA_ok : ∀ xs : List D, rkA xs = true → PyData.showableAll xs = true ∧ PyData.hasDictAll xs = false ∧ ((PyData.shownAll xs).map (·.length)).sum + 2 * (PyData.shownAll xs).length ≤ rcA xs
  | [], _ => ⟨rfl, rfl, by simp [PyData.shownAll]⟩
  | x :: xs, h => by
    simp only [rkA, Bool.and_eq_true] at h
    obtain ⟨a1, a2, a3⟩ := rk_ok x h.1
    obtain ⟨b1, b2, b3⟩ := rkA_ok xs h.2
    refine ⟨by simp only [PyData.showableAll, a1, b1, Bool.and_self], by simp only [PyData.hasDictAll, a2, b2, Bool.or_self], ?_⟩
    simp only [PyData.shownAll, List.map_cons, List.sum_cons, List.length_cons, rcA]
    omega
end
theorem hRepr_l {l : List D} (h : rkA l = true) (c : rcA l ≤ 16000000) (d : (PyData.list l).depth ≤ 60) : hRepr [.list l] = some (.d (.str (PyData.shown (.list l)))) := by
  obtain ⟨h1, h2, h3⟩ := rk_ok (.list l) (by simp only [rk]; exact h)
  have hz : (PyData.shown (.list l)).length ≤ sizeLine := by
    simp only [rc] at h3
    have : sizeLine = 16777216 := sizeLine_eq
    omega
  unfold hRepr
  simp only [h1, h2, decide_eq_true hz, decide_eq_true d, Bool.not_false, Bool.and_self, if_true]
theorem hRepr_t {l : List D} (h : rkA l = true) (c : rcA l ≤ 16000000) (d : (PyData.tuple l).depth ≤ 60) : hRepr [.tuple l] = some (.d (.str (PyData.shown (.tuple l)))) := by
  obtain ⟨h1, h2, h3⟩ := rk_ok (.tuple l) (by simp only [rk]; exact h)
  have hz : (PyData.shown (.tuple l)).length ≤ sizeLine := by
    simp only [rc] at h3
    have : sizeLine = 16777216 := sizeLine_eq
    omega
  unfold hRepr
  simp only [h1, h2, decide_eq_true hz, decide_eq_true d, Bool.not_false, Bool.and_self, if_true]
theorem like_l {l : List D} (h : rkA l = true) (c : rcA l ≤ 16000000) (d : (PyData.list l).depth ≤ 60) : f_law_like [.im (.list l), .im (.list l)] = some (.im (.bool true), [.un, .un]) := by
  have e := hRepr_l h c d
  unfold f_law_like b_law_like
  simp only [↓e, sNop_ap, row?_ap, eRowM_ap, sRowSub_ap, eRowLen_ap, eRowNil_ap, isUn_un, ixN3_0, ixN3_1, ixN3_2, gRowsD_ap, rowsOf_nil, rowsOf_cons, eMeth_ap, isL_l, isS_s, mAppend_ap, mExtend_ap, ownL_fr, gIn_ap, ownDct_fr, gT_apL, hSorted, hTuple, hList, hRev, hRevX, hEqS, sSeq_ap, sBrk_ap, sCnt_ap, sRet_ap, sRetN_ap, sDrop_ap, sIf_ap, sSet_ap, isMu_ap, sAsg_ap, gN_ap, gT_ap, gTs, sPar_ap, sSub_ap, own?_ap, putO_t, putO_f, sAug_ap, sFor_ap, eC_ap, eVar_ap, ePl_ap, eMv_ap, opS_ap, sNil_ap, sCons_ap, gOp_ap, vws_nil, vws_cons, vw_im, vw_fr, vw_frd, vw_frs, vw_frr, vw_pl, view_l, view_d, view_s, view_r, rs_d, rs_l, sl_im, sl_fr, fz_im, fz_fr, fzs_nil, fzs_cons, toD_l, toD_r, gTupD_ap, gLstD_ap, gIx_ap, gDGet_ap, ownDct_pl, keyOf_i, keyOf_s, gMul_ap, tB_ap, tNot_ap, tAnd_ap, tOr_ap, eNot_ap, eAnd_ap, eOr_ap, eIf_ap, tY_ap, eSl_ap, oN_ap, oI_ap, itOf_ap, itR1_ap, itR2_ap, eLc_ap, isIm_ap, eCall_ap, eCallM_ap, fnOf_ap, isPl_im, isPl_fr, eDspl_ap, sArgs_nil, sArgs_cons, mkD_nil, mkD_cons, keepMu_mu, keepMu_im, projS_nil, projS_cons, hAdd, hSub, hMul, hDiv, hMod, hPow, hNeg, hCmp, hEq, hNe, hIsN, hNotN, hIx, hLen, hInt, hAbs, hGcd, hMin, hMax, hCut, isi_ii, isi_ib, isi_tt, isi_ll, isM_un, isM_im, isM_ow, isM_mu, List.getElem?_cons_zero, List.getElem?_cons_succ, List.getElem?_nil, List.set_cons_zero, List.set_cons_succ, List.length_cons, List.length_nil, List.length_map, List.replicate_succ, List.replicate_zero, List.cons_append, List.nil_append, List.map_cons, List.map_nil, Nat.reduceAdd, Nat.zero_add, ne_eq, not_true_eq_false, not_false_eq_true, decide_false, decide_true, Bool.or_self, Bool.or_false, Bool.false_or, Bool.and_self, Bool.false_eq_true, if_false, if_true, reduceIte, szOk_2, szOk_1, szOk_0, szOk_3, lk_left, lk_seed, lk_cells, lk_spot, pt_left, pt_spot, len_mL, mSet, true_and, and_true, List.getD_eq_getElem?_getD, Option.getD_some, seqOf_l, seqOf_t, ↓hIx_sq, ↓hLen_sq, seqOf_sq, ↓hTuple_sq, fz_fr2, gRep_ap, eq_self, gSorted_ap, gSortD_ap, gSortS_ap, ownSet_pl, eDict1_ap, eChain_ap, gInD_ap, gInS_ap, mPop_ap, mAdd_ap, eSet0_ap, sWhile_ap, itEnumX_ap, eM2_ap, eTR1_ap, eLR1_ap, hLtD, gDGetT_ap, ownDctT_pl, gInT_ap, keyT_t, keysOf_nil, keysOf_cons, eDctT0_ap, view_dT, eDict1T_ap, hIsB, hNotB, sPar3_ap]
theorem like_t {l : List D} (h : rkA l = true) (c : rcA l ≤ 16000000) (d : (PyData.tuple l).depth ≤ 60) : f_law_like [.im (.tuple l), .im (.tuple l)] = some (.im (.bool true), [.un, .un]) := by
  have e := hRepr_t h c d
  unfold f_law_like b_law_like
  simp only [↓e, sNop_ap, row?_ap, eRowM_ap, sRowSub_ap, eRowLen_ap, eRowNil_ap, isUn_un, ixN3_0, ixN3_1, ixN3_2, gRowsD_ap, rowsOf_nil, rowsOf_cons, eMeth_ap, isL_l, isS_s, mAppend_ap, mExtend_ap, ownL_fr, gIn_ap, ownDct_fr, gT_apL, hSorted, hTuple, hList, hRev, hRevX, hEqS, sSeq_ap, sBrk_ap, sCnt_ap, sRet_ap, sRetN_ap, sDrop_ap, sIf_ap, sSet_ap, isMu_ap, sAsg_ap, gN_ap, gT_ap, gTs, sPar_ap, sSub_ap, own?_ap, putO_t, putO_f, sAug_ap, sFor_ap, eC_ap, eVar_ap, ePl_ap, eMv_ap, opS_ap, sNil_ap, sCons_ap, gOp_ap, vws_nil, vws_cons, vw_im, vw_fr, vw_frd, vw_frs, vw_frr, vw_pl, view_l, view_d, view_s, view_r, rs_d, rs_l, sl_im, sl_fr, fz_im, fz_fr, fzs_nil, fzs_cons, toD_l, toD_r, gTupD_ap, gLstD_ap, gIx_ap, gDGet_ap, ownDct_pl, keyOf_i, keyOf_s, gMul_ap, tB_ap, tNot_ap, tAnd_ap, tOr_ap, eNot_ap, eAnd_ap, eOr_ap, eIf_ap, tY_ap, eSl_ap, oN_ap, oI_ap, itOf_ap, itR1_ap, itR2_ap, eLc_ap, isIm_ap, eCall_ap, eCallM_ap, fnOf_ap, isPl_im, isPl_fr, eDspl_ap, sArgs_nil, sArgs_cons, mkD_nil, mkD_cons, keepMu_mu, keepMu_im, projS_nil, projS_cons, hAdd, hSub, hMul, hDiv, hMod, hPow, hNeg, hCmp, hEq, hNe, hIsN, hNotN, hIx, hLen, hInt, hAbs, hGcd, hMin, hMax, hCut, isi_ii, isi_ib, isi_tt, isi_ll, isM_un, isM_im, isM_ow, isM_mu, List.getElem?_cons_zero, List.getElem?_cons_succ, List.getElem?_nil, List.set_cons_zero, List.set_cons_succ, List.length_cons, List.length_nil, List.length_map, List.replicate_succ, List.replicate_zero, List.cons_append, List.nil_append, List.map_cons, List.map_nil, Nat.reduceAdd, Nat.zero_add, ne_eq, not_true_eq_false, not_false_eq_true, decide_false, decide_true, Bool.or_self, Bool.or_false, Bool.false_or, Bool.and_self, Bool.false_eq_true, if_false, if_true, reduceIte, szOk_2, szOk_1, szOk_0, szOk_3, lk_left, lk_seed, lk_cells, lk_spot, pt_left, pt_spot, len_mL, mSet, true_and, and_true, List.getD_eq_getElem?_getD, Option.getD_some, seqOf_l, seqOf_t, ↓hIx_sq, ↓hLen_sq, seqOf_sq, ↓hTuple_sq, fz_fr2, gRep_ap, eq_self, gSorted_ap, gSortD_ap, gSortS_ap, ownSet_pl, eDict1_ap, eChain_ap, gInD_ap, gInS_ap, mPop_ap, mAdd_ap, eSet0_ap, sWhile_ap, itEnumX_ap, eM2_ap, eTR1_ap, eLR1_ap, hLtD, gDGetT_ap, ownDctT_pl, gInT_ap, keyT_t, keysOf_nil, keysOf_cons, eDctT0_ap, view_dT, eDict1T_ap, hIsB, hNotB, sPar3_ap]

/-! ### normal names (what they are made of) -/
theorem rngD_nDN (n : Nat) : rngD 0 n = nD (List.range n) := by unfold rngD nD; simp only [Int.zero_add]
theorem dp_tuD (L : List (List Nat)) : (PyData.tuple (tuD L)).depth ≤ 60 := by
  have := (pd_tuple (k := 1) (l := tuD L) fun x hx => by
    obtain ⟨R, _, rfl⟩ := List.mem_map.mp hx
    exact pd_nDT 0 R).2
  omega
theorem alA_tuD : ∀ L M : List (List Nat), PySem.W.alikeAll (tuD L) (tuD M) = true
  | [], M => by simp [tuD, PySem.W.alikeAll]
  | R :: L, [] => by simp [tuD, PySem.W.alikeAll]
  | R :: L, S :: M => by
    have ih := alA_tuD L M
    show PySem.W.alikeAll (.tuple (nD R) :: tuD L) (.tuple (nD S) :: tuD M) = true
    simp only [PySem.W.alikeAll, al_nD, ih, Bool.and_self]
theorem min2_tuD (L M : List (List Nat)) : ∃ N, (N = L ∨ N = M) ∧ hMin2D [.tuple (tuD L), .tuple (tuD M)] = some (.d (.tuple (tuD N))) := by
  have al : allAl [.tuple (tuD L), .tuple (tuD M)] = true := by
    refine allAl_of (fun x hx y hy => ?_) (fun x hx => ?_) fun x hx => ?_
    · rcases List.mem_cons.mp hx with rfl | hx <;> rcases List.mem_cons.mp hy with rfl | hy
      · rw [PySem.W.alike]; exact alA_tuD _ _
      · rw [List.mem_singleton.mp hy, PySem.W.alike]; exact alA_tuD _ _
      · rw [List.mem_singleton.mp hx, PySem.W.alike]; exact alA_tuD _ _
      · rw [List.mem_singleton.mp hx, List.mem_singleton.mp hy, PySem.W.alike]; exact alA_tuD _ _
    · rcases List.mem_cons.mp hx with rfl | hx
      · rfl
      · rw [List.mem_singleton.mp hx]; rfl
    · rcases List.mem_cons.mp hx with rfl | hx
      · exact dp_tuD _
      · rw [List.mem_singleton.mp hx]; exact dp_tuD _
  have m := Fl.minD_mem (.tuple (tuD L)) [.tuple (tuD M)]
  rcases List.mem_cons.mp m with e | e
  · refine ⟨L, .inl rfl, ?_⟩
    unfold hMin2D
    simp only [al, if_true, e]
  · refine ⟨M, .inr rfl, ?_⟩
    unfold hMin2D
    simp only [al, if_true, List.mem_singleton.mp e]
theorem min2_nD (L M : List Nat) : ∃ N, (N = L ∨ N = M) ∧ hMin2D [.tuple (nD L), .tuple (nD M)] = some (.d (.tuple (nD N))) := by
  have al : allAl [.tuple (nD L), .tuple (nD M)] = true := allAl_tuD [L, M]
  have m := Fl.minD_mem (.tuple (nD L)) [.tuple (nD M)]
  rcases List.mem_cons.mp m with e | e
  · refine ⟨L, .inl rfl, ?_⟩
    unfold hMin2D
    simp only [al, if_true, e]
  · refine ⟨M, .inr rfl, ?_⟩
    unfold hMin2D
    simp only [al, if_true, List.mem_singleton.mp e]
theorem minL_tuD {L : List (List Nat)} (h : L ≠ []) : ∃ R ∈ L, hMinL [.list (tuD L)] = some (.d (.tuple (nD R))) := by
  cases L with
  | nil => exact absurd rfl h
  | cons R L =>
    have al := allAl_tuD (R :: L)
    have m := Fl.minD_mem (.tuple (nD R)) (tuD L)
    have e0 : tuD (R :: L) = .tuple (nD R) :: tuD L := rfl
    rw [e0] at al
    obtain ⟨S, hS, e⟩ : ∃ S ∈ R :: L, PySem.W.minD (.tuple (nD R)) (tuD L) = .tuple (nD S) := by
      have m2 : PySem.W.minD (.tuple (nD R)) (tuD L) ∈ tuD (R :: L) := m
      obtain ⟨S, hS, e⟩ := List.mem_map.mp m2
      exact ⟨S, hS, e.symm⟩
    refine ⟨S, hS, ?_⟩
    rw [e0]
    unfold hMinL
    simp only [al, if_true, e]
theorem sIx_k {n k : Nat} (d : Nat) (h : k ≤ n) : HT.sIx n d (some (k : Int)) = k := by
  unfold HT.sIx
  simp only
  split <;> omega
theorem cut_from (R : List Nat) {k : Nat} (h : k ≤ R.length) : hCut (.tuple (nD R)) (some (k : Int)) none = some (.d (.tuple (nD (R.drop k)))) := by
  show some (Res.d (.tuple (Fl.cutD (nD R) (some (k : Int)) none))) = _
  have e : Fl.cutD (nD R) (some (k : Int)) none = nD (R.drop k) := by
    unfold Fl.cutD
    rw [sIx_k 0 (by rw [nD_len]; exact h)]
    show ((nD R).drop k).take ((nD R).length - k) = _
    rw [List.take_of_length_le (by rw [List.length_drop]; exact Nat.le_refl _)]
    unfold nD
    rw [List.map_drop]
  rw [e]
theorem cut_to (R : List Nat) {k : Nat} (h : k ≤ R.length) : hCut (.tuple (nD R)) none (some (k : Int)) = some (.d (.tuple (nD (R.take k)))) := by
  show some (Res.d (.tuple (Fl.cutD (nD R) none (some (k : Int))))) = _
  have e : Fl.cutD (nD R) none (some (k : Int)) = nD (R.take k) := by
    unfold Fl.cutD
    rw [sIx_k _ (by rw [nD_len]; exact h)]
    show ((nD R).drop 0).take (k - 0) = _
    rw [List.drop_zero, Nat.sub_zero]
    unfold nD
    rw [List.map_take]
  rw [e]
theorem rot_lc (R : List Nat) (hl : R.length ≤ 1000) : ∀ l : List Nat, (∀ k ∈ l, k < R.length) → lcL 1 tY (opS gAdd (sCons (eSl (ePl 0) (oI (ePl 1)) oN) (sCons (eSl (ePl 0) oN (oI (ePl 1))) sNil))) (nD l) [.im (.tuple (nD R)), .un] =
    some (tuD (l.map fun k => R.drop k ++ R.take k), [.im (.tuple (nD R)), .un])
  | [], _ => rfl
  | k :: l, h => by
    have ih := rot_lc R hl l fun x hx => h x (List.mem_cons_of_mem _ hx)
    have hk := h k List.mem_cons_self
    have c1 := cut_from R (k := k) (by omega)
    have c2 := cut_to R (k := k) (by omega)
    have sz : szOk ((R.drop k).length + (R.take k).length) = true := szOk_le (by rw [List.length_drop, List.length_take]; omega)
    have ea : nD (R.drop k) ++ nD (R.take k) = nD (R.drop k ++ R.take k) := (nD_app _ _).symm
    have el : tuD ((k :: l).map fun k => R.drop k ++ R.take k) = .tuple (nD (R.drop k ++ R.take k)) :: tuD (l.map fun k => R.drop k ++ R.take k) := rfl
    rw [el]
    simp only [nD_cons, lcL, ↓c1, ↓c2, sNop_ap, row?_ap, eRowM_ap, sRowSub_ap, eRowLen_ap, eRowNil_ap, isUn_un, ixN3_0, ixN3_1, ixN3_2, gRowsD_ap, rowsOf_nil, rowsOf_cons, eMeth_ap, isL_l, isS_s, mAppend_ap, mExtend_ap, ownL_fr, gIn_ap, ownDct_fr, gT_apL, hSorted, hTuple, hList, hRev, hRevX, hEqS, sSeq_ap, sBrk_ap, sCnt_ap, sRet_ap, sRetN_ap, sDrop_ap, sIf_ap, sSet_ap, isMu_ap, sAsg_ap, gN_ap, gT_ap, gTs, sPar_ap, sSub_ap, own?_ap, putO_t, putO_f, sAug_ap, sFor_ap, eC_ap, eVar_ap, ePl_ap, eMv_ap, opS_ap, sNil_ap, sCons_ap, gOp_ap, vws_nil, vws_cons, vw_im, vw_fr, vw_frd, vw_frs, vw_frr, vw_pl, view_l, view_d, view_s, view_r, rs_d, rs_l, sl_im, sl_fr, fz_im, fz_fr, fzs_nil, fzs_cons, toD_l, toD_r, gTupD_ap, gLstD_ap, gIx_ap, gDGet_ap, ownDct_pl, keyOf_i, keyOf_s, gMul_ap, tB_ap, tNot_ap, tAnd_ap, tOr_ap, eNot_ap, eAnd_ap, eOr_ap, eIf_ap, tY_ap, eSl_ap, oN_ap, oI_ap, itOf_ap, itR1_ap, itR2_ap, eLc_ap, isIm_ap, eCall_ap, eCallM_ap, fnOf_ap, isPl_im, isPl_fr, eDspl_ap, sArgs_nil, sArgs_cons, mkD_nil, mkD_cons, keepMu_mu, keepMu_im, projS_nil, projS_cons, hAdd, hSub, hMul, hDiv, hMod, hPow, hNeg, hCmp, hEq, hNe, hIsN, hNotN, hIx, hLen, hInt, hAbs, hGcd, hMin, hMax, hCut, isi_ii, isi_ib, isi_tt, isi_ll, isM_un, isM_im, isM_ow, isM_mu, List.getElem?_cons_zero, List.getElem?_cons_succ, List.getElem?_nil, List.set_cons_zero, List.set_cons_succ, List.length_cons, List.length_nil, List.length_map, List.replicate_succ, List.replicate_zero, List.cons_append, List.nil_append, List.map_cons, List.map_nil, Nat.reduceAdd, Nat.zero_add, ne_eq, not_true_eq_false, not_false_eq_true, decide_false, decide_true, Bool.or_self, Bool.or_false, Bool.false_or, Bool.and_self, Bool.false_eq_true, if_false, if_true, reduceIte, szOk_2, szOk_1, szOk_0, szOk_3, lk_left, lk_seed, lk_cells, lk_spot, pt_left, pt_spot, len_mL, mSet, true_and, and_true, List.getD_eq_getElem?_getD, Option.getD_some, seqOf_l, seqOf_t, ↓hIx_sq, ↓hLen_sq, seqOf_sq, ↓hTuple_sq, fz_fr2, gRep_ap, eq_self, gSorted_ap, gSortD_ap, gSortS_ap, ownSet_pl, eDict1_ap, eChain_ap, gInD_ap, gInS_ap, mPop_ap, mAdd_ap, eSet0_ap, sWhile_ap, itEnumX_ap, eM2_ap, eTR1_ap, eLR1_ap, hLtD, gDGetT_ap, ownDctT_pl, gInT_ap, keyT_t, keysOf_nil, keysOf_cons, eDctT0_ap, view_dT, eDict1T_ap, hIsB, hNotB, sPar3_ap, nD_len, sz, ea, ih]
theorem rot_perm (R : List Nat) (k : Nat) : (R.drop k ++ R.take k).Perm R := List.perm_append_comm.trans (by rw [List.take_append_drop])
theorem sorted_nDN (L : List Nat) : ∃ L' : List Nat, hSorted [.list (nD L)] = some (.l (nD L')) ∧ L'.Perm L := by
  have ti : toInts (nD L) = some (L.map fun (i : Nat) => (i : Int)) := by
    rw [nD_ints]
    generalize (L.map fun (i : Nat) => (i : Int)) = l
    induction l with
    | nil => rfl
    | cons i l ih => simp only [List.map_cons, toInts, ih]
  have p := sortI_perm (L.map fun (i : Nat) => (i : Int))
  obtain ⟨L', pL, e⟩ := perm_map p
  refine ⟨L', ?_, pL⟩
  unfold hSorted
  simp only [ti]
  rw [e, nD_ints]

/-! ### rows up to turning -/
section
open PySem.W (dataLt minD alike alikeAll)
def rlt (R S : List Nat) : Bool := dataLt (.tuple (nD R)) (.tuple (nD S))
theorem rlt_irr (R : List Nat) : rlt R R = false := lt_irr _
theorem rlt_anti {R S : List Nat} (h : rlt R S = false) (k : rlt S R = false) : R = S := anti_nD R S h k
def mnR (R S : List Nat) : List Nat := if rlt S R = true then S else R
theorem mnR_comm (R S : List Nat) : mnR R S = mnR S R := by
  unfold mnR
  cases h : rlt S R with
  | true =>
    cases k : rlt R S with
    | true =>
      have := lt_tr h k
      rw [show dataLt (.tuple (nD S)) (.tuple (nD S)) = false from lt_irr _] at this
      cases this
    | false => rw [if_pos rfl, if_neg (by simp)]
  | false =>
    cases k : rlt R S with
    | true => rw [if_neg (by simp), if_pos rfl]
    | false =>
      rw [if_neg (by simp), if_neg (by simp)]
      exact rlt_anti k h
/-- one is the other turned -/
def Rot (R S : List Nat) : Prop := ∃ A B, R = A ++ B ∧ S = B ++ A
theorem Rot.refl (R : List Nat) : Rot R R := ⟨[], R, rfl, (List.append_nil R).symm⟩
theorem Rot.symm {R S : List Nat} (h : Rot R S) : Rot S R := by
  obtain ⟨A, B, rfl, rfl⟩ := h
  exact ⟨B, A, rfl, rfl⟩
theorem Rot.trans {R S T : List Nat} (h : Rot R S) (k : Rot S T) : Rot R T := by
  obtain ⟨A, B, rfl, rfl⟩ := h
  obtain ⟨C, D, e, rfl⟩ := k
  rcases List.append_eq_append_iff.mp e with ⟨E, e1, e2⟩ | ⟨E, e1, e2⟩
  · subst e1 e2
    exact ⟨E, D ++ B, by rw [List.append_assoc], by rw [List.append_assoc]⟩
  · subst e1 e2
    exact ⟨A ++ C, E, by rw [List.append_assoc], by rw [List.append_assoc]⟩
theorem Rot.perm {R S : List Nat} (h : Rot R S) : S.Perm R := by
  obtain ⟨A, B, rfl, rfl⟩ := h
  exact List.perm_append_comm
theorem Rot.rev {R S : List Nat} (h : Rot R S) : Rot R.reverse S.reverse := by
  obtain ⟨A, B, rfl, rfl⟩ := h
  exact ⟨B.reverse, A.reverse, by rw [List.reverse_append], by rw [List.reverse_append]⟩
theorem Rot.filter {R S : List Nat} (p : Nat → Bool) (h : Rot R S) : Rot (R.filter p) (S.filter p) := by
  obtain ⟨A, B, rfl, rfl⟩ := h
  exact ⟨A.filter p, B.filter p, by rw [List.filter_append], by rw [List.filter_append]⟩
def rots (R : List Nat) : List (List Nat) := (List.range R.length).map fun k => R.drop k ++ R.take k
theorem rots_mem {R S : List Nat} (h : R ≠ []) : S ∈ rots R ↔ Rot R S := by
  unfold rots
  rw [List.mem_map]
  constructor
  · rintro ⟨k, _, rfl⟩
    exact ⟨R.take k, R.drop k, (List.take_append_drop k R).symm, rfl⟩
  · rintro ⟨A, B, rfl, rfl⟩
    by_cases hB : B = []
    · subst hB
      refine ⟨0, List.mem_range.mpr ?_, by simp⟩
      exact List.length_pos_iff.mpr h
    · refine ⟨A.length, List.mem_range.mpr ?_, by simp⟩
      rw [List.length_append]
      have := List.length_pos_iff.mpr hB
      omega
/-- the least turned one -/
def lr : List Nat → List Nat
  | [] => []
  | x :: R => (rots (x :: R)).tail.foldl mnR (x :: R)
theorem fold_mn : ∀ (L : List (List Nat)) (R : List Nat), PySem.W.minD (.tuple (nD R)) (tuD L) = .tuple (nD (L.foldl mnR R))
  | [], R => rfl
  | S :: L, R => by
    have e : tuD (S :: L) = .tuple (nD S) :: tuD L := rfl
    rw [e, List.foldl_cons, ← fold_mn L (mnR R S)]
    show PySem.W.minD (if dataLt (.tuple (nD S)) (.tuple (nD R)) = true then _ else _) (tuD L) = _
    congr 1
    unfold mnR rlt
    split <;> rfl
theorem rots_cons (x : Nat) (R : List Nat) : rots (x :: R) = (x :: R) :: (rots (x :: R)).tail := by
  unfold rots
  rw [List.length_cons, List.range_succ_eq_map, List.map_cons, List.tail_cons]
  simp
theorem minL_lr {R : List Nat} (h : R ≠ []) : hMinL [.list (tuD (rots R))] = some (.d (.tuple (nD (lr R)))) := by
  cases R with
  | nil => exact absurd rfl h
  | cons x R =>
    have al := allAl_tuD (rots (x :: R))
    rw [rots_cons] at al ⊢
    have e0 : ∀ L, tuD ((x :: R) :: L) = .tuple (nD (x :: R)) :: tuD L := fun _ => rfl
    rw [e0] at al ⊢
    unfold hMinL
    simp only [al, if_true, fold_mn]
    rfl
theorem lr_spec {R : List Nat} (h : R ≠ []) : Rot R (lr R) ∧ ∀ S, Rot R S → rlt S (lr R) = false := by
  cases R with
  | nil => exact absurd rfl h
  | cons x R =>
    have e := fold_mn (rots (x :: R)).tail (x :: R)
    have m := Fl.minD_mem (.tuple (nD (x :: R))) (tuD (rots (x :: R)).tail)
    have l := minD_le (tuD (rots (x :: R)).tail) (.tuple (nD (x :: R)))
    rw [e] at m l
    have e0 : (.tuple (nD (x :: R)) :: tuD (rots (x :: R)).tail : List D) = tuD (rots (x :: R)) := by
      rw [rots_cons x R]; rfl
    rw [e0] at m l
    obtain ⟨S, hS, eS⟩ := List.mem_map.mp m
    have eS : S = (rots (x :: R)).tail.foldl mnR (x :: R) := by
      have h2 : PyData.eqv (.tuple (nD S)) (.tuple (nD ((rots (x :: R)).tail.foldl mnR (x :: R)))) = true := by
        rw [eS, eqv_nDT]; exact decide_eq_true rfl
      rw [eqv_nDT] at h2
      exact of_decide_eq_true h2
    refine ⟨(rots_mem h).mp (by show (rots (x :: R)).tail.foldl mnR (x :: R) ∈ _; rw [← eS]; exact hS), fun T hT => ?_⟩
    exact l _ (List.mem_map.mpr ⟨T, (rots_mem h).mpr hT, rfl⟩)
theorem lr_rot {R S : List Nat} (h : Rot R S) : lr S = lr R := by
  by_cases hR : R = []
  · subst hR
    have := h.perm.length_eq
    rw [List.eq_nil_of_length_eq_zero this]
  · have hS : S ≠ [] := fun z => by
      have := h.perm.length_eq
      rw [z] at this
      exact hR (List.eq_nil_of_length_eq_zero this.symm)
    obtain ⟨r1, r2⟩ := lr_spec hR
    obtain ⟨s1, s2⟩ := lr_spec hS
    exact rlt_anti (r2 _ (h.trans s1)) (s2 _ (h.symm.trans r1)) |> fun e => e
theorem lr_is (R : List Nat) : Rot R (lr R) := by
  by_cases h : R = []
  · subst h; exact Rot.refl []
  · exact (lr_spec h).1
theorem lr_lr (R : List Nat) : lr (lr R) = lr R := lr_rot (lr_is R)
theorem lr_rev (R : List Nat) : lr (lr R.reverse).reverse = lr R := lr_rot (by
  have := (lr_is R.reverse).rev
  rwa [List.reverse_reverse] at this)
/-! sorted rows -/
def srtR (L : List (List Nat)) : List (List Nat) := L.mergeSort fun R S => !rlt S R
theorem srtR_eq (L : List (List Nat)) : sortV (tuD L) = tuD (srtR L) := by
  unfold sortV srtR tuD
  rw [List.map_mergeSort]
  intro R _ S _
  rw [PySem.W.dataLe_eq]
  rfl
theorem tuD_inj {L M : List (List Nat)} (h : tuD L = tuD M) : L = M := by
  have h2 : PyData.eqv (.tuple (tuD L)) (.tuple (tuD M)) = true := by
    rw [h, eqv_tuD]; exact decide_eq_true rfl
  rw [eqv_tuD] at h2
  exact of_decide_eq_true h2
theorem srtR_perm (L : List (List Nat)) : (srtR L).Perm L := List.mergeSort_perm _ _
theorem srtR_same {L M : List (List Nat)} (p : L.Perm M) : srtR L = srtR M := by
  refine tuD_inj ?_
  rw [← srtR_eq, ← srtR_eq]
  refine sortV_same (p.map _) fun x hx y hy h k => ?_
  obtain ⟨R, _, rfl⟩ := List.mem_map.mp hx
  obtain ⟨S, _, rfl⟩ := List.mem_map.mp hy
  rw [anti_nD R S h k]
/-! the lesser of two lists of rows -/
def mnL2 (L M : List (List Nat)) : List (List Nat) := if dataLt (.tuple (tuD M)) (.tuple (tuD L)) = true then M else L
theorem mnL2_comm (L M : List (List Nat)) : mnL2 L M = mnL2 M L := by
  unfold mnL2
  rcases le_tot (.tuple (tuD M)) (.tuple (tuD L)) with h | h
  · cases k : dataLt (.tuple (tuD M)) (.tuple (tuD L)) with
    | true => rw [if_pos rfl, if_neg (by rw [h]; simp)]
    | false =>
      rw [if_neg (by simp), if_neg (by rw [h]; simp)]
      have al : alike (.tuple (tuD M)) (.tuple (tuD L)) = true := by rw [alike]; exact alA_tuD _ _
      have := lt_tot al k h
      rw [eqv_tuD] at this
      exact (of_decide_eq_true this).symm
  · cases k : dataLt (.tuple (tuD L)) (.tuple (tuD M)) with
    | true => rw [if_neg (by rw [h]; simp), if_pos rfl]
    | false =>
      rw [if_neg (by rw [h]; simp), if_neg (by simp)]
      have al : alike (.tuple (tuD M)) (.tuple (tuD L)) = true := by rw [alike]; exact alA_tuD _ _
      have := lt_tot al h k
      rw [eqv_tuD] at this
      exact (of_decide_eq_true this).symm
/-! the normal form of rows -/
def nsA (L : List (List Nat)) : List (List Nat) := L.map lr
def nsB (L : List (List Nat)) : List (List Nat) := L.map fun R => lr R.reverse
def NS (b : Bool) (L : List (List Nat)) : List (List Nat) := if b = true then mnL2 (srtR (nsA L)) (srtR (nsB L)) else srtR (L.map fun R => mnR (lr R) (lr R.reverse))
/-- told in another way -/
inductive PW (p : List Nat → List Nat → Prop) : List (List Nat) → List (List Nat) → Prop
  | nil : PW p [] []
  | cons {R S : List Nat} {L M : List (List Nat)} : p R S → PW p L M → PW p (R :: L) (S :: M)
theorem PW.map {p : List Nat → List Nat → Prop} {f g : List Nat → List Nat} (e : ∀ R S, p R S → g S = f R) {L M : List (List Nat)} (h : PW p L M) : M.map g = L.map f := by
  induction h with
  | nil => rfl
  | cons h _ ih => rw [List.map_cons, List.map_cons, e _ _ h, ih]
structure Tld (b : Bool) (L M : List (List Nat)) : Prop where
  ex : ∃ N, N.Perm M ∧ ((b = true ∧ (PW Rot L N ∨ PW (fun R S => Rot R.reverse S) L N)) ∨ (b = false ∧ PW (fun R S => Rot R S ∨ Rot R.reverse S) L N))
theorem NS_perm (b : Bool) {L M : List (List Nat)} (p : L.Perm M) : NS b L = NS b M := by
  unfold NS nsA nsB
  rw [srtR_same (p.map lr), srtR_same (p.map fun R => lr R.reverse), srtR_same (p.map fun R => mnR (lr R) (lr R.reverse))]
theorem NS_tld {b : Bool} {L M : List (List Nat)} (h : Tld b L M) : NS b M = NS b L := by
  obtain ⟨N, p, k⟩ := h.ex
  clear h
  rw [← NS_perm b p]
  rcases k with ⟨rfl, h | h⟩ | ⟨rfl, h⟩
  · unfold NS nsA nsB
    rw [if_pos rfl, if_pos rfl, h.map (f := lr) (g := lr) fun R S k => lr_rot k, h.map (f := fun R => lr R.reverse) (g := fun R => lr R.reverse) fun R S k => lr_rot k.rev]
  · unfold NS nsA nsB
    rw [if_pos rfl, if_pos rfl, h.map (f := fun R => lr R.reverse) (g := lr) fun R S k => lr_rot k, h.map (f := lr) (g := fun R => lr R.reverse) fun R S k => by
      have := k.rev
      rw [List.reverse_reverse] at this
      exact lr_rot this]
    exact mnL2_comm _ _
  · unfold NS
    rw [if_neg (by simp), if_neg (by simp), h.map (f := fun R => mnR (lr R) (lr R.reverse)) (g := fun R => mnR (lr R) (lr R.reverse)) fun R S k => ?_]
    rcases k with k | k
    · show mnR (lr S) (lr S.reverse) = _
      rw [lr_rot k, lr_rot k.rev]
    · have k2 := k.rev
      rw [List.reverse_reverse] at k2
      show mnR (lr S) (lr S.reverse) = _
      rw [lr_rot k, lr_rot k2]
      exact mnR_comm _ _
theorem PW.of_map {p : List Nat → List Nat → Prop} {f : List Nat → List Nat} (h : ∀ R, p R (f R)) : ∀ L : List (List Nat), PW p L (L.map f)
  | [] => .nil
  | R :: L => .cons (h R) (PW.of_map h L)
/-- the normal form is one of the ways -/
theorem NS_is (b : Bool) (L : List (List Nat)) : Tld b L (NS b L) := by
  cases b with
  | true =>
    unfold NS
    rw [if_pos rfl]
    have : mnL2 (srtR (nsA L)) (srtR (nsB L)) = srtR (nsA L) ∨ mnL2 (srtR (nsA L)) (srtR (nsB L)) = srtR (nsB L) := by
      unfold mnL2
      split
      · exact .inr rfl
      · exact .inl rfl
    rcases this with e | e
    · rw [e]
      exact ⟨nsA L, (srtR_perm _).symm, .inl ⟨rfl, .inl (PW.of_map lr_is L)⟩⟩
    · rw [e]
      exact ⟨nsB L, (srtR_perm _).symm, .inl ⟨rfl, .inr (PW.of_map (fun R => lr_is R.reverse) L)⟩⟩
  | false =>
    unfold NS
    rw [if_neg (by simp)]
    refine ⟨_, (srtR_perm _).symm, .inr ⟨rfl, PW.of_map (fun R => ?_) L⟩⟩
    unfold mnR
    split
    · exact .inr (lr_is R.reverse)
    · exact .inl (lr_is R)
theorem NS_NS (b : Bool) (L : List (List Nat)) : NS b (NS b L) = NS b L := NS_tld (NS_is b L)
end

/-! ### a name as data -/
def nmD (h : Nat) (cs : List Nat) (rows : List (List Nat)) (x : Nat) : D := .tuple [.int (h : Nat), .tuple (nD cs), .tuple (tuD rows), .int (x : Nat)]

/-! ### the normal form of a name, exactly -/
theorem min2R (R S : List Nat) : hMin2D [.tuple (nD R), .tuple (nD S)] = some (.d (.tuple (nD (mnR R S)))) := by
  have al : allAl [.tuple (nD R), .tuple (nD S)] = true := allAl_tuD [R, S]
  have e := fold_mn [S] R
  have e : PySem.W.minD (.tuple (nD R)) [.tuple (nD S)] = .tuple (nD (mnR R S)) := e
  unfold hMin2D
  simp only [al, if_true, e]
theorem min2L (L M : List (List Nat)) : hMin2D [.tuple (tuD L), .tuple (tuD M)] = some (.d (.tuple (tuD (mnL2 L M)))) := by
  have al : allAl [.tuple (tuD L), .tuple (tuD M)] = true := by
    refine allAl_of (fun x hx y hy => ?_) (fun x hx => ?_) fun x hx => ?_
    · rcases List.mem_cons.mp hx with rfl | hx <;> rcases List.mem_cons.mp hy with rfl | hy
      · rw [PySem.W.alike]; exact alA_tuD _ _
      · rw [List.mem_singleton.mp hy, PySem.W.alike]; exact alA_tuD _ _
      · rw [List.mem_singleton.mp hx, PySem.W.alike]; exact alA_tuD _ _
      · rw [List.mem_singleton.mp hx, List.mem_singleton.mp hy, PySem.W.alike]; exact alA_tuD _ _
    · rcases List.mem_cons.mp hx with rfl | hx
      · rfl
      · rw [List.mem_singleton.mp hx]; rfl
    · rcases List.mem_cons.mp hx with rfl | hx
      · exact dp_tuD _
      · rw [List.mem_singleton.mp hx]; exact dp_tuD _
  have e : PySem.W.minD (.tuple (tuD L)) [.tuple (tuD M)] = .tuple (tuD (mnL2 L M)) := by
    show (if PySem.W.dataLt (.tuple (tuD M)) (.tuple (tuD L)) = true then _ else _) = _
    unfold mnL2
    split <;> rfl
  unfold hMin2D
  simp only [al, if_true, e]
theorem hSortE_R (L : List (List Nat)) : hSortE [.list (tuD L)] = some (.l (tuD (srtR L))) := by
  unfold hSortE
  simp only [srtOkE_tuD, if_true, srtR_eq]
theorem lc_rots (R : List Nat) (hl : R.length ≤ 1000) : lcL 1 tY (opS gAdd (sCons (eSl (ePl 0) (oI (ePl 1)) oN) (sCons (eSl (ePl 0) oN (oI (ePl 1))) sNil))) (rngD 0 R.length) [.im (.tuple (nD R)), .un] =
    some (tuD (rots R), [.im (.tuple (nD R)), .un]) := by
  have lc := rot_lc R hl (List.range R.length) fun k hk => List.mem_range.mp hk
  rw [← rngD_nDN] at lc
  exact lc
theorem law_first_lr (R : List Nat) (hl : R.length ≤ 1000) : f_law_first [.im (.tuple (nD R))] = some (.im (.tuple (nD (lr R))), [.un]) := by
  have q := eqv_nDT R []
  have sh := sh_nDT R
  have sh0 : SeqAt.shaped (.tuple []) = true := sh_nDT []
  by_cases h : R = []
  · subst h
    rw [decide_eq_true rfl] at q
    have q : PyData.eqv (.tuple []) (.tuple []) = true := q
    rw [show lr [] = [] from rfl]
    unfold f_law_first b_law_first
    simp only [sNop_ap, row?_ap, eRowM_ap, sRowSub_ap, eRowLen_ap, eRowNil_ap, isUn_un, ixN3_0, ixN3_1, ixN3_2, gRowsD_ap, rowsOf_nil, rowsOf_cons, eMeth_ap, isL_l, isS_s, mAppend_ap, mExtend_ap, ownL_fr, gIn_ap, ownDct_fr, gT_apL, hSorted, hTuple, hList, hRev, hRevX, hEqS, sSeq_ap, sBrk_ap, sCnt_ap, sRet_ap, sRetN_ap, sDrop_ap, sIf_ap, sSet_ap, isMu_ap, sAsg_ap, gN_ap, gT_ap, gTs, sPar_ap, sSub_ap, own?_ap, putO_t, putO_f, sAug_ap, sFor_ap, eC_ap, eVar_ap, ePl_ap, eMv_ap, opS_ap, sNil_ap, sCons_ap, gOp_ap, vws_nil, vws_cons, vw_im, vw_fr, vw_frd, vw_frs, vw_frr, vw_pl, view_l, view_d, view_s, view_r, rs_d, rs_l, sl_im, sl_fr, fz_im, fz_fr, fzs_nil, fzs_cons, toD_l, toD_r, gTupD_ap, gLstD_ap, gIx_ap, gDGet_ap, ownDct_pl, keyOf_i, keyOf_s, gMul_ap, tB_ap, tNot_ap, tAnd_ap, tOr_ap, eNot_ap, eAnd_ap, eOr_ap, eIf_ap, tY_ap, eSl_ap, oN_ap, oI_ap, itOf_ap, itR1_ap, itR2_ap, eLc_ap, isIm_ap, eCall_ap, eCallM_ap, fnOf_ap, isPl_im, isPl_fr, eDspl_ap, sArgs_nil, sArgs_cons, mkD_nil, mkD_cons, keepMu_mu, keepMu_im, projS_nil, projS_cons, hAdd, hSub, hMul, hDiv, hMod, hPow, hNeg, hCmp, hEq, hNe, hIsN, hNotN, hIx, hLen, hInt, hAbs, hGcd, hMin, hMax, hCut, isi_ii, isi_ib, isi_tt, isi_ll, isM_un, isM_im, isM_ow, isM_mu, List.getElem?_cons_zero, List.getElem?_cons_succ, List.getElem?_nil, List.set_cons_zero, List.set_cons_succ, List.length_cons, List.length_nil, List.length_map, List.replicate_succ, List.replicate_zero, List.cons_append, List.nil_append, List.map_cons, List.map_nil, Nat.reduceAdd, Nat.zero_add, ne_eq, not_true_eq_false, not_false_eq_true, decide_false, decide_true, Bool.or_self, Bool.or_false, Bool.false_or, Bool.and_self, Bool.false_eq_true, if_false, if_true, reduceIte, szOk_2, szOk_1, szOk_0, szOk_3, lk_left, lk_seed, lk_cells, lk_spot, pt_left, pt_spot, len_mL, mSet, true_and, and_true, List.getD_eq_getElem?_getD, Option.getD_some, seqOf_l, seqOf_t, ↓hIx_sq, ↓hLen_sq, seqOf_sq, ↓hTuple_sq, fz_fr2, gRep_ap, eq_self, gSorted_ap, gSortD_ap, gSortS_ap, ownSet_pl, eDict1_ap, eChain_ap, gInD_ap, gInS_ap, mPop_ap, mAdd_ap, eSet0_ap, sWhile_ap, itEnumX_ap, eM2_ap, eTR1_ap, eLR1_ap, hLtD, gDGetT_ap, ownDctT_pl, gInT_ap, keyT_t, keysOf_nil, keysOf_cons, eDctT0_ap, view_dT, eDict1T_ap, hIsB, hNotB, sPar3_ap, q, nD_nil, sh0, Bool.not_true]
  · rw [decide_eq_false h] at q
    have q : PyData.eqv (.tuple (nD R)) (.tuple []) = false := q
    have lc := lc_rots R hl
    have em := minL_lr h
    have sm : small62 ((R.length : Nat) : Int) = true := small62_b (by omega) (by omega)
    have tn : ((R.length : Nat) : Int).toNat = R.length := Int.toNat_natCast _
    have sz : szOk R.length = true := szOk_le (by omega)
    unfold f_law_first b_law_first
    simp only [↓lc, ↓em, sNop_ap, row?_ap, eRowM_ap, sRowSub_ap, eRowLen_ap, eRowNil_ap, isUn_un, ixN3_0, ixN3_1, ixN3_2, gRowsD_ap, rowsOf_nil, rowsOf_cons, eMeth_ap, isL_l, isS_s, mAppend_ap, mExtend_ap, ownL_fr, gIn_ap, ownDct_fr, gT_apL, hSorted, hTuple, hList, hRev, hRevX, hEqS, sSeq_ap, sBrk_ap, sCnt_ap, sRet_ap, sRetN_ap, sDrop_ap, sIf_ap, sSet_ap, isMu_ap, sAsg_ap, gN_ap, gT_ap, gTs, sPar_ap, sSub_ap, own?_ap, putO_t, putO_f, sAug_ap, sFor_ap, eC_ap, eVar_ap, ePl_ap, eMv_ap, opS_ap, sNil_ap, sCons_ap, gOp_ap, vws_nil, vws_cons, vw_im, vw_fr, vw_frd, vw_frs, vw_frr, vw_pl, view_l, view_d, view_s, view_r, rs_d, rs_l, sl_im, sl_fr, fz_im, fz_fr, fzs_nil, fzs_cons, toD_l, toD_r, gTupD_ap, gLstD_ap, gIx_ap, gDGet_ap, ownDct_pl, keyOf_i, keyOf_s, gMul_ap, tB_ap, tNot_ap, tAnd_ap, tOr_ap, eNot_ap, eAnd_ap, eOr_ap, eIf_ap, tY_ap, eSl_ap, oN_ap, oI_ap, itOf_ap, itR1_ap, itR2_ap, eLc_ap, isIm_ap, eCall_ap, eCallM_ap, fnOf_ap, isPl_im, isPl_fr, eDspl_ap, sArgs_nil, sArgs_cons, mkD_nil, mkD_cons, keepMu_mu, keepMu_im, projS_nil, projS_cons, hAdd, hSub, hMul, hDiv, hMod, hPow, hNeg, hCmp, hEq, hNe, hIsN, hNotN, hIx, hLen, hInt, hAbs, hGcd, hMin, hMax, hCut, isi_ii, isi_ib, isi_tt, isi_ll, isM_un, isM_im, isM_ow, isM_mu, List.getElem?_cons_zero, List.getElem?_cons_succ, List.getElem?_nil, List.set_cons_zero, List.set_cons_succ, List.length_cons, List.length_nil, List.length_map, List.replicate_succ, List.replicate_zero, List.cons_append, List.nil_append, List.map_cons, List.map_nil, Nat.reduceAdd, Nat.zero_add, ne_eq, not_true_eq_false, not_false_eq_true, decide_false, decide_true, Bool.or_self, Bool.or_false, Bool.false_or, Bool.and_self, Bool.false_eq_true, if_false, if_true, reduceIte, szOk_2, szOk_1, szOk_0, szOk_3, lk_left, lk_seed, lk_cells, lk_spot, pt_left, pt_spot, len_mL, mSet, true_and, and_true, List.getD_eq_getElem?_getD, Option.getD_some, seqOf_l, seqOf_t, ↓hIx_sq, ↓hLen_sq, seqOf_sq, ↓hTuple_sq, fz_fr2, gRep_ap, eq_self, gSorted_ap, gSortD_ap, gSortS_ap, ownSet_pl, eDict1_ap, eChain_ap, gInD_ap, gInS_ap, mPop_ap, mAdd_ap, eSet0_ap, sWhile_ap, itEnumX_ap, eM2_ap, eTR1_ap, eLR1_ap, hLtD, gDGetT_ap, ownDctT_pl, gInT_ap, keyT_t, keysOf_nil, keysOf_cons, eDctT0_ap, view_dT, eDict1T_ap, hIsB, hNotB, sPar3_ap, q, sh, sh0, nD_len, rngD_len, sm, tn, sz, Bool.not_false]
theorem tuD_cons (R : List Nat) (l : List (List Nat)) : tuD (R :: l) = .tuple (nD R) :: tuD l := rfl
theorem nD_rev (R : List Nat) : (nD R).reverse = nD R.reverse := by unfold nD; rw [List.map_reverse]
theorem shL1 (s0 s1 s2 s3 s5 : Sl) : ∀ l : List (List Nat), (∀ R ∈ l, R.length ≤ 1000) → lcL 4 tY (eCall 1 f_law_first (sCons (eVar 4) sNil)) (tuD l) [s0, s1, s2, s3, .un, s5] = some (tuD (l.map lr), [s0, s1, s2, s3, .un, s5])
  | [], _ => rfl
  | R :: l, h => by
    have ih := shL1 s0 s1 s2 s3 s5 l fun S hS => h S (List.mem_cons_of_mem _ hS)
    have e := law_first_lr R (h R List.mem_cons_self)
    rw [List.map_cons, tuD_cons, tuD_cons]
    simp only [lcL, ↓e, sNop_ap, row?_ap, eRowM_ap, sRowSub_ap, eRowLen_ap, eRowNil_ap, isUn_un, ixN3_0, ixN3_1, ixN3_2, gRowsD_ap, rowsOf_nil, rowsOf_cons, eMeth_ap, isL_l, isS_s, mAppend_ap, mExtend_ap, ownL_fr, gIn_ap, ownDct_fr, gT_apL, hSorted, hTuple, hList, hRev, hRevX, hEqS, sSeq_ap, sBrk_ap, sCnt_ap, sRet_ap, sRetN_ap, sDrop_ap, sIf_ap, sSet_ap, isMu_ap, sAsg_ap, gN_ap, gT_ap, gTs, sPar_ap, sSub_ap, own?_ap, putO_t, putO_f, sAug_ap, sFor_ap, eC_ap, eVar_ap, ePl_ap, eMv_ap, opS_ap, sNil_ap, sCons_ap, gOp_ap, vws_nil, vws_cons, vw_im, vw_fr, vw_frd, vw_frs, vw_frr, vw_pl, view_l, view_d, view_s, view_r, rs_d, rs_l, sl_im, sl_fr, fz_im, fz_fr, fzs_nil, fzs_cons, toD_l, toD_r, gTupD_ap, gLstD_ap, gIx_ap, gDGet_ap, ownDct_pl, keyOf_i, keyOf_s, gMul_ap, tB_ap, tNot_ap, tAnd_ap, tOr_ap, eNot_ap, eAnd_ap, eOr_ap, eIf_ap, tY_ap, eSl_ap, oN_ap, oI_ap, itOf_ap, itR1_ap, itR2_ap, eLc_ap, isIm_ap, eCall_ap, eCallM_ap, fnOf_ap, isPl_im, isPl_fr, eDspl_ap, sArgs_nil, sArgs_cons, mkD_nil, mkD_cons, keepMu_mu, keepMu_im, projS_nil, projS_cons, hAdd, hSub, hMul, hDiv, hMod, hPow, hNeg, hCmp, hEq, hNe, hIsN, hNotN, hIx, hLen, hInt, hAbs, hGcd, hMin, hMax, hCut, isi_ii, isi_ib, isi_tt, isi_ll, isM_un, isM_im, isM_ow, isM_mu, List.getElem?_cons_zero, List.getElem?_cons_succ, List.getElem?_nil, List.set_cons_zero, List.set_cons_succ, List.length_cons, List.length_nil, List.length_map, List.replicate_succ, List.replicate_zero, List.cons_append, List.nil_append, List.map_cons, List.map_nil, Nat.reduceAdd, Nat.zero_add, ne_eq, not_true_eq_false, not_false_eq_true, decide_false, decide_true, Bool.or_self, Bool.or_false, Bool.false_or, Bool.and_self, Bool.false_eq_true, if_false, if_true, reduceIte, szOk_2, szOk_1, szOk_0, szOk_3, lk_left, lk_seed, lk_cells, lk_spot, pt_left, pt_spot, len_mL, mSet, true_and, and_true, List.getD_eq_getElem?_getD, Option.getD_some, seqOf_l, seqOf_t, ↓hIx_sq, ↓hLen_sq, seqOf_sq, ↓hTuple_sq, fz_fr2, gRep_ap, eq_self, gSorted_ap, gSortD_ap, gSortS_ap, ownSet_pl, eDict1_ap, eChain_ap, gInD_ap, gInS_ap, mPop_ap, mAdd_ap, eSet0_ap, sWhile_ap, itEnumX_ap, eM2_ap, eTR1_ap, eLR1_ap, hLtD, gDGetT_ap, ownDctT_pl, gInT_ap, keyT_t, keysOf_nil, keysOf_cons, eDctT0_ap, view_dT, eDict1T_ap, hIsB, hNotB, sPar3_ap, ih]
theorem shL2 (s0 s1 s2 s3 s5 : Sl) : ∀ l : List (List Nat), (∀ R ∈ l, R.length ≤ 1000) → lcL 4 tY (eCall 1 f_law_first (sCons (opS (gOp hRevX) (sCons (ePl 4) sNil)) sNil)) (tuD l) [s0, s1, s2, s3, .un, s5] = some (tuD (l.map fun R => lr R.reverse), [s0, s1, s2, s3, .un, s5])
  | [], _ => rfl
  | R :: l, h => by
    have ih := shL2 s0 s1 s2 s3 s5 l fun S hS => h S (List.mem_cons_of_mem _ hS)
    have e := law_first_lr R.reverse (by rw [List.length_reverse]; exact h R List.mem_cons_self)
    rw [List.map_cons, tuD_cons, tuD_cons]
    simp only [lcL, ↓e, sNop_ap, row?_ap, eRowM_ap, sRowSub_ap, eRowLen_ap, eRowNil_ap, isUn_un, ixN3_0, ixN3_1, ixN3_2, gRowsD_ap, rowsOf_nil, rowsOf_cons, eMeth_ap, isL_l, isS_s, mAppend_ap, mExtend_ap, ownL_fr, gIn_ap, ownDct_fr, gT_apL, hSorted, hTuple, hList, hRev, hRevX, hEqS, sSeq_ap, sBrk_ap, sCnt_ap, sRet_ap, sRetN_ap, sDrop_ap, sIf_ap, sSet_ap, isMu_ap, sAsg_ap, gN_ap, gT_ap, gTs, sPar_ap, sSub_ap, own?_ap, putO_t, putO_f, sAug_ap, sFor_ap, eC_ap, eVar_ap, ePl_ap, eMv_ap, opS_ap, sNil_ap, sCons_ap, gOp_ap, vws_nil, vws_cons, vw_im, vw_fr, vw_frd, vw_frs, vw_frr, vw_pl, view_l, view_d, view_s, view_r, rs_d, rs_l, sl_im, sl_fr, fz_im, fz_fr, fzs_nil, fzs_cons, toD_l, toD_r, gTupD_ap, gLstD_ap, gIx_ap, gDGet_ap, ownDct_pl, keyOf_i, keyOf_s, gMul_ap, tB_ap, tNot_ap, tAnd_ap, tOr_ap, eNot_ap, eAnd_ap, eOr_ap, eIf_ap, tY_ap, eSl_ap, oN_ap, oI_ap, itOf_ap, itR1_ap, itR2_ap, eLc_ap, isIm_ap, eCall_ap, eCallM_ap, fnOf_ap, isPl_im, isPl_fr, eDspl_ap, sArgs_nil, sArgs_cons, mkD_nil, mkD_cons, keepMu_mu, keepMu_im, projS_nil, projS_cons, hAdd, hSub, hMul, hDiv, hMod, hPow, hNeg, hCmp, hEq, hNe, hIsN, hNotN, hIx, hLen, hInt, hAbs, hGcd, hMin, hMax, hCut, isi_ii, isi_ib, isi_tt, isi_ll, isM_un, isM_im, isM_ow, isM_mu, List.getElem?_cons_zero, List.getElem?_cons_succ, List.getElem?_nil, List.set_cons_zero, List.set_cons_succ, List.length_cons, List.length_nil, List.length_map, List.replicate_succ, List.replicate_zero, List.cons_append, List.nil_append, List.map_cons, List.map_nil, Nat.reduceAdd, Nat.zero_add, ne_eq, not_true_eq_false, not_false_eq_true, decide_false, decide_true, Bool.or_self, Bool.or_false, Bool.false_or, Bool.and_self, Bool.false_eq_true, if_false, if_true, reduceIte, szOk_2, szOk_1, szOk_0, szOk_3, lk_left, lk_seed, lk_cells, lk_spot, pt_left, pt_spot, len_mL, mSet, true_and, and_true, List.getD_eq_getElem?_getD, Option.getD_some, seqOf_l, seqOf_t, ↓hIx_sq, ↓hLen_sq, seqOf_sq, ↓hTuple_sq, fz_fr2, gRep_ap, eq_self, gSorted_ap, gSortD_ap, gSortS_ap, ownSet_pl, eDict1_ap, eChain_ap, gInD_ap, gInS_ap, mPop_ap, mAdd_ap, eSet0_ap, sWhile_ap, itEnumX_ap, eM2_ap, eTR1_ap, eLR1_ap, hLtD, gDGetT_ap, ownDctT_pl, gInT_ap, keyT_t, keysOf_nil, keysOf_cons, eDctT0_ap, view_dT, eDict1T_ap, hIsB, hNotB, sPar3_ap, nD_rev, ih]
theorem shL3 (s0 s1 s4 : Sl) (l : List (List Nat)) : ∀ (A A' : List (List Nat)), l = A' ++ A →
    lcL 5 tY (opS (gOp hMin2D) (sCons (opS gIx (sCons (ePl 2) (sCons (ePl 5) sNil))) (sCons (opS gIx (sCons (ePl 3) (sCons (ePl 5) sNil))) sNil))) (nD (List.range' A'.length A.length)) [s0, s1, .im (.list (tuD (l.map lr))), .im (.list (tuD (l.map fun R => lr R.reverse))), s4, .un] =
      some (tuD (A.map fun R => mnR (lr R) (lr R.reverse)), [s0, s1, .im (.list (tuD (l.map lr))), .im (.list (tuD (l.map fun R => lr R.reverse))), s4, .un])
  | [], A', _ => rfl
  | R :: A, A', e => by
    have ih := shL3 s0 s1 s4 l A (A' ++ [R]) (by rw [e, List.append_assoc]; rfl)
    have em := min2R (lr R) (lr R.reverse)
    have hk : A'.length < l.length := by rw [e, List.length_append, List.length_cons]; omega
    have gk : l[A'.length] = R := by
      subst e
      rw [List.getElem_append_right (Nat.le_refl _)]
      simp
    have a1 : atI (tuD (l.map lr)) ((A'.length : Nat) : Int) = some (.tuple (nD (lr R))) := by
      rw [at_tuD (by rw [List.length_map]; exact hk), List.getElem_map, gk]
    have a2 : atI (tuD (l.map fun R => lr R.reverse)) ((A'.length : Nat) : Int) = some (.tuple (nD (lr R.reverse))) := by
      rw [at_tuD (by rw [List.length_map]; exact hk), List.getElem_map, gk]
    rw [List.length_append, List.length_singleton] at ih
    rw [List.length_cons, List.range'_succ, List.map_cons, tuD_cons]
    simp only [nD_cons, lcL, ↓em, sNop_ap, row?_ap, eRowM_ap, sRowSub_ap, eRowLen_ap, eRowNil_ap, isUn_un, ixN3_0, ixN3_1, ixN3_2, gRowsD_ap, rowsOf_nil, rowsOf_cons, eMeth_ap, isL_l, isS_s, mAppend_ap, mExtend_ap, ownL_fr, gIn_ap, ownDct_fr, gT_apL, hSorted, hTuple, hList, hRev, hRevX, hEqS, sSeq_ap, sBrk_ap, sCnt_ap, sRet_ap, sRetN_ap, sDrop_ap, sIf_ap, sSet_ap, isMu_ap, sAsg_ap, gN_ap, gT_ap, gTs, sPar_ap, sSub_ap, own?_ap, putO_t, putO_f, sAug_ap, sFor_ap, eC_ap, eVar_ap, ePl_ap, eMv_ap, opS_ap, sNil_ap, sCons_ap, gOp_ap, vws_nil, vws_cons, vw_im, vw_fr, vw_frd, vw_frs, vw_frr, vw_pl, view_l, view_d, view_s, view_r, rs_d, rs_l, sl_im, sl_fr, fz_im, fz_fr, fzs_nil, fzs_cons, toD_l, toD_r, gTupD_ap, gLstD_ap, gIx_ap, gDGet_ap, ownDct_pl, keyOf_i, keyOf_s, gMul_ap, tB_ap, tNot_ap, tAnd_ap, tOr_ap, eNot_ap, eAnd_ap, eOr_ap, eIf_ap, tY_ap, eSl_ap, oN_ap, oI_ap, itOf_ap, itR1_ap, itR2_ap, eLc_ap, isIm_ap, eCall_ap, eCallM_ap, fnOf_ap, isPl_im, isPl_fr, eDspl_ap, sArgs_nil, sArgs_cons, mkD_nil, mkD_cons, keepMu_mu, keepMu_im, projS_nil, projS_cons, hAdd, hSub, hMul, hDiv, hMod, hPow, hNeg, hCmp, hEq, hNe, hIsN, hNotN, hIx, hLen, hInt, hAbs, hGcd, hMin, hMax, hCut, isi_ii, isi_ib, isi_tt, isi_ll, isM_un, isM_im, isM_ow, isM_mu, List.getElem?_cons_zero, List.getElem?_cons_succ, List.getElem?_nil, List.set_cons_zero, List.set_cons_succ, List.length_cons, List.length_nil, List.length_map, List.replicate_succ, List.replicate_zero, List.cons_append, List.nil_append, List.map_cons, List.map_nil, Nat.reduceAdd, Nat.zero_add, ne_eq, not_true_eq_false, not_false_eq_true, decide_false, decide_true, Bool.or_self, Bool.or_false, Bool.false_or, Bool.and_self, Bool.false_eq_true, if_false, if_true, reduceIte, szOk_2, szOk_1, szOk_0, szOk_3, lk_left, lk_seed, lk_cells, lk_spot, pt_left, pt_spot, len_mL, mSet, true_and, and_true, List.getD_eq_getElem?_getD, Option.getD_some, seqOf_l, seqOf_t, ↓hIx_sq, ↓hLen_sq, seqOf_sq, ↓hTuple_sq, fz_fr2, gRep_ap, eq_self, gSorted_ap, gSortD_ap, gSortS_ap, ownSet_pl, eDict1_ap, eChain_ap, gInD_ap, gInS_ap, mPop_ap, mAdd_ap, eSet0_ap, sWhile_ap, itEnumX_ap, eM2_ap, eTR1_ap, eLR1_ap, hLtD, gDGetT_ap, ownDctT_pl, gInT_ap, keyT_t, keysOf_nil, keysOf_cons, eDctT0_ap, view_dT, eDict1T_ap, hIsB, hNotB, sPar3_ap, a1, a2, ih]
theorem law_shape_NS (l : List (List Nat)) (hl : l.length ≤ 1000) (hr : ∀ R ∈ l, R.length ≤ 1000) (b : Bool) : f_law_shape [.im (.list (tuD l)), .im (.bool b)] = some (.im (.tuple (tuD (NS b l))), [.un, .un]) := by
  have e1 := shL1 (.im (.list (tuD l))) (.im (.bool b)) .un .un .un l hr
  have e2 := shL2 (.im (.list (tuD l))) (.im (.bool b)) .un .un .un l hr
  have sz : szOk l.length = true := szOk_le (by omega)
  cases b with
  | true =>
    have h1 := hSortE_R (l.map lr)
    have h2 := hSortE_R (l.map fun R => lr R.reverse)
    have h3 := min2L (srtR (nsA l)) (srtR (nsB l))
    unfold nsA nsB at h3
    unfold NS nsA nsB
    rw [if_pos rfl]
    unfold f_law_shape b_law_shape
    simp only [↓e1, ↓e2, ↓h1, ↓h2, ↓h3, sNop_ap, row?_ap, eRowM_ap, sRowSub_ap, eRowLen_ap, eRowNil_ap, isUn_un, ixN3_0, ixN3_1, ixN3_2, gRowsD_ap, rowsOf_nil, rowsOf_cons, eMeth_ap, isL_l, isS_s, mAppend_ap, mExtend_ap, ownL_fr, gIn_ap, ownDct_fr, gT_apL, hSorted, hTuple, hList, hRev, hRevX, hEqS, sSeq_ap, sBrk_ap, sCnt_ap, sRet_ap, sRetN_ap, sDrop_ap, sIf_ap, sSet_ap, isMu_ap, sAsg_ap, gN_ap, gT_ap, gTs, sPar_ap, sSub_ap, own?_ap, putO_t, putO_f, sAug_ap, sFor_ap, eC_ap, eVar_ap, ePl_ap, eMv_ap, opS_ap, sNil_ap, sCons_ap, gOp_ap, vws_nil, vws_cons, vw_im, vw_fr, vw_frd, vw_frs, vw_frr, vw_pl, view_l, view_d, view_s, view_r, rs_d, rs_l, sl_im, sl_fr, fz_im, fz_fr, fzs_nil, fzs_cons, toD_l, toD_r, gTupD_ap, gLstD_ap, gIx_ap, gDGet_ap, ownDct_pl, keyOf_i, keyOf_s, gMul_ap, tB_ap, tNot_ap, tAnd_ap, tOr_ap, eNot_ap, eAnd_ap, eOr_ap, eIf_ap, tY_ap, eSl_ap, oN_ap, oI_ap, itOf_ap, itR1_ap, itR2_ap, eLc_ap, isIm_ap, eCall_ap, eCallM_ap, fnOf_ap, isPl_im, isPl_fr, eDspl_ap, sArgs_nil, sArgs_cons, mkD_nil, mkD_cons, keepMu_mu, keepMu_im, projS_nil, projS_cons, hAdd, hSub, hMul, hDiv, hMod, hPow, hNeg, hCmp, hEq, hNe, hIsN, hNotN, hIx, hLen, hInt, hAbs, hGcd, hMin, hMax, hCut, isi_ii, isi_ib, isi_tt, isi_ll, isM_un, isM_im, isM_ow, isM_mu, List.getElem?_cons_zero, List.getElem?_cons_succ, List.getElem?_nil, List.set_cons_zero, List.set_cons_succ, List.length_cons, List.length_nil, List.length_map, List.replicate_succ, List.replicate_zero, List.cons_append, List.nil_append, List.map_cons, List.map_nil, Nat.reduceAdd, Nat.zero_add, ne_eq, not_true_eq_false, not_false_eq_true, decide_false, decide_true, Bool.or_self, Bool.or_false, Bool.false_or, Bool.and_self, Bool.false_eq_true, if_false, if_true, reduceIte, szOk_2, szOk_1, szOk_0, szOk_3, lk_left, lk_seed, lk_cells, lk_spot, pt_left, pt_spot, len_mL, mSet, true_and, and_true, List.getD_eq_getElem?_getD, Option.getD_some, seqOf_l, seqOf_t, ↓hIx_sq, ↓hLen_sq, seqOf_sq, ↓hTuple_sq, fz_fr2, gRep_ap, eq_self, gSorted_ap, gSortD_ap, gSortS_ap, ownSet_pl, eDict1_ap, eChain_ap, gInD_ap, gInS_ap, mPop_ap, mAdd_ap, eSet0_ap, sWhile_ap, itEnumX_ap, eM2_ap, eTR1_ap, eLR1_ap, hLtD, gDGetT_ap, ownDctT_pl, gInT_ap, keyT_t, keysOf_nil, keysOf_cons, eDctT0_ap, view_dT, eDict1T_ap, hIsB, hNotB, sPar3_ap, tuD_len, sz]
  | false =>
    have e3 := shL3 (.im (.list (tuD l))) (.im (.bool false)) .un l l [] rfl
    have h1 := hSortE_R (l.map fun R => mnR (lr R) (lr R.reverse))
    have eL : nD (List.range' ([] : List (List Nat)).length l.length) = rngD 0 l.length := by rw [rngD_nDN, List.range_eq_range']; rfl
    rw [eL] at e3
    have sm : small62 ((l.length : Nat) : Int) = true := small62_b (by omega) (by omega)
    have tn : ((l.length : Nat) : Int).toNat = l.length := Int.toNat_natCast _
    unfold NS
    rw [if_neg (by simp)]
    unfold f_law_shape b_law_shape
    simp only [↓e1, ↓e2, ↓e3, ↓h1, sNop_ap, row?_ap, eRowM_ap, sRowSub_ap, eRowLen_ap, eRowNil_ap, isUn_un, ixN3_0, ixN3_1, ixN3_2, gRowsD_ap, rowsOf_nil, rowsOf_cons, eMeth_ap, isL_l, isS_s, mAppend_ap, mExtend_ap, ownL_fr, gIn_ap, ownDct_fr, gT_apL, hSorted, hTuple, hList, hRev, hRevX, hEqS, sSeq_ap, sBrk_ap, sCnt_ap, sRet_ap, sRetN_ap, sDrop_ap, sIf_ap, sSet_ap, isMu_ap, sAsg_ap, gN_ap, gT_ap, gTs, sPar_ap, sSub_ap, own?_ap, putO_t, putO_f, sAug_ap, sFor_ap, eC_ap, eVar_ap, ePl_ap, eMv_ap, opS_ap, sNil_ap, sCons_ap, gOp_ap, vws_nil, vws_cons, vw_im, vw_fr, vw_frd, vw_frs, vw_frr, vw_pl, view_l, view_d, view_s, view_r, rs_d, rs_l, sl_im, sl_fr, fz_im, fz_fr, fzs_nil, fzs_cons, toD_l, toD_r, gTupD_ap, gLstD_ap, gIx_ap, gDGet_ap, ownDct_pl, keyOf_i, keyOf_s, gMul_ap, tB_ap, tNot_ap, tAnd_ap, tOr_ap, eNot_ap, eAnd_ap, eOr_ap, eIf_ap, tY_ap, eSl_ap, oN_ap, oI_ap, itOf_ap, itR1_ap, itR2_ap, eLc_ap, isIm_ap, eCall_ap, eCallM_ap, fnOf_ap, isPl_im, isPl_fr, eDspl_ap, sArgs_nil, sArgs_cons, mkD_nil, mkD_cons, keepMu_mu, keepMu_im, projS_nil, projS_cons, hAdd, hSub, hMul, hDiv, hMod, hPow, hNeg, hCmp, hEq, hNe, hIsN, hNotN, hIx, hLen, hInt, hAbs, hGcd, hMin, hMax, hCut, isi_ii, isi_ib, isi_tt, isi_ll, isM_un, isM_im, isM_ow, isM_mu, List.getElem?_cons_zero, List.getElem?_cons_succ, List.getElem?_nil, List.set_cons_zero, List.set_cons_succ, List.length_cons, List.length_nil, List.length_map, List.replicate_succ, List.replicate_zero, List.cons_append, List.nil_append, List.map_cons, List.map_nil, Nat.reduceAdd, Nat.zero_add, ne_eq, not_true_eq_false, not_false_eq_true, decide_false, decide_true, Bool.or_self, Bool.or_false, Bool.false_or, Bool.and_self, Bool.false_eq_true, if_false, if_true, reduceIte, szOk_2, szOk_1, szOk_0, szOk_3, lk_left, lk_seed, lk_cells, lk_spot, pt_left, pt_spot, len_mL, mSet, true_and, and_true, List.getD_eq_getElem?_getD, Option.getD_some, seqOf_l, seqOf_t, ↓hIx_sq, ↓hLen_sq, seqOf_sq, ↓hTuple_sq, fz_fr2, gRep_ap, eq_self, gSorted_ap, gSortD_ap, gSortS_ap, ownSet_pl, eDict1_ap, eChain_ap, gInD_ap, gInS_ap, mPop_ap, mAdd_ap, eSet0_ap, sWhile_ap, itEnumX_ap, eM2_ap, eTR1_ap, eLR1_ap, hLtD, gDGetT_ap, ownDctT_pl, gInT_ap, keyT_t, keysOf_nil, keysOf_cons, eDctT0_ap, view_dT, eDict1T_ap, hIsB, hNotB, sPar3_ap, tuD_len, rngD_len, sz, sm, tn]
/-! normal_borders -/
theorem bdL3 (s0 s1 s2 s4 : Sl) : ∀ (A : List (List Nat)),
    lcQ 3 5 tY (opS (gOp hMin2D) (sCons (ePl 3) (sCons (ePl 5) sNil))) (zipD (tuD (A.map lr)) (tuD (A.map fun R => lr R.reverse))) [s0, s1, s2, .un, s4, .un] =
      some (tuD (A.map fun R => mnR (lr R) (lr R.reverse)), [s0, s1, s2, .un, s4, .un])
  | [] => rfl
  | R :: A => by
    have ih := bdL3 s0 s1 s2 s4 A
    have em := min2R (lr R) (lr R.reverse)
    simp only [List.map_cons, tuD_cons, zipD, lcQ, ↓em, sNop_ap, row?_ap, eRowM_ap, sRowSub_ap, eRowLen_ap, eRowNil_ap, isUn_un, ixN3_0, ixN3_1, ixN3_2, gRowsD_ap, rowsOf_nil, rowsOf_cons, eMeth_ap, isL_l, isS_s, mAppend_ap, mExtend_ap, ownL_fr, gIn_ap, ownDct_fr, gT_apL, hSorted, hTuple, hList, hRev, hRevX, hEqS, sSeq_ap, sBrk_ap, sCnt_ap, sRet_ap, sRetN_ap, sDrop_ap, sIf_ap, sSet_ap, isMu_ap, sAsg_ap, gN_ap, gT_ap, gTs, sPar_ap, sSub_ap, own?_ap, putO_t, putO_f, sAug_ap, sFor_ap, eC_ap, eVar_ap, ePl_ap, eMv_ap, opS_ap, sNil_ap, sCons_ap, gOp_ap, vws_nil, vws_cons, vw_im, vw_fr, vw_frd, vw_frs, vw_frr, vw_pl, view_l, view_d, view_s, view_r, rs_d, rs_l, sl_im, sl_fr, fz_im, fz_fr, fzs_nil, fzs_cons, toD_l, toD_r, gTupD_ap, gLstD_ap, gIx_ap, gDGet_ap, ownDct_pl, keyOf_i, keyOf_s, gMul_ap, tB_ap, tNot_ap, tAnd_ap, tOr_ap, eNot_ap, eAnd_ap, eOr_ap, eIf_ap, tY_ap, eSl_ap, oN_ap, oI_ap, itOf_ap, itR1_ap, itR2_ap, eLc_ap, isIm_ap, eCall_ap, eCallM_ap, fnOf_ap, isPl_im, isPl_fr, eDspl_ap, sArgs_nil, sArgs_cons, mkD_nil, mkD_cons, keepMu_mu, keepMu_im, projS_nil, projS_cons, hAdd, hSub, hMul, hDiv, hMod, hPow, hNeg, hCmp, hEq, hNe, hIsN, hNotN, hIx, hLen, hInt, hAbs, hGcd, hMin, hMax, hCut, isi_ii, isi_ib, isi_tt, isi_ll, isM_un, isM_im, isM_ow, isM_mu, List.getElem?_cons_zero, List.getElem?_cons_succ, List.getElem?_nil, List.set_cons_zero, List.set_cons_succ, List.length_cons, List.length_nil, List.length_map, List.replicate_succ, List.replicate_zero, List.cons_append, List.nil_append, List.map_cons, List.map_nil, Nat.reduceAdd, Nat.zero_add, ne_eq, not_true_eq_false, not_false_eq_true, decide_false, decide_true, Bool.or_self, Bool.or_false, Bool.false_or, Bool.and_self, Bool.false_eq_true, if_false, if_true, reduceIte, szOk_2, szOk_1, szOk_0, szOk_3, lk_left, lk_seed, lk_cells, lk_spot, pt_left, pt_spot, len_mL, mSet, true_and, and_true, List.getD_eq_getElem?_getD, Option.getD_some, seqOf_l, seqOf_t, ↓hIx_sq, ↓hLen_sq, seqOf_sq, ↓hTuple_sq, fz_fr2, gRep_ap, eq_self, gSorted_ap, gSortD_ap, gSortS_ap, ownSet_pl, eDict1_ap, eChain_ap, gInD_ap, gInS_ap, mPop_ap, mAdd_ap, eSet0_ap, sWhile_ap, itEnumX_ap, eM2_ap, eTR1_ap, eLR1_ap, hLtD, gDGetT_ap, ownDctT_pl, gInT_ap, keyT_t, keysOf_nil, keysOf_cons, eDctT0_ap, view_dT, eDict1T_ap, hIsB, hNotB, sPar3_ap, ih]
/-! normal_name, _law_normal -/
def fl (t : Nat) : Bool := decide (1 < t)
def srtN (L : List Nat) : List Nat := L.mergeSort fun a b => decide (a ≤ b)
theorem srtN_perm (L : List Nat) : (srtN L).Perm L := List.mergeSort_perm _ _
theorem srtN_so (L : List Nat) : (srtN L).Pairwise (· ≤ ·) := by
  have := List.pairwise_mergeSort (le := fun a b : Nat => decide (a ≤ b)) (fun a b c h1 h2 => by
    have := of_decide_eq_true h1
    have := of_decide_eq_true h2
    exact decide_eq_true (by omega)) (fun a b => by
    by_cases h : a ≤ b
    · rw [decide_eq_true h]; rfl
    · rw [decide_eq_true (show b ≤ a by omega), Bool.or_true]) L
  exact this.imp fun h => of_decide_eq_true h
theorem srtN_same {L M : List Nat} (p : L.Perm M) : srtN L = srtN M :=
  List.Perm.eq_of_pairwise (le := (· ≤ ·)) (fun x y _ _ h1 h2 => Nat.le_antisymm h1 h2) (srtN_so L) (srtN_so M) ((srtN_perm L).trans (p.trans (srtN_perm M).symm))
theorem sorted_N (L : List Nat) : hSorted [.list (nD L)] = some (.l (nD (srtN L))) := by
  have ti : toInts (nD L) = some (L.map fun (i : Nat) => (i : Int)) := by
    rw [nD_ints]
    generalize (L.map fun (i : Nat) => (i : Int)) = l
    induction l with
    | nil => rfl
    | cons i l ih => simp only [List.map_cons, toInts, ih]
  have p : ((srtN L).map fun (i : Nat) => (i : Int)).Perm (L.map fun (i : Nat) => (i : Int)) := (srtN_perm L).map _
  have e := sortI_is p (by
    rw [List.pairwise_map]
    exact (srtN_so L).imp fun h => by omega)
  unfold hSorted
  simp only [ti]
  rw [← e, nD_ints]
theorem fl_in6 (s0 s1 s2 s3 s4 s5 : Sl) : ∀ l : List Nat, lcL 6 (tB' (opS (gOp (hCmp fun i j => decide (j < i))) (sCons (ePl 6) (sCons (eC (.int 1)) sNil)))) (eVar 6) (nD l) [s0, s1, s2, s3, s4, s5, .un] = some (nD (l.filter fl), [s0, s1, s2, s3, s4, s5, .un])
  | [] => rfl
  | t :: l => by
    have ih := fl_in6 s0 s1 s2 s3 s4 s5 l
    rw [List.filter_cons]
    by_cases c : 1 < t
    · have d : decide ((1 : Int) < (t : Int)) = true := decide_eq_true (by omega)
      rw [if_pos (show fl t = true from decide_eq_true c)]
      simp only [nD_cons, lcL, sNop_ap, row?_ap, eRowM_ap, sRowSub_ap, eRowLen_ap, eRowNil_ap, isUn_un, ixN3_0, ixN3_1, ixN3_2, gRowsD_ap, rowsOf_nil, rowsOf_cons, eMeth_ap, isL_l, isS_s, mAppend_ap, mExtend_ap, ownL_fr, gIn_ap, ownDct_fr, gT_apL, hSorted, hTuple, hList, hRev, hRevX, hEqS, sSeq_ap, sBrk_ap, sCnt_ap, sRet_ap, sRetN_ap, sDrop_ap, sIf_ap, sSet_ap, isMu_ap, sAsg_ap, gN_ap, gT_ap, gTs, sPar_ap, sSub_ap, own?_ap, putO_t, putO_f, sAug_ap, sFor_ap, eC_ap, eVar_ap, ePl_ap, eMv_ap, opS_ap, sNil_ap, sCons_ap, gOp_ap, vws_nil, vws_cons, vw_im, vw_fr, vw_frd, vw_frs, vw_frr, vw_pl, view_l, view_d, view_s, view_r, rs_d, rs_l, sl_im, sl_fr, fz_im, fz_fr, fzs_nil, fzs_cons, toD_l, toD_r, gTupD_ap, gLstD_ap, gIx_ap, gDGet_ap, ownDct_pl, keyOf_i, keyOf_s, gMul_ap, tB_ap, tNot_ap, tAnd_ap, tOr_ap, eNot_ap, eAnd_ap, eOr_ap, eIf_ap, tY_ap, eSl_ap, oN_ap, oI_ap, itOf_ap, itR1_ap, itR2_ap, eLc_ap, isIm_ap, eCall_ap, eCallM_ap, fnOf_ap, isPl_im, isPl_fr, eDspl_ap, sArgs_nil, sArgs_cons, mkD_nil, mkD_cons, keepMu_mu, keepMu_im, projS_nil, projS_cons, hAdd, hSub, hMul, hDiv, hMod, hPow, hNeg, hCmp, hEq, hNe, hIsN, hNotN, hIx, hLen, hInt, hAbs, hGcd, hMin, hMax, hCut, isi_ii, isi_ib, isi_tt, isi_ll, isM_un, isM_im, isM_ow, isM_mu, List.getElem?_cons_zero, List.getElem?_cons_succ, List.getElem?_nil, List.set_cons_zero, List.set_cons_succ, List.length_cons, List.length_nil, List.length_map, List.replicate_succ, List.replicate_zero, List.cons_append, List.nil_append, List.map_cons, List.map_nil, Nat.reduceAdd, Nat.zero_add, ne_eq, not_true_eq_false, not_false_eq_true, decide_false, decide_true, Bool.or_self, Bool.or_false, Bool.false_or, Bool.and_self, Bool.false_eq_true, if_false, if_true, reduceIte, szOk_2, szOk_1, szOk_0, szOk_3, lk_left, lk_seed, lk_cells, lk_spot, pt_left, pt_spot, len_mL, mSet, true_and, and_true, List.getD_eq_getElem?_getD, Option.getD_some, seqOf_l, seqOf_t, ↓hIx_sq, ↓hLen_sq, seqOf_sq, ↓hTuple_sq, fz_fr2, gRep_ap, eq_self, gSorted_ap, gSortD_ap, gSortS_ap, ownSet_pl, eDict1_ap, eChain_ap, gInD_ap, gInS_ap, mPop_ap, mAdd_ap, eSet0_ap, sWhile_ap, itEnumX_ap, eM2_ap, eTR1_ap, eLR1_ap, hLtD, gDGetT_ap, ownDctT_pl, gInT_ap, keyT_t, keysOf_nil, keysOf_cons, eDctT0_ap, view_dT, eDict1T_ap, hIsB, hNotB, sPar3_ap, hCmp_ii, d, ih]
    · have d : decide ((1 : Int) < (t : Int)) = false := decide_eq_false (by omega)
      rw [if_neg (show ¬ fl t = true from fun z => c (of_decide_eq_true z))]
      simp only [nD_cons, lcL, sNop_ap, row?_ap, eRowM_ap, sRowSub_ap, eRowLen_ap, eRowNil_ap, isUn_un, ixN3_0, ixN3_1, ixN3_2, gRowsD_ap, rowsOf_nil, rowsOf_cons, eMeth_ap, isL_l, isS_s, mAppend_ap, mExtend_ap, ownL_fr, gIn_ap, ownDct_fr, gT_apL, hSorted, hTuple, hList, hRev, hRevX, hEqS, sSeq_ap, sBrk_ap, sCnt_ap, sRet_ap, sRetN_ap, sDrop_ap, sIf_ap, sSet_ap, isMu_ap, sAsg_ap, gN_ap, gT_ap, gTs, sPar_ap, sSub_ap, own?_ap, putO_t, putO_f, sAug_ap, sFor_ap, eC_ap, eVar_ap, ePl_ap, eMv_ap, opS_ap, sNil_ap, sCons_ap, gOp_ap, vws_nil, vws_cons, vw_im, vw_fr, vw_frd, vw_frs, vw_frr, vw_pl, view_l, view_d, view_s, view_r, rs_d, rs_l, sl_im, sl_fr, fz_im, fz_fr, fzs_nil, fzs_cons, toD_l, toD_r, gTupD_ap, gLstD_ap, gIx_ap, gDGet_ap, ownDct_pl, keyOf_i, keyOf_s, gMul_ap, tB_ap, tNot_ap, tAnd_ap, tOr_ap, eNot_ap, eAnd_ap, eOr_ap, eIf_ap, tY_ap, eSl_ap, oN_ap, oI_ap, itOf_ap, itR1_ap, itR2_ap, eLc_ap, isIm_ap, eCall_ap, eCallM_ap, fnOf_ap, isPl_im, isPl_fr, eDspl_ap, sArgs_nil, sArgs_cons, mkD_nil, mkD_cons, keepMu_mu, keepMu_im, projS_nil, projS_cons, hAdd, hSub, hMul, hDiv, hMod, hPow, hNeg, hCmp, hEq, hNe, hIsN, hNotN, hIx, hLen, hInt, hAbs, hGcd, hMin, hMax, hCut, isi_ii, isi_ib, isi_tt, isi_ll, isM_un, isM_im, isM_ow, isM_mu, List.getElem?_cons_zero, List.getElem?_cons_succ, List.getElem?_nil, List.set_cons_zero, List.set_cons_succ, List.length_cons, List.length_nil, List.length_map, List.replicate_succ, List.replicate_zero, List.cons_append, List.nil_append, List.map_cons, List.map_nil, Nat.reduceAdd, Nat.zero_add, ne_eq, not_true_eq_false, not_false_eq_true, decide_false, decide_true, Bool.or_self, Bool.or_false, Bool.false_or, Bool.and_self, Bool.false_eq_true, if_false, if_true, reduceIte, szOk_2, szOk_1, szOk_0, szOk_3, lk_left, lk_seed, lk_cells, lk_spot, pt_left, pt_spot, len_mL, mSet, true_and, and_true, List.getD_eq_getElem?_getD, Option.getD_some, seqOf_l, seqOf_t, ↓hIx_sq, ↓hLen_sq, seqOf_sq, ↓hTuple_sq, fz_fr2, gRep_ap, eq_self, gSorted_ap, gSortD_ap, gSortS_ap, ownSet_pl, eDict1_ap, eChain_ap, gInD_ap, gInS_ap, mPop_ap, mAdd_ap, eSet0_ap, sWhile_ap, itEnumX_ap, eM2_ap, eTR1_ap, eLR1_ap, hLtD, gDGetT_ap, ownDctT_pl, gInT_ap, keyT_t, keysOf_nil, keysOf_cons, eDctT0_ap, view_dT, eDict1T_ap, hIsB, hNotB, sPar3_ap, hCmp_ii, d, ih]
theorem fl_in5 (s0 s1 s2 s3 s4 s6 s7 : Sl) : ∀ l : List Nat, lcL 5 (tB' (opS (gOp (hCmp fun i j => decide (j < i))) (sCons (ePl 5) (sCons (eC (.int 1)) sNil)))) (eVar 5) (nD l) [s0, s1, s2, s3, s4, .un, s6, s7] = some (nD (l.filter fl), [s0, s1, s2, s3, s4, .un, s6, s7])
  | [] => rfl
  | t :: l => by
    have ih := fl_in5 s0 s1 s2 s3 s4 s6 s7 l
    rw [List.filter_cons]
    by_cases c : 1 < t
    · have d : decide ((1 : Int) < (t : Int)) = true := decide_eq_true (by omega)
      rw [if_pos (show fl t = true from decide_eq_true c)]
      simp only [nD_cons, lcL, sNop_ap, row?_ap, eRowM_ap, sRowSub_ap, eRowLen_ap, eRowNil_ap, isUn_un, ixN3_0, ixN3_1, ixN3_2, gRowsD_ap, rowsOf_nil, rowsOf_cons, eMeth_ap, isL_l, isS_s, mAppend_ap, mExtend_ap, ownL_fr, gIn_ap, ownDct_fr, gT_apL, hSorted, hTuple, hList, hRev, hRevX, hEqS, sSeq_ap, sBrk_ap, sCnt_ap, sRet_ap, sRetN_ap, sDrop_ap, sIf_ap, sSet_ap, isMu_ap, sAsg_ap, gN_ap, gT_ap, gTs, sPar_ap, sSub_ap, own?_ap, putO_t, putO_f, sAug_ap, sFor_ap, eC_ap, eVar_ap, ePl_ap, eMv_ap, opS_ap, sNil_ap, sCons_ap, gOp_ap, vws_nil, vws_cons, vw_im, vw_fr, vw_frd, vw_frs, vw_frr, vw_pl, view_l, view_d, view_s, view_r, rs_d, rs_l, sl_im, sl_fr, fz_im, fz_fr, fzs_nil, fzs_cons, toD_l, toD_r, gTupD_ap, gLstD_ap, gIx_ap, gDGet_ap, ownDct_pl, keyOf_i, keyOf_s, gMul_ap, tB_ap, tNot_ap, tAnd_ap, tOr_ap, eNot_ap, eAnd_ap, eOr_ap, eIf_ap, tY_ap, eSl_ap, oN_ap, oI_ap, itOf_ap, itR1_ap, itR2_ap, eLc_ap, isIm_ap, eCall_ap, eCallM_ap, fnOf_ap, isPl_im, isPl_fr, eDspl_ap, sArgs_nil, sArgs_cons, mkD_nil, mkD_cons, keepMu_mu, keepMu_im, projS_nil, projS_cons, hAdd, hSub, hMul, hDiv, hMod, hPow, hNeg, hCmp, hEq, hNe, hIsN, hNotN, hIx, hLen, hInt, hAbs, hGcd, hMin, hMax, hCut, isi_ii, isi_ib, isi_tt, isi_ll, isM_un, isM_im, isM_ow, isM_mu, List.getElem?_cons_zero, List.getElem?_cons_succ, List.getElem?_nil, List.set_cons_zero, List.set_cons_succ, List.length_cons, List.length_nil, List.length_map, List.replicate_succ, List.replicate_zero, List.cons_append, List.nil_append, List.map_cons, List.map_nil, Nat.reduceAdd, Nat.zero_add, ne_eq, not_true_eq_false, not_false_eq_true, decide_false, decide_true, Bool.or_self, Bool.or_false, Bool.false_or, Bool.and_self, Bool.false_eq_true, if_false, if_true, reduceIte, szOk_2, szOk_1, szOk_0, szOk_3, lk_left, lk_seed, lk_cells, lk_spot, pt_left, pt_spot, len_mL, mSet, true_and, and_true, List.getD_eq_getElem?_getD, Option.getD_some, seqOf_l, seqOf_t, ↓hIx_sq, ↓hLen_sq, seqOf_sq, ↓hTuple_sq, fz_fr2, gRep_ap, eq_self, gSorted_ap, gSortD_ap, gSortS_ap, ownSet_pl, eDict1_ap, eChain_ap, gInD_ap, gInS_ap, mPop_ap, mAdd_ap, eSet0_ap, sWhile_ap, itEnumX_ap, eM2_ap, eTR1_ap, eLR1_ap, hLtD, gDGetT_ap, ownDctT_pl, gInT_ap, keyT_t, keysOf_nil, keysOf_cons, eDctT0_ap, view_dT, eDict1T_ap, hIsB, hNotB, sPar3_ap, hCmp_ii, d, ih]
    · have d : decide ((1 : Int) < (t : Int)) = false := decide_eq_false (by omega)
      rw [if_neg (show ¬ fl t = true from fun z => c (of_decide_eq_true z))]
      simp only [nD_cons, lcL, sNop_ap, row?_ap, eRowM_ap, sRowSub_ap, eRowLen_ap, eRowNil_ap, isUn_un, ixN3_0, ixN3_1, ixN3_2, gRowsD_ap, rowsOf_nil, rowsOf_cons, eMeth_ap, isL_l, isS_s, mAppend_ap, mExtend_ap, ownL_fr, gIn_ap, ownDct_fr, gT_apL, hSorted, hTuple, hList, hRev, hRevX, hEqS, sSeq_ap, sBrk_ap, sCnt_ap, sRet_ap, sRetN_ap, sDrop_ap, sIf_ap, sSet_ap, isMu_ap, sAsg_ap, gN_ap, gT_ap, gTs, sPar_ap, sSub_ap, own?_ap, putO_t, putO_f, sAug_ap, sFor_ap, eC_ap, eVar_ap, ePl_ap, eMv_ap, opS_ap, sNil_ap, sCons_ap, gOp_ap, vws_nil, vws_cons, vw_im, vw_fr, vw_frd, vw_frs, vw_frr, vw_pl, view_l, view_d, view_s, view_r, rs_d, rs_l, sl_im, sl_fr, fz_im, fz_fr, fzs_nil, fzs_cons, toD_l, toD_r, gTupD_ap, gLstD_ap, gIx_ap, gDGet_ap, ownDct_pl, keyOf_i, keyOf_s, gMul_ap, tB_ap, tNot_ap, tAnd_ap, tOr_ap, eNot_ap, eAnd_ap, eOr_ap, eIf_ap, tY_ap, eSl_ap, oN_ap, oI_ap, itOf_ap, itR1_ap, itR2_ap, eLc_ap, isIm_ap, eCall_ap, eCallM_ap, fnOf_ap, isPl_im, isPl_fr, eDspl_ap, sArgs_nil, sArgs_cons, mkD_nil, mkD_cons, keepMu_mu, keepMu_im, projS_nil, projS_cons, hAdd, hSub, hMul, hDiv, hMod, hPow, hNeg, hCmp, hEq, hNe, hIsN, hNotN, hIx, hLen, hInt, hAbs, hGcd, hMin, hMax, hCut, isi_ii, isi_ib, isi_tt, isi_ll, isM_un, isM_im, isM_ow, isM_mu, List.getElem?_cons_zero, List.getElem?_cons_succ, List.getElem?_nil, List.set_cons_zero, List.set_cons_succ, List.length_cons, List.length_nil, List.length_map, List.replicate_succ, List.replicate_zero, List.cons_append, List.nil_append, List.map_cons, List.map_nil, Nat.reduceAdd, Nat.zero_add, ne_eq, not_true_eq_false, not_false_eq_true, decide_false, decide_true, Bool.or_self, Bool.or_false, Bool.false_or, Bool.and_self, Bool.false_eq_true, if_false, if_true, reduceIte, szOk_2, szOk_1, szOk_0, szOk_3, lk_left, lk_seed, lk_cells, lk_spot, pt_left, pt_spot, len_mL, mSet, true_and, and_true, List.getD_eq_getElem?_getD, Option.getD_some, seqOf_l, seqOf_t, ↓hIx_sq, ↓hLen_sq, seqOf_sq, ↓hTuple_sq, fz_fr2, gRep_ap, eq_self, gSorted_ap, gSortD_ap, gSortS_ap, ownSet_pl, eDict1_ap, eChain_ap, gInD_ap, gInS_ap, mPop_ap, mAdd_ap, eSet0_ap, sWhile_ap, itEnumX_ap, eM2_ap, eTR1_ap, eLR1_ap, hLtD, gDGetT_ap, ownDctT_pl, gInT_ap, keyT_t, keysOf_nil, keysOf_cons, eDctT0_ap, view_dT, eDict1T_ap, hIsB, hNotB, sPar3_ap, hCmp_ii, d, ih]
def fR (rows : List (List Nat)) : List (List Nat) := rows.map fun R => R.filter fl
theorem fl_out6 (s0 s1 s2 s3 s4 : Sl) : ∀ l : List (List Nat), (∀ R ∈ l, R.length ≤ 1000) →
    lcL 5 tY (opS (gOp hTuple) (sCons (eLc (itOf (eVar 5)) 6 (tB' (opS (gOp (hCmp fun i j => decide (j < i))) (sCons (ePl 6) (sCons (eC (.int 1)) sNil)))) (eVar 6)) sNil)) (tuD l) [s0, s1, s2, s3, s4, .un, .un] = some (tuD (fR l), [s0, s1, s2, s3, s4, .un, .un])
  | [], _ => rfl
  | R :: l, h => by
    have h1 := h R List.mem_cons_self
    have ih := fl_out6 s0 s1 s2 s3 s4 l fun S hS => h S (List.mem_cons_of_mem _ hS)
    have e := fl_in6 s0 s1 s2 s3 s4 (.im (.tuple (nD R))) R
    have sz : szOk R.length = true := szOk_le (by omega)
    rw [show fR (R :: l) = R.filter fl :: fR l from rfl, tuD_cons, tuD_cons]
    simp only [lcL, ↓e, sNop_ap, row?_ap, eRowM_ap, sRowSub_ap, eRowLen_ap, eRowNil_ap, isUn_un, ixN3_0, ixN3_1, ixN3_2, gRowsD_ap, rowsOf_nil, rowsOf_cons, eMeth_ap, isL_l, isS_s, mAppend_ap, mExtend_ap, ownL_fr, gIn_ap, ownDct_fr, gT_apL, hSorted, hTuple, hList, hRev, hRevX, hEqS, sSeq_ap, sBrk_ap, sCnt_ap, sRet_ap, sRetN_ap, sDrop_ap, sIf_ap, sSet_ap, isMu_ap, sAsg_ap, gN_ap, gT_ap, gTs, sPar_ap, sSub_ap, own?_ap, putO_t, putO_f, sAug_ap, sFor_ap, eC_ap, eVar_ap, ePl_ap, eMv_ap, opS_ap, sNil_ap, sCons_ap, gOp_ap, vws_nil, vws_cons, vw_im, vw_fr, vw_frd, vw_frs, vw_frr, vw_pl, view_l, view_d, view_s, view_r, rs_d, rs_l, sl_im, sl_fr, fz_im, fz_fr, fzs_nil, fzs_cons, toD_l, toD_r, gTupD_ap, gLstD_ap, gIx_ap, gDGet_ap, ownDct_pl, keyOf_i, keyOf_s, gMul_ap, tB_ap, tNot_ap, tAnd_ap, tOr_ap, eNot_ap, eAnd_ap, eOr_ap, eIf_ap, tY_ap, eSl_ap, oN_ap, oI_ap, itOf_ap, itR1_ap, itR2_ap, eLc_ap, isIm_ap, eCall_ap, eCallM_ap, fnOf_ap, isPl_im, isPl_fr, eDspl_ap, sArgs_nil, sArgs_cons, mkD_nil, mkD_cons, keepMu_mu, keepMu_im, projS_nil, projS_cons, hAdd, hSub, hMul, hDiv, hMod, hPow, hNeg, hCmp, hEq, hNe, hIsN, hNotN, hIx, hLen, hInt, hAbs, hGcd, hMin, hMax, hCut, isi_ii, isi_ib, isi_tt, isi_ll, isM_un, isM_im, isM_ow, isM_mu, List.getElem?_cons_zero, List.getElem?_cons_succ, List.getElem?_nil, List.set_cons_zero, List.set_cons_succ, List.length_cons, List.length_nil, List.length_map, List.replicate_succ, List.replicate_zero, List.cons_append, List.nil_append, List.map_cons, List.map_nil, Nat.reduceAdd, Nat.zero_add, ne_eq, not_true_eq_false, not_false_eq_true, decide_false, decide_true, Bool.or_self, Bool.or_false, Bool.false_or, Bool.and_self, Bool.false_eq_true, if_false, if_true, reduceIte, szOk_2, szOk_1, szOk_0, szOk_3, lk_left, lk_seed, lk_cells, lk_spot, pt_left, pt_spot, len_mL, mSet, true_and, and_true, List.getD_eq_getElem?_getD, Option.getD_some, seqOf_l, seqOf_t, ↓hIx_sq, ↓hLen_sq, seqOf_sq, ↓hTuple_sq, fz_fr2, gRep_ap, eq_self, gSorted_ap, gSortD_ap, gSortS_ap, ownSet_pl, eDict1_ap, eChain_ap, gInD_ap, gInS_ap, mPop_ap, mAdd_ap, eSet0_ap, sWhile_ap, itEnumX_ap, eM2_ap, eTR1_ap, eLR1_ap, hLtD, gDGetT_ap, ownDctT_pl, gInT_ap, keyT_t, keysOf_nil, keysOf_cons, eDctT0_ap, view_dT, eDict1T_ap, hIsB, hNotB, sPar3_ap, nD_len, sz, ih]
theorem fl_out5 (s0 s1 s2 s3 s4 s6 : Sl) : ∀ l : List (List Nat), (∀ R ∈ l, R.length ≤ 1000) →
    lcL 7 tY (opS (gOp hTuple) (sCons (eLc (itOf (eVar 7)) 5 (tB' (opS (gOp (hCmp fun i j => decide (j < i))) (sCons (ePl 5) (sCons (eC (.int 1)) sNil)))) (eVar 5)) sNil)) (tuD l) [s0, s1, s2, s3, s4, .un, s6, .un] = some (tuD (fR l), [s0, s1, s2, s3, s4, .un, s6, .un])
  | [], _ => rfl
  | R :: l, h => by
    have h1 := h R List.mem_cons_self
    have ih := fl_out5 s0 s1 s2 s3 s4 s6 l fun S hS => h S (List.mem_cons_of_mem _ hS)
    have e := fl_in5 s0 s1 s2 s3 s4 s6 (.im (.tuple (nD R))) R
    have sz : szOk R.length = true := szOk_le (by omega)
    rw [show fR (R :: l) = R.filter fl :: fR l from rfl, tuD_cons, tuD_cons]
    simp only [lcL, ↓e, sNop_ap, row?_ap, eRowM_ap, sRowSub_ap, eRowLen_ap, eRowNil_ap, isUn_un, ixN3_0, ixN3_1, ixN3_2, gRowsD_ap, rowsOf_nil, rowsOf_cons, eMeth_ap, isL_l, isS_s, mAppend_ap, mExtend_ap, ownL_fr, gIn_ap, ownDct_fr, gT_apL, hSorted, hTuple, hList, hRev, hRevX, hEqS, sSeq_ap, sBrk_ap, sCnt_ap, sRet_ap, sRetN_ap, sDrop_ap, sIf_ap, sSet_ap, isMu_ap, sAsg_ap, gN_ap, gT_ap, gTs, sPar_ap, sSub_ap, own?_ap, putO_t, putO_f, sAug_ap, sFor_ap, eC_ap, eVar_ap, ePl_ap, eMv_ap, opS_ap, sNil_ap, sCons_ap, gOp_ap, vws_nil, vws_cons, vw_im, vw_fr, vw_frd, vw_frs, vw_frr, vw_pl, view_l, view_d, view_s, view_r, rs_d, rs_l, sl_im, sl_fr, fz_im, fz_fr, fzs_nil, fzs_cons, toD_l, toD_r, gTupD_ap, gLstD_ap, gIx_ap, gDGet_ap, ownDct_pl, keyOf_i, keyOf_s, gMul_ap, tB_ap, tNot_ap, tAnd_ap, tOr_ap, eNot_ap, eAnd_ap, eOr_ap, eIf_ap, tY_ap, eSl_ap, oN_ap, oI_ap, itOf_ap, itR1_ap, itR2_ap, eLc_ap, isIm_ap, eCall_ap, eCallM_ap, fnOf_ap, isPl_im, isPl_fr, eDspl_ap, sArgs_nil, sArgs_cons, mkD_nil, mkD_cons, keepMu_mu, keepMu_im, projS_nil, projS_cons, hAdd, hSub, hMul, hDiv, hMod, hPow, hNeg, hCmp, hEq, hNe, hIsN, hNotN, hIx, hLen, hInt, hAbs, hGcd, hMin, hMax, hCut, isi_ii, isi_ib, isi_tt, isi_ll, isM_un, isM_im, isM_ow, isM_mu, List.getElem?_cons_zero, List.getElem?_cons_succ, List.getElem?_nil, List.set_cons_zero, List.set_cons_succ, List.length_cons, List.length_nil, List.length_map, List.replicate_succ, List.replicate_zero, List.cons_append, List.nil_append, List.map_cons, List.map_nil, Nat.reduceAdd, Nat.zero_add, ne_eq, not_true_eq_false, not_false_eq_true, decide_false, decide_true, Bool.or_self, Bool.or_false, Bool.false_or, Bool.and_self, Bool.false_eq_true, if_false, if_true, reduceIte, szOk_2, szOk_1, szOk_0, szOk_3, lk_left, lk_seed, lk_cells, lk_spot, pt_left, pt_spot, len_mL, mSet, true_and, and_true, List.getD_eq_getElem?_getD, Option.getD_some, seqOf_l, seqOf_t, ↓hIx_sq, ↓hLen_sq, seqOf_sq, ↓hTuple_sq, fz_fr2, gRep_ap, eq_self, gSorted_ap, gSortD_ap, gSortS_ap, ownSet_pl, eDict1_ap, eChain_ap, gInD_ap, gInS_ap, mPop_ap, mAdd_ap, eSet0_ap, sWhile_ap, itEnumX_ap, eM2_ap, eTR1_ap, eLR1_ap, hLtD, gDGetT_ap, ownDctT_pl, gInT_ap, keyT_t, keysOf_nil, keysOf_cons, eDctT0_ap, view_dT, eDict1T_ap, hIsB, hNotB, sPar3_ap, nD_len, sz, ih]
/-- the normal form of a name -/
def nf (h : Nat) (cs : List Nat) (rows : List (List Nat)) (x : Nat) : D := nmD (if 0 < x then 0 else h) (srtN (cs.filter fl)) (NS (decide (x = 0)) (fR rows)) (if 0 < x then x + 2 * h else x)
theorem fR_len (rows : List (List Nat)) : (fR rows).length = rows.length := List.length_map _
theorem fR_le {rows : List (List Nat)} {k : Nat} (h : ∀ R ∈ rows, R.length ≤ k) : ∀ R ∈ fR rows, R.length ≤ k := fun R hR => by
  obtain ⟨S, hS, rfl⟩ := List.mem_map.mp hR
  exact Nat.le_trans (List.length_filter_le _ _) (h S hS)
variable {h x : Nat} {cs : List Nat} {rows : List (List Nat)}
theorem normal_nf (hl : rows.length ≤ 1000) (hcl : cs.length ≤ 1000) (hr : ∀ R ∈ rows, R.length ≤ 1000) :
    f_law_normal [.im (.int (h : Nat)), .im (.tuple (nD cs)), .im (.tuple (tuD rows)), .im (.int (x : Nat))] = some (.im (nf h cs rows x), [.un, .un, .un, .un]) := by
  have es := sorted_N (cs.filter fl)
  have szc : szOk cs.length = true := szOk_le (by omega)
  have szr : szOk rows.length = true := szOk_le (by omega)
  have fl1 : (fR rows).length ≤ 1000 := by rw [fR_len]; exact hl
  unfold nf
  by_cases c : 0 < x
  · have d : decide ((0 : Int) < (x : Int)) = true := decide_eq_true (by omega)
    have m : mulOk 2 ((h : Nat) : Int) = true := mulOk_l (by decide) (by decide)
    have ex : (x : Int) + 2 * (h : Int) = ((x + 2 * h : Nat) : Int) := by omega
    have e3 := law_shape_NS (fR rows) fl1 (fR_le hr) false
    have e1 := fl_out6 (.im (.int 0)) (.im (.tuple (nD cs))) (.im (.tuple (tuD rows))) (.im (.int ((x + 2 * h : Nat) : Int))) .un rows hr
    have e2 := fl_in6 (.im (.int 0)) (.im (.tuple (nD cs))) (.im (.tuple (tuD rows))) (.im (.int ((x + 2 * h : Nat) : Int))) (.ow (.lst (tuD (fR rows)))) .un cs
    have q : PyData.eqv (.int ((x + 2 * h : Nat) : Int)) (.int 0) = false := (eqv_nat _ 0).trans (decide_eq_false (by omega))
    rw [if_pos c, if_pos c, decide_eq_false (show ¬ x = 0 by omega)]
    unfold f_law_normal b_law_normal nmD
    simp only [↓e1, ↓e2, ↓e3, ↓es, sNop_ap, row?_ap, eRowM_ap, sRowSub_ap, eRowLen_ap, eRowNil_ap, isUn_un, ixN3_0, ixN3_1, ixN3_2, gRowsD_ap, rowsOf_nil, rowsOf_cons, eMeth_ap, isL_l, isS_s, mAppend_ap, mExtend_ap, ownL_fr, gIn_ap, ownDct_fr, gT_apL, hSorted, hTuple, hList, hRev, hRevX, hEqS, sSeq_ap, sBrk_ap, sCnt_ap, sRet_ap, sRetN_ap, sDrop_ap, sIf_ap, sSet_ap, isMu_ap, sAsg_ap, gN_ap, gT_ap, gTs, sPar_ap, sSub_ap, own?_ap, putO_t, putO_f, sAug_ap, sFor_ap, eC_ap, eVar_ap, ePl_ap, eMv_ap, opS_ap, sNil_ap, sCons_ap, gOp_ap, vws_nil, vws_cons, vw_im, vw_fr, vw_frd, vw_frs, vw_frr, vw_pl, view_l, view_d, view_s, view_r, rs_d, rs_l, sl_im, sl_fr, fz_im, fz_fr, fzs_nil, fzs_cons, toD_l, toD_r, gTupD_ap, gLstD_ap, gIx_ap, gDGet_ap, ownDct_pl, keyOf_i, keyOf_s, gMul_ap, tB_ap, tNot_ap, tAnd_ap, tOr_ap, eNot_ap, eAnd_ap, eOr_ap, eIf_ap, tY_ap, eSl_ap, oN_ap, oI_ap, itOf_ap, itR1_ap, itR2_ap, eLc_ap, isIm_ap, eCall_ap, eCallM_ap, fnOf_ap, isPl_im, isPl_fr, eDspl_ap, sArgs_nil, sArgs_cons, mkD_nil, mkD_cons, keepMu_mu, keepMu_im, projS_nil, projS_cons, hAdd, hSub, hMul, hDiv, hMod, hPow, hNeg, hCmp, hEq, hNe, hIsN, hNotN, hIx, hLen, hInt, hAbs, hGcd, hMin, hMax, hCut, isi_ii, isi_ib, isi_tt, isi_ll, isM_un, isM_im, isM_ow, isM_mu, List.getElem?_cons_zero, List.getElem?_cons_succ, List.getElem?_nil, List.set_cons_zero, List.set_cons_succ, List.length_cons, List.length_nil, List.length_map, List.replicate_succ, List.replicate_zero, List.cons_append, List.nil_append, List.map_cons, List.map_nil, Nat.reduceAdd, Nat.zero_add, ne_eq, not_true_eq_false, not_false_eq_true, decide_false, decide_true, Bool.or_self, Bool.or_false, Bool.false_or, Bool.and_self, Bool.false_eq_true, if_false, if_true, reduceIte, szOk_2, szOk_1, szOk_0, szOk_3, lk_left, lk_seed, lk_cells, lk_spot, pt_left, pt_spot, len_mL, mSet, true_and, and_true, List.getD_eq_getElem?_getD, Option.getD_some, seqOf_l, seqOf_t, ↓hIx_sq, ↓hLen_sq, seqOf_sq, ↓hTuple_sq, fz_fr2, gRep_ap, eq_self, gSorted_ap, gSortD_ap, gSortS_ap, ownSet_pl, eDict1_ap, eChain_ap, gInD_ap, gInS_ap, mPop_ap, mAdd_ap, eSet0_ap, sWhile_ap, itEnumX_ap, eM2_ap, eTR1_ap, eLR1_ap, hLtD, gDGetT_ap, ownDctT_pl, gInT_ap, keyT_t, keysOf_nil, keysOf_cons, eDctT0_ap, view_dT, eDict1T_ap, hIsB, hNotB, sPar3_ap, hCmp_ii, d, m, ex, nD_len, tuD_len, szc, szr, sh_int, q, szOk_4]
    rfl
  · have x0 : x = 0 := by omega
    subst x0
    have d : decide ((0 : Int) < ((0 : Nat) : Int)) = false := by decide
    have e3 := law_shape_NS (fR rows) fl1 (fR_le hr) true
    have e1 := fl_out6 (.im (.int (h : Nat))) (.im (.tuple (nD cs))) (.im (.tuple (tuD rows))) (.im (.int ((0 : Nat) : Int))) .un rows hr
    have e2 := fl_in6 (.im (.int (h : Nat))) (.im (.tuple (nD cs))) (.im (.tuple (tuD rows))) (.im (.int ((0 : Nat) : Int))) (.ow (.lst (tuD (fR rows)))) .un cs
    have q : PyData.eqv (.int ((0 : Nat) : Int)) (.int 0) = true := by decide
    rw [if_neg c, if_neg c, decide_eq_true rfl]
    unfold f_law_normal b_law_normal nmD
    simp only [↓e1, ↓e2, ↓e3, ↓es, sNop_ap, row?_ap, eRowM_ap, sRowSub_ap, eRowLen_ap, eRowNil_ap, isUn_un, ixN3_0, ixN3_1, ixN3_2, gRowsD_ap, rowsOf_nil, rowsOf_cons, eMeth_ap, isL_l, isS_s, mAppend_ap, mExtend_ap, ownL_fr, gIn_ap, ownDct_fr, gT_apL, hSorted, hTuple, hList, hRev, hRevX, hEqS, sSeq_ap, sBrk_ap, sCnt_ap, sRet_ap, sRetN_ap, sDrop_ap, sIf_ap, sSet_ap, isMu_ap, sAsg_ap, gN_ap, gT_ap, gTs, sPar_ap, sSub_ap, own?_ap, putO_t, putO_f, sAug_ap, sFor_ap, eC_ap, eVar_ap, ePl_ap, eMv_ap, opS_ap, sNil_ap, sCons_ap, gOp_ap, vws_nil, vws_cons, vw_im, vw_fr, vw_frd, vw_frs, vw_frr, vw_pl, view_l, view_d, view_s, view_r, rs_d, rs_l, sl_im, sl_fr, fz_im, fz_fr, fzs_nil, fzs_cons, toD_l, toD_r, gTupD_ap, gLstD_ap, gIx_ap, gDGet_ap, ownDct_pl, keyOf_i, keyOf_s, gMul_ap, tB_ap, tNot_ap, tAnd_ap, tOr_ap, eNot_ap, eAnd_ap, eOr_ap, eIf_ap, tY_ap, eSl_ap, oN_ap, oI_ap, itOf_ap, itR1_ap, itR2_ap, eLc_ap, isIm_ap, eCall_ap, eCallM_ap, fnOf_ap, isPl_im, isPl_fr, eDspl_ap, sArgs_nil, sArgs_cons, mkD_nil, mkD_cons, keepMu_mu, keepMu_im, projS_nil, projS_cons, hAdd, hSub, hMul, hDiv, hMod, hPow, hNeg, hCmp, hEq, hNe, hIsN, hNotN, hIx, hLen, hInt, hAbs, hGcd, hMin, hMax, hCut, isi_ii, isi_ib, isi_tt, isi_ll, isM_un, isM_im, isM_ow, isM_mu, List.getElem?_cons_zero, List.getElem?_cons_succ, List.getElem?_nil, List.set_cons_zero, List.set_cons_succ, List.length_cons, List.length_nil, List.length_map, List.replicate_succ, List.replicate_zero, List.cons_append, List.nil_append, List.map_cons, List.map_nil, Nat.reduceAdd, Nat.zero_add, ne_eq, not_true_eq_false, not_false_eq_true, decide_false, decide_true, Bool.or_self, Bool.or_false, Bool.false_or, Bool.and_self, Bool.false_eq_true, if_false, if_true, reduceIte, szOk_2, szOk_1, szOk_0, szOk_3, lk_left, lk_seed, lk_cells, lk_spot, pt_left, pt_spot, len_mL, mSet, true_and, and_true, List.getD_eq_getElem?_getD, Option.getD_some, seqOf_l, seqOf_t, ↓hIx_sq, ↓hLen_sq, seqOf_sq, ↓hTuple_sq, fz_fr2, gRep_ap, eq_self, gSorted_ap, gSortD_ap, gSortS_ap, ownSet_pl, eDict1_ap, eChain_ap, gInD_ap, gInS_ap, mPop_ap, mAdd_ap, eSet0_ap, sWhile_ap, itEnumX_ap, eM2_ap, eTR1_ap, eLR1_ap, hLtD, gDGetT_ap, ownDctT_pl, gInT_ap, keyT_t, keysOf_nil, keysOf_cons, eDctT0_ap, view_dT, eDict1T_ap, hIsB, hNotB, sPar3_ap, hCmp_ii, d, nD_len, tuD_len, szc, szr, sh_int, q, szOk_4]
/-! ### names: texts, normal forms keep what holds of all rows -/
theorem log2_lt {t : Nat} (h : t ≤ 1000000) : ((t : Nat) : Int).natAbs.log2 < 1920 := by
  refine small_lt (k := 1920) ?_ (by decide)
  have : (1000000 : Nat) < 2 ^ 1920 := Nat.lt_of_lt_of_le (show 1000000 < 2 ^ 20 by decide) (Nat.pow_le_pow_right (by decide) (by decide))
  omega
theorem rk_nD : ∀ {l : List Nat}, (∀ t ∈ l, t ≤ 1000000) → rkA (nD l) = true ∧ rcA (nD l) = 1923 * l.length
  | [], _ => ⟨rfl, rfl⟩
  | t :: l, h => by
    obtain ⟨h1, h2⟩ := rk_nD (l := l) fun s hs => h s (List.mem_cons_of_mem _ hs)
    have h0 := log2_lt (h t List.mem_cons_self)
    rw [nD_cons]
    refine ⟨by simp only [rkA, rk, h0, h1, decide_true, Bool.and_self], ?_⟩
    simp only [rcA, rc, h2, List.length_cons]
    omega
theorem rk_tuD {k : Nat} : ∀ {L : List (List Nat)}, (∀ R ∈ L, R.length ≤ k ∧ ∀ t ∈ R, t ≤ 1000000) → rkA (tuD L) = true ∧ rcA (tuD L) ≤ (1923 * k + 5) * L.length
  | [], _ => ⟨rfl, Nat.zero_le _⟩
  | R :: L, h => by
    obtain ⟨h1, h2⟩ := rk_tuD (L := L) fun s hs => h s (List.mem_cons_of_mem _ hs)
    obtain ⟨a, b⟩ := h R List.mem_cons_self
    obtain ⟨h3, h4⟩ := rk_nD b
    rw [tuD_cons]
    refine ⟨by simp only [rkA, rk, h3, h1, Bool.and_self], ?_⟩
    have : 1923 * R.length ≤ 1923 * k := Nat.mul_le_mul_left _ a
    simp only [rcA, rc, h4, List.length_cons, Nat.mul_add]
    omega
theorem pd_nm (h : Nat) (cs : List Nat) (rows : List (List Nat)) (x : Nat) : pd 3 (nmD h cs rows x) := pd_tuple (k := 2) fun d hd => by
  rcases List.mem_cons.mp hd with rfl | hd
  · exact pd_int 2 _
  rcases List.mem_cons.mp hd with rfl | hd
  · exact pd_nDT 1 _
  rcases List.mem_cons.mp hd with rfl | hd
  · exact pd_tuple (k := 1) fun y hy => by
      obtain ⟨R, _, rfl⟩ := List.mem_map.mp hy
      exact pd_nDT 0 R
  · rw [List.mem_singleton.mp hd]; exact pd_int 2 _
theorem sh_nm (h : Nat) (cs : List Nat) (rows : List (List Nat)) (x : Nat) : SeqAt.shaped (nmD h cs rows x) = true := pd_sh (pd_nm h cs rows x) (by decide)
theorem PW.all {p : List Nat → List Nat → Prop} {Pr : List Nat → Prop} (e : ∀ R S, p R S → Pr R → Pr S) {L M : List (List Nat)} (h : PW p L M) : (∀ R ∈ L, Pr R) → ∀ S ∈ M, Pr S := by
  induction h with
  | nil => exact fun h => h
  | cons h _ ih =>
    intro k S hS
    rcases List.mem_cons.mp hS with rfl | hS
    · exact e _ _ h (k _ List.mem_cons_self)
    · exact ih (fun R hR => k R (List.mem_cons_of_mem _ hR)) S hS
theorem PW.len {p : List Nat → List Nat → Prop} {L M : List (List Nat)} (h : PW p L M) : M.length = L.length := by
  induction h with
  | nil => rfl
  | cons h _ ih => rw [List.length_cons, List.length_cons, ih]
theorem NS_all {Pr : List Nat → Prop} (e : ∀ R S : List Nat, S.Perm R → Pr R → Pr S) (b : Bool) {L : List (List Nat)} (h : ∀ R ∈ L, Pr R) : (NS b L).length = L.length ∧ ∀ R ∈ NS b L, Pr R := by
  obtain ⟨N, p, k⟩ := (NS_is b L).ex
  have er : ∀ R S, Rot R S → Pr R → Pr S := fun R S z => e R S z.perm
  have ev : ∀ R S, Rot R.reverse S → Pr R → Pr S := fun R S z w => e R S (z.perm.trans (List.reverse_perm R)) w
  rcases k with ⟨_, k | k⟩ | ⟨_, k⟩
  · exact ⟨by rw [← p.length_eq, k.len], fun R hR => k.all er h R (p.mem_iff.mpr hR)⟩
  · exact ⟨by rw [← p.length_eq, k.len], fun R hR => k.all ev h R (p.mem_iff.mpr hR)⟩
  · exact ⟨by rw [← p.length_eq, k.len], fun R hR => k.all (fun R S z => z.elim (er R S) (ev R S)) h R (p.mem_iff.mpr hR)⟩
theorem filt_self {L : List Nat} (h : ∀ t ∈ L, 2 ≤ t ∧ t ≤ 9999) : L.filter fl = L := List.filter_eq_self.mpr fun t ht => decide_eq_true (by have := (h t ht).1; omega)
theorem fR_self {L : List (List Nat)} (h : ∀ R ∈ L, ∀ t ∈ R, 2 ≤ t ∧ t ≤ 9999) : fR L = L := by
  have e : L.map (fun R => R.filter fl) = L.map id := List.map_congr_left fun R hR => filt_self (h R hR)
  unfold fR
  rw [e, List.map_id]
theorem filt_c {L : List Nat} (h : ∀ t ∈ L, 1 ≤ t ∧ t ≤ 9999) : ∀ t ∈ L.filter fl, 2 ≤ t ∧ t ≤ 9999 := fun t ht => by
  obtain ⟨h1, h2⟩ := List.mem_filter.mp ht
  have := of_decide_eq_true h2
  have := h t h1
  omega
theorem perm_flat {L M : List (List Nat)} (h : L.Perm M) : L.flatten.Perm M.flatten := by
  induction h with
  | nil => exact List.Perm.refl _
  | cons x _ ih => rw [List.flatten_cons, List.flatten_cons]; exact List.Perm.append_left x ih
  | swap x y l =>
    rw [List.flatten_cons, List.flatten_cons, List.flatten_cons, List.flatten_cons, ← List.append_assoc, ← List.append_assoc]
    exact List.Perm.append_right _ List.perm_append_comm
  | trans _ _ h1 h2 => exact h1.trans h2

/-! ### Euclid's steps -/
def euc : Nat → Nat → Nat → Nat × Nat
  | 0, a, b => (a, b)
  | n + 1, a, b => if b = 0 then euc n a b else euc n b (a % b)
def fb : Nat → Nat × Nat
  | 0 => (0, 1)
  | n + 1 => let p := fb n; (p.2, p.1 + p.2)
def fib (n : Nat) : Nat := (fb n).1
theorem fib2 (n : Nat) : fib (n + 2) = fib n + fib (n + 1) := rfl
theorem fib401 : 2 ^ 240 < fib 401 := by decide +kernel
theorem euc0 : ∀ (n a : Nat), euc n a 0 = (a, 0)
  | 0, a => rfl
  | n + 1, a => by simp only [euc, if_true]; exact euc0 n a
theorem euc_two (n : Nat) : (∀ a b, (b < a ∨ b = 0) → a < fib (n + 2) → (euc n a b).2 = 0) ∧ (∀ a b, (b < a ∨ b = 0) → a < fib (n + 3) → (euc (n + 1) a b).2 = 0) := by
  induction n with
  | zero =>
    refine ⟨fun a b h ha => ?_, fun a b h ha => ?_⟩
    · have : fib (0 + 2) = 1 := rfl
      have : b = 0 := by omega
      exact this
    · have : fib (0 + 3) = 2 := rfl
      have : b = 0 := by omega
      subst this
      rw [euc0]
  | succ n ih =>
    refine ⟨ih.2, fun a b h ha => ?_⟩
    by_cases hb : b = 0
    · subst hb
      rw [euc0]
    · have hlt : b < a := by omega
      have hr : a % b < b := Nat.mod_lt _ (Nat.pos_of_ne_zero hb)
      rw [euc, if_neg hb]
      by_cases hs : b < fib (n + 3)
      · exact ih.2 b (a % b) (.inl hr) hs
      · have e4 : fib (n + 1 + 3) = fib (n + 2) + fib (n + 3) := fib2 (n + 2)
        have hle : a % b ≤ a - b := by
          have h2 : a % b = (a - b) % b := Nat.mod_eq_sub_mod (by omega)
          rw [h2]
          exact Nat.mod_le _ _
        by_cases hr0 : a % b = 0
        · rw [hr0, euc0]
        · rw [euc, if_neg hr0]
          exact ih.1 _ _ (.inl (Nat.mod_lt _ (Nat.pos_of_ne_zero hr0))) (by omega)
theorem euc_gcd : ∀ (n a b : Nat), Nat.gcd (euc n a b).1 (euc n a b).2 = Nat.gcd a b
  | 0, a, b => rfl
  | n + 1, a, b => by
    rw [euc]
    split
    · exact euc_gcd n a b
    · rw [euc_gcd n, Nat.gcd_comm a b, Nat.gcd_rec b a, Nat.gcd_comm]
theorem euc_400 {a b : Nat} (h : b < 2 ^ 240) : (euc 400 a b).1 = Nat.gcd a b := by
  have hz : (euc 400 a b).2 = 0 := by
    rw [euc]
    split
    · rename_i h0
      subst h0
      rw [euc0]
    · rename_i h0
      exact (euc_two 399).1 b (a % b) (.inl (Nat.mod_lt _ (Nat.pos_of_ne_zero h0))) (Nat.lt_trans h fib401)
  have := euc_gcd 400 a b
  rw [hz, Nat.gcd_zero_right] at this
  exact this

/-! ### ratios in lowest terms -/
theorem fmod_natR (a b : Nat) : (a : Int).fmod (b : Int) = ((a % b : Nat) : Int) := by
  rw [Int.fmod_eq_emod_of_nonneg _ (Int.natCast_nonneg b)]; rfl
def fr (r : Rat) : D := .tuple [.int r.num, .int (r.den : Nat)]
theorem mk_fac {a : Int} {b : Nat} (hb : 0 < b) : ∃ m : Nat, 0 < m ∧ a = (mkRat a b).num * (m : Nat) ∧ b = (mkRat a b).den * m ∧ Nat.gcd a.natAbs b = m := by
  obtain ⟨num, den, nz, red⟩ : ∃ (n : Int) (d : Nat) (z : d ≠ 0) (c : n.natAbs.Coprime d), mkRat a b = ⟨n, d, z, c⟩ := ⟨_, _, (mkRat a b).den_nz, (mkRat a b).reduced, rfl⟩
  obtain ⟨c, e⟩ := red
  obtain ⟨m, hm, h1, h2⟩ := Rat.mkRat_num_den (by omega) e
  rw [e]
  refine ⟨m, Nat.pos_of_ne_zero hm, h1, h2, ?_⟩
  rw [h1, h2, Int.natAbs_mul, Int.natAbs_natCast, Nat.gcd_mul_right]
  rw [show Nat.gcd num.natAbs den = 1 from c, Nat.one_mul]
theorem den_le {a : Int} {b : Nat} (hb : 0 < b) : (mkRat a b).den ≤ b := by
  obtain ⟨m, hm, _, h, _⟩ := mk_fac (a := a) hb
  have := Nat.le_mul_of_pos_right (mkRat a b).den hm
  omega
theorem num_le {a : Int} {b C : Nat} (hb : 0 < b) (h : a.natAbs ≤ C * b) : (mkRat a b).num.natAbs ≤ C * (mkRat a b).den := by
  obtain ⟨m, hm, h1, h2, _⟩ := mk_fac (a := a) hb
  generalize (mkRat a b).num = p at *
  generalize (mkRat a b).den = q at *
  subst h1 h2
  rw [Int.natAbs_mul, Int.natAbs_natCast, ← Nat.mul_assoc] at h
  exact Nat.le_of_mul_le_mul_right h hm
theorem ratio_rat {a : Int} {b : Nat} (hb : 0 < b) (hs : b < 2 ^ 600) : f_ratio [.im (.int a), .im (.int (b : Nat))] = some (.im (fr (mkRat a b)), [.un, .un]) := by
  obtain ⟨m, hm, h1, h2, hg⟩ := mk_fac (a := a) hb
  have hm2 : m ≤ b := by rw [h2]; exact Nat.le_mul_of_pos_left _ (mkRat a b).den_pos
  have dv : divOk (m : Int) = true := divOk_b (k := 600) (by omega) (by rw [Int.natAbs_natCast]; omega) (by decide) (by decide)
  have f1 : a.fdiv (m : Int) = (mkRat a b).num := by
    have : a = (m : Int) * (mkRat a b).num := by rw [Int.mul_comm]; exact h1
    generalize (mkRat a b).num = p at this
    rw [this, Int.mul_fdiv_cancel_left _ (by omega)]
  have f2 : ((b : Nat) : Int).fdiv (m : Int) = (((mkRat a b).den : Nat) : Int) := by
    have : ((b : Nat) : Int) = (m : Int) * ((mkRat a b).den : Nat) := by rw [← Int.natCast_mul, Nat.mul_comm, ← h2]
    generalize (mkRat a b).den = p at this
    rw [this, Int.mul_fdiv_cancel_left _ (by omega)]
  have lt : ¬ ((b : Nat) : Int) < 0 := by omega
  have gg : Nat.gcd a.natAbs ((b : Nat) : Int).natAbs = m := by rw [Int.natAbs_natCast]; exact hg
  unfold f_ratio b_ratio
  simp only [sNop_ap, row?_ap, eRowM_ap, sRowSub_ap, eRowLen_ap, eRowNil_ap, isUn_un, ixN3_0, ixN3_1, ixN3_2, gRowsD_ap, rowsOf_nil, rowsOf_cons, eMeth_ap, isL_l, isS_s, mAppend_ap, mExtend_ap, ownL_fr, gIn_ap, ownDct_fr, gT_apL, hSorted, hTuple, hList, hRev, hRevX, hEqS, sSeq_ap, sBrk_ap, sCnt_ap, sRet_ap, sRetN_ap, sDrop_ap, sIf_ap, sSet_ap, isMu_ap, sAsg_ap, gN_ap, gT_ap, gTs, sPar_ap, sSub_ap, own?_ap, putO_t, putO_f, sAug_ap, sFor_ap, eC_ap, eVar_ap, ePl_ap, eMv_ap, opS_ap, sNil_ap, sCons_ap, gOp_ap, vws_nil, vws_cons, vw_im, vw_fr, vw_frd, vw_frs, vw_frr, vw_pl, view_l, view_d, view_s, view_r, rs_d, rs_l, sl_im, sl_fr, fz_im, fz_fr, fzs_nil, fzs_cons, toD_l, toD_r, gTupD_ap, gLstD_ap, gIx_ap, gDGet_ap, ownDct_pl, keyOf_i, keyOf_s, gMul_ap, tB_ap, tNot_ap, tAnd_ap, tOr_ap, eNot_ap, eAnd_ap, eOr_ap, eIf_ap, tY_ap, eSl_ap, oN_ap, oI_ap, itOf_ap, itR1_ap, itR2_ap, eLc_ap, isIm_ap, eCall_ap, eCallM_ap, fnOf_ap, isPl_im, isPl_fr, eDspl_ap, sArgs_nil, sArgs_cons, mkD_nil, mkD_cons, keepMu_mu, keepMu_im, projS_nil, projS_cons, hAdd, hSub, hMul, hDiv, hMod, hPow, hNeg, hCmp, hEq, hNe, hIsN, hNotN, hIx, hLen, hInt, hAbs, hGcd, hMin, hMax, hCut, isi_ii, isi_ib, isi_tt, isi_ll, isM_un, isM_im, isM_ow, isM_mu, List.getElem?_cons_zero, List.getElem?_cons_succ, List.getElem?_nil, List.set_cons_zero, List.set_cons_succ, List.length_cons, List.length_nil, List.length_map, List.replicate_succ, List.replicate_zero, List.cons_append, List.nil_append, List.map_cons, List.map_nil, Nat.reduceAdd, Nat.zero_add, ne_eq, not_true_eq_false, not_false_eq_true, decide_false, decide_true, Bool.or_self, Bool.or_false, Bool.false_or, Bool.and_self, Bool.false_eq_true, if_false, if_true, reduceIte, szOk_2, szOk_1, szOk_0, szOk_3, lk_left, lk_seed, lk_cells, lk_spot, pt_left, pt_spot, len_mL, mSet, true_and, and_true, List.getD_eq_getElem?_getD, Option.getD_some, seqOf_l, seqOf_t, ↓hIx_sq, ↓hLen_sq, seqOf_sq, ↓hTuple_sq, fz_fr2, gRep_ap, eq_self, gSorted_ap, gSortD_ap, gSortS_ap, ownSet_pl, eDict1_ap, eChain_ap, gInD_ap, gInS_ap, mPop_ap, mAdd_ap, eSet0_ap, sWhile_ap, itEnumX_ap, eM2_ap, eTR1_ap, eLR1_ap, hLtD, gDGetT_ap, ownDctT_pl, gInT_ap, keyT_t, keysOf_nil, keysOf_cons, eDctT0_ap, view_dT, eDict1T_ap, hIsB, hNotB, sPar3_ap, hCmp_ii, lt, gg, dv, f1, f2]
  rfl
section
variable {r s : Rat}
theorem rat_self (r : Rat) : mkRat r.num r.den = r := Rat.mkRat_self r
theorem rat_sub (r s : Rat) : mkRat (r.num * (s.den : Nat) - s.num * (r.den : Nat)) (r.den * s.den) = r - s := by
  rw [Rat.sub_eq_add_neg]
  have e := Rat.mkRat_add_mkRat r.num (-s.num) r.den_nz s.den_nz
  rw [← Rat.neg_mkRat, rat_self, rat_self] at e
  rw [e]
  congr 1
  rw [Int.neg_mul, Int.sub_eq_add_neg]
theorem minus_rat (h1 : mulOk r.num (s.den : Nat) = true) (h2 : mulOk s.num (r.den : Nat) = true) (h3 : mulOk (r.den : Nat) (s.den : Nat) = true) (hs : r.den * s.den < 2 ^ 600) : f_minus [.im (fr r), .im (fr s)] = some (.im (fr (r - s)), [.un, .un]) := by
  have e := ratio_rat (a := r.num * (s.den : Nat) - s.num * (r.den : Nat)) (Nat.mul_pos r.den_pos s.den_pos) hs
  rw [rat_sub, Int.natCast_mul] at e
  have a0 : ∀ x y : D, atI [x, y] 0 = some x := fun _ _ => rfl
  have a1 : ∀ x y : D, atI [x, y] 1 = some y := fun _ _ => rfl
  unfold f_minus b_minus
  unfold fr at e ⊢
  simp only [↓e, sNop_ap, row?_ap, eRowM_ap, sRowSub_ap, eRowLen_ap, eRowNil_ap, isUn_un, ixN3_0, ixN3_1, ixN3_2, gRowsD_ap, rowsOf_nil, rowsOf_cons, eMeth_ap, isL_l, isS_s, mAppend_ap, mExtend_ap, ownL_fr, gIn_ap, ownDct_fr, gT_apL, hSorted, hTuple, hList, hRev, hRevX, hEqS, sSeq_ap, sBrk_ap, sCnt_ap, sRet_ap, sRetN_ap, sDrop_ap, sIf_ap, sSet_ap, isMu_ap, sAsg_ap, gN_ap, gT_ap, gTs, sPar_ap, sSub_ap, own?_ap, putO_t, putO_f, sAug_ap, sFor_ap, eC_ap, eVar_ap, ePl_ap, eMv_ap, opS_ap, sNil_ap, sCons_ap, gOp_ap, vws_nil, vws_cons, vw_im, vw_fr, vw_frd, vw_frs, vw_frr, vw_pl, view_l, view_d, view_s, view_r, rs_d, rs_l, sl_im, sl_fr, fz_im, fz_fr, fzs_nil, fzs_cons, toD_l, toD_r, gTupD_ap, gLstD_ap, gIx_ap, gDGet_ap, ownDct_pl, keyOf_i, keyOf_s, gMul_ap, tB_ap, tNot_ap, tAnd_ap, tOr_ap, eNot_ap, eAnd_ap, eOr_ap, eIf_ap, tY_ap, eSl_ap, oN_ap, oI_ap, itOf_ap, itR1_ap, itR2_ap, eLc_ap, isIm_ap, eCall_ap, eCallM_ap, fnOf_ap, isPl_im, isPl_fr, eDspl_ap, sArgs_nil, sArgs_cons, mkD_nil, mkD_cons, keepMu_mu, keepMu_im, projS_nil, projS_cons, hAdd, hSub, hMul, hDiv, hMod, hPow, hNeg, hCmp, hEq, hNe, hIsN, hNotN, hIx, hLen, hInt, hAbs, hGcd, hMin, hMax, hCut, isi_ii, isi_ib, isi_tt, isi_ll, isM_un, isM_im, isM_ow, isM_mu, List.getElem?_cons_zero, List.getElem?_cons_succ, List.getElem?_nil, List.set_cons_zero, List.set_cons_succ, List.length_cons, List.length_nil, List.length_map, List.replicate_succ, List.replicate_zero, List.cons_append, List.nil_append, List.map_cons, List.map_nil, Nat.reduceAdd, Nat.zero_add, ne_eq, not_true_eq_false, not_false_eq_true, decide_false, decide_true, Bool.or_self, Bool.or_false, Bool.false_or, Bool.and_self, Bool.false_eq_true, if_false, if_true, reduceIte, szOk_2, szOk_1, szOk_0, szOk_3, lk_left, lk_seed, lk_cells, lk_spot, pt_left, pt_spot, len_mL, mSet, true_and, and_true, List.getD_eq_getElem?_getD, Option.getD_some, seqOf_l, seqOf_t, ↓hIx_sq, ↓hLen_sq, seqOf_sq, ↓hTuple_sq, fz_fr2, gRep_ap, eq_self, gSorted_ap, gSortD_ap, gSortS_ap, ownSet_pl, eDict1_ap, eChain_ap, gInD_ap, gInS_ap, mPop_ap, mAdd_ap, eSet0_ap, sWhile_ap, itEnumX_ap, eM2_ap, eTR1_ap, eLR1_ap, hLtD, gDGetT_ap, ownDctT_pl, gInT_ap, keyT_t, keysOf_nil, keysOf_cons, eDctT0_ap, view_dT, eDict1T_ap, hIsB, hNotB, sPar3_ap, a0, a1, h1, h2, h3]
end

/-! ### sums of names -/
structure Bd (k C : Nat) (r : Rat) : Prop where
  d : r.den ≤ 2 ^ k
  n : r.num.natAbs ≤ C * r.den
theorem rat_subm (r : Rat) (u : Int) {t : Nat} (ht : t ≠ 0) : r - mkRat u t = mkRat (r.num * (t : Nat) - u * (r.den : Nat)) (r.den * t) := by
  rw [Rat.sub_eq_add_neg, Rat.neg_mkRat]
  have e := Rat.mkRat_add_mkRat r.num (-u) r.den_nz ht
  rw [rat_self] at e
  rw [e]
  congr 1
  rw [Int.neg_mul, Int.sub_eq_add_neg]
theorem Bd.sub {k C : Nat} {r : Rat} (b : Bd k C r) {u : Int} {t : Nat} (h1 : 1 ≤ t) (h2 : t ≤ 2 ^ 14) (hu : u.natAbs ≤ 2 * t) : Bd (k + 14) (C + 2) (r - mkRat u t) := by
  rw [rat_subm r u (by omega)]
  have hp : 0 < r.den * t := Nat.mul_pos r.den_pos h1
  refine ⟨Nat.le_trans (den_le hp) (by rw [Nat.pow_add]; exact Nat.mul_le_mul b.d h2), num_le hp ?_⟩
  have e1 : (r.num * (t : Nat)).natAbs ≤ C * (r.den * t) := by
    rw [Int.natAbs_mul, Int.natAbs_natCast, ← Nat.mul_assoc]
    exact Nat.mul_le_mul_right t b.n
  have e2 : (u * (r.den : Nat)).natAbs ≤ 2 * (r.den * t) := by
    rw [Int.natAbs_mul, Int.natAbs_natCast]
    have := Nat.mul_le_mul_right r.den hu
    rw [Nat.mul_assoc, Nat.mul_comm t r.den] at this
    exact this
  rw [Nat.add_mul]
  omega
def foldS (u : Nat → Int) (l : List Nat) (r : Rat) : Rat := l.foldl (fun a t => a - mkRat (u t) t) r
def uC (t : Nat) : Int := 2 * (t : Int) - 2
def uB (t : Nat) : Int := (t : Int) - 1
theorem uC_le {t : Nat} (h : 1 ≤ t) : (uC t).natAbs ≤ 2 * t := by unfold uC; omega
theorem uB_le {t : Nat} (h : 1 ≤ t) : (uB t).natAbs ≤ 2 * t := by unfold uB; omega
theorem Bd.fold {u : Nat → Int} (hu : ∀ t, 1 ≤ t → (u t).natAbs ≤ 2 * t) : ∀ {l : List Nat} {k C : Nat} {r : Rat}, Bd k C r → (∀ t ∈ l, 1 ≤ t ∧ t ≤ 10000) → Bd (k + 14 * l.length) (C + 2 * l.length) (foldS u l r)
  | [], k, C, r, b, _ => b
  | t :: l, k, C, r, b, h => by
    obtain ⟨h1, h2⟩ := h t List.mem_cons_self
    have := Bd.fold hu (b.sub h1 (by omega) (hu t h1)) fun x hx => h x (List.mem_cons_of_mem _ hx)
    rw [List.length_cons, show k + 14 * (l.length + 1) = k + 14 + 14 * l.length by omega, show C + 2 * (l.length + 1) = C + 2 + 2 * l.length by omega]
    exact this
theorem Bd.up {k k' C C' : Nat} {r : Rat} (b : Bd k C r) (h : k ≤ k') (h' : C ≤ C') : Bd k' C' r := ⟨Nat.le_trans b.d (Nat.pow_le_pow_right (by decide) h), Nat.le_trans b.n (Nat.mul_le_mul_right _ h')⟩
/-- one step of each -/
theorem step_a {k C : Nat} {r : Rat} (b : Bd k C r) (hk : k ≤ 500) {u : Int} {t : Nat} (h1 : 1 ≤ t) (h2 : t ≤ 10000) (hu : u.natAbs ≤ 2 * t) : f_ratio [.im (.int u), .im (.int (t : Nat))] = some (.im (fr (mkRat u t)), [.un, .un]) ∧ f_minus [.im (fr r), .im (fr (mkRat u t))] = some (.im (fr (r - mkRat u t)), [.un, .un]) := by
  have d1 := den_le (a := u) (b := t) h1
  have d2 := num_le (a := u) (b := t) (C := 2) h1 hu
  have p14 : t ≤ 2 ^ 14 := by omega
  refine ⟨ratio_rat h1 (Nat.lt_of_le_of_lt p14 (by decide)), minus_rat (mulOk_r (by omega) (by omega)) (mulOk_l (by omega) (by omega)) (mulOk_r (by omega) (by omega)) ?_⟩
  have : r.den * (mkRat u t).den ≤ 2 ^ 500 * 2 ^ 14 := Nat.mul_le_mul (Nat.le_trans b.d (Nat.pow_le_pow_right (by decide) hk)) (by omega)
  exact Nat.lt_of_le_of_lt this (by decide)
theorem ns_1 (s0 s1 s2 s3 s4 s7 : Sl) : ∀ (l : List Nat) (k C : Nat) (r : Rat) (s6 : Sl), isM s6 = false → Bd k C r → k + 14 * l.length ≤ 500 → (∀ t ∈ l, 1 ≤ t ∧ t ≤ 10000) →
    ∃ t6, isM t6 = false ∧ forL (gN 6) name_sumBody (nD l) [s0, s1, s2, s3, s4, .im (fr r), s6, s7] = some (.nx [s0, s1, s2, s3, s4, .im (fr (foldS uC l r)), t6, s7])
  | [], k, C, r, s6, h6, _, _, _ => ⟨s6, h6, rfl⟩
  | t :: l, k, C, r, s6, h6, b, hk, h => by
    obtain ⟨h1, h2⟩ := h t List.mem_cons_self
    rw [List.length_cons] at hk
    obtain ⟨t6, i6, ih⟩ := ns_1 s0 s1 s2 s3 s4 s7 l (k + 14) (C + 2) (r - mkRat (uC t) t) (.im (.int (t : Nat))) rfl (b.sub h1 (by omega) (uC_le h1)) (by omega) fun x hx => h x (List.mem_cons_of_mem _ hx)
    obtain ⟨e1, e2⟩ := step_a b (by omega) h1 h2 (uC_le h1)
    have m1 : mulOk 2 ((t : Nat) : Int) = true := mulOk_l (by decide) (by decide)
    have eu : 2 * ((t : Nat) : Int) - 2 = uC t := by unfold uC; omega
    refine ⟨t6, i6, ?_⟩
    have ef : foldS uC (t :: l) r = foldS uC l (r - mkRat (uC t) t) := rfl
    rw [nD_cons, ef, ← ih]
    simp only [forL, ↓e1, ↓e2, sNop_ap, row?_ap, eRowM_ap, sRowSub_ap, eRowLen_ap, eRowNil_ap, isUn_un, ixN3_0, ixN3_1, ixN3_2, gRowsD_ap, rowsOf_nil, rowsOf_cons, eMeth_ap, isL_l, isS_s, mAppend_ap, mExtend_ap, ownL_fr, gIn_ap, ownDct_fr, gT_apL, hSorted, hTuple, hList, hRev, hRevX, hEqS, sSeq_ap, sBrk_ap, sCnt_ap, sRet_ap, sRetN_ap, sDrop_ap, sIf_ap, sSet_ap, isMu_ap, sAsg_ap, gN_ap, gT_ap, gTs, sPar_ap, sSub_ap, own?_ap, putO_t, putO_f, sAug_ap, sFor_ap, eC_ap, eVar_ap, ePl_ap, eMv_ap, opS_ap, sNil_ap, sCons_ap, gOp_ap, vws_nil, vws_cons, vw_im, vw_fr, vw_frd, vw_frs, vw_frr, vw_pl, view_l, view_d, view_s, view_r, rs_d, rs_l, sl_im, sl_fr, fz_im, fz_fr, fzs_nil, fzs_cons, toD_l, toD_r, gTupD_ap, gLstD_ap, gIx_ap, gDGet_ap, ownDct_pl, keyOf_i, keyOf_s, gMul_ap, tB_ap, tNot_ap, tAnd_ap, tOr_ap, eNot_ap, eAnd_ap, eOr_ap, eIf_ap, tY_ap, eSl_ap, oN_ap, oI_ap, itOf_ap, itR1_ap, itR2_ap, eLc_ap, isIm_ap, eCall_ap, eCallM_ap, fnOf_ap, isPl_im, isPl_fr, eDspl_ap, sArgs_nil, sArgs_cons, mkD_nil, mkD_cons, keepMu_mu, keepMu_im, projS_nil, projS_cons, hAdd, hSub, hMul, hDiv, hMod, hPow, hNeg, hCmp, hEq, hNe, hIsN, hNotN, hIx, hLen, hInt, hAbs, hGcd, hMin, hMax, hCut, isi_ii, isi_ib, isi_tt, isi_ll, isM_un, isM_im, isM_ow, isM_mu, List.getElem?_cons_zero, List.getElem?_cons_succ, List.getElem?_nil, List.set_cons_zero, List.set_cons_succ, List.length_cons, List.length_nil, List.length_map, List.replicate_succ, List.replicate_zero, List.cons_append, List.nil_append, List.map_cons, List.map_nil, Nat.reduceAdd, Nat.zero_add, ne_eq, not_true_eq_false, not_false_eq_true, decide_false, decide_true, Bool.or_self, Bool.or_false, Bool.false_or, Bool.and_self, Bool.false_eq_true, if_false, if_true, reduceIte, szOk_2, szOk_1, szOk_0, szOk_3, lk_left, lk_seed, lk_cells, lk_spot, pt_left, pt_spot, len_mL, mSet, true_and, and_true, List.getD_eq_getElem?_getD, Option.getD_some, seqOf_l, seqOf_t, ↓hIx_sq, ↓hLen_sq, seqOf_sq, ↓hTuple_sq, fz_fr2, gRep_ap, eq_self, gSorted_ap, gSortD_ap, gSortS_ap, ownSet_pl, eDict1_ap, eChain_ap, gInD_ap, gInS_ap, mPop_ap, mAdd_ap, eSet0_ap, sWhile_ap, itEnumX_ap, eM2_ap, eTR1_ap, eLR1_ap, hLtD, gDGetT_ap, ownDctT_pl, gInT_ap, keyT_t, keysOf_nil, keysOf_cons, eDctT0_ap, view_dT, eDict1T_ap, hIsB, hNotB, sPar3_ap, h6, m1, eu, szOk_2]
theorem ns_2 (s0 s1 s2 s3 s4 s7 : Sl) : ∀ (l : List Nat) (k C : Nat) (r : Rat) (s6 : Sl), isM s6 = false → Bd k C r → k + 14 * l.length ≤ 500 → (∀ t ∈ l, 1 ≤ t ∧ t ≤ 10000) →
    ∃ t6, isM t6 = false ∧ forL (gN 6) name_sumBody2 (nD l) [s0, s1, s2, s3, s4, .im (fr r), s6, s7] = some (.nx [s0, s1, s2, s3, s4, .im (fr (foldS uB l r)), t6, s7])
  | [], k, C, r, s6, h6, _, _, _ => ⟨s6, h6, rfl⟩
  | t :: l, k, C, r, s6, h6, b, hk, h => by
    obtain ⟨h1, h2⟩ := h t List.mem_cons_self
    rw [List.length_cons] at hk
    obtain ⟨t6, i6, ih⟩ := ns_2 s0 s1 s2 s3 s4 s7 l (k + 14) (C + 2) (r - mkRat (uB t) t) (.im (.int (t : Nat))) rfl (b.sub h1 (by omega) (uB_le h1)) (by omega) fun x hx => h x (List.mem_cons_of_mem _ hx)
    obtain ⟨e1, e2⟩ := step_a b (by omega) h1 h2 (uB_le h1)
    have m1 : mulOk 2 ((t : Nat) : Int) = true := mulOk_l (by decide) (by decide)
    have eu : ((t : Nat) : Int) - 1 = uB t := by unfold uB; omega
    refine ⟨t6, i6, ?_⟩
    have ef : foldS uB (t :: l) r = foldS uB l (r - mkRat (uB t) t) := rfl
    rw [nD_cons, ef, ← ih]
    simp only [forL, ↓e1, ↓e2, sNop_ap, row?_ap, eRowM_ap, sRowSub_ap, eRowLen_ap, eRowNil_ap, isUn_un, ixN3_0, ixN3_1, ixN3_2, gRowsD_ap, rowsOf_nil, rowsOf_cons, eMeth_ap, isL_l, isS_s, mAppend_ap, mExtend_ap, ownL_fr, gIn_ap, ownDct_fr, gT_apL, hSorted, hTuple, hList, hRev, hRevX, hEqS, sSeq_ap, sBrk_ap, sCnt_ap, sRet_ap, sRetN_ap, sDrop_ap, sIf_ap, sSet_ap, isMu_ap, sAsg_ap, gN_ap, gT_ap, gTs, sPar_ap, sSub_ap, own?_ap, putO_t, putO_f, sAug_ap, sFor_ap, eC_ap, eVar_ap, ePl_ap, eMv_ap, opS_ap, sNil_ap, sCons_ap, gOp_ap, vws_nil, vws_cons, vw_im, vw_fr, vw_frd, vw_frs, vw_frr, vw_pl, view_l, view_d, view_s, view_r, rs_d, rs_l, sl_im, sl_fr, fz_im, fz_fr, fzs_nil, fzs_cons, toD_l, toD_r, gTupD_ap, gLstD_ap, gIx_ap, gDGet_ap, ownDct_pl, keyOf_i, keyOf_s, gMul_ap, tB_ap, tNot_ap, tAnd_ap, tOr_ap, eNot_ap, eAnd_ap, eOr_ap, eIf_ap, tY_ap, eSl_ap, oN_ap, oI_ap, itOf_ap, itR1_ap, itR2_ap, eLc_ap, isIm_ap, eCall_ap, eCallM_ap, fnOf_ap, isPl_im, isPl_fr, eDspl_ap, sArgs_nil, sArgs_cons, mkD_nil, mkD_cons, keepMu_mu, keepMu_im, projS_nil, projS_cons, hAdd, hSub, hMul, hDiv, hMod, hPow, hNeg, hCmp, hEq, hNe, hIsN, hNotN, hIx, hLen, hInt, hAbs, hGcd, hMin, hMax, hCut, isi_ii, isi_ib, isi_tt, isi_ll, isM_un, isM_im, isM_ow, isM_mu, List.getElem?_cons_zero, List.getElem?_cons_succ, List.getElem?_nil, List.set_cons_zero, List.set_cons_succ, List.length_cons, List.length_nil, List.length_map, List.replicate_succ, List.replicate_zero, List.cons_append, List.nil_append, List.map_cons, List.map_nil, Nat.reduceAdd, Nat.zero_add, ne_eq, not_true_eq_false, not_false_eq_true, decide_false, decide_true, Bool.or_self, Bool.or_false, Bool.false_or, Bool.and_self, Bool.false_eq_true, if_false, if_true, reduceIte, szOk_2, szOk_1, szOk_0, szOk_3, lk_left, lk_seed, lk_cells, lk_spot, pt_left, pt_spot, len_mL, mSet, true_and, and_true, List.getD_eq_getElem?_getD, Option.getD_some, seqOf_l, seqOf_t, ↓hIx_sq, ↓hLen_sq, seqOf_sq, ↓hTuple_sq, fz_fr2, gRep_ap, eq_self, gSorted_ap, gSortD_ap, gSortS_ap, ownSet_pl, eDict1_ap, eChain_ap, gInD_ap, gInS_ap, mPop_ap, mAdd_ap, eSet0_ap, sWhile_ap, itEnumX_ap, eM2_ap, eTR1_ap, eLR1_ap, hLtD, gDGetT_ap, ownDctT_pl, gInT_ap, keyT_t, keysOf_nil, keysOf_cons, eDctT0_ap, view_dT, eDict1T_ap, hIsB, hNotB, sPar3_ap, h6, m1, eu, szOk_2]
theorem ns_3 (s0 s1 s2 s3 s4 : Sl) : ∀ (l : List (List Nat)) (k C : Nat) (r : Rat) (s6 s7 : Sl), isM s6 = false → isM s7 = false → Bd k C r → k + 14 * l.flatten.length ≤ 500 → (∀ R ∈ l, ∀ t ∈ R, 1 ≤ t ∧ t ≤ 10000) →
    ∃ t6 t7, forL (gN 7) name_sumBody1 (tuD l) [s0, s1, s2, s3, s4, .im (fr r), s6, s7] = some (.nx [s0, s1, s2, s3, s4, .im (fr (foldS uB l.flatten r)), t6, t7])
  | [], k, C, r, s6, s7, h6, h7, _, _, _ => ⟨s6, s7, rfl⟩
  | R :: l, k, C, r, s6, s7, h6, h7, b, hk, h => by
    have hR := h R List.mem_cons_self
    rw [List.flatten_cons, List.length_append] at hk
    obtain ⟨t6, i6, e⟩ := ns_2 s0 s1 s2 s3 s4 (.im (.tuple (nD R))) R k C r s6 h6 b (by omega) hR
    obtain ⟨u6, u7, ih⟩ := ns_3 s0 s1 s2 s3 s4 l (k + 14 * R.length) (C + 2 * R.length) (foldS uB R r) t6 (.im (.tuple (nD R))) i6 rfl (b.fold (fun t ht => uB_le ht) hR) (by omega) fun S hS => h S (List.mem_cons_of_mem _ hS)
    have ef : foldS uB (R :: l).flatten r = foldS uB l.flatten (foldS uB R r) := by unfold foldS; rw [List.flatten_cons, List.foldl_append]
    have el : tuD (R :: l) = .tuple (nD R) :: tuD l := rfl
    refine ⟨u6, u7, ?_⟩
    rw [el, ef, ← ih]
    simp only [forL, ↓e, sNop_ap, row?_ap, eRowM_ap, sRowSub_ap, eRowLen_ap, eRowNil_ap, isUn_un, ixN3_0, ixN3_1, ixN3_2, gRowsD_ap, rowsOf_nil, rowsOf_cons, eMeth_ap, isL_l, isS_s, mAppend_ap, mExtend_ap, ownL_fr, gIn_ap, ownDct_fr, gT_apL, hSorted, hTuple, hList, hRev, hRevX, hEqS, sSeq_ap, sBrk_ap, sCnt_ap, sRet_ap, sRetN_ap, sDrop_ap, sIf_ap, sSet_ap, isMu_ap, sAsg_ap, gN_ap, gT_ap, gTs, sPar_ap, sSub_ap, own?_ap, putO_t, putO_f, sAug_ap, sFor_ap, eC_ap, eVar_ap, ePl_ap, eMv_ap, opS_ap, sNil_ap, sCons_ap, gOp_ap, vws_nil, vws_cons, vw_im, vw_fr, vw_frd, vw_frs, vw_frr, vw_pl, view_l, view_d, view_s, view_r, rs_d, rs_l, sl_im, sl_fr, fz_im, fz_fr, fzs_nil, fzs_cons, toD_l, toD_r, gTupD_ap, gLstD_ap, gIx_ap, gDGet_ap, ownDct_pl, keyOf_i, keyOf_s, gMul_ap, tB_ap, tNot_ap, tAnd_ap, tOr_ap, eNot_ap, eAnd_ap, eOr_ap, eIf_ap, tY_ap, eSl_ap, oN_ap, oI_ap, itOf_ap, itR1_ap, itR2_ap, eLc_ap, isIm_ap, eCall_ap, eCallM_ap, fnOf_ap, isPl_im, isPl_fr, eDspl_ap, sArgs_nil, sArgs_cons, mkD_nil, mkD_cons, keepMu_mu, keepMu_im, projS_nil, projS_cons, hAdd, hSub, hMul, hDiv, hMod, hPow, hNeg, hCmp, hEq, hNe, hIsN, hNotN, hIx, hLen, hInt, hAbs, hGcd, hMin, hMax, hCut, isi_ii, isi_ib, isi_tt, isi_ll, isM_un, isM_im, isM_ow, isM_mu, List.getElem?_cons_zero, List.getElem?_cons_succ, List.getElem?_nil, List.set_cons_zero, List.set_cons_succ, List.length_cons, List.length_nil, List.length_map, List.replicate_succ, List.replicate_zero, List.cons_append, List.nil_append, List.map_cons, List.map_nil, Nat.reduceAdd, Nat.zero_add, ne_eq, not_true_eq_false, not_false_eq_true, decide_false, decide_true, Bool.or_self, Bool.or_false, Bool.false_or, Bool.and_self, Bool.false_eq_true, if_false, if_true, reduceIte, szOk_2, szOk_1, szOk_0, szOk_3, lk_left, lk_seed, lk_cells, lk_spot, pt_left, pt_spot, len_mL, mSet, true_and, and_true, List.getD_eq_getElem?_getD, Option.getD_some, seqOf_l, seqOf_t, ↓hIx_sq, ↓hLen_sq, seqOf_sq, ↓hTuple_sq, fz_fr2, gRep_ap, eq_self, gSorted_ap, gSortD_ap, gSortS_ap, ownSet_pl, eDict1_ap, eChain_ap, gInD_ap, gInS_ap, mPop_ap, mAdd_ap, eSet0_ap, sWhile_ap, itEnumX_ap, eM2_ap, eTR1_ap, eLR1_ap, hLtD, gDGetT_ap, ownDctT_pl, gInT_ap, keyT_t, keysOf_nil, keysOf_cons, eDctT0_ap, view_dT, eDict1T_ap, hIsB, hNotB, sPar3_ap, h7]
/-- names: handles, cones, rows, crosscaps -/
def bas (h n x : Nat) : Rat := mkRat (4 - 4 * (h : Int) - 2 * (x : Int) - 2 * (n : Int)) 1
def tot (h : Nat) (cs : List Nat) (rows : List (List Nat)) (x : Nat) : Rat := foldS uB rows.flatten (foldS uC cs (bas h rows.length x))
structure NmOk (h : Nat) (cs : List Nat) (rows : List (List Nat)) (x : Nat) : Prop where
  h : h ≤ 200
  x : x ≤ 400
  n : rows.length ≤ 8
  c : ∀ t ∈ cs, 1 ≤ t ∧ t ≤ 10000
  r : ∀ R ∈ rows, ∀ t ∈ R, 1 ≤ t ∧ t ≤ 10000
  l : cs.length + rows.flatten.length ≤ 17
theorem mk1 (n : Int) : (mkRat n 1).num = n ∧ (mkRat n 1).den = 1 := by
  obtain ⟨m, hm, h1, h2, _⟩ := mk_fac (a := n) (b := 1) (by decide)
  have : m = 1 := by
    have := Nat.le_mul_of_pos_left m (mkRat n 1).den_pos
    omega
  subst this
  rw [Nat.mul_one] at h2
  exact ⟨by omega, h2.symm⟩
theorem fr1 (n : Int) : fr (mkRat n 1) = .tuple [.int n, .int 1] := by
  obtain ⟨h1, h2⟩ := mk1 n
  unfold fr
  rw [h1, h2]; rfl
theorem bas_bd {h n x : Nat} (a : h ≤ 200) (b : x ≤ 400) (c : n ≤ 8) : Bd 0 2000 (bas h n x) := by
  unfold bas
  obtain ⟨h1, h2⟩ := mk1 (4 - 4 * (h : Int) - 2 * (x : Int) - 2 * (n : Int))
  refine ⟨by rw [h2]; decide, ?_⟩
  rw [h1, h2]
  omega
section
variable {h x : Nat} {cs : List Nat} {rows : List (List Nat)}
theorem NmOk.bd (o : NmOk h cs rows x) : Bd 239 3000 (tot h cs rows x) := by
  have b1 := (bas_bd o.h o.x o.n).fold (fun t ht => uC_le ht) o.c
  have l := o.l
  have b2 := b1.fold (u := uB) (fun t ht => uB_le ht) (l := rows.flatten) fun t ht => by
    obtain ⟨R, hR, ht⟩ := List.mem_flatten.mp ht
    exact o.r R hR t ht
  exact b2.up (by omega) (by omega)
theorem name_sum_eq (o : NmOk h cs rows x) : f_name_sum [.im (nmD h cs rows x)] = some (.im (fr (tot h cs rows x)), [.un]) := by
  have l := o.l
  obtain ⟨t6, i6, e1⟩ := ns_1 (.im (nmD h cs rows x)) (.im (.int (h : Nat))) (.im (.tuple (nD cs))) (.im (.tuple (tuD rows))) (.im (.int (x : Nat))) .un cs 0 2000 (bas h rows.length x) .un rfl (bas_bd o.h o.x o.n) (by omega) o.c
  obtain ⟨u6, u7, e2⟩ := ns_3 (.im (nmD h cs rows x)) (.im (.int (h : Nat))) (.im (.tuple (nD cs))) (.im (.tuple (tuD rows))) (.im (.int (x : Nat))) rows (0 + 14 * cs.length) (2000 + 2 * cs.length) (foldS uC cs (bas h rows.length x)) t6 .un i6 rfl ((bas_bd o.h o.x o.n).fold (fun t ht => uC_le ht) o.c) (by omega) o.r
  have e0 := ratio_rat (a := 4 - 4 * (h : Int) - 2 * (x : Int) - 2 * (rows.length : Int)) (b := 1) (by decide) (by decide)
  have m1 : mulOk 4 ((h : Nat) : Int) = true := mulOk_l (by decide) (by decide)
  have m2 : mulOk 2 ((x : Nat) : Int) = true := mulOk_l (by decide) (by decide)
  have m3 : mulOk 2 ((rows.length : Nat) : Int) = true := mulOk_l (by decide) (by decide)
  have c1 : ((1 : Nat) : Int) = 1 := rfl
  have ln : (tuD rows).length = rows.length := tuD_len rows
  have et : tot h cs rows x = foldS uB rows.flatten (foldS uC cs (bas h rows.length x)) := rfl
  rw [et]
  generalize foldS uB rows.flatten (foldS uC cs (bas h rows.length x)) = z at *
  have eb : mkRat (4 - 4 * (h : Int) - 2 * (x : Int) - 2 * (rows.length : Int)) 1 = bas h rows.length x := rfl
  rw [c1, eb] at e0
  unfold f_name_sum b_name_sum
  unfold nmD at *
  generalize nD cs = CC at *
  generalize tuD rows = RR at *
  simp only [↓e0, ↓e1, ↓e2, sNop_ap, row?_ap, eRowM_ap, sRowSub_ap, eRowLen_ap, eRowNil_ap, isUn_un, ixN3_0, ixN3_1, ixN3_2, gRowsD_ap, rowsOf_nil, rowsOf_cons, eMeth_ap, isL_l, isS_s, mAppend_ap, mExtend_ap, ownL_fr, gIn_ap, ownDct_fr, gT_apL, hSorted, hTuple, hList, hRev, hRevX, hEqS, sSeq_ap, sBrk_ap, sCnt_ap, sRet_ap, sRetN_ap, sDrop_ap, sIf_ap, sSet_ap, isMu_ap, sAsg_ap, gN_ap, gT_ap, gTs, sPar_ap, sSub_ap, own?_ap, putO_t, putO_f, sAug_ap, sFor_ap, eC_ap, eVar_ap, ePl_ap, eMv_ap, opS_ap, sNil_ap, sCons_ap, gOp_ap, vws_nil, vws_cons, vw_im, vw_fr, vw_frd, vw_frs, vw_frr, vw_pl, view_l, view_d, view_s, view_r, rs_d, rs_l, sl_im, sl_fr, fz_im, fz_fr, fzs_nil, fzs_cons, toD_l, toD_r, gTupD_ap, gLstD_ap, gIx_ap, gDGet_ap, ownDct_pl, keyOf_i, keyOf_s, gMul_ap, tB_ap, tNot_ap, tAnd_ap, tOr_ap, eNot_ap, eAnd_ap, eOr_ap, eIf_ap, tY_ap, eSl_ap, oN_ap, oI_ap, itOf_ap, itR1_ap, itR2_ap, eLc_ap, isIm_ap, eCall_ap, eCallM_ap, fnOf_ap, isPl_im, isPl_fr, eDspl_ap, sArgs_nil, sArgs_cons, mkD_nil, mkD_cons, keepMu_mu, keepMu_im, projS_nil, projS_cons, hAdd, hSub, hMul, hDiv, hMod, hPow, hNeg, hCmp, hEq, hNe, hIsN, hNotN, hIx, hLen, hInt, hAbs, hGcd, hMin, hMax, hCut, isi_ii, isi_ib, isi_tt, isi_ll, isM_un, isM_im, isM_ow, isM_mu, List.getElem?_cons_zero, List.getElem?_cons_succ, List.getElem?_nil, List.set_cons_zero, List.set_cons_succ, List.length_cons, List.length_nil, List.length_map, List.replicate_succ, List.replicate_zero, List.cons_append, List.nil_append, List.map_cons, List.map_nil, Nat.reduceAdd, Nat.zero_add, ne_eq, not_true_eq_false, not_false_eq_true, decide_false, decide_true, Bool.or_self, Bool.or_false, Bool.false_or, Bool.and_self, Bool.false_eq_true, if_false, if_true, reduceIte, szOk_2, szOk_1, szOk_0, szOk_3, lk_left, lk_seed, lk_cells, lk_spot, pt_left, pt_spot, len_mL, mSet, true_and, and_true, List.getD_eq_getElem?_getD, Option.getD_some, seqOf_l, seqOf_t, ↓hIx_sq, ↓hLen_sq, seqOf_sq, ↓hTuple_sq, fz_fr2, gRep_ap, eq_self, gSorted_ap, gSortD_ap, gSortS_ap, ownSet_pl, eDict1_ap, eChain_ap, gInD_ap, gInS_ap, mPop_ap, mAdd_ap, eSet0_ap, sWhile_ap, itEnumX_ap, eM2_ap, eTR1_ap, eLR1_ap, hLtD, gDGetT_ap, ownDctT_pl, gInT_ap, keyT_t, keysOf_nil, keysOf_cons, eDctT0_ap, view_dT, eDict1T_ap, hIsB, hNotB, sPar3_ap, m1, m2, m3, ln]
end

/-! ### bad names -/
def e2 : List Nat → Bool
  | [_] => true
  | [a, b] => !decide (a = b)
  | _ => false
def bdN (h : Nat) (cs : List Nat) (rows : List (List Nat)) (x : Nat) : Bool := decide (h = 0) && (decide (x = 0) && (match rows with
  | [] => e2 cs
  | [R] => decide (cs = []) && e2 R
  | _ => false))
theorem tu_ne (l : List Nat) : PyData.eqv (.tuple (nD l)) (.tuple []) = decide (l = []) := eqv_nDT l []
theorem tt_ne (l : List (List Nat)) : PyData.eqv (.tuple (tuD l)) (.tuple []) = decide (l = []) := eqv_tuD l []
theorem tail5 (E : List Nat) (s0 s1 s2 s3 s4 : Sl) : (eOr (opS (gOp hEq) (sCons (opS (gOp hLen) (sCons (ePl 5) sNil)) (sCons (eC (.int 1)) sNil))) (eAnd (opS (gOp hEq) (sCons (opS (gOp hLen) (sCons (ePl 5) sNil)) (sCons (eC (.int 2)) sNil))) (opS (gOp hNe) (sCons (opS gIx (sCons (ePl 5) (sCons (eC (.int 0)) sNil))) (sCons (opS gIx (sCons (ePl 5) (sCons (eC (.int 1)) sNil))) sNil)))))
    [s0, s1, s2, s3, s4, .im (.tuple (nD E))] = some (.im (.bool (e2 E)), [s0, s1, s2, s3, s4, .im (.tuple (nD E))]) := by
  match E with
  | [] =>
    have q1 : PyData.eqv (.int ((0 : Nat) : Int)) (.int 1) = false := by decide
    have q2 : PyData.eqv (.int ((0 : Nat) : Int)) (.int 2) = false := by decide
    simp only [sNop_ap, row?_ap, eRowM_ap, sRowSub_ap, eRowLen_ap, eRowNil_ap, isUn_un, ixN3_0, ixN3_1, ixN3_2, gRowsD_ap, rowsOf_nil, rowsOf_cons, eMeth_ap, isL_l, isS_s, mAppend_ap, mExtend_ap, ownL_fr, gIn_ap, ownDct_fr, gT_apL, hSorted, hTuple, hList, hRev, hRevX, hEqS, sSeq_ap, sBrk_ap, sCnt_ap, sRet_ap, sRetN_ap, sDrop_ap, sIf_ap, sSet_ap, isMu_ap, sAsg_ap, gN_ap, gT_ap, gTs, sPar_ap, sSub_ap, own?_ap, putO_t, putO_f, sAug_ap, sFor_ap, eC_ap, eVar_ap, ePl_ap, eMv_ap, opS_ap, sNil_ap, sCons_ap, gOp_ap, vws_nil, vws_cons, vw_im, vw_fr, vw_frd, vw_frs, vw_frr, vw_pl, view_l, view_d, view_s, view_r, rs_d, rs_l, sl_im, sl_fr, fz_im, fz_fr, fzs_nil, fzs_cons, toD_l, toD_r, gTupD_ap, gLstD_ap, gIx_ap, gDGet_ap, ownDct_pl, keyOf_i, keyOf_s, gMul_ap, tB_ap, tNot_ap, tAnd_ap, tOr_ap, eNot_ap, eAnd_ap, eOr_ap, eIf_ap, tY_ap, eSl_ap, oN_ap, oI_ap, itOf_ap, itR1_ap, itR2_ap, eLc_ap, isIm_ap, eCall_ap, eCallM_ap, fnOf_ap, isPl_im, isPl_fr, eDspl_ap, sArgs_nil, sArgs_cons, mkD_nil, mkD_cons, keepMu_mu, keepMu_im, projS_nil, projS_cons, hAdd, hSub, hMul, hDiv, hMod, hPow, hNeg, hCmp, hEq, hNe, hIsN, hNotN, hIx, hLen, hInt, hAbs, hGcd, hMin, hMax, hCut, isi_ii, isi_ib, isi_tt, isi_ll, isM_un, isM_im, isM_ow, isM_mu, List.getElem?_cons_zero, List.getElem?_cons_succ, List.getElem?_nil, List.set_cons_zero, List.set_cons_succ, List.length_cons, List.length_nil, List.length_map, List.replicate_succ, List.replicate_zero, List.cons_append, List.nil_append, List.map_cons, List.map_nil, Nat.reduceAdd, Nat.zero_add, ne_eq, not_true_eq_false, not_false_eq_true, decide_false, decide_true, Bool.or_self, Bool.or_false, Bool.false_or, Bool.and_self, Bool.false_eq_true, if_false, if_true, reduceIte, szOk_2, szOk_1, szOk_0, szOk_3, lk_left, lk_seed, lk_cells, lk_spot, pt_left, pt_spot, len_mL, mSet, true_and, and_true, List.getD_eq_getElem?_getD, Option.getD_some, seqOf_l, seqOf_t, ↓hIx_sq, ↓hLen_sq, seqOf_sq, ↓hTuple_sq, fz_fr2, gRep_ap, eq_self, gSorted_ap, gSortD_ap, gSortS_ap, ownSet_pl, eDict1_ap, eChain_ap, gInD_ap, gInS_ap, mPop_ap, mAdd_ap, eSet0_ap, sWhile_ap, itEnumX_ap, eM2_ap, eTR1_ap, eLR1_ap, hLtD, gDGetT_ap, ownDctT_pl, gInT_ap, keyT_t, keysOf_nil, keysOf_cons, eDctT0_ap, view_dT, eDict1T_ap, hIsB, hNotB, sPar3_ap, nD_nil, sh_int, q1, q2, e2]
  | [a] =>
    have q1 : PyData.eqv (.int ((0 + 1 : Nat) : Int)) (.int 1) = true := by decide
    simp only [sNop_ap, row?_ap, eRowM_ap, sRowSub_ap, eRowLen_ap, eRowNil_ap, isUn_un, ixN3_0, ixN3_1, ixN3_2, gRowsD_ap, rowsOf_nil, rowsOf_cons, eMeth_ap, isL_l, isS_s, mAppend_ap, mExtend_ap, ownL_fr, gIn_ap, ownDct_fr, gT_apL, hSorted, hTuple, hList, hRev, hRevX, hEqS, sSeq_ap, sBrk_ap, sCnt_ap, sRet_ap, sRetN_ap, sDrop_ap, sIf_ap, sSet_ap, isMu_ap, sAsg_ap, gN_ap, gT_ap, gTs, sPar_ap, sSub_ap, own?_ap, putO_t, putO_f, sAug_ap, sFor_ap, eC_ap, eVar_ap, ePl_ap, eMv_ap, opS_ap, sNil_ap, sCons_ap, gOp_ap, vws_nil, vws_cons, vw_im, vw_fr, vw_frd, vw_frs, vw_frr, vw_pl, view_l, view_d, view_s, view_r, rs_d, rs_l, sl_im, sl_fr, fz_im, fz_fr, fzs_nil, fzs_cons, toD_l, toD_r, gTupD_ap, gLstD_ap, gIx_ap, gDGet_ap, ownDct_pl, keyOf_i, keyOf_s, gMul_ap, tB_ap, tNot_ap, tAnd_ap, tOr_ap, eNot_ap, eAnd_ap, eOr_ap, eIf_ap, tY_ap, eSl_ap, oN_ap, oI_ap, itOf_ap, itR1_ap, itR2_ap, eLc_ap, isIm_ap, eCall_ap, eCallM_ap, fnOf_ap, isPl_im, isPl_fr, eDspl_ap, sArgs_nil, sArgs_cons, mkD_nil, mkD_cons, keepMu_mu, keepMu_im, projS_nil, projS_cons, hAdd, hSub, hMul, hDiv, hMod, hPow, hNeg, hCmp, hEq, hNe, hIsN, hNotN, hIx, hLen, hInt, hAbs, hGcd, hMin, hMax, hCut, isi_ii, isi_ib, isi_tt, isi_ll, isM_un, isM_im, isM_ow, isM_mu, List.getElem?_cons_zero, List.getElem?_cons_succ, List.getElem?_nil, List.set_cons_zero, List.set_cons_succ, List.length_cons, List.length_nil, List.length_map, List.replicate_succ, List.replicate_zero, List.cons_append, List.nil_append, List.map_cons, List.map_nil, Nat.reduceAdd, Nat.zero_add, ne_eq, not_true_eq_false, not_false_eq_true, decide_false, decide_true, Bool.or_self, Bool.or_false, Bool.false_or, Bool.and_self, Bool.false_eq_true, if_false, if_true, reduceIte, szOk_2, szOk_1, szOk_0, szOk_3, lk_left, lk_seed, lk_cells, lk_spot, pt_left, pt_spot, len_mL, mSet, true_and, and_true, List.getD_eq_getElem?_getD, Option.getD_some, seqOf_l, seqOf_t, ↓hIx_sq, ↓hLen_sq, seqOf_sq, ↓hTuple_sq, fz_fr2, gRep_ap, eq_self, gSorted_ap, gSortD_ap, gSortS_ap, ownSet_pl, eDict1_ap, eChain_ap, gInD_ap, gInS_ap, mPop_ap, mAdd_ap, eSet0_ap, sWhile_ap, itEnumX_ap, eM2_ap, eTR1_ap, eLR1_ap, hLtD, gDGetT_ap, ownDctT_pl, gInT_ap, keyT_t, keysOf_nil, keysOf_cons, eDctT0_ap, view_dT, eDict1T_ap, hIsB, hNotB, sPar3_ap, nD_cons, nD_nil, sh_int, q1, e2]
  | [a, b] =>
    have q1 : PyData.eqv (.int ((0 + 1 + 1 : Nat) : Int)) (.int 1) = false := by decide
    have q2 : PyData.eqv (.int ((0 + 1 + 1 : Nat) : Int)) (.int 2) = true := by decide
    have a0 : ∀ x y : D, atI [x, y] 0 = some x := fun _ _ => rfl
    have a1 : ∀ x y : D, atI [x, y] 1 = some y := fun _ _ => rfl
    have q3 := eqv_nat a b
    simp only [sNop_ap, row?_ap, eRowM_ap, sRowSub_ap, eRowLen_ap, eRowNil_ap, isUn_un, ixN3_0, ixN3_1, ixN3_2, gRowsD_ap, rowsOf_nil, rowsOf_cons, eMeth_ap, isL_l, isS_s, mAppend_ap, mExtend_ap, ownL_fr, gIn_ap, ownDct_fr, gT_apL, hSorted, hTuple, hList, hRev, hRevX, hEqS, sSeq_ap, sBrk_ap, sCnt_ap, sRet_ap, sRetN_ap, sDrop_ap, sIf_ap, sSet_ap, isMu_ap, sAsg_ap, gN_ap, gT_ap, gTs, sPar_ap, sSub_ap, own?_ap, putO_t, putO_f, sAug_ap, sFor_ap, eC_ap, eVar_ap, ePl_ap, eMv_ap, opS_ap, sNil_ap, sCons_ap, gOp_ap, vws_nil, vws_cons, vw_im, vw_fr, vw_frd, vw_frs, vw_frr, vw_pl, view_l, view_d, view_s, view_r, rs_d, rs_l, sl_im, sl_fr, fz_im, fz_fr, fzs_nil, fzs_cons, toD_l, toD_r, gTupD_ap, gLstD_ap, gIx_ap, gDGet_ap, ownDct_pl, keyOf_i, keyOf_s, gMul_ap, tB_ap, tNot_ap, tAnd_ap, tOr_ap, eNot_ap, eAnd_ap, eOr_ap, eIf_ap, tY_ap, eSl_ap, oN_ap, oI_ap, itOf_ap, itR1_ap, itR2_ap, eLc_ap, isIm_ap, eCall_ap, eCallM_ap, fnOf_ap, isPl_im, isPl_fr, eDspl_ap, sArgs_nil, sArgs_cons, mkD_nil, mkD_cons, keepMu_mu, keepMu_im, projS_nil, projS_cons, hAdd, hSub, hMul, hDiv, hMod, hPow, hNeg, hCmp, hEq, hNe, hIsN, hNotN, hIx, hLen, hInt, hAbs, hGcd, hMin, hMax, hCut, isi_ii, isi_ib, isi_tt, isi_ll, isM_un, isM_im, isM_ow, isM_mu, List.getElem?_cons_zero, List.getElem?_cons_succ, List.getElem?_nil, List.set_cons_zero, List.set_cons_succ, List.length_cons, List.length_nil, List.length_map, List.replicate_succ, List.replicate_zero, List.cons_append, List.nil_append, List.map_cons, List.map_nil, Nat.reduceAdd, Nat.zero_add, ne_eq, not_true_eq_false, not_false_eq_true, decide_false, decide_true, Bool.or_self, Bool.or_false, Bool.false_or, Bool.and_self, Bool.false_eq_true, if_false, if_true, reduceIte, szOk_2, szOk_1, szOk_0, szOk_3, lk_left, lk_seed, lk_cells, lk_spot, pt_left, pt_spot, len_mL, mSet, true_and, and_true, List.getD_eq_getElem?_getD, Option.getD_some, seqOf_l, seqOf_t, ↓hIx_sq, ↓hLen_sq, seqOf_sq, ↓hTuple_sq, fz_fr2, gRep_ap, eq_self, gSorted_ap, gSortD_ap, gSortS_ap, ownSet_pl, eDict1_ap, eChain_ap, gInD_ap, gInS_ap, mPop_ap, mAdd_ap, eSet0_ap, sWhile_ap, itEnumX_ap, eM2_ap, eTR1_ap, eLR1_ap, hLtD, gDGetT_ap, ownDctT_pl, gInT_ap, keyT_t, keysOf_nil, keysOf_cons, eDctT0_ap, view_dT, eDict1T_ap, hIsB, hNotB, sPar3_ap, nD_cons, nD_nil, sh_int, q1, q2, q3, a0, a1, e2]
  | a :: b :: c :: E =>
    have q1 : PyData.eqv (.int ((E.length + 1 + 1 + 1 : Nat) : Int)) (.int 1) = false := (eqv_nat _ 1).trans (decide_eq_false (by omega))
    have q2 : PyData.eqv (.int ((E.length + 1 + 1 + 1 : Nat) : Int)) (.int 2) = false := (eqv_nat _ 2).trans (decide_eq_false (by omega))
    simp only [sNop_ap, row?_ap, eRowM_ap, sRowSub_ap, eRowLen_ap, eRowNil_ap, isUn_un, ixN3_0, ixN3_1, ixN3_2, gRowsD_ap, rowsOf_nil, rowsOf_cons, eMeth_ap, isL_l, isS_s, mAppend_ap, mExtend_ap, ownL_fr, gIn_ap, ownDct_fr, gT_apL, hSorted, hTuple, hList, hRev, hRevX, hEqS, sSeq_ap, sBrk_ap, sCnt_ap, sRet_ap, sRetN_ap, sDrop_ap, sIf_ap, sSet_ap, isMu_ap, sAsg_ap, gN_ap, gT_ap, gTs, sPar_ap, sSub_ap, own?_ap, putO_t, putO_f, sAug_ap, sFor_ap, eC_ap, eVar_ap, ePl_ap, eMv_ap, opS_ap, sNil_ap, sCons_ap, gOp_ap, vws_nil, vws_cons, vw_im, vw_fr, vw_frd, vw_frs, vw_frr, vw_pl, view_l, view_d, view_s, view_r, rs_d, rs_l, sl_im, sl_fr, fz_im, fz_fr, fzs_nil, fzs_cons, toD_l, toD_r, gTupD_ap, gLstD_ap, gIx_ap, gDGet_ap, ownDct_pl, keyOf_i, keyOf_s, gMul_ap, tB_ap, tNot_ap, tAnd_ap, tOr_ap, eNot_ap, eAnd_ap, eOr_ap, eIf_ap, tY_ap, eSl_ap, oN_ap, oI_ap, itOf_ap, itR1_ap, itR2_ap, eLc_ap, isIm_ap, eCall_ap, eCallM_ap, fnOf_ap, isPl_im, isPl_fr, eDspl_ap, sArgs_nil, sArgs_cons, mkD_nil, mkD_cons, keepMu_mu, keepMu_im, projS_nil, projS_cons, hAdd, hSub, hMul, hDiv, hMod, hPow, hNeg, hCmp, hEq, hNe, hIsN, hNotN, hIx, hLen, hInt, hAbs, hGcd, hMin, hMax, hCut, isi_ii, isi_ib, isi_tt, isi_ll, isM_un, isM_im, isM_ow, isM_mu, List.getElem?_cons_zero, List.getElem?_cons_succ, List.getElem?_nil, List.set_cons_zero, List.set_cons_succ, List.length_cons, List.length_nil, List.length_map, List.replicate_succ, List.replicate_zero, List.cons_append, List.nil_append, List.map_cons, List.map_nil, Nat.reduceAdd, Nat.zero_add, ne_eq, not_true_eq_false, not_false_eq_true, decide_false, decide_true, Bool.or_self, Bool.or_false, Bool.false_or, Bool.and_self, Bool.false_eq_true, if_false, if_true, reduceIte, szOk_2, szOk_1, szOk_0, szOk_3, lk_left, lk_seed, lk_cells, lk_spot, pt_left, pt_spot, len_mL, mSet, true_and, and_true, List.getD_eq_getElem?_getD, Option.getD_some, seqOf_l, seqOf_t, ↓hIx_sq, ↓hLen_sq, seqOf_sq, ↓hTuple_sq, fz_fr2, gRep_ap, eq_self, gSorted_ap, gSortD_ap, gSortS_ap, ownSet_pl, eDict1_ap, eChain_ap, gInD_ap, gInS_ap, mPop_ap, mAdd_ap, eSet0_ap, sWhile_ap, itEnumX_ap, eM2_ap, eTR1_ap, eLR1_ap, hLtD, gDGetT_ap, ownDctT_pl, gInT_ap, keyT_t, keysOf_nil, keysOf_cons, eDctT0_ap, view_dT, eDict1T_ap, hIsB, hNotB, sPar3_ap, nD_cons, nD_len, sh_int, q1, q2, e2]
theorem is_bad_eq (h : Nat) (cs : List Nat) (rows : List (List Nat)) (x : Nat) : f_is_bad [.im (nmD h cs rows x)] = some (.im (.bool (bdN h cs rows x)), [.un]) := by
  have sh1 := sh_nDT cs
  have sh2 := sh_tuD rows
  have sh0 : SeqAt.shaped (.tuple []) = true := sh_nDT []
  have q1 := tu_ne cs
  have q2 := tt_ne rows
  have t1 := fun (s3 : Sl) E => tail5 E (.im (nmD h cs rows x)) (.im (.int (h : Nat))) (.im (.tuple (nD cs))) s3 (.im (.int (x : Nat)))
  unfold f_is_bad b_is_bad bdN
  unfold nmD at t1 ⊢
  by_cases c1 : h = 0
  · subst c1
    have d1 : decide ((0 : Int) < ((0 : Nat) : Int)) = false := by decide
    by_cases c2 : x = 0
    · subst c2
      match rows with
      | [] =>
        have q2 : PyData.eqv (.tuple []) (.tuple []) = true := by decide
        have l0 : decide ((1 : Int) < ((0 : Nat) : Int)) = false := by decide
        have n0 : tuD [] = [] := rfl
        rw [n0] at t1 ⊢
        have t1 := t1 (.im (.tuple [])) cs
        simp only [↓t1, sNop_ap, row?_ap, eRowM_ap, sRowSub_ap, eRowLen_ap, eRowNil_ap, isUn_un, ixN3_0, ixN3_1, ixN3_2, gRowsD_ap, rowsOf_nil, rowsOf_cons, eMeth_ap, isL_l, isS_s, mAppend_ap, mExtend_ap, ownL_fr, gIn_ap, ownDct_fr, gT_apL, hSorted, hTuple, hList, hRev, hRevX, hEqS, sSeq_ap, sBrk_ap, sCnt_ap, sRet_ap, sRetN_ap, sDrop_ap, sIf_ap, sSet_ap, isMu_ap, sAsg_ap, gN_ap, gT_ap, gTs, sPar_ap, sSub_ap, own?_ap, putO_t, putO_f, sAug_ap, sFor_ap, eC_ap, eVar_ap, ePl_ap, eMv_ap, opS_ap, sNil_ap, sCons_ap, gOp_ap, vws_nil, vws_cons, vw_im, vw_fr, vw_frd, vw_frs, vw_frr, vw_pl, view_l, view_d, view_s, view_r, rs_d, rs_l, sl_im, sl_fr, fz_im, fz_fr, fzs_nil, fzs_cons, toD_l, toD_r, gTupD_ap, gLstD_ap, gIx_ap, gDGet_ap, ownDct_pl, keyOf_i, keyOf_s, gMul_ap, tB_ap, tNot_ap, tAnd_ap, tOr_ap, eNot_ap, eAnd_ap, eOr_ap, eIf_ap, tY_ap, eSl_ap, oN_ap, oI_ap, itOf_ap, itR1_ap, itR2_ap, eLc_ap, isIm_ap, eCall_ap, eCallM_ap, fnOf_ap, isPl_im, isPl_fr, eDspl_ap, sArgs_nil, sArgs_cons, mkD_nil, mkD_cons, keepMu_mu, keepMu_im, projS_nil, projS_cons, hAdd, hSub, hMul, hDiv, hMod, hPow, hNeg, hCmp, hEq, hNe, hIsN, hNotN, hIx, hLen, hInt, hAbs, hGcd, hMin, hMax, hCut, isi_ii, isi_ib, isi_tt, isi_ll, isM_un, isM_im, isM_ow, isM_mu, List.getElem?_cons_zero, List.getElem?_cons_succ, List.getElem?_nil, List.set_cons_zero, List.set_cons_succ, List.length_cons, List.length_nil, List.length_map, List.replicate_succ, List.replicate_zero, List.cons_append, List.nil_append, List.map_cons, List.map_nil, Nat.reduceAdd, Nat.zero_add, ne_eq, not_true_eq_false, not_false_eq_true, decide_false, decide_true, Bool.or_self, Bool.or_false, Bool.false_or, Bool.and_self, Bool.false_eq_true, if_false, if_true, reduceIte, szOk_2, szOk_1, szOk_0, szOk_3, lk_left, lk_seed, lk_cells, lk_spot, pt_left, pt_spot, len_mL, mSet, true_and, and_true, List.getD_eq_getElem?_getD, Option.getD_some, seqOf_l, seqOf_t, ↓hIx_sq, ↓hLen_sq, seqOf_sq, ↓hTuple_sq, fz_fr2, gRep_ap, eq_self, gSorted_ap, gSortD_ap, gSortS_ap, ownSet_pl, eDict1_ap, eChain_ap, gInD_ap, gInS_ap, mPop_ap, mAdd_ap, eSet0_ap, sWhile_ap, itEnumX_ap, eM2_ap, eTR1_ap, eLR1_ap, hLtD, gDGetT_ap, ownDctT_pl, gInT_ap, keyT_t, keysOf_nil, keysOf_cons, eDctT0_ap, view_dT, eDict1T_ap, hIsB, hNotB, sPar3_ap, hCmp_ii, d1, l0, sh0, q2, Bool.not_true, Bool.and_self, Bool.true_and, decide_true]
      | [R] =>
        have q2 : PyData.eqv (.tuple (tuD [R])) (.tuple []) = false := (tt_ne [R]).trans (decide_eq_false (by simp))
        have l0 : decide ((1 : Int) < ((0 + 1 : Nat) : Int)) = false := by decide
        have n1 : tuD [R] = [.tuple (nD R)] := rfl
        have a0 : ∀ x : D, atI [x] 0 = some x := fun _ => rfl
        rw [n1] at t1 q2 sh2 ⊢
        by_cases c3 : cs = []
        · subst c3
          have t1 := t1 (.im (.tuple [.tuple (nD R)])) R
          have q1 : PyData.eqv (.tuple []) (.tuple []) = true := by decide
          rw [nD_nil] at t1 ⊢
          simp only [↓t1, sNop_ap, row?_ap, eRowM_ap, sRowSub_ap, eRowLen_ap, eRowNil_ap, isUn_un, ixN3_0, ixN3_1, ixN3_2, gRowsD_ap, rowsOf_nil, rowsOf_cons, eMeth_ap, isL_l, isS_s, mAppend_ap, mExtend_ap, ownL_fr, gIn_ap, ownDct_fr, gT_apL, hSorted, hTuple, hList, hRev, hRevX, hEqS, sSeq_ap, sBrk_ap, sCnt_ap, sRet_ap, sRetN_ap, sDrop_ap, sIf_ap, sSet_ap, isMu_ap, sAsg_ap, gN_ap, gT_ap, gTs, sPar_ap, sSub_ap, own?_ap, putO_t, putO_f, sAug_ap, sFor_ap, eC_ap, eVar_ap, ePl_ap, eMv_ap, opS_ap, sNil_ap, sCons_ap, gOp_ap, vws_nil, vws_cons, vw_im, vw_fr, vw_frd, vw_frs, vw_frr, vw_pl, view_l, view_d, view_s, view_r, rs_d, rs_l, sl_im, sl_fr, fz_im, fz_fr, fzs_nil, fzs_cons, toD_l, toD_r, gTupD_ap, gLstD_ap, gIx_ap, gDGet_ap, ownDct_pl, keyOf_i, keyOf_s, gMul_ap, tB_ap, tNot_ap, tAnd_ap, tOr_ap, eNot_ap, eAnd_ap, eOr_ap, eIf_ap, tY_ap, eSl_ap, oN_ap, oI_ap, itOf_ap, itR1_ap, itR2_ap, eLc_ap, isIm_ap, eCall_ap, eCallM_ap, fnOf_ap, isPl_im, isPl_fr, eDspl_ap, sArgs_nil, sArgs_cons, mkD_nil, mkD_cons, keepMu_mu, keepMu_im, projS_nil, projS_cons, hAdd, hSub, hMul, hDiv, hMod, hPow, hNeg, hCmp, hEq, hNe, hIsN, hNotN, hIx, hLen, hInt, hAbs, hGcd, hMin, hMax, hCut, isi_ii, isi_ib, isi_tt, isi_ll, isM_un, isM_im, isM_ow, isM_mu, List.getElem?_cons_zero, List.getElem?_cons_succ, List.getElem?_nil, List.set_cons_zero, List.set_cons_succ, List.length_cons, List.length_nil, List.length_map, List.replicate_succ, List.replicate_zero, List.cons_append, List.nil_append, List.map_cons, List.map_nil, Nat.reduceAdd, Nat.zero_add, ne_eq, not_true_eq_false, not_false_eq_true, decide_false, decide_true, Bool.or_self, Bool.or_false, Bool.false_or, Bool.and_self, Bool.false_eq_true, if_false, if_true, reduceIte, szOk_2, szOk_1, szOk_0, szOk_3, lk_left, lk_seed, lk_cells, lk_spot, pt_left, pt_spot, len_mL, mSet, true_and, and_true, List.getD_eq_getElem?_getD, Option.getD_some, seqOf_l, seqOf_t, ↓hIx_sq, ↓hLen_sq, seqOf_sq, ↓hTuple_sq, fz_fr2, gRep_ap, eq_self, gSorted_ap, gSortD_ap, gSortS_ap, ownSet_pl, eDict1_ap, eChain_ap, gInD_ap, gInS_ap, mPop_ap, mAdd_ap, eSet0_ap, sWhile_ap, itEnumX_ap, eM2_ap, eTR1_ap, eLR1_ap, hLtD, gDGetT_ap, ownDctT_pl, gInT_ap, keyT_t, keysOf_nil, keysOf_cons, eDctT0_ap, view_dT, eDict1T_ap, hIsB, hNotB, sPar3_ap, hCmp_ii, d1, l0, sh0, sh2, q1, q2, a0, Bool.not_true, Bool.not_false, Bool.and_self, Bool.true_and, decide_true]
        · have q1 : PyData.eqv (.tuple (nD cs)) (.tuple []) = false := (tu_ne cs).trans (decide_eq_false c3)
          have d3 : decide (cs = []) = false := decide_eq_false c3
          simp only [sNop_ap, row?_ap, eRowM_ap, sRowSub_ap, eRowLen_ap, eRowNil_ap, isUn_un, ixN3_0, ixN3_1, ixN3_2, gRowsD_ap, rowsOf_nil, rowsOf_cons, eMeth_ap, isL_l, isS_s, mAppend_ap, mExtend_ap, ownL_fr, gIn_ap, ownDct_fr, gT_apL, hSorted, hTuple, hList, hRev, hRevX, hEqS, sSeq_ap, sBrk_ap, sCnt_ap, sRet_ap, sRetN_ap, sDrop_ap, sIf_ap, sSet_ap, isMu_ap, sAsg_ap, gN_ap, gT_ap, gTs, sPar_ap, sSub_ap, own?_ap, putO_t, putO_f, sAug_ap, sFor_ap, eC_ap, eVar_ap, ePl_ap, eMv_ap, opS_ap, sNil_ap, sCons_ap, gOp_ap, vws_nil, vws_cons, vw_im, vw_fr, vw_frd, vw_frs, vw_frr, vw_pl, view_l, view_d, view_s, view_r, rs_d, rs_l, sl_im, sl_fr, fz_im, fz_fr, fzs_nil, fzs_cons, toD_l, toD_r, gTupD_ap, gLstD_ap, gIx_ap, gDGet_ap, ownDct_pl, keyOf_i, keyOf_s, gMul_ap, tB_ap, tNot_ap, tAnd_ap, tOr_ap, eNot_ap, eAnd_ap, eOr_ap, eIf_ap, tY_ap, eSl_ap, oN_ap, oI_ap, itOf_ap, itR1_ap, itR2_ap, eLc_ap, isIm_ap, eCall_ap, eCallM_ap, fnOf_ap, isPl_im, isPl_fr, eDspl_ap, sArgs_nil, sArgs_cons, mkD_nil, mkD_cons, keepMu_mu, keepMu_im, projS_nil, projS_cons, hAdd, hSub, hMul, hDiv, hMod, hPow, hNeg, hCmp, hEq, hNe, hIsN, hNotN, hIx, hLen, hInt, hAbs, hGcd, hMin, hMax, hCut, isi_ii, isi_ib, isi_tt, isi_ll, isM_un, isM_im, isM_ow, isM_mu, List.getElem?_cons_zero, List.getElem?_cons_succ, List.getElem?_nil, List.set_cons_zero, List.set_cons_succ, List.length_cons, List.length_nil, List.length_map, List.replicate_succ, List.replicate_zero, List.cons_append, List.nil_append, List.map_cons, List.map_nil, Nat.reduceAdd, Nat.zero_add, ne_eq, not_true_eq_false, not_false_eq_true, decide_false, decide_true, Bool.or_self, Bool.or_false, Bool.false_or, Bool.and_self, Bool.false_eq_true, if_false, if_true, reduceIte, szOk_2, szOk_1, szOk_0, szOk_3, lk_left, lk_seed, lk_cells, lk_spot, pt_left, pt_spot, len_mL, mSet, true_and, and_true, List.getD_eq_getElem?_getD, Option.getD_some, seqOf_l, seqOf_t, ↓hIx_sq, ↓hLen_sq, seqOf_sq, ↓hTuple_sq, fz_fr2, gRep_ap, eq_self, gSorted_ap, gSortD_ap, gSortS_ap, ownSet_pl, eDict1_ap, eChain_ap, gInD_ap, gInS_ap, mPop_ap, mAdd_ap, eSet0_ap, sWhile_ap, itEnumX_ap, eM2_ap, eTR1_ap, eLR1_ap, hLtD, gDGetT_ap, ownDctT_pl, gInT_ap, keyT_t, keysOf_nil, keysOf_cons, eDctT0_ap, view_dT, eDict1T_ap, hIsB, hNotB, sPar3_ap, hCmp_ii, d1, l0, sh0, sh1, sh2, q1, q2, d3, Bool.not_true, Bool.not_false, Bool.and_self, Bool.true_and, Bool.false_and, decide_true]
      | R :: S :: rows =>
        have l0 : decide ((1 : Int) < ((rows.length + 1 + 1 : Nat) : Int)) = true := decide_eq_true (by omega)
        have n1 : tuD (R :: S :: rows) = .tuple (nD R) :: .tuple (nD S) :: tuD rows := rfl
        rw [n1]
        simp only [sNop_ap, row?_ap, eRowM_ap, sRowSub_ap, eRowLen_ap, eRowNil_ap, isUn_un, ixN3_0, ixN3_1, ixN3_2, gRowsD_ap, rowsOf_nil, rowsOf_cons, eMeth_ap, isL_l, isS_s, mAppend_ap, mExtend_ap, ownL_fr, gIn_ap, ownDct_fr, gT_apL, hSorted, hTuple, hList, hRev, hRevX, hEqS, sSeq_ap, sBrk_ap, sCnt_ap, sRet_ap, sRetN_ap, sDrop_ap, sIf_ap, sSet_ap, isMu_ap, sAsg_ap, gN_ap, gT_ap, gTs, sPar_ap, sSub_ap, own?_ap, putO_t, putO_f, sAug_ap, sFor_ap, eC_ap, eVar_ap, ePl_ap, eMv_ap, opS_ap, sNil_ap, sCons_ap, gOp_ap, vws_nil, vws_cons, vw_im, vw_fr, vw_frd, vw_frs, vw_frr, vw_pl, view_l, view_d, view_s, view_r, rs_d, rs_l, sl_im, sl_fr, fz_im, fz_fr, fzs_nil, fzs_cons, toD_l, toD_r, gTupD_ap, gLstD_ap, gIx_ap, gDGet_ap, ownDct_pl, keyOf_i, keyOf_s, gMul_ap, tB_ap, tNot_ap, tAnd_ap, tOr_ap, eNot_ap, eAnd_ap, eOr_ap, eIf_ap, tY_ap, eSl_ap, oN_ap, oI_ap, itOf_ap, itR1_ap, itR2_ap, eLc_ap, isIm_ap, eCall_ap, eCallM_ap, fnOf_ap, isPl_im, isPl_fr, eDspl_ap, sArgs_nil, sArgs_cons, mkD_nil, mkD_cons, keepMu_mu, keepMu_im, projS_nil, projS_cons, hAdd, hSub, hMul, hDiv, hMod, hPow, hNeg, hCmp, hEq, hNe, hIsN, hNotN, hIx, hLen, hInt, hAbs, hGcd, hMin, hMax, hCut, isi_ii, isi_ib, isi_tt, isi_ll, isM_un, isM_im, isM_ow, isM_mu, List.getElem?_cons_zero, List.getElem?_cons_succ, List.getElem?_nil, List.set_cons_zero, List.set_cons_succ, List.length_cons, List.length_nil, List.length_map, List.replicate_succ, List.replicate_zero, List.cons_append, List.nil_append, List.map_cons, List.map_nil, Nat.reduceAdd, Nat.zero_add, ne_eq, not_true_eq_false, not_false_eq_true, decide_false, decide_true, Bool.or_self, Bool.or_false, Bool.false_or, Bool.and_self, Bool.false_eq_true, if_false, if_true, reduceIte, szOk_2, szOk_1, szOk_0, szOk_3, lk_left, lk_seed, lk_cells, lk_spot, pt_left, pt_spot, len_mL, mSet, true_and, and_true, List.getD_eq_getElem?_getD, Option.getD_some, seqOf_l, seqOf_t, ↓hIx_sq, ↓hLen_sq, seqOf_sq, ↓hTuple_sq, fz_fr2, gRep_ap, eq_self, gSorted_ap, gSortD_ap, gSortS_ap, ownSet_pl, eDict1_ap, eChain_ap, gInD_ap, gInS_ap, mPop_ap, mAdd_ap, eSet0_ap, sWhile_ap, itEnumX_ap, eM2_ap, eTR1_ap, eLR1_ap, hLtD, gDGetT_ap, ownDctT_pl, gInT_ap, keyT_t, keysOf_nil, keysOf_cons, eDctT0_ap, view_dT, eDict1T_ap, hIsB, hNotB, sPar3_ap, hCmp_ii, d1, l0, tuD_len, Bool.and_self, Bool.true_and, Bool.and_false, decide_true]
    · have d2 : decide ((0 : Int) < (x : Int)) = true := decide_eq_true (by omega)
      have d3 : decide (x = 0) = false := decide_eq_false c2
      simp only [sNop_ap, row?_ap, eRowM_ap, sRowSub_ap, eRowLen_ap, eRowNil_ap, isUn_un, ixN3_0, ixN3_1, ixN3_2, gRowsD_ap, rowsOf_nil, rowsOf_cons, eMeth_ap, isL_l, isS_s, mAppend_ap, mExtend_ap, ownL_fr, gIn_ap, ownDct_fr, gT_apL, hSorted, hTuple, hList, hRev, hRevX, hEqS, sSeq_ap, sBrk_ap, sCnt_ap, sRet_ap, sRetN_ap, sDrop_ap, sIf_ap, sSet_ap, isMu_ap, sAsg_ap, gN_ap, gT_ap, gTs, sPar_ap, sSub_ap, own?_ap, putO_t, putO_f, sAug_ap, sFor_ap, eC_ap, eVar_ap, ePl_ap, eMv_ap, opS_ap, sNil_ap, sCons_ap, gOp_ap, vws_nil, vws_cons, vw_im, vw_fr, vw_frd, vw_frs, vw_frr, vw_pl, view_l, view_d, view_s, view_r, rs_d, rs_l, sl_im, sl_fr, fz_im, fz_fr, fzs_nil, fzs_cons, toD_l, toD_r, gTupD_ap, gLstD_ap, gIx_ap, gDGet_ap, ownDct_pl, keyOf_i, keyOf_s, gMul_ap, tB_ap, tNot_ap, tAnd_ap, tOr_ap, eNot_ap, eAnd_ap, eOr_ap, eIf_ap, tY_ap, eSl_ap, oN_ap, oI_ap, itOf_ap, itR1_ap, itR2_ap, eLc_ap, isIm_ap, eCall_ap, eCallM_ap, fnOf_ap, isPl_im, isPl_fr, eDspl_ap, sArgs_nil, sArgs_cons, mkD_nil, mkD_cons, keepMu_mu, keepMu_im, projS_nil, projS_cons, hAdd, hSub, hMul, hDiv, hMod, hPow, hNeg, hCmp, hEq, hNe, hIsN, hNotN, hIx, hLen, hInt, hAbs, hGcd, hMin, hMax, hCut, isi_ii, isi_ib, isi_tt, isi_ll, isM_un, isM_im, isM_ow, isM_mu, List.getElem?_cons_zero, List.getElem?_cons_succ, List.getElem?_nil, List.set_cons_zero, List.set_cons_succ, List.length_cons, List.length_nil, List.length_map, List.replicate_succ, List.replicate_zero, List.cons_append, List.nil_append, List.map_cons, List.map_nil, Nat.reduceAdd, Nat.zero_add, ne_eq, not_true_eq_false, not_false_eq_true, decide_false, decide_true, Bool.or_self, Bool.or_false, Bool.false_or, Bool.and_self, Bool.false_eq_true, if_false, if_true, reduceIte, szOk_2, szOk_1, szOk_0, szOk_3, lk_left, lk_seed, lk_cells, lk_spot, pt_left, pt_spot, len_mL, mSet, true_and, and_true, List.getD_eq_getElem?_getD, Option.getD_some, seqOf_l, seqOf_t, ↓hIx_sq, ↓hLen_sq, seqOf_sq, ↓hTuple_sq, fz_fr2, gRep_ap, eq_self, gSorted_ap, gSortD_ap, gSortS_ap, ownSet_pl, eDict1_ap, eChain_ap, gInD_ap, gInS_ap, mPop_ap, mAdd_ap, eSet0_ap, sWhile_ap, itEnumX_ap, eM2_ap, eTR1_ap, eLR1_ap, hLtD, gDGetT_ap, ownDctT_pl, gInT_ap, keyT_t, keysOf_nil, keysOf_cons, eDctT0_ap, view_dT, eDict1T_ap, hIsB, hNotB, sPar3_ap, hCmp_ii, d1, d2, d3, Bool.false_and, Bool.and_false, Bool.true_and]
  · have d1 : decide ((0 : Int) < (h : Int)) = true := decide_eq_true (by omega)
    have d3 : decide (h = 0) = false := decide_eq_false c1
    simp only [sNop_ap, row?_ap, eRowM_ap, sRowSub_ap, eRowLen_ap, eRowNil_ap, isUn_un, ixN3_0, ixN3_1, ixN3_2, gRowsD_ap, rowsOf_nil, rowsOf_cons, eMeth_ap, isL_l, isS_s, mAppend_ap, mExtend_ap, ownL_fr, gIn_ap, ownDct_fr, gT_apL, hSorted, hTuple, hList, hRev, hRevX, hEqS, sSeq_ap, sBrk_ap, sCnt_ap, sRet_ap, sRetN_ap, sDrop_ap, sIf_ap, sSet_ap, isMu_ap, sAsg_ap, gN_ap, gT_ap, gTs, sPar_ap, sSub_ap, own?_ap, putO_t, putO_f, sAug_ap, sFor_ap, eC_ap, eVar_ap, ePl_ap, eMv_ap, opS_ap, sNil_ap, sCons_ap, gOp_ap, vws_nil, vws_cons, vw_im, vw_fr, vw_frd, vw_frs, vw_frr, vw_pl, view_l, view_d, view_s, view_r, rs_d, rs_l, sl_im, sl_fr, fz_im, fz_fr, fzs_nil, fzs_cons, toD_l, toD_r, gTupD_ap, gLstD_ap, gIx_ap, gDGet_ap, ownDct_pl, keyOf_i, keyOf_s, gMul_ap, tB_ap, tNot_ap, tAnd_ap, tOr_ap, eNot_ap, eAnd_ap, eOr_ap, eIf_ap, tY_ap, eSl_ap, oN_ap, oI_ap, itOf_ap, itR1_ap, itR2_ap, eLc_ap, isIm_ap, eCall_ap, eCallM_ap, fnOf_ap, isPl_im, isPl_fr, eDspl_ap, sArgs_nil, sArgs_cons, mkD_nil, mkD_cons, keepMu_mu, keepMu_im, projS_nil, projS_cons, hAdd, hSub, hMul, hDiv, hMod, hPow, hNeg, hCmp, hEq, hNe, hIsN, hNotN, hIx, hLen, hInt, hAbs, hGcd, hMin, hMax, hCut, isi_ii, isi_ib, isi_tt, isi_ll, isM_un, isM_im, isM_ow, isM_mu, List.getElem?_cons_zero, List.getElem?_cons_succ, List.getElem?_nil, List.set_cons_zero, List.set_cons_succ, List.length_cons, List.length_nil, List.length_map, List.replicate_succ, List.replicate_zero, List.cons_append, List.nil_append, List.map_cons, List.map_nil, Nat.reduceAdd, Nat.zero_add, ne_eq, not_true_eq_false, not_false_eq_true, decide_false, decide_true, Bool.or_self, Bool.or_false, Bool.false_or, Bool.and_self, Bool.false_eq_true, if_false, if_true, reduceIte, szOk_2, szOk_1, szOk_0, szOk_3, lk_left, lk_seed, lk_cells, lk_spot, pt_left, pt_spot, len_mL, mSet, true_and, and_true, List.getD_eq_getElem?_getD, Option.getD_some, seqOf_l, seqOf_t, ↓hIx_sq, ↓hLen_sq, seqOf_sq, ↓hTuple_sq, fz_fr2, gRep_ap, eq_self, gSorted_ap, gSortD_ap, gSortS_ap, ownSet_pl, eDict1_ap, eChain_ap, gInD_ap, gInS_ap, mPop_ap, mAdd_ap, eSet0_ap, sWhile_ap, itEnumX_ap, eM2_ap, eTR1_ap, eLR1_ap, hLtD, gDGetT_ap, ownDctT_pl, gInT_ap, keyT_t, keysOf_nil, keysOf_cons, eDctT0_ap, view_dT, eDict1T_ap, hIsB, hNotB, sPar3_ap, hCmp_ii, d1, d3, Bool.false_and]
theorem bdN_no {h x : Nat} {cs : List Nat} {rows : List (List Nat)} (c : ¬ (h = 0 ∧ x = 0)) : bdN h cs rows x = false := by
  unfold bdN
  by_cases z : h = 0
  · rw [decide_eq_false (show ¬ x = 0 by omega)]; simp
  · rw [decide_eq_false z]; simp

/-! ### sides of names -/
theorem sign_eq (r : Rat) : f_sign_of [.im (fr r)] = some (.im (.int (if 0 < r.num then 1 else if r.num < 0 then -1 else 0)), [.un]) := by
  have a0 : ∀ x y : D, atI [x, y] 0 = some x := fun _ _ => rfl
  unfold f_sign_of b_sign_of fr
  by_cases h : 0 < r.num
  · simp only [sNop_ap, row?_ap, eRowM_ap, sRowSub_ap, eRowLen_ap, eRowNil_ap, isUn_un, ixN3_0, ixN3_1, ixN3_2, gRowsD_ap, rowsOf_nil, rowsOf_cons, eMeth_ap, isL_l, isS_s, mAppend_ap, mExtend_ap, ownL_fr, gIn_ap, ownDct_fr, gT_apL, hSorted, hTuple, hList, hRev, hRevX, hEqS, sSeq_ap, sBrk_ap, sCnt_ap, sRet_ap, sRetN_ap, sDrop_ap, sIf_ap, sSet_ap, isMu_ap, sAsg_ap, gN_ap, gT_ap, gTs, sPar_ap, sSub_ap, own?_ap, putO_t, putO_f, sAug_ap, sFor_ap, eC_ap, eVar_ap, ePl_ap, eMv_ap, opS_ap, sNil_ap, sCons_ap, gOp_ap, vws_nil, vws_cons, vw_im, vw_fr, vw_frd, vw_frs, vw_frr, vw_pl, view_l, view_d, view_s, view_r, rs_d, rs_l, sl_im, sl_fr, fz_im, fz_fr, fzs_nil, fzs_cons, toD_l, toD_r, gTupD_ap, gLstD_ap, gIx_ap, gDGet_ap, ownDct_pl, keyOf_i, keyOf_s, gMul_ap, tB_ap, tNot_ap, tAnd_ap, tOr_ap, eNot_ap, eAnd_ap, eOr_ap, eIf_ap, tY_ap, eSl_ap, oN_ap, oI_ap, itOf_ap, itR1_ap, itR2_ap, eLc_ap, isIm_ap, eCall_ap, eCallM_ap, fnOf_ap, isPl_im, isPl_fr, eDspl_ap, sArgs_nil, sArgs_cons, mkD_nil, mkD_cons, keepMu_mu, keepMu_im, projS_nil, projS_cons, hAdd, hSub, hMul, hDiv, hMod, hPow, hNeg, hCmp, hEq, hNe, hIsN, hNotN, hIx, hLen, hInt, hAbs, hGcd, hMin, hMax, hCut, isi_ii, isi_ib, isi_tt, isi_ll, isM_un, isM_im, isM_ow, isM_mu, List.getElem?_cons_zero, List.getElem?_cons_succ, List.getElem?_nil, List.set_cons_zero, List.set_cons_succ, List.length_cons, List.length_nil, List.length_map, List.replicate_succ, List.replicate_zero, List.cons_append, List.nil_append, List.map_cons, List.map_nil, Nat.reduceAdd, Nat.zero_add, ne_eq, not_true_eq_false, not_false_eq_true, decide_false, decide_true, Bool.or_self, Bool.or_false, Bool.false_or, Bool.and_self, Bool.false_eq_true, if_false, if_true, reduceIte, szOk_2, szOk_1, szOk_0, szOk_3, lk_left, lk_seed, lk_cells, lk_spot, pt_left, pt_spot, len_mL, mSet, true_and, and_true, List.getD_eq_getElem?_getD, Option.getD_some, seqOf_l, seqOf_t, ↓hIx_sq, ↓hLen_sq, seqOf_sq, ↓hTuple_sq, fz_fr2, gRep_ap, eq_self, gSorted_ap, gSortD_ap, gSortS_ap, ownSet_pl, eDict1_ap, eChain_ap, gInD_ap, gInS_ap, mPop_ap, mAdd_ap, eSet0_ap, sWhile_ap, itEnumX_ap, eM2_ap, eTR1_ap, eLR1_ap, hLtD, gDGetT_ap, ownDctT_pl, gInT_ap, keyT_t, keysOf_nil, keysOf_cons, eDctT0_ap, view_dT, eDict1T_ap, hIsB, hNotB, sPar3_ap, a0, hCmp_ii, h]
  · by_cases h2 : r.num < 0
    · simp only [sNop_ap, row?_ap, eRowM_ap, sRowSub_ap, eRowLen_ap, eRowNil_ap, isUn_un, ixN3_0, ixN3_1, ixN3_2, gRowsD_ap, rowsOf_nil, rowsOf_cons, eMeth_ap, isL_l, isS_s, mAppend_ap, mExtend_ap, ownL_fr, gIn_ap, ownDct_fr, gT_apL, hSorted, hTuple, hList, hRev, hRevX, hEqS, sSeq_ap, sBrk_ap, sCnt_ap, sRet_ap, sRetN_ap, sDrop_ap, sIf_ap, sSet_ap, isMu_ap, sAsg_ap, gN_ap, gT_ap, gTs, sPar_ap, sSub_ap, own?_ap, putO_t, putO_f, sAug_ap, sFor_ap, eC_ap, eVar_ap, ePl_ap, eMv_ap, opS_ap, sNil_ap, sCons_ap, gOp_ap, vws_nil, vws_cons, vw_im, vw_fr, vw_frd, vw_frs, vw_frr, vw_pl, view_l, view_d, view_s, view_r, rs_d, rs_l, sl_im, sl_fr, fz_im, fz_fr, fzs_nil, fzs_cons, toD_l, toD_r, gTupD_ap, gLstD_ap, gIx_ap, gDGet_ap, ownDct_pl, keyOf_i, keyOf_s, gMul_ap, tB_ap, tNot_ap, tAnd_ap, tOr_ap, eNot_ap, eAnd_ap, eOr_ap, eIf_ap, tY_ap, eSl_ap, oN_ap, oI_ap, itOf_ap, itR1_ap, itR2_ap, eLc_ap, isIm_ap, eCall_ap, eCallM_ap, fnOf_ap, isPl_im, isPl_fr, eDspl_ap, sArgs_nil, sArgs_cons, mkD_nil, mkD_cons, keepMu_mu, keepMu_im, projS_nil, projS_cons, hAdd, hSub, hMul, hDiv, hMod, hPow, hNeg, hCmp, hEq, hNe, hIsN, hNotN, hIx, hLen, hInt, hAbs, hGcd, hMin, hMax, hCut, isi_ii, isi_ib, isi_tt, isi_ll, isM_un, isM_im, isM_ow, isM_mu, List.getElem?_cons_zero, List.getElem?_cons_succ, List.getElem?_nil, List.set_cons_zero, List.set_cons_succ, List.length_cons, List.length_nil, List.length_map, List.replicate_succ, List.replicate_zero, List.cons_append, List.nil_append, List.map_cons, List.map_nil, Nat.reduceAdd, Nat.zero_add, ne_eq, not_true_eq_false, not_false_eq_true, decide_false, decide_true, Bool.or_self, Bool.or_false, Bool.false_or, Bool.and_self, Bool.false_eq_true, if_false, if_true, reduceIte, szOk_2, szOk_1, szOk_0, szOk_3, lk_left, lk_seed, lk_cells, lk_spot, pt_left, pt_spot, len_mL, mSet, true_and, and_true, List.getD_eq_getElem?_getD, Option.getD_some, seqOf_l, seqOf_t, ↓hIx_sq, ↓hLen_sq, seqOf_sq, ↓hTuple_sq, fz_fr2, gRep_ap, eq_self, gSorted_ap, gSortD_ap, gSortS_ap, ownSet_pl, eDict1_ap, eChain_ap, gInD_ap, gInS_ap, mPop_ap, mAdd_ap, eSet0_ap, sWhile_ap, itEnumX_ap, eM2_ap, eTR1_ap, eLR1_ap, hLtD, gDGetT_ap, ownDctT_pl, gInT_ap, keyT_t, keysOf_nil, keysOf_cons, eDctT0_ap, view_dT, eDict1T_ap, hIsB, hNotB, sPar3_ap, a0, hCmp_ii, h, h2]
    · simp only [sNop_ap, row?_ap, eRowM_ap, sRowSub_ap, eRowLen_ap, eRowNil_ap, isUn_un, ixN3_0, ixN3_1, ixN3_2, gRowsD_ap, rowsOf_nil, rowsOf_cons, eMeth_ap, isL_l, isS_s, mAppend_ap, mExtend_ap, ownL_fr, gIn_ap, ownDct_fr, gT_apL, hSorted, hTuple, hList, hRev, hRevX, hEqS, sSeq_ap, sBrk_ap, sCnt_ap, sRet_ap, sRetN_ap, sDrop_ap, sIf_ap, sSet_ap, isMu_ap, sAsg_ap, gN_ap, gT_ap, gTs, sPar_ap, sSub_ap, own?_ap, putO_t, putO_f, sAug_ap, sFor_ap, eC_ap, eVar_ap, ePl_ap, eMv_ap, opS_ap, sNil_ap, sCons_ap, gOp_ap, vws_nil, vws_cons, vw_im, vw_fr, vw_frd, vw_frs, vw_frr, vw_pl, view_l, view_d, view_s, view_r, rs_d, rs_l, sl_im, sl_fr, fz_im, fz_fr, fzs_nil, fzs_cons, toD_l, toD_r, gTupD_ap, gLstD_ap, gIx_ap, gDGet_ap, ownDct_pl, keyOf_i, keyOf_s, gMul_ap, tB_ap, tNot_ap, tAnd_ap, tOr_ap, eNot_ap, eAnd_ap, eOr_ap, eIf_ap, tY_ap, eSl_ap, oN_ap, oI_ap, itOf_ap, itR1_ap, itR2_ap, eLc_ap, isIm_ap, eCall_ap, eCallM_ap, fnOf_ap, isPl_im, isPl_fr, eDspl_ap, sArgs_nil, sArgs_cons, mkD_nil, mkD_cons, keepMu_mu, keepMu_im, projS_nil, projS_cons, hAdd, hSub, hMul, hDiv, hMod, hPow, hNeg, hCmp, hEq, hNe, hIsN, hNotN, hIx, hLen, hInt, hAbs, hGcd, hMin, hMax, hCut, isi_ii, isi_ib, isi_tt, isi_ll, isM_un, isM_im, isM_ow, isM_mu, List.getElem?_cons_zero, List.getElem?_cons_succ, List.getElem?_nil, List.set_cons_zero, List.set_cons_succ, List.length_cons, List.length_nil, List.length_map, List.replicate_succ, List.replicate_zero, List.cons_append, List.nil_append, List.map_cons, List.map_nil, Nat.reduceAdd, Nat.zero_add, ne_eq, not_true_eq_false, not_false_eq_true, decide_false, decide_true, Bool.or_self, Bool.or_false, Bool.false_or, Bool.and_self, Bool.false_eq_true, if_false, if_true, reduceIte, szOk_2, szOk_1, szOk_0, szOk_3, lk_left, lk_seed, lk_cells, lk_spot, pt_left, pt_spot, len_mL, mSet, true_and, and_true, List.getD_eq_getElem?_getD, Option.getD_some, seqOf_l, seqOf_t, ↓hIx_sq, ↓hLen_sq, seqOf_sq, ↓hTuple_sq, fz_fr2, gRep_ap, eq_self, gSorted_ap, gSortD_ap, gSortS_ap, ownSet_pl, eDict1_ap, eChain_ap, gInD_ap, gInS_ap, mPop_ap, mAdd_ap, eSet0_ap, sWhile_ap, itEnumX_ap, eM2_ap, eTR1_ap, eLR1_ap, hLtD, gDGetT_ap, ownDctT_pl, gInT_ap, keyT_t, keysOf_nil, keysOf_cons, eDctT0_ap, view_dT, eDict1T_ap, hIsB, hNotB, sPar3_ap, a0, hCmp_ii, h, h2]
def sd (r : Rat) : Str := if 0 < r.num then "ball" else if r.num < 0 then "saddle" else "plane"
section
variable {h x : Nat} {cs : List Nat} {rows : List (List Nat)}
theorem side_eq (o : NmOk h cs rows x) : f_side_of [.im (nmD h cs rows x)] = some (.im (.str (if bdN h cs rows x = true then "bad" else sd (tot h cs rows x))), [.un]) := by
  have e1 := is_bad_eq h cs rows x
  have e2 := name_sum_eq o
  have e3 := sign_eq (tot h cs rows x)
  unfold f_side_of b_side_of
  generalize nmD h cs rows x = N at *
  generalize bdN h cs rows x = b at *
  generalize tot h cs rows x = r at *
  cases b with
  | true =>
    simp only [↓e1, sNop_ap, row?_ap, eRowM_ap, sRowSub_ap, eRowLen_ap, eRowNil_ap, isUn_un, ixN3_0, ixN3_1, ixN3_2, gRowsD_ap, rowsOf_nil, rowsOf_cons, eMeth_ap, isL_l, isS_s, mAppend_ap, mExtend_ap, ownL_fr, gIn_ap, ownDct_fr, gT_apL, hSorted, hTuple, hList, hRev, hRevX, hEqS, sSeq_ap, sBrk_ap, sCnt_ap, sRet_ap, sRetN_ap, sDrop_ap, sIf_ap, sSet_ap, isMu_ap, sAsg_ap, gN_ap, gT_ap, gTs, sPar_ap, sSub_ap, own?_ap, putO_t, putO_f, sAug_ap, sFor_ap, eC_ap, eVar_ap, ePl_ap, eMv_ap, opS_ap, sNil_ap, sCons_ap, gOp_ap, vws_nil, vws_cons, vw_im, vw_fr, vw_frd, vw_frs, vw_frr, vw_pl, view_l, view_d, view_s, view_r, rs_d, rs_l, sl_im, sl_fr, fz_im, fz_fr, fzs_nil, fzs_cons, toD_l, toD_r, gTupD_ap, gLstD_ap, gIx_ap, gDGet_ap, ownDct_pl, keyOf_i, keyOf_s, gMul_ap, tB_ap, tNot_ap, tAnd_ap, tOr_ap, eNot_ap, eAnd_ap, eOr_ap, eIf_ap, tY_ap, eSl_ap, oN_ap, oI_ap, itOf_ap, itR1_ap, itR2_ap, eLc_ap, isIm_ap, eCall_ap, eCallM_ap, fnOf_ap, isPl_im, isPl_fr, eDspl_ap, sArgs_nil, sArgs_cons, mkD_nil, mkD_cons, keepMu_mu, keepMu_im, projS_nil, projS_cons, hAdd, hSub, hMul, hDiv, hMod, hPow, hNeg, hCmp, hEq, hNe, hIsN, hNotN, hIx, hLen, hInt, hAbs, hGcd, hMin, hMax, hCut, isi_ii, isi_ib, isi_tt, isi_ll, isM_un, isM_im, isM_ow, isM_mu, List.getElem?_cons_zero, List.getElem?_cons_succ, List.getElem?_nil, List.set_cons_zero, List.set_cons_succ, List.length_cons, List.length_nil, List.length_map, List.replicate_succ, List.replicate_zero, List.cons_append, List.nil_append, List.map_cons, List.map_nil, Nat.reduceAdd, Nat.zero_add, ne_eq, not_true_eq_false, not_false_eq_true, decide_false, decide_true, Bool.or_self, Bool.or_false, Bool.false_or, Bool.and_self, Bool.false_eq_true, if_false, if_true, reduceIte, szOk_2, szOk_1, szOk_0, szOk_3, lk_left, lk_seed, lk_cells, lk_spot, pt_left, pt_spot, len_mL, mSet, true_and, and_true, List.getD_eq_getElem?_getD, Option.getD_some, seqOf_l, seqOf_t, ↓hIx_sq, ↓hLen_sq, seqOf_sq, ↓hTuple_sq, fz_fr2, gRep_ap, eq_self, gSorted_ap, gSortD_ap, gSortS_ap, ownSet_pl, eDict1_ap, eChain_ap, gInD_ap, gInS_ap, mPop_ap, mAdd_ap, eSet0_ap, sWhile_ap, itEnumX_ap, eM2_ap, eTR1_ap, eLR1_ap, hLtD, gDGetT_ap, ownDctT_pl, gInT_ap, keyT_t, keysOf_nil, keysOf_cons, eDctT0_ap, view_dT, eDict1T_ap, hIsB, hNotB, sPar3_ap]
  | false =>
    have a0 : atI [PyData.str "saddle", .str "plane", .str "ball"] 0 = some (.str "saddle") := rfl
    have a1 : atI [PyData.str "saddle", .str "plane", .str "ball"] 1 = some (.str "plane") := rfl
    have a2 : atI [PyData.str "saddle", .str "plane", .str "ball"] 2 = some (.str "ball") := rfl
    unfold sd
    by_cases c : 0 < r.num
    · have z : (1 : Int) + 1 = 2 := rfl
      rw [if_pos c] at e3
      simp only [↓e1, ↓e2, ↓e3, sNop_ap, row?_ap, eRowM_ap, sRowSub_ap, eRowLen_ap, eRowNil_ap, isUn_un, ixN3_0, ixN3_1, ixN3_2, gRowsD_ap, rowsOf_nil, rowsOf_cons, eMeth_ap, isL_l, isS_s, mAppend_ap, mExtend_ap, ownL_fr, gIn_ap, ownDct_fr, gT_apL, hSorted, hTuple, hList, hRev, hRevX, hEqS, sSeq_ap, sBrk_ap, sCnt_ap, sRet_ap, sRetN_ap, sDrop_ap, sIf_ap, sSet_ap, isMu_ap, sAsg_ap, gN_ap, gT_ap, gTs, sPar_ap, sSub_ap, own?_ap, putO_t, putO_f, sAug_ap, sFor_ap, eC_ap, eVar_ap, ePl_ap, eMv_ap, opS_ap, sNil_ap, sCons_ap, gOp_ap, vws_nil, vws_cons, vw_im, vw_fr, vw_frd, vw_frs, vw_frr, vw_pl, view_l, view_d, view_s, view_r, rs_d, rs_l, sl_im, sl_fr, fz_im, fz_fr, fzs_nil, fzs_cons, toD_l, toD_r, gTupD_ap, gLstD_ap, gIx_ap, gDGet_ap, ownDct_pl, keyOf_i, keyOf_s, gMul_ap, tB_ap, tNot_ap, tAnd_ap, tOr_ap, eNot_ap, eAnd_ap, eOr_ap, eIf_ap, tY_ap, eSl_ap, oN_ap, oI_ap, itOf_ap, itR1_ap, itR2_ap, eLc_ap, isIm_ap, eCall_ap, eCallM_ap, fnOf_ap, isPl_im, isPl_fr, eDspl_ap, sArgs_nil, sArgs_cons, mkD_nil, mkD_cons, keepMu_mu, keepMu_im, projS_nil, projS_cons, hAdd, hSub, hMul, hDiv, hMod, hPow, hNeg, hCmp, hEq, hNe, hIsN, hNotN, hIx, hLen, hInt, hAbs, hGcd, hMin, hMax, hCut, isi_ii, isi_ib, isi_tt, isi_ll, isM_un, isM_im, isM_ow, isM_mu, List.getElem?_cons_zero, List.getElem?_cons_succ, List.getElem?_nil, List.set_cons_zero, List.set_cons_succ, List.length_cons, List.length_nil, List.length_map, List.replicate_succ, List.replicate_zero, List.cons_append, List.nil_append, List.map_cons, List.map_nil, Nat.reduceAdd, Nat.zero_add, ne_eq, not_true_eq_false, not_false_eq_true, decide_false, decide_true, Bool.or_self, Bool.or_false, Bool.false_or, Bool.and_self, Bool.false_eq_true, if_false, if_true, reduceIte, szOk_2, szOk_1, szOk_0, szOk_3, lk_left, lk_seed, lk_cells, lk_spot, pt_left, pt_spot, len_mL, mSet, true_and, and_true, List.getD_eq_getElem?_getD, Option.getD_some, seqOf_l, seqOf_t, ↓hIx_sq, ↓hLen_sq, seqOf_sq, ↓hTuple_sq, fz_fr2, gRep_ap, eq_self, gSorted_ap, gSortD_ap, gSortS_ap, ownSet_pl, eDict1_ap, eChain_ap, gInD_ap, gInS_ap, mPop_ap, mAdd_ap, eSet0_ap, sWhile_ap, itEnumX_ap, eM2_ap, eTR1_ap, eLR1_ap, hLtD, gDGetT_ap, ownDctT_pl, gInT_ap, keyT_t, keysOf_nil, keysOf_cons, eDctT0_ap, view_dT, eDict1T_ap, hIsB, hNotB, sPar3_ap, c, z, a2]
    · rw [if_neg c] at e3
      by_cases c2 : r.num < 0
      · have z : (-1 : Int) + 1 = 0 := rfl
        rw [if_pos c2] at e3
        simp only [↓e1, ↓e2, ↓e3, sNop_ap, row?_ap, eRowM_ap, sRowSub_ap, eRowLen_ap, eRowNil_ap, isUn_un, ixN3_0, ixN3_1, ixN3_2, gRowsD_ap, rowsOf_nil, rowsOf_cons, eMeth_ap, isL_l, isS_s, mAppend_ap, mExtend_ap, ownL_fr, gIn_ap, ownDct_fr, gT_apL, hSorted, hTuple, hList, hRev, hRevX, hEqS, sSeq_ap, sBrk_ap, sCnt_ap, sRet_ap, sRetN_ap, sDrop_ap, sIf_ap, sSet_ap, isMu_ap, sAsg_ap, gN_ap, gT_ap, gTs, sPar_ap, sSub_ap, own?_ap, putO_t, putO_f, sAug_ap, sFor_ap, eC_ap, eVar_ap, ePl_ap, eMv_ap, opS_ap, sNil_ap, sCons_ap, gOp_ap, vws_nil, vws_cons, vw_im, vw_fr, vw_frd, vw_frs, vw_frr, vw_pl, view_l, view_d, view_s, view_r, rs_d, rs_l, sl_im, sl_fr, fz_im, fz_fr, fzs_nil, fzs_cons, toD_l, toD_r, gTupD_ap, gLstD_ap, gIx_ap, gDGet_ap, ownDct_pl, keyOf_i, keyOf_s, gMul_ap, tB_ap, tNot_ap, tAnd_ap, tOr_ap, eNot_ap, eAnd_ap, eOr_ap, eIf_ap, tY_ap, eSl_ap, oN_ap, oI_ap, itOf_ap, itR1_ap, itR2_ap, eLc_ap, isIm_ap, eCall_ap, eCallM_ap, fnOf_ap, isPl_im, isPl_fr, eDspl_ap, sArgs_nil, sArgs_cons, mkD_nil, mkD_cons, keepMu_mu, keepMu_im, projS_nil, projS_cons, hAdd, hSub, hMul, hDiv, hMod, hPow, hNeg, hCmp, hEq, hNe, hIsN, hNotN, hIx, hLen, hInt, hAbs, hGcd, hMin, hMax, hCut, isi_ii, isi_ib, isi_tt, isi_ll, isM_un, isM_im, isM_ow, isM_mu, List.getElem?_cons_zero, List.getElem?_cons_succ, List.getElem?_nil, List.set_cons_zero, List.set_cons_succ, List.length_cons, List.length_nil, List.length_map, List.replicate_succ, List.replicate_zero, List.cons_append, List.nil_append, List.map_cons, List.map_nil, Nat.reduceAdd, Nat.zero_add, ne_eq, not_true_eq_false, not_false_eq_true, decide_false, decide_true, Bool.or_self, Bool.or_false, Bool.false_or, Bool.and_self, Bool.false_eq_true, if_false, if_true, reduceIte, szOk_2, szOk_1, szOk_0, szOk_3, lk_left, lk_seed, lk_cells, lk_spot, pt_left, pt_spot, len_mL, mSet, true_and, and_true, List.getD_eq_getElem?_getD, Option.getD_some, seqOf_l, seqOf_t, ↓hIx_sq, ↓hLen_sq, seqOf_sq, ↓hTuple_sq, fz_fr2, gRep_ap, eq_self, gSorted_ap, gSortD_ap, gSortS_ap, ownSet_pl, eDict1_ap, eChain_ap, gInD_ap, gInS_ap, mPop_ap, mAdd_ap, eSet0_ap, sWhile_ap, itEnumX_ap, eM2_ap, eTR1_ap, eLR1_ap, hLtD, gDGetT_ap, ownDctT_pl, gInT_ap, keyT_t, keysOf_nil, keysOf_cons, eDctT0_ap, view_dT, eDict1T_ap, hIsB, hNotB, sPar3_ap, c, c2, z, a0]
      · have z : (0 : Int) + 1 = 1 := rfl
        rw [if_neg c2] at e3
        simp only [↓e1, ↓e2, ↓e3, sNop_ap, row?_ap, eRowM_ap, sRowSub_ap, eRowLen_ap, eRowNil_ap, isUn_un, ixN3_0, ixN3_1, ixN3_2, gRowsD_ap, rowsOf_nil, rowsOf_cons, eMeth_ap, isL_l, isS_s, mAppend_ap, mExtend_ap, ownL_fr, gIn_ap, ownDct_fr, gT_apL, hSorted, hTuple, hList, hRev, hRevX, hEqS, sSeq_ap, sBrk_ap, sCnt_ap, sRet_ap, sRetN_ap, sDrop_ap, sIf_ap, sSet_ap, isMu_ap, sAsg_ap, gN_ap, gT_ap, gTs, sPar_ap, sSub_ap, own?_ap, putO_t, putO_f, sAug_ap, sFor_ap, eC_ap, eVar_ap, ePl_ap, eMv_ap, opS_ap, sNil_ap, sCons_ap, gOp_ap, vws_nil, vws_cons, vw_im, vw_fr, vw_frd, vw_frs, vw_frr, vw_pl, view_l, view_d, view_s, view_r, rs_d, rs_l, sl_im, sl_fr, fz_im, fz_fr, fzs_nil, fzs_cons, toD_l, toD_r, gTupD_ap, gLstD_ap, gIx_ap, gDGet_ap, ownDct_pl, keyOf_i, keyOf_s, gMul_ap, tB_ap, tNot_ap, tAnd_ap, tOr_ap, eNot_ap, eAnd_ap, eOr_ap, eIf_ap, tY_ap, eSl_ap, oN_ap, oI_ap, itOf_ap, itR1_ap, itR2_ap, eLc_ap, isIm_ap, eCall_ap, eCallM_ap, fnOf_ap, isPl_im, isPl_fr, eDspl_ap, sArgs_nil, sArgs_cons, mkD_nil, mkD_cons, keepMu_mu, keepMu_im, projS_nil, projS_cons, hAdd, hSub, hMul, hDiv, hMod, hPow, hNeg, hCmp, hEq, hNe, hIsN, hNotN, hIx, hLen, hInt, hAbs, hGcd, hMin, hMax, hCut, isi_ii, isi_ib, isi_tt, isi_ll, isM_un, isM_im, isM_ow, isM_mu, List.getElem?_cons_zero, List.getElem?_cons_succ, List.getElem?_nil, List.set_cons_zero, List.set_cons_succ, List.length_cons, List.length_nil, List.length_map, List.replicate_succ, List.replicate_zero, List.cons_append, List.nil_append, List.map_cons, List.map_nil, Nat.reduceAdd, Nat.zero_add, ne_eq, not_true_eq_false, not_false_eq_true, decide_false, decide_true, Bool.or_self, Bool.or_false, Bool.false_or, Bool.and_self, Bool.false_eq_true, if_false, if_true, reduceIte, szOk_2, szOk_1, szOk_0, szOk_3, lk_left, lk_seed, lk_cells, lk_spot, pt_left, pt_spot, len_mL, mSet, true_and, and_true, List.getD_eq_getElem?_getD, Option.getD_some, seqOf_l, seqOf_t, ↓hIx_sq, ↓hLen_sq, seqOf_sq, ↓hTuple_sq, fz_fr2, gRep_ap, eq_self, gSorted_ap, gSortD_ap, gSortS_ap, ownSet_pl, eDict1_ap, eChain_ap, gInD_ap, gInS_ap, mPop_ap, mAdd_ap, eSet0_ap, sWhile_ap, itEnumX_ap, eM2_ap, eTR1_ap, eLR1_ap, hLtD, gDGetT_ap, ownDctT_pl, gInT_ap, keyT_t, keysOf_nil, keysOf_cons, eDctT0_ap, view_dT, eDict1T_ap, hIsB, hNotB, sPar3_ap, c, c2, z, a1]
theorem rk_fr {k C : Nat} {r : Rat} (b : Bd k C r) (hk : k ≤ 500) (hC : C ≤ 10000) : rk (fr r) = true := by
  have h1 : r.den < 2 ^ 1900 := Nat.lt_of_le_of_lt b.d (Nat.lt_of_le_of_lt (Nat.pow_le_pow_right (by decide) hk) (by decide))
  have h2 : r.num.natAbs < 2 ^ 1900 := by
    refine Nat.lt_of_le_of_lt (Nat.le_trans b.n (Nat.mul_le_mul hC (Nat.le_trans b.d (Nat.pow_le_pow_right (by decide) hk)))) (by decide)
  have l1 := small_lt (i := (r.den : Nat)) (k := 1900) (by rw [Int.natAbs_natCast]; exact h1) (by decide)
  have l2 := small_lt (k := 1900) h2 (by decide)
  rw [Int.natAbs_natCast] at l1
  unfold fr
  simp only [rk, rkA, Int.natAbs_natCast, Bool.and_true]
  rw [decide_eq_true (by omega), decide_eq_true (by omega)]
  rfl
end

/-! ### numbers of symmetries -/
def iv (t : Nat) : Rat := 1 / (t : Rat)
theorem iv_mul {t : Nat} (h : 0 < t) : (t : Rat) * iv t = 1 := by
  have h1 : (0 : Rat) < (t : Rat) := by exact_mod_cast h
  unfold iv
  rw [Rat.div_def, Rat.one_mul]
  exact Rat.mul_inv_cancel _ (by grind)
theorem iv_pos {t : Nat} (h : 0 < t) : 0 < iv t := by
  have h1 : (0 : Rat) < (t : Rat) := by exact_mod_cast h
  unfold iv
  rw [Rat.div_def, Rat.one_mul]
  exact Rat.inv_pos.mpr h1
theorem iv_le {a b : Nat} (ha : 0 < a) (h : a ≤ b) : iv b ≤ iv a := by
  have h2 : (a : Rat) ≤ (b : Rat) := by exact_mod_cast h
  have e1 := iv_mul ha
  have e2 := iv_mul (show 0 < b by omega)
  have p := Rat.mul_pos (iv_pos ha) (iv_pos (show 0 < b by omega))
  have k : 0 ≤ ((b : Rat) - a) * (iv a * iv b) := Rat.mul_nonneg (by grind) (by grind)
  have e3 : ((b : Rat) - a) * (iv a * iv b) = iv a - iv b := by grind
  grind
theorem iv_2 : iv 2 = 1 / 2 := by decide +kernel
theorem iv_3 : iv 3 = 1 / 3 := by decide +kernel
theorem iv_4 : iv 4 = 1 / 4 := by decide +kernel
theorem iv_5 : iv 5 = 1 / 5 := by decide +kernel
theorem iv_6 : iv 6 = 1 / 6 := by decide +kernel
def sw : List Nat → Rat
  | [] => 0
  | t :: l => (1 - iv t) + sw l
theorem sw_ap : ∀ l m : List Nat, sw (l ++ m) = sw l + sw m
  | [], m => by show sw m = 0 + sw m; grind
  | t :: l, m => by
    show (1 - iv t) + sw (l ++ m) = (1 - iv t) + sw l + sw m
    rw [sw_ap l m]
    grind
theorem sw_perm {l m : List Nat} (p : l.Perm m) : sw l = sw m := by
  induction p with
  | nil => rfl
  | cons x _ ih => show (1 - iv x) + _ = (1 - iv x) + _; rw [ih]
  | swap x y l => show (1 - iv y) + ((1 - iv x) + sw l) = (1 - iv x) + ((1 - iv y) + sw l); grind
  | trans _ _ h1 h2 => exact h1.trans h2
theorem sw_half : ∀ {l : List Nat}, (∀ t ∈ l, 2 ≤ t) → (l.length : Rat) / 2 ≤ sw l
  | [], _ => by decide +kernel
  | t :: l, h => by
    have ih := sw_half (l := l) fun s hs => h s (List.mem_cons_of_mem _ hs)
    have h1 := iv_le (a := 2) (by decide) (h t List.mem_cons_self)
    rw [iv_2] at h1
    have e : (((t :: l).length : Nat) : Rat) = (l.length : Rat) + 1 := by rw [List.length_cons]; exact_mod_cast rfl
    rw [e]
    show _ ≤ (1 - iv t) + sw l
    grind
theorem sw_ge {l : List Nat} (h : ∀ t ∈ l, 2 ≤ t) {n : Nat} (hn : n ≤ l.length) : (n : Rat) / 2 ≤ sw l := by
  have h1 := sw_half h
  have h2 : (n : Rat) ≤ (l.length : Rat) := by exact_mod_cast hn
  grind
theorem mk_C {t : Nat} (h : 1 ≤ t) : mkRat (uC t) t = 2 - 2 * iv t := by
  have e := iv_mul (show 0 < t by omega)
  rw [Rat.mkRat_eq_div]
  have e2 : ((uC t : Int) : Rat) = 2 * (t : Rat) - 2 := by
    unfold uC
    rw [Rat.intCast_sub, Rat.intCast_mul]
    rfl
  have e3 : ((uC t : Int) : Rat) / (t : Rat) = ((uC t : Int) : Rat) * iv t := by
    unfold iv
    rw [Rat.div_def, Rat.div_def, Rat.one_mul]
  rw [e3, e2]
  grind
theorem mk_B {t : Nat} (h : 1 ≤ t) : mkRat (uB t) t = 1 - iv t := by
  have e := iv_mul (show 0 < t by omega)
  rw [Rat.mkRat_eq_div]
  have e2 : ((uB t : Int) : Rat) = (t : Rat) - 1 := by
    unfold uB
    rw [Rat.intCast_sub]
    rfl
  have e3 : ((uB t : Int) : Rat) / (t : Rat) = ((uB t : Int) : Rat) * iv t := by
    unfold iv
    rw [Rat.div_def, Rat.div_def, Rat.one_mul]
  rw [e3, e2]
  grind
theorem fold_C : ∀ {l : List Nat} (r : Rat), (∀ t ∈ l, 1 ≤ t) → foldS uC l r = r - 2 * sw l
  | [], r, _ => by show r = r - 2 * 0; grind
  | t :: l, r, h => by
    show foldS uC l (r - mkRat (uC t) t) = r - 2 * ((1 - iv t) + sw l)
    rw [fold_C _ fun s hs => h s (List.mem_cons_of_mem _ hs), mk_C (h t List.mem_cons_self)]
    grind
theorem fold_B : ∀ {l : List Nat} (r : Rat), (∀ t ∈ l, 1 ≤ t) → foldS uB l r = r - sw l
  | [], r, _ => by show r = r - 0; grind
  | t :: l, r, h => by
    show foldS uB l (r - mkRat (uB t) t) = r - ((1 - iv t) + sw l)
    rw [fold_B _ fun s hs => h s (List.mem_cons_of_mem _ hs), mk_B (h t List.mem_cons_self)]
    grind
theorem bas_eq (h n x : Nat) : bas h n x = 4 - 4 * (h : Rat) - 2 * (x : Rat) - 2 * (n : Rat) := by
  unfold bas
  rw [Rat.mkRat_eq_div]
  simp only [Rat.intCast_sub, Rat.intCast_mul]
  show (4 - 4 * (h : Rat) - 2 * (x : Rat) - 2 * (n : Rat)) / 1 = _
  grind
theorem tot_eq {h x : Nat} {cs : List Nat} {rows : List (List Nat)} (hc : ∀ t ∈ cs, 1 ≤ t) (hr : ∀ R ∈ rows, ∀ t ∈ R, 1 ≤ t) : tot h cs rows x = 4 - 4 * (h : Rat) - 2 * (x : Rat) - 2 * (rows.length : Rat) - 2 * sw cs - sw rows.flatten := by
  unfold tot
  rw [fold_B _ fun t ht => by
    obtain ⟨R, hR, h2⟩ := List.mem_flatten.mp ht
    exact hr R hR t h2, fold_C _ hc, bas_eq]
/-! turns alone -/
def tc : List Nat → Nat
  | [] => 1
  | [_] => 0
  | [a, b] => if a = b then a else 0
  | [a, b, c] => if 2 < a then 0 else if b = 2 then 2 * c else if 3 < b ∨ 5 < c then 0 else if c = 3 then 12 else if c = 4 then 24 else 60
  | _ => 0
theorem n2r {a b : Nat} (h : a ≤ b) : (a : Rat) ≤ (b : Rat) := by exact_mod_cast h
theorem tc_spec : ∀ {l : List Nat}, l.Pairwise (· ≤ ·) → (∀ t ∈ l, 2 ≤ t) → (0 < tc l ↔ 0 < 2 - sw l ∧ e2 l = false) ∧ (0 < tc l → (tc l : Rat) * (2 - sw l) = 2)
  | [], _, _ => ⟨⟨fun _ => ⟨by decide +kernel, rfl⟩, fun _ => by decide⟩, fun _ => by decide +kernel⟩
  | [a], _, _ => ⟨⟨fun h => absurd h (by simp [tc]), fun h => absurd h.2 (by simp [e2])⟩, fun h => absurd h (by simp [tc])⟩
  | [a, b], _, h2 => by
    have ha := h2 a (by simp)
    by_cases c : a = b
    · subst c
      have e : sw [a, a] = 2 - 2 * iv a := by show (1 - iv a) + ((1 - iv a) + 0) = _; grind
      have t : tc [a, a] = a := by simp [tc]
      have p := iv_pos (show 0 < a by omega)
      have m := iv_mul (show 0 < a by omega)
      rw [t, e]
      refine ⟨⟨fun _ => ⟨by grind, by simp [e2]⟩, fun _ => by omega⟩, fun _ => by grind⟩
    · have t : tc [a, b] = 0 := by simp [tc, c]
      rw [t]
      exact ⟨⟨fun h => absurd h (by decide), fun h => absurd h.2 (by simp [e2, c])⟩, fun h => absurd h (by decide)⟩
  | [a, b, c], so, h2 => by
    have ha := h2 a (by simp)
    have hab : a ≤ b := (List.pairwise_cons.mp so).1 b (by simp)
    have hbc : b ≤ c := (List.pairwise_cons.mp (List.pairwise_cons.mp so).2).1 c (by simp)
    have e : sw [a, b, c] = 3 - iv a - iv b - iv c := by show (1 - iv a) + ((1 - iv b) + ((1 - iv c) + 0)) = _; grind
    have b0 : e2 [a, b, c] = false := by simp [e2]
    have pc := iv_pos (show 0 < c by omega)
    have mc := iv_mul (show 0 < c by omega)
    rw [e, b0]
    by_cases c1 : 2 < a
    · have t : tc [a, b, c] = 0 := by simp only [tc, if_pos c1]
      have i1 := iv_le (a := 3) (b := a) (by decide) (by omega)
      have i2 := iv_le (a := 3) (b := b) (by decide) (by omega)
      have i3 := iv_le (a := 3) (b := c) (by decide) (by omega)
      rw [iv_3] at i1 i2 i3
      rw [t]
      exact ⟨⟨fun h => absurd h (by decide), fun h => by grind⟩, fun h => absurd h (by decide)⟩
    · have a2 : a = 2 := by omega
      subst a2
      rw [iv_2]
      by_cases c2 : b = 2
      · subst c2
        have t : tc [2, 2, c] = 2 * c := by simp [tc]
        have ct : ((2 * c : Nat) : Rat) = 2 * (c : Rat) := by exact_mod_cast rfl
        rw [t, ct, iv_2]
        exact ⟨⟨fun _ => ⟨by grind, rfl⟩, fun _ => by omega⟩, fun _ => by grind⟩
      · by_cases c3 : 3 < b ∨ 5 < c
        · have t : tc [2, b, c] = 0 := by simp only [tc, if_neg c1, if_neg c2, if_pos c3]
          rw [t]
          refine ⟨⟨fun h => absurd h (by decide), fun h => ?_⟩, fun h => absurd h (by decide)⟩
          rcases c3 with c3 | c3
          · have i2 := iv_le (a := 4) (b := b) (by decide) (by omega)
            have i3 := iv_le (a := 4) (b := c) (by decide) (by omega)
            rw [iv_4] at i2 i3
            grind
          · have i2 := iv_le (a := 3) (b := b) (by decide) (by omega)
            have i3 := iv_le (a := 6) (b := c) (by decide) (by omega)
            rw [iv_3] at i2
            rw [iv_6] at i3
            grind
        · have b3 : b = 3 := by omega
          subst b3
          have hc : c = 3 ∨ c = 4 ∨ c = 5 := by omega
          rcases hc with rfl | rfl | rfl
          · rw [iv_3, show tc [2, 3, 3] = 12 from rfl]
            exact ⟨⟨fun _ => ⟨by decide +kernel, rfl⟩, fun _ => by decide⟩, fun _ => by decide +kernel⟩
          · rw [iv_3, iv_4, show tc [2, 3, 4] = 24 from rfl]
            exact ⟨⟨fun _ => ⟨by decide +kernel, rfl⟩, fun _ => by decide⟩, fun _ => by decide +kernel⟩
          · rw [iv_3, iv_5, show tc [2, 3, 5] = 60 from rfl]
            exact ⟨⟨fun _ => ⟨by decide +kernel, rfl⟩, fun _ => by decide⟩, fun _ => by decide +kernel⟩
  | a :: b :: c :: d :: l, _, h2 => by
    have h := sw_ge (l := a :: b :: c :: d :: l) h2 (n := 4) (by simp only [List.length_cons]; omega)
    have t : tc (a :: b :: c :: d :: l) = 0 := rfl
    rw [t]
    refine ⟨⟨fun h => absurd h (by decide), fun k => ?_⟩, fun h => absurd h (by decide)⟩
    have : ((4 : Nat) : Rat) / 2 = 2 := by decide +kernel
    grind

/-! ### the number of symmetries of a name -/
def bc (h : Nat) (cs : List Nat) (rows : List (List Nat)) (x : Nat) : Nat :=
  if 0 < h ∨ 1 < x ∨ 1 < rows.length ∨ 1 < x + rows.length then 0
  else if x = 1 then (if cs.length < 2 then 2 * cs.headD 1 else 0)
  else match rows with
    | [] => tc cs
    | R :: _ => if cs = [] then 2 * tc (srtN R) else if cs.length = 1 ∧ R = [] then 2 * cs.headD 1 else if cs = [2] ∧ R.length = 1 then 4 * R.headD 1 else if cs = [3] ∧ R = [2] then 24 else 0
theorem e2_perm {R S : List Nat} (p : R.Perm S) : e2 R = e2 S := by
  match R, S, p with
  | [], S, p => rw [p.nil_eq]
  | [a], S, p => rw [List.singleton_perm.mp p]
  | [a, b], S, p =>
    have l := p.length_eq
    match S, l with
    | [c, d], _ =>
      have h1 : c ∈ [a, b] := p.mem_iff.mpr (by simp)
      have h2 : d ∈ [a, b] := p.mem_iff.mpr (by simp)
      have h3 : a ∈ [c, d] := p.mem_iff.mp (by simp)
      have h4 : b ∈ [c, d] := p.mem_iff.mp (by simp)
      simp only [List.mem_cons, List.not_mem_nil, or_false] at h1 h2 h3 h4
      show (!decide (a = b)) = (!decide (c = d))
      by_cases k : a = b
      · have : c = d := by omega
        rw [decide_eq_true k, decide_eq_true this]
      · have : ¬ c = d := by omega
        rw [decide_eq_false k, decide_eq_false this]
  | a :: b :: c :: R, S, p =>
    have l := p.length_eq
    match S, l with
    | a' :: b' :: c' :: S, _ => rfl
theorem r2n {a : Nat} (h : 0 < a) : (0 : Rat) < (a : Rat) := by exact_mod_cast h
structure Bc (n : Nat) (T : Rat) (b : Bool) : Prop where
  i : 0 < n ↔ 0 < T ∧ b = false
  e : 0 < n → (n : Rat) * T = 4
theorem Bc.no {T : Rat} {b : Bool} (h : T ≤ 0 ∨ b = true) : Bc 0 T b := ⟨⟨fun z => absurd z (by decide), fun z => by
  rcases h with h | h
  · have := z.1; grind
  · rw [h] at z; cases z.2⟩, fun z => absurd z (by decide)⟩
theorem Bc.yes {n : Nat} {T : Rat} {b : Bool} (h0 : 0 < n) (hT : 0 < T) (hb : b = false) (e : (n : Rat) * T = 4) : Bc n T b := ⟨⟨fun _ => ⟨hT, hb⟩, fun _ => h0⟩, fun _ => e⟩
theorem cast2 (n : Nat) : ((2 * n : Nat) : Rat) = 2 * (n : Rat) := by exact_mod_cast rfl
theorem cast4 (n : Nat) : ((4 * n : Nat) : Rat) = 4 * (n : Rat) := by exact_mod_cast rfl
theorem sw_0 {l : List Nat} (h : ∀ t ∈ l, 2 ≤ t) : 0 ≤ sw l := by
  have := sw_ge h (n := 0) (Nat.zero_le _)
  have z : ((0 : Nat) : Rat) / 2 = 0 := by decide +kernel
  grind
theorem bc_spec {h x : Nat} {cs : List Nat} {rows : List (List Nat)} (so : cs.Pairwise (· ≤ ·)) (hc : ∀ t ∈ cs, 2 ≤ t) (hr : ∀ R ∈ rows, ∀ t ∈ R, 2 ≤ t) : Bc (bc h cs rows x) (tot h cs rows x) (bdN h cs rows x) := by
  have et := tot_eq (h := h) (x := x) (cs := cs) (rows := rows) (fun t ht => by have := hc t ht; omega) (fun R hR t ht => by have := hr R hR t ht; omega)
  have s1 := sw_0 hc
  have s2 := sw_0 (l := rows.flatten) fun t ht => by
    obtain ⟨R, hR, h2⟩ := List.mem_flatten.mp ht
    exact hr R hR t h2
  have p1 := n2r (Nat.zero_le h)
  have p2 := n2r (Nat.zero_le x)
  have p3 := n2r (Nat.zero_le rows.length)
  have z0 : ((0 : Nat) : Rat) = 0 := rfl
  have z1 : ((1 : Nat) : Rat) = 1 := rfl
  have z2 : ((2 : Nat) : Rat) = 2 := rfl
  unfold bc
  by_cases c : 0 < h ∨ 1 < x ∨ 1 < rows.length ∨ 1 < x + rows.length
  · rw [if_pos c]
    refine .no (.inl ?_)
    rw [et]
    rcases c with c | c | c | c
    · have := n2r (show 1 ≤ h by omega); grind
    · have := n2r (show 2 ≤ x by omega); grind
    · have := n2r (show 2 ≤ rows.length by omega); grind
    · have e : ((x + rows.length : Nat) : Rat) = (x : Rat) + (rows.length : Rat) := by exact_mod_cast rfl
      have := n2r (show 2 ≤ x + rows.length by omega)
      grind
  · rw [if_neg c]
    have h0 : h = 0 := by omega
    subst h0
    by_cases c1 : x = 1
    · subst c1
      have r0 : rows = [] := List.eq_nil_of_length_eq_zero (by omega)
      subst r0
      rw [if_pos rfl]
      have b : bdN 0 cs [] 1 = false := by simp [bdN]
      have f0 : sw ([] : List (List Nat)).flatten = 0 := rfl
      have l0 : ((([] : List (List Nat)).length : Nat) : Rat) = 0 := rfl
      rw [f0, l0, z0, z1] at et
      match cs, so, hc, s1, et, b with
      | [], _, _, _, et, b =>
        have e : sw [] = 0 := rfl
        rw [e] at et
        refine .yes (by simp) (by rw [et]; grind) b ?_
        rw [et]
        decide +kernel
      | [a], _, hc, _, et, b =>
        have e : sw [a] = 1 - iv a := by show (1 - iv a) + 0 = _; grind
        have ha := hc a (by simp)
        have m := iv_mul (show 0 < a by omega)
        have p := iv_pos (show 0 < a by omega)
        rw [e] at et
        rw [if_pos (by simp), List.headD_cons]
        refine .yes (by omega) (by rw [et]; grind) b ?_
        rw [et, cast2]
        grind
      | a :: b' :: l, _, hc, _, et, b =>
        have := sw_ge hc (n := 2) (by simp only [List.length_cons]; omega)
        rw [if_neg (by simp only [List.length_cons]; omega)]
        exact .no (.inl (by rw [et]; grind))
    · rw [if_neg c1]
      have x0 : x = 0 := by omega
      subst x0
      match rows, c, et, hr, s2 with
      | [], _, et, _, _ =>
        have b : bdN 0 cs [] 0 = e2 cs := by simp [bdN]
        have f0 : sw ([] : List (List Nat)).flatten = 0 := rfl
        have l0 : ((([] : List (List Nat)).length : Nat) : Rat) = 0 := rfl
        rw [f0, l0, z0] at et
        have et : tot 0 cs [] 0 = 2 * (2 - sw cs) := by rw [et]; grind
        obtain ⟨i1, i2⟩ := tc_spec so hc
        rw [b, et]
        refine ⟨⟨fun z => ?_, fun z => i1.mpr ⟨by have := z.1; grind, z.2⟩⟩, fun z => ?_⟩
        · obtain ⟨k1, k2⟩ := i1.mp z
          exact ⟨by grind, k2⟩
        · have := i2 z; grind
      | [R], _, et, hr, s2 =>
        have hR := hr R (by simp)
        have f0 : sw [R].flatten = sw R := by simp
        have l0 : ((([R] : List (List Nat)).length : Nat) : Rat) = 1 := rfl
        rw [f0, l0, z0] at et
        rw [f0] at s2
        show Bc (if cs = [] then 2 * tc (srtN R) else if cs.length = 1 ∧ R = [] then 2 * cs.headD 1 else if cs = [2] ∧ R.length = 1 then 4 * R.headD 1 else if cs = [3] ∧ R = [2] then 24 else 0) _ _
        by_cases k1 : cs = []
        · subst k1
          rw [if_pos rfl]
          have b : bdN 0 [] [R] 0 = e2 (srtN R) := by
            rw [e2_perm (srtN_perm R)]; simp [bdN]
          have e : sw [] = 0 := rfl
          have et : tot 0 [] [R] 0 = 2 - sw (srtN R) := by rw [et, e, sw_perm (srtN_perm R)]; grind
          obtain ⟨i1, i2⟩ := tc_spec (srtN_so R) fun t ht => hR t ((srtN_perm R).mem_iff.mp ht)
          rw [b, et]
          refine ⟨⟨fun z => i1.mp (by omega), fun z => by have := i1.mpr z; omega⟩, fun z => ?_⟩
          have := i2 (by omega)
          rw [cast2]
          grind
        · rw [if_neg k1]
          have b : bdN 0 cs [R] 0 = false := by simp [bdN, k1]
          match cs, k1, so, hc, s1, et, b with
          | [a], _, _, hc, _, et, b =>
            have e : sw [a] = 1 - iv a := by show (1 - iv a) + 0 = _; grind
            have ha := hc a (by simp)
            have m := iv_mul (show 0 < a by omega)
            have p := iv_pos (show 0 < a by omega)
            rw [e] at et
            by_cases k2 : R = []
            · subst k2
              have er : sw [] = 0 := rfl
              rw [er] at et
              rw [if_pos ⟨rfl, rfl⟩, List.headD_cons]
              refine .yes (by omega) (by rw [et]; grind) b ?_
              rw [et, cast2]
              grind
            · rw [if_neg (fun z => k2 z.2)]
              match R, k2, hR, et with
              | [d], _, hR, et =>
                have er : sw [d] = 1 - iv d := by show (1 - iv d) + 0 = _; grind
                have hd := hR d (by simp)
                have m2 := iv_mul (show 0 < d by omega)
                have q2 := iv_pos (show 0 < d by omega)
                rw [er] at et
                by_cases k3 : a = 2
                · subst k3
                  rw [if_pos ⟨rfl, rfl⟩, List.headD_cons]
                  rw [iv_2] at et
                  refine .yes (by omega) (by rw [et]; grind) b ?_
                  rw [et, cast4]
                  grind
                · rw [if_neg (fun z => k3 (by have := z.1; simpa using this))]
                  by_cases k4 : a = 3 ∧ d = 2
                  · obtain ⟨rfl, rfl⟩ := k4
                    rw [if_pos ⟨rfl, rfl⟩]
                    rw [iv_3, iv_2] at et
                    refine .yes (by decide) (by rw [et]; decide +kernel) b ?_
                    rw [et]
                    decide +kernel
                  · rw [if_neg (fun z => k4 (by simpa using z))]
                    refine .no (.inl ?_)
                    rw [et]
                    by_cases k5 : a = 3
                    · subst k5
                      have i2 := iv_le (a := 3) (b := d) (by decide) (by omega)
                      rw [iv_3] at i2 ⊢
                      grind
                    · have i1 := iv_le (a := 4) (b := a) (by decide) (by omega)
                      have i2 := iv_le (a := 2) (b := d) (by decide) (by omega)
                      rw [iv_4] at i1
                      rw [iv_2] at i2
                      grind
              | d :: f :: R, _, hR, et =>
                have g := sw_ge hR (n := 2) (by simp only [List.length_cons]; omega)
                rw [z2] at g
                have i1 := iv_le (a := 2) (b := a) (by decide) (by omega)
                rw [iv_2] at i1
                rw [if_neg (fun z => by have := z.2; simp at this), if_neg (fun z => by have := z.2; simp at this)]
                exact .no (.inl (by rw [et]; grind))
          | a :: d :: l, _, _, hc, _, et, b =>
            have g := sw_ge hc (n := 2) (by simp only [List.length_cons]; omega)
            rw [z2] at g
            rw [if_neg (fun z => by have := z.1; simp at this), if_neg (fun z => by have := z.1; simp at this), if_neg (fun z => by have := z.1; simp at this)]
            exact .no (.inl (by rw [et]; grind))
      | R :: S :: rows, c, _, _, _ => exact absurd (show 1 < (R :: S :: rows).length by simp only [List.length_cons]; omega) (fun z => c (.inr (.inr (.inl z))))

/-! ### counting: the program's and the law's -/
theorem num_pos' {r : Rat} : 0 < r.num ↔ 0 < r := by
  rw [Rat.lt_iff]
  show _ ↔ (0 : Int) * _ < r.num * ((1 : Nat) : Int)
  omega
theorem mul_den' (r : Rat) : r * (r.den : Rat) = (r.num : Rat) := by
  have e : (r.num : Rat) / (r.den : Rat) = r := by rw [← Rat.mkRat_eq_div, Rat.mkRat_self]
  have p : (0 : Rat) < (r.den : Rat) := by exact_mod_cast r.den_pos
  have i : (r.den : Rat) * (r.den : Rat)⁻¹ = 1 := Rat.mul_inv_cancel _ (by grind)
  rw [Rat.div_def] at e
  generalize (r.num : Rat) = n at *
  generalize (r.den : Rat) = d at *
  generalize d⁻¹ = u at *
  subst e
  grind
theorem over_rat {r s : Rat} (hs : 0 < s.num) (m1 : mulOk r.num (s.den : Nat) = true) (m2 : mulOk (r.den : Nat) s.num = true) (hd : r.den * s.num.toNat < 2 ^ 600) : f_over [.im (fr r), .im (fr s)] = some (.im (fr (r / s)), [.un, .un]) := by
  have hn : (s.num.toNat : Int) = s.num := Int.toNat_of_nonneg (by omega)
  have e := ratio_rat (a := r.num * (s.den : Nat)) (b := r.den * s.num.toNat) (Nat.mul_pos r.den_pos (by omega)) hd
  have ee : mkRat (r.num * (s.den : Nat)) (r.den * s.num.toNat) = r / s := by
    have sp : (0 : Rat) < s := by
      exact num_pos'.mp hs
    have sd : (0 : Rat) < (s.den : Rat) := by exact_mod_cast s.den_pos
    have rd : (0 : Rat) < (r.den : Rat) := by exact_mod_cast r.den_pos
    have e1 : r * (r.den : Rat) = (r.num : Rat) := mul_den' r
    have e2 : s * (s.den : Rat) = (s.num : Rat) := mul_den' s
    have e3 : ((s.num.toNat : Nat) : Rat) = (s.num : Rat) := by
      have : ((s.num.toNat : Int) : Rat) = (s.num : Rat) := by rw [hn]
      exact this
    rw [Rat.mkRat_eq_div]
    have e4 : (((r.num * (s.den : Nat) : Int)) : Rat) = (r.num : Rat) * (s.den : Rat) := by rw [Rat.intCast_mul]; rfl
    have e5 : (((r.den * s.num.toNat : Nat)) : Rat) = (r.den : Rat) * (s.num : Rat) := by rw [Rat.natCast_mul, e3]
    rw [e4, e5, ← e1, ← e2, Rat.div_def, Rat.div_def]
    have i1 : s * s⁻¹ = 1 := Rat.mul_inv_cancel _ (by grind)
    have pos : (0 : Rat) < (r.den : Rat) * (s * (s.den : Rat)) := Rat.mul_pos rd (Rat.mul_pos sp sd)
    have i2 : ((r.den : Rat) * (s * (s.den : Rat))) * ((r.den : Rat) * (s * (s.den : Rat)))⁻¹ = 1 := Rat.mul_inv_cancel _ (by grind)
    generalize ((r.den : Rat) * (s * (s.den : Rat)))⁻¹ = v at *
    generalize s⁻¹ = u at *
    generalize (r.den : Rat) = a at *
    generalize (s.den : Rat) = b at *
    have : r * a * b * v * (s * u) = r * u * (a * (s * b) * v) := by grind
    grind
  rw [ee] at e
  have e0 : ((r.den * s.num.toNat : Nat) : Int) = (r.den : Nat) * s.num := by rw [Int.natCast_mul, hn]
  rw [e0] at e
  have a0 : ∀ x y : D, atI [x, y] 0 = some x := fun _ _ => rfl
  have a1 : ∀ x y : D, atI [x, y] 1 = some y := fun _ _ => rfl
  unfold f_over b_over
  unfold fr at e ⊢
  simp only [↓e, sNop_ap, row?_ap, eRowM_ap, sRowSub_ap, eRowLen_ap, eRowNil_ap, isUn_un, ixN3_0, ixN3_1, ixN3_2, gRowsD_ap, rowsOf_nil, rowsOf_cons, eMeth_ap, isL_l, isS_s, mAppend_ap, mExtend_ap, ownL_fr, gIn_ap, ownDct_fr, gT_apL, hSorted, hTuple, hList, hRev, hRevX, hEqS, sSeq_ap, sBrk_ap, sCnt_ap, sRet_ap, sRetN_ap, sDrop_ap, sIf_ap, sSet_ap, isMu_ap, sAsg_ap, gN_ap, gT_ap, gTs, sPar_ap, sSub_ap, own?_ap, putO_t, putO_f, sAug_ap, sFor_ap, eC_ap, eVar_ap, ePl_ap, eMv_ap, opS_ap, sNil_ap, sCons_ap, gOp_ap, vws_nil, vws_cons, vw_im, vw_fr, vw_frd, vw_frs, vw_frr, vw_pl, view_l, view_d, view_s, view_r, rs_d, rs_l, sl_im, sl_fr, fz_im, fz_fr, fzs_nil, fzs_cons, toD_l, toD_r, gTupD_ap, gLstD_ap, gIx_ap, gDGet_ap, ownDct_pl, keyOf_i, keyOf_s, gMul_ap, tB_ap, tNot_ap, tAnd_ap, tOr_ap, eNot_ap, eAnd_ap, eOr_ap, eIf_ap, tY_ap, eSl_ap, oN_ap, oI_ap, itOf_ap, itR1_ap, itR2_ap, eLc_ap, isIm_ap, eCall_ap, eCallM_ap, fnOf_ap, isPl_im, isPl_fr, eDspl_ap, sArgs_nil, sArgs_cons, mkD_nil, mkD_cons, keepMu_mu, keepMu_im, projS_nil, projS_cons, hAdd, hSub, hMul, hDiv, hMod, hPow, hNeg, hCmp, hEq, hNe, hIsN, hNotN, hIx, hLen, hInt, hAbs, hGcd, hMin, hMax, hCut, isi_ii, isi_ib, isi_tt, isi_ll, isM_un, isM_im, isM_ow, isM_mu, List.getElem?_cons_zero, List.getElem?_cons_succ, List.getElem?_nil, List.set_cons_zero, List.set_cons_succ, List.length_cons, List.length_nil, List.length_map, List.replicate_succ, List.replicate_zero, List.cons_append, List.nil_append, List.map_cons, List.map_nil, Nat.reduceAdd, Nat.zero_add, ne_eq, not_true_eq_false, not_false_eq_true, decide_false, decide_true, Bool.or_self, Bool.or_false, Bool.false_or, Bool.and_self, Bool.false_eq_true, if_false, if_true, reduceIte, szOk_2, szOk_1, szOk_0, szOk_3, lk_left, lk_seed, lk_cells, lk_spot, pt_left, pt_spot, len_mL, mSet, true_and, and_true, List.getD_eq_getElem?_getD, Option.getD_some, seqOf_l, seqOf_t, ↓hIx_sq, ↓hLen_sq, seqOf_sq, ↓hTuple_sq, fz_fr2, gRep_ap, eq_self, gSorted_ap, gSortD_ap, gSortS_ap, ownSet_pl, eDict1_ap, eChain_ap, gInD_ap, gInS_ap, mPop_ap, mAdd_ap, eSet0_ap, sWhile_ap, itEnumX_ap, eM2_ap, eTR1_ap, eLR1_ap, hLtD, gDGetT_ap, ownDctT_pl, gInT_ap, keyT_t, keysOf_nil, keysOf_cons, eDctT0_ap, view_dT, eDict1T_ap, hIsB, hNotB, sPar3_ap, a0, a1, m1, m2]
theorem times_rat {r s : Rat} (m1 : mulOk r.num s.num = true) (m2 : mulOk (r.den : Nat) (s.den : Nat) = true) (hd : r.den * s.den < 2 ^ 600) : f_times [.im (fr r), .im (fr s)] = some (.im (fr (r * s)), [.un, .un]) := by
  have e := ratio_rat (a := r.num * s.num) (b := r.den * s.den) (Nat.mul_pos r.den_pos s.den_pos) hd
  have ee : mkRat (r.num * s.num) (r.den * s.den) = r * s := by rw [Rat.mul_def, Rat.normalize_eq_mkRat]
  rw [ee, Int.natCast_mul] at e
  have a0 : ∀ x y : D, atI [x, y] 0 = some x := fun _ _ => rfl
  have a1 : ∀ x y : D, atI [x, y] 1 = some y := fun _ _ => rfl
  unfold f_times b_times
  unfold fr at e ⊢
  simp only [↓e, sNop_ap, row?_ap, eRowM_ap, sRowSub_ap, eRowLen_ap, eRowNil_ap, isUn_un, ixN3_0, ixN3_1, ixN3_2, gRowsD_ap, rowsOf_nil, rowsOf_cons, eMeth_ap, isL_l, isS_s, mAppend_ap, mExtend_ap, ownL_fr, gIn_ap, ownDct_fr, gT_apL, hSorted, hTuple, hList, hRev, hRevX, hEqS, sSeq_ap, sBrk_ap, sCnt_ap, sRet_ap, sRetN_ap, sDrop_ap, sIf_ap, sSet_ap, isMu_ap, sAsg_ap, gN_ap, gT_ap, gTs, sPar_ap, sSub_ap, own?_ap, putO_t, putO_f, sAug_ap, sFor_ap, eC_ap, eVar_ap, ePl_ap, eMv_ap, opS_ap, sNil_ap, sCons_ap, gOp_ap, vws_nil, vws_cons, vw_im, vw_fr, vw_frd, vw_frs, vw_frr, vw_pl, view_l, view_d, view_s, view_r, rs_d, rs_l, sl_im, sl_fr, fz_im, fz_fr, fzs_nil, fzs_cons, toD_l, toD_r, gTupD_ap, gLstD_ap, gIx_ap, gDGet_ap, ownDct_pl, keyOf_i, keyOf_s, gMul_ap, tB_ap, tNot_ap, tAnd_ap, tOr_ap, eNot_ap, eAnd_ap, eOr_ap, eIf_ap, tY_ap, eSl_ap, oN_ap, oI_ap, itOf_ap, itR1_ap, itR2_ap, eLc_ap, isIm_ap, eCall_ap, eCallM_ap, fnOf_ap, isPl_im, isPl_fr, eDspl_ap, sArgs_nil, sArgs_cons, mkD_nil, mkD_cons, keepMu_mu, keepMu_im, projS_nil, projS_cons, hAdd, hSub, hMul, hDiv, hMod, hPow, hNeg, hCmp, hEq, hNe, hIsN, hNotN, hIx, hLen, hInt, hAbs, hGcd, hMin, hMax, hCut, isi_ii, isi_ib, isi_tt, isi_ll, isM_un, isM_im, isM_ow, isM_mu, List.getElem?_cons_zero, List.getElem?_cons_succ, List.getElem?_nil, List.set_cons_zero, List.set_cons_succ, List.length_cons, List.length_nil, List.length_map, List.replicate_succ, List.replicate_zero, List.cons_append, List.nil_append, List.map_cons, List.map_nil, Nat.reduceAdd, Nat.zero_add, ne_eq, not_true_eq_false, not_false_eq_true, decide_false, decide_true, Bool.or_self, Bool.or_false, Bool.false_or, Bool.and_self, Bool.false_eq_true, if_false, if_true, reduceIte, szOk_2, szOk_1, szOk_0, szOk_3, lk_left, lk_seed, lk_cells, lk_spot, pt_left, pt_spot, len_mL, mSet, true_and, and_true, List.getD_eq_getElem?_getD, Option.getD_some, seqOf_l, seqOf_t, ↓hIx_sq, ↓hLen_sq, seqOf_sq, ↓hTuple_sq, fz_fr2, gRep_ap, eq_self, gSorted_ap, gSortD_ap, gSortS_ap, ownSet_pl, eDict1_ap, eChain_ap, gInD_ap, gInS_ap, mPop_ap, mAdd_ap, eSet0_ap, sWhile_ap, itEnumX_ap, eM2_ap, eTR1_ap, eLR1_ap, hLtD, gDGetT_ap, ownDctT_pl, gInT_ap, keyT_t, keysOf_nil, keysOf_cons, eDctT0_ap, view_dT, eDict1T_ap, hIsB, hNotB, sPar3_ap, a0, a1, m1, m2]
section
variable {h x : Nat} {cs : List Nat} {rows : List (List Nat)}
theorem fr_nat (n : Nat) : fr (n : Rat) = .tuple [.int (n : Nat), .int 1] := rfl
theorem Bd.num_lt {k C : Nat} {r : Rat} (b : Bd k C r) (hk : k ≤ 500) (hC : C ≤ 10000) : r.num.natAbs < 2 ^ 550 := by
  have h1 : C * r.den ≤ 10000 * 2 ^ 500 := Nat.mul_le_mul hC (Nat.le_trans b.d (Nat.pow_le_pow_right (by decide) hk))
  have h2 : 10000 * 2 ^ 500 < 2 ^ 550 := by decide
  have := b.n
  omega
theorem ball_eq (o : NmOk h cs rows x) {n : Nat} (h0 : 0 < n) (hT : 0 < tot h cs rows x) (e : (n : Rat) * tot h cs rows x = 4) : f_ball_count [.im (nmD h cs rows x)] = some (.im (.int (n : Nat)), [.un]) := by
  have e1 := name_sum_eq o
  have e2 : f_ratio [.im (.int 4), .im (.int 1)] = some (.im (fr (4 : Nat)), [.un, .un]) := ratio_rat (a := 4) (b := 1) (by decide) (by decide)
  have hn : 0 < (tot h cs rows x).num := num_pos'.mpr hT
  have b := o.bd
  have nl := b.num_lt (by decide) (by decide)
  have e3 := over_rat (r := ((4 : Nat) : Rat)) (s := tot h cs rows x) hn (mulOk_l (by decide) (by decide)) (mulOk_l (by decide) (by decide)) (by
    have h1 : ((4 : Nat) : Rat).den = 1 := rfl
    rw [h1]
    have h2 : (2 : Nat) ^ 550 < 2 ^ 600 := by decide
    omega)
  have e4 : ((4 : Nat) : Rat) / tot h cs rows x = (n : Rat) := by
    rw [Rat.div_def]
    have i : tot h cs rows x * (tot h cs rows x)⁻¹ = 1 := Rat.mul_inv_cancel _ (by grind)
    have z : ((4 : Nat) : Rat) = 4 := rfl
    rw [z]
    generalize (tot h cs rows x)⁻¹ = u at *
    generalize tot h cs rows x = t at *
    grind
  rw [e4, fr_nat n] at e3
  have a0 : ∀ x y : D, atI [x, y] 0 = some x := fun _ _ => rfl
  unfold f_ball_count b_ball_count
  simp only [↓e1, ↓e2, ↓e3, sNop_ap, row?_ap, eRowM_ap, sRowSub_ap, eRowLen_ap, eRowNil_ap, isUn_un, ixN3_0, ixN3_1, ixN3_2, gRowsD_ap, rowsOf_nil, rowsOf_cons, eMeth_ap, isL_l, isS_s, mAppend_ap, mExtend_ap, ownL_fr, gIn_ap, ownDct_fr, gT_apL, hSorted, hTuple, hList, hRev, hRevX, hEqS, sSeq_ap, sBrk_ap, sCnt_ap, sRet_ap, sRetN_ap, sDrop_ap, sIf_ap, sSet_ap, isMu_ap, sAsg_ap, gN_ap, gT_ap, gTs, sPar_ap, sSub_ap, own?_ap, putO_t, putO_f, sAug_ap, sFor_ap, eC_ap, eVar_ap, ePl_ap, eMv_ap, opS_ap, sNil_ap, sCons_ap, gOp_ap, vws_nil, vws_cons, vw_im, vw_fr, vw_frd, vw_frs, vw_frr, vw_pl, view_l, view_d, view_s, view_r, rs_d, rs_l, sl_im, sl_fr, fz_im, fz_fr, fzs_nil, fzs_cons, toD_l, toD_r, gTupD_ap, gLstD_ap, gIx_ap, gDGet_ap, ownDct_pl, keyOf_i, keyOf_s, gMul_ap, tB_ap, tNot_ap, tAnd_ap, tOr_ap, eNot_ap, eAnd_ap, eOr_ap, eIf_ap, tY_ap, eSl_ap, oN_ap, oI_ap, itOf_ap, itR1_ap, itR2_ap, eLc_ap, isIm_ap, eCall_ap, eCallM_ap, fnOf_ap, isPl_im, isPl_fr, eDspl_ap, sArgs_nil, sArgs_cons, mkD_nil, mkD_cons, keepMu_mu, keepMu_im, projS_nil, projS_cons, hAdd, hSub, hMul, hDiv, hMod, hPow, hNeg, hCmp, hEq, hNe, hIsN, hNotN, hIx, hLen, hInt, hAbs, hGcd, hMin, hMax, hCut, isi_ii, isi_ib, isi_tt, isi_ll, isM_un, isM_im, isM_ow, isM_mu, List.getElem?_cons_zero, List.getElem?_cons_succ, List.getElem?_nil, List.set_cons_zero, List.set_cons_succ, List.length_cons, List.length_nil, List.length_map, List.replicate_succ, List.replicate_zero, List.cons_append, List.nil_append, List.map_cons, List.map_nil, Nat.reduceAdd, Nat.zero_add, ne_eq, not_true_eq_false, not_false_eq_true, decide_false, decide_true, Bool.or_self, Bool.or_false, Bool.false_or, Bool.and_self, Bool.false_eq_true, if_false, if_true, reduceIte, szOk_2, szOk_1, szOk_0, szOk_3, lk_left, lk_seed, lk_cells, lk_spot, pt_left, pt_spot, len_mL, mSet, true_and, and_true, List.getD_eq_getElem?_getD, Option.getD_some, seqOf_l, seqOf_t, ↓hIx_sq, ↓hLen_sq, seqOf_sq, ↓hTuple_sq, fz_fr2, gRep_ap, eq_self, gSorted_ap, gSortD_ap, gSortS_ap, ownSet_pl, eDict1_ap, eChain_ap, gInD_ap, gInS_ap, mPop_ap, mAdd_ap, eSet0_ap, sWhile_ap, itEnumX_ap, eM2_ap, eTR1_ap, eLR1_ap, hLtD, gDGetT_ap, ownDctT_pl, gInT_ap, keyT_t, keysOf_nil, keysOf_cons, eDctT0_ap, view_dT, eDict1T_ap, hIsB, hNotB, sPar3_ap, a0]
theorem times_eq (o : NmOk h cs rows x) {n : Nat} (hn : n ≤ 1000000) (e : (n : Rat) * tot h cs rows x = 4) : f_times [.im (fr (n : Rat)), .im (fr (tot h cs rows x))] = some (.im (.tuple [.int 4, .int 1]), [.un, .un]) := by
  have b := o.bd
  have e3 := times_rat (r := (n : Rat)) (s := tot h cs rows x) (mulOk_l (by have : ((n : Rat)).num = (n : Int) := rfl; rw [this]; omega) (by have : ((n : Rat)).num = (n : Int) := rfl; rw [this]; omega)) (mulOk_l (by have : ((n : Rat)).den = 1 := rfl; rw [this]; decide) (by have : ((n : Rat)).den = 1 := rfl; rw [this]; decide)) (by
    have h1 : ((n : Rat)).den = 1 := rfl
    rw [h1, Nat.one_mul]
    have h2 : (2 : Nat) ^ 239 < 2 ^ 600 := by decide
    have := b.d
    omega)
  rw [e] at e3
  exact e3
end

/-! ### the law's count -/
theorem tcount_eq {l : List Nat} (so : l.Pairwise (· ≤ ·)) (h2 : ∀ t ∈ l, 2 ≤ t) : f_law_turned_count [.im (.tuple (nD l))] = some (.im (.int (tc l : Nat)), [.un]) := by
  have b0 : ∀ x : D, atI [x] 0 = some x := fun _ => rfl
  have a0 : ∀ x y z : D, atI [x, y, z] 0 = some x := fun _ _ _ => rfl
  have a1 : ∀ x y z : D, atI [x, y, z] 1 = some y := fun _ _ _ => rfl
  have a2 : ∀ x y z : D, atI [x, y, z] 2 = some z := fun _ _ _ => rfl
  have sh0 : SeqAt.shaped (.tuple []) = true := sh_nDT []
  unfold f_law_turned_count b_law_turned_count
  match l, so, h2 with
  | [], _, _ =>
    have q0 : PyData.eqv (.tuple []) (.tuple []) = true := by decide
    have d0 : decide (((0 : Nat) : Int) < 3) = true := by decide
    have c2 : hCut (.tuple [.int 1, .int 1]) none (some 2) = some (.d (.tuple [.int 1, .int 1])) := rfl
    have q1 : PyData.eqv (.int 1) (.int 1) = true := by decide
    have t : tc [] = 1 := rfl
    have z : szOk (0 + (0 + 1 + 1)) = true := by decide
    rw [t]
    simp only [sNop_ap, row?_ap, eRowM_ap, sRowSub_ap, eRowLen_ap, eRowNil_ap, isUn_un, ixN3_0, ixN3_1, ixN3_2, gRowsD_ap, rowsOf_nil, rowsOf_cons, eMeth_ap, isL_l, isS_s, mAppend_ap, mExtend_ap, ownL_fr, gIn_ap, ownDct_fr, gT_apL, hSorted, hTuple, hList, hRev, hRevX, hEqS, sSeq_ap, sBrk_ap, sCnt_ap, sRet_ap, sRetN_ap, sDrop_ap, sIf_ap, sSet_ap, isMu_ap, sAsg_ap, gN_ap, gT_ap, gTs, sPar_ap, sSub_ap, own?_ap, putO_t, putO_f, sAug_ap, sFor_ap, eC_ap, eVar_ap, ePl_ap, eMv_ap, opS_ap, sNil_ap, sCons_ap, gOp_ap, vws_nil, vws_cons, vw_im, vw_fr, vw_frd, vw_frs, vw_frr, vw_pl, view_l, view_d, view_s, view_r, rs_d, rs_l, sl_im, sl_fr, fz_im, fz_fr, fzs_nil, fzs_cons, toD_l, toD_r, gTupD_ap, gLstD_ap, gIx_ap, gDGet_ap, ownDct_pl, keyOf_i, keyOf_s, gMul_ap, tB_ap, tNot_ap, tAnd_ap, tOr_ap, eNot_ap, eAnd_ap, eOr_ap, eIf_ap, tY_ap, eSl_ap, oN_ap, oI_ap, itOf_ap, itR1_ap, itR2_ap, eLc_ap, isIm_ap, eCall_ap, eCallM_ap, fnOf_ap, isPl_im, isPl_fr, eDspl_ap, sArgs_nil, sArgs_cons, mkD_nil, mkD_cons, keepMu_mu, keepMu_im, projS_nil, projS_cons, hAdd, hSub, hMul, hDiv, hMod, hPow, hNeg, hCmp, hEq, hNe, hIsN, hNotN, hIx, hLen, hInt, hAbs, hGcd, hMin, hMax, hCut, isi_ii, isi_ib, isi_tt, isi_ll, isM_un, isM_im, isM_ow, isM_mu, List.getElem?_cons_zero, List.getElem?_cons_succ, List.getElem?_nil, List.set_cons_zero, List.set_cons_succ, List.length_cons, List.length_nil, List.length_map, List.replicate_succ, List.replicate_zero, List.cons_append, List.nil_append, List.map_cons, List.map_nil, Nat.reduceAdd, Nat.zero_add, ne_eq, not_true_eq_false, not_false_eq_true, decide_false, decide_true, Bool.or_self, Bool.or_false, Bool.false_or, Bool.and_self, Bool.false_eq_true, if_false, if_true, reduceIte, szOk_2, szOk_1, szOk_0, szOk_3, lk_left, lk_seed, lk_cells, lk_spot, pt_left, pt_spot, len_mL, mSet, true_and, and_true, List.getD_eq_getElem?_getD, Option.getD_some, seqOf_l, seqOf_t, ↓hIx_sq, ↓hLen_sq, seqOf_sq, ↓hTuple_sq, fz_fr2, gRep_ap, eq_self, gSorted_ap, gSortD_ap, gSortS_ap, ownSet_pl, eDict1_ap, eChain_ap, gInD_ap, gInS_ap, mPop_ap, mAdd_ap, eSet0_ap, sWhile_ap, itEnumX_ap, eM2_ap, eTR1_ap, eLR1_ap, hLtD, gDGetT_ap, ownDctT_pl, gInT_ap, keyT_t, keysOf_nil, keysOf_cons, eDctT0_ap, view_dT, eDict1T_ap, hIsB, hNotB, sPar3_ap, nD_nil, hCmp_ii, d0, sh0, q0, ↓c2, z, sh_int, q1]
    rfl
  | [a], _, h2 =>
    have ha := h2 a (by simp)
    have q0 : PyData.eqv (.tuple [.int (a : Nat)]) (.tuple []) = false := (eqv_nDT [a] []).trans (decide_eq_false (by simp))
    have s1 : SeqAt.shaped (.tuple [.int (a : Nat)]) = true := sh_nDT [a]
    have d0 : decide (((0 + 1 : Nat) : Int) < 3) = true := by decide
    have q2 : PyData.eqv (.int ((0 + 1 : Nat) : Int)) (.int 2) = false := by decide
    have q1 : PyData.eqv (.int 1) (.int (a : Nat)) = false := (eqv_nat 1 a).trans (decide_eq_false (by omega))
    have t : tc [a] = 0 := rfl
    rw [t]
    simp only [sNop_ap, row?_ap, eRowM_ap, sRowSub_ap, eRowLen_ap, eRowNil_ap, isUn_un, ixN3_0, ixN3_1, ixN3_2, gRowsD_ap, rowsOf_nil, rowsOf_cons, eMeth_ap, isL_l, isS_s, mAppend_ap, mExtend_ap, ownL_fr, gIn_ap, ownDct_fr, gT_apL, hSorted, hTuple, hList, hRev, hRevX, hEqS, sSeq_ap, sBrk_ap, sCnt_ap, sRet_ap, sRetN_ap, sDrop_ap, sIf_ap, sSet_ap, isMu_ap, sAsg_ap, gN_ap, gT_ap, gTs, sPar_ap, sSub_ap, own?_ap, putO_t, putO_f, sAug_ap, sFor_ap, eC_ap, eVar_ap, ePl_ap, eMv_ap, opS_ap, sNil_ap, sCons_ap, gOp_ap, vws_nil, vws_cons, vw_im, vw_fr, vw_frd, vw_frs, vw_frr, vw_pl, view_l, view_d, view_s, view_r, rs_d, rs_l, sl_im, sl_fr, fz_im, fz_fr, fzs_nil, fzs_cons, toD_l, toD_r, gTupD_ap, gLstD_ap, gIx_ap, gDGet_ap, ownDct_pl, keyOf_i, keyOf_s, gMul_ap, tB_ap, tNot_ap, tAnd_ap, tOr_ap, eNot_ap, eAnd_ap, eOr_ap, eIf_ap, tY_ap, eSl_ap, oN_ap, oI_ap, itOf_ap, itR1_ap, itR2_ap, eLc_ap, isIm_ap, eCall_ap, eCallM_ap, fnOf_ap, isPl_im, isPl_fr, eDspl_ap, sArgs_nil, sArgs_cons, mkD_nil, mkD_cons, keepMu_mu, keepMu_im, projS_nil, projS_cons, hAdd, hSub, hMul, hDiv, hMod, hPow, hNeg, hCmp, hEq, hNe, hIsN, hNotN, hIx, hLen, hInt, hAbs, hGcd, hMin, hMax, hCut, isi_ii, isi_ib, isi_tt, isi_ll, isM_un, isM_im, isM_ow, isM_mu, List.getElem?_cons_zero, List.getElem?_cons_succ, List.getElem?_nil, List.set_cons_zero, List.set_cons_succ, List.length_cons, List.length_nil, List.length_map, List.replicate_succ, List.replicate_zero, List.cons_append, List.nil_append, List.map_cons, List.map_nil, Nat.reduceAdd, Nat.zero_add, ne_eq, not_true_eq_false, not_false_eq_true, decide_false, decide_true, Bool.or_self, Bool.or_false, Bool.false_or, Bool.and_self, Bool.false_eq_true, if_false, if_true, reduceIte, szOk_2, szOk_1, szOk_0, szOk_3, lk_left, lk_seed, lk_cells, lk_spot, pt_left, pt_spot, len_mL, mSet, true_and, and_true, List.getD_eq_getElem?_getD, Option.getD_some, seqOf_l, seqOf_t, ↓hIx_sq, ↓hLen_sq, seqOf_sq, ↓hTuple_sq, fz_fr2, gRep_ap, eq_self, gSorted_ap, gSortD_ap, gSortS_ap, ownSet_pl, eDict1_ap, eChain_ap, gInD_ap, gInS_ap, mPop_ap, mAdd_ap, eSet0_ap, sWhile_ap, itEnumX_ap, eM2_ap, eTR1_ap, eLR1_ap, hLtD, gDGetT_ap, ownDctT_pl, gInT_ap, keyT_t, keysOf_nil, keysOf_cons, eDctT0_ap, view_dT, eDict1T_ap, hIsB, hNotB, sPar3_ap, nD_cons, nD_nil, hCmp_ii, d0, sh0, s1, q0, q2, b0, sh_int, q1]
    rfl
  | [a, b], _, _ =>
    have q0 : PyData.eqv (.tuple [.int (a : Nat), .int (b : Nat)]) (.tuple []) = false := (eqv_nDT [a, b] []).trans (decide_eq_false (by simp))
    have s1 : SeqAt.shaped (.tuple [.int (a : Nat), .int (b : Nat)]) = true := sh_nDT [a, b]
    have d0 : decide (((0 + 1 + 1 : Nat) : Int) < 3) = true := by decide
    have q2 : PyData.eqv (.int ((0 + 1 + 1 : Nat) : Int)) (.int 2) = true := by decide
    have c2 : ∀ x y : D, hCut (.tuple [x, y, .int 1, .int 1]) none (some 2) = some (.d (.tuple [x, y])) := fun _ _ => rfl
    have q1 := eqv_nat a b
    have z : szOk (0 + 1 + 1 + (0 + 1 + 1)) = true := by decide
    by_cases c : a = b
    · have t : tc [a, b] = a := by simp [tc, c]
      rw [t]
      rw [decide_eq_true c] at q1
      simp only [sNop_ap, row?_ap, eRowM_ap, sRowSub_ap, eRowLen_ap, eRowNil_ap, isUn_un, ixN3_0, ixN3_1, ixN3_2, gRowsD_ap, rowsOf_nil, rowsOf_cons, eMeth_ap, isL_l, isS_s, mAppend_ap, mExtend_ap, ownL_fr, gIn_ap, ownDct_fr, gT_apL, hSorted, hTuple, hList, hRev, hRevX, hEqS, sSeq_ap, sBrk_ap, sCnt_ap, sRet_ap, sRetN_ap, sDrop_ap, sIf_ap, sSet_ap, isMu_ap, sAsg_ap, gN_ap, gT_ap, gTs, sPar_ap, sSub_ap, own?_ap, putO_t, putO_f, sAug_ap, sFor_ap, eC_ap, eVar_ap, ePl_ap, eMv_ap, opS_ap, sNil_ap, sCons_ap, gOp_ap, vws_nil, vws_cons, vw_im, vw_fr, vw_frd, vw_frs, vw_frr, vw_pl, view_l, view_d, view_s, view_r, rs_d, rs_l, sl_im, sl_fr, fz_im, fz_fr, fzs_nil, fzs_cons, toD_l, toD_r, gTupD_ap, gLstD_ap, gIx_ap, gDGet_ap, ownDct_pl, keyOf_i, keyOf_s, gMul_ap, tB_ap, tNot_ap, tAnd_ap, tOr_ap, eNot_ap, eAnd_ap, eOr_ap, eIf_ap, tY_ap, eSl_ap, oN_ap, oI_ap, itOf_ap, itR1_ap, itR2_ap, eLc_ap, isIm_ap, eCall_ap, eCallM_ap, fnOf_ap, isPl_im, isPl_fr, eDspl_ap, sArgs_nil, sArgs_cons, mkD_nil, mkD_cons, keepMu_mu, keepMu_im, projS_nil, projS_cons, hAdd, hSub, hMul, hDiv, hMod, hPow, hNeg, hCmp, hEq, hNe, hIsN, hNotN, hIx, hLen, hInt, hAbs, hGcd, hMin, hMax, hCut, isi_ii, isi_ib, isi_tt, isi_ll, isM_un, isM_im, isM_ow, isM_mu, List.getElem?_cons_zero, List.getElem?_cons_succ, List.getElem?_nil, List.set_cons_zero, List.set_cons_succ, List.length_cons, List.length_nil, List.length_map, List.replicate_succ, List.replicate_zero, List.cons_append, List.nil_append, List.map_cons, List.map_nil, Nat.reduceAdd, Nat.zero_add, ne_eq, not_true_eq_false, not_false_eq_true, decide_false, decide_true, Bool.or_self, Bool.or_false, Bool.false_or, Bool.and_self, Bool.false_eq_true, if_false, if_true, reduceIte, szOk_2, szOk_1, szOk_0, szOk_3, lk_left, lk_seed, lk_cells, lk_spot, pt_left, pt_spot, len_mL, mSet, true_and, and_true, List.getD_eq_getElem?_getD, Option.getD_some, seqOf_l, seqOf_t, ↓hIx_sq, ↓hLen_sq, seqOf_sq, ↓hTuple_sq, fz_fr2, gRep_ap, eq_self, gSorted_ap, gSortD_ap, gSortS_ap, ownSet_pl, eDict1_ap, eChain_ap, gInD_ap, gInS_ap, mPop_ap, mAdd_ap, eSet0_ap, sWhile_ap, itEnumX_ap, eM2_ap, eTR1_ap, eLR1_ap, hLtD, gDGetT_ap, ownDctT_pl, gInT_ap, keyT_t, keysOf_nil, keysOf_cons, eDctT0_ap, view_dT, eDict1T_ap, hIsB, hNotB, sPar3_ap, nD_cons, nD_nil, hCmp_ii, d0, sh0, s1, q0, q2, ↓c2, z, sh_int, q1]
    · have t : tc [a, b] = 0 := by simp [tc, c]
      rw [t]
      rw [decide_eq_false c] at q1
      simp only [sNop_ap, row?_ap, eRowM_ap, sRowSub_ap, eRowLen_ap, eRowNil_ap, isUn_un, ixN3_0, ixN3_1, ixN3_2, gRowsD_ap, rowsOf_nil, rowsOf_cons, eMeth_ap, isL_l, isS_s, mAppend_ap, mExtend_ap, ownL_fr, gIn_ap, ownDct_fr, gT_apL, hSorted, hTuple, hList, hRev, hRevX, hEqS, sSeq_ap, sBrk_ap, sCnt_ap, sRet_ap, sRetN_ap, sDrop_ap, sIf_ap, sSet_ap, isMu_ap, sAsg_ap, gN_ap, gT_ap, gTs, sPar_ap, sSub_ap, own?_ap, putO_t, putO_f, sAug_ap, sFor_ap, eC_ap, eVar_ap, ePl_ap, eMv_ap, opS_ap, sNil_ap, sCons_ap, gOp_ap, vws_nil, vws_cons, vw_im, vw_fr, vw_frd, vw_frs, vw_frr, vw_pl, view_l, view_d, view_s, view_r, rs_d, rs_l, sl_im, sl_fr, fz_im, fz_fr, fzs_nil, fzs_cons, toD_l, toD_r, gTupD_ap, gLstD_ap, gIx_ap, gDGet_ap, ownDct_pl, keyOf_i, keyOf_s, gMul_ap, tB_ap, tNot_ap, tAnd_ap, tOr_ap, eNot_ap, eAnd_ap, eOr_ap, eIf_ap, tY_ap, eSl_ap, oN_ap, oI_ap, itOf_ap, itR1_ap, itR2_ap, eLc_ap, isIm_ap, eCall_ap, eCallM_ap, fnOf_ap, isPl_im, isPl_fr, eDspl_ap, sArgs_nil, sArgs_cons, mkD_nil, mkD_cons, keepMu_mu, keepMu_im, projS_nil, projS_cons, hAdd, hSub, hMul, hDiv, hMod, hPow, hNeg, hCmp, hEq, hNe, hIsN, hNotN, hIx, hLen, hInt, hAbs, hGcd, hMin, hMax, hCut, isi_ii, isi_ib, isi_tt, isi_ll, isM_un, isM_im, isM_ow, isM_mu, List.getElem?_cons_zero, List.getElem?_cons_succ, List.getElem?_nil, List.set_cons_zero, List.set_cons_succ, List.length_cons, List.length_nil, List.length_map, List.replicate_succ, List.replicate_zero, List.cons_append, List.nil_append, List.map_cons, List.map_nil, Nat.reduceAdd, Nat.zero_add, ne_eq, not_true_eq_false, not_false_eq_true, decide_false, decide_true, Bool.or_self, Bool.or_false, Bool.false_or, Bool.and_self, Bool.false_eq_true, if_false, if_true, reduceIte, szOk_2, szOk_1, szOk_0, szOk_3, lk_left, lk_seed, lk_cells, lk_spot, pt_left, pt_spot, len_mL, mSet, true_and, and_true, List.getD_eq_getElem?_getD, Option.getD_some, seqOf_l, seqOf_t, ↓hIx_sq, ↓hLen_sq, seqOf_sq, ↓hTuple_sq, fz_fr2, gRep_ap, eq_self, gSorted_ap, gSortD_ap, gSortS_ap, ownSet_pl, eDict1_ap, eChain_ap, gInD_ap, gInS_ap, mPop_ap, mAdd_ap, eSet0_ap, sWhile_ap, itEnumX_ap, eM2_ap, eTR1_ap, eLR1_ap, hLtD, gDGetT_ap, ownDctT_pl, gInT_ap, keyT_t, keysOf_nil, keysOf_cons, eDctT0_ap, view_dT, eDict1T_ap, hIsB, hNotB, sPar3_ap, nD_cons, nD_nil, hCmp_ii, d0, sh0, s1, q0, q2, ↓c2, z, sh_int, q1]
      rfl
  | [a, b, c], so, h2 =>
    have ha := h2 a (by simp)
    have hab : a ≤ b := (List.pairwise_cons.mp so).1 b (by simp)
    have hbc : b ≤ c := (List.pairwise_cons.mp (List.pairwise_cons.mp so).2).1 c (by simp)
    have d0 : decide (((0 + 1 + 1 + 1 : Nat) : Int) < 3) = false := by decide
    have d1 : decide ((3 : Int) < ((0 + 1 + 1 + 1 : Nat) : Int)) = false := by decide
    by_cases c1 : 2 < a
    · have t : tc [a, b, c] = 0 := by simp only [tc, if_pos c1]
      have d2 : decide ((2 : Int) < (a : Int)) = true := decide_eq_true (by omega)
      rw [t]
      simp only [sNop_ap, row?_ap, eRowM_ap, sRowSub_ap, eRowLen_ap, eRowNil_ap, isUn_un, ixN3_0, ixN3_1, ixN3_2, gRowsD_ap, rowsOf_nil, rowsOf_cons, eMeth_ap, isL_l, isS_s, mAppend_ap, mExtend_ap, ownL_fr, gIn_ap, ownDct_fr, gT_apL, hSorted, hTuple, hList, hRev, hRevX, hEqS, sSeq_ap, sBrk_ap, sCnt_ap, sRet_ap, sRetN_ap, sDrop_ap, sIf_ap, sSet_ap, isMu_ap, sAsg_ap, gN_ap, gT_ap, gTs, sPar_ap, sSub_ap, own?_ap, putO_t, putO_f, sAug_ap, sFor_ap, eC_ap, eVar_ap, ePl_ap, eMv_ap, opS_ap, sNil_ap, sCons_ap, gOp_ap, vws_nil, vws_cons, vw_im, vw_fr, vw_frd, vw_frs, vw_frr, vw_pl, view_l, view_d, view_s, view_r, rs_d, rs_l, sl_im, sl_fr, fz_im, fz_fr, fzs_nil, fzs_cons, toD_l, toD_r, gTupD_ap, gLstD_ap, gIx_ap, gDGet_ap, ownDct_pl, keyOf_i, keyOf_s, gMul_ap, tB_ap, tNot_ap, tAnd_ap, tOr_ap, eNot_ap, eAnd_ap, eOr_ap, eIf_ap, tY_ap, eSl_ap, oN_ap, oI_ap, itOf_ap, itR1_ap, itR2_ap, eLc_ap, isIm_ap, eCall_ap, eCallM_ap, fnOf_ap, isPl_im, isPl_fr, eDspl_ap, sArgs_nil, sArgs_cons, mkD_nil, mkD_cons, keepMu_mu, keepMu_im, projS_nil, projS_cons, hAdd, hSub, hMul, hDiv, hMod, hPow, hNeg, hCmp, hEq, hNe, hIsN, hNotN, hIx, hLen, hInt, hAbs, hGcd, hMin, hMax, hCut, isi_ii, isi_ib, isi_tt, isi_ll, isM_un, isM_im, isM_ow, isM_mu, List.getElem?_cons_zero, List.getElem?_cons_succ, List.getElem?_nil, List.set_cons_zero, List.set_cons_succ, List.length_cons, List.length_nil, List.length_map, List.replicate_succ, List.replicate_zero, List.cons_append, List.nil_append, List.map_cons, List.map_nil, Nat.reduceAdd, Nat.zero_add, ne_eq, not_true_eq_false, not_false_eq_true, decide_false, decide_true, Bool.or_self, Bool.or_false, Bool.false_or, Bool.and_self, Bool.false_eq_true, if_false, if_true, reduceIte, szOk_2, szOk_1, szOk_0, szOk_3, lk_left, lk_seed, lk_cells, lk_spot, pt_left, pt_spot, len_mL, mSet, true_and, and_true, List.getD_eq_getElem?_getD, Option.getD_some, seqOf_l, seqOf_t, ↓hIx_sq, ↓hLen_sq, seqOf_sq, ↓hTuple_sq, fz_fr2, gRep_ap, eq_self, gSorted_ap, gSortD_ap, gSortS_ap, ownSet_pl, eDict1_ap, eChain_ap, gInD_ap, gInS_ap, mPop_ap, mAdd_ap, eSet0_ap, sWhile_ap, itEnumX_ap, eM2_ap, eTR1_ap, eLR1_ap, hLtD, gDGetT_ap, ownDctT_pl, gInT_ap, keyT_t, keysOf_nil, keysOf_cons, eDctT0_ap, view_dT, eDict1T_ap, hIsB, hNotB, sPar3_ap, nD_cons, nD_nil, hCmp_ii, d0, d1, d2, a0]
      rfl
    · have d2 : decide ((2 : Int) < (a : Int)) = false := decide_eq_false (by omega)
      have q1 := eqv_nat b 2
      have q1 : PyData.eqv (.int (b : Nat)) (.int 2) = decide (b = 2) := q1
      by_cases c2 : b = 2
      · have t : tc [a, b, c] = 2 * c := by simp only [tc, if_neg c1, if_pos c2]
        have m : mulOk 2 (c : Int) = true := mulOk_l (by decide) (by decide)
        rw [t]
        rw [decide_eq_true c2] at q1
        simp only [sNop_ap, row?_ap, eRowM_ap, sRowSub_ap, eRowLen_ap, eRowNil_ap, isUn_un, ixN3_0, ixN3_1, ixN3_2, gRowsD_ap, rowsOf_nil, rowsOf_cons, eMeth_ap, isL_l, isS_s, mAppend_ap, mExtend_ap, ownL_fr, gIn_ap, ownDct_fr, gT_apL, hSorted, hTuple, hList, hRev, hRevX, hEqS, sSeq_ap, sBrk_ap, sCnt_ap, sRet_ap, sRetN_ap, sDrop_ap, sIf_ap, sSet_ap, isMu_ap, sAsg_ap, gN_ap, gT_ap, gTs, sPar_ap, sSub_ap, own?_ap, putO_t, putO_f, sAug_ap, sFor_ap, eC_ap, eVar_ap, ePl_ap, eMv_ap, opS_ap, sNil_ap, sCons_ap, gOp_ap, vws_nil, vws_cons, vw_im, vw_fr, vw_frd, vw_frs, vw_frr, vw_pl, view_l, view_d, view_s, view_r, rs_d, rs_l, sl_im, sl_fr, fz_im, fz_fr, fzs_nil, fzs_cons, toD_l, toD_r, gTupD_ap, gLstD_ap, gIx_ap, gDGet_ap, ownDct_pl, keyOf_i, keyOf_s, gMul_ap, tB_ap, tNot_ap, tAnd_ap, tOr_ap, eNot_ap, eAnd_ap, eOr_ap, eIf_ap, tY_ap, eSl_ap, oN_ap, oI_ap, itOf_ap, itR1_ap, itR2_ap, eLc_ap, isIm_ap, eCall_ap, eCallM_ap, fnOf_ap, isPl_im, isPl_fr, eDspl_ap, sArgs_nil, sArgs_cons, mkD_nil, mkD_cons, keepMu_mu, keepMu_im, projS_nil, projS_cons, hAdd, hSub, hMul, hDiv, hMod, hPow, hNeg, hCmp, hEq, hNe, hIsN, hNotN, hIx, hLen, hInt, hAbs, hGcd, hMin, hMax, hCut, isi_ii, isi_ib, isi_tt, isi_ll, isM_un, isM_im, isM_ow, isM_mu, List.getElem?_cons_zero, List.getElem?_cons_succ, List.getElem?_nil, List.set_cons_zero, List.set_cons_succ, List.length_cons, List.length_nil, List.length_map, List.replicate_succ, List.replicate_zero, List.cons_append, List.nil_append, List.map_cons, List.map_nil, Nat.reduceAdd, Nat.zero_add, ne_eq, not_true_eq_false, not_false_eq_true, decide_false, decide_true, Bool.or_self, Bool.or_false, Bool.false_or, Bool.and_self, Bool.false_eq_true, if_false, if_true, reduceIte, szOk_2, szOk_1, szOk_0, szOk_3, lk_left, lk_seed, lk_cells, lk_spot, pt_left, pt_spot, len_mL, mSet, true_and, and_true, List.getD_eq_getElem?_getD, Option.getD_some, seqOf_l, seqOf_t, ↓hIx_sq, ↓hLen_sq, seqOf_sq, ↓hTuple_sq, fz_fr2, gRep_ap, eq_self, gSorted_ap, gSortD_ap, gSortS_ap, ownSet_pl, eDict1_ap, eChain_ap, gInD_ap, gInS_ap, mPop_ap, mAdd_ap, eSet0_ap, sWhile_ap, itEnumX_ap, eM2_ap, eTR1_ap, eLR1_ap, hLtD, gDGetT_ap, ownDctT_pl, gInT_ap, keyT_t, keysOf_nil, keysOf_cons, eDctT0_ap, view_dT, eDict1T_ap, hIsB, hNotB, sPar3_ap, nD_cons, nD_nil, hCmp_ii, d0, d1, d2, a0, a1, a2, sh_int, q1, m]
        rfl
      · rw [decide_eq_false c2] at q1
        by_cases c3 : 3 < b
        · have t : tc [a, b, c] = 0 := by simp only [tc, if_neg c1, if_neg c2, if_pos (Or.inl c3)]
          have d3 : decide ((3 : Int) < (b : Int)) = true := decide_eq_true (by omega)
          rw [t]
          simp only [sNop_ap, row?_ap, eRowM_ap, sRowSub_ap, eRowLen_ap, eRowNil_ap, isUn_un, ixN3_0, ixN3_1, ixN3_2, gRowsD_ap, rowsOf_nil, rowsOf_cons, eMeth_ap, isL_l, isS_s, mAppend_ap, mExtend_ap, ownL_fr, gIn_ap, ownDct_fr, gT_apL, hSorted, hTuple, hList, hRev, hRevX, hEqS, sSeq_ap, sBrk_ap, sCnt_ap, sRet_ap, sRetN_ap, sDrop_ap, sIf_ap, sSet_ap, isMu_ap, sAsg_ap, gN_ap, gT_ap, gTs, sPar_ap, sSub_ap, own?_ap, putO_t, putO_f, sAug_ap, sFor_ap, eC_ap, eVar_ap, ePl_ap, eMv_ap, opS_ap, sNil_ap, sCons_ap, gOp_ap, vws_nil, vws_cons, vw_im, vw_fr, vw_frd, vw_frs, vw_frr, vw_pl, view_l, view_d, view_s, view_r, rs_d, rs_l, sl_im, sl_fr, fz_im, fz_fr, fzs_nil, fzs_cons, toD_l, toD_r, gTupD_ap, gLstD_ap, gIx_ap, gDGet_ap, ownDct_pl, keyOf_i, keyOf_s, gMul_ap, tB_ap, tNot_ap, tAnd_ap, tOr_ap, eNot_ap, eAnd_ap, eOr_ap, eIf_ap, tY_ap, eSl_ap, oN_ap, oI_ap, itOf_ap, itR1_ap, itR2_ap, eLc_ap, isIm_ap, eCall_ap, eCallM_ap, fnOf_ap, isPl_im, isPl_fr, eDspl_ap, sArgs_nil, sArgs_cons, mkD_nil, mkD_cons, keepMu_mu, keepMu_im, projS_nil, projS_cons, hAdd, hSub, hMul, hDiv, hMod, hPow, hNeg, hCmp, hEq, hNe, hIsN, hNotN, hIx, hLen, hInt, hAbs, hGcd, hMin, hMax, hCut, isi_ii, isi_ib, isi_tt, isi_ll, isM_un, isM_im, isM_ow, isM_mu, List.getElem?_cons_zero, List.getElem?_cons_succ, List.getElem?_nil, List.set_cons_zero, List.set_cons_succ, List.length_cons, List.length_nil, List.length_map, List.replicate_succ, List.replicate_zero, List.cons_append, List.nil_append, List.map_cons, List.map_nil, Nat.reduceAdd, Nat.zero_add, ne_eq, not_true_eq_false, not_false_eq_true, decide_false, decide_true, Bool.or_self, Bool.or_false, Bool.false_or, Bool.and_self, Bool.false_eq_true, if_false, if_true, reduceIte, szOk_2, szOk_1, szOk_0, szOk_3, lk_left, lk_seed, lk_cells, lk_spot, pt_left, pt_spot, len_mL, mSet, true_and, and_true, List.getD_eq_getElem?_getD, Option.getD_some, seqOf_l, seqOf_t, ↓hIx_sq, ↓hLen_sq, seqOf_sq, ↓hTuple_sq, fz_fr2, gRep_ap, eq_self, gSorted_ap, gSortD_ap, gSortS_ap, ownSet_pl, eDict1_ap, eChain_ap, gInD_ap, gInS_ap, mPop_ap, mAdd_ap, eSet0_ap, sWhile_ap, itEnumX_ap, eM2_ap, eTR1_ap, eLR1_ap, hLtD, gDGetT_ap, ownDctT_pl, gInT_ap, keyT_t, keysOf_nil, keysOf_cons, eDctT0_ap, view_dT, eDict1T_ap, hIsB, hNotB, sPar3_ap, nD_cons, nD_nil, hCmp_ii, d0, d1, d2, d3, a0, a1, a2, sh_int, q1]
          rfl
        · have d3 : decide ((3 : Int) < (b : Int)) = false := decide_eq_false (by omega)
          by_cases c4 : 5 < c
          · have t : tc [a, b, c] = 0 := by simp only [tc, if_neg c1, if_neg c2, if_pos (Or.inr c4)]
            have d4 : decide ((5 : Int) < (c : Int)) = true := decide_eq_true (by omega)
            rw [t]
            simp only [sNop_ap, row?_ap, eRowM_ap, sRowSub_ap, eRowLen_ap, eRowNil_ap, isUn_un, ixN3_0, ixN3_1, ixN3_2, gRowsD_ap, rowsOf_nil, rowsOf_cons, eMeth_ap, isL_l, isS_s, mAppend_ap, mExtend_ap, ownL_fr, gIn_ap, ownDct_fr, gT_apL, hSorted, hTuple, hList, hRev, hRevX, hEqS, sSeq_ap, sBrk_ap, sCnt_ap, sRet_ap, sRetN_ap, sDrop_ap, sIf_ap, sSet_ap, isMu_ap, sAsg_ap, gN_ap, gT_ap, gTs, sPar_ap, sSub_ap, own?_ap, putO_t, putO_f, sAug_ap, sFor_ap, eC_ap, eVar_ap, ePl_ap, eMv_ap, opS_ap, sNil_ap, sCons_ap, gOp_ap, vws_nil, vws_cons, vw_im, vw_fr, vw_frd, vw_frs, vw_frr, vw_pl, view_l, view_d, view_s, view_r, rs_d, rs_l, sl_im, sl_fr, fz_im, fz_fr, fzs_nil, fzs_cons, toD_l, toD_r, gTupD_ap, gLstD_ap, gIx_ap, gDGet_ap, ownDct_pl, keyOf_i, keyOf_s, gMul_ap, tB_ap, tNot_ap, tAnd_ap, tOr_ap, eNot_ap, eAnd_ap, eOr_ap, eIf_ap, tY_ap, eSl_ap, oN_ap, oI_ap, itOf_ap, itR1_ap, itR2_ap, eLc_ap, isIm_ap, eCall_ap, eCallM_ap, fnOf_ap, isPl_im, isPl_fr, eDspl_ap, sArgs_nil, sArgs_cons, mkD_nil, mkD_cons, keepMu_mu, keepMu_im, projS_nil, projS_cons, hAdd, hSub, hMul, hDiv, hMod, hPow, hNeg, hCmp, hEq, hNe, hIsN, hNotN, hIx, hLen, hInt, hAbs, hGcd, hMin, hMax, hCut, isi_ii, isi_ib, isi_tt, isi_ll, isM_un, isM_im, isM_ow, isM_mu, List.getElem?_cons_zero, List.getElem?_cons_succ, List.getElem?_nil, List.set_cons_zero, List.set_cons_succ, List.length_cons, List.length_nil, List.length_map, List.replicate_succ, List.replicate_zero, List.cons_append, List.nil_append, List.map_cons, List.map_nil, Nat.reduceAdd, Nat.zero_add, ne_eq, not_true_eq_false, not_false_eq_true, decide_false, decide_true, Bool.or_self, Bool.or_false, Bool.false_or, Bool.and_self, Bool.false_eq_true, if_false, if_true, reduceIte, szOk_2, szOk_1, szOk_0, szOk_3, lk_left, lk_seed, lk_cells, lk_spot, pt_left, pt_spot, len_mL, mSet, true_and, and_true, List.getD_eq_getElem?_getD, Option.getD_some, seqOf_l, seqOf_t, ↓hIx_sq, ↓hLen_sq, seqOf_sq, ↓hTuple_sq, fz_fr2, gRep_ap, eq_self, gSorted_ap, gSortD_ap, gSortS_ap, ownSet_pl, eDict1_ap, eChain_ap, gInD_ap, gInS_ap, mPop_ap, mAdd_ap, eSet0_ap, sWhile_ap, itEnumX_ap, eM2_ap, eTR1_ap, eLR1_ap, hLtD, gDGetT_ap, ownDctT_pl, gInT_ap, keyT_t, keysOf_nil, keysOf_cons, eDctT0_ap, view_dT, eDict1T_ap, hIsB, hNotB, sPar3_ap, nD_cons, nD_nil, hCmp_ii, d0, d1, d2, d3, d4, a0, a1, a2, sh_int, q1]
            rfl
          · have d4 : decide ((5 : Int) < (c : Int)) = false := decide_eq_false (by omega)
            have a2' : a = 2 := by omega
            have b3 : b = 3 := by omega
            subst a2' b3
            have hc : c = 3 ∨ c = 4 ∨ c = 5 := by omega
            rcases hc with rfl | rfl | rfl
            · rw [show tc [2, 3, 3] = 12 from rfl]
              simp only [sNop_ap, row?_ap, eRowM_ap, sRowSub_ap, eRowLen_ap, eRowNil_ap, isUn_un, ixN3_0, ixN3_1, ixN3_2, gRowsD_ap, rowsOf_nil, rowsOf_cons, eMeth_ap, isL_l, isS_s, mAppend_ap, mExtend_ap, ownL_fr, gIn_ap, ownDct_fr, gT_apL, hSorted, hTuple, hList, hRev, hRevX, hEqS, sSeq_ap, sBrk_ap, sCnt_ap, sRet_ap, sRetN_ap, sDrop_ap, sIf_ap, sSet_ap, isMu_ap, sAsg_ap, gN_ap, gT_ap, gTs, sPar_ap, sSub_ap, own?_ap, putO_t, putO_f, sAug_ap, sFor_ap, eC_ap, eVar_ap, ePl_ap, eMv_ap, opS_ap, sNil_ap, sCons_ap, gOp_ap, vws_nil, vws_cons, vw_im, vw_fr, vw_frd, vw_frs, vw_frr, vw_pl, view_l, view_d, view_s, view_r, rs_d, rs_l, sl_im, sl_fr, fz_im, fz_fr, fzs_nil, fzs_cons, toD_l, toD_r, gTupD_ap, gLstD_ap, gIx_ap, gDGet_ap, ownDct_pl, keyOf_i, keyOf_s, gMul_ap, tB_ap, tNot_ap, tAnd_ap, tOr_ap, eNot_ap, eAnd_ap, eOr_ap, eIf_ap, tY_ap, eSl_ap, oN_ap, oI_ap, itOf_ap, itR1_ap, itR2_ap, eLc_ap, isIm_ap, eCall_ap, eCallM_ap, fnOf_ap, isPl_im, isPl_fr, eDspl_ap, sArgs_nil, sArgs_cons, mkD_nil, mkD_cons, keepMu_mu, keepMu_im, projS_nil, projS_cons, hAdd, hSub, hMul, hDiv, hMod, hPow, hNeg, hCmp, hEq, hNe, hIsN, hNotN, hIx, hLen, hInt, hAbs, hGcd, hMin, hMax, hCut, isi_ii, isi_ib, isi_tt, isi_ll, isM_un, isM_im, isM_ow, isM_mu, List.getElem?_cons_zero, List.getElem?_cons_succ, List.getElem?_nil, List.set_cons_zero, List.set_cons_succ, List.length_cons, List.length_nil, List.length_map, List.replicate_succ, List.replicate_zero, List.cons_append, List.nil_append, List.map_cons, List.map_nil, Nat.reduceAdd, Nat.zero_add, ne_eq, not_true_eq_false, not_false_eq_true, decide_false, decide_true, Bool.or_self, Bool.or_false, Bool.false_or, Bool.and_self, Bool.false_eq_true, if_false, if_true, reduceIte, szOk_2, szOk_1, szOk_0, szOk_3, lk_left, lk_seed, lk_cells, lk_spot, pt_left, pt_spot, len_mL, mSet, true_and, and_true, List.getD_eq_getElem?_getD, Option.getD_some, seqOf_l, seqOf_t, ↓hIx_sq, ↓hLen_sq, seqOf_sq, ↓hTuple_sq, fz_fr2, gRep_ap, eq_self, gSorted_ap, gSortD_ap, gSortS_ap, ownSet_pl, eDict1_ap, eChain_ap, gInD_ap, gInS_ap, mPop_ap, mAdd_ap, eSet0_ap, sWhile_ap, itEnumX_ap, eM2_ap, eTR1_ap, eLR1_ap, hLtD, gDGetT_ap, ownDctT_pl, gInT_ap, keyT_t, keysOf_nil, keysOf_cons, eDctT0_ap, view_dT, eDict1T_ap, hIsB, hNotB, sPar3_ap, nD_cons, nD_nil, hCmp_ii, d0, d1, d2, d3, d4, a0, a1, a2, sh_int, q1]
              rfl
            · rw [show tc [2, 3, 4] = 24 from rfl]
              simp only [sNop_ap, row?_ap, eRowM_ap, sRowSub_ap, eRowLen_ap, eRowNil_ap, isUn_un, ixN3_0, ixN3_1, ixN3_2, gRowsD_ap, rowsOf_nil, rowsOf_cons, eMeth_ap, isL_l, isS_s, mAppend_ap, mExtend_ap, ownL_fr, gIn_ap, ownDct_fr, gT_apL, hSorted, hTuple, hList, hRev, hRevX, hEqS, sSeq_ap, sBrk_ap, sCnt_ap, sRet_ap, sRetN_ap, sDrop_ap, sIf_ap, sSet_ap, isMu_ap, sAsg_ap, gN_ap, gT_ap, gTs, sPar_ap, sSub_ap, own?_ap, putO_t, putO_f, sAug_ap, sFor_ap, eC_ap, eVar_ap, ePl_ap, eMv_ap, opS_ap, sNil_ap, sCons_ap, gOp_ap, vws_nil, vws_cons, vw_im, vw_fr, vw_frd, vw_frs, vw_frr, vw_pl, view_l, view_d, view_s, view_r, rs_d, rs_l, sl_im, sl_fr, fz_im, fz_fr, fzs_nil, fzs_cons, toD_l, toD_r, gTupD_ap, gLstD_ap, gIx_ap, gDGet_ap, ownDct_pl, keyOf_i, keyOf_s, gMul_ap, tB_ap, tNot_ap, tAnd_ap, tOr_ap, eNot_ap, eAnd_ap, eOr_ap, eIf_ap, tY_ap, eSl_ap, oN_ap, oI_ap, itOf_ap, itR1_ap, itR2_ap, eLc_ap, isIm_ap, eCall_ap, eCallM_ap, fnOf_ap, isPl_im, isPl_fr, eDspl_ap, sArgs_nil, sArgs_cons, mkD_nil, mkD_cons, keepMu_mu, keepMu_im, projS_nil, projS_cons, hAdd, hSub, hMul, hDiv, hMod, hPow, hNeg, hCmp, hEq, hNe, hIsN, hNotN, hIx, hLen, hInt, hAbs, hGcd, hMin, hMax, hCut, isi_ii, isi_ib, isi_tt, isi_ll, isM_un, isM_im, isM_ow, isM_mu, List.getElem?_cons_zero, List.getElem?_cons_succ, List.getElem?_nil, List.set_cons_zero, List.set_cons_succ, List.length_cons, List.length_nil, List.length_map, List.replicate_succ, List.replicate_zero, List.cons_append, List.nil_append, List.map_cons, List.map_nil, Nat.reduceAdd, Nat.zero_add, ne_eq, not_true_eq_false, not_false_eq_true, decide_false, decide_true, Bool.or_self, Bool.or_false, Bool.false_or, Bool.and_self, Bool.false_eq_true, if_false, if_true, reduceIte, szOk_2, szOk_1, szOk_0, szOk_3, lk_left, lk_seed, lk_cells, lk_spot, pt_left, pt_spot, len_mL, mSet, true_and, and_true, List.getD_eq_getElem?_getD, Option.getD_some, seqOf_l, seqOf_t, ↓hIx_sq, ↓hLen_sq, seqOf_sq, ↓hTuple_sq, fz_fr2, gRep_ap, eq_self, gSorted_ap, gSortD_ap, gSortS_ap, ownSet_pl, eDict1_ap, eChain_ap, gInD_ap, gInS_ap, mPop_ap, mAdd_ap, eSet0_ap, sWhile_ap, itEnumX_ap, eM2_ap, eTR1_ap, eLR1_ap, hLtD, gDGetT_ap, ownDctT_pl, gInT_ap, keyT_t, keysOf_nil, keysOf_cons, eDctT0_ap, view_dT, eDict1T_ap, hIsB, hNotB, sPar3_ap, nD_cons, nD_nil, hCmp_ii, d0, d1, d2, d3, d4, a0, a1, a2, sh_int, q1]
              rfl
            · rw [show tc [2, 3, 5] = 60 from rfl]
              simp only [sNop_ap, row?_ap, eRowM_ap, sRowSub_ap, eRowLen_ap, eRowNil_ap, isUn_un, ixN3_0, ixN3_1, ixN3_2, gRowsD_ap, rowsOf_nil, rowsOf_cons, eMeth_ap, isL_l, isS_s, mAppend_ap, mExtend_ap, ownL_fr, gIn_ap, ownDct_fr, gT_apL, hSorted, hTuple, hList, hRev, hRevX, hEqS, sSeq_ap, sBrk_ap, sCnt_ap, sRet_ap, sRetN_ap, sDrop_ap, sIf_ap, sSet_ap, isMu_ap, sAsg_ap, gN_ap, gT_ap, gTs, sPar_ap, sSub_ap, own?_ap, putO_t, putO_f, sAug_ap, sFor_ap, eC_ap, eVar_ap, ePl_ap, eMv_ap, opS_ap, sNil_ap, sCons_ap, gOp_ap, vws_nil, vws_cons, vw_im, vw_fr, vw_frd, vw_frs, vw_frr, vw_pl, view_l, view_d, view_s, view_r, rs_d, rs_l, sl_im, sl_fr, fz_im, fz_fr, fzs_nil, fzs_cons, toD_l, toD_r, gTupD_ap, gLstD_ap, gIx_ap, gDGet_ap, ownDct_pl, keyOf_i, keyOf_s, gMul_ap, tB_ap, tNot_ap, tAnd_ap, tOr_ap, eNot_ap, eAnd_ap, eOr_ap, eIf_ap, tY_ap, eSl_ap, oN_ap, oI_ap, itOf_ap, itR1_ap, itR2_ap, eLc_ap, isIm_ap, eCall_ap, eCallM_ap, fnOf_ap, isPl_im, isPl_fr, eDspl_ap, sArgs_nil, sArgs_cons, mkD_nil, mkD_cons, keepMu_mu, keepMu_im, projS_nil, projS_cons, hAdd, hSub, hMul, hDiv, hMod, hPow, hNeg, hCmp, hEq, hNe, hIsN, hNotN, hIx, hLen, hInt, hAbs, hGcd, hMin, hMax, hCut, isi_ii, isi_ib, isi_tt, isi_ll, isM_un, isM_im, isM_ow, isM_mu, List.getElem?_cons_zero, List.getElem?_cons_succ, List.getElem?_nil, List.set_cons_zero, List.set_cons_succ, List.length_cons, List.length_nil, List.length_map, List.replicate_succ, List.replicate_zero, List.cons_append, List.nil_append, List.map_cons, List.map_nil, Nat.reduceAdd, Nat.zero_add, ne_eq, not_true_eq_false, not_false_eq_true, decide_false, decide_true, Bool.or_self, Bool.or_false, Bool.false_or, Bool.and_self, Bool.false_eq_true, if_false, if_true, reduceIte, szOk_2, szOk_1, szOk_0, szOk_3, lk_left, lk_seed, lk_cells, lk_spot, pt_left, pt_spot, len_mL, mSet, true_and, and_true, List.getD_eq_getElem?_getD, Option.getD_some, seqOf_l, seqOf_t, ↓hIx_sq, ↓hLen_sq, seqOf_sq, ↓hTuple_sq, fz_fr2, gRep_ap, eq_self, gSorted_ap, gSortD_ap, gSortS_ap, ownSet_pl, eDict1_ap, eChain_ap, gInD_ap, gInS_ap, mPop_ap, mAdd_ap, eSet0_ap, sWhile_ap, itEnumX_ap, eM2_ap, eTR1_ap, eLR1_ap, hLtD, gDGetT_ap, ownDctT_pl, gInT_ap, keyT_t, keysOf_nil, keysOf_cons, eDctT0_ap, view_dT, eDict1T_ap, hIsB, hNotB, sPar3_ap, nD_cons, nD_nil, hCmp_ii, d0, d1, d2, d3, d4, a0, a1, a2, sh_int, q1]
              rfl
  | a :: b :: c :: d :: l, _, _ =>
    have t : tc (a :: b :: c :: d :: l) = 0 := rfl
    have d0 : decide (((l.length + 1 + 1 + 1 + 1 : Nat) : Int) < 3) = false := decide_eq_false (by omega)
    have d1 : decide ((3 : Int) < ((l.length + 1 + 1 + 1 + 1 : Nat) : Int)) = true := decide_eq_true (by omega)
    rw [t]
    simp only [sNop_ap, row?_ap, eRowM_ap, sRowSub_ap, eRowLen_ap, eRowNil_ap, isUn_un, ixN3_0, ixN3_1, ixN3_2, gRowsD_ap, rowsOf_nil, rowsOf_cons, eMeth_ap, isL_l, isS_s, mAppend_ap, mExtend_ap, ownL_fr, gIn_ap, ownDct_fr, gT_apL, hSorted, hTuple, hList, hRev, hRevX, hEqS, sSeq_ap, sBrk_ap, sCnt_ap, sRet_ap, sRetN_ap, sDrop_ap, sIf_ap, sSet_ap, isMu_ap, sAsg_ap, gN_ap, gT_ap, gTs, sPar_ap, sSub_ap, own?_ap, putO_t, putO_f, sAug_ap, sFor_ap, eC_ap, eVar_ap, ePl_ap, eMv_ap, opS_ap, sNil_ap, sCons_ap, gOp_ap, vws_nil, vws_cons, vw_im, vw_fr, vw_frd, vw_frs, vw_frr, vw_pl, view_l, view_d, view_s, view_r, rs_d, rs_l, sl_im, sl_fr, fz_im, fz_fr, fzs_nil, fzs_cons, toD_l, toD_r, gTupD_ap, gLstD_ap, gIx_ap, gDGet_ap, ownDct_pl, keyOf_i, keyOf_s, gMul_ap, tB_ap, tNot_ap, tAnd_ap, tOr_ap, eNot_ap, eAnd_ap, eOr_ap, eIf_ap, tY_ap, eSl_ap, oN_ap, oI_ap, itOf_ap, itR1_ap, itR2_ap, eLc_ap, isIm_ap, eCall_ap, eCallM_ap, fnOf_ap, isPl_im, isPl_fr, eDspl_ap, sArgs_nil, sArgs_cons, mkD_nil, mkD_cons, keepMu_mu, keepMu_im, projS_nil, projS_cons, hAdd, hSub, hMul, hDiv, hMod, hPow, hNeg, hCmp, hEq, hNe, hIsN, hNotN, hIx, hLen, hInt, hAbs, hGcd, hMin, hMax, hCut, isi_ii, isi_ib, isi_tt, isi_ll, isM_un, isM_im, isM_ow, isM_mu, List.getElem?_cons_zero, List.getElem?_cons_succ, List.getElem?_nil, List.set_cons_zero, List.set_cons_succ, List.length_cons, List.length_nil, List.length_map, List.replicate_succ, List.replicate_zero, List.cons_append, List.nil_append, List.map_cons, List.map_nil, Nat.reduceAdd, Nat.zero_add, ne_eq, not_true_eq_false, not_false_eq_true, decide_false, decide_true, Bool.or_self, Bool.or_false, Bool.false_or, Bool.and_self, Bool.false_eq_true, if_false, if_true, reduceIte, szOk_2, szOk_1, szOk_0, szOk_3, lk_left, lk_seed, lk_cells, lk_spot, pt_left, pt_spot, len_mL, mSet, true_and, and_true, List.getD_eq_getElem?_getD, Option.getD_some, seqOf_l, seqOf_t, ↓hIx_sq, ↓hLen_sq, seqOf_sq, ↓hTuple_sq, fz_fr2, gRep_ap, eq_self, gSorted_ap, gSortD_ap, gSortS_ap, ownSet_pl, eDict1_ap, eChain_ap, gInD_ap, gInS_ap, mPop_ap, mAdd_ap, eSet0_ap, sWhile_ap, itEnumX_ap, eM2_ap, eTR1_ap, eLR1_ap, hLtD, gDGetT_ap, ownDctT_pl, gInT_ap, keyT_t, keysOf_nil, keysOf_cons, eDctT0_ap, view_dT, eDict1T_ap, hIsB, hNotB, sPar3_ap, nD_cons, hCmp_ii, nD_len, d0, d1]
    rfl

/-! ### bad names by the law -/
theorem law_is_bad_eq (h : Nat) (cs : List Nat) (rows : List (List Nat)) (x : Nat) : f_law_is_bad [.im (nmD h cs rows x)] = some (.im (.bool (bdN h cs rows x)), [.un]) := by
  have sh1 := sh_nDT cs
  have sh2 := sh_tuD rows
  have sh0 : SeqAt.shaped (.tuple []) = true := sh_nDT []
  have t1 := fun (s3 : Sl) E => tail5 E (.im (nmD h cs rows x)) (.im (.int (h : Nat))) (.im (.tuple (nD cs))) s3 (.im (.int (x : Nat)))
  unfold f_law_is_bad b_law_is_bad bdN
  unfold nmD at t1 ⊢
  by_cases c1 : h = 0 ∧ x = 0
  · obtain ⟨rfl, rfl⟩ := c1
    have d1 : decide ((0 : Int) < ((0 : Nat) : Int) + ((0 : Nat) : Int)) = false := by decide
    match rows with
    | [] =>
      have q2 : PyData.eqv (.tuple []) (.tuple []) = true := by decide
      have l0 : decide ((1 : Int) < ((0 : Nat) : Int)) = false := by decide
      have n0 : tuD [] = [] := rfl
      rw [n0] at t1 ⊢
      have t1 := t1 (.im (.tuple [])) cs
      simp only [↓t1, sNop_ap, row?_ap, eRowM_ap, sRowSub_ap, eRowLen_ap, eRowNil_ap, isUn_un, ixN3_0, ixN3_1, ixN3_2, gRowsD_ap, rowsOf_nil, rowsOf_cons, eMeth_ap, isL_l, isS_s, mAppend_ap, mExtend_ap, ownL_fr, gIn_ap, ownDct_fr, gT_apL, hSorted, hTuple, hList, hRev, hRevX, hEqS, sSeq_ap, sBrk_ap, sCnt_ap, sRet_ap, sRetN_ap, sDrop_ap, sIf_ap, sSet_ap, isMu_ap, sAsg_ap, gN_ap, gT_ap, gTs, sPar_ap, sSub_ap, own?_ap, putO_t, putO_f, sAug_ap, sFor_ap, eC_ap, eVar_ap, ePl_ap, eMv_ap, opS_ap, sNil_ap, sCons_ap, gOp_ap, vws_nil, vws_cons, vw_im, vw_fr, vw_frd, vw_frs, vw_frr, vw_pl, view_l, view_d, view_s, view_r, rs_d, rs_l, sl_im, sl_fr, fz_im, fz_fr, fzs_nil, fzs_cons, toD_l, toD_r, gTupD_ap, gLstD_ap, gIx_ap, gDGet_ap, ownDct_pl, keyOf_i, keyOf_s, gMul_ap, tB_ap, tNot_ap, tAnd_ap, tOr_ap, eNot_ap, eAnd_ap, eOr_ap, eIf_ap, tY_ap, eSl_ap, oN_ap, oI_ap, itOf_ap, itR1_ap, itR2_ap, eLc_ap, isIm_ap, eCall_ap, eCallM_ap, fnOf_ap, isPl_im, isPl_fr, eDspl_ap, sArgs_nil, sArgs_cons, mkD_nil, mkD_cons, keepMu_mu, keepMu_im, projS_nil, projS_cons, hAdd, hSub, hMul, hDiv, hMod, hPow, hNeg, hCmp, hEq, hNe, hIsN, hNotN, hIx, hLen, hInt, hAbs, hGcd, hMin, hMax, hCut, isi_ii, isi_ib, isi_tt, isi_ll, isM_un, isM_im, isM_ow, isM_mu, List.getElem?_cons_zero, List.getElem?_cons_succ, List.getElem?_nil, List.set_cons_zero, List.set_cons_succ, List.length_cons, List.length_nil, List.length_map, List.replicate_succ, List.replicate_zero, List.cons_append, List.nil_append, List.map_cons, List.map_nil, Nat.reduceAdd, Nat.zero_add, ne_eq, not_true_eq_false, not_false_eq_true, decide_false, decide_true, Bool.or_self, Bool.or_false, Bool.false_or, Bool.and_self, Bool.false_eq_true, if_false, if_true, reduceIte, szOk_2, szOk_1, szOk_0, szOk_3, lk_left, lk_seed, lk_cells, lk_spot, pt_left, pt_spot, len_mL, mSet, true_and, and_true, List.getD_eq_getElem?_getD, Option.getD_some, seqOf_l, seqOf_t, ↓hIx_sq, ↓hLen_sq, seqOf_sq, ↓hTuple_sq, fz_fr2, gRep_ap, eq_self, gSorted_ap, gSortD_ap, gSortS_ap, ownSet_pl, eDict1_ap, eChain_ap, gInD_ap, gInS_ap, mPop_ap, mAdd_ap, eSet0_ap, sWhile_ap, itEnumX_ap, eM2_ap, eTR1_ap, eLR1_ap, hLtD, gDGetT_ap, ownDctT_pl, gInT_ap, keyT_t, keysOf_nil, keysOf_cons, eDctT0_ap, view_dT, eDict1T_ap, hIsB, hNotB, sPar3_ap, hCmp_ii, d1, l0, sh0, q2, Bool.not_true, Bool.and_self, Bool.true_and, decide_true]
    | [R] =>
      have q2 : PyData.eqv (.tuple (tuD [R])) (.tuple []) = false := (tt_ne [R]).trans (decide_eq_false (by simp))
      have l0 : decide ((1 : Int) < ((0 + 1 : Nat) : Int)) = false := by decide
      have n1 : tuD [R] = [.tuple (nD R)] := rfl
      have a0 : ∀ x : D, atI [x] 0 = some x := fun _ => rfl
      rw [n1] at t1 q2 sh2 ⊢
      by_cases c3 : cs = []
      · subst c3
        have t1 := t1 (.im (.tuple [.tuple (nD R)])) R
        have q1 : PyData.eqv (.tuple []) (.tuple []) = true := by decide
        rw [nD_nil] at t1 ⊢
        simp only [↓t1, sNop_ap, row?_ap, eRowM_ap, sRowSub_ap, eRowLen_ap, eRowNil_ap, isUn_un, ixN3_0, ixN3_1, ixN3_2, gRowsD_ap, rowsOf_nil, rowsOf_cons, eMeth_ap, isL_l, isS_s, mAppend_ap, mExtend_ap, ownL_fr, gIn_ap, ownDct_fr, gT_apL, hSorted, hTuple, hList, hRev, hRevX, hEqS, sSeq_ap, sBrk_ap, sCnt_ap, sRet_ap, sRetN_ap, sDrop_ap, sIf_ap, sSet_ap, isMu_ap, sAsg_ap, gN_ap, gT_ap, gTs, sPar_ap, sSub_ap, own?_ap, putO_t, putO_f, sAug_ap, sFor_ap, eC_ap, eVar_ap, ePl_ap, eMv_ap, opS_ap, sNil_ap, sCons_ap, gOp_ap, vws_nil, vws_cons, vw_im, vw_fr, vw_frd, vw_frs, vw_frr, vw_pl, view_l, view_d, view_s, view_r, rs_d, rs_l, sl_im, sl_fr, fz_im, fz_fr, fzs_nil, fzs_cons, toD_l, toD_r, gTupD_ap, gLstD_ap, gIx_ap, gDGet_ap, ownDct_pl, keyOf_i, keyOf_s, gMul_ap, tB_ap, tNot_ap, tAnd_ap, tOr_ap, eNot_ap, eAnd_ap, eOr_ap, eIf_ap, tY_ap, eSl_ap, oN_ap, oI_ap, itOf_ap, itR1_ap, itR2_ap, eLc_ap, isIm_ap, eCall_ap, eCallM_ap, fnOf_ap, isPl_im, isPl_fr, eDspl_ap, sArgs_nil, sArgs_cons, mkD_nil, mkD_cons, keepMu_mu, keepMu_im, projS_nil, projS_cons, hAdd, hSub, hMul, hDiv, hMod, hPow, hNeg, hCmp, hEq, hNe, hIsN, hNotN, hIx, hLen, hInt, hAbs, hGcd, hMin, hMax, hCut, isi_ii, isi_ib, isi_tt, isi_ll, isM_un, isM_im, isM_ow, isM_mu, List.getElem?_cons_zero, List.getElem?_cons_succ, List.getElem?_nil, List.set_cons_zero, List.set_cons_succ, List.length_cons, List.length_nil, List.length_map, List.replicate_succ, List.replicate_zero, List.cons_append, List.nil_append, List.map_cons, List.map_nil, Nat.reduceAdd, Nat.zero_add, ne_eq, not_true_eq_false, not_false_eq_true, decide_false, decide_true, Bool.or_self, Bool.or_false, Bool.false_or, Bool.and_self, Bool.false_eq_true, if_false, if_true, reduceIte, szOk_2, szOk_1, szOk_0, szOk_3, lk_left, lk_seed, lk_cells, lk_spot, pt_left, pt_spot, len_mL, mSet, true_and, and_true, List.getD_eq_getElem?_getD, Option.getD_some, seqOf_l, seqOf_t, ↓hIx_sq, ↓hLen_sq, seqOf_sq, ↓hTuple_sq, fz_fr2, gRep_ap, eq_self, gSorted_ap, gSortD_ap, gSortS_ap, ownSet_pl, eDict1_ap, eChain_ap, gInD_ap, gInS_ap, mPop_ap, mAdd_ap, eSet0_ap, sWhile_ap, itEnumX_ap, eM2_ap, eTR1_ap, eLR1_ap, hLtD, gDGetT_ap, ownDctT_pl, gInT_ap, keyT_t, keysOf_nil, keysOf_cons, eDctT0_ap, view_dT, eDict1T_ap, hIsB, hNotB, sPar3_ap, hCmp_ii, d1, l0, sh0, sh2, q1, q2, a0, Bool.not_true, Bool.not_false, Bool.and_self, Bool.true_and, decide_true]
      · have q1 : PyData.eqv (.tuple (nD cs)) (.tuple []) = false := (tu_ne cs).trans (decide_eq_false c3)
        have d3 : decide (cs = []) = false := decide_eq_false c3
        simp only [sNop_ap, row?_ap, eRowM_ap, sRowSub_ap, eRowLen_ap, eRowNil_ap, isUn_un, ixN3_0, ixN3_1, ixN3_2, gRowsD_ap, rowsOf_nil, rowsOf_cons, eMeth_ap, isL_l, isS_s, mAppend_ap, mExtend_ap, ownL_fr, gIn_ap, ownDct_fr, gT_apL, hSorted, hTuple, hList, hRev, hRevX, hEqS, sSeq_ap, sBrk_ap, sCnt_ap, sRet_ap, sRetN_ap, sDrop_ap, sIf_ap, sSet_ap, isMu_ap, sAsg_ap, gN_ap, gT_ap, gTs, sPar_ap, sSub_ap, own?_ap, putO_t, putO_f, sAug_ap, sFor_ap, eC_ap, eVar_ap, ePl_ap, eMv_ap, opS_ap, sNil_ap, sCons_ap, gOp_ap, vws_nil, vws_cons, vw_im, vw_fr, vw_frd, vw_frs, vw_frr, vw_pl, view_l, view_d, view_s, view_r, rs_d, rs_l, sl_im, sl_fr, fz_im, fz_fr, fzs_nil, fzs_cons, toD_l, toD_r, gTupD_ap, gLstD_ap, gIx_ap, gDGet_ap, ownDct_pl, keyOf_i, keyOf_s, gMul_ap, tB_ap, tNot_ap, tAnd_ap, tOr_ap, eNot_ap, eAnd_ap, eOr_ap, eIf_ap, tY_ap, eSl_ap, oN_ap, oI_ap, itOf_ap, itR1_ap, itR2_ap, eLc_ap, isIm_ap, eCall_ap, eCallM_ap, fnOf_ap, isPl_im, isPl_fr, eDspl_ap, sArgs_nil, sArgs_cons, mkD_nil, mkD_cons, keepMu_mu, keepMu_im, projS_nil, projS_cons, hAdd, hSub, hMul, hDiv, hMod, hPow, hNeg, hCmp, hEq, hNe, hIsN, hNotN, hIx, hLen, hInt, hAbs, hGcd, hMin, hMax, hCut, isi_ii, isi_ib, isi_tt, isi_ll, isM_un, isM_im, isM_ow, isM_mu, List.getElem?_cons_zero, List.getElem?_cons_succ, List.getElem?_nil, List.set_cons_zero, List.set_cons_succ, List.length_cons, List.length_nil, List.length_map, List.replicate_succ, List.replicate_zero, List.cons_append, List.nil_append, List.map_cons, List.map_nil, Nat.reduceAdd, Nat.zero_add, ne_eq, not_true_eq_false, not_false_eq_true, decide_false, decide_true, Bool.or_self, Bool.or_false, Bool.false_or, Bool.and_self, Bool.false_eq_true, if_false, if_true, reduceIte, szOk_2, szOk_1, szOk_0, szOk_3, lk_left, lk_seed, lk_cells, lk_spot, pt_left, pt_spot, len_mL, mSet, true_and, and_true, List.getD_eq_getElem?_getD, Option.getD_some, seqOf_l, seqOf_t, ↓hIx_sq, ↓hLen_sq, seqOf_sq, ↓hTuple_sq, fz_fr2, gRep_ap, eq_self, gSorted_ap, gSortD_ap, gSortS_ap, ownSet_pl, eDict1_ap, eChain_ap, gInD_ap, gInS_ap, mPop_ap, mAdd_ap, eSet0_ap, sWhile_ap, itEnumX_ap, eM2_ap, eTR1_ap, eLR1_ap, hLtD, gDGetT_ap, ownDctT_pl, gInT_ap, keyT_t, keysOf_nil, keysOf_cons, eDctT0_ap, view_dT, eDict1T_ap, hIsB, hNotB, sPar3_ap, hCmp_ii, d1, l0, sh0, sh1, sh2, q1, q2, d3, Bool.not_true, Bool.not_false, Bool.and_self, Bool.true_and, Bool.false_and, decide_true]
    | R :: S :: rows =>
      have l0 : decide ((1 : Int) < ((rows.length + 1 + 1 : Nat) : Int)) = true := decide_eq_true (by omega)
      have n1 : tuD (R :: S :: rows) = .tuple (nD R) :: .tuple (nD S) :: tuD rows := rfl
      rw [n1]
      simp only [sNop_ap, row?_ap, eRowM_ap, sRowSub_ap, eRowLen_ap, eRowNil_ap, isUn_un, ixN3_0, ixN3_1, ixN3_2, gRowsD_ap, rowsOf_nil, rowsOf_cons, eMeth_ap, isL_l, isS_s, mAppend_ap, mExtend_ap, ownL_fr, gIn_ap, ownDct_fr, gT_apL, hSorted, hTuple, hList, hRev, hRevX, hEqS, sSeq_ap, sBrk_ap, sCnt_ap, sRet_ap, sRetN_ap, sDrop_ap, sIf_ap, sSet_ap, isMu_ap, sAsg_ap, gN_ap, gT_ap, gTs, sPar_ap, sSub_ap, own?_ap, putO_t, putO_f, sAug_ap, sFor_ap, eC_ap, eVar_ap, ePl_ap, eMv_ap, opS_ap, sNil_ap, sCons_ap, gOp_ap, vws_nil, vws_cons, vw_im, vw_fr, vw_frd, vw_frs, vw_frr, vw_pl, view_l, view_d, view_s, view_r, rs_d, rs_l, sl_im, sl_fr, fz_im, fz_fr, fzs_nil, fzs_cons, toD_l, toD_r, gTupD_ap, gLstD_ap, gIx_ap, gDGet_ap, ownDct_pl, keyOf_i, keyOf_s, gMul_ap, tB_ap, tNot_ap, tAnd_ap, tOr_ap, eNot_ap, eAnd_ap, eOr_ap, eIf_ap, tY_ap, eSl_ap, oN_ap, oI_ap, itOf_ap, itR1_ap, itR2_ap, eLc_ap, isIm_ap, eCall_ap, eCallM_ap, fnOf_ap, isPl_im, isPl_fr, eDspl_ap, sArgs_nil, sArgs_cons, mkD_nil, mkD_cons, keepMu_mu, keepMu_im, projS_nil, projS_cons, hAdd, hSub, hMul, hDiv, hMod, hPow, hNeg, hCmp, hEq, hNe, hIsN, hNotN, hIx, hLen, hInt, hAbs, hGcd, hMin, hMax, hCut, isi_ii, isi_ib, isi_tt, isi_ll, isM_un, isM_im, isM_ow, isM_mu, List.getElem?_cons_zero, List.getElem?_cons_succ, List.getElem?_nil, List.set_cons_zero, List.set_cons_succ, List.length_cons, List.length_nil, List.length_map, List.replicate_succ, List.replicate_zero, List.cons_append, List.nil_append, List.map_cons, List.map_nil, Nat.reduceAdd, Nat.zero_add, ne_eq, not_true_eq_false, not_false_eq_true, decide_false, decide_true, Bool.or_self, Bool.or_false, Bool.false_or, Bool.and_self, Bool.false_eq_true, if_false, if_true, reduceIte, szOk_2, szOk_1, szOk_0, szOk_3, lk_left, lk_seed, lk_cells, lk_spot, pt_left, pt_spot, len_mL, mSet, true_and, and_true, List.getD_eq_getElem?_getD, Option.getD_some, seqOf_l, seqOf_t, ↓hIx_sq, ↓hLen_sq, seqOf_sq, ↓hTuple_sq, fz_fr2, gRep_ap, eq_self, gSorted_ap, gSortD_ap, gSortS_ap, ownSet_pl, eDict1_ap, eChain_ap, gInD_ap, gInS_ap, mPop_ap, mAdd_ap, eSet0_ap, sWhile_ap, itEnumX_ap, eM2_ap, eTR1_ap, eLR1_ap, hLtD, gDGetT_ap, ownDctT_pl, gInT_ap, keyT_t, keysOf_nil, keysOf_cons, eDctT0_ap, view_dT, eDict1T_ap, hIsB, hNotB, sPar3_ap, hCmp_ii, d1, l0, tuD_len, Bool.and_self, Bool.true_and, Bool.and_false, decide_true]
  · have d1 : decide ((0 : Int) < (h : Int) + (x : Int)) = true := decide_eq_true (by omega)
    show _ = some (Rs.im (.bool (bdN h cs rows x)), [Sl.un])
    rw [bdN_no c1]
    simp only [sNop_ap, row?_ap, eRowM_ap, sRowSub_ap, eRowLen_ap, eRowNil_ap, isUn_un, ixN3_0, ixN3_1, ixN3_2, gRowsD_ap, rowsOf_nil, rowsOf_cons, eMeth_ap, isL_l, isS_s, mAppend_ap, mExtend_ap, ownL_fr, gIn_ap, ownDct_fr, gT_apL, hSorted, hTuple, hList, hRev, hRevX, hEqS, sSeq_ap, sBrk_ap, sCnt_ap, sRet_ap, sRetN_ap, sDrop_ap, sIf_ap, sSet_ap, isMu_ap, sAsg_ap, gN_ap, gT_ap, gTs, sPar_ap, sSub_ap, own?_ap, putO_t, putO_f, sAug_ap, sFor_ap, eC_ap, eVar_ap, ePl_ap, eMv_ap, opS_ap, sNil_ap, sCons_ap, gOp_ap, vws_nil, vws_cons, vw_im, vw_fr, vw_frd, vw_frs, vw_frr, vw_pl, view_l, view_d, view_s, view_r, rs_d, rs_l, sl_im, sl_fr, fz_im, fz_fr, fzs_nil, fzs_cons, toD_l, toD_r, gTupD_ap, gLstD_ap, gIx_ap, gDGet_ap, ownDct_pl, keyOf_i, keyOf_s, gMul_ap, tB_ap, tNot_ap, tAnd_ap, tOr_ap, eNot_ap, eAnd_ap, eOr_ap, eIf_ap, tY_ap, eSl_ap, oN_ap, oI_ap, itOf_ap, itR1_ap, itR2_ap, eLc_ap, isIm_ap, eCall_ap, eCallM_ap, fnOf_ap, isPl_im, isPl_fr, eDspl_ap, sArgs_nil, sArgs_cons, mkD_nil, mkD_cons, keepMu_mu, keepMu_im, projS_nil, projS_cons, hAdd, hSub, hMul, hDiv, hMod, hPow, hNeg, hCmp, hEq, hNe, hIsN, hNotN, hIx, hLen, hInt, hAbs, hGcd, hMin, hMax, hCut, isi_ii, isi_ib, isi_tt, isi_ll, isM_un, isM_im, isM_ow, isM_mu, List.getElem?_cons_zero, List.getElem?_cons_succ, List.getElem?_nil, List.set_cons_zero, List.set_cons_succ, List.length_cons, List.length_nil, List.length_map, List.replicate_succ, List.replicate_zero, List.cons_append, List.nil_append, List.map_cons, List.map_nil, Nat.reduceAdd, Nat.zero_add, ne_eq, not_true_eq_false, not_false_eq_true, decide_false, decide_true, Bool.or_self, Bool.or_false, Bool.false_or, Bool.and_self, Bool.false_eq_true, if_false, if_true, reduceIte, szOk_2, szOk_1, szOk_0, szOk_3, lk_left, lk_seed, lk_cells, lk_spot, pt_left, pt_spot, len_mL, mSet, true_and, and_true, List.getD_eq_getElem?_getD, Option.getD_some, seqOf_l, seqOf_t, ↓hIx_sq, ↓hLen_sq, seqOf_sq, ↓hTuple_sq, fz_fr2, gRep_ap, eq_self, gSorted_ap, gSortD_ap, gSortS_ap, ownSet_pl, eDict1_ap, eChain_ap, gInD_ap, gInS_ap, mPop_ap, mAdd_ap, eSet0_ap, sWhile_ap, itEnumX_ap, eM2_ap, eTR1_ap, eLR1_ap, hLtD, gDGetT_ap, ownDctT_pl, gInT_ap, keyT_t, keysOf_nil, keysOf_cons, eDctT0_ap, view_dT, eDict1T_ap, hIsB, hNotB, sPar3_ap, hCmp_ii, d1]

/-! ### the law's count of names -/
theorem sorted_T (L : List Nat) : hSortedT [.tuple (nD L)] = some (.l (nD (srtN L))) := by
  have e := sorted_N L
  unfold hSorted at e
  unfold hSortedT
  exact e
theorem lcount_eq {h x : Nat} {cs : List Nat} {rows : List (List Nat)} (so : cs.Pairwise (· ≤ ·)) (hc : ∀ t ∈ cs, 2 ≤ t) (hr : ∀ R ∈ rows, ∀ t ∈ R, 2 ≤ t) : f_law_count [.im (nmD h cs rows x)] = some (.im (.int (bc h cs rows x : Nat)), [.un]) := by
  have sh0 : SeqAt.shaped (.tuple []) = true := sh_nDT []
  have sh1 := sh_nDT cs
  have sh2 := sh_tuD rows
  have b0 : ∀ x : D, atI [x] 0 = some x := fun _ => rfl
  unfold f_law_count b_law_count nmD bc
  by_cases c1 : 0 < h
  · rw [if_pos (Or.inl c1)]
    have d1 : decide ((0 : Int) < (h : Int)) = true := decide_eq_true (by omega)
    simp only [sNop_ap, row?_ap, eRowM_ap, sRowSub_ap, eRowLen_ap, eRowNil_ap, isUn_un, ixN3_0, ixN3_1, ixN3_2, gRowsD_ap, rowsOf_nil, rowsOf_cons, eMeth_ap, isL_l, isS_s, mAppend_ap, mExtend_ap, ownL_fr, gIn_ap, ownDct_fr, gT_apL, hSorted, hTuple, hList, hRev, hRevX, hEqS, sSeq_ap, sBrk_ap, sCnt_ap, sRet_ap, sRetN_ap, sDrop_ap, sIf_ap, sSet_ap, isMu_ap, sAsg_ap, gN_ap, gT_ap, gTs, sPar_ap, sSub_ap, own?_ap, putO_t, putO_f, sAug_ap, sFor_ap, eC_ap, eVar_ap, ePl_ap, eMv_ap, opS_ap, sNil_ap, sCons_ap, gOp_ap, vws_nil, vws_cons, vw_im, vw_fr, vw_frd, vw_frs, vw_frr, vw_pl, view_l, view_d, view_s, view_r, rs_d, rs_l, sl_im, sl_fr, fz_im, fz_fr, fzs_nil, fzs_cons, toD_l, toD_r, gTupD_ap, gLstD_ap, gIx_ap, gDGet_ap, ownDct_pl, keyOf_i, keyOf_s, gMul_ap, tB_ap, tNot_ap, tAnd_ap, tOr_ap, eNot_ap, eAnd_ap, eOr_ap, eIf_ap, tY_ap, eSl_ap, oN_ap, oI_ap, itOf_ap, itR1_ap, itR2_ap, eLc_ap, isIm_ap, eCall_ap, eCallM_ap, fnOf_ap, isPl_im, isPl_fr, eDspl_ap, sArgs_nil, sArgs_cons, mkD_nil, mkD_cons, keepMu_mu, keepMu_im, projS_nil, projS_cons, hAdd, hSub, hMul, hDiv, hMod, hPow, hNeg, hCmp, hEq, hNe, hIsN, hNotN, hIx, hLen, hInt, hAbs, hGcd, hMin, hMax, hCut, isi_ii, isi_ib, isi_tt, isi_ll, isM_un, isM_im, isM_ow, isM_mu, List.getElem?_cons_zero, List.getElem?_cons_succ, List.getElem?_nil, List.set_cons_zero, List.set_cons_succ, List.length_cons, List.length_nil, List.length_map, List.replicate_succ, List.replicate_zero, List.cons_append, List.nil_append, List.map_cons, List.map_nil, Nat.reduceAdd, Nat.zero_add, ne_eq, not_true_eq_false, not_false_eq_true, decide_false, decide_true, Bool.or_self, Bool.or_false, Bool.false_or, Bool.and_self, Bool.false_eq_true, if_false, if_true, reduceIte, szOk_2, szOk_1, szOk_0, szOk_3, lk_left, lk_seed, lk_cells, lk_spot, pt_left, pt_spot, len_mL, mSet, true_and, and_true, List.getD_eq_getElem?_getD, Option.getD_some, seqOf_l, seqOf_t, ↓hIx_sq, ↓hLen_sq, seqOf_sq, ↓hTuple_sq, fz_fr2, gRep_ap, eq_self, gSorted_ap, gSortD_ap, gSortS_ap, ownSet_pl, eDict1_ap, eChain_ap, gInD_ap, gInS_ap, mPop_ap, mAdd_ap, eSet0_ap, sWhile_ap, itEnumX_ap, eM2_ap, eTR1_ap, eLR1_ap, hLtD, gDGetT_ap, ownDctT_pl, gInT_ap, keyT_t, keysOf_nil, keysOf_cons, eDctT0_ap, view_dT, eDict1T_ap, hIsB, hNotB, sPar3_ap, hCmp_ii, d1]
    rfl
  have d1 : decide ((0 : Int) < (h : Int)) = false := decide_eq_false (by omega)
  by_cases c2 : 1 < x
  · rw [if_pos (Or.inr (Or.inl c2))]
    have d2 : decide ((1 : Int) < (x : Int)) = true := decide_eq_true (by omega)
    simp only [sNop_ap, row?_ap, eRowM_ap, sRowSub_ap, eRowLen_ap, eRowNil_ap, isUn_un, ixN3_0, ixN3_1, ixN3_2, gRowsD_ap, rowsOf_nil, rowsOf_cons, eMeth_ap, isL_l, isS_s, mAppend_ap, mExtend_ap, ownL_fr, gIn_ap, ownDct_fr, gT_apL, hSorted, hTuple, hList, hRev, hRevX, hEqS, sSeq_ap, sBrk_ap, sCnt_ap, sRet_ap, sRetN_ap, sDrop_ap, sIf_ap, sSet_ap, isMu_ap, sAsg_ap, gN_ap, gT_ap, gTs, sPar_ap, sSub_ap, own?_ap, putO_t, putO_f, sAug_ap, sFor_ap, eC_ap, eVar_ap, ePl_ap, eMv_ap, opS_ap, sNil_ap, sCons_ap, gOp_ap, vws_nil, vws_cons, vw_im, vw_fr, vw_frd, vw_frs, vw_frr, vw_pl, view_l, view_d, view_s, view_r, rs_d, rs_l, sl_im, sl_fr, fz_im, fz_fr, fzs_nil, fzs_cons, toD_l, toD_r, gTupD_ap, gLstD_ap, gIx_ap, gDGet_ap, ownDct_pl, keyOf_i, keyOf_s, gMul_ap, tB_ap, tNot_ap, tAnd_ap, tOr_ap, eNot_ap, eAnd_ap, eOr_ap, eIf_ap, tY_ap, eSl_ap, oN_ap, oI_ap, itOf_ap, itR1_ap, itR2_ap, eLc_ap, isIm_ap, eCall_ap, eCallM_ap, fnOf_ap, isPl_im, isPl_fr, eDspl_ap, sArgs_nil, sArgs_cons, mkD_nil, mkD_cons, keepMu_mu, keepMu_im, projS_nil, projS_cons, hAdd, hSub, hMul, hDiv, hMod, hPow, hNeg, hCmp, hEq, hNe, hIsN, hNotN, hIx, hLen, hInt, hAbs, hGcd, hMin, hMax, hCut, isi_ii, isi_ib, isi_tt, isi_ll, isM_un, isM_im, isM_ow, isM_mu, List.getElem?_cons_zero, List.getElem?_cons_succ, List.getElem?_nil, List.set_cons_zero, List.set_cons_succ, List.length_cons, List.length_nil, List.length_map, List.replicate_succ, List.replicate_zero, List.cons_append, List.nil_append, List.map_cons, List.map_nil, Nat.reduceAdd, Nat.zero_add, ne_eq, not_true_eq_false, not_false_eq_true, decide_false, decide_true, Bool.or_self, Bool.or_false, Bool.false_or, Bool.and_self, Bool.false_eq_true, if_false, if_true, reduceIte, szOk_2, szOk_1, szOk_0, szOk_3, lk_left, lk_seed, lk_cells, lk_spot, pt_left, pt_spot, len_mL, mSet, true_and, and_true, List.getD_eq_getElem?_getD, Option.getD_some, seqOf_l, seqOf_t, ↓hIx_sq, ↓hLen_sq, seqOf_sq, ↓hTuple_sq, fz_fr2, gRep_ap, eq_self, gSorted_ap, gSortD_ap, gSortS_ap, ownSet_pl, eDict1_ap, eChain_ap, gInD_ap, gInS_ap, mPop_ap, mAdd_ap, eSet0_ap, sWhile_ap, itEnumX_ap, eM2_ap, eTR1_ap, eLR1_ap, hLtD, gDGetT_ap, ownDctT_pl, gInT_ap, keyT_t, keysOf_nil, keysOf_cons, eDctT0_ap, view_dT, eDict1T_ap, hIsB, hNotB, sPar3_ap, hCmp_ii, d1, d2]
    rfl
  have d2 : decide ((1 : Int) < (x : Int)) = false := decide_eq_false (by omega)
  by_cases c3 : 1 < rows.length
  · rw [if_pos (Or.inr (Or.inr (Or.inl c3)))]
    have d3 : decide ((1 : Int) < (rows.length : Int)) = true := decide_eq_true (by omega)
    simp only [sNop_ap, row?_ap, eRowM_ap, sRowSub_ap, eRowLen_ap, eRowNil_ap, isUn_un, ixN3_0, ixN3_1, ixN3_2, gRowsD_ap, rowsOf_nil, rowsOf_cons, eMeth_ap, isL_l, isS_s, mAppend_ap, mExtend_ap, ownL_fr, gIn_ap, ownDct_fr, gT_apL, hSorted, hTuple, hList, hRev, hRevX, hEqS, sSeq_ap, sBrk_ap, sCnt_ap, sRet_ap, sRetN_ap, sDrop_ap, sIf_ap, sSet_ap, isMu_ap, sAsg_ap, gN_ap, gT_ap, gTs, sPar_ap, sSub_ap, own?_ap, putO_t, putO_f, sAug_ap, sFor_ap, eC_ap, eVar_ap, ePl_ap, eMv_ap, opS_ap, sNil_ap, sCons_ap, gOp_ap, vws_nil, vws_cons, vw_im, vw_fr, vw_frd, vw_frs, vw_frr, vw_pl, view_l, view_d, view_s, view_r, rs_d, rs_l, sl_im, sl_fr, fz_im, fz_fr, fzs_nil, fzs_cons, toD_l, toD_r, gTupD_ap, gLstD_ap, gIx_ap, gDGet_ap, ownDct_pl, keyOf_i, keyOf_s, gMul_ap, tB_ap, tNot_ap, tAnd_ap, tOr_ap, eNot_ap, eAnd_ap, eOr_ap, eIf_ap, tY_ap, eSl_ap, oN_ap, oI_ap, itOf_ap, itR1_ap, itR2_ap, eLc_ap, isIm_ap, eCall_ap, eCallM_ap, fnOf_ap, isPl_im, isPl_fr, eDspl_ap, sArgs_nil, sArgs_cons, mkD_nil, mkD_cons, keepMu_mu, keepMu_im, projS_nil, projS_cons, hAdd, hSub, hMul, hDiv, hMod, hPow, hNeg, hCmp, hEq, hNe, hIsN, hNotN, hIx, hLen, hInt, hAbs, hGcd, hMin, hMax, hCut, isi_ii, isi_ib, isi_tt, isi_ll, isM_un, isM_im, isM_ow, isM_mu, List.getElem?_cons_zero, List.getElem?_cons_succ, List.getElem?_nil, List.set_cons_zero, List.set_cons_succ, List.length_cons, List.length_nil, List.length_map, List.replicate_succ, List.replicate_zero, List.cons_append, List.nil_append, List.map_cons, List.map_nil, Nat.reduceAdd, Nat.zero_add, ne_eq, not_true_eq_false, not_false_eq_true, decide_false, decide_true, Bool.or_self, Bool.or_false, Bool.false_or, Bool.and_self, Bool.false_eq_true, if_false, if_true, reduceIte, szOk_2, szOk_1, szOk_0, szOk_3, lk_left, lk_seed, lk_cells, lk_spot, pt_left, pt_spot, len_mL, mSet, true_and, and_true, List.getD_eq_getElem?_getD, Option.getD_some, seqOf_l, seqOf_t, ↓hIx_sq, ↓hLen_sq, seqOf_sq, ↓hTuple_sq, fz_fr2, gRep_ap, eq_self, gSorted_ap, gSortD_ap, gSortS_ap, ownSet_pl, eDict1_ap, eChain_ap, gInD_ap, gInS_ap, mPop_ap, mAdd_ap, eSet0_ap, sWhile_ap, itEnumX_ap, eM2_ap, eTR1_ap, eLR1_ap, hLtD, gDGetT_ap, ownDctT_pl, gInT_ap, keyT_t, keysOf_nil, keysOf_cons, eDctT0_ap, view_dT, eDict1T_ap, hIsB, hNotB, sPar3_ap, hCmp_ii, d1, d2, tuD_len, d3]
    rfl
  have d3 : decide ((1 : Int) < (rows.length : Int)) = false := decide_eq_false (by omega)
  by_cases c4 : 1 < x + rows.length
  · rw [if_pos (Or.inr (Or.inr (Or.inr c4)))]
    have d4 : decide ((1 : Int) < (x : Int) + (rows.length : Int)) = true := decide_eq_true (by omega)
    simp only [sNop_ap, row?_ap, eRowM_ap, sRowSub_ap, eRowLen_ap, eRowNil_ap, isUn_un, ixN3_0, ixN3_1, ixN3_2, gRowsD_ap, rowsOf_nil, rowsOf_cons, eMeth_ap, isL_l, isS_s, mAppend_ap, mExtend_ap, ownL_fr, gIn_ap, ownDct_fr, gT_apL, hSorted, hTuple, hList, hRev, hRevX, hEqS, sSeq_ap, sBrk_ap, sCnt_ap, sRet_ap, sRetN_ap, sDrop_ap, sIf_ap, sSet_ap, isMu_ap, sAsg_ap, gN_ap, gT_ap, gTs, sPar_ap, sSub_ap, own?_ap, putO_t, putO_f, sAug_ap, sFor_ap, eC_ap, eVar_ap, ePl_ap, eMv_ap, opS_ap, sNil_ap, sCons_ap, gOp_ap, vws_nil, vws_cons, vw_im, vw_fr, vw_frd, vw_frs, vw_frr, vw_pl, view_l, view_d, view_s, view_r, rs_d, rs_l, sl_im, sl_fr, fz_im, fz_fr, fzs_nil, fzs_cons, toD_l, toD_r, gTupD_ap, gLstD_ap, gIx_ap, gDGet_ap, ownDct_pl, keyOf_i, keyOf_s, gMul_ap, tB_ap, tNot_ap, tAnd_ap, tOr_ap, eNot_ap, eAnd_ap, eOr_ap, eIf_ap, tY_ap, eSl_ap, oN_ap, oI_ap, itOf_ap, itR1_ap, itR2_ap, eLc_ap, isIm_ap, eCall_ap, eCallM_ap, fnOf_ap, isPl_im, isPl_fr, eDspl_ap, sArgs_nil, sArgs_cons, mkD_nil, mkD_cons, keepMu_mu, keepMu_im, projS_nil, projS_cons, hAdd, hSub, hMul, hDiv, hMod, hPow, hNeg, hCmp, hEq, hNe, hIsN, hNotN, hIx, hLen, hInt, hAbs, hGcd, hMin, hMax, hCut, isi_ii, isi_ib, isi_tt, isi_ll, isM_un, isM_im, isM_ow, isM_mu, List.getElem?_cons_zero, List.getElem?_cons_succ, List.getElem?_nil, List.set_cons_zero, List.set_cons_succ, List.length_cons, List.length_nil, List.length_map, List.replicate_succ, List.replicate_zero, List.cons_append, List.nil_append, List.map_cons, List.map_nil, Nat.reduceAdd, Nat.zero_add, ne_eq, not_true_eq_false, not_false_eq_true, decide_false, decide_true, Bool.or_self, Bool.or_false, Bool.false_or, Bool.and_self, Bool.false_eq_true, if_false, if_true, reduceIte, szOk_2, szOk_1, szOk_0, szOk_3, lk_left, lk_seed, lk_cells, lk_spot, pt_left, pt_spot, len_mL, mSet, true_and, and_true, List.getD_eq_getElem?_getD, Option.getD_some, seqOf_l, seqOf_t, ↓hIx_sq, ↓hLen_sq, seqOf_sq, ↓hTuple_sq, fz_fr2, gRep_ap, eq_self, gSorted_ap, gSortD_ap, gSortS_ap, ownSet_pl, eDict1_ap, eChain_ap, gInD_ap, gInS_ap, mPop_ap, mAdd_ap, eSet0_ap, sWhile_ap, itEnumX_ap, eM2_ap, eTR1_ap, eLR1_ap, hLtD, gDGetT_ap, ownDctT_pl, gInT_ap, keyT_t, keysOf_nil, keysOf_cons, eDctT0_ap, view_dT, eDict1T_ap, hIsB, hNotB, sPar3_ap, hCmp_ii, d1, d2, tuD_len, d3, d4]
    rfl
  have d4 : decide ((1 : Int) < (x : Int) + (rows.length : Int)) = false := decide_eq_false (by omega)
  rw [if_neg (by omega)]
  by_cases c5 : x = 1
  · subst c5
    rw [if_pos rfl]
    have q5 : PyData.eqv (.int ((1 : Nat) : Int)) (.int 1) = true := by decide
    match cs, sh1 with
    | [], _ =>
      have l : decide (((0 : Nat) : Int) < 2) = true := by decide
      have q6 : PyData.eqv (.tuple []) (.tuple []) = true := by decide
      have m : mulOk 2 1 = true := by decide
      simp only [sNop_ap, row?_ap, eRowM_ap, sRowSub_ap, eRowLen_ap, eRowNil_ap, isUn_un, ixN3_0, ixN3_1, ixN3_2, gRowsD_ap, rowsOf_nil, rowsOf_cons, eMeth_ap, isL_l, isS_s, mAppend_ap, mExtend_ap, ownL_fr, gIn_ap, ownDct_fr, gT_apL, hSorted, hTuple, hList, hRev, hRevX, hEqS, sSeq_ap, sBrk_ap, sCnt_ap, sRet_ap, sRetN_ap, sDrop_ap, sIf_ap, sSet_ap, isMu_ap, sAsg_ap, gN_ap, gT_ap, gTs, sPar_ap, sSub_ap, own?_ap, putO_t, putO_f, sAug_ap, sFor_ap, eC_ap, eVar_ap, ePl_ap, eMv_ap, opS_ap, sNil_ap, sCons_ap, gOp_ap, vws_nil, vws_cons, vw_im, vw_fr, vw_frd, vw_frs, vw_frr, vw_pl, view_l, view_d, view_s, view_r, rs_d, rs_l, sl_im, sl_fr, fz_im, fz_fr, fzs_nil, fzs_cons, toD_l, toD_r, gTupD_ap, gLstD_ap, gIx_ap, gDGet_ap, ownDct_pl, keyOf_i, keyOf_s, gMul_ap, tB_ap, tNot_ap, tAnd_ap, tOr_ap, eNot_ap, eAnd_ap, eOr_ap, eIf_ap, tY_ap, eSl_ap, oN_ap, oI_ap, itOf_ap, itR1_ap, itR2_ap, eLc_ap, isIm_ap, eCall_ap, eCallM_ap, fnOf_ap, isPl_im, isPl_fr, eDspl_ap, sArgs_nil, sArgs_cons, mkD_nil, mkD_cons, keepMu_mu, keepMu_im, projS_nil, projS_cons, hAdd, hSub, hMul, hDiv, hMod, hPow, hNeg, hCmp, hEq, hNe, hIsN, hNotN, hIx, hLen, hInt, hAbs, hGcd, hMin, hMax, hCut, isi_ii, isi_ib, isi_tt, isi_ll, isM_un, isM_im, isM_ow, isM_mu, List.getElem?_cons_zero, List.getElem?_cons_succ, List.getElem?_nil, List.set_cons_zero, List.set_cons_succ, List.length_cons, List.length_nil, List.length_map, List.replicate_succ, List.replicate_zero, List.cons_append, List.nil_append, List.map_cons, List.map_nil, Nat.reduceAdd, Nat.zero_add, ne_eq, not_true_eq_false, not_false_eq_true, decide_false, decide_true, Bool.or_self, Bool.or_false, Bool.false_or, Bool.and_self, Bool.false_eq_true, if_false, if_true, reduceIte, szOk_2, szOk_1, szOk_0, szOk_3, lk_left, lk_seed, lk_cells, lk_spot, pt_left, pt_spot, len_mL, mSet, true_and, and_true, List.getD_eq_getElem?_getD, Option.getD_some, seqOf_l, seqOf_t, ↓hIx_sq, ↓hLen_sq, seqOf_sq, ↓hTuple_sq, fz_fr2, gRep_ap, eq_self, gSorted_ap, gSortD_ap, gSortS_ap, ownSet_pl, eDict1_ap, eChain_ap, gInD_ap, gInS_ap, mPop_ap, mAdd_ap, eSet0_ap, sWhile_ap, itEnumX_ap, eM2_ap, eTR1_ap, eLR1_ap, hLtD, gDGetT_ap, ownDctT_pl, gInT_ap, keyT_t, keysOf_nil, keysOf_cons, eDctT0_ap, view_dT, eDict1T_ap, hIsB, hNotB, sPar3_ap, hCmp_ii, d1, d2, tuD_len, d3, d4, sh_int, q5, nD_nil, l, sh0, q6, m, Bool.not_true]
      rfl
    | [a], s1 =>
      have l : decide (((0 + 1 : Nat) : Int) < 2) = true := by decide
      have q6 : PyData.eqv (.tuple [.int (a : Nat)]) (.tuple []) = false := (eqv_nDT [a] []).trans (decide_eq_false (by simp))
      have s1 : SeqAt.shaped (.tuple [.int (a : Nat)]) = true := s1
      have m : mulOk 2 (a : Int) = true := mulOk_l (by decide) (by decide)
      rw [if_pos (by simp), List.headD_cons]
      simp only [sNop_ap, row?_ap, eRowM_ap, sRowSub_ap, eRowLen_ap, eRowNil_ap, isUn_un, ixN3_0, ixN3_1, ixN3_2, gRowsD_ap, rowsOf_nil, rowsOf_cons, eMeth_ap, isL_l, isS_s, mAppend_ap, mExtend_ap, ownL_fr, gIn_ap, ownDct_fr, gT_apL, hSorted, hTuple, hList, hRev, hRevX, hEqS, sSeq_ap, sBrk_ap, sCnt_ap, sRet_ap, sRetN_ap, sDrop_ap, sIf_ap, sSet_ap, isMu_ap, sAsg_ap, gN_ap, gT_ap, gTs, sPar_ap, sSub_ap, own?_ap, putO_t, putO_f, sAug_ap, sFor_ap, eC_ap, eVar_ap, ePl_ap, eMv_ap, opS_ap, sNil_ap, sCons_ap, gOp_ap, vws_nil, vws_cons, vw_im, vw_fr, vw_frd, vw_frs, vw_frr, vw_pl, view_l, view_d, view_s, view_r, rs_d, rs_l, sl_im, sl_fr, fz_im, fz_fr, fzs_nil, fzs_cons, toD_l, toD_r, gTupD_ap, gLstD_ap, gIx_ap, gDGet_ap, ownDct_pl, keyOf_i, keyOf_s, gMul_ap, tB_ap, tNot_ap, tAnd_ap, tOr_ap, eNot_ap, eAnd_ap, eOr_ap, eIf_ap, tY_ap, eSl_ap, oN_ap, oI_ap, itOf_ap, itR1_ap, itR2_ap, eLc_ap, isIm_ap, eCall_ap, eCallM_ap, fnOf_ap, isPl_im, isPl_fr, eDspl_ap, sArgs_nil, sArgs_cons, mkD_nil, mkD_cons, keepMu_mu, keepMu_im, projS_nil, projS_cons, hAdd, hSub, hMul, hDiv, hMod, hPow, hNeg, hCmp, hEq, hNe, hIsN, hNotN, hIx, hLen, hInt, hAbs, hGcd, hMin, hMax, hCut, isi_ii, isi_ib, isi_tt, isi_ll, isM_un, isM_im, isM_ow, isM_mu, List.getElem?_cons_zero, List.getElem?_cons_succ, List.getElem?_nil, List.set_cons_zero, List.set_cons_succ, List.length_cons, List.length_nil, List.length_map, List.replicate_succ, List.replicate_zero, List.cons_append, List.nil_append, List.map_cons, List.map_nil, Nat.reduceAdd, Nat.zero_add, ne_eq, not_true_eq_false, not_false_eq_true, decide_false, decide_true, Bool.or_self, Bool.or_false, Bool.false_or, Bool.and_self, Bool.false_eq_true, if_false, if_true, reduceIte, szOk_2, szOk_1, szOk_0, szOk_3, lk_left, lk_seed, lk_cells, lk_spot, pt_left, pt_spot, len_mL, mSet, true_and, and_true, List.getD_eq_getElem?_getD, Option.getD_some, seqOf_l, seqOf_t, ↓hIx_sq, ↓hLen_sq, seqOf_sq, ↓hTuple_sq, fz_fr2, gRep_ap, eq_self, gSorted_ap, gSortD_ap, gSortS_ap, ownSet_pl, eDict1_ap, eChain_ap, gInD_ap, gInS_ap, mPop_ap, mAdd_ap, eSet0_ap, sWhile_ap, itEnumX_ap, eM2_ap, eTR1_ap, eLR1_ap, hLtD, gDGetT_ap, ownDctT_pl, gInT_ap, keyT_t, keysOf_nil, keysOf_cons, eDctT0_ap, view_dT, eDict1T_ap, hIsB, hNotB, sPar3_ap, hCmp_ii, d1, d2, tuD_len, d3, d4, sh_int, q5, nD_nil, nD_cons, l, sh0, s1, q6, b0, m, Bool.not_false]
      rfl
    | a :: b :: l, _ =>
      have l : decide (((l.length + 1 + 1 : Nat) : Int) < 2) = false := decide_eq_false (by omega)
      rw [if_neg (by simp only [List.length_cons]; omega)]
      simp only [sNop_ap, row?_ap, eRowM_ap, sRowSub_ap, eRowLen_ap, eRowNil_ap, isUn_un, ixN3_0, ixN3_1, ixN3_2, gRowsD_ap, rowsOf_nil, rowsOf_cons, eMeth_ap, isL_l, isS_s, mAppend_ap, mExtend_ap, ownL_fr, gIn_ap, ownDct_fr, gT_apL, hSorted, hTuple, hList, hRev, hRevX, hEqS, sSeq_ap, sBrk_ap, sCnt_ap, sRet_ap, sRetN_ap, sDrop_ap, sIf_ap, sSet_ap, isMu_ap, sAsg_ap, gN_ap, gT_ap, gTs, sPar_ap, sSub_ap, own?_ap, putO_t, putO_f, sAug_ap, sFor_ap, eC_ap, eVar_ap, ePl_ap, eMv_ap, opS_ap, sNil_ap, sCons_ap, gOp_ap, vws_nil, vws_cons, vw_im, vw_fr, vw_frd, vw_frs, vw_frr, vw_pl, view_l, view_d, view_s, view_r, rs_d, rs_l, sl_im, sl_fr, fz_im, fz_fr, fzs_nil, fzs_cons, toD_l, toD_r, gTupD_ap, gLstD_ap, gIx_ap, gDGet_ap, ownDct_pl, keyOf_i, keyOf_s, gMul_ap, tB_ap, tNot_ap, tAnd_ap, tOr_ap, eNot_ap, eAnd_ap, eOr_ap, eIf_ap, tY_ap, eSl_ap, oN_ap, oI_ap, itOf_ap, itR1_ap, itR2_ap, eLc_ap, isIm_ap, eCall_ap, eCallM_ap, fnOf_ap, isPl_im, isPl_fr, eDspl_ap, sArgs_nil, sArgs_cons, mkD_nil, mkD_cons, keepMu_mu, keepMu_im, projS_nil, projS_cons, hAdd, hSub, hMul, hDiv, hMod, hPow, hNeg, hCmp, hEq, hNe, hIsN, hNotN, hIx, hLen, hInt, hAbs, hGcd, hMin, hMax, hCut, isi_ii, isi_ib, isi_tt, isi_ll, isM_un, isM_im, isM_ow, isM_mu, List.getElem?_cons_zero, List.getElem?_cons_succ, List.getElem?_nil, List.set_cons_zero, List.set_cons_succ, List.length_cons, List.length_nil, List.length_map, List.replicate_succ, List.replicate_zero, List.cons_append, List.nil_append, List.map_cons, List.map_nil, Nat.reduceAdd, Nat.zero_add, ne_eq, not_true_eq_false, not_false_eq_true, decide_false, decide_true, Bool.or_self, Bool.or_false, Bool.false_or, Bool.and_self, Bool.false_eq_true, if_false, if_true, reduceIte, szOk_2, szOk_1, szOk_0, szOk_3, lk_left, lk_seed, lk_cells, lk_spot, pt_left, pt_spot, len_mL, mSet, true_and, and_true, List.getD_eq_getElem?_getD, Option.getD_some, seqOf_l, seqOf_t, ↓hIx_sq, ↓hLen_sq, seqOf_sq, ↓hTuple_sq, fz_fr2, gRep_ap, eq_self, gSorted_ap, gSortD_ap, gSortS_ap, ownSet_pl, eDict1_ap, eChain_ap, gInD_ap, gInS_ap, mPop_ap, mAdd_ap, eSet0_ap, sWhile_ap, itEnumX_ap, eM2_ap, eTR1_ap, eLR1_ap, hLtD, gDGetT_ap, ownDctT_pl, gInT_ap, keyT_t, keysOf_nil, keysOf_cons, eDctT0_ap, view_dT, eDict1T_ap, hIsB, hNotB, sPar3_ap, hCmp_ii, d1, d2, tuD_len, d3, d4, sh_int, q5, nD_cons, nD_len, l]
      rfl
  have q5 : PyData.eqv (.int (x : Nat)) (.int 1) = false := (eqv_nat x 1).trans (decide_eq_false c5)
  rw [if_neg c5]
  match rows, sh2, d3, d4, hr, c3 with
  | [], _, d3, d4, _, _ =>
    have n0 : tuD [] = [] := rfl
    have q6 : PyData.eqv (.tuple []) (.tuple []) = true := by decide
    have e := tcount_eq so hc
    have d3 : decide ((1 : Int) < ((0 : Nat) : Int)) = false := d3
    have d4 : decide ((1 : Int) < (x : Int) + ((0 : Nat) : Int)) = false := d4
    rw [n0]
    simp only [↓e, sNop_ap, row?_ap, eRowM_ap, sRowSub_ap, eRowLen_ap, eRowNil_ap, isUn_un, ixN3_0, ixN3_1, ixN3_2, gRowsD_ap, rowsOf_nil, rowsOf_cons, eMeth_ap, isL_l, isS_s, mAppend_ap, mExtend_ap, ownL_fr, gIn_ap, ownDct_fr, gT_apL, hSorted, hTuple, hList, hRev, hRevX, hEqS, sSeq_ap, sBrk_ap, sCnt_ap, sRet_ap, sRetN_ap, sDrop_ap, sIf_ap, sSet_ap, isMu_ap, sAsg_ap, gN_ap, gT_ap, gTs, sPar_ap, sSub_ap, own?_ap, putO_t, putO_f, sAug_ap, sFor_ap, eC_ap, eVar_ap, ePl_ap, eMv_ap, opS_ap, sNil_ap, sCons_ap, gOp_ap, vws_nil, vws_cons, vw_im, vw_fr, vw_frd, vw_frs, vw_frr, vw_pl, view_l, view_d, view_s, view_r, rs_d, rs_l, sl_im, sl_fr, fz_im, fz_fr, fzs_nil, fzs_cons, toD_l, toD_r, gTupD_ap, gLstD_ap, gIx_ap, gDGet_ap, ownDct_pl, keyOf_i, keyOf_s, gMul_ap, tB_ap, tNot_ap, tAnd_ap, tOr_ap, eNot_ap, eAnd_ap, eOr_ap, eIf_ap, tY_ap, eSl_ap, oN_ap, oI_ap, itOf_ap, itR1_ap, itR2_ap, eLc_ap, isIm_ap, eCall_ap, eCallM_ap, fnOf_ap, isPl_im, isPl_fr, eDspl_ap, sArgs_nil, sArgs_cons, mkD_nil, mkD_cons, keepMu_mu, keepMu_im, projS_nil, projS_cons, hAdd, hSub, hMul, hDiv, hMod, hPow, hNeg, hCmp, hEq, hNe, hIsN, hNotN, hIx, hLen, hInt, hAbs, hGcd, hMin, hMax, hCut, isi_ii, isi_ib, isi_tt, isi_ll, isM_un, isM_im, isM_ow, isM_mu, List.getElem?_cons_zero, List.getElem?_cons_succ, List.getElem?_nil, List.set_cons_zero, List.set_cons_succ, List.length_cons, List.length_nil, List.length_map, List.replicate_succ, List.replicate_zero, List.cons_append, List.nil_append, List.map_cons, List.map_nil, Nat.reduceAdd, Nat.zero_add, ne_eq, not_true_eq_false, not_false_eq_true, decide_false, decide_true, Bool.or_self, Bool.or_false, Bool.false_or, Bool.and_self, Bool.false_eq_true, if_false, if_true, reduceIte, szOk_2, szOk_1, szOk_0, szOk_3, lk_left, lk_seed, lk_cells, lk_spot, pt_left, pt_spot, len_mL, mSet, true_and, and_true, List.getD_eq_getElem?_getD, Option.getD_some, seqOf_l, seqOf_t, ↓hIx_sq, ↓hLen_sq, seqOf_sq, ↓hTuple_sq, fz_fr2, gRep_ap, eq_self, gSorted_ap, gSortD_ap, gSortS_ap, ownSet_pl, eDict1_ap, eChain_ap, gInD_ap, gInS_ap, mPop_ap, mAdd_ap, eSet0_ap, sWhile_ap, itEnumX_ap, eM2_ap, eTR1_ap, eLR1_ap, hLtD, gDGetT_ap, ownDctT_pl, gInT_ap, keyT_t, keysOf_nil, keysOf_cons, eDctT0_ap, view_dT, eDict1T_ap, hIsB, hNotB, sPar3_ap, hCmp_ii, d1, d2, d3, d4, sh_int, q5, sh0, q6]
  | [R], sh2, d3, d4, hr, _ =>
    show _ = some (Rs.im (.int ((if cs = [] then 2 * tc (srtN R) else if cs.length = 1 ∧ R = [] then 2 * cs.headD 1 else if cs = [2] ∧ R.length = 1 then 4 * R.headD 1 else if cs = [3] ∧ R = [2] then 24 else 0 : Nat))), [Sl.un])
    have hR := hr R (by simp)
    have n1 : tuD [R] = [.tuple (nD R)] := rfl
    have q6 : PyData.eqv (.tuple (tuD [R])) (.tuple []) = false := (tt_ne [R]).trans (decide_eq_false (by simp))
    have d3 : decide ((1 : Int) < ((0 + 1 : Nat) : Int)) = false := d3
    have d4 : decide ((1 : Int) < (x : Int) + ((0 + 1 : Nat) : Int)) = false := d4
    have d5 : decide ((1 : Int) < ((1 : Nat) : Int)) = false := by decide
    have d6 : decide ((1 : Int) < (x : Int) + ((1 : Nat) : Int)) = false := d4
    have q7 := tu_ne cs
    have q8 := eqv_tuD [R] [[]]
    have q9 := eqv_nDT cs [2]
    have q10 := eqv_nDT cs [3]
    have q11 := eqv_tuD [R] [[2]]
    have q12 := eqv_nat cs.length 1
    have q13 := eqv_nat R.length 1
    have e8 : tuD [[]] = [.tuple []] := rfl
    have e11 : tuD [[2]] = [.tuple [.int 2]] := rfl
    have e9 : nD [2] = [.int 2] := rfl
    have e10 : nD [3] = [.int 3] := rfl
    have s9 := sh_nDT [2]
    have s10 := sh_nDT [3]
    have s8 := sh_tuD [[]]
    have s11 := sh_tuD [[2]]
    rw [e8] at q8 s8
    rw [e11] at q11 s11
    rw [e9] at q9 s9
    rw [e10] at q10 s10
    rw [n1] at q6 q8 q11 sh2 ⊢
    have q12 : PyData.eqv (.int (cs.length : Nat)) (.int 1) = decide (cs.length = 1) := q12
    have q13 : PyData.eqv (.int (R.length : Nat)) (.int 1) = decide (R.length = 1) := q13
    by_cases k1 : cs = []
    · subst k1
      have e := tcount_eq (srtN_so R) fun t ht => hR t ((srtN_perm R).mem_iff.mp ht)
      have q7 : PyData.eqv (.tuple []) (.tuple []) = true := by decide
      have m : mulOk 2 ((tc (srtN R) : Nat) : Int) = true := mulOk_l (by decide) (by decide)
      have es := sorted_T R
      rw [if_pos rfl]
      simp only [↓e, ↓es, sNop_ap, row?_ap, eRowM_ap, sRowSub_ap, eRowLen_ap, eRowNil_ap, isUn_un, ixN3_0, ixN3_1, ixN3_2, gRowsD_ap, rowsOf_nil, rowsOf_cons, eMeth_ap, isL_l, isS_s, mAppend_ap, mExtend_ap, ownL_fr, gIn_ap, ownDct_fr, gT_apL, hSorted, hTuple, hList, hRev, hRevX, hEqS, sSeq_ap, sBrk_ap, sCnt_ap, sRet_ap, sRetN_ap, sDrop_ap, sIf_ap, sSet_ap, isMu_ap, sAsg_ap, gN_ap, gT_ap, gTs, sPar_ap, sSub_ap, own?_ap, putO_t, putO_f, sAug_ap, sFor_ap, eC_ap, eVar_ap, ePl_ap, eMv_ap, opS_ap, sNil_ap, sCons_ap, gOp_ap, vws_nil, vws_cons, vw_im, vw_fr, vw_frd, vw_frs, vw_frr, vw_pl, view_l, view_d, view_s, view_r, rs_d, rs_l, sl_im, sl_fr, fz_im, fz_fr, fzs_nil, fzs_cons, toD_l, toD_r, gTupD_ap, gLstD_ap, gIx_ap, gDGet_ap, ownDct_pl, keyOf_i, keyOf_s, gMul_ap, tB_ap, tNot_ap, tAnd_ap, tOr_ap, eNot_ap, eAnd_ap, eOr_ap, eIf_ap, tY_ap, eSl_ap, oN_ap, oI_ap, itOf_ap, itR1_ap, itR2_ap, eLc_ap, isIm_ap, eCall_ap, eCallM_ap, fnOf_ap, isPl_im, isPl_fr, eDspl_ap, sArgs_nil, sArgs_cons, mkD_nil, mkD_cons, keepMu_mu, keepMu_im, projS_nil, projS_cons, hAdd, hSub, hMul, hDiv, hMod, hPow, hNeg, hCmp, hEq, hNe, hIsN, hNotN, hIx, hLen, hInt, hAbs, hGcd, hMin, hMax, hCut, isi_ii, isi_ib, isi_tt, isi_ll, isM_un, isM_im, isM_ow, isM_mu, List.getElem?_cons_zero, List.getElem?_cons_succ, List.getElem?_nil, List.set_cons_zero, List.set_cons_succ, List.length_cons, List.length_nil, List.length_map, List.replicate_succ, List.replicate_zero, List.cons_append, List.nil_append, List.map_cons, List.map_nil, Nat.reduceAdd, Nat.zero_add, ne_eq, not_true_eq_false, not_false_eq_true, decide_false, decide_true, Bool.or_self, Bool.or_false, Bool.false_or, Bool.and_self, Bool.false_eq_true, if_false, if_true, reduceIte, szOk_2, szOk_1, szOk_0, szOk_3, lk_left, lk_seed, lk_cells, lk_spot, pt_left, pt_spot, len_mL, mSet, true_and, and_true, List.getD_eq_getElem?_getD, Option.getD_some, seqOf_l, seqOf_t, ↓hIx_sq, ↓hLen_sq, seqOf_sq, ↓hTuple_sq, fz_fr2, gRep_ap, eq_self, gSorted_ap, gSortD_ap, gSortS_ap, ownSet_pl, eDict1_ap, eChain_ap, gInD_ap, gInS_ap, mPop_ap, mAdd_ap, eSet0_ap, sWhile_ap, itEnumX_ap, eM2_ap, eTR1_ap, eLR1_ap, hLtD, gDGetT_ap, ownDctT_pl, gInT_ap, keyT_t, keysOf_nil, keysOf_cons, eDctT0_ap, view_dT, eDict1T_ap, hIsB, hNotB, sPar3_ap, hCmp_ii, d1, d2, d3, d4, d5, d6, sh_int, q5, sh0, sh2, q6, q7, b0, nD_nil, m]
      rfl
    · rw [decide_eq_false k1] at q7
      rw [if_neg k1]
      by_cases k2 : cs.length = 1
      · obtain ⟨a, rfl⟩ : ∃ a, cs = [a] := by
          match cs, k2 with
          | [a], _ => exact ⟨a, rfl⟩
        have u : nD [a] = [.int (a : Nat)] := rfl
        rw [u] at q7 q9 q10 sh1 ⊢
        have q12 : PyData.eqv (.int ((0 + 1 : Nat) : Int)) (.int 1) = true := by decide
        have q14 : PyData.eqv (.int ((1 : Nat) : Int)) (.int 1) = true := by decide
        by_cases k3 : R = []
        · subst k3
          rw [if_pos ⟨rfl, rfl⟩, List.headD_cons]
          have q8 : PyData.eqv (.tuple [.tuple []]) (.tuple [.tuple []]) = true := by decide
          have m : mulOk 2 (a : Int) = true := mulOk_l (by decide) (by decide)
          rw [nD_nil] at *
          simp only [sNop_ap, row?_ap, eRowM_ap, sRowSub_ap, eRowLen_ap, eRowNil_ap, isUn_un, ixN3_0, ixN3_1, ixN3_2, gRowsD_ap, rowsOf_nil, rowsOf_cons, eMeth_ap, isL_l, isS_s, mAppend_ap, mExtend_ap, ownL_fr, gIn_ap, ownDct_fr, gT_apL, hSorted, hTuple, hList, hRev, hRevX, hEqS, sSeq_ap, sBrk_ap, sCnt_ap, sRet_ap, sRetN_ap, sDrop_ap, sIf_ap, sSet_ap, isMu_ap, sAsg_ap, gN_ap, gT_ap, gTs, sPar_ap, sSub_ap, own?_ap, putO_t, putO_f, sAug_ap, sFor_ap, eC_ap, eVar_ap, ePl_ap, eMv_ap, opS_ap, sNil_ap, sCons_ap, gOp_ap, vws_nil, vws_cons, vw_im, vw_fr, vw_frd, vw_frs, vw_frr, vw_pl, view_l, view_d, view_s, view_r, rs_d, rs_l, sl_im, sl_fr, fz_im, fz_fr, fzs_nil, fzs_cons, toD_l, toD_r, gTupD_ap, gLstD_ap, gIx_ap, gDGet_ap, ownDct_pl, keyOf_i, keyOf_s, gMul_ap, tB_ap, tNot_ap, tAnd_ap, tOr_ap, eNot_ap, eAnd_ap, eOr_ap, eIf_ap, tY_ap, eSl_ap, oN_ap, oI_ap, itOf_ap, itR1_ap, itR2_ap, eLc_ap, isIm_ap, eCall_ap, eCallM_ap, fnOf_ap, isPl_im, isPl_fr, eDspl_ap, sArgs_nil, sArgs_cons, mkD_nil, mkD_cons, keepMu_mu, keepMu_im, projS_nil, projS_cons, hAdd, hSub, hMul, hDiv, hMod, hPow, hNeg, hCmp, hEq, hNe, hIsN, hNotN, hIx, hLen, hInt, hAbs, hGcd, hMin, hMax, hCut, isi_ii, isi_ib, isi_tt, isi_ll, isM_un, isM_im, isM_ow, isM_mu, List.getElem?_cons_zero, List.getElem?_cons_succ, List.getElem?_nil, List.set_cons_zero, List.set_cons_succ, List.length_cons, List.length_nil, List.length_map, List.replicate_succ, List.replicate_zero, List.cons_append, List.nil_append, List.map_cons, List.map_nil, Nat.reduceAdd, Nat.zero_add, ne_eq, not_true_eq_false, not_false_eq_true, decide_false, decide_true, Bool.or_self, Bool.or_false, Bool.false_or, Bool.and_self, Bool.false_eq_true, if_false, if_true, reduceIte, szOk_2, szOk_1, szOk_0, szOk_3, lk_left, lk_seed, lk_cells, lk_spot, pt_left, pt_spot, len_mL, mSet, true_and, and_true, List.getD_eq_getElem?_getD, Option.getD_some, seqOf_l, seqOf_t, ↓hIx_sq, ↓hLen_sq, seqOf_sq, ↓hTuple_sq, fz_fr2, gRep_ap, eq_self, gSorted_ap, gSortD_ap, gSortS_ap, ownSet_pl, eDict1_ap, eChain_ap, gInD_ap, gInS_ap, mPop_ap, mAdd_ap, eSet0_ap, sWhile_ap, itEnumX_ap, eM2_ap, eTR1_ap, eLR1_ap, hLtD, gDGetT_ap, ownDctT_pl, gInT_ap, keyT_t, keysOf_nil, keysOf_cons, eDctT0_ap, view_dT, eDict1T_ap, hIsB, hNotB, sPar3_ap, hCmp_ii, d1, d2, d3, d4, d5, d6, sh_int, q5, sh0, sh1, sh2, q6, q7, q12, q14, q8, b0, m]
          rfl
        · rw [if_neg (fun z => k3 z.2)]
          rw [decide_eq_false (by simpa using k3)] at q8
          by_cases k4 : a = 2 ∧ R.length = 1
          · obtain ⟨rfl, k5⟩ := k4
            obtain ⟨d, rfl⟩ : ∃ a, R = [a] := by
              match R, k5 with
              | [a], _ => exact ⟨a, rfl⟩
            have m : mulOk 4 (d : Int) = true := mulOk_l (by decide) (by decide)
            have q13 : PyData.eqv (.int ((0 + 1 : Nat) : Int)) (.int 1) = true := by decide
            have u2 : nD [d] = [.int (d : Nat)] := rfl
            rw [u2] at *
            rw [decide_eq_true rfl] at q9
            rw [if_pos ⟨rfl, rfl⟩, List.headD_cons]
            simp only [sNop_ap, row?_ap, eRowM_ap, sRowSub_ap, eRowLen_ap, eRowNil_ap, isUn_un, ixN3_0, ixN3_1, ixN3_2, gRowsD_ap, rowsOf_nil, rowsOf_cons, eMeth_ap, isL_l, isS_s, mAppend_ap, mExtend_ap, ownL_fr, gIn_ap, ownDct_fr, gT_apL, hSorted, hTuple, hList, hRev, hRevX, hEqS, sSeq_ap, sBrk_ap, sCnt_ap, sRet_ap, sRetN_ap, sDrop_ap, sIf_ap, sSet_ap, isMu_ap, sAsg_ap, gN_ap, gT_ap, gTs, sPar_ap, sSub_ap, own?_ap, putO_t, putO_f, sAug_ap, sFor_ap, eC_ap, eVar_ap, ePl_ap, eMv_ap, opS_ap, sNil_ap, sCons_ap, gOp_ap, vws_nil, vws_cons, vw_im, vw_fr, vw_frd, vw_frs, vw_frr, vw_pl, view_l, view_d, view_s, view_r, rs_d, rs_l, sl_im, sl_fr, fz_im, fz_fr, fzs_nil, fzs_cons, toD_l, toD_r, gTupD_ap, gLstD_ap, gIx_ap, gDGet_ap, ownDct_pl, keyOf_i, keyOf_s, gMul_ap, tB_ap, tNot_ap, tAnd_ap, tOr_ap, eNot_ap, eAnd_ap, eOr_ap, eIf_ap, tY_ap, eSl_ap, oN_ap, oI_ap, itOf_ap, itR1_ap, itR2_ap, eLc_ap, isIm_ap, eCall_ap, eCallM_ap, fnOf_ap, isPl_im, isPl_fr, eDspl_ap, sArgs_nil, sArgs_cons, mkD_nil, mkD_cons, keepMu_mu, keepMu_im, projS_nil, projS_cons, hAdd, hSub, hMul, hDiv, hMod, hPow, hNeg, hCmp, hEq, hNe, hIsN, hNotN, hIx, hLen, hInt, hAbs, hGcd, hMin, hMax, hCut, isi_ii, isi_ib, isi_tt, isi_ll, isM_un, isM_im, isM_ow, isM_mu, List.getElem?_cons_zero, List.getElem?_cons_succ, List.getElem?_nil, List.set_cons_zero, List.set_cons_succ, List.length_cons, List.length_nil, List.length_map, List.replicate_succ, List.replicate_zero, List.cons_append, List.nil_append, List.map_cons, List.map_nil, Nat.reduceAdd, Nat.zero_add, ne_eq, not_true_eq_false, not_false_eq_true, decide_false, decide_true, Bool.or_self, Bool.or_false, Bool.false_or, Bool.and_self, Bool.false_eq_true, if_false, if_true, reduceIte, szOk_2, szOk_1, szOk_0, szOk_3, lk_left, lk_seed, lk_cells, lk_spot, pt_left, pt_spot, len_mL, mSet, true_and, and_true, List.getD_eq_getElem?_getD, Option.getD_some, seqOf_l, seqOf_t, ↓hIx_sq, ↓hLen_sq, seqOf_sq, ↓hTuple_sq, fz_fr2, gRep_ap, eq_self, gSorted_ap, gSortD_ap, gSortS_ap, ownSet_pl, eDict1_ap, eChain_ap, gInD_ap, gInS_ap, mPop_ap, mAdd_ap, eSet0_ap, sWhile_ap, itEnumX_ap, eM2_ap, eTR1_ap, eLR1_ap, hLtD, gDGetT_ap, ownDctT_pl, gInT_ap, keyT_t, keysOf_nil, keysOf_cons, eDctT0_ap, view_dT, eDict1T_ap, hIsB, hNotB, sPar3_ap, hCmp_ii, d1, d2, d3, d4, d5, d6, sh_int, q5, sh0, sh1, sh2, s8, s9, q6, q7, q12, q14, q8, q9, q13, b0, m]
            rfl
          · rw [if_neg (fun z => k4 ⟨by simpa using z.1, z.2⟩)]
            have tl : (if [a] = [3] ∧ R = [2] then 24 else 0) = (if a = 3 ∧ R = [2] then 24 else 0) := by simp
            rw [tl]
            by_cases k5 : a = 2
            · subst k5
              have k6 : ¬ R.length = 1 := fun z => k4 ⟨rfl, z⟩
              rw [decide_eq_true rfl] at q9
              rw [decide_eq_false k6] at q13
              rw [decide_eq_false (by decide)] at q10
              rw [if_neg (by omega)]
              simp only [sNop_ap, row?_ap, eRowM_ap, sRowSub_ap, eRowLen_ap, eRowNil_ap, isUn_un, ixN3_0, ixN3_1, ixN3_2, gRowsD_ap, rowsOf_nil, rowsOf_cons, eMeth_ap, isL_l, isS_s, mAppend_ap, mExtend_ap, ownL_fr, gIn_ap, ownDct_fr, gT_apL, hSorted, hTuple, hList, hRev, hRevX, hEqS, sSeq_ap, sBrk_ap, sCnt_ap, sRet_ap, sRetN_ap, sDrop_ap, sIf_ap, sSet_ap, isMu_ap, sAsg_ap, gN_ap, gT_ap, gTs, sPar_ap, sSub_ap, own?_ap, putO_t, putO_f, sAug_ap, sFor_ap, eC_ap, eVar_ap, ePl_ap, eMv_ap, opS_ap, sNil_ap, sCons_ap, gOp_ap, vws_nil, vws_cons, vw_im, vw_fr, vw_frd, vw_frs, vw_frr, vw_pl, view_l, view_d, view_s, view_r, rs_d, rs_l, sl_im, sl_fr, fz_im, fz_fr, fzs_nil, fzs_cons, toD_l, toD_r, gTupD_ap, gLstD_ap, gIx_ap, gDGet_ap, ownDct_pl, keyOf_i, keyOf_s, gMul_ap, tB_ap, tNot_ap, tAnd_ap, tOr_ap, eNot_ap, eAnd_ap, eOr_ap, eIf_ap, tY_ap, eSl_ap, oN_ap, oI_ap, itOf_ap, itR1_ap, itR2_ap, eLc_ap, isIm_ap, eCall_ap, eCallM_ap, fnOf_ap, isPl_im, isPl_fr, eDspl_ap, sArgs_nil, sArgs_cons, mkD_nil, mkD_cons, keepMu_mu, keepMu_im, projS_nil, projS_cons, hAdd, hSub, hMul, hDiv, hMod, hPow, hNeg, hCmp, hEq, hNe, hIsN, hNotN, hIx, hLen, hInt, hAbs, hGcd, hMin, hMax, hCut, isi_ii, isi_ib, isi_tt, isi_ll, isM_un, isM_im, isM_ow, isM_mu, List.getElem?_cons_zero, List.getElem?_cons_succ, List.getElem?_nil, List.set_cons_zero, List.set_cons_succ, List.length_cons, List.length_nil, List.length_map, List.replicate_succ, List.replicate_zero, List.cons_append, List.nil_append, List.map_cons, List.map_nil, Nat.reduceAdd, Nat.zero_add, ne_eq, not_true_eq_false, not_false_eq_true, decide_false, decide_true, Bool.or_self, Bool.or_false, Bool.false_or, Bool.and_self, Bool.false_eq_true, if_false, if_true, reduceIte, szOk_2, szOk_1, szOk_0, szOk_3, lk_left, lk_seed, lk_cells, lk_spot, pt_left, pt_spot, len_mL, mSet, true_and, and_true, List.getD_eq_getElem?_getD, Option.getD_some, seqOf_l, seqOf_t, ↓hIx_sq, ↓hLen_sq, seqOf_sq, ↓hTuple_sq, fz_fr2, gRep_ap, eq_self, gSorted_ap, gSortD_ap, gSortS_ap, ownSet_pl, eDict1_ap, eChain_ap, gInD_ap, gInS_ap, mPop_ap, mAdd_ap, eSet0_ap, sWhile_ap, itEnumX_ap, eM2_ap, eTR1_ap, eLR1_ap, hLtD, gDGetT_ap, ownDctT_pl, gInT_ap, keyT_t, keysOf_nil, keysOf_cons, eDctT0_ap, view_dT, eDict1T_ap, hIsB, hNotB, sPar3_ap, hCmp_ii, d1, d2, d3, d4, d5, d6, sh_int, q5, sh0, sh1, sh2, s8, s9, s10, q6, q7, q12, q14, q8, q9, q10, q13, b0, nD_len]
              rfl
            · rw [decide_eq_false (by simpa using k5)] at q9
              by_cases k6 : a = 3
              · subst k6
                rw [decide_eq_true rfl] at q10
                by_cases k7 : R = [2]
                · subst k7
                  rw [decide_eq_true rfl] at q11
                  rw [if_pos ⟨rfl, rfl⟩]
                  simp only [sNop_ap, row?_ap, eRowM_ap, sRowSub_ap, eRowLen_ap, eRowNil_ap, isUn_un, ixN3_0, ixN3_1, ixN3_2, gRowsD_ap, rowsOf_nil, rowsOf_cons, eMeth_ap, isL_l, isS_s, mAppend_ap, mExtend_ap, ownL_fr, gIn_ap, ownDct_fr, gT_apL, hSorted, hTuple, hList, hRev, hRevX, hEqS, sSeq_ap, sBrk_ap, sCnt_ap, sRet_ap, sRetN_ap, sDrop_ap, sIf_ap, sSet_ap, isMu_ap, sAsg_ap, gN_ap, gT_ap, gTs, sPar_ap, sSub_ap, own?_ap, putO_t, putO_f, sAug_ap, sFor_ap, eC_ap, eVar_ap, ePl_ap, eMv_ap, opS_ap, sNil_ap, sCons_ap, gOp_ap, vws_nil, vws_cons, vw_im, vw_fr, vw_frd, vw_frs, vw_frr, vw_pl, view_l, view_d, view_s, view_r, rs_d, rs_l, sl_im, sl_fr, fz_im, fz_fr, fzs_nil, fzs_cons, toD_l, toD_r, gTupD_ap, gLstD_ap, gIx_ap, gDGet_ap, ownDct_pl, keyOf_i, keyOf_s, gMul_ap, tB_ap, tNot_ap, tAnd_ap, tOr_ap, eNot_ap, eAnd_ap, eOr_ap, eIf_ap, tY_ap, eSl_ap, oN_ap, oI_ap, itOf_ap, itR1_ap, itR2_ap, eLc_ap, isIm_ap, eCall_ap, eCallM_ap, fnOf_ap, isPl_im, isPl_fr, eDspl_ap, sArgs_nil, sArgs_cons, mkD_nil, mkD_cons, keepMu_mu, keepMu_im, projS_nil, projS_cons, hAdd, hSub, hMul, hDiv, hMod, hPow, hNeg, hCmp, hEq, hNe, hIsN, hNotN, hIx, hLen, hInt, hAbs, hGcd, hMin, hMax, hCut, isi_ii, isi_ib, isi_tt, isi_ll, isM_un, isM_im, isM_ow, isM_mu, List.getElem?_cons_zero, List.getElem?_cons_succ, List.getElem?_nil, List.set_cons_zero, List.set_cons_succ, List.length_cons, List.length_nil, List.length_map, List.replicate_succ, List.replicate_zero, List.cons_append, List.nil_append, List.map_cons, List.map_nil, Nat.reduceAdd, Nat.zero_add, ne_eq, not_true_eq_false, not_false_eq_true, decide_false, decide_true, Bool.or_self, Bool.or_false, Bool.false_or, Bool.and_self, Bool.false_eq_true, if_false, if_true, reduceIte, szOk_2, szOk_1, szOk_0, szOk_3, lk_left, lk_seed, lk_cells, lk_spot, pt_left, pt_spot, len_mL, mSet, true_and, and_true, List.getD_eq_getElem?_getD, Option.getD_some, seqOf_l, seqOf_t, ↓hIx_sq, ↓hLen_sq, seqOf_sq, ↓hTuple_sq, fz_fr2, gRep_ap, eq_self, gSorted_ap, gSortD_ap, gSortS_ap, ownSet_pl, eDict1_ap, eChain_ap, gInD_ap, gInS_ap, mPop_ap, mAdd_ap, eSet0_ap, sWhile_ap, itEnumX_ap, eM2_ap, eTR1_ap, eLR1_ap, hLtD, gDGetT_ap, ownDctT_pl, gInT_ap, keyT_t, keysOf_nil, keysOf_cons, eDctT0_ap, view_dT, eDict1T_ap, hIsB, hNotB, sPar3_ap, hCmp_ii, d1, d2, d3, d4, d5, d6, sh_int, q5, sh0, sh1, sh2, s8, s9, s10, s11, q6, q7, q12, q14, q8, q9, q10, q11, b0]
                  rfl
                · rw [decide_eq_false (by simpa using k7)] at q11
                  rw [if_neg (fun z => k7 z.2)]
                  simp only [sNop_ap, row?_ap, eRowM_ap, sRowSub_ap, eRowLen_ap, eRowNil_ap, isUn_un, ixN3_0, ixN3_1, ixN3_2, gRowsD_ap, rowsOf_nil, rowsOf_cons, eMeth_ap, isL_l, isS_s, mAppend_ap, mExtend_ap, ownL_fr, gIn_ap, ownDct_fr, gT_apL, hSorted, hTuple, hList, hRev, hRevX, hEqS, sSeq_ap, sBrk_ap, sCnt_ap, sRet_ap, sRetN_ap, sDrop_ap, sIf_ap, sSet_ap, isMu_ap, sAsg_ap, gN_ap, gT_ap, gTs, sPar_ap, sSub_ap, own?_ap, putO_t, putO_f, sAug_ap, sFor_ap, eC_ap, eVar_ap, ePl_ap, eMv_ap, opS_ap, sNil_ap, sCons_ap, gOp_ap, vws_nil, vws_cons, vw_im, vw_fr, vw_frd, vw_frs, vw_frr, vw_pl, view_l, view_d, view_s, view_r, rs_d, rs_l, sl_im, sl_fr, fz_im, fz_fr, fzs_nil, fzs_cons, toD_l, toD_r, gTupD_ap, gLstD_ap, gIx_ap, gDGet_ap, ownDct_pl, keyOf_i, keyOf_s, gMul_ap, tB_ap, tNot_ap, tAnd_ap, tOr_ap, eNot_ap, eAnd_ap, eOr_ap, eIf_ap, tY_ap, eSl_ap, oN_ap, oI_ap, itOf_ap, itR1_ap, itR2_ap, eLc_ap, isIm_ap, eCall_ap, eCallM_ap, fnOf_ap, isPl_im, isPl_fr, eDspl_ap, sArgs_nil, sArgs_cons, mkD_nil, mkD_cons, keepMu_mu, keepMu_im, projS_nil, projS_cons, hAdd, hSub, hMul, hDiv, hMod, hPow, hNeg, hCmp, hEq, hNe, hIsN, hNotN, hIx, hLen, hInt, hAbs, hGcd, hMin, hMax, hCut, isi_ii, isi_ib, isi_tt, isi_ll, isM_un, isM_im, isM_ow, isM_mu, List.getElem?_cons_zero, List.getElem?_cons_succ, List.getElem?_nil, List.set_cons_zero, List.set_cons_succ, List.length_cons, List.length_nil, List.length_map, List.replicate_succ, List.replicate_zero, List.cons_append, List.nil_append, List.map_cons, List.map_nil, Nat.reduceAdd, Nat.zero_add, ne_eq, not_true_eq_false, not_false_eq_true, decide_false, decide_true, Bool.or_self, Bool.or_false, Bool.false_or, Bool.and_self, Bool.false_eq_true, if_false, if_true, reduceIte, szOk_2, szOk_1, szOk_0, szOk_3, lk_left, lk_seed, lk_cells, lk_spot, pt_left, pt_spot, len_mL, mSet, true_and, and_true, List.getD_eq_getElem?_getD, Option.getD_some, seqOf_l, seqOf_t, ↓hIx_sq, ↓hLen_sq, seqOf_sq, ↓hTuple_sq, fz_fr2, gRep_ap, eq_self, gSorted_ap, gSortD_ap, gSortS_ap, ownSet_pl, eDict1_ap, eChain_ap, gInD_ap, gInS_ap, mPop_ap, mAdd_ap, eSet0_ap, sWhile_ap, itEnumX_ap, eM2_ap, eTR1_ap, eLR1_ap, hLtD, gDGetT_ap, ownDctT_pl, gInT_ap, keyT_t, keysOf_nil, keysOf_cons, eDctT0_ap, view_dT, eDict1T_ap, hIsB, hNotB, sPar3_ap, hCmp_ii, d1, d2, d3, d4, d5, d6, sh_int, q5, sh0, sh1, sh2, s8, s9, s10, s11, q6, q7, q12, q14, q8, q9, q10, q11, b0]
                  rfl
              · rw [decide_eq_false (by simpa using k6)] at q10
                rw [if_neg (fun z => k6 z.1)]
                simp only [sNop_ap, row?_ap, eRowM_ap, sRowSub_ap, eRowLen_ap, eRowNil_ap, isUn_un, ixN3_0, ixN3_1, ixN3_2, gRowsD_ap, rowsOf_nil, rowsOf_cons, eMeth_ap, isL_l, isS_s, mAppend_ap, mExtend_ap, ownL_fr, gIn_ap, ownDct_fr, gT_apL, hSorted, hTuple, hList, hRev, hRevX, hEqS, sSeq_ap, sBrk_ap, sCnt_ap, sRet_ap, sRetN_ap, sDrop_ap, sIf_ap, sSet_ap, isMu_ap, sAsg_ap, gN_ap, gT_ap, gTs, sPar_ap, sSub_ap, own?_ap, putO_t, putO_f, sAug_ap, sFor_ap, eC_ap, eVar_ap, ePl_ap, eMv_ap, opS_ap, sNil_ap, sCons_ap, gOp_ap, vws_nil, vws_cons, vw_im, vw_fr, vw_frd, vw_frs, vw_frr, vw_pl, view_l, view_d, view_s, view_r, rs_d, rs_l, sl_im, sl_fr, fz_im, fz_fr, fzs_nil, fzs_cons, toD_l, toD_r, gTupD_ap, gLstD_ap, gIx_ap, gDGet_ap, ownDct_pl, keyOf_i, keyOf_s, gMul_ap, tB_ap, tNot_ap, tAnd_ap, tOr_ap, eNot_ap, eAnd_ap, eOr_ap, eIf_ap, tY_ap, eSl_ap, oN_ap, oI_ap, itOf_ap, itR1_ap, itR2_ap, eLc_ap, isIm_ap, eCall_ap, eCallM_ap, fnOf_ap, isPl_im, isPl_fr, eDspl_ap, sArgs_nil, sArgs_cons, mkD_nil, mkD_cons, keepMu_mu, keepMu_im, projS_nil, projS_cons, hAdd, hSub, hMul, hDiv, hMod, hPow, hNeg, hCmp, hEq, hNe, hIsN, hNotN, hIx, hLen, hInt, hAbs, hGcd, hMin, hMax, hCut, isi_ii, isi_ib, isi_tt, isi_ll, isM_un, isM_im, isM_ow, isM_mu, List.getElem?_cons_zero, List.getElem?_cons_succ, List.getElem?_nil, List.set_cons_zero, List.set_cons_succ, List.length_cons, List.length_nil, List.length_map, List.replicate_succ, List.replicate_zero, List.cons_append, List.nil_append, List.map_cons, List.map_nil, Nat.reduceAdd, Nat.zero_add, ne_eq, not_true_eq_false, not_false_eq_true, decide_false, decide_true, Bool.or_self, Bool.or_false, Bool.false_or, Bool.and_self, Bool.false_eq_true, if_false, if_true, reduceIte, szOk_2, szOk_1, szOk_0, szOk_3, lk_left, lk_seed, lk_cells, lk_spot, pt_left, pt_spot, len_mL, mSet, true_and, and_true, List.getD_eq_getElem?_getD, Option.getD_some, seqOf_l, seqOf_t, ↓hIx_sq, ↓hLen_sq, seqOf_sq, ↓hTuple_sq, fz_fr2, gRep_ap, eq_self, gSorted_ap, gSortD_ap, gSortS_ap, ownSet_pl, eDict1_ap, eChain_ap, gInD_ap, gInS_ap, mPop_ap, mAdd_ap, eSet0_ap, sWhile_ap, itEnumX_ap, eM2_ap, eTR1_ap, eLR1_ap, hLtD, gDGetT_ap, ownDctT_pl, gInT_ap, keyT_t, keysOf_nil, keysOf_cons, eDctT0_ap, view_dT, eDict1T_ap, hIsB, hNotB, sPar3_ap, hCmp_ii, d1, d2, d3, d4, d5, d6, sh_int, q5, sh0, sh1, sh2, s8, s9, s10, s11, q6, q7, q12, q14, q8, q9, q10, q11, b0]
                rfl
      · rw [decide_eq_false k2] at q12
        have q14 := q12
        rw [decide_eq_false (show ¬ cs = [2] from fun z => k2 (by rw [z]; rfl))] at q9
        rw [decide_eq_false (show ¬ cs = [3] from fun z => k2 (by rw [z]; rfl))] at q10
        rw [if_neg (fun z => k2 z.1), if_neg (fun z => k2 (by rw [z.1]; rfl)), if_neg (fun z => k2 (by rw [z.1]; rfl))]
        simp only [sNop_ap, row?_ap, eRowM_ap, sRowSub_ap, eRowLen_ap, eRowNil_ap, isUn_un, ixN3_0, ixN3_1, ixN3_2, gRowsD_ap, rowsOf_nil, rowsOf_cons, eMeth_ap, isL_l, isS_s, mAppend_ap, mExtend_ap, ownL_fr, gIn_ap, ownDct_fr, gT_apL, hSorted, hTuple, hList, hRev, hRevX, hEqS, sSeq_ap, sBrk_ap, sCnt_ap, sRet_ap, sRetN_ap, sDrop_ap, sIf_ap, sSet_ap, isMu_ap, sAsg_ap, gN_ap, gT_ap, gTs, sPar_ap, sSub_ap, own?_ap, putO_t, putO_f, sAug_ap, sFor_ap, eC_ap, eVar_ap, ePl_ap, eMv_ap, opS_ap, sNil_ap, sCons_ap, gOp_ap, vws_nil, vws_cons, vw_im, vw_fr, vw_frd, vw_frs, vw_frr, vw_pl, view_l, view_d, view_s, view_r, rs_d, rs_l, sl_im, sl_fr, fz_im, fz_fr, fzs_nil, fzs_cons, toD_l, toD_r, gTupD_ap, gLstD_ap, gIx_ap, gDGet_ap, ownDct_pl, keyOf_i, keyOf_s, gMul_ap, tB_ap, tNot_ap, tAnd_ap, tOr_ap, eNot_ap, eAnd_ap, eOr_ap, eIf_ap, tY_ap, eSl_ap, oN_ap, oI_ap, itOf_ap, itR1_ap, itR2_ap, eLc_ap, isIm_ap, eCall_ap, eCallM_ap, fnOf_ap, isPl_im, isPl_fr, eDspl_ap, sArgs_nil, sArgs_cons, mkD_nil, mkD_cons, keepMu_mu, keepMu_im, projS_nil, projS_cons, hAdd, hSub, hMul, hDiv, hMod, hPow, hNeg, hCmp, hEq, hNe, hIsN, hNotN, hIx, hLen, hInt, hAbs, hGcd, hMin, hMax, hCut, isi_ii, isi_ib, isi_tt, isi_ll, isM_un, isM_im, isM_ow, isM_mu, List.getElem?_cons_zero, List.getElem?_cons_succ, List.getElem?_nil, List.set_cons_zero, List.set_cons_succ, List.length_cons, List.length_nil, List.length_map, List.replicate_succ, List.replicate_zero, List.cons_append, List.nil_append, List.map_cons, List.map_nil, Nat.reduceAdd, Nat.zero_add, ne_eq, not_true_eq_false, not_false_eq_true, decide_false, decide_true, Bool.or_self, Bool.or_false, Bool.false_or, Bool.and_self, Bool.false_eq_true, if_false, if_true, reduceIte, szOk_2, szOk_1, szOk_0, szOk_3, lk_left, lk_seed, lk_cells, lk_spot, pt_left, pt_spot, len_mL, mSet, true_and, and_true, List.getD_eq_getElem?_getD, Option.getD_some, seqOf_l, seqOf_t, ↓hIx_sq, ↓hLen_sq, seqOf_sq, ↓hTuple_sq, fz_fr2, gRep_ap, eq_self, gSorted_ap, gSortD_ap, gSortS_ap, ownSet_pl, eDict1_ap, eChain_ap, gInD_ap, gInS_ap, mPop_ap, mAdd_ap, eSet0_ap, sWhile_ap, itEnumX_ap, eM2_ap, eTR1_ap, eLR1_ap, hLtD, gDGetT_ap, ownDctT_pl, gInT_ap, keyT_t, keysOf_nil, keysOf_cons, eDctT0_ap, view_dT, eDict1T_ap, hIsB, hNotB, sPar3_ap, hCmp_ii, d1, d2, d3, d4, d5, d6, sh_int, q5, sh0, sh1, sh2, s8, s9, s10, s11, q6, q7, q12, q14, q8, q9, q10, q11, b0, nD_len]
        rfl
  | R :: S :: rows, _, _, _, _, c => exact absurd (show 1 < (R :: S :: rows).length by simp only [List.length_cons]; omega) c

/-! ### right -/
theorem tc_le : ∀ {l : List Nat}, (∀ t ∈ l, t ≤ 10000) → tc l ≤ 20000
  | [], _ => by decide
  | [_], _ => Nat.zero_le _
  | [a, b], h => by
    have := h a (by simp)
    show (if a = b then a else 0) ≤ 20000
    split <;> omega
  | [a, b, c], h => by
    have := h c (by simp)
    show (if 2 < a then 0 else if b = 2 then 2 * c else if 3 < b ∨ 5 < c then 0 else if c = 3 then 12 else if c = 4 then 24 else 60) ≤ 20000
    by_cases h1 : 2 < a
    · rw [if_pos h1]; omega
    rw [if_neg h1]
    by_cases h2 : b = 2
    · rw [if_pos h2]; omega
    rw [if_neg h2]
    by_cases h3 : 3 < b ∨ 5 < c
    · rw [if_pos h3]; omega
    rw [if_neg h3]
    by_cases h4 : c = 3
    · rw [if_pos h4]; omega
    rw [if_neg h4]
    by_cases h5 : c = 4
    · rw [if_pos h5]; omega
    rw [if_neg h5]; omega
  | _ :: _ :: _ :: _ :: _, _ => by show 0 ≤ 20000; omega
theorem if_le {c : Prop} [Decidable c] {a b k : Nat} (ha : a ≤ k) (hb : b ≤ k) : (if c then a else b) ≤ k := by
  by_cases h : c
  · rw [if_pos h]; exact ha
  · rw [if_neg h]; exact hb
theorem bc_le {h x : Nat} {cs : List Nat} {rows : List (List Nat)} (hc : ∀ t ∈ cs, t ≤ 10000) (hr : ∀ R ∈ rows, ∀ t ∈ R, t ≤ 10000) : bc h cs rows x ≤ 40000 := by
  have hd : ∀ {l : List Nat}, (∀ t ∈ l, t ≤ 10000) → l.headD 1 ≤ 10000 := fun {l} h => by
    match l, h with
    | [], _ => show 1 ≤ 10000; omega
    | a :: l, h => exact h a (by simp)
  have h1 := hd hc
  unfold bc
  refine if_le (by omega) (if_le (if_le (by omega) (by omega)) ?_)
  match rows, hr with
  | [], _ =>
    have := tc_le hc
    show tc cs ≤ 40000
    omega
  | R :: rows, hr =>
    have hR := hr R (by simp)
    have h2 := hd hR
    have h3 := tc_le (l := srtN R) fun t ht => hR t ((srtN_perm R).mem_iff.mp ht)
    show (if cs = [] then 2 * tc (srtN R) else if cs.length = 1 ∧ R = [] then 2 * cs.headD 1 else if cs = [2] ∧ R.length = 1 then 4 * R.headD 1 else if cs = [3] ∧ R = [2] then 24 else 0) ≤ 40000
    exact if_le (by omega) (if_le (by omega) (if_le (by omega) (if_le (by omega) (by omega))))
section
variable {h x : Nat} {cs : List Nat} {rows : List (List Nat)}
theorem like_bb (b : Bool) : f_law_like [.im (.list [.bool b, .bool b]), .im (.list [.bool b, .bool b])] = some (.im (.bool true), [.un, .un]) := by
  cases b <;> exact like_l (by decide +kernel) (by decide +kernel) (by decide +kernel)
theorem like_nt {n : Nat} (hn : n ≤ 40000) : f_law_like [.im (.list [.int (n : Nat), .tuple [.int 4, .int 1]]), .im (.list [.int (n : Nat), .tuple [.int 4, .int 1]])] = some (.im (.bool true), [.un, .un]) := by
  have l := log2_lt (t := n) (by omega)
  have l4 : (4 : Int).natAbs.log2 < 1920 := by decide +kernel
  have l1 : (1 : Int).natAbs.log2 < 1920 := by decide +kernel
  refine like_l ?_ ?_ ?_
  · simp only [rkA, rk, l, l4, l1, decide_true, Bool.and_self]
  · simp only [rcA, rc]; omega
  · simp [PyData.depth, PyData.depthAll]
theorem right_eq (o : NmOk h cs rows x) (so : cs.Pairwise (· ≤ ·)) (hc : ∀ t ∈ cs, 2 ≤ t) (hr : ∀ R ∈ rows, ∀ t ∈ R, 2 ≤ t) : f_law_right [.im (nmD h cs rows x)] = some (.im (.bool true), [.un]) := by
  have B := bc_spec (h := h) (x := x) so hc hr
  have bl := bc_le (h := h) (x := x) (fun t ht => (o.c t ht).2) (fun R hR t ht => (o.r R hR t ht).2)
  have e1 := lcount_eq (h := h) (x := x) so hc hr
  have e2 := law_is_bad_eq h cs rows x
  have e3 := side_eq o
  have e4 := is_bad_eq h cs rows x
  have e5 := name_sum_eq o
  have e6 := fun {n : Nat} a b c => ball_eq (n := n) o a b c
  have e7 := fun {n : Nat} a b => times_eq (n := n) o a b
  have v0 : SeqAt.shaped (.str "ball") = true := by decide +kernel
  have v1 : SeqAt.shaped (.str "bad") = true := by decide +kernel
  have v2 : SeqAt.shaped (.str "saddle") = true := by decide +kernel
  have v3 : SeqAt.shaped (.str "plane") = true := by decide +kernel
  have q1 : PyData.eqv (.str "ball") (.str "ball") = true := by decide +kernel
  have q2 : PyData.eqv (.str "bad") (.str "ball") = false := by decide +kernel
  have q3 : PyData.eqv (.str "saddle") (.str "ball") = false := by decide +kernel
  have q4 : PyData.eqv (.str "plane") (.str "ball") = false := by decide +kernel
  have q5 : PyData.eqv (.str "ball") (.str "bad") = false := by decide +kernel
  have q6 : PyData.eqv (.str "bad") (.str "bad") = true := by decide +kernel
  have q7 : PyData.eqv (.str "saddle") (.str "bad") = false := by decide +kernel
  have q8 : PyData.eqv (.str "plane") (.str "bad") = false := by decide +kernel
  have w1 : PyData.eqv (.bool true) (.bool true) = true := by decide
  have w2 : PyData.eqv (.bool false) (.bool false) = true := by decide
  have k := like_bb
  generalize nmD h cs rows x = N at *
  generalize bdN h cs rows x = b at *
  generalize bc h cs rows x = n at *
  unfold f_law_right b_law_right
  cases b with
  | true =>
    have n0 : n = 0 := Nat.eq_zero_of_not_pos fun z => absurd (B.i.mp z).2 (by decide)
    subst n0
    have k := k true
    have d0 : decide ((0 : Int) < ((0 : Nat) : Int)) = false := by decide
    have z0 : PyData.eqv (.int ((0 : Nat) : Int)) (.int 0) = true := by decide
    rw [if_pos rfl] at e3
    simp only [↓e1, ↓e2, ↓e3, ↓e4, ↓k, sNop_ap, row?_ap, eRowM_ap, sRowSub_ap, eRowLen_ap, eRowNil_ap, isUn_un, ixN3_0, ixN3_1, ixN3_2, gRowsD_ap, rowsOf_nil, rowsOf_cons, eMeth_ap, isL_l, isS_s, mAppend_ap, mExtend_ap, ownL_fr, gIn_ap, ownDct_fr, gT_apL, hSorted, hTuple, hList, hRev, hRevX, hEqS, sSeq_ap, sBrk_ap, sCnt_ap, sRet_ap, sRetN_ap, sDrop_ap, sIf_ap, sSet_ap, isMu_ap, sAsg_ap, gN_ap, gT_ap, gTs, sPar_ap, sSub_ap, own?_ap, putO_t, putO_f, sAug_ap, sFor_ap, eC_ap, eVar_ap, ePl_ap, eMv_ap, opS_ap, sNil_ap, sCons_ap, gOp_ap, vws_nil, vws_cons, vw_im, vw_fr, vw_frd, vw_frs, vw_frr, vw_pl, view_l, view_d, view_s, view_r, rs_d, rs_l, sl_im, sl_fr, fz_im, fz_fr, fzs_nil, fzs_cons, toD_l, toD_r, gTupD_ap, gLstD_ap, gIx_ap, gDGet_ap, ownDct_pl, keyOf_i, keyOf_s, gMul_ap, tB_ap, tNot_ap, tAnd_ap, tOr_ap, eNot_ap, eAnd_ap, eOr_ap, eIf_ap, tY_ap, eSl_ap, oN_ap, oI_ap, itOf_ap, itR1_ap, itR2_ap, eLc_ap, isIm_ap, eCall_ap, eCallM_ap, fnOf_ap, isPl_im, isPl_fr, eDspl_ap, sArgs_nil, sArgs_cons, mkD_nil, mkD_cons, keepMu_mu, keepMu_im, projS_nil, projS_cons, hAdd, hSub, hMul, hDiv, hMod, hPow, hNeg, hCmp, hEq, hNe, hIsN, hNotN, hIx, hLen, hInt, hAbs, hGcd, hMin, hMax, hCut, isi_ii, isi_ib, isi_tt, isi_ll, isM_un, isM_im, isM_ow, isM_mu, List.getElem?_cons_zero, List.getElem?_cons_succ, List.getElem?_nil, List.set_cons_zero, List.set_cons_succ, List.length_cons, List.length_nil, List.length_map, List.replicate_succ, List.replicate_zero, List.cons_append, List.nil_append, List.map_cons, List.map_nil, Nat.reduceAdd, Nat.zero_add, ne_eq, not_true_eq_false, not_false_eq_true, decide_false, decide_true, Bool.or_self, Bool.or_false, Bool.false_or, Bool.and_self, Bool.false_eq_true, if_false, if_true, reduceIte, szOk_2, szOk_1, szOk_0, szOk_3, lk_left, lk_seed, lk_cells, lk_spot, pt_left, pt_spot, len_mL, mSet, true_and, and_true, List.getD_eq_getElem?_getD, Option.getD_some, seqOf_l, seqOf_t, ↓hIx_sq, ↓hLen_sq, seqOf_sq, ↓hTuple_sq, fz_fr2, gRep_ap, eq_self, gSorted_ap, gSortD_ap, gSortS_ap, ownSet_pl, eDict1_ap, eChain_ap, gInD_ap, gInS_ap, mPop_ap, mAdd_ap, eSet0_ap, sWhile_ap, itEnumX_ap, eM2_ap, eTR1_ap, eLR1_ap, hLtD, gDGetT_ap, ownDctT_pl, gInT_ap, keyT_t, keysOf_nil, keysOf_cons, eDctT0_ap, view_dT, eDict1T_ap, hIsB, hNotB, sPar3_ap, hCmp_ii, d0, z0, v0, v1, q2, q6, w2, sh_bool, sh_int, Bool.not_true]
  | false =>
    have k := k false
    rw [if_neg (by decide)] at e3
    unfold sd at e3
    by_cases c : 0 < (tot h cs rows x).num
    · rw [if_pos c] at e3
      have hT := num_pos'.mp c
      have np := B.i.mpr ⟨hT, rfl⟩
      have en := B.e np
      have e6 := e6 np hT en
      have e7 := e7 (by omega) en
      have e8 : f_ratio [.im (.int (n : Nat)), .im (.int 1)] = some (.im (fr (n : Rat)), [.un, .un]) := by
        have := ratio_rat (a := (n : Nat)) (b := 1) (by decide) (by decide)
        rw [show mkRat ((n : Nat) : Int) 1 = (n : Rat) by rw [Rat.mkRat_eq_div]; show (n : Rat) / 1 = _; grind] at this
        exact this
      have d0 : decide ((0 : Int) < (n : Int)) = true := decide_eq_true (by omega)
      have z0 : PyData.eqv (.int (n : Nat)) (.int 0) = false := (eqv_nat n 0).trans (decide_eq_false (by omega))
      have kn := like_nt bl
      simp only [↓e1, ↓e2, ↓e3, ↓e4, ↓k, ↓e5, ↓e6, ↓e7, ↓e8, ↓kn, sNop_ap, row?_ap, eRowM_ap, sRowSub_ap, eRowLen_ap, eRowNil_ap, isUn_un, ixN3_0, ixN3_1, ixN3_2, gRowsD_ap, rowsOf_nil, rowsOf_cons, eMeth_ap, isL_l, isS_s, mAppend_ap, mExtend_ap, ownL_fr, gIn_ap, ownDct_fr, gT_apL, hSorted, hTuple, hList, hRev, hRevX, hEqS, sSeq_ap, sBrk_ap, sCnt_ap, sRet_ap, sRetN_ap, sDrop_ap, sIf_ap, sSet_ap, isMu_ap, sAsg_ap, gN_ap, gT_ap, gTs, sPar_ap, sSub_ap, own?_ap, putO_t, putO_f, sAug_ap, sFor_ap, eC_ap, eVar_ap, ePl_ap, eMv_ap, opS_ap, sNil_ap, sCons_ap, gOp_ap, vws_nil, vws_cons, vw_im, vw_fr, vw_frd, vw_frs, vw_frr, vw_pl, view_l, view_d, view_s, view_r, rs_d, rs_l, sl_im, sl_fr, fz_im, fz_fr, fzs_nil, fzs_cons, toD_l, toD_r, gTupD_ap, gLstD_ap, gIx_ap, gDGet_ap, ownDct_pl, keyOf_i, keyOf_s, gMul_ap, tB_ap, tNot_ap, tAnd_ap, tOr_ap, eNot_ap, eAnd_ap, eOr_ap, eIf_ap, tY_ap, eSl_ap, oN_ap, oI_ap, itOf_ap, itR1_ap, itR2_ap, eLc_ap, isIm_ap, eCall_ap, eCallM_ap, fnOf_ap, isPl_im, isPl_fr, eDspl_ap, sArgs_nil, sArgs_cons, mkD_nil, mkD_cons, keepMu_mu, keepMu_im, projS_nil, projS_cons, hAdd, hSub, hMul, hDiv, hMod, hPow, hNeg, hCmp, hEq, hNe, hIsN, hNotN, hIx, hLen, hInt, hAbs, hGcd, hMin, hMax, hCut, isi_ii, isi_ib, isi_tt, isi_ll, isM_un, isM_im, isM_ow, isM_mu, List.getElem?_cons_zero, List.getElem?_cons_succ, List.getElem?_nil, List.set_cons_zero, List.set_cons_succ, List.length_cons, List.length_nil, List.length_map, List.replicate_succ, List.replicate_zero, List.cons_append, List.nil_append, List.map_cons, List.map_nil, Nat.reduceAdd, Nat.zero_add, ne_eq, not_true_eq_false, not_false_eq_true, decide_false, decide_true, Bool.or_self, Bool.or_false, Bool.false_or, Bool.and_self, Bool.false_eq_true, if_false, if_true, reduceIte, szOk_2, szOk_1, szOk_0, szOk_3, lk_left, lk_seed, lk_cells, lk_spot, pt_left, pt_spot, len_mL, mSet, true_and, and_true, List.getD_eq_getElem?_getD, Option.getD_some, seqOf_l, seqOf_t, ↓hIx_sq, ↓hLen_sq, seqOf_sq, ↓hTuple_sq, fz_fr2, gRep_ap, eq_self, gSorted_ap, gSortD_ap, gSortS_ap, ownSet_pl, eDict1_ap, eChain_ap, gInD_ap, gInS_ap, mPop_ap, mAdd_ap, eSet0_ap, sWhile_ap, itEnumX_ap, eM2_ap, eTR1_ap, eLR1_ap, hLtD, gDGetT_ap, ownDctT_pl, gInT_ap, keyT_t, keysOf_nil, keysOf_cons, eDctT0_ap, view_dT, eDict1T_ap, hIsB, hNotB, sPar3_ap, hCmp_ii, d0, z0, v0, v1, q1, q5, w1, sh_bool, sh_int, Bool.not_true]
    · rw [if_neg c] at e3
      have n0 : n = 0 := Nat.eq_zero_of_not_pos fun z => c (num_pos'.mpr (B.i.mp z).1)
      subst n0
      have d0 : decide ((0 : Int) < ((0 : Nat) : Int)) = false := by decide
      have z0 : PyData.eqv (.int ((0 : Nat) : Int)) (.int 0) = true := by decide
      by_cases c2 : (tot h cs rows x).num < 0
      · rw [if_pos c2] at e3
        simp only [↓e1, ↓e2, ↓e3, ↓e4, ↓k, sNop_ap, row?_ap, eRowM_ap, sRowSub_ap, eRowLen_ap, eRowNil_ap, isUn_un, ixN3_0, ixN3_1, ixN3_2, gRowsD_ap, rowsOf_nil, rowsOf_cons, eMeth_ap, isL_l, isS_s, mAppend_ap, mExtend_ap, ownL_fr, gIn_ap, ownDct_fr, gT_apL, hSorted, hTuple, hList, hRev, hRevX, hEqS, sSeq_ap, sBrk_ap, sCnt_ap, sRet_ap, sRetN_ap, sDrop_ap, sIf_ap, sSet_ap, isMu_ap, sAsg_ap, gN_ap, gT_ap, gTs, sPar_ap, sSub_ap, own?_ap, putO_t, putO_f, sAug_ap, sFor_ap, eC_ap, eVar_ap, ePl_ap, eMv_ap, opS_ap, sNil_ap, sCons_ap, gOp_ap, vws_nil, vws_cons, vw_im, vw_fr, vw_frd, vw_frs, vw_frr, vw_pl, view_l, view_d, view_s, view_r, rs_d, rs_l, sl_im, sl_fr, fz_im, fz_fr, fzs_nil, fzs_cons, toD_l, toD_r, gTupD_ap, gLstD_ap, gIx_ap, gDGet_ap, ownDct_pl, keyOf_i, keyOf_s, gMul_ap, tB_ap, tNot_ap, tAnd_ap, tOr_ap, eNot_ap, eAnd_ap, eOr_ap, eIf_ap, tY_ap, eSl_ap, oN_ap, oI_ap, itOf_ap, itR1_ap, itR2_ap, eLc_ap, isIm_ap, eCall_ap, eCallM_ap, fnOf_ap, isPl_im, isPl_fr, eDspl_ap, sArgs_nil, sArgs_cons, mkD_nil, mkD_cons, keepMu_mu, keepMu_im, projS_nil, projS_cons, hAdd, hSub, hMul, hDiv, hMod, hPow, hNeg, hCmp, hEq, hNe, hIsN, hNotN, hIx, hLen, hInt, hAbs, hGcd, hMin, hMax, hCut, isi_ii, isi_ib, isi_tt, isi_ll, isM_un, isM_im, isM_ow, isM_mu, List.getElem?_cons_zero, List.getElem?_cons_succ, List.getElem?_nil, List.set_cons_zero, List.set_cons_succ, List.length_cons, List.length_nil, List.length_map, List.replicate_succ, List.replicate_zero, List.cons_append, List.nil_append, List.map_cons, List.map_nil, Nat.reduceAdd, Nat.zero_add, ne_eq, not_true_eq_false, not_false_eq_true, decide_false, decide_true, Bool.or_self, Bool.or_false, Bool.false_or, Bool.and_self, Bool.false_eq_true, if_false, if_true, reduceIte, szOk_2, szOk_1, szOk_0, szOk_3, lk_left, lk_seed, lk_cells, lk_spot, pt_left, pt_spot, len_mL, mSet, true_and, and_true, List.getD_eq_getElem?_getD, Option.getD_some, seqOf_l, seqOf_t, ↓hIx_sq, ↓hLen_sq, seqOf_sq, ↓hTuple_sq, fz_fr2, gRep_ap, eq_self, gSorted_ap, gSortD_ap, gSortS_ap, ownSet_pl, eDict1_ap, eChain_ap, gInD_ap, gInS_ap, mPop_ap, mAdd_ap, eSet0_ap, sWhile_ap, itEnumX_ap, eM2_ap, eTR1_ap, eLR1_ap, hLtD, gDGetT_ap, ownDctT_pl, gInT_ap, keyT_t, keysOf_nil, keysOf_cons, eDctT0_ap, view_dT, eDict1T_ap, hIsB, hNotB, sPar3_ap, hCmp_ii, d0, z0, v0, v1, v2, v3, q3, q7, w2, sh_bool, sh_int, Bool.not_true]
      · rw [if_neg c2] at e3
        simp only [↓e1, ↓e2, ↓e3, ↓e4, ↓k, sNop_ap, row?_ap, eRowM_ap, sRowSub_ap, eRowLen_ap, eRowNil_ap, isUn_un, ixN3_0, ixN3_1, ixN3_2, gRowsD_ap, rowsOf_nil, rowsOf_cons, eMeth_ap, isL_l, isS_s, mAppend_ap, mExtend_ap, ownL_fr, gIn_ap, ownDct_fr, gT_apL, hSorted, hTuple, hList, hRev, hRevX, hEqS, sSeq_ap, sBrk_ap, sCnt_ap, sRet_ap, sRetN_ap, sDrop_ap, sIf_ap, sSet_ap, isMu_ap, sAsg_ap, gN_ap, gT_ap, gTs, sPar_ap, sSub_ap, own?_ap, putO_t, putO_f, sAug_ap, sFor_ap, eC_ap, eVar_ap, ePl_ap, eMv_ap, opS_ap, sNil_ap, sCons_ap, gOp_ap, vws_nil, vws_cons, vw_im, vw_fr, vw_frd, vw_frs, vw_frr, vw_pl, view_l, view_d, view_s, view_r, rs_d, rs_l, sl_im, sl_fr, fz_im, fz_fr, fzs_nil, fzs_cons, toD_l, toD_r, gTupD_ap, gLstD_ap, gIx_ap, gDGet_ap, ownDct_pl, keyOf_i, keyOf_s, gMul_ap, tB_ap, tNot_ap, tAnd_ap, tOr_ap, eNot_ap, eAnd_ap, eOr_ap, eIf_ap, tY_ap, eSl_ap, oN_ap, oI_ap, itOf_ap, itR1_ap, itR2_ap, eLc_ap, isIm_ap, eCall_ap, eCallM_ap, fnOf_ap, isPl_im, isPl_fr, eDspl_ap, sArgs_nil, sArgs_cons, mkD_nil, mkD_cons, keepMu_mu, keepMu_im, projS_nil, projS_cons, hAdd, hSub, hMul, hDiv, hMod, hPow, hNeg, hCmp, hEq, hNe, hIsN, hNotN, hIx, hLen, hInt, hAbs, hGcd, hMin, hMax, hCut, isi_ii, isi_ib, isi_tt, isi_ll, isM_un, isM_im, isM_ow, isM_mu, List.getElem?_cons_zero, List.getElem?_cons_succ, List.getElem?_nil, List.set_cons_zero, List.set_cons_succ, List.length_cons, List.length_nil, List.length_map, List.replicate_succ, List.replicate_zero, List.cons_append, List.nil_append, List.map_cons, List.map_nil, Nat.reduceAdd, Nat.zero_add, ne_eq, not_true_eq_false, not_false_eq_true, decide_false, decide_true, Bool.or_self, Bool.or_false, Bool.false_or, Bool.and_self, Bool.false_eq_true, if_false, if_true, reduceIte, szOk_2, szOk_1, szOk_0, szOk_3, lk_left, lk_seed, lk_cells, lk_spot, pt_left, pt_spot, len_mL, mSet, true_and, and_true, List.getD_eq_getElem?_getD, Option.getD_some, seqOf_l, seqOf_t, ↓hIx_sq, ↓hLen_sq, seqOf_sq, ↓hTuple_sq, fz_fr2, gRep_ap, eq_self, gSorted_ap, gSortD_ap, gSortS_ap, ownSet_pl, eDict1_ap, eChain_ap, gInD_ap, gInS_ap, mPop_ap, mAdd_ap, eSet0_ap, sWhile_ap, itEnumX_ap, eM2_ap, eTR1_ap, eLR1_ap, hLtD, gDGetT_ap, ownDctT_pl, gInT_ap, keyT_t, keysOf_nil, keysOf_cons, eDctT0_ap, view_dT, eDict1T_ap, hIsB, hNotB, sPar3_ap, hCmp_ii, d0, z0, v0, v1, v2, v3, q4, q8, w2, sh_bool, sh_int, Bool.not_true]
end

/-! ### names one step from a name -/
structure KN (a b c : Nat) (h : Nat) (cs : List Nat) (rows : List (List Nat)) (x : Nat) : Prop where
  so : cs.Pairwise (· ≤ ·)
  hc : ∀ t ∈ cs, 2 ≤ t ∧ t ≤ 9999
  hr : ∀ R ∈ rows, ∀ t ∈ R, 2 ≤ t ∧ t ≤ 9999
  la : rows.length ≤ a
  lb : cs.length + rows.flatten.length ≤ b
  lh : h ≤ c
  lx : x ≤ c
theorem KN.nm {a b c h x : Nat} {cs : List Nat} {rows : List (List Nat)} (k : KN a b c h cs rows x) (ha : a ≤ 8) (hb : b ≤ 17) (hc : c ≤ 200) : NmOk h cs rows x :=
  ⟨by have := k.lh; omega, by have := k.lx; omega, by have := k.la; omega, fun t ht => by have := k.hc t ht; omega, fun R hR t ht => by have := k.hr R hR t ht; omega, by have := k.lb; omega⟩
theorem KN.right {a b c h x : Nat} {cs : List Nat} {rows : List (List Nat)} (k : KN a b c h cs rows x) (ha : a ≤ 8) (hb : b ≤ 17) (hc : c ≤ 200) : f_law_right [.im (nmD h cs rows x)] = some (.im (.bool true), [.un]) :=
  right_eq (k.nm ha hb hc) k.so (fun t ht => (k.hc t ht).1) fun R hR t ht => (k.hr R hR t ht).1
/-- parts of a name, not in order -/
structure MN (a b d : Nat) (h : Nat) (cs : List Nat) (rows : List (List Nat)) (x : Nat) : Prop where
  hc : ∀ t ∈ cs, 2 ≤ t ∧ t ≤ 9999
  hr : ∀ R ∈ rows, ∀ t ∈ R, 2 ≤ t ∧ t ≤ 9999
  la : rows.length ≤ a
  lb : cs.length + rows.flatten.length ≤ b
  lh : x + 2 * h ≤ d
theorem PW.fl {p : List Nat → List Nat → Prop} (e : ∀ R S, p R S → S.length = R.length) {L M : List (List Nat)} (h : PW p L M) : M.flatten.length = L.flatten.length := by
  induction h with
  | nil => rfl
  | cons h _ ih => rw [List.flatten_cons, List.flatten_cons, List.length_append, List.length_append, ih, e _ _ h]
theorem NS_fl (b : Bool) (L : List (List Nat)) : (NS b L).flatten.length = L.flatten.length := by
  obtain ⟨N, p, k⟩ := (NS_is b L).ex
  have q := (perm_flat p).length_eq
  have er : ∀ R S, Rot R S → S.length = R.length := fun R S z => z.perm.length_eq
  have ev : ∀ R S : List Nat, Rot R.reverse S → S.length = R.length := fun R S z => by rw [z.perm.length_eq, List.length_reverse]
  rw [← q]
  rcases k with ⟨_, k | k⟩ | ⟨_, k⟩
  · exact k.fl er
  · exact k.fl ev
  · exact k.fl fun R S z => z.elim (er R S) (ev R S)
theorem MN.nf {a b d h x : Nat} {cs : List Nat} {rows : List (List Nat)} (k : MN a b d h cs rows x) : ∃ h' cs' rows' x', nf h cs rows x = nmD h' cs' rows' x' ∧ KN a b d h' cs' rows' x' := by
  have e1 : cs.filter fl = cs := filt_self k.hc
  have e2 : fR rows = rows := fR_self k.hr
  obtain ⟨n1, n2⟩ := NS_all (Pr := fun R => ∀ t ∈ R, 2 ≤ t ∧ t ≤ 9999) (fun R S p z t ht => z t (p.mem_iff.mp ht)) (decide (x = 0)) k.hr
  have lh := k.lh
  refine ⟨_, _, _, _, rfl, ⟨srtN_so _, fun t ht => ?_, ?_, ?_, ?_, ?_, ?_⟩⟩
  · rw [e1] at ht; exact k.hc t ((srtN_perm cs).mem_iff.mp ht)
  · rw [e2]; exact n2
  · rw [e2, n1]; exact k.la
  · rw [e1, e2, NS_fl, (srtN_perm cs).length_eq]; exact k.lb
  · split <;> omega
  · split <;> omega
theorem cut_tail {α : Type} (l : List α) : cutD l (some 1) none = l.tail := by
  cases l with
  | nil => rfl
  | cons a l => exact (Fl.cut_from (l := a :: l) (k := 1) (by simp)).trans rfl
theorem lc_add (s0 s1 s2 s3 s4 s5 s7 : Sl) (e : Nat) : ∀ rows : List (List Nat), (∀ R ∈ rows, R.length ≤ 1000) → lcL 8 tY (opS gAdd (sCons (ePl 8) (sCons (opS gTupD (sCons (eVar 6) sNil)) sNil))) (tuD rows) [s0, s1, s2, s3, s4, s5, .im (.int (e : Nat)), s7, .un] =
    some (tuD (rows.map (· ++ [e])), [s0, s1, s2, s3, s4, s5, .im (.int (e : Nat)), s7, .un])
  | [], _ => rfl
  | R :: rows, h => by
    have ih := lc_add s0 s1 s2 s3 s4 s5 s7 e rows fun S hS => h S (List.mem_cons_of_mem _ hS)
    have hR := h R List.mem_cons_self
    have sz : szOk (R.length + (0 + 1)) = true := szOk_le (by omega)
    have sz' : szOk (R.length + 1) = true := szOk_le (by omega)
    rw [List.map_cons, tuD_cons, tuD_cons, nD_app, nD_cons, nD_nil]
    simp only [lcL, sNop_ap, row?_ap, eRowM_ap, sRowSub_ap, eRowLen_ap, eRowNil_ap, isUn_un, ixN3_0, ixN3_1, ixN3_2, gRowsD_ap, rowsOf_nil, rowsOf_cons, eMeth_ap, isL_l, isS_s, mAppend_ap, mExtend_ap, ownL_fr, gIn_ap, ownDct_fr, gT_apL, hSorted, hTuple, hList, hRev, hRevX, hEqS, sSeq_ap, sBrk_ap, sCnt_ap, sRet_ap, sRetN_ap, sDrop_ap, sIf_ap, sSet_ap, isMu_ap, sAsg_ap, gN_ap, gT_ap, gTs, sPar_ap, sSub_ap, own?_ap, putO_t, putO_f, sAug_ap, sFor_ap, eC_ap, eVar_ap, ePl_ap, eMv_ap, opS_ap, sNil_ap, sCons_ap, gOp_ap, vws_nil, vws_cons, vw_im, vw_fr, vw_frd, vw_frs, vw_frr, vw_pl, view_l, view_d, view_s, view_r, rs_d, rs_l, sl_im, sl_fr, fz_im, fz_fr, fzs_nil, fzs_cons, toD_l, toD_r, gTupD_ap, gLstD_ap, gIx_ap, gDGet_ap, ownDct_pl, keyOf_i, keyOf_s, gMul_ap, tB_ap, tNot_ap, tAnd_ap, tOr_ap, eNot_ap, eAnd_ap, eOr_ap, eIf_ap, tY_ap, eSl_ap, oN_ap, oI_ap, itOf_ap, itR1_ap, itR2_ap, eLc_ap, isIm_ap, eCall_ap, eCallM_ap, fnOf_ap, isPl_im, isPl_fr, eDspl_ap, sArgs_nil, sArgs_cons, mkD_nil, mkD_cons, keepMu_mu, keepMu_im, projS_nil, projS_cons, hAdd, hSub, hMul, hDiv, hMod, hPow, hNeg, hCmp, hEq, hNe, hIsN, hNotN, hIx, hLen, hInt, hAbs, hGcd, hMin, hMax, hCut, isi_ii, isi_ib, isi_tt, isi_ll, isM_un, isM_im, isM_ow, isM_mu, List.getElem?_cons_zero, List.getElem?_cons_succ, List.getElem?_nil, List.set_cons_zero, List.set_cons_succ, List.length_cons, List.length_nil, List.length_map, List.replicate_succ, List.replicate_zero, List.cons_append, List.nil_append, List.map_cons, List.map_nil, Nat.reduceAdd, Nat.zero_add, ne_eq, not_true_eq_false, not_false_eq_true, decide_false, decide_true, Bool.or_self, Bool.or_false, Bool.false_or, Bool.and_self, Bool.false_eq_true, if_false, if_true, reduceIte, szOk_2, szOk_1, szOk_0, szOk_3, lk_left, lk_seed, lk_cells, lk_spot, pt_left, pt_spot, len_mL, mSet, true_and, and_true, List.getD_eq_getElem?_getD, Option.getD_some, seqOf_l, seqOf_t, ↓hIx_sq, ↓hLen_sq, seqOf_sq, ↓hTuple_sq, fz_fr2, gRep_ap, eq_self, gSorted_ap, gSortD_ap, gSortS_ap, ownSet_pl, eDict1_ap, eChain_ap, gInD_ap, gInS_ap, mPop_ap, mAdd_ap, eSet0_ap, sWhile_ap, itEnumX_ap, eM2_ap, eTR1_ap, eLR1_ap, hLtD, gDGetT_ap, ownDctT_pl, gInT_ap, keyT_t, keysOf_nil, keysOf_cons, eDctT0_ap, view_dT, eDict1T_ap, hIsB, hNotB, sPar3_ap, nD_len, sz, sz', ih]
theorem lc_tl (s0 s1 s2 s3 s4 s5 s6 s7 : Sl) : ∀ rows : List (List Nat), lcL 8 tY (eSl (ePl 8) (oI (eC (.int 1))) oN) (tuD rows) [s0, s1, s2, s3, s4, s5, s6, s7, .un] =
    some (tuD (rows.map List.tail), [s0, s1, s2, s3, s4, s5, s6, s7, .un])
  | [] => rfl
  | R :: rows => by
    have ih := lc_tl s0 s1 s2 s3 s4 s5 s6 s7 rows
    have c : cutD (nD R) (some 1) none = nD R.tail := by rw [cut_tail]; cases R <;> rfl
    rw [List.map_cons, tuD_cons, tuD_cons]
    simp only [lcL, sNop_ap, row?_ap, eRowM_ap, sRowSub_ap, eRowLen_ap, eRowNil_ap, isUn_un, ixN3_0, ixN3_1, ixN3_2, gRowsD_ap, rowsOf_nil, rowsOf_cons, eMeth_ap, isL_l, isS_s, mAppend_ap, mExtend_ap, ownL_fr, gIn_ap, ownDct_fr, gT_apL, hSorted, hTuple, hList, hRev, hRevX, hEqS, sSeq_ap, sBrk_ap, sCnt_ap, sRet_ap, sRetN_ap, sDrop_ap, sIf_ap, sSet_ap, isMu_ap, sAsg_ap, gN_ap, gT_ap, gTs, sPar_ap, sSub_ap, own?_ap, putO_t, putO_f, sAug_ap, sFor_ap, eC_ap, eVar_ap, ePl_ap, eMv_ap, opS_ap, sNil_ap, sCons_ap, gOp_ap, vws_nil, vws_cons, vw_im, vw_fr, vw_frd, vw_frs, vw_frr, vw_pl, view_l, view_d, view_s, view_r, rs_d, rs_l, sl_im, sl_fr, fz_im, fz_fr, fzs_nil, fzs_cons, toD_l, toD_r, gTupD_ap, gLstD_ap, gIx_ap, gDGet_ap, ownDct_pl, keyOf_i, keyOf_s, gMul_ap, tB_ap, tNot_ap, tAnd_ap, tOr_ap, eNot_ap, eAnd_ap, eOr_ap, eIf_ap, tY_ap, eSl_ap, oN_ap, oI_ap, itOf_ap, itR1_ap, itR2_ap, eLc_ap, isIm_ap, eCall_ap, eCallM_ap, fnOf_ap, isPl_im, isPl_fr, eDspl_ap, sArgs_nil, sArgs_cons, mkD_nil, mkD_cons, keepMu_mu, keepMu_im, projS_nil, projS_cons, hAdd, hSub, hMul, hDiv, hMod, hPow, hNeg, hCmp, hEq, hNe, hIsN, hNotN, hIx, hLen, hInt, hAbs, hGcd, hMin, hMax, hCut, isi_ii, isi_ib, isi_tt, isi_ll, isM_un, isM_im, isM_ow, isM_mu, List.getElem?_cons_zero, List.getElem?_cons_succ, List.getElem?_nil, List.set_cons_zero, List.set_cons_succ, List.length_cons, List.length_nil, List.length_map, List.replicate_succ, List.replicate_zero, List.cons_append, List.nil_append, List.map_cons, List.map_nil, Nat.reduceAdd, Nat.zero_add, ne_eq, not_true_eq_false, not_false_eq_true, decide_false, decide_true, Bool.or_self, Bool.or_false, Bool.false_or, Bool.and_self, Bool.false_eq_true, if_false, if_true, reduceIte, szOk_2, szOk_1, szOk_0, szOk_3, lk_left, lk_seed, lk_cells, lk_spot, pt_left, pt_spot, len_mL, mSet, true_and, and_true, List.getD_eq_getElem?_getD, Option.getD_some, seqOf_l, seqOf_t, ↓hIx_sq, ↓hLen_sq, seqOf_sq, ↓hTuple_sq, fz_fr2, gRep_ap, eq_self, gSorted_ap, gSortD_ap, gSortS_ap, ownSet_pl, eDict1_ap, eChain_ap, gInD_ap, gInS_ap, mPop_ap, mAdd_ap, eSet0_ap, sWhile_ap, itEnumX_ap, eM2_ap, eTR1_ap, eLR1_ap, hLtD, gDGetT_ap, ownDctT_pl, gInT_ap, keyT_t, keysOf_nil, keysOf_cons, eDctT0_ap, view_dT, eDict1T_ap, hIsB, hNotB, sPar3_ap, c, ih]
theorem flat_tail {rows : List (List Nat)} : rows.tail.flatten.length ≤ rows.flatten.length := by
  cases rows with
  | nil => exact Nat.le_refl _
  | cons R rows => rw [List.tail_cons, List.flatten_cons, List.length_append]; omega
theorem flat_tl : ∀ (rows : List (List Nat)), (rows.map List.tail).flatten.length ≤ rows.flatten.length
  | [] => Nat.le_refl _
  | R :: rows => by
    have := flat_tl rows
    rw [List.map_cons, List.flatten_cons, List.flatten_cons, List.length_append, List.length_append, List.length_tail]
    omega
theorem flat_add (e : Nat) : ∀ (rows : List (List Nat)), (rows.map (· ++ [e])).flatten.length = rows.flatten.length + rows.length
  | [] => rfl
  | R :: rows => by
    have := flat_add e rows
    rw [List.map_cons, List.flatten_cons, List.flatten_cons, List.length_append, List.length_append, List.length_append, List.length_singleton, List.length_cons]
    omega
theorem flat_le {rows : List (List Nat)} {R : List Nat} (h : R ∈ rows) : R.length ≤ rows.flatten.length := by
  induction rows with
  | nil => simp at h
  | cons S rows ih =>
    rw [List.flatten_cons, List.length_append]
    rcases List.mem_cons.mp h with rfl | h
    · omega
    · have := ih h; omega
theorem near_eq {a b c h x : Nat} {cs : List Nat} {rows : List (List Nat)} (k : KN a b c h cs rows x) (ha : a ≤ 8) (hb : b ≤ 20) (hc : c ≤ 200) {q : Int} {m : O} (g : Good q m) (hq : q < 1000000) :
    ∃ h' cs' rows' x' m', f_law_near [.mu m, .im (nmD h cs rows x)] = some (.im (nmD h' cs' rows' x'), [.mu m', .un]) ∧ KN (a + 1) (b + a + 1) (3 * c + 3) h' cs' rows' x' ∧ Good (q + 5) m' := by
  obtain ⟨v1, m1, d1, p1, p2, g1⟩ := draw_eq (b := 8) g (by omega) (by decide) (by decide)
  obtain ⟨v2, m2, d2, p3, p4, g2⟩ := draw_eq (b := 6) g1 (by omega) (by decide) (by decide)
  obtain ⟨e, he⟩ : ∃ e : Nat, 2 + v1 = (e : Int) := ⟨(2 + v1).toNat, by omega⟩
  have ho := k.la
  have hl := k.lb
  have lh := k.lh
  have lx := k.lx
  have hR : ∀ R ∈ rows, R.length ≤ 1000 := fun R hR => by have := flat_le hR; omega
  have t0 : ∀ (h' x' : Nat) (cs' : List Nat) (rows' : List (List Nat)), MN (a + 1) (b + a + 1) (3 * c + 3) h' cs' rows' x' → rows'.length ≤ 1000 ∧ cs'.length ≤ 1000 ∧ ∀ R ∈ rows', R.length ≤ 1000 := fun h' x' cs' rows' z => ⟨by have := z.la; omega, by have := z.lb; omega, fun R hR => by have := z.lb; have := flat_le hR; omega⟩
  have ee : 2 ≤ e ∧ e ≤ 9999 := by omega
  have fin : ∀ (h' x' : Nat) (cs' : List Nat) (rows' : List (List Nat)) (m' : O), Good (q + 5) m' → f_law_near [.mu m, .im (nmD h cs rows x)] = some (.im (nf h' cs' rows' x'), [.mu m', .un]) → MN (a + 1) (b + a + 1) (3 * c + 3) h' cs' rows' x' →
      ∃ h' cs' rows' x' m', f_law_near [.mu m, .im (nmD h cs rows x)] = some (.im (nmD h' cs' rows' x'), [.mu m', .un]) ∧ KN (a + 1) (b + a + 1) (3 * c + 3) h' cs' rows' x' ∧ Good (q + 5) m' := fun h' x' cs' rows' m' gg ef z => by
    obtain ⟨h2, cs2, rows2, x2, e2, kk⟩ := z.nf
    exact ⟨h2, cs2, rows2, x2, m', by rw [ef, e2], kk, gg⟩
  have up : ∀ {i : Int} {m' : O}, Good i m' → i ≤ q + 5 → Good (q + 5) m' := fun g hi => by
    obtain ⟨l, s, cs, p, e, h1, h2, h3⟩ := g
    exact ⟨l, s, cs, p, e, h1, h2, by omega⟩
  have hv : v2 = 0 ∨ v2 = 1 ∨ v2 = 2 ∨ v2 = 3 ∨ v2 = 4 ∨ v2 = 5 := by omega
  have q0 := eqv_int v2 0
  have q1 := eqv_int v2 1
  have q2 := eqv_int v2 2
  have q3 := eqv_int v2 3
  have q4 := eqv_int v2 4
  have q5 := eqv_int v2 5
  rcases hv with rfl | rfl | rfl | rfl | rfl | rfl
  · have z : MN (a + 1) (b + a + 1) (3 * c + 3) h (cs ++ [e]) rows x := ⟨fun t ht => by
      rcases List.mem_append.mp ht with ht | ht
      · exact k.hc t ht
      · rw [List.mem_singleton.mp ht]; exact ee, k.hr, by omega, by rw [List.length_append, List.length_singleton]; omega, by omega⟩
    obtain ⟨r1, r2, r3⟩ := t0 _ _ _ _ z
    have en := normal_nf (h := h) (x := x) (cs := cs ++ [e]) (rows := rows) r1 r2 r3
    refine fin _ _ _ _ m2 (up g2 (by omega)) ?_ z
    rw [nD_app, nD_cons, nD_nil] at en
    rw [decide_eq_true (by decide)] at q0
    rw [decide_eq_false (by decide)] at q1 q2 q3 q4 q5
    have sz : szOk (cs.length + (0 + 1)) = true := szOk_le (by omega)
    have sz' : szOk (cs.length + 1) = true := szOk_le (by omega)
    unfold f_law_near b_law_near nmD
    simp only [↓en, ↓d1, ↓d2, sNop_ap, row?_ap, eRowM_ap, sRowSub_ap, eRowLen_ap, eRowNil_ap, isUn_un, ixN3_0, ixN3_1, ixN3_2, gRowsD_ap, rowsOf_nil, rowsOf_cons, eMeth_ap, isL_l, isS_s, mAppend_ap, mExtend_ap, ownL_fr, gIn_ap, ownDct_fr, gT_apL, hSorted, hTuple, hList, hRev, hRevX, hEqS, sSeq_ap, sBrk_ap, sCnt_ap, sRet_ap, sRetN_ap, sDrop_ap, sIf_ap, sSet_ap, isMu_ap, sAsg_ap, gN_ap, gT_ap, gTs, sPar_ap, sSub_ap, own?_ap, putO_t, putO_f, sAug_ap, sFor_ap, eC_ap, eVar_ap, ePl_ap, eMv_ap, opS_ap, sNil_ap, sCons_ap, gOp_ap, vws_nil, vws_cons, vw_im, vw_fr, vw_frd, vw_frs, vw_frr, vw_pl, view_l, view_d, view_s, view_r, rs_d, rs_l, sl_im, sl_fr, fz_im, fz_fr, fzs_nil, fzs_cons, toD_l, toD_r, gTupD_ap, gLstD_ap, gIx_ap, gDGet_ap, ownDct_pl, keyOf_i, keyOf_s, gMul_ap, tB_ap, tNot_ap, tAnd_ap, tOr_ap, eNot_ap, eAnd_ap, eOr_ap, eIf_ap, tY_ap, eSl_ap, oN_ap, oI_ap, itOf_ap, itR1_ap, itR2_ap, eLc_ap, isIm_ap, eCall_ap, eCallM_ap, fnOf_ap, isPl_im, isPl_fr, eDspl_ap, sArgs_nil, sArgs_cons, mkD_nil, mkD_cons, keepMu_mu, keepMu_im, projS_nil, projS_cons, hAdd, hSub, hMul, hDiv, hMod, hPow, hNeg, hCmp, hEq, hNe, hIsN, hNotN, hIx, hLen, hInt, hAbs, hGcd, hMin, hMax, hCut, isi_ii, isi_ib, isi_tt, isi_ll, isM_un, isM_im, isM_ow, isM_mu, List.getElem?_cons_zero, List.getElem?_cons_succ, List.getElem?_nil, List.set_cons_zero, List.set_cons_succ, List.length_cons, List.length_nil, List.length_map, List.replicate_succ, List.replicate_zero, List.cons_append, List.nil_append, List.map_cons, List.map_nil, Nat.reduceAdd, Nat.zero_add, ne_eq, not_true_eq_false, not_false_eq_true, decide_false, decide_true, Bool.or_self, Bool.or_false, Bool.false_or, Bool.and_self, Bool.false_eq_true, if_false, if_true, reduceIte, szOk_2, szOk_1, szOk_0, szOk_3, lk_left, lk_seed, lk_cells, lk_spot, pt_left, pt_spot, len_mL, mSet, true_and, and_true, List.getD_eq_getElem?_getD, Option.getD_some, seqOf_l, seqOf_t, ↓hIx_sq, ↓hLen_sq, seqOf_sq, ↓hTuple_sq, fz_fr2, gRep_ap, eq_self, gSorted_ap, gSortD_ap, gSortS_ap, ownSet_pl, eDict1_ap, eChain_ap, gInD_ap, gInS_ap, mPop_ap, mAdd_ap, eSet0_ap, sWhile_ap, itEnumX_ap, eM2_ap, eTR1_ap, eLR1_ap, hLtD, gDGetT_ap, ownDctT_pl, gInT_ap, keyT_t, keysOf_nil, keysOf_cons, eDctT0_ap, view_dT, eDict1T_ap, hIsB, hNotB, sPar3_ap, he, sh_int, q0, q1, q2, q3, q4, q5, nD_len, sz, sz', szOk_4]
  · have z : MN (a + 1) (b + a + 1) (3 * c + 3) h cs.tail rows x := ⟨fun t ht => k.hc t (List.mem_of_mem_tail ht), k.hr, by omega, by rw [List.length_tail]; omega, by omega⟩
    obtain ⟨r1, r2, r3⟩ := t0 _ _ _ _ z
    have en := normal_nf (h := h) (x := x) (cs := cs.tail) (rows := rows) r1 r2 r3
    refine fin _ _ _ _ m2 (up g2 (by omega)) ?_ z
    rw [decide_eq_true (by decide)] at q1
    rw [decide_eq_false (by decide)] at q0 q2 q3 q4 q5
    have c1 : cutD (nD cs) (some 1) none = nD cs.tail := by rw [cut_tail]; cases cs <;> rfl
    unfold f_law_near b_law_near nmD
    simp only [↓en, ↓d1, ↓d2, sNop_ap, row?_ap, eRowM_ap, sRowSub_ap, eRowLen_ap, eRowNil_ap, isUn_un, ixN3_0, ixN3_1, ixN3_2, gRowsD_ap, rowsOf_nil, rowsOf_cons, eMeth_ap, isL_l, isS_s, mAppend_ap, mExtend_ap, ownL_fr, gIn_ap, ownDct_fr, gT_apL, hSorted, hTuple, hList, hRev, hRevX, hEqS, sSeq_ap, sBrk_ap, sCnt_ap, sRet_ap, sRetN_ap, sDrop_ap, sIf_ap, sSet_ap, isMu_ap, sAsg_ap, gN_ap, gT_ap, gTs, sPar_ap, sSub_ap, own?_ap, putO_t, putO_f, sAug_ap, sFor_ap, eC_ap, eVar_ap, ePl_ap, eMv_ap, opS_ap, sNil_ap, sCons_ap, gOp_ap, vws_nil, vws_cons, vw_im, vw_fr, vw_frd, vw_frs, vw_frr, vw_pl, view_l, view_d, view_s, view_r, rs_d, rs_l, sl_im, sl_fr, fz_im, fz_fr, fzs_nil, fzs_cons, toD_l, toD_r, gTupD_ap, gLstD_ap, gIx_ap, gDGet_ap, ownDct_pl, keyOf_i, keyOf_s, gMul_ap, tB_ap, tNot_ap, tAnd_ap, tOr_ap, eNot_ap, eAnd_ap, eOr_ap, eIf_ap, tY_ap, eSl_ap, oN_ap, oI_ap, itOf_ap, itR1_ap, itR2_ap, eLc_ap, isIm_ap, eCall_ap, eCallM_ap, fnOf_ap, isPl_im, isPl_fr, eDspl_ap, sArgs_nil, sArgs_cons, mkD_nil, mkD_cons, keepMu_mu, keepMu_im, projS_nil, projS_cons, hAdd, hSub, hMul, hDiv, hMod, hPow, hNeg, hCmp, hEq, hNe, hIsN, hNotN, hIx, hLen, hInt, hAbs, hGcd, hMin, hMax, hCut, isi_ii, isi_ib, isi_tt, isi_ll, isM_un, isM_im, isM_ow, isM_mu, List.getElem?_cons_zero, List.getElem?_cons_succ, List.getElem?_nil, List.set_cons_zero, List.set_cons_succ, List.length_cons, List.length_nil, List.length_map, List.replicate_succ, List.replicate_zero, List.cons_append, List.nil_append, List.map_cons, List.map_nil, Nat.reduceAdd, Nat.zero_add, ne_eq, not_true_eq_false, not_false_eq_true, decide_false, decide_true, Bool.or_self, Bool.or_false, Bool.false_or, Bool.and_self, Bool.false_eq_true, if_false, if_true, reduceIte, szOk_2, szOk_1, szOk_0, szOk_3, lk_left, lk_seed, lk_cells, lk_spot, pt_left, pt_spot, len_mL, mSet, true_and, and_true, List.getD_eq_getElem?_getD, Option.getD_some, seqOf_l, seqOf_t, ↓hIx_sq, ↓hLen_sq, seqOf_sq, ↓hTuple_sq, fz_fr2, gRep_ap, eq_self, gSorted_ap, gSortD_ap, gSortS_ap, ownSet_pl, eDict1_ap, eChain_ap, gInD_ap, gInS_ap, mPop_ap, mAdd_ap, eSet0_ap, sWhile_ap, itEnumX_ap, eM2_ap, eTR1_ap, eLR1_ap, hLtD, gDGetT_ap, ownDctT_pl, gInT_ap, keyT_t, keysOf_nil, keysOf_cons, eDctT0_ap, view_dT, eDict1T_ap, hIsB, hNotB, sPar3_ap, he, sh_int, q0, q1, q2, q3, q4, q5, c1, szOk_4]
  · have z : MN (a + 1) (b + a + 1) (3 * c + 3) h cs (rows.map (· ++ [e])) x := ⟨k.hc, fun R hR t ht => by
      obtain ⟨S, hS, rfl⟩ := List.mem_map.mp hR
      rcases List.mem_append.mp ht with ht | ht
      · exact k.hr S hS t ht
      · rw [List.mem_singleton.mp ht]; exact ee, by rw [List.length_map]; omega, by rw [flat_add]; omega, by omega⟩
    obtain ⟨r1, r2, r3⟩ := t0 _ _ _ _ z
    have en := normal_nf (h := h) (x := x) (cs := cs) (rows := rows.map (· ++ [e])) r1 r2 r3
    refine fin _ _ _ _ m2 (up g2 (by omega)) ?_ z
    rw [decide_eq_true (by decide)] at q2
    rw [decide_eq_false (by decide)] at q0 q1 q3 q4 q5
    have lc := lc_add (.mu m2) (.im (nmD h cs rows x)) (.im (.int (h : Nat))) (.im (.tuple (nD cs))) (.im (.tuple (tuD rows))) (.im (.int (x : Nat))) (.im (.int 2)) e rows hR
    have sz : szOk rows.length = true := szOk_le (by omega)
    unfold f_law_near b_law_near
    unfold nmD at lc ⊢
    simp only [↓en, ↓d1, ↓d2, ↓lc, sNop_ap, row?_ap, eRowM_ap, sRowSub_ap, eRowLen_ap, eRowNil_ap, isUn_un, ixN3_0, ixN3_1, ixN3_2, gRowsD_ap, rowsOf_nil, rowsOf_cons, eMeth_ap, isL_l, isS_s, mAppend_ap, mExtend_ap, ownL_fr, gIn_ap, ownDct_fr, gT_apL, hSorted, hTuple, hList, hRev, hRevX, hEqS, sSeq_ap, sBrk_ap, sCnt_ap, sRet_ap, sRetN_ap, sDrop_ap, sIf_ap, sSet_ap, isMu_ap, sAsg_ap, gN_ap, gT_ap, gTs, sPar_ap, sSub_ap, own?_ap, putO_t, putO_f, sAug_ap, sFor_ap, eC_ap, eVar_ap, ePl_ap, eMv_ap, opS_ap, sNil_ap, sCons_ap, gOp_ap, vws_nil, vws_cons, vw_im, vw_fr, vw_frd, vw_frs, vw_frr, vw_pl, view_l, view_d, view_s, view_r, rs_d, rs_l, sl_im, sl_fr, fz_im, fz_fr, fzs_nil, fzs_cons, toD_l, toD_r, gTupD_ap, gLstD_ap, gIx_ap, gDGet_ap, ownDct_pl, keyOf_i, keyOf_s, gMul_ap, tB_ap, tNot_ap, tAnd_ap, tOr_ap, eNot_ap, eAnd_ap, eOr_ap, eIf_ap, tY_ap, eSl_ap, oN_ap, oI_ap, itOf_ap, itR1_ap, itR2_ap, eLc_ap, isIm_ap, eCall_ap, eCallM_ap, fnOf_ap, isPl_im, isPl_fr, eDspl_ap, sArgs_nil, sArgs_cons, mkD_nil, mkD_cons, keepMu_mu, keepMu_im, projS_nil, projS_cons, hAdd, hSub, hMul, hDiv, hMod, hPow, hNeg, hCmp, hEq, hNe, hIsN, hNotN, hIx, hLen, hInt, hAbs, hGcd, hMin, hMax, hCut, isi_ii, isi_ib, isi_tt, isi_ll, isM_un, isM_im, isM_ow, isM_mu, List.getElem?_cons_zero, List.getElem?_cons_succ, List.getElem?_nil, List.set_cons_zero, List.set_cons_succ, List.length_cons, List.length_nil, List.length_map, List.replicate_succ, List.replicate_zero, List.cons_append, List.nil_append, List.map_cons, List.map_nil, Nat.reduceAdd, Nat.zero_add, ne_eq, not_true_eq_false, not_false_eq_true, decide_false, decide_true, Bool.or_self, Bool.or_false, Bool.false_or, Bool.and_self, Bool.false_eq_true, if_false, if_true, reduceIte, szOk_2, szOk_1, szOk_0, szOk_3, lk_left, lk_seed, lk_cells, lk_spot, pt_left, pt_spot, len_mL, mSet, true_and, and_true, List.getD_eq_getElem?_getD, Option.getD_some, seqOf_l, seqOf_t, ↓hIx_sq, ↓hLen_sq, seqOf_sq, ↓hTuple_sq, fz_fr2, gRep_ap, eq_self, gSorted_ap, gSortD_ap, gSortS_ap, ownSet_pl, eDict1_ap, eChain_ap, gInD_ap, gInS_ap, mPop_ap, mAdd_ap, eSet0_ap, sWhile_ap, itEnumX_ap, eM2_ap, eTR1_ap, eLR1_ap, hLtD, gDGetT_ap, ownDctT_pl, gInT_ap, keyT_t, keysOf_nil, keysOf_cons, eDctT0_ap, view_dT, eDict1T_ap, hIsB, hNotB, sPar3_ap, he, sh_int, q0, q1, q2, q3, q4, q5, tuD_len, sz, szOk_4]
  · have z : MN (a + 1) (b + a + 1) (3 * c + 3) h cs (rows.map List.tail) x := ⟨k.hc, fun R hR t ht => by
      obtain ⟨S, hS, rfl⟩ := List.mem_map.mp hR
      exact k.hr S hS t (List.mem_of_mem_tail ht), by rw [List.length_map]; omega, by have := flat_tl rows; omega, by omega⟩
    obtain ⟨r1, r2, r3⟩ := t0 _ _ _ _ z
    have en := normal_nf (h := h) (x := x) (cs := cs) (rows := rows.map List.tail) r1 r2 r3
    refine fin _ _ _ _ m2 (up g2 (by omega)) ?_ z
    rw [decide_eq_true (by decide)] at q3
    rw [decide_eq_false (by decide)] at q0 q1 q2 q4 q5
    have lc := lc_tl (.mu m2) (.im (nmD h cs rows x)) (.im (.int (h : Nat))) (.im (.tuple (nD cs))) (.im (.tuple (tuD rows))) (.im (.int (x : Nat))) (.im (.int (e : Nat))) (.im (.int 3)) rows
    have sz : szOk rows.length = true := szOk_le (by omega)
    unfold f_law_near b_law_near
    unfold nmD at lc ⊢
    simp only [↓en, ↓d1, ↓d2, ↓lc, sNop_ap, row?_ap, eRowM_ap, sRowSub_ap, eRowLen_ap, eRowNil_ap, isUn_un, ixN3_0, ixN3_1, ixN3_2, gRowsD_ap, rowsOf_nil, rowsOf_cons, eMeth_ap, isL_l, isS_s, mAppend_ap, mExtend_ap, ownL_fr, gIn_ap, ownDct_fr, gT_apL, hSorted, hTuple, hList, hRev, hRevX, hEqS, sSeq_ap, sBrk_ap, sCnt_ap, sRet_ap, sRetN_ap, sDrop_ap, sIf_ap, sSet_ap, isMu_ap, sAsg_ap, gN_ap, gT_ap, gTs, sPar_ap, sSub_ap, own?_ap, putO_t, putO_f, sAug_ap, sFor_ap, eC_ap, eVar_ap, ePl_ap, eMv_ap, opS_ap, sNil_ap, sCons_ap, gOp_ap, vws_nil, vws_cons, vw_im, vw_fr, vw_frd, vw_frs, vw_frr, vw_pl, view_l, view_d, view_s, view_r, rs_d, rs_l, sl_im, sl_fr, fz_im, fz_fr, fzs_nil, fzs_cons, toD_l, toD_r, gTupD_ap, gLstD_ap, gIx_ap, gDGet_ap, ownDct_pl, keyOf_i, keyOf_s, gMul_ap, tB_ap, tNot_ap, tAnd_ap, tOr_ap, eNot_ap, eAnd_ap, eOr_ap, eIf_ap, tY_ap, eSl_ap, oN_ap, oI_ap, itOf_ap, itR1_ap, itR2_ap, eLc_ap, isIm_ap, eCall_ap, eCallM_ap, fnOf_ap, isPl_im, isPl_fr, eDspl_ap, sArgs_nil, sArgs_cons, mkD_nil, mkD_cons, keepMu_mu, keepMu_im, projS_nil, projS_cons, hAdd, hSub, hMul, hDiv, hMod, hPow, hNeg, hCmp, hEq, hNe, hIsN, hNotN, hIx, hLen, hInt, hAbs, hGcd, hMin, hMax, hCut, isi_ii, isi_ib, isi_tt, isi_ll, isM_un, isM_im, isM_ow, isM_mu, List.getElem?_cons_zero, List.getElem?_cons_succ, List.getElem?_nil, List.set_cons_zero, List.set_cons_succ, List.length_cons, List.length_nil, List.length_map, List.replicate_succ, List.replicate_zero, List.cons_append, List.nil_append, List.map_cons, List.map_nil, Nat.reduceAdd, Nat.zero_add, ne_eq, not_true_eq_false, not_false_eq_true, decide_false, decide_true, Bool.or_self, Bool.or_false, Bool.false_or, Bool.and_self, Bool.false_eq_true, if_false, if_true, reduceIte, szOk_2, szOk_1, szOk_0, szOk_3, lk_left, lk_seed, lk_cells, lk_spot, pt_left, pt_spot, len_mL, mSet, true_and, and_true, List.getD_eq_getElem?_getD, Option.getD_some, seqOf_l, seqOf_t, ↓hIx_sq, ↓hLen_sq, seqOf_sq, ↓hTuple_sq, fz_fr2, gRep_ap, eq_self, gSorted_ap, gSortD_ap, gSortS_ap, ownSet_pl, eDict1_ap, eChain_ap, gInD_ap, gInS_ap, mPop_ap, mAdd_ap, eSet0_ap, sWhile_ap, itEnumX_ap, eM2_ap, eTR1_ap, eLR1_ap, hLtD, gDGetT_ap, ownDctT_pl, gInT_ap, keyT_t, keysOf_nil, keysOf_cons, eDctT0_ap, view_dT, eDict1T_ap, hIsB, hNotB, sPar3_ap, he, sh_int, q0, q1, q2, q3, q4, q5, tuD_len, sz, szOk_4]
  · obtain ⟨i, m3, hi, d3, g3⟩ := of_eq (l := [.tuple (tuD (rows ++ [[]])), .tuple (tuD rows.tail), .tuple (tuD [[e]])]) g2 (by omega) (by simp) (by simp)
    have en : ∃ rows' : List (List Nat), ([.tuple (tuD (rows ++ [[]])), .tuple (tuD rows.tail), .tuple (tuD [[e]])] : List D).getD i .none = .tuple (tuD rows') ∧ MN (a + 1) (b + a + 1) (3 * c + 3) h cs rows' x := by
      have hi3 : i = 0 ∨ i = 1 ∨ i = 2 := by simp only [List.length_cons, List.length_nil] at hi; omega
      rcases hi3 with rfl | rfl | rfl
      · refine ⟨_, rfl, k.hc, fun R hR t ht => ?_, by rw [List.length_append, List.length_singleton]; omega, by rw [List.flatten_append, List.length_append, show ([[]] : List (List Nat)).flatten.length = 0 from rfl]; omega, by omega⟩
        rcases List.mem_append.mp hR with hR | hR
        · exact k.hr R hR t ht
        · rw [List.mem_singleton.mp hR] at ht; simp at ht
      · exact ⟨_, rfl, k.hc, fun R hR t ht => k.hr R (List.mem_of_mem_tail hR) t ht, by rw [List.length_tail]; omega, by have := flat_tail (rows := rows); omega, by omega⟩
      · refine ⟨_, rfl, k.hc, fun R hR t ht => ?_, by simp, by simp; omega, by omega⟩
        rw [List.mem_singleton.mp hR] at ht
        rw [List.mem_singleton.mp ht]
        exact ee
    obtain ⟨rows', er, z⟩ := en
    rw [er] at d3
    obtain ⟨r1, r2, r3⟩ := t0 _ _ _ _ z
    have en := normal_nf (h := h) (x := x) (cs := cs) (rows := rows') r1 r2 r3
    refine fin _ _ _ _ m3 (up g3 (by omega)) ?_ z
    rw [decide_eq_true (by decide)] at q4
    rw [decide_eq_false (by decide)] at q0 q1 q2 q3 q5
    have sz : szOk (rows.length + (0 + 1)) = true := szOk_le (by omega)
    have sz' : szOk (rows.length + 1) = true := szOk_le (by omega)
    have c1 : cutD (tuD rows) (some 1) none = tuD rows.tail := by rw [cut_tail]; cases rows <;> rfl
    have e1 : tuD (rows ++ [[]]) = tuD rows ++ [.tuple []] := by unfold tuD; rw [List.map_append]; rfl
    have e2 : tuD [[e]] = [.tuple [.int (e : Nat)]] := rfl
    rw [e1, e2] at d3
    unfold f_law_near b_law_near nmD
    simp only [↓en, ↓d1, ↓d2, ↓d3, sNop_ap, row?_ap, eRowM_ap, sRowSub_ap, eRowLen_ap, eRowNil_ap, isUn_un, ixN3_0, ixN3_1, ixN3_2, gRowsD_ap, rowsOf_nil, rowsOf_cons, eMeth_ap, isL_l, isS_s, mAppend_ap, mExtend_ap, ownL_fr, gIn_ap, ownDct_fr, gT_apL, hSorted, hTuple, hList, hRev, hRevX, hEqS, sSeq_ap, sBrk_ap, sCnt_ap, sRet_ap, sRetN_ap, sDrop_ap, sIf_ap, sSet_ap, isMu_ap, sAsg_ap, gN_ap, gT_ap, gTs, sPar_ap, sSub_ap, own?_ap, putO_t, putO_f, sAug_ap, sFor_ap, eC_ap, eVar_ap, ePl_ap, eMv_ap, opS_ap, sNil_ap, sCons_ap, gOp_ap, vws_nil, vws_cons, vw_im, vw_fr, vw_frd, vw_frs, vw_frr, vw_pl, view_l, view_d, view_s, view_r, rs_d, rs_l, sl_im, sl_fr, fz_im, fz_fr, fzs_nil, fzs_cons, toD_l, toD_r, gTupD_ap, gLstD_ap, gIx_ap, gDGet_ap, ownDct_pl, keyOf_i, keyOf_s, gMul_ap, tB_ap, tNot_ap, tAnd_ap, tOr_ap, eNot_ap, eAnd_ap, eOr_ap, eIf_ap, tY_ap, eSl_ap, oN_ap, oI_ap, itOf_ap, itR1_ap, itR2_ap, eLc_ap, isIm_ap, eCall_ap, eCallM_ap, fnOf_ap, isPl_im, isPl_fr, eDspl_ap, sArgs_nil, sArgs_cons, mkD_nil, mkD_cons, keepMu_mu, keepMu_im, projS_nil, projS_cons, hAdd, hSub, hMul, hDiv, hMod, hPow, hNeg, hCmp, hEq, hNe, hIsN, hNotN, hIx, hLen, hInt, hAbs, hGcd, hMin, hMax, hCut, isi_ii, isi_ib, isi_tt, isi_ll, isM_un, isM_im, isM_ow, isM_mu, List.getElem?_cons_zero, List.getElem?_cons_succ, List.getElem?_nil, List.set_cons_zero, List.set_cons_succ, List.length_cons, List.length_nil, List.length_map, List.replicate_succ, List.replicate_zero, List.cons_append, List.nil_append, List.map_cons, List.map_nil, Nat.reduceAdd, Nat.zero_add, ne_eq, not_true_eq_false, not_false_eq_true, decide_false, decide_true, Bool.or_self, Bool.or_false, Bool.false_or, Bool.and_self, Bool.false_eq_true, if_false, if_true, reduceIte, szOk_2, szOk_1, szOk_0, szOk_3, lk_left, lk_seed, lk_cells, lk_spot, pt_left, pt_spot, len_mL, mSet, true_and, and_true, List.getD_eq_getElem?_getD, Option.getD_some, seqOf_l, seqOf_t, ↓hIx_sq, ↓hLen_sq, seqOf_sq, ↓hTuple_sq, fz_fr2, gRep_ap, eq_self, gSorted_ap, gSortD_ap, gSortS_ap, ownSet_pl, eDict1_ap, eChain_ap, gInD_ap, gInS_ap, mPop_ap, mAdd_ap, eSet0_ap, sWhile_ap, itEnumX_ap, eM2_ap, eTR1_ap, eLR1_ap, hLtD, gDGetT_ap, ownDctT_pl, gInT_ap, keyT_t, keysOf_nil, keysOf_cons, eDctT0_ap, view_dT, eDict1T_ap, hIsB, hNotB, sPar3_ap, he, sh_int, q0, q1, q2, q3, q4, q5, tuD_len, c1, sz, sz', szOk_4]
  · obtain ⟨i, m3, hi, d3, g3⟩ := of_eq (l := [.int 0, .int 0, .int 1]) g2 (by omega) (by simp) (by simp)
    obtain ⟨v4, m4, d4, p5, p6, g4⟩ := draw_eq (b := 2) g3 (by omega) (by decide) (by decide)
    obtain ⟨h', eh, hh⟩ : ∃ h' : Nat, ([.int 0, .int 0, .int 1] : List D).getD i .none = .int (h' : Nat) ∧ h' ≤ 1 := by
      have hi3 : i = 0 ∨ i = 1 ∨ i = 2 := by simp only [List.length_cons, List.length_nil] at hi; omega
      rcases hi3 with rfl | rfl | rfl
      · exact ⟨0, rfl, by omega⟩
      · exact ⟨0, rfl, by omega⟩
      · exact ⟨1, rfl, by omega⟩
    rw [eh] at d3
    obtain ⟨x', ex⟩ : ∃ x' : Nat, (x : Int) + v4 = (x' : Int) := ⟨((x : Int) + v4).toNat, by omega⟩
    have z : MN (a + 1) (b + a + 1) (3 * c + 3) h' cs rows x' := ⟨k.hc, k.hr, by omega, by omega, by omega⟩
    obtain ⟨r1, r2, r3⟩ := t0 _ _ _ _ z
    have en := normal_nf (h := h') (x := x') (cs := cs) (rows := rows) r1 r2 r3
    refine fin _ _ _ _ m4 (up g4 (by omega)) ?_ z
    rw [decide_eq_true (by decide)] at q5
    rw [decide_eq_false (by decide)] at q0 q1 q2 q3 q4
    unfold f_law_near b_law_near nmD
    simp only [↓en, ↓d1, ↓d2, ↓d3, ↓d4, sNop_ap, row?_ap, eRowM_ap, sRowSub_ap, eRowLen_ap, eRowNil_ap, isUn_un, ixN3_0, ixN3_1, ixN3_2, gRowsD_ap, rowsOf_nil, rowsOf_cons, eMeth_ap, isL_l, isS_s, mAppend_ap, mExtend_ap, ownL_fr, gIn_ap, ownDct_fr, gT_apL, hSorted, hTuple, hList, hRev, hRevX, hEqS, sSeq_ap, sBrk_ap, sCnt_ap, sRet_ap, sRetN_ap, sDrop_ap, sIf_ap, sSet_ap, isMu_ap, sAsg_ap, gN_ap, gT_ap, gTs, sPar_ap, sSub_ap, own?_ap, putO_t, putO_f, sAug_ap, sFor_ap, eC_ap, eVar_ap, ePl_ap, eMv_ap, opS_ap, sNil_ap, sCons_ap, gOp_ap, vws_nil, vws_cons, vw_im, vw_fr, vw_frd, vw_frs, vw_frr, vw_pl, view_l, view_d, view_s, view_r, rs_d, rs_l, sl_im, sl_fr, fz_im, fz_fr, fzs_nil, fzs_cons, toD_l, toD_r, gTupD_ap, gLstD_ap, gIx_ap, gDGet_ap, ownDct_pl, keyOf_i, keyOf_s, gMul_ap, tB_ap, tNot_ap, tAnd_ap, tOr_ap, eNot_ap, eAnd_ap, eOr_ap, eIf_ap, tY_ap, eSl_ap, oN_ap, oI_ap, itOf_ap, itR1_ap, itR2_ap, eLc_ap, isIm_ap, eCall_ap, eCallM_ap, fnOf_ap, isPl_im, isPl_fr, eDspl_ap, sArgs_nil, sArgs_cons, mkD_nil, mkD_cons, keepMu_mu, keepMu_im, projS_nil, projS_cons, hAdd, hSub, hMul, hDiv, hMod, hPow, hNeg, hCmp, hEq, hNe, hIsN, hNotN, hIx, hLen, hInt, hAbs, hGcd, hMin, hMax, hCut, isi_ii, isi_ib, isi_tt, isi_ll, isM_un, isM_im, isM_ow, isM_mu, List.getElem?_cons_zero, List.getElem?_cons_succ, List.getElem?_nil, List.set_cons_zero, List.set_cons_succ, List.length_cons, List.length_nil, List.length_map, List.replicate_succ, List.replicate_zero, List.cons_append, List.nil_append, List.map_cons, List.map_nil, Nat.reduceAdd, Nat.zero_add, ne_eq, not_true_eq_false, not_false_eq_true, decide_false, decide_true, Bool.or_self, Bool.or_false, Bool.false_or, Bool.and_self, Bool.false_eq_true, if_false, if_true, reduceIte, szOk_2, szOk_1, szOk_0, szOk_3, lk_left, lk_seed, lk_cells, lk_spot, pt_left, pt_spot, len_mL, mSet, true_and, and_true, List.getD_eq_getElem?_getD, Option.getD_some, seqOf_l, seqOf_t, ↓hIx_sq, ↓hLen_sq, seqOf_sq, ↓hTuple_sq, fz_fr2, gRep_ap, eq_self, gSorted_ap, gSortD_ap, gSortS_ap, ownSet_pl, eDict1_ap, eChain_ap, gInD_ap, gInS_ap, mPop_ap, mAdd_ap, eSet0_ap, sWhile_ap, itEnumX_ap, eM2_ap, eTR1_ap, eLR1_ap, hLtD, gDGetT_ap, ownDctT_pl, gInT_ap, keyT_t, keysOf_nil, keysOf_cons, eDctT0_ap, view_dT, eDict1T_ap, hIsB, hNotB, sPar3_ap, he, ex, sh_int, q0, q1, q2, q3, q4, q5, szOk_4]

/-! ### the families of names -/
theorem k_nm {h : Nat} {cs : List Nat} {rows : List (List Nat)} {x : Nat} {d : D} (e : d = nmD h cs rows x) (so : cs.Pairwise (· ≤ ·)) (hc : ∀ t ∈ cs, 2 ≤ t ∧ t ≤ 9999) (hr : ∀ R ∈ rows, ∀ t ∈ R, 2 ≤ t ∧ t ≤ 9999) (la : rows.length ≤ 1) (lb : cs.length + rows.flatten.length ≤ 3) (lh : h ≤ 1) (lx : x ≤ 1) :
    ∃ h cs rows x, d = nmD h cs rows x ∧ KN 1 3 1 h cs rows x := ⟨h, cs, rows, x, e, so, hc, hr, la, lb, lh, lx⟩
theorem in1 {a : Nat} {P : Nat → Prop} (h : P a) : ∀ t ∈ [a], P t := fun t ht => by rw [List.mem_singleton.mp ht]; exact h
theorem in2 {a b : Nat} {P : Nat → Prop} (h : P a) (k : P b) : ∀ t ∈ [a, b], P t := fun t ht => by
  rcases List.mem_cons.mp ht with rfl | ht
  · exact h
  · exact in1 k t ht
theorem in3 {a b c : Nat} {P : Nat → Prop} (h : P a) (k : P b) (l : P c) : ∀ t ∈ [a, b, c], P t := fun t ht => by
  rcases List.mem_cons.mp ht with rfl | ht
  · exact h
  · exact in2 k l t ht
theorem inR {S : List Nat} {P : Nat → Prop} (h : ∀ t ∈ S, P t) : ∀ R ∈ [S], ∀ t ∈ R, P t := fun R hR t ht => by
  rw [List.mem_singleton.mp hR] at ht; exact h t ht
theorem inN {P : Nat → Prop} : ∀ R ∈ ([] : List (List Nat)), ∀ t ∈ R, P t := fun R hR => by simp at hR
theorem in0 {P : Nat → Prop} : ∀ R ∈ ([] : List Nat), P R := fun R hR => by simp at hR
def famD (n l : Nat) : List D := [nmD 0 [n, n] [] 0, nmD 0 [] [[n, n]] 0, nmD 0 [n] [[]] 0, nmD 0 [n] [] 1, nmD 0 [2, 2, n] [] 0, nmD 0 [] [[2, 2, n]] 0, nmD 0 [2] [[n]] 0, nmD 0 [2, 3, l] [] 0, nmD 0 [] [[2, 3, l]] 0, nmD 0 [3] [[2]] 0, nmD 0 [] [] 0, nmD 0 [] [[]] 0, nmD 0 [] [] 1]
theorem fam_mem {n l : Nat} (h1 : 2 ≤ n) (h2 : n ≤ 9999) (l1 : 3 ≤ l) (l2 : l ≤ 5) {d : D} (hd : d ∈ famD n l) : ∃ h cs rows x, d = nmD h cs rows x ∧ KN 1 3 1 h cs rows x := by
  have a2 : 2 ≤ 2 ∧ 2 ≤ 9999 := by omega
  have a3 : 2 ≤ 3 ∧ 3 ≤ 9999 := by omega
  have an : 2 ≤ n ∧ n ≤ 9999 := ⟨h1, h2⟩
  have al : 2 ≤ l ∧ l ≤ 9999 := by omega
  have s3 : ([2, 2, n] : List Nat).Pairwise (· ≤ ·) := by simp; omega
  have s4 : ([2, 3, l] : List Nat).Pairwise (· ≤ ·) := by simp; omega
  simp only [famD, List.mem_cons, List.not_mem_nil, or_false] at hd
  rcases hd with e | e | e | e | e | e | e | e | e | e | e | e | e
  · exact k_nm e (by simp) (in2 an an) inN (by simp) (by simp) (by simp) (by simp)
  · exact k_nm e (by simp) in0 (inR (in2 an an)) (by simp) (by simp) (by simp) (by simp)
  · exact k_nm e (by simp) (in1 an) (inR in0) (by simp) (by simp) (by simp) (by simp)
  · exact k_nm e (by simp) (in1 an) inN (by simp) (by simp) (by simp) (by simp)
  · exact k_nm e s3 (in3 a2 a2 an) inN (by simp) (by simp) (by simp) (by simp)
  · exact k_nm e (by simp) in0 (inR (in3 a2 a2 an)) (by simp) (by simp) (by simp) (by simp)
  · exact k_nm e (by simp) (in1 a2) (inR (in1 an)) (by simp) (by simp) (by simp) (by simp)
  · exact k_nm e s4 (in3 a2 a3 al) inN (by simp) (by simp) (by simp) (by simp)
  · exact k_nm e (by simp) in0 (inR (in3 a2 a3 al)) (by simp) (by simp) (by simp) (by simp)
  · exact k_nm e (by simp) (in1 a3) (inR (in1 a2)) (by simp) (by simp) (by simp) (by simp)
  · exact k_nm e (by simp) in0 inN (by simp) (by simp) (by simp) (by simp)
  · exact k_nm e (by simp) in0 (inR in0) (by simp) (by simp) (by simp) (by simp)
  · exact k_nm e (by simp) in0 inN (by simp) (by simp) (by simp) (by simp)
theorem family_eq {q : Int} {m : O} (g : Good q m) (hq : q < 1000000) : ∃ h cs rows x m', f_law_family [.mu m] = some (.im (nmD h cs rows x), [.mu m']) ∧ KN 1 3 1 h cs rows x ∧ Good (q + 4) m' := by
  obtain ⟨v1, m1, d1, p1, p2, g1⟩ := draw_eq (b := 9998) g (by omega) (by decide) (by decide)
  obtain ⟨w, hw⟩ : ∃ e : Nat, 2 + v1 = (e : Int) := ⟨(2 + v1).toNat, by omega⟩
  obtain ⟨i, m2, hi, d2, g2⟩ := of_eq (l := [.int 2, .int 3, .int 4, .int 5, .int 6, .int (w : Nat)]) g1 (by omega) (by simp) (by simp)
  obtain ⟨n, en, n1, n2⟩ : ∃ n : Nat, ([.int 2, .int 3, .int 4, .int 5, .int 6, .int (w : Nat)] : List D).getD i .none = .int (n : Nat) ∧ 2 ≤ n ∧ n ≤ 9999 := by
    have hi3 : i = 0 ∨ i = 1 ∨ i = 2 ∨ i = 3 ∨ i = 4 ∨ i = 5 := by simp only [List.length_cons, List.length_nil] at hi; omega
    rcases hi3 with rfl | rfl | rfl | rfl | rfl | rfl
    · exact ⟨2, rfl, by omega, by omega⟩
    · exact ⟨3, rfl, by omega, by omega⟩
    · exact ⟨4, rfl, by omega, by omega⟩
    · exact ⟨5, rfl, by omega, by omega⟩
    · exact ⟨6, rfl, by omega, by omega⟩
    · exact ⟨w, rfl, by omega, by omega⟩
  rw [en] at d2
  obtain ⟨v3, m3, d3, p3, p4, g3⟩ := draw_eq (b := 3) g2 (by omega) (by decide) (by decide)
  obtain ⟨l, hl⟩ : ∃ e : Nat, 3 + v3 = (e : Int) := ⟨(3 + v3).toNat, by omega⟩
  obtain ⟨j, m4, hj, d4, g4⟩ := of_eq (l := famD n l) g3 (by omega) (by simp [famD]) (by simp [famD])
  have hm : (famD n l).getD j .none ∈ famD n l := by
    rw [List.getD_eq_getElem?_getD, List.getElem?_eq_getElem hj]
    exact List.getElem_mem hj
  obtain ⟨h, cs, rows, x, ed, k⟩ := fam_mem n1 n2 (by omega) (by omega) hm
  rw [ed] at d4
  refine ⟨h, cs, rows, x, m4, ?_, k, ?_⟩
  · have z1 : szOk (5 + 4) = true := by decide
    have z2 : szOk (9 + 4) = true := by decide
    have z3 : szOk 6 = true := by decide
    have fe : famD n l = [.tuple [.int 0, .tuple [.int (n : Nat), .int (n : Nat)], .tuple [], .int 0], .tuple [.int 0, .tuple [], .tuple [.tuple [.int (n : Nat), .int (n : Nat)]], .int 0], .tuple [.int 0, .tuple [.int (n : Nat)], .tuple [.tuple []], .int 0], .tuple [.int 0, .tuple [.int (n : Nat)], .tuple [], .int 1], .tuple [.int 0, .tuple [.int 2, .int 2, .int (n : Nat)], .tuple [], .int 0],
      .tuple [.int 0, .tuple [], .tuple [.tuple [.int 2, .int 2, .int (n : Nat)]], .int 0], .tuple [.int 0, .tuple [.int 2], .tuple [.tuple [.int (n : Nat)]], .int 0], .tuple [.int 0, .tuple [.int 2, .int 3, .int (l : Nat)], .tuple [], .int 0], .tuple [.int 0, .tuple [], .tuple [.tuple [.int 2, .int 3, .int (l : Nat)]], .int 0],
      .tuple [.int 0, .tuple [.int 3], .tuple [.tuple [.int 2]], .int 0], .tuple [.int 0, .tuple [], .tuple [], .int 0], .tuple [.int 0, .tuple [], .tuple [.tuple []], .int 0], .tuple [.int 0, .tuple [], .tuple [], .int 1]] := rfl
    rw [fe] at d4
    unfold f_law_family b_law_family
    simp only [↓d1, ↓d2, ↓d3, ↓d4, sNop_ap, row?_ap, eRowM_ap, sRowSub_ap, eRowLen_ap, eRowNil_ap, isUn_un, ixN3_0, ixN3_1, ixN3_2, gRowsD_ap, rowsOf_nil, rowsOf_cons, eMeth_ap, isL_l, isS_s, mAppend_ap, mExtend_ap, ownL_fr, gIn_ap, ownDct_fr, gT_apL, hSorted, hTuple, hList, hRev, hRevX, hEqS, sSeq_ap, sBrk_ap, sCnt_ap, sRet_ap, sRetN_ap, sDrop_ap, sIf_ap, sSet_ap, isMu_ap, sAsg_ap, gN_ap, gT_ap, gTs, sPar_ap, sSub_ap, own?_ap, putO_t, putO_f, sAug_ap, sFor_ap, eC_ap, eVar_ap, ePl_ap, eMv_ap, opS_ap, sNil_ap, sCons_ap, gOp_ap, vws_nil, vws_cons, vw_im, vw_fr, vw_frd, vw_frs, vw_frr, vw_pl, view_l, view_d, view_s, view_r, rs_d, rs_l, sl_im, sl_fr, fz_im, fz_fr, fzs_nil, fzs_cons, toD_l, toD_r, gTupD_ap, gLstD_ap, gIx_ap, gDGet_ap, ownDct_pl, keyOf_i, keyOf_s, gMul_ap, tB_ap, tNot_ap, tAnd_ap, tOr_ap, eNot_ap, eAnd_ap, eOr_ap, eIf_ap, tY_ap, eSl_ap, oN_ap, oI_ap, itOf_ap, itR1_ap, itR2_ap, eLc_ap, isIm_ap, eCall_ap, eCallM_ap, fnOf_ap, isPl_im, isPl_fr, eDspl_ap, sArgs_nil, sArgs_cons, mkD_nil, mkD_cons, keepMu_mu, keepMu_im, projS_nil, projS_cons, hAdd, hSub, hMul, hDiv, hMod, hPow, hNeg, hCmp, hEq, hNe, hIsN, hNotN, hIx, hLen, hInt, hAbs, hGcd, hMin, hMax, hCut, isi_ii, isi_ib, isi_tt, isi_ll, isM_un, isM_im, isM_ow, isM_mu, List.getElem?_cons_zero, List.getElem?_cons_succ, List.getElem?_nil, List.set_cons_zero, List.set_cons_succ, List.length_cons, List.length_nil, List.length_map, List.replicate_succ, List.replicate_zero, List.cons_append, List.nil_append, List.map_cons, List.map_nil, Nat.reduceAdd, Nat.zero_add, ne_eq, not_true_eq_false, not_false_eq_true, decide_false, decide_true, Bool.or_self, Bool.or_false, Bool.false_or, Bool.and_self, Bool.false_eq_true, if_false, if_true, reduceIte, szOk_2, szOk_1, szOk_0, szOk_3, lk_left, lk_seed, lk_cells, lk_spot, pt_left, pt_spot, len_mL, mSet, true_and, and_true, List.getD_eq_getElem?_getD, Option.getD_some, seqOf_l, seqOf_t, ↓hIx_sq, ↓hLen_sq, seqOf_sq, ↓hTuple_sq, fz_fr2, gRep_ap, eq_self, gSorted_ap, gSortD_ap, gSortS_ap, ownSet_pl, eDict1_ap, eChain_ap, gInD_ap, gInS_ap, mPop_ap, mAdd_ap, eSet0_ap, sWhile_ap, itEnumX_ap, eM2_ap, eTR1_ap, eLR1_ap, hLtD, gDGetT_ap, ownDctT_pl, gInT_ap, keyT_t, keysOf_nil, keysOf_cons, eDctT0_ap, view_dT, eDict1T_ap, hIsB, hNotB, sPar3_ap, hw, hl, z1, z2, z3, szOk_4, szOk_5]
  · obtain ⟨l, s, cs, p, e, h1, h2, h3⟩ := g4
    exact ⟨l, s, cs, p, e, h1, h2, by omega⟩

/-! ### the law -/
theorem steps_ok (s0 s1 s3 s4 s5 : Sl) : ∀ (ds : List D) (q : Int) (m : O) (s2 s7 : Sl), isM s2 = false → isM s7 = false → Good q m → q + 20 * (ds.length : Int) < 900000 →
    ∃ t2 m' t7, isM t2 = false ∧ isM t7 = false ∧ forL (gN 7) lawBody2 ds [s0, s1, s2, s3, s4, s5, .ow m, s7] = some (.nx [s0, s1, t2, s3, s4, s5, .ow m', t7])
  | [], q, m, s2, s7, h2, h7, _, _ => ⟨s2, m, s7, h2, h7, rfl⟩
  | d :: ds, q, m, s2, s7, h2, h7, g, hq => by
    rw [List.length_cons] at hq
    obtain ⟨h, cs, rows, x, m1, e1, k1, g1⟩ := family_eq g (by omega)
    obtain ⟨ha, csa, rowsa, xa, m2, e2, k2, g2⟩ := near_eq k1 (by omega) (by omega) (by omega) g1 (by omega)
    obtain ⟨hb, csb, rowsb, xb, m3, e3, k3, g3⟩ := near_eq k1 (by omega) (by omega) (by omega) g2 (by omega)
    obtain ⟨hc, csc, rowsc, xc, m4, e4, k4, g4⟩ := near_eq k3 (by omega) (by omega) (by omega) g3 (by omega)
    have r1 := k1.right (by omega) (by omega) (by omega)
    have r2 := k2.right (by omega) (by omega) (by omega)
    have r4 := k4.right (by omega) (by omega) (by omega)
    obtain ⟨t2, m', t7, i2, i7, ih⟩ := steps_ok s0 s1 s3 s4 s5 ds (q + 4 + 5 + 5 + 5) m4 (.im (nmD h cs rows x)) (.im d) rfl rfl g4 (by omega)
    generalize nmD h cs rows x = N0 at *
    generalize nmD ha csa rowsa xa = N1 at *
    generalize nmD hb csb rowsb xb = N2 at *
    generalize nmD hc csc rowsc xc = N3 at *
    refine ⟨t2, m', t7, i2, i7, ?_⟩
    rw [← ih]
    simp only [forL, ↓e1, ↓e2, ↓e3, ↓e4, ↓r1, ↓r2, ↓r4, sNop_ap, row?_ap, eRowM_ap, sRowSub_ap, eRowLen_ap, eRowNil_ap, isUn_un, ixN3_0, ixN3_1, ixN3_2, gRowsD_ap, rowsOf_nil, rowsOf_cons, eMeth_ap, isL_l, isS_s, mAppend_ap, mExtend_ap, ownL_fr, gIn_ap, ownDct_fr, gT_apL, hSorted, hTuple, hList, hRev, hRevX, hEqS, sSeq_ap, sBrk_ap, sCnt_ap, sRet_ap, sRetN_ap, sDrop_ap, sIf_ap, sSet_ap, isMu_ap, sAsg_ap, gN_ap, gT_ap, gTs, sPar_ap, sSub_ap, own?_ap, putO_t, putO_f, sAug_ap, sFor_ap, eC_ap, eVar_ap, ePl_ap, eMv_ap, opS_ap, sNil_ap, sCons_ap, gOp_ap, vws_nil, vws_cons, vw_im, vw_fr, vw_frd, vw_frs, vw_frr, vw_pl, view_l, view_d, view_s, view_r, rs_d, rs_l, sl_im, sl_fr, fz_im, fz_fr, fzs_nil, fzs_cons, toD_l, toD_r, gTupD_ap, gLstD_ap, gIx_ap, gDGet_ap, ownDct_pl, keyOf_i, keyOf_s, gMul_ap, tB_ap, tNot_ap, tAnd_ap, tOr_ap, eNot_ap, eAnd_ap, eOr_ap, eIf_ap, tY_ap, eSl_ap, oN_ap, oI_ap, itOf_ap, itR1_ap, itR2_ap, eLc_ap, isIm_ap, eCall_ap, eCallM_ap, fnOf_ap, isPl_im, isPl_fr, eDspl_ap, sArgs_nil, sArgs_cons, mkD_nil, mkD_cons, keepMu_mu, keepMu_im, projS_nil, projS_cons, hAdd, hSub, hMul, hDiv, hMod, hPow, hNeg, hCmp, hEq, hNe, hIsN, hNotN, hIx, hLen, hInt, hAbs, hGcd, hMin, hMax, hCut, isi_ii, isi_ib, isi_tt, isi_ll, isM_un, isM_im, isM_ow, isM_mu, List.getElem?_cons_zero, List.getElem?_cons_succ, List.getElem?_nil, List.set_cons_zero, List.set_cons_succ, List.length_cons, List.length_nil, List.length_map, List.replicate_succ, List.replicate_zero, List.cons_append, List.nil_append, List.map_cons, List.map_nil, Nat.reduceAdd, Nat.zero_add, ne_eq, not_true_eq_false, not_false_eq_true, decide_false, decide_true, Bool.or_self, Bool.or_false, Bool.false_or, Bool.and_self, Bool.false_eq_true, if_false, if_true, reduceIte, szOk_2, szOk_1, szOk_0, szOk_3, lk_left, lk_seed, lk_cells, lk_spot, pt_left, pt_spot, len_mL, mSet, true_and, and_true, List.getD_eq_getElem?_getD, Option.getD_some, seqOf_l, seqOf_t, ↓hIx_sq, ↓hLen_sq, seqOf_sq, ↓hTuple_sq, fz_fr2, gRep_ap, eq_self, gSorted_ap, gSortD_ap, gSortS_ap, ownSet_pl, eDict1_ap, eChain_ap, gInD_ap, gInS_ap, mPop_ap, mAdd_ap, eSet0_ap, sWhile_ap, itEnumX_ap, eM2_ap, eTR1_ap, eLR1_ap, hLtD, gDGetT_ap, ownDctT_pl, gInT_ap, keyT_t, keysOf_nil, keysOf_cons, eDctT0_ap, view_dT, eDict1T_ap, hIsB, hNotB, sPar3_ap, h2, h7, Bool.not_true]
theorem rights (s0 s1 s3 s4 s5 s6 s7 : Sl) : ∀ (ds : List D) (s2 : Sl), isM s2 = false → (∀ d ∈ ds, f_law_right [.im d] = some (.im (.bool true), [.un])) →
    ∃ t2, isM t2 = false ∧ ((∃ d, t2 = .im d) ∨ ds = []) ∧ forL (gN 2) lawBody ds [s0, s1, s2, s3, s4, s5, s6, s7] = some (.nx [s0, s1, t2, s3, s4, s5, s6, s7])
  | [], s2, h2, _ => ⟨s2, h2, .inr rfl, rfl⟩
  | d :: ds, s2, h2, h => by
    obtain ⟨t2, i2, j2, ih⟩ := rights s0 s1 s3 s4 s5 s6 s7 ds (.im d) rfl fun e he => h e (List.mem_cons_of_mem _ he)
    have r := h d List.mem_cons_self
    refine ⟨t2, i2, ?_, ?_⟩
    · rcases j2 with j2 | rfl
      · exact .inl j2
      · have ih' : some (Out.nx [s0, s1, .im d, s3, s4, s5, s6, s7]) = some (Out.nx [s0, s1, t2, s3, s4, s5, s6, s7]) := ih
        injection ih' with ih'
        injection ih' with ih'
        injection ih' with _ ih'
        injection ih' with _ ih'
        injection ih' with ih' _
        exact .inl ⟨d, ih'.symm⟩
    · rw [← ih]
      simp only [forL, ↓r, sNop_ap, row?_ap, eRowM_ap, sRowSub_ap, eRowLen_ap, eRowNil_ap, isUn_un, ixN3_0, ixN3_1, ixN3_2, gRowsD_ap, rowsOf_nil, rowsOf_cons, eMeth_ap, isL_l, isS_s, mAppend_ap, mExtend_ap, ownL_fr, gIn_ap, ownDct_fr, gT_apL, hSorted, hTuple, hList, hRev, hRevX, hEqS, sSeq_ap, sBrk_ap, sCnt_ap, sRet_ap, sRetN_ap, sDrop_ap, sIf_ap, sSet_ap, isMu_ap, sAsg_ap, gN_ap, gT_ap, gTs, sPar_ap, sSub_ap, own?_ap, putO_t, putO_f, sAug_ap, sFor_ap, eC_ap, eVar_ap, ePl_ap, eMv_ap, opS_ap, sNil_ap, sCons_ap, gOp_ap, vws_nil, vws_cons, vw_im, vw_fr, vw_frd, vw_frs, vw_frr, vw_pl, view_l, view_d, view_s, view_r, rs_d, rs_l, sl_im, sl_fr, fz_im, fz_fr, fzs_nil, fzs_cons, toD_l, toD_r, gTupD_ap, gLstD_ap, gIx_ap, gDGet_ap, ownDct_pl, keyOf_i, keyOf_s, gMul_ap, tB_ap, tNot_ap, tAnd_ap, tOr_ap, eNot_ap, eAnd_ap, eOr_ap, eIf_ap, tY_ap, eSl_ap, oN_ap, oI_ap, itOf_ap, itR1_ap, itR2_ap, eLc_ap, isIm_ap, eCall_ap, eCallM_ap, fnOf_ap, isPl_im, isPl_fr, eDspl_ap, sArgs_nil, sArgs_cons, mkD_nil, mkD_cons, keepMu_mu, keepMu_im, projS_nil, projS_cons, hAdd, hSub, hMul, hDiv, hMod, hPow, hNeg, hCmp, hEq, hNe, hIsN, hNotN, hIx, hLen, hInt, hAbs, hGcd, hMin, hMax, hCut, isi_ii, isi_ib, isi_tt, isi_ll, isM_un, isM_im, isM_ow, isM_mu, List.getElem?_cons_zero, List.getElem?_cons_succ, List.getElem?_nil, List.set_cons_zero, List.set_cons_succ, List.length_cons, List.length_nil, List.length_map, List.replicate_succ, List.replicate_zero, List.cons_append, List.nil_append, List.map_cons, List.map_nil, Nat.reduceAdd, Nat.zero_add, ne_eq, not_true_eq_false, not_false_eq_true, decide_false, decide_true, Bool.or_self, Bool.or_false, Bool.false_or, Bool.and_self, Bool.false_eq_true, if_false, if_true, reduceIte, szOk_2, szOk_1, szOk_0, szOk_3, lk_left, lk_seed, lk_cells, lk_spot, pt_left, pt_spot, len_mL, mSet, true_and, and_true, List.getD_eq_getElem?_getD, Option.getD_some, seqOf_l, seqOf_t, ↓hIx_sq, ↓hLen_sq, seqOf_sq, ↓hTuple_sq, fz_fr2, gRep_ap, eq_self, gSorted_ap, gSortD_ap, gSortS_ap, ownSet_pl, eDict1_ap, eChain_ap, gInD_ap, gInS_ap, mPop_ap, mAdd_ap, eSet0_ap, sWhile_ap, itEnumX_ap, eM2_ap, eTR1_ap, eLR1_ap, hLtD, gDGetT_ap, ownDctT_pl, gInT_ap, keyT_t, keysOf_nil, keysOf_cons, eDctT0_ap, view_dT, eDict1T_ap, hIsB, hNotB, sPar3_ap, h2, Bool.not_true]
theorem ball_of {a b c h x n : Nat} {cs : List Nat} {rows : List (List Nat)} (k : KN a b c h cs rows x) (ha : a ≤ 8) (hb : b ≤ 17) (hc : c ≤ 200) (e : bc h cs rows x = n) (h0 : 0 < n) : f_ball_count [.im (nmD h cs rows x)] = some (.im (.int (n : Nat)), [.un]) := by
  have B := bc_spec (h := h) (x := x) k.so (fun t ht => (k.hc t ht).1) fun R hR t ht => (k.hr R hR t ht).1
  rw [e] at B
  exact ball_eq (k.nm ha hb hc) h0 (B.i.mp h0).1 (B.e h0)
def someD : List D := [.tuple [.int 0, .tuple [], .tuple [], .int 0], .tuple [.int 0, .tuple [], .tuple [.tuple []], .int 0], .tuple [.int 0, .tuple [], .tuple [], .int 1], .tuple [.int 0, .tuple [.int 5], .tuple [], .int 1], .tuple [.int 0, .tuple [.int 2, .int 2, .int 9999], .tuple [], .int 0], .tuple [.int 0, .tuple [], .tuple [.tuple [.int 2, .int 3, .int 5]], .int 0],
  .tuple [.int 0, .tuple [.int 3], .tuple [.tuple [.int 2]], .int 0], .tuple [.int 0, .tuple [.int 2, .int 3], .tuple [], .int 0], .tuple [.int 0, .tuple [], .tuple [.tuple [.int 4]], .int 0], .tuple [.int 0, .tuple [.int 2], .tuple [.tuple [.int 7]], .int 0], .tuple [.int 0, .tuple [.int 2, .int 3, .int 6], .tuple [], .int 0]]
theorem kn {h : Nat} {cs : List Nat} {rows : List (List Nat)} {x : Nat} (so : cs.Pairwise (· ≤ ·) := by simp) (hc : ∀ t ∈ cs, 2 ≤ t ∧ t ≤ 9999 := by simp) (hr : ∀ R ∈ rows, ∀ t ∈ R, 2 ≤ t ∧ t ≤ 9999 := by simp) (la : rows.length ≤ 1 := by simp) (lb : cs.length + rows.flatten.length ≤ 3 := by simp) (lh : h ≤ 1 := by simp) (lx : x ≤ 1 := by simp) : KN 1 3 1 h cs rows x := ⟨so, hc, hr, la, lb, lh, lx⟩
theorem kn0 : KN 1 3 1 0 [] [] 0 := kn
theorem kn1 : KN 1 3 1 0 [] [[]] 0 := kn
theorem kn2 : KN 1 3 1 0 [] [] 1 := kn
theorem kn3 : KN 1 3 1 0 [5] [] 1 := kn
theorem kn4 : KN 1 3 1 0 [2, 2, 9999] [] 0 := kn
theorem kn5 : KN 1 3 1 0 [] [[2, 3, 5]] 0 := kn
theorem kn6 : KN 1 3 1 0 [3] [[2]] 0 := kn
theorem kn7 : KN 1 3 1 0 [2, 3] [] 0 := kn
theorem kn8 : KN 1 3 1 0 [] [[4]] 0 := kn
theorem kn9 : KN 1 3 1 0 [2] [[7]] 0 := kn
theorem kn10 : KN 1 3 1 0 [2, 3, 6] [] 0 := kn
theorem some_ok : ∀ d ∈ someD, f_law_right [.im d] = some (.im (.bool true), [.un]) := fun d hd => by
  simp only [someD, List.mem_cons, List.not_mem_nil, or_false] at hd
  rcases hd with rfl | rfl | rfl | rfl | rfl | rfl | rfl | rfl | rfl | rfl | rfl
  · exact kn0.right (by decide) (by decide) (by decide)
  · exact kn1.right (by decide) (by decide) (by decide)
  · exact kn2.right (by decide) (by decide) (by decide)
  · exact kn3.right (by decide) (by decide) (by decide)
  · exact kn4.right (by decide) (by decide) (by decide)
  · exact kn5.right (by decide) (by decide) (by decide)
  · exact kn6.right (by decide) (by decide) (by decide)
  · exact kn7.right (by decide) (by decide) (by decide)
  · exact kn8.right (by decide) (by decide) (by decide)
  · exact kn9.right (by decide) (by decide) (by decide)
  · exact kn10.right (by decide) (by decide) (by decide)
theorem blc0 : f_ball_count [.im (.tuple [.int 0, .tuple [], .tuple [], .int 0])] = some (.im (.int 1), [.un]) := ball_of (n := 1) kn0 (by decide) (by decide) (by decide) (by decide) (by decide)
theorem srt3 : srtN [2, 3, 5] = [2, 3, 5] := by
  refine List.Perm.eq_of_pairwise (le := (· ≤ ·)) (fun x y _ _ h1 h2 => Nat.le_antisymm h1 h2) (srtN_so _) (by simp) (srtN_perm _)
theorem srt0 : srtN [] = [] := (srtN_perm []).eq_nil
theorem blc1 : f_ball_count [.im (.tuple [.int 0, .tuple [], .tuple [.tuple []], .int 0])] = some (.im (.int 2), [.un]) := ball_of (n := 2) kn1 (by decide) (by decide) (by decide) (by unfold bc; rw [if_neg (by decide), if_neg (by decide)]; show (if ([] : List Nat) = [] then 2 * tc (srtN []) else _) = 2; rw [if_pos rfl, srt0]; rfl) (by decide)
theorem blc3 : f_ball_count [.im (.tuple [.int 0, .tuple [.int 5], .tuple [], .int 1])] = some (.im (.int 10), [.un]) := ball_of (n := 10) kn3 (by decide) (by decide) (by decide) (by decide) (by decide)
theorem blc4 : f_ball_count [.im (.tuple [.int 0, .tuple [.int 2, .int 2, .int 9999], .tuple [], .int 0])] = some (.im (.int 19998), [.un]) := ball_of (n := 19998) kn4 (by decide) (by decide) (by decide) (by decide +kernel) (by decide)
theorem blc5 : f_ball_count [.im (.tuple [.int 0, .tuple [], .tuple [.tuple [.int 2, .int 3, .int 5]], .int 0])] = some (.im (.int 120), [.un]) := ball_of (n := 120) kn5 (by decide) (by decide) (by decide) (by unfold bc; rw [if_neg (by decide), if_neg (by decide)]; show (if ([] : List Nat) = [] then 2 * tc (srtN [2, 3, 5]) else _) = 120; rw [if_pos rfl, srt3]; rfl) (by decide)
theorem blc6 : f_ball_count [.im (.tuple [.int 0, .tuple [.int 3], .tuple [.tuple [.int 2]], .int 0])] = some (.im (.int 24), [.un]) := ball_of (n := 24) kn6 (by decide) (by decide) (by decide) (by decide) (by decide)
theorem blc9 : f_ball_count [.im (.tuple [.int 0, .tuple [.int 2], .tuple [.tuple [.int 7]], .int 0])] = some (.im (.int 28), [.un]) := ball_of (n := 28) kn9 (by decide) (by decide) (by decide) (by decide) (by decide)
def duesD : List D := [.tuple [.tuple [.int 0, .tuple [], .tuple [], .int 0], .int 1], .tuple [.tuple [.int 0, .tuple [], .tuple [.tuple []], .int 0], .int 2], .tuple [.tuple [.int 0, .tuple [.int 5], .tuple [], .int 1], .int 10], .tuple [.tuple [.int 0, .tuple [.int 2, .int 2, .int 9999], .tuple [], .int 0], .int 19998],
  .tuple [.tuple [.int 0, .tuple [], .tuple [.tuple [.int 2, .int 3, .int 5]], .int 0], .int 120], .tuple [.tuple [.int 0, .tuple [.int 3], .tuple [.tuple [.int 2]], .int 0], .int 24], .tuple [.tuple [.int 0, .tuple [.int 2], .tuple [.tuple [.int 7]], .int 0], .int 28]]
theorem dues_1 (s0 s1 s3 s5 s6 s7 : Sl) : lcQ 2 4 tY (eCall 1 f_ball_count (sCons (eVar 2) sNil)) duesD [s0, s1, .un, s3, .un, s5, s6, s7] = some ([.int 1, .int 2, .int 10, .int 19998, .int 120, .int 24, .int 28], [s0, s1, .un, s3, .un, s5, s6, s7]) := by
  unfold duesD
  simp only [lcQ, ↓blc0, ↓blc1, ↓blc3, ↓blc4, ↓blc5, ↓blc6, ↓blc9, sNop_ap, row?_ap, eRowM_ap, sRowSub_ap, eRowLen_ap, eRowNil_ap, isUn_un, ixN3_0, ixN3_1, ixN3_2, gRowsD_ap, rowsOf_nil, rowsOf_cons, eMeth_ap, isL_l, isS_s, mAppend_ap, mExtend_ap, ownL_fr, gIn_ap, ownDct_fr, gT_apL, hSorted, hTuple, hList, hRev, hRevX, hEqS, sSeq_ap, sBrk_ap, sCnt_ap, sRet_ap, sRetN_ap, sDrop_ap, sIf_ap, sSet_ap, isMu_ap, sAsg_ap, gN_ap, gT_ap, gTs, sPar_ap, sSub_ap, own?_ap, putO_t, putO_f, sAug_ap, sFor_ap, eC_ap, eVar_ap, ePl_ap, eMv_ap, opS_ap, sNil_ap, sCons_ap, gOp_ap, vws_nil, vws_cons, vw_im, vw_fr, vw_frd, vw_frs, vw_frr, vw_pl, view_l, view_d, view_s, view_r, rs_d, rs_l, sl_im, sl_fr, fz_im, fz_fr, fzs_nil, fzs_cons, toD_l, toD_r, gTupD_ap, gLstD_ap, gIx_ap, gDGet_ap, ownDct_pl, keyOf_i, keyOf_s, gMul_ap, tB_ap, tNot_ap, tAnd_ap, tOr_ap, eNot_ap, eAnd_ap, eOr_ap, eIf_ap, tY_ap, eSl_ap, oN_ap, oI_ap, itOf_ap, itR1_ap, itR2_ap, eLc_ap, isIm_ap, eCall_ap, eCallM_ap, fnOf_ap, isPl_im, isPl_fr, eDspl_ap, sArgs_nil, sArgs_cons, mkD_nil, mkD_cons, keepMu_mu, keepMu_im, projS_nil, projS_cons, hAdd, hSub, hMul, hDiv, hMod, hPow, hNeg, hCmp, hEq, hNe, hIsN, hNotN, hIx, hLen, hInt, hAbs, hGcd, hMin, hMax, hCut, isi_ii, isi_ib, isi_tt, isi_ll, isM_un, isM_im, isM_ow, isM_mu, List.getElem?_cons_zero, List.getElem?_cons_succ, List.getElem?_nil, List.set_cons_zero, List.set_cons_succ, List.length_cons, List.length_nil, List.length_map, List.replicate_succ, List.replicate_zero, List.cons_append, List.nil_append, List.map_cons, List.map_nil, Nat.reduceAdd, Nat.zero_add, ne_eq, not_true_eq_false, not_false_eq_true, decide_false, decide_true, Bool.or_self, Bool.or_false, Bool.false_or, Bool.and_self, Bool.false_eq_true, if_false, if_true, reduceIte, szOk_2, szOk_1, szOk_0, szOk_3, lk_left, lk_seed, lk_cells, lk_spot, pt_left, pt_spot, len_mL, mSet, true_and, and_true, List.getD_eq_getElem?_getD, Option.getD_some, seqOf_l, seqOf_t, ↓hIx_sq, ↓hLen_sq, seqOf_sq, ↓hTuple_sq, fz_fr2, gRep_ap, eq_self, gSorted_ap, gSortD_ap, gSortS_ap, ownSet_pl, eDict1_ap, eChain_ap, gInD_ap, gInS_ap, mPop_ap, mAdd_ap, eSet0_ap, sWhile_ap, itEnumX_ap, eM2_ap, eTR1_ap, eLR1_ap, hLtD, gDGetT_ap, ownDctT_pl, gInT_ap, keyT_t, keysOf_nil, keysOf_cons, eDctT0_ap, view_dT, eDict1T_ap, hIsB, hNotB, sPar3_ap]
theorem dues_2 (s0 s1 s3 s5 s6 s7 : Sl) : lcQ 2 4 tY (eVar 4) duesD [s0, s1, .un, s3, .un, s5, s6, s7] = some ([.int 1, .int 2, .int 10, .int 19998, .int 120, .int 24, .int 28], [s0, s1, .un, s3, .un, s5, s6, s7]) := by
  unfold duesD
  simp only [lcQ, sNop_ap, row?_ap, eRowM_ap, sRowSub_ap, eRowLen_ap, eRowNil_ap, isUn_un, ixN3_0, ixN3_1, ixN3_2, gRowsD_ap, rowsOf_nil, rowsOf_cons, eMeth_ap, isL_l, isS_s, mAppend_ap, mExtend_ap, ownL_fr, gIn_ap, ownDct_fr, gT_apL, hSorted, hTuple, hList, hRev, hRevX, hEqS, sSeq_ap, sBrk_ap, sCnt_ap, sRet_ap, sRetN_ap, sDrop_ap, sIf_ap, sSet_ap, isMu_ap, sAsg_ap, gN_ap, gT_ap, gTs, sPar_ap, sSub_ap, own?_ap, putO_t, putO_f, sAug_ap, sFor_ap, eC_ap, eVar_ap, ePl_ap, eMv_ap, opS_ap, sNil_ap, sCons_ap, gOp_ap, vws_nil, vws_cons, vw_im, vw_fr, vw_frd, vw_frs, vw_frr, vw_pl, view_l, view_d, view_s, view_r, rs_d, rs_l, sl_im, sl_fr, fz_im, fz_fr, fzs_nil, fzs_cons, toD_l, toD_r, gTupD_ap, gLstD_ap, gIx_ap, gDGet_ap, ownDct_pl, keyOf_i, keyOf_s, gMul_ap, tB_ap, tNot_ap, tAnd_ap, tOr_ap, eNot_ap, eAnd_ap, eOr_ap, eIf_ap, tY_ap, eSl_ap, oN_ap, oI_ap, itOf_ap, itR1_ap, itR2_ap, eLc_ap, isIm_ap, eCall_ap, eCallM_ap, fnOf_ap, isPl_im, isPl_fr, eDspl_ap, sArgs_nil, sArgs_cons, mkD_nil, mkD_cons, keepMu_mu, keepMu_im, projS_nil, projS_cons, hAdd, hSub, hMul, hDiv, hMod, hPow, hNeg, hCmp, hEq, hNe, hIsN, hNotN, hIx, hLen, hInt, hAbs, hGcd, hMin, hMax, hCut, isi_ii, isi_ib, isi_tt, isi_ll, isM_un, isM_im, isM_ow, isM_mu, List.getElem?_cons_zero, List.getElem?_cons_succ, List.getElem?_nil, List.set_cons_zero, List.set_cons_succ, List.length_cons, List.length_nil, List.length_map, List.replicate_succ, List.replicate_zero, List.cons_append, List.nil_append, List.map_cons, List.map_nil, Nat.reduceAdd, Nat.zero_add, ne_eq, not_true_eq_false, not_false_eq_true, decide_false, decide_true, Bool.or_self, Bool.or_false, Bool.false_or, Bool.and_self, Bool.false_eq_true, if_false, if_true, reduceIte, szOk_2, szOk_1, szOk_0, szOk_3, lk_left, lk_seed, lk_cells, lk_spot, pt_left, pt_spot, len_mL, mSet, true_and, and_true, List.getD_eq_getElem?_getD, Option.getD_some, seqOf_l, seqOf_t, ↓hIx_sq, ↓hLen_sq, seqOf_sq, ↓hTuple_sq, fz_fr2, gRep_ap, eq_self, gSorted_ap, gSortD_ap, gSortS_ap, ownSet_pl, eDict1_ap, eChain_ap, gInD_ap, gInS_ap, mPop_ap, mAdd_ap, eSet0_ap, sWhile_ap, itEnumX_ap, eM2_ap, eTR1_ap, eLR1_ap, hLtD, gDGetT_ap, ownDctT_pl, gInT_ap, keyT_t, keysOf_nil, keysOf_cons, eDctT0_ap, view_dT, eDict1T_ap, hIsB, hNotB, sPar3_ap]
theorem turn_ok (ns : List Int) (hn : ns.length ≤ 63) (k : Nat) (hk : k < 63) {s1 s2 s3 s4 s6 s7 : Sl} (h2 : isM s2 = false) (h6 : isM s6 = false) (h7 : isM s7 = false) : ∃ t2 t6 t7, isM t2 = false ∧ isM t6 = false ∧ isM t7 = false ∧
    lawBody1 [.im (.list (ns.map PyData.int)), s1, s2, s3, s4, .im (.int (k : Nat)), s6, s7] = some (.nx [.im (.list (ns.map PyData.int)), s1, t2, s3, s4, .im (.int (k : Nat)), t6, t7]) := by
  obtain ⟨m, em, g⟩ := begun_eq ns (k : Nat) (by omega)
  have r4 : rngD 0 (4 : Int).toNat = [.int 0, .int 1, .int 2, .int 3] := rfl
  have sm : small62 4 = true := by decide
  obtain ⟨t2, m', t7, i2, i7, e⟩ := steps_ok (.im (.list (ns.map PyData.int))) s1 s3 s4 (.im (.int (k : Nat))) [.int 0, .int 1, .int 2, .int 3] 0 m s2 s7 h2 h7 g (by decide)
  refine ⟨t2, .ow m', t7, i2, rfl, i7, ?_⟩
  simp only [↓em, ↓e, sNop_ap, row?_ap, eRowM_ap, sRowSub_ap, eRowLen_ap, eRowNil_ap, isUn_un, ixN3_0, ixN3_1, ixN3_2, gRowsD_ap, rowsOf_nil, rowsOf_cons, eMeth_ap, isL_l, isS_s, mAppend_ap, mExtend_ap, ownL_fr, gIn_ap, ownDct_fr, gT_apL, hSorted, hTuple, hList, hRev, hRevX, hEqS, sSeq_ap, sBrk_ap, sCnt_ap, sRet_ap, sRetN_ap, sDrop_ap, sIf_ap, sSet_ap, isMu_ap, sAsg_ap, gN_ap, gT_ap, gTs, sPar_ap, sSub_ap, own?_ap, putO_t, putO_f, sAug_ap, sFor_ap, eC_ap, eVar_ap, ePl_ap, eMv_ap, opS_ap, sNil_ap, sCons_ap, gOp_ap, vws_nil, vws_cons, vw_im, vw_fr, vw_frd, vw_frs, vw_frr, vw_pl, view_l, view_d, view_s, view_r, rs_d, rs_l, sl_im, sl_fr, fz_im, fz_fr, fzs_nil, fzs_cons, toD_l, toD_r, gTupD_ap, gLstD_ap, gIx_ap, gDGet_ap, ownDct_pl, keyOf_i, keyOf_s, gMul_ap, tB_ap, tNot_ap, tAnd_ap, tOr_ap, eNot_ap, eAnd_ap, eOr_ap, eIf_ap, tY_ap, eSl_ap, oN_ap, oI_ap, itOf_ap, itR1_ap, itR2_ap, eLc_ap, isIm_ap, eCall_ap, eCallM_ap, fnOf_ap, isPl_im, isPl_fr, eDspl_ap, sArgs_nil, sArgs_cons, mkD_nil, mkD_cons, keepMu_mu, keepMu_im, projS_nil, projS_cons, hAdd, hSub, hMul, hDiv, hMod, hPow, hNeg, hCmp, hEq, hNe, hIsN, hNotN, hIx, hLen, hInt, hAbs, hGcd, hMin, hMax, hCut, isi_ii, isi_ib, isi_tt, isi_ll, isM_un, isM_im, isM_ow, isM_mu, List.getElem?_cons_zero, List.getElem?_cons_succ, List.getElem?_nil, List.set_cons_zero, List.set_cons_succ, List.length_cons, List.length_nil, List.length_map, List.replicate_succ, List.replicate_zero, List.cons_append, List.nil_append, List.map_cons, List.map_nil, Nat.reduceAdd, Nat.zero_add, ne_eq, not_true_eq_false, not_false_eq_true, decide_false, decide_true, Bool.or_self, Bool.or_false, Bool.false_or, Bool.and_self, Bool.false_eq_true, if_false, if_true, reduceIte, szOk_2, szOk_1, szOk_0, szOk_3, lk_left, lk_seed, lk_cells, lk_spot, pt_left, pt_spot, len_mL, mSet, true_and, and_true, List.getD_eq_getElem?_getD, Option.getD_some, seqOf_l, seqOf_t, ↓hIx_sq, ↓hLen_sq, seqOf_sq, ↓hTuple_sq, fz_fr2, gRep_ap, eq_self, gSorted_ap, gSortD_ap, gSortS_ap, ownSet_pl, eDict1_ap, eChain_ap, gInD_ap, gInS_ap, mPop_ap, mAdd_ap, eSet0_ap, sWhile_ap, itEnumX_ap, eM2_ap, eTR1_ap, eLR1_ap, hLtD, gDGetT_ap, ownDctT_pl, gInT_ap, keyT_t, keysOf_nil, keysOf_cons, eDctT0_ap, view_dT, eDict1T_ap, hIsB, hNotB, sPar3_ap, h6, r4, sm]
theorem turns (ns : List Int) (hn : ns.length ≤ 63) (s1 s3 s4 : Sl) : ∀ (l : List Nat) (s2 s5 s6 s7 : Sl), (∀ k ∈ l, k < 63) → isM s2 = false → isM s5 = false → isM s6 = false → isM s7 = false → ∃ t2 t5 t6 t7, forL (gN 5) lawBody1 (nD l) [.im (.list (ns.map PyData.int)), s1, s2, s3, s4, s5, s6, s7] =
      some (.nx [.im (.list (ns.map PyData.int)), s1, t2, s3, s4, t5, t6, t7])
  | [], s2, s5, s6, s7, _, _, _, _, _ => ⟨s2, s5, s6, s7, rfl⟩
  | k :: l, s2, s5, s6, s7, hk, h2, h5, h6, h7 => by
    obtain ⟨t2, t6, t7, i2, i6, i7, e⟩ := turn_ok ns hn k (hk k List.mem_cons_self) (s1 := s1) (s3 := s3) (s4 := s4) h2 h6 h7
    obtain ⟨u2, u5, u6, u7, ih⟩ := turns ns hn s1 s3 s4 l t2 (.im (.int (k : Nat))) t6 t7 (fun j hj => hk j (List.mem_cons_of_mem _ hj)) i2 rfl i6 i7
    refine ⟨u2, u5, u6, u7, ?_⟩
    rw [nD_cons, ← ih]
    simp only [forL, ↓e, sNop_ap, row?_ap, eRowM_ap, sRowSub_ap, eRowLen_ap, eRowNil_ap, isUn_un, ixN3_0, ixN3_1, ixN3_2, gRowsD_ap, rowsOf_nil, rowsOf_cons, eMeth_ap, isL_l, isS_s, mAppend_ap, mExtend_ap, ownL_fr, gIn_ap, ownDct_fr, gT_apL, hSorted, hTuple, hList, hRev, hRevX, hEqS, sSeq_ap, sBrk_ap, sCnt_ap, sRet_ap, sRetN_ap, sDrop_ap, sIf_ap, sSet_ap, isMu_ap, sAsg_ap, gN_ap, gT_ap, gTs, sPar_ap, sSub_ap, own?_ap, putO_t, putO_f, sAug_ap, sFor_ap, eC_ap, eVar_ap, ePl_ap, eMv_ap, opS_ap, sNil_ap, sCons_ap, gOp_ap, vws_nil, vws_cons, vw_im, vw_fr, vw_frd, vw_frs, vw_frr, vw_pl, view_l, view_d, view_s, view_r, rs_d, rs_l, sl_im, sl_fr, fz_im, fz_fr, fzs_nil, fzs_cons, toD_l, toD_r, gTupD_ap, gLstD_ap, gIx_ap, gDGet_ap, ownDct_pl, keyOf_i, keyOf_s, gMul_ap, tB_ap, tNot_ap, tAnd_ap, tOr_ap, eNot_ap, eAnd_ap, eOr_ap, eIf_ap, tY_ap, eSl_ap, oN_ap, oI_ap, itOf_ap, itR1_ap, itR2_ap, eLc_ap, isIm_ap, eCall_ap, eCallM_ap, fnOf_ap, isPl_im, isPl_fr, eDspl_ap, sArgs_nil, sArgs_cons, mkD_nil, mkD_cons, keepMu_mu, keepMu_im, projS_nil, projS_cons, hAdd, hSub, hMul, hDiv, hMod, hPow, hNeg, hCmp, hEq, hNe, hIsN, hNotN, hIx, hLen, hInt, hAbs, hGcd, hMin, hMax, hCut, isi_ii, isi_ib, isi_tt, isi_ll, isM_un, isM_im, isM_ow, isM_mu, List.getElem?_cons_zero, List.getElem?_cons_succ, List.getElem?_nil, List.set_cons_zero, List.set_cons_succ, List.length_cons, List.length_nil, List.length_map, List.replicate_succ, List.replicate_zero, List.cons_append, List.nil_append, List.map_cons, List.map_nil, Nat.reduceAdd, Nat.zero_add, ne_eq, not_true_eq_false, not_false_eq_true, decide_false, decide_true, Bool.or_self, Bool.or_false, Bool.false_or, Bool.and_self, Bool.false_eq_true, if_false, if_true, reduceIte, szOk_2, szOk_1, szOk_0, szOk_3, lk_left, lk_seed, lk_cells, lk_spot, pt_left, pt_spot, len_mL, mSet, true_and, and_true, List.getD_eq_getElem?_getD, Option.getD_some, seqOf_l, seqOf_t, ↓hIx_sq, ↓hLen_sq, seqOf_sq, ↓hTuple_sq, fz_fr2, gRep_ap, eq_self, gSorted_ap, gSortD_ap, gSortS_ap, ownSet_pl, eDict1_ap, eChain_ap, gInD_ap, gInS_ap, mPop_ap, mAdd_ap, eSet0_ap, sWhile_ap, itEnumX_ap, eM2_ap, eTR1_ap, eLR1_ap, hLtD, gDGetT_ap, ownDctT_pl, gInT_ap, keyT_t, keysOf_nil, keysOf_cons, eDctT0_ap, view_dT, eDict1T_ap, hIsB, hNotB, sPar3_ap, h5]
theorem rngD_nD38 (n : Nat) : rngD 0 n = nD (List.range n) := by unfold rngD nD; simp only [Int.zero_add]
theorem law_true : ∀ ns : List Int, ns.length ≤ 63 → ∃ S', f_law [.im (.list (ns.map PyData.int))] = some (.im (.bool true), S') := by
  intro ns hn
  obtain ⟨N, hN, e8⟩ : ∃ n : Nat, n ≤ 3 ∧ (if 3 < (ns.length : Int) then (3 : Int) else (ns.length : Int)) = (n : Int) := by
    by_cases h1 : 3 < ns.length
    · exact ⟨3, by decide, by rw [if_pos (by omega)]; rfl⟩
    · exact ⟨ns.length, by omega, by rw [if_neg (by omega)]⟩
  have sm : small62 (N : Int) = true := small62_b (by omega) (by omega)
  have tn : ((N : Nat) : Int).toNat = N := Int.toNat_natCast N
  obtain ⟨t2, i2, j2, e1⟩ := rights (.im (.list (ns.map PyData.int))) (.im (.list someD)) .un .un .un .un .un someD .un rfl some_ok
  obtain ⟨dd, rfl⟩ : ∃ d, t2 = .im d := j2.resolve_right (by simp [someD])
  have d1 := dues_1 (.im (.list (ns.map PyData.int))) (.im (.list someD)) (.im (.list duesD)) .un .un .un
  have d2 := dues_2 (.im (.list (ns.map PyData.int))) (.im (.list someD)) (.im (.list duesD)) .un .un .un
  have lk : f_law_like [.im (.list [.int 1, .int 2, .int 10, .int 19998, .int 120, .int 24, .int 28]), .im (.list [.int 1, .int 2, .int 10, .int 19998, .int 120, .int 24, .int 28])] = some (.im (.bool true), [.un, .un]) := like_l (by decide +kernel) (by decide +kernel) (by decide +kernel)
  obtain ⟨u2, u5, u6, u7, e5⟩ := turns ns hn (.im (.list someD)) (.im (.list duesD)) .un (List.range N) (.im dd) .un .un .un (fun k hk => by have := List.mem_range.mp hk; omega) rfl rfl rfl rfl
  rw [← rngD_nD38] at e5
  have z1 : szOk (6 + 5) = true := by decide
  have z7 : szOk 7 = true := by decide
  have n24 : (decide ¬ (2 : Nat) = 4) = true := by decide
  have z6 : szOk 6 = true := by decide
  have z11 : szOk 11 = true := by decide
  unfold someD at e1 e5 d1 d2
  unfold duesD at e5 d1 d2
  have x0 : ∀ (a0 a1 a2 a3 a4 a5 a6 a7 a8 a9 a10 : D), atI [a0, a1, a2, a3, a4, a5, a6, a7, a8, a9, a10] 0 = some a0 := fun _ _ _ _ _ _ _ _ _ _ _ => rfl
  have x1 : ∀ (a0 a1 a2 a3 a4 a5 a6 a7 a8 a9 a10 : D), atI [a0, a1, a2, a3, a4, a5, a6, a7, a8, a9, a10] 1 = some a1 := fun _ _ _ _ _ _ _ _ _ _ _ => rfl
  have x3 : ∀ (a0 a1 a2 a3 a4 a5 a6 a7 a8 a9 a10 : D), atI [a0, a1, a2, a3, a4, a5, a6, a7, a8, a9, a10] 3 = some a3 := fun _ _ _ _ _ _ _ _ _ _ _ => rfl
  have x4 : ∀ (a0 a1 a2 a3 a4 a5 a6 a7 a8 a9 a10 : D), atI [a0, a1, a2, a3, a4, a5, a6, a7, a8, a9, a10] 4 = some a4 := fun _ _ _ _ _ _ _ _ _ _ _ => rfl
  have x5 : ∀ (a0 a1 a2 a3 a4 a5 a6 a7 a8 a9 a10 : D), atI [a0, a1, a2, a3, a4, a5, a6, a7, a8, a9, a10] 5 = some a5 := fun _ _ _ _ _ _ _ _ _ _ _ => rfl
  have x6 : ∀ (a0 a1 a2 a3 a4 a5 a6 a7 a8 a9 a10 : D), atI [a0, a1, a2, a3, a4, a5, a6, a7, a8, a9, a10] 6 = some a6 := fun _ _ _ _ _ _ _ _ _ _ _ => rfl
  have x9 : ∀ (a0 a1 a2 a3 a4 a5 a6 a7 a8 a9 a10 : D), atI [a0, a1, a2, a3, a4, a5, a6, a7, a8, a9, a10] 9 = some a9 := fun _ _ _ _ _ _ _ _ _ _ _ => rfl
  have lcq : ∀ (it : SI) (i j : Nat) (t : ST) (f : SE) (S : List Sl), eLcQ it i j t f S = match it S with
    | some (ds, S1) => if decide (i ≠ j) && (isIm S1 i && isIm S1 j) then match lcQ i j t f ds ((S1.set j .un).set i .un) with
      | some (es, S2) => if szOk ds.length then some (.fr (.lst es), (S2.set i (S1.getD i .un)).set j (S1.getD j .un)) else none
      | none => none else none
    | none => none := fun _ _ _ _ _ _ => rfl
  refine ⟨[.un], ?_⟩
  unfold f_law b_law
  simp only [↓e1, ↓d1, ↓d2, ↓lk, ↓e5, ↓x0, ↓x1, ↓x3, ↓x4, ↓x5, ↓x6, ↓x9, lcq, sNop_ap, row?_ap, eRowM_ap, sRowSub_ap, eRowLen_ap, eRowNil_ap, isUn_un, ixN3_0, ixN3_1, ixN3_2, gRowsD_ap, rowsOf_nil, rowsOf_cons, eMeth_ap, isL_l, isS_s, mAppend_ap, mExtend_ap, ownL_fr, gIn_ap, ownDct_fr, gT_apL, hSorted, hTuple, hList, hRev, hRevX, hEqS, sSeq_ap, sBrk_ap, sCnt_ap, sRet_ap, sRetN_ap, sDrop_ap, sIf_ap, sSet_ap, isMu_ap, sAsg_ap, gN_ap, gT_ap, gTs, sPar_ap, sSub_ap, own?_ap, putO_t, putO_f, sAug_ap, sFor_ap, eC_ap, eVar_ap, ePl_ap, eMv_ap, opS_ap, sNil_ap, sCons_ap, gOp_ap, vws_nil, vws_cons, vw_im, vw_fr, vw_frd, vw_frs, vw_frr, vw_pl, view_l, view_d, view_s, view_r, rs_d, rs_l, sl_im, sl_fr, fz_im, fz_fr, fzs_nil, fzs_cons, toD_l, toD_r, gTupD_ap, gLstD_ap, gIx_ap, gDGet_ap, ownDct_pl, keyOf_i, keyOf_s, gMul_ap, tB_ap, tNot_ap, tAnd_ap, tOr_ap, eNot_ap, eAnd_ap, eOr_ap, eIf_ap, tY_ap, eSl_ap, oN_ap, oI_ap, itOf_ap, itR1_ap, itR2_ap, eLc_ap, isIm_ap, eCall_ap, eCallM_ap, fnOf_ap, isPl_im, isPl_fr, eDspl_ap, sArgs_nil, sArgs_cons, mkD_nil, mkD_cons, keepMu_mu, keepMu_im, projS_nil, projS_cons, hAdd, hSub, hMul, hDiv, hMod, hPow, hNeg, hCmp, hEq, hNe, hIsN, hNotN, hIx, hLen, hInt, hAbs, hGcd, hMin, hMax, hCut, isi_ii, isi_ib, isi_tt, isi_ll, isM_un, isM_im, isM_ow, isM_mu, List.getElem?_cons_zero, List.getElem?_cons_succ, List.getElem?_nil, List.set_cons_zero, List.set_cons_succ, List.length_cons, List.length_nil, List.length_map, List.replicate_succ, List.replicate_zero, List.cons_append, List.nil_append, List.map_cons, List.map_nil, Nat.reduceAdd, Nat.zero_add, ne_eq, not_true_eq_false, not_false_eq_true, decide_false, decide_true, Bool.or_self, Bool.or_false, Bool.false_or, Bool.and_self, Bool.false_eq_true, if_false, if_true, reduceIte, szOk_2, szOk_1, szOk_0, szOk_3, lk_left, lk_seed, lk_cells, lk_spot, pt_left, pt_spot, len_mL, mSet, true_and, and_true, List.getD_eq_getElem?_getD, Option.getD_some, seqOf_l, seqOf_t, ↓hIx_sq, ↓hLen_sq, seqOf_sq, ↓hTuple_sq, fz_fr2, gRep_ap, eq_self, gSorted_ap, gSortD_ap, gSortS_ap, ownSet_pl, eDict1_ap, eChain_ap, gInD_ap, gInS_ap, mPop_ap, mAdd_ap, eSet0_ap, sWhile_ap, itEnumX_ap, eM2_ap, eTR1_ap, eLR1_ap, hLtD, gDGetT_ap, ownDctT_pl, gInT_ap, keyT_t, keysOf_nil, keysOf_cons, eDctT0_ap, view_dT, eDict1T_ap, hIsB, hNotB, sPar3_ap, hCmp_ii, e8, sm, tn, z1, z6, z7, z11, n24, Bool.not_true, szOk_4, szOk_5, List.getD, Option.getD]

def top (i : Nat) : Stmt := PySem.Challenge.pw_flagfloors_k38_whole_names_of_the_ball.main.body.getD i (.Pass ⟨0, 0, 0, 0⟩)
structure Tx (K : PySem.W.Frag) (mg : Str → Option Value) : Prop where
  g_gcd : mg "gcd" = some (.builtin "math.gcd")
  b_int : mg "int" = none
  b_len : mg "len" = none
  b_min : mg "min" = none
  b_range : mg "range" = none
  b_repr : mg "repr" = none
  b_sorted : mg "sorted" = none
  b_tuple : mg "tuple" = none
section
variable {P : Program} {w : World} {K : PySem.W.Frag} {mg : Str → Option Value} {base : Heap}
abbrev s_ratio : Stmt := top 2
abbrev N_ratio : List Str := ["top", "bottom", "shared"]
theorem sc_ratio : FnScope N_ratio ["top", "bottom"] (defScope s_ratio) := ⟨rfl, rfl, rfl, by decide +kernel, rfl, by decide +kernel, by decide +kernel⟩
theorem ok_ratio {f : Addr} {fd : FuncData} (T : Tx K mg) (FF : L2.Fun K "ratio" "ratio" s_ratio f fd) (hm : mg "ratio" = some (.ref f)) : Callee P w K mg base 1 "ratio" 2 f_ratio := by
  refine ⟨f, fd, ["top", "bottom"], fn_ok FF sc_ratio rfl rfl (fun cdv A outer s H hr => ?_), hm, FF.kp, FF.binds fun _ _ _ _ _ _ us hl => match us, hl with | [_, _], _ => rfl⟩
  have hu1 := hu_of hr
  have hu64 := hr.units
  have hu65 := hu65_of hr
  exact (s_cons (s_set 2 sc_ratio.nd (e_gcd rfl T.g_gcd (es_cons (e_pl 0) (es_cons (e_pl 1) es_nil))))
  (s_cons (s_if (c_cmp op_lt ok_cmp (nomark _) (e_pl 1) e_int) (s_one (s_set 2 sc_ratio.nd (e_un un_neg ok_neg (e_pl 2)))) s_nil)
  (s_one (s_ret (e_tupA (es_cons (e_bin op_fdivX ok_div (e_pl 0) (e_pl 2)) (es_cons (e_bin op_fdivX ok_div (e_pl 1) (e_pl 2)) es_nil)))))))
abbrev s_over : Stmt := top 5
abbrev N_over : List Str := ["a", "b"]
theorem sc_over : FnScope N_over ["a", "b"] (defScope s_over) := ⟨rfl, rfl, rfl, by decide +kernel, rfl, by decide +kernel, by decide +kernel⟩
theorem ok_over {f : Addr} {fd : FuncData} (T : Tx K mg) (h_ratio : Callee P w K mg base 1 "ratio" 2 f_ratio) (FF : L2.Fun K "over" "over" s_over f fd) (hm : mg "over" = some (.ref f)) : Callee P w K mg base 2 "over" 2 f_over := by
  refine ⟨f, fd, ["a", "b"], fn_ok FF sc_over rfl rfl (fun cdv A outer s H hr => ?_), hm, FF.kp, FF.binds fun _ _ _ _ _ _ us hl => match us, hl with | [_, _], _ => rfl⟩
  have hu1 := hu_of hr
  have hu64 := hr.units
  have hu65 := hu65_of hr
  exact (s_one (s_ret (e_call h_ratio hr (by decide) rfl (es_cons (e_bin op_mulY ok_mulY (e_ix (ix_X hu1) ok_ixX (fun _ _ => rfl) (e_pl 0) e_int) (e_ix (ix_X hu1) ok_ixX (fun _ _ => rfl) (e_pl 1) e_int)) (es_cons (e_bin op_mulY ok_mulY (e_ix (ix_X hu1) ok_ixX (fun _ _ => rfl) (e_pl 0) e_int) (e_ix (ix_X hu1) ok_ixX (fun _ _ => rfl) (e_pl 1) e_int)) es_nil)))))
abbrev s_minus : Stmt := top 3
abbrev N_minus : List Str := ["a", "b"]
theorem sc_minus : FnScope N_minus ["a", "b"] (defScope s_minus) := ⟨rfl, rfl, rfl, by decide +kernel, rfl, by decide +kernel, by decide +kernel⟩
theorem ok_minus {f : Addr} {fd : FuncData} (T : Tx K mg) (h_ratio : Callee P w K mg base 1 "ratio" 2 f_ratio) (FF : L2.Fun K "minus" "minus" s_minus f fd) (hm : mg "minus" = some (.ref f)) : Callee P w K mg base 2 "minus" 2 f_minus := by
  refine ⟨f, fd, ["a", "b"], fn_ok FF sc_minus rfl rfl (fun cdv A outer s H hr => ?_), hm, FF.kp, FF.binds fun _ _ _ _ _ _ us hl => match us, hl with | [_, _], _ => rfl⟩
  have hu1 := hu_of hr
  have hu64 := hr.units
  have hu65 := hu65_of hr
  exact (s_one (s_ret (e_call h_ratio hr (by decide) rfl (es_cons (e_bin op_sub ok_sub (e_bin op_mulY ok_mulY (e_ix (ix_X hu1) ok_ixX (fun _ _ => rfl) (e_pl 0) e_int) (e_ix (ix_X hu1) ok_ixX (fun _ _ => rfl) (e_pl 1) e_int)) (e_bin op_mulY ok_mulY (e_ix (ix_X hu1) ok_ixX (fun _ _ => rfl) (e_pl 1) e_int) (e_ix (ix_X hu1) ok_ixX (fun _ _ => rfl) (e_pl 0) e_int))) (es_cons (e_bin op_mulY ok_mulY (e_ix (ix_X hu1) ok_ixX (fun _ _ => rfl) (e_pl 0) e_int) (e_ix (ix_X hu1) ok_ixX (fun _ _ => rfl) (e_pl 1) e_int)) es_nil)))))
abbrev s_name_sum : Stmt := top 8
abbrev N_name_sum : List Str := ["name", "handles", "turns", "borders", "crosscaps", "total", "turn", "one"]
theorem sc_name_sum : FnScope N_name_sum ["name"] (defScope s_name_sum) := ⟨rfl, rfl, rfl, by decide +kernel, rfl, by decide +kernel, by decide +kernel⟩
theorem ok_name_sum {f : Addr} {fd : FuncData} (T : Tx K mg) (h_ratio : Callee P w K mg base 1 "ratio" 2 f_ratio) (h_minus : Callee P w K mg base 2 "minus" 2 f_minus) (FF : L2.Fun K "name_sum" "name_sum" s_name_sum f fd) (hm : mg "name_sum" = some (.ref f)) : Callee P w K mg base 3 "name_sum" 1 f_name_sum := by
  refine ⟨f, fd, ["name"], fn_ok FF sc_name_sum rfl rfl (fun cdv A outer s H hr => ?_), hm, FF.kp, FF.binds fun _ _ _ _ _ _ us hl => match us, hl with | [_], _ => rfl⟩
  have hu1 := hu_of hr
  have hu64 := hr.units
  have hu65 := hu65_of hr
  exact (s_cons (s_asg (e_var 0) (g_tupA rfl rfl (gs_cons 1 (gs_cons 2 (gs_cons 3 (gs_cons 4 gs_nil sc_name_sum.nd) sc_name_sum.nd) sc_name_sum.nd) sc_name_sum.nd)))
  (s_cons (s_set 5 sc_name_sum.nd (e_call h_ratio hr (by decide) rfl (es_cons (e_bin op_sub ok_sub (e_bin op_sub ok_sub (e_bin op_sub ok_sub e_int (e_bin op_mulY ok_mulY e_int (e_pl 1))) (e_bin op_mulY ok_mulY e_int (e_pl 4))) (e_bin op_mulY ok_mulY e_int (e_callB call_len rfl T.b_len (by decide +kernel) ok_len (es_cons (e_pl 3) es_nil)))) (es_cons e_int es_nil))))
  (s_cons (s_for PassesOwn.never rfl (i_of (e_var 2)) (g_name 6 sc_name_sum.nd) (s_one (s_set 5 sc_name_sum.nd (e_call h_minus hr (by decide) rfl (es_cons (e_var 5) (es_cons (e_call h_ratio hr (by decide) rfl (es_cons (e_bin op_sub ok_sub (e_bin op_mulY ok_mulY e_int (e_pl 6)) e_int) (es_cons (e_var 6) es_nil))) es_nil))))))
  (s_cons (s_for PassesOwn.never rfl (i_of (e_var 3)) (g_name 7 sc_name_sum.nd) (s_one (s_for PassesOwn.never rfl (i_of (e_var 7)) (g_name 6 sc_name_sum.nd) (s_one (s_set 5 sc_name_sum.nd (e_call h_minus hr (by decide) rfl (es_cons (e_var 5) (es_cons (e_call h_ratio hr (by decide) rfl (es_cons (e_bin op_sub ok_sub (e_pl 6) e_int) (es_cons (e_var 6) es_nil))) es_nil))))))))
  (s_one (s_ret (e_mv 5)))))))
abbrev s_ball_count : Stmt := top 12
abbrev N_ball_count : List Str := ["name"]
theorem sc_ball_count : FnScope N_ball_count ["name"] (defScope s_ball_count) := ⟨rfl, rfl, rfl, by decide +kernel, rfl, by decide +kernel, by decide +kernel⟩
theorem ok_ball_count {f : Addr} {fd : FuncData} (T : Tx K mg) (h_ratio : Callee P w K mg base 1 "ratio" 2 f_ratio) (h_over : Callee P w K mg base 2 "over" 2 f_over) (h_name_sum : Callee P w K mg base 3 "name_sum" 1 f_name_sum) (FF : L2.Fun K "ball_count" "ball_count" s_ball_count f fd) (hm : mg "ball_count" = some (.ref f)) : Callee P w K mg base 4 "ball_count" 1 f_ball_count := by
  refine ⟨f, fd, ["name"], fn_ok FF sc_ball_count rfl rfl (fun cdv A outer s H hr => ?_), hm, FF.kp, FF.binds fun _ _ _ _ _ _ us hl => match us, hl with | [_], _ => rfl⟩
  have hu1 := hu_of hr
  have hu64 := hr.units
  have hu65 := hu65_of hr
  exact (s_one (s_ret (e_ix (ix_X hu1) ok_ixX (fun _ _ => rfl) (e_call h_over hr (by decide) rfl (es_cons (e_call h_ratio hr (by decide) rfl (es_cons e_int (es_cons e_int es_nil))) (es_cons (e_call h_name_sum hr (by decide) rfl (es_cons (e_var 0) es_nil)) es_nil))) e_int)))
abbrev s_law_begun : Stmt := top 14
abbrev N_law_begun : List Str := ["script", "k", "cells", "great", "cell", "seed"]
theorem sc_law_begun : FnScope N_law_begun ["script", "k"] (defScope s_law_begun) := ⟨rfl, rfl, rfl, by decide +kernel, rfl, by decide +kernel, by decide +kernel⟩
theorem ok_law_begun {f : Addr} {fd : FuncData} (T : Tx K mg) (FF : L2.Fun K "_law_begun" "_law_begun" s_law_begun f fd) (hm : mg "_law_begun" = some (.ref f)) : Callee P w K mg base 1 "_law_begun" 2 f_law_begun := by
  refine ⟨f, fd, ["script", "k"], fn_ok FF sc_law_begun rfl rfl (fun cdv A outer s H hr => ?_), hm, FF.kp, FF.binds fun _ _ _ _ _ _ us hl => match us, hl with | [_, _], _ => rfl⟩
  have hu1 := hu_of hr
  have hu64 := hr.units
  have hu65 := hu65_of hr
  exact (s_cons (s_set 2 sc_law_begun.nd (e_bin op_addX ok_add (e_sl (e_pl 0) (o_some (e_pl 1)) o_none) (e_sl (e_pl 0) o_none (o_some (e_pl 1)))))
  (s_cons (s_setLc (ps_setLc (i := 3) (own := [("cell", 4)]) (g := gName 4) rfl sc_law_begun.nd rfl rfl (sw_true rfl rfl rfl (by decide +kernel)) (i_of (e_var 2)) (blkOk_by (own := [("cell", 4)]) (N := N_law_begun) (sc := defScope s_law_begun) (by decide +kernel)) (fun _ _ _ _ _ => pg_name (i := 4) sc_law_begun.nd rfl (by first | exact Or.inl rfl | exact Or.inr rfl)) (fun _ _ _ _ _ => (ets_one (c_cmp op_ge ok_cmp (nomark _) (e_pl 4) (e_bin op_pow ok_pow e_int e_int)))) (fun _ _ _ _ _ => (e_var 4))))
  (s_cons (s_set 5 sc_law_begun.nd (e_bin op_addX ok_add e_int (e_pl 1)))
  (s_cons (s_for PassesOwn.never rfl (i_of (e_var 2)) (g_name 4 sc_law_begun.nd) (s_one (s_set 5 sc_law_begun.nd (e_bin op_modN ok_mod (e_callTy call_int1 rfl T.b_int (by decide +kernel) ok_int (es_cons (e_bin op_addX ok_add (e_bin op_mulY ok_mulY (e_pl 5) e_int) (e_pl 4)) es_nil)) e_int))))
  (s_one (s_ret (e_disp (pps_cons pe_str (e_if (c_cmp (op_neD hu64) ok_ne (nomark _) (e_pl 3) (e_lstA es_nil)) (e_ix (ix_X hu1) ok_ixX (fun _ _ => rfl) (e_pl 3) e_int) e_int) (pps_cons pe_str (e_var 5) (pps_cons pe_str (e_bin op_addX ok_add (e_pl 2) (e_lstA (es_cons (e_bin op_addX ok_add (e_bin op_mulY ok_mulY e_int (e_pl 1)) e_int) es_nil))) (pps_cons pe_str e_int pps_nil)))) (by rfl) (by rfl) (fun z => by cases z) (by decide) rfl (by decide))))))))
abbrev s_law_like : Stmt := top 17
abbrev N_law_like : List Str := ["got", "due"]
theorem sc_law_like : FnScope N_law_like ["got", "due"] (defScope s_law_like) := ⟨rfl, rfl, rfl, by decide +kernel, rfl, by decide +kernel, by decide +kernel⟩
theorem ok_law_like {f : Addr} {fd : FuncData} (T : Tx K mg) (FF : L2.Fun K "_law_like" "_law_like" s_law_like f fd) (hm : mg "_law_like" = some (.ref f)) : CalleeG P w K mg base 1 "_law_like" 2 f_law_like := by
  refine ⟨f, fd, ["got", "due"], fn_okG FF sc_law_like rfl rfl (fun cdv A outer s H hr => ?_), hm, FF.kp, FF.binds fun _ _ _ _ _ _ us hl => match us, hl with | [_, _], _ => rfl⟩
  have hu1 := hu_of hr.r
  have hu64 := hr.r.units
  have hu65 := hu65_of hr.r
  exact (s_one (s_ret (e_cmp L2.op_eq ok_eqS (nomark _) (e_callB (cr_repr hr) rfl T.b_repr (by decide +kernel) ok_repr (es_cons (e_pl 0) es_nil)) (e_callB (cr_repr hr) rfl T.b_repr (by decide +kernel) ok_repr (es_cons (e_pl 1) es_nil)))))
abbrev s_law_draw : Stmt := top 15
abbrev N_law_draw : List Str := ["m", "below", "found", "spot", "cells", "extra", "cell", "blend"]
theorem sc_law_draw : FnScope N_law_draw ["m", "below"] (defScope s_law_draw) := ⟨rfl, rfl, rfl, by decide +kernel, rfl, by decide +kernel, by decide +kernel⟩
theorem ok_law_draw {f : Addr} {fd : FuncData} (T : Tx K mg) (FF : L2.Fun K "_law_draw" "_law_draw" s_law_draw f fd) (hm : mg "_law_draw" = some (.ref f)) : Callee P w K mg base 1 "_law_draw" 2 f_law_draw := by
  refine ⟨f, fd, ["m", "below"], fn_ok FF sc_law_draw rfl rfl (fun cdv A outer s H hr => ?_), hm, FF.kp, FF.binds fun _ _ _ _ _ _ us hl => match us, hl with | [_, _], _ => rfl⟩
  have hu1 := hu_of hr
  have hu64 := hr.units
  have hu65 := hu65_of hr
  exact (s_cons (s_if (c_cmp op_gt ok_cmp (nomark _) (e_ix (ix_X hu1) ok_ixX (fun _ _ => rfl) (e_pl 0) e_str) e_int) (s_cons (s_set 2 sc_law_draw.nd (e_bin op_modN ok_mod (e_callTy call_int1 rfl T.b_int (by decide +kernel) ok_int (es_cons (e_ix (ix_X hu1) ok_ixX (fun _ _ => rfl) (e_pl 0) e_str) es_nil)) (e_pl 1)))
  (s_cons (s_subA 0 (pv 0) (e_bin op_fdivX ok_div (e_ix (ix_X hu1) ok_ixX (fun _ _ => rfl) (e_pl 0) e_str) (e_pl 1)) e_str hu1)
  (s_one (s_ret (e_mv 2))))) s_nil)
  (s_cons (s_set 3 sc_law_draw.nd (e_ix (ix_X hu1) ok_ixX (fun _ _ => rfl) (e_pl 0) e_str))
  (s_cons (s_subA 0 (pv 0) (e_bin op_addX ok_add (e_pl 3) e_int) e_str hu1)
  (s_cons (s_parA 4 5 sc_law_draw.nd (es_cons (e_ix (ix_X hu1) ok_ixX (fun _ _ => rfl) (e_pl 0) e_str) (es_cons (e_bin op_addX ok_add (e_ix (ix_X hu1) ok_ixX (fun _ _ => rfl) (e_pl 0) e_str) (e_bin op_mulY ok_mulY (e_bin op_mulY ok_mulY e_int (e_pl 3)) (e_pl 3))) es_nil)))
  (s_cons (s_set 6 sc_law_draw.nd (e_ix (ix_X hu1) ok_ixX (fun _ _ => rfl) (e_pl 4) (e_bin op_modN ok_mod (e_callTy call_int1 rfl T.b_int (by decide +kernel) ok_int (es_cons (e_pl 3) es_nil)) (e_callB call_len rfl T.b_len (by decide +kernel) ok_len (es_cons (e_pl 4) es_nil)))))
  (s_cons (s_set 7 sc_law_draw.nd (e_bin op_modN ok_mod (e_callTy call_int1 rfl T.b_int (by decide +kernel) ok_int (es_cons (e_bin op_addX ok_add (e_bin op_mulY ok_mulY (e_pl 6) (e_bin op_addX ok_add (e_bin op_mulY ok_mulY e_int (e_pl 3)) e_int)) (e_pl 5)) es_nil)) e_int))
  (s_cons (s_set 7 sc_law_draw.nd (e_bin op_modN ok_mod (e_callTy call_int1 rfl T.b_int (by decide +kernel) ok_int (es_cons (e_bin op_addX ok_add (e_bin op_addX ok_add (e_bin op_mulY ok_mulY (e_pl 7) (e_pl 7)) (e_bin op_mulY ok_mulY e_int (e_pl 3))) (e_ix (ix_X hu1) ok_ixX (fun _ _ => rfl) (e_pl 0) e_str)) es_nil)) e_int))
  (s_one (s_ret (e_bin op_modN ok_mod (e_bin op_fdivX ok_div (e_bin op_modN ok_mod (e_callTy call_int1 rfl T.b_int (by decide +kernel) ok_int (es_cons (e_bin op_addX ok_add (e_bin op_mulY ok_mulY (e_pl 7) e_int) (e_pl 3)) es_nil)) e_int) e_int) (e_pl 1)))))))))))
abbrev s_law_of : Stmt := top 16
abbrev N_law_of : List Str := ["m", "some"]
theorem sc_law_of : FnScope N_law_of ["m", "some"] (defScope s_law_of) := ⟨rfl, rfl, rfl, by decide +kernel, rfl, by decide +kernel, by decide +kernel⟩
theorem ok_law_of {f : Addr} {fd : FuncData} (T : Tx K mg) (h_law_draw : Callee P w K mg base 1 "_law_draw" 2 f_law_draw) (FF : L2.Fun K "_law_of" "_law_of" s_law_of f fd) (hm : mg "_law_of" = some (.ref f)) : Callee P w K mg base 2 "_law_of" 2 f_law_of := by
  refine ⟨f, fd, ["m", "some"], fn_ok FF sc_law_of rfl rfl (fun cdv A outer s H hr => ?_), hm, FF.kp, FF.binds fun _ _ _ _ _ _ us hl => match us, hl with | [_, _], _ => rfl⟩
  have hu1 := hu_of hr
  have hu64 := hr.units
  have hu65 := hu65_of hr
  exact (s_one (s_ret (e_ix (ix_X hu1) ok_ixX (fun _ _ => rfl) (e_pl 1) (e_callM 0 h_law_draw hr (by decide) rfl (pv 0) (es_cons (e_callB call_len rfl T.b_len (by decide +kernel) ok_len (es_cons (e_pl 1) es_nil)) es_nil)))))
abbrev s_law_family : Stmt := top 24
abbrev N_law_family : List Str := ["m", "n", "last", "some"]
theorem sc_law_family : FnScope N_law_family ["m"] (defScope s_law_family) := ⟨rfl, rfl, rfl, by decide +kernel, rfl, by decide +kernel, by decide +kernel⟩
theorem ok_law_family {f : Addr} {fd : FuncData} (T : Tx K mg) (h_law_draw : Callee P w K mg base 1 "_law_draw" 2 f_law_draw) (h_law_of : Callee P w K mg base 2 "_law_of" 2 f_law_of) (FF : L2.Fun K "_law_family" "_law_family" s_law_family f fd) (hm : mg "_law_family" = some (.ref f)) : Callee P w K mg base 3 "_law_family" 1 f_law_family := by
  refine ⟨f, fd, ["m"], fn_ok FF sc_law_family rfl rfl (fun cdv A outer s H hr => ?_), hm, FF.kp, FF.binds fun _ _ _ _ _ _ us hl => match us, hl with | [_], _ => rfl⟩
  have hu1 := hu_of hr
  have hu64 := hr.units
  have hu65 := hu65_of hr
  exact (s_cons (s_set 1 sc_law_family.nd (e_callM 0 h_law_of hr (by decide) rfl (pv 0) (es_cons (e_lstA (es_cons e_int (es_cons e_int (es_cons e_int (es_cons e_int (es_cons e_int (es_cons (e_bin op_addX ok_add e_int (e_callM 0 h_law_draw hr (by decide) rfl (pv 0) (es_cons e_int es_nil))) es_nil))))))) es_nil)))
  (s_cons (s_set 2 sc_law_family.nd (e_bin op_addX ok_add e_int (e_callM 0 h_law_draw hr (by decide) rfl (pv 0) (es_cons e_int es_nil))))
  (s_cons (s_set 3 sc_law_family.nd (e_lstA (es_cons (e_tupA (es_cons e_int (es_cons (e_tupA (es_cons (e_var 1) (es_cons (e_var 1) es_nil))) (es_cons (e_tupA es_nil) (es_cons e_int es_nil))))) (es_cons (e_tupA (es_cons e_int (es_cons (e_tupA es_nil) (es_cons (e_tupA (es_cons (e_tupA (es_cons (e_var 1) (es_cons (e_var 1) es_nil))) es_nil)) (es_cons e_int es_nil))))) (es_cons (e_tupA (es_cons e_int (es_cons (e_tupA (es_cons (e_var 1) es_nil)) (es_cons (e_tupA (es_cons (e_tupA es_nil) es_nil)) (es_cons e_int es_nil))))) (es_cons (e_tupA (es_cons e_int (es_cons (e_tupA (es_cons (e_var 1) es_nil)) (es_cons (e_tupA es_nil) (es_cons e_int es_nil))))) (es_cons (e_tupA (es_cons e_int (es_cons (e_tupA (es_cons e_int (es_cons e_int (es_cons (e_var 1) es_nil)))) (es_cons (e_tupA es_nil) (es_cons e_int es_nil))))) es_nil)))))))
  (s_cons (s_set 3 sc_law_family.nd (e_bin op_addX ok_add (e_pl 3) (e_lstA (es_cons (e_tupA (es_cons e_int (es_cons (e_tupA es_nil) (es_cons (e_tupA (es_cons (e_tupA (es_cons e_int (es_cons e_int (es_cons (e_var 1) es_nil)))) es_nil)) (es_cons e_int es_nil))))) (es_cons (e_tupA (es_cons e_int (es_cons (e_tupA (es_cons e_int es_nil)) (es_cons (e_tupA (es_cons (e_tupA (es_cons (e_var 1) es_nil)) es_nil)) (es_cons e_int es_nil))))) (es_cons (e_tupA (es_cons e_int (es_cons (e_tupA (es_cons e_int (es_cons e_int (es_cons (e_var 2) es_nil)))) (es_cons (e_tupA es_nil) (es_cons e_int es_nil))))) (es_cons (e_tupA (es_cons e_int (es_cons (e_tupA es_nil) (es_cons (e_tupA (es_cons (e_tupA (es_cons e_int (es_cons e_int (es_cons (e_var 2) es_nil)))) es_nil)) (es_cons e_int es_nil))))) es_nil)))))))
  (s_one (s_ret (e_callM 0 h_law_of hr (by decide) rfl (pv 0) (es_cons (e_bin op_addX ok_add (e_pl 3) (e_lstA (es_cons (e_tupA (es_cons e_int (es_cons (e_tupA (es_cons e_int es_nil)) (es_cons (e_tupA (es_cons (e_tupA (es_cons e_int es_nil)) es_nil)) (es_cons e_int es_nil))))) (es_cons (e_tupA (es_cons e_int (es_cons (e_tupA es_nil) (es_cons (e_tupA es_nil) (es_cons e_int es_nil))))) (es_cons (e_tupA (es_cons e_int (es_cons (e_tupA es_nil) (es_cons (e_tupA (es_cons (e_tupA es_nil) es_nil)) (es_cons e_int es_nil))))) (es_cons (e_tupA (es_cons e_int (es_cons (e_tupA es_nil) (es_cons (e_tupA es_nil) (es_cons e_int es_nil))))) es_nil)))))) es_nil))))))))
abbrev s_law_first : Stmt := top 18
abbrev N_law_first : List Str := ["row", "k"]
theorem sc_law_first : FnScope N_law_first ["row"] (defScope s_law_first) := ⟨rfl, rfl, rfl, by decide +kernel, rfl, by decide +kernel, by decide +kernel⟩
theorem ok_law_first {f : Addr} {fd : FuncData} (T : Tx K mg) (FF : L2.Fun K "_law_first" "_law_first" s_law_first f fd) (hm : mg "_law_first" = some (.ref f)) : Callee P w K mg base 1 "_law_first" 1 f_law_first := by
  refine ⟨f, fd, ["row"], fn_ok FF sc_law_first rfl rfl (fun cdv A outer s H hr => ?_), hm, FF.kp, FF.binds fun _ _ _ _ _ _ us hl => match us, hl with | [_], _ => rfl⟩
  have hu1 := hu_of hr
  have hu64 := hr.units
  have hu65 := hu65_of hr
  exact (s_one (s_ret (e_if (c_cmp (op_neD hu64) ok_ne (nomark _) (e_pl 0) (e_tupA es_nil)) (e_callB (cr_minL rfl hu65) rfl T.b_min (by decide +kernel) ok_minL (es_cons (e_lc (pe_lc (own := [("k", 1)]) (g := gName 1) rfl sc_law_first.nd (i_r1 rfl T.b_range (e_callB call_len rfl T.b_len (by decide +kernel) ok_len (es_cons (e_pl 0) es_nil))) (blkOk_by (own := [("k", 1)]) (N := N_law_first) (sc := defScope s_law_first) (by decide +kernel)) (fun _ _ _ _ _ => pg_name (i := 1) sc_law_first.nd rfl (by first | exact Or.inl rfl | exact Or.inr rfl)) (fun _ _ _ _ _ => ets_nil) (fun _ _ _ _ _ => (e_bin op_addX ok_add (e_sl (e_pl 0) (o_some (e_pl 1)) o_none) (e_sl (e_pl 0) o_none (o_some (e_pl 1))))))) es_nil)) (e_tupA es_nil))))
abbrev s_law_shape : Stmt := top 19
abbrev N_law_shape : List Str := ["rows", "sided", "ahead", "backs", "row", "k"]
theorem sc_law_shape : FnScope N_law_shape ["rows", "sided"] (defScope s_law_shape) := ⟨rfl, rfl, rfl, by decide +kernel, rfl, by decide +kernel, by decide +kernel⟩
theorem ok_law_shape {f : Addr} {fd : FuncData} (T : Tx K mg) (h_law_first : Callee P w K mg base 1 "_law_first" 1 f_law_first) (FF : L2.Fun K "_law_shape" "_law_shape" s_law_shape f fd) (hm : mg "_law_shape" = some (.ref f)) : Callee P w K mg base 2 "_law_shape" 2 f_law_shape := by
  refine ⟨f, fd, ["rows", "sided"], fn_ok FF sc_law_shape rfl rfl (fun cdv A outer s H hr => ?_), hm, FF.kp, FF.binds fun _ _ _ _ _ _ us hl => match us, hl with | [_, _], _ => rfl⟩
  have hu1 := hu_of hr
  have hu64 := hr.units
  have hu65 := hu65_of hr
  exact (s_cons (s_asg (e_tupA (es_cons (e_lc (pe_lc (own := [("row", 4)]) (g := gName 4) rfl sc_law_shape.nd (i_of (e_var 0)) (blkOk_by (own := [("row", 4)]) (N := N_law_shape) (sc := defScope s_law_shape) (by decide +kernel)) (fun _ _ _ _ _ => pg_name (i := 4) sc_law_shape.nd rfl (by first | exact Or.inl rfl | exact Or.inr rfl)) (fun _ _ _ _ _ => ets_nil) (fun _ _ _ _ _ => (e_call h_law_first hr (by decide) rfl (es_cons (e_var 4) es_nil))))) (es_cons (e_lc (pe_lc (own := [("row", 4)]) (g := gName 4) rfl sc_law_shape.nd (i_of (e_var 0)) (blkOk_by (own := [("row", 4)]) (N := N_law_shape) (sc := defScope s_law_shape) (by decide +kernel)) (fun _ _ _ _ _ => pg_name (i := 4) sc_law_shape.nd rfl (by first | exact Or.inl rfl | exact Or.inr rfl)) (fun _ _ _ _ _ => ets_nil) (fun _ _ _ _ _ => (e_call h_law_first hr (by decide) rfl (es_cons (e_revX (e_pl 4)) es_nil))))) es_nil))) (g_tupA rfl rfl (gs_cons 2 (gs_cons 3 gs_nil sc_law_shape.nd) sc_law_shape.nd)))
  (s_cons (s_if (c_val (e_var 1)) (s_one (s_ret (e_callB (cr_min2D rfl hu65) rfl T.b_min (by decide +kernel) ok_min2D (es_cons (e_callTy call_tuple_of rfl T.b_tuple (by decide +kernel) ok_tuple (es_cons (e_callB (cr_sortE hu65) rfl T.b_sorted (by decide +kernel) ok_sortE (es_cons (e_pl 2) es_nil)) es_nil)) (es_cons (e_callTy call_tuple_of rfl T.b_tuple (by decide +kernel) ok_tuple (es_cons (e_callB (cr_sortE hu65) rfl T.b_sorted (by decide +kernel) ok_sortE (es_cons (e_pl 3) es_nil)) es_nil)) es_nil))))) s_nil)
  (s_one (s_ret (e_callTy call_tuple_of rfl T.b_tuple (by decide +kernel) ok_tuple (es_cons (e_callB (cr_sortE hu65) rfl T.b_sorted (by decide +kernel) ok_sortE (es_cons (e_lc (pe_lc (own := [("k", 5)]) (g := gName 5) rfl sc_law_shape.nd (i_r1 rfl T.b_range (e_callB call_len rfl T.b_len (by decide +kernel) ok_len (es_cons (e_pl 0) es_nil))) (blkOk_by (own := [("k", 5)]) (N := N_law_shape) (sc := defScope s_law_shape) (by decide +kernel)) (fun _ _ _ _ _ => pg_name (i := 5) sc_law_shape.nd rfl (by first | exact Or.inl rfl | exact Or.inr rfl)) (fun _ _ _ _ _ => ets_nil) (fun _ _ _ _ _ => (e_callB (cr_min2D rfl hu65) rfl T.b_min (by decide +kernel) ok_min2D (es_cons (e_ix (ix_X hu1) ok_ixX (fun _ _ => rfl) (e_pl 2) (e_pl 5)) (es_cons (e_ix (ix_X hu1) ok_ixX (fun _ _ => rfl) (e_pl 3) (e_pl 5)) es_nil)))))) es_nil)) es_nil))))))
abbrev s_law_normal : Stmt := top 20
abbrev N_law_normal : List Str := ["hands", "cones", "rows", "cross", "left", "row", "one"]
theorem sc_law_normal : FnScope N_law_normal ["hands", "cones", "rows", "cross"] (defScope s_law_normal) := ⟨rfl, rfl, rfl, by decide +kernel, rfl, by decide +kernel, by decide +kernel⟩
theorem ok_law_normal {f : Addr} {fd : FuncData} (T : Tx K mg) (h_law_shape : Callee P w K mg base 2 "_law_shape" 2 f_law_shape) (FF : L2.Fun K "_law_normal" "_law_normal" s_law_normal f fd) (hm : mg "_law_normal" = some (.ref f)) : Callee P w K mg base 3 "_law_normal" 4 f_law_normal := by
  refine ⟨f, fd, ["hands", "cones", "rows", "cross"], fn_ok FF sc_law_normal rfl rfl (fun cdv A outer s H hr => ?_), hm, FF.kp, FF.binds fun _ _ _ _ _ _ us hl => match us, hl with | [_, _, _, _], _ => rfl⟩
  have hu1 := hu_of hr
  have hu64 := hr.units
  have hu65 := hu65_of hr
  exact (s_cons (s_if (c_cmp op_gt ok_cmp (nomark _) (e_pl 3) e_int) (s_one (s_parA 0 3 sc_law_normal.nd (es_cons e_int (es_cons (e_bin op_addX ok_add (e_pl 3) (e_bin op_mulY ok_mulY e_int (e_pl 0))) es_nil)))) s_nil)
  (s_cons (s_setLc (ps_setLc (i := 4) (own := [("row", 5)]) (g := gName 5) rfl sc_law_normal.nd rfl rfl (sw_true rfl rfl rfl (by decide +kernel)) (i_of (e_var 2)) (blkOk_by (own := [("row", 5)]) (N := N_law_normal) (sc := defScope s_law_normal) (by decide +kernel)) (fun _ _ _ _ _ => pg_name (i := 5) sc_law_normal.nd rfl (by first | exact Or.inl rfl | exact Or.inr rfl)) (fun _ _ _ _ _ => ets_nil) (fun _ _ _ _ _ => (e_callTy call_tuple_of rfl T.b_tuple (by decide +kernel) ok_tuple (es_cons (e_lc (pe_lc (own := [("one", 6)]) (g := gName 6) rfl sc_law_normal.nd (i_of (e_var 5)) (blkOk_by (own := [("one", 6)]) (N := N_law_normal) (sc := relS _ (defScope s_law_normal)) (by decide +kernel)) (fun _ _ _ _ _ => pg_name (i := 6) sc_law_normal.nd rfl (by first | exact Or.inl rfl | exact Or.inr rfl)) (fun _ _ _ _ _ => (ets_one (c_cmp op_gt ok_cmp (nomark _) (e_pl 6) e_int))) (fun _ _ _ _ _ => (e_var 6)))) es_nil)))))
  (s_one (s_ret (e_tupA (es_cons (e_var 0) (es_cons (e_callTy call_tuple_of rfl T.b_tuple (by decide +kernel) ok_tuple (es_cons (e_callB (cr_sortX rfl) rfl T.b_sorted (by decide +kernel) ok_sortX (es_cons (e_lc (pe_lc (own := [("one", 6)]) (g := gName 6) rfl sc_law_normal.nd (i_of (e_var 1)) (blkOk_by (own := [("one", 6)]) (N := N_law_normal) (sc := defScope s_law_normal) (by decide +kernel)) (fun _ _ _ _ _ => pg_name (i := 6) sc_law_normal.nd rfl (by first | exact Or.inl rfl | exact Or.inr rfl)) (fun _ _ _ _ _ => (ets_one (c_cmp op_gt ok_cmp (nomark _) (e_pl 6) e_int))) (fun _ _ _ _ _ => (e_var 6)))) es_nil)) es_nil)) (es_cons (e_call h_law_shape hr (by decide) rfl (es_cons (e_var 4) (es_cons (e_cmp (op_eqD hu64) ok_eq (nomark _) (e_pl 3) e_int) es_nil))) (es_cons (e_var 3) es_nil)))))))))
abbrev s_law_near : Stmt := top 25
abbrev N_law_near : List Str := ["m", "name", "hands", "cones", "rows", "cross", "entry", "pick", "row"]
theorem sc_law_near : FnScope N_law_near ["m", "name"] (defScope s_law_near) := ⟨rfl, rfl, rfl, by decide +kernel, rfl, by decide +kernel, by decide +kernel⟩
theorem ok_law_near {f : Addr} {fd : FuncData} (T : Tx K mg) (h_law_draw : Callee P w K mg base 1 "_law_draw" 2 f_law_draw) (h_law_of : Callee P w K mg base 2 "_law_of" 2 f_law_of) (h_law_normal : Callee P w K mg base 3 "_law_normal" 4 f_law_normal) (FF : L2.Fun K "_law_near" "_law_near" s_law_near f fd) (hm : mg "_law_near" = some (.ref f)) : Callee P w K mg base 4 "_law_near" 2 f_law_near := by
  refine ⟨f, fd, ["m", "name"], fn_ok FF sc_law_near rfl rfl (fun cdv A outer s H hr => ?_), hm, FF.kp, FF.binds fun _ _ _ _ _ _ us hl => match us, hl with | [_, _], _ => rfl⟩
  have hu1 := hu_of hr
  have hu64 := hr.units
  have hu65 := hu65_of hr
  exact (s_cons (s_asg (e_var 1) (g_tupA rfl rfl (gs_cons 2 (gs_cons 3 (gs_cons 4 (gs_cons 5 gs_nil sc_law_near.nd) sc_law_near.nd) sc_law_near.nd) sc_law_near.nd)))
  (s_cons (s_asg (e_tupA (es_cons (e_bin op_addX ok_add e_int (e_callM 0 h_law_draw hr (by decide) rfl (pv 0) (es_cons e_int es_nil))) (es_cons (e_callM 0 h_law_draw hr (by decide) rfl (pv 0) (es_cons e_int es_nil)) es_nil))) (g_tupA rfl rfl (gs_cons 6 (gs_cons 7 gs_nil sc_law_near.nd) sc_law_near.nd)))
  (s_cons (s_if (c_cmp (op_eqD hu64) ok_eq (nomark _) (e_pl 7) e_int) (s_one (s_set 3 sc_law_near.nd (e_bin op_addX ok_add (e_pl 3) (e_tupA (es_cons (e_var 6) es_nil))))) s_nil)
  (s_cons (s_if (c_cmp (op_eqD hu64) ok_eq (nomark _) (e_pl 7) e_int) (s_one (s_set 3 sc_law_near.nd (e_sl (e_pl 3) (o_some e_int) o_none))) s_nil)
  (s_cons (s_if (c_cmp (op_eqD hu64) ok_eq (nomark _) (e_pl 7) e_int) (s_one (s_set 4 sc_law_near.nd (e_callTy call_tuple_of rfl T.b_tuple (by decide +kernel) ok_tuple (es_cons (e_lc (pe_lc (own := [("row", 8)]) (g := gName 8) rfl sc_law_near.nd (i_of (e_var 4)) (blkOk_by (own := [("row", 8)]) (N := N_law_near) (sc := defScope s_law_near) (by decide +kernel)) (fun _ _ _ _ _ => pg_name (i := 8) sc_law_near.nd rfl (by first | exact Or.inl rfl | exact Or.inr rfl)) (fun _ _ _ _ _ => ets_nil) (fun _ _ _ _ _ => (e_bin op_addX ok_add (e_pl 8) (e_tupA (es_cons (e_var 6) es_nil)))))) es_nil)))) s_nil)
  (s_cons (s_if (c_cmp (op_eqD hu64) ok_eq (nomark _) (e_pl 7) e_int) (s_one (s_set 4 sc_law_near.nd (e_callTy call_tuple_of rfl T.b_tuple (by decide +kernel) ok_tuple (es_cons (e_lc (pe_lc (own := [("row", 8)]) (g := gName 8) rfl sc_law_near.nd (i_of (e_var 4)) (blkOk_by (own := [("row", 8)]) (N := N_law_near) (sc := defScope s_law_near) (by decide +kernel)) (fun _ _ _ _ _ => pg_name (i := 8) sc_law_near.nd rfl (by first | exact Or.inl rfl | exact Or.inr rfl)) (fun _ _ _ _ _ => ets_nil) (fun _ _ _ _ _ => (e_sl (e_pl 8) (o_some e_int) o_none)))) es_nil)))) s_nil)
  (s_cons (s_if (c_cmp (op_eqD hu64) ok_eq (nomark _) (e_pl 7) e_int) (s_one (s_set 4 sc_law_near.nd (e_callM 0 h_law_of hr (by decide) rfl (pv 0) (es_cons (e_lstA (es_cons (e_bin op_addX ok_add (e_pl 4) (e_tupA (es_cons (e_tupA es_nil) es_nil))) (es_cons (e_sl (e_pl 4) (o_some e_int) o_none) (es_cons (e_tupA (es_cons (e_tupA (es_cons (e_var 6) es_nil)) es_nil)) es_nil)))) es_nil)))) s_nil)
  (s_cons (s_if (c_cmp (op_eqD hu64) ok_eq (nomark _) (e_pl 7) e_int) (s_one (s_parA 2 5 sc_law_near.nd (es_cons (e_callM 0 h_law_of hr (by decide) rfl (pv 0) (es_cons (e_lstA (es_cons e_int (es_cons e_int (es_cons e_int es_nil)))) es_nil)) (es_cons (e_bin op_addX ok_add (e_pl 5) (e_callM 0 h_law_draw hr (by decide) rfl (pv 0) (es_cons e_int es_nil))) es_nil)))) s_nil)
  (s_one (s_ret (e_call h_law_normal hr (by decide) rfl (es_cons (e_var 2) (es_cons (e_var 3) (es_cons (e_var 4) (es_cons (e_var 5) es_nil)))))))))))))))
abbrev s_times : Stmt := top 4
abbrev N_times : List Str := ["a", "b"]
theorem sc_times : FnScope N_times ["a", "b"] (defScope s_times) := ⟨rfl, rfl, rfl, by decide +kernel, rfl, by decide +kernel, by decide +kernel⟩
theorem ok_times {f : Addr} {fd : FuncData} (T : Tx K mg) (h_ratio : Callee P w K mg base 1 "ratio" 2 f_ratio) (FF : L2.Fun K "times" "times" s_times f fd) (hm : mg "times" = some (.ref f)) : Callee P w K mg base 2 "times" 2 f_times := by
  refine ⟨f, fd, ["a", "b"], fn_ok FF sc_times rfl rfl (fun cdv A outer s H hr => ?_), hm, FF.kp, FF.binds fun _ _ _ _ _ _ us hl => match us, hl with | [_, _], _ => rfl⟩
  have hu1 := hu_of hr
  have hu64 := hr.units
  have hu65 := hu65_of hr
  exact (s_one (s_ret (e_call h_ratio hr (by decide) rfl (es_cons (e_bin op_mulY ok_mulY (e_ix (ix_X hu1) ok_ixX (fun _ _ => rfl) (e_pl 0) e_int) (e_ix (ix_X hu1) ok_ixX (fun _ _ => rfl) (e_pl 1) e_int)) (es_cons (e_bin op_mulY ok_mulY (e_ix (ix_X hu1) ok_ixX (fun _ _ => rfl) (e_pl 0) e_int) (e_ix (ix_X hu1) ok_ixX (fun _ _ => rfl) (e_pl 1) e_int)) es_nil)))))
abbrev s_is_bad : Stmt := top 10
abbrev N_is_bad : List Str := ["name", "handles", "turns", "borders", "crosscaps", "entries"]
theorem sc_is_bad : FnScope N_is_bad ["name"] (defScope s_is_bad) := ⟨rfl, rfl, rfl, by decide +kernel, rfl, by decide +kernel, by decide +kernel⟩
theorem ok_is_bad {f : Addr} {fd : FuncData} (T : Tx K mg) (FF : L2.Fun K "is_bad" "is_bad" s_is_bad f fd) (hm : mg "is_bad" = some (.ref f)) : Callee P w K mg base 1 "is_bad" 1 f_is_bad := by
  refine ⟨f, fd, ["name"], fn_ok FF sc_is_bad rfl rfl (fun cdv A outer s H hr => ?_), hm, FF.kp, FF.binds fun _ _ _ _ _ _ us hl => match us, hl with | [_], _ => rfl⟩
  have hu1 := hu_of hr
  have hu64 := hr.units
  have hu65 := hu65_of hr
  exact (s_cons (s_asg (e_var 0) (g_tupA rfl rfl (gs_cons 1 (gs_cons 2 (gs_cons 3 (gs_cons 4 gs_nil sc_is_bad.nd) sc_is_bad.nd) sc_is_bad.nd) sc_is_bad.nd)))
  (s_cons (s_if (c_w (c_or (c_cmp op_gt ok_cmp (nomark _) (e_pl 1) e_int) (c_or (c_cmp op_gt ok_cmp (nomark _) (e_pl 4) e_int) (c_or1 (c_cmp op_gt ok_cmp (nomark _) (e_callB call_len rfl T.b_len (by decide +kernel) ok_len (es_cons (e_pl 3) es_nil)) e_int))))) (s_one (s_ret e_bl)) s_nil)
  (s_cons (s_if (c_w (c_and (c_cmp (op_neD hu64) ok_ne (nomark _) (e_pl 3) (e_tupA es_nil)) (c_and1 (c_cmp (op_neD hu64) ok_ne (nomark _) (e_pl 2) (e_tupA es_nil))))) (s_one (s_ret e_bl)) s_nil)
  (s_cons (s_set 5 sc_is_bad.nd (e_if (c_cmp (op_eqD hu64) ok_eq (nomark _) (e_pl 3) (e_tupA es_nil)) (e_var 2) (e_ix (ix_X hu1) ok_ixX (fun _ _ => rfl) (e_pl 3) e_int)))
  (s_one (s_ret (e_or (e_cmp (op_eqD hu64) ok_eq (nomark _) (e_callB call_len rfl T.b_len (by decide +kernel) ok_len (es_cons (e_pl 5) es_nil)) e_int) (e_one (e_and (e_cmp (op_eqD hu64) ok_eq (nomark _) (e_callB call_len rfl T.b_len (by decide +kernel) ok_len (es_cons (e_pl 5) es_nil)) e_int) (e_one (e_cmp (op_neD hu64) ok_ne (nomark _) (e_ix (ix_X hu1) ok_ixX (fun _ _ => rfl) (e_pl 5) e_int) (e_ix (ix_X hu1) ok_ixX (fun _ _ => rfl) (e_pl 5) e_int))))))))))))
abbrev s_sign_of : Stmt := top 6
abbrev N_sign_of : List Str := ["a"]
theorem sc_sign_of : FnScope N_sign_of ["a"] (defScope s_sign_of) := ⟨rfl, rfl, rfl, by decide +kernel, rfl, by decide +kernel, by decide +kernel⟩
theorem ok_sign_of {f : Addr} {fd : FuncData} (T : Tx K mg) (FF : L2.Fun K "sign_of" "sign_of" s_sign_of f fd) (hm : mg "sign_of" = some (.ref f)) : Callee P w K mg base 1 "sign_of" 1 f_sign_of := by
  refine ⟨f, fd, ["a"], fn_ok FF sc_sign_of rfl rfl (fun cdv A outer s H hr => ?_), hm, FF.kp, FF.binds fun _ _ _ _ _ _ us hl => match us, hl with | [_], _ => rfl⟩
  have hu1 := hu_of hr
  have hu64 := hr.units
  have hu65 := hu65_of hr
  exact (s_cons (s_if (c_cmp op_gt ok_cmp (nomark _) (e_ix (ix_X hu1) ok_ixX (fun _ _ => rfl) (e_pl 0) e_int) e_int) (s_one (s_ret e_int)) s_nil)
  (s_one (s_ret (e_if (c_cmp op_lt ok_cmp (nomark _) (e_ix (ix_X hu1) ok_ixX (fun _ _ => rfl) (e_pl 0) e_int) e_int) (e_un un_neg ok_neg e_int) e_int))))
abbrev s_side_of : Stmt := top 11
abbrev N_side_of : List Str := ["name"]
theorem sc_side_of : FnScope N_side_of ["name"] (defScope s_side_of) := ⟨rfl, rfl, rfl, by decide +kernel, rfl, by decide +kernel, by decide +kernel⟩
theorem ok_side_of {f : Addr} {fd : FuncData} (T : Tx K mg) (h_sign_of : Callee P w K mg base 1 "sign_of" 1 f_sign_of) (h_name_sum : Callee P w K mg base 3 "name_sum" 1 f_name_sum) (h_is_bad : Callee P w K mg base 1 "is_bad" 1 f_is_bad) (FF : L2.Fun K "side_of" "side_of" s_side_of f fd) (hm : mg "side_of" = some (.ref f)) : Callee P w K mg base 4 "side_of" 1 f_side_of := by
  refine ⟨f, fd, ["name"], fn_ok FF sc_side_of rfl rfl (fun cdv A outer s H hr => ?_), hm, FF.kp, FF.binds fun _ _ _ _ _ _ us hl => match us, hl with | [_], _ => rfl⟩
  have hu1 := hu_of hr
  have hu64 := hr.units
  have hu65 := hu65_of hr
  exact (s_cons (s_if (c_val (e_call h_is_bad hr (by decide) rfl (es_cons (e_var 0) es_nil))) (s_one (s_ret e_str)) s_nil)
  (s_one (s_ret (e_ix (ix_X hu1) ok_ixX (fun _ _ => rfl) (e_tupA (es_cons e_str (es_cons e_str (es_cons e_str es_nil)))) (e_bin op_addX ok_add (e_call h_sign_of hr (by decide) rfl (es_cons (e_call h_name_sum hr (by decide) rfl (es_cons (e_var 0) es_nil)) es_nil)) e_int)))))
abbrev s_law_turned_count : Stmt := top 22
abbrev N_law_turned_count : List Str := ["cones", "one", "other"]
theorem sc_law_turned_count : FnScope N_law_turned_count ["cones"] (defScope s_law_turned_count) := ⟨rfl, rfl, rfl, by decide +kernel, rfl, by decide +kernel, by decide +kernel⟩
theorem ok_law_turned_count {f : Addr} {fd : FuncData} (T : Tx K mg) (FF : L2.Fun K "_law_turned_count" "_law_turned_count" s_law_turned_count f fd) (hm : mg "_law_turned_count" = some (.ref f)) : Callee P w K mg base 1 "_law_turned_count" 1 f_law_turned_count := by
  refine ⟨f, fd, ["cones"], fn_ok FF sc_law_turned_count rfl rfl (fun cdv A outer s H hr => ?_), hm, FF.kp, FF.binds fun _ _ _ _ _ _ us hl => match us, hl with | [_], _ => rfl⟩
  have hu1 := hu_of hr
  have hu64 := hr.units
  have hu65 := hu65_of hr
  exact (s_cons (s_if (c_cmp op_lt ok_cmp (nomark _) (e_callB call_len rfl T.b_len (by decide +kernel) ok_len (es_cons (e_pl 0) es_nil)) e_int) (s_cons (s_asg (e_if (c_w (c_or (c_cmp (op_eqD hu64) ok_eq (nomark _) (e_pl 0) (e_tupA es_nil)) (c_or1 (c_cmp (op_eqD hu64) ok_eq (nomark _) (e_callB call_len rfl T.b_len (by decide +kernel) ok_len (es_cons (e_pl 0) es_nil)) e_int)))) (e_sl (e_bin op_addX ok_add (e_pl 0) (e_tupA (es_cons e_int (es_cons e_int es_nil)))) o_none (o_some e_int)) (e_tupA (es_cons e_int (es_cons (e_ix (ix_X hu1) ok_ixX (fun _ _ => rfl) (e_pl 0) e_int) es_nil)))) (g_tupA rfl rfl (gs_cons 1 (gs_cons 2 gs_nil sc_law_turned_count.nd) sc_law_turned_count.nd)))
  (s_one (s_ret (e_if (c_cmp (op_eqD hu64) ok_eq (nomark _) (e_pl 1) (e_pl 2)) (e_var 1) e_int)))) s_nil)
  (s_cons (s_if (c_w (c_or (c_cmp op_gt ok_cmp (nomark _) (e_callB call_len rfl T.b_len (by decide +kernel) ok_len (es_cons (e_pl 0) es_nil)) e_int) (c_or1 (c_cmp op_gt ok_cmp (nomark _) (e_ix (ix_X hu1) ok_ixX (fun _ _ => rfl) (e_pl 0) e_int) e_int)))) (s_one (s_ret e_int)) s_nil)
  (s_cons (s_if (c_cmp (op_eqD hu64) ok_eq (nomark _) (e_ix (ix_X hu1) ok_ixX (fun _ _ => rfl) (e_pl 0) e_int) e_int) (s_one (s_ret (e_bin op_mulY ok_mulY e_int (e_ix (ix_X hu1) ok_ixX (fun _ _ => rfl) (e_pl 0) e_int)))) s_nil)
  (s_cons (s_if (c_w (c_or (c_cmp op_gt ok_cmp (nomark _) (e_ix (ix_X hu1) ok_ixX (fun _ _ => rfl) (e_pl 0) e_int) e_int) (c_or1 (c_cmp op_gt ok_cmp (nomark _) (e_ix (ix_X hu1) ok_ixX (fun _ _ => rfl) (e_pl 0) e_int) e_int)))) (s_one (s_ret e_int)) s_nil)
  (s_one (s_ret (e_ix (ix_X hu1) ok_ixX (fun _ _ => rfl) (e_disp (pps_cons pe_int e_int (pps_cons pe_int e_int (pps_cons pe_int e_int pps_nil))) (by rfl) (by rfl) (fun z => by cases z) (by decide) rfl (by decide)) (e_ix (ix_X hu1) ok_ixX (fun _ _ => rfl) (e_pl 0) e_int))))))))
abbrev s_law_count : Stmt := top 21
abbrev N_law_count : List Str := ["name", "hands", "cones", "rows", "cross"]
theorem sc_law_count : FnScope N_law_count ["name"] (defScope s_law_count) := ⟨rfl, rfl, rfl, by decide +kernel, rfl, by decide +kernel, by decide +kernel⟩
theorem ok_law_count {f : Addr} {fd : FuncData} (T : Tx K mg) (h_law_turned_count : Callee P w K mg base 1 "_law_turned_count" 1 f_law_turned_count) (FF : L2.Fun K "_law_count" "_law_count" s_law_count f fd) (hm : mg "_law_count" = some (.ref f)) : Callee P w K mg base 2 "_law_count" 1 f_law_count := by
  refine ⟨f, fd, ["name"], fn_ok FF sc_law_count rfl rfl (fun cdv A outer s H hr => ?_), hm, FF.kp, FF.binds fun _ _ _ _ _ _ us hl => match us, hl with | [_], _ => rfl⟩
  have hu1 := hu_of hr
  have hu64 := hr.units
  have hu65 := hu65_of hr
  exact (s_cons (s_asg (e_var 0) (g_tupA rfl rfl (gs_cons 1 (gs_cons 2 (gs_cons 3 (gs_cons 4 gs_nil sc_law_count.nd) sc_law_count.nd) sc_law_count.nd) sc_law_count.nd)))
  (s_cons (s_if (c_w (c_or (c_cmp op_gt ok_cmp (nomark _) (e_pl 1) e_int) (c_or (c_cmp op_gt ok_cmp (nomark _) (e_pl 4) e_int) (c_or (c_cmp op_gt ok_cmp (nomark _) (e_callB call_len rfl T.b_len (by decide +kernel) ok_len (es_cons (e_pl 3) es_nil)) e_int) (c_or1 (c_cmp op_gt ok_cmp (nomark _) (e_bin op_addX ok_add (e_pl 4) (e_callB call_len rfl T.b_len (by decide +kernel) ok_len (es_cons (e_pl 3) es_nil))) e_int)))))) (s_one (s_ret e_int)) s_nil)
  (s_cons (s_if (c_cmp (op_eqD hu64) ok_eq (nomark _) (e_pl 4) e_int) (s_one (s_ret (e_if (c_cmp op_lt ok_cmp (nomark _) (e_callB call_len rfl T.b_len (by decide +kernel) ok_len (es_cons (e_pl 2) es_nil)) e_int) (e_bin op_mulY ok_mulY e_int (e_if (c_cmp (op_neD hu64) ok_ne (nomark _) (e_pl 2) (e_tupA es_nil)) (e_ix (ix_X hu1) ok_ixX (fun _ _ => rfl) (e_pl 2) e_int) e_int)) e_int))) s_nil)
  (s_cons (s_if (c_cmp (op_eqD hu64) ok_eq (nomark _) (e_pl 3) (e_tupA es_nil)) (s_one (s_ret (e_call h_law_turned_count hr (by decide) rfl (es_cons (e_var 2) es_nil)))) s_nil)
  (s_cons (s_if (c_cmp (op_eqD hu64) ok_eq (nomark _) (e_pl 2) (e_tupA es_nil)) (s_one (s_ret (e_bin op_mulY ok_mulY e_int (e_call h_law_turned_count hr (by decide) rfl (es_cons (e_callTy call_tuple_of rfl T.b_tuple (by decide +kernel) ok_tuple (es_cons (e_callB cr_sortedT rfl T.b_sorted (by decide +kernel) ok_sortedT (es_cons (e_ix (ix_X hu1) ok_ixX (fun _ _ => rfl) (e_pl 3) e_int) es_nil)) es_nil)) es_nil))))) s_nil)
  (s_cons (s_if (c_w (c_and (c_cmp (op_eqD hu64) ok_eq (nomark _) (e_callB call_len rfl T.b_len (by decide +kernel) ok_len (es_cons (e_pl 2) es_nil)) e_int) (c_and1 (c_cmp (op_eqD hu64) ok_eq (nomark _) (e_pl 3) (e_tupA (es_cons (e_tupA es_nil) es_nil)))))) (s_one (s_ret (e_bin op_mulY ok_mulY e_int (e_ix (ix_X hu1) ok_ixX (fun _ _ => rfl) (e_pl 2) e_int)))) s_nil)
  (s_cons (s_if (c_w (c_and (c_cmp (op_eqD hu64) ok_eq (nomark _) (e_pl 2) (e_tupA (es_cons e_int es_nil))) (c_and1 (c_cmp (op_eqD hu64) ok_eq (nomark _) (e_callB call_len rfl T.b_len (by decide +kernel) ok_len (es_cons (e_ix (ix_X hu1) ok_ixX (fun _ _ => rfl) (e_pl 3) e_int) es_nil)) e_int)))) (s_one (s_ret (e_bin op_mulY ok_mulY e_int (e_ix (ix_X hu1) ok_ixX (fun _ _ => rfl) (e_ix (ix_X hu1) ok_ixX (fun _ _ => rfl) (e_pl 3) e_int) e_int)))) s_nil)
  (s_one (s_ret (e_if (c_w (c_and (c_cmp (op_eqD hu64) ok_eq (nomark _) (e_pl 2) (e_tupA (es_cons e_int es_nil))) (c_and1 (c_cmp (op_eqD hu64) ok_eq (nomark _) (e_pl 3) (e_tupA (es_cons (e_tupA (es_cons e_int es_nil)) es_nil)))))) e_int e_int))))))))))
abbrev s_law_is_bad : Stmt := top 23
abbrev N_law_is_bad : List Str := ["name", "hands", "cones", "rows", "cross", "some"]
theorem sc_law_is_bad : FnScope N_law_is_bad ["name"] (defScope s_law_is_bad) := ⟨rfl, rfl, rfl, by decide +kernel, rfl, by decide +kernel, by decide +kernel⟩
theorem ok_law_is_bad {f : Addr} {fd : FuncData} (T : Tx K mg) (FF : L2.Fun K "_law_is_bad" "_law_is_bad" s_law_is_bad f fd) (hm : mg "_law_is_bad" = some (.ref f)) : Callee P w K mg base 1 "_law_is_bad" 1 f_law_is_bad := by
  refine ⟨f, fd, ["name"], fn_ok FF sc_law_is_bad rfl rfl (fun cdv A outer s H hr => ?_), hm, FF.kp, FF.binds fun _ _ _ _ _ _ us hl => match us, hl with | [_], _ => rfl⟩
  have hu1 := hu_of hr
  have hu64 := hr.units
  have hu65 := hu65_of hr
  exact (s_cons (s_asg (e_var 0) (g_tupA rfl rfl (gs_cons 1 (gs_cons 2 (gs_cons 3 (gs_cons 4 gs_nil sc_law_is_bad.nd) sc_law_is_bad.nd) sc_law_is_bad.nd) sc_law_is_bad.nd)))
  (s_cons (s_if (c_w (c_or (c_cmp op_gt ok_cmp (nomark _) (e_bin op_addX ok_add (e_pl 1) (e_pl 4)) e_int) (c_or (c_cmp op_gt ok_cmp (nomark _) (e_callB call_len rfl T.b_len (by decide +kernel) ok_len (es_cons (e_pl 3) es_nil)) e_int) (c_or1 (c_w (c_and (c_cmp (op_neD hu64) ok_ne (nomark _) (e_pl 3) (e_tupA es_nil)) (c_and1 (c_cmp (op_neD hu64) ok_ne (nomark _) (e_pl 2) (e_tupA es_nil))))))))) (s_one (s_ret e_bl)) s_nil)
  (s_cons (s_set 5 sc_law_is_bad.nd (e_if (c_cmp (op_eqD hu64) ok_eq (nomark _) (e_pl 3) (e_tupA es_nil)) (e_var 2) (e_ix (ix_X hu1) ok_ixX (fun _ _ => rfl) (e_pl 3) e_int)))
  (s_one (s_ret (e_or (e_cmp (op_eqD hu64) ok_eq (nomark _) (e_callB call_len rfl T.b_len (by decide +kernel) ok_len (es_cons (e_pl 5) es_nil)) e_int) (e_one (e_and (e_cmp (op_eqD hu64) ok_eq (nomark _) (e_callB call_len rfl T.b_len (by decide +kernel) ok_len (es_cons (e_pl 5) es_nil)) e_int) (e_one (e_cmp (op_neD hu64) ok_ne (nomark _) (e_ix (ix_X hu1) ok_ixX (fun _ _ => rfl) (e_pl 5) e_int) (e_ix (ix_X hu1) ok_ixX (fun _ _ => rfl) (e_pl 5) e_int)))))))))))
abbrev s_law_right : Stmt := top 26
abbrev N_law_right : List Str := ["name", "count", "bad", "side"]
theorem sc_law_right : FnScope N_law_right ["name"] (defScope s_law_right) := ⟨rfl, rfl, rfl, by decide +kernel, rfl, by decide +kernel, by decide +kernel⟩
theorem ok_law_right {f : Addr} {fd : FuncData} (T : Tx K mg) (h_ratio : Callee P w K mg base 1 "ratio" 2 f_ratio) (h_times : Callee P w K mg base 2 "times" 2 f_times) (h_name_sum : Callee P w K mg base 3 "name_sum" 1 f_name_sum) (h_is_bad : Callee P w K mg base 1 "is_bad" 1 f_is_bad) (h_side_of : Callee P w K mg base 4 "side_of" 1 f_side_of) (h_ball_count : Callee P w K mg base 4 "ball_count" 1 f_ball_count) (h_law_like : CalleeG P w K mg base 1 "_law_like" 2 f_law_like) (h_law_count : Callee P w K mg base 2 "_law_count" 1 f_law_count) (h_law_is_bad : Callee P w K mg base 1 "_law_is_bad" 1 f_law_is_bad) (FF : L2.Fun K "_law_right" "_law_right" s_law_right f fd) (hm : mg "_law_right" = some (.ref f)) : CalleeG P w K mg base 5 "_law_right" 1 f_law_right := by
  refine ⟨f, fd, ["name"], fn_okG FF sc_law_right rfl rfl (fun cdv A outer s H hr => ?_), hm, FF.kp, FF.binds fun _ _ _ _ _ _ us hl => match us, hl with | [_], _ => rfl⟩
  have hu1 := hu_of hr.r
  have hu64 := hr.r.units
  have hu65 := hu65_of hr.r
  exact (s_cons (s_parA 1 2 sc_law_right.nd (es_cons (e_call h_law_count hr.r (by decide) rfl (es_cons (e_var 0) es_nil)) (es_cons (e_call h_law_is_bad hr.r (by decide) rfl (es_cons (e_var 0) es_nil)) es_nil)))
  (s_cons (s_set 3 sc_law_right.nd (e_call h_side_of hr.r (by decide) rfl (es_cons (e_var 0) es_nil)))
  (s_cons (s_if (c_w (c_or (c_cmp (op_neD hu64) ok_ne (nomark _) (e_cmp (op_eqD hu64) ok_eq (nomark _) (e_pl 3) e_str) (e_cmp op_gt ok_cmp (nomark _) (e_pl 1) e_int)) (c_or1 (c_not (c_val (e_callG h_law_like hr (by decide) rfl (es_cons (e_lstA (es_cons (e_call h_is_bad hr.r (by decide) rfl (es_cons (e_var 0) es_nil)) (es_cons (e_cmp (op_eqD hu64) ok_eq (nomark _) (e_pl 3) e_str) es_nil))) (es_cons (e_lstA (es_cons (e_var 2) (es_cons (e_var 2) es_nil))) es_nil)))))))) (s_one (s_ret e_bl)) s_nil)
  (s_cons (s_if (c_cmp (op_eqD hu64) ok_eq (nomark _) (e_pl 1) e_int) (s_one (s_ret e_bl)) s_nil)
  (s_one (s_ret (e_callG h_law_like hr (by decide) rfl (es_cons (e_lstA (es_cons (e_call h_ball_count hr.r (by decide) rfl (es_cons (e_var 0) es_nil)) (es_cons (e_call h_times hr.r (by decide) rfl (es_cons (e_call h_ratio hr.r (by decide) rfl (es_cons (e_var 1) (es_cons e_int es_nil))) (es_cons (e_call h_name_sum hr.r (by decide) rfl (es_cons (e_var 0) es_nil)) es_nil))) es_nil))) (es_cons (e_lstA (es_cons (e_var 1) (es_cons (e_tupA (es_cons e_int (es_cons e_int es_nil))) es_nil))) es_nil)))))))))
abbrev s_law : Stmt := top 27
abbrev N_law : List Str := ["script", "some", "name", "dues", "due", "turn", "m", "step"]
theorem sc_law : FnScope N_law ["script"] (defScope s_law) := ⟨rfl, rfl, rfl, by decide +kernel, rfl, by decide +kernel, by decide +kernel⟩
theorem ok_law_fn {f : Addr} {fd : FuncData} (T : Tx K mg) (h_ball_count : Callee P w K mg base 4 "ball_count" 1 f_ball_count) (h_law_begun : Callee P w K mg base 1 "_law_begun" 2 f_law_begun) (h_law_like : CalleeG P w K mg base 1 "_law_like" 2 f_law_like) (h_law_family : Callee P w K mg base 3 "_law_family" 1 f_law_family) (h_law_near : Callee P w K mg base 4 "_law_near" 2 f_law_near) (h_law_right : CalleeG P w K mg base 5 "_law_right" 1 f_law_right) (FF : L2.Fun K "law" "law" s_law f fd) : FnG P w K mg base 6 f fd ["script"] (spF w K 1 f_law) := by
  refine fn_okG FF sc_law rfl rfl (fun cdv A outer s H hr => ?_)
  have hu1 := hu_of hr.r
  have hu64 := hr.r.units
  have hu65 := hu65_of hr.r
  exact (s_cons (s_set 1 sc_law.nd (e_lstA (es_cons (e_tupA (es_cons e_int (es_cons (e_tupA es_nil) (es_cons (e_tupA es_nil) (es_cons e_int es_nil))))) (es_cons (e_tupA (es_cons e_int (es_cons (e_tupA es_nil) (es_cons (e_tupA (es_cons (e_tupA es_nil) es_nil)) (es_cons e_int es_nil))))) (es_cons (e_tupA (es_cons e_int (es_cons (e_tupA es_nil) (es_cons (e_tupA es_nil) (es_cons e_int es_nil))))) (es_cons (e_tupA (es_cons e_int (es_cons (e_tupA (es_cons e_int es_nil)) (es_cons (e_tupA es_nil) (es_cons e_int es_nil))))) (es_cons (e_tupA (es_cons e_int (es_cons (e_tupA (es_cons e_int (es_cons e_int (es_cons e_int es_nil)))) (es_cons (e_tupA es_nil) (es_cons e_int es_nil))))) (es_cons (e_tupA (es_cons e_int (es_cons (e_tupA es_nil) (es_cons (e_tupA (es_cons (e_tupA (es_cons e_int (es_cons e_int (es_cons e_int es_nil)))) es_nil)) (es_cons e_int es_nil))))) es_nil))))))))
  (s_cons (s_set 1 sc_law.nd (e_bin op_addX ok_add (e_pl 1) (e_lstA (es_cons (e_tupA (es_cons e_int (es_cons (e_tupA (es_cons e_int es_nil)) (es_cons (e_tupA (es_cons (e_tupA (es_cons e_int es_nil)) es_nil)) (es_cons e_int es_nil))))) (es_cons (e_tupA (es_cons e_int (es_cons (e_tupA (es_cons e_int (es_cons e_int es_nil))) (es_cons (e_tupA es_nil) (es_cons e_int es_nil))))) (es_cons (e_tupA (es_cons e_int (es_cons (e_tupA es_nil) (es_cons (e_tupA (es_cons (e_tupA (es_cons e_int es_nil)) es_nil)) (es_cons e_int es_nil))))) (es_cons (e_tupA (es_cons e_int (es_cons (e_tupA (es_cons e_int es_nil)) (es_cons (e_tupA (es_cons (e_tupA (es_cons e_int es_nil)) es_nil)) (es_cons e_int es_nil))))) (es_cons (e_tupA (es_cons e_int (es_cons (e_tupA (es_cons e_int (es_cons e_int (es_cons e_int es_nil)))) (es_cons (e_tupA es_nil) (es_cons e_int es_nil))))) es_nil))))))))
  (s_cons (s_for PassesOwn.never rfl (i_of (e_var 1)) (g_name 2 sc_law.nd) (s_one (s_if (c_not (c_val (e_callG h_law_right hr (by decide) rfl (es_cons (e_var 2) es_nil)))) (s_one (s_ret e_bl)) s_nil)))
  (s_cons (s_set 3 sc_law.nd (e_lstA (es_cons (e_tupA (es_cons (e_ix (ix_X hu1) ok_ixX (fun _ _ => rfl) (e_pl 1) e_int) (es_cons e_int es_nil))) (es_cons (e_tupA (es_cons (e_ix (ix_X hu1) ok_ixX (fun _ _ => rfl) (e_pl 1) e_int) (es_cons e_int es_nil))) (es_cons (e_tupA (es_cons (e_ix (ix_X hu1) ok_ixX (fun _ _ => rfl) (e_pl 1) e_int) (es_cons e_int es_nil))) (es_cons (e_tupA (es_cons (e_ix (ix_X hu1) ok_ixX (fun _ _ => rfl) (e_pl 1) e_int) (es_cons e_int es_nil))) (es_cons (e_tupA (es_cons (e_ix (ix_X hu1) ok_ixX (fun _ _ => rfl) (e_pl 1) e_int) (es_cons e_int es_nil))) (es_cons (e_tupA (es_cons (e_ix (ix_X hu1) ok_ixX (fun _ _ => rfl) (e_pl 1) e_int) (es_cons e_int es_nil))) (es_cons (e_tupA (es_cons (e_ix (ix_X hu1) ok_ixX (fun _ _ => rfl) (e_pl 1) e_int) (es_cons e_int es_nil))) es_nil)))))))))
  (s_cons (s_if (c_not (c_val (e_callG h_law_like hr (by decide) rfl (es_cons (e_lcQ (pe_lc (own := [("name", 2), ("due", 4)]) (g := gTup _ 2 (gCons (gName 2) (gCons (gName 4) gNil))) rfl sc_law.nd (i_of (e_var 3)) (blkOk_by (own := [("name", 2), ("due", 4)]) (N := N_law) (sc := defScope s_law) (by decide +kernel)) (fun _ _ _ _ _ => pg_tup rfl (pgs_cons (pg_name (i := 2) sc_law.nd rfl (by first | exact Or.inl rfl | exact Or.inr rfl)) (pgs_cons (pg_name (i := 4) sc_law.nd rfl (by first | exact Or.inl rfl | exact Or.inr rfl)) pgs_nil))) (fun _ _ _ _ _ => ets_nil) (fun _ _ _ _ _ => (e_call h_ball_count hr.r (by decide) rfl (es_cons (e_var 2) es_nil))))) (es_cons (e_lcQ (pe_lc (own := [("name", 2), ("due", 4)]) (g := gTup _ 2 (gCons (gName 2) (gCons (gName 4) gNil))) rfl sc_law.nd (i_of (e_var 3)) (blkOk_by (own := [("name", 2), ("due", 4)]) (N := N_law) (sc := defScope s_law) (by decide +kernel)) (fun _ _ _ _ _ => pg_tup rfl (pgs_cons (pg_name (i := 2) sc_law.nd rfl (by first | exact Or.inl rfl | exact Or.inr rfl)) (pgs_cons (pg_name (i := 4) sc_law.nd rfl (by first | exact Or.inl rfl | exact Or.inr rfl)) pgs_nil))) (fun _ _ _ _ _ => ets_nil) (fun _ _ _ _ _ => (e_var 4)))) es_nil))))) (s_one (s_ret e_bl)) s_nil)
  (s_cons (s_for PassesOwn.never rfl (i_r1 rfl T.b_range (e_callB (CallR.or (call_min2 rfl) (cr_min rfl)) rfl T.b_min (by decide +kernel) ok_min (es_cons (e_callB call_len rfl T.b_len (by decide +kernel) ok_len (es_cons (e_pl 0) es_nil)) (es_cons e_int es_nil)))) (g_name 5 sc_law.nd) (s_cons (s_set 6 sc_law.nd (e_call h_law_begun hr.r (by decide) rfl (es_cons (e_var 0) (es_cons (e_var 5) es_nil))))
  (s_one (s_for PassesOwn.never rfl (i_r1 rfl T.b_range e_int) (g_name 7 sc_law.nd) (s_cons (s_set 2 sc_law.nd (e_callM 6 h_law_family hr.r (by decide) rfl (pv 6) es_nil))
  (s_one (s_if (c_w (c_or (c_not (c_val (e_callG h_law_right hr (by decide) rfl (es_cons (e_var 2) es_nil)))) (c_or (c_not (c_val (e_callG h_law_right hr (by decide) rfl (es_cons (e_callM 6 h_law_near hr.r (by decide) rfl (pv 6) (es_cons (e_var 2) es_nil)) es_nil)))) (c_or1 (c_not (c_val (e_callG h_law_right hr (by decide) rfl (es_cons (e_callM 6 h_law_near hr.r (by decide) rfl (pv 6) (es_cons (e_callM 6 h_law_near hr.r (by decide) rfl (pv 6) (es_cons (e_var 2) es_nil)) es_nil)) es_nil)))))))) (s_one (s_ret e_bl)) s_nil)))))))
  (s_one (s_ret e_bl))))))))
end
theorem all_mk {P : Program} {w : World} {K : PySem.W.Frag} {h : Heap} {mg : Str → Option Value} {fa f0 f1 f2 f3 f4 f5 f6 f7 f8 f9 f10 f11 f12 f13 f14 f15 f16 f17 f18 f19 f20 f21 f22 : Addr} (X : K.In h) (G : h.Ns mainGlobals mg) (hfa : mg "law" = some (.ref fa))
    {od0 an0 : Option Addr} {sl0 : Array (Option Value)} {oc0 kV0 dc0 pm0 cd0 ct0 : Value}
    {od1 an1 : Option Addr} {sl1 : Array (Option Value)} {oc1 kV1 dc1 pm1 cd1 ct1 : Value}
    {od2 an2 : Option Addr} {sl2 : Array (Option Value)} {oc2 kV2 dc2 pm2 cd2 ct2 : Value}
    {od3 an3 : Option Addr} {sl3 : Array (Option Value)} {oc3 kV3 dc3 pm3 cd3 ct3 : Value}
    {od4 an4 : Option Addr} {sl4 : Array (Option Value)} {oc4 kV4 dc4 pm4 cd4 ct4 : Value}
    {od5 an5 : Option Addr} {sl5 : Array (Option Value)} {oc5 kV5 dc5 pm5 cd5 ct5 : Value}
    {od6 an6 : Option Addr} {sl6 : Array (Option Value)} {oc6 kV6 dc6 pm6 cd6 ct6 : Value}
    {od7 an7 : Option Addr} {sl7 : Array (Option Value)} {oc7 kV7 dc7 pm7 cd7 ct7 : Value}
    {od8 an8 : Option Addr} {sl8 : Array (Option Value)} {oc8 kV8 dc8 pm8 cd8 ct8 : Value}
    {od9 an9 : Option Addr} {sl9 : Array (Option Value)} {oc9 kV9 dc9 pm9 cd9 ct9 : Value}
    {od10 an10 : Option Addr} {sl10 : Array (Option Value)} {oc10 kV10 dc10 pm10 cd10 ct10 : Value}
    {od11 an11 : Option Addr} {sl11 : Array (Option Value)} {oc11 kV11 dc11 pm11 cd11 ct11 : Value}
    {od12 an12 : Option Addr} {sl12 : Array (Option Value)} {oc12 kV12 dc12 pm12 cd12 ct12 : Value}
    {od13 an13 : Option Addr} {sl13 : Array (Option Value)} {oc13 kV13 dc13 pm13 cd13 ct13 : Value}
    {od14 an14 : Option Addr} {sl14 : Array (Option Value)} {oc14 kV14 dc14 pm14 cd14 ct14 : Value}
    {od15 an15 : Option Addr} {sl15 : Array (Option Value)} {oc15 kV15 dc15 pm15 cd15 ct15 : Value}
    {od16 an16 : Option Addr} {sl16 : Array (Option Value)} {oc16 kV16 dc16 pm16 cd16 ct16 : Value}
    {od17 an17 : Option Addr} {sl17 : Array (Option Value)} {oc17 kV17 dc17 pm17 cd17 ct17 : Value}
    {od18 an18 : Option Addr} {sl18 : Array (Option Value)} {oc18 kV18 dc18 pm18 cd18 ct18 : Value}
    {od19 an19 : Option Addr} {sl19 : Array (Option Value)} {oc19 kV19 dc19 pm19 cd19 ct19 : Value}
    {od20 an20 : Option Addr} {sl20 : Array (Option Value)} {oc20 kV20 dc20 pm20 cd20 ct20 : Value}
    {od21 an21 : Option Addr} {sl21 : Array (Option Value)} {oc21 kV21 dc21 pm21 cd21 ct21 : Value}
    {od22 an22 : Option Addr} {sl22 : Array (Option Value)} {oc22 kV22 dc22 pm22 cd22 ct22 : Value}
    (a0 : PySem.W.nsIn K mainGlobals "ratio" = some (some (.ref f0))) (l0 : K.lookup f0 = some ⟨oc0, od0, .func (PySem.W.fnOf "ratio" "ratio" (defArgs s_ratio) (defBody s_ratio) (defScope s_ratio) .none kV0 dc0 pm0 an0 cd0 ct0), sl0⟩) (c0 : PySem.W.codeIn K cd0 "ratio" = true) (k0 : PySem.W.keepIn K (.ref f0) = true)
    (a1 : PySem.W.nsIn K mainGlobals "over" = some (some (.ref f1))) (l1 : K.lookup f1 = some ⟨oc1, od1, .func (PySem.W.fnOf "over" "over" (defArgs s_over) (defBody s_over) (defScope s_over) .none kV1 dc1 pm1 an1 cd1 ct1), sl1⟩) (c1 : PySem.W.codeIn K cd1 "over" = true) (k1 : PySem.W.keepIn K (.ref f1) = true)
    (a2 : PySem.W.nsIn K mainGlobals "minus" = some (some (.ref f2))) (l2 : K.lookup f2 = some ⟨oc2, od2, .func (PySem.W.fnOf "minus" "minus" (defArgs s_minus) (defBody s_minus) (defScope s_minus) .none kV2 dc2 pm2 an2 cd2 ct2), sl2⟩) (c2 : PySem.W.codeIn K cd2 "minus" = true) (k2 : PySem.W.keepIn K (.ref f2) = true)
    (a3 : PySem.W.nsIn K mainGlobals "name_sum" = some (some (.ref f3))) (l3 : K.lookup f3 = some ⟨oc3, od3, .func (PySem.W.fnOf "name_sum" "name_sum" (defArgs s_name_sum) (defBody s_name_sum) (defScope s_name_sum) .none kV3 dc3 pm3 an3 cd3 ct3), sl3⟩) (c3 : PySem.W.codeIn K cd3 "name_sum" = true) (k3 : PySem.W.keepIn K (.ref f3) = true)
    (a4 : PySem.W.nsIn K mainGlobals "ball_count" = some (some (.ref f4))) (l4 : K.lookup f4 = some ⟨oc4, od4, .func (PySem.W.fnOf "ball_count" "ball_count" (defArgs s_ball_count) (defBody s_ball_count) (defScope s_ball_count) .none kV4 dc4 pm4 an4 cd4 ct4), sl4⟩) (c4 : PySem.W.codeIn K cd4 "ball_count" = true) (k4 : PySem.W.keepIn K (.ref f4) = true)
    (a5 : PySem.W.nsIn K mainGlobals "_law_begun" = some (some (.ref f5))) (l5 : K.lookup f5 = some ⟨oc5, od5, .func (PySem.W.fnOf "_law_begun" "_law_begun" (defArgs s_law_begun) (defBody s_law_begun) (defScope s_law_begun) .none kV5 dc5 pm5 an5 cd5 ct5), sl5⟩) (c5 : PySem.W.codeIn K cd5 "_law_begun" = true) (k5 : PySem.W.keepIn K (.ref f5) = true)
    (a6 : PySem.W.nsIn K mainGlobals "_law_like" = some (some (.ref f6))) (l6 : K.lookup f6 = some ⟨oc6, od6, .func (PySem.W.fnOf "_law_like" "_law_like" (defArgs s_law_like) (defBody s_law_like) (defScope s_law_like) .none kV6 dc6 pm6 an6 cd6 ct6), sl6⟩) (c6 : PySem.W.codeIn K cd6 "_law_like" = true) (k6 : PySem.W.keepIn K (.ref f6) = true)
    (a7 : PySem.W.nsIn K mainGlobals "_law_draw" = some (some (.ref f7))) (l7 : K.lookup f7 = some ⟨oc7, od7, .func (PySem.W.fnOf "_law_draw" "_law_draw" (defArgs s_law_draw) (defBody s_law_draw) (defScope s_law_draw) .none kV7 dc7 pm7 an7 cd7 ct7), sl7⟩) (c7 : PySem.W.codeIn K cd7 "_law_draw" = true) (k7 : PySem.W.keepIn K (.ref f7) = true)
    (a8 : PySem.W.nsIn K mainGlobals "_law_of" = some (some (.ref f8))) (l8 : K.lookup f8 = some ⟨oc8, od8, .func (PySem.W.fnOf "_law_of" "_law_of" (defArgs s_law_of) (defBody s_law_of) (defScope s_law_of) .none kV8 dc8 pm8 an8 cd8 ct8), sl8⟩) (c8 : PySem.W.codeIn K cd8 "_law_of" = true) (k8 : PySem.W.keepIn K (.ref f8) = true)
    (a9 : PySem.W.nsIn K mainGlobals "_law_family" = some (some (.ref f9))) (l9 : K.lookup f9 = some ⟨oc9, od9, .func (PySem.W.fnOf "_law_family" "_law_family" (defArgs s_law_family) (defBody s_law_family) (defScope s_law_family) .none kV9 dc9 pm9 an9 cd9 ct9), sl9⟩) (c9 : PySem.W.codeIn K cd9 "_law_family" = true) (k9 : PySem.W.keepIn K (.ref f9) = true)
    (a10 : PySem.W.nsIn K mainGlobals "_law_first" = some (some (.ref f10))) (l10 : K.lookup f10 = some ⟨oc10, od10, .func (PySem.W.fnOf "_law_first" "_law_first" (defArgs s_law_first) (defBody s_law_first) (defScope s_law_first) .none kV10 dc10 pm10 an10 cd10 ct10), sl10⟩) (c10 : PySem.W.codeIn K cd10 "_law_first" = true) (k10 : PySem.W.keepIn K (.ref f10) = true)
    (a11 : PySem.W.nsIn K mainGlobals "_law_shape" = some (some (.ref f11))) (l11 : K.lookup f11 = some ⟨oc11, od11, .func (PySem.W.fnOf "_law_shape" "_law_shape" (defArgs s_law_shape) (defBody s_law_shape) (defScope s_law_shape) .none kV11 dc11 pm11 an11 cd11 ct11), sl11⟩) (c11 : PySem.W.codeIn K cd11 "_law_shape" = true) (k11 : PySem.W.keepIn K (.ref f11) = true)
    (a12 : PySem.W.nsIn K mainGlobals "_law_normal" = some (some (.ref f12))) (l12 : K.lookup f12 = some ⟨oc12, od12, .func (PySem.W.fnOf "_law_normal" "_law_normal" (defArgs s_law_normal) (defBody s_law_normal) (defScope s_law_normal) .none kV12 dc12 pm12 an12 cd12 ct12), sl12⟩) (c12 : PySem.W.codeIn K cd12 "_law_normal" = true) (k12 : PySem.W.keepIn K (.ref f12) = true)
    (a13 : PySem.W.nsIn K mainGlobals "_law_near" = some (some (.ref f13))) (l13 : K.lookup f13 = some ⟨oc13, od13, .func (PySem.W.fnOf "_law_near" "_law_near" (defArgs s_law_near) (defBody s_law_near) (defScope s_law_near) .none kV13 dc13 pm13 an13 cd13 ct13), sl13⟩) (c13 : PySem.W.codeIn K cd13 "_law_near" = true) (k13 : PySem.W.keepIn K (.ref f13) = true)
    (a14 : PySem.W.nsIn K mainGlobals "times" = some (some (.ref f14))) (l14 : K.lookup f14 = some ⟨oc14, od14, .func (PySem.W.fnOf "times" "times" (defArgs s_times) (defBody s_times) (defScope s_times) .none kV14 dc14 pm14 an14 cd14 ct14), sl14⟩) (c14 : PySem.W.codeIn K cd14 "times" = true) (k14 : PySem.W.keepIn K (.ref f14) = true)
    (a15 : PySem.W.nsIn K mainGlobals "is_bad" = some (some (.ref f15))) (l15 : K.lookup f15 = some ⟨oc15, od15, .func (PySem.W.fnOf "is_bad" "is_bad" (defArgs s_is_bad) (defBody s_is_bad) (defScope s_is_bad) .none kV15 dc15 pm15 an15 cd15 ct15), sl15⟩) (c15 : PySem.W.codeIn K cd15 "is_bad" = true) (k15 : PySem.W.keepIn K (.ref f15) = true)
    (a16 : PySem.W.nsIn K mainGlobals "sign_of" = some (some (.ref f16))) (l16 : K.lookup f16 = some ⟨oc16, od16, .func (PySem.W.fnOf "sign_of" "sign_of" (defArgs s_sign_of) (defBody s_sign_of) (defScope s_sign_of) .none kV16 dc16 pm16 an16 cd16 ct16), sl16⟩) (c16 : PySem.W.codeIn K cd16 "sign_of" = true) (k16 : PySem.W.keepIn K (.ref f16) = true)
    (a17 : PySem.W.nsIn K mainGlobals "side_of" = some (some (.ref f17))) (l17 : K.lookup f17 = some ⟨oc17, od17, .func (PySem.W.fnOf "side_of" "side_of" (defArgs s_side_of) (defBody s_side_of) (defScope s_side_of) .none kV17 dc17 pm17 an17 cd17 ct17), sl17⟩) (c17 : PySem.W.codeIn K cd17 "side_of" = true) (k17 : PySem.W.keepIn K (.ref f17) = true)
    (a18 : PySem.W.nsIn K mainGlobals "_law_turned_count" = some (some (.ref f18))) (l18 : K.lookup f18 = some ⟨oc18, od18, .func (PySem.W.fnOf "_law_turned_count" "_law_turned_count" (defArgs s_law_turned_count) (defBody s_law_turned_count) (defScope s_law_turned_count) .none kV18 dc18 pm18 an18 cd18 ct18), sl18⟩) (c18 : PySem.W.codeIn K cd18 "_law_turned_count" = true) (k18 : PySem.W.keepIn K (.ref f18) = true)
    (a19 : PySem.W.nsIn K mainGlobals "_law_count" = some (some (.ref f19))) (l19 : K.lookup f19 = some ⟨oc19, od19, .func (PySem.W.fnOf "_law_count" "_law_count" (defArgs s_law_count) (defBody s_law_count) (defScope s_law_count) .none kV19 dc19 pm19 an19 cd19 ct19), sl19⟩) (c19 : PySem.W.codeIn K cd19 "_law_count" = true) (k19 : PySem.W.keepIn K (.ref f19) = true)
    (a20 : PySem.W.nsIn K mainGlobals "_law_is_bad" = some (some (.ref f20))) (l20 : K.lookup f20 = some ⟨oc20, od20, .func (PySem.W.fnOf "_law_is_bad" "_law_is_bad" (defArgs s_law_is_bad) (defBody s_law_is_bad) (defScope s_law_is_bad) .none kV20 dc20 pm20 an20 cd20 ct20), sl20⟩) (c20 : PySem.W.codeIn K cd20 "_law_is_bad" = true) (k20 : PySem.W.keepIn K (.ref f20) = true)
    (a21 : PySem.W.nsIn K mainGlobals "_law_right" = some (some (.ref f21))) (l21 : K.lookup f21 = some ⟨oc21, od21, .func (PySem.W.fnOf "_law_right" "_law_right" (defArgs s_law_right) (defBody s_law_right) (defScope s_law_right) .none kV21 dc21 pm21 an21 cd21 ct21), sl21⟩) (c21 : PySem.W.codeIn K cd21 "_law_right" = true) (k21 : PySem.W.keepIn K (.ref f21) = true)
    (a22 : PySem.W.nsIn K mainGlobals "law" = some (some (.ref f22))) (l22 : K.lookup f22 = some ⟨oc22, od22, .func (PySem.W.fnOf "law" "law" (defArgs s_law) (defBody s_law) (defScope s_law) .none kV22 dc22 pm22 an22 cd22 ct22), sl22⟩) (c22 : PySem.W.codeIn K cd22 "law" = true) (k22 : PySem.W.keepIn K (.ref f22) = true)
    (z_gcd : PySem.W.nsIn K mainGlobals "gcd" = some (some (.builtin "math.gcd"))) (z_int : PySem.W.nsIn K mainGlobals "int" = some none) (z_len : PySem.W.nsIn K mainGlobals "len" = some none) (z_min : PySem.W.nsIn K mainGlobals "min" = some none) (z_range : PySem.W.nsIn K mainGlobals "range" = some none) (z_repr : PySem.W.nsIn K mainGlobals "repr" = some none) (z_sorted : PySem.W.nsIn K mainGlobals "sorted" = some none) (z_tuple : PySem.W.nsIn K mainGlobals "tuple" = some none) :
    ∃ fd : FuncData, (∀ (s : Shared) (v : Value), BindsTo s fd ⟨[v], []⟩ [("script", v)]) ∧ ∀ base : Heap, K.In base → base.Ns mainGlobals mg → FnG P w K mg base 6 fa fd ["script"] (spF w K 1 f_law) := by
  have e := hfa.symm.trans (PySem.W.mg_of X G a22)
  cases e
  have T : Tx K mg := ⟨PySem.W.mg_of X G z_gcd, PySem.W.mg_none_of X G z_int, PySem.W.mg_none_of X G z_len, PySem.W.mg_none_of X G z_min, PySem.W.mg_none_of X G z_range, PySem.W.mg_none_of X G z_repr, PySem.W.mg_none_of X G z_sorted, PySem.W.mg_none_of X G z_tuple⟩
  refine ⟨PySem.W.fnOf "law" "law" (defArgs s_law) (defBody s_law) (defScope s_law) .none kV22 dc22 pm22 an22 cd22 ct22, fun s v => .of_eq rfl, fun base _ _ => ?_⟩
  have H_ratio : Callee P w K mg base 1 "ratio" 2 f_ratio := ok_ratio T  (fun_mk (st := s_ratio) l0 c0 k0) (PySem.W.mg_of X G a0)
  have H_over : Callee P w K mg base 2 "over" 2 f_over := ok_over T H_ratio (fun_mk (st := s_over) l1 c1 k1) (PySem.W.mg_of X G a1)
  have H_minus : Callee P w K mg base 2 "minus" 2 f_minus := ok_minus T H_ratio (fun_mk (st := s_minus) l2 c2 k2) (PySem.W.mg_of X G a2)
  have H_name_sum : Callee P w K mg base 3 "name_sum" 1 f_name_sum := ok_name_sum T H_ratio H_minus (fun_mk (st := s_name_sum) l3 c3 k3) (PySem.W.mg_of X G a3)
  have H_ball_count : Callee P w K mg base 4 "ball_count" 1 f_ball_count := ok_ball_count T H_ratio H_over H_name_sum (fun_mk (st := s_ball_count) l4 c4 k4) (PySem.W.mg_of X G a4)
  have H_law_begun : Callee P w K mg base 1 "_law_begun" 2 f_law_begun := ok_law_begun T  (fun_mk (st := s_law_begun) l5 c5 k5) (PySem.W.mg_of X G a5)
  have H_law_like : CalleeG P w K mg base 1 "_law_like" 2 f_law_like := ok_law_like T  (fun_mk (st := s_law_like) l6 c6 k6) (PySem.W.mg_of X G a6)
  have H_law_draw : Callee P w K mg base 1 "_law_draw" 2 f_law_draw := ok_law_draw T  (fun_mk (st := s_law_draw) l7 c7 k7) (PySem.W.mg_of X G a7)
  have H_law_of : Callee P w K mg base 2 "_law_of" 2 f_law_of := ok_law_of T H_law_draw (fun_mk (st := s_law_of) l8 c8 k8) (PySem.W.mg_of X G a8)
  have H_law_family : Callee P w K mg base 3 "_law_family" 1 f_law_family := ok_law_family T H_law_draw H_law_of (fun_mk (st := s_law_family) l9 c9 k9) (PySem.W.mg_of X G a9)
  have H_law_first : Callee P w K mg base 1 "_law_first" 1 f_law_first := ok_law_first T  (fun_mk (st := s_law_first) l10 c10 k10) (PySem.W.mg_of X G a10)
  have H_law_shape : Callee P w K mg base 2 "_law_shape" 2 f_law_shape := ok_law_shape T H_law_first (fun_mk (st := s_law_shape) l11 c11 k11) (PySem.W.mg_of X G a11)
  have H_law_normal : Callee P w K mg base 3 "_law_normal" 4 f_law_normal := ok_law_normal T H_law_shape (fun_mk (st := s_law_normal) l12 c12 k12) (PySem.W.mg_of X G a12)
  have H_law_near : Callee P w K mg base 4 "_law_near" 2 f_law_near := ok_law_near T H_law_draw H_law_of H_law_normal (fun_mk (st := s_law_near) l13 c13 k13) (PySem.W.mg_of X G a13)
  have H_times : Callee P w K mg base 2 "times" 2 f_times := ok_times T H_ratio (fun_mk (st := s_times) l14 c14 k14) (PySem.W.mg_of X G a14)
  have H_is_bad : Callee P w K mg base 1 "is_bad" 1 f_is_bad := ok_is_bad T  (fun_mk (st := s_is_bad) l15 c15 k15) (PySem.W.mg_of X G a15)
  have H_sign_of : Callee P w K mg base 1 "sign_of" 1 f_sign_of := ok_sign_of T  (fun_mk (st := s_sign_of) l16 c16 k16) (PySem.W.mg_of X G a16)
  have H_side_of : Callee P w K mg base 4 "side_of" 1 f_side_of := ok_side_of T H_sign_of H_name_sum H_is_bad (fun_mk (st := s_side_of) l17 c17 k17) (PySem.W.mg_of X G a17)
  have H_law_turned_count : Callee P w K mg base 1 "_law_turned_count" 1 f_law_turned_count := ok_law_turned_count T  (fun_mk (st := s_law_turned_count) l18 c18 k18) (PySem.W.mg_of X G a18)
  have H_law_count : Callee P w K mg base 2 "_law_count" 1 f_law_count := ok_law_count T H_law_turned_count (fun_mk (st := s_law_count) l19 c19 k19) (PySem.W.mg_of X G a19)
  have H_law_is_bad : Callee P w K mg base 1 "_law_is_bad" 1 f_law_is_bad := ok_law_is_bad T  (fun_mk (st := s_law_is_bad) l20 c20 k20) (PySem.W.mg_of X G a20)
  have H_law_right : CalleeG P w K mg base 5 "_law_right" 1 f_law_right := ok_law_right T H_ratio H_times H_name_sum H_is_bad H_side_of H_ball_count H_law_like H_law_count H_law_is_bad (fun_mk (st := s_law_right) l21 c21 k21) (PySem.W.mg_of X G a21)
  exact ok_law_fn T H_ball_count H_law_begun H_law_like H_law_family H_law_near H_law_right (fun_mk (st := s_law) l22 c22 k22)
theorem walk {l : PySem.W.OpenLaw} {q : Program} {loose : List Str} {XP : (Str → Option Value) → Heap → Prop} {YP : World → Heap → Prop} {d : DefRec} {K : Params → PySem.W.Frag} (hn : l.most = some 63) (hdf : d.params.defaults = [])
    (hY : ∀ (w : World) (h : Heap), YP w h → (K w.params).In h)
    (F : ∀ (w : World) (mg : Str → Option Value) (fa : Addr) (h : Heap), (K w.params).In h → h.Ns mainGlobals mg → mg d.name = some (.ref fa) →
      ∃ fd : FuncData, (∀ (s : Shared) (u : Value), BindsTo s fd ⟨[u], []⟩ [("script", u)]) ∧ ∀ base : Heap, (K w.params).In base → base.Ns mainGlobals mg → FnG l.prog w (K w.params) mg base 6 fa fd ["script"] (spF w (K w.params) 1 f_law)) :
    PySem.W.WalkO q loose XP YP l.row.toRowW d [] (fun f vs => PySem.call f vs) :=
  walk_ofG (n := 63) (k := 6) (x := "script") (sp := fun w => spF w (K w.params) 1 f_law) hn (by decide) hdf ⟨⟨rfl, by decide, by decide⟩, rfl⟩ hY F (fun w H a ns hl hS => law_end law_true hl hS)
end Py
open PySem PySem.W PyProof.Rows in
set_option maxRecDepth 100000 in
set_option maxHeartbeats 0 in
theorem PySem.Challenge.cw_flagfloors_k38_whole_names_of_the_ball_holds : PySem.Challenge.rw_flagfloors_k38_whole_names_of_the_ball.Holds := by
  w_on; o_law; k_head; (case hw => w_witness2)
  k_fill
  refine Py.walk (l := PySem.Challenge.rw_flagfloors_k38_whole_names_of_the_ball) rfl rfl (fun w h Y => PySem.W.kIn_of Y) ?F
  case F =>
    intro w mg fa h KX G hmg
    refine' Py.all_mk KX G hmg ?a0 ?l0 ?c0 ?k0 ?a1 ?l1 ?c1 ?k1 ?a2 ?l2 ?c2 ?k2 ?a3 ?l3 ?c3 ?k3 ?a4 ?l4 ?c4 ?k4 ?a5 ?l5 ?c5 ?k5 ?a6 ?l6 ?c6 ?k6 ?a7 ?l7 ?c7 ?k7 ?a8 ?l8 ?c8 ?k8 ?a9 ?l9 ?c9 ?k9 ?a10 ?l10 ?c10 ?k10 ?a11 ?l11 ?c11 ?k11 ?a12 ?l12 ?c12 ?k12 ?a13 ?l13 ?c13 ?k13 ?a14 ?l14 ?c14 ?k14 ?a15 ?l15 ?c15 ?k15 ?a16 ?l16 ?c16 ?k16 ?a17 ?l17 ?c17 ?k17 ?a18 ?l18 ?c18 ?k18 ?a19 ?l19 ?c19 ?k19 ?a20 ?l20 ?c20 ?k20 ?a21 ?l21 ?c21 ?k21 ?a22 ?l22 ?c22 ?k22 ?z_gcd ?z_int ?z_len ?z_min ?z_range ?z_repr ?z_sorted ?z_tuple
    (case a0 => k_is)
    (case l0 => k_is)
    (case c0 => k_is)
    (case k0 => k_is)
    (case a1 => k_is)
    (case l1 => k_is)
    (case c1 => k_is)
    (case k1 => k_is)
    (case a2 => k_is)
    (case l2 => k_is)
    (case c2 => k_is)
    (case k2 => k_is)
    (case a3 => k_is)
    (case l3 => k_is)
    (case c3 => k_is)
    (case k3 => k_is)
    (case a4 => k_is)
    (case l4 => k_is)
    (case c4 => k_is)
    (case k4 => k_is)
    (case a5 => k_is)
    (case l5 => k_is)
    (case c5 => k_is)
    (case k5 => k_is)
    (case a6 => k_is)
    (case l6 => k_is)
    (case c6 => k_is)
    (case k6 => k_is)
    (case a7 => k_is)
    (case l7 => k_is)
    (case c7 => k_is)
    (case k7 => k_is)
    (case a8 => k_is)
    (case l8 => k_is)
    (case c8 => k_is)
    (case k8 => k_is)
    (case a9 => k_is)
    (case l9 => k_is)
    (case c9 => k_is)
    (case k9 => k_is)
    (case a10 => k_is)
    (case l10 => k_is)
    (case c10 => k_is)
    (case k10 => k_is)
    (case a11 => k_is)
    (case l11 => k_is)
    (case c11 => k_is)
    (case k11 => k_is)
    (case a12 => k_is)
    (case l12 => k_is)
    (case c12 => k_is)
    (case k12 => k_is)
    (case a13 => k_is)
    (case l13 => k_is)
    (case c13 => k_is)
    (case k13 => k_is)
    (case a14 => k_is)
    (case l14 => k_is)
    (case c14 => k_is)
    (case k14 => k_is)
    (case a15 => k_is)
    (case l15 => k_is)
    (case c15 => k_is)
    (case k15 => k_is)
    (case a16 => k_is)
    (case l16 => k_is)
    (case c16 => k_is)
    (case k16 => k_is)
    (case a17 => k_is)
    (case l17 => k_is)
    (case c17 => k_is)
    (case k17 => k_is)
    (case a18 => k_is)
    (case l18 => k_is)
    (case c18 => k_is)
    (case k18 => k_is)
    (case a19 => k_is)
    (case l19 => k_is)
    (case c19 => k_is)
    (case k19 => k_is)
    (case a20 => k_is)
    (case l20 => k_is)
    (case c20 => k_is)
    (case k20 => k_is)
    (case a21 => k_is)
    (case l21 => k_is)
    (case c21 => k_is)
    (case k21 => k_is)
    (case a22 => k_is)
    (case l22 => k_is)
    (case c22 => k_is)
    (case k22 => k_is)
    (case z_gcd => k_is)
    (case z_int => k_is)
    (case z_len => k_is)
    (case z_min => k_is)
    (case z_range => k_is)
    (case z_repr => k_is)
    (case z_sorted => k_is)
    (case z_tuple => k_is)
