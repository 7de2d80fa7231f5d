import PyProof.Rows.All
import Wide.All
import OpenK.AllK
import Wide.FinOn
import HandS.ForMost
import HandS.ForExc
import HandS.Wide
import HandS.WideBits
import HandS.RaiseMore
import HandS.More
import HandS.Style
import HandS.TryOnly
import KE.GoesEnum
import HandS.ExcField
import HandS.ExcInit
import HandS.IsInst
import HandS.SetFor
import PySem.Challenge.RW_runbound_k82_whole_bursts
set_option Elab.async false
set_option linter.all false
set_option maxRecDepth 100000
set_option maxHeartbeats 4000000
/-! G: plain data over the hand layer: what a variable holds (frozen data, or a list of its own), readings over that -/
namespace G
open PySem PySem.Spec PyProof.Rows L2

/-- plain data -/
inductive D where
  | non | bl (b : Bool) | int (i : Int) | str (x : Str) | lst (xs : List D) | tup (xs : List D) | scr (ns : List Int)
/-- what an own object holds -/
inductive C where
  | lst (xs : List D) | dk (kvs : List (Key × D)) | dt (kvs : List (List Key × D))
/-- a slot: unknown, data that stays, an own object (pinned at its address where t says so) -/
inductive S where
  | un | fz (d : D) | ow (t : Option Addr) (c : C)
/-- an exception: of a class alone, or with one field -/
inductive Ex where
  | pl (c : Addr) | fd (c : Addr) (f : Str) (v : V)

section
variable (K : PySem.W.Frag) (F : Hp)
mutual
inductive Rep : V → D → Prop
  | non : Rep .non .non
  | bl (b : Bool) : Rep (.bl b) (.bl b)
  | int (i : Int) : Rep (.int i) (.int i)
  | str (x : Str) : Rep (.str x) (.str x)
  | lst {a : Addr} {vs : List V} {ds : List D} : F a = some (.lst vs) → Reps vs ds → Rep (.ref a) (.lst ds)
  | tup {a : Addr} {vs : List V} {ds : List D} : F a = some (.tup vs) → Reps vs ds → Rep (.ref a) (.tup ds)
  | scr {a : Addr} {ns : List Int} : SqL K F a (ns.map V.int) → Rep (.ref a) (.scr ns)
inductive Reps : List V → List D → Prop
  | nil : Reps [] []
  | cons {v : V} {vs : List V} {d : D} {ds : List D} : Rep v d → Reps vs ds → Reps (v :: vs) (d :: ds)
end
inductive RepKV {κ : Type} : List (κ × V) → List (κ × D) → Prop
  | nil : RepKV [] []
  | cons {k : κ} {v : V} {d : D} {r : List (κ × V)} {s : List (κ × D)} : Rep K F v d → RepKV r s → RepKV ((k, v) :: r) ((k, d) :: s)
inductive RepC : HO → C → Prop
  | lst {vs : List V} {ds : List D} : Reps K F vs ds → RepC (.lst vs) (.lst ds)
  | dk {a : List (Key × V)} {b : List (Key × D)} : RepKV K F a b → RepC (.dK a) (.dk b)
  | dt {a : List (List Key × V)} {b : List (List Key × D)} : RepKV K F a b → RepC (.dT a) (.dt b)
end

section
variable {K : PySem.W.Frag} {F F' : Hp}
mutual
theorem Rep.mono' (h : Same F F') : ∀ (d : D) (v : V), Rep K F v d → Rep K F' v d
  | .non, _, .non => .non
  | .bl _, _, .bl _ => .bl _
  | .int _, _, .int _ => .int _
  | .str _, _, .str _ => .str _
  | .lst ds, _, .lst e r => .lst (h _ _ e) (Reps.mono' h ds _ r)
  | .tup ds, _, .tup e r => .tup (h _ _ e) (Reps.mono' h ds _ r)
  | .scr _, _, .scr e => .scr (h.seq e)
theorem Reps.mono' (h : Same F F') : ∀ (ds : List D) (vs : List V), Reps K F vs ds → Reps K F' vs ds
  | [], _, .nil => .nil
  | d :: ds, _, .cons r t => .cons (Rep.mono' h d _ r) (Reps.mono' h ds _ t)
end
theorem Rep.mono {d : D} {v : V} (r : Rep K F v d) (h : Same F F') : Rep K F' v d := Rep.mono' h d v r
theorem Reps.mono {ds : List D} {vs : List V} (r : Reps K F vs ds) (h : Same F F') : Reps K F' vs ds := Reps.mono' h ds vs r
theorem RepKV.mono {κ : Type} {a : List (κ × V)} {b : List (κ × D)} (r : RepKV K F a b) (h : Same F F') : RepKV K F' a b := by
  induction r with
  | nil => exact .nil
  | cons q _ ih => exact .cons (q.mono h) ih
theorem RepC.mono {o : HO} {c : C} (r : RepC K F o c) (h : Same F F') : RepC K F' o c := by
  cases r with
  | lst q => exact .lst (q.mono h)
  | dk q => exact .dk (q.mono h)
  | dt q => exact .dt (q.mono h)
theorem Reps.length : ∀ {vs : List V} {ds : List D}, Reps K F vs ds → vs.length = ds.length
  | [], _, h => by cases h; rfl
  | _ :: vs, _, h => by
    cases h with
    | cons _ t => show vs.length + 1 = _; rw [Reps.length t]; rfl
theorem Reps.get : ∀ {vs : List V} {ds : List D} (i : Nat) {d : D}, Reps K F vs ds → ds[i]? = some d → ∃ v, vs[i]? = some v ∧ Rep K F v d
  | [], _, i, _, h, e => by cases h; simp at e
  | v :: vs, _, i, d, h, e => by
    cases h with
    | cons r t =>
      cases i with
      | zero => simp at e; subst e; exact ⟨v, rfl, r⟩
      | succ i => simp at e; simpa using Reps.get i t e
theorem Reps.append {vs vs' : List V} {ds ds' : List D} (a : Reps K F vs ds) (b : Reps K F vs' ds') : Reps K F (vs ++ vs') (ds ++ ds') := by
  induction vs generalizing ds with
  | nil => cases a; exact b
  | cons v vs ih => cases a with | cons r t => exact .cons r (ih t)
theorem Reps.take {vs : List V} {ds : List D} (n : Nat) (a : Reps K F vs ds) : Reps K F (vs.take n) (ds.take n) := by
  induction vs generalizing ds n with
  | nil => cases a; simpa using Reps.nil
  | cons v vs ih => cases a with
    | cons r t => cases n with
      | zero => exact .nil
      | succ n => exact .cons r (ih n t)
theorem Reps.drop {vs : List V} {ds : List D} (n : Nat) (a : Reps K F vs ds) : Reps K F (vs.drop n) (ds.drop n) := by
  induction vs generalizing ds n with
  | nil => cases a; simpa using Reps.nil
  | cons v vs ih => cases a with
    | cons r t => cases n with
      | zero => exact .cons r t
      | succ n => exact ih n t
theorem Reps.set {vs : List V} {ds : List D} {v : V} {d : D} (n : Nat) (a : Reps K F vs ds) (r : Rep K F v d) : Reps K F (vs.set n v) (ds.set n d) := by
  induction vs generalizing ds n with
  | nil => cases a; simpa using Reps.nil
  | cons v vs ih => cases a with
    | cons q t => cases n with
      | zero => exact .cons r t
      | succ n => exact .cons q (ih n t)
theorem Reps.rev {vs : List V} {ds : List D} (a : Reps K F vs ds) : Reps K F vs.reverse ds.reverse := by
  induction vs generalizing ds with
  | nil => cases a; exact .nil
  | cons v vs ih => cases a with
    | cons r t => simp only [List.reverse_cons]; exact (ih t).append (.cons r .nil)
theorem Reps.eraseIdx {vs : List V} {ds : List D} (n : Nat) (a : Reps K F vs ds) : Reps K F (vs.eraseIdx n) (ds.eraseIdx n) := by
  induction vs generalizing ds n with
  | nil => cases a; simpa using Reps.nil
  | cons v vs ih => cases a with
    | cons q t => cases n with
      | zero => exact t
      | succ n => exact .cons q (ih n t)
/-- ints, texts, truths: their values -/
def dV : D → Option V
  | .non => some .non
  | .bl b => some (.bl b)
  | .int i => some (.int i)
  | .str x => some (.str x)
  | _ => none
theorem Rep.int_inv {v : V} {i : Int} (r : Rep K F v (.int i)) : v = .int i := by cases r; rfl
theorem Rep.str_inv {v : V} {x : Str} (r : Rep K F v (.str x)) : v = .str x := by cases r; rfl
theorem Rep.bl_inv {v : V} {b : Bool} (r : Rep K F v (.bl b)) : v = .bl b := by cases r; rfl
theorem Rep.non_inv {v : V} (r : Rep K F v .non) : v = .non := by cases r; rfl
theorem Rep.lst_inv {v : V} {ds : List D} (r : Rep K F v (.lst ds)) : ∃ a vs, v = .ref a ∧ F a = some (.lst vs) ∧ Reps K F vs ds := by
  cases r with | lst e r => exact ⟨_, _, rfl, e, r⟩
theorem Rep.tup_inv {v : V} {ds : List D} (r : Rep K F v (.tup ds)) : ∃ a vs, v = .ref a ∧ F a = some (.tup vs) ∧ Reps K F vs ds := by
  cases r with | tup e r => exact ⟨_, _, rfl, e, r⟩
theorem Rep.scr_inv {v : V} {ns : List Int} (r : Rep K F v (.scr ns)) : ∃ a, v = .ref a ∧ SqL K F a (ns.map V.int) := by
  cases r with | scr e => exact ⟨_, rfl, e⟩
theorem Reps.ints : ∀ {vs : List V} {ns : List Int}, Reps K F vs (ns.map D.int) → vs = ns.map V.int
  | _, [], h => by cases h; rfl
  | _, n :: ns, h => by cases h with | cons r t => rw [r.int_inv, Reps.ints t]; rfl
theorem Reps.strs : ∀ {vs : List V} {ns : List Str}, Reps K F vs (ns.map D.str) → vs = ns.map V.str
  | _, [], h => by cases h; rfl
  | _, n :: ns, h => by cases h with | cons r t => rw [r.str_inv, Reps.strs t]; rfl
theorem Reps.bls : ∀ {vs : List V} {ns : List Bool}, Reps K F vs (ns.map D.bl) → vs = ns.map V.bl
  | _, [], h => by cases h; rfl
  | _, n :: ns, h => by cases h with | cons r t => rw [r.bl_inv, Reps.bls t]; rfl
end

/-! ### states -/
/-- the slots, the own objects' addresses in order -/
inductive RS (K : PySem.W.Frag) (F H : Hp) : List Addr → List S → L2.St → Prop
  | nil : RS K F H [] [] []
  | un {A : List Addr} {ρ : List S} {σ : L2.St} {o : Option V} : RS K F H A ρ σ → RS K F H A (.un :: ρ) (o :: σ)
  | fz {A : List Addr} {ρ : List S} {σ : L2.St} {v : V} {d : D} : Rep K F v d → RS K F H A ρ σ → RS K F H A (.fz d :: ρ) (some v :: σ)
  | ow {A : List Addr} {ρ : List S} {σ : L2.St} {p : Addr} {o : HO} {c : C} {t : Option Addr} : H p = some o → RepC K F o c → F p = none → p ∉ A → (∀ q, t = some q → q = p) → RS K F H A ρ σ →
      RS K F H (p :: A) (.ow t c :: ρ) (some (V.ref p) :: σ)
structure R (K : PySem.W.Frag) (F : Hp) (A : List Addr) (ρ : List S) (σ : L2.St) (H : Hp) : Prop where
  same : Same F H
  rs : RS K F H A ρ σ
structure Stp (F H : Hp) (A : List Addr) (F' H' : Hp) (A' : List Addr) : Prop where
  ext : Same F F'
  kp : ∀ p o, H p = some o → p ∉ A → H' p = some o
  fr : ∀ p o, H p = some o → p ∉ A → F' p = F p
  sub : ∀ p, p ∈ A' → p ∈ A ∨ H p = none
  dom : ∀ p, H' p = none → H p = none
theorem Stp.refl {F H : Hp} {A : List Addr} : Stp F H A F H A := ⟨Same.refl F, fun _ _ h _ => h, fun _ _ _ _ => rfl, fun _ h => .inl h, fun _ h => h⟩
theorem Stp.trans {F H F1 H1 F2 H2 : Hp} {A A1 A2 : List Addr} (a : Stp F H A F1 H1 A1) (b : Stp F1 H1 A1 F2 H2 A2) : Stp F H A F2 H2 A2 := by
  have nA : ∀ p o, H p = some o → p ∉ A → p ∉ A1 := fun p o h n hp => by
    rcases a.sub p hp with z | z
    · exact n z
    · rw [h] at z; cases z
  refine ⟨a.ext.trans b.ext, fun p o h n => b.kp p o (a.kp p o h n) (nA p o h n), fun p o h n => (b.fr p o (a.kp p o h n) (nA p o h n)).trans (a.fr p o h n), fun p h => ?_, fun p h => a.dom p (b.dom p h)⟩
  rcases b.sub p h with z | z
  · exact a.sub p z
  · cases q : H p with
    | none => exact .inr rfl
    | some o =>
      by_cases hp : p ∈ A
      · exact .inl hp
      · rw [a.kp p o q hp] at z; cases z
/-- nothing but new objects -/
structure New (F H F' H' : Hp) : Prop where
  ext : Same F F'
  kp : Same H H'
  sm : Same F' H'
  fr : ∀ p o, H p = some o → F' p = F p
theorem New.refl {F H : Hp} (s : Same F H) : New F H F H := ⟨Same.refl F, Same.refl H, s, fun _ _ _ => rfl⟩
theorem New.stp {F H F' H' : Hp} {A : List Addr} (n : New F H F' H') : Stp F H A F' H' A := ⟨n.ext, fun p o h _ => n.kp p o h, fun p o h _ => n.fr p o h, fun _ h => .inl h, fun _ h => n.kp.free h⟩
theorem New.trans {F H F1 H1 F2 H2 : Hp} (a : New F H F1 H1) (b : New F1 H1 F2 H2) : New F H F2 H2 :=
  ⟨a.ext.trans b.ext, a.kp.trans b.kp, b.sm, fun p o h => (b.fr p o (a.kp p o h)).trans (a.fr p o h)⟩
theorem upd_eq {H : Hp} {p q : Addr} {o : HO} : upd H p o q = if q = p then some o else H q := rfl
theorem same_upd2 {F H : Hp} {p : Addr} {o : HO} (s : Same F H) : Same (upd F p o) (upd H p o) := fun q u e => by
  rw [upd_eq] at e ⊢
  split at e
  · rename_i h; rw [if_pos h]; exact e
  · rename_i h; rw [if_neg h]; exact s q u e
theorem same_new {H : Hp} {p : Addr} {o : HO} (h : H p = none) : Same H (upd H p o) := fun q u e => by
  rw [upd_ne (ne_of_none e h)]; exact e
theorem free_of {F H : Hp} {p : Addr} (s : Same F H) (h : H p = none) : F p = none := s.free h
/-- a new object that stays -/
theorem New.mk1 {F H : Hp} {p : Addr} (o : HO) (s : Same F H) (h : H p = none) : New F H (upd F p o) (upd H p o) :=
  ⟨same_new (free_of s h), same_new h, same_upd2 s, fun q u e => upd_ne (ne_of_none e h)⟩
/-- a new object that is not (yet) said to stay -/
theorem New.mk0 {F H : Hp} {p : Addr} (o : HO) (s : Same F H) (h : H p = none) : New F H F (upd H p o) :=
  ⟨Same.refl F, same_new h, s.trans (same_new h), fun _ _ _ => rfl⟩

section
variable {K : PySem.W.Frag} {F F' H H' : Hp} {A : List Addr} {ρ : List S} {σ : L2.St}
theorem RS.length (r : RS K F H A ρ σ) : ρ.length = σ.length := by
  induction r with
  | nil => rfl
  | un _ ih => simp [ih]
  | fz _ _ ih => simp [ih]
  | ow _ _ _ _ _ _ ih => simp [ih]
theorem RS.move (r : RS K F H A ρ σ) (h : Same F F') (k : ∀ p, p ∈ A → H' p = H p ∧ F' p = none) : RS K F' H' A ρ σ := by
  induction r with
  | nil => exact .nil
  | un _ ih => exact .un (ih k)
  | fz q _ ih => exact .fz (q.mono h) (ih k)
  | ow e c n na t _ ih =>
    have k0 := k _ List.mem_cons_self
    exact .ow (k0.1.trans e) (c.mono h) k0.2 na t (ih fun p hp => k p (List.mem_cons_of_mem _ hp))
theorem RS.there (r : RS K F H A ρ σ) : ∀ p, p ∈ A → ∃ o, H p = some o ∧ F p = none := by
  induction r with
  | nil => intro p h; cases h
  | un _ ih => exact ih
  | fz _ _ ih => exact ih
  | ow e _ n _ _ _ ih =>
    intro p h
    rcases List.mem_cons.mp h with z | z
    · subst z; exact ⟨_, e, n⟩
    · exact ih p z
theorem R.new (r : R K F A ρ σ H) (n : New F H F' H') : R K F' A ρ σ H' := ⟨n.sm, r.rs.move n.ext fun p hp => by
  obtain ⟨o, e, f⟩ := r.rs.there p hp
  exact ⟨(n.kp p o e).trans e.symm, (n.fr p o e).trans f⟩⟩
theorem RS.getF (r : RS K F H A ρ σ) : ∀ {i : Nat} {d : D}, ρ[i]? = some (.fz d) → ∃ v, σ[i]? = some (some v) ∧ Rep K F v d := by
  induction r with
  | nil => intro i d e; simp at e
  | un _ ih => intro i d e; cases i with
    | zero => simp at e
    | succ i => simpa using ih (by simpa using e)
  | fz q _ ih => intro i d e; cases i with
    | zero => simp at e; subst e; exact ⟨_, rfl, q⟩
    | succ i => simpa using ih (by simpa using e)
  | ow _ _ _ _ _ _ ih => intro i d e; cases i with
    | zero => simp at e
    | succ i => simpa using ih (by simpa using e)
theorem RS.getO (r : RS K F H A ρ σ) : ∀ {i : Nat} {t : Option Addr} {c : C}, ρ[i]? = some (.ow t c) →
    ∃ p o, σ[i]? = some (some (V.ref p)) ∧ p ∈ A ∧ H p = some o ∧ RepC K F o c ∧ F p = none ∧ ∀ q, t = some q → q = p := by
  induction r with
  | nil => intro i t c e; simp at e
  | un _ ih => intro i t c e; cases i with
    | zero => simp at e
    | succ i => simpa using ih (by simpa using e)
  | fz _ _ ih => intro i t c e; cases i with
    | zero => simp at e
    | succ i => simpa using ih (by simpa using e)
  | ow e1 c1 n1 na t1 _ ih => intro i t c e; cases i with
    | zero =>
      simp at e
      obtain ⟨rfl, rfl⟩ := e
      exact ⟨_, _, rfl, List.mem_cons_self, e1, c1, n1, t1⟩
    | succ i =>
      obtain ⟨p, o, h1, h2, h3⟩ := ih (i := i) (by simpa using e)
      exact ⟨p, o, by simpa using h1, List.mem_cons_of_mem _ h2, h3⟩
/-- data stored -/
theorem RS.setF (r : RS K F H A ρ σ) {v : V} {d : D} (q : Rep K F v d) : ∀ i : Nat, ∃ A', (∀ p, p ∈ A' → p ∈ A) ∧ RS K F H A' (ρ.set i (.fz d)) (σ.set i (some v)) := by
  induction r with
  | nil => intro i; exact ⟨[], fun _ h => h, by simpa using RS.nil⟩
  | un r0 ih => intro i; cases i with
    | zero => exact ⟨_, fun _ h => h, .fz q r0⟩
    | succ i => obtain ⟨A', s, r'⟩ := ih i; exact ⟨A', s, .un r'⟩
  | fz q0 r0 ih => intro i; cases i with
    | zero => exact ⟨_, fun _ h => h, .fz q r0⟩
    | succ i => obtain ⟨A', s, r'⟩ := ih i; exact ⟨A', s, .fz q0 r'⟩
  | ow e c n na t r0 ih => intro i; cases i with
    | zero => exact ⟨_, fun _ h => List.mem_cons_of_mem _ h, .fz q r0⟩
    | succ i =>
      obtain ⟨A', s, r'⟩ := ih i
      refine ⟨_ :: A', fun p h => ?_, .ow e c n (fun z => na (s _ z)) t r'⟩
      rcases List.mem_cons.mp h with z | z
      · rw [z]; exact List.mem_cons_self
      · exact List.mem_cons_of_mem _ (s p z)
/-- a new object of one's own stored -/
theorem RS.setO (r : RS K F H A ρ σ) {p : Addr} {o : HO} {c : C} (hp : p ∉ A) (e : H p = some o) (q : RepC K F o c) (n : F p = none) :
    ∀ i : Nat, ∃ A', (∀ q, q ∈ A' → q ∈ A ∨ q = p) ∧ RS K F H A' (ρ.set i (.ow none c)) (σ.set i (some (V.ref p))) := by
  induction r with
  | nil => intro i; exact ⟨[], fun _ h => .inl h, by simpa using RS.nil⟩
  | un r0 ih => intro i; cases i with
    | zero => exact ⟨p :: _, fun q h => by rcases List.mem_cons.mp h with z | z; exact .inr z; exact .inl z, .ow e q n hp (fun _ z => nomatch z) r0⟩
    | succ i => obtain ⟨A', s, r'⟩ := ih hp i; exact ⟨A', s, .un r'⟩
  | fz q0 r0 ih => intro i; cases i with
    | zero => exact ⟨p :: _, fun q h => by rcases List.mem_cons.mp h with z | z; exact .inr z; exact .inl z, .ow e q n hp (fun _ z => nomatch z) r0⟩
    | succ i => obtain ⟨A', s, r'⟩ := ih hp i; exact ⟨A', s, .fz q0 r'⟩
  | ow e0 c0 n0 na0 t0 r0 ih => intro i
                                have hp' := fun z => hp (List.mem_cons_of_mem _ z)
                                cases i with
    | zero => exact ⟨p :: _, fun q h => by rcases List.mem_cons.mp h with z | z; exact .inr z; exact .inl (List.mem_cons_of_mem _ z), .ow e q n hp' (fun _ z => nomatch z) r0⟩
    | succ i =>
      obtain ⟨A', s, r'⟩ := ih hp' i
      refine ⟨_ :: A', fun q h => ?_, .ow e0 c0 n0 (fun z => ?_) t0 r'⟩
      · rcases List.mem_cons.mp h with z | z
        · exact .inl (by rw [z]; exact List.mem_cons_self)
        · rcases s q z with y | y
          · exact .inl (List.mem_cons_of_mem _ y)
          · exact .inr y
      · rcases s _ z with y | y
        · exact na0 y
        · exact hp (by rw [← y]; exact List.mem_cons_self)
/-- an own object's content changed -/
theorem RS.upd (r : RS K F H A ρ σ) {p : Addr} {o' : HO} {c' : C} (q : RepC K F o' c') : ∀ {i : Nat} {t : Option Addr} {c : C}, ρ[i]? = some (.ow t c) → σ[i]? = some (some (V.ref p)) →
    RS K F (L2.upd H p o') A (ρ.set i (.ow t c')) σ := by
  induction r with
  | nil => intro i t c e; simp at e
  | un r0 ih => intro i t c e e2; cases i with
    | zero => simp at e
    | succ i => exact .un (ih (by simpa using e) (by simpa using e2))
  | fz q0 r0 ih => intro i t c e e2; cases i with
    | zero => simp at e
    | succ i => exact .fz q0 (ih (by simpa using e) (by simpa using e2))
  | ow e0 c0 n0 na0 t0 r0 ih => intro i t c e e2; cases i with
    | zero =>
      simp at e e2
      obtain ⟨rfl, rfl⟩ := e
      subst e2
      exact .ow upd_same q n0 na0 t0 (r0.move (Same.refl F) fun b hb => ⟨upd_ne (fun z => na0 (z ▸ hb)), by obtain ⟨_, _, n⟩ := r0.there b hb; exact n⟩)
    | succ i =>
      have e' := (show _ from by simpa using e : _)
      have e2' := (show _ from by simpa using e2 : _)
      obtain ⟨p1, o1, h1, h2, _⟩ := r0.getO (i := i) (t := t) (c := c) (by simpa using e)
      have z : p1 = p := by
        have y : some (some (V.ref p1)) = some (some (V.ref p)) := h1.symm.trans (by simpa using e2)
        simpa using y
      exact .ow ((upd_ne fun y => na0 (by rw [y, ← z]; exact h2)).trans e0) c0 n0 na0 t0 (ih (by simpa using e) (by simpa using e2))
/-- an own list is frozen -/
theorem RS.freeze (r : RS K F H A ρ σ) : ∀ {i : Nat} {ds : List D}, ρ[i]? = some (.ow none (.lst ds)) →
    ∃ p vs A', σ[i]? = some (some (V.ref p)) ∧ H p = some (.lst vs) ∧ Reps K F vs ds ∧ F p = none ∧ p ∈ A ∧ (∀ q, q ∈ A' → q ∈ A) ∧ p ∉ A' ∧ RS K (L2.upd F p (.lst vs)) H A' (ρ.set i (.fz (.lst ds))) σ := by
  induction r with
  | nil => intro i ds e; simp at e
  | un r0 ih => intro i ds e; cases i with
    | zero => simp at e
    | succ i =>
      obtain ⟨p, vs, A', h1, h2, h3, h4, h5, h6, h7, h8⟩ := ih (i := i) (by simpa using e)
      exact ⟨p, vs, A', by simpa using h1, h2, h3, h4, h5, h6, h7, .un h8⟩
  | fz q0 r0 ih => intro i ds e; cases i with
    | zero => simp at e
    | succ i =>
      obtain ⟨p, vs, A', h1, h2, h3, h4, h5, h6, h7, h8⟩ := ih (i := i) (by simpa using e)
      exact ⟨p, vs, A', by simpa using h1, h2, h3, h4, h5, h6, h7, .fz (q0.mono (same_new h4)) h8⟩
  | ow e0 c0 n0 na0 t0 r0 ih => intro i ds e; cases i with
    | zero =>
      simp at e
      obtain ⟨rfl, rfl⟩ := e
      cases c0 with
      | lst c0 =>
        refine ⟨_, _, _, rfl, e0, c0, n0, List.mem_cons_self, fun q h => List.mem_cons_of_mem _ h, na0, .fz (.lst upd_same (c0.mono (same_new n0))) (r0.move (same_new n0) fun b hb => ⟨rfl, ?_⟩)⟩
        obtain ⟨_, _, n⟩ := r0.there b hb
        exact (upd_ne (fun (z : b = _) => na0 (by rw [← z]; exact hb))).trans n
    | succ i =>
      obtain ⟨p, vs, A', h1, h2, h3, h4, h5, h6, h7, h8⟩ := ih (i := i) (by simpa using e)
      have ne := fun z => na0 (show _ ∈ _ from Eq.mpr (congrArg (· ∈ _) z) h5)
      refine ⟨p, vs, _ :: A', by simpa using h1, h2, h3, h4, List.mem_cons_of_mem _ h5, fun q h => ?_, fun h => ?_, .ow e0 (c0.mono (same_new h4)) ((upd_ne ne).trans n0) (fun z => na0 (h6 _ z)) t0 h8⟩
      · rcases List.mem_cons.mp h with z | z
        · rw [z]; exact List.mem_cons_self
        · exact List.mem_cons_of_mem _ (h6 q z)
      · rcases List.mem_cons.mp h with z | z
        · exact ne z.symm
        · exact h7 z
end
/-- less is known -/
def Wk : List S → List S → Prop
  | [], [] => True
  | a :: as, b :: bs => (a = .un ∨ a = b) ∧ Wk as bs
  | _, _ => False
theorem Wk.refl : ∀ ρ : List S, Wk ρ ρ
  | [] => trivial
  | _ :: r => ⟨.inr rfl, Wk.refl r⟩
theorem RS.weak {K : PySem.W.Frag} {F H : Hp} {A : List Addr} {ρ : List S} {σ : L2.St} (r : RS K F H A ρ σ) : ∀ {ρ' : List S}, Wk ρ' ρ → ∃ A', (∀ p, p ∈ A' → p ∈ A) ∧ RS K F H A' ρ' σ := by
  induction r with
  | nil => intro ρ' w; cases ρ' with
    | nil => exact ⟨[], fun _ h => h, .nil⟩
    | cons _ _ => exact w.elim
  | un r0 ih => intro ρ' w; cases ρ' with
    | nil => exact w.elim
    | cons a as =>
      obtain ⟨A', s, r'⟩ := ih w.2
      rcases w.1 with z | z <;> (subst z; exact ⟨A', s, .un r'⟩)
  | fz q r0 ih => intro ρ' w; cases ρ' with
    | nil => exact w.elim
    | cons a as =>
      obtain ⟨A', s, r'⟩ := ih w.2
      rcases w.1 with z | z
      · subst z; exact ⟨A', s, .un r'⟩
      · subst z; exact ⟨A', s, .fz q r'⟩
  | ow e c n na t r0 ih => intro ρ' w; cases ρ' with
    | nil => exact w.elim
    | cons a as =>
      obtain ⟨A', s, r'⟩ := ih w.2
      rcases w.1 with z | z
      · subst z; exact ⟨A', fun p h => List.mem_cons_of_mem _ (s p h), .un r'⟩
      · subst z
        refine ⟨_ :: A', fun p h => ?_, .ow e c n (fun z => na (s _ z)) t r'⟩
        rcases List.mem_cons.mp h with z | z
        · rw [z]; exact List.mem_cons_self
        · exact List.mem_cons_of_mem _ (s p z)
/-- fewer own addresses -/
theorem Stp.less {F H : Hp} {A A' : List Addr} (s : ∀ p, p ∈ A' → p ∈ A) : Stp F H A F H A' := ⟨Same.refl F, fun _ _ h _ => h, fun _ _ _ _ => rfl, fun p h => .inl (s p h), fun _ h => h⟩
theorem R.weak {K : PySem.W.Frag} {F H : Hp} {A : List Addr} {ρ ρ' : List S} {σ : L2.St} (r : R K F A ρ σ H) (w : Wk ρ' ρ) : ∃ A', Stp F H A F H A' ∧ R K F A' ρ' σ H := by
  obtain ⟨A', s, r'⟩ := r.rs.weak w
  exact ⟨A', Stp.less s, r.same, r'⟩
end G

/-! G: expressions -/
namespace G
open PySem PySem.Spec PyProof.Rows L2

abbrev XP := Ex → List S → Prop
abbrev ME := List S → (D → List S → Prop) → XP → Prop
abbrev MO := List S → (C → List S → Prop) → XP → Prop
abbrev MT := List S → (Bool → List S → Prop) → XP → Prop
abbrev MA := List S → (List D → List S → Prop) → XP → Prop
abbrev MP := List S → (Option Int → List S → Prop) → XP → Prop

inductive ExR (H : Hp) : Ex → Value → Option Addr → Prop
  | pl (c : Addr) : ExR H (.pl c) (.ref c) none
  | fd {c : Addr} {f : Str} {v : V} {d : Addr} : H d = some (.xd [(f, v)]) → ExR H (.fd c f v) (.ref c) (some d)

/-- what an exception comes to -/
def XC (K : PySem.W.Frag) (W : WX) (F H : Hp) (A : List Addr) (σ : L2.St) (PX : XP) : Prop :=
  ∀ x ρ' F' H' A' cls dd, PX x ρ' → Stp F H A F' H' A' → R K F' A' ρ' σ H' → ExR H' x cls dd → W cls dd σ H'
theorem XC.step {K : PySem.W.Frag} {W : WX} {F H F1 H1 : Hp} {A A1 : List Addr} {σ : L2.St} {PX : XP} (h : XC K W F H A σ PX) (s : Stp F H A F1 H1 A1) : XC K W F1 H1 A1 σ PX :=
  fun x ρ' F' H' A' cls dd hx s' r q => h x ρ' F' H' A' cls dd hx (s.trans s') r q

def lift (K : PySem.W.Frag) (W : WX) (m : ME) : TE := fun σ H Q => ∃ F A ρ P PX, R K F A ρ σ H ∧ m ρ P PX ∧
  (∀ d ρ' v F' H' A', P d ρ' → Stp F H A F' H' A' → R K F' A' ρ' σ H' → Rep K F' v d → Q v H') ∧ XC K W F H A σ PX
/-- a new object of one's own -/
def liftO (K : PySem.W.Frag) (W : WX) (m : MO) : TE := fun σ H Q => ∃ F A ρ P PX, R K F A ρ σ H ∧ m ρ P PX ∧
  (∀ c ρ' p o F' H' A', P c ρ' → Stp F H A F' H' A' → R K F' A' ρ' σ H' → p ∉ A' → H p = none → H' p = some o → RepC K F' o c → F' p = none → Q (.ref p) H') ∧ XC K W F H A σ PX
def liftT (K : PySem.W.Frag) (W : WX) (m : MT) : TT := fun σ H Q => ∃ F A ρ P PX, R K F A ρ σ H ∧ m ρ P PX ∧
  (∀ b ρ' F' H' A', P b ρ' → Stp F H A F' H' A' → R K F' A' ρ' σ H' → Q b H') ∧ XC K W F H A σ PX
def liftA (K : PySem.W.Frag) (W : WX) (m : MA) : TA := fun σ H Q => ∃ F A ρ P PX, R K F A ρ σ H ∧ m ρ P PX ∧
  (∀ ds ρ' vs F' H' A', P ds ρ' → Stp F H A F' H' A' → R K F' A' ρ' σ H' → Reps K F' vs ds → Q vs H') ∧ XC K W F H A σ PX
def liftP (K : PySem.W.Frag) (W : WX) (m : MP) : TO := fun σ H Q => ∃ F A ρ P PX, R K F A ρ σ H ∧ m ρ P PX ∧
  (∀ o ρ' F' H' A', P o ρ' → Stp F H A F' H' A' → R K F' A' ρ' σ H' → Q o H') ∧ XC K W F H A σ PX

structure GE (X : Cx) (W : WX) (e : Expr) (m : ME) : Prop where
  pe : PE X e (lift X.K W m)
structure GO (X : Cx) (W : WX) (e : Expr) (m : MO) : Prop where
  pe : PE X e (liftO X.K W m)
structure GT (X : Cx) (W : WX) (e : Expr) (m : MT) : Prop where
  pt : PT X e (liftT X.K W m)
structure GA (X : Cx) (W : WX) (es : List Expr) (m : MA) : Prop where
  pa : PA X es (liftA X.K W m)
structure GP (X : Cx) (W : WX) (e : Option Expr) (m : MP) : Prop where
  po : PO X e (liftP X.K W m)

theorem pe_imp {X : Cx} {e : Expr} {t t' : TE} (h : PE X e t) (i : ∀ σ H Q, t' σ H Q → t σ H Q) : PE X e t' := ⟨fun pins s σ H Q I hw => h.run pins s σ H Q I (i σ H Q hw)⟩
theorem pt_imp {X : Cx} {e : Expr} {t t' : TT} (h : PT X e t) (i : ∀ σ H Q, t' σ H Q → t σ H Q) : PT X e t' := ⟨fun pins s σ H Q I hw => h.run pins s σ H Q I (i σ H Q hw)⟩
theorem pa_imp {X : Cx} {e : List Expr} {t t' : TA} (h : PA X e t) (i : ∀ σ H Q, t' σ H Q → t σ H Q) : PA X e t' := ⟨fun pos pins s σ H Q I hw => h.run pos pins s σ H Q I (i σ H Q hw)⟩
theorem po_imp {X : Cx} {e : Option Expr} {t t' : TO} (h : PO X e t) (i : ∀ σ H Q, t' σ H Q → t σ H Q) : PO X e t' := ⟨fun pins s σ H Q I hw => h.run pins s σ H Q I (i σ H Q hw)⟩

section
variable {X : Cx} {W : WX} {e a b : Expr} {pos : Pos} {ma mb : ME} {ta tb : MT}

/-! ### names, constants -/
/-- a name's data; a list of one's own stays from here on -/
def mVar (i : Nat) (ρ : List S) (P : D → List S → Prop) (PX : XP) : Prop := match ρ[i]? with
  | some (.fz d) => P d ρ
  | some (.ow none (.lst ds)) => P (.lst ds) (ρ.set i (.fz (.lst ds)))
  | _ => False
theorem set_self_st : ∀ {σ : L2.St} {i : Nat} {v : Option V}, σ[i]? = some v → σ.set i v = σ
  | [], _, _, e => by simp at e
  | x :: r, 0, v, e => by simp at e; subst e; rfl
  | x :: r, i + 1, v, e => by simp at e; simp [set_self_st e]
theorem R.freeze {K : PySem.W.Frag} {F H : Hp} {A : List Addr} {ρ : List S} {σ : L2.St} (r : R K F A ρ σ H) {i : Nat} {ds : List D} (h : ρ[i]? = some (.ow none (.lst ds))) :
    ∃ (p : Addr) (F' : Hp) (A' : List Addr), σ[i]? = some (some (V.ref p)) ∧ Rep K F' (.ref p) (.lst ds) ∧ Stp F H A F' H A' ∧ R K F' A' (ρ.set i (.fz (.lst ds))) σ H := by
  obtain ⟨p, vs, A', h1, h2, h3, h4, h5, h6, h7, h8⟩ := r.rs.freeze h
  refine ⟨p, upd F p (.lst vs), A', h1, .lst upd_same (h3.mono (same_new h4)), ⟨same_new h4, fun _ _ e _ => e, fun q o e n => upd_ne fun z => n (z ▸ h5), fun q hq => .inl (h6 q hq), fun _ h => h⟩, ⟨fun q o e => ?_, h8⟩⟩
  rw [upd_eq] at e
  split at e
  · rename_i z; subst z; cases e; exact h2
  · exact r.same q o e
theorem ge_var {i : Nat} {x : Str} (hN : X.N[i]? = some x := by rfl) (hv : Vis X.env.scope x := by first | exact Or.inl rfl | exact Or.inr (Or.inl rfl) | exact Or.inr (Or.inr rfl)) (hd : (x == ("__debug__" : Str)) = false := by decide)
    (hcd : (x == ("__classdict__" : Str)) = false := by decide) : GE X W (.Name x pos) (mVar i) := ⟨pe_imp (pe_var hN hv hd hcd) fun σ H Q h => by
  obtain ⟨F, A, ρ, P, PX, r, hm, hP, _⟩ := h
  unfold mVar at hm
  split at hm
  · rename_i d h
    obtain ⟨v, h1, h2⟩ := r.rs.getF h
    exact ⟨v, h1, hP _ _ _ _ _ _ hm Stp.refl r h2⟩
  · rename_i ds h
    obtain ⟨p, F', A', h1, h2, h3, h4⟩ := r.freeze h
    exact ⟨_, h1, hP _ _ _ _ _ _ hm h3 h4 h2⟩
  · exact hm.elim⟩
def mC (d : D) (ρ : List S) (P : D → List S → Prop) (PX : XP) : Prop := P d ρ
theorem ge_int {i : Int} {j} : GE X W (.Constant (.int i) j pos) (mC (.int i)) := ⟨pe_imp pe_int fun σ H Q ⟨F, A, ρ, P, PX, r, hm, hP, _⟩ => hP _ _ _ _ _ _ hm Stp.refl r (.int i)⟩
theorem ge_str {x : Str} {j} : GE X W (.Constant (.str x) j pos) (mC (.str x)) := ⟨pe_imp pe_str fun σ H Q ⟨F, A, ρ, P, PX, r, hm, hP, _⟩ => hP _ _ _ _ _ _ hm Stp.refl r (.str x)⟩
theorem ge_bl {b : Bool} {j} : GE X W (.Constant (.bool b) j pos) (mC (.bl b)) := ⟨pe_imp pe_bl fun σ H Q ⟨F, A, ρ, P, PX, r, hm, hP, _⟩ => hP _ _ _ _ _ _ hm Stp.refl r (.bl b)⟩
theorem ge_non {j} : GE X W (.Constant .none j pos) (mC .non) := ⟨pe_imp pe_non fun σ H Q ⟨F, A, ρ, P, PX, r, hm, hP, _⟩ => hP _ _ _ _ _ _ hm Stp.refl r .non⟩

/-! ### operations on two values -/
def OpD (K : PySem.W.Frag) (r : R2) (f : D → D → (D → Prop) → Prop) : Prop :=
  ∀ (F H : Hp) (v u : V) (d e : D) (P : D → Prop), Same F H → Rep K F v d → Rep K F u e → f d e P → ∀ Q : VK, (∀ z w F' H', P z → New F H F' H' → Rep K F' w z → Q w H') → r v u H Q
def mBin (f : D → D → (D → Prop) → Prop) (ma mb : ME) (ρ : List S) (P : D → List S → Prop) (PX : XP) : Prop := ma ρ (fun d ρ1 => mb ρ1 (fun e ρ2 => f d e fun z => P z ρ2) PX) PX
theorem lift_bin {r : R2} {f : D → D → (D → Prop) → Prop} (hf : OpD X.K r f) {σ : L2.St} {H : Hp} {Q : VK} (h : lift X.K W (mBin f ma mb) σ H Q) : tOp r (lift X.K W ma) (lift X.K W mb) σ H Q := by
  obtain ⟨F, A, ρ, P, PX, r0, hm, hP, hX⟩ := h
  refine ⟨F, A, ρ, _, PX, r0, hm, fun d ρ1 v F1 H1 A1 h1 s1 r1 q1 => ?_, hX⟩
  refine ⟨F1, A1, ρ1, _, PX, r1, h1, fun e ρ2 u F2 H2 A2 h2 s2 r2 q2 => ?_, hX.step s1⟩
  exact hf F2 H2 v u d e _ r2.same (q1.mono s2.ext) q2 h2 Q fun z w F3 H3 hz n w' => hP z ρ2 w F3 H3 A2 hz ((s1.trans s2).trans n.stp) (r2.new n) w'
theorem ge_bin {op : Operator} {r : R2} {f : D → D → (D → Prop) → Prop} (ho : OpR X (binaryOp op) r) (hf : OpD X.K r f) (ha : GE X W a ma) (hb : GE X W b mb) : GE X W (.BinOp a op b pos) (mBin f ma mb) :=
  ⟨pe_imp (pe_op ho ha.pe hb.pe) fun _ _ _ h => lift_bin hf h⟩
theorem ge_cmp {op : CmpOp} {r : R2} {f : D → D → (D → Prop) → Prop} (ho : OpR X (compareOp op) r) (hf : OpD X.K r f) (ha : GE X W a ma) (hb : GE X W b mb) (h1 : behindInMarks op b = false := by first | exact nobehind _ (by decide) (by decide) | rfl) :
    GE X W (.Compare a [op] [b] pos) (mBin f ma mb) := ⟨pe_imp (pe_cmpR ho ha.pe hb.pe h1) fun _ _ _ h => lift_bin hf h⟩
/-- a truth as a test -/
def mTst (m : ME) (ρ : List S) (P : Bool → List S → Prop) (PX : XP) : Prop := m ρ (fun d ρ' => match d with | .bl b => P b ρ' | _ => False) PX
theorem liftT_tst {m : ME} {σ : L2.St} {H : Hp} {Q : Bool → Hp → Prop} (h : liftT X.K W (mTst m) σ H Q) : tB (lift X.K W m) σ H Q := by
  obtain ⟨F, A, ρ, P, PX, r0, hm, hP, hX⟩ := h
  refine ⟨F, A, ρ, _, PX, r0, hm, fun d ρ1 v F1 H1 A1 h1 s1 r1 q1 => ?_, hX⟩
  cases d with
  | bl b => exact ⟨b, q1.bl_inv, hP b ρ1 F1 H1 A1 h1 s1 r1⟩
  | _ => exact h1.elim
theorem gt_val {m : ME} (h : GE X W e m) (he : ∀ whole, isTrue e X.env whole = (do let v ← whole; standAt e.pos; holding [v] (truthy v)) := by intro _; rfl) : GT X W e (mTst m) :=
  ⟨pt_imp (pt_val h.pe he) fun _ _ _ h => liftT_tst h⟩
theorem gt_cmp {op : CmpOp} {r : R2} {f : D → D → (D → Prop) → Prop} (ho : OpR X (compareOp op) r) (hf : OpD X.K r f) (ha : GE X W a ma) (hb : GE X W b mb) (h1 : behindInMarks op b = false := by first | exact nobehind _ (by decide) (by decide) | rfl) :
    GT X W (.Compare a [op] [b] pos) (mTst (mBin f ma mb)) := ⟨pt_imp (pt_cmpR ho ha.pe hb.pe h1) fun σ H Q h => by
  have z := liftT_tst h
  exact lift_bin hf z⟩

/-! ### chains, and, or, not, if -/
def mAndT (t u : MT) (ρ : List S) (P : Bool → List S → Prop) (PX : XP) : Prop := t ρ (fun c ρ1 => (c = true → u ρ1 P PX) ∧ (c = false → P false ρ1)) PX
def mOrT (t u : MT) (ρ : List S) (P : Bool → List S → Prop) (PX : XP) : Prop := t ρ (fun c ρ1 => (c = true → P true ρ1) ∧ (c = false → u ρ1 P PX)) PX
def mNotT (t : MT) (ρ : List S) (P : Bool → List S → Prop) (PX : XP) : Prop := t ρ (fun c ρ1 => P (!c) ρ1) PX
structure GW (X : Cx) (W : WX) (e : Expr) (m : MT) : Prop where
  pw : PW X e (liftT X.K W m)
theorem pw_imp {t t' : TT} (h : PW X e t) (i : ∀ σ H Q, t' σ H Q → t σ H Q) : PW X e t' := ⟨fun wh pins s σ H Q I hw => h.run wh pins s σ H Q I (i σ H Q hw)⟩
variable {rest : List Expr}
theorem gw_and1 (ha : GT X W a ta) : GW X W (.BoolOp .And [a] pos) ta := ⟨pw_and1 ha.pt⟩
theorem gw_or1 (ha : GT X W a ta) : GW X W (.BoolOp .Or [a] pos) ta := ⟨pw_or1 ha.pt⟩
theorem gw_and (ha : GT X W a ta) (hb : GW X W (.BoolOp .And (b :: rest) pos) tb) : GW X W (.BoolOp .And (a :: b :: rest) pos) (mAndT ta tb) := ⟨pw_imp (pw_and ha.pt hb.pw) fun σ H Q h => by
  obtain ⟨F, A, ρ, P, PX, r0, hm, hP, hX⟩ := h
  refine ⟨F, A, ρ, _, PX, r0, hm, fun c ρ1 F1 H1 A1 h1 s1 r1 => ?_, hX⟩
  cases c with
  | true =>
    rw [if_pos rfl]
    exact ⟨F1, A1, ρ1, P, PX, r1, h1.1 rfl, fun b ρ2 F2 H2 A2 h2 s2 r2 => hP b ρ2 F2 H2 A2 h2 (s1.trans s2) r2, hX.step s1⟩
  | false =>
    rw [if_neg Bool.false_ne_true]
    exact hP _ _ _ _ _ (h1.2 rfl) s1 r1⟩
theorem gw_or (ha : GT X W a ta) (hb : GW X W (.BoolOp .Or (b :: rest) pos) tb) : GW X W (.BoolOp .Or (a :: b :: rest) pos) (mOrT ta tb) := ⟨pw_imp (pw_or ha.pt hb.pw) fun σ H Q h => by
  obtain ⟨F, A, ρ, P, PX, r0, hm, hP, hX⟩ := h
  refine ⟨F, A, ρ, _, PX, r0, hm, fun c ρ1 F1 H1 A1 h1 s1 r1 => ?_, hX⟩
  cases c with
  | false =>
    rw [if_neg Bool.false_ne_true]
    exact ⟨F1, A1, ρ1, P, PX, r1, h1.2 rfl, fun b ρ2 F2 H2 A2 h2 s2 r2 => hP b ρ2 F2 H2 A2 h2 (s1.trans s2) r2, hX.step s1⟩
  | true =>
    rw [if_pos rfl]
    exact hP _ _ _ _ _ (h1.1 rfl) s1 r1⟩
theorem gt_w {m : MT} (h : GW X W e m) : GT X W e m := ⟨h.pw.pt⟩
theorem gt_not (ha : GT X W a ta) : GT X W (.UnaryOp .Not a pos) (mNotT ta) := ⟨pt_imp (pt_not ha.pt) fun σ H Q h => by
  obtain ⟨F, A, ρ, P, PX, r0, hm, hP, hX⟩ := h
  exact ⟨F, A, ρ, _, PX, r0, hm, fun c ρ1 F1 H1 A1 h1 s1 r1 => hP _ _ _ _ _ h1 s1 r1, hX⟩⟩
/-- as values, truths all -/
def mAndV (ma mb : ME) (ρ : List S) (P : D → List S → Prop) (PX : XP) : Prop := ma ρ (fun d ρ1 => match d with | .bl c => (c = true → mb ρ1 P PX) ∧ (c = false → P (.bl false) ρ1) | _ => False) PX
def mOrV (ma mb : ME) (ρ : List S) (P : D → List S → Prop) (PX : XP) : Prop := ma ρ (fun d ρ1 => match d with | .bl c => (c = true → P (.bl true) ρ1) ∧ (c = false → mb ρ1 P PX) | _ => False) PX
def mNotV (ma : ME) (ρ : List S) (P : D → List S → Prop) (PX : XP) : Prop := ma ρ (fun d ρ1 => match d with | .bl c => P (.bl (!c)) ρ1 | _ => False) PX
theorem ge_one {op} {m : ME} (h : GE X W a m) : GE X W (.BoolOp op [a] pos) m := ⟨pe_one h.pe⟩
theorem ge_and (ha : GE X W a ma) (hb : GE X W (.BoolOp .And (b :: rest) pos) mb) : GE X W (.BoolOp .And (a :: b :: rest) pos) (mAndV ma mb) := ⟨pe_imp (pe_and ha.pe hb.pe) fun σ H Q h => by
  obtain ⟨F, A, ρ, P, PX, r0, hm, hP, hX⟩ := h
  refine ⟨F, A, ρ, _, PX, r0, hm, fun d ρ1 v F1 H1 A1 h1 s1 r1 q1 => ?_, hX⟩
  cases d with
  | bl c =>
    refine ⟨c, q1.bl_inv, ?_⟩
    cases c with
    | true =>
      rw [if_pos rfl]
      exact ⟨F1, A1, ρ1, P, PX, r1, h1.1 rfl, fun d ρ2 v F2 H2 A2 h2 s2 r2 q2 => hP d ρ2 v F2 H2 A2 h2 (s1.trans s2) r2 q2, hX.step s1⟩
    | false =>
      rw [if_neg Bool.false_ne_true]
      exact hP _ _ _ _ _ _ (h1.2 rfl) s1 r1 (.bl _)
  | _ => exact h1.elim⟩
theorem ge_or (ha : GE X W a ma) (hb : GE X W (.BoolOp .Or (b :: rest) pos) mb) : GE X W (.BoolOp .Or (a :: b :: rest) pos) (mOrV ma mb) := ⟨pe_imp (pe_or ha.pe hb.pe) fun σ H Q h => by
  obtain ⟨F, A, ρ, P, PX, r0, hm, hP, hX⟩ := h
  refine ⟨F, A, ρ, _, PX, r0, hm, fun d ρ1 v F1 H1 A1 h1 s1 r1 q1 => ?_, hX⟩
  cases d with
  | bl c =>
    refine ⟨c, q1.bl_inv, ?_⟩
    cases c with
    | false =>
      rw [if_neg Bool.false_ne_true]
      exact ⟨F1, A1, ρ1, P, PX, r1, h1.2 rfl, fun d ρ2 v F2 H2 A2 h2 s2 r2 q2 => hP d ρ2 v F2 H2 A2 h2 (s1.trans s2) r2 q2, hX.step s1⟩
    | true =>
      rw [if_pos rfl]
      exact hP _ _ _ _ _ _ (h1.1 rfl) s1 r1 (.bl _)
  | _ => exact h1.elim⟩
theorem ge_not (ha : GE X W a ma) : GE X W (.UnaryOp .Not a pos) (mNotV ma) := ⟨pe_imp (pe_not ha.pe) fun σ H Q h => by
  obtain ⟨F, A, ρ, P, PX, r0, hm, hP, hX⟩ := h
  refine ⟨F, A, ρ, _, PX, r0, hm, fun d ρ1 v F1 H1 A1 h1 s1 r1 q1 => ?_, hX⟩
  cases d with
  | bl c => exact ⟨c, q1.bl_inv, hP _ _ _ _ _ _ h1 s1 r1 (.bl _)⟩
  | _ => exact h1.elim⟩
def mIf (t : MT) (ma mb : ME) (ρ : List S) (P : D → List S → Prop) (PX : XP) : Prop := t ρ (fun c ρ1 => (c = true → ma ρ1 P PX) ∧ (c = false → mb ρ1 P PX)) PX
theorem ge_if {c : Expr} (hc : GT X W c ta) (ha : GE X W a ma) (hb : GE X W b mb) : GE X W (.IfExp c a b pos) (mIf ta ma mb) := ⟨pe_imp (pe_ifExp hc.pt ha.pe hb.pe) fun σ H Q h => by
  obtain ⟨F, A, ρ, P, PX, r0, hm, hP, hX⟩ := h
  refine ⟨F, A, ρ, _, PX, r0, hm, fun c ρ1 F1 H1 A1 h1 s1 r1 => ?_, hX⟩
  cases c with
  | true =>
    rw [if_pos rfl]
    exact ⟨F1, A1, ρ1, P, PX, r1, h1.1 rfl, fun d ρ2 v F2 H2 A2 h2 s2 r2 q2 => hP d ρ2 v F2 H2 A2 h2 (s1.trans s2) r2 q2, hX.step s1⟩
  | false =>
    rw [if_neg Bool.false_ne_true]
    exact ⟨F1, A1, ρ1, P, PX, r1, h1.2 rfl, fun d ρ2 v F2 H2 A2 h2 s2 r2 q2 => hP d ρ2 v F2 H2 A2 h2 (s1.trans s2) r2 q2, hX.step s1⟩⟩
/-- a < b < c, truths -/
def mChain (f g : D → D → (D → Prop) → Prop) (ma mb mc : ME) (ρ : List S) (P : D → List S → Prop) (PX : XP) : Prop := ma ρ (fun x ρ1 => mb ρ1 (fun y ρ2 => f x y fun z => match z with
  | .bl k => (k = true → mc ρ2 (fun w ρ3 => g y w fun z => P z ρ3) PX) ∧ (k = false → P (.bl false) ρ2) | _ => False) PX) PX
end
end G

/-! G: operators, subscripts, argument lists, displays -/
namespace G
open PySem PySem.Spec PyProof.Rows L2

/-! ### arithmetic -/
def fAdd : D → D → (D → Prop) → Prop
  | .int i, .int j, P => P (.int (i + j))
  | .str x, .str y, P => x.length + y.length ≤ sizeLine ∧ P (.str (x ++ y))
  | .lst x, .lst y, P => x.length + y.length ≤ sizeLine ∧ P (.lst (x ++ y))
  | .tup x, .tup y, P => x ≠ [] ∧ x.length + y.length ≤ sizeLine ∧ P (.tup (x ++ y))
  | _, _, _ => False
def fSub : D → D → (D → Prop) → Prop
  | .int i, .int j, P => P (.int (i - j))
  | _, _, _ => False
/-- one sign, repeated -/
def repS (x : Str) (n : Int) : Str := ⟨(List.replicate n.toNat x.cps.toList).flatten.toArray⟩
def fMul : D → D → (D → Prop) → Prop
  | .int i, .int j, P => (CMulW i j ∨ CMul i j) ∧ P (.int (i * j))
  | .str x, .int n, P => (1 ≤ x.length ∧ x.length ≤ 100) ∧ (-100000 ≤ n ∧ n ≤ 100000) ∧ P (.str (repS x n))
  | .lst x, .int n, P => n < 2 ^ 63 ∧ -(2 ^ 63) ≤ n ∧ x.length * n.toNat ≤ sizeLine ∧ P (.lst (List.replicate n.toNat x).flatten)
  | _, _, _ => False
def fDiv : D → D → (D → Prop) → Prop
  | .int i, .int j, P => CDivW i j ∧ P (.int (i / j))
  | _, _, _ => False
def fMod : D → D → (D → Prop) → Prop
  | .int i, .int j, P => 0 < j ∧ P (.int (i % j))
  | _, _, _ => False
def fPow : D → D → (D → Prop) → Prop
  | .int i, .int j, P => CPow i j ∧ P (.int (i ^ j.toNat))
  | _, _, _ => False
def fShl : D → D → (D → Prop) → Prop
  | .int i, .int j, P => CShl i j ∧ P (.int (i * 2 ^ j.toNat))
  | _, _, _ => False
def fShr : D → D → (D → Prop) → Prop
  | .int i, .int j, P => 0 ≤ j ∧ P (.int (i / 2 ^ j.toNat))
  | _, _, _ => False
def fAnd : D → D → (D → Prop) → Prop
  | .int i, .int j, P => P (.int (Builtin.bitAnd i j))
  | _, _, _ => False

section
variable {K : PySem.W.Frag}
theorem od_I {C : Int → Int → Prop} {g : Int → Int → Int} {f : D → D → (D → Prop) → Prop} (hf : ∀ d e P, f d e P → ∃ i j, d = .int i ∧ e = .int j ∧ C i j ∧ P (.int (g i j))) : OpD K (rI C fun i j => .int (g i j)) f := by
  intro F H v u d e P s rv ru h Q q
  obtain ⟨i, j, rfl, rfl, hc, hp⟩ := hf d e P h
  exact ⟨i, j, rv.int_inv, ru.int_inv, hc, q _ _ F H hp (New.refl s) (.int _)⟩
theorem od_I0 {g : Int → Int → Int} {f : D → D → (D → Prop) → Prop} (hf : ∀ d e P, f d e P → ∃ i j, d = .int i ∧ e = .int j ∧ P (.int (g i j))) : OpD K (rI0 fun i j => .int (g i j)) f := by
  intro F H v u d e P s rv ru h Q q
  obtain ⟨i, j, rfl, rfl, hp⟩ := hf d e P h
  exact ⟨i, j, rv.int_inv, ru.int_inv, q _ _ F H hp (New.refl s) (.int _)⟩
theorem od_B0 {g : Int → Int → Bool} {f : D → D → (D → Prop) → Prop} (hf : ∀ d e P, f d e P → ∃ i j, d = .int i ∧ e = .int j ∧ P (.bl (g i j))) : OpD K (rI0 fun i j => .bl (g i j)) f := by
  intro F H v u d e P s rv ru h Q q
  obtain ⟨i, j, rfl, rfl, hp⟩ := hf d e P h
  exact ⟨i, j, rv.int_inv, ru.int_inv, q _ _ F H hp (New.refl s) (.bl _)⟩
end
section
variable {X : Cx} {W : WX} {e a b c : Expr} {pos : Pos} {ma mb mc : ME}
def rAddA (K : PySem.W.Frag) : R2 := fun x y H Q => (∃ i j, x = .int i ∧ y = .int j ∧ Q (.int (i + j)) H) ∨ (∃ i j, x = .str i ∧ y = .str j ∧ i.length + j.length ≤ sizeLine ∧ Q (.str (i ++ j)) H) ∨ rCat x y H Q ∨ rCatT K x y H Q
theorem op_addA : OpR X (binaryOp .Add) (rAddA X.K) := by
  intro pins s σ H x y v u Q I rx ry h
  rcases h with h | h | h | h
  · exact op_add pins s σ H x y v u Q I rx ry h
  · exact op_add_str pins s σ H x y v u Q I rx ry h
  · exact op_cat pins s σ H x y v u Q I rx ry h
  · exact op_catT pins s σ H x y v u Q I rx ry h
theorem iop_addA : OpR X (inplaceOp .Add) (fun x y H Q => (∃ i j, x = .int i ∧ y = .int j ∧ Q (.int (i + j)) H) ∨ (∃ i j, x = .str i ∧ y = .str j ∧ i.length + j.length ≤ sizeLine ∧ Q (.str (i ++ j)) H)) := by
  intro pins s σ H x y v u Q I rx ry h
  rcases h with h | h
  · exact iop_add pins s σ H x y v u Q I rx ry h
  · exact iop_add_str pins s σ H x y v u Q I rx ry h
theorem od_add {K : PySem.W.Frag} : OpD K (rAddA K) fAdd := by
  intro F H v u d e P s rv ru h Q q
  cases d <;> cases e <;> first | exact h.elim | skip
  · exact .inl ⟨_, _, rv.int_inv, ru.int_inv, q _ _ F H h (New.refl s) (.int _)⟩
  · exact .inr (.inl ⟨_, _, rv.str_inv, ru.str_inv, h.1, q _ _ F H h.2 (New.refl s) (.str _)⟩)
  · obtain ⟨a, vs, rfl, e1, r1⟩ := rv.lst_inv
    obtain ⟨b, us, rfl, e2, r2⟩ := ru.lst_inv
    obtain ⟨hl, hp⟩ := (show _ ∧ _ from h)
    refine .inr (.inr (.inl ⟨a, b, vs, us, rfl, rfl, s _ _ e1, s _ _ e2, by rw [r1.length, r2.length]; exact hl, fun p hn => ?_⟩))
    have n := New.mk1 (.lst (vs ++ us)) s hn
    exact q _ _ _ _ hp n (.lst upd_same ((r1.append r2).mono n.ext))
  · obtain ⟨a, vs, rfl, e1, r1⟩ := rv.tup_inv
    obtain ⟨b, us, rfl, e2, r2⟩ := ru.tup_inv
    obtain ⟨h0, hl, hp⟩ := (show _ ∧ _ ∧ _ from h)
    refine .inr (.inr (.inr ⟨a, b, vs, us, rfl, rfl, .of (s _ _ e1), .of (s _ _ e2), fun z => h0 ?_, by rw [r1.length, r2.length]; exact hl, fun z => ?_, fun _ p hn => ?_⟩))
    · subst z; cases r1; rfl
    · subst z
      cases r2
      rw [List.append_nil] at hp
      exact q _ _ F H hp (New.refl s) (.tup e1 r1)
    · have n := New.mk1 (.tup (vs ++ us)) s hn
      exact q _ _ _ _ hp n (.tup upd_same ((r1.append r2).mono n.ext))
theorem od_sub {K : PySem.W.Frag} : OpD K (rI0 fun i j => .int (i - j)) fSub := od_I0 fun d e P h => by
  cases d <;> cases e <;> first | exact h.elim | exact ⟨_, _, rfl, rfl, h⟩
theorem od_div {K : PySem.W.Frag} : OpD K (rI CDivW fun i j => .int (i / j)) fDiv := od_I fun d e P h => by
  cases d <;> cases e <;> first | exact h.elim | exact ⟨_, _, rfl, rfl, h⟩
theorem od_mod {K : PySem.W.Frag} : OpD K (rI (fun _ j => 0 < j) fun i j => .int (i % j)) fMod := od_I fun d e P h => by
  cases d <;> cases e <;> first | exact h.elim | exact ⟨_, _, rfl, rfl, h⟩
theorem od_pow {K : PySem.W.Frag} : OpD K (rI CPow fun i j => .int (i ^ j.toNat)) fPow := od_I fun d e P h => by
  cases d <;> cases e <;> first | exact h.elim | exact ⟨_, _, rfl, rfl, h⟩
theorem od_shl {K : PySem.W.Frag} : OpD K (rI CShl fun i j => .int (i * 2 ^ j.toNat)) fShl := od_I fun d e P h => by
  cases d <;> cases e <;> first | exact h.elim | exact ⟨_, _, rfl, rfl, h⟩
theorem od_shr {K : PySem.W.Frag} : OpD K (rI (fun _ j => 0 ≤ j) fun i j => .int (i / 2 ^ j.toNat)) fShr := od_I fun d e P h => by
  cases d <;> cases e <;> first | exact h.elim | exact ⟨_, _, rfl, rfl, h⟩
theorem od_and {K : PySem.W.Frag} : OpD K (rI0 fun i j => .int (Builtin.bitAnd i j)) fAnd := od_I0 fun d e P h => by
  cases d <;> cases e <;> first | exact h.elim | exact ⟨_, _, rfl, rfl, h⟩
/-- text * int -/
def rMulS : R2 := fun x y H Q => ∃ z n, x = .str z ∧ y = .int n ∧ (1 ≤ z.length ∧ z.length ≤ 100) ∧ (-100000 ≤ n ∧ n ≤ 100000) ∧ Q (.str (repS z n)) H
theorem foldl_app (c : Array Nat) : ∀ (n : Nat) (a : Array Nat), (List.replicate n c).foldl (· ++ ·) a = a ++ (List.replicate n c.toList).flatten.toArray
  | 0, a => by simp
  | n + 1, a => by
    rw [List.replicate_succ, List.foldl_cons, foldl_app c n, List.replicate_succ, List.flatten_cons]
    apply Array.ext'
    simp
theorem mul_repS (z : Str) (n : Int) (h : 1 ≤ z.length) : Txt.mul z n = repS z n := by
  unfold Txt.mul repS
  by_cases h1 : n < 1
  · rw [if_pos h1, show n.toNat = 0 by omega]; rfl
  · rw [if_neg h1]
    by_cases h2 : (n == 1 || z.length == 0) = true
    · rw [if_pos h2]
      have : n = 1 := by
        have h0 : (z.length == 0) = false := by simpa using (by omega : z.length ≠ 0)
        rw [h0] at h2
        simpa using h2
      subst this
      obtain ⟨cps⟩ := z
      simp
    · rw [if_neg h2, foldl_app]
      simp
theorem op_mulS : OpR X (binaryOp .Mult) rMulS := by
  intro pins s σ H x y v u Q I rx ry h
  obtain ⟨z, n, rfl, rfl, hz, hn, q⟩ := h
  obtain ⟨t, rfl⟩ := rx
  obtain ⟨t', rfl⟩ := ry
  have e63 : (2 : Int) ^ 63 = 9223372036854775808 := by decide
  refine SB.mul ⟨?_, fun h1 _ => ?_, fun h1 _ => ?_⟩ fun t2 k => ⟨.str (repS z n), H, I.tok k, ⟨t2, by rw [mul_repS z n hz.1]⟩, q⟩
  · rw [e63, decide_eq_false (by omega), decide_eq_false (by omega)]; rfl
  · rw [e63]
    have : (100 : Int) ≤ (9223372036854775808 - 1) / n := by
      refine (Int.le_ediv_iff_mul_le (by omega)).mpr ?_
      omega
    show ¬ (((z.length : Nat) : Int) > _)
    omega
  · unfold Builtin.Str.tooLong
    have hs : sizeLine = 16777216 := sizeLine_eq
    have hm : z.length * n.toNat ≤ 100 * 100000 := Nat.mul_le_mul hz.2 (by omega)
    exact decide_eq_false (by omega)
theorem op_mulB : OpR X (binaryOp .Mult) (rI (fun i j => CMulW i j ∨ CMul i j) fun i j => .int (i * j)) := opI fun _ _ _ _ _ _ _ hc q => mul_int q (hc.elim (fun z => z.ok) fun z => z.ok)
def rMulA : R2 := fun x y H Q => rI (fun i j => CMulW i j ∨ CMul i j) (fun i j => .int (i * j)) x y H Q ∨ rMulS x y H Q ∨ rRep x y H Q
theorem op_mulA : OpR X (binaryOp .Mult) rMulA := by
  intro pins s σ H x y v u Q I rx ry h
  rcases h with h | h | h
  · exact op_mulB pins s σ H x y v u Q I rx ry h
  · exact op_mulS pins s σ H x y v u Q I rx ry h
  · exact op_rep pins s σ H x y v u Q I rx ry h
theorem Reps.rep {K : PySem.W.Frag} {F : Hp} {vs : List V} {ds : List D} (r : Reps K F vs ds) : ∀ n : Nat, Reps K F (List.replicate n vs).flatten (List.replicate n ds).flatten
  | 0 => .nil
  | n + 1 => by
    rw [List.replicate_succ, List.replicate_succ, List.flatten_cons, List.flatten_cons]
    exact r.append (Reps.rep r n)
theorem od_mul {K : PySem.W.Frag} : OpD K rMulA fMul := by
  intro F H v u d e P s rv ru h Q q
  cases d <;> cases e <;> first | exact h.elim | skip
  · exact .inl ⟨_, _, rv.int_inv, ru.int_inv, h.1, q _ _ F H h.2 (New.refl s) (.int _)⟩
  · exact .inr (.inl ⟨_, _, rv.str_inv, ru.int_inv, h.1, h.2.1, q _ _ F H h.2.2 (New.refl s) (.str _)⟩)
  · obtain ⟨a, vs, rfl, e1, r1⟩ := rv.lst_inv
    obtain ⟨h1, h2, h3, hp⟩ := (show _ ∧ _ ∧ _ ∧ _ from h)
    refine .inr (.inr ⟨a, _, vs, rfl, ru.int_inv, s _ _ e1, h2, h1, by rw [r1.length]; exact h3, fun p hn => ?_⟩)
    exact q _ _ _ _ hp (New.mk1 _ s hn) (.lst upd_same ((r1.rep _).mono (same_new (free_of s hn))))

/-! ### comparisons -/
mutual
def toP : D → PyData
  | .non => .none | .bl b => .bool b | .int i => .int i | .str x => .str x | .lst xs => .list (toPs xs) | .tup xs => .tuple (toPs xs) | .scr ns => .list (ns.map PyData.int)
def toPs : List D → List PyData
  | [] => []
  | d :: ds => toP d :: toPs ds
end
theorem dpAll_ints {K : PySem.W.Frag} {H : Hp} : ∀ ns : List Int, DpAll K H (ns.map V.int) (ns.map PyData.int)
  | [] => .nil
  | n :: ns => .cons (.int n) (dpAll_ints ns)
mutual
theorem Rep.dp {K : PySem.W.Frag} {F H : Hp} (s : Same F H) : ∀ (d : D) (v : V), Rep K F v d → Dp K H v (toP d)
  | .non, _, .non => .non
  | .bl _, _, .bl _ => .bl _
  | .int _, _, .int _ => .int _
  | .str _, _, .str _ => .str _
  | .lst ds, _, .lst e r => .lst (.of (s _ _ e)) (Reps.dp s ds _ r)
  | .tup ds, _, .tup e r => .tup (.of (s _ _ e)) (Reps.dp s ds _ r)
  | .scr ns, _, .scr e => .lst (s.seq e) (dpAll_ints ns)
theorem Reps.dp {K : PySem.W.Frag} {F H : Hp} (s : Same F H) : ∀ (ds : List D) (vs : List V), Reps K F vs ds → DpAll K H vs (toPs ds)
  | [], _, .nil => .nil
  | d :: ds, _, .cons r t => .cons (Rep.dp s d _ r) (Reps.dp s ds _ t)
end
/-- equal as data -/
def deq (d e : D) : Bool := PyData.eqv (toP d) (toP e)
def shp (d : D) : Bool := SeqAt.shaped (toP d)
def fEq : D → D → (D → Prop) → Prop
  | .int i, .int j, P => P (.bl (decide (i = j)))
  | .str i, .str j, P => P (.bl (decide (i = j)))
  | .bl i, .bl j, P => P (.bl (decide (i = j)))
  | d, e, P => shp d = true ∧ shp e = true ∧ P (.bl (deq d e))
def fNe : D → D → (D → Prop) → Prop
  | .int i, .int j, P => P (.bl (!decide (i = j)))
  | .str i, .str j, P => P (.bl (!decide (i = j)))
  | .bl i, .bl j, P => P (.bl (!decide (i = j)))
  | d, e, P => shp d = true ∧ shp e = true ∧ P (.bl (!deq d e))
def rEqA (K : PySem.W.Frag) : R2 := fun x y H Q => rEq x y H Q ∨ rEqD K x y H Q
def rNeA (K : PySem.W.Frag) : R2 := fun x y H Q => rNe x y H Q ∨ rNeD K x y H Q
theorem op_eqA (hu : X.A.units + 64 < cLine) : OpR X (compareOp .Eq) (rEqA X.K) := by
  intro pins s σ H x y v u Q I rx ry h
  rcases h with h | h
  · exact op_eq pins s σ H x y v u Q I rx ry h
  · exact op_eqD hu pins s σ H x y v u Q I rx ry h
theorem op_neA (hu : X.A.units + 64 < cLine) : OpR X (compareOp .NotEq) (rNeA X.K) := by
  intro pins s σ H x y v u Q I rx ry h
  rcases h with h | h
  · exact op_ne pins s σ H x y v u Q I rx ry h
  · exact op_neD hu pins s σ H x y v u Q I rx ry h
theorem decV_int {i j : Int} : decide (V.int i = V.int j) = decide (i = j) := by rw [Bool.eq_iff_iff]; simp
theorem decV_str {i j : Str} : decide (V.str i = V.str j) = decide (i = j) := by rw [Bool.eq_iff_iff]; simp
theorem decV_bl {i j : Bool} : decide (V.bl i = V.bl j) = decide (i = j) := by rw [Bool.eq_iff_iff]; simp
theorem od_eq {K : PySem.W.Frag} : OpD K (rEqA K) fEq := by
  intro F H v u d e P s rv ru h Q q
  have gen : shp d = true ∧ shp e = true ∧ P (.bl (deq d e)) → rEqA K v u H Q := fun h => .inr ⟨toP d, toP e, rv.dp s d _, ru.dp s e _, h.1, h.2.1, q _ _ F H h.2.2 (New.refl s) (.bl _)⟩
  cases d <;> cases e <;> first | exact gen h | skip
  · rw [rv.bl_inv, ru.bl_inv]; exact .inl ⟨rfl, by rw [decV_bl]; exact q _ _ F H h (New.refl s) (.bl _)⟩
  · rw [rv.int_inv, ru.int_inv]; exact .inl ⟨rfl, by rw [decV_int]; exact q _ _ F H h (New.refl s) (.bl _)⟩
  · rw [rv.str_inv, ru.str_inv]; exact .inl ⟨rfl, by rw [decV_str]; exact q _ _ F H h (New.refl s) (.bl _)⟩
theorem od_ne {K : PySem.W.Frag} : OpD K (rNeA K) fNe := by
  intro F H v u d e P s rv ru h Q q
  have gen : shp d = true ∧ shp e = true ∧ P (.bl (!deq d e)) → rNeA K v u H Q := fun h => .inr ⟨toP d, toP e, rv.dp s d _, ru.dp s e _, h.1, h.2.1, q _ _ F H h.2.2 (New.refl s) (.bl _)⟩
  cases d <;> cases e <;> first | exact gen h | skip
  · rw [rv.bl_inv, ru.bl_inv]; exact .inl ⟨rfl, by rw [decV_bl]; exact q _ _ F H h (New.refl s) (.bl _)⟩
  · rw [rv.int_inv, ru.int_inv]; exact .inl ⟨rfl, by rw [decV_int]; exact q _ _ F H h (New.refl s) (.bl _)⟩
  · rw [rv.str_inv, ru.str_inv]; exact .inl ⟨rfl, by rw [decV_str]; exact q _ _ F H h (New.refl s) (.bl _)⟩
/-- < of ints, of texts -/
def fLt : D → D → (D → Prop) → Prop
  | .int i, .int j, P => P (.bl (decide (i < j)))
  | .str i, .str j, P => P (.bl (decide (i.cps.toList < j.cps.toList)))
  | _, _, _ => False
def fLe : D → D → (D → Prop) → Prop
  | .int i, .int j, P => P (.bl (decide (i ≤ j)))
  | _, _, _ => False
def fGt : D → D → (D → Prop) → Prop
  | .int i, .int j, P => P (.bl (decide (j < i)))
  | _, _, _ => False
def fGe : D → D → (D → Prop) → Prop
  | .int i, .int j, P => P (.bl (decide (j ≤ i)))
  | _, _, _ => False
def rLtA : R2 := fun x y H Q => (∃ i j, x = .int i ∧ y = .int j ∧ Q (.bl (decide (i < j))) H) ∨ (∃ i j, x = .str i ∧ y = .str j ∧ Q (.bl (decide (i.cps.toList < j.cps.toList))) H)
theorem op_ltA : OpR X (compareOp .Lt) rLtA := by
  intro pins s σ H x y v u Q I rx ry h
  rcases h with h | h
  · exact op_lt pins s σ H x y v u Q I rx ry h
  · exact op_lt_str pins s σ H x y v u Q I rx ry h
theorem od_lt {K : PySem.W.Frag} : OpD K rLtA fLt := by
  intro F H v u d e P s rv ru h Q q
  cases d <;> cases e <;> first | exact h.elim | skip
  · exact .inl ⟨_, _, rv.int_inv, ru.int_inv, q _ _ F H h (New.refl s) (.bl _)⟩
  · exact .inr ⟨_, _, rv.str_inv, ru.str_inv, q _ _ F H h (New.refl s) (.bl _)⟩
theorem od_le {K : PySem.W.Frag} : OpD K (rI0 fun i j => .bl (decide (i ≤ j))) fLe := od_B0 fun d e P h => by
  cases d <;> cases e <;> first | exact h.elim | exact ⟨_, _, rfl, rfl, h⟩
theorem od_gt {K : PySem.W.Frag} : OpD K (rI0 fun i j => .bl (decide (j < i))) fGt := od_B0 fun d e P h => by
  cases d <;> cases e <;> first | exact h.elim | exact ⟨_, _, rfl, rfl, h⟩
theorem od_ge {K : PySem.W.Frag} : OpD K (rI0 fun i j => .bl (decide (j ≤ i))) fGe := od_B0 fun d e P h => by
  cases d <;> cases e <;> first | exact h.elim | exact ⟨_, _, rfl, rfl, h⟩
/-- is None, is True, is False -/
def isNonD : D → Bool
  | .non => true
  | _ => false
def rIsC : R2 := fun x y H Q => y = .non ∧ Q (.bl (decide (x = .non))) H
theorem Rep.isNon {K : PySem.W.Frag} {F : Hp} {v : V} {d : D} (r : Rep K F v d) : decide (v = .non) = isNonD d := by
  cases r <;> rfl
def fIs : D → D → (D → Prop) → Prop
  | d, .non, P => P (.bl (isNonD d))
  | .bl a, .bl b, P => P (.bl (decide (a = b)))
  | _, _, _ => False
def fIsNot : D → D → (D → Prop) → Prop
  | d, .non, P => P (.bl (!isNonD d))
  | .bl a, .bl b, P => P (.bl (!decide (a = b)))
  | _, _, _ => False
theorem op_isA : OpR X (compareOp .Is) (fun x y H Q => (y = .non ∧ Q (.bl (decide (x = .non))) H) ∨ rIsB x y H Q) := by
  intro pins s σ H x y v u Q I rx ry h
  rcases h with h | h
  · exact op_isN pins s σ H x y v u Q I rx ry h
  · exact op_isBl pins s σ H x y v u Q I rx ry h
theorem op_isNotA : OpR X (compareOp .IsNot) (fun x y H Q => (y = .non ∧ Q (.bl (!decide (x = .non))) H) ∨ rNotB x y H Q) := by
  intro pins s σ H x y v u Q I rx ry h
  rcases h with h | h
  · exact op_notN pins s σ H x y v u Q I rx ry h
  · exact op_notBl pins s σ H x y v u Q I rx ry h
theorem od_is {K : PySem.W.Frag} : OpD K (fun x y H Q => (y = .non ∧ Q (.bl (decide (x = .non))) H) ∨ rIsB x y H Q) fIs := by
  intro F H v u d e P s rv ru h Q q
  cases e with
  | non => exact .inl ⟨ru.non_inv, by rw [rv.isNon]; exact q _ _ F H (by cases d <;> exact h) (New.refl s) (.bl _)⟩
  | bl b => cases d with
    | bl a => exact .inr ⟨a, b, rv.bl_inv, ru.bl_inv, q _ _ F H h (New.refl s) (.bl _)⟩
    | _ => exact h.elim
  | _ => cases d <;> exact h.elim
theorem od_isnot {K : PySem.W.Frag} : OpD K (fun x y H Q => (y = .non ∧ Q (.bl (!decide (x = .non))) H) ∨ rNotB x y H Q) fIsNot := by
  intro F H v u d e P s rv ru h Q q
  cases e with
  | non => exact .inl ⟨ru.non_inv, by rw [rv.isNon]; exact q _ _ F H (by cases d <;> exact h) (New.refl s) (.bl _)⟩
  | bl b => cases d with
    | bl a => exact .inr ⟨a, b, rv.bl_inv, ru.bl_inv, q _ _ F H h (New.refl s) (.bl _)⟩
    | _ => exact h.elim
  | _ => cases d <;> exact h.elim
/-- x in a list or tuple of ints, of texts -/
def memI (i : Int) : List D → Option Bool
  | [] => some false
  | .int j :: r => (memI i r).map fun b => decide (j = i) || b
  | _ => none
def memS (x : Str) : List D → Option Bool
  | [] => some false
  | .str j :: r => (memS x r).map fun b => decide (j = x) || b
  | _ => none
def fIn (neg : Bool) : D → D → (D → Prop) → Prop
  | .int i, .lst ds, P => ∃ b, memI i ds = some b ∧ P (.bl (if neg then !b else b))
  | .int i, .tup ds, P => ∃ b, memI i ds = some b ∧ P (.bl (if neg then !b else b))
  | .str i, .lst ds, P => ∃ b, memS i ds = some b ∧ P (.bl (if neg then !b else b))
  | .str i, .tup ds, P => ∃ b, memS i ds = some b ∧ P (.bl (if neg then !b else b))
  | _, _, _ => False
theorem memI_vs {K : PySem.W.Frag} {F : Hp} {i : Int} : ∀ {ds : List D} {vs : List V} {b : Bool}, Reps K F vs ds → memI i ds = some b → vs.all flatV = true ∧ inV (.int i) vs = b
  | [], _, b, h, e => by
    cases h
    exact ⟨rfl, Option.some.inj e⟩
  | d :: ds, _, b, h, e => by
    cases h with
    | cons r t =>
      cases d with
      | int j =>
        obtain ⟨b', e1, e2⟩ := Option.map_eq_some_iff.mp (show (memI i ds).map _ = some b from e)
        obtain ⟨h1, h2⟩ := memI_vs t e1
        rw [r.int_inv]
        refine ⟨by rw [List.all_cons, h1]; rfl, ?_⟩
        rw [← e2, ← h2]
        show (eqV (.int j) (.int i) || inV (.int i) _) = _
        congr 1
      | _ => exact nomatch e
theorem memS_vs {K : PySem.W.Frag} {F : Hp} {i : Str} : ∀ {ds : List D} {vs : List V} {b : Bool}, Reps K F vs ds → memS i ds = some b → vs.all flatV = true ∧ inV (.str i) vs = b
  | [], _, b, h, e => by
    cases h
    exact ⟨rfl, Option.some.inj e⟩
  | d :: ds, _, b, h, e => by
    cases h with
    | cons r t =>
      cases d with
      | str j =>
        obtain ⟨b', e1, e2⟩ := Option.map_eq_some_iff.mp (show (memS i ds).map _ = some b from e)
        obtain ⟨h1, h2⟩ := memS_vs t e1
        rw [r.str_inv]
        refine ⟨by rw [List.all_cons, h1]; rfl, ?_⟩
        rw [← e2, ← h2]
        show (eqV (.str j) (.str i) || inV (.str i) _) = _
        congr 1
      | _ => exact nomatch e
theorem od_in {K : PySem.W.Frag} {neg : Bool} : OpD K (rIn K neg) (fIn neg) := by
  intro F H v u d e P s rv ru h Q q
  cases d <;> cases e <;> first | exact h.elim | skip
  · obtain ⟨b, e1, hp⟩ := h
    obtain ⟨a, vs, rfl, e2, r⟩ := ru.lst_inv
    obtain ⟨h1, h2⟩ := memI_vs r e1
    rw [rv.int_inv]
    exact ⟨a, vs, rfl, .inl (.of (s _ _ e2)), rfl, h1, by rw [h2]; exact q _ _ F H hp (New.refl s) (.bl _)⟩
  · obtain ⟨b, e1, hp⟩ := h
    obtain ⟨a, vs, rfl, e2, r⟩ := ru.tup_inv
    obtain ⟨h1, h2⟩ := memI_vs r e1
    rw [rv.int_inv]
    exact ⟨a, vs, rfl, .inr (.of (s _ _ e2)), rfl, h1, by rw [h2]; exact q _ _ F H hp (New.refl s) (.bl _)⟩
  · obtain ⟨b, e1, hp⟩ := h
    obtain ⟨a, vs, rfl, e2, r⟩ := ru.lst_inv
    obtain ⟨h1, h2⟩ := memS_vs r e1
    rw [rv.str_inv]
    exact ⟨a, vs, rfl, .inl (.of (s _ _ e2)), rfl, h1, by rw [h2]; exact q _ _ F H hp (New.refl s) (.bl _)⟩
  · obtain ⟨b, e1, hp⟩ := h
    obtain ⟨a, vs, rfl, e2, r⟩ := ru.tup_inv
    obtain ⟨h1, h2⟩ := memS_vs r e1
    rw [rv.str_inv]
    exact ⟨a, vs, rfl, .inr (.of (s _ _ e2)), rfl, h1, by rw [h2]; exact q _ _ F H hp (New.refl s) (.bl _)⟩
theorem lift_chain {r r' : R2} {f g : D → D → (D → Prop) → Prop} (hf : OpD X.K r f) (hg : OpD X.K r' g) {σ : L2.St} {H : Hp} {Q : VK} (h : lift X.K W (mChain f g ma mb mc) σ H Q) :
    tChain r r' (lift X.K W ma) (lift X.K W mb) (lift X.K W mc) σ H Q := by
  obtain ⟨F, A, ρ, P, PX, r0, hm, hP, hX⟩ := h
  refine ⟨F, A, ρ, _, PX, r0, hm, fun d ρ1 v F1 H1 A1 h1 s1 r1 q1 => ?_, hX⟩
  refine ⟨F1, A1, ρ1, _, PX, r1, h1, fun e ρ2 u F2 H2 A2 h2 s2 r2 q2 => ?_, hX.step s1⟩
  refine hf F2 H2 v u d e _ r2.same (q1.mono s2.ext) q2 h2 _ fun z w F3 H3 hz n w' => ?_
  cases z with
  | bl k =>
    refine ⟨k, w'.bl_inv, ?_⟩
    have s3 := (s1.trans s2).trans n.stp
    cases k with
    | true =>
      rw [if_pos rfl]
      refine ⟨F3, A2, ρ2, _, PX, r2.new n, hz.1 rfl, fun x ρ4 t F4 H4 A4 h4 s4 r4 q4 => ?_, hX.step s3⟩
      exact hg F4 H4 u t e x _ r4.same ((q2.mono n.ext).mono s4.ext) q4 h4 Q fun z w F5 H5 hz n w' => hP z ρ4 w F5 H5 A4 hz ((s3.trans s4).trans n.stp) (r4.new n) w'
    | false =>
      rw [if_neg Bool.false_ne_true]
      exact hP _ ρ2 _ F3 H3 A2 (hz.2 rfl) s3 (r2.new n) (.bl _)
  | _ => exact hz.elim
theorem ge_chain {op op' : CmpOp} {r r' : R2} {f g : D → D → (D → Prop) → Prop} (ho : OpR X (compareOp op) r) (ho' : OpR X (compareOp op') r') (hf : OpD X.K r f) (hg : OpD X.K r' g) (ha : GE X W a ma) (hb : GE X W b mb) (hc : GE X W c mc)
    (hm : lastMarks [op, op'] [b, c] = false := by with_unfolding_all rfl) : GE X W (.Compare a [op, op'] [b, c] pos) (mChain f g ma mb mc) := ⟨pe_imp (pe_chain ho ho' ha.pe hb.pe hc.pe hm) fun _ _ _ h => lift_chain hf hg h⟩
theorem gt_chain {op op' : CmpOp} {r r' : R2} {f g : D → D → (D → Prop) → Prop} (ho : OpR X (compareOp op) r) (ho' : OpR X (compareOp op') r') (hf : OpD X.K r f) (hg : OpD X.K r' g) (ha : GE X W a ma) (hb : GE X W b mb) (hc : GE X W c mc)
    (hm : lastMarks [op, op'] [b, c] = false := by with_unfolding_all rfl) : GT X W (.Compare a [op, op'] [b, c] pos) (mTst (mChain f g ma mb mc)) := ⟨pt_imp (pt_chain ho ho' ha.pe hb.pe hc.pe hm) fun _ _ _ h => lift_chain hf hg (liftT_tst h)⟩

/-! ### argument lists, displays -/
def mNil (ρ : List S) (P : List D → List S → Prop) (PX : XP) : Prop := P [] ρ
def mCons (ma : ME) (mr : MA) (ρ : List S) (P : List D → List S → Prop) (PX : XP) : Prop := ma ρ (fun d ρ1 => mr ρ1 (fun ds ρ2 => P (d :: ds) ρ2) PX) PX
theorem ga_nil : GA X W [] mNil := ⟨pa_imp pa_nil fun σ H Q ⟨F, A, ρ, P, PX, r, hm, hP, _⟩ => hP _ _ _ _ _ _ hm Stp.refl r .nil⟩
theorem ga_cons {es : List Expr} {mr : MA} (ha : GE X W e ma) (hr : GA X W es mr) (hs : starEach (e :: es) X.env = (false, eval e X.env) :: starEach es X.env := by rfl) : GA X W (e :: es) (mCons ma mr) := ⟨pa_imp (pa_cons ha.pe hr.pa hs) fun σ H Q h => by
  obtain ⟨F, A, ρ, P, PX, r0, hm, hP, hX⟩ := h
  refine ⟨F, A, ρ, _, PX, r0, hm, fun d ρ1 v F1 H1 A1 h1 s1 r1 q1 => ?_, hX⟩
  exact ⟨F1, A1, ρ1, _, PX, r1, h1, fun ds ρ2 vs F2 H2 A2 h2 s2 r2 q2 => hP _ ρ2 _ F2 H2 A2 h2 (s1.trans s2) r2 (.cons (q1.mono s2.ext) q2), hX.step s1⟩⟩
def mTup (m : MA) (ρ : List S) (P : D → List S → Prop) (PX : XP) : Prop := m ρ (fun ds ρ1 => ds.length ≤ sizeLine ∧ P (.tup ds) ρ1) PX
def mLst (m : MA) (ρ : List S) (P : C → List S → Prop) (PX : XP) : Prop := m ρ (fun ds ρ1 => ds.length ≤ sizeLine ∧ P (.lst ds) ρ1) PX
theorem ge_tup {es : List Expr} {m : MA} {k : Nat} (h : GA X W es m) : GE X W (.Tuple es k pos) (mTup m) := ⟨pe_imp (pe_tup h.pa) fun σ H Q h => by
  obtain ⟨F, A, ρ, P, PX, r0, hm, hP, hX⟩ := h
  refine ⟨F, A, ρ, _, PX, r0, hm, fun ds ρ1 vs F1 H1 A1 h1 s1 r1 q1 => ⟨by rw [q1.length]; exact h1.1, fun p hp => ?_⟩, hX⟩
  have n := New.mk1 (.tup vs) r1.same hp
  exact hP _ ρ1 _ _ _ A1 h1.2 (s1.trans n.stp) (r1.new n) (.tup upd_same (q1.mono n.ext))⟩
/-- a new object of one's own, given on -/
theorem own_new {K : PySem.W.Frag} {F H F1 H1 : Hp} {A A1 : List Addr} {ρ1 : List S} {σ : L2.St} {p : Addr} (o : HO) (s1 : Stp F H A F1 H1 A1) (r1 : R K F1 A1 ρ1 σ H1) (hp : H1 p = none) :
    Stp F H A F1 (upd H1 p o) A1 ∧ R K F1 A1 ρ1 σ (upd H1 p o) ∧ p ∉ A1 ∧ F1 p = none ∧ H p = none := by
  have n := New.mk0 o r1.same hp
  refine ⟨s1.trans n.stp, r1.new n, fun z => ?_, free_of r1.same hp, s1.dom p hp⟩
  obtain ⟨o', e, _⟩ := r1.rs.there p z
  rw [e] at hp; cases hp
theorem go_lst {es : List Expr} {m : MA} (h : GA X W es m) : GO X W (.List es pos) (mLst m) := ⟨pe_imp (pe_lst h.pa) fun σ H Q h => by
  obtain ⟨F, A, ρ, P, PX, r0, hm, hP, hX⟩ := h
  refine ⟨F, A, ρ, _, PX, r0, hm, fun ds ρ1 vs F1 H1 A1 h1 s1 r1 q1 => ⟨by rw [q1.length]; exact h1.1, fun p hp => ?_⟩, hX⟩
  obtain ⟨s2, r2, n1, n2, n3⟩ := own_new (.lst vs) s1 r1 hp
  exact hP _ ρ1 p _ _ _ A1 h1.2 s2 r2 n1 n3 upd_same (.lst q1) n2⟩
/-- an own list that stays from here on -/
def mFz (m : MO) (ρ : List S) (P : D → List S → Prop) (PX : XP) : Prop := m ρ (fun c ρ' => match c with | .lst ds => P (.lst ds) ρ' | _ => False) PX
theorem ge_fz {m : MO} (h : GO X W e m) : GE X W e (mFz m) := ⟨pe_imp h.pe fun σ H Q h => by
  obtain ⟨F, A, ρ, P, PX, r0, hm, hP, hX⟩ := h
  refine ⟨F, A, ρ, _, PX, r0, hm, fun c ρ1 p o F1 H1 A1 h1 s1 r1 n1 n2 n3 n4 n5 => ?_, hX⟩
  cases c with
  | lst ds =>
    cases n4 with
    | lst q =>
      rename_i vs
      have sm : Same F1 (upd F1 p (.lst vs)) := same_new n5
      refine hP _ ρ1 _ (upd F1 p (.lst vs)) H1 A1 h1 ⟨s1.ext.trans sm, s1.kp, fun b o e n => ?_, s1.sub, s1.dom⟩ ⟨fun b o e => ?_, r1.rs.move sm fun b hb => ⟨rfl, ?_⟩⟩ (.lst upd_same (q.mono sm))
      · rw [upd_ne (fun z => by rw [z, n2] at e; cases e)]
        exact s1.fr b o e n
      · rw [upd_eq] at e
        split at e
        · rename_i z; subst z; cases e; exact n3
        · exact r1.same b o e
      · obtain ⟨_, _, n⟩ := r1.rs.there b hb
        exact (upd_ne (fun (z : b = p) => n1 (by rw [← z]; exact hb))).trans n
  | _ => exact h1.elim⟩

/-! ### subscripts, slices -/
def fIx : D → D → (D → Prop) → Prop
  | .lst ds, .int i, P => ∃ d, atI ds i = some d ∧ P d
  | .tup ds, .int i, P => ∃ d, atI ds i = some d ∧ P d
  | .scr ns, .int i, P => ∃ n, atI ns i = some n ∧ P (.int n)
  | .str x, .int i, P => x.length ≤ sizeLine ∧ ∃ c, atI x.cps.toList i = some c ∧ P (.str ⟨#[c]⟩)
  | _, _, _ => False
theorem atI_reps {K : PySem.W.Frag} {F : Hp} {vs : List V} {ds : List D} {i : Int} {d : D} (r : Reps K F vs ds) (h : atI ds i = some d) : ∃ v, atI vs i = some v ∧ Rep K F v d := by
  unfold atI at h ⊢
  rw [r.length]
  obtain ⟨j, e1, e2⟩ := Option.bind_eq_some_iff.mp h
  obtain ⟨v, h1, h2⟩ := r.get j e2
  exact ⟨v, Option.bind_eq_some_iff.mpr ⟨j, e1, h1⟩, h2⟩
theorem atI_map {α β : Type} {f : α → β} {xs : List α} {i : Int} {x : α} (h : atI xs i = some x) : atI (xs.map f) i = some (f x) := by
  unfold atI at h ⊢
  rw [List.length_map]
  obtain ⟨j, e1, e2⟩ := Option.bind_eq_some_iff.mp h
  exact Option.bind_eq_some_iff.mpr ⟨j, e1, by rw [List.getElem?_map, e2]; rfl⟩
theorem od_ix {K : PySem.W.Frag} : OpD K (rIx K) fIx := by
  intro F H v u d e P s rv ru h Q q
  cases d <;> cases e <;> first | exact h.elim | skip
  · obtain ⟨z, c, e1, hp⟩ := h
    exact .inr (.inr ⟨_, _, c, rv.str_inv, ru.int_inv, z, e1, q _ _ F H hp (New.refl s) (.str _)⟩)
  · obtain ⟨d, e1, hp⟩ := h
    obtain ⟨a, vs, rfl, e2, r⟩ := rv.lst_inv
    obtain ⟨v, h1, h2⟩ := atI_reps r e1
    exact .inl ⟨a, vs, _, v, rfl, ru.int_inv, .of (s _ _ e2), h1, q _ _ F H hp (New.refl s) h2⟩
  · obtain ⟨d, e1, hp⟩ := h
    obtain ⟨a, vs, rfl, e2, r⟩ := rv.tup_inv
    obtain ⟨v, h1, h2⟩ := atI_reps r e1
    exact .inr (.inl ⟨a, vs, _, v, rfl, ru.int_inv, .of (s _ _ e2), h1, q _ _ F H hp (New.refl s) h2⟩)
  · obtain ⟨n, e1, hp⟩ := h
    obtain ⟨a, rfl, e2⟩ := rv.scr_inv
    exact .inl ⟨a, _, _, .int n, rfl, ru.int_inv, s.seq e2, atI_map e1, q _ _ F H hp (New.refl s) (.int n)⟩
theorem ge_ix (ha : GE X W a ma) (hb : GE X W b mb) (hp : PlainIx b := by exact fun _ _ => rfl) : GE X W (.Subscript a b pos) (mBin fIx ma mb) := ⟨pe_imp (pe_ix ix_seq ha.pe hb.pe hp) fun _ _ _ h => lift_bin od_ix h⟩
/-- an item of an own list (or of one that stays by now) -/
def mIxV (i : Nat) (mb : ME) (ρ : List S) (P : D → List S → Prop) (PX : XP) : Prop := match ρ[i]? with
  | some (.ow _ _) => mb ρ (fun e ρ1 => match ρ1[i]? with
    | some (.ow _ (.lst ds)) => fIx (.lst ds) e fun z => P z ρ1
    | _ => False) PX
  | some (.fz d) => mb ρ (fun e ρ1 => fIx d e fun z => P z ρ1) PX
  | _ => False
theorem slot_keeps {K : PySem.W.Frag} {F : Hp} {A : List Addr} {ρ : List S} {σ : L2.St} {H : Hp} (r : R K F A ρ σ H) {i : Nat} {v : V} (h : σ[i]? = some (some v)) {t : Option Addr} {c : C} (e : ρ[i]? = some (.ow t c)) :
    ∃ p o, v = .ref p ∧ p ∈ A ∧ H p = some o ∧ RepC K F o c ∧ F p = none := by
  obtain ⟨p, o, h1, h2, h3, h4, h5, _⟩ := r.rs.getO e
  rw [h1] at h
  exact ⟨p, o, (Option.some.inj (Option.some.inj h)).symm, h2, h3, h4, h5⟩
theorem ge_ixv {i : Nat} {x : Str} {p2 : Pos} (hb : GE X W b mb) (hN : X.N[i]? = some x := by rfl) (hv : Vis X.env.scope x := by first | exact Or.inl rfl | exact Or.inr (Or.inl rfl) | exact Or.inr (Or.inr rfl)) (hd : (x == ("__debug__" : Str)) = false := by decide)
    (hcd : (x == ("__classdict__" : Str)) = false := by decide) (hp : PlainIx b := by exact fun _ _ => rfl) : GE X W (.Subscript (.Name x p2) b pos) (mIxV i mb) := ⟨⟨fun pins s σ H Q I h => by
  refine (pe_ix ix_seq (pe_var hN hv hd hcd) hb.pe hp).run pins s σ H Q I ?_
  obtain ⟨F, A, ρ, P, PX, r0, hm, hP, hX⟩ := h
  unfold mIxV at hm
  split at hm
  · rename_i t c h
    obtain ⟨p, o, h1, _⟩ := r0.rs.getO h
    refine ⟨_, h1, F, A, ρ, _, PX, r0, hm, fun e ρ1 u F1 H1 A1 h2 s1 r1 q1 => ?_, hX⟩
    split at h2
    · rename_i t ds h'
      obtain ⟨p', o', e1, h3, h4, h5, h6⟩ := slot_keeps r1 h1 h'
      cases e1
      cases h5 with
      | lst h5 =>
        cases e with
        | int i =>
          obtain ⟨d, e2, hp⟩ := h2
          obtain ⟨v, e3, h7⟩ := atI_reps h5 e2
          exact .inl ⟨_, _, _, v, rfl, q1.int_inv, .of h4, e3, hP _ _ _ _ _ _ hp s1 r1 h7⟩
        | _ => exact h2.elim
    · exact h2.elim
  · rename_i d h
    obtain ⟨v, h1, h2⟩ := r0.rs.getF h
    refine ⟨_, h1, F, A, ρ, _, PX, r0, hm, fun e ρ1 u F1 H1 A1 h3 s1 r1 q1 => ?_, hX⟩
    exact od_ix F1 H1 v u d e _ r1.same (h2.mono s1.ext) q1 h3 Q fun z w F3 H3 hz n w' => hP z ρ1 w F3 H3 A1 hz (s1.trans n.stp) (r1.new n) w'
  · exact hm.elim⟩⟩
/-- slices of a frozen list, text, tuple -/
def mNoP (ρ : List S) (P : Option Int → List S → Prop) (PX : XP) : Prop := P none ρ
def mSoP (m : ME) (ρ : List S) (P : Option Int → List S → Prop) (PX : XP) : Prop := m ρ (fun d ρ1 => match d with | .int i => P (some i) ρ1 | _ => False) PX
theorem gp_none : GP X W none mNoP := ⟨po_imp po_none fun σ H Q ⟨F, A, ρ, P, PX, r, hm, hP, _⟩ => hP _ _ _ _ _ hm Stp.refl r⟩
theorem gp_some (h : GE X W e ma) : GP X W (some e) (mSoP ma) := ⟨po_imp (po_some h.pe) fun σ H Q h => by
  obtain ⟨F, A, ρ, P, PX, r0, hm, hP, hX⟩ := h
  refine ⟨F, A, ρ, _, PX, r0, hm, fun d ρ1 v F1 H1 A1 h1 s1 r1 q1 => ?_, hX⟩
  cases d with
  | int i => exact ⟨i, q1.int_inv, hP _ _ _ _ _ h1 s1 r1⟩
  | _ => exact h1.elim⟩
def cutD {α : Type} (xs : List α) (lo hi : Option Int) : List α := (xs.drop (HT.sIx xs.length 0 lo)).take (HT.sIx xs.length xs.length hi - HT.sIx xs.length 0 lo)
def fSl : D → Option Int → Option Int → (D → Prop) → Prop
  | .str x, lo, hi, P => x.length ≤ sizeLine ∧ P (.str (cutS x lo hi))
  | .lst x, lo, hi, P => P (.lst (cutD x lo hi))
  | .tup x, lo, hi, P => ¬ (HT.sIx x.length 0 lo = 0 ∧ HT.sIx x.length x.length hi = x.length) ∧ P (.tup (cutD x lo hi))
  | _, _, _, _ => False
def rSlA (K : PySem.W.Frag) : V → Option Int → Option Int → Hp → VK → Prop := fun x lo hi H Q => rSlS x lo hi H Q ∨ rSlL K x lo hi H Q ∨ rSlT K x lo hi H Q
theorem sl_any : SlR X (rSlA X.K) := sl_str.or (sl_list.or sl_tup)
def mSl (m : ME) (l h : MP) (ρ : List S) (P : D → List S → Prop) (PX : XP) : Prop := m ρ (fun d ρ1 => l ρ1 (fun lo ρ2 => h ρ2 (fun hi ρ3 => fSl d lo hi fun z => P z ρ3) PX) PX) PX
theorem Reps.cut {K : PySem.W.Frag} {F : Hp} {vs : List V} {ds : List D} (r : Reps K F vs ds) (lo hi : Option Int) : Reps K F (cutV vs lo hi) (cutD ds lo hi) := by
  unfold cutV cutD
  rw [r.length]
  exact (r.drop _).take _
theorem ge_sl {lo hi : Option Expr} {ml mh : MP} {p2 : Pos} (ha : GE X W e ma) (hl : GP X W lo ml) (hh : GP X W hi mh) : GE X W (.Subscript e (.Slice lo hi none p2) pos) (mSl ma ml mh) := ⟨pe_imp (pe_slice sl_any ha.pe hl.po hh.po) fun σ H Q h => by
  obtain ⟨F, A, ρ, P, PX, r0, hm, hP, hX⟩ := h
  refine ⟨F, A, ρ, _, PX, r0, hm, fun d ρ1 v F1 H1 A1 h1 s1 r1 q1 => ?_, hX⟩
  refine ⟨F1, A1, ρ1, _, PX, r1, h1, fun lo ρ2 F2 H2 A2 h2 s2 r2 => ?_, hX.step s1⟩
  refine ⟨F2, A2, ρ2, _, PX, r2, h2, fun hi ρ3 F3 H3 A3 h3 s3 r3 => ?_, hX.step (s1.trans s2)⟩
  have q3 := (q1.mono s2.ext).mono s3.ext
  have s := (s1.trans s2).trans s3
  cases d with
  | str x => exact .inl ⟨x, q3.str_inv, h3.1, hP _ _ _ _ _ _ h3.2 s r3 (.str _)⟩
  | lst ds =>
    obtain ⟨a, vs, rfl, e2, r⟩ := q3.lst_inv
    refine .inr (.inl ⟨a, vs, rfl, .of (r3.same _ _ e2), fun p hp => ?_⟩)
    have n := New.mk1 (.lst (cutV vs lo hi)) r3.same hp
    exact hP _ ρ3 _ _ _ _ h3 (s.trans n.stp) (r3.new n) (.lst upd_same ((r.cut lo hi).mono n.ext))
  | tup ds =>
    obtain ⟨a, vs, rfl, e2, r⟩ := q3.tup_inv
    refine .inr (.inr ⟨a, vs, rfl, .of (r3.same _ _ e2), by rw [r.length]; exact h3.1, fun p hp => ?_⟩)
    have n := New.mk1 (.tup (cutV vs lo hi)) r3.same hp
    exact hP _ ρ3 _ _ _ _ h3.2 (s.trans n.stp) (r3.new n) (.tup upd_same ((r.cut lo hi).mono n.ext))
  | _ => exact h3.elim⟩
def mNeg (ma : ME) (ρ : List S) (P : D → List S → Prop) (PX : XP) : Prop := ma ρ (fun d ρ1 => match d with | .int i => P (.int (-i)) ρ1 | _ => False) PX
theorem ge_neg (ha : GE X W a ma) : GE X W (.UnaryOp .USub a pos) (mNeg ma) := ⟨pe_imp (pe_un un_neg ha.pe) fun σ H Q h => by
  obtain ⟨F, A, ρ, P, PX, r0, hm, hP, hX⟩ := h
  refine ⟨F, A, ρ, _, PX, r0, hm, fun d ρ1 v F1 H1 A1 h1 s1 r1 q1 => ?_, hX⟩
  cases d with
  | int i => exact ⟨i, q1.int_inv, hP _ _ _ _ _ _ h1 s1 r1 (.int _)⟩
  | _ => exact h1.elim⟩
end
end G

/-! G: targets, loops, comprehensions, statements -/
namespace G
open PySem PySem.Spec PyProof.Rows L2

/-- what a return hands back: data, or an object of one's own -/
inductive Rv where
  | fz (d : D) | ow (c : C)
structure PEnds where
  nx : List S → Prop
  rt : Rv → List S → Prop
  bk : List S → Prop := fun _ => False
  ct : List S → Prop := fun _ => False
  ex : XP
abbrev MS := PEnds → List S → Prop
abbrev MI := List S → (List D → List S → Prop) → XP → Prop
abbrev MG := D → List S → (List S → Prop) → Prop
abbrev MGs := List D → List S → (List S → Prop) → Prop
abbrev MX := List S → (S → List S → Prop) → XP → Prop

def RvOk (K : PySem.W.Frag) (F H : Hp) (A : List Addr) (F' H' : Hp) (A' : List Addr) (v : V) : Rv → Prop
  | .fz d => Rep K F' v d
  | .ow c => ∃ p o A1, v = .ref p ∧ p ∈ A1 ∧ Stp F H A F' H' A1 ∧ p ∉ A' ∧ H' p = some o ∧ RepC K F' o c ∧ F' p = none
structure SE (K : PySem.W.Frag) (W : WX) (D : Ends) (PD : PEnds) (F H : Hp) (A : List Addr) : Prop where
  nx : ∀ ρ' σ' F' H' A', PD.nx ρ' → Stp F H A F' H' A' → R K F' A' ρ' σ' H' → D.nx σ' H'
  rt : ∀ rv ρ' v σ' F' H' A', PD.rt rv ρ' → Stp F H A F' H' A' → R K F' A' ρ' σ' H' → RvOk K F H A F' H' A' v rv → D.rt v H'
  bk : ∀ ρ' σ' F' H' A', PD.bk ρ' → Stp F H A F' H' A' → R K F' A' ρ' σ' H' → D.bk σ' H'
  ct : ∀ ρ' σ' F' H' A', PD.ct ρ' → Stp F H A F' H' A' → R K F' A' ρ' σ' H' → D.ct σ' H'
  ex : ∀ x ρ' σ' F' H' A' cls dd, PD.ex x ρ' → Stp F H A F' H' A' → R K F' A' ρ' σ' H' → ExR H' x cls dd → W cls dd σ' H'
section
variable {K : PySem.W.Frag} {W : WX} {D : Ends} {PD : PEnds} {F H F1 H1 : Hp} {A A1 : List Addr}
theorem RvOk.step {F' H' : Hp} {A' : List Addr} {v : V} {rv : Rv} (s : Stp F H A F1 H1 A1) (h : RvOk K F1 H1 A1 F' H' A' v rv) : RvOk K F H A F' H' A' v rv := by
  cases rv with
  | fz d => exact h
  | ow c =>
    obtain ⟨p, o, A2, h1, h2, h3, h4⟩ := h
    exact ⟨p, o, A2, h1, h2, s.trans h3, h4⟩
theorem SE.step (h : SE K W D PD F H A) (s : Stp F H A F1 H1 A1) : SE K W D PD F1 H1 A1 where
  nx := fun ρ' σ' F' H' A' h1 s1 r1 => h.nx ρ' σ' F' H' A' h1 (s.trans s1) r1
  rt := fun rv ρ' v σ' F' H' A' h1 s1 r1 q1 => h.rt rv ρ' v σ' F' H' A' h1 (s.trans s1) r1 (q1.step s)
  bk := fun ρ' σ' F' H' A' h1 s1 r1 => h.bk ρ' σ' F' H' A' h1 (s.trans s1) r1
  ct := fun ρ' σ' F' H' A' h1 s1 r1 => h.ct ρ' σ' F' H' A' h1 (s.trans s1) r1
  ex := fun x ρ' σ' F' H' A' cls dd h1 s1 r1 q1 => h.ex x ρ' σ' F' H' A' cls dd h1 (s.trans s1) r1 q1
theorem SE.xc (h : SE K W D PD F H A) (σ : L2.St) : XC K W F H A σ PD.ex := fun x ρ' F' H' A' cls dd h1 s1 r1 q1 => h.ex x ρ' σ F' H' A' cls dd h1 s1 r1 q1
end
def liftS (K : PySem.W.Frag) (W : WX) (m : MS) : TS := fun D σ H => ∃ F A ρ PD, R K F A ρ σ H ∧ m PD ρ ∧ SE K W D PD F H A
structure GS (X : Cx) (W : WX) (st : Stmt) (m : MS) : Prop where
  ps : PS X st (liftS X.K W m)
structure GSs (X : Cx) (W : WX) (st : List Stmt) (m : MS) : Prop where
  pss : PSs X st (liftS X.K W m)
theorem ps_imp {X : Cx} {st : Stmt} {t t' : TS} (h : PS X st t) (i : ∀ D σ H, t' D σ H → t D σ H) : PS X st t' := ⟨fun pins s σ H D I hw => h.run pins s σ H D I (i D σ H hw)⟩
theorem pss_imp {X : Cx} {st : List Stmt} {t t' : TS} (h : PSs X st t) (i : ∀ D σ H, t' D σ H → t D σ H) : PSs X st t' := ⟨fun pins s σ H D I hw => h.run pins s σ H D I (i D σ H hw)⟩

section
variable {X : Cx} {W : WX} {e : Expr} {st : Stmt} {rest : List Stmt} {pos : Pos} {m1 m2 : MS} {ma : ME}
/-! ### blocks -/
def mNx (PD : PEnds) (ρ : List S) : Prop := PD.nx ρ
/-- what comes next: opened only at the head -/
structure Nxt (m : MS) (PD : PEnds) (ρ : List S) : Prop where
  go : m PD ρ
theorem nxt_go {m : MS} {PD : PEnds} {ρ : List S} (h : m PD ρ) : Nxt m PD ρ := ⟨h⟩
def mSeq (m1 m2 : MS) (PD : PEnds) (ρ : List S) : Prop := m1 { PD with nx := fun ρ' => Nxt m2 PD ρ' } ρ
theorem gss_nil : GSs X W [] mNx := ⟨pss_imp pss_nil fun D σ H ⟨F, A, ρ, PD, r, h, q⟩ => q.nx _ _ _ _ _ h Stp.refl r⟩
theorem gss_cons (h1 : GS X W st m1) (h2 : GSs X W rest m2) : GSs X W (st :: rest) (mSeq m1 m2) := ⟨pss_imp (pss_cons h1.ps h2.pss) fun D σ H h => by
  obtain ⟨F, A, ρ, PD, r, h, q⟩ := h
  exact ⟨F, A, ρ, _, r, h, ⟨fun ρ' σ' F' H' A' h1 s1 r1 => ⟨F', A', ρ', PD, r1, h1.go, q.step s1⟩, q.rt, q.bk, q.ct, q.ex⟩⟩⟩
theorem gss_one (h1 : GS X W st m1) : GSs X W [st] m1 := ⟨pss_one h1.ps⟩
theorem gs_pass : GS X W (.Pass pos) mNx := ⟨ps_imp ps_pass fun D σ H ⟨F, A, ρ, PD, r, h, q⟩ => q.nx _ _ _ _ _ h Stp.refl r⟩
def mBk (PD : PEnds) (ρ : List S) : Prop := PD.bk ρ
def mCt (PD : PEnds) (ρ : List S) : Prop := PD.ct ρ
theorem gs_break : GS X W (.Break pos) mBk := ⟨ps_imp ps_break fun D σ H ⟨F, A, ρ, PD, r, h, q⟩ => q.bk _ _ _ _ _ h Stp.refl r⟩
theorem gs_continue : GS X W (.Continue pos) mCt := ⟨ps_imp ps_continue fun D σ H ⟨F, A, ρ, PD, r, h, q⟩ => q.ct _ _ _ _ _ h Stp.refl r⟩
def mEx (m : ME) (PD : PEnds) (ρ : List S) : Prop := m ρ (fun _ ρ' => PD.nx ρ') PD.ex
theorem gs_expr (h : GE X W e ma) (hs : swapsWith e none pos.line X.env = pure false := by rfl) : GS X W (.Expr e pos) (mEx ma) := ⟨ps_imp (ps_expr h.pe hs) fun D σ H h => by
  obtain ⟨F, A, ρ, PD, r, h, q⟩ := h
  exact ⟨F, A, ρ, _, PD.ex, r, h, fun d ρ' v F' H' A' h1 s1 r1 q1 => q.nx _ _ _ _ _ h1 s1 r1, q.xc σ⟩⟩
def mIfS (t : MT) (a b : MS) (PD : PEnds) (ρ : List S) : Prop := t ρ (fun c ρ1 => (c = true → a PD ρ1) ∧ (c = false → b PD ρ1)) PD.ex
theorem gs_if {c : Expr} {a b : List Stmt} {mt : MT} (hc : GT X W c mt) (ha : GSs X W a m1) (hb : GSs X W b m2) : GS X W (.If c a b pos) (mIfS mt m1 m2) := ⟨ps_imp (ps_if hc.pt ha.pss hb.pss) fun D σ H h => by
  obtain ⟨F, A, ρ, PD, r, h, q⟩ := h
  refine ⟨F, A, ρ, _, PD.ex, r, h, fun b ρ' F' H' A' h1 s1 r1 => ?_, q.xc σ⟩
  cases b with
  | true => rw [if_pos rfl]; exact ⟨F', A', ρ', PD, r1, h1.1 rfl, q.step s1⟩
  | false => rw [if_neg Bool.false_ne_true]; exact ⟨F', A', ρ', PD, r1, h1.2 rfl, q.step s1⟩⟩

/-! ### a value for a slot: data, or a new object of one's own -/
def SlOk (K : PySem.W.Frag) (H : Hp) (F' H' : Hp) (A' : List Addr) (v : V) : S → Prop
  | .fz d => Rep K F' v d
  | .ow none c => ∃ p o, v = .ref p ∧ p ∉ A' ∧ H p = none ∧ H' p = some o ∧ RepC K F' o c ∧ F' p = none
  | _ => False
def liftX (K : PySem.W.Frag) (W : WX) (m : MX) : TE := fun σ H Q => ∃ F A ρ P PX, R K F A ρ σ H ∧ m ρ P PX ∧
  (∀ s ρ' v F' H' A', P s ρ' → Stp F H A F' H' A' → R K F' A' ρ' σ H' → SlOk K H F' H' A' v s → Q v H') ∧ XC K W F H A σ PX
structure GX (X : Cx) (W : WX) (e : Expr) (m : MX) : Prop where
  pe : PE X e (liftX X.K W m)
def mXe (m : ME) (ρ : List S) (P : S → List S → Prop) (PX : XP) : Prop := m ρ (fun d ρ' => P (.fz d) ρ') PX
def mXo (m : MO) (ρ : List S) (P : S → List S → Prop) (PX : XP) : Prop := m ρ (fun c ρ' => P (.ow none c) ρ') PX
theorem gx_e (h : GE X W e ma) : GX X W e (mXe ma) := ⟨pe_imp h.pe fun σ H Q h => by
  obtain ⟨F, A, ρ, P, PX, r, hm, hP, hX⟩ := h
  exact ⟨F, A, ρ, _, PX, r, hm, fun d ρ' v F' H' A' h1 s1 r1 q1 => hP _ _ _ _ _ _ h1 s1 r1 q1, hX⟩⟩
theorem gx_o {mo : MO} (h : GO X W e mo) : GX X W e (mXo mo) := ⟨pe_imp h.pe fun σ H Q h => by
  obtain ⟨F, A, ρ, P, PX, r, hm, hP, hX⟩ := h
  exact ⟨F, A, ρ, _, PX, r, hm, fun c ρ' p o F' H' A' h1 s1 r1 n1 n2 n3 n4 n5 => hP _ _ _ _ _ _ h1 s1 r1 ⟨p, o, rfl, n1, n2, n3, n4, n5⟩, hX⟩⟩
/-- stored -/
theorem R.store {K : PySem.W.Frag} {F H F' H' : Hp} {A A' : List Addr} {ρ : List S} {σ : L2.St} {v : V} {s : S} (s1 : Stp F H A F' H' A') (r : R K F' A' ρ σ H') (q : SlOk K H F' H' A' v s) (i : Nat) :
    ∃ A2, Stp F H A F' H' A2 ∧ R K F' A2 (ρ.set i s) (σ.set i (some v)) H' := by
  cases s with
  | un => exact q.elim
  | fz d =>
    obtain ⟨A2, h1, h2⟩ := r.rs.setF q i
    exact ⟨A2, s1.trans (Stp.less h1), r.same, h2⟩
  | ow t c =>
    cases t with
    | some t => exact q.elim
    | none =>
      obtain ⟨p, o, rfl, n1, n2, n3, n4, n5⟩ := q
      obtain ⟨A2, h1, h2⟩ := r.rs.setO n1 n3 n4 n5 i
      refine ⟨A2, ⟨s1.ext, s1.kp, s1.fr, fun b hb => ?_, s1.dom⟩, r.same, h2⟩
      rcases h1 b hb with z | z
      · exact s1.sub b z
      · rw [z]; exact .inr n2
def mSet (i : Nat) (m : MX) (PD : PEnds) (ρ : List S) : Prop := m ρ (fun s ρ' => PD.nx (ρ'.set i s)) PD.ex
theorem gs_set {i : Nat} {x : Str} {p2 : Pos} {mx : MX} (he : GX X W e mx) (hN : X.N.Nodup) (hi : X.N[i]? = some x := by rfl) (hx : Loc X.env.scope x := by first | exact Or.inl rfl | exact Or.inr rfl) (hs : swapsWith e (some (.Name x p2)) pos.line X.env = pure false := by rfl)
    (hf : X.fn x = true ∨ X.env.scope.names.lookup x = some .local := by first | exact .inl rfl | exact .inr rfl) : GS X W (.Assign [.Name x p2] e pos) (mSet i mx) := ⟨ps_imp (ps_set hN hi hx he.pe hs hf) fun D σ H h => by
  obtain ⟨F, A, ρ, PD, r, h, q⟩ := h
  refine ⟨F, A, ρ, _, PD.ex, r, h, fun s ρ' v F' H' A' h1 s1 r1 q1 => ?_, q.xc σ⟩
  obtain ⟨A2, s2, r2⟩ := r1.store s1 q1 i
  exact q.nx _ _ _ _ _ h1 s2 r2⟩
/-- return -/
def mRet (m : ME) (PD : PEnds) (ρ : List S) : Prop := m ρ (fun d ρ' => PD.rt (.fz d) ρ') PD.ex
theorem gs_ret (h : GE X W e ma) : GS X W (.Return (some e) pos) (mRet ma) := ⟨ps_imp (ps_ret h.pe) fun D σ H h => by
  obtain ⟨F, A, ρ, PD, r, h, q⟩ := h
  exact ⟨F, A, ρ, _, PD.ex, r, h, fun d ρ' v F' H' A' h1 s1 r1 q1 => q.rt _ _ _ _ _ _ _ h1 s1 r1 q1, q.xc σ⟩⟩
def mRetO (m : MO) (PD : PEnds) (ρ : List S) : Prop := m ρ (fun c ρ' => PD.rt (.ow c) ρ') PD.ex
theorem gs_retO {mo : MO} (h : GO X W e mo) : GS X W (.Return (some e) pos) (mRetO mo) := ⟨ps_imp (ps_ret h.pe) fun D σ H h => by
  obtain ⟨F, A, ρ, PD, r, h, q⟩ := h
  refine ⟨F, A, ρ, _, PD.ex, r, h, fun c ρ' p o F' H' A' h1 s1 r1 n1 n2 n3 n4 n5 => q.rt _ _ _ _ _ _ _ h1 s1 r1 ⟨p, o, p :: A', rfl, List.mem_cons_self, ⟨s1.ext, s1.kp, s1.fr, fun b hb => ?_, s1.dom⟩, n1, n3, n4, n5⟩, q.xc σ⟩
  rcases List.mem_cons.mp hb with z | z
  · rw [z]; exact .inr n2
  · exact s1.sub b z⟩
def mRetN (PD : PEnds) (ρ : List S) : Prop := PD.rt (.fz .non) ρ
theorem gs_retN : GS X W (.Return none pos) mRetN := ⟨ps_imp ps_retN fun D σ H ⟨F, A, ρ, PD, r, h, q⟩ => q.rt _ _ _ _ _ _ _ h Stp.refl r .non⟩
/-- return of an own local: it's given away -/
def mRetV (i : Nat) (PD : PEnds) (ρ : List S) : Prop := match ρ[i]? with
  | some (.ow none c) => PD.rt (.ow c) (ρ.set i .un)
  | _ => False
theorem RS.take {K : PySem.W.Frag} {F H : Hp} {A : List Addr} {ρ : List S} {σ : L2.St} (r : RS K F H A ρ σ) : ∀ {i : Nat} {t : Option Addr} {c : C}, ρ[i]? = some (.ow t c) →
    ∃ p o A', σ[i]? = some (some (V.ref p)) ∧ H p = some o ∧ RepC K F o c ∧ F p = none ∧ p ∈ A ∧ (∀ q, q ∈ A' → q ∈ A) ∧ p ∉ A' ∧ RS K F H A' (ρ.set i .un) σ := by
  induction r with
  | nil => intro i t c e; simp at e
  | un r0 ih => intro i t c e; cases i with
    | zero => simp at e
    | succ i =>
      obtain ⟨p, o, A', h1, h2, h3, h4, h5, h6, h7, h8⟩ := ih (i := i) (by simpa using e)
      exact ⟨p, o, A', by simpa using h1, h2, h3, h4, h5, h6, h7, .un h8⟩
  | fz q0 r0 ih => intro i t c e; cases i with
    | zero => simp at e
    | succ i =>
      obtain ⟨p, o, A', h1, h2, h3, h4, h5, h6, h7, h8⟩ := ih (i := i) (by simpa using e)
      exact ⟨p, o, A', by simpa using h1, h2, h3, h4, h5, h6, h7, .fz q0 h8⟩
  | ow e0 c0 n0 na0 t0 r0 ih => intro i t c e; cases i with
    | zero =>
      simp at e
      obtain ⟨rfl, rfl⟩ := e
      exact ⟨_, _, _, rfl, e0, c0, n0, List.mem_cons_self, fun q h => List.mem_cons_of_mem _ h, na0, .un r0⟩
    | succ i =>
      obtain ⟨p, o, A', h1, h2, h3, h4, h5, h6, h7, h8⟩ := ih (i := i) (by simpa using e)
      refine ⟨p, o, _ :: A', by simpa using h1, h2, h3, h4, List.mem_cons_of_mem _ h5, fun q h => ?_, fun h => ?_, .ow e0 c0 n0 (fun z => na0 (h6 _ z)) t0 h8⟩
      · rcases List.mem_cons.mp h with z | z
        · rw [z]; exact List.mem_cons_self
        · exact List.mem_cons_of_mem _ (h6 q z)
      · rcases List.mem_cons.mp h with z | z
        · exact na0 (by rw [← z]; exact h5)
        · exact h7 z
theorem gs_retV {i : Nat} {x : Str} {p2 : Pos} (hN : X.N[i]? = some x := by rfl) (hv : Vis X.env.scope x := by first | exact Or.inl rfl | exact Or.inr (Or.inl rfl) | exact Or.inr (Or.inr rfl)) (hd : (x == ("__debug__" : Str)) = false := by decide)
    (hcd : (x == ("__classdict__" : Str)) = false := by decide) : GS X W (.Return (some (.Name x p2)) pos) (mRetV i) := ⟨ps_imp (ps_ret (pe_var hN hv hd hcd)) fun D σ H h => by
  obtain ⟨F, A, ρ, PD, r, h, q⟩ := h
  unfold mRetV at h
  split at h
  · rename_i c e
    obtain ⟨p, o, A', h1, h2, h3, h4, h5, h6, h7, h8⟩ := r.rs.take e
    exact ⟨_, h1, q.rt _ _ _ _ F H A' h (Stp.less h6) ⟨r.same, h8⟩ ⟨p, o, A, rfl, h5, Stp.refl, h7, h2, h3, h4⟩⟩
  · exact h.elim⟩
/-- name op= e, on data -/
def mAug (i : Nat) (f : D → D → (D → Prop) → Prop) (m : ME) (PD : PEnds) (ρ : List S) : Prop := match ρ[i]? with
  | some (.fz d) => m ρ (fun e ρ' => f d e fun z => PD.nx (ρ'.set i (.fz z))) PD.ex
  | _ => False
theorem gs_aug {i : Nat} {x : Str} {op : Operator} {r : R2} {f : D → D → (D → Prop) → Prop} {p2 : Pos} (ho : OpR X (inplaceOp op) r) (hf : OpD X.K r f) (he : GE X W e ma) (hN : X.N.Nodup) (hi : X.N[i]? = some x := by rfl) (hx : Loc X.env.scope x := by first | exact Or.inl rfl | exact Or.inr rfl)
    (hfn : X.fn x = true ∨ X.env.scope.names.lookup x = some .local := by first | exact .inl rfl | exact .inr rfl) : GS X W (.AugAssign (.Name x p2) op e pos) (mAug i f ma) := ⟨ps_imp (ps_aug hN hi hx he.pe (ti := r) (fun pins s σ H x y v u Q I rx ry q => ho pins s σ H x y v u Q I rx ry q) hfn) fun D σ H h => by
  obtain ⟨F, A, ρ, PD, r0, h, q⟩ := h
  unfold mAug at h
  split at h
  · rename_i d h0
    obtain ⟨v0, h1, h2⟩ := r0.rs.getF h0
    refine ⟨v0, h1, F, A, ρ, _, PD.ex, r0, h, fun d' ρ' v F' H' A' h1 s1 r1 q1 => ?_, q.xc σ⟩
    refine hf F' H' v0 v d d' _ r1.same (h2.mono s1.ext) q1 h1 _ fun z w F3 H3 hz n w' => ?_
    obtain ⟨A2, s2, r2⟩ := R.store (s := .fz z) (s1.trans n.stp) (r1.new n) w' i
    exact q.nx _ _ _ _ _ hz s2 r2
  · exact h.elim⟩
end
end G

/-! G: targets, what is walked, loops, comprehensions -/
namespace G
open PySem PySem.Spec PyProof.Rows L2

/-! ### targets -/
def Chg (is : List Nat) (σ σ' : L2.St) : Prop := σ'.length = σ.length ∧ ∀ j, j ∉ is → σ'[j]? = σ[j]?
theorem Chg.refl {σ : L2.St} {is : List Nat} : Chg is σ σ := ⟨rfl, fun _ _ => rfl⟩
def liftG (K : PySem.W.Frag) (is : List Nat) (m : MG) : TG := fun v σ H Q => ∃ F A ρ d P, R K F A ρ σ H ∧ Rep K F v d ∧ m d ρ P ∧
  ∀ ρ' σ' A', P ρ' → Stp F H A F H A' → R K F A' ρ' σ' H → Chg is σ σ' → Q σ' H
def liftGs (K : PySem.W.Frag) (is : List Nat) (m : MGs) : TGs := fun vs σ H Q => ∃ F A ρ ds P, R K F A ρ σ H ∧ Reps K F vs ds ∧ m ds ρ P ∧
  ∀ ρ' σ' A', P ρ' → Stp F H A F H A' → R K F A' ρ' σ' H → Chg is σ σ' → Q σ' H
structure GG (X : Cx) (is : List Nat) (tg : Expr) (m : MG) : Prop where
  pg : PG X tg (liftG X.K is m)
structure GGs (X : Cx) (is : List Nat) (tgs : List Expr) (m : MGs) : Prop where
  pgs : PGs X tgs (liftGs X.K is m)
theorem pg_imp {X : Cx} {e : Expr} {t t' : TG} (h : PG X e t) (i : ∀ v σ H Q, t' v σ H Q → t v σ H Q) : PG X e t' := ⟨fun pins s σ H v u Q I r hw => h.run pins s σ H v u Q I r (i v σ H Q hw)⟩
theorem pgs_imp {X : Cx} {e : List Expr} {t t' : TGs} (h : PGs X e t) (i : ∀ v σ H Q, t' v σ H Q → t v σ H Q) : PGs X e t' := ⟨fun pins s σ H v u Q I r hw => h.run pins s σ H v u Q I r (i v σ H Q hw)⟩
section
variable {X : Cx} {W : WX} {e tg : Expr} {es : List Expr} {pos p2 : Pos} {is js : List Nat} {mg : MG} {mgs : MGs}
def gN (i : Nat) (d : D) (ρ : List S) (P : List S → Prop) : Prop := P (ρ.set i (.fz d))
theorem gg_name {i : Nat} {x : Str} (hN : X.N.Nodup) (hi : X.N[i]? = some x := by rfl) (hx : Loc X.env.scope x := by first | exact Or.inl rfl | exact Or.inr rfl) (hf : X.fn x = true ∨ X.env.scope.names.lookup x = some .local := by first | exact .inl rfl | exact .inr rfl) :
    GG X [i] (.Name x pos) (gN i) := ⟨pg_imp (pg_name hN hi hx hf) fun v σ H Q h => by
  obtain ⟨F, A, ρ, d, P, r, q, hm, hP⟩ := h
  obtain ⟨A2, s2, r2⟩ := R.store (s := .fz d) (Stp.refl) r q i
  exact hP _ _ _ hm s2 r2 ⟨List.length_set, fun j hj => List.getElem?_set_ne (fun z => hj (by simp [z]))⟩⟩
def gNl (ds : List D) (ρ : List S) (P : List S → Prop) : Prop := match ds with
  | [] => P ρ
  | _ => False
def gCs (g : MG) (gs : MGs) (ds : List D) (ρ : List S) (P : List S → Prop) : Prop := match ds with
  | d :: r => g d ρ fun ρ1 => gs r ρ1 P
  | _ => False
def gT (gs : MGs) (d : D) (ρ : List S) (P : List S → Prop) : Prop := match d with
  | .tup ds => gs ds ρ P
  | _ => False
theorem ggs_nil : GGs X [] [] gNl := ⟨pgs_imp pgs_nil fun v σ H Q h => by
  obtain ⟨F, A, ρ, ds, P, r, q, hm, hP⟩ := h
  cases q with
  | nil => exact ⟨rfl, hP _ _ _ hm Stp.refl r .refl⟩
  | cons _ _ => exact hm.elim⟩
theorem ggs_cons (h1 : GG X is e mg) (h2 : GGs X js es mgs) (hs : (assignEach (e :: es) X.env).map (·.2) = assign e X.env :: (assignEach es X.env).map (·.2) := by rfl) : GGs X (is ++ js) (e :: es) (gCs mg mgs) :=
  ⟨pgs_imp (pgs_cons h1.pg h2.pgs hs) fun vs σ H Q h => by
  obtain ⟨F, A, ρ, ds, P, r, q, hm, hP⟩ := h
  cases q with
  | nil => exact hm.elim
  | cons q1 q2 =>
    refine ⟨_, _, rfl, F, A, ρ, _, _, r, q1, hm, fun ρ1 σ1 A1 h1 s1 r1 c1 => ?_⟩
    refine ⟨F, A1, ρ1, _, _, r1, q2, h1, fun ρ2 σ2 A2 h2 s2 r2 c2 => hP _ _ _ h2 (s1.trans s2) r2 ⟨c2.1.trans c1.1, fun j hj => ?_⟩⟩
    rw [c2.2 j (fun z => hj (List.mem_append_right _ z)), c1.2 j (fun z => hj (List.mem_append_left _ z))]⟩
theorem gg_tup {k : Nat} {n : Nat} (hc : X.calm = true) (h : GGs X is es mgs) (hl : es.length = n) (hm : ∀ ds ρ P, mgs ds ρ P → ds.length = n) (hn : (assignEach es X.env).length = n := by rfl) (hst : (assignEach es X.env).findIdx? (·.1) = none := by rfl) : GG X is (.Tuple es k pos) (gT mgs) :=
  ⟨pg_imp (pg_tup hc h.pgs hn hst) fun v σ H Q h => by
  obtain ⟨F, A, ρ, d, P, r, q, hm', hP⟩ := h
  cases d with
  | tup ds =>
    obtain ⟨a, vs, rfl, e2, r2⟩ := q.tup_inv
    exact ⟨a, vs, rfl, .of (r.same _ _ e2), by rw [r2.length]; exact hm _ _ _ hm', F, A, ρ, ds, P, r, r2, hm', hP⟩
  | _ => exact hm'.elim⟩
theorem gNl_len {ds : List D} {ρ : List S} {P : List S → Prop} (h : gNl ds ρ P) : ds.length = 0 := by
  cases ds with
  | nil => rfl
  | cons _ _ => exact h.elim
theorem gCs1_len {i : Nat} {gs : MGs} {n : Nat} (hg : ∀ ds ρ P, gs ds ρ P → ds.length = n) (ds : List D) (ρ : List S) (P : List S → Prop) (h : gCs (gN i) gs ds ρ P) : ds.length = n + 1 := by
  cases ds with
  | nil => exact h.elim
  | cons d r => exact congrArg (· + 1) (hg _ _ _ h)
/-- (a, b) = a pair; three; four -/
theorem gg_tup2 {i j : Nat} {e1 e2 : Expr} {k : Nat} (hc : X.calm = true) (h1 : GG X [i] e1 (gN i)) (h2 : GG X [j] e2 (gN j)) (hn : (assignEach [e1, e2] X.env).length = 2 := by rfl) (hst : (assignEach [e1, e2] X.env).findIdx? (·.1) = none := by rfl)
    (hs : (assignEach [e1, e2] X.env).map (·.2) = assign e1 X.env :: (assignEach [e2] X.env).map (·.2) := by rfl) (hs2 : (assignEach [e2] X.env).map (·.2) = assign e2 X.env :: (assignEach [] X.env).map (·.2) := by rfl) :
    GG X [i, j] (.Tuple [e1, e2] k pos) (gT (gCs (gN i) (gCs (gN j) gNl))) :=
  gg_tup hc (ggs_cons h1 (ggs_cons h2 ggs_nil hs2) hs) rfl (gCs1_len (n := 1) (gCs1_len (n := 0) fun _ _ _ h => gNl_len h)) hn hst
theorem gg_tup3 {i j l : Nat} {e1 e2 e3 : Expr} {k : Nat} (hc : X.calm = true) (h1 : GG X [i] e1 (gN i)) (h2 : GG X [j] e2 (gN j)) (h3 : GG X [l] e3 (gN l)) (hn : (assignEach [e1, e2, e3] X.env).length = 3 := by rfl) (hst : (assignEach [e1, e2, e3] X.env).findIdx? (·.1) = none := by rfl)
    (hs : (assignEach [e1, e2, e3] X.env).map (·.2) = assign e1 X.env :: (assignEach [e2, e3] X.env).map (·.2) := by rfl) (hs2 : (assignEach [e2, e3] X.env).map (·.2) = assign e2 X.env :: (assignEach [e3] X.env).map (·.2) := by rfl)
    (hs3 : (assignEach [e3] X.env).map (·.2) = assign e3 X.env :: (assignEach [] X.env).map (·.2) := by rfl) :
    GG X [i, j, l] (.Tuple [e1, e2, e3] k pos) (gT (gCs (gN i) (gCs (gN j) (gCs (gN l) gNl)))) :=
  gg_tup hc (ggs_cons h1 (ggs_cons h2 (ggs_cons h3 ggs_nil hs3) hs2) hs) rfl (gCs1_len (n := 2) (gCs1_len (n := 1) (gCs1_len (n := 0) fun _ _ _ h => gNl_len h))) hn hst
end

/-! ### what is walked -/
def IsIt (K : PySem.W.Frag) (F : Hp) (J : It) (ds : List D) : Prop := ∀ i F2 H, Same F F2 → Same F2 H →
  (∀ h : i < ds.length, J.go i H ∧ ∀ x H', J.yld i H x H' → ∃ F3, New F2 H F3 H' ∧ Rep K F3 x ds[i]) ∧ (ds.length ≤ i → J.stop i H)
def liftI (K : PySem.W.Frag) (W : WX) (m : MI) : TI := fun σ H Rr => ∃ F A ρ P PX, R K F A ρ σ H ∧ m ρ P PX ∧
  (∀ ds ρ' F' H' A' J, P ds ρ' → Stp F H A F' H' A' → R K F' A' ρ' σ H' → IsIt K F' J ds → Rr J H') ∧ XC K W F H A σ PX
structure GI (X : Cx) (W : WX) (tg e : Expr) (m : MI) : Prop where
  pi : PI X tg e (liftI X.K W m)
theorem pi_imp {X : Cx} {tg e : Expr} {t t' : TI} (h : PI X tg e t) (i : ∀ σ H Q, t' σ H Q → t σ H Q) : PI X tg e t' := ⟨fun pins s σ H Q I hw => h.run pins s σ H Q I (i σ H Q hw)⟩
section
variable {K : PySem.W.Frag}
theorem isIt_list {F : Hp} {a : Addr} {vs : List V} {ds : List D} (e : F a = some (.lst vs)) (r : Reps K F vs ds) : IsIt K F (Itl K a) ds := by
  intro i F2 H s1 s2
  have hq : SqL K H a vs := .of (s2 _ _ (s1 _ _ e))
  refine ⟨fun h => ?_, fun h => ⟨vs, hq, by rw [r.length]; exact h⟩⟩
  obtain ⟨v, h1, h2⟩ := r.get i (List.getElem?_eq_getElem h)
  refine ⟨⟨vs, v, hq, h1⟩, fun x H' y => ?_⟩
  obtain ⟨rfl, y⟩ := y
  have : x = v := Option.some.inj ((y vs hq).symm.trans h1)
  subst this
  exact ⟨F2, New.refl s2, h2.mono s1⟩
theorem isIt_tup {F : Hp} {a : Addr} {vs : List V} {ds : List D} (e : F a = some (.tup vs)) (r : Reps K F vs ds) : IsIt K F (Itt K a) ds := by
  intro i F2 H s1 s2
  have hq : SqT K H a vs := .of (s2 _ _ (s1 _ _ e))
  refine ⟨fun h => ?_, fun h => ⟨vs, hq, by rw [r.length]; exact h⟩⟩
  obtain ⟨v, h1, h2⟩ := r.get i (List.getElem?_eq_getElem h)
  refine ⟨⟨vs, v, hq, h1⟩, fun x H' y => ?_⟩
  obtain ⟨rfl, y⟩ := y
  have : x = v := Option.some.inj ((y vs hq).symm.trans h1)
  subst this
  exact ⟨F2, New.refl s2, h2.mono s1⟩
/-- lo, lo + c, .. -/
def rngD (lo c : Int) (n : Nat) : List D := (List.range n).map fun i => D.int (lo + (i : Nat) * c)
theorem isIt_rng {F : Hp} (lo : Int) (n : Nat) : IsIt K F (Itr lo n) (rngD lo 1 n) := by
  intro i F2 H s1 s2
  have hl : (rngD lo 1 n).length = n := by simp [rngD]
  refine ⟨fun h => ⟨by rw [← hl]; exact h, fun x H' y => ?_⟩, fun h => by rw [hl] at h; exact h⟩
  obtain ⟨rfl, rfl⟩ := y
  refine ⟨F2, New.refl s2, ?_⟩
  have : (rngD lo 1 n)[i] = D.int (lo + i) := by simp [rngD]
  rw [this]
  exact .int _
theorem isIt_rngC {F : Hp} (lo c : Int) (n : Nat) : IsIt K F (Itc lo c n) (rngD lo c n) := by
  intro i F2 H s1 s2
  have hl : (rngD lo c n).length = n := by simp [rngD]
  refine ⟨fun h => ⟨by rw [← hl]; exact h, fun x H' y => ?_⟩, fun h => by rw [hl] at h; exact h⟩
  obtain ⟨rfl, rfl⟩ := y
  refine ⟨F2, New.refl s2, ?_⟩
  have : (rngD lo c n)[i] = D.int (lo + (i : Nat) * c) := by simp [rngD]
  rw [this]
  exact .int _
def signs (x : Str) : List D := x.cps.toList.map fun c => D.str ⟨#[c]⟩
theorem isIt_str {F : Hp} (z : Str) : IsIt K F (Its z) (signs z) := by
  intro i F2 H s1 s2
  have hl : (signs z).length = z.cps.size := by simp [signs]
  refine ⟨fun h => ⟨(show i < z.cps.size by rw [← hl]; exact h), fun x H' y => ?_⟩, fun h => (show z.cps.size ≤ i by rw [hl] at h; exact h)⟩
  obtain ⟨rfl, c, hc, rfl⟩ := y
  refine ⟨F2, New.refl s2, ?_⟩
  have hi : i < z.cps.size := by rw [← hl]; exact h
  have : z.cps[i] = c := by
    rw [Array.getElem?_eq_getElem hi] at hc
    exact Option.some.inj hc
  have e : (signs z)[i] = D.str ⟨#[c]⟩ := by simp [signs, this]
  rw [e]
  exact .str _
theorem isIt_rev {F : Hp} {a : Addr} {vs : List V} {ds : List D} (e : F a = some (.lst vs)) (r : Reps K F vs ds) : IsIt K F (Itv K a vs.length) ds.reverse := by
  intro i F2 H s1 s2
  have hq : SqL K H a vs := .of (s2 _ _ (s1 _ _ e))
  have hl : ds.reverse.length = vs.length := by rw [List.length_reverse, r.length]
  refine ⟨fun h => ?_, fun h => by rw [hl] at h; exact h⟩
  have h0 : i < vs.length := by rw [← hl]; exact h
  have h1 : ds[vs.length - 1 - i]? = some ds.reverse[i] := by
    rw [List.getElem_reverse, List.getElem?_eq_getElem (by rw [← r.length]; omega)]
    congr 2
    rw [r.length]
  obtain ⟨v, h2, h3⟩ := r.get _ h1
  refine ⟨⟨h0, vs, v, hq, h2⟩, fun x H' y => ?_⟩
  obtain ⟨rfl, y⟩ := y
  have : x = v := Option.some.inj ((y vs hq).symm.trans h2)
  subst this
  exact ⟨F2, New.refl s2, h3.mono s1⟩
def enumD (ds : List D) : List D := (List.range ds.length).map fun i => D.tup [.int (i : Nat), ds.getD i .non]
theorem isIt_enum {F : Hp} {a : Addr} {vs : List V} {ds : List D} (e : F a = some (.lst vs)) (r : Reps K F vs ds) : IsIt K F (Ite K a) (enumD ds) := by
  intro i F2 H s1 s2
  have hq : SqL K H a vs := .of (s2 _ _ (s1 _ _ e))
  have hl : (enumD ds).length = ds.length := by simp [enumD]
  refine ⟨fun h => ?_, fun h => ⟨vs, hq, by rw [r.length, ← hl]; exact h⟩⟩
  have h0 : i < ds.length := by rw [← hl]; exact h
  obtain ⟨v, h1, h2⟩ := r.get i (List.getElem?_eq_getElem h0)
  refine ⟨⟨vs, v, hq, h1⟩, fun x H' y => ?_⟩
  obtain ⟨T, x', rfl, hT, rfl, y⟩ := y
  have : x' = v := Option.some.inj ((y vs hq).symm.trans h1)
  subst this
  have n := New.mk1 (.tup [.int (i : Nat), x']) s2 hT
  refine ⟨_, n, ?_⟩
  have e : (enumD ds)[i] = D.tup [.int (i : Nat), ds[i]] := by simp [enumD, h0]
  rw [e]
  exact .tup upd_same (.cons (.int _) (.cons ((h2.mono s1).mono n.ext) .nil))
def zipD (ds es : List D) : List D := (ds.zip es).map fun p => D.tup [p.1, p.2]
theorem isIt_zip {F : Hp} {a b : Addr} {vs us : List V} {ds es : List D} (e : F a = some (.lst vs)) (r : Reps K F vs ds) (e' : F b = some (.lst us)) (r' : Reps K F us es) : IsIt K F (Itz K a b) (zipD ds es) := by
  intro i F2 H s1 s2
  have hq : SqL K H a vs := .of (s2 _ _ (s1 _ _ e))
  have hq' : SqL K H b us := .of (s2 _ _ (s1 _ _ e'))
  have hl : (zipD ds es).length = min ds.length es.length := by simp [zipD]
  refine ⟨fun h => ?_, fun h => ⟨vs, us, hq, hq', ?_⟩⟩
  · rw [hl] at h
    have k1 : i < ds.length := by omega
    have k2 : i < es.length := by omega
    obtain ⟨v, h1, h2⟩ := r.get i (List.getElem?_eq_getElem k1)
    obtain ⟨u, h1', h2'⟩ := r'.get i (List.getElem?_eq_getElem k2)
    refine ⟨⟨vs, us, v, u, hq, hq', h1, h1'⟩, fun x H' y => ?_⟩
    obtain ⟨T, x1, x2, rfl, hT, rfl, y1, y2⟩ := y
    have : x1 = v := Option.some.inj ((y1 vs hq).symm.trans h1)
    subst this
    have : x2 = u := Option.some.inj ((y2 us hq').symm.trans h1')
    subst this
    have n := New.mk1 (.tup [x1, x2]) s2 hT
    refine ⟨_, n, ?_⟩
    have e : (zipD ds es)[i]'(by rw [hl]; exact h) = D.tup [ds[i], es[i]] := by simp [zipD]
    rw [e]
    exact .tup upd_same (.cons ((h2.mono s1).mono n.ext) (.cons ((h2'.mono s1).mono n.ext) .nil))
  · rw [hl] at h
    rw [r.length, r'.length]
    omega
end
section
variable {X : Cx} {W : WX} {e e2 tg : Expr} {es : List Expr} {p pos p2 tpos : Pos} {ma : ME} {mas : MA} {elts : List Expr} {kk : Nat}
def iL (m : ME) (ρ : List S) (P : List D → List S → Prop) (PX : XP) : Prop := m ρ (fun d ρ1 => match d with | .lst ds => P ds ρ1 | _ => False) PX
def iT (m : ME) (ρ : List S) (P : List D → List S → Prop) (PX : XP) : Prop := m ρ (fun d ρ1 => match d with | .tup ds => P ds ρ1 | _ => False) PX
def iS (m : ME) (ρ : List S) (P : List D → List S → Prop) (PX : XP) : Prop := m ρ (fun d ρ1 => match d with | .str z => P (signs z) ρ1 | _ => False) PX
theorem gi_list (h : GE X W e ma) : GI X W tg e (iL ma) := ⟨pi_imp (pi_list h.pe) fun σ H Q h => by
  obtain ⟨F, A, ρ, P, PX, r, hm, hP, hX⟩ := h
  refine ⟨F, A, ρ, _, PX, r, hm, fun d ρ' v F' H' A' h1 s1 r1 q1 => ?_, hX⟩
  cases d with
  | lst ds =>
    obtain ⟨a, vs, rfl, e2, r2⟩ := q1.lst_inv
    exact ⟨a, rfl, ⟨vs, .of (r1.same _ _ e2)⟩, hP _ _ _ _ _ _ h1 s1 r1 (isIt_list e2 r2)⟩
  | _ => exact h1.elim⟩
theorem gi_tup (h : GE X W e ma) : GI X W tg e (iT ma) := ⟨pi_imp (pi_tup h.pe) fun σ H Q h => by
  obtain ⟨F, A, ρ, P, PX, r, hm, hP, hX⟩ := h
  refine ⟨F, A, ρ, _, PX, r, hm, fun d ρ' v F' H' A' h1 s1 r1 q1 => ?_, hX⟩
  cases d with
  | tup ds =>
    obtain ⟨a, vs, rfl, e2, r2⟩ := q1.tup_inv
    exact ⟨a, rfl, ⟨vs, .of (r1.same _ _ e2)⟩, hP _ _ _ _ _ _ h1 s1 r1 (isIt_tup e2 r2)⟩
  | _ => exact h1.elim⟩
theorem gi_str (h : GE X W e ma) : GI X W tg e (iS ma) := ⟨pi_imp (pi_str h.pe) fun σ H Q h => by
  obtain ⟨F, A, ρ, P, PX, r, hm, hP, hX⟩ := h
  refine ⟨F, A, ρ, _, PX, r, hm, fun d ρ' v F' H' A' h1 s1 r1 q1 => ?_, hX⟩
  cases d with
  | str z => exact ⟨z, q1.str_inv, hP _ _ _ _ _ _ h1 s1 r1 (isIt_str z)⟩
  | _ => exact h1.elim⟩
/-- range of ints within 2 ^ 62 -/
def sm62 (i : Int) : Prop := -(2 ^ 62) ≤ i ∧ i < 2 ^ 62
def iR1 (m : MA) (ρ : List S) (P : List D → List S → Prop) (PX : XP) : Prop := m ρ (fun ds ρ1 => match ds with
  | [.int j] => sm62 j ∧ P (rngD 0 1 j.toNat) ρ1
  | _ => False) PX
def iR2 (m : MA) (ρ : List S) (P : List D → List S → Prop) (PX : XP) : Prop := m ρ (fun ds ρ1 => match ds with
  | [.int i, .int j] => sm62 i ∧ sm62 j ∧ P (rngD i 1 (j - i).toNat) ρ1
  | _ => False) PX
def iR3 (m : MA) (ρ : List S) (P : List D → List S → Prop) (PX : XP) : Prop := m ρ (fun ds ρ1 => match ds with
  | [.int i, .int j, .int c] => ∃ n, RgC i j c n ∧ P (rngD i c n) ρ1
  | _ => False) PX
theorem gi_range1 {a : Expr} (hm : X.mg "range" = none) (ha : GA X W [a] mas) (hg : Gl X "range" := by rfl) (hs : starEach [a] X.env = [(false, eval a X.env)] := by rfl) : GI X W tg (.Call (.Name "range" p) [a] [] pos) (iR1 mas) := ⟨⟨fun pins s σ H Q I h => by
  obtain ⟨F, A, ρ, P, PX, r, hm', hP, hX⟩ := h
  refine (pi_range1 hg hm (ha.pa) hs).run pins s σ H Q I ⟨F, A, ρ, _, PX, r, hm', fun ds ρ' vs F' H' A' h1 s1 r1 q1 => ?_, hX⟩
  split at h1
  · rename_i j
    cases q1 with
    | cons q1 q2 =>
      cases q2
      rw [q1.int_inv]
      exact ⟨j, rfl, h1.1.1, h1.1.2, hP _ _ _ _ _ _ h1.2 s1 r1 (isIt_rng 0 _)⟩
  · exact h1.elim⟩⟩
theorem gi_range2 {a b : Expr} (hm : X.mg "range" = none) (ha : GA X W [a, b] mas) (hg : Gl X "range" := by rfl) (hs : starEach [a, b] X.env = [(false, eval a X.env), (false, eval b X.env)] := by rfl) (hs2 : starEach [b] X.env = [(false, eval b X.env)] := by rfl) :
    GI X W tg (.Call (.Name "range" p) [a, b] [] pos) (iR2 mas) := ⟨⟨fun pins s σ H Q I h => by
  obtain ⟨F, A, ρ, P, PX, r, hm', hP, hX⟩ := h
  refine (pi_range2 hg hm (ha.pa) hs hs2).run pins s σ H Q I ⟨F, A, ρ, _, PX, r, hm', fun ds ρ' vs F' H' A' h1 s1 r1 q1 => ?_, hX⟩
  split at h1
  · rename_i i j
    cases q1 with
    | cons q1 q2 =>
      cases q2 with
      | cons q2 q3 =>
        cases q3
        rw [q1.int_inv, q2.int_inv]
        exact ⟨i, j, rfl, ⟨h1.1.1, h1.1.2, h1.2.1.1, h1.2.1.2⟩, hP _ _ _ _ _ _ h1.2.2 s1 r1 (isIt_rng i _)⟩
  · exact h1.elim⟩⟩
theorem gi_range3 {a b c : Expr} (hm : X.mg "range" = none) (ha : GA X W [a, b, c] mas) (hg : Gl X "range" := by rfl) (hs : starEach [a, b, c] X.env = (false, eval a X.env) :: starEach [b, c] X.env := by rfl) (hpl : (backTo pos (starEach [b, c] X.env)).any (·.1) = false := by rfl) :
    GI X W tg (.Call (.Name "range" p) [a, b, c] [] pos) (iR3 mas) := ⟨⟨fun pins s σ H Q I h => by
  obtain ⟨F, A, ρ, P, PX, r, hm', hP, hX⟩ := h
  refine (pi_range3 hg hm (ha.pa) hs hpl).run pins s σ H Q I ⟨F, A, ρ, _, PX, r, hm', fun ds ρ' vs F' H' A' h1 s1 r1 q1 => ?_, hX⟩
  split at h1
  · rename_i i j c
    obtain ⟨n, h2, h3⟩ := h1
    cases q1 with
    | cons q1 q2 =>
      cases q2 with
      | cons q2 q3 =>
        cases q3 with
        | cons q3 q4 =>
          cases q4
          rw [q1.int_inv, q2.int_inv, q3.int_inv]
          exact ⟨i, j, c, n, rfl, h2, hP _ _ _ _ _ _ h3 s1 r1 (isIt_rngC i c _)⟩
  · exact h1.elim⟩⟩
def iEn (m : MA) (ρ : List S) (P : List D → List S → Prop) (PX : XP) : Prop := m ρ (fun ds ρ1 => match ds with | [.lst ds] => P (enumD ds) ρ1 | _ => False) PX
theorem gi_enum (hm : X.mg "enumerate" = none) (ha : GA X W [e] mas) (hg : Gl X "enumerate" := by rfl) (hs : starEach [e] X.env = [(false, eval e X.env)] := by rfl) : GI X W (.Tuple elts kk tpos) (.Call (.Name "enumerate" p) [e] [] pos) (iEn mas) := ⟨⟨fun pins s σ H Q I h => by
  obtain ⟨F, A, ρ, P, PX, r, hm', hP, hX⟩ := h
  refine (pi_enum hg hm (ha.pa) hs).run pins s σ H Q I ⟨F, A, ρ, _, PX, r, hm', fun ds ρ' vs F' H' A' h1 s1 r1 q1 => ?_, hX⟩
  split at h1
  · cases q1 with
    | cons q1 q2 =>
      cases q2
      obtain ⟨a, vs, rfl, e2, r2⟩ := q1.lst_inv
      exact ⟨a, vs, rfl, .of (r1.same _ _ e2), hP _ _ _ _ _ _ h1 s1 r1 (isIt_enum e2 r2)⟩
  · exact h1.elim⟩⟩
def iZp (m : MA) (ρ : List S) (P : List D → List S → Prop) (PX : XP) : Prop := m ρ (fun ds ρ1 => match ds with | [.lst ds, .lst es] => P (zipD ds es) ρ1 | _ => False) PX
theorem gi_zip (hm : X.mg "zip" = none) (ha : GA X W [e, e2] mas) (hg : Gl X "zip" := by rfl) (hs : starEach [e, e2] X.env = (false, eval e X.env) :: starEach [e2] X.env := by rfl) (hpl : (backTo pos (starEach [e2] X.env)).any (·.1) = false := by rfl) :
    GI X W (.Tuple elts kk tpos) (.Call (.Name "zip" p) [e, e2] [] pos) (iZp mas) := ⟨⟨fun pins s σ H Q I h => by
  obtain ⟨F, A, ρ, P, PX, r, hm', hP, hX⟩ := h
  refine (pi_zip hg hm (ha.pa) hs hpl).run pins s σ H Q I ⟨F, A, ρ, _, PX, r, hm', fun ds ρ' vs F' H' A' h1 s1 r1 q1 => ?_, hX⟩
  split at h1
  · cases q1 with
    | cons q1 q2 =>
      cases q2 with
      | cons q2 q3 =>
        cases q3
        obtain ⟨a, vs, rfl, e2, r2⟩ := q1.lst_inv
        obtain ⟨b, us, rfl, e3, r3⟩ := q2.lst_inv
        exact ⟨a, b, vs, us, rfl, .of (r1.same _ _ e2), .of (r1.same _ _ e3), hP _ _ _ _ _ _ h1 s1 r1 (isIt_zip e2 r2 e3 r3)⟩
  · exact h1.elim⟩⟩
def iRv (m : MA) (ρ : List S) (P : List D → List S → Prop) (PX : XP) : Prop := m ρ (fun ds ρ1 => match ds with | [.lst ds] => P ds.reverse ρ1 | _ => False) PX
theorem gi_rev (hm : X.mg "reversed" = none) (ha : GA X W [e] mas) (hg : Gl X "reversed" := by rfl) (hs : starEach [e] X.env = [(false, eval e X.env)] := by rfl) : GI X W tg (.Call (.Name "reversed" p) [e] [] pos) (iRv mas) := ⟨⟨fun pins s σ H Q I h => by
  obtain ⟨F, A, ρ, P, PX, r, hm', hP, hX⟩ := h
  refine (pi_reversed hg hm (ha.pa) hs).run pins s σ H Q I ⟨F, A, ρ, _, PX, r, hm', fun ds ρ' vs F' H' A' h1 s1 r1 q1 => ?_, hX⟩
  split at h1
  · cases q1 with
    | cons q1 q2 =>
      cases q2
      obtain ⟨a, vs, rfl, e2, r2⟩ := q1.lst_inv
      exact ⟨a, vs, rfl, .of (r1.same _ _ e2), hP _ _ _ _ _ _ h1 s1 r1 (isIt_rev e2 r2)⟩
  · exact h1.elim⟩⟩

/-! ### for, while -/
/-- behind a turn: less may be known -/
def lp (I : List S → Prop) : List S → Prop := fun ρ => ∃ ρ0, Wk ρ0 ρ ∧ I ρ0
def PEnds.loop (PD : PEnds) (N : List S → Prop) : PEnds := { PD with nx := N, ct := N, bk := PD.nx }
def mFor (mi : MI) (g : MG) (mb : MS) (PD : PEnds) (ρ : List S) : Prop := mi ρ (fun ds ρ1 => ∃ I : Nat → List S → Prop, lp (I 0) ρ1 ∧
  (∀ i (h : i < ds.length) ρ, I i ρ → g ds[i] ρ (mb (PD.loop (lp (I (i + 1)))))) ∧ ∀ ρ, I ds.length ρ → PD.nx ρ) PD.ex
theorem gs_for {is : List Nat} {body : List Stmt} {mi : MI} {mg : MG} {mb : MS} (hp : PassesOwn (model X.prog X.w) X.A X.env X.xe) (hc : X.calm = true) (hi : GI X W tg e mi) (hg : GG X is tg mg) (hb : GSs X W body mb) (hs : ∀ x, foldedSetIterable e X.env x = pure x := by intro _; rfl) : GS X W (.For tg e body [] pos) (mFor mi mg mb) :=
  ⟨ps_imp (ps_for hp hc hi.pi hg.pg hb.pss hs) fun D σ H h => by
  obtain ⟨F, A, ρ, PD, r, h, q⟩ := h
  refine ⟨F, A, ρ, _, PD.ex, r, h, fun ds ρ1 F1 H1 A1 J h1 s1 r1 j1 => ?_, q.xc σ⟩
  obtain ⟨I, ⟨ρ0, w0, i0⟩, turn, done⟩ := h1
  refine ⟨fun i m σ' H' => m = ds.length - i ∧ i ≤ ds.length ∧ ∃ F' A' ρ', I i ρ' ∧ Stp F1 H1 A1 F' H' A' ∧ R X.K F' A' ρ' σ' H', ⟨ds.length, by simp, Nat.zero_le _, ?_⟩, ?_⟩
  · obtain ⟨A2, s2, r2⟩ := r1.weak w0
    exact ⟨F1, A2, ρ0, i0, s2, r2⟩
  · rintro i m σ' H' ⟨rfl, hi, F', A', ρ', hI, s', r'⟩
    obtain ⟨j2, j3⟩ := j1 i F' H' s'.ext r'.same
    by_cases hlt : i < ds.length
    · obtain ⟨go, yld⟩ := j2 hlt
      refine .inr ⟨go, fun σ2 H2 => ∃ F2 A2 ρ2, I (i + 1) ρ2 ∧ Stp F1 H1 A1 F2 H2 A2 ∧ R X.K F2 A2 ρ2 σ2 H2, fun σ2 H2 hh => ⟨ds.length - (i + 1), by omega, rfl, hlt, hh⟩, fun x H2 y => ?_⟩
      obtain ⟨F3, n, q3⟩ := yld x H2 y
      have r3 := r'.new n
      refine ⟨F3, A', ρ', ds[i], _, r3, q3, turn i hlt ρ' hI, fun ρ4 σ4 A4 h4 s4 r4 _ => ?_⟩
      have s5 := (s'.trans n.stp).trans s4
      have fin : ∀ ρ6 σ6 F6 H6 A6, lp (I (i + 1)) ρ6 → Stp F3 H2 A4 F6 H6 A6 → R X.K F6 A6 ρ6 σ6 H6 → ∃ F2 A2 ρ2, I (i + 1) ρ2 ∧ Stp F1 H1 A1 F2 H6 A2 ∧ R X.K F2 A2 ρ2 σ6 H6 := fun ρ6 σ6 F6 H6 A6 l s6 r6 => by
        obtain ⟨ρ0, w, hI'⟩ := l
        obtain ⟨A7, s7, r7⟩ := r6.weak w
        exact ⟨F6, A7, ρ0, hI', (s5.trans s6).trans s7, r7⟩
      have q' := q.step (s1.trans s5)
      exact ⟨F3, A4, ρ4, _, r4, h4, ⟨fun ρ6 σ6 F6 H6 A6 l s6 r6 => fin ρ6 σ6 F6 H6 A6 l s6 r6, q'.rt, q'.nx, fun ρ6 σ6 F6 H6 A6 l s6 r6 => fin ρ6 σ6 F6 H6 A6 l s6 r6, q'.ex⟩⟩
    · have e : i = ds.length := by omega
      subst e
      exact .inl ⟨j3 (Nat.le_refl _), q.nx _ _ _ _ _ (done _ hI) (s1.trans s') r'⟩⟩
def mWhile (t : MT) (mb : MS) (PD : PEnds) (ρ : List S) : Prop := ∃ I : Nat → List S → Prop, (∃ n, lp (I n) ρ) ∧ ∀ n ρ, I n ρ → t ρ (fun b ρ1 => (b = true → mb (PD.loop (fun ρ' => ∃ k, k < n ∧ lp (I k) ρ')) ρ1) ∧ (b = false → PD.nx ρ1)) PD.ex
theorem gs_while {body : List Stmt} {mt : MT} {mb : MS} (hp : PassesOwn (model X.prog X.w) X.A X.env X.xe) (ht : GT X W e mt) (hb : GSs X W body mb) : GS X W (.While e body [] pos) (mWhile mt mb) := ⟨ps_imp (ps_while hp ht.pt hb.pss) fun D σ H h => by
  obtain ⟨F, A, ρ, PD, r, h, q⟩ := h
  obtain ⟨I, ⟨n0, ρ0, w0, i0⟩, turn⟩ := h
  refine ⟨fun n σ' H' => ∃ F' A' ρ', I n ρ' ∧ Stp F H A F' H' A' ∧ R X.K F' A' ρ' σ' H', ⟨n0, ?_⟩, ?_⟩
  · obtain ⟨A2, s2, r2⟩ := r.weak w0
    exact ⟨F, A2, ρ0, i0, s2, r2⟩
  · rintro n σ' H' ⟨F', A', ρ', hI, s', r'⟩
    refine ⟨F', A', ρ', _, PD.ex, r', turn n ρ' hI, fun b ρ1 F1 H1 A1 h1 s1 r1 => ?_, (q.step s').xc σ'⟩
    have s2 := s'.trans s1
    cases b with
    | true =>
      refine iteT ?_
      have q' := q.step s2
      have fin : ∀ ρ6 σ6 F6 H6 A6, (∃ k, k < n ∧ lp (I k) ρ6) → Stp F1 H1 A1 F6 H6 A6 → R X.K F6 A6 ρ6 σ6 H6 → ∃ m', m' < n ∧ ∃ F' A' ρ', I m' ρ' ∧ Stp F H A F' H6 A' ∧ R X.K F' A' ρ' σ6 H6 := fun ρ6 σ6 F6 H6 A6 l s6 r6 => by
        obtain ⟨k, hk, ρ0, w, hI'⟩ := l
        obtain ⟨A7, s7, r7⟩ := r6.weak w
        exact ⟨k, hk, F6, A7, ρ0, hI', (s2.trans s6).trans s7, r7⟩
      refine ⟨fun σ6 H6 => ∃ m', m' < n ∧ ∃ F' A' ρ', I m' ρ' ∧ Stp F H A F' H6 A' ∧ R X.K F' A' ρ' σ6 H6, fun σ6 H6 hh => hh, F1, A1, ρ1, _, r1, h1.1 rfl, ⟨fin, q'.rt, q'.nx, fin, q'.ex⟩⟩
    | false => exact iteF (q.nx _ _ _ _ _ (h1.2 rfl) s2 r1)⟩
end
end G

/-! G: comprehensions, promises, calls, built-ins, methods -/
namespace G
open PySem PySem.Spec PyProof.Rows L2

/-! ### comprehensions -/
/-- nothing is let out of a comprehension -/
abbrev WF : WX := fun _ _ _ _ => False
theorem takesF {X : Cx} : Takes X WF := takes0
def noX : XP := fun _ _ => False
def wipeS (ρ : List S) : List Nat → List S
  | [] => ρ
  | v :: vs => (wipeS ρ vs).set v .un
/-- the slots' values elsewhere are of no matter where nothing is known -/
theorem RS.unset {K : PySem.W.Frag} {F H : Hp} {A : List Addr} {ρ : List S} {σ : L2.St} (r : RS K F H A ρ σ) (i : Nat) (o : Option V) : ∃ A', (∀ p, p ∈ A' → p ∈ A) ∧ RS K F H A' (ρ.set i .un) (σ.set i o) := by
  induction r generalizing i with
  | nil => exact ⟨[], fun _ h => h, by simpa using RS.nil⟩
  | un r0 ih => cases i with
    | zero => exact ⟨_, fun _ h => h, .un r0⟩
    | succ i => obtain ⟨A', s, r'⟩ := ih i; exact ⟨A', s, .un r'⟩
  | fz q r0 ih => cases i with
    | zero => exact ⟨_, fun _ h => h, .un r0⟩
    | succ i => obtain ⟨A', s, r'⟩ := ih i; exact ⟨A', s, .fz q r'⟩
  | ow e c n na t r0 ih => cases i with
    | zero => exact ⟨_, fun _ h => List.mem_cons_of_mem _ h, .un r0⟩
    | succ i =>
      obtain ⟨A', s, r'⟩ := ih i
      refine ⟨_ :: A', fun p h => ?_, .ow e c n (fun z => na (s _ z)) t r'⟩
      rcases List.mem_cons.mp h with z | z
      · rw [z]; exact List.mem_cons_self
      · exact List.mem_cons_of_mem _ (s p z)
theorem RS.wiped {K : PySem.W.Frag} {F H : Hp} {A : List Addr} {ρ : List S} {σ : L2.St} (r : RS K F H A ρ σ) : ∀ vs : List Nat, ∃ A', (∀ p, p ∈ A' → p ∈ A) ∧ RS K F H A' (wipeS ρ vs) (wipe σ vs)
  | [] => ⟨A, fun _ h => h, r⟩
  | v :: vs => by
    obtain ⟨A1, s1, r1⟩ := RS.wiped r vs
    obtain ⟨A2, s2, r2⟩ := r1.unset v none
    exact ⟨A2, fun p h => s1 p (s2 p h), r2⟩
/-- from the block's slots back to the def's: the own names unknown -/
theorem RS.unwiped {K : PySem.W.Frag} {F H : Hp} {A : List Addr} {ρ : List S} {σ σ2 : L2.St} (r : RS K F H A ρ σ2) (vs : List Nat) (hw : wipe σ2 vs = wipe σ vs) : ∃ A', (∀ p, p ∈ A' → p ∈ A) ∧ RS K F H A' (wipeS ρ vs) σ := by
  obtain ⟨A', s, r'⟩ := r.wiped vs
  rw [hw] at r'
  refine ⟨A', s, ?_⟩
  -- where wipe σ vs has a value σ has it, where it has none ρ knows nothing
  have hl : (wipe σ vs).length = σ.length := wipe_length σ vs
  have hh : ∀ (i : Nat) v, (wipe σ vs)[i]? = some (some v) → σ[i]? = some (some v) := fun i v e => (wipe_some e).1
  generalize wipe σ vs = τ at r' hl hh
  clear hw r s
  generalize wipeS ρ vs = κ at r'
  induction r' generalizing σ with
  | nil => cases σ with
    | nil => exact .nil
    | cons _ _ => simp at hl
  | un r0 ih => cases σ with
    | nil => simp at hl
    | cons a b => exact .un (ih (by simpa using hl) fun i v e => by simpa using hh (i + 1) v (by simpa using e))
  | fz q r0 ih => cases σ with
    | nil => simp at hl
    | cons a b =>
      have e0 := hh 0 _ rfl
      simp at e0
      subst e0
      exact .fz q (ih (by simpa using hl) fun i v e => by simpa using hh (i + 1) v (by simpa using e))
  | ow e1 c n na t r0 ih => cases σ with
    | nil => simp at hl
    | cons a b =>
      have e0 := hh 0 _ rfl
      simp at e0
      subst e0
      exact .ow e1 c n na t (ih (by simpa using hl) fun i v e => by simpa using hh (i + 1) v (by simpa using e))
theorem wipe_get {σ : L2.St} : ∀ {vs : List Nat} {j : Nat}, j < σ.length → (wipe σ vs)[j]? = if j ∈ vs then some none else σ[j]?
  | [], j, _ => by simp [wipe]
  | v :: vs, j, h => by
    have hl := wipe_length σ vs
    by_cases e : v = j
    · subst e
      rw [show wipe σ (v :: vs) = (wipe σ vs).set v none from rfl, List.getElem?_set_self (by rw [hl]; exact h)]
      simp
    · rw [show wipe σ (v :: vs) = (wipe σ vs).set v none from rfl, List.getElem?_set_ne e, wipe_get h]
      have : (j ∈ v :: vs) ↔ j ∈ vs := by
        simp only [List.mem_cons]
        exact ⟨fun z => z.resolve_left fun y => e y.symm, .inr⟩
      simp only [this]
theorem wipe_chg {σ σ2 : L2.St} {is vs : List Nat} (c : Chg is (wipe σ vs) σ2) (h : ∀ j ∈ is, j ∈ vs) : wipe σ2 vs = wipe σ vs := by
  have hl : σ2.length = σ.length := by rw [c.1, wipe_length]
  apply List.ext_getElem?
  intro j
  by_cases hj : j < σ.length
  · rw [wipe_get (by rw [hl]; exact hj), wipe_get hj]
    split
    · rfl
    · rename_i hv
      rw [c.2 j (fun z => hv (h j z)), wipe_get hj, if_neg hv]
  · rw [List.getElem?_eq_none (by rw [wipe_length, hl]; omega), List.getElem?_eq_none (by rw [wipe_length]; omega)]
def mLc (mi : MI) (g : MG) (mt : MT) (me : ME) (vs : List Nat) (ρ : List S) (P : C → List S → Prop) (PX : XP) : Prop := mi ρ (fun ds ρ1 => ∃ I : Nat → List D → List S → Prop, I 0 [] ρ1 ∧
  (∀ i (h : i < ds.length) acc ρ, I i acc ρ → g ds[i] (wipeS ρ vs) (fun ρ2 => mt ρ2 (fun b ρ3 => (b = true → me ρ3 (fun d ρ4 => acc.length < sizeLine ∧ I (i + 1) (acc ++ [d]) (wipeS ρ4 vs)) noX) ∧ (b = false → I (i + 1) acc (wipeS ρ3 vs))) noX)) ∧
  ∀ acc ρ, I ds.length acc ρ → P (.lst acc) ρ) PX
def mYes (ρ : List S) (P : Bool → List S → Prop) (PX : XP) : Prop := P true ρ
structure GTs (X : Cx) (W : WX) (ifs : List Expr) (m : MT) : Prop where
  pts : PTs X ifs (liftT X.K W m)
section
variable {X : Cx} {W : WX} {e tg : Expr} {pos : Pos} {ma : ME}
theorem gts_nil : GTs X W [] mYes := ⟨⟨fun pins s σ H Q I h => by
  obtain ⟨F, A, ρ, P, PX, r, hm, hP, hX⟩ := h
  exact pts_nil.run pins s σ H Q I (hP _ _ _ _ _ hm Stp.refl r)⟩⟩
theorem gts_one {mt : MT} (h : GT X W e mt) : GTs X W [e] mt := ⟨pts_one h.pt⟩
theorem tlc {mi : MI} {mg : MG} {mt : MT} {me : ME} {is vs : List Nat} (hv : ∀ j ∈ is, j ∈ vs) {σ : L2.St} {H : Hp} {Q : VK} (h : liftO X.K W (mLc mi mg mt me vs) σ H Q) :
    tLc (liftI X.K W mi) (liftG X.K is mg) (liftT X.K WF mt) (lift X.K WF me) vs σ H Q := by
  obtain ⟨F, A, ρ, P, PX, r, hm, hP, hX⟩ := h
  refine ⟨F, A, ρ, _, PX, r, hm, fun ds ρ1 F1 H1 A1 J h1 s1 r1 j1 => ?_, hX⟩
  obtain ⟨I, i0, turn, done⟩ := h1
  intro D hD
  obtain ⟨sD, rD, nD, fD, hD0⟩ := own_new (.lst []) s1 r1 hD
  refine ⟨fun i m H' => m = ds.length - i ∧ i ≤ ds.length ∧ ∃ acc as F' A' ρ', I i acc ρ' ∧ Stp F1 H1 A1 F' H' A' ∧ R X.K F' A' ρ' σ H' ∧ H' D = some (.lst as) ∧ Reps X.K F' as acc ∧ F' D = none ∧ D ∉ A', ⟨ds.length, by simp, Nat.zero_le _, [], [], F1, A1, ρ1, i0, (New.mk0 _ r1.same hD).stp, rD, upd_same, .nil, fD, nD⟩, ?_⟩
  rintro i m H' ⟨rfl, hi, acc, as, F', A', ρ', hI, s', r', hd, ra, fd, nd⟩
  have sF : Same F1 F' := s'.ext
  obtain ⟨j2, j3⟩ := j1 i F' H' sF r'.same
  by_cases hlt : i < ds.length
  · obtain ⟨go, yld⟩ := j2 hlt
    refine .inr ⟨go, fun H2 => ∃ acc as F2 A2 ρ2, I (i + 1) acc ρ2 ∧ Stp F1 H1 A1 F2 H2 A2 ∧ R X.K F2 A2 ρ2 σ H2 ∧ H2 D = some (.lst as) ∧ Reps X.K F2 as acc ∧ F2 D = none ∧ D ∉ A2, fun H2 hh => ⟨ds.length - (i + 1), by omega, rfl, hlt, hh⟩, fun x H2 y => ?_⟩
    obtain ⟨F3, n, q3⟩ := yld x H2 y
    have r3 := r'.new n
    obtain ⟨A3, s3, r3'⟩ := r3.rs.wiped vs
    have rW : R X.K F3 A3 (wipeS ρ' vs) (wipe σ vs) H2 := ⟨r3.same, r3'⟩
    have sW : Stp F' H' A' F3 H2 A3 := n.stp.trans (Stp.less s3)
    have d3 : H2 D = some (.lst as) := n.kp _ _ hd
    have f3 : F3 D = none := (n.fr _ _ hd).trans fd
    have nd3 : D ∉ A3 := fun z => nd (s3 _ z)
    -- a step from there keeps the list at D
    have keepD : ∀ {F6 H6 : Hp} {A6 : List Addr}, Stp F3 H2 A3 F6 H6 A6 → H6 D = some (.lst as) ∧ Reps X.K F6 as acc ∧ F6 D = none ∧ D ∉ A6 := fun {F6 H6 A6} s6 => by
      refine ⟨s6.kp _ _ d3 nd3, (ra.mono n.ext).mono s6.ext, (s6.fr _ _ d3 nd3).trans f3, fun z => ?_⟩
      rcases s6.sub _ z with y | y
      · exact nd3 y
      · rw [d3] at y; cases y
    refine ⟨F3, A3, wipeS ρ' vs, ds[i], _, rW, q3, turn i hlt acc ρ' hI, fun ρ2 σ2 A4 h2 s4 r4 c4 => ?_⟩
    have hw : wipe σ2 vs = wipe σ vs := wipe_chg c4 hv
    refine ⟨hw, F3, A4, ρ2, _, noX, r4, h2, fun b ρ3 F5 H5 A5 h3 s5 r5 => ?_, fun _ _ _ _ _ _ _ z => z.elim⟩
    have s6 := s4.trans s5
    cases b with
    | true =>
      refine iteT ?_
      refine ⟨F5, A5, ρ3, _, noX, r5, h3.1 rfl, fun d ρ4 v F7 H7 A7 h7 s7 r7 q7 => ?_, fun _ _ _ _ _ _ _ z => z.elim⟩
      have s8 := s6.trans s7
      obtain ⟨k1, k2, k3, k4⟩ := keepD s8
      refine ⟨as, k1, by rw [k2.length]; exact h7.1, ?_⟩
      obtain ⟨A8, s9, r9⟩ := r7.rs.unwiped vs hw
      have m9 : RS X.K F7 (upd H7 D (.lst (as ++ [v]))) A8 (wipeS ρ4 vs) σ := r9.move (Same.refl _) fun p hp => ⟨upd_ne fun z => k4 (s9 _ (by rw [← z]; exact hp)), (by obtain ⟨_, _, z⟩ := r9.there p hp; exact z)⟩
      have sAll := (s'.trans sW).trans s8
      have nA1 : D ∉ A1 := nD
      refine ⟨acc ++ [d], as ++ [v], F7, A8, wipeS ρ4 vs, h7.2, ⟨sAll.ext, fun p o e np => ?_, sAll.fr, fun p hp => sAll.sub p (s9 p hp), fun p e => ?_⟩, ⟨fun p o e => ?_, m9⟩, upd_same, k2.append (.cons q7 .nil), k3, fun z => k4 (s9 _ z)⟩
      · by_cases z : p = D
        · rw [z, hD] at e; cases e
        · rw [upd_ne z]; exact sAll.kp p o e np
      · by_cases z : p = D
        · rw [z, upd_same] at e; cases e
        · rw [upd_ne z] at e; exact sAll.dom p e
      · by_cases z : p = D
        · rw [z, k3] at e; cases e
        · rw [upd_ne z]; exact r7.same p o e
    | false =>
      refine iteF ?_
      obtain ⟨k1, k2, k3, k4⟩ := keepD s6
      obtain ⟨A8, s9, r9⟩ := r5.rs.unwiped vs hw
      exact ⟨acc, as, F5, A8, wipeS ρ3 vs, h3.2 rfl, ((s'.trans sW).trans s6).trans (Stp.less s9), ⟨r5.same, r9⟩, k1, k2, k3, fun z => k4 (s9 _ z)⟩
  · have e : i = ds.length := by omega
    subst e
    refine .inl ⟨j3 (Nat.le_refl _), hP _ _ D (.lst as) F' H' A' (done acc ρ' hI) ?_ r' nd hD0 hd (.lst ra) fd⟩
    exact s1.trans s'
theorem go_lc {elt iter : Expr} {ifs : List Expr} {scope : Scope} {own : List (Str × Nat)} {mi : MI} {mg : MG} {mt : MT} {me : ME} {is : List Nat} (hc : X.calm = true) (hN : X.N.Nodup) (hi : GI X W tg iter mi) (ok : BlkOk X.N X.env.scope scope own)
    (hg : ∀ (s : Shared) (H : Hp) (C : Addr) (cl : List (Str × Addr)) (fp : List Addr), GG (X.blk s H scope (compEnvC scope cl C X.env) fp) is tg mg) (ht : ∀ (s : Shared) (H : Hp) (C : Addr) (cl : List (Str × Addr)) (fp : List Addr), GTs (X.blk s H scope (compEnvC scope cl C X.env) fp) WF ifs mt)
    (he : ∀ (s : Shared) (H : Hp) (C : Addr) (cl : List (Str × Addr)) (fp : List Addr), GE (X.blk s H scope (compEnvC scope cl C X.env) fp) WF elt me) (hv : ∀ j ∈ is, j ∈ own.map (·.2) := by decide) (hs : ∀ x, foldedSetIterable iter X.env x = pure x := by intro _; rfl) :
    GO X W (.ListComp elt [⟨tg, iter, ifs, 0⟩] scope pos) (mLc mi mg mt me (own.map (·.2))) :=
  ⟨pe_imp (pe_lc hc hN hi.pi ok (fun s H C cl fp => (hg s H C cl fp).pg) (fun s H C cl fp => (ht s H C cl fp).pts) (fun s H C cl fp => (he s H C cl fp).pe) hs) fun σ H Q h => tlc hv h⟩
/-- name = [..], own or to stay -/
theorem gs_setLcO {i : Nat} {y : Str} {py : Pos} {elt iter : Expr} {ifs : List Expr} {scope : Scope} {own : List (Str × Nat)} {spos : Pos} {mi : MI} {mg : MG} {mt : MT} {me : ME} {is : List Nat} (hc : X.calm = true) (hN : X.N.Nodup) (hi : GI X W tg iter mi) (ok : BlkOk X.N X.env.scope scope own)
    (hg : ∀ (s : Shared) (H : Hp) (C : Addr) (cl : List (Str × Addr)) (fp : List Addr), GG (X.blk s H scope (compEnvC scope cl C X.env) fp) is tg mg) (ht : ∀ (s : Shared) (H : Hp) (C : Addr) (cl : List (Str × Addr)) (fp : List Addr), GTs (X.blk s H scope (compEnvC scope cl C X.env) fp) WF ifs mt)
    (he : ∀ (s : Shared) (H : Hp) (C : Addr) (cl : List (Str × Addr)) (fp : List Addr), GE (X.blk s H scope (compEnvC scope cl C X.env) fp) WF elt me) (hsw : swapsWith (.ListComp elt [⟨tg, iter, ifs, 0⟩] scope pos) (some (.Name y py)) spos.line X.env = pure true)
    (hy : X.N[i]? = some y := by rfl) (hyl : X.env.scope.names.lookup y = some .local := by rfl) (hv : ∀ j ∈ is, j ∈ own.map (·.2) := by decide) (hs : ∀ x, foldedSetIterable iter X.env x = pure x := by intro _; rfl) :
    GS X W (.Assign [.Name y py] (.ListComp elt [⟨tg, iter, ifs, 0⟩] scope pos) spos) (mSet i (mXo (mLc mi mg mt me (own.map (·.2))))) :=
  ⟨ps_imp (ps_setLc hc hN hy hyl hsw hi.pi ok (fun s H C cl fp => (hg s H C cl fp).pg) (fun s H C cl fp => (ht s H C cl fp).pts) (fun s H C cl fp => (he s H C cl fp).pe) hs) fun D σ H h => by
  obtain ⟨F, A, ρ, PD, r, h, q⟩ := h
  have h' : mLc mi mg mt me (own.map (·.2)) ρ (fun c ρ' => PD.nx (ρ'.set i (.ow none c))) PD.ex := h
  refine tlc hv ⟨F, A, ρ, _, PD.ex, r, h', fun c ρ' p o F' H' A' h1 s1 r1 n1 n2 n3 n4 n5 => ?_, q.xc σ⟩
  obtain ⟨A2, s2, r2⟩ := R.store (s := .ow none c) s1 r1 ⟨p, o, rfl, n1, n2, n3, n4, n5⟩ i
  exact q.nx _ _ _ _ _ h1 s2 r2⟩
end

/-! ### promises -/
abbrev CtP := List D → (Rv → Prop) → (Ex → Prop) → Prop
abbrev CtM := C → List D → (Rv → C → Prop) → (Ex → C → Prop) → Prop
def RvF (K : PySem.W.Frag) (H F' H' : Hp) (v : V) : Rv → Prop
  | .fz d => Rep K F' v d
  | .ow c => ∃ p o, v = .ref p ∧ H p = none ∧ H' p = some o ∧ RepC K F' o c ∧ F' p = none
def spP (K : PySem.W.Frag) (c : CtP) : Sp := fun vs H Q E => ∃ F ds P PX, Same F H ∧ Reps K F vs ds ∧ c ds P PX ∧
  (∀ rv v F' H', P rv → Stp F H [] F' H' [] → Same F' H' → RvF K H F' H' v rv → Q v H') ∧ ∀ x F' H' cls dd, PX x → Stp F H [] F' H' [] → Same F' H' → ExR H' x cls dd → E cls dd H'
def spM (K : PySem.W.Frag) (c : CtM) : Sp := fun vs H Q E => ∃ F p o vs' c0 ds P PX, vs = .ref p :: vs' ∧ Same F H ∧ F p = none ∧ H p = some o ∧ RepC K F o c0 ∧ Reps K F vs' ds ∧ c c0 ds P PX ∧
  (∀ rv c' v F' H' o', P rv c' → Stp F H [p] F' H' [p] → Same F' H' → H' p = some o' → RepC K F' o' c' → F' p = none → RvF K H F' H' v rv → Q v H') ∧
  ∀ x c' F' H' o' cls dd, PX x c' → Stp F H [p] F' H' [p] → Same F' H' → H' p = some o' → RepC K F' o' c' → F' p = none → ExR H' x cls dd → E cls dd H'
section
variable {X : Cx} {W : WX} {e : Expr} {es : List Expr} {x : Str} {p p2 pos : Pos} {ma : ME} {mas : MA} {k : Nat} {f : Addr} {fd : FuncData} {ps : List Str} {n : Nat}
/-- what a call's end is good for here -/
def rvD (P : D → Prop) (rv : Rv) : Prop := match rv with | .fz d => P d | .ow (.lst l) => P (.lst l) | _ => False
theorem rvD_fz {P : D → Prop} {d : D} : rvD P (.fz d) = P d := rfl
theorem rvD_ow {P : D → Prop} {l : List D} : rvD P (.ow (.lst l)) = P (.lst l) := rfl
def mCall (c : CtP) (m : MA) (ρ : List S) (P : D → List S → Prop) (PX : XP) : Prop := m ρ (fun ds ρ1 => c ds (rvD fun d => P d ρ1) (fun x => PX x ρ1)) PX
def mCallO (c : CtP) (m : MA) (ρ : List S) (P : C → List S → Prop) (PX : XP) : Prop := m ρ (fun ds ρ1 => c ds (fun rv => match rv with | .ow l => P l ρ1 | _ => False) (fun x => PX x ρ1)) PX
/-- a step of a callee's, seen here -/
theorem R.called {K : PySem.W.Frag} {F H F' H' : Hp} {A : List Addr} {ρ : List S} {σ : L2.St} (r : R K F A ρ σ H) (s : Stp F H [] F' H' []) (sm : Same F' H') : Stp F H A F' H' A ∧ R K F' A ρ σ H' := by
  have nn : ∀ p, p ∉ ([] : List Addr) := fun p h => by cases h
  refine ⟨⟨s.ext, fun p o h _ => s.kp p o h (nn p), fun p o h _ => s.fr p o h (nn p), fun _ h => .inl h, s.dom⟩, sm, r.rs.move s.ext fun p hp => ?_⟩
  obtain ⟨o, e, n⟩ := r.rs.there p hp
  exact ⟨(s.kp p o e (nn p)).trans e.symm, (s.fr p o e (nn p)).trans n⟩
theorem frzL {K : PySem.W.Frag} {F H F1 H1 F' H' : Hp} {A A1 : List Addr} {ρ1 : List S} {σ : L2.St} {p : Addr} {vs : List V} {ds : List D} (s1 : Stp F H A F' H' A1) (r1 : R K F' A1 ρ1 σ H') (n1 : p ∉ A1) (n2 : H p = none) (n3 : H' p = some (.lst vs)) (q : Reps K F' vs ds) (n5 : F' p = none) :
    Stp F H A (upd F' p (.lst vs)) H' A1 ∧ R K (upd F' p (.lst vs)) A1 ρ1 σ H' ∧ Rep K (upd F' p (.lst vs)) (.ref p) (.lst ds) := by
  have sm : Same F' (upd F' p (.lst vs)) := same_new n5
  refine ⟨⟨s1.ext.trans sm, s1.kp, fun b o e n => ?_, s1.sub, s1.dom⟩, ⟨fun b o e => ?_, r1.rs.move sm fun b hb => ⟨rfl, ?_⟩⟩, .lst upd_same (q.mono sm)⟩
  · rw [upd_ne (fun z => by rw [z, n2] at e; cases e)]
    exact s1.fr b o e n
  · rw [upd_eq] at e
    split at e
    · rename_i z; subst z; cases e; exact n3
    · exact r1.same b o e
  · obtain ⟨_, _, n⟩ := r1.rs.there b hb
    exact (upd_ne (fun (z : b = p) => n1 (by rw [← z]; exact hb))).trans n
theorem ge_call {c : CtP} (Gk : FnOk X.prog X.w X.K X.mg X.base (L2.CX X.prog X.w) k f fd ps (spP X.K c)) (hr : Room k X.A) (hm : X.mg x = some (.ref f)) (hk : PySem.W.keepIn X.K (.ref f) = true) (hb : Binds X.K fd ps []) (tk : Takes X W)
    (ha : GA X W (e :: es) mas) (hg : Gl X x := by rfl) (hdb : (x == ("__debug__" : Str)) = false := by decide) (he : starEach (e :: es) X.env = (false, eval e X.env) :: starEach es X.env := by rfl) (hpl : (backTo pos (starEach es X.env)).any (·.1) = false := by rfl) :
    GE X W (.Call (.Name x p) (e :: es) [] pos) (mCall c mas) := ⟨pe_imp (pe_callS (E := WE W) Gk hr hg hm hk hb (fun σ => passAt tk σ) ha.pa hdb he hpl) fun σ H Q h => by
  obtain ⟨F, A, ρ, P, PX, r, hm', hP, hX⟩ := h
  refine ⟨F, A, ρ, _, PX, r, hm', fun ds ρ' vs F' H' A' h1 s1 r1 q1 => ⟨F', ds, _, _, r1.same, q1, h1, fun rv v F2 H2 h2 s2 sm q2 => ?_, fun x F2 H2 cls dd h2 s2 sm q2 => ?_⟩, hX⟩
  · obtain ⟨s3, r3⟩ := r1.called s2 sm
    cases rv with
    | fz d => exact hP _ _ _ _ _ _ h2 (s1.trans s3) r3 q2
    | ow l =>
      cases l with
      | lst l =>
        obtain ⟨pp, o, rfl, n2, n3, n4, n5⟩ := q2
        cases n4 with
        | lst q =>
          have np : pp ∉ A' := fun z => by
            obtain ⟨o, e, _⟩ := r1.rs.there _ z
            rw [e] at n2; cases n2
          obtain ⟨s4, r4, q4⟩ := frzL (F1 := F) (H1 := H) (s1.trans s3) r3 np (s1.dom _ n2) n3 q n5
          exact hP _ _ _ _ _ _ h2 s4 r4 q4
      | _ => exact h2.elim
  · obtain ⟨s3, r3⟩ := r1.called s2 sm
    exact hX _ _ _ _ _ _ _ h2 (s1.trans s3) r3 q2⟩
theorem go_call {c : CtP} (Gk : FnOk X.prog X.w X.K X.mg X.base (L2.CX X.prog X.w) k f fd ps (spP X.K c)) (hr : Room k X.A) (hm : X.mg x = some (.ref f)) (hk : PySem.W.keepIn X.K (.ref f) = true) (hb : Binds X.K fd ps []) (tk : Takes X W)
    (ha : GA X W (e :: es) mas) (hg : Gl X x := by rfl) (hdb : (x == ("__debug__" : Str)) = false := by decide) (he : starEach (e :: es) X.env = (false, eval e X.env) :: starEach es X.env := by rfl) (hpl : (backTo pos (starEach es X.env)).any (·.1) = false := by rfl) :
    GO X W (.Call (.Name x p) (e :: es) [] pos) (mCallO c mas) := ⟨pe_imp (pe_callS (E := WE W) Gk hr hg hm hk hb (fun σ => passAt tk σ) ha.pa hdb he hpl) fun σ H Q h => by
  obtain ⟨F, A, ρ, P, PX, r, hm', hP, hX⟩ := h
  refine ⟨F, A, ρ, _, PX, r, hm', fun ds ρ' vs F' H' A' h1 s1 r1 q1 => ⟨F', ds, _, _, r1.same, q1, h1, fun rv v F2 H2 h2 s2 sm q2 => ?_, fun x F2 H2 cls dd h2 s2 sm q2 => ?_⟩, hX⟩
  · obtain ⟨s3, r3⟩ := r1.called s2 sm
    cases rv with
    | fz d => exact h2.elim
    | ow l =>
      obtain ⟨pp, o, rfl, n2, n3, n4, n5⟩ := q2
      have np : pp ∉ A' := fun z => by
        obtain ⟨o, e, _⟩ := r1.rs.there _ z
        rw [e] at n2; cases n2
      exact hP _ _ _ _ _ _ _ h2 (s1.trans s3) r3 np (s1.dom _ n2) n3 n4 n5
  · obtain ⟨s3, r3⟩ := r1.called s2 sm
    exact hX _ _ _ _ _ _ _ h2 (s1.trans s3) r3 q2⟩
/-- f(own, ..): the own object's content may change -/
def mCallM (c : CtM) (i : Nat) (m : MA) (ρ : List S) (P : D → List S → Prop) (PX : XP) : Prop := match ρ[i]? with
  | some (.ow _ _) => m ρ (fun ds ρ1 => match ρ1[i]? with
    | some (.ow t c0) => c c0 ds (fun rv c' => rvD (fun d => P d (ρ1.set i (.ow t c'))) rv) (fun x c' => PX x (ρ1.set i (.ow t c')))
    | _ => False) PX
  | _ => False
theorem R.calledM {K : PySem.W.Frag} {F H F' H' : Hp} {A : List Addr} {ρ : List S} {σ : L2.St} {i : Nat} {t : Option Addr} {c c' : C} {p : Addr} {o' : HO} (r : R K F A ρ σ H) (hi : ρ[i]? = some (.ow t c)) (hs : σ[i]? = some (some (V.ref p))) (hp : p ∈ A)
    (s : Stp F H [p] F' H' [p]) (sm : Same F' H') (e : H' p = some o') (q : RepC K F' o' c') (n : F' p = none) : Stp F H A F' H' A ∧ R K F' A (ρ.set i (.ow t c')) σ H' := by
  have nn : ∀ b, b ≠ p → b ∉ [p] := fun b h z => h (by simpa using z)
  refine ⟨⟨s.ext, fun b o h na => s.kp b o h (nn b fun z => na (z ▸ hp)), fun b o h na => s.fr b o h (nn b fun z => na (z ▸ hp)), fun _ h => .inl h, s.dom⟩, sm, ?_⟩
  have m1 : RS K F' H A ρ σ := r.rs.move s.ext fun b hb => ⟨rfl, by
    by_cases z : b = p
    · rw [z]; exact n
    · obtain ⟨o, e, n⟩ := r.rs.there b hb
      exact (s.fr b o e (nn b z)).trans n⟩
  have m2 := m1.upd q hi hs
  refine m2.move (Same.refl _) fun b hb => ⟨?_, (m2.there b hb).elim fun _ z => z.2⟩
  by_cases z : b = p
  · rw [z, upd_same]; exact e
  · obtain ⟨o, e, _⟩ := r.rs.there b hb
    rw [upd_ne z, e]
    exact s.kp b o e (nn b z)
theorem ge_callM {c : CtM} {i : Nat} {xv : Str} (Gk : FnOk X.prog X.w X.K X.mg X.base (L2.CX X.prog X.w) k f fd ps (spM X.K c)) (hr : Room k X.A) (hm : X.mg x = some (.ref f)) (hk : PySem.W.keepIn X.K (.ref f) = true) (hb : Binds X.K fd ps []) (tk : Takes X W)
    (ha : GA X W es mas) (hN : X.N[i]? = some xv := by rfl) (hv : Vis X.env.scope xv := by first | exact Or.inl rfl | exact Or.inr (Or.inl rfl) | exact Or.inr (Or.inr rfl)) (hd2 : (xv == ("__debug__" : Str)) = false := by decide)
    (hcd : (xv == ("__classdict__" : Str)) = false := by decide) (hg : Gl X x := by rfl) (hdb : (x == ("__debug__" : Str)) = false := by decide) (he : starEach (.Name xv p2 :: es) X.env = (false, eval (.Name xv p2) X.env) :: starEach es X.env := by rfl)
    (hpl : (backTo pos (starEach es X.env)).any (·.1) = false := by rfl) : GE X W (.Call (.Name x p) (.Name xv p2 :: es) [] pos) (mCallM c i mas) :=
  ⟨pe_imp (pe_callS (E := WE W) Gk hr hg hm hk hb (fun σ => passAt tk σ) (pa_cons (pe_var hN hv hd2 hcd) ha.pa he) hdb he hpl) fun σ H Q h => by
  obtain ⟨F, A, ρ, P, PX, r, hm', hP, hX⟩ := h
  unfold mCallM at hm'
  split at hm'
  · rename_i t0 c00 h0
    obtain ⟨p0, o0, e0, _⟩ := r.rs.getO h0
    refine ⟨_, e0, F, A, ρ, _, PX, r, hm', fun ds ρ' vs F' H' A' h1 s1 r1 q1 => ?_, hX⟩
    split at h1
    · rename_i t c0 h2
      obtain ⟨p', o', e1, h3, h4, h5, h6⟩ := slot_keeps r1 e0 h2
      cases e1
      refine ⟨F', p0, o', vs, c0, ds, _, _, rfl, r1.same, h6, h4, h5, q1, h1, fun rv c' v F2 H2 o2 k1 k2 k3 k4 k5 k6 k7 => ?_, fun x c' F2 H2 o2 cls dd k1 k2 k3 k4 k5 k6 k7 => ?_⟩
      · obtain ⟨s3, r3⟩ := r1.calledM h2 e0 h3 k2 k3 k4 k5 k6
        cases rv with
        | fz d => exact hP _ _ _ _ _ _ k1 (s1.trans s3) r3 k7
        | ow l =>
          cases l with
          | lst l =>
            obtain ⟨pp, o, rfl, n2, n3, n4, n5⟩ := k7
            cases n4 with
            | lst q =>
              have np : pp ∉ A' := fun z => by
                obtain ⟨o, e, _⟩ := r1.rs.there _ z
                rw [e] at n2; cases n2
              obtain ⟨s4, r4, q4⟩ := frzL (F1 := F) (H1 := H) (s1.trans s3) r3 np (s1.dom _ n2) n3 q n5
              exact hP _ _ _ _ _ _ k1 s4 r4 q4
          | _ => exact k1.elim
      · obtain ⟨s3, r3⟩ := r1.calledM h2 e0 h3 k2 k3 k4 k5 k6
        exact hX _ _ _ _ _ _ _ k1 (s1.trans s3) r3 k7
    · exact h1.elim
  · exact hm'.elim⟩
end

/-! ### a def keeps its promise -/
section
variable {P : Program} {w : World} {K : PySem.W.Frag} {mg : Str → Option Value} {base : Heap}
/-- what a def's body is walked under -/
structure Bd (P : Program) (w : World) (K : PySem.W.Frag) (mg : Str → Option Value) (base : Heap) (k : Nat) (N : List Str) (st : Stmt) (m : MS) : Prop where
  go : ∀ (qual : Str) (f : Addr) (cdv : Value) (A : Around) (outer : List Env) (s : Shared) (H : Hp) (E : XK), Room k (A.deeper (envOfC qual (defScope st) s.heap.objs.size f cdv)) →
    Takes (cxOf (L2.CX P w) P w K mg base N qual (defScope st) f cdv A outer s H E) (fun cls d _ H' => E cls d H') →
    PassesOwn (model P w) (cxOf (L2.CX P w) P w K mg base N qual (defScope st) f cdv A outer s H E).A (cxOf (L2.CX P w) P w K mg base N qual (defScope st) f cdv A outer s H E).env (cxOf (L2.CX P w) P w K mg base N qual (defScope st) f cdv A outer s H E).xe →
    GSs (cxOf (L2.CX P w) P w K mg base N qual (defScope st) f cdv A outer s H E) (fun cls d _ H' => E cls d H') (defBody st) m
theorem reps_rs {K : PySem.W.Frag} {F H : Hp} {n : Nat} : ∀ {vs : List V} {ds : List D}, Reps K F vs ds → RS K F H [] (ds.map S.fz ++ List.replicate n .un) (vs.map some ++ List.replicate n none)
  | [], _, .nil => by
    rw [List.map_nil, List.map_nil, List.nil_append, List.nil_append]
    induction n with
    | zero => exact .nil
    | succ n ih => exact .un ih
  | v :: vs, _, .cons r t => .fz r (reps_rs t)
theorem fn_P {x qual : Str} {st : Stmt} {f : Addr} {fd : FuncData} {N ps : List Str} {k : Nat} {c : CtP} {m : MS} (Fn : Fun K x qual st f fd) (Sc : FnScope N ps (defScope st)) (hl : ∀ ds P PX, c ds P PX → ds.length = ps.length) (B : Bd P w K mg base k N st m)
    (h : ∀ ds (P : Rv → Prop) (PX : Ex → Prop), c ds P PX → m ⟨fun _ => P (.fz .non), fun rv _ => P rv, fun _ => False, fun _ => False, fun x _ => PX x⟩ (ds.map S.fz ++ List.replicate (N.length - ds.length) .un)) :
    FnOk P w K mg base (L2.CX P w) (k + 1) f fd ps (spP K c) := by
  refine Fn.okX Sc (fun vs H Q E h => ?_) (fun cdv A outer s H vs Q E hr hsp => ?_)
  · obtain ⟨F, ds, P, PX, _, r, hc, _⟩ := h
    rw [r.length]
    exact hl _ _ _ hc
  · obtain ⟨F, ds, PP, PX, sm, r, hc, hQ, hE⟩ := hsp
    refine ⟨_, (B.go qual f cdv A outer s H E hr (takes_of rfl rfl rfl rfl) (passes_of rfl)).pss, F, [], _, _, ⟨sm, ?_⟩, h ds PP PX hc, ⟨fun ρ' σ' F' H' A' h1 s1 r1 => ?_, fun rv ρ' v σ' F' H' A' h1 s1 r1 q1 => ?_, fun _ _ _ _ _ z => z.elim, fun _ _ _ _ _ z => z.elim, fun x ρ' σ' F' H' A' cls dd h1 s1 r1 q1 => ?_⟩⟩
    · unfold L2.start
      rw [r.length]
      exact reps_rs r
    · exact hQ _ _ F' H' h1 ⟨s1.ext, s1.kp, s1.fr, (fun p z => absurd z List.not_mem_nil), s1.dom⟩ r1.same .non
    · refine hQ _ _ F' H' h1 ⟨s1.ext, s1.kp, s1.fr, (fun p z => absurd z List.not_mem_nil), s1.dom⟩ r1.same ?_
      cases rv with
      | fz d => exact q1
      | ow c =>
        obtain ⟨p, o, A1, rfl, h2, h3, h4, h5, h6, h7⟩ := q1
        refine ⟨p, o, rfl, ?_, h5, h6, h7⟩
        rcases h3.sub p h2 with z | z
        · cases z
        · exact z
    · exact hE x F' H' cls dd h1 ⟨s1.ext, s1.kp, s1.fr, (fun p z => absurd z List.not_mem_nil), s1.dom⟩ r1.same q1
theorem fn_M {x qual : Str} {st : Stmt} {f : Addr} {fd : FuncData} {N ps : List Str} {k : Nat} {c : CtM} {m : MS} (Fn : Fun K x qual st f fd) (Sc : FnScope N ps (defScope st)) (hl : ∀ c0 ds P PX, c c0 ds P PX → ds.length + 1 = ps.length) (B : Bd P w K mg base k N st m)
    (h : ∀ p c0 ds (P : Rv → C → Prop) (PX : Ex → C → Prop), c c0 ds P PX → m ⟨fun ρ => ∃ c', ρ[0]? = some (.ow (some p) c') ∧ P (.fz .non) c', fun rv ρ => ∃ c', ρ[0]? = some (.ow (some p) c') ∧ P rv c', fun _ => False, fun _ => False, fun x ρ => ∃ c', ρ[0]? = some (.ow (some p) c') ∧ PX x c'⟩
      (.ow (some p) c0 :: (ds.map S.fz ++ List.replicate (N.length - (ds.length + 1)) .un))) :
    FnOk P w K mg base (L2.CX P w) (k + 1) f fd ps (spM K c) := by
  refine Fn.okX Sc (fun vs H Q E h => ?_) (fun cdv A outer s H vs Q E hr hsp => ?_)
  · obtain ⟨F, p, o, vs', c0, ds, P, PX, rfl, _, _, _, _, r, hc, _⟩ := h
    rw [List.length_cons, r.length]
    exact hl _ _ _ _ hc
  · obtain ⟨F, p, o, vs', c0, ds, PP, PX, rfl, sm, hn, ho, rc, r, hc, hQ, hE⟩ := hsp
    have fin : ∀ {F' H' : Hp} {A' : List Addr} {ρ' : List S} {σ' : L2.St} {c' : C}, Stp F H [p] F' H' A' → R K F' A' ρ' σ' H' → ρ'[0]? = some (.ow (some p) c') → Stp F H [p] F' H' [p] ∧ p ∈ A' ∧ ∃ o', H' p = some o' ∧ RepC K F' o' c' ∧ F' p = none := fun {F' H' A' ρ' σ' c'} s1 r1 e => by
      obtain ⟨p', o', h1, h2, h3, h4, h5, h6⟩ := r1.rs.getO e
      have z := h6 p rfl
      subst z
      exact ⟨⟨s1.ext, s1.kp, s1.fr, fun b z => .inl z, s1.dom⟩, h2, o', h3, h4, h5⟩
    refine ⟨_, (B.go qual f cdv A outer s H E hr (takes_of rfl rfl rfl rfl) (passes_of rfl)).pss, F, [p], _, _, ⟨sm, ?_⟩, h p c0 ds PP PX hc, ⟨fun ρ' σ' F' H' A' h1 s1 r1 => ?_, fun rv ρ' v σ' F' H' A' h1 s1 r1 q1 => ?_, fun _ _ _ _ _ z => z.elim, fun _ _ _ _ _ z => z.elim, fun x ρ' σ' F' H' A' cls dd h1 s1 r1 q1 => ?_⟩⟩
    · unfold L2.start
      rw [List.length_cons, r.length]
      exact .ow ho rc hn (fun z => by cases z) (fun q z => (Option.some.inj z).symm) (reps_rs r)
    · obtain ⟨c', e1, h1⟩ := h1
      obtain ⟨s2, _, o', k1, k2, k3⟩ := fin s1 r1 e1
      exact hQ _ c' _ F' H' o' h1 s2 r1.same k1 k2 k3 .non
    · obtain ⟨c', e1, h1⟩ := h1
      obtain ⟨s2, hp, o', k1, k2, k3⟩ := fin s1 r1 e1
      refine hQ _ c' _ F' H' o' h1 s2 r1.same k1 k2 k3 ?_
      cases rv with
      | fz d => exact q1
      | ow c =>
        obtain ⟨p1, o1, A1, rfl, h2, h3, h4, h5, h6, h7⟩ := q1
        refine ⟨p1, o1, rfl, ?_, h5, h6, h7⟩
        rcases h3.sub p1 h2 with z | z
        · have : p1 = p := by simpa using z
          exact absurd (this ▸ hp) h4
        · exact z
    · obtain ⟨c', e1, h1⟩ := h1
      obtain ⟨s2, _, o', k1, k2, k3⟩ := fin s1 r1 e1
      exact hE x c' F' H' o' cls dd h1 s2 r1.same k1 k2 k3 q1
end
end G

/-! G: built-ins, methods, more statements -/
namespace G
open PySem PySem.Spec PyProof.Rows L2
section
variable {X : Cx} {W : WX} {e a b : Expr} {es : List Expr} {x : Str} {p p2 pos : Pos} {ma mb : ME} {mas : MA}
/-! ### built-ins -/
def CallD (K : PySem.W.Frag) (r : List V → Hp → VK → Prop) (f : List D → (D → Prop) → Prop) : Prop :=
  ∀ (F H : Hp) (vs : List V) (ds : List D) (P : D → Prop), Same F H → Reps K F vs ds → f ds P → ∀ Q : VK, (∀ z w F' H', P z → New F H F' H' → Rep K F' w z → Q w H') → r vs H Q
def mBf (f : List D → (D → Prop) → Prop) (m : MA) (ρ : List S) (P : D → List S → Prop) (PX : XP) : Prop := m ρ (fun ds ρ1 => f ds fun z => P z ρ1) PX
theorem lift_bf {r : List V → Hp → VK → Prop} {f : List D → (D → Prop) → Prop} (hf : CallD X.K r f) {σ : L2.St} {H : Hp} {Q : VK} (h : lift X.K W (mBf f mas) σ H Q) : tCB r (liftA X.K W mas) σ H Q := by
  obtain ⟨F, A, ρ, P, PX, r0, hm, hP, hX⟩ := h
  refine ⟨F, A, ρ, _, PX, r0, hm, fun ds ρ1 vs F1 H1 A1 h1 s1 r1 q1 => ?_, hX⟩
  exact hf F1 H1 vs ds _ r1.same q1 h1 Q fun z w F3 H3 hz n w' => hP z ρ1 w F3 H3 A1 hz (s1.trans n.stp) (r1.new n) w'
theorem ge_bf {id : String} {r : List V → Hp → VK → Prop} {f : List D → (D → Prop) → Prop} (hc : CallR X (.builtin id) r) (hf : CallD X.K r f) (hm : X.mg x = none) (ha : GA X W (e :: es) mas) (hv : bootBuiltins x = some (.builtin id) := by decide +kernel) (hg : Gl X x := by rfl) (hn : x ≠ "__name__" := by decide) (hdb : (x == ("__debug__" : Str)) = false := by decide)
    (he : starEach (e :: es) X.env = (false, eval e X.env) :: starEach es X.env := by rfl) (hpl : (backTo pos (starEach es X.env)).any (·.1) = false := by rfl) : GE X W (.Call (.Name x p) (e :: es) [] pos) (mBf f mas) :=
  ⟨pe_imp (pe_callB hc hg hm hv ha.pa hn hdb he hpl) fun _ _ _ h => lift_bf hf h⟩
theorem ge_bt {T : String} {r : List V → Hp → VK → Prop} {f : List D → (D → Prop) → Prop} (hc : CallR X (.type T) r) (hf : CallD X.K r f) (hm : X.mg x = none) (ha : GA X W (e :: es) mas) (hv : bootBuiltins x = some (.type T) := by decide +kernel) (hg : Gl X x := by rfl) (hn : x ≠ "__name__" := by decide) (hdb : (x == ("__debug__" : Str)) = false := by decide)
    (he : starEach (e :: es) X.env = (false, eval e X.env) :: starEach es X.env := by rfl) (hpl : (backTo pos (starEach es X.env)).any (·.1) = false := by rfl) : GE X W (.Call (.Name x p) (e :: es) [] pos) (mBf f mas) :=
  ⟨pe_imp (pe_callTy hc hg hm hv ha.pa hn hdb he hpl) fun _ _ _ h => lift_bf hf h⟩
def fLen : List D → (D → Prop) → Prop
  | [.str z], P => z.length ≤ sizeLine ∧ P (.int z.length)
  | [.lst ds], P => P (.int ds.length)
  | [.tup ds], P => P (.int ds.length)
  | [.scr ns], P => P (.int ns.length)
  | _, _ => False
theorem cd_len {K : PySem.W.Frag} : CallD K (fun xs H Q => ∃ x n, xs = [x] ∧ LenV K x H n ∧ Q (.int n) H) fLen := by
  intro F H vs ds P s r h Q q
  unfold fLen at h
  split at h
  · cases r with
    | cons r t =>
      cases t
      rw [r.str_inv]
      exact ⟨_, _, rfl, ⟨h.1, rfl⟩, q _ _ F H h.2 (New.refl s) (.int _)⟩
  · cases r with
    | cons r t =>
      cases t
      obtain ⟨a, vs, rfl, e, r2⟩ := r.lst_inv
      exact ⟨_, _, rfl, .inl ⟨vs, .of (s _ _ e), rfl⟩, by rw [r2.length]; exact q _ _ F H h (New.refl s) (.int _)⟩
  · cases r with
    | cons r t =>
      cases t
      obtain ⟨a, vs, rfl, e, r2⟩ := r.tup_inv
      exact ⟨_, _, rfl, .inr ⟨vs, .of (s _ _ e), rfl⟩, by rw [r2.length]; exact q _ _ F H h (New.refl s) (.int _)⟩
  · cases r with
    | cons r t =>
      cases t
      obtain ⟨a, rfl, e⟩ := r.scr_inv
      exact ⟨_, _, rfl, .inl ⟨_, s.seq e, rfl⟩, by rw [List.length_map]; exact q _ _ F H h (New.refl s) (.int _)⟩
  · exact h.elim
/-- a one-value built-in -/
theorem cd_1 {K : PySem.W.Frag} {r : List V → Hp → VK → Prop} {f : D → (D → Prop) → Prop} (h : ∀ F H v d P, Same F H → Rep K F v d → f d P → ∀ Q : VK, (∀ z w F' H', P z → New F H F' H' → Rep K F' w z → Q w H') → r [v] H Q) :
    CallD K r (fun ds P => match ds with | [d] => f d P | _ => False) := by
  intro F H vs ds P s r' hh Q q
  split at hh
  · cases r' with
    | cons r' t =>
      cases t
      exact h F H _ _ P s r' hh Q q
  · exact hh.elim
def fAbs : List D → (D → Prop) → Prop := fun ds P => match ds with
  | [.int i] => P (.int (if i < 0 then -i else i))
  | _ => False
theorem cd_abs {K : PySem.W.Frag} : CallD K (fun xs H Q => ∃ i, xs = [.int i] ∧ Q (.int (if i < 0 then -i else i)) H) fAbs := by
  intro F H vs ds P s r h Q q
  unfold fAbs at h
  split at h
  · cases r with
    | cons r t =>
      cases t
      rw [r.int_inv]
      exact ⟨_, rfl, q _ _ F H h (New.refl s) (.int _)⟩
  · exact h.elim
/-- int(..) of an int, a truth, a text -/
def fInt : List D → (D → Prop) → Prop := fun ds P => match ds with
  | [.int i] => P (.int i)
  | [.bl k] => P (.int (if k then 1 else 0))
  | [.str z] => z.length ≤ 640 ∧ ∃ n, PySem.intText? z = some n ∧ P (.int n)
  | _ => False
theorem cd_int {K : PySem.W.Frag} : CallD K (fun xs H Q => ((∃ i, xs = [.int i] ∧ Q (.int i) H) ∨ ∃ k, xs = [.bl k] ∧ Q (.int (if k then 1 else 0)) H) ∨ (∃ a n, xs = [.str a] ∧ PySem.intText? a = some n ∧ a.length ≤ 640 ∧ Q (.int n) H)) fInt := by
  intro F H vs ds P s r h Q q
  unfold fInt at h
  split at h
  · cases r with
    | cons r t =>
      cases t
      rw [r.int_inv]
      exact .inl (.inl ⟨_, rfl, q _ _ F H h (New.refl s) (.int _)⟩)
  · cases r with
    | cons r t =>
      cases t
      rw [r.bl_inv]
      exact .inl (.inr ⟨_, rfl, q _ _ F H h (New.refl s) (.int _)⟩)
  · cases r with
    | cons r t =>
      cases t
      rw [r.str_inv]
      obtain ⟨hz, n, h1, h2⟩ := h
      exact .inr ⟨_, n, rfl, h1, hz, q _ _ F H h2 (New.refl s) (.int _)⟩
  · exact h.elim
theorem call_intA : CallR X (.type "int") (fun xs H Q => ((∃ i, xs = [.int i] ∧ Q (.int i) H) ∨ ∃ k, xs = [.bl k] ∧ Q (.int (if k then 1 else 0)) H) ∨ (∃ a n, xs = [.str a] ∧ PySem.intText? a = some n ∧ a.length ≤ 640 ∧ Q (.int n) H)) :=
  call_int1.or call_int_str
/-- str(n), repr(n) -/
def fStr : List D → (D → Prop) → Prop := fun ds P => match ds with
  | [.int i] => i.natAbs.log2 < 1920 ∧ P (.str (toString i))
  | _ => False
theorem cd_str {K : PySem.W.Frag} : CallD K (fun xs H Q => ∃ i, xs = [.int i] ∧ i.natAbs.log2 < 1920 ∧ Q (.str (toString i)) H) fStr := by
  intro F H vs ds P s r h Q q
  unfold fStr at h
  split at h
  · cases r with
    | cons r t =>
      cases t
      rw [r.int_inv]
      exact ⟨_, rfl, h.1, q _ _ F H h.2 (New.refl s) (.str _)⟩
  · exact h.elim
/-- the ints of a list -/
def intsOf : List D → Option (List Int)
  | [] => some []
  | .int i :: r => (intsOf r).map (i :: ·)
  | _ => none
theorem Reps.intsOf {K : PySem.W.Frag} {F : Hp} : ∀ {ds : List D} {vs : List V} {ns : List Int}, Reps K F vs ds → intsOf ds = some ns → vs = ns.map V.int
  | [], _, ns, h, e => by
    cases h
    cases Option.some.inj e
    rfl
  | d :: ds, _, ns, h, e => by
    cases h with
    | cons r t =>
      cases d with
      | int i =>
        obtain ⟨m, e1, e2⟩ := Option.map_eq_some_iff.mp (show (G.intsOf ds).map (i :: ·) = some ns from e)
        rw [← e2, r.int_inv, Reps.intsOf t e1]
        rfl
      | _ => exact nomatch e
theorem intsOf_map (ns : List Int) : intsOf (ns.map D.int) = some ns := by
  induction ns with
  | nil => rfl
  | cons n ns ih => show (intsOf (ns.map D.int)).map (n :: ·) = _; rw [ih]; rfl
def strsOf : List D → Option (List Str)
  | [] => some []
  | .str i :: r => (strsOf r).map (i :: ·)
  | _ => none
theorem Reps.strsOf {K : PySem.W.Frag} {F : Hp} : ∀ {ds : List D} {vs : List V} {ns : List Str}, Reps K F vs ds → strsOf ds = some ns → vs = ns.map V.str
  | [], _, ns, h, e => by
    cases h
    cases Option.some.inj e
    rfl
  | d :: ds, _, ns, h, e => by
    cases h with
    | cons r t =>
      cases d with
      | str i =>
        obtain ⟨m, e1, e2⟩ := Option.map_eq_some_iff.mp (show (G.strsOf ds).map (i :: ·) = some ns from e)
        rw [← e2, r.str_inv, Reps.strsOf t e1]
        rfl
      | _ => exact nomatch e
theorem strsOf_map (ns : List Str) : strsOf (ns.map D.str) = some ns := by
  induction ns with
  | nil => rfl
  | cons n ns ih => show (strsOf (ns.map D.str)).map (n :: ·) = _; rw [ih]; rfl
def blsOf : List D → Option (List Bool)
  | [] => some []
  | .bl i :: r => (blsOf r).map (i :: ·)
  | _ => none
theorem Reps.blsOf {K : PySem.W.Frag} {F : Hp} : ∀ {ds : List D} {vs : List V} {ns : List Bool}, Reps K F vs ds → blsOf ds = some ns → vs = ns.map V.bl
  | [], _, ns, h, e => by
    cases h
    cases Option.some.inj e
    rfl
  | d :: ds, _, ns, h, e => by
    cases h with
    | cons r t =>
      cases d with
      | bl i =>
        obtain ⟨m, e1, e2⟩ := Option.map_eq_some_iff.mp (show (G.blsOf ds).map (i :: ·) = some ns from e)
        rw [← e2, r.bl_inv, Reps.blsOf t e1]
        rfl
      | _ => exact nomatch e
theorem blsOf_map (ns : List Bool) : blsOf (ns.map D.bl) = some ns := by
  induction ns with
  | nil => rfl
  | cons n ns ih => show (blsOf (ns.map D.bl)).map (n :: ·) = _; rw [ih]; rfl
def fSum : List D → (D → Prop) → Prop := fun ds P => match ds with
  | [.lst ds] => ∃ ns, intsOf ds = some ns ∧ P (.int ns.sum)
  | _ => False
theorem cd_sum {K : PySem.W.Frag} : CallD K (rSum K) fSum := by
  intro F H vs ds P s r h Q q
  unfold fSum at h
  split at h
  · cases r with
    | cons r t =>
      cases t
      obtain ⟨ns, h1, h2⟩ := h
      obtain ⟨a, vs, rfl, e, r2⟩ := r.lst_inv
      have := r2.intsOf h1
      subst this
      exact ⟨a, ns, rfl, .of (s _ _ e), q _ _ F H h2 (New.refl s) (.int _)⟩
  · exact h.elim
def fAny : List D → (D → Prop) → Prop := fun ds P => match ds with
  | [.lst ds] => ∃ ns, blsOf ds = some ns ∧ P (.bl (ns.any id))
  | _ => False
theorem cd_any {K : PySem.W.Frag} : CallD K (rAny K) fAny := by
  intro F H vs ds P s r h Q q
  unfold fAny at h
  split at h
  · cases r with
    | cons r t =>
      cases t
      obtain ⟨ns, h1, h2⟩ := h
      obtain ⟨a, vs, rfl, e, r2⟩ := r.lst_inv
      have := r2.blsOf h1
      subst this
      exact ⟨a, ns, rfl, .of (s _ _ e), q _ _ F H h2 (New.refl s) (.bl _)⟩
  · exact h.elim
def fAll : List D → (D → Prop) → Prop := fun ds P => match ds with
  | [.lst ds] => ∃ ns, blsOf ds = some ns ∧ P (.bl (ns.all id))
  | _ => False
theorem cd_all {K : PySem.W.Frag} : CallD K (rAll K) fAll := by
  intro F H vs ds P s r h Q q
  unfold fAll at h
  split at h
  · cases r with
    | cons r t =>
      cases t
      obtain ⟨ns, h1, h2⟩ := h
      obtain ⟨a, vs, rfl, e, r2⟩ := r.lst_inv
      have := r2.blsOf h1
      subst this
      exact ⟨a, ns, rfl, .of (s _ _ e), q _ _ F H h2 (New.refl s) (.bl _)⟩
  · exact h.elim
/-- max, min of a list of ints, of two ints -/
def fMax : List D → (D → Prop) → Prop := fun ds P => match ds with
  | [.lst ds] => ∃ ns, intsOf ds = some ns ∧ 0 < ns.length ∧ ∀ m, m ∈ ns → (∀ y, y ∈ ns → y ≤ m) → P (.int m)
  | [.int i, .int j] => P (.int (if j > i then j else i))
  | _ => False
def fMin : List D → (D → Prop) → Prop := fun ds P => match ds with
  | [.lst ds] => ∃ ns, intsOf ds = some ns ∧ 0 < ns.length ∧ ∀ m, m ∈ ns → (∀ y, y ∈ ns → m ≤ y) → P (.int m)
  | [.int i, .int j] => P (.int (if j < i then j else i))
  | _ => False
theorem cr_maxA (hc : X.calm = true) : CallR X (.builtin "max") (fun xs H Q => rMax X.K xs H Q ∨ ∃ i j, xs = [.int i, .int j] ∧ Q (.int (if j > i then j else i)) H) := (cr_max hc).or (call_max2 hc)
theorem cr_minA (hc : X.calm = true) : CallR X (.builtin "min") (fun xs H Q => rMin X.K xs H Q ∨ ∃ i j, xs = [.int i, .int j] ∧ Q (.int (if j < i then j else i)) H) := (cr_min hc).or (call_min2 hc)
theorem cd_max {K : PySem.W.Frag} : CallD K (fun xs H Q => rMax K xs H Q ∨ ∃ i j, xs = [.int i, .int j] ∧ Q (.int (if j > i then j else i)) H) fMax := by
  intro F H vs ds P s r h Q q
  unfold fMax at h
  split at h
  · cases r with
    | cons r t =>
      cases t
      obtain ⟨ns, h1, h0, h2⟩ := h
      obtain ⟨a, vs, rfl, e, r2⟩ := r.lst_inv
      have := r2.intsOf h1
      subst this
      exact .inl ⟨a, ns, rfl, .of (s _ _ e), h0, fun m hm hl => q _ _ F H (h2 m hm hl) (New.refl s) (.int _)⟩
  · cases r with
    | cons r t =>
      cases t with
      | cons r' t =>
        cases t
        rw [r.int_inv, r'.int_inv]
        exact .inr ⟨_, _, rfl, q _ _ F H h (New.refl s) (.int _)⟩
  · exact h.elim
theorem cd_min {K : PySem.W.Frag} : CallD K (fun xs H Q => rMin K xs H Q ∨ ∃ i j, xs = [.int i, .int j] ∧ Q (.int (if j < i then j else i)) H) fMin := by
  intro F H vs ds P s r h Q q
  unfold fMin at h
  split at h
  · cases r with
    | cons r t =>
      cases t
      obtain ⟨ns, h1, h0, h2⟩ := h
      obtain ⟨a, vs, rfl, e, r2⟩ := r.lst_inv
      have := r2.intsOf h1
      subst this
      exact .inl ⟨a, ns, rfl, .of (s _ _ e), h0, fun m hm hl => q _ _ F H (h2 m hm hl) (New.refl s) (.int _)⟩
  · cases r with
    | cons r t =>
      cases t with
      | cons r' t =>
        cases t
        rw [r.int_inv, r'.int_inv]
        exact .inr ⟨_, _, rfl, q _ _ F H h (New.refl s) (.int _)⟩
  · exact h.elim
/-- tuple(a list), list(a list, a tuple) -/
def fTup : List D → (D → Prop) → Prop := fun ds P => match ds with
  | [.lst ds] => P (.tup ds)
  | [.tup ds] => P (.tup ds)
  | _ => False
theorem cd_tup {K : PySem.W.Frag} : CallD K (fun xs H Q => ∃ p ys, xs = [.ref p] ∧ ((SqL K H p ys ∧ ∀ l, H l = none → Q (.ref l) (upd H l (.tup ys))) ∨ (SqT K H p ys ∧ Q (.ref p) H))) fTup := by
  intro F H vs ds P s r h Q q
  unfold fTup at h
  split at h
  · cases r with
    | cons r t =>
      cases t
      obtain ⟨a, vs, rfl, e, r2⟩ := r.lst_inv
      refine ⟨a, vs, rfl, .inl ⟨.of (s _ _ e), fun l hl => ?_⟩⟩
      have n := New.mk1 (.tup vs) s hl
      exact q _ _ _ _ h n (.tup upd_same (r2.mono n.ext))
  · cases r with
    | cons r t =>
      cases t
      obtain ⟨a, vs, rfl, e, r2⟩ := r.tup_inv
      exact ⟨a, vs, rfl, .inr ⟨.of (s _ _ e), q _ _ F H h (New.refl s) (.tup e r2)⟩⟩
  · exact h.elim
def mLi (m : MA) (ρ : List S) (P : C → List S → Prop) (PX : XP) : Prop := m ρ (fun ds ρ1 => match ds with
  | [.lst ds] => P (.lst ds) ρ1
  | [.tup ds] => P (.lst ds) ρ1
  | _ => False) PX
theorem go_list (hm : X.mg x = none) (ha : GA X W (e :: es) mas) (hv : bootBuiltins x = some (.type "list") := by decide +kernel) (hg : Gl X x := by rfl) (hn : x ≠ "__name__" := by decide) (hdb : (x == ("__debug__" : Str)) = false := by decide)
    (he : starEach (e :: es) X.env = (false, eval e X.env) :: starEach es X.env := by rfl) (hpl : (backTo pos (starEach es X.env)).any (·.1) = false := by rfl) : GO X W (.Call (.Name x p) (e :: es) [] pos) (mLi mas) :=
  ⟨pe_imp (pe_callTy call_list_of hg hm hv ha.pa hn hdb he hpl) fun σ H Q h => by
  obtain ⟨F, A, ρ, P, PX, r0, hm, hP, hX⟩ := h
  refine ⟨F, A, ρ, _, PX, r0, hm, fun ds ρ1 vs F1 H1 A1 h1 s1 r1 q1 => ?_, hX⟩
  split at h1
  · cases q1 with
    | cons r t =>
      cases t
      obtain ⟨a, vs, rfl, e, r2⟩ := r.lst_inv
      refine ⟨a, vs, rfl, .inl (.of (r1.same _ _ e)), fun l hl => ?_⟩
      obtain ⟨s2, r2', n1, n2, n3⟩ := own_new (.lst vs) s1 r1 hl
      exact hP _ ρ1 l _ _ _ A1 h1 s2 r2' n1 n3 upd_same (.lst r2) n2
  · cases q1 with
    | cons r t =>
      cases t
      obtain ⟨a, vs, rfl, e, r2⟩ := r.tup_inv
      refine ⟨a, vs, rfl, .inr (.of (r1.same _ _ e)), fun l hl => ?_⟩
      obtain ⟨s2, r2', n1, n2, n3⟩ := own_new (.lst vs) s1 r1 hl
      exact hP _ ρ1 l _ _ _ A1 h1 s2 r2' n1 n3 upd_same (.lst r2) n2
  · exact h1.elim⟩
/-- len(own) -/
def mLenV (i : Nat) (ρ : List S) (P : D → List S → Prop) (PX : XP) : Prop := match ρ[i]? with
  | some (.ow _ (.lst ds)) => P (.int ds.length) ρ
  | _ => False
theorem ge_lenv {i : Nat} {xv : Str} (hm : X.mg x = none) (hv : bootBuiltins x = some (.builtin "len") := by decide +kernel) (hg : Gl X x := by rfl) (hn : x ≠ "__name__" := by decide) (hdb : (x == ("__debug__" : Str)) = false := by decide)
    (hN : X.N[i]? = some xv := by rfl) (hvv : Vis X.env.scope xv := by first | exact Or.inl rfl | exact Or.inr (Or.inl rfl) | exact Or.inr (Or.inr rfl)) (hd2 : (xv == ("__debug__" : Str)) = false := by decide)
    (hcd : (xv == ("__classdict__" : Str)) = false := by decide) (he : starEach [.Name xv p2] X.env = (false, eval (.Name xv p2) X.env) :: starEach [] X.env := by rfl) (hpl : (backTo pos (starEach [] X.env)).any (·.1) = false := by rfl) :
    GE X W (.Call (.Name x p) [.Name xv p2] [] pos) (mLenV i) :=
  ⟨pe_imp (pe_callB call_len hg hm hv (pa_cons (pe_var hN hvv hd2 hcd) pa_nil he) hn hdb he hpl) fun σ H Q h => by
  obtain ⟨F, A, ρ, P, PX, r0, hm, hP, hX⟩ := h
  unfold mLenV at hm
  split at hm
  · rename_i t ds h
    obtain ⟨p, o, h1, h2, h3, h4, h5, _⟩ := r0.rs.getO h
    cases h4 with
    | lst q =>
      exact ⟨_, h1, _, _, rfl, .inl ⟨_, .of h3, rfl⟩, by rw [q.length]; exact hP _ _ _ _ _ _ hm Stp.refl r0 (.int _)⟩
  · exact hm.elim⟩

/-! ### methods that change an own object -/
def MutD (K : PySem.W.Frag) (r : V → List V → Hp → VK → Prop) (f : C → List D → (D → C → Prop) → Prop) : Prop :=
  ∀ (F H : Hp) (p : Addr) (o : HO) (c0 : C) (vs : List V) (ds : List D) (P : D → C → Prop), Same F H → H p = some o → RepC K F o c0 → F p = none → Reps K F vs ds → f c0 ds P →
    ∀ Q : VK, (∀ d c' v o', P d c' → RepC K F o' c' → Rep K F v d → Q v (upd H p o')) → r (.ref p) vs H Q
def mMut (f : C → List D → (D → C → Prop) → Prop) (i : Nat) (m : MA) (ρ : List S) (P : D → List S → Prop) (PX : XP) : Prop := match ρ[i]? with
  | some (.ow _ _) => m ρ (fun ds ρ1 => match ρ1[i]? with
    | some (.ow t c0) => f c0 ds fun d c' => P d (ρ1.set i (.ow t c'))
    | _ => False) PX
  | _ => False
theorem R.mut {K : PySem.W.Frag} {F H : Hp} {A : List Addr} {ρ : List S} {σ : L2.St} {i : Nat} {t : Option Addr} {c c' : C} {p : Addr} {o' : HO} (r : R K F A ρ σ H) (hi : ρ[i]? = some (.ow t c)) (hs : σ[i]? = some (some (V.ref p))) (hp : p ∈ A) (hn : F p = none)
    (q : RepC K F o' c') : Stp F H A F (upd H p o') A ∧ R K F A (ρ.set i (.ow t c')) σ (upd H p o') := by
  refine ⟨⟨Same.refl F, fun b o e n => (upd_ne fun z => n (by rw [z]; exact hp)).trans e, fun _ _ _ _ => rfl, fun _ h => .inl h, fun b e => ?_⟩, fun b o e => ?_, r.rs.upd q hi hs⟩
  · by_cases z : b = p
    · rw [z, upd_same] at e; cases e
    · rw [upd_ne z] at e; exact e
  · rw [upd_ne fun z => by rw [z, hn] at e; cases e]
    exact r.same b o e
theorem tyL {K : PySem.W.Frag} {H : Hp} {p : Addr} {vs : List V} (h : H p = some (.lst vs)) : tyV K "list" (.ref p) H := .inl ⟨rfl, _, .inl (.inl h)⟩
/-- own.m(e, ..), a list's method -/
theorem ge_mut {id : String} {name xv : Str} {i : Nat} {r : V → List V → Hp → VK → Prop} {f : C → List D → (D → C → Prop) → Prop} {apos : Pos} (slot : Slot "list" name id) (hty : typeOf (.builtin id) = pure (.type "method_descriptor")) (hmt : MtR X id r) (hf : MutD X.K r f) (ha : GA X W (e :: es) mas) (hN : X.N[i]? = some xv := by rfl) (hvv : Vis X.env.scope xv := by first | exact Or.inl rfl | exact Or.inr (Or.inl rfl) | exact Or.inr (Or.inr rfl)) (hd2 : (xv == ("__debug__" : Str)) = false := by decide)
    (hcd : (xv == ("__classdict__" : Str)) = false := by decide) (hbase : attributeBase (.Name xv p2) name X.env (eval (.Name xv p2) X.env) = eval (.Name xv p2) X.env := by rfl)
    (hfew : ((backTo pos (starEach (e :: es) X.env)).all (fun x => !x.1) && (backToKw pos (keywordEach [] X.env)).all (fun x => x.1.isSome)
      && decide ((e :: es).length + ([] : List Keyword).length + (if ([] : List Keyword).isEmpty then 0 else 1) < 30)) = true := by rfl)
    (hline : (apos.endLine == pos.line) = true := by rfl) (hs : starEach (e :: es) X.env = (false, eval e X.env) :: starEach es X.env := by rfl) (hplain : (backTo pos (starEach es X.env)).any (·.1) = false := by rfl) :
    GE X W (.Call (.Attribute (.Name xv p2) name apos) (e :: es) [] pos) (fun ρ P PX => match ρ[i]? with | some (.ow _ (.lst _)) => mMut f i mas ρ P PX | _ => False) :=
  ⟨pe_imp (pe_bm PySem.F.plainAttrs_list slot hty hmt (pe_var hN hvv hd2 hcd) ha.pa hbase hfew hline hs hplain) fun σ H Q h => by
  obtain ⟨F, A, ρ, P, PX, r0, hm, hP, hX⟩ := h
  split at hm
  · rename_i t0 l0 h0
    obtain ⟨p, o, h1, h2, h3, h4, h5, _⟩ := r0.rs.getO h0
    unfold mMut at hm
    rw [h0] at hm
    cases h4 with
    | lst q0 =>
      refine ⟨_, h1, tyL h3, F, A, ρ, _, PX, r0, hm, fun ds ρ1 vs F1 H1 A1 k1 s1 r1 q1 => ?_, hX⟩
      split at k1
      · rename_i t c0 e1
        obtain ⟨p', o', e2, m1, m2, m3, m4⟩ := slot_keeps r1 h1 e1
        cases e2
        refine hf F1 H1 p o' c0 vs ds _ r1.same m2 m3 m4 q1 k1 Q fun d c' v o2 hz rc rd => ?_
        obtain ⟨s2, r2⟩ := r1.mut e1 h1 m1 m4 rc
        exact hP _ _ _ _ _ _ hz (s1.trans s2) r2 rd
      · exact k1.elim
  · exact hm.elim⟩
/-- own.m() -/
theorem ge_mut0 {id : String} {name xv : Str} {i : Nat} {r : V → List V → Hp → VK → Prop} {f : C → List D → (D → C → Prop) → Prop} {apos : Pos} (slot : Slot "list" name id) (hty : typeOf (.builtin id) = pure (.type "method_descriptor")) (hmt : MtR X id r) (hf : MutD X.K r f)
    (hN : X.N[i]? = some xv := by rfl) (hvv : Vis X.env.scope xv := by first | exact Or.inl rfl | exact Or.inr (Or.inl rfl) | exact Or.inr (Or.inr rfl)) (hd2 : (xv == ("__debug__" : Str)) = false := by decide)
    (hcd : (xv == ("__classdict__" : Str)) = false := by decide) (hbase : attributeBase (.Name xv p2) name X.env (eval (.Name xv p2) X.env) = eval (.Name xv p2) X.env := by rfl)
    (hline : (apos.endLine == pos.line) = true := by rfl) :
    GE X W (.Call (.Attribute (.Name xv p2) name apos) [] [] pos) (fun ρ P PX => match ρ[i]? with | some (.ow _ (.lst _)) => mMut f i mNil ρ P PX | _ => False) :=
  ⟨pe_imp (pe_bm0 PySem.F.plainAttrs_list slot hty hmt (pe_var hN hvv hd2 hcd) hbase hline) fun σ H Q h => by
  obtain ⟨F, A, ρ, P, PX, r0, hm, hP, hX⟩ := h
  split at hm
  · rename_i t0 l0 h0
    obtain ⟨p, o, h1, h2, h3, h4, h5, _⟩ := r0.rs.getO h0
    unfold mMut mNil at hm
    rw [h0] at hm
    cases h4 with
    | lst q0 =>
      refine ⟨_, h1, tyL h3, ?_⟩
      simp only [h0] at hm
      refine hf F H p _ _ [] [] _ r0.same h3 (.lst q0) h5 .nil hm Q fun d c' v o2 hz rc rd => ?_
      obtain ⟨s2, r2⟩ := r0.mut h0 h1 h2 h5 rc
      exact hP _ _ _ _ _ _ hz s2 r2 rd
  · exact hm.elim⟩
def fApp : C → List D → (D → C → Prop) → Prop := fun c ds P => match c, ds with
  | .lst l, [d] => l.length < sizeLine ∧ P .non (.lst (l ++ [d]))
  | _, _ => False
theorem md_app {K : PySem.W.Frag} : MutD K rAppend fApp := by
  intro F H p o c0 vs ds P s ho rc hn r h Q q
  unfold fApp at h
  split at h
  · cases rc with
    | lst rc =>
      cases r with
      | cons r t =>
        cases t
        exact ⟨p, _, _, rfl, rfl, ho, by rw [rc.length]; exact h.1, q _ _ _ _ h.2 (.lst (rc.append (.cons r .nil))) .non⟩
  · exact h.elim
def fIns : C → List D → (D → C → Prop) → Prop := fun c ds P => match c, ds with
  | .lst l, [.int i, d] => l.length < sizeLine ∧ 0 ≤ i ∧ i ≤ l.length ∧ P .non (.lst (l.take i.toNat ++ d :: l.drop i.toNat))
  | _, _ => False
def fPopAt : C → List D → (D → C → Prop) → Prop := fun c ds P => match c, ds with
  | .lst l, [.int i] => 0 ≤ i ∧ i < 2 ^ 63 ∧ ∃ d, l[i.toNat]? = some d ∧ P d (.lst (l.eraseIdx i.toNat))
  | _, _ => False
theorem md_popAt {K : PySem.W.Frag} : MutD K rPopAt fPopAt := by
  intro F H p o c0 vs ds P s ho rc hn r h Q q
  unfold fPopAt at h
  split at h
  · cases rc with
    | lst rc =>
      cases r with
      | cons r t =>
        cases t
        obtain ⟨h0, h1, d, h2, h3⟩ := h
        obtain ⟨v, h4, h5⟩ := rc.get _ h2
        rw [r.int_inv]
        have hlt := (List.getElem?_eq_some_iff.mp h4).1
        have e63 : (2 : Int) ^ 63 = 9223372036854775808 := by decide
        exact ⟨p, _, _, _, v, rfl, rfl, ho, by omega, h1, seqIndex_of h0 (by omega), h4, q _ _ _ _ h3 (.lst (rc.eraseIdx _)) h5⟩
  · exact h.elim
def fPop : C → List D → (D → C → Prop) → Prop := fun c ds P => match c, ds with
  | .lst l, [] => ∃ d, l[l.length - 1]? = some d ∧ P d (.lst l.dropLast)
  | _, _ => False
theorem Reps.dropLast {K : PySem.W.Frag} {F : Hp} {vs : List V} {ds : List D} (a : Reps K F vs ds) : Reps K F vs.dropLast ds.dropLast := by
  rw [List.dropLast_eq_take, List.dropLast_eq_take, a.length]
  exact a.take _
theorem md_pop {K : PySem.W.Frag} : MutD K rPop fPop := by
  intro F H p o c0 vs ds P s ho rc hn r h Q q
  unfold fPop at h
  split at h
  · cases rc with
    | lst rc =>
      cases r
      obtain ⟨d, h2, h3⟩ := h
      obtain ⟨v, h4, h5⟩ := rc.get _ h2
      exact ⟨p, _, v, rfl, rfl, ho, by rw [rc.length]; exact h4, q _ _ _ _ h3 (.lst rc.dropLast) h5⟩
  · exact h.elim
def fRev : C → List D → (D → C → Prop) → Prop := fun c ds P => match c, ds with
  | .lst l, [] => P .non (.lst l.reverse)
  | _, _ => False
theorem md_rev {K : PySem.W.Frag} : MutD K rReverse fRev := by
  intro F H p o c0 vs ds P s ho rc hn r h Q q
  unfold fRev at h
  split at h
  · cases rc with
    | lst rc =>
      cases r
      exact ⟨p, _, rfl, rfl, ho, q _ _ _ _ h (.lst rc.rev) .non⟩
  · exact h.elim
def fExt : C → List D → (D → C → Prop) → Prop := fun c ds P => match c, ds with
  | .lst l, [.lst z] => l.length + z.length ≤ sizeLine ∧ P .non (.lst (l ++ z))
  | _, _ => False
theorem md_ext {K : PySem.W.Frag} : MutD K rExtend fExt := by
  intro F H p o c0 vs ds P s ho rc hn r h Q q
  unfold fExt at h
  split at h
  · cases rc with
    | lst rc =>
      cases r with
      | cons r t =>
        cases t
        obtain ⟨a, us, rfl, e, r2⟩ := r.lst_inv
        exact ⟨p, a, _, us, rfl, rfl, ho, s _ _ e, by rw [rc.length, r2.length]; exact h.1, q _ _ _ _ h.2 (.lst (rc.append r2)) .non⟩
  · exact h.elim
theorem MtM.r {id : String} {r : V → List V → Hp → VK → Prop} (h : MtM X id r) : MtR X id r := fun pins s σ H x xs v us Q I rx rs q => h pins s σ H x xs v us Q I rx rs q

/-! ### own[i] = e -/
def mSub (i : Nat) (me mi : ME) (PD : PEnds) (ρ : List S) : Prop := match ρ[i]? with
  | some (.ow _ _) => me ρ (fun d ρ1 => mi ρ1 (fun k ρ2 => match ρ2[i]?, k with
    | some (.ow t (.lst l)), .int n => ∃ j, ixN l.length n = some j ∧ PD.nx (ρ2.set i (.ow t (.lst (l.set j d))))
    | _, _ => False) PD.ex) PD.ex
  | _ => False
theorem gs_sub {i : Nat} {xv : Str} {ix : Expr} {mi : ME} {spos : Pos} (he : GE X W e ma) (hi : GE X W ix mi) (hN : X.N[i]? = some xv := by rfl) (hvv : Vis X.env.scope xv := by first | exact Or.inl rfl | exact Or.inr (Or.inl rfl) | exact Or.inr (Or.inr rfl)) (hd2 : (xv == ("__debug__" : Str)) = false := by decide)
    (hcd : (xv == ("__classdict__" : Str)) = false := by decide) (hs : swapsWithSole [.Subscript (.Name xv p2) ix pos] e spos.line X.env = pure false := by rfl) (hw : swappedStores [.Subscript (.Name xv p2) ix pos] e X.env = pure none := by rfl)
    (h1 : (assignEach [.Subscript (.Name xv p2) ix pos] X.env).map (·.2) = [assign (.Subscript (.Name xv p2) ix pos) X.env] := by rfl)
    (has : ∀ v, assign (.Subscript (.Name xv p2) ix pos) X.env v = (do
      let ov ← holding [v] (eval (.Name xv p2) X.env)
      let iv ← holding [v, ov] (eval ix X.env)
      standAt pos
      holding [v, ov, iv] (setItem ov iv v)
      release [v, ov, iv] []) := by intro _; rfl) : GS X W (.Assign [.Subscript (.Name xv p2) ix pos] e spos) (mSub i ma mi) :=
  ⟨ps_imp (ps_asg he.pe (pg_sub (pe_var hN hvv hd2 hcd) hi.pe set_list has) hs hw h1) fun D σ H h => by
  obtain ⟨F, A, ρ, PD, r, h, q⟩ := h
  unfold mSub at h
  split at h
  · rename_i t0 c0 h0
    obtain ⟨p, o, e0, _⟩ := r.rs.getO h0
    refine ⟨F, A, ρ, _, PD.ex, r, h, fun d ρ1 v F1 H1 A1 k1 s1 r1 q1 => ?_, q.xc σ⟩
    refine ⟨_, e0, F1, A1, ρ1, _, PD.ex, r1, k1, fun k ρ2 u F2 H2 A2 k2 s2 r2 q2 => ?_, (q.xc σ).step s1⟩
    split at k2
    · rename_i t l n e1
      obtain ⟨j, k3, k4⟩ := k2
      obtain ⟨p', o', e2, m1, m2, m3, m4⟩ := slot_keeps r2 e0 e1
      cases e2
      cases m3 with
      | lst m3 =>
        rename_i vs
        obtain ⟨s3, r3⟩ := r2.mut e1 e0 m1 m4 (.lst (m3.set j (q1.mono s2.ext)))
        exact ⟨p, vs, n, j, rfl, q2.int_inv, m2, by rw [m3.length]; exact k3, q.nx _ _ _ _ _ k4 ((s1.trans s2).trans s3) r3⟩
    · exact k2.elim
  · exact h.elim⟩

/-! ### a, b = a tuple's items -/
def mUnp (m : ME) (g : MG) (PD : PEnds) (ρ : List S) : Prop := m ρ (fun d ρ1 => g d ρ1 PD.nx) PD.ex
theorem gs_unp {tg : Expr} {is : List Nat} {mg : MG} (he : GE X W e ma) (hg : GG X is tg mg) (hs : swapsWithSole [tg] e pos.line X.env = pure false := by rfl) (hw : swappedStores [tg] e X.env = pure none := by rfl)
    (h1 : (assignEach [tg] X.env).map (·.2) = [assign tg X.env] := by rfl) : GS X W (.Assign [tg] e pos) (mUnp ma mg) := ⟨ps_imp (ps_asg he.pe hg.pg hs hw h1) fun D σ H h => by
  obtain ⟨F, A, ρ, PD, r, h, q⟩ := h
  refine ⟨F, A, ρ, _, PD.ex, r, h, fun d ρ1 v F1 H1 A1 k1 s1 r1 q1 => ?_, q.xc σ⟩
  exact ⟨F1, A1, ρ1, d, _, r1, q1, k1, fun ρ' σ' A' h2 s2 r2 _ => q.nx _ _ _ _ _ h2 (s1.trans s2) r2⟩⟩
/-- a, b = x, y; a, b, c = x, y, z (locals) -/
def mPar2 (i j : Nat) (a b : MX) (PD : PEnds) (ρ : List S) : Prop := a ρ (fun s ρ1 => b ρ1 (fun t ρ2 => PD.nx ((ρ2.set i s).set j t)) PD.ex) PD.ex
def mPar3 (i j l : Nat) (a b c : MX) (PD : PEnds) (ρ : List S) : Prop := a ρ (fun s ρ1 => b ρ1 (fun t ρ2 => c ρ2 (fun u ρ3 => PD.nx (((ρ3.set i s).set j t).set l u)) PD.ex) PD.ex) PD.ex
/-- a value carried over a further step -/
theorem SlOk.step {K : PySem.W.Frag} {H F1 H1 F2 H2 : Hp} {A1 A2 : List Addr} {v : V} {s : S} (q : SlOk K H F1 H1 A1 v s) (st : Stp F1 H1 A1 F2 H2 A2) : SlOk K H F2 H2 A2 v s := by
  cases s with
  | un => exact q
  | fz d => exact (show Rep K F1 v d from q).mono st.ext
  | ow t c =>
    cases t with
    | some t => exact q
    | none =>
      obtain ⟨p, o, rfl, n1, n2, n3, n4, n5⟩ := q
      refine ⟨p, o, rfl, fun z => ?_, n2, st.kp _ _ n3 n1, n4.mono st.ext, (st.fr _ _ n3 n1).trans n5⟩
      rcases st.sub _ z with y | y
      · exact n1 y
      · rw [n3] at y; cases y
/-- stored, and which addresses are own then -/
theorem R.store' {K : PySem.W.Frag} {F H F' H' : Hp} {A A' : List Addr} {ρ : List S} {σ : L2.St} {v : V} {s : S} (s1 : Stp F H A F' H' A') (r : R K F' A' ρ σ H') (q : SlOk K H F' H' A' v s) (i : Nat) :
    ∃ A2, (∀ b, b ∈ A2 → b ∈ A' ∨ ∃ o, v = .ref b ∧ s ≠ .un ∧ H' b = some o ∧ H b = none ∧ ∃ c, s = .ow none c) ∧ Stp F H A F' H' A2 ∧ R K F' A2 (ρ.set i s) (σ.set i (some v)) H' := by
  cases s with
  | un => exact q.elim
  | fz d =>
    obtain ⟨A2, h1, h2⟩ := r.rs.setF q i
    exact ⟨A2, fun b hb => .inl (h1 b hb), s1.trans (Stp.less h1), r.same, h2⟩
  | ow t c =>
    cases t with
    | some t => exact q.elim
    | none =>
      obtain ⟨p, o, rfl, n1, n2, n3, n4, n5⟩ := q
      obtain ⟨A2, h1, h2⟩ := r.rs.setO n1 n3 n4 n5 i
      refine ⟨A2, fun b hb => ?_, ⟨s1.ext, s1.kp, s1.fr, fun b hb => ?_, s1.dom⟩, r.same, h2⟩
      · rcases h1 b hb with z | z
        · exact .inl z
        · rw [z]; exact .inr ⟨o, rfl, (fun z => nomatch z), n3, n2, c, rfl⟩
      · rcases h1 b hb with z | z
        · exact s1.sub b z
        · rw [z]; exact .inr n2
/-- a further value, new at a later heap, is not among the own ones -/
theorem SlOk.later {K : PySem.W.Frag} {H H1 F2 H2 : Hp} {A2 A3 : List Addr} {u v : V} {t s : S} (q2 : SlOk K H1 F2 H2 A2 u t) (dm : ∀ b, H1 b = none → H b = none) (hs : ∀ b, b ∈ A3 → b ∈ A2 ∨ ∃ o : HO, v = .ref b ∧ H1 b = some o) : SlOk K H F2 H2 A3 u t := by
  cases t with
  | un => exact q2
  | fz d => exact q2
  | ow tt c =>
    cases tt with
    | some z => exact q2
    | none =>
      obtain ⟨p, o, rfl, n1, n2, n3, n4, n5⟩ := q2
      refine ⟨p, o, rfl, fun z => ?_, dm _ n2, n3, n4, n5⟩
      rcases hs p z with y | ⟨o, _, y⟩
      · exact n1 y
      · rw [n2] at y; cases y
theorem pair_store {K : PySem.W.Frag} {F H F1 H1 F2 H2 : Hp} {A A1 A2 : List Addr} {ρ : List S} {σ : L2.St} {v u : V} {s t : S} {i j : Nat} (s1 : Stp F H A F1 H1 A1) (q1 : SlOk K H F1 H1 A1 v s) (s2 : Stp F1 H1 A1 F2 H2 A2) (q2 : SlOk K H1 F2 H2 A2 u t) (r : R K F2 A2 ρ σ H2) :
    ∃ A3, (∀ b, b ∈ A3 → b ∈ A2 ∨ (∃ o, v = .ref b ∧ H1 b = some o) ∨ (u = .ref b ∧ ∃ c, t = .ow none c)) ∧ Stp F H A F2 H2 A3 ∧ R K F2 A3 ((ρ.set i s).set j t) ((σ.set i (some v)).set j (some u)) H2 := by
  have k1 : ∀ b, (∃ c, s = .ow none c) → v = .ref b → ∃ o, H1 b = some o := fun b ⟨c, e⟩ ev => by
    subst e
    obtain ⟨p, o, e2, _, _, n3, _⟩ := q1
    rw [ev] at e2; cases e2
    exact ⟨o, n3⟩
  obtain ⟨A3, h3, s3, r3⟩ := R.store' (s1.trans s2) r (q1.step s2) i
  have q2' : SlOk K H F2 H2 A3 u t := q2.later (v := v) (s := s) s1.dom fun b hb => by
    rcases h3 b hb with z | ⟨o, e, _, _, _, c, e2⟩
    · exact .inl z
    · obtain ⟨o', e3⟩ := k1 b ⟨c, e2⟩ e
      exact .inr ⟨o', e, e3⟩
  obtain ⟨A4, h4, s4, r4⟩ := R.store' s3 r3 q2' j
  refine ⟨A4, fun b hb => ?_, s4, r4⟩
  rcases h4 b hb with z | ⟨o, e, _, _, _, ec⟩
  · rcases h3 b z with y | ⟨o, e, _, _, _, c, e2⟩
    · exact .inl y
    · obtain ⟨o', e3⟩ := k1 b ⟨c, e2⟩ e
      exact .inr (.inl ⟨o', e, e3⟩)
  · exact .inr (.inr ⟨e, ec⟩)
theorem gs_par2 {i j : Nat} {xi xj : Str} {px py pt : Pos} {kt k2 : Nat} {pt2 : Pos} {mx my : MX} (hc : X.calm = true) (hN : X.N.Nodup) (ha : GX X W a mx) (hb : GX X W b my) (hij : i ≠ j := by decide) (hi : X.N[i]? = some xi := by rfl) (hj : X.N[j]? = some xj := by rfl)
    (hx : X.env.scope.names.lookup xi = some .local := by rfl) (hy : X.env.scope.names.lookup xj = some .local := by rfl) (hw : swappedStores [.Tuple [.Name xi px, .Name xj py] kt pt] (.Tuple [a, b] k2 pt2) X.env = pure (some [xi, xj]) := by rfl)
    (hs : swapsWithSole [.Tuple [.Name xi px, .Name xj py] kt pt] (.Tuple [a, b] k2 pt2) pos.line X.env = pure false := by rfl) (h1 : starEach [a, b] X.env = (false, eval a X.env) :: starEach [b] X.env := by rfl) (h2 : starEach [b] X.env = (false, eval b X.env) :: starEach [] X.env := by rfl) :
    GS X W (.Assign [.Tuple [.Name xi px, .Name xj py] kt pt] (.Tuple [a, b] k2 pt2) pos) (mPar2 i j mx my) :=
  ⟨ps_imp (ps_par hc hN hi hj hij hx hy (pa_cons ha.pe (pa_cons hb.pe pa_nil h2) h1) hw hs) fun D σ H h => by
  obtain ⟨F, A, ρ, PD, r, h, q⟩ := h
  refine ⟨F, A, ρ, _, PD.ex, r, h, fun s ρ1 v F1 H1 A1 k1 s1 r1 q1 => ?_, q.xc σ⟩
  refine ⟨F1, A1, ρ1, _, PD.ex, r1, k1, fun t ρ2 u F2 H2 A2 k2 s2 r2 q2 => ?_, (q.xc σ).step s1⟩
  obtain ⟨A3, _, s3, r3⟩ := pair_store s1 q1 s2 q2 r2 (i := i) (j := j)
  exact ⟨v, u, rfl, q.nx _ _ _ _ _ k2 s3 r3⟩⟩
theorem gs_par3 {i j l : Nat} {xi xj xl : Str} {c : Expr} {px py pz pt : Pos} {kt k2 : Nat} {pt2 : Pos} {mx my mz : MX} (hc : X.calm = true) (hN : X.N.Nodup) (ha : GX X W a mx) (hb : GX X W b my) (hcc : GX X W c mz) (hij : i ≠ j := by decide) (hil : i ≠ l := by decide) (hjl : j ≠ l := by decide) (hi : X.N[i]? = some xi := by rfl) (hj : X.N[j]? = some xj := by rfl) (hl : X.N[l]? = some xl := by rfl)
    (hx : X.env.scope.names.lookup xi = some .local := by rfl) (hy : X.env.scope.names.lookup xj = some .local := by rfl) (hz : X.env.scope.names.lookup xl = some .local := by rfl) (hw : swappedStores [.Tuple [.Name xi px, .Name xj py, .Name xl pz] kt pt] (.Tuple [a, b, c] k2 pt2) X.env = pure (some [xi, xj, xl]) := by rfl)
    (hs : swapsWithSole [.Tuple [.Name xi px, .Name xj py, .Name xl pz] kt pt] (.Tuple [a, b, c] k2 pt2) pos.line X.env = pure false := by rfl) (h1 : starEach [a, b, c] X.env = (false, eval a X.env) :: starEach [b, c] X.env := by rfl) (h2 : starEach [b, c] X.env = (false, eval b X.env) :: starEach [c] X.env := by rfl) (h3 : starEach [c] X.env = (false, eval c X.env) :: starEach [] X.env := by rfl) :
    GS X W (.Assign [.Tuple [.Name xi px, .Name xj py, .Name xl pz] kt pt] (.Tuple [a, b, c] k2 pt2) pos) (mPar3 i j l mx my mz) :=
  ⟨ps_imp (ps_par3 hc hN hi hj hl hij hil hjl hx hy hz (pa_cons ha.pe (pa_cons hb.pe (pa_cons hcc.pe pa_nil h3) h2) h1) hw hs) fun D σ H h => by
  obtain ⟨F, A, ρ, PD, r, h, q⟩ := h
  refine ⟨F, A, ρ, _, PD.ex, r, h, fun s ρ1 v F1 H1 A1 k1 s1 r1 q1 => ?_, q.xc σ⟩
  refine ⟨F1, A1, ρ1, _, PD.ex, r1, k1, fun t ρ2 u F2 H2 A2 k2 s2 r2 q2 => ?_, (q.xc σ).step s1⟩
  refine ⟨F2, A2, ρ2, _, PD.ex, r2, k2, fun t3 ρ3 u3 F3 H3 A3 k3 s3 r3 q3 => ?_, (q.xc σ).step (s1.trans s2)⟩
  -- the first two, then the third
  have q2' := q2.step s3
  obtain ⟨A4, h4, s4, r4⟩ := pair_store (s1) q1 (s2.trans s3) q2' r3 (i := i) (j := j)
  have q3' : SlOk X.K H F3 H3 A4 u3 t3 := by
    have d2 : ∀ b, H2 b = none → H b = none := fun b e => s1.dom _ (s2.dom _ e)
    cases t3 with
    | un => exact q3
    | fz d => exact q3
    | ow tt c =>
      cases tt with
      | some z => exact q3
      | none =>
        obtain ⟨p, o, rfl, n1, n2, n3, n4, n5⟩ := q3
        refine ⟨p, o, rfl, fun z => ?_, d2 _ n2, n3, n4, n5⟩
        rcases h4 p z with y | ⟨o, _, y⟩ | ⟨e, c', e2⟩
        · exact n1 y
        · rw [s2.dom _ n2] at y; cases y
        · subst e2
          obtain ⟨p', o', e3, _, _, n3', _⟩ := q2
          rw [e] at e3; cases e3
          rw [n2] at n3'; cases n3'
  obtain ⟨A5, s5, r5⟩ := R.store s4 r4 q3' l
  exact ⟨v, u, u3, rfl, q.nx _ _ _ _ _ k3 s5 r5⟩⟩
/-- insert -/
theorem md_ins {K : PySem.W.Frag} : MutD K (fun x vs H Q => ∃ (l : Addr) (xs : List V) (i : Int) (y : V), x = .ref l ∧ vs = [.int i, y] ∧ H l = some (.lst xs) ∧ xs.length < sizeLine ∧ 0 ≤ i ∧ i < 2 ^ 63 ∧
    Q .non (upd H l (.lst (xs.take i.toNat ++ [y] ++ xs.drop i.toNat)))) fIns := by
  intro F H p o c0 vs ds P s ho rc hn r h Q q
  unfold fIns at h
  split at h
  · cases rc with
    | lst rc =>
      cases r with
      | cons r t =>
        cases t with
        | cons r' t =>
          cases t
          obtain ⟨h1, h2, h3, h4⟩ := h
          rw [r.int_inv]
          have hs : sizeLine = 16777216 := sizeLine_eq
          have e63 : (2 : Int) ^ 63 = 9223372036854775808 := by decide
          refine ⟨p, _, _, _, rfl, rfl, ho, by rw [rc.length]; exact h1, h2, by omega, q _ _ _ _ h4 (.lst ?_) .non⟩
          rw [List.append_assoc]
          exact (rc.take _).append (.cons r' (rc.drop _))
  · exact h.elim

/-! ### texts: join; ints: bit_length -/
def StrD (K : PySem.W.Frag) (r : V → List V → Hp → VK → Prop) (f : Str → D → (D → Prop) → Prop) : Prop :=
  ∀ (F H : Hp) (a : Str) (v : V) (d : D) (P : D → Prop), Same F H → Rep K F v d → f a d P → ∀ Q : VK, (∀ z w F' H', P z → New F H F' H' → Rep K F' w z → Q w H') → r (.str a) [v] H Q
def mSm (f : Str → D → (D → Prop) → Prop) (ms ml : ME) (ρ : List S) (P : D → List S → Prop) (PX : XP) : Prop := ms ρ (fun d ρ1 => match d with
  | .str z => ml ρ1 (fun l ρ2 => f z l fun y => P y ρ2) PX
  | _ => False) PX
/-- text.m(e) -/
theorem ge_sm {o : Expr} {id : String} {name : Str} {apos : Pos} {ms : ME} {r : V → List V → Hp → VK → Prop} {f : Str → D → (D → Prop) → Prop} (slot : Slot "str" name id) (ty : typeOf (.builtin id) = pure (.type "method_descriptor")) (rule : MtR X id r) (hf : StrD X.K r f) (ho : GE X W o ms) (ha : GE X W e ma)
    (hs : starEach [e] X.env = [(false, eval e X.env)] := by rfl) (hbase : attributeBase o name X.env (eval o X.env) = eval o X.env := by rfl) (hline : (apos.endLine == pos.line) = true := by rfl) :
    GE X W (.Call (.Attribute o name apos) [e] [] pos) (mSm f ms ma) := ⟨pe_imp (pe_m1 slot ty rule ho.pe ha.pe hs hbase hline) fun σ H Q h => by
  obtain ⟨F, A, ρ, P, PX, r, hm, hP, hX⟩ := h
  refine ⟨F, A, ρ, _, PX, r, hm, fun d ρ1 v F1 H1 A1 k1 s1 r1 q1 => ?_, hX⟩
  cases d with
  | str z =>
    rw [q1.str_inv]
    refine ⟨⟨z, rfl⟩, F1, A1, ρ1, _, PX, r1, k1, fun l ρ2 u F2 H2 A2 k2 s2 r2 q2 => ?_, hX.step s1⟩
    exact hf F2 H2 z u l _ r2.same q2 k2 Q fun y w F3 H3 hy n w' => hP _ _ _ _ _ _ hy ((s1.trans s2).trans n.stp) (r2.new n) w'
  | _ => exact k1.elim⟩
def fJoin : Str → D → (D → Prop) → Prop := fun z d P => match d with
  | .lst ds => ∃ ys, strsOf ds = some ys ∧ (ys.map (·.length)).sum + ys.length * z.length ≤ 16777216 ∧ P (.str (Txt.join z ys))
  | _ => False
theorem sd_join {K : PySem.W.Frag} : StrD K (fun x xs H Q => ∃ a p, ∃ ys : List Str, x = .str a ∧ xs = [.ref p] ∧ (SqL K H p (ys.map V.str) ∨ SqT K H p (ys.map V.str)) ∧
    (ys.map (·.length)).sum + ys.length * a.length ≤ 16777216 ∧ Q (.str (Txt.join a ys)) H) fJoin := by
  intro F H a v d P s r h Q q
  unfold fJoin at h
  split at h
  · obtain ⟨ys, h1, h2, h3⟩ := h
    obtain ⟨p, vs, rfl, e, r2⟩ := r.lst_inv
    have := r2.strsOf h1
    subst this
    exact ⟨a, p, ys, rfl, rfl, .inl (.of (s _ _ e)), h2, q _ _ F H h3 (New.refl s) (.str _)⟩
  · exact h.elim
def mBits (m : ME) (ρ : List S) (P : D → List S → Prop) (PX : XP) : Prop := m ρ (fun d ρ1 => match d with | .int i => P (.int (Builtin.Int.intBits i : Nat)) ρ1 | _ => False) PX
theorem ge_bits {o : Expr} {apos : Pos} {mo : ME} (ho : GE X W o mo) (hbase : attributeBase o "bit_length" X.env (eval o X.env) = eval o X.env := by rfl) (hline : (apos.endLine == pos.line) = true := by rfl) : GE X W (.Call (.Attribute o "bit_length" apos) [] [] pos) (mBits mo) :=
  ⟨pe_imp (pe_bits ho.pe hbase hline) fun σ H Q h => by
  obtain ⟨F, A, ρ, P, PX, r, hm, hP, hX⟩ := h
  refine ⟨F, A, ρ, _, PX, r, hm, fun d ρ1 v F1 H1 A1 k1 s1 r1 q1 => ?_, hX⟩
  cases d with
  | int i => exact ⟨i, q1.int_inv, hP _ _ _ _ _ _ k1 s1 r1 (.int _)⟩
  | _ => exact k1.elim⟩
end
end G

/-! G: enumerate(text); further pieces -/
namespace G
open PySem PySem.Spec PyProof.Rows L2
def Ites (x : Str) : It := ⟨fun i _ => i < x.cps.size, fun i H v H' => ∃ T c, v = .ref T ∧ H T = none ∧ H' = upd H T (.tup [.int (i : Nat), .str ⟨#[c]⟩]) ∧ x.cps[i]? = some c, fun i _ => x.cps.size ≤ i⟩
theorem turn_enumS {P : Program} {w : World} {K : PySem.W.Frag} {elts : List Expr} {kk : Nat} {tpos : Pos} (x : Str) (t : Tok) (e it : Addr) :
    Turn P w K (.Tuple elts kk tpos) (Ites x) [e, it] e (fun i h => (∃ old, IsEnum h e it ((i : Nat) : Int) old) ∧ h.IsStrIter it (strIterType x) x t i ∧ e ≠ it ∧ i ≤ x.cps.size) where
  mem := by simp
  obj := fun i h st b hb => by
    obtain ⟨⟨old, he⟩, ⟨o, ho, hc, hd⟩, _, _⟩ := st
    have e' : b = e ∨ b = it := by simpa using hb
    rcases e' with z | z
    · rw [z]; exact ⟨_, he, fun v q => nomatch q⟩
    · rw [z]; exact ⟨o, ho, fun v q => by rw [hd] at q; cases q⟩
  keep := fun i h h' st k => let ⟨⟨old, he⟩, ⟨o, ho, r⟩, hne, hl⟩ := st; ⟨⟨old, k e (by simp) _ he⟩, ⟨o, k it (by simp) o ho, r⟩, hne, hl⟩
  item := by
    intro X hP hw hK hc i pins s σ H E I hf st hg
    subst hP hw hK
    obtain ⟨⟨old, he⟩, hit, hne, hle⟩ := st
    have D : Draws X.prog X.w X.A.in1 it [it] x.cps.size (fun i v => ∃ c u, x.cps[i]? = some c ∧ v = .str ⟨#[c]⟩ u) (fun i h => h.IsStrIter it (strIterType x) x t i) := Draws.text (A := X.A.in1) (show X.A.handled = none from I.ok.hd hc) it x t
    have hel : e < s.heap.objs.size := Heap.lt_size he
    have hil : it < s.heap.objs.size := by obtain ⟨_, q, _⟩ := hit; exact Heap.lt_size q
    refine wpAny_pyNext_enum_itemD D he hit hg hne (by simpa using hne) fun u h' tk hu ho hit' hT hsz hk => ?_
    obtain ⟨c, uu, hcx, rfl⟩ := hu
    refine ⟨_, rfl, wpAny_letOwnedTupleGo_enum (s := { s with heap := h', toks := tk + 1 }) ho fun h'' he' sb => ?_⟩
    have hT2 : h''.get? s.heap.objs.size = some { cls := .type "tuple", data := .seq #[.int i tk, .str ⟨#[c]⟩ uu] } := (sb.2 _ (Nat.ne_of_gt hel)).trans hT
    have new : ObjOk X.prog X.w (upd H s.heap.objs.size (.tup [.int (i : Nat), .str ⟨#[c]⟩])) h'' s.heap.objs.size (.tup [.int (i : Nat), .str ⟨#[c]⟩]) :=
      ⟨by show 2 ≤ sizeLine; decide, [.int i tk, .str ⟨#[c]⟩ uu], .cons ⟨_, rfl⟩ (.cons ⟨_, rfl⟩ .nil), ⟨_, hT2, rfl, _, rfl⟩⟩
    have I1 : Inv X pins σ (upd H s.heap.objs.size (.tup [.int (i : Nat), .str ⟨#[c]⟩])) { s with heap := h'', toks := tk + 1 } :=
      I.turnedNew (ch := [e, it]) (fun b ob hb q => (sb.2 b (fun z => hb (by simp [z]))).trans (hk b ob (fun z => hb (by simp [z])) (fun z => hb (by simp [z])) q)) hf (Nat.le_refl _) new
    refine ⟨.ref s.heap.objs.size, _, I1, rfl, ⟨_, c, rfl, I.hok.fresh (Nat.le_refl _), rfl, hcx⟩, ⟨⟨.str ⟨#[c]⟩ uu, ?_⟩, ?_, hne, hg⟩, fun b hb => ?_⟩
    · have e1 : ((i + 1 : Nat) : Int) = (i : Int) + 1 := by omega
      rw [e1]; exact he'
    · obtain ⟨o, q1, q2⟩ := hit'
      exact ⟨o, (sb.2 it (Ne.symm hne)).trans q1, q2⟩
    · have hb' : b < s.heap.objs.size := by
        have e' : b = e ∨ b = it := by simpa using hb
        rcases e' with z | z
        · rw [z]; exact hel
        · rw [z]; exact hil
      rw [upd_ne (Nat.ne_of_lt hb')]
      exact (hf b hb).1
  done := by
    intro X hP hw hK hc i pins s σ H E I hf st hg
    subst hP hw hK
    obtain ⟨⟨old, he⟩, hit, hne, hle⟩ := st
    obtain ⟨f0, f1, f2, f3, f4, f5⟩ := hf it (by simp)
    have D : Draws X.prog X.w X.A.in1 it [it] x.cps.size (fun i v => ∃ c u, x.cps[i]? = some c ∧ v = .str ⟨#[c]⟩ u) (fun i h => h.IsStrIter it (strIterType x) x t i) := Draws.text (A := X.A.in1) (show X.A.handled = none from I.ok.hd hc) it x t
    have e : i = x.cps.size := Nat.le_antisymm hle hg
    subst e
    exact wpAny_pyNext_enum_endD D he hit fun h' eb => ⟨rfl, I.turned (t' := s.toks) (it := it) (fun b o hb q => eb b o hb q) (hf it (by simp)).1 (hf it (by simp)).2.1 (hf it (by simp)).2.2.2.1 (hf it (by simp)).2.2.2.2.1 (hf it (by simp)).2.2.2.2.2⟩
  self := fun A i s Q E st h => let ⟨⟨_, he⟩, _⟩ := st; wpAny_pyIter_enum he h
def iEnumS (ta : TA) : TI := fun σ H R => ta σ H fun vs H1 => ∃ x, vs = [.str x] ∧ R (Ites x) H1
theorem pi_enumS {X : Cx} {e : Expr} {ta : TA} {p pos tpos : Pos} {elts : List Expr} {kk : Nat} (hg : Gl X "enumerate") (hm : X.mg "enumerate" = none) (ha : PA X [e] ta) (hs : starEach [e] X.env = [(false, eval e X.env)] := by rfl) :
    PI X (.Tuple elts kk tpos) (.Call (.Name "enumerate" p) [e] [] pos) (iEnumS ta) := by
  refine ⟨fun pins s σ H R I h => ?_⟩
  refine Call_ (ld_blt I hg hm boot_enumerate (PyProof.Rows.callWith_type1 (thn (ha.run pos pins s σ H _ I h) fun us s1 ⟨vs, H1, I1, r1, q1⟩ => ?_) hs rfl))
  obtain ⟨x, ex, q⟩ := q1
  subst ex
  cases r1 with
  | cons r rr =>
    cases rr
    obtain ⟨t, rfl⟩ := r
    refine call_enumerate_str fun h' he hit hsz hk => wpAny_pyIter_enum he ?_
    have I2 : Inv X pins σ H1 { s1 with heap := h' } := I1.kept (t' := s1.toks) hk
    refine ⟨s1.heap.objs.size + 1, [s1.heap.objs.size + 1, s1.heap.objs.size], _, _, H1, rfl, I2, turn_enumS x t (s1.heap.objs.size + 1) s1.heap.objs.size, ⟨⟨.none, he⟩, hit, Nat.succ_ne_self _, Nat.zero_le _⟩, fun b hb => ?_, q⟩
    have e' : b = s1.heap.objs.size + 1 ∨ b = s1.heap.objs.size := by simpa using hb
    have hle : s1.heap.objs.size ≤ b := by
      rcases e' with z | z
      · rw [z]; exact Nat.le_add_right _ _
      · rw [z]; exact Nat.le_refl _
    exact I1.fpOk hle (I1.hok.fresh hle)
theorem isIt_enumS {K : PySem.W.Frag} {F : Hp} (z : Str) : IsIt K F (Ites z) (enumD (signs z)) := by
  intro i F2 H s1 s2
  have hl0 : (signs z).length = z.cps.size := by simp [signs]
  have hl : (enumD (signs z)).length = z.cps.size := by rw [← hl0]; simp [enumD]
  refine ⟨fun h => ⟨(show i < z.cps.size by rw [← hl]; exact h), fun x H' y => ?_⟩, fun h => (show z.cps.size ≤ i by rw [hl] at h; exact h)⟩
  obtain ⟨T, c, rfl, hT, rfl, hc⟩ := y
  have hi : i < z.cps.size := by rw [← hl]; exact h
  have e1 : z.cps[i] = c := by
    rw [Array.getElem?_eq_getElem hi] at hc
    exact Option.some.inj hc
  have e : (enumD (signs z))[i] = D.tup [.int (i : Nat), .str ⟨#[c]⟩] := by
    have h1 : i < (signs z).length := by rw [hl0]; exact hi
    have h2 : (signs z).getD i .non = D.str ⟨#[c]⟩ := by
      rw [List.getD_eq_getElem?_getD, List.getElem?_eq_getElem h1]
      simp [signs, e1]
    simp only [enumD, List.getElem_map, List.getElem_range, h2]
  rw [e]
  exact ⟨_, New.mk1 _ s2 hT, .tup upd_same (.cons (.int _) (.cons (.str _) .nil))⟩
section
variable {X : Cx} {W : WX} {e a b : Expr} {es elts : List Expr} {x : Str} {p p2 pos tpos : Pos} {kk : Nat} {ma mb : ME} {mas : MA} {st : Stmt} {ms : MS}
def iEnS (m : MA) (ρ : List S) (P : List D → List S → Prop) (PX : XP) : Prop := m ρ (fun ds ρ1 => match ds with | [.str z] => P (enumD (signs z)) ρ1 | _ => False) PX
theorem gi_enumS (hm : X.mg "enumerate" = none) (ha : GA X W [e] mas) (hg : Gl X "enumerate" := by rfl) (hs : starEach [e] X.env = [(false, eval e X.env)] := by rfl) : GI X W (.Tuple elts kk tpos) (.Call (.Name "enumerate" p) [e] [] pos) (iEnS mas) := ⟨⟨fun pins s σ H Q I h => by
  obtain ⟨F, A, ρ, P, PX, r, hm', hP, hX⟩ := h
  refine (pi_enumS hg hm (ha.pa) hs).run pins s σ H Q I ⟨F, A, ρ, _, PX, r, hm', fun ds ρ' vs F' H' A' h1 s1 r1 q1 => ?_, hX⟩
  split at h1
  · cases q1 with
    | cons q1 q2 =>
      cases q2
      rw [q1.str_inv]
      exact ⟨_, rfl, hP _ _ _ _ _ _ h1 s1 r1 (isIt_enumS _)⟩
  · exact h1.elim⟩⟩
/-- a statement that is not come to -/
def mNever (PD : PEnds) (ρ : List S) : Prop := False
theorem gs_never : GS X W st mNever := ⟨ps_imp ps_never fun D σ H ⟨F, A, ρ, PD, r, h, q⟩ => h⟩
/-- behind a statement an own list stays -/
def mFzS (i : Nat) (PD : PEnds) (ρ : List S) : Prop := match ρ[i]? with
  | some (.ow none (.lst ds)) => PD.nx (ρ.set i (.fz (.lst ds)))
  | _ => False
theorem gs_fz {i : Nat} (h : GS X W st ms) : GS X W st (mSeq ms (mFzS i)) := ⟨ps_imp h.ps fun D σ H h => by
  obtain ⟨F, A, ρ, PD, r, h, q⟩ := h
  refine ⟨F, A, ρ, _, r, h, ⟨fun ρ' σ' F' H' A' h1 s1 r1 => ?_, q.rt, q.bk, q.ct, q.ex⟩⟩
  have h1 : mFzS i PD ρ' := h1.go
  unfold mFzS at h1
  split at h1
  · rename_i ds e
    obtain ⟨p, F2, A2, _, _, s2, r2⟩ := r1.freeze e
    exact q.nx _ _ _ _ _ h1 (s1.trans s2) r2
  · exact h1.elim⟩
/-- += on ints, on texts -/
def fAddI : D → D → (D → Prop) → Prop
  | .int i, .int j, P => P (.int (i + j))
  | .str x, .str y, P => x.length + y.length ≤ sizeLine ∧ P (.str (x ++ y))
  | _, _, _ => False
theorem od_addI {K : PySem.W.Frag} : OpD K (fun x y H Q => (∃ i j, x = .int i ∧ y = .int j ∧ Q (.int (i + j)) H) ∨ (∃ i j, x = .str i ∧ y = .str j ∧ i.length + j.length ≤ sizeLine ∧ Q (.str (i ++ j)) H)) fAddI := by
  intro F H v u d e P s rv ru h Q q
  cases d <;> cases e <;> first | exact h.elim | skip
  · exact .inl ⟨_, _, rv.int_inv, ru.int_inv, q _ _ F H h (New.refl s) (.int _)⟩
  · exact .inr ⟨_, _, rv.str_inv, ru.str_inv, h.1, q _ _ F H h.2 (New.refl s) (.str _)⟩
def mMt (f : C → List D → (D → C → Prop) → Prop) (i : Nat) (m : MA) (ρ : List S) (P : D → List S → Prop) (PX : XP) : Prop := match ρ[i]? with | some (.ow _ (.lst _)) => mMut f i m ρ P PX | _ => False
/-- a constant of the module -/
theorem ge_globI {i : Int} {t : Tok} (hm : X.mg x = some (.int i t)) (hg : Gl X x := by rfl) (hd : (x == ("__debug__" : Str)) = false := by decide) : GE X W (.Name x pos) (mC (.int i)) :=
  ⟨pe_imp (pe_glob (v := .int i) hg hm ⟨t, rfl⟩ hd) fun σ H Q ⟨F, A, ρ, P, PX, r, hm, hP, _⟩ => hP _ _ _ _ _ _ hm Stp.refl r (.int i)⟩
theorem ge_globS {z : Str} {t : Tok} (hm : X.mg x = some (.str z t)) (hg : Gl X x := by rfl) (hd : (x == ("__debug__" : Str)) = false := by decide) : GE X W (.Name x pos) (mC (.str z)) :=
  ⟨pe_imp (pe_glob (v := .str z) hg hm ⟨t, rfl⟩ hd) fun σ H Q ⟨F, A, ρ, P, PX, r, hm, hP, _⟩ => hP _ _ _ _ _ _ hm Stp.refl r (.str z)⟩
/-- [..] * n, a new list of one's own -/
def mRep (ma mb : ME) (ρ : List S) (P : C → List S → Prop) (PX : XP) : Prop := ma ρ (fun d ρ1 => mb ρ1 (fun e ρ2 => match d, e with
  | .lst l, .int n => n < 2 ^ 63 ∧ -(2 ^ 63) ≤ n ∧ l.length * n.toNat ≤ sizeLine ∧ P (.lst (List.replicate n.toNat l).flatten) ρ2
  | _, _ => False) PX) PX
theorem go_rep (ha : GE X W a ma) (hb : GE X W b mb) : GO X W (.BinOp a .Mult b pos) (mRep ma mb) := ⟨pe_imp (pe_op op_rep ha.pe hb.pe) fun σ H Q h => by
  obtain ⟨F, A, ρ, P, PX, r0, hm, hP, hX⟩ := h
  refine ⟨F, A, ρ, _, PX, r0, hm, fun d ρ1 v F1 H1 A1 h1 s1 r1 q1 => ?_, hX⟩
  refine ⟨F1, A1, ρ1, _, PX, r1, h1, fun e ρ2 u F2 H2 A2 h2 s2 r2 q2 => ?_, hX.step s1⟩
  split at h2
  · obtain ⟨a, vs, rfl, e1, r3⟩ := (q1.mono s2.ext).lst_inv
    refine ⟨a, _, vs, rfl, q2.int_inv, r2.same _ _ e1, h2.2.1, h2.1, by rw [r3.length]; exact h2.2.2.1, fun p hp => ?_⟩
    obtain ⟨s3, r4, n1, n2, n3⟩ := own_new (.lst (List.replicate _ vs).flatten) (s1.trans s2) r2 hp
    exact hP _ ρ2 p _ _ _ A2 h2.2.2.2 s3 r4 n1 n3 upd_same (.lst (r3.rep _)) n2
  · exact h2.elim⟩
end
end G

/-! an own list compared: it stays one's own -/
namespace G
open PySem PySem.Spec PyProof.Rows L2
def OwnCmp (K : PySem.W.Frag) (r : R2) (f : D → D → (D → Prop) → Prop) : Prop :=
  ∀ (F H : Hp) (p : Addr) (vs : List V) (ds : List D) (u : V) (e : D) (P : D → Prop), Same F H → H p = some (.lst vs) → Reps K F vs ds → Rep K F u e → f (.lst ds) e P → ∀ Q : VK, (∀ b, P (.bl b) → Q (.bl b) H) → r (.ref p) u H Q
theorem oc_eq {K : PySem.W.Frag} : OwnCmp K (rEqA K) fEq := by
  intro F H p vs ds u e P s hp rv ru h Q q
  have h : shp (.lst ds) = true ∧ shp e = true ∧ P (.bl (deq (.lst ds) e)) := by cases e <;> exact h
  exact .inr ⟨toP (.lst ds), toP e, .lst (.of hp) (rv.dp s ds _), ru.dp s e _, h.1, h.2.1, q _ h.2.2⟩
theorem oc_ne {K : PySem.W.Frag} : OwnCmp K (rNeA K) fNe := by
  intro F H p vs ds u e P s hp rv ru h Q q
  have h : shp (.lst ds) = true ∧ shp e = true ∧ P (.bl (!deq (.lst ds) e)) := by cases e <;> exact h
  exact .inr ⟨toP (.lst ds), toP e, .lst (.of hp) (rv.dp s ds _), ru.dp s e _, h.1, h.2.1, q _ h.2.2⟩
section
variable {X : Cx} {W : WX} {b : Expr} {x : Str} {p2 pos : Pos} {mb : ME} {op : CmpOp} {r : R2} {f : D → D → (D → Prop) → Prop}
def mCmpV (f : D → D → (D → Prop) → Prop) (i : Nat) (mb : ME) (ρ : List S) (P : D → List S → Prop) (PX : XP) : Prop := match ρ[i]? with
  | some (.ow _ _) => mb ρ (fun e ρ1 => match ρ1[i]? with
    | some (.ow _ (.lst ds)) => f (.lst ds) e fun z => match z with
      | .bl b => P (.bl b) ρ1
      | _ => False
    | _ => False) PX
  | _ => False
theorem lift_cmpV {i : Nat} {σ : L2.St} {H : Hp} {Q : VK} (hf : OwnCmp X.K r f) (h : lift X.K W (mCmpV f i mb) σ H Q) : tOp r (tVar i) (lift X.K W mb) σ H Q := by
  obtain ⟨F, A, ρ, P, PX, r0, hm, hP, hX⟩ := h
  unfold mCmpV at hm
  split at hm
  · rename_i t c h
    obtain ⟨p, o, h1, _⟩ := r0.rs.getO h
    refine ⟨_, h1, F, A, ρ, _, PX, r0, hm, fun e ρ1 u F1 H1 A1 h2 s1 r1 q1 => ?_, hX⟩
    split at h2
    · rename_i t ds h'
      obtain ⟨p', o', e1, h3, h4, h5, h6⟩ := slot_keeps r1 h1 h'
      cases e1
      cases h5 with
      | lst h5 => exact hf F1 H1 p _ ds u e _ r1.same h4 h5 q1 h2 _ fun b hb => hP _ _ _ _ _ _ hb s1 r1 (.bl b)
    · exact h2.elim
  · exact hm.elim
theorem ge_cmpV {i : Nat} (ho : OpR X (compareOp op) r) (hf : OwnCmp X.K r f) (hb : GE X W b mb) (hN : X.N[i]? = some x := by rfl) (hv : Vis X.env.scope x := by first | exact Or.inl rfl | exact Or.inr (Or.inl rfl) | exact Or.inr (Or.inr rfl)) (hd : (x == ("__debug__" : Str)) = false := by decide)
    (hcd : (x == ("__classdict__" : Str)) = false := by decide) (h1 : behindInMarks op b = false := by first | exact nobehind _ (by decide) (by decide) | rfl) :
    GE X W (.Compare (.Name x p2) [op] [b] pos) (mCmpV f i mb) := ⟨pe_imp (pe_cmpR ho (pe_var hN hv hd hcd) hb.pe h1) fun _ _ _ h => lift_cmpV hf h⟩
theorem gt_cmpV {i : Nat} (ho : OpR X (compareOp op) r) (hf : OwnCmp X.K r f) (hb : GE X W b mb) (hN : X.N[i]? = some x := by rfl) (hv : Vis X.env.scope x := by first | exact Or.inl rfl | exact Or.inr (Or.inl rfl) | exact Or.inr (Or.inr rfl)) (hd : (x == ("__debug__" : Str)) = false := by decide)
    (hcd : (x == ("__classdict__" : Str)) = false := by decide) (h1 : behindInMarks op b = false := by first | exact nobehind _ (by decide) (by decide) | rfl) :
    GT X W (.Compare (.Name x p2) [op] [b] pos) (mTst (mCmpV f i mb)) := ⟨pt_imp (pt_cmpR ho (pe_var hN hv hd hcd) hb.pe h1) fun σ H Q h => by
  have z := liftT_tst h
  exact lift_cmpV hf z⟩
end
end G

/-! the end of a law row -/
namespace G
open PySem PySem.Spec PyProof.Rows L2
/-- where a def stands -/
structure DefAt (K : PySem.W.Frag) (mg : Str → Option Value) (x : Str) (st : Stmt) : Prop where
  ex : ∃ f fd, Fun K x x st f fd ∧ mg x = some (.ref f)
theorem def_mk {K : PySem.W.Frag} {h : Heap} {mg : Str → Option Value} {x : Str} {st : Stmt} {f : Addr} {oc : Value} {od an : Option Addr} {osl : Array (Option Value)} {kV doc pm cdv ct : Value} (X : K.In h) (G : h.Ns mainGlobals mg)
    (a : PySem.W.nsIn K mainGlobals x = some (some (.ref f))) (l : K.lookup f = some ⟨oc, od, .func (PySem.W.fnOf x x (defArgs st) (defBody st) (defScope st) .none kV doc pm an cdv ct), osl⟩) (c : PySem.W.codeIn K cdv x = true) (k : PySem.W.keepIn K (.ref f) = true) : DefAt K mg x st :=
  ⟨f, _, fun_mk l c k, PySem.W.mg_of X G a⟩
abbrev DefIn {K : PySem.W.Frag} {h : Heap} (_ : K.In h) (mg : Str → Option Value) (x : Str) (st : Stmt) : Prop := DefAt K mg x st
/-- what the law's def promises, at a script -/
theorem law_holds {K : PySem.W.Frag} {c : CtP} (h : ∀ (ns : List Int) (P : Rv → Prop) (PX : Ex → Prop), ns.length ≤ 63 → P (.fz (.bl true)) → c [.scr ns] P PX) (H : Hp) (a : Addr) (ns : List Int) (hl : ns.length ≤ 63) (hS : SqL K H a (ns.map V.int)) :
    spP K c [.ref a] H (fun v _ => v = .bl true) fun _ _ _ => False :=
  ⟨H, [.scr ns], fun rv => rv = .fz (.bl true), fun _ => False, Same.refl _, .cons (.scr hS) .nil, h ns _ _ hl rfl, fun rv v F' H' e _ _ r => by
    subst e
    exact (show Rep K F' v (.bl true) from r).bl_inv, fun x F' H' cls dd z => z.elim⟩
theorem no_exc {p : Program} {w : World} {H : Hp} {s : Shared} {e : Value} {s' : Shared} (h : L2.CX p w [] H s (fun _ _ _ => False) e s') : False := by
  obtain ⟨_, _, _, _, _, _, _, _, _, _, _, _, z⟩ := h
  exact z
end G

/-! raise X('..'), try .. except X: -/
namespace G
open PySem PySem.Spec PyProof.Rows L2
/-- an own exception class, a child of ValueError, without own __init__ -/
structure ClsAt (K : PySem.W.Frag) (mg : Str → Option Value) (x : Str) (C : Addr) : Prop where
  e : PySem.W.excIn K C [.type "ValueError", .type "Exception", .type "BaseException", .type "object"] "ValueError.__new__" = true
  g : mg x = some (.ref C)
  k : PySem.W.keepIn K (.ref C) = true
  b : PySem.W.subIn K (.ref C) (.type "BaseException") = some true
  t : PySem.W.typeIn K (.ref C) = some (.type "type")
  i : PySem.W.isClsIn K C = true
theorem cls_mk {K : PySem.W.Frag} {h : Heap} {mg : Str → Option Value} {x : Str} {C : Addr} (X : K.In h) (G : h.Ns mainGlobals mg) (a : PySem.W.nsIn K mainGlobals x = some (some (.ref C)))
    (e : PySem.W.excIn K C [.type "ValueError", .type "Exception", .type "BaseException", .type "object"] "ValueError.__new__" = true) (k : PySem.W.keepIn K (.ref C) = true) (b : PySem.W.subIn K (.ref C) (.type "BaseException") = some true) (t : PySem.W.typeIn K (.ref C) = some (.type "type")) (i : PySem.W.isClsIn K C = true) : ClsAt K mg x C :=
  ⟨e, PySem.W.mg_of X G a, k, b, t, i⟩
abbrev ClsIn {K : PySem.W.Frag} {h : Heap} (_ : K.In h) (mg : Str → Option Value) (x : Str) (C : Addr) : Prop := ClsAt K mg x C
abbrev SubIn {K : PySem.W.Frag} {h : Heap} (_ : K.In h) (S C : Addr) (b : Bool) : Prop := PySem.W.subIn K (.ref S) (.ref C) = some b
theorem sub_mk {K : PySem.W.Frag} {h : Heap} {S C : Addr} {b : Bool} (X : K.In h) (q : PySem.W.subIn K (.ref S) (.ref C) = some b) : SubIn X S C b := q
/-- which of our exceptions a clause names -/
theorem exm_at {K : PySem.W.Frag} {mg : Str → Option Value} {x y : Str} {S C : Addr} {b : Bool} (h : ClsAt K mg x S) (h' : ClsAt K mg y C) (q : PySem.W.subIn K (.ref S) (.ref C) = some b) : PySem.W.exmOne K (.ref S) (.ref C) = some b := by
  have h1 : (PySem.W.subIn K (.ref C) (.type "BaseException") == some true) = true := by rw [h'.b]; rfl
  have h2 : (PySem.W.clsIn K C).isSome = true := h'.i
  unfold PySem.W.exmOne
  rw [if_pos h1]
  show (if ((PySem.W.clsIn K C).isSome && PySem.W.typeIn K (.ref C) == some (.type "type")) = true then PySem.W.subIn K (.ref S) (.ref C) else none) = some b
  rw [if_pos (by rw [h2, h'.t]; rfl)]
  exact q
/-- a clause that names one class, that is raised -/
def exPl (c : Addr) : Ex → Option Bool
  | .pl d => if d = c then some true else none
  | _ => none
theorem hm_one {K : PySem.W.Frag} {C : Addr} (h : PySem.W.exmOne K (.ref C) (.ref C) = some true) : ∀ y b, exPl C y = some b → ∀ H cls dd, ExR H y cls dd → PySem.W.exmOne K cls (.ref C) = some b := by
  intro y b e H cls dd r
  cases r with
  | pl c =>
    have e : (if c = C then some true else none) = some b := e
    by_cases z : c = C
    · rw [if_pos z] at e
      cases e
      rw [z]
      exact h
    · rw [if_neg z] at e
      cases e
  | fd _ => cases e
def exGo (o : Option Bool) (A B : Prop) : Prop := match o with
  | some true => A
  | some false => B
  | none => False
theorem exGo_self {c : Addr} {A B : Prop} (h : A) : exGo (exPl c (.pl c)) A B := by
  show exGo (if c = c then some true else none) A B
  rw [if_pos rfl]
  exact h
section
variable {X : Cx} {W : WX} {x m : Str} {j : Nat} {p p2 pos pos' np : Pos} {C : Addr}
def mRaise (C : Addr) (PD : PEnds) (ρ : List S) : Prop := PD.ex (.pl C) ρ
theorem gs_raise (T : ClsAt X.K X.mg x C) (hc : X.calm = true) (tk : Takes X W) (hg : Gl X x := by rfl) (hdb : (x == ("__debug__" : Str)) = false := by decide) :
    GS X W (.Raise (some (.Call (.Name x p) [.Constant (.str m) j p2] [] pos)) none pos') (mRaise C) :=
  ⟨ps_imp (ps_raise hc tk (pmk_own PySem.F.excBase_ValueError T.e T.g T.k (raises_own T.b T.t) hg hdb)) fun D σ H h => by
  obtain ⟨F, A, ρ, PD, r, h, q⟩ := h
  exact q.ex _ _ _ _ _ _ _ _ h Stp.refl r (.pl C)⟩
/-- what a clause says of an exception: ours, not ours -/
def mTry (f : Ex → Option Bool) (mb ms : MS) (PD : PEnds) (ρ : List S) : Prop := mb { PD with ex := fun x ρ' => exGo (f x) (Nxt ms PD ρ') (PD.ex x ρ') } ρ
theorem gs_try {body suite : List Stmt} {b₀ : Stmt} {mb ms : MS} {f : Ex → Option Bool} {c : Value} (hs : X.stack = X.env :: X.outer) (hf : X.env.frame = some X.env.locals) (hc : Names X x c) (tk : Takes X W)
    (hm : ∀ y b, f y = some b → ∀ H cls dd, ExR H y cls dd → PySem.W.exmOne X.K cls c = some b)
    (hb : ∀ (W' : WX) (pn : List (Addr × Obj)) (xe : Value → Shared → Prop), Takes (X.tr pn xe) W' → PassesOwn (model X.prog X.w) X.A X.env xe → GSs (X.tr pn xe) W' body mb)
    (hsu : ∀ (a : Addr) (pn : List (Addr × Obj)), GSs (X.suite a pn) W (b₀ :: suite) ms) :
    GS X W (.Try body [.ExceptHandler (some (.Name x np)) none (b₀ :: suite) pos'] [] [] pos) (mTry f mb ms) :=
  ⟨ps_imp (ps_try_only (tb := fun W' => liftS X.K W' mb) (ts := fun _ _ _ => liftS X.K W ms) hs hf hc tk (fun W' pn xe t1 p1 => (hb W' pn xe t1 p1).pss) (fun a oe cls d pn _ _ => (hsu a _).pss)) fun D σ H h => by
  obtain ⟨F, A, ρ, PD, r, h, q⟩ := h
  refine ⟨F, A, ρ, _, r, h, ⟨q.nx, q.rt, q.bk, q.ct, fun y ρ' σ' F' H' A' cls dd h1 s1 r1 e1 => ?_⟩⟩
  have h1 : exGo (f y) (Nxt ms PD ρ') (PD.ex y ρ') := h1
  cases ef : f y with
  | none => rw [ef] at h1; exact h1.elim
  | some b =>
    rw [ef] at h1
    refine ⟨b, hm y b ef _ _ _ e1, fun z => ?_, fun z => ?_⟩
    · subst z
      intro a _
      exact ⟨F', A', ρ', PD, r1, h1.go, q.step s1⟩
    · subst z
      exact q.ex _ _ _ _ _ _ _ _ h1 s1 r1 e1⟩
/-- four names at once -/
theorem gg_tup4 {i j l n : Nat} {e1 e2 e3 e4 : Expr} {k : Nat} (hc : X.calm = true) (h1 : GG X [i] e1 (gN i)) (h2 : GG X [j] e2 (gN j)) (h3 : GG X [l] e3 (gN l)) (h4 : GG X [n] e4 (gN n)) (hn : (assignEach [e1, e2, e3, e4] X.env).length = 4 := by rfl) (hst : (assignEach [e1, e2, e3, e4] X.env).findIdx? (·.1) = none := by rfl)
    (hs : (assignEach [e1, e2, e3, e4] X.env).map (·.2) = assign e1 X.env :: (assignEach [e2, e3, e4] X.env).map (·.2) := by rfl) (hs2 : (assignEach [e2, e3, e4] X.env).map (·.2) = assign e2 X.env :: (assignEach [e3, e4] X.env).map (·.2) := by rfl)
    (hs3 : (assignEach [e3, e4] X.env).map (·.2) = assign e3 X.env :: (assignEach [e4] X.env).map (·.2) := by rfl) (hs4 : (assignEach [e4] X.env).map (·.2) = assign e4 X.env :: (assignEach [] X.env).map (·.2) := by rfl) :
    GG X [i, j, l, n] (.Tuple [e1, e2, e3, e4] k pos) (gT (gCs (gN i) (gCs (gN j) (gCs (gN l) (gCs (gN n) gNl))))) :=
  gg_tup hc (ggs_cons h1 (ggs_cons h2 (ggs_cons h3 (ggs_cons h4 ggs_nil hs4) hs3) hs2) hs) rfl (gCs1_len (n := 3) (gCs1_len (n := 2) (gCs1_len (n := 1) (gCs1_len (n := 0) fun _ _ _ h => gNl_len h)))) hn hst
end
end G

/-! an exception with a field: raised, and caught by `except X as e: y = e.f` -/
namespace G
open PySem PySem.Spec PyProof.Rows L2
theorem RS.setU {K : PySem.W.Frag} {F H : Hp} {A : List Addr} {ρ : List S} {σ : L2.St} (r : RS K F H A ρ σ) (x : Option V) : ∀ i : Nat, ∃ A', (∀ p, p ∈ A' → p ∈ A) ∧ RS K F H A' (ρ.set i .un) (σ.set i x) := by
  induction r with
  | nil => intro i; exact ⟨[], fun _ h => h, by simpa using RS.nil⟩
  | un r0 ih => intro i; cases i with
    | zero => exact ⟨_, fun _ h => h, .un r0⟩
    | succ i => obtain ⟨A', s, r'⟩ := ih i; exact ⟨A', s, .un r'⟩
  | fz q0 r0 ih => intro i; cases i with
    | zero => exact ⟨_, fun _ h => h, .un r0⟩
    | succ i => obtain ⟨A', s, r'⟩ := ih i; exact ⟨A', s, .fz q0 r'⟩
  | ow e c n na t r0 ih => intro i; cases i with
    | zero => exact ⟨_, fun _ h => List.mem_cons_of_mem _ h, .un r0⟩
    | succ i =>
      obtain ⟨A', s, r'⟩ := ih i
      refine ⟨_ :: A', fun p h => ?_, .ow e c n (fun z => na (s _ z)) t r'⟩
      rcases List.mem_cons.mp h with z | z
      · rw [z]; exact List.mem_cons_self
      · exact List.mem_cons_of_mem _ (s p z)
theorem R.setU {K : PySem.W.Frag} {F H : Hp} {A : List Addr} {ρ : List S} {σ : L2.St} (r : R K F A ρ σ H) (x : Option V) (i : Nat) : ∃ A', Stp F H A F H A' ∧ R K F A' (ρ.set i .un) (σ.set i x) H := by
  obtain ⟨A', s, r'⟩ := r.rs.setU x i
  exact ⟨A', Stp.less s, r.same, r'⟩
theorem R.setI {K : PySem.W.Frag} {F H : Hp} {A : List Addr} {ρ : List S} {σ : L2.St} (r : R K F A ρ σ H) (j : Int) (i : Nat) : ∃ A', Stp F H A F H A' ∧ R K F A' (ρ.set i (.fz (.int j))) (σ.set i (some (.int j))) H := by
  obtain ⟨A', s, r'⟩ := r.rs.setF (.int j) i
  exact ⟨A', Stp.less s, r.same, r'⟩
section
variable {X : Cx} {W : WX} {x n y f : Str} {np p2 p3 ap pos pos' pos2 : Pos} {C : Addr}
/-- only exceptions of this one class, with this one field, a number -/
def mTryF (C : Addr) (f : Str) (i k : Nat) (mb : MS) (PD : PEnds) (ρ : List S) : Prop := mb { PD with ex := fun e ρ' => match e with
  | .fd c g (.int j) => c = C ∧ g = f ∧ i < ρ'.length ∧ PD.nx ((ρ'.set i .un).set k (.fz (.int j)))
  | _ => False } ρ
theorem gs_tryF {body : List Stmt} {mb : MS} {i k : Nat} (hik : i ≠ k) (hs : X.stack = X.env :: X.outer) (hf : X.env.frame = some X.env.locals) (hN : X.N.Nodup) (hi : X.N[i]? = some n) (hk : X.N[k]? = some y) (hln : X.env.kindOf n = some .local) (hc : Names X x (.ref C)) (tk : Takes X W)
    (hm : PySem.W.exmOne X.K (.ref C) (.ref C) = some true) (T : XfC X.K C) (hno : PySem.W.findIn X.K (.ref C) f = some none)
    (hv : Vis X.env.scope n := by first | exact Or.inl rfl | exact Or.inr (Or.inl rfl) | exact Or.inr (Or.inr rfl)) (hd : (n == ("__debug__" : Str)) = false := by decide) (hcd : (n == ("__classdict__" : Str)) = false := by decide)
    (hl : Loc X.env.scope y := by first | exact Or.inl rfl | exact Or.inr rfl) (hsw : swapsWith (.Attribute (.Name n p3) f ap) (some (.Name y p2)) pos2.line X.env = pure false := by rfl)
    (hfn : X.fn y = true ∨ X.env.scope.names.lookup y = some .local := by first | exact .inl rfl | exact .inr rfl) (hba : attributeBase (.Name n p3) f X.env (eval (.Name n p3) X.env) = eval (.Name n p3) X.env := by rfl)
    (hb : ∀ (W' : WX) (pn : List (Addr × Obj)) (xe : Value → Shared → Prop), Takes (X.tr pn xe) W' → PassesOwn (model X.prog X.w) X.A X.env xe → GSs (X.tr pn xe) W' body mb) :
    GS X W (.Try body [.ExceptHandler (some (.Name x np)) (some n) [.Assign [.Name y p2] (.Attribute (.Name n p3) f ap) pos2] pos'] [] [] pos) (mTryF C f i k mb) :=
  ⟨ps_imp (ps_try_as (tb := fun W' => liftS X.K W' mb) (ts := fun a cls d => tAsg (tXf a cls d C f (tVar i)) (gName k)) hs hf hN hi hln hc tk (fun W' pn xe t1 p1 => (hb W' pn xe t1 p1).pss)
    (fun a oe cls d pn hz hfl => pss_one (ps_set (X := X.suite a ((a, oe) :: pn)) hN hk hl (pe_xf T hno hz hfl (pe_var (X := X.suite a ((a, oe) :: pn)) hi hv hd hcd) hba) hsw hfn))) fun D σ H h => by
  obtain ⟨F, A, ρ, PD, r, h, q⟩ := h
  refine ⟨F, A, ρ, _, r, h, ⟨q.nx, q.rt, q.bk, q.ct, fun e ρ' σ' F' H' A' cls dd h1 s1 r1 e1 => ?_⟩⟩
  cases e1 with
  | pl c => exact h1.elim
  | @fd c g v d ed =>
    cases v with
    | int j =>
      obtain ⟨rfl, rfl, hlen, h1⟩ := h1
      refine ⟨true, hm, fun _ a _ => ?_, fun z => by cases z⟩
      have hlen : i < σ'.length := by rw [← r1.rs.length]; exact hlen
      obtain ⟨A2, s2, r2⟩ := r1.setU (some (.ref a)) i
      obtain ⟨A3, s3, r3⟩ := r2.setI j k
      obtain ⟨A4, s4, r4⟩ := r3.setU none i
      have ec : (((ρ'.set i .un).set k (.fz (.int j))).set i .un) = (ρ'.set i .un).set k (.fz (.int j)) := by
        rw [List.set_comm _ _ (Ne.symm hik), List.set_set]
      rw [ec] at r4
      refine ⟨.ref a, ?_, rfl, rfl, d, _, .int j, rfl, ed, by simp, ?_⟩
      · rw [List.getElem?_set_self hlen]
      · exact q.nx _ _ _ _ _ h1 (((s1.trans s2).trans s3).trans s4) r4
    | _ => exact h1.elim⟩
/-- R.__init__(self, ..), R an own class that has ValueError's -/
theorem pe_oinit {R : Addr} {e : Expr} {es : List Expr} {ta : TA} {p1 p2 pos : Pos} {pl : Sem Bool} (hg : Gl X x) (hm : X.mg x = some (.ref R)) (hga : PySem.W.specialIn X.K (.ref R) "__getattribute__" = some (some (.builtin "type.__getattribute__")))
    (hr : PySem.W.readsIn X.K R (.type "type") = true) (vV : PySem.W.findCls X.K (.ref R) (.type "type") "__init__" = some (.val (.builtin "ValueError.__init__"))) (ha : PA X (e :: es) ta) (hdb : (x == ("__debug__" : Str)) = false := by decide)
    (hc : eval (.Call (.Attribute (.Name x p1) "__init__" p2) (e :: es) [] pos) X.env = (do
      let ov ← eval (.Name x p1) X.env
      standAt p2.atName
      let (f, first) ← holding [ov] (getMethod ov "__init__" pl)
      callWith pos f first (backTo pos (starEach (e :: es) X.env)) (backToKw pos (keywordEach [] X.env))) := by rfl)
    (he : starEach (e :: es) X.env = (false, eval e X.env) :: starEach es X.env := by rfl) (hpl : (backTo pos (starEach es X.env)).any (·.1) = false := by rfl) :
    PE X (.Call (.Attribute (.Name x p1) "__init__" p2) (e :: es) [] pos) (tVeI X.K ta) := by
  refine ⟨fun pins s σ H Q I h => ?_⟩
  refine PySem.W.methodCall_KW (ld_glob I hg hm ?_ hdb) hc
  refine PySem.W.method_cls I.kIn hga (PySem.W.cls_value I.kIn hr vV (by decide +kernel) ?_)
  show wpAny _ _ (callWith pos (Value.builtin "ValueError.__init__") [] (backTo pos (starEach (e :: es) X.env)) []) _ _ _
  refine PyProof.Rows.callWith_method1 (thn (ha.run pos pins _ σ H _ (I.tok _) h) fun us s1 ⟨vs, H1, I1, r1, a, C, ws, ev, hl, T, ea, q⟩ => ?_) he hpl
  subst ev
  cases r1 with
  | @cons _ u0 _ ur ra rw' =>
    obtain rfl : u0 = Value.ref a := ra
    have hlen : ur.length ≤ sizeLine := by
      rw [← Paired.length rw', sizeLine_eq]
      omega
    exact oinit_ok T I1 ea hlen fun s' J => ⟨.non, H1, J, rfl, q⟩
/-- what an own __init__ of one field promises -/
def spInit (C : Addr) (f : Str) : Sp := fun vs H Q _ => ∃ (a : Addr) (v : V), vs = [.ref a, v] ∧ H a = some (exo a C none) ∧ ∀ dx, H dx = none → dx ≠ a → Q .non (upd (upd H dx (exd dx [(f, v)])) a (exo a C (some dx)))
theorem dV_inv {K : PySem.W.Frag} {F : Hp} {v v0 : V} {d : D} (r : Rep K F v d) (h : dV d = some v0) : v = v0 := by
  cases r <;> first | (exact Option.some.inj h) | (cases h)
def mRaiseF (C : Addr) (f : Str) (ma : ME) (PD : PEnds) (ρ : List S) : Prop := ma ρ (fun d ρ1 => match dV d with
  | some v => PD.ex (.fd C f v) ρ1
  | none => False) PD.ex
theorem gs_raiseF {e : Expr} {ma : ME} {fI : Addr} {fd : FuncData} {ps : List Str} {k : Nat} (T : OexC X.K C) (iC : PySem.W.findIn X.K (.ref C) "__init__" = some (some (.ref fI))) (tI : PySem.W.typeIn X.K (.ref fI) = some (.type "function"))
    (F1 : FnOk X.prog X.w X.K X.mg X.base CX0 k fI fd ps (spInit C f)) (hr : Room (k + 1) X.A) (hb : Binds X.K fd ps []) (hm : X.mg x = some (.ref C)) (hc : X.calm = true) (tk : Takes X W) (he : GE X W e ma) (hg : Gl X x := by rfl) (hdb : (x == ("__debug__" : Str)) = false := by decide)
    (hs : starEach [e] X.env = (false, eval e X.env) :: starEach [] X.env := by rfl) (hpl : (backTo pos (starEach [] X.env)).any (·.1) = false := by rfl) :
    GS X W (.Raise (some (.Call (.Name x p2) [e] [] pos)) none pos') (mRaiseF C f ma) :=
  ⟨ps_imp (ps_raise hc tk (pmk_oex T iC tI F1 hr hb .nil pass0 hg hm (pa_cons he.pe pa_nil hs) hdb hs hpl)) fun D σ H h => by
  obtain ⟨F, A, ρ, PD, r, h, q⟩ := h
  refine ⟨F, A, ρ, _, PD.ex, r, h, fun d ρ' v F' H' A' h1 s1 r1 q1 => ?_, q.xc σ⟩
  have h1 : (match dV d with | some v => PD.ex (.fd C f v) ρ' | none => False) := h1
  cases ed : dV d with
  | none => rw [ed] at h1; exact h1.elim
  | some v0 =>
    rw [ed] at h1
    obtain rfl := dV_inv q1 ed
    refine ⟨by show 1 ≤ 1000; decide, fun a ha => ⟨a, v, rfl, upd_same, fun dx hdx hne => ⟨rfl, dx, [(f, v)], ?_, ?_, ?_, ?_⟩⟩⟩
    · exact upd_same
    · rw [upd_ne hne, upd_same]
    · rwa [upd_ne hne] at hdx
    · have hdx' : H' dx = none := by rwa [upd_ne hne] at hdx
      have eH : upd (del (upd (upd (upd H' a (exo a C none)) dx (exd dx [(f, v)])) a (exo a C (some dx))) a) dx (.xd [(f, v)]) = upd H' dx (.xd [(f, v)]) := by
        funext b
        by_cases h1 : b = dx
        · rw [h1, upd_same, upd_same]
        · rw [upd_ne h1, upd_ne h1]
          by_cases h2 : b = a
          · rw [h2, del_same, ha]
          · rw [del_ne h2, upd_ne h2, upd_ne h1, upd_ne h2]
      rw [eH]
      have n := New.mk0 (F := F') (.xd [(f, v)]) r1.same hdx'
      exact q.ex _ _ _ _ _ _ _ _ h1 (s1.trans n.stp) (r1.new n) (.fd upd_same)⟩
end
end G

/-! isinstance(e, T), T a built-in type -/
namespace G
open PySem PySem.Spec PyProof.Rows L2
def tyN : D → Option String
  | .non => some "NoneType" | .bl _ => some "bool" | .int _ => some "int" | .str _ => some "str" | .lst _ => some "list" | .tup _ => some "tuple" | .scr _ => none
theorem Rep.ty {K : PySem.W.Frag} {F H : Hp} {v : V} {d : D} {t : String} (s : Same F H) (r : Rep K F v d) (h : tyN d = some t) : TyX K H v (.type t) := by
  cases r with
  | non => cases h; exact .base .non
  | bl b => cases h; exact .base (.bl b)
  | int i => cases h; exact .base (.int i)
  | str x => cases h; exact .base (.str x)
  | lst e _ => cases h; exact .base (.lst (s _ _ e))
  | tup e _ => cases h; exact .base (.tup (s _ _ e))
  | scr _ => cases h
section
variable {X : Cx} {W : WX} {e : Expr} {x : Str} {p pT pos : Pos} {ma : ME} {T : String}
def mIsi (T : String) (ma : ME) (ρ : List S) (P : D → List S → Prop) (PX : XP) : Prop := ma ρ (fun d ρ1 => ∃ t b, tyN d = some t ∧ kitB t T = some b ∧ P (.bl b) ρ1) PX
theorem ge_isi (hi : X.mg "isinstance" = none) (hm : X.mg x = none) (he : GE X W e ma) (hv : bootBuiltins x = some (.type T) := by decide +kernel) (hg : Gl X "isinstance" := by rfl) (hgx : Gl X x := by rfl) (hn : x ≠ "__name__" := by decide) (hdb : (x == ("__debug__" : Str)) = false := by decide)
    (h1 : starEach [e, .Name x pT] X.env = (false, eval e X.env) :: starEach [.Name x pT] X.env := by rfl) (h2 : starEach [.Name x pT] X.env = (false, eval (.Name x pT) X.env) :: starEach [] X.env := by rfl) (hpl : (backTo pos (starEach [.Name x pT] X.env)).any (·.1) = false := by rfl) :
    GE X W (.Call (.Name "isinstance" p) [e, .Name x pT] [] pos) (mIsi T ma) :=
  ⟨pe_imp (pe_callB call_isi hg hi (by decide +kernel) (pa_cons he.pe (pa_cons (pe_bltn (v := .ty T) hgx hm hv rfl hn hdb) pa_nil h2) h1) (by decide) (by decide) h1 hpl) fun σ H Q h => by
  obtain ⟨F, A, ρ, P, PX, r0, hm', hP, hX⟩ := h
  refine ⟨F, A, ρ, _, PX, r0, hm', fun d ρ1 v F1 H1 A1 k1 s1 r1 q1 => ?_, hX⟩
  obtain ⟨t, b, e1, e2, k1⟩ := k1
  exact ⟨v, .ty T, .type t, .type T, b, rfl, .ty T, q1.ty r1.same e1, kit_ty e2, hP _ _ _ _ _ _ k1 s1 r1 (.bl b)⟩⟩
/-- isinstance(e, (T, U)) -/
def mIsi2 (T U : String) (ma : ME) (ρ : List S) (P : D → List S → Prop) (PX : XP) : Prop := ma ρ (fun d ρ1 => ∃ t b c, tyN d = some t ∧ kitB t T = some b ∧ kitB t U = some c ∧ P (.bl (b || c)) ρ1) PX
theorem ge_isi2 {y : Str} {U : String} {k : Nat} {pU tpos : Pos} (hi : X.mg "isinstance" = none) (hm : X.mg x = none) (hm2 : X.mg y = none) (he : GE X W e ma) (hv : bootBuiltins x = some (.type T) := by decide +kernel) (hv2 : bootBuiltins y = some (.type U) := by decide +kernel) (hg : Gl X "isinstance" := by rfl) (hgx : Gl X x := by rfl) (hgy : Gl X y := by rfl)
    (hn : x ≠ "__name__" := by decide) (hdb : (x == ("__debug__" : Str)) = false := by decide) (hn2 : y ≠ "__name__" := by decide) (hdb2 : (y == ("__debug__" : Str)) = false := by decide)
    (h1 : starEach [e, .Tuple [.Name x pT, .Name y pU] k tpos] X.env = (false, eval e X.env) :: starEach [.Tuple [.Name x pT, .Name y pU] k tpos] X.env := by rfl) (h2 : starEach [.Tuple [.Name x pT, .Name y pU] k tpos] X.env = (false, eval (.Tuple [.Name x pT, .Name y pU] k tpos) X.env) :: starEach [] X.env := by rfl)
    (h3 : starEach [.Name x pT, .Name y pU] X.env = (false, eval (.Name x pT) X.env) :: starEach [.Name y pU] X.env := by rfl) (h4 : starEach [.Name y pU] X.env = (false, eval (.Name y pU) X.env) :: starEach [] X.env := by rfl)
    (hpl : (backTo pos (starEach [.Tuple [.Name x pT, .Name y pU] k tpos] X.env)).any (·.1) = false := by rfl) :
    GE X W (.Call (.Name "isinstance" p) [e, .Tuple [.Name x pT, .Name y pU] k tpos] [] pos) (mIsi2 T U ma) :=
  ⟨pe_imp (pe_callB call_isiT hg hi (by decide +kernel) (pa_cons he.pe (pa_cons (pe_tup (pa_cons (pe_bltn (v := .ty T) hgx hm hv rfl hn hdb) (pa_cons (pe_bltn (v := .ty U) hgy hm2 hv2 rfl hn2 hdb2) pa_nil h4) h3)) pa_nil h2) h1) (by decide) (by decide) h1 hpl) fun σ H Q h => by
  obtain ⟨F, A, ρ, P, PX, r0, hm', hP, hX⟩ := h
  refine ⟨F, A, ρ, _, PX, r0, hm', fun d ρ1 v F1 H1 A1 k1 s1 r1 q1 => ?_, hX⟩
  obtain ⟨t, b, c, e1, e2, e3, k1⟩ := k1
  refine ⟨by show 2 ≤ sizeLine; rw [sizeLine_eq]; omega, fun tp htp => ?_⟩
  have n := New.mk1 (.tup [.ty T, .ty U]) r1.same htp
  have ka : PySem.W.kitAny X.K (.type t) [.type T, .type U] = some (b || c) := by
    refine kitAny_cons (kit_ty e2) (fun z => ?_) (fun z => by rw [z]; rfl)
    refine kitAny_cons (kit_ty e3) (fun z2 => by rw [z, z2]; rfl) (fun z2 => by rw [z, z2]; rfl)
  exact ⟨v, tp, [.ty T, .ty U], .type t, [.type T, .type U], b || c, rfl, upd_same, .cons (.ty T) (.cons (.ty U) .nil), (q1.mono n.ext).ty n.sm e1, ka, hP _ _ _ _ _ _ k1 (s1.trans n.stp) (r1.new n) (.bl _)⟩⟩
end
end G

/-! enumerate(tuple) -/
namespace G
open PySem PySem.Spec PyProof.Rows L2
theorem meets_enumerate_newB1 {v : Value} {o : Obj} {H : Heap → Prop} (B : Begins v o H) :
    Meets (Builtin.«enumerate.__new__» ⟨[.type "enumerate", v], []⟩) (fun _ R s => H s.heap ∧
      R (.ok (.ret (.ref (s.heap.push o).objs.size))) { s with heap := (s.heap.push o).push { cls := .type "enumerate", data := .fields #[.none, .bool false, .ref s.heap.objs.size, rawInt 0, .none, .none] } }) :=
  .of_wp fun prog w A R s h => by
    obtain ⟨hp, g, d, tk, os⟩ := s; obtain ⟨h1, h⟩ := h
    have hsub := sub_enumerate
    have q1 : ∀ {A' : Around} {E : Value → Shared → Prop} {Q : Value → Shared → Prop}, Q (.ref hp.objs.size) ⟨hp.push o, g, d, tk, os⟩ → wpAny (model prog w) A' (pyIter v) Q E ⟨hp, g, d, tk, os⟩ :=
      fun q => B.iter prog w _ _ ⟨hp, g, d, tk, os⟩ _ h1 q
    wp_walk using q1
    refine wpAny_stack_any fun st => wpAny_pure ?_
    split
    · rename_i c _ _ _ _ _
      cases (c == Value.type "enumerate")
      · wp_walk using q1
        exact ⟨_, rfl, h⟩
      · wp_walk using q1
        exact ⟨_, rfl, h⟩
    · wp_walk using q1
      exact ⟨_, rfl, h⟩
section
variable {prog : Program} {w : World} {A : Around} {E : Value → Shared → Prop} {s : Shared}
theorem enum_begins1 {v : Value} {o : Obj} {H : Heap → Prop} {Q : Value → Shared → Prop} (B : Begins v o H) (h1 : H s.heap)
    (h : ∀ h', IsEnum h' (s.heap.objs.size + 1) s.heap.objs.size 0 .none → h'.get? s.heap.objs.size = some o → h'.objs.size = s.heap.objs.size + 2 →
      (∀ b o, s.heap.get? b = some o → h'.get? b = some o) → Q (.ref (s.heap.objs.size + 1)) { s with heap := h' }) :
    wpAny (model prog w) A (call (.type "enumerate") [v]) Q E s := by
  refine callType_new F.called_enumerate (by decide) (F.typeCall_enumerate_1 _) (F.newCall_enumerate_1 _) (fun obj => F.args_object_init_2 obj _) F.entry_enumerate_new
    (meets_enumerate_newB1 B) ⟨h1, ?_⟩
  have hz : (s.heap.push o).objs.size = s.heap.objs.size + 1 := Heap.size_push ..
  show _ ∧ _
  rw [hz]
  have he : IsEnum ((s.heap.push o).push { cls := .type "enumerate", data := .fields #[.none, .bool false, .ref s.heap.objs.size, rawInt 0, .none, .none] }) (s.heap.objs.size + 1) s.heap.objs.size 0 .none := by
    have := Heap.get?_push_size (s.heap.push o) (o := { cls := .type "enumerate", data := .fields #[.none, .bool false, .ref s.heap.objs.size, rawInt 0, .none, .none] }) rfl
    rw [hz] at this; exact this
  refine ⟨⟨_, he, rfl⟩, h _ he (Heap.get?_push_of_some _ (Heap.get?_push_size _ B.free)) (by rw [Heap.size_push, hz]) fun b o x => Heap.get?_push_of_some _ (Heap.get?_push_of_some _ x)⟩
end
def Itet (K : PySem.W.Frag) (a : Addr) : It :=
  ⟨fun i H => ∃ (xs : List V) (x : V), SqT K H a xs ∧ xs[i]? = some x, fun i H v H' => ∃ T x, v = .ref T ∧ H T = none ∧ H' = upd H T (.tup [.int (i : Nat), x]) ∧ ∀ xs, SqT K H a xs → xs[i]? = some x, fun i H => ∃ xs : List V, SqT K H a xs ∧ xs.length ≤ i⟩
theorem turn_enumT {P : Program} {w : World} {K : PySem.W.Frag} {elts : List Expr} {kk : Nat} {tpos : Pos} (a e it : Addr) :
    Turn P w K (.Tuple elts kk tpos) (Itet K a) [e, it] e (fun i h => (∃ old, IsEnum h e it ((i : Nat) : Int) old) ∧ h.IsTupleIter it a i ∧ e ≠ it) where
  mem := by simp
  obj := fun i h st b hb => by
    obtain ⟨⟨old, he⟩, ⟨o, ho, hc, hd⟩, _⟩ := st
    have e' : b = e ∨ b = it := by simpa using hb
    rcases e' with z | z
    · rw [z]; exact ⟨_, he, fun v q => nomatch q⟩
    · rw [z]; exact ⟨o, ho, fun v q => by rw [hd] at q; cases q⟩
  keep := fun i h h' st k => let ⟨⟨old, he⟩, hi, hne⟩ := st; ⟨⟨old, k e (by simp) _ he⟩, hi.at fun o q => k it (by simp) o q, hne⟩
  item := by
    intro X hP hw hK hc i pins s σ H E I hf st hg
    subst hP hw hK
    obtain ⟨⟨old, he⟩, hit, hne⟩ := st
    obtain ⟨xs, x, hq, hx⟩ := hg
    obtain ⟨its, rv, p, hz⟩ := I.tuple hq
    obtain ⟨u, hu, ru⟩ := rv.get hx
    have pT : s.heap.IsTuple a its.toArray := p
    have hai : a ≠ it := by
      intro z
      obtain ⟨o1, q1, c1, d1⟩ := hit
      obtain ⟨o2, q2, c2, _⟩ := pT
      rw [z, q1] at q2
      cases q2
      rw [c1] at c2
      exact absurd c2 (by decide)
    have hae : a ≠ e := by
      intro z
      obtain ⟨o2, q2, c2, _⟩ := pT
      have he2 : s.heap.get? e = some _ := he
      rw [z, he2] at q2
      cases q2
      exact absurd (show Value.type "enumerate" = Value.type "tuple" from c2) (by decide)
    have D : Draws X.prog X.w X.A.in1 it [it, a] its.toArray.size (fun i v => its.toArray[i]? = some v) (fun i h => h.IsTupleIter it a i ∧ h.IsTuple a its.toArray) := Draws.tuple (A := X.A.in1) (show X.A.handled = none from I.ok.hd hc) it a hai its.toArray
    have hel : e < s.heap.objs.size := Heap.lt_size he
    have hil : it < s.heap.objs.size := by obtain ⟨_, q, _⟩ := hit; exact Heap.lt_size q
    have hlt : i < its.toArray.size := by
      have := (List.getElem?_eq_some_iff.mp hu).1
      simpa using this
    refine wpAny_pyNext_enum_itemD D he ⟨hit, pT⟩ hlt hne (by simp; exact ⟨hne, fun z => hae z.symm⟩) fun u2 h' tk hu2 ho hit' hT hsz hk => ?_
    have eu : u2 = u := by
      have q : its[i]? = some u2 := by simpa using hu2
      exact Option.some.inj (q.symm.trans hu)
    subst eu
    refine ⟨_, rfl, wpAny_letOwnedTupleGo_enum (s := { s with heap := h', toks := tk + 1 }) ho fun h'' he' sb => ?_⟩
    have hT2 : h''.get? s.heap.objs.size = some { cls := .type "tuple", data := .seq #[.int i tk, u2] } := (sb.2 _ (Nat.ne_of_gt hel)).trans hT
    have new : ObjOk X.prog X.w (upd H s.heap.objs.size (.tup [.int (i : Nat), x])) h'' s.heap.objs.size (.tup [.int (i : Nat), x]) :=
      ⟨by show 2 ≤ sizeLine; decide, [.int i tk, u2], .cons ⟨_, rfl⟩ (.cons ru .nil), ⟨_, hT2, rfl, _, rfl⟩⟩
    have I1 : Inv X pins σ (upd H s.heap.objs.size (.tup [.int (i : Nat), x])) { s with heap := h'', toks := tk + 1 } :=
      I.turnedNew (ch := [e, it]) (fun b ob hb q => (sb.2 b (fun z => hb (by simp [z]))).trans (hk b ob (fun z => hb (by simp [z])) (fun z => hb (by simp [z])) q)) hf (Nat.le_refl _) new
    refine ⟨.ref s.heap.objs.size, _, I1, rfl, ⟨_, x, rfl, I.hok.fresh (Nat.le_refl _), rfl, fun ys hy => by rw [I.tuple_inj hy hq]; exact hx⟩, ⟨⟨u2, ?_⟩, hit'.1.at fun o q => (sb.2 it (Ne.symm hne)).trans q, hne⟩, fun b hb => ?_⟩
    · have e1 : ((i + 1 : Nat) : Int) = (i : Int) + 1 := by omega
      rw [e1]; exact he'
    · have hb' : b < s.heap.objs.size := by
        have e' : b = e ∨ b = it := by simpa using hb
        rcases e' with z | z
        · rw [z]; exact hel
        · rw [z]; exact hil
      rw [upd_ne (Nat.ne_of_lt hb')]
      exact (hf b hb).1
  done := by
    intro X hP hw hK hc i pins s σ H E I hf st hg
    subst hP hw hK
    obtain ⟨⟨old, he⟩, hit, hne⟩ := st
    obtain ⟨xs, hq, hx⟩ := hg
    obtain ⟨its, rv, p, hz⟩ := I.tuple hq
    obtain ⟨f0, f1, f2, f3, f4, f5⟩ := hf it (by simp)
    have pT : s.heap.IsTuple a its.toArray := p
    have hai : a ≠ it := by
      intro z
      obtain ⟨o1, q1, c1, d1⟩ := hit
      obtain ⟨o2, q2, c2, _⟩ := pT
      rw [z, q1] at q2
      cases q2
      rw [c1] at c2
      exact absurd c2 (by decide)
    have hl := rv.length
    have hh : X.A.in1.handled = none := I.ok.hd hc
    have D : Draws X.prog X.w X.A.in1 it [it, a] i (fun _ _ => True) (fun j h => j = i ∧ h.IsTupleIter it a i ∧ h.IsTuple a its.toArray) :=
      { live := fun _ _ st => let ⟨o, ho, _⟩ := st.2.1; ⟨o, ho⟩
        frame := fun _ _ _ st hk => ⟨st.1, st.2.1.at fun o e => hk it (by simp) o e, st.2.2.at fun o e => hk a (by simp) o e⟩
        item := fun j s Q E hi st hQ => absurd st.1 (Nat.ne_of_lt hi)
        done := fun s Q E st hE => wpAny_nextOf_tuple_end hh st.2.1 st.2.2 (by simp; omega) hE }
    exact wpAny_pyNext_enum_endD D he ⟨rfl, hit, pT⟩ fun h' eb => ⟨rfl, I.turned (t' := s.toks) (it := it) (fun b o hb q => eb b o hb q) f0 f1 f3 f4 f5⟩
  self := fun A i s Q E st h => let ⟨⟨_, he⟩, _⟩ := st; wpAny_pyIter_enum he h
def iEnumT (K : PySem.W.Frag) (ta : TA) : TI := fun σ H R => ta σ H fun vs H1 => ∃ a xs, vs = [.ref a] ∧ SqT K H1 a xs ∧ R (Itet K a) H1
theorem pi_enumT {X : Cx} {e : Expr} {ta : TA} {p pos tpos : Pos} {elts : List Expr} {kk : Nat} (hg : Gl X "enumerate") (hm : X.mg "enumerate" = none) (ha : PA X [e] ta) (hs : starEach [e] X.env = [(false, eval e X.env)] := by rfl) :
    PI X (.Tuple elts kk tpos) (.Call (.Name "enumerate" p) [e] [] pos) (iEnumT X.K ta) := by
  refine ⟨fun pins s σ H R I h => ?_⟩
  refine Call_ (ld_blt I hg hm boot_enumerate (PyProof.Rows.callWith_type1 (thn (ha.run pos pins s σ H _ I h) fun us s1 ⟨vs, H1, I1, r1, q1⟩ => ?_) hs rfl))
  obtain ⟨a, xs, ex, hq, q⟩ := q1
  subst ex
  cases r1 with
  | cons r rr =>
    cases rr
    cases r
    obtain ⟨its, rv, p', hz⟩ := I1.tuple hq
    refine enum_begins1 (begins_tuple a its.toArray) p' fun h' he hit hsz hk => wpAny_pyIter_enum he ?_
    have I2 : Inv X pins σ H1 { s1 with heap := h' } := I1.kept (t' := s1.toks) hk
    refine ⟨s1.heap.objs.size + 1, [s1.heap.objs.size + 1, s1.heap.objs.size], _, _, H1, rfl, I2, turn_enumT a (s1.heap.objs.size + 1) s1.heap.objs.size, ⟨⟨.none, he⟩, ⟨_, hit, rfl, rfl⟩, Nat.succ_ne_self _⟩, fun b hb => ?_, q⟩
    have e' : b = s1.heap.objs.size + 1 ∨ b = s1.heap.objs.size := by simpa using hb
    have hle : s1.heap.objs.size ≤ b := by
      rcases e' with z | z
      · rw [z]; exact Nat.le_add_right _ _
      · rw [z]; exact Nat.le_refl _
    exact I1.fpOk hle (I1.hok.fresh hle)
theorem isIt_enumT {K : PySem.W.Frag} {F : Hp} {a : Addr} {vs : List V} {ds : List D} (e : F a = some (.tup vs)) (r : Reps K F vs ds) : IsIt K F (Itet K a) (enumD ds) := by
  intro i F2 H s1 s2
  have hq : SqT K H a vs := .of (s2 _ _ (s1 _ _ e))
  have hl : (enumD ds).length = ds.length := by simp [enumD]
  refine ⟨fun h => ?_, fun h => ⟨vs, hq, by rw [r.length, ← hl]; exact h⟩⟩
  have h0 : i < ds.length := by rw [← hl]; exact h
  obtain ⟨v, h1, h2⟩ := r.get i (List.getElem?_eq_getElem h0)
  refine ⟨⟨vs, v, hq, h1⟩, fun x H' y => ?_⟩
  obtain ⟨T, x', rfl, hT, rfl, y⟩ := y
  have : x' = v := Option.some.inj ((y vs hq).symm.trans h1)
  subst this
  have n := New.mk1 (.tup [.int (i : Nat), x']) s2 hT
  refine ⟨_, n, ?_⟩
  have e : (enumD ds)[i] = D.tup [.int (i : Nat), ds[i]] := by simp [enumD, h0]
  rw [e]
  exact .tup upd_same (.cons (.int _) (.cons ((h2.mono s1).mono n.ext) .nil))
section
variable {X : Cx} {W : WX} {e a b : Expr} {es elts : List Expr} {x : Str} {p p2 pos tpos : Pos} {kk : Nat} {ma mb : ME} {mas : MA} {st : Stmt} {ms : MS}
def iEnT (m : MA) (ρ : List S) (P : List D → List S → Prop) (PX : XP) : Prop := m ρ (fun ds ρ1 => match ds with | [.tup ds] => P (enumD ds) ρ1 | _ => False) PX
theorem gi_enumT (hm : X.mg "enumerate" = none) (ha : GA X W [e] mas) (hg : Gl X "enumerate" := by rfl) (hs : starEach [e] X.env = [(false, eval e X.env)] := by rfl) : GI X W (.Tuple elts kk tpos) (.Call (.Name "enumerate" p) [e] [] pos) (iEnT mas) := ⟨⟨fun pins s σ H Q I h => by
  obtain ⟨F, A, ρ, P, PX, r, hm', hP, hX⟩ := h
  refine (pi_enumT hg hm (ha.pa) hs).run pins s σ H Q I ⟨F, A, ρ, _, PX, r, hm', fun ds ρ' vs F' H' A' h1 s1 r1 q1 => ?_, hX⟩
  split at h1
  · cases q1 with
    | cons q1 q2 =>
      cases q2
      obtain ⟨a, vs, rfl, e2, r2⟩ := q1.tup_inv
      exact ⟨a, vs, rfl, .of (r1.same _ _ e2), hP _ _ _ _ _ _ h1 s1 r1 (isIt_enumT e2 r2)⟩
  · exact h1.elim⟩⟩
end
end G

/-! an own exception class with an own __init__ of one field, over RunError: what stands in the written heap -/
namespace G
open PySem PySem.Spec PyProof.Rows L2
structure OwnAt (K : PySem.W.Frag) (mg : Str → Option Value) (x qi fld : Str) (C : Addr) (st : Stmt) : Prop where
  ex : ∃ fi fd br, Fun K "__init__" qi st fi fd ∧ OexC K C ∧ PySem.W.findIn K (.ref C) "__init__" = some (some (.ref fi)) ∧ PySem.W.typeIn K (.ref fi) = some (.type "function") ∧ mg x = some (.ref C) ∧ PySem.W.exmOne K (.ref C) (.ref C) = some true ∧ XfC K C ∧
    PySem.W.findIn K (.ref C) fld = some none ∧ mg "RunError" = some (.ref br) ∧ PySem.W.specialIn K (.ref br) "__getattribute__" = some (some (.builtin "type.__getattribute__")) ∧ PySem.W.readsIn K br (.type "type") = true ∧ PySem.W.findCls K (.ref br) (.type "type") "__init__" = some (.val (.builtin "ValueError.__init__"))
theorem exm_own {K : PySem.W.Frag} {S : Addr} (h1 : PySem.W.subIn K (.ref S) (.type "BaseException") = some true) (h2 : PySem.W.isClsIn K S = true) (h3 : PySem.W.typeIn K (.ref S) = some (.type "type")) (h4 : PySem.W.subIn K (.ref S) (.ref S) = some true) : PySem.W.exmOne K (.ref S) (.ref S) = some true := by
  have e1 : (PySem.W.subIn K (.ref S) (.type "BaseException") == some true) = true := by rw [h1]; rfl
  have h2' : (PySem.W.clsIn K S).isSome = true := h2
  unfold PySem.W.exmOne
  rw [if_pos e1]
  show (if ((PySem.W.clsIn K S).isSome && PySem.W.typeIn K (.ref S) == some (.type "type")) = true then PySem.W.subIn K (.ref S) (.ref S) else none) = some true
  rw [if_pos (by rw [h2', h3]; rfl)]
  exact h4
theorem own_mk {K : PySem.W.Frag} {h : Heap} {mg : Str → Option Value} {x qi fld nm q : Str} {C N fi br : Addr} {st : Stmt} {bs bm : List Value} {sn : List Str} {sub : List Value} {ab : Bool} {col : Option Bool} {dd : Option Addr} {m0 m1 m2 m3 m5 : Option Value}
    {oc : Value} {od an : Option Addr} {osl : Array (Option Value)} {kV doc pm cdv ct : Value} (X : K.In h) (G : h.Ns mainGlobals mg)
    (aC : PySem.W.nsIn K mainGlobals x = some (some (.ref C))) (xL : K.lookup C = some (excClassObj nm q C N bs bm true sn sub ab col dd m0 m1 m2 m3 m5 "ValueError.__new__")) (rv : PySem.HandSPX.refsVE bm = true)
    (sa : PySem.W.findIn K (.ref C) "__setattr__" = some (some (.builtin "object.__setattr__"))) (ga : PySem.W.findIn K (.ref C) "__getattribute__" = some (some (.builtin "BaseException.__getattribute__"))) (gg : PySem.W.findIn K (.ref C) "__getattr__" = some none) (nb : PySem.W.findIn K (.ref C) fld = some none)
    (a1 : PySem.W.findIn K (.ref C) "__init__" = some (some (.ref fi))) (t1 : PySem.W.typeIn K (.ref fi) = some (.type "function"))
    (l1 : K.lookup fi = some ⟨oc, od, .func (PySem.W.fnOf "__init__" qi (defArgs st) (defBody st) (defScope st) .none kV doc pm an cdv ct), osl⟩) (c1 : PySem.W.codeIn K cdv qi = true) (k1 : PySem.W.keepIn K (.ref fi) = true)
    (kC : PySem.W.keepIn K (.ref C) = true) (eC : PySem.W.subIn K (.ref C) (.type "BaseException") = some true) (tC : PySem.W.typeIn K (.ref C) = some (.type "type")) (hC : PySem.W.hasDictIn K C = true) (iC : PySem.W.isClsIn K C = true) (sC : PySem.W.subIn K (.ref C) (.ref C) = some true)
    (aR : PySem.W.nsIn K mainGlobals "RunError" = some (some (.ref br))) (sb : PySem.W.specialIn K (.ref br) "__getattribute__" = some (some (.builtin "type.__getattribute__"))) (rb : PySem.W.readsIn K br (.type "type") = true)
    (cb : PySem.W.findCls K (.ref br) (.type "type") "__init__" = some (.val (.builtin "ValueError.__init__"))) : OwnAt K mg x qi fld C st :=
  ⟨fi, _, br, fun_mk l1 c1 k1, ⟨⟨nm, q, N, bs, bm, sn, sub, ab, col, dd, m0, m1, m2, m3, m5, xL, rv⟩, sa, eC, tC, kC⟩, a1, t1, PySem.W.mg_of X G aC, exm_own eC iC tC sC, ⟨ga, gg, eC, hC⟩, nb, PySem.W.mg_of X G aR, sb, rb, cb⟩
abbrev OwnIn {K : PySem.W.Frag} {h : Heap} (_ : K.In h) (mg : Str → Option Value) (x qi fld : Str) (C : Addr) (st : Stmt) : Prop := OwnAt K mg x qi fld C st
end G

/-! a list that stays: its methods; count of a truth -/
namespace G
open PySem PySem.Spec PyProof.Rows L2
def eqB (k : Bool) (v : Value) : Bool := match v with
  | .bool n => n == k
  | _ => false
section
variable {X : Cx}
def rCntB (K : PySem.W.Frag) : V → List V → Hp → VK → Prop := fun x xs H Q => ∃ (p : Addr) (ns : List Bool) (k : Bool), x = .ref p ∧ xs = [.bl k] ∧ SqL K H p (ns.map V.bl) ∧ Q (.int (ns.count k : Nat)) H
theorem vals_bls : ∀ {us : List Value} {ns : List Bool}, Vals (ns.map V.bl) us → us = ns.map Value.bool
  | _, [], h => by cases h; rfl
  | _, n :: ns, h => by
    cases h with
    | cons r t =>
      have e : _ = Value.bool n := r
      rw [e, vals_bls t]; rfl
theorem cnt_bls (k : Bool) : ∀ ns : List Bool, (ns.map Value.bool).countP (eqB k) = ns.count k
  | [] => rfl
  | n :: ns => by
    rw [List.map_cons, List.countP_cons, List.count_cons, cnt_bls k ns]; rfl
theorem mt_lcountB : MtR X "list.count" (rCntB X.K) := by
  intro pins s σ H x xs v us Q I rx rxs h
  obtain ⟨p, ns, k, rfl, rfl, hs, q⟩ := h
  cases rx
  obtain ⟨u, rfl, ru⟩ := rxs.one
  have ru : u = Value.bool k := ru
  subst ru
  obtain ⟨its, rv, ⟨⟨cls, dd, data, sl⟩, n, ho, hc, hdn, hd⟩, hlen⟩ := I.list hs
  simp only at hc hd
  subst hc hd
  have hi := vals_bls rv
  subst hi
  refine call_meets PySem.F.slot_list_count ⟨_, ho, rfl⟩ PySem.F.entry_list_count (PySem.F.args_list_count_2 _ _)
    (SeqAt.list_countAt p (ns.map Value.bool).toArray n dd sl (.bool k) (eqB k)) ⟨ho, fun y hy => ?_, ?_⟩
  · have hy : y ∈ ns.map Value.bool := by simpa using hy
    obtain ⟨b, _, rfl⟩ := List.mem_map.mp hy
    exact SeqAt.EqAt.bool_bool b k
  · refine ⟨.int (ns.count k : Nat), H, I.tok _, ⟨s.toks, ?_⟩, q⟩
    show Value.int (((ns.map Value.bool).countP (eqB k) : Nat) : Int) s.toks = Value.int ((ns.count k : Nat) : Int) s.toks
    rw [cnt_bls]
end
def LstD (K : PySem.W.Frag) (r : V → List V → Hp → VK → Prop) (f : List D → D → (D → Prop) → Prop) : Prop :=
  ∀ (F H : Hp) (p : Addr) (vs : List V) (ds : List D) (v : V) (d : D) (P : D → Prop), Same F H → F p = some (.lst vs) → Reps K F vs ds → Rep K F v d → f ds d P → ∀ Q : VK, (∀ z w F' H', P z → New F H F' H' → Rep K F' w z → Q w H') → r (.ref p) [v] H Q
def mLm (f : List D → D → (D → Prop) → Prop) (mo ma : ME) (ρ : List S) (P : D → List S → Prop) (PX : XP) : Prop := mo ρ (fun d ρ1 => match d with
  | .lst ds => ma ρ1 (fun e ρ2 => f ds e fun y => P y ρ2) PX
  | _ => False) PX
section
variable {X : Cx} {W : WX} {e o : Expr} {pos apos : Pos} {mo ma : ME} {name : Str} {id : String} {r : V → List V → Hp → VK → Prop} {f : List D → D → (D → Prop) → Prop}
theorem ge_lm (slot : Slot "list" name id) (hty : typeOf (.builtin id) = pure (.type "method_descriptor")) (hmt : MtR X id r) (hf : LstD X.K r f) (ho : GE X W o mo) (ha : GE X W e ma)
    (hs : starEach [e] X.env = (false, eval e X.env) :: starEach [] X.env := by rfl) (hbase : attributeBase o name X.env (eval o X.env) = eval o X.env := by rfl)
    (hfew : ((backTo pos (starEach [e] X.env)).all (fun x => !x.1) && (backToKw pos (keywordEach [] X.env)).all (fun x => x.1.isSome)
      && decide (([e] : List Expr).length + ([] : List Keyword).length + (if ([] : List Keyword).isEmpty then 0 else 1) < 30)) = true := by rfl)
    (hline : (apos.endLine == pos.line) = true := by rfl) (hplain : (backTo pos (starEach [] X.env)).any (·.1) = false := by rfl) :
    GE X W (.Call (.Attribute o name apos) [e] [] pos) (mLm f mo ma) :=
  ⟨pe_imp (pe_bm PySem.F.plainAttrs_list slot hty hmt ho.pe (pa_cons ha.pe pa_nil hs) hbase hfew hline hs hplain) fun σ H Q h => by
  obtain ⟨F, A, ρ, P, PX, r0, hm, hP, hX⟩ := h
  refine ⟨F, A, ρ, _, PX, r0, hm, fun d ρ1 v F1 H1 A1 h1 s1 r1 q1 => ?_, hX⟩
  cases d with
  | lst ds =>
    obtain ⟨a, vs, rfl, e2, r2⟩ := q1.lst_inv
    refine ⟨tyL (r1.same _ _ e2), F1, A1, ρ1, _, PX, r1, h1, fun d2 ρ2 u F2 H2 A2 h2 s2 r3 q2 => ?_, hX.step s1⟩
    exact hf F2 H2 a vs ds u d2 _ r3.same (s2.ext _ _ e2) (r2.mono s2.ext) q2 h2 Q fun y w F3 H3 hy n w' => hP _ _ _ _ _ _ hy ((s1.trans s2).trans n.stp) (r3.new n) w'
  | _ => exact h1.elim⟩
end
/-- count of a truth -/
def fCnt (ds : List D) (d : D) (P : D → Prop) : Prop := match d with
  | .bl k => ∃ ns, blsOf ds = some ns ∧ P (.int (ns.count k : Nat))
  | _ => False
theorem ld_cnt {K : PySem.W.Frag} : LstD K (rCntB K) fCnt := by
  intro F H p vs ds v d P s e r rv h Q q
  unfold fCnt at h
  split at h
  · obtain ⟨ns, h1, h2⟩ := h
    have := r.blsOf h1
    subst this
    exact ⟨p, ns, _, rfl, by rw [rv.bl_inv], .of (s _ _ e), q _ _ F H h2 (New.refl s) (.int _)⟩
  · exact h.elim
section
variable {X : Cx} {W : WX} {x : Str} {pos : Pos}
/-- constants of the module -/
theorem ge_globIx {i : Int} (hm : ∃ t, X.mg x = some (.int i t)) (hg : Gl X x := by rfl) (hd : (x == ("__debug__" : Str)) = false := by decide) : GE X W (.Name x pos) (mC (.int i)) := by
  obtain ⟨t, h⟩ := hm
  exact ge_globI h hg hd
theorem ge_globSx {z : Str} (hm : ∃ t, X.mg x = some (.str z t)) (hg : Gl X x := by rfl) (hd : (x == ("__debug__" : Str)) = false := by decide) : GE X W (.Name x pos) (mC (.str z)) := by
  obtain ⟨t, h⟩ := hm
  exact ge_globS h hg hd
end
abbrev CIIn {K : PySem.W.Frag} {h : Heap} (_ : K.In h) (mg : Str → Option Value) (x : Str) (i : Int) : Prop := ∃ t, mg x = some (.int i t)
abbrev CSIn {K : PySem.W.Frag} {h : Heap} (_ : K.In h) (mg : Str → Option Value) (x : Str) (z : Str) : Prop := ∃ t, mg x = some (.str z t)
theorem ci_mk {K : PySem.W.Frag} {h : Heap} {mg : Str → Option Value} {x : Str} {i : Int} {t : Tok} (X : K.In h) (G : h.Ns mainGlobals mg) (a : PySem.W.nsIn K mainGlobals x = some (some (.int i t))) : CIIn X mg x i := ⟨t, PySem.W.mg_of X G a⟩
theorem cs_mk {K : PySem.W.Frag} {h : Heap} {mg : Str → Option Value} {x z : Str} {t : Tok} (X : K.In h) (G : h.Ns mainGlobals mg) (a : PySem.W.nsIn K mainGlobals x = some (some (.str z t))) : CSIn X mg x z := ⟨t, PySem.W.mg_of X G a⟩
end G

/-! rows of bits as lists of truths -/
namespace G
open PySem PySem.Spec PyProof.Rows L2
def bc (b : Bool) : Nat := if b then 49 else 48
def bs (l : List Bool) : Str := ⟨(l.map bc).toArray⟩
theorem bs_cps (l : List Bool) : (bs l).cps.toList = l.map bc := by simp [bs]
theorem bs_len (l : List Bool) : (bs l).length = l.length := by simp [bs, Str.length]
theorem bs_app (a b : List Bool) : bs a ++ bs b = bs (a ++ b) := by
  show Str.mk ((bs a).cps ++ (bs b).cps) = bs (a ++ b)
  simp [bs]
theorem bc_inj {a b : Bool} (h : bc a = bc b) : a = b := by cases a <;> cases b <;> first | rfl | (exact absurd h (by decide))
theorem map_bc_inj : ∀ {a b : List Bool}, a.map bc = b.map bc → a = b
  | [], [], _ => rfl
  | [], _ :: _, h => by simp at h
  | _ :: _, [], h => by simp at h
  | x :: a, y :: b, h => by
    simp only [List.map_cons, List.cons.injEq] at h
    rw [bc_inj h.1, map_bc_inj h.2]
theorem bs_inj {a b : List Bool} (h : bs a = bs b) : a = b := map_bc_inj (by rw [← bs_cps, ← bs_cps, h])
theorem bs_eq {a b : List Bool} : (bs a = bs b) = (a = b) := propext ⟨bs_inj, fun h => by rw [h]⟩
def sb (b : Bool) : D := .str (bs [b])
theorem sb_cp (b : Bool) : D.str ⟨#[bc b]⟩ = sb b := rfl
theorem signs_bs (l : List Bool) : signs (bs l) = l.map sb := by
  unfold signs
  rw [bs_cps, List.map_map]
  rfl
theorem cutS_bs (l : List Bool) (lo hi : Option Int) : cutS (bs l) lo hi = bs (cutD l lo hi) := by
  unfold cutS cutD
  rw [bs_cps, bs_len, ← List.map_drop, ← List.map_take]
  rfl
/-- the bit's int -/
def bi (b : Bool) : Int := if b then 1 else 0
theorem int_bs (b : Bool) : PySem.intText? (bs [b]) = some (bi b) := by cases b <;> decide +kernel
theorem lit0 : ("0" : Str) = bs [false] := by decide +kernel
theorem lit1 : ("1" : Str) = bs [true] := by decide +kernel
theorem lit10 : ("10" : Str) = bs [true, false] := by decide +kernel
theorem lit01 : ("01" : Str) = bs [false, true] := by decide +kernel
theorem litE : ("" : Str) = bs [] := by decide +kernel
theorem repS_bs (b : Bool) (n : Int) : repS (bs [b]) n = bs (List.replicate n.toNat b) := by
  unfold repS
  rw [bs_cps]
  have : ∀ k, (List.replicate k ([b].map bc)).flatten = (List.replicate k b).map bc := fun k => by
    induction k with
    | zero => rfl
    | succ k ih => rw [List.replicate_succ, List.flatten_cons, ih, List.replicate_succ]; rfl
  rw [this]
  rfl
theorem join_bs (ls : List (List Bool)) : Txt.join (bs []) (ls.map bs) = bs ls.flatten := by
  have fold : ∀ (ls : List (List Bool)) (a : List Bool), (ls.map bs).foldl (fun acc p => acc ++ (bs []).cps ++ p.cps) (bs a).cps = (bs (a ++ ls.flatten)).cps := fun ls => by
    induction ls with
    | nil => intro a; simp
    | cons x r ih =>
      intro a
      rw [List.map_cons, List.foldl_cons]
      have e : (bs a).cps ++ (bs []).cps ++ (bs x).cps = (bs (a ++ x)).cps := by simp [bs]
      rw [e, ih, List.flatten_cons, List.append_assoc]
  cases ls with
  | nil => rfl
  | cons x r =>
    show Str.mk ((r.map bs).foldl (fun acc q => acc ++ (bs []).cps ++ q.cps) (bs x).cps) = _
    rw [fold, List.flatten_cons]
theorem cutD_to {α : Type} (l : List α) (n : Nat) : cutD l none (some (n : Int)) = l.take n := by
  unfold cutD
  rw [HT.sIx_none, HT.sIx_nat]
  simp only [List.drop_zero, Nat.sub_zero]
  rw [List.take_eq_take_iff]
  omega
theorem cutD_from {α : Type} (l : List α) (n : Nat) : cutD l (some (n : Int)) none = l.drop n := by
  unfold cutD
  rw [HT.sIx_none, HT.sIx_nat]
  rw [List.take_of_length_le (by rw [List.length_drop]; omega)]
  by_cases h : n ≤ l.length
  · rw [Nat.min_eq_left h]
  · rw [Nat.min_eq_right (by omega), List.drop_of_length_le (by omega), List.drop_of_length_le (by omega)]
theorem cutD_mid {α : Type} (l : List α) (n m : Nat) : cutD l (some (n : Int)) (some (m : Int)) = (l.drop n).take (m - n) := by
  unfold cutD
  rw [HT.sIx_nat, HT.sIx_nat]
  by_cases h : n ≤ l.length
  · rw [Nat.min_eq_left h]
    by_cases h2 : m ≤ l.length
    · rw [Nat.min_eq_left h2]
    · rw [Nat.min_eq_right (by omega), List.take_of_length_le (by rw [List.length_drop]; omega), List.take_of_length_le (by rw [List.length_drop]; omega)]
  · rw [Nat.min_eq_right (show l.length ≤ n by omega), List.drop_of_length_le (by omega), List.drop_of_length_le (by omega)]
    simp
/-- the last n signs -/
theorem cutD_last {α : Type} (l : List α) (n : Nat) (h0 : 0 < n) (h : n ≤ l.length) : cutD l (some (-(n : Int))) none = l.drop (l.length - n) := by
  unfold cutD
  rw [HT.sIx_none]
  have : HT.sIx l.length 0 (some (-(n : Int))) = l.length - n := by
    show (if -(n : Int) < 0 then (-(n : Int) + (l.length : Int)).toNat else min (-(n : Int)).toNat l.length) = _
    rw [if_pos (by omega)]
    omega
  rw [this, List.take_of_length_le (by rw [List.length_drop]; omega)]
/-- all but the last sign -/
theorem cutD_but {α : Type} (l : List α) (h : 0 < l.length) : cutD l none (some (-1)) = l.take (l.length - 1) := by
  unfold cutD
  rw [HT.sIx_none]
  have : HT.sIx l.length l.length (some (-1)) = l.length - 1 := by
    show (if (-1 : Int) < 0 then (-1 + (l.length : Int)).toNat else min (-1 : Int).toNat l.length) = _
    rw [if_pos (by omega)]
    omega
  rw [this]
  rfl
theorem atI_of {α : Type} {xs : List α} {i : Int} {k : Nat} {x : α} (e : i = (k : Int)) (h : xs[k]? = some x) : atI xs i = some x := by
  rw [e]
  exact atI_nat h
theorem atI_m1 {α : Type} {xs : List α} {x : α} : atI (xs ++ [x]) (-1) = some x := atI_last _ _
theorem sl_le {n : Nat} (h : n ≤ 1000000) : n ≤ sizeLine := Nat.le_trans h (by decide)
theorem sl_lt {n : Nat} (h : n ≤ 1000000) : n < sizeLine := Nat.lt_of_le_of_lt h (by decide)
theorem bs_sl {l : List Bool} (h : l.length ≤ 1000000) : (bs l).length ≤ sizeLine := by rw [bs_len]; exact sl_le h
/-! ### loops, in the forms one uses -/
theorem Wk.nil' : Wk [] [] := trivial
theorem Wk.un {a : S} {as bs : List S} (h : Wk as bs) : Wk (.un :: as) (a :: bs) := ⟨.inl rfl, h⟩
theorem Wk.eq {a : S} {as bs : List S} (h : Wk as bs) : Wk (a :: as) (a :: bs) := ⟨.inr rfl, h⟩
theorem Wk.eqv {a b : S} {as bs : List S} (h : Wk as bs) (e : a = b) : Wk (a :: as) (b :: bs) := ⟨.inr e, h⟩
theorem lp_of {E ρ : List S} (h : Wk E ρ) : lp (fun ρ => ρ = E) ρ := ⟨E, h, rfl⟩
section
variable {α : Type} {f : α → D} {xs : List α} {ds : List D} {g : MG} {mb : MS} {PD : PEnds} {ρ1 : List S}
theorem loop_map (e : ds = xs.map f) (I : Nat → List S → Prop) (h0 : lp (I 0) ρ1) (hs : ∀ k x ρ, xs[k]? = some x → I k ρ → g (f x) ρ (mb (PD.loop (lp (I (k + 1)))))) (hd : ∀ ρ, I xs.length ρ → PD.nx ρ) :
    ∃ I : Nat → List S → Prop, lp (I 0) ρ1 ∧ (∀ i (h : i < ds.length) ρ, I i ρ → g ds[i] ρ (mb (PD.loop (lp (I (i + 1)))))) ∧ ∀ ρ, I ds.length ρ → PD.nx ρ := by
  subst e
  refine ⟨I, h0, fun i h ρ hI => ?_, fun ρ hI => hd ρ (by rwa [List.length_map] at hI)⟩
  have hl : i < xs.length := by rwa [List.length_map] at h
  rw [List.getElem_map]
  exact hs i _ ρ (List.getElem?_eq_getElem hl) hI
theorem loop_env (e : ds = xs.map f) (E : Nat → List S) (h0 : Wk (E 0) ρ1) (hs : ∀ k x, xs[k]? = some x → g (f x) (E k) (mb (PD.loop (lp (fun ρ => ρ = E (k + 1)))))) (hd : PD.nx (E xs.length)) :
    ∃ I : Nat → List S → Prop, lp (I 0) ρ1 ∧ (∀ i (h : i < ds.length) ρ, I i ρ → g ds[i] ρ (mb (PD.loop (lp (I (i + 1)))))) ∧ ∀ ρ, I ds.length ρ → PD.nx ρ :=
  loop_map e (fun k ρ => ρ = E k) (lp_of h0) (fun k x ρ hx hI => by subst hI; exact hs k x hx) (fun ρ hI => by subst hI; exact hd)
end
theorem range_map (n : Nat) (lo c : Int) : rngD lo c n = (List.range n).map fun i => D.int (lo + (i : Nat) * c) := rfl
theorem range_get {n k x : Nat} (h : (List.range n)[k]? = some x) : x = k ∧ k < n := by
  obtain ⟨h1, h2⟩ := List.getElem?_eq_some_iff.mp h
  rw [List.length_range] at h1
  rw [List.getElem_range] at h2
  exact ⟨h2.symm, h1⟩
/-- a comprehension: what is made and what is known behind each turn -/
theorem lc_env {α : Type} {f : α → D} {xs : List α} {ds : List D} {g : MG} {mt : MT} {me : ME} {vs : List Nat} {ρ1 : List S} {P : C → List S → Prop} (e : ds = xs.map f) (Acc : Nat → List D) (E : Nat → List S) (h0 : Acc 0 = [] ∧ ρ1 = E 0)
    (hs : ∀ k x, xs[k]? = some x → g (f x) (wipeS (E k) vs) (fun ρ2 => mt ρ2 (fun b ρ3 => (b = true → me ρ3 (fun d ρ4 => (Acc k).length < sizeLine ∧ (Acc k ++ [d] = Acc (k + 1) ∧ wipeS ρ4 vs = E (k + 1))) noX) ∧ (b = false → Acc k = Acc (k + 1) ∧ wipeS ρ3 vs = E (k + 1))) noX))
    (hd : P (.lst (Acc xs.length)) (E xs.length)) :
    ∃ I : Nat → List D → List S → Prop, I 0 [] ρ1 ∧ (∀ i (h : i < ds.length) acc ρ, I i acc ρ → g ds[i] (wipeS ρ vs) (fun ρ2 => mt ρ2 (fun b ρ3 => (b = true → me ρ3 (fun d ρ4 => acc.length < sizeLine ∧ I (i + 1) (acc ++ [d]) (wipeS ρ4 vs)) noX) ∧ (b = false → I (i + 1) acc (wipeS ρ3 vs))) noX)) ∧
      ∀ acc ρ, I ds.length acc ρ → P (.lst acc) ρ := by
  subst e
  refine ⟨fun k acc ρ => acc = Acc k ∧ ρ = E k, ⟨h0.1.symm, h0.2⟩, fun i h acc ρ hI => ?_, fun acc ρ hI => ?_⟩
  · obtain ⟨rfl, rfl⟩ := hI
    have hl : i < xs.length := by rwa [List.length_map] at h
    rw [List.getElem_map]
    exact hs i _ (List.getElem?_eq_getElem hl)
  · obtain ⟨rfl, rfl⟩ := hI
    rw [List.length_map]
    exact hd
theorem lc_run {α : Type} {f : α → D} {xs : List α} {ds : List D} {mi : MI} {g : MG} {mt : MT} {me : ME} {vs : List Nat} {ρ0 ρ1 : List S} {P : C → List S → Prop} {PX : XP} (hi : ∀ Q : List D → List S → Prop, Q ds ρ1 → mi ρ0 Q PX) (e : ds = xs.map f) (Acc : Nat → List D) (E : Nat → List S) (h0 : Acc 0 = [] ∧ ρ1 = E 0)
    (hs : ∀ k x, xs[k]? = some x → g (f x) (wipeS (E k) vs) (fun ρ2 => mt ρ2 (fun b ρ3 => (b = true → me ρ3 (fun d ρ4 => (Acc k).length < sizeLine ∧ (Acc k ++ [d] = Acc (k + 1) ∧ wipeS ρ4 vs = E (k + 1))) noX) ∧ (b = false → Acc k = Acc (k + 1) ∧ wipeS ρ3 vs = E (k + 1))) noX))
    (hd : P (.lst (Acc xs.length)) (E xs.length)) : mLc mi g mt me vs ρ0 P PX := hi _ (lc_env e Acc E h0 hs hd)
theorem for_run {α : Type} {f : α → D} {xs : List α} {ds : List D} {mi : MI} {g : MG} {mb : MS} {ρ0 ρ1 : List S} {PD : PEnds} (hi : ∀ Q : List D → List S → Prop, Q ds ρ1 → mi ρ0 Q PD.ex) (e : ds = xs.map f) (E : Nat → List S) (h0 : Wk (E 0) ρ1)
    (hs : ∀ k x, xs[k]? = some x → g (f x) (E k) (mb (PD.loop (lp (fun ρ => ρ = E (k + 1)))))) (hd : PD.nx (E xs.length)) : mFor mi g mb PD ρ0 := hi _ (loop_env e E h0 hs hd)
/-- .. with any invariant -/
theorem for_inv {α : Type} {f : α → D} {xs : List α} {ds : List D} {mi : MI} {g : MG} {mb : MS} {ρ0 ρ1 : List S} {PD : PEnds} (hi : ∀ Q : List D → List S → Prop, Q ds ρ1 → mi ρ0 Q PD.ex) (e : ds = xs.map f) (I : Nat → List S → Prop) (h0 : lp (I 0) ρ1)
    (hs : ∀ k x ρ, xs[k]? = some x → I k ρ → g (f x) ρ (mb (PD.loop (lp (I (k + 1)))))) (hd : ∀ ρ, I xs.length ρ → PD.nx ρ) : mFor mi g mb PD ρ0 := hi _ (loop_map e I h0 hs hd)
/-- a comprehension with any invariant -/
theorem lc_inv {α : Type} {f : α → D} {xs : List α} {ds : List D} {mi : MI} {g : MG} {mt : MT} {me : ME} {vs : List Nat} {ρ0 ρ1 : List S} {P : C → List S → Prop} {PX : XP} (hi : ∀ Q : List D → List S → Prop, Q ds ρ1 → mi ρ0 Q PX) (e : ds = xs.map f) (I : Nat → List D → List S → Prop) (h0 : I 0 [] ρ1)
    (hs : ∀ k x acc ρ, xs[k]? = some x → I k acc ρ → g (f x) (wipeS ρ vs) (fun ρ2 => mt ρ2 (fun b ρ3 => (b = true → me ρ3 (fun d ρ4 => acc.length < sizeLine ∧ I (k + 1) (acc ++ [d]) (wipeS ρ4 vs)) noX) ∧ (b = false → I (k + 1) acc (wipeS ρ3 vs))) noX))
    (hd : ∀ acc ρ, I xs.length acc ρ → P (.lst acc) ρ) : mLc mi g mt me vs ρ0 P PX := hi _ (by
  subst e
  refine ⟨I, h0, fun i h acc ρ hI => ?_, fun acc ρ hI => ?_⟩
  · have hl : i < xs.length := by rwa [List.length_map] at h
    rw [List.getElem_map]
    exact hs i _ acc ρ (List.getElem?_eq_getElem hl) hI
  · rw [List.length_map] at hI
    exact hd acc ρ hI)
theorem fLen_scr {ns : List Int} {P : D → Prop} (h : P (.int (ns.length : Nat))) : fLen [.scr ns] P := h
theorem fLen_lst {ns : List D} {P : D → Prop} (h : P (.int (ns.length : Nat))) : fLen [.lst ns] P := h
theorem fIsNot_non {P : D → Prop} (h : P (.bl false)) : fIsNot .non .non P := h
theorem fIsNot_str {x : Str} {P : D → Prop} (h : P (.bl true)) : fIsNot (.str x) .non P := h
theorem fMin_two {i j : Int} {P : D → Prop} (h : P (.int (if j < i then j else i))) : fMin [.int i, .int j] P := h
theorem fIx_at {ds : List D} {i : Int} {d : D} {P : D → Prop} (h : atI ds i = some d) (hp : P d) : fIx (.lst ds) (.int i) P := ⟨d, h, hp⟩
theorem fInt_bl {b : Bool} {P : D → Prop} (h : P (.int (if b then 1 else 0))) : fInt [.bl b] P := h
theorem fIx_two {x y : D} {r : Nat} {P : D → Prop} (hr : r < 2) (h : ∀ v, v = x ∨ v = y → P v) : fIx (.lst [x, y]) (.int (r : Nat)) P := by
  rcases (by omega : r = 0 ∨ r = 1) with rfl | rfl
  · exact ⟨x, rfl, h _ (.inl rfl)⟩
  · exact ⟨y, rfl, h _ (.inr rfl)⟩
theorem fIx_three {x y z : D} {r : Nat} {P : D → Prop} (hr : r < 3) (h : ∀ v, v = x ∨ v = y ∨ v = z → P v) : fIx (.lst [x, y, z]) (.int (r : Nat)) P := by
  rcases (by omega : r = 0 ∨ r = 1 ∨ r = 2) with rfl | rfl | rfl
  · exact ⟨x, rfl, h _ (.inl rfl)⟩
  · exact ⟨y, rfl, h _ (.inr (.inl rfl))⟩
  · exact ⟨z, rfl, h _ (.inr (.inr rfl))⟩
theorem bit_of {r : Nat} (h : r < 2) : ∃ b, ((r : Nat) : Int) = bi b := by
  rcases (by omega : r = 0 ∨ r = 1) with rfl | rfl
  · exact ⟨false, rfl⟩
  · exact ⟨true, rfl⟩
/-! ### data that may be compared -/
def Shp (n : Nat) (d : D) : Prop := (toP d).canLay0 = true ∧ (toP d).depth ≤ n
theorem Shp.int (i : Int) : Shp 1 (.int i) := ⟨rfl, Nat.zero_le _⟩
theorem Shp.bl (i : Bool) : Shp 1 (.bl i) := ⟨rfl, Nat.zero_le _⟩
theorem Shp.str_bs (l : List Bool) : Shp 1 (.str (bs l)) := ⟨by
  show ((bs l).cps.all fun c => decide (c < 0x110000)) = true
  simp only [Array.all_eq_true']
  intro c hc
  have : c ∈ (bs l).cps.toList := by simpa using hc
  rw [bs_cps, List.mem_map] at this
  obtain ⟨b, _, rfl⟩ := this
  cases b <;> decide, Nat.zero_le _⟩
theorem shps : ∀ {ds : List D} {n : Nat}, (∀ d ∈ ds, Shp n d) → PyData.canLayAll0 (toPs ds) = true ∧ PyData.depthAll (toPs ds) ≤ n
  | [], n, _ => ⟨rfl, Nat.zero_le _⟩
  | d :: r, n, h => by
    obtain ⟨h1, h2⟩ := h d List.mem_cons_self
    obtain ⟨h3, h4⟩ := shps (ds := r) fun x hx => h x (List.mem_cons_of_mem _ hx)
    exact ⟨by show ((toP d).canLay0 && PyData.canLayAll0 (toPs r)) = true; rw [h1, h3]; rfl, Nat.max_le.mpr ⟨h2, h4⟩⟩
theorem Shp.lst {ds : List D} {n : Nat} (h : ∀ d ∈ ds, Shp n d) : Shp (n + 1) (.lst ds) := ⟨(shps h).1, Nat.succ_le_succ (shps h).2⟩
theorem Shp.tup {ds : List D} {n : Nat} (h : ∀ d ∈ ds, Shp n d) : Shp (n + 1) (.tup ds) := ⟨(shps h).1, Nat.succ_le_succ (shps h).2⟩
theorem Shp.ok {n : Nat} {d : D} (h : Shp n d) (hn : n ≤ 64) : shp d = true := by
  show ((toP d).canLay0 && decide ((toP d).depth ≤ 64)) = true
  rw [h.1, decide_eq_true (Nat.le_trans h.2 hn)]
  rfl
theorem deq_same {n : Nat} {d : D} (h : Shp n d) : deq d d = true := SeqAt.eqv_refl _ h.1
theorem fNe_same {n : Nat} {ds : List D} {P : D → Prop} (h : Shp n (.lst ds)) (hn : n ≤ 64) (hp : P (.bl false)) : fNe (.lst ds) (.lst ds) P := ⟨h.ok hn, h.ok hn, by rw [deq_same h]; exact hp⟩
theorem fEq_same {n : Nat} {ds : List D} {P : D → Prop} (h : Shp n (.lst ds)) (hn : n ≤ 64) (hp : P (.bl true)) : fEq (.lst ds) (.lst ds) P := ⟨h.ok hn, h.ok hn, by rw [deq_same h]; exact hp⟩
theorem fNe_nil {n : Nat} {ds : List D} {P : D → Prop} (h : Shp n (.lst ds)) (hn : n ≤ 64) (hp : P (.bl (!ds.isEmpty))) : fNe (.lst ds) (.lst []) P := ⟨h.ok hn, by decide, by
  cases ds <;> exact hp⟩
theorem fNe_non {P : D → Prop} (h : P (.bl false)) : fNe .non .non P := ⟨by decide, by decide, h⟩
theorem fNe_strSame {x : Str} {P : D → Prop} (h : P (.bl false)) : fNe (.str x) (.str x) P := by
  show P (.bl (!decide (x = x)))
  rw [decide_eq_true rfl]
  exact h
theorem fNe_strNon {x : List Bool} {P : D → Prop} (h : P (.bl true)) : fNe (.str (bs x)) .non P := ⟨(Shp.str_bs x).ok (by decide), by decide, h⟩
/-! ### the box from which laws draw -/
def Box (c : C) (n : Nat) : Prop := ∃ b0 b1 b2 : Int, c = .lst [.int b0, .int b1, .int b2] ∧ 0 ≤ b0 ∧ 0 ≤ b1 ∧ b1 < 2 ^ 62 ∧ 0 ≤ b2 ∧ b2 ≤ n
theorem Box.mono {c : C} {n m : Nat} (h : Box c n) (e : n ≤ m) : Box c m := by
  obtain ⟨b0, b1, b2, h0, h1, h2, h3, h4, h5⟩ := h
  exact ⟨b0, b1, b2, h0, h1, h2, h3, h4, by omega⟩
/-- what a draw may be of -/
def Few (m : Nat) : Prop := 0 < m ∧ m < 2 ^ 1000
theorem few {m : Nat} (h0 : 0 < m) (h : m ≤ 1000000) : Few m := ⟨h0, Nat.lt_of_lt_of_le (Nat.lt_of_le_of_lt h (by decide : 1000000 < 2 ^ 20)) (Nat.pow_le_pow_right (by decide) (by decide))⟩
def cTake : CtM := fun c0 ds P _ => ∃ n m : Nat, ds = [.int (m : Nat)] ∧ Box c0 n ∧ n ≤ 1000000 ∧ Few m ∧ ∀ (r : Nat) (c' : C), r < m → Box c' (n + 1) → P (.fz (.int (r : Nat))) c'
theorem take_snoc {α : Type} {l : List α} {k : Nat} {x : α} (h : l[k]? = some x) : l.take (k + 1) = l.take k ++ [x] := by rw [List.take_add_one, h]; rfl
theorem get_lt {α : Type} {l : List α} {k : Nat} {x : α} (h : l[k]? = some x) : k < l.length := (List.getElem?_eq_some_iff.mp h).1
/-- .. each element from its item alone -/
theorem acc_map {α : Type} {xs : List α} {F : α → D} {k : Nat} {x : α} {d : D} (h : xs[k]? = some x) (e : d = F x) (hl : xs.length ≤ 1000000) : ((xs.take k).map F).length < sizeLine ∧ (xs.take k).map F ++ [d] = (xs.take (k + 1)).map F := by
  refine ⟨sl_lt ?_, ?_⟩
  · rw [List.length_map, List.length_take]; omega
  · rw [take_snoc h, List.map_append, e]; rfl
/-! ### operations on ints that ask nothing -/
section
variable {i j : Int} {b c : Bool} {P : D → Prop}
theorem fAdd_int : fAdd (.int i) (.int j) P = P (.int (i + j)) := rfl
theorem fAddI_int : fAddI (.int i) (.int j) P = P (.int (i + j)) := rfl
theorem fSub_int : fSub (.int i) (.int j) P = P (.int (i - j)) := rfl
theorem fLt_int : fLt (.int i) (.int j) P = P (.bl (decide (i < j))) := rfl
theorem fLe_int : fLe (.int i) (.int j) P = P (.bl (decide (i ≤ j))) := rfl
theorem fGt_int : fGt (.int i) (.int j) P = P (.bl (decide (j < i))) := rfl
theorem fGe_int : fGe (.int i) (.int j) P = P (.bl (decide (j ≤ i))) := rfl
theorem fEq_int : fEq (.int i) (.int j) P = P (.bl (decide (i = j))) := rfl
theorem fNe_int : fNe (.int i) (.int j) P = P (.bl (!decide (i = j))) := rfl
theorem fEq_bl : fEq (.bl b) (.bl c) P = P (.bl (decide (b = c))) := rfl
theorem fNe_bl : fNe (.bl b) (.bl c) P = P (.bl (!decide (b = c))) := rfl
end
/-! ### bits in texts -/
theorem strsOf_bs (ls : List (List Bool)) : strsOf (ls.map fun x => D.str (bs x)) = some (ls.map bs) := by
  have : (ls.map fun x => D.str (bs x)) = (ls.map bs).map D.str := by rw [List.map_map]; rfl
  rw [this, strsOf_map]
theorem sum_len_bs (ls : List (List Bool)) : ((ls.map bs).map (·.length)).sum = ls.flatten.length := by
  induction ls with
  | nil => rfl
  | cons x r ih => rw [List.map_cons, List.map_cons, List.sum_cons, ih, List.flatten_cons, List.length_append, bs_len]
theorem fJoin_bs {ls : List (List Bool)} {P : D → Prop} (h : ls.flatten.length ≤ 1000000) (hp : P (.str (bs ls.flatten))) : fJoin ("" : Str) (.lst (ls.map fun x => D.str (bs x))) P := by
  refine ⟨ls.map bs, strsOf_bs ls, ?_, ?_⟩
  · rw [sum_len_bs, litE, bs_len]
    show _ + _ * 0 ≤ _
    omega
  · rw [litE, join_bs]; exact hp
theorem flatten_ones (l : List Bool) : (l.map fun b => [b]).flatten = l := by
  induction l with
  | nil => rfl
  | cons b l ih => rw [List.map_cons, List.flatten_cons, ih]; rfl
theorem fJoin_sb {l : List Bool} {P : D → Prop} (h : l.length ≤ 1000000) (hp : P (.str (bs l))) : fJoin ("" : Str) (.lst (l.map sb)) P := by
  have e : l.map sb = (l.map fun b => [b]).map fun x => D.str (bs x) := by rw [List.map_map]; rfl
  rw [e]
  exact fJoin_bs (by rw [flatten_ones]; exact h) (by rw [flatten_ones]; exact hp)
theorem fInt_sb {b : Bool} {P : D → Prop} (hp : P (.int (bi b))) : fInt [sb b] P := ⟨by rw [bs_len]; exact Nat.le_of_ble_eq_true rfl, _, int_bs b, hp⟩
theorem ix10 {b : Bool} {P : D → Prop} (hp : P (sb (!b))) : fIx (.str "10") (.int (bi b)) P := by
  refine ⟨by rw [lit10, bs_len]; exact sl_le (by decide), bc (!b), ?_, hp⟩
  rw [lit10, bs_cps]
  cases b with
  | true => exact atI_of (k := 1) rfl rfl
  | false => exact atI_of (k := 0) rfl rfl
theorem ix01 {b : Bool} {P : D → Prop} (hp : P (sb b)) : fIx (.str "01") (.int (bi b)) P := by
  refine ⟨by rw [lit01, bs_len]; exact sl_le (by decide), bc b, ?_, hp⟩
  rw [lit01, bs_cps]
  cases b with
  | true => exact atI_of (k := 1) rfl rfl
  | false => exact atI_of (k := 0) rfl rfl
theorem fLen_bs {l : List Bool} {P : D → Prop} (h : l.length ≤ 1000000) (hp : P (.int (l.length : Nat))) : fLen [.str (bs l)] P := ⟨bs_sl h, by rw [bs_len]; exact hp⟩
theorem fRev_two {x y : D} {P : D → C → Prop} (h : P .non (.lst [y, x])) : fRev (.lst [x, y]) [] P := h
theorem fAbs_int {i : Int} {P : D → Prop} (hp : P (.int (i.natAbs : Nat))) : fAbs [.int i] P := by
  show P (.int (if i < 0 then -i else i))
  rw [show (if i < 0 then -i else i) = (i.natAbs : Int) by split <;> omega]
  exact hp
theorem fAdd_bs {a b : List Bool} {P : D → Prop} (h : a.length + b.length ≤ 1000000) (hp : P (.str (bs (a ++ b)))) : fAdd (.str (bs a)) (.str (bs b)) P := ⟨by rw [bs_len, bs_len]; exact sl_le h, by rw [bs_app]; exact hp⟩
theorem fSl_bs {l : List Bool} {lo hi : Option Int} {P : D → Prop} (h : l.length ≤ 1000000) (hp : P (.str (bs (cutD l lo hi)))) : fSl (.str (bs l)) lo hi P := ⟨bs_sl h, by rw [cutS_bs]; exact hp⟩
theorem fIx_bs {l : List Bool} {i : Int} {k : Nat} {b : Bool} {P : D → Prop} (hl : l.length ≤ 1000000) (e : i = (k : Int)) (h : l[k]? = some b) (hp : P (sb b)) : fIx (.str (bs l)) (.int i) P :=
  ⟨bs_sl hl, bc b, by rw [bs_cps]; exact atI_map (atI_of e h), hp⟩
theorem fIx_bsl {l : List Bool} {b : Bool} {P : D → Prop} (hl : (l ++ [b]).length ≤ 1000000) (hp : P (sb b)) : fIx (.str (bs (l ++ [b]))) (.int (-1)) P :=
  ⟨bs_sl hl, bc b, by rw [bs_cps]; exact atI_map atI_m1, hp⟩
theorem fMul_sb {b : Bool} {n : Nat} {P : D → Prop} (h : n ≤ 100000) (hp : P (.str (bs (List.replicate n b)))) : fMul (sb b) (.int (n : Nat)) P :=
  ⟨⟨by rw [bs_len]; exact Nat.le_refl _, by rw [bs_len]; show 1 ≤ 100; decide⟩, ⟨by omega, by omega⟩, by rw [repS_bs]; exact hp⟩
theorem fMul_small {i j : Int} {P : D → Prop} (h : -(2 ^ 64) < i ∧ i < 2 ^ 64) (hp : P (.int (i * j))) : fMul (.int i) (.int j) P := ⟨.inr (.inl h), hp⟩
theorem fEq_bs {a b : List Bool} {P : D → Prop} (hp : P (.bl (decide (a = b)))) : fEq (.str (bs a)) (.str (bs b)) P := by
  show P (.bl (decide (bs a = bs b)))
  have : decide (bs a = bs b) = decide (a = b) := by rw [Bool.eq_iff_iff]; simp [bs_eq]
  rw [this]; exact hp
theorem fNe_bs {a b : List Bool} {P : D → Prop} (hp : P (.bl (!decide (a = b)))) : fNe (.str (bs a)) (.str (bs b)) P := by
  show P (.bl (!decide (bs a = bs b)))
  have : decide (bs a = bs b) = decide (a = b) := by rw [Bool.eq_iff_iff]; simp [bs_eq]
  rw [this]; exact hp
theorem str_bi (b : Bool) : (Str.ofString (toString (bi b))) = bs [b] := by cases b <;> decide +kernel
theorem fStr_bi {b : Bool} {P : D → Prop} (hp : P (sb b)) : fStr [.int (bi b)] P := by
  refine ⟨by cases b <;> decide, ?_⟩
  have e := str_bi b
  show P (.str (Str.ofString (toString (bi b))))
  rw [e]; exact hp
/-! ### range by a step -/
theorem rgC_step {n c k : Nat} (hc : 0 < c) (hc2 : c ≤ 100000) (hn : n ≤ 100000) (e : n = k * c) : RgC 0 (n : Int) (c : Int) k := by
  have hs : Builtin.Range.rangeSize 0 (n : Int) (c : Int) = k := by
    unfold Builtin.Range.rangeSize
    rw [if_pos (by omega)]
    by_cases h : (0 : Int) < n
    · rw [if_pos h]
      have hk : 0 < k := by
        rcases Nat.eq_zero_or_pos k with z | z
        · subst z; rw [Nat.zero_mul] at e; omega
        · exact z
      have : ((n : Int) - 0 - 1) / c = (k : Int) - 1 := by
        rw [Int.ediv_eq_iff_of_pos (by omega)]
        have e2 : (n : Int) = k * c := by rw [e]; exact Int.natCast_mul k c
        have e3 : ((k : Int) - 1) * c = k * c - c := by rw [Int.sub_mul, Int.one_mul]
        have e4 : ((k : Int) - 1 + 1) * c = k * c := by rw [Int.sub_add_cancel]
        omega
      omega
    · rw [if_neg h]
      have : n = 0 := by omega
      rw [this] at e
      have : k = 0 := by
        rcases Nat.eq_zero_or_pos k with z | z
        · exact z
        · have := Nat.mul_pos z hc; omega
      omega
  refine ⟨by omega, by omega, ?_, hs⟩
  unfold Builtin.Range.small
  rw [hs]
  have hk : k ≤ n := by rw [e]; exact Nat.le_mul_of_pos_right k hc
  have e63 : (2 : Int) ^ 63 = 9223372036854775808 := by decide
  rw [if_pos (show (c : Int) > 0 by omega)]
  simp only [Builtin.Range.rangeFitsLong, Bool.and_eq_true, Bool.or_eq_true, decide_eq_true_eq, beq_iff_eq, e63]
  omega
/-! ### while -/
theorem while_env {t : MT} {mb : MS} {PD : PEnds} {ρ : List S} (n : Nat) (E : Nat → List S) (h0 : Wk (E 0) ρ)
    (hs : ∀ k, k ≤ n → t (E k) (fun b ρ1 => (b = true → mb (PD.loop (fun ρ' => ∃ j, j < n - k ∧ lp (fun ρ => ∃ k', k' + j = n ∧ ρ = E k') ρ')) ρ1) ∧ (b = false → PD.nx ρ1)) PD.ex) : mWhile t mb PD ρ := by
  refine ⟨fun j ρ => ∃ k, k + j = n ∧ ρ = E k, ⟨n, E 0, h0, 0, by omega, rfl⟩, fun j ρ hI => ?_⟩
  obtain ⟨k, e, rfl⟩ := hI
  have := hs k (by omega)
  have ej : n - k = j := by omega
  rw [ej] at this
  exact this
theorem while_next {n k : Nat} {E : Nat → List S} {ρ : List S} (h : k < n) (w : Wk (E (k + 1)) ρ) : ∃ j, j < n - k ∧ lp (fun ρ => ∃ k', k' + j = n ∧ ρ = E k') ρ :=
  ⟨n - (k + 1), by omega, E (k + 1), w, k + 1, by omega, rfl⟩
end G

namespace G
/-! machines, and rows from a room to a goal -/
abbrev Mc := List (Option Nat × Option Nat)
def ends (r : Option Nat × Option Nat) : List Nat := r.1.toList ++ r.2.toList
def Mc.Ok (M : Mc) : Prop := ∀ r ∈ M, ∀ e ∈ ends r, e < M.length
def oneL (M : Mc) (t : List Nat) : List Nat := M.map fun r => ((ends r).map fun e => t.getD e 0).sum
def tab (M : Mc) (g : Nat) : Nat → List Nat
  | 0 => (List.range M.length).map fun a => if a = g then 1 else 0
  | n + 1 => oneL M (tab M g n)
def tb (M : Mc) (g n a : Nat) : Nat := (tab M g n).getD a 0
def nx (M : Mc) (a : Nat) (b : Bool) : Option Nat := match M[a]? with
  | some r => if b then r.2 else r.1
  | none => none
def tbO (M : Mc) (g n : Nat) : Option Nat → Nat
  | some e => tb M g n e
  | none => 0
theorem tab_len (M : Mc) (g : Nat) : ∀ n, (tab M g n).length = M.length
  | 0 => by simp [tab]
  | n + 1 => by simp [tab, oneL]
theorem tb_zero {M : Mc} {g a : Nat} (h : a < M.length) : tb M g 0 a = if a = g then 1 else 0 := by
  unfold tb tab
  simp [List.getD_eq_getElem?_getD, h]
theorem tb_succ {M : Mc} {g n a : Nat} (h : a < M.length) : tb M g (n + 1) a = tbO M g n (nx M a false) + tbO M g n (nx M a true) := by
  unfold tb tab oneL nx
  rw [List.getD_eq_getElem?_getD, List.getElem?_map, List.getElem?_eq_getElem h]
  simp only [Option.map_some, Option.getD_some]
  generalize M[a] = r
  obtain ⟨x, y⟩ := r
  cases x <;> cases y <;> simp [ends, tbO, tb]
theorem nx_lt {M : Mc} (ok : M.Ok) {a e : Nat} {b : Bool} (h : nx M a b = some e) : e < M.length := by
  unfold nx at h
  cases hq : M[a]? with
  | none => rw [hq] at h; cases h
  | some r =>
    rw [hq] at h
    refine ok r (List.mem_of_getElem? hq) e ?_
    obtain ⟨x, y⟩ := r
    cases b
    · have : x = some e := h
      subst this
      simp [ends]
    · have : y = some e := h
      subst this
      simp [ends]
def goM (M : Mc) : Nat → List Bool → Option Nat
  | a, [] => some a
  | a, b :: l => match nx M a b with
    | some e => goM M e l
    | none => none
def rowAt (M : Mc) (g : Nat) : Nat → Nat → Nat → List Bool
  | 0, _, _ => []
  | n + 1, a, k => if k < tbO M g n (nx M a false) then false :: rowAt M g n ((nx M a false).getD 0) k
    else true :: rowAt M g n ((nx M a true).getD 0) (k - tbO M g n (nx M a false))
def rkM (M : Mc) (g : Nat) : Nat → List Bool → Nat
  | _, [] => 0
  | a, b :: l => (if b then tbO M g l.length (nx M a false) else 0) + match nx M a b with
    | some e => rkM M g e l
    | none => 0
theorem rowAt_len (M : Mc) (g : Nat) : ∀ n a k, (rowAt M g n a k).length = n
  | 0, _, _ => rfl
  | n + 1, a, k => by
    unfold rowAt
    split <;> simp [rowAt_len M g n]
theorem rowAt_ok {M : Mc} (ok : M.Ok) (g : Nat) : ∀ n a k, a < M.length → k < tb M g n a → goM M a (rowAt M g n a k) = some g ∧ rkM M g a (rowAt M g n a k) = k
  | 0, a, k, h, hk => by
    rw [tb_zero h] at hk
    by_cases e : a = g
    · rw [if_pos e] at hk
      exact ⟨by rw [← e]; rfl, by show 0 = k; omega⟩
    · rw [if_neg e] at hk; omega
  | n + 1, a, k, h, hk => by
    rw [tb_succ h] at hk
    unfold rowAt
    by_cases hc : k < tbO M g n (nx M a false)
    · rw [if_pos hc]
      cases hx : nx M a false with
      | none => rw [hx] at hc; exact absurd hc (Nat.not_lt_zero _)
      | some e =>
        rw [hx] at hc
        obtain ⟨h1, h2⟩ := rowAt_ok ok g n e k (nx_lt ok hx) hc
        refine ⟨?_, ?_⟩
        · show (match nx M a false with | some e => goM M e _ | none => none) = some g
          rw [hx]; exact h1
        · show (if false = true then _ else 0) + (match nx M a false with | some e => rkM M g e _ | none => 0) = k
          rw [hx, if_neg Bool.false_ne_true, Nat.zero_add]; exact h2
    · rw [if_neg hc]
      have hk' : k - tbO M g n (nx M a false) < tbO M g n (nx M a true) := by omega
      cases hx : nx M a true with
      | none => rw [hx] at hk'; exact absurd hk' (Nat.not_lt_zero _)
      | some e =>
        rw [hx] at hk'
        obtain ⟨h1, h2⟩ := rowAt_ok ok g n e _ (nx_lt ok hx) hk'
        refine ⟨?_, ?_⟩
        · show (match nx M a true with | some e => goM M e _ | none => none) = some g
          rw [hx]; exact h1
        · show (if true = true then tbO M g (rowAt M g n ((some e).getD 0) (k - tbO M g n (nx M a false))).length (nx M a false) else 0) + (match nx M a true with | some e => rkM M g e _ | none => 0) = k
          rw [hx, if_pos rfl, rowAt_len]
          show _ + rkM M g e (rowAt M g n e (k - tbO M g n (nx M a false))) = k
          rw [h2]
          omega
theorem rkM_lt {M : Mc} (ok : M.Ok) (g : Nat) : ∀ (l : List Bool) (a : Nat), a < M.length → goM M a l = some g → rkM M g a l < tb M g l.length a
  | [], a, h, e => by
    have e : a = g := Option.some.inj e
    show 0 < tb M g 0 a
    rw [tb_zero h, if_pos e]
    exact Nat.one_pos
  | b :: l, a, h, e => by
    have e : (match nx M a b with | some e => goM M e l | none => none) = some g := e
    show (if b = true then tbO M g l.length (nx M a false) else 0) + (match nx M a b with | some e => rkM M g e l | none => 0) < tb M g (l.length + 1) a
    rw [tb_succ h]
    cases hx : nx M a b with
    | none => rw [hx] at e; cases e
    | some u =>
      rw [hx] at e
      have ih := rkM_lt ok g l u (nx_lt ok hx) e
      cases b with
      | false =>
        rw [if_neg Bool.false_ne_true, hx]
        show 0 + rkM M g u l < tb M g l.length u + _
        omega
      | true =>
        rw [if_pos rfl, hx]
        show _ + rkM M g u l < _ + tb M g l.length u
        omega
/-- rows of as many bits, in order -/
def ltB : List Bool → List Bool → Bool
  | b :: l, c :: m => (!b && c) || (b == c && ltB l m)
  | _, _ => false
theorem rk_lt_of {M : Mc} (ok : M.Ok) (g : Nat) : ∀ (l m : List Bool) (a : Nat), a < M.length → l.length = m.length → goM M a l = some g → goM M a m = some g → (ltB l m = true ↔ rkM M g a l < rkM M g a m)
  | [], [], a, _, _, _, _ => by simp [ltB]
  | [], _ :: _, _, _, h, _, _ => by simp at h
  | _ :: _, [], _, _, h, _, _ => by simp at h
  | b :: l, c :: m, a, h, hl0, e10, e20 => by
    have hl : l.length = m.length := by simpa using hl0
    have e1 : (match nx M a b with | some e => goM M e l | none => none) = some g := e10
    have e2 : (match nx M a c with | some e => goM M e m | none => none) = some g := e20
    show ltB (b :: l) (c :: m) = true ↔ (if b = true then tbO M g l.length (nx M a false) else 0) + (match nx M a b with | some e => rkM M g e l | none => 0) < (if c = true then tbO M g m.length (nx M a false) else 0) + (match nx M a c with | some e => rkM M g e m | none => 0)
    cases hb : nx M a b with
    | none => rw [hb] at e1; cases e1
    | some u =>
    cases hc : nx M a c with
    | none => rw [hc] at e2; cases e2
    | some v =>
    rw [hb] at e1
    rw [hc] at e2
    simp only at e1 e2 ⊢
    have hu := nx_lt ok hb
    have hv := nx_lt ok hc
    cases b <;> cases c
    · rw [hb] at hc; cases hc
      have := rk_lt_of ok g l m u hu hl e1 e2
      simpa [ltB] using this
    · have := rkM_lt ok g l u hu e1
      rw [hb]
      simp only [ltB, Bool.not_false, Bool.true_and, Bool.true_or, if_pos, true_iff, tbO]
      rw [← hl]
      simp
      omega
    · have := rkM_lt ok g m v hv e2
      rw [hc]
      simp only [ltB, tbO, if_pos]
      rw [hl]
      simp
      omega
    · rw [hb] at hc; cases hc
      have := rk_lt_of ok g l m u hu hl e1 e2
      simp only [ltB, Bool.not_true, Bool.false_and, Bool.false_or, beq_self_eq_true, Bool.true_and, if_pos]
      rw [hl]
      rw [this]
      omega
theorem rk_inj {M : Mc} (ok : M.Ok) (g : Nat) : ∀ (l m : List Bool) (a : Nat), a < M.length → l.length = m.length → goM M a l = some g → goM M a m = some g → rkM M g a l = rkM M g a m → l = m
  | [], [], a, _, _, _, _, _ => rfl
  | [], _ :: _, _, _, h, _, _, _ => by simp at h
  | _ :: _, [], _, _, h, _, _, _ => by simp at h
  | b :: l, c :: m, a, h, hl0, e10, e20, er0 => by
    have hl : l.length = m.length := by simpa using hl0
    have e1 : (match nx M a b with | some e => goM M e l | none => none) = some g := e10
    have e2 : (match nx M a c with | some e => goM M e m | none => none) = some g := e20
    have er : (if b = true then tbO M g l.length (nx M a false) else 0) + (match nx M a b with | some e => rkM M g e l | none => 0) = (if c = true then tbO M g m.length (nx M a false) else 0) + (match nx M a c with | some e => rkM M g e m | none => 0) := er0
    cases hb : nx M a b with
    | none => rw [hb] at e1; cases e1
    | some u =>
    cases hc : nx M a c with
    | none => rw [hc] at e2; cases e2
    | some v =>
    rw [hb] at e1
    rw [hc] at e2
    rw [hb, hc] at er
    simp only at e1 e2 er
    have hu := nx_lt ok hb
    have hv := nx_lt ok hc
    cases b <;> cases c
    · rw [hb] at hc; cases hc
      rw [rk_inj ok g l m u hu hl e1 e2 (by simpa using er)]
    · have := rkM_lt ok g l u hu e1
      rw [hb] at er
      simp only [if_pos, tbO, ← hl] at er
      simp at er
      omega
    · have := rkM_lt ok g m v hv e2
      rw [hc] at er
      simp only [if_pos, tbO, hl] at er
      simp at er
      omega
    · rw [hb] at hc; cases hc
      rw [rk_inj ok g l m u hu hl e1 e2 (by rw [if_pos rfl, if_pos rfl, hl] at er; omega)]
/-! ### numbers as bits -/
def vlB : List Bool → Nat
  | [] => 0
  | b :: l => (if b then 2 ^ l.length else 0) + vlB l
theorem vl_lt : ∀ l : List Bool, vlB l < 2 ^ l.length
  | [] => by decide
  | b :: l => by
    have := vl_lt l
    show (if b = true then 2 ^ l.length else 0) + vlB l < 2 ^ (l.length + 1)
    rw [Nat.pow_succ]
    split <;> omega
theorem vl_snoc (l : List Bool) (b : Bool) : vlB (l ++ [b]) = 2 * vlB l + (if b then 1 else 0) := by
  induction l with
  | nil => cases b <;> rfl
  | cons c l ih =>
    show (if c = true then 2 ^ (l ++ [b]).length else 0) + vlB (l ++ [b]) = 2 * ((if c = true then 2 ^ l.length else 0) + vlB l) + _
    rw [ih, List.length_append, List.length_singleton, Nat.pow_succ]
    split <;> omega
theorem ltB_vl : ∀ l m : List Bool, l.length = m.length → (ltB l m = true ↔ vlB l < vlB m)
  | [], [], _ => by simp [ltB]
  | [], _ :: _, h => by simp at h
  | _ :: _, [], h => by simp at h
  | b :: l, c :: m, h => by
    have h : l.length = m.length := by simpa using h
    have ih := ltB_vl l m h
    have h1 := vl_lt l
    have h2 := vl_lt m
    rw [← h] at h2
    show ltB (b :: l) (c :: m) = true ↔ (if b = true then 2 ^ l.length else 0) + vlB l < (if c = true then 2 ^ m.length else 0) + vlB m
    rw [← h]
    cases b <;> cases c <;> simp [ltB, ih] <;> omega
theorem vl_bit : ∀ (l : List Bool) (i : Nat), i < l.length → l[i]? = some (decide (vlB l / 2 ^ (l.length - 1 - i) % 2 = 1))
  | [], i, h => by simp at h
  | b :: l, 0, h => by
    have hv := vl_lt l
    show some b = some (decide (((if b = true then 2 ^ l.length else 0) + vlB l) / 2 ^ (l.length + 1 - 1 - 0) % 2 = 1))
    rw [Nat.add_sub_cancel, Nat.sub_zero]
    cases b with
    | false => rw [if_neg Bool.false_ne_true, Nat.zero_add, Nat.div_eq_of_lt hv]; rfl
    | true => rw [if_pos rfl, Nat.add_div_left _ (Nat.two_pow_pos _), Nat.div_eq_of_lt hv]; rfl
  | b :: l, i + 1, h => by
    have hi : i < l.length := by simpa using h
    have ih := vl_bit l i hi
    show l[i]? = some (decide (((if b = true then 2 ^ l.length else 0) + vlB l) / 2 ^ (l.length + 1 - 1 - (i + 1)) % 2 = 1))
    rw [ih]
    have e : l.length + 1 - 1 - (i + 1) = l.length - 1 - i := by omega
    rw [e]
    generalize hj : l.length - 1 - i = j
    have e2 : l.length = j + (i + 1) := by omega
    congr 2
    cases b with
    | false => rw [if_neg Bool.false_ne_true, Nat.zero_add]
    | true =>
      rw [if_pos rfl, e2, Nat.pow_add, Nat.mul_add_div (Nat.two_pow_pos _), Nat.pow_succ, Nat.mul_comm (2 ^ i) 2, Nat.add_comm, Nat.add_mul_mod_self_left]
def bitsN (k p : Nat) : List Bool := (List.range p).map fun i => decide (k / 2 ^ (p - 1 - i) % 2 = 1)
theorem bitsN_vl (l : List Bool) : bitsN (vlB l) l.length = l := by
  apply List.ext_getElem?
  intro i
  by_cases h : i < l.length
  · rw [vl_bit l i h, bitsN, List.getElem?_map, List.getElem?_range h]; rfl
  · rw [List.getElem?_eq_none (by simp [bitsN]; omega), List.getElem?_eq_none (by omega)]
/-! ### forward counts -/
def dotN : List Nat → List Nat → Nat
  | a :: l, b :: m => a * b + dotN l m
  | _, _ => 0
theorem dotN_zero (n : Nat) : ∀ m : List Nat, dotN (List.replicate n 0) m = 0 := by
  induction n with
  | zero => intro m; rfl
  | succ n ih => intro m; cases m with
    | nil => rfl
    | cons b m => show 0 * b + dotN (List.replicate n 0) m = 0; rw [ih]; simp
theorem dotN_set : ∀ (l w : List Nat) (i x : Nat), i < l.length → l.length = w.length → dotN (l.set i (l.getD i 0 + x)) w = dotN l w + x * w.getD i 0
  | [], w, i, x, h, _ => by simp at h
  | a :: l, [], i, x, _, h => by simp at h
  | a :: l, b :: w, 0, x, _, _ => by simp [dotN, Nat.add_mul]; omega
  | a :: l, b :: w, i + 1, x, h, hl => by
    have := dotN_set l w i x (by simpa using h) (by simpa using hl)
    simp only [List.set_cons_succ, List.getD_cons_succ, dotN]
    rw [this]; omega
theorem dotN_one : ∀ (l : List Nat) (s g : Nat), dotN l ((List.range' s l.length).map fun a => if a = g then 1 else 0) = if s ≤ g then l.getD (g - s) 0 else 0
  | [], s, g => by simp [dotN]
  | a :: l, s, g => by
    have ih := dotN_one l (s + 1) g
    rw [List.length_cons, List.range'_succ, List.map_cons, dotN, ih]
    by_cases h : s = g
    · subst h
      simp
      omega
    · by_cases h2 : s ≤ g
      · have e : g - s = (g - (s + 1)) + 1 := by omega
        rw [if_neg h, if_pos h2, if_pos (by omega), e, List.getD_cons_succ]; omega
      · rw [if_neg h, if_neg h2, if_neg (by omega)]; simp
theorem dotN_tab0 {M : Mc} {l : List Nat} (g : Nat) (h : l.length = M.length) : dotN l (tab M g 0) = l.getD g 0 := by
  have := dotN_one l 0 g
  rw [h, ← List.range_eq_range'] at this
  simpa [tab] using this
theorem dotN_one' : ∀ (w : List Nat) (s g : Nat), dotN ((List.range' s w.length).map fun a => if a = g then 1 else 0) w = if s ≤ g then w.getD (g - s) 0 else 0
  | [], s, g => by simp [dotN]
  | a :: l, s, g => by
    have ih := dotN_one' l (s + 1) g
    rw [List.length_cons, List.range'_succ, List.map_cons, dotN, ih]
    by_cases h : s = g
    · subst h
      simp
      omega
    · by_cases h2 : s ≤ g
      · have e : g - s = (g - (s + 1)) + 1 := by omega
        rw [if_neg h, if_pos h2, if_pos (by omega), e, List.getD_cons_succ]; omega
      · rw [if_neg h, if_neg h2, if_neg (by omega)]; simp
/-- ways: what is known of the forward counts behind t turns -/
def Ways (M : Mc) (g t : Nat) (w : List Nat) : Prop := w.length = M.length ∧ ∀ n, dotN w (tab M g n) = tb M g (n + t) g
theorem Ways.start (M : Mc) (g : Nat) : Ways M g 0 ((List.range M.length).map fun a => if a = g then 1 else 0) := by
  refine ⟨by simp, fun n => ?_⟩
  have := dotN_one' (tab M g n) 0 g
  rw [tab_len, ← List.range_eq_range'] at this
  simpa [tb] using this
theorem Ways.get {M : Mc} {g t : Nat} {w : List Nat} (h : Ways M g t w) : w.getD g 0 = tb M g t g := by
  have := h.2 0
  rw [dotN_tab0 g h.1, Nat.zero_add] at this
  exact this
/-- one turn: more, so that for all weights .. -/
def Push (M : Mc) (w : List Nat) (k : Nat) (more : List Nat) : Prop := more.length = M.length ∧ ∀ t : List Nat, t.length = M.length → dotN more t = dotN (w.take k) ((oneL M t).take k)
theorem Push.done {M : Mc} {g t : Nat} {w more : List Nat} (h : Ways M g t w) (p : Push M w M.length more) : Ways M g (t + 1) more := by
  refine ⟨p.1, fun n => ?_⟩
  rw [p.2 _ (tab_len M g n), List.take_of_length_le (by rw [h.1]; exact Nat.le_refl _), List.take_of_length_le (by simp [oneL])]
  have := h.2 (n + 1)
  rw [show n + 1 + t = n + (t + 1) by omega] at this
  exact this
theorem Push.start (M : Mc) (w : List Nat) : Push M w 0 (List.replicate M.length 0) := ⟨by simp, fun t ht => by rw [dotN_zero]; simp [dotN]⟩
theorem dotN_take : ∀ (l w : List Nat) (k : Nat), k < l.length → l.length = w.length → dotN (l.take (k + 1)) (w.take (k + 1)) = dotN (l.take k) (w.take k) + l.getD k 0 * w.getD k 0
  | [], w, k, h, _ => by simp at h
  | a :: l, [], k, _, h => by simp at h
  | a :: l, b :: w, 0, _, _ => by simp [dotN]
  | a :: l, b :: w, k + 1, h, hl => by
    have := dotN_take l w k (by simpa using h) (by simpa using hl)
    simp only [List.take_succ_cons, dotN, List.getD_cons_succ]
    rw [this]; omega
def addAt (more : List Nat) (x : Nat) : Option Nat → List Nat
  | some e => more.set e (more.getD e 0 + x)
  | none => more
theorem addAt_len (more : List Nat) (x : Nat) (o : Option Nat) : (addAt more x o).length = more.length := by
  cases o <;> simp [addAt]
theorem Push.step {M : Mc} {w more : List Nat} {k : Nat} (ok : M.Ok) (hw : w.length = M.length) {r : Option Nat × Option Nat} (hr : M[k]? = some r) (h : Push M w k more) : Push M w (k + 1) (addAt (addAt more (w.getD k 0) r.1) (w.getD k 0) r.2) := by
  refine ⟨by rw [addAt_len, addAt_len]; exact h.1, fun t ht => ?_⟩
  have hk : k < M.length := (List.getElem?_eq_some_iff.mp hr).1
  rw [dotN_take _ _ _ (by rw [hw]; exact hk) (by simp [oneL, hw]), ← h.2 t ht]
  have ho : (oneL M t).getD k 0 = ((ends r).map fun e => t.getD e 0).sum := by
    unfold oneL
    rw [List.getD_eq_getElem?_getD, List.getElem?_map, hr]
    rfl
  rw [ho]
  have he := ok r (List.mem_of_getElem? hr)
  obtain ⟨x, y⟩ := r
  have hl := h.1
  cases x with
  | none =>
    cases y with
    | none => simp [addAt, ends]
    | some v =>
      have : v < M.length := he v (by simp [ends])
      simp only [addAt, ends]
      rw [dotN_set _ _ _ _ (by omega) (by omega)]
      simp
  | some u =>
    have hu : u < M.length := he u (by simp [ends])
    cases y with
    | none =>
      simp only [addAt, ends]
      rw [dotN_set _ _ _ _ (by omega) (by omega)]
      simp
    | some v =>
      have hv : v < M.length := he v (by simp [ends])
      simp only [addAt, ends]
      rw [dotN_set _ _ _ _ (by rw [List.length_set]; omega) (by rw [List.length_set]; omega), dotN_set _ _ _ _ (by omega) (by omega)]
      simp [Nat.mul_add]
      omega
end G

namespace G
open PySem PySem.Spec PyProof.Rows L2
/-! machines as data -/
def oD : Option Nat → D
  | none => .non
  | some e => .int (e : Nat)
abbrev rD (r : Option Nat × Option Nat) : D := .tup [oD r.1, oD r.2]
abbrev mD (M : Mc) : D := .tup (M.map rD)
abbrev nD (n : Nat) : D := .int (n : Nat)
abbrev nL (l : List Nat) : D := .lst (l.map nD)
abbrev tL (ls : List (List Nat)) : D := .lst (ls.map nL)
theorem fLen_tup {ns : List D} {P : D → Prop} (h : P (.int (ns.length : Nat))) : fLen [.tup ns] P := h
theorem fIsNot_o {o : Option Nat} {P : D → Prop} (h : P (.bl o.isSome)) : fIsNot (oD o) .non P := by cases o <;> exact h
theorem fIs_o {o : Option Nat} {P : D → Prop} (h : P (.bl o.isNone)) : fIs (oD o) .non P := by cases o <;> exact h
theorem fIx_m {M : Mc} {a : Nat} {r : Option Nat × Option Nat} {P : D → Prop} (h : M[a]? = some r) (hp : P (.tup [oD r.1, oD r.2])) : fIx (mD M) (.int (a : Nat)) P :=
  ⟨rD r, atI_of rfl (by rw [List.getElem?_map, h]; rfl), hp⟩
theorem getD_get {l : List Nat} {i : Nat} (h : i < l.length) : l[i]? = some (l.getD i 0) := by
  rw [List.getElem?_eq_getElem h, List.getD_eq_getElem?_getD, List.getElem?_eq_getElem h]; rfl
theorem fIx_n {l : List Nat} {i : Nat} {P : D → Prop} (h : i < l.length) (hp : P (.int (l.getD i 0 : Nat))) : fIx (nL l) (.int (i : Nat)) P :=
  ⟨nD (l.getD i 0), atI_of rfl (by rw [List.getElem?_map, getD_get h]; rfl), hp⟩
theorem fIx_nO {l : List Nat} {o : Option Nat} {e : Nat} {P : D → Prop} (ho : o = some e) (h : e < l.length) (hp : P (.int (l.getD e 0 : Nat))) : fIx (nL l) (oD o) P := by
  subst ho
  exact fIx_n h hp
theorem fSl_nL {l : List Nat} {lo hi : Option Int} {P : D → Prop} (hp : P (nL (cutD l lo hi))) : fSl (nL l) lo hi P := by
  show P (.lst (cutD (l.map nD) lo hi))
  have : cutD (l.map nD) lo hi = (cutD l lo hi).map nD := by
    unfold cutD
    rw [List.length_map, ← List.map_drop, ← List.map_take]
  rw [this]
  exact hp
theorem fAddI_bs {a b : List Bool} {P : D → Prop} (h : a.length + b.length ≤ 10000000) (hp : P (.str (bs (a ++ b)))) : fAddI (.str (bs a)) (.str (bs b)) P := by
  refine ⟨?_, by rw [bs_app]; exact hp⟩
  rw [bs_len, bs_len, sizeLine_eq]
  omega
theorem fAdd_nL {a b : List Nat} {P : D → Prop} (h : a.length + b.length ≤ 1000000) (hp : P (nL (a ++ b))) : fAdd (nL a) (nL b) P := by
  refine ⟨by rw [List.length_map, List.length_map]; exact sl_le h, ?_⟩
  rw [← List.map_append]; exact hp
theorem fIx_t {ls : List (List Nat)} {i : Nat} {l : List Nat} {P : D → Prop} (h : ls[i]? = some l) (hp : P (nL l)) : fIx (tL ls) (.int (i : Nat)) P :=
  ⟨nL l, atI_of rfl (by rw [List.getElem?_map, h]; rfl), hp⟩
theorem fEq_sb1 {b : Bool} {P : D → Prop} (hp : P (.bl b)) : fEq (sb b) (.str "1") P := by
  rw [lit1]
  refine fEq_bs ?_
  cases b <;> exact hp
theorem enum_map {α : Type} {f : α → D} (xs : List α) : enumD (xs.map f) = xs.zipIdx.map fun p => D.tup [.int (p.2 : Nat), f p.1] := by
  apply List.ext_getElem?
  intro i
  unfold enumD
  rw [List.getElem?_map, List.getElem?_map, List.length_map]
  by_cases h : i < xs.length
  · rw [List.getElem?_range h, List.getElem?_zipIdx, List.getElem?_eq_getElem h]
    simp [List.getD_eq_getElem?_getD, h]
  · rw [List.getElem?_eq_none (by simp; omega), List.getElem?_eq_none (by simp; omega)]
    rfl
theorem enum_get {α : Type} {xs : List α} {k : Nat} {x : α × Nat} (h : xs.zipIdx[k]? = some x) : ∃ b, xs[k]? = some b ∧ x = (b, k) := by
  rw [List.getElem?_zipIdx] at h
  cases hb : xs[k]? with
  | none => rw [hb] at h; cases h
  | some b =>
    rw [hb] at h
    simp at h
    exact ⟨b, rfl, h.symm⟩
theorem enum_bs (l : List Bool) : enumD (signs (bs l)) = l.zipIdx.map fun p => D.tup [.int (p.2 : Nat), sb p.1] := by
  rw [signs_bs, enum_map]
theorem zipIdx_len {α : Type} (xs : List α) : xs.zipIdx.length = xs.length := by simp
theorem drop_get {α : Type} {l : List α} {k : Nat} {b : α} (hk : l[k]? = some b) : l.drop k = b :: l.drop (k + 1) := by
  obtain ⟨h, e⟩ := List.getElem?_eq_some_iff.mp hk
  rw [List.drop_eq_getElem_cons h, e]
theorem len_get {M : Mc} {a : Nat} (h : a < M.length) : ∃ r, M[a]? = some r := ⟨_, List.getElem?_eq_getElem h⟩
theorem nx_of {M : Mc} {a : Nat} {r : Option Nat × Option Nat} (h : M[a]? = some r) : nx M a false = r.1 ∧ nx M a true = r.2 := by
  unfold nx
  rw [h]
  exact ⟨rfl, rfl⟩
theorem fSum_n {l : List Nat} {P : D → Prop} (hp : P (.int (l.sum : Nat))) : fSum [nL l] P := by
  refine ⟨l.map fun n => ((n : Nat) : Int), ?_, ?_⟩
  · have : l.map nD = (l.map fun n => ((n : Nat) : Int)).map D.int := by rw [List.map_map]; rfl
    rw [this, intsOf_map]
  · have : (l.map fun n => ((n : Nat) : Int)).sum = ((l.sum : Nat) : Int) := by
      clear hp
      induction l with
      | nil => rfl
      | cons a l ih => rw [List.map_cons, List.sum_cons, List.sum_cons, ih]; omega
    rw [this]; exact hp
/-- 1 << p -/
theorem shl_one {p : Nat} {P : D → Prop} (h : p ≤ 100000) (hp : P (.int ((2 ^ p : Nat) : Int))) : fShl (.int 1) (.int (p : Nat)) P := by
  refine ⟨shl_ok (n := 1) (by decide) (by omega), ?_⟩
  rw [Int.one_mul, Int.toNat_natCast]
  have e : (2 : Int) ^ p = ((2 ^ p : Nat) : Int) := by rw [Int.natCast_pow]; rfl
  rw [e]; exact hp
theorem bits_pos {n : Nat} (h : 0 < n) : ((Builtin.Int.intBits (n : Int) : Nat) : Int) - 1 = ((n.log2 : Nat) : Int) := by
  unfold Builtin.Int.intBits
  have : ((n : Int) == 0) = false := by simpa using (by omega : n ≠ 0)
  rw [this]
  simp only [Bool.false_eq_true, if_false, Int.natAbs_natCast]
  omega
/-! rows parted -/
theorem rgC_up {n c : Nat} (hc : 0 < c) (hc2 : c ≤ 100000) (hn : n ≤ 100000) : RgC 0 (n : Int) (c : Int) ((n + c - 1) / c) := by
  have hs : Builtin.Range.rangeSize 0 (n : Int) (c : Int) = (((n + c - 1) / c : Nat) : Int) := by
    unfold Builtin.Range.rangeSize
    rw [if_pos (by omega)]
    by_cases h : (0 : Int) < n
    · rw [if_pos h]
      have e : ((n : Int) - 0 - 1) = ((n - 1 : Nat) : Int) := by omega
      rw [e, ← Int.natCast_ediv]
      have e2 : (n + c - 1) / c = (n - 1) / c + 1 := by
        rw [show n + c - 1 = (n - 1) + c by omega, Nat.add_div_right _ hc]
      rw [e2]
      omega
    · rw [if_neg h]
      have : n = 0 := by omega
      subst this
      rw [Nat.div_eq_of_lt (by omega)]
      rfl
  generalize hk0 : (n + c - 1) / c = k at hs
  refine ⟨by omega, by omega, ?_, hs⟩
  unfold Builtin.Range.small
  rw [hs]
  have hk : k ≤ n + c := by rw [← hk0]; exact Nat.le_trans (Nat.div_le_self _ _) (by omega)
  have e63 : (2 : Int) ^ 63 = 9223372036854775808 := by decide
  rw [if_pos (show (c : Int) > 0 by omega)]
  simp only [Builtin.Range.rangeFitsLong, Bool.and_eq_true, Bool.or_eq_true, decide_eq_true_eq, beq_iff_eq, e63]
  omega
def partsM (c : Nat) (l : List Bool) : List (List Bool) := (List.range ((l.length + c - 1) / c)).map fun i => (l.drop (i * c)).take c
theorem partsM_len (c : Nat) (l : List Bool) : (partsM c l).length = (l.length + c - 1) / c := by simp [partsM]
theorem partsM_whole {c q : Nat} {l : List Bool} (hc : 0 < c) (h : l.length = c * q) : (partsM c l).length = q := by
  rw [partsM_len, h, show c * q + c - 1 = (c - 1) + c * q by omega, Nat.add_mul_div_left _ _ hc, Nat.div_eq_of_lt (by omega), Nat.zero_add]
theorem partsM_get {c i : Nat} {l : List Bool} (h : i < (partsM c l).length) : (partsM c l)[i]? = some ((l.drop (i * c)).take c) := by
  have : i < (l.length + c - 1) / c := by rwa [partsM_len] at h
  unfold partsM
  rw [List.getElem?_map, List.getElem?_range this]
  rfl
theorem take_parts {c : Nat} (hc : 0 < c) : ∀ (q : Nat) (l : List Bool), l.length = c * q → ((List.range q).map fun i => (l.drop (i * c)).take c).flatten = l
  | 0, l, h => by
    have : l = [] := List.eq_nil_of_length_eq_zero (by simpa using h)
    subst this
    rfl
  | q + 1, l, h => by
    rw [List.range_succ_eq_map, List.map_cons, List.map_map, List.flatten_cons]
    have e : ((fun i => (l.drop (i * c)).take c) ∘ Nat.succ) = fun i => ((l.drop c).drop (i * c)).take c := by
      funext i
      show (l.drop ((i + 1) * c)).take c = _
      rw [List.drop_drop, Nat.add_mul, Nat.one_mul, Nat.add_comm]
    rw [e, take_parts hc q (l.drop c) (by rw [List.length_drop, h, Nat.mul_succ]; omega)]
    simp
theorem flat_partsM {c q : Nat} {l : List Bool} (hc : 0 < c) (h : l.length = c * q) : (partsM c l).flatten = l := by
  have hq := partsM_whole hc h
  rw [partsM_len] at hq
  unfold partsM
  rw [hq]
  exact take_parts hc q l h
theorem flat_get {c : Nat} : ∀ {ls : List (List Bool)} (_ : ∀ x ∈ ls, x.length = c) {i : Nat} {x : List Bool}, ls[i]? = some x → (ls.flatten.drop (i * c)).take c = x
  | [], _, i, x, h => by simp at h
  | a :: ls, hl, 0, x, h => by
    simp at h
    subst h
    have := hl a List.mem_cons_self
    rw [Nat.zero_mul, List.drop_zero, List.flatten_cons, ← this, List.take_left]
  | a :: ls, hl, i + 1, x, h => by
    have h0 := hl a List.mem_cons_self
    have := flat_get (ls := ls) (fun x hx => hl x (List.mem_cons_of_mem _ hx)) (i := i) (x := x) (by simpa using h)
    rw [List.flatten_cons, Nat.add_mul, Nat.one_mul, Nat.add_comm, ← List.drop_drop, ← h0, List.drop_left, h0]
    exact this
theorem flat_len {c : Nat} : ∀ {ls : List (List Bool)} (_ : ∀ x ∈ ls, x.length = c), ls.flatten.length = c * ls.length
  | [], _ => rfl
  | a :: ls, hl => by
    rw [List.flatten_cons, List.length_append, hl a List.mem_cons_self, flat_len (ls := ls) (fun x hx => hl x (List.mem_cons_of_mem _ hx)), List.length_cons, Nat.mul_succ]; omega
theorem parts_flat {c : Nat} (hc : 0 < c) {ls : List (List Bool)} (hl : ∀ x ∈ ls, x.length = c) : partsM c ls.flatten = ls := by
  have hn := partsM_whole hc (flat_len hl)
  apply List.ext_getElem?
  intro i
  by_cases h : i < ls.length
  · rw [partsM_get (by omega), List.getElem?_eq_getElem h, flat_get hl (List.getElem?_eq_getElem h)]
  · rw [List.getElem?_eq_none (by omega), List.getElem?_eq_none (by omega)]
/-- order of rows of bits as texts -/
theorem lt_bs : ∀ {l m : List Bool}, l.length = m.length → (decide ((bs l).cps.toList < (bs m).cps.toList) = ltB l m)
  | [], [], _ => by decide
  | [], _ :: _, h => by simp at h
  | _ :: _, [], h => by simp at h
  | a :: l, b :: m, h => by
    have ih := lt_bs (l := l) (m := m) (by simpa using h)
    rw [bs_cps, bs_cps] at ih ⊢
    rw [Bool.eq_iff_iff, decide_eq_true_iff] at ih ⊢
    rw [List.map_cons, List.map_cons, List.cons_lt_cons_iff, ih]
    show (bc a < bc b ∨ bc a = bc b ∧ ltB l m = true) ↔ ((!a && b) || (a == b && ltB l m)) = true
    cases a <;> cases b <;> simp [bc]
theorem fLt_bs {l m : List Bool} {P : D → Prop} (h : l.length = m.length) (hp : P (.bl (ltB l m))) : fLt (.str (bs l)) (.str (bs m)) P := by
  show P (.bl (decide ((bs l).cps.toList < (bs m).cps.toList)))
  rw [lt_bs h]; exact hp
theorem Shp.nD (n : Nat) : Shp 1 (nD n) := .int _
theorem Shp.nL (l : List Nat) : Shp 2 (nL l) := .lst fun d hd => by
  obtain ⟨n, _, rfl⟩ := List.mem_map.mp hd
  exact .int _
theorem deq_nL {a b : List Nat} : deq (G.nL a) (G.nL b) = decide (a = b) := by
  show PyData.eqv (.list (toPs (a.map G.nD))) (.list (toPs (b.map G.nD))) = _
  have : ∀ a b : List Nat, PyData.eqvAll (toPs (a.map G.nD)) (toPs (b.map G.nD)) = decide (a = b) := by
    intro a
    induction a with
    | nil => intro b; cases b <;> rfl
    | cons x a ih =>
      intro b
      cases b with
      | nil => rfl
      | cons y b =>
        show (PyData.eqv (.int (x : Nat)) (.int (y : Nat)) && PyData.eqvAll (toPs (a.map G.nD)) (toPs (b.map G.nD))) = _
        rw [ih]
        show (decide ((x : Int) = (y : Int)) && _) = _
        rw [Bool.eq_iff_iff]
        simp
        exact fun _ => by omega
  exact this a b
theorem fEq_nL {a b : List Nat} {P : D → Prop} (h : P (.bl (decide (a = b)))) : fEq (nL a) (nL b) P := ⟨(Shp.nL a).ok (by decide), (Shp.nL b).ok (by decide), by rw [deq_nL]; exact h⟩
theorem cutD_one {α : Type} (l : List α) : cutD l none (some 1) = l.take 1 := cutD_to l 1
theorem fIx_last {l t : List Bool} {b : Bool} {P : D → Prop} (e : l = t ++ [b]) (hl : l.length ≤ 1000000) (hp : P (sb b)) : fIx (.str (bs l)) (.int (-1)) P := by
  subst e
  exact fIx_bsl hl hp
theorem tb_le {M : Mc} (ok : M.Ok) (g : Nat) : ∀ n a, a < M.length → tb M g n a ≤ 2 ^ n
  | 0, a, h => by rw [tb_zero h]; split <;> simp
  | n + 1, a, h => by
    rw [tb_succ h, Nat.pow_succ]
    have : ∀ o : Option Nat, (∀ e, o = some e → e < M.length) → tbO M g n o ≤ 2 ^ n := fun o ho => by
      cases o with
      | none => exact Nat.zero_le _
      | some e => exact tb_le ok g n e (ho e rfl)
    have h1 := this (nx M a false) fun e he => nx_lt ok he
    have h2 := this (nx M a true) fun e he => nx_lt ok he
    omega
theorem ixN_nat {n k : Nat} (h : k < n) : ixN n (k : Int) = some k := by
  unfold ixN
  rw [if_pos (by omega), if_pos (by omega)]
  rfl
theorem oD_some (e : Nat) : oD (some e) = .int (e : Nat) := rfl
theorem Shp.oD (o : Option Nat) : Shp 1 (G.oD o) := by cases o with
  | none => exact ⟨rfl, Nat.zero_le _⟩
  | some e => exact .int _
theorem fNe_o {o : Option Nat} {g : Nat} {P : D → Prop} (hp : P (.bl (!decide (o = some g)))) : fNe (oD o) (.int (g : Nat)) P := by
  cases o with
  | none => exact ⟨by decide, (Shp.int _).ok (by decide), hp⟩
  | some e =>
    show P (.bl (!decide (((e : Nat) : Int) = (g : Nat))))
    have : decide (((e : Nat) : Int) = (g : Nat)) = decide (some e = some g) := by rw [Bool.eq_iff_iff]; simp; omega
    rw [this]; exact hp
theorem fNe_oo {o : Option Nat} {P : D → Prop} (hp : P (.bl false)) : fNe (oD o) (oD o) P := by
  cases o with
  | none => exact ⟨by decide, by decide, hp⟩
  | some e =>
    show P (.bl (!decide (((e : Nat) : Int) = (e : Nat))))
    rw [decide_eq_true rfl]; exact hp
theorem fNe_tupSame {n : Nat} {ds : List D} {P : D → Prop} (h : Shp n (.tup ds)) (hn : n ≤ 64) (hp : P (.bl false)) : fNe (.tup ds) (.tup ds) P := ⟨h.ok hn, h.ok hn, by rw [deq_same h]; exact hp⟩
theorem fMax_two {i j : Int} {P : D → Prop} (h : P (.int (if j > i then j else i))) : fMax [.int i, .int j] P := h
theorem fIx_lst {ds : List D} {k : Nat} {d : D} {P : D → Prop} (h : ds[k]? = some d) (hp : P d) : fIx (.lst ds) (.int (k : Nat)) P := ⟨d, atI_of rfl h, hp⟩
theorem fIx_tup {ds : List D} {k : Nat} {d : D} {P : D → Prop} (h : ds[k]? = some d) (hp : P d) : fIx (.tup ds) (.int (k : Nat)) P := ⟨d, atI_of rfl h, hp⟩
def addAll (more : List Nat) (x : Nat) (os : List (Option Nat)) : List Nat := os.foldl (fun m o => addAt m x o) more
theorem addAll_snoc (more : List Nat) (x : Nat) (os : List (Option Nat)) (o : Option Nat) : addAll more x (os ++ [o]) = addAt (addAll more x os) x o := by simp [addAll]
theorem addAll_len (x : Nat) : ∀ (os : List (Option Nat)) (more : List Nat), (addAll more x os).length = more.length
  | [], _ => rfl
  | o :: os, more => by
    show (addAll (addAt more x o) x os).length = _
    rw [addAll_len x os, addAt_len]
theorem map_set {l : List Nat} {i x : Nat} : (l.map nD).set i (nD x) = (l.set i x).map nD := by rw [List.map_set]
theorem rep_zero (n : Nat) : (List.replicate n [D.int 0]).flatten = (List.replicate n 0).map nD := by
  induction n with
  | zero => rfl
  | succ n ih => rw [List.replicate_succ, List.flatten_cons, ih, List.replicate_succ]; rfl
theorem rep_bl (n : Nat) (b : Bool) : (List.replicate n [D.bl b]).flatten = List.replicate n (D.bl b) := by
  induction n with
  | zero => rfl
  | succ n ih => rw [List.replicate_succ, List.flatten_cons, ih, List.replicate_succ]; rfl
theorem rep_non (n : Nat) : (List.replicate n [D.non]).flatten = List.replicate n D.non := by
  induction n with
  | zero => rfl
  | succ n ih => rw [List.replicate_succ, List.flatten_cons, ih, List.replicate_succ]; rfl
end G

namespace G
/-! rings in bursts -/
def wAt (w : List Bool) (i : Nat) : Bool := w.getD (i % w.length) false
def w1 (b : Bool) : Nat := if b then 1 else 0
def manyW (w : List Bool) (a : Nat) : Nat → Nat
  | 0 => 0
  | k + 1 => manyW w a k + w1 (wAt w (a + k))
theorem wAt_mod (w : List Bool) (i : Nat) : wAt w (i % w.length) = wAt w i := by unfold wAt; rw [Nat.mod_mod]
theorem wAt_per (w : List Bool) (i : Nat) : wAt w (i + w.length) = wAt w i := by unfold wAt; rw [Nat.add_mod_right]
theorem wAt_addmod (w : List Bool) (i k : Nat) : wAt w (i % w.length + k) = wAt w (i + k) := by unfold wAt; rw [Nat.mod_add_mod]
theorem manyW_mod (w : List Bool) (a : Nat) : ∀ k, manyW w (a % w.length) k = manyW w a k
  | 0 => rfl
  | k + 1 => by
    show manyW w (a % w.length) k + w1 (wAt w (a % w.length + k)) = _
    rw [manyW_mod w a k, wAt_addmod]; rfl
theorem manyW_succ' (w : List Bool) (a : Nat) : ∀ k, manyW w a (k + 1) = w1 (wAt w a) + manyW w (a + 1) k
  | 0 => by simp [manyW]
  | k + 1 => by
    show manyW w a (k + 1) + w1 (wAt w (a + (k + 1))) = _
    rw [manyW_succ' w a k]
    show _ = w1 (wAt w a) + (manyW w (a + 1) k + w1 (wAt w (a + 1 + k)))
    rw [show a + 1 + k = a + (k + 1) by omega]; omega
theorem manyW_add (w : List Bool) (a k : Nat) : ∀ l, manyW w a (k + l) = manyW w a k + manyW w (a + k) l
  | 0 => rfl
  | l + 1 => by
    show manyW w a (k + l) + w1 (wAt w (a + (k + l))) = manyW w a k + (manyW w (a + k) l + w1 (wAt w (a + k + l)))
    rw [manyW_add w a k l, Nat.add_assoc a k l]; omega
theorem manyW_le (w : List Bool) (a : Nat) : ∀ k, manyW w a k ≤ k
  | 0 => Nat.le_refl _
  | k + 1 => by
    have := manyW_le w a k
    show manyW w a k + w1 _ ≤ k + 1
    unfold w1
    split <;> omega
theorem manyW_mono (w : List Bool) (a : Nat) {k l : Nat} (h : k ≤ l) : manyW w a k ≤ manyW w a l := by
  obtain ⟨d, rfl⟩ := Nat.exists_eq_add_of_le h
  rw [manyW_add]; omega
theorem manyW_take (w : List Bool) : ∀ k, k ≤ w.length → manyW w 0 k = (w.take k).count true
  | 0, _ => by simp [manyW]
  | k + 1, h => by
    have hk : k < w.length := h
    have e : w.take (k + 1) = w.take k ++ [w[k]] := by rw [List.take_add_one, List.getElem?_eq_getElem hk]; rfl
    show manyW w 0 k + w1 (wAt w (0 + k)) = _
    rw [manyW_take w k (by omega), e, List.count_append]
    congr 1
    unfold wAt w1
    rw [Nat.zero_add, Nat.mod_eq_of_lt hk, List.getD_eq_getElem?_getD, List.getElem?_eq_getElem hk]
    show (if w[k] = true then 1 else 0) = _
    cases w[k] <;> rfl
theorem manyW_full (w : List Bool) : ∀ a, manyW w a w.length = w.count true
  | 0 => by rw [manyW_take w _ (Nat.le_refl _), List.take_length]
  | a + 1 => by
    have h1 := manyW_succ' w a w.length
    have h2 : manyW w a (w.length + 1) = manyW w a w.length + w1 (wAt w (a + w.length)) := rfl
    rw [wAt_per, manyW_full w a] at h2
    omega
theorem manyW_mul (w : List Bool) (a m : Nat) : manyW w a (w.length * m) = w.count true * m := by
  induction m with
  | zero => rfl
  | succ m ih =>
    rw [Nat.mul_succ, manyW_add, ih, ← manyW_mod w (a + w.length * m), Nat.add_mul_mod_self_left, manyW_mod, manyW_full, Nat.mul_succ]
theorem manyW_split (w : List Bool) (a k : Nat) : manyW w a k = w.count true * (k / w.length) + manyW w a (k % w.length) := by
  have := manyW_add w a (w.length * (k / w.length)) (k % w.length)
  rw [Nat.div_add_mod, manyW_mul, ← manyW_mod w (a + w.length * (k / w.length)), Nat.add_mul_mod_self_left, manyW_mod] at this
  exact this
/-! what stands by places, told by rooms -/
def PermN (o : List Nat) (n : Nat) : Prop := o.Perm (List.range n)
theorem PermN.len {o : List Nat} {n : Nat} (h : PermN o n) : o.length = n := by rw [List.Perm.length_eq h, List.length_range]
theorem PermN.lt {o : List Nat} {n r : Nat} (h : PermN o n) (hr : r ∈ o) : r < n := List.mem_range.mp ((List.Perm.mem_iff h).mp hr)
theorem PermN.mem {o : List Nat} {n r : Nat} (h : PermN o n) (hr : r < n) : r ∈ o := (List.Perm.mem_iff h).mpr (List.mem_range.mpr hr)
theorem PermN.nodup {o : List Nat} {n : Nat} (h : PermN o n) : o.Nodup := (List.Perm.nodup_iff h).mpr List.nodup_range
theorem PermN.inj {o : List Nat} {n a b r : Nat} (h : PermN o n) (ha : o[a]? = some r) (hb : o[b]? = some r) : a = b := by
  obtain ⟨ha1, ha2⟩ := List.getElem?_eq_some_iff.mp ha
  obtain ⟨hb1, hb2⟩ := List.getElem?_eq_some_iff.mp hb
  have hn := List.pairwise_iff_getElem.mp h.nodup
  rcases Nat.lt_trichotomy a b with z | z | z
  · exact absurd (ha2.trans hb2.symm) (hn a b ha1 hb1 z)
  · exact z
  · exact absurd (hb2.trans ha2.symm) (hn b a hb1 ha1 z)
theorem PermN.ins {o : List Nat} {n : Nat} (h : PermN o n) (r : Nat) : PermN (o.take r ++ n :: o.drop r) (n + 1) := by
  have h1 : (o.take r ++ n :: o.drop r).Perm (n :: o) := by
    have := (List.perm_middle (a := n) (l₁ := o.take r) (l₂ := o.drop r))
    rwa [List.take_append_drop] at this
  refine h1.trans ?_
  refine (List.Perm.cons n h).trans ?_
  rw [List.range_succ]
  exact (List.perm_append_singleton n (List.range n)).symm
/-- l tells by rooms what ws tells by places -/
def ByL (o ws l : List Nat) : Prop := ws.length = o.length ∧ l.length = o.length ∧ ∀ a r : Nat, o[a]? = some r → l[r]? = ws[a]?
theorem ByL.uniq {o ws l l' : List Nat} {n : Nat} (hp : PermN o n) (h : ByL o ws l) (h' : ByL o ws l') : l = l' := by
  apply List.ext_getElem?
  intro r
  by_cases hr : r < n
  · obtain ⟨a, ha⟩ := List.mem_iff_getElem?.mp (hp.mem hr)
    rw [h.2.2 a r ha, h'.2.2 a r ha]
  · have := hp.len
    have := h.2.1
    have := h'.2.1
    rw [List.getElem?_eq_none (by omega), List.getElem?_eq_none (by omega)]
theorem ByL.inj {o ws ws' l : List Nat} {n : Nat} (hp : PermN o n) (h : ByL o ws l) (h' : ByL o ws' l) : ws = ws' := by
  apply List.ext_getElem?
  intro a
  by_cases ha : a < o.length
  · obtain ⟨r, hr⟩ : ∃ r, o[a]? = some r := ⟨_, List.getElem?_eq_getElem ha⟩
    rw [← h.2.2 a r hr, ← h'.2.2 a r hr]
  · have := h.1
    have := h'.1
    rw [List.getElem?_eq_none (by omega), List.getElem?_eq_none (by omega)]
theorem ByL.all {o ws l : List Nat} {n : Nat} (hp : PermN o n) (h : ByL o ws l) {p : Nat → Prop} : (∀ x ∈ l, p x) ↔ ∀ x ∈ ws, p x := by
  constructor
  · intro hl x hx
    obtain ⟨a, ha⟩ := List.mem_iff_getElem?.mp hx
    have hlt := (List.getElem?_eq_some_iff.mp ha).1
    obtain ⟨r, hr⟩ : ∃ r, o[a]? = some r := ⟨_, List.getElem?_eq_getElem (by rw [← h.1]; exact hlt)⟩
    have := h.2.2 a r hr
    rw [ha] at this
    exact hl x (List.mem_of_getElem? this)
  · intro hw x hx
    obtain ⟨r, hr⟩ := List.mem_iff_getElem?.mp hx
    have hlt := (List.getElem?_eq_some_iff.mp hr).1
    obtain ⟨a, ha⟩ := List.mem_iff_getElem?.mp (hp.mem (r := r) (by rw [← hp.len, ← h.2.1]; exact hlt))
    have := h.2.2 a r ha
    rw [hr] at this
    exact hw x (List.mem_of_getElem? this.symm)
theorem ByL.rep {o : List Nat} {n : Nat} (hp : PermN o n) (x : Nat) : ByL o (List.replicate n x) (List.replicate n x) := by
  have hl := hp.len
  refine ⟨by rw [List.length_replicate, hl], by rw [List.length_replicate, hl], fun a r h => ?_⟩
  have ha := (List.getElem?_eq_some_iff.mp h).1
  have hr := hp.lt (List.mem_of_getElem? h)
  rw [List.getElem?_replicate, List.getElem?_replicate, if_pos hr, if_pos (by omega)]
theorem getD_of {l : List Nat} {i x : Nat} (h : l[i]? = some x) : l.getD i 0 = x := by rw [List.getD_eq_getElem?_getD, h]; rfl
theorem get_of_getD {l : List Nat} {i : Nat} (h : i < l.length) : l[i]? = some (l.getD i 0) := by
  rw [List.getElem?_eq_getElem h, List.getD_eq_getElem?_getD, List.getElem?_eq_getElem h]; rfl
/-- the doors of a place: by both bits on, or by one -/
def Door (b : Bool) (on : Nat) (d : Option Nat × Option Nat) : Prop := if b then d = (some on, some on) else (d = (some on, none) ∨ d = (none, some on))
def onOf (o : List Nat) (a : Nat) : Nat := o.getD ((a + 1) % o.length) 0
structure RingM (w : List Bool) (o : List Nat) (M : Mc) : Prop where
  hl : M.length = w.length
  hp : PermN o w.length
  hn : 0 < w.length
  at' : ∀ a r : Nat, o[a]? = some r → ∃ d, M[r]? = some d ∧ Door (wAt w a) (onOf o a) d
theorem onOf_lt {o : List Nat} {n a : Nat} (hp : PermN o n) (hn : 0 < n) : onOf o a < n := by
  have hl := hp.len
  have : (a + 1) % o.length < o.length := Nat.mod_lt _ (by omega)
  exact hp.lt (List.mem_of_getElem? (get_of_getD this))
theorem onOf_get {o : List Nat} {n a : Nat} (hp : PermN o n) (hn : 0 < n) : o[(a + 1) % n]? = some (onOf o a) := by
  have hl := hp.len
  have : (a + 1) % o.length < o.length := Nat.mod_lt _ (by omega)
  unfold onOf
  rw [← hl]
  exact get_of_getD this
theorem RingM.ok {w : List Bool} {o : List Nat} {M : Mc} (h : RingM w o M) : M.Ok := by
  intro d hd e he
  obtain ⟨r, hr⟩ := List.mem_iff_getElem?.mp hd
  have hlt : r < w.length := by rw [← h.hl]; exact (List.getElem?_eq_some_iff.mp hr).1
  obtain ⟨a, ha⟩ := List.mem_iff_getElem?.mp (h.hp.mem hlt)
  obtain ⟨d', h1, h2⟩ := h.at' a r ha
  rw [hr] at h1
  cases h1
  have hon := onOf_lt (a := a) h.hp h.hn
  rw [h.hl]
  unfold Door at h2
  split at h2
  · subst h2
    simp [ends] at he
    omega
  · rcases h2 with h2 | h2 <;> subst h2 <;> simp [ends] at he <;> omega
def stepL (w : List Bool) (ws : List Nat) : List Nat := (List.range w.length).map fun a => (1 + w1 (wAt w a)) * ws.getD ((a + 1) % w.length) 0
theorem stepL_len (w : List Bool) (ws : List Nat) : (stepL w ws).length = w.length := by simp [stepL]
theorem range_map_get {f : Nat → Nat} {n a : Nat} (h : a < n) : ((List.range n).map f)[a]? = some (f a) := by rw [List.getElem?_map, List.getElem?_range h]; rfl
theorem RingM.step {w : List Bool} {o : List Nat} {M : Mc} (h : RingM w o M) {ws l : List Nat} (hb : ByL o ws l) : ByL o (stepL w ws) (oneL M l) := by
  have hl := h.hp.len
  refine ⟨by rw [stepL_len, hl], by simp [oneL, h.hl, hl], fun a r ha => ?_⟩
  have hal : a < w.length := by rw [← hl]; exact (List.getElem?_eq_some_iff.mp ha).1
  obtain ⟨d, h1, h2⟩ := h.at' a r ha
  have hon := hb.2.2 _ _ (onOf_get (a := a) h.hp h.hn)
  have hm : (a + 1) % w.length < ws.length := by rw [hb.1, hl]; exact Nat.mod_lt _ h.hn
  rw [get_of_getD hm] at hon
  have e := getD_of hon
  unfold stepL oneL
  rw [range_map_get hal, List.getElem?_map, h1]
  show some ((ends d).map fun e => l.getD e 0).sum = some ((1 + w1 (wAt w a)) * ws.getD ((a + 1) % w.length) 0)
  unfold Door at h2
  split at h2
  · rename_i hw
    subst h2
    simp only [ends, Option.toList, List.singleton_append, List.map_cons, List.map_nil, List.sum_cons, List.sum_nil, e, hw, w1, if_pos]
    congr 1; omega
  · rename_i hw
    have hw : wAt w a = false := by simpa using hw
    have e : l[onOf o a]?.getD 0 = ws[(a + 1) % w.length]?.getD 0 := by simpa [List.getD_eq_getElem?_getD] using e
    rcases h2 with h2 | h2 <;> subst h2 <;> simp [ends, e, hw, w1]
/-- many steps -/
def itL (f : List Nat → List Nat) : Nat → List Nat → List Nat
  | 0, l => l
  | k + 1, l => f (itL f k l)
theorem itL_len {w : List Bool} {ws : List Nat} (h : ws.length = w.length) : ∀ q, (itL (stepL w) q ws).length = w.length
  | 0 => h
  | q + 1 => stepL_len w _
theorem itL_step (w : List Bool) (hn : 0 < w.length) (ws : List Nat) (hw : ws.length = w.length) : ∀ q a, a < w.length → (itL (stepL w) q ws).getD a 0 = 2 ^ manyW w a q * ws.getD ((a + q) % w.length) 0
  | 0, a, h => by
    show ws.getD a 0 = 2 ^ 0 * _
    rw [Nat.add_zero, Nat.mod_eq_of_lt h]; simp
  | q + 1, a, h => by
    have e0 : (stepL w (itL (stepL w) q ws)).getD a 0 = (1 + w1 (wAt w a)) * (itL (stepL w) q ws).getD ((a + 1) % w.length) 0 := getD_of (range_map_get h)
    show (stepL w (itL (stepL w) q ws)).getD a 0 = _
    rw [e0, itL_step w hn ws hw q _ (Nat.mod_lt _ hn), manyW_mod, manyW_succ', Nat.pow_add, Nat.mod_add_mod, show a + 1 + q = a + (q + 1) by omega, ← Nat.mul_assoc]
    congr 2
    unfold w1
    split <;> rfl
theorem RingM.steps {w : List Bool} {o : List Nat} {M : Mc} (h : RingM w o M) {ws l : List Nat} (hb : ByL o ws l) : ∀ q, ByL o (itL (stepL w) q ws) (itL (oneL M) q l)
  | 0 => hb
  | q + 1 => h.step (h.steps hb q)
/-- counts of rows anywhere -/
theorem itL_tab (M : Mc) (g : Nat) : ∀ n, itL (oneL M) n (tab M g 0) = tab M g n
  | 0 => rfl
  | n + 1 => by
    show oneL M (itL (oneL M) n (tab M g 0)) = oneL M (tab M g n)
    rw [itL_tab M g n]
def countsA (M : Mc) (n : Nat) : List Nat := itL (oneL M) n (List.replicate M.length 1)
def countsW (w : List Bool) (k : Nat) : List Nat := (List.range w.length).map fun a => 2 ^ manyW w a k
theorem RingM.counts {w : List Bool} {o : List Nat} {M : Mc} (h : RingM w o M) (k : Nat) : ByL o (countsW w k) (countsA M k) := by
  have := h.steps (ws := List.replicate w.length 1) (l := List.replicate M.length 1) (by rw [h.hl]; exact ByL.rep h.hp 1) k
  have e : itL (stepL w) k (List.replicate w.length 1) = countsW w k := by
    apply List.ext_getElem?
    intro a
    by_cases ha : a < w.length
    · rw [get_of_getD (by rw [itL_len (by simp)]; exact ha), itL_step w h.hn _ (by simp) k a ha, countsW, range_map_get ha]
      congr 1
      rw [List.getD_eq_getElem?_getD, List.getElem?_replicate, if_pos (Nat.mod_lt _ h.hn)]
      simp
    · rw [List.getElem?_eq_none (by rw [itL_len (by simp)]; omega), List.getElem?_eq_none (by simp [countsW]; omega)]
  rw [e] at this
  exact this
theorem RingM.rounds {w : List Bool} {o : List Nat} {M : Mc} (h : RingM w o M) {a g : Nat} (ha : o[a]? = some g) (k : Nat) : tb M g k g = if k % w.length = 0 then 2 ^ (w.count true * (k / w.length)) else 0 := by
  have hl := h.hp.len
  have hal : a < w.length := by rw [← hl]; exact (List.getElem?_eq_some_iff.mp ha).1
  have h0 : ByL o ((List.range w.length).map fun b => if b = a then 1 else 0) (tab M g 0) := by
    refine ⟨by simp [hl], by simp [tab, h.hl, hl], fun b r hb => ?_⟩
    have hbl : b < w.length := by rw [← hl]; exact (List.getElem?_eq_some_iff.mp hb).1
    have hr := h.hp.lt (List.mem_of_getElem? hb)
    rw [range_map_get hbl]
    unfold tab
    rw [h.hl, range_map_get hr]
    by_cases e : b = a
    · subst e
      rw [ha] at hb
      cases hb
      simp
    · rw [if_neg e, if_neg]
      intro e2
      subst e2
      exact e (h.hp.inj hb ha)
  have := (h.steps h0 k).2.2 a g ha
  rw [itL_tab] at this
  have hgd : tb M g k g = (itL (stepL w) k ((List.range w.length).map fun b => if b = a then 1 else 0)).getD a 0 := by
    unfold tb
    rw [List.getD_eq_getElem?_getD, this, ← List.getD_eq_getElem?_getD]
  rw [hgd, itL_step w h.hn _ (by simp) k a hal, getD_of (range_map_get (Nat.mod_lt _ h.hn))]
  by_cases hk : k % w.length = 0
  · have e1 : (a + k) % w.length = a := by
      rw [Nat.add_mod, hk, Nat.add_zero, Nat.mod_mod, Nat.mod_eq_of_lt hal]
    rw [if_pos hk, if_pos e1, Nat.mul_one, manyW_split w a k, hk]
    show 2 ^ (w.count true * (k / w.length) + 0) = _
    rw [Nat.add_zero]
  · rw [if_neg hk, if_neg, Nat.mul_zero]
    intro e
    have h1 : (a + k) % w.length = a % w.length := by rw [e, Nat.mod_eq_of_lt hal]
    have h2 := Nat.div_add_mod (a + k) w.length
    have h3 := Nat.div_add_mod k w.length
    rw [h1, Nat.mod_eq_of_lt hal] at h2
    apply hk
    have : k = w.length * ((a + k) / w.length) := by omega
    rw [this, Nat.mul_mod_right]
/-! letting down -/
def downG (p : Nat) (l more : List Nat) : List Nat := List.zipWith (fun one m => min one (m / 2 ^ p)) l more
def downR (M : Mc) (p q : Nat) (l : List Nat) : List Nat := downG p l (itL (oneL M) q l)
def downP (w : List Bool) (p q : Nat) (ws : List Nat) : List Nat := downG p ws (itL (stepL w) q ws)
theorem downG_len {p : Nat} {l m : List Nat} (h : l.length = m.length) : (downG p l m).length = l.length := by simp [downG, h]
theorem downG_get {p a : Nat} {l m : List Nat} : (downG p l m)[a]? = match l[a]?, m[a]? with | some x, some y => some (min x (y / 2 ^ p)) | _, _ => none := by
  unfold downG
  rw [List.getElem?_zipWith]
  cases l[a]? <;> cases m[a]? <;> rfl
theorem RingM.down {w : List Bool} {o : List Nat} {M : Mc} (h : RingM w o M) {ws l : List Nat} (hb : ByL o ws l) (p q : Nat) : ByL o (downP w p q ws) (downR M p q l) := by
  have hs := h.steps hb q
  refine ⟨by rw [downP, downG_len (by rw [hb.1, hs.1]), hb.1], by rw [downR, downG_len (by rw [hb.2.1, hs.2.1]), hb.2.1], fun a r ha => ?_⟩
  rw [downR, downP, downG_get, downG_get, hb.2.2 a r ha, hs.2.2 a r ha]
theorem sum_le_of : ∀ {l m : List Nat}, l.length = m.length → (∀ i, l.getD i 0 ≤ m.getD i 0) → l.sum ≤ m.sum ∧ (l.sum = m.sum → l = m)
  | [], [], _, _ => ⟨Nat.le_refl _, fun _ => rfl⟩
  | [], _ :: _, h, _ => by simp at h
  | _ :: _, [], h, _ => by simp at h
  | a :: l, b :: m, h, hi => by
    obtain ⟨h1, h2⟩ := sum_le_of (l := l) (m := m) (by simpa using h) (fun i => by simpa using hi (i + 1))
    have h0 : a ≤ b := by simpa using hi 0
    refine ⟨by simp only [List.sum_cons]; omega, fun e => ?_⟩
    simp only [List.sum_cons] at e
    have e1 : a = b := by omega
    have e2 : l.sum = m.sum := by omega
    rw [e1, h2 e2]
theorem downG_le {p : Nat} {l m : List Nat} (h : l.length = m.length) : (downG p l m).sum ≤ l.sum ∧ ((downG p l m).sum = l.sum → downG p l m = l) := by
  refine sum_le_of (downG_len h) fun i => ?_
  by_cases hi : i < l.length
  · have h1 := get_of_getD (l := l) hi
    have h2 := get_of_getD (l := m) (by omega : i < m.length)
    have : (downG p l m)[i]? = some (min (l.getD i 0) (m.getD i 0 / 2 ^ p)) := by rw [downG_get, h1, h2]
    rw [getD_of this]
    exact Nat.min_le_left _ _
  · have : (downG p l m)[i]? = none := List.getElem?_eq_none (by rw [downG_len h]; omega)
    rw [List.getD_eq_getElem?_getD, this]
    exact Nat.zero_le _
/-- till nothing changes -/
def limF (f : List Nat → List Nat) : Nat → List Nat → List Nat
  | 0, l => l
  | k + 1, l => if f l = l then l else limF f k (f l)
/-- a letting down -/
def Dn (n : Nat) (f : List Nat → List Nat) : Prop := ∀ l, l.length = n → (f l).length = n ∧ (f l).sum ≤ l.sum ∧ ((f l).sum = l.sum → f l = l)
theorem limF_fix {n : Nat} {f : List Nat → List Nat} (hf : Dn n f) : ∀ k l, l.length = n → l.sum ≤ k → f (limF f k l) = limF f k l ∧ (limF f k l).length = n
  | 0, l, hl, h => by
    obtain ⟨h1, h2, h3⟩ := hf l hl
    exact ⟨h3 (by omega), hl⟩
  | k + 1, l, hl, h => by
    unfold limF
    split
    · rename_i e
      exact ⟨e, hl⟩
    · rename_i e
      obtain ⟨h1, h2, h3⟩ := hf l hl
      exact limF_fix hf k (f l) h1 (by
        have : (f l).sum ≠ l.sum := fun z => e (h3 z)
        omega)
theorem limF_any {n : Nat} {f : List Nat → List Nat} (hf : Dn n f) : ∀ k m l, l.length = n → l.sum ≤ k → l.sum ≤ m → limF f k l = limF f m l
  | 0, 0, l, _, _, _ => rfl
  | 0, m + 1, l, hl, h, _ => by
    obtain ⟨h1, h2, h3⟩ := hf l hl
    have e := h3 (by omega)
    show l = if f l = l then l else _
    rw [if_pos e]
  | k + 1, 0, l, hl, _, h => by
    obtain ⟨h1, h2, h3⟩ := hf l hl
    have e := h3 (by omega)
    show (if f l = l then l else _) = l
    rw [if_pos e]
  | k + 1, m + 1, l, hl, hk, hm => by
    unfold limF
    split
    · rfl
    · rename_i e
      obtain ⟨h1, h2, h3⟩ := hf l hl
      have : (f l).sum ≠ l.sum := fun z => e (h3 z)
      exact limF_any hf k m (f l) h1 (by omega) (by omega)
theorem limF_next {n : Nat} {f : List Nat → List Nat} (hf : Dn n f) {k : Nat} {l : List Nat} (hl : l.length = n) (hk : l.sum ≤ k) (e : f l ≠ l) : limF f k (f l) = limF f k l := by
  obtain ⟨h1, h2, h3⟩ := hf l hl
  have hne : (f l).sum ≠ l.sum := fun z => e (h3 z)
  rw [limF_any hf k (k + 1) l hl hk (by omega)]
  show _ = if f l = l then l else limF f k (f l)
  rw [if_neg e]
theorem dn_R {M : Mc} (p q : Nat) : Dn M.length (downR M p q) := fun l hl => by
  have hq : ∀ q, (itL (oneL M) q l).length = M.length := fun q => by
    cases q with
    | zero => exact hl
    | succ q => simp [itL, oneL]
  have h0 : l.length = (itL (oneL M) q l).length := by rw [hq, hl]
  exact ⟨by rw [downR, downG_len h0, hl], downG_le h0⟩
theorem dn_P {w : List Bool} (p q : Nat) : Dn w.length (downP w p q) := fun l hl => by
  have h0 : l.length = (itL (stepL w) q l).length := by rw [itL_len hl, hl]
  exact ⟨by rw [downP, downG_len h0, hl], downG_le h0⟩
theorem RingM.lim {w : List Bool} {o : List Nat} {M : Mc} (h : RingM w o M) (p q : Nat) : ∀ k ws l, ByL o ws l → ByL o (limF (downP w p q) k ws) (limF (downR M p q) k l)
  | 0, ws, l, hb => hb
  | k + 1, ws, l, hb => by
    have hd := h.down hb p q
    unfold limF
    by_cases e : downP w p q ws = ws
    · have e2 : downR M p q l = l := by
        rw [e] at hd
        exact hd.uniq h.hp hb
      rw [if_pos e, if_pos e2]
      exact hb
    · have e2 : ¬ downR M p q l = l := fun z => e (by
        rw [z] at hd
        exact hd.inj h.hp hb)
      rw [if_neg e, if_neg e2]
      exact RingM.lim h p q k _ _ hd
/-- where something is let stand there are bits enough all round -/
theorem round_enough {w : List Bool} (hn : 0 < w.length) {p q : Nat} {ws : List Nat} (hl : ws.length = w.length) (he : downP w p q ws = ws) (hs : 0 < ws.sum) : p * w.length ≤ w.count true * q := by
  have hst : ∀ a, a < w.length → ws.getD a 0 * 2 ^ p ≤ 2 ^ manyW w a q * ws.getD ((a + q) % w.length) 0 := fun a ha => by
    have h1 := get_of_getD (l := ws) (i := a) (by omega)
    have h2 := get_of_getD (l := itL (stepL w) q ws) (i := a) (by rw [itL_len hl]; exact ha)
    have : (downP w p q ws)[a]? = some (min (ws.getD a 0) ((itL (stepL w) q ws).getD a 0 / 2 ^ p)) := by rw [downP, downG_get, h1, h2]
    rw [he, h1, itL_step w hn ws hl q a ha] at this
    have e : ws.getD a 0 = min (ws.getD a 0) (2 ^ manyW w a q * ws.getD ((a + q) % w.length) 0 / 2 ^ p) := Option.some.inj this
    have hle : ws.getD a 0 ≤ 2 ^ manyW w a q * ws.getD ((a + q) % w.length) 0 / 2 ^ p := by rw [e]; exact Nat.min_le_right _ _
    exact Nat.le_trans (Nat.mul_le_mul_right _ hle) (Nat.div_mul_le_self _ _)
  have many : ∀ k a, ws.getD (a % w.length) 0 * 2 ^ (p * k) ≤ 2 ^ manyW w a (q * k) * ws.getD ((a + q * k) % w.length) 0 := fun k => by
    induction k with
    | zero => intro a; simp [manyW]
    | succ k ih =>
      intro a
      have h1 := hst (a % w.length) (Nat.mod_lt _ hn)
      have h2 := ih (a + q)
      rw [manyW_mod, Nat.mod_add_mod] at h1
      rw [Nat.mul_succ, Nat.pow_add, Nat.mul_succ q k, Nat.add_comm (q * k) q, manyW_add, Nat.pow_add, ← Nat.add_assoc]
      calc ws.getD (a % w.length) 0 * (2 ^ (p * k) * 2 ^ p) = (ws.getD (a % w.length) 0 * 2 ^ p) * 2 ^ (p * k) := by rw [Nat.mul_comm (2 ^ (p * k)), Nat.mul_assoc]
        _ ≤ (2 ^ manyW w a q * ws.getD ((a + q) % w.length) 0) * 2 ^ (p * k) := Nat.mul_le_mul_right _ h1
        _ = 2 ^ manyW w a q * (ws.getD ((a + q) % w.length) 0 * 2 ^ (p * k)) := by rw [Nat.mul_assoc]
        _ ≤ 2 ^ manyW w a q * (2 ^ manyW w (a + q) (q * k) * ws.getD ((a + q + q * k) % w.length) 0) := Nat.mul_le_mul_left _ h2
        _ = _ := by rw [Nat.mul_assoc]
  obtain ⟨a, ha, hpos⟩ : ∃ a, a < w.length ∧ 0 < ws.getD a 0 := by
    have : ∀ l : List Nat, 0 < l.sum → ∃ a, a < l.length ∧ 0 < l.getD a 0 := by
      intro l
      induction l with
      | nil => intro h; simp at h
      | cons x l ih =>
        intro h
        by_cases hx : 0 < x
        · exact ⟨0, by simp, by simpa using hx⟩
        · obtain ⟨a, h1, h2⟩ := ih (by simp only [List.sum_cons] at h; omega)
          exact ⟨a + 1, by simpa using h1, by simpa using h2⟩
    obtain ⟨a, h1, h2⟩ := this ws hs
    exact ⟨a, by omega, h2⟩
  have := many w.length a
  rw [Nat.mul_comm q w.length, manyW_mul, Nat.add_mul_mod_self_left, Nat.mod_eq_of_lt ha, Nat.mul_comm] at this
  have := Nat.le_of_mul_le_mul_right this hpos
  exact (Nat.pow_le_pow_iff_right (by decide)).mp this

/-! growth -/
def addL (l m : List Nat) : List Nat := List.zipWith (· + ·) l m
theorem addL_get {a : Nat} {l m : List Nat} : (addL l m)[a]? = match l[a]?, m[a]? with | some x, some y => some (x + y) | _, _ => none := by
  unfold addL
  rw [List.getElem?_zipWith]
  cases l[a]? <;> cases m[a]? <;> rfl
theorem addL_len {l m : List Nat} (h : l.length = m.length) : (addL l m).length = l.length := by simp [addL, h]
def gwR (M : Mc) (l : List Nat) : List Nat := addL l (oneL M l)
def gwP (w : List Bool) (ws : List Nat) : List Nat := addL ws (stepL w ws)
theorem RingM.gw {w : List Bool} {o : List Nat} {M : Mc} (h : RingM w o M) {ws l : List Nat} (hb : ByL o ws l) : ByL o (gwP w ws) (gwR M l) := by
  have hs := h.step hb
  refine ⟨by rw [gwP, addL_len (by rw [hb.1, hs.1]), hb.1], by rw [gwR, addL_len (by rw [hb.2.1, hs.2.1]), hb.2.1], fun a r ha => ?_⟩
  rw [gwR, gwP, addL_get, addL_get, hb.2.2 a r ha, hs.2.2 a r ha]
theorem RingM.gws {w : List Bool} {o : List Nat} {M : Mc} (h : RingM w o M) {ws l : List Nat} (hb : ByL o ws l) : ∀ k, ByL o (itL (gwP w) k ws) (itL (gwR M) k l)
  | 0 => hb
  | k + 1 => h.gw (RingM.gws h hb k)
/-- all between one and b -/
def In1 (b : Nat) (l : List Nat) : Prop := ∀ x ∈ l, 1 ≤ x ∧ x ≤ b
theorem mem_zipW {f : Nat → Nat → Nat} : ∀ {l m : List Nat} {x : Nat}, x ∈ List.zipWith f l m → ∃ a ∈ l, ∃ b ∈ m, x = f a b
  | [], _, x, h => by simp at h
  | _ :: _, [], x, h => by simp at h
  | a :: l, b :: m, x, h => by
    rcases List.mem_cons.mp h with e | h
    · exact ⟨a, List.mem_cons_self, b, List.mem_cons_self, e⟩
    · obtain ⟨a', h1, b', h2, e⟩ := mem_zipW (l := l) (m := m) h
      exact ⟨a', List.mem_cons_of_mem _ h1, b', List.mem_cons_of_mem _ h2, e⟩
theorem stepL_in {w : List Bool} {ws : List Nat} {b : Nat} (hn : 0 < w.length) (hl : ws.length = w.length) (h : In1 b ws) : In1 (2 * b) (stepL w ws) := by
  intro x hx
  obtain ⟨a, ha, rfl⟩ := List.mem_map.mp hx
  have hm : (a + 1) % w.length < ws.length := by rw [hl]; exact Nat.mod_lt _ hn
  have := h _ (List.mem_of_getElem? (get_of_getD hm))
  generalize ws.getD ((a + 1) % w.length) 0 = y at this
  unfold w1
  split <;> omega
theorem gwP_in {w : List Bool} {ws : List Nat} {b : Nat} (hn : 0 < w.length) (hl : ws.length = w.length) (h : In1 b ws) : In1 (3 * b) (gwP w ws) := by
  intro x hx
  obtain ⟨y, hy, z, hz, rfl⟩ := mem_zipW hx
  have h1 := h y hy
  have h2 := stepL_in hn hl h z hz
  show 1 ≤ y + z ∧ y + z ≤ 3 * b
  omega
theorem gwP_len {w : List Bool} {ws : List Nat} (hl : ws.length = w.length) : (gwP w ws).length = w.length := by rw [gwP, addL_len (by rw [stepL_len, hl]), hl]
theorem gws_len {w : List Bool} {ws : List Nat} (hl : ws.length = w.length) : ∀ k, (itL (gwP w) k ws).length = w.length
  | 0 => hl
  | k + 1 => gwP_len (gws_len hl k)
theorem gws_in {w : List Bool} (hn : 0 < w.length) : ∀ k, In1 (3 ^ k) (itL (gwP w) k (List.replicate w.length 1))
  | 0 => fun x hx => by rw [(List.mem_replicate.mp hx).2]; decide
  | k + 1 => by
    have := gwP_in hn (gws_len (by simp) k) (gws_in hn k)
    rwa [show 3 * 3 ^ k = 3 ^ (k + 1) by rw [Nat.pow_succ, Nat.mul_comm]] at this
/-! rest by four -/
def fr : Nat → Nat → Nat
  | 0, r => if r % 4 = 0 then 1 else 0
  | k + 1, r => fr k r + fr k (r + 3)
theorem fr_mod : ∀ k r, fr k (r % 4) = fr k r
  | 0, r => by unfold fr; rw [Nat.mod_mod]
  | k + 1, r => by
    show fr k (r % 4) + fr k (r % 4 + 3) = fr k r + fr k (r + 3)
    rw [fr_mod k r, ← fr_mod k (r % 4 + 3), Nat.mod_add_mod, fr_mod k (r + 3)]
theorem fr_p4 (k r : Nat) : fr k (r + 4) = fr k r := by rw [← fr_mod, Nat.add_mod_right, fr_mod]
theorem fr2 (k r : Nat) : fr (k + 2) r = fr k r + 2 * fr k (r + 3) + fr k (r + 2) := by
  show fr k r + fr k (r + 3) + (fr k (r + 3) + fr k (r + 3 + 3)) = _
  rw [show r + 3 + 3 = r + 2 + 4 by omega, fr_p4]; omega
theorem fr4 (k r : Nat) : fr (k + 4) r = 2 * fr k r + 4 * fr k (r + 3) + 6 * fr k (r + 2) + 4 * fr k (r + 1) := by
  rw [show k + 4 = k + 2 + 2 by omega, fr2, fr2, fr2, fr2, show r + 3 + 3 = r + 2 + 4 by omega, show r + 3 + 2 = r + 1 + 4 by omega, show r + 2 + 3 = r + 1 + 4 by omega, show r + 2 + 2 = r + 4 by omega, fr_p4, fr_p4, fr_p4]
  omega
theorem fr_a : ∀ t, fr (8 * t + 4) 0 + 2 ^ (4 * t + 1) = 2 ^ (8 * t + 2) ∧ fr (8 * t + 4) 1 = 2 ^ (8 * t + 2) ∧ fr (8 * t + 4) 2 = 2 ^ (8 * t + 2) + 2 ^ (4 * t + 1) ∧ fr (8 * t + 4) 3 = 2 ^ (8 * t + 2)
  | 0 => by decide
  | t + 1 => by
    obtain ⟨h0, h1, h2, h3⟩ := fr_a t
    have e : 8 * (t + 1) + 4 = 8 * t + 4 + 4 + 4 := by omega
    have p1 : 2 ^ (8 * (t + 1) + 2) = 256 * 2 ^ (8 * t + 2) := by rw [show 8 * (t + 1) + 2 = 8 + (8 * t + 2) by omega, Nat.pow_add]
    have p2 : 2 ^ (4 * (t + 1) + 1) = 16 * 2 ^ (4 * t + 1) := by rw [show 4 * (t + 1) + 1 = 4 + (4 * t + 1) by omega, Nat.pow_add]
    rw [e, p1, p2]
    generalize 2 ^ (8 * t + 2) = X at *
    generalize 2 ^ (4 * t + 1) = Z at *
    have g4 : fr (8 * t + 4) 4 = fr (8 * t + 4) 0 := fr_p4 _ 0
    have g5 : fr (8 * t + 4) 5 = fr (8 * t + 4) 1 := fr_p4 _ 1
    have g6 : fr (8 * t + 4) 6 = fr (8 * t + 4) 2 := fr_p4 _ 2
    have k0 := fr4 (8 * t + 4) 0
    have k1 := fr4 (8 * t + 4) 1
    have k2 := fr4 (8 * t + 4) 2
    have k3 := fr4 (8 * t + 4) 3
    simp only [Nat.zero_add, Nat.reduceAdd] at k0 k1 k2 k3
    have q4 : fr (8 * t + 4 + 4) 4 = fr (8 * t + 4 + 4) 0 := fr_p4 _ 0
    have q5 : fr (8 * t + 4 + 4) 5 = fr (8 * t + 4 + 4) 1 := fr_p4 _ 1
    have q6 : fr (8 * t + 4 + 4) 6 = fr (8 * t + 4 + 4) 2 := fr_p4 _ 2
    have l0 := fr4 (8 * t + 4 + 4) 0
    have l1 := fr4 (8 * t + 4 + 4) 1
    have l2 := fr4 (8 * t + 4 + 4) 2
    have l3 := fr4 (8 * t + 4 + 4) 3
    simp only [Nat.zero_add, Nat.reduceAdd] at l0 l1 l2 l3
    omega
theorem fr_b (t : Nat) : fr (8 * t + 8) 0 = 2 ^ (8 * t + 6) + 2 ^ (4 * t + 3) ∧ fr (8 * t + 8) 2 + 2 ^ (4 * t + 3) = 2 ^ (8 * t + 6) ∧ fr (8 * t + 8) 3 = 2 ^ (8 * t + 6) := by
  obtain ⟨h0, h1, h2, h3⟩ := fr_a t
  have p1 : 2 ^ (8 * t + 6) = 16 * 2 ^ (8 * t + 2) := by rw [show 8 * t + 6 = 4 + (8 * t + 2) by omega, Nat.pow_add]
  have p2 : 2 ^ (4 * t + 3) = 4 * 2 ^ (4 * t + 1) := by rw [show 4 * t + 3 = 2 + (4 * t + 1) by omega, Nat.pow_add]
  rw [p1, p2]
  generalize 2 ^ (8 * t + 2) = X at *
  generalize 2 ^ (4 * t + 1) = Z at *
  have g4 : fr (8 * t + 4) 4 = fr (8 * t + 4) 0 := fr_p4 _ 0
  have g5 : fr (8 * t + 4) 5 = fr (8 * t + 4) 1 := fr_p4 _ 1
  have g6 : fr (8 * t + 4) 6 = fr (8 * t + 4) 2 := fr_p4 _ 2
  have k0 := fr4 (8 * t + 4) 0
  have k2 := fr4 (8 * t + 4) 2
  have k3 := fr4 (8 * t + 4) 3
  simp only [Nat.zero_add, Nat.reduceAdd] at k0 k2 k3
  rw [show 8 * t + 8 = 8 * t + 4 + 4 by omega]
  omega
theorem fr_c (m : Nat) : fr (4 * m + 2) 0 = 2 ^ (4 * m) := by
  rw [fr2]
  simp only [Nat.zero_add]
  rcases (by omega : m = 0 ∨ m % 2 = 1 ∨ (m % 2 = 0 ∧ 0 < m)) with rfl | h | ⟨h, h'⟩
  · decide
  · obtain ⟨t, rfl⟩ : ∃ t, m = 2 * t + 1 := ⟨m / 2, by omega⟩
    obtain ⟨h0, h1, h2, h3⟩ := fr_a t
    rw [show 4 * (2 * t + 1) = 8 * t + 4 by omega, h2, h3]
    have p1 : 2 ^ (8 * t + 4) = 4 * 2 ^ (8 * t + 2) := by rw [show 8 * t + 4 = 2 + (8 * t + 2) by omega, Nat.pow_add]
    omega
  · obtain ⟨t, rfl⟩ : ∃ t, m = 2 * t + 2 := ⟨m / 2 - 1, by omega⟩
    obtain ⟨h0, h2, h3⟩ := fr_b t
    rw [show 4 * (2 * t + 2) = 8 * t + 8 by omega, h0, h3]
    have p1 : 2 ^ (8 * t + 8) = 4 * 2 ^ (8 * t + 6) := by rw [show 8 * t + 8 = 2 + (8 * t + 6) by omega, Nat.pow_add]
    omega
theorem log_of {n k : Nat} (h1 : 2 ^ k ≤ n) (h2 : n < 2 ^ (k + 1)) : n.log2 = k := by
  have h0 : n ≠ 0 := by have := Nat.two_pow_pos k; omega
  have a := (Nat.le_log2 h0).mpr h1
  have b := (Nat.log2_lt h0).mpr h2
  omega
theorem fr_log_a (t : Nat) : (fr (8 * t + 4) 0).log2 = 8 * t + 1 ∧ 2 ^ (8 * t + 1) ≤ fr (8 * t + 4) 0 := by
  obtain ⟨h0, _⟩ := fr_a t
  have p1 : 2 ^ (8 * t + 2) = 2 * 2 ^ (8 * t + 1) := by rw [show 8 * t + 2 = 1 + (8 * t + 1) by omega, Nat.pow_add]
  have p2 : 2 ^ (4 * t + 1) ≤ 2 ^ (8 * t + 1) := Nat.pow_le_pow_right (by decide) (by omega)
  have p3 := Nat.two_pow_pos (4 * t + 1)
  have h : 2 ^ (8 * t + 1) ≤ fr (8 * t + 4) 0 := by omega
  exact ⟨log_of h (by rw [show 8 * t + 1 + 1 = 8 * t + 2 by omega]; omega), h⟩
theorem fr_log_b (t : Nat) : (fr (8 * t + 8) 0).log2 = 8 * t + 6 ∧ 0 < fr (8 * t + 8) 0 := by
  obtain ⟨h0, _⟩ := fr_b t
  have p1 : 2 ^ (8 * t + 7) = 2 * 2 ^ (8 * t + 6) := by rw [show 8 * t + 7 = 1 + (8 * t + 6) by omega, Nat.pow_add]
  have p2 : 2 ^ (4 * t + 3) < 2 ^ (8 * t + 6) := Nat.pow_lt_pow_right (by decide) (by omega)
  have p3 := Nat.two_pow_pos (4 * t + 3)
  refine ⟨log_of (by omega) (by rw [show 8 * t + 6 + 1 = 8 * t + 7 by omega]; omega), by omega⟩
/-- a machine of four rooms: a bit stays, the other one goes on by `back` -/
structure FourM (o : List Nat) (back : Nat) (M : Mc) : Prop where
  hl : M.length = 4
  hp : PermN o 4
  hb : back = 1 ∨ back = 3
  at' : ∀ a r : Nat, o[a]? = some r → ∃ d, M[r]? = some d ∧ (d = (some r, some (o.getD ((a + back) % 4) 0)) ∨ d = (some (o.getD ((a + back) % 4) 0), some r))
theorem FourM.ok {o : List Nat} {back : Nat} {M : Mc} (h : FourM o back M) : M.Ok := by
  intro d hd e he
  obtain ⟨r, hr⟩ := List.mem_iff_getElem?.mp hd
  have hlt : r < 4 := by rw [← h.hl]; exact (List.getElem?_eq_some_iff.mp hr).1
  obtain ⟨a, ha⟩ := List.mem_iff_getElem?.mp (h.hp.mem hlt)
  obtain ⟨d', h1, h2⟩ := h.at' a r ha
  rw [hr] at h1
  cases h1
  have hm : (a + back) % 4 < o.length := by rw [h.hp.len]; exact Nat.mod_lt _ (by decide)
  have hon := h.hp.lt (List.mem_of_getElem? (get_of_getD hm))
  rw [h.hl]
  generalize o.getD ((a + back) % 4) 0 = on at hon h2
  rcases h2 with h2 | h2 <;> subst h2 <;> simp [ends] at he <;> omega
theorem FourM.tabs {o : List Nat} {back : Nat} {M : Mc} (h : FourM o back M) {a0 g : Nat} (h0 : o[a0]? = some g) : ∀ k a r : Nat, o[a]? = some r → tb M g k r = fr k (back * (a0 + 4 - a))
  | 0, a, r, ha => by
    have hr : r < M.length := by rw [h.hl]; exact h.hp.lt (List.mem_of_getElem? ha)
    have hal : a < 4 := by rw [← h.hp.len]; exact (List.getElem?_eq_some_iff.mp ha).1
    have hal0 : a0 < 4 := by rw [← h.hp.len]; exact (List.getElem?_eq_some_iff.mp h0).1
    rw [tb_zero hr]
    show (if r = g then 1 else 0) = if back * (a0 + 4 - a) % 4 = 0 then 1 else 0
    have : (r = g) ↔ back * (a0 + 4 - a) % 4 = 0 := by
      have e1 : r = g ↔ a = a0 := ⟨fun e => h.hp.inj (by rw [ha, e]) h0, fun e => by subst e; rw [ha] at h0; exact Option.some.inj h0⟩
      rw [e1]
      rcases h.hb with rfl | rfl <;> omega
    by_cases e : r = g
    · rw [if_pos e, if_pos (this.mp e)]
    · rw [if_neg e, if_neg fun z => e (this.mpr z)]
  | k + 1, a, r, ha => by
    have hr : r < M.length := by rw [h.hl]; exact h.hp.lt (List.mem_of_getElem? ha)
    have hal : a < 4 := by rw [← h.hp.len]; exact (List.getElem?_eq_some_iff.mp ha).1
    have hal0 : a0 < 4 := by rw [← h.hp.len]; exact (List.getElem?_eq_some_iff.mp h0).1
    obtain ⟨d, h1, h2⟩ := h.at' a r ha
    have hm : (a + back) % 4 < o.length := by rw [h.hp.len]; exact Nat.mod_lt _ (by decide)
    have i1 := FourM.tabs h h0 k a r ha
    have i2 := FourM.tabs h h0 k _ _ (get_of_getD hm)
    have e3 : fr k (back * (a0 + 4 - (a + back) % 4)) = fr k (back * (a0 + 4 - a) + 3) := by
      rw [← fr_mod k (back * (a0 + 4 - (a + back) % 4)), ← fr_mod k (back * (a0 + 4 - a) + 3)]
      congr 1
      rcases h.hb with rfl | rfl <;> omega
    rw [tb_succ hr]
    show _ = fr k (back * (a0 + 4 - a)) + fr k (back * (a0 + 4 - a) + 3)
    unfold nx
    rw [h1]
    rcases h2 with h2 | h2 <;> subst h2
    · show tb M g k r + tb M g k (o.getD ((a + back) % 4) 0) = _
      rw [i1, i2, e3]
    · show tb M g k (o.getD ((a + back) % 4) 0) + tb M g k r = _
      rw [i1, i2, e3]; omega
theorem FourM.rounds {o : List Nat} {back : Nat} {M : Mc} (h : FourM o back M) {a g : Nat} (h0 : o[a]? = some g) (k : Nat) : tb M g k g = fr k 0 := by
  rw [h.tabs h0 k a g h0, ← fr_mod k (back * (a + 4 - a)), show a + 4 - a = 4 by omega, Nat.mul_mod_left]
end G

namespace G
open PySem PySem.Spec PyProof.Rows L2
abbrev wD (w : List Bool) : D := .lst (w.map D.bl)
theorem fCnt_w {w : List Bool} {P : D → Prop} (hp : P (.int (w.count true : Nat))) : fCnt (w.map D.bl) (.bl true) P := ⟨w, blsOf_map w, hp⟩
theorem fIx_w {w : List Bool} {i : Nat} {P : D → Prop} (h : 0 < w.length) (hp : P (.bl (wAt w i))) : fIx (wD w) (.int ((i % w.length : Nat) : Int)) P := by
  have hm := Nat.mod_lt i h
  refine ⟨D.bl (wAt w i), atI_of rfl ?_, hp⟩
  rw [List.getElem?_map, List.getElem?_eq_getElem hm]
  unfold wAt
  rw [List.getD_eq_getElem?_getD, List.getElem?_eq_getElem hm]
  rfl
theorem fMax_n {l : List Nat} {P : D → Prop} (h0 : 0 < l.length) (hp : ∀ m ∈ l, (∀ y ∈ l, y ≤ m) → P (.int (m : Nat))) : fMax [nL l] P := by
  refine ⟨l.map fun n => ((n : Nat) : Int), ?_, by rw [List.length_map]; exact h0, fun m hm hl => ?_⟩
  · have : l.map nD = (l.map fun n => ((n : Nat) : Int)).map D.int := by rw [List.map_map]; rfl
    rw [this, intsOf_map]
  · obtain ⟨x, hx, rfl⟩ := List.mem_map.mp hm
    exact hp x hx fun y hy => by have := hl _ (List.mem_map_of_mem hy); omega
/-- what is set of a list of nones -/
def MadeN (n : Nat) (o ws : List Nat) (k : Nat) (rs : List D) : Prop := rs.length = n ∧ ∀ (b r : Nat), b < k → o[b]? = some r → rs[r]? = some (nD (ws.getD b 0))
theorem MadeN.start (n : Nat) (o ws : List Nat) : MadeN n o ws 0 (List.replicate n .non) := ⟨by simp, fun b r h => absurd h (Nat.not_lt_zero _)⟩
theorem MadeN.set {n : Nat} {o ws : List Nat} {k r : Nat} {rs : List D} (hp : PermN o n) (h : MadeN n o ws k rs) (hr : o[k]? = some r) : MadeN n o ws (k + 1) (rs.set r (nD (ws.getD k 0))) := by
  have hrn := hp.lt (List.mem_of_getElem? hr)
  refine ⟨by rw [List.length_set]; exact h.1, fun b r' hb hb' => ?_⟩
  by_cases e : b = k
  · subst e
    rw [hr] at hb'
    cases hb'
    exact List.getElem?_set_self (by rw [h.1]; exact hrn)
  · have : r ≠ r' := fun z => e (hp.inj hb' (by rw [hr, z]))
    rw [List.getElem?_set_ne this]
    exact h.2 b r' (by omega) hb'
theorem MadeN.done {n : Nat} {o ws : List Nat} {rs : List D} (hp : PermN o n) (hw : ws.length = n) (h : MadeN n o ws n rs) : ∃ l : List Nat, rs = l.map nD ∧ ByL o ws l := by
  have ho := hp.len
  have : ∀ rs : List D, (∀ d ∈ rs, ∃ x : Nat, d = nD x) → ∃ l : List Nat, rs = l.map nD := by
    intro rs
    induction rs with
    | nil => exact fun _ => ⟨[], rfl⟩
    | cons d rs ih =>
      intro h
      obtain ⟨l, hl⟩ := ih fun x hx => h x (List.mem_cons_of_mem _ hx)
      obtain ⟨x, hx⟩ := h d List.mem_cons_self
      exact ⟨x :: l, by rw [hl, hx]; rfl⟩
  obtain ⟨l, hl⟩ := this rs fun d hd => by
    obtain ⟨r, hr⟩ := List.mem_iff_getElem?.mp hd
    have hrn : r < n := by rw [← h.1]; exact get_lt hr
    obtain ⟨b, hb⟩ := List.mem_iff_getElem?.mp (hp.mem hrn)
    have := h.2 b r (by rw [← ho]; exact get_lt hb) hb
    rw [hr] at this
    exact ⟨_, Option.some.inj this⟩
  have hll : l.length = n := by rw [← h.1, hl, List.length_map]
  refine ⟨l, hl, by omega, by omega, fun b r hb => ?_⟩
  have hbn : b < n := by rw [← ho]; exact get_lt hb
  have := h.2 b r hbn hb
  rw [hl, List.getElem?_map] at this
  cases hx : l[r]? with
  | none => rw [hx] at this; cases this
  | some x =>
    rw [hx] at this
    have e : nD x = nD (ws.getD b 0) := Option.some.inj this
    have e : (x : Int) = (ws.getD b 0 : Nat) := by injection e
    rw [get_of_getD (l := ws) (by omega)]
    congr 1
    omega
theorem zip_n (a b : List Nat) : zipD (a.map nD) (b.map nD) = (a.zip b).map fun p => D.tup [nD p.1, nD p.2] := by
  unfold zipD
  rw [List.zip_map, List.map_map]
  rfl
theorem zipW_take {f : Nat → Nat → Nat} (a b : List Nat) (k : Nat) : List.zipWith f (a.take k) (b.take k) = (List.zipWith f a b).take k := by rw [List.take_zipWith]
theorem zip_zipW {f : Nat → Nat → Nat} : ∀ (a b : List Nat), (a.zip b).map (fun p => f p.1 p.2) = List.zipWith f a b
  | [], _ => by simp
  | _ :: _, [] => by simp
  | x :: a, y :: b => by simp [zip_zipW a b]
theorem fShr_n {x p : Nat} {P : D → Prop} (hp : P (.int ((x / 2 ^ p : Nat) : Int))) : fShr (.int (x : Nat)) (.int (p : Nat)) P := by
  refine ⟨by omega, ?_⟩
  rw [Int.toNat_natCast]
  have e : ((x : Nat) : Int) / 2 ^ p = ((x / 2 ^ p : Nat) : Int) := by rw [Int.natCast_ediv, Int.natCast_pow]; rfl
  rw [e]; exact hp
theorem fShl_n {x p : Nat} {P : D → Prop} (hx : x < 2 ^ 1000) (h : p ≤ 100000) (hp : P (.int ((x * 2 ^ p : Nat) : Int))) : fShl (.int (x : Nat)) (.int (p : Nat)) P := by
  refine ⟨shl_ok (n := 1000) (by rw [Int.natAbs_natCast]; exact hx) (by omega), ?_⟩
  rw [Int.toNat_natCast]
  have e : ((x : Nat) : Int) * 2 ^ p = ((x * 2 ^ p : Nat) : Int) := by rw [Int.natCast_mul, Int.natCast_pow]; rfl
  rw [e]; exact hp
theorem fMin_n {x y : Nat} {P : D → Prop} (hp : P (.int ((min x y : Nat) : Int))) : fMin [.int (x : Nat), .int (y : Nat)] P := by
  show P (.int (if ((y : Nat) : Int) < (x : Nat) then ((y : Nat) : Int) else (x : Nat)))
  have : (if ((y : Nat) : Int) < (x : Nat) then ((y : Nat) : Int) else (x : Nat)) = ((min x y : Nat) : Int) := by
    split <;> omega
  rw [this]; exact hp
theorem fNe_nL {a b : List Nat} {P : D → Prop} (h : P (.bl (!decide (a = b)))) : fNe (nL a) (nL b) P := ⟨(Shp.nL a).ok (by decide), (Shp.nL b).ok (by decide), by rw [deq_nL]; exact h⟩
theorem fMul_n {x y : Nat} {P : D → Prop} (h : x < 2 ^ 64) (hp : P (.int ((x * y : Nat) : Int))) : fMul (.int (x : Nat)) (.int (y : Nat)) P := by
  refine fMul_small ⟨by omega, ?_⟩ ?_
  · have e : (2 : Int) ^ 64 = 18446744073709551616 := by decide
    have e2 : (2 : Nat) ^ 64 = 18446744073709551616 := by decide
    rw [e]
    rw [e2] at h
    omega
  · rw [← Int.natCast_mul]; exact hp
theorem fDiv_n {x y : Nat} {P : D → Prop} (h0 : 0 < y) (h : y < 2 ^ 1000) (hp : P (.int ((x / y : Nat) : Int))) : fDiv (.int (x : Nat)) (.int (y : Nat)) P := by
  refine ⟨wide_div (b := 1000) (by omega) (by rw [Int.natAbs_natCast]; exact h) (by decide) (by decide), ?_⟩
  rw [← Int.natCast_ediv]; exact hp
theorem fMod_n {x y : Nat} {P : D → Prop} (h0 : 0 < y) (hp : P (.int ((x % y : Nat) : Int))) : fMod (.int (x : Nat)) (.int (y : Nat)) P := by
  refine ⟨by omega, ?_⟩
  rw [← Int.natCast_emod]; exact hp
theorem rep_n (n x : Nat) : (List.replicate n [D.int (x : Nat)]).flatten = (List.replicate n x).map nD := by
  induction n with
  | zero => rfl
  | succ n ih => rw [List.replicate_succ, List.flatten_cons, ih, List.replicate_succ]; rfl
theorem fMul_rep {n x : Nat} {P : D → Prop} (h : n ≤ 100000) (hp : P (nL (List.replicate n x))) : fMul (.lst [.int (x : Nat)]) (.int (n : Nat)) P := by
  refine ⟨by omega, by omega, ?_, ?_⟩
  · rw [Int.toNat_natCast, List.length_singleton, Nat.one_mul]; exact sl_le (by omega)
  · rw [Int.toNat_natCast, rep_n]; exact hp
theorem fMul_repB {n : Nat} {b : Bool} {P : D → Prop} (h : n ≤ 100000) (hp : P (wD (List.replicate n b))) : fMul (.lst [.bl b]) (.int (n : Nat)) P := by
  refine ⟨by omega, by omega, ?_, ?_⟩
  · rw [Int.toNat_natCast, List.length_singleton, Nat.one_mul]; exact sl_le (by omega)
  · rw [Int.toNat_natCast, rep_bl]
    have : (List.replicate n b).map D.bl = List.replicate n (D.bl b) := by simp
    rw [← this]; exact hp
theorem fAdd_w {a b : List Bool} {P : D → Prop} (h : a.length + b.length ≤ 1000000) (hp : P (wD (a ++ b))) : fAdd (wD a) (wD b) P := by
  refine ⟨by rw [List.length_map, List.length_map]; exact sl_le h, ?_⟩
  rw [← List.map_append]; exact hp
theorem list_ix {l : List Nat} {i : Nat} {P : D → Prop} (h : i < l.length) (hp : P (.int (l.getD i 0 : Nat))) : fIx (nL l) (.int (i : Nat)) P := fIx_n h hp
theorem fLe_n {x y : Nat} {P : D → Prop} (hp : P (.bl (decide (x ≤ y)))) : fLe (.int (x : Nat)) (.int (y : Nat)) P := by
  show P (.bl (decide (((x : Nat) : Int) ≤ (y : Nat))))
  have : decide (((x : Nat) : Int) ≤ (y : Nat)) = decide (x ≤ y) := by rw [Bool.eq_iff_iff]; simp
  rw [this]; exact hp
theorem dle {x y : Nat} : decide (((x : Nat) : Int) ≤ (y : Nat)) = decide (x ≤ y) := by rw [Bool.eq_iff_iff]; simp
theorem dlt {x y : Nat} : decide (((x : Nat) : Int) < (y : Nat)) = decide (x < y) := by rw [Bool.eq_iff_iff]; simp
theorem deqn {x y : Nat} : decide (((x : Nat) : Int) = (y : Nat)) = decide (x = y) := by rw [Bool.eq_iff_iff]; simp; omega
/-- the numbers from 1 on of which something is so -/
def fsts (p : Nat → Bool) (k : Nat) : List Nat := ((List.range k).map (· + 1)).filter p
theorem fsts_succ (p : Nat → Bool) (k : Nat) : fsts p (k + 1) = fsts p k ++ (if p (k + 1) then [k + 1] else []) := by
  unfold fsts
  rw [List.range_succ, List.map_append, List.filter_append]
  congr 1
  show [k + 1].filter p = _
  by_cases h : p (k + 1) = true
  · rw [List.filter_cons, if_pos h, if_pos h]; rfl
  · rw [List.filter_cons, if_neg h, if_neg h]; rfl
theorem fsts_len (p : Nat → Bool) (k : Nat) : (fsts p k).length ≤ k := Nat.le_trans (List.length_filter_le _ _) (by simp)
theorem fsts_nil {p : Nat → Bool} : ∀ {k : Nat}, fsts p k = [] → ∀ j, 1 ≤ j → j ≤ k → p j = false
  | 0, _, j, a, b => by omega
  | k + 1, h, j, a, b => by
    rw [fsts_succ] at h
    have h := List.append_eq_nil_iff.mp h
    rcases Nat.lt_or_ge j (k + 1) with z | z
    · exact fsts_nil h.1 j a (by omega)
    · have : j = k + 1 := by omega
      subst this
      have h2 := h.2
      split at h2
      · cases h2
      · rename_i y; simpa using y
theorem fsts_cons {p : Nat → Bool} : ∀ {k d : Nat} {r : List Nat}, fsts p k = d :: r → 1 ≤ d ∧ d ≤ k ∧ p d = true ∧ ∀ j, 1 ≤ j → j < d → p j = false
  | 0, d, r, h => by cases h
  | k + 1, d, r, h => by
    rw [fsts_succ] at h
    cases hk : fsts p k with
    | nil =>
      rw [hk, List.nil_append] at h
      split at h
      · rename_i hc
        have e : k + 1 = d := by injection h
        subst e
        exact ⟨by omega, Nat.le_refl _, hc, fun j a b => fsts_nil hk j a (by omega)⟩
      · cases h
    | cons u v =>
      rw [hk] at h
      have e : u = d := by injection h
      subst e
      obtain ⟨h1, h2, h3, h4⟩ := fsts_cons hk
      exact ⟨h1, by omega, h3, h4⟩
theorem fsts_le {p : Nat → Bool} {m : Nat} : ∀ d, (fsts p (m + d)).filter (fun x => decide (x ≤ m)) = fsts p m
  | 0 => by
    rw [Nat.add_zero, List.filter_eq_self]
    intro x hx
    have := (List.mem_filter.mp hx).1
    obtain ⟨y, hy, rfl⟩ := List.mem_map.mp this
    have := List.mem_range.mp hy
    simp
    omega
  | d + 1 => by
    rw [show m + (d + 1) = (m + d) + 1 by omega, fsts_succ, List.filter_append, fsts_le d]
    split
    · rw [List.filter_cons, if_neg (by simp; omega)]; simp
    · simp
theorem fsts_get {p : Nat → Bool} {m k : Nat} (h : m ≤ k) : (fsts p k).filter (fun x => decide (x ≤ m)) = fsts p m := by
  obtain ⟨d, rfl⟩ := Nat.exists_eq_add_of_le h
  exact fsts_le d
def shortB (w : List Bool) (k e : Nat) : Bool := (List.range w.length).all fun a => decide (manyW w a k < e)
theorem shortB_iff {w : List Bool} {k e : Nat} : shortB w k e = true ↔ ∀ a, a < w.length → manyW w a k < e := by
  unfold shortB
  rw [List.all_eq_true]
  constructor
  · intro h a ha
    have := h a (List.mem_range.mpr ha)
    simpa using this
  · intro h a ha
    have := h a (List.mem_range.mp ha)
    simpa using this
theorem RingM.short {w : List Bool} {o : List Nat} {M : Mc} (h : RingM w o M) (k e : Nat) : (∀ x ∈ countsA M k, x < 2 ^ e) ↔ shortB w k e = true := by
  rw [(h.counts k).all h.hp, shortB_iff]
  constructor
  · intro hx a ha
    have := hx _ (List.mem_of_getElem? (range_map_get (f := fun a => 2 ^ manyW w a k) ha))
    exact (Nat.pow_lt_pow_iff_right (by decide)).mp this
  · intro hx x hm
    obtain ⟨a, ha, rfl⟩ := List.mem_map.mp hm
    exact Nat.pow_lt_pow_right (by decide) (hx a (List.mem_range.mp ha))
theorem fCmp_bb {a b : Bool} {P : D → Prop} (hp : P (.bl (!decide (a = b)))) : fNe (.bl a) (.bl b) P := hp
theorem fIx_neg1 {l : List Nat} {x : Nat} {P : D → Prop} (hp : P (.int (x : Nat))) : fIx (nL (l ++ [x])) (.int (-1)) P := by
  refine ⟨nD x, ?_, hp⟩
  rw [List.map_append]
  exact atI_m1
end G

set_option autoImplicit true
namespace G
open PySem PySem.Spec PyProof.Rows L2
theorem s_1 : D.str "1" = sb true := rfl
theorem s_0 : D.str "0" = sb false := rfl
theorem s_01 : D.str "01" = .str (bs [false, true]) := rfl
theorem repS_bsl (l : List Bool) (n : Int) : repS (bs l) n = bs (List.replicate n.toNat l).flatten := by
  unfold repS
  rw [bs_cps]
  unfold bs
  congr 1
  rw [List.map_flatten, List.map_replicate]
theorem fMul_bsl {l : List Bool} {n : Nat} {P : D → Prop} (h1 : 1 ≤ l.length) (h2 : l.length ≤ 100) (h : n ≤ 100000) (hp : P (.str (bs (List.replicate n l).flatten))) : fMul (.str (bs l)) (.int (n : Nat)) P :=
  ⟨⟨by rw [bs_len]; exact h1, by rw [bs_len]; exact h2⟩, ⟨by omega, by omega⟩, by rw [repS_bsl]; exact hp⟩
theorem rep2_len (k : Nat) : (List.replicate k [false, true]).flatten.length = 2 * k := by
  rw [List.length_flatten, List.map_replicate, List.sum_replicate_nat]
  show k * 2 = _
  omega
theorem oD_inj : ∀ a b : Option Nat, oD a = oD b → a = b := fun a b e => by
  cases a <;> cases b <;> first | rfl | (cases e) | skip
  all_goals first | rfl | (unfold oD at e; injection e with e; congr 1; omega)
theorem rD_inj : ∀ x y : Option Nat × Option Nat, rD x = rD y → x = y := fun x y e => by
  obtain ⟨x1, x2⟩ := x
  obtain ⟨y1, y2⟩ := y
  have e : D.tup [oD x1, oD x2] = D.tup [oD y1, oD y2] := e
  injection e with e
  injection e with e1 e
  injection e with e2 e
  rw [oD_inj _ _ e1, oD_inj _ _ e2]
def Door4 (o : List Nat) (back b r : Nat) (d : Option Nat × Option Nat) : Prop := d = (some r, some (o.getD ((b + back) % 4) 0)) ∨ d = (some (o.getD ((b + back) % 4) 0), some r)
def Made4 (o : List Nat) (back k : Nat) (rs : List D) : Prop := rs.length = 4 ∧ ∀ (b r : Nat), b < k → o[b]? = some r → ∃ d, rs[r]? = some (rD d) ∧ Door4 o back b r d
theorem Made4.set {o : List Nat} {back k r : Nat} {rs : List D} {d : Option Nat × Option Nat} (hp : PermN o 4) (h : Made4 o back k rs) (hr : o[k]? = some r) (hd : Door4 o back k r d) : Made4 o back (k + 1) (rs.set r (rD d)) := by
  have hrn := hp.lt (List.mem_of_getElem? hr)
  refine ⟨by rw [List.length_set]; exact h.1, fun b r' hb hb' => ?_⟩
  by_cases e : b = k
  · subst e
    rw [hr] at hb'
    cases hb'
    exact ⟨d, List.getElem?_set_self (by rw [h.1]; exact hrn), hd⟩
  · have : r ≠ r' := fun z => e (hp.inj hb' (by rw [hr, z]))
    rw [List.getElem?_set_ne this]
    exact h.2 b r' (by omega) hb'
theorem Made4.done {o : List Nat} {back : Nat} {rs : List D} (hp : PermN o 4) (hb : back = 1 ∨ back = 3) (h : Made4 o back 4 rs) : ∃ M : Mc, rs = M.map rD ∧ FourM o back M := by
  have ho := hp.len
  have : ∀ rs : List D, (∀ d ∈ rs, ∃ x, d = rD x) → ∃ l : Mc, rs = l.map rD := by
    intro rs
    induction rs with
    | nil => exact fun _ => ⟨[], rfl⟩
    | cons d rs ih =>
      intro h
      obtain ⟨l, hl⟩ := ih fun x hx => h x (List.mem_cons_of_mem _ hx)
      obtain ⟨x, hx⟩ := h d List.mem_cons_self
      exact ⟨x :: l, by rw [hl, hx]; rfl⟩
  obtain ⟨M, hM⟩ := this rs fun d hd => by
    obtain ⟨r, hr⟩ := List.mem_iff_getElem?.mp hd
    have hrn : r < 4 := by rw [← h.1]; exact get_lt hr
    obtain ⟨b, hb⟩ := List.mem_iff_getElem?.mp (hp.mem hrn)
    obtain ⟨x, hx, _⟩ := h.2 b r (by rw [← ho]; exact get_lt hb) hb
    rw [hr] at hx
    exact ⟨x, Option.some.inj hx⟩
  refine ⟨M, hM, by rw [← h.1, hM, List.length_map], hp, hb, fun b r hb => ?_⟩
  obtain ⟨d, h1, h2⟩ := h.2 b r (by rw [← ho]; exact get_lt hb) hb
  rw [hM, List.getElem?_map] at h1
  cases hx : M[r]? with
  | none => rw [hx] at h1; cases h1
  | some y =>
    rw [hx] at h1
    have : y = d := rD_inj _ _ (Option.some.inj h1)
    exact ⟨d, by rw [this], h2⟩
def Kind4 (m : Nat) : Prop := (∃ t, m = 8 * t + 4) ∨ (∃ t, m = 8 * t + 8) ∨ ∃ t, m = 4 * t + 2
theorem kind_bits {m : Nat} (h : Kind4 m) : 0 < fr m 0 ∧ (((fr m 0).log2 : Nat) : Int) = (m : Nat) - 2 - (if m % 8 = 4 then 1 else 0) := by
  rcases h with ⟨t, rfl⟩ | ⟨t, rfl⟩ | ⟨t, rfl⟩
  · obtain ⟨h1, h2⟩ := fr_log_a t
    have := Nat.two_pow_pos (8 * t + 1)
    refine ⟨by omega, ?_⟩
    rw [h1, if_pos (by omega)]
    omega
  · obtain ⟨h1, h2⟩ := fr_log_b t
    refine ⟨h2, ?_⟩
    rw [h1, if_neg (by omega)]
    omega
  · rw [fr_c, Nat.log2_two_pow, if_neg (by omega)]
    exact ⟨Nat.two_pow_pos _, by omega⟩
/-- the four ways counted -/
def frL (k : Nat) : List Nat := [fr k 0, fr k 1, fr k 2, fr k 3]
theorem frL_succ (k : Nat) : frL (k + 1) = [fr k 0 + fr k 3, fr k 1 + fr k 0, fr k 2 + fr k 1, fr k 3 + fr k 2] := by
  have e1 := fr_p4 k 0
  have e2 := fr_p4 k 1
  have e3 := fr_p4 k 2
  show [fr k 0 + fr k (0 + 3), fr k 1 + fr k (1 + 3), fr k 2 + fr k (2 + 3), fr k 3 + fr k (3 + 3)] = _
  rw [show 1 + 3 = 0 + 4 from rfl, show 2 + 3 = 1 + 4 from rfl, show 3 + 3 = 2 + 4 from rfl, e1, e2, e3]
theorem fr_52 : 2 ^ 49 ≤ fr 52 0 := (fr_log_a 6).2
end G

namespace K82
open PySem PySem.Spec PyProof.Rows L2 G
def topS (i : Nat) : Stmt := PySem.Challenge.pw_runbound_k82_whole_bursts.main.body.getD i (.Pass ⟨0, 0, 0, 0⟩)
abbrev s_ends_of : Stmt := topS 7
theorem sc_ends_of : FnScope ["room", "end"] ["room"] (defScope s_ends_of) := ⟨rfl, rfl, rfl, by decide +kernel, rfl, by decide +kernel, by decide +kernel⟩
abbrev s_one_longer : Stmt := topS 9
theorem sc_one_longer : FnScope ["machine", "found", "room", "end"] ["machine", "found"] (defScope s_one_longer) := ⟨rfl, rfl, rfl, by decide +kernel, rfl, by decide +kernel, by decide +kernel⟩
abbrev s_tables_of : Stmt := topS 10
theorem sc_tables_of : FnScope ["machine", "goal", "many", "tables", "turn", "room"] ["machine", "goal", "many"] (defScope s_tables_of) := ⟨rfl, rfl, rfl, by decide +kernel, rfl, by decide +kernel, by decide +kernel⟩
abbrev s_counts : Stmt := topS 11
theorem sc_counts : FnScope ["machine", "many"] ["machine", "many"] (defScope s_counts) := ⟨rfl, rfl, rfl, by decide +kernel, rfl, by decide +kernel, by decide +kernel⟩
abbrev s_counts_to : Stmt := topS 12
theorem sc_counts_to : FnScope ["machine", "many", "goal"] ["machine", "many", "goal"] (defScope s_counts_to) := ⟨rfl, rfl, rfl, by decide +kernel, rfl, by decide +kernel, by decide +kernel⟩
abbrev s_from_there : Stmt := topS 13
theorem sc_from_there : FnScope ["tables", "machine", "room", "left", "number", "row", "at", "ahead", "rest", "first", "second", "many"] ["tables", "machine", "room", "left", "number"] (defScope s_from_there) := ⟨rfl, rfl, rfl, by decide +kernel, rfl, by decide +kernel, by decide +kernel⟩
abbrev s_row_at : Stmt := topS 14
theorem sc_row_at : FnScope ["machine", "room", "goal", "many", "number", "tables"] ["machine", "room", "goal", "many", "number"] (defScope s_row_at) := ⟨rfl, rfl, rfl, by decide +kernel, rfl, by decide +kernel, by decide +kernel⟩
abbrev s_number_of : Stmt := topS 15
theorem sc_number_of : FnScope ["machine", "room", "goal", "row", "tables", "at", "ahead", "place", "bit", "first", "second"] ["machine", "room", "goal", "row"] (defScope s_number_of) := ⟨rfl, rfl, rfl, by decide +kernel, rfl, by decide +kernel, by decide +kernel⟩
abbrev s_is_number : Stmt := topS 17
theorem sc_is_number : FnScope ["thing", "least"] ["thing", "least"] (defScope s_is_number) := ⟨rfl, rfl, rfl, by decide +kernel, rfl, by decide +kernel, by decide +kernel⟩
abbrev s_are_numbers : Stmt := topS 18
theorem sc_are_numbers : FnScope ["thing", "many", "least", "one"] ["thing", "many", "least"] (defScope s_are_numbers) := ⟨rfl, rfl, rfl, by decide +kernel, rfl, by decide +kernel, by decide +kernel⟩
abbrev s_divisor : Stmt := topS 19
theorem sc_divisor : FnScope ["one", "other"] ["one", "other"] (defScope s_divisor) := ⟨rfl, rfl, rfl, by decide +kernel, rfl, by decide +kernel, by decide +kernel⟩
abbrev s_fraction : Stmt := topS 20
theorem sc_fraction : FnScope ["top", "below", "shared"] ["top", "below"] (defScope s_fraction) := ⟨rfl, rfl, rfl, by decide +kernel, rfl, by decide +kernel, by decide +kernel⟩
abbrev s_way_sums : Stmt := topS 21
theorem sc_way_sums : FnScope ["machine", "weights", "room", "end"] ["machine", "weights"] (defScope s_way_sums) := ⟨rfl, rfl, rfl, by decide +kernel, rfl, by decide +kernel, by decide +kernel⟩
abbrev s_least_ratio : Stmt := topS 22
theorem sc_least_ratio : FnScope ["tops", "belows", "top", "below", "other", "base"] ["tops", "belows"] (defScope s_least_ratio) := ⟨rfl, rfl, rfl, by decide +kernel, rfl, by decide +kernel, by decide +kernel⟩
abbrev s_greatest_ratio : Stmt := topS 23
theorem sc_greatest_ratio : FnScope ["tops", "belows", "top", "below", "other", "base"] ["tops", "belows"] (defScope s_greatest_ratio) := ⟨rfl, rfl, rfl, by decide +kernel, rfl, by decide +kernel, by decide +kernel⟩
abbrev s_growth : Stmt := topS 24
theorem sc_growth : FnScope ["machine", "steps", "weights", "turn", "sums", "weight", "more"] ["machine", "steps"] (defScope s_growth) := ⟨rfl, rfl, rfl, by decide +kernel, rfl, by decide +kernel, by decide +kernel⟩
abbrev s_sums_behind : Stmt := topS 27
theorem sc_sums_behind : FnScope ["machine", "q", "weights", "turn"] ["machine", "q", "weights"] (defScope s_sums_behind) := ⟨rfl, rfl, rfl, by decide +kernel, rfl, by decide +kernel, by decide +kernel⟩
abbrev s_let_down : Stmt := topS 28
theorem sc_let_down : FnScope ["machine", "p", "q", "weights", "one", "more"] ["machine", "p", "q", "weights"] (defScope s_let_down) := ⟨rfl, rfl, rfl, by decide +kernel, rfl, by decide +kernel, by decide +kernel⟩
abbrev s_enough : Stmt := topS 29
theorem sc_enough : FnScope ["machine", "p", "q", "most", "weights", "lesser"] ["machine", "p", "q", "most"] (defScope s_enough) := ⟨rfl, rfl, rfl, by decide +kernel, rfl, by decide +kernel, by decide +kernel⟩
abbrev s_shows_enough : Stmt := topS 30
theorem sc_shows_enough : FnScope ["machine", "p", "q", "weights", "one", "more"] ["machine", "p", "q", "weights"] (defScope s_shows_enough) := ⟨rfl, rfl, rfl, by decide +kernel, rfl, by decide +kernel, by decide +kernel⟩
abbrev s_is_too_little : Stmt := topS 31
theorem sc_is_too_little : FnScope ["told", "p", "m", "many"] ["told", "p", "m"] (defScope s_is_too_little) := ⟨rfl, rfl, rfl, by decide +kernel, rfl, by decide +kernel, by decide +kernel⟩
abbrev s_too_little : Stmt := topS 32
theorem sc_too_little : FnScope ["machine", "p", "q", "most", "m", "told"] ["machine", "p", "q", "most"] (defScope s_too_little) := ⟨rfl, rfl, rfl, by decide +kernel, rfl, by decide +kernel, by decide +kernel⟩
abbrev s_shows_too_little : Stmt := topS 33
theorem sc_shows_too_little : FnScope ["machine", "p", "q", "m", "told"] ["machine", "p", "q", "m", "told"] (defScope s_shows_too_little) := ⟨rfl, rfl, rfl, by decide +kernel, rfl, by decide +kernel, by decide +kernel⟩
abbrev s_round_count : Stmt := topS 35
theorem sc_round_count : FnScope ["machine", "room", "many"] ["machine", "room", "many"] (defScope s_round_count) := ⟨rfl, rfl, rfl, by decide +kernel, rfl, by decide +kernel, by decide +kernel⟩
abbrev s_bits_for : Stmt := topS 36
theorem sc_bits_for : FnScope ["machine", "room", "many", "found"] ["machine", "room", "many"] (defScope s_bits_for) := ⟨rfl, rfl, rfl, by decide +kernel, rfl, by decide +kernel, by decide +kernel⟩
abbrev s_least_many : Stmt := topS 37
theorem sc_least_many : FnScope ["machine", "room", "p", "most", "told", "many"] ["machine", "room", "p", "most"] (defScope s_least_many) := ⟨rfl, rfl, rfl, by decide +kernel, rfl, by decide +kernel, by decide +kernel⟩
abbrev s_parts_of : Stmt := topS 38
theorem sc_parts_of : FnScope ["row", "many", "place"] ["row", "many"] (defScope s_parts_of) := ⟨rfl, rfl, rfl, by decide +kernel, rfl, by decide +kernel, by decide +kernel⟩
abbrev s_as_bits : Stmt := topS 39
theorem sc_as_bits : FnScope ["number", "many", "place"] ["number", "many"] (defScope s_as_bits) := ⟨rfl, rfl, rfl, by decide +kernel, rfl, by decide +kernel, by decide +kernel⟩
abbrev s_as_number : Stmt := topS 40
theorem sc_as_number : FnScope ["bits", "found", "bit"] ["bits"] (defScope s_as_number) := ⟨rfl, rfl, rfl, by decide +kernel, rfl, by decide +kernel, by decide +kernel⟩
abbrev s_table_written : Stmt := topS 41
theorem sc_table_written : FnScope ["machine", "room", "many", "bits", "p", "part"] ["machine", "room", "many", "bits"] (defScope s_table_written) := ⟨rfl, rfl, rfl, by decide +kernel, rfl, by decide +kernel, by decide +kernel⟩
abbrev s_block_number : Stmt := topS 42
theorem sc_block_number : FnScope ["machine", "room", "many", "block", "found"] ["machine", "room", "many", "block"] (defScope s_block_number) := ⟨rfl, rfl, rfl, by decide +kernel, rfl, by decide +kernel, by decide +kernel⟩
abbrev s_table_read : Stmt := topS 43
theorem sc_table_read : FnScope ["machine", "room", "many", "row", "p", "bits", "place", "block", "number"] ["machine", "room", "many", "row"] (defScope s_table_read) := ⟨rfl, rfl, rfl, by decide +kernel, rfl, by decide +kernel, by decide +kernel⟩
abbrev s__law_cell_at : Stmt := topS 45
theorem sc__law_cell_at : FnScope ["script", "k"] ["script", "k"] (defScope s__law_cell_at) := ⟨rfl, rfl, rfl, by decide +kernel, rfl, by decide +kernel, by decide +kernel⟩
abbrev s__law_box : Stmt := topS 46
theorem sc__law_box : FnScope ["script", "k", "cell"] ["script", "k"] (defScope s__law_box) := ⟨rfl, rfl, rfl, by decide +kernel, rfl, by decide +kernel, by decide +kernel⟩
abbrev s__law_take : Stmt := topS 47
theorem sc__law_take : FnScope ["box", "many", "found", "once", "twice"] ["box", "many"] (defScope s__law_take) := ⟨rfl, rfl, rfl, by decide +kernel, rfl, by decide +kernel, by decide +kernel⟩
abbrev s__law_bursts : Stmt := topS 48
theorem sc__law_bursts : FnScope ["box", "found", "turn"] ["box"] (defScope s__law_bursts) := ⟨rfl, rfl, rfl, by decide +kernel, rfl, by decide +kernel, by decide +kernel⟩
abbrev s__law_ring : Stmt := topS 49
theorem sc__law_ring : FnScope ["box", "wide", "order", "rooms", "k", "at", "both", "on"] ["box", "wide"] (defScope s__law_ring) := ⟨rfl, rfl, rfl, by decide +kernel, rfl, by decide +kernel, by decide +kernel⟩
abbrev s__law_many : Stmt := topS 50
theorem sc__law_many : FnScope ["wide", "at", "many", "found", "step"] ["wide", "at", "many"] (defScope s__law_many) := ⟨rfl, rfl, rfl, by decide +kernel, rfl, by decide +kernel, by decide +kernel⟩
abbrev s__law_by_rooms : Stmt := topS 51
theorem sc__law_by_rooms : FnScope ["order", "some", "found", "at", "room"] ["order", "some"] (defScope s__law_by_rooms) := ⟨rfl, rfl, rfl, by decide +kernel, rfl, by decide +kernel, by decide +kernel⟩
abbrev s__law_counts : Stmt := topS 52
theorem sc__law_counts : FnScope ["wide", "order", "many", "at"] ["wide", "order", "many"] (defScope s__law_counts) := ⟨rfl, rfl, rfl, by decide +kernel, rfl, by decide +kernel, by decide +kernel⟩
abbrev s__law_short : Stmt := topS 53
theorem sc__law_short : FnScope ["wide", "p", "many", "m", "at"] ["wide", "p", "many", "m"] (defScope s__law_short) := ⟨rfl, rfl, rfl, by decide +kernel, rfl, by decide +kernel, by decide +kernel⟩
abbrev s__law_room_right : Stmt := topS 54
theorem sc__law_room_right : FnScope ["box", "wide", "machine", "order", "p", "q", "m", "dues", "first", "most", "some", "due", "found"] ["box", "wide", "machine", "order", "p", "q"] (defScope s__law_room_right) := ⟨rfl, rfl, rfl, by decide +kernel, rfl, by decide +kernel, by decide +kernel⟩
abbrev s__law_weights : Stmt := topS 55
theorem sc__law_weights : FnScope ["wide", "p", "q", "most", "weights", "lesser", "at", "weight", "behind"] ["wide", "p", "q", "most"] (defScope s__law_weights) := ⟨rfl, rfl, rfl, by decide +kernel, rfl, by decide +kernel, by decide +kernel⟩
abbrev s__law_enough_right : Stmt := topS 56
theorem sc__law_enough_right : FnScope ["box", "wide", "machine", "order", "p", "q", "most", "due", "found"] ["box", "wide", "machine", "order", "p", "q"] (defScope s__law_enough_right) := ⟨rfl, rfl, rfl, by decide +kernel, rfl, by decide +kernel, by decide +kernel⟩
abbrev s__law_growth_right : Stmt := topS 57
theorem sc__law_growth_right : FnScope ["wide", "machine", "order", "steps", "weights", "turn", "added", "low", "high", "told", "top", "below", "ends", "at", "both", "one", "more", "end"] ["wide", "machine", "order", "steps"] (defScope s__law_growth_right) := ⟨rfl, rfl, rfl, by decide +kernel, rfl, by decide +kernel, by decide +kernel⟩
abbrev s__law_rounds_right : Stmt := topS 58
theorem sc__law_rounds_right : FnScope ["box", "wide", "machine", "order", "room", "more", "size", "many", "p", "due", "found", "n"] ["box", "wide", "machine", "order"] (defScope s__law_rounds_right) := ⟨rfl, rfl, rfl, by decide +kernel, rfl, by decide +kernel, by decide +kernel⟩
abbrev s__law_of_order : Stmt := topS 59
theorem sc__law_of_order : FnScope ["box", "order"] ["box", "order"] (defScope s__law_of_order) := ⟨rfl, rfl, rfl, by decide +kernel, rfl, by decide +kernel, by decide +kernel⟩
abbrev s__law_fours_right : Stmt := topS 60
theorem sc__law_fours_right : FnScope ["box", "order", "rooms", "bit", "back", "at", "room", "on", "machine", "many", "bits", "row", "some", "due", "p", "found"] ["box"] (defScope s__law_fours_right) := ⟨rfl, rfl, rfl, by decide +kernel, rfl, by decide +kernel, by decide +kernel⟩
abbrev s_law : Stmt := topS 61
theorem sc_law : FnScope ["script", "k", "box", "wide", "machine", "order", "p", "q", "at"] ["script"] (defScope s_law) := ⟨rfl, rfl, rfl, by decide +kernel, rfl, by decide +kernel, by decide +kernel⟩
abbrev a_NoRow : Addr := 49
abbrev a_BadBlock : Addr := 80
def is_BadBlock : Stmt := match topS 5 with
  | .ClassDef (body := b) .. => b.getD 0 (.Pass ⟨0, 0, 0, 0⟩)
  | _ => .Pass ⟨0, 0, 0, 0⟩
theorem isc_BadBlock : FnScope ["self", "block"] ["self", "block"] (defScope is_BadBlock) := ⟨rfl, rfl, rfl, by decide +kernel, rfl, by decide +kernel, by decide +kernel⟩
structure Ad where
  fi_BadBlock : Addr
  di_BadBlock : FuncData
  br_BadBlock : Addr
  f_ends_of : Addr
  d_ends_of : FuncData
  f_one_longer : Addr
  d_one_longer : FuncData
  f_tables_of : Addr
  d_tables_of : FuncData
  f_counts : Addr
  d_counts : FuncData
  f_counts_to : Addr
  d_counts_to : FuncData
  f_from_there : Addr
  d_from_there : FuncData
  f_row_at : Addr
  d_row_at : FuncData
  f_number_of : Addr
  d_number_of : FuncData
  f_is_number : Addr
  d_is_number : FuncData
  f_are_numbers : Addr
  d_are_numbers : FuncData
  f_divisor : Addr
  d_divisor : FuncData
  f_fraction : Addr
  d_fraction : FuncData
  f_way_sums : Addr
  d_way_sums : FuncData
  f_least_ratio : Addr
  d_least_ratio : FuncData
  f_greatest_ratio : Addr
  d_greatest_ratio : FuncData
  f_growth : Addr
  d_growth : FuncData
  f_sums_behind : Addr
  d_sums_behind : FuncData
  f_let_down : Addr
  d_let_down : FuncData
  f_enough : Addr
  d_enough : FuncData
  f_shows_enough : Addr
  d_shows_enough : FuncData
  f_is_too_little : Addr
  d_is_too_little : FuncData
  f_too_little : Addr
  d_too_little : FuncData
  f_shows_too_little : Addr
  d_shows_too_little : FuncData
  f_round_count : Addr
  d_round_count : FuncData
  f_bits_for : Addr
  d_bits_for : FuncData
  f_least_many : Addr
  d_least_many : FuncData
  f_parts_of : Addr
  d_parts_of : FuncData
  f_as_bits : Addr
  d_as_bits : FuncData
  f_as_number : Addr
  d_as_number : FuncData
  f_table_written : Addr
  d_table_written : FuncData
  f_block_number : Addr
  d_block_number : FuncData
  f_table_read : Addr
  d_table_read : FuncData
  f__law_cell_at : Addr
  d__law_cell_at : FuncData
  f__law_box : Addr
  d__law_box : FuncData
  f__law_take : Addr
  d__law_take : FuncData
  f__law_bursts : Addr
  d__law_bursts : FuncData
  f__law_ring : Addr
  d__law_ring : FuncData
  f__law_many : Addr
  d__law_many : FuncData
  f__law_by_rooms : Addr
  d__law_by_rooms : FuncData
  f__law_counts : Addr
  d__law_counts : FuncData
  f__law_short : Addr
  d__law_short : FuncData
  f__law_room_right : Addr
  d__law_room_right : FuncData
  f__law_weights : Addr
  d__law_weights : FuncData
  f__law_enough_right : Addr
  d__law_enough_right : FuncData
  f__law_growth_right : Addr
  d__law_growth_right : FuncData
  f__law_rounds_right : Addr
  d__law_rounds_right : FuncData
  f__law_of_order : Addr
  d__law_of_order : FuncData
  f__law_fours_right : Addr
  d__law_fours_right : FuncData
  f_law : Addr
  d_law : FuncData
structure Tx (K : PySem.W.Frag) (mg : Str → Option Value) (a : Ad) : Prop where
  F_ends_of : Fun K "ends_of" "ends_of" s_ends_of a.f_ends_of a.d_ends_of
  g_ends_of : mg "ends_of" = some (.ref a.f_ends_of)
  b_ends_of : Binds K a.d_ends_of ["room"] []
  F_one_longer : Fun K "one_longer" "one_longer" s_one_longer a.f_one_longer a.d_one_longer
  g_one_longer : mg "one_longer" = some (.ref a.f_one_longer)
  b_one_longer : Binds K a.d_one_longer ["machine", "found"] []
  F_tables_of : Fun K "tables_of" "tables_of" s_tables_of a.f_tables_of a.d_tables_of
  g_tables_of : mg "tables_of" = some (.ref a.f_tables_of)
  b_tables_of : Binds K a.d_tables_of ["machine", "goal", "many"] []
  F_counts : Fun K "counts" "counts" s_counts a.f_counts a.d_counts
  g_counts : mg "counts" = some (.ref a.f_counts)
  b_counts : Binds K a.d_counts ["machine", "many"] []
  F_counts_to : Fun K "counts_to" "counts_to" s_counts_to a.f_counts_to a.d_counts_to
  g_counts_to : mg "counts_to" = some (.ref a.f_counts_to)
  b_counts_to : Binds K a.d_counts_to ["machine", "many", "goal"] []
  F_from_there : Fun K "from_there" "from_there" s_from_there a.f_from_there a.d_from_there
  g_from_there : mg "from_there" = some (.ref a.f_from_there)
  b_from_there : Binds K a.d_from_there ["tables", "machine", "room", "left", "number"] []
  F_row_at : Fun K "row_at" "row_at" s_row_at a.f_row_at a.d_row_at
  g_row_at : mg "row_at" = some (.ref a.f_row_at)
  b_row_at : Binds K a.d_row_at ["machine", "room", "goal", "many", "number"] []
  F_number_of : Fun K "number_of" "number_of" s_number_of a.f_number_of a.d_number_of
  g_number_of : mg "number_of" = some (.ref a.f_number_of)
  b_number_of : Binds K a.d_number_of ["machine", "room", "goal", "row"] []
  F_is_number : Fun K "is_number" "is_number" s_is_number a.f_is_number a.d_is_number
  g_is_number : mg "is_number" = some (.ref a.f_is_number)
  b_is_number : Binds K a.d_is_number ["thing", "least"] []
  F_are_numbers : Fun K "are_numbers" "are_numbers" s_are_numbers a.f_are_numbers a.d_are_numbers
  g_are_numbers : mg "are_numbers" = some (.ref a.f_are_numbers)
  b_are_numbers : Binds K a.d_are_numbers ["thing", "many", "least"] []
  F_divisor : Fun K "divisor" "divisor" s_divisor a.f_divisor a.d_divisor
  g_divisor : mg "divisor" = some (.ref a.f_divisor)
  b_divisor : Binds K a.d_divisor ["one", "other"] []
  F_fraction : Fun K "fraction" "fraction" s_fraction a.f_fraction a.d_fraction
  g_fraction : mg "fraction" = some (.ref a.f_fraction)
  b_fraction : Binds K a.d_fraction ["top", "below"] []
  F_way_sums : Fun K "way_sums" "way_sums" s_way_sums a.f_way_sums a.d_way_sums
  g_way_sums : mg "way_sums" = some (.ref a.f_way_sums)
  b_way_sums : Binds K a.d_way_sums ["machine", "weights"] []
  F_least_ratio : Fun K "least_ratio" "least_ratio" s_least_ratio a.f_least_ratio a.d_least_ratio
  g_least_ratio : mg "least_ratio" = some (.ref a.f_least_ratio)
  b_least_ratio : Binds K a.d_least_ratio ["tops", "belows"] []
  F_greatest_ratio : Fun K "greatest_ratio" "greatest_ratio" s_greatest_ratio a.f_greatest_ratio a.d_greatest_ratio
  g_greatest_ratio : mg "greatest_ratio" = some (.ref a.f_greatest_ratio)
  b_greatest_ratio : Binds K a.d_greatest_ratio ["tops", "belows"] []
  F_growth : Fun K "growth" "growth" s_growth a.f_growth a.d_growth
  g_growth : mg "growth" = some (.ref a.f_growth)
  b_growth : Binds K a.d_growth ["machine", "steps"] []
  F_sums_behind : Fun K "sums_behind" "sums_behind" s_sums_behind a.f_sums_behind a.d_sums_behind
  g_sums_behind : mg "sums_behind" = some (.ref a.f_sums_behind)
  b_sums_behind : Binds K a.d_sums_behind ["machine", "q", "weights"] []
  F_let_down : Fun K "let_down" "let_down" s_let_down a.f_let_down a.d_let_down
  g_let_down : mg "let_down" = some (.ref a.f_let_down)
  b_let_down : Binds K a.d_let_down ["machine", "p", "q", "weights"] []
  F_enough : Fun K "enough" "enough" s_enough a.f_enough a.d_enough
  g_enough : mg "enough" = some (.ref a.f_enough)
  b_enough : Binds K a.d_enough ["machine", "p", "q", "most"] []
  F_shows_enough : Fun K "shows_enough" "shows_enough" s_shows_enough a.f_shows_enough a.d_shows_enough
  g_shows_enough : mg "shows_enough" = some (.ref a.f_shows_enough)
  b_shows_enough : Binds K a.d_shows_enough ["machine", "p", "q", "weights"] []
  F_is_too_little : Fun K "is_too_little" "is_too_little" s_is_too_little a.f_is_too_little a.d_is_too_little
  g_is_too_little : mg "is_too_little" = some (.ref a.f_is_too_little)
  b_is_too_little : Binds K a.d_is_too_little ["told", "p", "m"] []
  F_too_little : Fun K "too_little" "too_little" s_too_little a.f_too_little a.d_too_little
  g_too_little : mg "too_little" = some (.ref a.f_too_little)
  b_too_little : Binds K a.d_too_little ["machine", "p", "q", "most"] []
  F_shows_too_little : Fun K "shows_too_little" "shows_too_little" s_shows_too_little a.f_shows_too_little a.d_shows_too_little
  g_shows_too_little : mg "shows_too_little" = some (.ref a.f_shows_too_little)
  b_shows_too_little : Binds K a.d_shows_too_little ["machine", "p", "q", "m", "told"] []
  F_round_count : Fun K "round_count" "round_count" s_round_count a.f_round_count a.d_round_count
  g_round_count : mg "round_count" = some (.ref a.f_round_count)
  b_round_count : Binds K a.d_round_count ["machine", "room", "many"] []
  F_bits_for : Fun K "bits_for" "bits_for" s_bits_for a.f_bits_for a.d_bits_for
  g_bits_for : mg "bits_for" = some (.ref a.f_bits_for)
  b_bits_for : Binds K a.d_bits_for ["machine", "room", "many"] []
  F_least_many : Fun K "least_many" "least_many" s_least_many a.f_least_many a.d_least_many
  g_least_many : mg "least_many" = some (.ref a.f_least_many)
  b_least_many : Binds K a.d_least_many ["machine", "room", "p", "most"] []
  F_parts_of : Fun K "parts_of" "parts_of" s_parts_of a.f_parts_of a.d_parts_of
  g_parts_of : mg "parts_of" = some (.ref a.f_parts_of)
  b_parts_of : Binds K a.d_parts_of ["row", "many"] []
  F_as_bits : Fun K "as_bits" "as_bits" s_as_bits a.f_as_bits a.d_as_bits
  g_as_bits : mg "as_bits" = some (.ref a.f_as_bits)
  b_as_bits : Binds K a.d_as_bits ["number", "many"] []
  F_as_number : Fun K "as_number" "as_number" s_as_number a.f_as_number a.d_as_number
  g_as_number : mg "as_number" = some (.ref a.f_as_number)
  b_as_number : Binds K a.d_as_number ["bits"] []
  F_table_written : Fun K "table_written" "table_written" s_table_written a.f_table_written a.d_table_written
  g_table_written : mg "table_written" = some (.ref a.f_table_written)
  b_table_written : Binds K a.d_table_written ["machine", "room", "many", "bits"] []
  F_block_number : Fun K "block_number" "block_number" s_block_number a.f_block_number a.d_block_number
  g_block_number : mg "block_number" = some (.ref a.f_block_number)
  b_block_number : Binds K a.d_block_number ["machine", "room", "many", "block"] []
  F_table_read : Fun K "table_read" "table_read" s_table_read a.f_table_read a.d_table_read
  g_table_read : mg "table_read" = some (.ref a.f_table_read)
  b_table_read : Binds K a.d_table_read ["machine", "room", "many", "row"] []
  F__law_cell_at : Fun K "_law_cell_at" "_law_cell_at" s__law_cell_at a.f__law_cell_at a.d__law_cell_at
  g__law_cell_at : mg "_law_cell_at" = some (.ref a.f__law_cell_at)
  b__law_cell_at : Binds K a.d__law_cell_at ["script", "k"] []
  F__law_box : Fun K "_law_box" "_law_box" s__law_box a.f__law_box a.d__law_box
  g__law_box : mg "_law_box" = some (.ref a.f__law_box)
  b__law_box : Binds K a.d__law_box ["script", "k"] []
  F__law_take : Fun K "_law_take" "_law_take" s__law_take a.f__law_take a.d__law_take
  g__law_take : mg "_law_take" = some (.ref a.f__law_take)
  b__law_take : Binds K a.d__law_take ["box", "many"] []
  F__law_bursts : Fun K "_law_bursts" "_law_bursts" s__law_bursts a.f__law_bursts a.d__law_bursts
  g__law_bursts : mg "_law_bursts" = some (.ref a.f__law_bursts)
  b__law_bursts : Binds K a.d__law_bursts ["box"] []
  F__law_ring : Fun K "_law_ring" "_law_ring" s__law_ring a.f__law_ring a.d__law_ring
  g__law_ring : mg "_law_ring" = some (.ref a.f__law_ring)
  b__law_ring : Binds K a.d__law_ring ["box", "wide"] []
  F__law_many : Fun K "_law_many" "_law_many" s__law_many a.f__law_many a.d__law_many
  g__law_many : mg "_law_many" = some (.ref a.f__law_many)
  b__law_many : Binds K a.d__law_many ["wide", "at", "many"] []
  F__law_by_rooms : Fun K "_law_by_rooms" "_law_by_rooms" s__law_by_rooms a.f__law_by_rooms a.d__law_by_rooms
  g__law_by_rooms : mg "_law_by_rooms" = some (.ref a.f__law_by_rooms)
  b__law_by_rooms : Binds K a.d__law_by_rooms ["order", "some"] []
  F__law_counts : Fun K "_law_counts" "_law_counts" s__law_counts a.f__law_counts a.d__law_counts
  g__law_counts : mg "_law_counts" = some (.ref a.f__law_counts)
  b__law_counts : Binds K a.d__law_counts ["wide", "order", "many"] []
  F__law_short : Fun K "_law_short" "_law_short" s__law_short a.f__law_short a.d__law_short
  g__law_short : mg "_law_short" = some (.ref a.f__law_short)
  b__law_short : Binds K a.d__law_short ["wide", "p", "many", "m"] []
  F__law_room_right : Fun K "_law_room_right" "_law_room_right" s__law_room_right a.f__law_room_right a.d__law_room_right
  g__law_room_right : mg "_law_room_right" = some (.ref a.f__law_room_right)
  b__law_room_right : Binds K a.d__law_room_right ["box", "wide", "machine", "order", "p", "q"] []
  F__law_weights : Fun K "_law_weights" "_law_weights" s__law_weights a.f__law_weights a.d__law_weights
  g__law_weights : mg "_law_weights" = some (.ref a.f__law_weights)
  b__law_weights : Binds K a.d__law_weights ["wide", "p", "q", "most"] []
  F__law_enough_right : Fun K "_law_enough_right" "_law_enough_right" s__law_enough_right a.f__law_enough_right a.d__law_enough_right
  g__law_enough_right : mg "_law_enough_right" = some (.ref a.f__law_enough_right)
  b__law_enough_right : Binds K a.d__law_enough_right ["box", "wide", "machine", "order", "p", "q"] []
  F__law_growth_right : Fun K "_law_growth_right" "_law_growth_right" s__law_growth_right a.f__law_growth_right a.d__law_growth_right
  g__law_growth_right : mg "_law_growth_right" = some (.ref a.f__law_growth_right)
  b__law_growth_right : Binds K a.d__law_growth_right ["wide", "machine", "order", "steps"] []
  F__law_rounds_right : Fun K "_law_rounds_right" "_law_rounds_right" s__law_rounds_right a.f__law_rounds_right a.d__law_rounds_right
  g__law_rounds_right : mg "_law_rounds_right" = some (.ref a.f__law_rounds_right)
  b__law_rounds_right : Binds K a.d__law_rounds_right ["box", "wide", "machine", "order"] []
  F__law_of_order : Fun K "_law_of_order" "_law_of_order" s__law_of_order a.f__law_of_order a.d__law_of_order
  g__law_of_order : mg "_law_of_order" = some (.ref a.f__law_of_order)
  b__law_of_order : Binds K a.d__law_of_order ["box", "order"] []
  F__law_fours_right : Fun K "_law_fours_right" "_law_fours_right" s__law_fours_right a.f__law_fours_right a.d__law_fours_right
  g__law_fours_right : mg "_law_fours_right" = some (.ref a.f__law_fours_right)
  b__law_fours_right : Binds K a.d__law_fours_right ["box"] []
  F_law : Fun K "law" "law" s_law a.f_law a.d_law
  g_law : mg "law" = some (.ref a.f_law)
  b_law : Binds K a.d_law ["script"] []
  FI_BadBlock : Fun K "__init__" "BadBlock.__init__" is_BadBlock a.fi_BadBlock a.di_BadBlock
  o_BadBlock : OexC K a_BadBlock
  i_BadBlock : PySem.W.findIn K (.ref a_BadBlock) "__init__" = some (some (.ref a.fi_BadBlock))
  t_BadBlock : PySem.W.typeIn K (.ref a.fi_BadBlock) = some (.type "function")
  b_BadBlock : Binds K a.di_BadBlock ["self", "block"] []
  g_BadBlock : mg "BadBlock" = some (.ref a_BadBlock)
  x_BadBlock : PySem.W.exmOne K (.ref a_BadBlock) (.ref a_BadBlock) = some true
  f_BadBlock : XfC K a_BadBlock
  n_BadBlock : PySem.W.findIn K (.ref a_BadBlock) "block" = some none
  gb_BadBlock : mg "RunError" = some (.ref a.br_BadBlock)
  sb_BadBlock : PySem.W.specialIn K (.ref a.br_BadBlock) "__getattribute__" = some (some (.builtin "type.__getattribute__"))
  rb_BadBlock : PySem.W.readsIn K a.br_BadBlock (.type "type") = true
  cb_BadBlock : PySem.W.findCls K (.ref a.br_BadBlock) (.type "type") "__init__" = some (.val (.builtin "ValueError.__init__"))
  e_NoRow : ClsAt K mg "NoRow" a_NoRow
  s_NoRow_NoRow : PySem.W.subIn K (.ref a_NoRow) (.ref a_NoRow) = some true
  m_abs : mg "abs" = none
  m_all : mg "all" = none
  m_any : mg "any" = none
  m_bool : mg "bool" = none
  m_enumerate : mg "enumerate" = none
  m_int : mg "int" = none
  m_isinstance : mg "isinstance" = none
  m_len : mg "len" = none
  m_list : mg "list" = none
  m_max : mg "max" = none
  m_min : mg "min" = none
  m_range : mg "range" = none
  m_sum : mg "sum" = none
  m_tuple : mg "tuple" = none
  m_zip : mg "zip" = none
  c_MOST_BLOCKS : ∃ t, mg "MOST_BLOCKS" = some (.int 400 t)
theorem G_BadBlock {P : Program} {w : World} {K : PySem.W.Frag} {mg : Str → Option Value} {base : Heap} {a : Ad} (T : Tx K mg a) : FnOk P w K mg base CX0 1 a.fi_BadBlock a.di_BadBlock ["self", "block"] (spInit a_BadBlock "block") :=
  Fun.ok T.FI_BadBlock isc_BadBlock (by rintro vs H Q E ⟨a, v, rfl, _⟩; rfl) fun cdv A outer s H vs Q E hr h => by
  refine ⟨_, pss_cons (ps_expr (pe_oinit rfl T.gb_BadBlock T.sb_BadBlock T.rb_BadBlock T.cb_BadBlock (pa_cons (pv 0) (pa_cons pe_str pa_nil)))) (pss_one (ps_ost (pv 0) (pv 1))), ?_⟩
  obtain ⟨x, v, rfl, hx, hq⟩ := h
  exact ⟨.ref x, rfl, x, a_BadBlock, [.str _], rfl, by decide, T.o_BadBlock, hx, v, rfl, .ref x, rfl, x, a_BadBlock, rfl, T.o_BadBlock, T.n_BadBlock, .inl ⟨hx, fun dx h1 h2 => hq dx h1 h2⟩⟩

end K82
namespace K82
open PySem PySem.Spec PyProof.Rows L2 G
variable {P : Program} {w : World} {K : PySem.W.Frag} {mg : Str → Option Value} {base : Heap} {a : Ad}
local macro_rules | `(tactic| walk_at "wk") => `(tactic| repeat first | exact Wk.nil' | refine Wk.eq ?_ | refine Wk.un ?_ | refine Wk.eqv ?_ ?_)
local macro_rules | `(tactic| walk_at "ev") => `(tactic| (repeat (first | with_reducible refine nxt_go ?_ | dsimp only [↓mVar, ↓mC, ↓mBin, ↓mTst, ↓mAndT, ↓mOrT, ↓mNotT, ↓mAndV, ↓mOrV, ↓mNotV, ↓mIf, ↓mChain, ↓mNil, ↓mCons, ↓mTup, ↓mLst, ↓mFz, ↓mIxV, ↓mNoP, ↓mSoP, ↓mSl, ↓mNeg, ↓mNx, ↓mSeq, ↓mBk, ↓mCt, ↓mEx, ↓mIfS, ↓mXe, ↓mXo, ↓mSet, ↓mRet, ↓mRetO, ↓mRetN, ↓mRetV, ↓mAug, ↓gN, ↓gNl, ↓gCs, ↓gT, ↓iL, ↓iT, ↓iS, ↓iR1, ↓iR2, ↓iR3, ↓iEn, ↓iEnS, ↓iZp, ↓iRv, ↓mYes, ↓mCall, ↓mCallO, ↓mCallM, ↓mBf, ↓mLi, ↓mLenV, ↓mMut, ↓mMt, ↓mSub, ↓mUnp, ↓mPar2, ↓mPar3, ↓mSm, ↓mBits, ↓mNever, ↓mFzS, ↓mCmpV, ↓mRaise, ↓mTry, ↓mRaiseF, ↓mTryF, ↓mIsi, ↓mIsi2, ↓iEnT, ↓mLm, ↓mRep, ↓wipeS, ↓fAdd_int, ↓fAddI_int, ↓fSub_int, ↓fLt_int, ↓fLe_int, ↓fGt_int, ↓fGe_int, ↓fEq_int, ↓fNe_int, ↓fEq_bl, ↓fNe_bl, ↓Nat.reduceAdd, ↓Nat.reduceSub, ↓List.reduceReplicate, ↓List.map, ↓List.replicate, ↓List.length, ↓List.append, ↓List.cons_append, ↓List.nil_append, ↓List.set, ↓List.getElem?_cons_zero, ↓List.getElem?_cons_succ, ↓List.set_cons_zero, ↓List.set_cons_succ, ↓List.length_cons, ↓List.length_nil, rvD_fz, rvD_ow, PEnds.loop])))
def m_ends_of : MS := mRet (mFz (mLc (iT (mVar 0)) (gN 1) (mTst (mBin fIsNot (mVar 1) (mC .non))) (mVar 1) [1]))
theorem bd_ends_of (T : Tx K mg a) : Bd P w K mg base 0 ["room", "end"] s_ends_of m_ends_of := ⟨fun qual f cdv A outer s H E hr tk pw =>
  gss_one (gs_ret (ge_fz (go_lc (own := [("end", 1)]) rfl sc_ends_of.nd (gi_tup (ge_var)) (blkOk_by (N := ["room", "end"]) (sc := (defScope s_ends_of)) (by decide +kernel)) (fun _ _ _ _ _ => gg_name sc_ends_of.nd) (fun _ _ _ _ _ => gts_one (gt_cmp op_isNotA od_isnot (ge_var) (ge_non))) (fun _ _ _ _ _ => ge_var))))⟩
def c_ends_of : CtP := fun ds P _ => ∃ r, ds = [rD r] ∧ P (.fz (nL (ends r)))
theorem G_ends_of (T : Tx K mg a) : FnOk P w K mg base (L2.CX P w) 1 a.f_ends_of a.d_ends_of ["room"] (spP K c_ends_of) :=
  fn_P T.F_ends_of sc_ends_of (by rintro ds P PX ⟨r, rfl, _⟩; rfl) (bd_ends_of T) fun ds P PX h => by
  obtain ⟨⟨x, y⟩, rfl, hp⟩ := h
  unfold m_ends_of
  walk_at "ev"
  refine lc_run (fun _ q => by walk_at "ev"; exact q) (xs := [x, y]) (f := oD) rfl (fun k => (([x, y].take k).filterMap id).map nD) (fun _ => [.fz (rD (x, y)), .un]) ⟨rfl, rfl⟩ (fun k i hk => ?_) ?_
  · have hk2 : k < 2 := get_lt hk
    have e : ([x, y].take (k + 1)) = [x, y].take k ++ [i] := take_snoc hk
    walk_at "ev"
    refine fIsNot_o ?_
    walk_at "ev"
    have hl : (([x, y].take k).filterMap id).length ≤ 2 := Nat.le_trans (List.length_filterMap_le _ _) (by rw [List.length_take]; omega)
    cases i with
    | none =>
      refine ⟨fun z => Bool.noConfusion z, fun _ => ⟨?_, rfl⟩⟩
      rw [e, List.filterMap_append]
      simp
    | some v =>
      refine ⟨fun _ => ?_, fun z => Bool.noConfusion z⟩
      walk_at "ev"
      refine ⟨sl_lt (by rw [List.length_map]; omega), ?_, rfl⟩
      rw [e, List.filterMap_append]
      simp
      rfl
  · walk_at "ev"
    have e : [x, y].filterMap id = ends (x, y) := by cases x <;> cases y <;> rfl
    show P (.fz (.lst ((([x, y].take 2).filterMap id).map nD)))
    rw [show [x, y].take 2 = [x, y] from rfl, e]
    exact hp

def m_one_longer : MS := mRet (mFz (mLc (iT (mVar 0)) (gN 2) (mYes) (mBf fSum (mCons (mFz (mLc (iL (mCall c_ends_of (mCons (mVar 2) (mNil)))) (gN 3) (mYes) (mBin fIx (mVar 1) (mVar 3)) [3])) (mNil))) [2]))
theorem bd_one_longer (T : Tx K mg a) : Bd P w K mg base 1 ["machine", "found", "room", "end"] s_one_longer m_one_longer := ⟨fun qual f cdv A outer s H E hr tk pw =>
  gss_one (gs_ret (ge_fz (go_lc (own := [("room", 2)]) rfl sc_one_longer.nd (gi_tup (ge_var)) (blkOk_by (N := ["machine", "found", "room", "end"]) (sc := (defScope s_one_longer)) (by decide +kernel)) (fun _ _ _ _ _ => gg_name sc_one_longer.nd) (fun _ _ _ _ _ => gts_nil) (fun _ _ _ _ _ => ge_bf (cr_sum rfl) cd_sum T.m_sum (ga_cons (ge_fz (go_lc (own := [("end", 3)]) rfl sc_one_longer.nd (gi_list (ge_call (G_ends_of T) (hr.mono (by decide)) T.g_ends_of T.F_ends_of.kp T.b_ends_of takesF (ga_cons (ge_var) (ga_nil)))) (blkOk_by (N := ["machine", "found", "room", "end"]) (sc := (relS _ (defScope s_one_longer))) (by decide +kernel)) (fun _ _ _ _ _ => gg_name sc_one_longer.nd) (fun _ _ _ _ _ => gts_nil) (fun _ _ _ _ _ => ge_ix (ge_var) (ge_var)))) (ga_nil))))))⟩
def c_one_longer : CtP := fun ds P _ => ∃ (M : Mc) (t : List Nat), ds = [mD M, nL t] ∧ M.Ok ∧ t.length = M.length ∧ M.length ≤ 1000 ∧ P (.fz (nL (oneL M t)))
theorem G_one_longer (T : Tx K mg a) : FnOk P w K mg base (L2.CX P w) 2 a.f_one_longer a.d_one_longer ["machine", "found"] (spP K c_one_longer) :=
  fn_P T.F_one_longer sc_one_longer (by rintro ds P PX ⟨M, t, rfl, _⟩; rfl) (bd_one_longer T) fun ds P PX h => by
  obtain ⟨M, t, rfl, ok, hl, hM, hp⟩ := h
  unfold m_one_longer
  walk_at "ev"
  refine lc_run (fun _ q => by walk_at "ev"; exact q) (xs := M) (f := rD) rfl (fun k => (M.take k).map fun r => nD ((ends r).map fun e => t.getD e 0).sum) (fun _ => [.fz (mD M), .fz (nL t), .un, .un]) ⟨rfl, rfl⟩ (fun k r hk => ?_) ?_
  · walk_at "ev"
    refine ⟨fun _ => ?_, fun z => Bool.noConfusion z⟩
    walk_at "ev"
    refine lc_run (ds := (ends r).map nD) (ρ1 := [.fz (mD M), .fz (nL t), .fz (rD r), .un]) (fun _ q => by walk_at "ev"; exact ⟨r, rfl, by walk_at "ev"; exact q⟩) (xs := ends r) (f := nD) rfl (fun j => ((ends r).take j).map fun e => nD (t.getD e 0)) (fun _ => [.fz (mD M), .fz (nL t), .fz (rD r), .un]) ⟨rfl, rfl⟩ (fun j e he => ?_) ?_
    · have hlt := ok r (List.mem_of_getElem? hk) e (List.mem_of_getElem? he)
      walk_at "ev"
      refine ⟨fun _ => ?_, fun z => Bool.noConfusion z⟩
      walk_at "ev"
      refine fIx_n (by omega) ?_
      have h2 : (ends r).length ≤ 2 := by
        obtain ⟨x, y⟩ := r
        cases x <;> cases y <;> simp [ends]
      have := acc_map (F := fun e => nD (t.getD e 0)) he rfl (by omega)
      exact ⟨this.1, this.2, rfl⟩
    · rw [List.take_length]
      walk_at "ev"
      have e : ((ends r).map fun e => nD (t.getD e 0)) = ((ends r).map fun e => t.getD e 0).map nD := by rw [List.map_map]; rfl
      rw [e]
      refine fSum_n ?_
      have := acc_map (F := fun r : Option Nat × Option Nat => nD ((ends r).map fun e => t.getD e 0).sum) hk rfl (by omega)
      exact ⟨this.1, this.2, rfl⟩
  · rw [List.take_length]
    have e : (M.map fun r => nD ((ends r).map fun e => t.getD e 0).sum) = (oneL M t).map nD := by rw [oneL, List.map_map]; rfl
    rw [e]
    walk_at "ev"
    exact hp

def m_tables_of : MS := mSeq (mSet 3 (mXo (mLst (mCons (mFz (mLc (iR1 (mCons (mBf fLen (mCons (mVar 0) (mNil))) (mNil))) (gN 5) (mYes) (mBf fInt (mCons (mOrV (mBin fIs (mVar 1) (mC .non)) (mBin fEq (mVar 5) (mVar 1))) (mNil))) [5])) (mNil))))) (mSeq (mFor (iR1 (mCons (mVar 2) (mNil))) (gN 4) (mEx (mMt fApp 3 (mCons (mCall c_one_longer (mCons (mVar 0) (mCons (mIxV 3 (mNeg (mC (.int 1)))) (mNil)))) (mNil))))) (mRet (mVar 3)))
theorem bd_tables_of (T : Tx K mg a) : Bd P w K mg base 2 ["machine", "goal", "many", "tables", "turn", "room"] s_tables_of m_tables_of := ⟨fun qual f cdv A outer s H E hr tk pw =>
  gss_cons (gs_set (gx_o (go_lst (ga_cons (ge_fz (go_lc (own := [("room", 5)]) rfl sc_tables_of.nd (gi_range1 T.m_range (ga_cons (ge_bf call_len cd_len T.m_len (ga_cons (ge_var) (ga_nil))) (ga_nil))) (blkOk_by (N := ["machine", "goal", "many", "tables", "turn", "room"]) (sc := (defScope s_tables_of)) (by decide +kernel)) (fun _ _ _ _ _ => gg_name sc_tables_of.nd) (fun _ _ _ _ _ => gts_nil) (fun _ _ _ _ _ => ge_bt call_intA cd_int T.m_int (ga_cons (ge_or (ge_cmp op_isA od_is (ge_var) (ge_non)) (ge_one (ge_cmp (op_eqA hr.units) od_eq (ge_var) (ge_var)))) (ga_nil))))) (ga_nil)))) sc_tables_of.nd) (gss_cons (gs_for pw rfl (gi_range1 T.m_range (ga_cons (ge_var) (ga_nil))) (gg_name sc_tables_of.nd) (gss_one (gs_expr (ge_mut PySem.F.slot_list_append PySem.F.type_list_append (MtM.r mt_append) md_app (ga_cons (ge_call (G_one_longer T) (hr.mono (by decide)) T.g_one_longer T.F_one_longer.kp T.b_one_longer tk (ga_cons (ge_var) (ga_cons (ge_ixv (ge_neg (ge_int))) (ga_nil)))) (ga_nil)))))) (gss_one (gs_ret (ge_var))))⟩
def startO (M : Mc) (o : Option Nat) : List Nat := match o with
  | some g => tab M g 0
  | none => List.replicate M.length 1
def tabO (M : Mc) (o : Option Nat) (n : Nat) : List Nat := itL (oneL M) n (startO M o)
theorem tabO_some (M : Mc) (g n : Nat) : tabO M (some g) n = tab M g n := itL_tab M g n
theorem tabO_len (M : Mc) (o : Option Nat) : ∀ n, (tabO M o n).length = M.length
  | 0 => by cases o <;> simp [tabO, itL, startO, tab]
  | n + 1 => by simp [tabO, itL, oneL]
def c_tables_of : CtP := fun ds P _ => ∃ (M : Mc) (o : Option Nat) (n : Nat), ds = [mD M, oD o, .int (n : Nat)] ∧ M.Ok ∧ M.length ≤ 1000 ∧ n ≤ 1000 ∧ P (.fz (tL ((List.range (n + 1)).map (tabO M o))))
theorem start_at {M : Mc} {o : Option Nat} {i : Nat} (h : i < M.length) : (startO M o)[i]? = some (if o = none ∨ o = some i then 1 else 0) := by
  cases o with
  | none => simp [startO, h]
  | some g =>
    unfold startO tab
    rw [List.getElem?_map, List.getElem?_range h]
    show some (if i = g then 1 else 0) = _
    congr 1
    by_cases e : i = g
    · subst e; simp
    · rw [if_neg e, if_neg]; simp; exact fun z => e z.symm
theorem G_tables_of (T : Tx K mg a) : FnOk P w K mg base (L2.CX P w) 3 a.f_tables_of a.d_tables_of ["machine", "goal", "many"] (spP K c_tables_of) :=
  fn_P T.F_tables_of sc_tables_of (by rintro ds P PX ⟨M, g, n, rfl, _⟩; rfl) (bd_tables_of T) fun ds P PX h => by
  obtain ⟨M, o, n, rfl, ok, hM, hn, hp⟩ := h
  unfold m_tables_of
  walk_at "ev"
  refine lc_run (ds := rngD 0 1 M.length) (ρ1 := [.fz (mD M), .fz (oD o), .fz (.int (n : Nat)), .un, .un, .un]) (fun _ q => by walk_at "ev"; refine fLen_tup ?_; walk_at "ev"; rw [List.length_map]; exact ⟨⟨by omega, by omega⟩, q⟩) (range_map M.length 0 1) (fun k => ((List.range M.length).take k).map fun a => nD ((startO M o).getD a 0)) (fun _ => [.fz (mD M), .fz (oD o), .fz (.int (n : Nat)), .un, .un, .un]) ⟨rfl, rfl⟩ (fun k i hk => ?_) ?_
  · obtain ⟨rfl, hlt⟩ := range_get hk
    have ex : (0 : Int) + (i : Nat) * 1 = (i : Nat) := by omega
    walk_at "ev"
    rw [ex]
    refine ⟨fun _ => ?_, fun z => Bool.noConfusion z⟩
    walk_at "ev"
    have hst := start_at (o := o) hlt
    have fin : ∀ b : Bool, (b = true ↔ o = none ∨ o = some i) → D.int (if b = true then 1 else 0) = nD ((startO M o).getD i 0) := fun b hb => by
      rw [getD_of hst]
      by_cases z : o = none ∨ o = some i
      · rw [if_pos z, if_pos (hb.mpr z)]; rfl
      · rw [if_neg z, if_neg fun y => z (hb.mp y)]; rfl
    have acc := fun (d : D) (e : d = nD ((startO M o).getD i 0)) => acc_map (F := fun a => nD ((startO M o).getD a 0)) hk e (by rw [List.length_range]; omega)
    refine fIs_o ?_
    walk_at "ev"
    cases o with
    | none =>
      refine ⟨fun _ => ?_, fun z => Bool.noConfusion z⟩
      refine fInt_bl ?_
      have := acc _ (fin true (by simp))
      exact ⟨this.1, this.2, rfl⟩
    | some g =>
      refine ⟨fun z => Bool.noConfusion z, fun _ => ?_⟩
      walk_at "ev"
      rw [oD_some]
      walk_at "ev"
      refine fInt_bl ?_
      have := acc _ (fin (decide (((i : Nat) : Int) = (g : Nat))) (by rw [deqn]; simp; exact eq_comm))
      exact ⟨this.1, this.2, rfl⟩
  · walk_at "ev"
    have e : (((List.range M.length).take (List.range M.length).length).map fun a => nD ((startO M o).getD a 0)) = (tabO M o 0).map nD := by
      rw [List.take_length]
      apply List.ext_getElem?
      intro i
      rw [List.getElem?_map, List.getElem?_map]
      by_cases h : i < M.length
      · rw [List.getElem?_range h]
        show some (nD ((startO M o).getD i 0)) = ((startO M o)[i]?).map nD
        rw [getD_of (start_at h), start_at h]; rfl
      · rw [List.getElem?_eq_none (by simp; omega), List.getElem?_eq_none (by rw [tabO_len]; omega)]; rfl
    rw [e]
    refine ⟨sl_le (by show 1 ≤ _; decide), ?_⟩
    walk_at "ev"
    refine for_run (fun _ q => by walk_at "ev"; exact ⟨⟨by omega, by omega⟩, q⟩) (range_map n 0 1) (fun k => [.fz (mD M), .fz (oD o), .fz (.int (n : Nat)), .ow none (.lst (((List.range (k + 1)).map (tabO M o)).map nL)), .un, .un]) (by walk_at "wk") (fun k i hk => ?_) ?_
    · obtain ⟨rfl, hlt⟩ := range_get hk
      walk_at "ev"
      refine ⟨nL (tabO M o i), ?_, ?_⟩
      · rw [List.range_succ, List.map_append, List.map_append]
        exact atI_m1
      walk_at "ev"
      refine ⟨M, tabO M o i, rfl, ok, tabO_len M o i, hM, ?_⟩
      walk_at "ev"
      refine ⟨sl_lt (by simp; omega), ?_⟩
      walk_at "ev"
      refine lp_of ?_
      have e : (((List.range (i + 1)).map (tabO M o)).map nL) ++ [nL (oneL M (tabO M o i))] = ((List.range (i + 1 + 1)).map (tabO M o)).map nL := by
        rw [List.range_succ (n := i + 1), List.map_append, List.map_append]
        rfl
      rw [e]
      walk_at "wk"
    · rw [List.length_range]
      walk_at "ev"
      exact hp
theorem tabO_fun (M : Mc) (g : Nat) : tabO M (some g) = tab M g := funext (tabO_some M g)

def m_counts : MS := mRet (mBin fIx (mCall c_tables_of (mCons (mVar 0) (mCons (mC .non) (mCons (mVar 1) (mNil))))) (mNeg (mC (.int 1))))
theorem bd_counts (T : Tx K mg a) : Bd P w K mg base 3 ["machine", "many"] s_counts m_counts := ⟨fun qual f cdv A outer s H E hr tk pw =>
  gss_one (gs_ret (ge_ix (ge_call (G_tables_of T) (hr.mono (by decide)) T.g_tables_of T.F_tables_of.kp T.b_tables_of tk (ga_cons (ge_var) (ga_cons (ge_non) (ga_cons (ge_var) (ga_nil))))) (ge_neg (ge_int))))⟩
def c_counts : CtP := fun ds P _ => ∃ (M : Mc) (n : Nat), ds = [mD M, .int (n : Nat)] ∧ M.Ok ∧ M.length ≤ 1000 ∧ n ≤ 1000 ∧ P (.fz (nL (countsA M n)))
theorem G_counts (T : Tx K mg a) : FnOk P w K mg base (L2.CX P w) 4 a.f_counts a.d_counts ["machine", "many"] (spP K c_counts) :=
  fn_P T.F_counts sc_counts (by rintro ds P PX ⟨M, n, rfl, _⟩; rfl) (bd_counts T) fun ds P PX h => by
  obtain ⟨M, n, rfl, ok, hM, hn, hp⟩ := h
  unfold m_counts
  walk_at "ev"
  refine ⟨M, none, n, rfl, ok, hM, hn, ?_⟩
  walk_at "ev"
  refine ⟨nL (tabO M none n), ?_, hp⟩
  rw [List.range_succ, List.map_append, List.map_append]
  exact atI_m1

def m_counts_to : MS := mRet (mBin fIx (mCall c_tables_of (mCons (mVar 0) (mCons (mVar 2) (mCons (mVar 1) (mNil))))) (mNeg (mC (.int 1))))
theorem bd_counts_to (T : Tx K mg a) : Bd P w K mg base 3 ["machine", "many", "goal"] s_counts_to m_counts_to := ⟨fun qual f cdv A outer s H E hr tk pw =>
  gss_one (gs_ret (ge_ix (ge_call (G_tables_of T) (hr.mono (by decide)) T.g_tables_of T.F_tables_of.kp T.b_tables_of tk (ga_cons (ge_var) (ga_cons (ge_var) (ga_cons (ge_var) (ga_nil))))) (ge_neg (ge_int))))⟩
def c_counts_to : CtP := fun ds P _ => ∃ (M : Mc) (g n : Nat), ds = [mD M, .int (n : Nat), .int (g : Nat)] ∧ M.Ok ∧ M.length ≤ 1000 ∧ n ≤ 1000 ∧ P (.fz (nL (tab M g n)))
theorem G_counts_to (T : Tx K mg a) : FnOk P w K mg base (L2.CX P w) 4 a.f_counts_to a.d_counts_to ["machine", "many", "goal"] (spP K c_counts_to) :=
  fn_P T.F_counts_to sc_counts_to (by rintro ds P PX ⟨M, g, n, rfl, _⟩; rfl) (bd_counts_to T) fun ds P PX h => by
  obtain ⟨M, g, n, rfl, ok, hM, hn, hp⟩ := h
  unfold m_counts_to
  walk_at "ev"
  refine ⟨M, some g, n, rfl, ok, hM, hn, ?_⟩
  rw [tabO_fun]
  walk_at "ev"
  refine ⟨nL (tab M g n), ?_, hp⟩
  rw [List.range_succ, List.map_append, List.map_append]
  exact atI_m1

def m_round_count : MS := mRet (mBin fIx (mCall c_counts_to (mCons (mVar 0) (mCons (mVar 2) (mCons (mVar 1) (mNil))))) (mVar 1))
theorem bd_round_count (T : Tx K mg a) : Bd P w K mg base 4 ["machine", "room", "many"] s_round_count m_round_count := ⟨fun qual f cdv A outer s H E hr tk pw =>
  gss_one (gs_ret (ge_ix (ge_call (G_counts_to T) (hr.mono (by decide)) T.g_counts_to T.F_counts_to.kp T.b_counts_to tk (ga_cons (ge_var) (ga_cons (ge_var) (ga_cons (ge_var) (ga_nil))))) (ge_var)))⟩
def c_round_count : CtP := fun ds P _ => ∃ (M : Mc) (g n : Nat), ds = [mD M, .int (g : Nat), .int (n : Nat)] ∧ M.Ok ∧ M.length ≤ 1000 ∧ g < M.length ∧ n ≤ 1000 ∧ P (.fz (.int (tb M g n g : Nat)))
theorem G_round_count (T : Tx K mg a) : FnOk P w K mg base (L2.CX P w) 5 a.f_round_count a.d_round_count ["machine", "room", "many"] (spP K c_round_count) :=
  fn_P T.F_round_count sc_round_count (by rintro ds P PX ⟨M, g, n, rfl, _⟩; rfl) (bd_round_count T) fun ds P PX h => by
  obtain ⟨M, g, n, rfl, ok, hM, hg, hn, hp⟩ := h
  unfold m_round_count
  walk_at "ev"
  refine ⟨M, g, n, rfl, ok, hM, hn, ?_⟩
  walk_at "ev"
  refine fIx_n (by rw [tab_len]; exact hg) ?_
  exact hp

def m_bits_for : MS := mSeq (mSet 3 (mXe (mCall c_round_count (mCons (mVar 0) (mCons (mVar 1) (mCons (mVar 2) (mNil))))))) (mSeq (mIfS (mTst (mBin fEq (mVar 3) (mC (.int 0)))) (mRet (mC .non)) (mNx)) (mRet (mBin fSub (mBits (mVar 3)) (mC (.int 1)))))
theorem bd_bits_for (T : Tx K mg a) : Bd P w K mg base 5 ["machine", "room", "many", "found"] s_bits_for m_bits_for := ⟨fun qual f cdv A outer s H E hr tk pw =>
  gss_cons (gs_set (gx_e (ge_call (G_round_count T) (hr.mono (by decide)) T.g_round_count T.F_round_count.kp T.b_round_count tk (ga_cons (ge_var) (ga_cons (ge_var) (ga_cons (ge_var) (ga_nil)))))) sc_bits_for.nd) (gss_cons (gs_if (gt_cmp (op_eqA hr.units) od_eq (ge_var) (ge_int)) (gss_one (gs_ret (ge_non))) (gss_nil)) (gss_one (gs_ret (ge_bin op_sub od_sub (ge_bits (ge_var)) (ge_int)))))⟩
def c_bits_for : CtP := fun ds P _ => ∃ (M : Mc) (g n : Nat), ds = [mD M, .int (g : Nat), .int (n : Nat)] ∧ M.Ok ∧ M.length ≤ 1000 ∧ g < M.length ∧ n ≤ 1000 ∧ (tb M g n g = 0 → P (.fz .non)) ∧ (0 < tb M g n g → P (.fz (.int ((tb M g n g).log2 : Nat))))
theorem G_bits_for (T : Tx K mg a) : FnOk P w K mg base (L2.CX P w) 6 a.f_bits_for a.d_bits_for ["machine", "room", "many"] (spP K c_bits_for) :=
  fn_P T.F_bits_for sc_bits_for (by rintro ds P PX ⟨M, g, n, rfl, _⟩; rfl) (bd_bits_for T) fun ds P PX h => by
  obtain ⟨M, g, n, rfl, ok, hM, hg, hn, h0, h1⟩ := h
  unfold m_bits_for
  walk_at "ev"
  refine ⟨M, g, n, rfl, ok, hM, hg, hn, ?_⟩
  generalize tb M g n g = c at h0 h1
  walk_at "ev"
  refine ⟨fun z => ?_, fun z => ?_⟩
  · have z := of_decide_eq_true z
    walk_at "ev"
    exact h0 (by omega)
  · have z := of_decide_eq_false z
    walk_at "ev"
    have hc : 0 < c := by omega
    rw [bits_pos hc]
    exact h1 hc

def m_from_there : MS := mSeq (mSet 5 (mXe (mC (.str "")))) (mSeq (mSet 6 (mXe (mVar 2))) (mSeq (mSet 7 (mXe (mVar 4))) (mSeq (mFor (iR3 (mCons (mBin fSub (mVar 3) (mC (.int 1))) (mCons (mNeg (mC (.int 1))) (mCons (mNeg (mC (.int 1))) (mNil))))) (gN 8) (mSeq (mUnp (mBin fIx (mVar 1) (mVar 6)) (gT (gCs (gN 9) (gCs (gN 10) (gNl))))) (mSeq (mSet 11 (mXe (mIf (mTst (mBin fIs (mVar 9) (mC .non))) (mC (.int 0)) (mBin fIx (mBin fIx (mVar 0) (mVar 8)) (mVar 9))))) (mIfS (mTst (mBin fLt (mVar 7) (mVar 11))) (mSeq (mSet 5 (mXe (mBin fAdd (mVar 5) (mC (.str "0"))))) (mSet 6 (mXe (mVar 9)))) (mSeq (mSet 5 (mXe (mBin fAdd (mVar 5) (mC (.str "1"))))) (mSeq (mSet 6 (mXe (mVar 10))) (mSet 7 (mXe (mBin fSub (mVar 7) (mVar 11)))))))))) (mRet (mVar 5)))))
theorem bd_from_there (T : Tx K mg a) : Bd P w K mg base 0 ["tables", "machine", "room", "left", "number", "row", "at", "ahead", "rest", "first", "second", "many"] s_from_there m_from_there := ⟨fun qual f cdv A outer s H E hr tk pw =>
  gss_cons (gs_set (gx_e (ge_str)) sc_from_there.nd) (gss_cons (gs_set (gx_e (ge_var)) sc_from_there.nd) (gss_cons (gs_set (gx_e (ge_var)) sc_from_there.nd) (gss_cons (gs_for pw rfl (gi_range3 T.m_range (ga_cons (ge_bin op_sub od_sub (ge_var) (ge_int)) (ga_cons (ge_neg (ge_int)) (ga_cons (ge_neg (ge_int)) (ga_nil))))) (gg_name sc_from_there.nd) (gss_cons (gs_unp (ge_ix (ge_var) (ge_var)) (gg_tup2 rfl (gg_name sc_from_there.nd) (gg_name sc_from_there.nd))) (gss_cons (gs_set (gx_e (ge_if (gt_cmp op_isA od_is (ge_var) (ge_non)) (ge_int) (ge_ix (ge_ix (ge_var) (ge_var)) (ge_var)))) sc_from_there.nd) (gss_one (gs_if (gt_cmp op_ltA od_lt (ge_var) (ge_var)) (gss_cons (gs_set (gx_e (ge_bin op_addA od_add (ge_var) (ge_str))) sc_from_there.nd) (gss_one (gs_set (gx_e (ge_var)) sc_from_there.nd))) (gss_cons (gs_set (gx_e (ge_bin op_addA od_add (ge_var) (ge_str))) sc_from_there.nd) (gss_cons (gs_set (gx_e (ge_var)) sc_from_there.nd) (gss_one (gs_set (gx_e (ge_bin op_sub od_sub (ge_var) (ge_var))) sc_from_there.nd))))))))) (gss_one (gs_ret (ge_var))))))⟩
def c_from_there : CtP := fun ds P _ => ∃ (M : Mc) (g n N a k : Nat), ds = [tL ((List.range (N + 1)).map (tab M g)), mD M, .int (a : Nat), .int (n : Nat), .int (k : Nat)] ∧ M.Ok ∧ n ≤ N ∧ N ≤ 1000 ∧ a < M.length ∧ k < tb M g n a ∧ P (.fz (.str (bs (rowAt M g n a k))))
theorem ftO {M : Mc} {g n N : Nat} {o : Option Nat} {P : D → Prop} (hn : n ≤ N) (ho : ∀ e, o = some e → e < M.length) (hp : P (.int (tbO M g n o : Nat))) :
    (o.isNone = true → P (.int 0)) ∧ (o.isNone = false → fIx (tL ((List.range (N + 1)).map (tab M g))) (.int (n : Nat)) fun z => fIx z (oD o) P) := by
  cases o with
  | none => exact ⟨fun _ => hp, fun z => nomatch z⟩
  | some e =>
    refine ⟨fun z => Bool.noConfusion z, fun _ => ?_⟩
    refine fIx_t (by rw [List.getElem?_map, List.getElem?_range (by omega)]; rfl) ?_
    exact fIx_n (by rw [tab_len]; exact ho e rfl) hp
theorem G_from_there (T : Tx K mg a) : FnOk P w K mg base (L2.CX P w) 1 a.f_from_there a.d_from_there ["tables", "machine", "room", "left", "number"] (spP K c_from_there) :=
  fn_P T.F_from_there sc_from_there (by rintro ds P PX ⟨M, g, n, N, a, k, rfl, _⟩; rfl) (bd_from_there T) fun ds P PX h => by
  obtain ⟨M, g, n, N, a, k, rfl, ok, hn, hN, ha, hk, hp⟩ := h
  unfold m_from_there
  walk_at "ev"
  refine for_inv (fun _ q => by walk_at "ev"; exact ⟨n, by have := RgC.neg (i := ((n : Nat) : Int) - 1) (j := -1) (by omega) (by omega) (by decide) (by decide); rwa [show (((n : Nat) : Int) - 1 - -1).toNat = n by omega] at this, q⟩) (range_map n _ (-1))
    (fun i ρ => ∃ (row : List Bool) (u k' : Nat), ρ = [.fz (tL ((List.range (N + 1)).map (tab M g))), .fz (mD M), .fz (.int (a : Nat)), .fz (.int (n : Nat)), .fz (.int (k : Nat)), .fz (.str (bs row)), .fz (.int (u : Nat)), .fz (.int (k' : Nat)), .un, .un, .un, .un] ∧ row.length = i ∧ row ++ rowAt M g (n - i) u k' = rowAt M g n a k ∧ u < M.length ∧ k' < tb M g (n - i) u)
    ⟨_, by walk_at "wk", [], a, k, rfl, rfl, rfl, ha, hk⟩ (fun i x ρ hx hI => ?_) (fun ρ hI => ?_)
  · obtain ⟨rfl, hx⟩ := range_get hx
    obtain ⟨row, u, k', rfl, hl, he, hu, hlt⟩ := hI
    obtain ⟨m, hm⟩ : ∃ m, n - x = m + 1 := ⟨n - x - 1, by omega⟩
    have hm' : n - (x + 1) = m := by omega
    rw [hm] at he hlt
    have ex : ((n : Nat) : Int) - 1 + (x : Nat) * (-1) = (m : Nat) := by omega
    rw [ex]
    obtain ⟨r, hr⟩ := len_get hu
    obtain ⟨e1, e2⟩ := nx_of hr
    walk_at "ev"
    refine fIx_m hr ?_
    walk_at "ev"
    refine fIs_o ?_
    rw [tb_succ hu, e1, e2] at hlt
    rw [rowAt, e1, e2] at he
    walk_at "ev"
    refine ftO (n := m) (N := N) (P := fun z => Nxt _ _ [_, _, _, _, _, _, _, _, _, _, _, .fz z]) (by omega) (fun e h => nx_lt ok (e1.trans h)) ?_
    walk_at "ev"
    refine ⟨fun z => ?_, fun z => ?_⟩
    · have z : k' < tbO M g m r.1 := by have := of_decide_eq_true z; omega
      rw [if_pos z] at he
      walk_at "ev"
      refine fAdd_bs (a := row) (b := [false]) (by rw [hl]; show x + 1 ≤ _; omega) ?_
      walk_at "ev"
      cases h1 : r.1 with
      | none => rw [h1] at z; exact absurd z (Nat.not_lt_zero _)
      | some e =>
        rw [h1] at he z
        refine ⟨_, ?_, row ++ [false], e, k', rfl, by simp [hl], ?_, nx_lt ok (e1.trans h1), ?_⟩
        · walk_at "wk"
        · rw [hm', ← he, List.append_assoc]; rfl
        · rw [hm']; exact z
    · have z : ¬ k' < tbO M g m r.1 := by have := of_decide_eq_false z; omega
      rw [if_neg z] at he
      walk_at "ev"
      refine fAdd_bs (a := row) (b := [true]) (by rw [hl]; show x + 1 ≤ _; omega) ?_
      walk_at "ev"
      have e3 : ((k' : Nat) : Int) - (tbO M g m r.1 : Nat) = ((k' - tbO M g m r.1 : Nat) : Int) := by omega
      rw [e3]
      have z2 : k' - tbO M g m r.1 < tbO M g m r.2 := by omega
      cases h1 : r.2 with
      | none => rw [h1] at z2; exact absurd z2 (Nat.not_lt_zero _)
      | some e =>
        rw [h1] at he z2
        refine ⟨_, ?_, row ++ [true], e, k' - tbO M g m r.1, rfl, by simp [hl], ?_, nx_lt ok (e2.trans h1), ?_⟩
        · walk_at "wk"
        · rw [hm', ← he, List.append_assoc]; rfl
        · rw [hm']; exact z2
  · obtain ⟨row, u, k', rfl, hl, he, hu, hlt⟩ := hI
    rw [List.length_range] at hl he
    rw [Nat.sub_self] at he
    walk_at "ev"
    rw [← he, rowAt, List.append_nil] at hp
    exact hp

def m_row_at : MS := mSeq (mSet 5 (mXe (mCall c_tables_of (mCons (mVar 0) (mCons (mVar 2) (mCons (mVar 3) (mNil))))))) (mSeq (mIfS (mNotT (mTst (mChain fLe fLt (mC (.int 0)) (mVar 4) (mBin fIx (mBin fIx (mVar 5) (mVar 3)) (mVar 1))))) (mNever) (mNx)) (mRet (mCall c_from_there (mCons (mVar 5) (mCons (mVar 0) (mCons (mVar 1) (mCons (mVar 3) (mCons (mVar 4) (mNil)))))))))
theorem bd_row_at (T : Tx K mg a) : Bd P w K mg base 3 ["machine", "room", "goal", "many", "number", "tables"] s_row_at m_row_at := ⟨fun qual f cdv A outer s H E hr tk pw =>
  gss_cons (gs_set (gx_e (ge_call (G_tables_of T) (hr.mono (by decide)) T.g_tables_of T.F_tables_of.kp T.b_tables_of tk (ga_cons (ge_var) (ga_cons (ge_var) (ga_cons (ge_var) (ga_nil)))))) sc_row_at.nd) (gss_cons (gs_if (gt_not (gt_chain op_le op_ltA od_le od_lt (ge_int) (ge_var) (ge_ix (ge_ix (ge_var) (ge_var)) (ge_var)))) (gss_one (gs_never)) (gss_nil)) (gss_one (gs_ret (ge_call (G_from_there T) (hr.mono (by decide)) T.g_from_there T.F_from_there.kp T.b_from_there tk (ga_cons (ge_var) (ga_cons (ge_var) (ga_cons (ge_var) (ga_cons (ge_var) (ga_cons (ge_var) (ga_nil))))))))))⟩
def c_row_at : CtP := fun ds P _ => ∃ (M : Mc) (g n a k : Nat), ds = [mD M, .int (a : Nat), .int (g : Nat), .int (n : Nat), .int (k : Nat)] ∧ M.Ok ∧ M.length ≤ 1000 ∧ n ≤ 1000 ∧ a < M.length ∧ k < tb M g n a ∧ P (.fz (.str (bs (rowAt M g n a k))))
theorem tabs_at {M : Mc} {g n : Nat} {P : D → Prop} (hp : P (nL (tab M g n))) : fIx (tL ((List.range (n + 1)).map (tab M g))) (.int (n : Nat)) P :=
  fIx_t (by rw [List.getElem?_map, List.getElem?_range (by omega)]; rfl) hp
theorem G_row_at (T : Tx K mg a) : FnOk P w K mg base (L2.CX P w) 4 a.f_row_at a.d_row_at ["machine", "room", "goal", "many", "number"] (spP K c_row_at) :=
  fn_P T.F_row_at sc_row_at (by rintro ds P PX ⟨M, g, n, a, k, rfl, _⟩; rfl) (bd_row_at T) fun ds P PX h => by
  obtain ⟨M, g, n, a, k, rfl, ok, hM, hn, ha, hk, hp⟩ := h
  unfold m_row_at
  walk_at "ev"
  refine ⟨M, some g, n, rfl, ok, hM, hn, ?_⟩
  rw [tabO_fun]
  walk_at "ev"
  refine ⟨fun _ => ?_, fun z => ?_⟩
  · walk_at "ev"
    refine tabs_at ?_
    walk_at "ev"
    refine fIx_n (by rw [tab_len]; exact ha) ?_
    walk_at "ev"
    refine ⟨fun z => ?_, fun _ => ?_⟩
    · exfalso
      have hk : k < (tab M g n).getD a 0 := hk
      have : (k : Int) < ((tab M g n).getD a 0 : Nat) := by omega
      rw [decide_eq_true this] at z
      cases z
    · walk_at "ev"
      exact ⟨M, g, n, n, a, k, rfl, ok, Nat.le_refl _, hn, ha, hk, hp⟩
  · exfalso
    rw [decide_eq_true (by omega)] at z
    cases z

def m_number_of : MS := mSeq (mSet 4 (mXe (mCall c_tables_of (mCons (mVar 0) (mCons (mVar 2) (mCons (mBf fLen (mCons (mVar 3) (mNil))) (mNil))))))) (mSeq (mSet 5 (mXe (mVar 1))) (mSeq (mSet 6 (mXe (mC (.int 0)))) (mSeq (mFor (iEnS (mCons (mVar 3) (mNil))) (gT (gCs (gN 7) (gCs (gN 8) (gNl)))) (mSeq (mUnp (mBin fIx (mVar 0) (mVar 5)) (gT (gCs (gN 9) (gCs (gN 10) (gNl))))) (mSeq (mIfS (mAndT (mTst (mBin fEq (mVar 8) (mC (.str "1")))) (mTst (mBin fIsNot (mVar 9) (mC .non)))) (mSet 6 (mXe (mBin fAdd (mVar 6) (mBin fIx (mBin fIx (mVar 4) (mBin fSub (mBin fSub (mBf fLen (mCons (mVar 3) (mNil))) (mVar 7)) (mC (.int 1)))) (mVar 9))))) (mNx)) (mSeq (mSet 5 (mXe (mIf (mTst (mBin fEq (mVar 8) (mC (.str "1")))) (mVar 10) (mVar 9)))) (mIfS (mTst (mBin fIs (mVar 5) (mC .non))) (mRaise a_NoRow) (mNx)))))) (mSeq (mIfS (mAndT (mTst (mBin fIsNot (mVar 2) (mC .non))) (mTst (mBin fNe (mVar 5) (mVar 2)))) (mRaise a_NoRow) (mNx)) (mRet (mVar 6))))))
theorem bd_number_of (T : Tx K mg a) : Bd P w K mg base 3 ["machine", "room", "goal", "row", "tables", "at", "ahead", "place", "bit", "first", "second"] s_number_of m_number_of := ⟨fun qual f cdv A outer s H E hr tk pw =>
  gss_cons (gs_set (gx_e (ge_call (G_tables_of T) (hr.mono (by decide)) T.g_tables_of T.F_tables_of.kp T.b_tables_of tk (ga_cons (ge_var) (ga_cons (ge_var) (ga_cons (ge_bf call_len cd_len T.m_len (ga_cons (ge_var) (ga_nil))) (ga_nil)))))) sc_number_of.nd) (gss_cons (gs_set (gx_e (ge_var)) sc_number_of.nd) (gss_cons (gs_set (gx_e (ge_int)) sc_number_of.nd) (gss_cons (gs_for pw rfl (gi_enumS T.m_enumerate (ga_cons (ge_var) (ga_nil))) (gg_tup2 rfl (gg_name sc_number_of.nd) (gg_name sc_number_of.nd)) (gss_cons (gs_unp (ge_ix (ge_var) (ge_var)) (gg_tup2 rfl (gg_name sc_number_of.nd) (gg_name sc_number_of.nd))) (gss_cons (gs_if (gt_w (gw_and (gt_cmp (op_eqA hr.units) od_eq (ge_var) (ge_str)) (gw_and1 (gt_cmp op_isNotA od_isnot (ge_var) (ge_non))))) (gss_one (gs_set (gx_e (ge_bin op_addA od_add (ge_var) (ge_ix (ge_ix (ge_var) (ge_bin op_sub od_sub (ge_bin op_sub od_sub (ge_bf call_len cd_len T.m_len (ga_cons (ge_var) (ga_nil))) (ge_var)) (ge_int))) (ge_var)))) sc_number_of.nd)) (gss_nil)) (gss_cons (gs_set (gx_e (ge_if (gt_cmp (op_eqA hr.units) od_eq (ge_var) (ge_str)) (ge_var) (ge_var))) sc_number_of.nd) (gss_one (gs_if (gt_cmp op_isA od_is (ge_var) (ge_non)) (gss_one (gs_raise T.e_NoRow rfl tk)) (gss_nil))))))) (gss_cons (gs_if (gt_w (gw_and (gt_cmp op_isNotA od_isnot (ge_var) (ge_non)) (gw_and1 (gt_cmp (op_neA hr.units) od_ne (ge_var) (ge_var))))) (gss_one (gs_raise T.e_NoRow rfl tk)) (gss_nil)) (gss_one (gs_ret (ge_var)))))))⟩
def c_number_of : CtP := fun ds P PX => ∃ (M : Mc) (g a : Nat) (l : List Bool), ds = [mD M, .int (a : Nat), .int (g : Nat), .str (bs l)] ∧ M.Ok ∧ M.length ≤ 1000 ∧ l.length ≤ 1000 ∧ a < M.length ∧ (goM M a l = some g → P (.fz (.int (rkM M g a l : Nat)))) ∧ (goM M a l ≠ some g → PX (.pl a_NoRow))
theorem G_number_of (T : Tx K mg a) : FnOk P w K mg base (L2.CX P w) 4 a.f_number_of a.d_number_of ["machine", "room", "goal", "row"] (spP K c_number_of) :=
  fn_P T.F_number_of sc_number_of (by rintro ds P PX ⟨M, g, a, l, rfl, _⟩; rfl) (bd_number_of T) fun ds P PX h => by
  obtain ⟨M, g, a, l, rfl, ok, hM, hl, ha, hp, hx⟩ := h
  unfold m_number_of
  walk_at "ev"
  refine fLen_bs (by omega) ?_
  walk_at "ev"
  refine ⟨M, some g, l.length, rfl, ok, hM, hl, ?_⟩
  rw [tabO_fun]
  walk_at "ev"
  refine for_inv (fun _ q => by walk_at "ev"; exact q) (enum_bs l)
    (fun k ρ => ∃ (u A : Nat), ρ = [.fz (mD M), .fz (.int (a : Nat)), .fz (.int (g : Nat)), .fz (.str (bs l)), .fz (tL ((List.range (l.length + 1)).map (tab M g))), .fz (.int (u : Nat)), .fz (.int (A : Nat)), .un, .un, .un, .un] ∧ goM M a l = goM M u (l.drop k) ∧ rkM M g a l = A + rkM M g u (l.drop k) ∧ u < M.length)
    ⟨_, by walk_at "wk", a, 0, rfl, rfl, by rw [Nat.zero_add]; rfl, ha⟩ (fun k x ρ hx0 hI => ?_) (fun ρ hI => ?_)
  · obtain ⟨b, hb, rfl⟩ := enum_get hx0
    obtain ⟨u, A, rfl, hgo, hrk, hu⟩ := hI
    have hlt := get_lt hb
    rw [drop_get hb] at hgo hrk
    have hgo : goM M a l = match nx M u b with | some e => goM M e (l.drop (k + 1)) | none => none := hgo
    have hrk : rkM M g a l = A + ((if b then tbO M g (l.drop (k + 1)).length (nx M u false) else 0) + match nx M u b with | some e => rkM M g e (l.drop (k + 1)) | none => 0) := hrk
    obtain ⟨r, hr⟩ := len_get hu
    obtain ⟨e1, e2⟩ := nx_of hr
    rw [List.length_drop] at hrk
    walk_at "ev"
    refine fIx_m hr ?_
    walk_at "ev"
    refine fEq_sb1 ?_
    have tail : ∀ (PD : PEnds) (A' : Nat), rkM M g a l = A' + (match nx M u b with | some e => rkM M g e (l.drop (k + 1)) | none => 0) → PD.ex = (fun x _ => PX x) → (∀ ρ', lp (fun ρ => ∃ (u A : Nat), ρ = [.fz (mD M), .fz (.int (a : Nat)), .fz (.int (g : Nat)), .fz (.str (bs l)), .fz (tL ((List.range (l.length + 1)).map (tab M g))), .fz (.int (u : Nat)), .fz (.int (A : Nat)), .un, .un, .un, .un] ∧ goM M a l = goM M u (l.drop (k + 1)) ∧ rkM M g a l = A + rkM M g u (l.drop (k + 1)) ∧ u < M.length) ρ' → PD.nx ρ') →
        mSeq (mSet 5 (mXe (mIf (mTst (mBin fEq (mVar 8) (mC (.str "1")))) (mVar 10) (mVar 9)))) (mIfS (mTst (mBin fIs (mVar 5) (mC .non))) (mRaise a_NoRow) (mNx)) PD
          [.fz (mD M), .fz (.int (a : Nat)), .fz (.int (g : Nat)), .fz (.str (bs l)), .fz (tL ((List.range (l.length + 1)).map (tab M g))), .fz (.int (u : Nat)), .fz (.int (A' : Nat)), .fz (.int (k : Nat)), .fz (sb b), .fz (oD r.1), .fz (oD r.2)] := fun PD A' hA hex hnx => by
      have fin : ∀ o : Option Nat, nx M u b = o → mIfS (mTst (mBin fIs (mVar 5) (mC .non))) (mRaise a_NoRow) (mNx) PD
          [.fz (mD M), .fz (.int (a : Nat)), .fz (.int (g : Nat)), .fz (.str (bs l)), .fz (tL ((List.range (l.length + 1)).map (tab M g))), .fz (oD o), .fz (.int (A' : Nat)), .fz (.int (k : Nat)), .fz (sb b), .fz (oD r.1), .fz (oD r.2)] := fun o ho => by
        walk_at "ev"
        refine fIs_o ?_
        walk_at "ev"
        rw [ho] at hgo hA
        cases o with
        | none =>
          refine ⟨fun _ => ?_, fun z => Bool.noConfusion z⟩
          walk_at "ev"
          rw [hex]
          refine hx ?_
          rw [hgo]
          exact fun z => nomatch z
        | some e =>
          refine ⟨fun z => Bool.noConfusion z, fun _ => ?_⟩
          walk_at "ev"
          exact hnx _ ⟨_, by walk_at "wk", e, A', rfl, hgo, hA, nx_lt ok ho⟩
      walk_at "ev"
      refine fEq_sb1 ?_
      cases b with
      | true =>
        refine ⟨fun _ => ?_, fun z => Bool.noConfusion z⟩
        walk_at "ev"
        exact fin r.2 e2
      | false =>
        refine ⟨fun z => Bool.noConfusion z, fun _ => ?_⟩
        walk_at "ev"
        exact fin r.1 e1
    walk_at "ev"
    cases b with
    | false =>
      refine ⟨fun z => Bool.noConfusion z, fun _ => ⟨fun z => Bool.noConfusion z, fun _ => ⟨tail _ A (by rw [hrk]; simp) rfl fun _ y => y⟩⟩⟩
    | true =>
      refine ⟨fun _ => ?_, fun z => Bool.noConfusion z⟩
      walk_at "ev"
      refine fIsNot_o ?_
      walk_at "ev"
      rw [e1, if_pos rfl] at hrk
      rcases Option.eq_none_or_eq_some r.1 with h1 | ⟨e, h1⟩
      · rw [h1] at hrk
        refine ⟨fun z => (by rw [h1] at z; cases z), fun _ => ⟨tail _ A (by rw [hrk]; show A + (0 + _) = _; rw [Nat.zero_add]) rfl fun _ y => y⟩⟩
      · rw [h1] at hrk
        refine ⟨fun _ => ?_, fun z => (by rw [h1] at z; cases z)⟩
        walk_at "ev"
        refine fLen_bs (by omega) ?_
        walk_at "ev"
        have ex : ((l.length : Nat) : Int) - (k : Nat) - 1 = ((l.length - (k + 1) : Nat) : Int) := by omega
        rw [ex]
        refine fIx_t (by rw [List.getElem?_map, List.getElem?_range (by omega)]; rfl) ?_
        walk_at "ev"
        refine fIx_nO h1 (by rw [tab_len]; exact nx_lt ok (e1.trans h1)) ?_
        exact nxt_go (tail _ (A + tb M g (l.length - (k + 1)) e) (by rw [hrk]; show A + (tb M g (l.length - (k + 1)) e + _) = _; omega) rfl fun _ y => y)
  · obtain ⟨u, A, rfl, hgo, hrk, hu⟩ := hI
    rw [zipIdx_len, List.drop_length] at hgo hrk
    have hgo : goM M a l = some u := hgo
    have hrk : rkM M g a l = A := hrk
    walk_at "ev"
    refine ⟨fun _ => ?_, fun z => Bool.noConfusion z⟩
    walk_at "ev"
    refine ⟨fun z => ?_, fun z => ?_⟩
    · walk_at "ev"
      refine hx fun y => ?_
      rw [hgo] at y
      cases y
      simp at z
    · walk_at "ev"
      rw [hrk] at hp
      refine hp ?_
      have z : u = g := by have z : ((u : Nat) : Int) = (g : Nat) := by simpa using z
                           omega
      rw [hgo, z]

def m_divisor : MS := mSeq (mWhile (mTst (mBin fGt (mVar 1) (mC (.int 0)))) (mPar2 0 1 (mXe (mVar 1)) (mXe (mBin fMod (mVar 0) (mVar 1))))) (mRet (mVar 0))
theorem bd_divisor (T : Tx K mg a) : Bd P w K mg base 0 ["one", "other"] s_divisor m_divisor := ⟨fun qual f cdv A outer s H E hr tk pw =>
  gss_cons (gs_while pw (gt_cmp op_gt od_gt (ge_var) (ge_int)) (gss_one (gs_par2 rfl sc_divisor.nd (gx_e (ge_var)) (gx_e (ge_bin op_mod od_mod (ge_var) (ge_var)))))) (gss_one (gs_ret (ge_var)))⟩
def c_divisor : CtP := fun ds P _ => ∃ (x y : Nat), ds = [.int (x : Nat), .int (y : Nat)] ∧ P (.fz (.int (Nat.gcd x y : Nat)))
theorem G_divisor (T : Tx K mg a) : FnOk P w K mg base (L2.CX P w) 1 a.f_divisor a.d_divisor ["one", "other"] (spP K c_divisor) :=
  fn_P T.F_divisor sc_divisor (by rintro ds P PX ⟨M, n, rfl, _⟩; rfl) (bd_divisor T) fun ds P PX h => by
  obtain ⟨x, y, rfl, hp⟩ := h
  unfold m_divisor
  walk_at "ev"
  refine ⟨fun j ρ => ∃ u : Nat, ρ = [.fz (.int (u : Nat)), .fz (.int (j : Nat))] ∧ Nat.gcd u j = Nat.gcd x y, ⟨y, _, by walk_at "wk", x, rfl, rfl⟩, fun j ρ hI => ?_⟩
  obtain ⟨u, rfl, hg⟩ := hI
  walk_at "ev"
  refine ⟨fun z => ?_, fun z => ?_⟩
  · have z : 0 < j := by have := of_decide_eq_true z; omega
    walk_at "ev"
    refine fMod_n z ?_
    walk_at "ev"
    refine ⟨u % j, Nat.mod_lt _ z, _, ?_, j, rfl, ?_⟩
    · walk_at "wk"
    · rw [← hg, Nat.gcd_comm j, ← Nat.gcd_rec, Nat.gcd_comm]
  · have z : j = 0 := by have := of_decide_eq_false z; omega
    subst z
    rw [Nat.gcd_zero_right] at hg
    rw [← hg] at hp
    walk_at "ev"
    exact hp

def m_fraction : MS := mSeq (mSet 2 (mXe (mCall c_divisor (mCons (mVar 0) (mCons (mVar 1) (mNil)))))) (mRet (mTup (mCons (mBin fDiv (mVar 0) (mVar 2)) (mCons (mBin fDiv (mVar 1) (mVar 2)) (mNil)))))
theorem bd_fraction (T : Tx K mg a) : Bd P w K mg base 1 ["top", "below", "shared"] s_fraction m_fraction := ⟨fun qual f cdv A outer s H E hr tk pw =>
  gss_cons (gs_set (gx_e (ge_call (G_divisor T) (hr.mono (by decide)) T.g_divisor T.F_divisor.kp T.b_divisor tk (ga_cons (ge_var) (ga_cons (ge_var) (ga_nil))))) sc_fraction.nd) (gss_one (gs_ret (ge_tup (ga_cons (ge_bin op_fdivW od_div (ge_var) (ge_var)) (ga_cons (ge_bin op_fdivW od_div (ge_var) (ge_var)) (ga_nil))))))⟩
def c_fraction : CtP := fun ds P _ => ∃ (x y : Nat), ds = [.int (x : Nat), .int (y : Nat)] ∧ 0 < y ∧ y < 2 ^ 1000 ∧ P (.fz (.tup [.int ((x / Nat.gcd x y : Nat) : Int), .int ((y / Nat.gcd x y : Nat) : Int)]))
theorem G_fraction (T : Tx K mg a) : FnOk P w K mg base (L2.CX P w) 2 a.f_fraction a.d_fraction ["top", "below"] (spP K c_fraction) :=
  fn_P T.F_fraction sc_fraction (by rintro ds P PX ⟨M, n, rfl, _⟩; rfl) (bd_fraction T) fun ds P PX h => by
  obtain ⟨x, y, rfl, h0, hy, hp⟩ := h
  have g0 : 0 < Nat.gcd x y := Nat.gcd_pos_of_pos_right x h0
  have g1 : Nat.gcd x y < 2 ^ 1000 := Nat.lt_of_le_of_lt (Nat.le_of_dvd h0 (Nat.gcd_dvd_right x y)) hy
  unfold m_fraction
  walk_at "ev"
  refine ⟨x, y, rfl, ?_⟩
  walk_at "ev"
  refine fDiv_n g0 g1 ?_
  walk_at "ev"
  refine fDiv_n g0 g1 ?_
  refine ⟨by decide, hp⟩

def m_way_sums : MS := mRet (mFz (mLc (iT (mVar 0)) (gN 2) (mYes) (mBf fSum (mCons (mFz (mLc (iT (mVar 2)) (gN 3) (mTst (mBin fIsNot (mVar 3) (mC .non))) (mBin fIx (mVar 1) (mVar 3)) [3])) (mNil))) [2]))
theorem bd_way_sums (T : Tx K mg a) : Bd P w K mg base 0 ["machine", "weights", "room", "end"] s_way_sums m_way_sums := ⟨fun qual f cdv A outer s H E hr tk pw =>
  gss_one (gs_ret (ge_fz (go_lc (own := [("room", 2)]) rfl sc_way_sums.nd (gi_tup (ge_var)) (blkOk_by (N := ["machine", "weights", "room", "end"]) (sc := (defScope s_way_sums)) (by decide +kernel)) (fun _ _ _ _ _ => gg_name sc_way_sums.nd) (fun _ _ _ _ _ => gts_nil) (fun _ _ _ _ _ => ge_bf (cr_sum rfl) cd_sum T.m_sum (ga_cons (ge_fz (go_lc (own := [("end", 3)]) rfl sc_way_sums.nd (gi_tup (ge_var)) (blkOk_by (N := ["machine", "weights", "room", "end"]) (sc := (relS _ (defScope s_way_sums))) (by decide +kernel)) (fun _ _ _ _ _ => gg_name sc_way_sums.nd) (fun _ _ _ _ _ => gts_one (gt_cmp op_isNotA od_isnot (ge_var) (ge_non))) (fun _ _ _ _ _ => ge_ix (ge_var) (ge_var)))) (ga_nil))))))⟩
def c_way_sums : CtP := fun ds P _ => ∃ (M : Mc) (t : List Nat), ds = [mD M, nL t] ∧ M.Ok ∧ t.length = M.length ∧ M.length ≤ 1000 ∧ P (.fz (nL (oneL M t)))
theorem G_way_sums (T : Tx K mg a) : FnOk P w K mg base (L2.CX P w) 1 a.f_way_sums a.d_way_sums ["machine", "weights"] (spP K c_way_sums) :=
  fn_P T.F_way_sums sc_way_sums (by rintro ds P PX ⟨M, n, rfl, _⟩; rfl) (bd_way_sums T) fun ds P PX h => by
  obtain ⟨M, t, rfl, ok, hl, hM, hp⟩ := h
  unfold m_way_sums
  walk_at "ev"
  refine lc_run (fun _ q => by walk_at "ev"; exact q) (xs := M) (f := rD) rfl (fun k => (M.take k).map fun r => nD ((ends r).map fun e => t.getD e 0).sum) (fun _ => [.fz (mD M), .fz (nL t), .un, .un]) ⟨rfl, rfl⟩ (fun k r hk => ?_) ?_
  · walk_at "ev"
    refine ⟨fun _ => ?_, fun z => Bool.noConfusion z⟩
    walk_at "ev"
    have hrok := ok r (List.mem_of_getElem? hk)
    refine lc_run (ds := [oD r.1, oD r.2]) (ρ1 := [.fz (mD M), .fz (nL t), .fz (rD r), .un]) (fun _ q => by walk_at "ev"; exact q) (xs := [r.1, r.2]) (f := oD) rfl (fun j => ((([r.1, r.2].take j).filterMap id).map fun e => t.getD e 0).map nD) (fun _ => [.fz (mD M), .fz (nL t), .fz (rD r), .un]) ⟨rfl, rfl⟩ (fun j o he => ?_) ?_
    · have e := take_snoc he
      have hl2 : (([r.1, r.2].take j).filterMap id).length ≤ 2 := Nat.le_trans (List.length_filterMap_le _ _) (by rw [List.length_take]; show min j 2 ≤ 2; omega)
      walk_at "ev"
      refine fIsNot_o ?_
      walk_at "ev"
      cases o with
      | none =>
        refine ⟨fun z => Bool.noConfusion z, fun _ => ⟨?_, rfl⟩⟩
        rw [e, List.filterMap_append]
        simp
      | some v =>
        have hv : v < M.length := by
          refine hrok v ?_
          have := List.mem_of_getElem? he
          obtain ⟨u, v'⟩ := r
          simp at this
          rcases this with rfl | rfl <;> simp [ends]
        refine ⟨fun _ => ?_, fun z => Bool.noConfusion z⟩
        walk_at "ev"
        rw [oD_some]
        refine fIx_n (by omega) ?_
        refine ⟨sl_lt (by rw [List.length_map, List.length_map]; omega), ?_, rfl⟩
        rw [e, List.filterMap_append]
        simp
    · have e : [r.1, r.2].filterMap id = ends r := by
        obtain ⟨u, v⟩ := r
        cases u <;> cases v <;> rfl
      show fSum [.lst ((((([r.1, r.2].take 2).filterMap id).map fun e => t.getD e 0)).map nD)] _
      rw [show [r.1, r.2].take 2 = [r.1, r.2] from rfl, e]
      refine fSum_n ?_
      have := acc_map (F := fun r : Option Nat × Option Nat => nD ((ends r).map fun e => t.getD e 0).sum) hk rfl (by omega)
      exact ⟨this.1, this.2, rfl⟩
  · rw [List.take_length]
    have e : (M.map fun r => nD ((ends r).map fun e => t.getD e 0).sum) = (oneL M t).map nD := by rw [oneL, List.map_map]; rfl
    rw [e]
    walk_at "ev"
    exact hp

def m_is_number : MS := mRet (mAndV (mIsi "int" (mVar 0)) (mAndV (mNotV (mIsi "bool" (mVar 0))) (mBin fGe (mVar 0) (mVar 1))))
theorem bd_is_number (T : Tx K mg a) : Bd P w K mg base 0 ["thing", "least"] s_is_number m_is_number := ⟨fun qual f cdv A outer s H E hr tk pw =>
  gss_one (gs_ret (ge_and (ge_isi T.m_isinstance T.m_int (ge_var)) (ge_and (ge_not (ge_isi T.m_isinstance T.m_bool (ge_var))) (ge_one (ge_cmp op_ge od_ge (ge_var) (ge_var))))))⟩
def c_is_number : CtP := fun ds P _ => ∃ n m : Nat, ds = [.int (n : Nat), .int (m : Nat)] ∧ P (.fz (.bl (decide (m ≤ n))))
theorem G_is_number (T : Tx K mg a) : FnOk P w K mg base (L2.CX P w) 1 a.f_is_number a.d_is_number ["thing", "least"] (spP K c_is_number) :=
  fn_P T.F_is_number sc_is_number (by rintro ds P PX ⟨n, m, rfl, _⟩; rfl) (bd_is_number T) fun ds P PX h => by
  obtain ⟨n, m, rfl, hp⟩ := h
  unfold m_is_number
  walk_at "ev"
  refine ⟨_, _, rfl, (by decide : kitB "int" "int" = some true), ?_⟩
  walk_at "ev"
  refine ⟨fun _ => ?_, fun z => Bool.noConfusion z⟩
  walk_at "ev"
  refine ⟨_, _, rfl, (by decide : kitB "int" "bool" = some false), ?_⟩
  walk_at "ev"
  refine ⟨fun _ => ?_, fun z => Bool.noConfusion z⟩
  walk_at "ev"
  have e : decide (((m : Nat) : Int) ≤ (n : Nat)) = decide (m ≤ n) := by rw [Bool.eq_iff_iff]; simp
  rw [e]
  exact hp

def m_are_numbers : MS := mSeq (mIfS (mOrT (mNotT (mTst (mIsi2 "list" "tuple" (mVar 0)))) (mTst (mBin fNe (mBf fLen (mCons (mVar 0) (mNil))) (mVar 1)))) (mRet (mC (.bl false))) (mNx)) (mRet (mBf fAll (mCons (mFz (mLc (iL (mVar 0)) (gN 3) (mYes) (mCall c_is_number (mCons (mVar 3) (mCons (mVar 2) (mNil)))) [3])) (mNil))))
theorem bd_are_numbers (T : Tx K mg a) : Bd P w K mg base 1 ["thing", "many", "least", "one"] s_are_numbers m_are_numbers := ⟨fun qual f cdv A outer s H E hr tk pw =>
  gss_cons (gs_if (gt_w (gw_or (gt_not (gt_val (ge_isi2 T.m_isinstance T.m_list T.m_tuple (ge_var)))) (gw_or1 (gt_cmp (op_neA hr.units) od_ne (ge_bf call_len cd_len T.m_len (ga_cons (ge_var) (ga_nil))) (ge_var))))) (gss_one (gs_ret (ge_bl))) (gss_nil)) (gss_one (gs_ret (ge_bf (cr_all rfl) cd_all T.m_all (ga_cons (ge_fz (go_lc (own := [("one", 3)]) rfl sc_are_numbers.nd (gi_list (ge_var)) (blkOk_by (N := ["thing", "many", "least", "one"]) (sc := (defScope s_are_numbers)) (by decide +kernel)) (fun _ _ _ _ _ => gg_name sc_are_numbers.nd) (fun _ _ _ _ _ => gts_nil) (fun _ _ _ _ _ => ge_call (G_is_number T) (hr.mono (by decide)) T.g_is_number T.F_is_number.kp T.b_is_number takesF (ga_cons (ge_var) (ga_cons (ge_var) (ga_nil)))))) (ga_nil)))))⟩
def c_are_numbers : CtP := fun ds P _ => ∃ (l : List Nat) (n : Nat), ds = [nL l, .int (n : Nat), .int 0] ∧ l.length ≤ 1000 ∧ P (.fz (.bl (decide (l.length = n))))
theorem G_are_numbers (T : Tx K mg a) : FnOk P w K mg base (L2.CX P w) 2 a.f_are_numbers a.d_are_numbers ["thing", "many", "least"] (spP K c_are_numbers) :=
  fn_P T.F_are_numbers sc_are_numbers (by rintro ds P PX ⟨n, m, rfl, _⟩; rfl) (bd_are_numbers T) fun ds P PX h => by
  obtain ⟨l, n, rfl, hl, hp⟩ := h
  unfold m_are_numbers
  walk_at "ev"
  refine ⟨_, _, _, rfl, (by decide : kitB "list" "list" = some true), (by decide : kitB "list" "tuple" = some false), ?_⟩
  walk_at "ev"
  refine ⟨fun z => Bool.noConfusion z, fun _ => ?_⟩
  walk_at "ev"
  refine fLen_lst ?_
  rw [List.length_map]
  walk_at "ev"
  refine ⟨fun z => ?_, fun z => ?_⟩
  · have z : ¬ l.length = n := by have z : ¬ ((l.length : Nat) : Int) = (n : Nat) := by simpa using z
                                  omega
    walk_at "ev"
    rw [decide_eq_false z] at hp
    exact hp
  · have z : l.length = n := by have z : ((l.length : Nat) : Int) = (n : Nat) := by simpa using z
                                omega
    rw [decide_eq_true z] at hp
    walk_at "ev"
    refine lc_run (fun _ q => by walk_at "ev"; exact q) (xs := l) (f := nD) rfl (fun k => (l.take k).map fun _ => D.bl true) (fun _ => [.fz (nL l), .fz (.int (n : Nat)), .fz (.int 0), .un]) ⟨rfl, rfl⟩ (fun k i hk => ?_) ?_
    · walk_at "ev"
      refine ⟨fun _ => ?_, fun z => Bool.noConfusion z⟩
      walk_at "ev"
      refine ⟨i, 0, rfl, ?_⟩
      walk_at "ev"
      have := acc_map (F := fun _ : Nat => D.bl true) hk (d := .bl (decide (0 ≤ i))) (by rw [decide_eq_true (Nat.zero_le _)]) (by omega)
      exact ⟨this.1, this.2, rfl⟩
    · walk_at "ev"
      refine ⟨(l.take l.length).map fun _ => true, ?_, ?_⟩
      · have : ((l.take l.length).map fun _ => D.bl true) = ((l.take l.length).map fun _ => true).map D.bl := by rw [List.map_map]; rfl
        rw [this, blsOf_map]
      · have : ((l.take l.length).map fun _ => true).all id = true := by simp
        rw [this]
        exact hp

def m_least_many : MS := mSeq (mSet 4 (mXo (mLst (mNil)))) (mSeq (mFor (iR2 (mCons (mC (.int 1)) (mCons (mBin fAdd (mVar 3) (mC (.int 1))) (mNil)))) (gN 5) (mSeq (mEx (mMt fApp 4 (mCons (mCall c_round_count (mCons (mVar 0) (mCons (mVar 1) (mCons (mVar 5) (mNil))))) (mNil)))) (mIfS (mTst (mBin fGe (mIxV 4 (mNeg (mC (.int 1)))) (mBin fShl (mC (.int 1)) (mVar 2)))) (mRet (mTup (mCons (mVar 5) (mCons (mVar 4) (mNil))))) (mNx)))) (mRet (mC .non)))
theorem bd_least_many (T : Tx K mg a) : Bd P w K mg base 5 ["machine", "room", "p", "most", "told", "many"] s_least_many m_least_many := ⟨fun qual f cdv A outer s H E hr tk pw =>
  gss_cons (gs_set (gx_o (go_lst (ga_nil))) sc_least_many.nd) (gss_cons (gs_for pw rfl (gi_range2 T.m_range (ga_cons (ge_int) (ga_cons (ge_bin op_addA od_add (ge_var) (ge_int)) (ga_nil)))) (gg_name sc_least_many.nd) (gss_cons (gs_expr (ge_mut PySem.F.slot_list_append PySem.F.type_list_append (MtM.r mt_append) md_app (ga_cons (ge_call (G_round_count T) (hr.mono (by decide)) T.g_round_count T.F_round_count.kp T.b_round_count tk (ga_cons (ge_var) (ga_cons (ge_var) (ga_cons (ge_var) (ga_nil))))) (ga_nil)))) (gss_one (gs_if (gt_cmp op_ge od_ge (ge_ixv (ge_neg (ge_int))) (ge_bin op_shlW od_shl (ge_int) (ge_var))) (gss_one (gs_ret (ge_tup (ga_cons (ge_var) (ga_cons (ge_var) (ga_nil)))))) (gss_nil))))) (gss_one (gs_ret (ge_non))))⟩
def cntR (M : Mc) (g n : Nat) : Nat := tb M g n g
def cntsR (M : Mc) (g n : Nat) : List Nat := (List.range n).map fun i => cntR M g (i + 1)
theorem cntsR_succ (M : Mc) (g n : Nat) : cntsR M g (n + 1) = cntsR M g n ++ [cntR M g (n + 1)] := by
  unfold cntsR
  rw [List.range_succ, List.map_append]; rfl
theorem cntsR_len (M : Mc) (g n : Nat) : (cntsR M g n).length = n := by simp [cntsR]
def c_least_many : CtP := fun ds P _ => ∃ (M : Mc) (g p most : Nat), ds = [mD M, .int (g : Nat), .int (p : Nat), .int (most : Nat)] ∧ M.Ok ∧ M.length ≤ 1000 ∧ g < M.length ∧ p ≤ 1000 ∧ most ≤ 1000 ∧
  (∀ n, 1 ≤ n → n ≤ most → 2 ^ p ≤ cntR M g n → (∀ j, 1 ≤ j → j < n → cntR M g j < 2 ^ p) → P (.fz (.tup [.int (n : Nat), nL (cntsR M g n)]))) ∧
  ((∀ j, 1 ≤ j → j ≤ most → cntR M g j < 2 ^ p) → P (.fz .non))
theorem G_least_many (T : Tx K mg a) : FnOk P w K mg base (L2.CX P w) 6 a.f_least_many a.d_least_many ["machine", "room", "p", "most"] (spP K c_least_many) :=
  fn_P T.F_least_many sc_least_many (by rintro ds P PX ⟨M, g, p, most, rfl, _⟩; rfl) (bd_least_many T) fun ds P PX h => by
  obtain ⟨M, g, p, most, rfl, ok, hM, hg, hpl, hml, h1, h0⟩ := h
  unfold m_least_many
  walk_at "ev"
  refine ⟨by decide, ?_⟩
  walk_at "ev"
  refine for_inv (fun _ q => by walk_at "ev"; exact ⟨⟨by decide, by decide⟩, ⟨by omega, by omega⟩, q⟩) (range_map _ 1 1)
    (fun k ρ => ρ = [.fz (mD M), .fz (.int (g : Nat)), .fz (.int (p : Nat)), .fz (.int (most : Nat)), .ow none (.lst ((cntsR M g k).map nD)), .un] ∧ ∀ j, 1 ≤ j → j ≤ k → cntR M g j < 2 ^ p)
    ⟨_, by walk_at "wk", rfl, fun j a b => by omega⟩ (fun k x ρ hk hI => ?_) (fun ρ hI => ?_)
  · obtain ⟨rfl, hlt⟩ := range_get hk
    obtain ⟨rfl, hj⟩ := hI
    have hlt : x < most := by omega
    have ex : (1 : Int) + (x : Nat) * 1 = ((x + 1 : Nat) : Int) := by omega
    rw [ex]
    walk_at "ev"
    refine ⟨M, g, x + 1, rfl, ok, hM, hg, by omega, ?_⟩
    walk_at "ev"
    refine ⟨sl_lt (by rw [List.length_map, cntsR_len]; omega), ?_⟩
    have e : (cntsR M g x).map nD ++ [D.int (tb M g (x + 1) g : Nat)] = (cntsR M g (x + 1)).map nD := by rw [cntsR_succ, List.map_append]; rfl
    rw [e]
    walk_at "ev"
    refine ⟨nD (cntR M g (x + 1)), by rw [cntsR_succ, List.map_append]; exact atI_m1, ?_⟩
    walk_at "ev"
    refine shl_one (by omega) ?_
    walk_at "ev"
    refine ⟨fun z => ?_, fun z => ?_⟩
    · have z : 2 ^ p ≤ cntR M g (x + 1) := by have := of_decide_eq_true z; omega
      walk_at "ev"
      refine ⟨by show 2 ≤ sizeLine; decide, ?_⟩
      exact h1 (x + 1) (by omega) (by omega) z fun j a b => hj j a (by omega)
    · have z : ¬ 2 ^ p ≤ cntR M g (x + 1) := by have := of_decide_eq_false z; omega
      walk_at "ev"
      refine ⟨_, ?_, rfl, fun j a b => ?_⟩
      · walk_at "wk"
      · rcases Nat.lt_or_ge j (x + 1) with y | y
        · exact hj j a (by omega)
        · have : j = x + 1 := by omega
          subst this
          omega
  · obtain ⟨rfl, hj⟩ := hI
    walk_at "ev"
    refine h0 fun j a b => hj j a ?_
    rw [List.length_range]
    omega

def m_least_ratio : MS := mSeq (mPar2 2 3 (mXe (mBin fIx (mVar 0) (mC (.int 0)))) (mXe (mBin fIx (mVar 1) (mC (.int 0))))) (mSeq (mFor (iZp (mCons (mVar 0) (mCons (mVar 1) (mNil)))) (gT (gCs (gN 4) (gCs (gN 5) (gNl)))) (mIfS (mTst (mBin fLt (mBin fMul (mVar 4) (mVar 3)) (mBin fMul (mVar 2) (mVar 5)))) (mPar2 2 3 (mXe (mVar 4)) (mXe (mVar 5))) (mNx))) (mRet (mCall c_fraction (mCons (mVar 2) (mCons (mVar 3) (mNil))))))
theorem bd_least_ratio (T : Tx K mg a) : Bd P w K mg base 2 ["tops", "belows", "top", "below", "other", "base"] s_least_ratio m_least_ratio := ⟨fun qual f cdv A outer s H E hr tk pw =>
  gss_cons (gs_par2 rfl sc_least_ratio.nd (gx_e (ge_ix (ge_var) (ge_int))) (gx_e (ge_ix (ge_var) (ge_int)))) (gss_cons (gs_for pw rfl (gi_zip T.m_zip (ga_cons (ge_var) (ga_cons (ge_var) (ga_nil)))) (gg_tup2 rfl (gg_name sc_least_ratio.nd) (gg_name sc_least_ratio.nd)) (gss_one (gs_if (gt_cmp op_ltA od_lt (ge_bin op_mulA od_mul (ge_var) (ge_var)) (ge_bin op_mulA od_mul (ge_var) (ge_var))) (gss_one (gs_par2 rfl sc_least_ratio.nd (gx_e (ge_var)) (gx_e (ge_var)))) (gss_nil)))) (gss_one (gs_ret (ge_call (G_fraction T) (hr.mono (by decide)) T.g_fraction T.F_fraction.kp T.b_fraction tk (ga_cons (ge_var) (ga_cons (ge_var) (ga_nil)))))))⟩
theorem ratio_transL {t b t' b' t2 b2 : Nat} (hb : 0 < b) (h1 : t' * b ≤ t * b') (h2 : t * b2 ≤ t2 * b) : t' * b2 ≤ t2 * b' := by
  have e1 : t' * b2 * b ≤ t2 * b' * b := by
    calc t' * b2 * b = (t' * b) * b2 := by rw [Nat.mul_right_comm]
      _ ≤ (t * b') * b2 := Nat.mul_le_mul_right _ h1
      _ = (t * b2) * b' := by rw [Nat.mul_right_comm]
      _ ≤ (t2 * b) * b' := Nat.mul_le_mul_right _ h2
      _ = t2 * b' * b := by rw [Nat.mul_right_comm]
  exact Nat.le_of_mul_le_mul_right e1 hb
theorem ratio_transG {t b t' b' t2 b2 : Nat} (hb : 0 < b) (h1 : t * b' ≤ t' * b) (h2 : t2 * b ≤ t * b2) : t2 * b' ≤ t' * b2 := ratio_transL (t := t) (b := b) hb h2 h1
def c_least_ratio : CtP := fun ds P _ => ∃ (ts bs : List Nat), ds = [nL ts, nL bs] ∧ ts.length = bs.length ∧ 0 < ts.length ∧ ts.length ≤ 1000 ∧ (∀ x ∈ ts, x < 2 ^ 60) ∧ (∀ x ∈ bs, 0 < x ∧ x < 2 ^ 60) ∧
  ∀ t b, (t, b) ∈ ts.zip bs → (∀ t' b', (t', b') ∈ ts.zip bs → t * b' ≤ t' * b) → P (.fz (.tup [.int ((t / Nat.gcd t b : Nat) : Int), .int ((b / Nat.gcd t b : Nat) : Int)]))
theorem G_least_ratio (T : Tx K mg a) : FnOk P w K mg base (L2.CX P w) 3 a.f_least_ratio a.d_least_ratio ["tops", "belows"] (spP K c_least_ratio) :=
  fn_P T.F_least_ratio sc_least_ratio (by rintro ds P PX ⟨M, n, rfl, _⟩; rfl) (bd_least_ratio T) fun ds P PX h => by
  obtain ⟨ts, bs, rfl, hl, h0, hl2, ht, hb, hp⟩ := h
  unfold m_least_ratio
  walk_at "ev"
  refine fIx_n (i := 0) h0 ?_
  walk_at "ev"
  refine fIx_n (i := 0) (by omega) ?_
  walk_at "ev"
  have hz : ∀ t b, (t, b) ∈ ts.zip bs → t < 2 ^ 60 ∧ 0 < b ∧ b < 2 ^ 60 := fun t b h => ⟨ht t (List.of_mem_zip h).1, hb b (List.of_mem_zip h).2⟩
  have hfst : (ts.zip bs)[0]? = some (ts.getD 0 0, bs.getD 0 0) := by
    rw [List.getElem?_zip_eq_some]
    exact ⟨getD_get h0, getD_get (by omega)⟩
  have e60 : (2 : Nat) ^ 60 < 2 ^ 64 := by decide
  refine for_inv (fun _ q => by walk_at "ev"; exact q) (zip_n ts bs) (fun k ρ => ∃ t b : Nat, ρ = [.fz (nL ts), .fz (nL bs), .fz (.int (t : Nat)), .fz (.int (b : Nat)), .un, .un] ∧ (t, b) ∈ ts.zip bs ∧ ∀ j t' b', j < k → (ts.zip bs)[j]? = some (t', b') → t * b' ≤ t' * b)
    ⟨_, by walk_at "wk", _, _, rfl, List.mem_of_getElem? hfst, fun j t' b' h => absurd h (Nat.not_lt_zero _)⟩ (fun k x ρ hk hI => ?_) (fun ρ hI => ?_)
  · obtain ⟨t', b'⟩ := x
    obtain ⟨t, b, rfl, hm, hj⟩ := hI
    have h1 := hz t b hm
    have h2 := hz t' b' (List.mem_of_getElem? hk)
    walk_at "ev"
    refine fMul_n (by omega) ?_
    walk_at "ev"
    refine fMul_n (by omega) ?_
    walk_at "ev"
    rw [dlt]
    refine ⟨fun z => ?_, fun z => ?_⟩
    · have z := of_decide_eq_true z
      walk_at "ev"
      refine ⟨_, ?_, t', b', rfl, List.mem_of_getElem? hk, fun j t2 b2 hjk hj2 => ?_⟩
      · walk_at "wk"
      · rcases Nat.lt_or_ge j k with y | y
        · have h3 := hz t2 b2 (List.mem_of_getElem? hj2)
          exact ratio_transL h1.2.1 (Nat.le_of_lt z) (hj j t2 b2 y hj2)
        · have : j = k := by omega
          subst this
          rw [hk] at hj2
          cases hj2
          exact Nat.le_refl _
    · have z := of_decide_eq_false z
      walk_at "ev"
      refine ⟨_, ?_, t, b, rfl, hm, fun j t2 b2 hjk hj2 => ?_⟩
      · walk_at "wk"
      · rcases Nat.lt_or_ge j k with y | y
        · exact hj j t2 b2 y hj2
        · have : j = k := by omega
          subst this
          rw [hk] at hj2
          cases hj2
          omega
  · obtain ⟨t, b, rfl, hm, hj⟩ := hI
    have h1 := hz t b hm
    walk_at "ev"
    refine ⟨t, b, rfl, h1.2.1, Nat.lt_trans h1.2.2 (Nat.pow_lt_pow_right (by decide) (by decide)), ?_⟩
    refine hp t b hm fun t' b' h' => ?_
    obtain ⟨j, hj2⟩ := List.mem_iff_getElem?.mp h'
    exact hj j t' b' (get_lt hj2) hj2

def m_greatest_ratio : MS := mSeq (mPar2 2 3 (mXe (mBin fIx (mVar 0) (mC (.int 0)))) (mXe (mBin fIx (mVar 1) (mC (.int 0))))) (mSeq (mFor (iZp (mCons (mVar 0) (mCons (mVar 1) (mNil)))) (gT (gCs (gN 4) (gCs (gN 5) (gNl)))) (mIfS (mTst (mBin fGt (mBin fMul (mVar 4) (mVar 3)) (mBin fMul (mVar 2) (mVar 5)))) (mPar2 2 3 (mXe (mVar 4)) (mXe (mVar 5))) (mNx))) (mRet (mCall c_fraction (mCons (mVar 2) (mCons (mVar 3) (mNil))))))
theorem bd_greatest_ratio (T : Tx K mg a) : Bd P w K mg base 2 ["tops", "belows", "top", "below", "other", "base"] s_greatest_ratio m_greatest_ratio := ⟨fun qual f cdv A outer s H E hr tk pw =>
  gss_cons (gs_par2 rfl sc_greatest_ratio.nd (gx_e (ge_ix (ge_var) (ge_int))) (gx_e (ge_ix (ge_var) (ge_int)))) (gss_cons (gs_for pw rfl (gi_zip T.m_zip (ga_cons (ge_var) (ga_cons (ge_var) (ga_nil)))) (gg_tup2 rfl (gg_name sc_greatest_ratio.nd) (gg_name sc_greatest_ratio.nd)) (gss_one (gs_if (gt_cmp op_gt od_gt (ge_bin op_mulA od_mul (ge_var) (ge_var)) (ge_bin op_mulA od_mul (ge_var) (ge_var))) (gss_one (gs_par2 rfl sc_greatest_ratio.nd (gx_e (ge_var)) (gx_e (ge_var)))) (gss_nil)))) (gss_one (gs_ret (ge_call (G_fraction T) (hr.mono (by decide)) T.g_fraction T.F_fraction.kp T.b_fraction tk (ga_cons (ge_var) (ga_cons (ge_var) (ga_nil)))))))⟩
def c_greatest_ratio : CtP := fun ds P _ => ∃ (ts bs : List Nat), ds = [nL ts, nL bs] ∧ ts.length = bs.length ∧ 0 < ts.length ∧ ts.length ≤ 1000 ∧ (∀ x ∈ ts, x < 2 ^ 60) ∧ (∀ x ∈ bs, 0 < x ∧ x < 2 ^ 60) ∧
  ∀ t b, (t, b) ∈ ts.zip bs → (∀ t' b', (t', b') ∈ ts.zip bs → t' * b ≤ t * b') → P (.fz (.tup [.int ((t / Nat.gcd t b : Nat) : Int), .int ((b / Nat.gcd t b : Nat) : Int)]))
theorem G_greatest_ratio (T : Tx K mg a) : FnOk P w K mg base (L2.CX P w) 3 a.f_greatest_ratio a.d_greatest_ratio ["tops", "belows"] (spP K c_greatest_ratio) :=
  fn_P T.F_greatest_ratio sc_greatest_ratio (by rintro ds P PX ⟨M, n, rfl, _⟩; rfl) (bd_greatest_ratio T) fun ds P PX h => by
  obtain ⟨ts, bs, rfl, hl, h0, hl2, ht, hb, hp⟩ := h
  unfold m_greatest_ratio
  walk_at "ev"
  refine fIx_n (i := 0) h0 ?_
  walk_at "ev"
  refine fIx_n (i := 0) (by omega) ?_
  walk_at "ev"
  have hz : ∀ t b, (t, b) ∈ ts.zip bs → t < 2 ^ 60 ∧ 0 < b ∧ b < 2 ^ 60 := fun t b h => ⟨ht t (List.of_mem_zip h).1, hb b (List.of_mem_zip h).2⟩
  have hfst : (ts.zip bs)[0]? = some (ts.getD 0 0, bs.getD 0 0) := by
    rw [List.getElem?_zip_eq_some]
    exact ⟨getD_get h0, getD_get (by omega)⟩
  have e60 : (2 : Nat) ^ 60 < 2 ^ 64 := by decide
  refine for_inv (fun _ q => by walk_at "ev"; exact q) (zip_n ts bs) (fun k ρ => ∃ t b : Nat, ρ = [.fz (nL ts), .fz (nL bs), .fz (.int (t : Nat)), .fz (.int (b : Nat)), .un, .un] ∧ (t, b) ∈ ts.zip bs ∧ ∀ j t' b', j < k → (ts.zip bs)[j]? = some (t', b') → t' * b ≤ t * b')
    ⟨_, by walk_at "wk", _, _, rfl, List.mem_of_getElem? hfst, fun j t' b' h => absurd h (Nat.not_lt_zero _)⟩ (fun k x ρ hk hI => ?_) (fun ρ hI => ?_)
  · obtain ⟨t', b'⟩ := x
    obtain ⟨t, b, rfl, hm, hj⟩ := hI
    have h1 := hz t b hm
    have h2 := hz t' b' (List.mem_of_getElem? hk)
    walk_at "ev"
    refine fMul_n (by omega) ?_
    walk_at "ev"
    refine fMul_n (by omega) ?_
    walk_at "ev"
    rw [dlt]
    refine ⟨fun z => ?_, fun z => ?_⟩
    · have z := of_decide_eq_true z
      walk_at "ev"
      refine ⟨_, ?_, t', b', rfl, List.mem_of_getElem? hk, fun j t2 b2 hjk hj2 => ?_⟩
      · walk_at "wk"
      · rcases Nat.lt_or_ge j k with y | y
        · have h3 := hz t2 b2 (List.mem_of_getElem? hj2)
          exact ratio_transG h1.2.1 (Nat.le_of_lt z) (hj j t2 b2 y hj2)
        · have : j = k := by omega
          subst this
          rw [hk] at hj2
          cases hj2
          exact Nat.le_refl _
    · have z := of_decide_eq_false z
      walk_at "ev"
      refine ⟨_, ?_, t, b, rfl, hm, fun j t2 b2 hjk hj2 => ?_⟩
      · walk_at "wk"
      · rcases Nat.lt_or_ge j k with y | y
        · exact hj j t2 b2 y hj2
        · have : j = k := by omega
          subst this
          rw [hk] at hj2
          cases hj2
          omega
  · obtain ⟨t, b, rfl, hm, hj⟩ := hI
    have h1 := hz t b hm
    walk_at "ev"
    refine ⟨t, b, rfl, h1.2.1, Nat.lt_trans h1.2.2 (Nat.pow_lt_pow_right (by decide) (by decide)), ?_⟩
    refine hp t b hm fun t' b' h' => ?_
    obtain ⟨j, hj2⟩ := List.mem_iff_getElem?.mp h'
    exact hj j t' b' (get_lt hj2) hj2

def m_growth : MS := mSeq (mSet 2 (mXe (mBin fMul (mFz (mLst (mCons (mC (.int 1)) (mNil)))) (mBf fLen (mCons (mVar 0) (mNil)))))) (mSeq (mFor (iR1 (mCons (mVar 1) (mNil))) (gN 3) (mSeq (mSet 2 (mXo (mLc (iZp (mCons (mVar 2) (mCons (mCall c_way_sums (mCons (mVar 0) (mCons (mVar 2) (mNil)))) (mNil)))) (gT (gCs (gN 5) (gCs (gN 6) (gNl)))) (mYes) (mBin fAdd (mVar 5) (mVar 6)) [5, 6]))) (mFzS 2))) (mSeq (mSet 4 (mXe (mCall c_way_sums (mCons (mVar 0) (mCons (mVar 2) (mNil)))))) (mRet (mTup (mCons (mCall c_least_ratio (mCons (mVar 4) (mCons (mVar 2) (mNil)))) (mCons (mCall c_greatest_ratio (mCons (mVar 4) (mCons (mVar 2) (mNil)))) (mCons (mVar 2) (mNil))))))))
theorem bd_growth (T : Tx K mg a) : Bd P w K mg base 3 ["machine", "steps", "weights", "turn", "sums", "weight", "more"] s_growth m_growth := ⟨fun qual f cdv A outer s H E hr tk pw =>
  gss_cons (gs_set (gx_e (ge_bin op_mulA od_mul (ge_fz (go_lst (ga_cons (ge_int) (ga_nil)))) (ge_bf call_len cd_len T.m_len (ga_cons (ge_var) (ga_nil))))) sc_growth.nd) (gss_cons (gs_for pw rfl (gi_range1 T.m_range (ga_cons (ge_var) (ga_nil))) (gg_name sc_growth.nd) (gss_one (gs_fz (gs_setLcO (own := [("weight", 5), ("more", 6)]) rfl sc_growth.nd (gi_zip T.m_zip (ga_cons (ge_var) (ga_cons (ge_call (G_way_sums T) (hr.mono (by decide)) T.g_way_sums T.F_way_sums.kp T.b_way_sums tk (ga_cons (ge_var) (ga_cons (ge_var) (ga_nil)))) (ga_nil)))) (blkOk_by (N := ["machine", "steps", "weights", "turn", "sums", "weight", "more"]) (sc := (defScope s_growth)) (by decide +kernel)) (fun _ _ _ _ _ => gg_tup2 rfl (gg_name sc_growth.nd) (gg_name sc_growth.nd)) (fun _ _ _ _ _ => gts_nil) (fun _ _ _ _ _ => ge_bin op_addA od_add (ge_var) (ge_var)) (sw_true rfl rfl rfl (by decide +kernel)))))) (gss_cons (gs_set (gx_e (ge_call (G_way_sums T) (hr.mono (by decide)) T.g_way_sums T.F_way_sums.kp T.b_way_sums tk (ga_cons (ge_var) (ga_cons (ge_var) (ga_nil))))) sc_growth.nd) (gss_one (gs_ret (ge_tup (ga_cons (ge_call (G_least_ratio T) (hr.mono (by decide)) T.g_least_ratio T.F_least_ratio.kp T.b_least_ratio tk (ga_cons (ge_var) (ga_cons (ge_var) (ga_nil)))) (ga_cons (ge_call (G_greatest_ratio T) (hr.mono (by decide)) T.g_greatest_ratio T.F_greatest_ratio.kp T.b_greatest_ratio tk (ga_cons (ge_var) (ga_cons (ge_var) (ga_nil)))) (ga_cons (ge_var) (ga_nil)))))))))⟩
def c_growth : CtP := fun ds P _ => ∃ (M : Mc) (k : Nat), ds = [mD M, .int (k : Nat)] ∧ M.Ok ∧ 0 < M.length ∧ M.length ≤ 1000 ∧ k ≤ 1000 ∧ (∀ x ∈ itL (gwR M) k (List.replicate M.length 1), 0 < x ∧ x < 2 ^ 60) ∧ (∀ x ∈ oneL M (itL (gwR M) k (List.replicate M.length 1)), x < 2 ^ 60) ∧
  ∀ W S, W = itL (gwR M) k (List.replicate M.length 1) → S = oneL M W → ∀ t b t2 b2, (t, b) ∈ S.zip W → (∀ t' b', (t', b') ∈ S.zip W → t * b' ≤ t' * b) → (t2, b2) ∈ S.zip W → (∀ t' b', (t', b') ∈ S.zip W → t' * b2 ≤ t2 * b') →
    P (.fz (.tup [.tup [.int ((t / Nat.gcd t b : Nat) : Int), .int ((b / Nat.gcd t b : Nat) : Int)], .tup [.int ((t2 / Nat.gcd t2 b2 : Nat) : Int), .int ((b2 / Nat.gcd t2 b2 : Nat) : Int)], nL W]))
theorem gwR_len (M : Mc) {l : List Nat} (hl : l.length = M.length) : (gwR M l).length = M.length := by rw [gwR, addL_len (by simp [oneL, hl]), hl]
theorem gwRs_len (M : Mc) {l : List Nat} (hl : l.length = M.length) : ∀ k, (itL (gwR M) k l).length = M.length
  | 0 => hl
  | k + 1 => gwR_len M (gwRs_len M hl k)
theorem G_growth (T : Tx K mg a) : FnOk P w K mg base (L2.CX P w) 4 a.f_growth a.d_growth ["machine", "steps"] (spP K c_growth) :=
  fn_P T.F_growth sc_growth (by rintro ds P PX ⟨M, n, rfl, _⟩; rfl) (bd_growth T) fun ds P PX h => by
  obtain ⟨M, k, rfl, ok, hM0, hM, hk, hW, hS, hp⟩ := h
  have hlen := fun j => gwRs_len M (l := List.replicate M.length 1) (by simp) j
  unfold m_growth
  walk_at "ev"
  refine ⟨by decide, ?_⟩
  walk_at "ev"
  refine fLen_tup ?_
  rw [List.length_map]
  walk_at "ev"
  refine fMul_rep (x := 1) (by omega) ?_
  walk_at "ev"
  refine for_run (fun _ q => by walk_at "ev"; exact ⟨⟨by omega, by omega⟩, q⟩) (range_map k 0 1) (fun j => [.fz (mD M), .fz (.int (k : Nat)), .fz (nL (itL (gwR M) j (List.replicate M.length 1))), .un, .un, .un, .un]) (by walk_at "wk") (fun j i hj => ?_) ?_
  · obtain ⟨rfl, hlt⟩ := range_get hj
    have hl := hlen i
    have hsu : itL (gwR M) (i + 1) (List.replicate M.length 1) = addL (itL (gwR M) i (List.replicate M.length 1)) (oneL M (itL (gwR M) i (List.replicate M.length 1))) := rfl
    rw [hsu]
    generalize itL (gwR M) i (List.replicate M.length 1) = W at hl
    have hol : (oneL M W).length = M.length := by simp [oneL]
    walk_at "ev"
    refine lc_run (ds := zipD (W.map nD) ((oneL M W).map nD)) (ρ1 := [.fz (mD M), .fz (.int (k : Nat)), .fz (nL W), .fz (.int (0 + (i : Nat) * 1)), .un, .un, .un]) (fun _ q => by walk_at "ev"; exact ⟨M, W, rfl, ok, hl, hM, by walk_at "ev"; exact q⟩) (zip_n W (oneL M W)) (fun j => (((W.zip (oneL M W)).take j).map fun p => p.1 + p.2).map nD) (fun _ => [.fz (mD M), .fz (.int (k : Nat)), .fz (nL W), .fz (.int (0 + (i : Nat) * 1)), .un, .un, .un]) ⟨rfl, rfl⟩ (fun j p hj => ?_) ?_
    · obtain ⟨x, y⟩ := p
      have hjl := get_lt hj
      rw [List.length_zip] at hjl
      walk_at "ev"
      refine ⟨fun _ => ?_, fun z => Bool.noConfusion z⟩
      walk_at "ev"
      refine ⟨sl_lt (by rw [List.length_map, List.length_map, List.length_take]; omega), ?_, rfl⟩
      rw [take_snoc hj, List.map_append, List.map_append]; rfl
    · rw [List.take_length, zip_zipW (f := (· + ·))]
      walk_at "ev"
      exact lp_of (by walk_at "wk")
  · rw [List.length_range]
    have hl := hlen k
    have hp := hp _ _ rfl rfl
    generalize itL (gwR M) k (List.replicate M.length 1) = W at hl hW hS hp
    have hol : (oneL M W).length = M.length := by simp [oneL]
    walk_at "ev"
    refine ⟨M, W, rfl, ok, hl, hM, ?_⟩
    walk_at "ev"
    refine ⟨oneL M W, W, rfl, by omega, by omega, by omega, hS, hW, fun t b h1 h2 => ?_⟩
    walk_at "ev"
    refine ⟨oneL M W, W, rfl, by omega, by omega, by omega, hS, hW, fun t2 b2 h3 h4 => ?_⟩
    walk_at "ev"
    exact ⟨by decide, hp t b t2 b2 h1 h2 h3 h4⟩

def m_sums_behind : MS := mSeq (mFor (iR1 (mCons (mVar 1) (mNil))) (gN 3) (mSet 2 (mXe (mCall c_way_sums (mCons (mVar 0) (mCons (mVar 2) (mNil))))))) (mRet (mFz (mLi (mCons (mVar 2) (mNil)))))
theorem bd_sums_behind (T : Tx K mg a) : Bd P w K mg base 1 ["machine", "q", "weights", "turn"] s_sums_behind m_sums_behind := ⟨fun qual f cdv A outer s H E hr tk pw =>
  gss_cons (gs_for pw rfl (gi_range1 T.m_range (ga_cons (ge_var) (ga_nil))) (gg_name sc_sums_behind.nd) (gss_one (gs_set (gx_e (ge_call (G_way_sums T) (hr.mono (by decide)) T.g_way_sums T.F_way_sums.kp T.b_way_sums tk (ga_cons (ge_var) (ga_cons (ge_var) (ga_nil))))) sc_sums_behind.nd))) (gss_one (gs_ret (ge_fz (go_list T.m_list (ga_cons (ge_var) (ga_nil))))))⟩
def c_sums_behind : CtP := fun ds P _ => ∃ (M : Mc) (q : Nat) (t : List Nat), ds = [mD M, .int (q : Nat), nL t] ∧ M.Ok ∧ t.length = M.length ∧ M.length ≤ 1000 ∧ q ≤ 1000 ∧ P (.fz (nL (itL (oneL M) q t)))
theorem itR_len (M : Mc) {t : List Nat} (hl : t.length = M.length) : ∀ q, (itL (oneL M) q t).length = M.length
  | 0 => hl
  | q + 1 => by simp [itL, oneL]
theorem G_sums_behind (T : Tx K mg a) : FnOk P w K mg base (L2.CX P w) 2 a.f_sums_behind a.d_sums_behind ["machine", "q", "weights"] (spP K c_sums_behind) :=
  fn_P T.F_sums_behind sc_sums_behind (by rintro ds P PX ⟨M, n, _, rfl, _⟩; rfl) (bd_sums_behind T) fun ds P PX h => by
  obtain ⟨M, q, t, rfl, ok, hl, hM, hq, hp⟩ := h
  unfold m_sums_behind
  walk_at "ev"
  refine for_run (fun _ y => by walk_at "ev"; exact ⟨⟨by omega, by omega⟩, y⟩) (range_map q 0 1) (fun k => [.fz (mD M), .fz (.int (q : Nat)), .fz (nL (itL (oneL M) k t)), .un]) (by walk_at "wk") (fun k i hk => ?_) ?_
  · walk_at "ev"
    refine ⟨M, itL (oneL M) k t, rfl, ok, itR_len M hl k, hM, ?_⟩
    walk_at "ev"
    refine lp_of ?_
    walk_at "wk"
  · rw [List.length_range]
    walk_at "ev"
    exact hp

def m_let_down : MS := mRet (mFz (mLc (iZp (mCons (mVar 3) (mCons (mCall c_sums_behind (mCons (mVar 0) (mCons (mVar 2) (mCons (mVar 3) (mNil))))) (mNil)))) (gT (gCs (gN 4) (gCs (gN 5) (gNl)))) (mYes) (mBf fMin (mCons (mVar 4) (mCons (mBin fShr (mVar 5) (mVar 1)) (mNil)))) [4, 5]))
theorem bd_let_down (T : Tx K mg a) : Bd P w K mg base 2 ["machine", "p", "q", "weights", "one", "more"] s_let_down m_let_down := ⟨fun qual f cdv A outer s H E hr tk pw =>
  gss_one (gs_ret (ge_fz (go_lc (own := [("one", 4), ("more", 5)]) rfl sc_let_down.nd (gi_zip T.m_zip (ga_cons (ge_var) (ga_cons (ge_call (G_sums_behind T) (hr.mono (by decide)) T.g_sums_behind T.F_sums_behind.kp T.b_sums_behind tk (ga_cons (ge_var) (ga_cons (ge_var) (ga_cons (ge_var) (ga_nil))))) (ga_nil)))) (blkOk_by (N := ["machine", "p", "q", "weights", "one", "more"]) (sc := (defScope s_let_down)) (by decide +kernel)) (fun _ _ _ _ _ => gg_tup2 rfl (gg_name sc_let_down.nd) (gg_name sc_let_down.nd)) (fun _ _ _ _ _ => gts_nil) (fun _ _ _ _ _ => ge_bf (cr_minA rfl) cd_min T.m_min (ga_cons (ge_var) (ga_cons (ge_bin op_shr od_shr (ge_var) (ge_var)) (ga_nil)))))))⟩
def c_let_down : CtP := fun ds P _ => ∃ (M : Mc) (p q : Nat) (t : List Nat), ds = [mD M, .int (p : Nat), .int (q : Nat), nL t] ∧ M.Ok ∧ t.length = M.length ∧ M.length ≤ 1000 ∧ q ≤ 1000 ∧ P (.fz (nL (downR M p q t)))
theorem G_let_down (T : Tx K mg a) : FnOk P w K mg base (L2.CX P w) 3 a.f_let_down a.d_let_down ["machine", "p", "q", "weights"] (spP K c_let_down) :=
  fn_P T.F_let_down sc_let_down (by rintro ds P PX ⟨M, n, _, _, rfl, _⟩; rfl) (bd_let_down T) fun ds P PX h => by
  obtain ⟨M, p, q, t, rfl, ok, hl, hM, hq, hp⟩ := h
  have hol := itR_len M hl q
  unfold m_let_down
  walk_at "ev"
  refine lc_run (ds := zipD (t.map nD) ((itL (oneL M) q t).map nD)) (ρ1 := [.fz (mD M), .fz (.int (p : Nat)), .fz (.int (q : Nat)), .fz (nL t), .un, .un]) (fun _ y => by walk_at "ev"; exact ⟨M, q, t, rfl, ok, hl, hM, hq, by walk_at "ev"; exact y⟩) (zip_n t (itL (oneL M) q t)) (fun j => (((t.zip (itL (oneL M) q t)).take j).map fun x => min x.1 (x.2 / 2 ^ p)).map nD) (fun _ => [.fz (mD M), .fz (.int (p : Nat)), .fz (.int (q : Nat)), .fz (nL t), .un, .un]) ⟨rfl, rfl⟩ (fun j x hj => ?_) ?_
  · obtain ⟨x, y⟩ := x
    have hjl := get_lt hj
    rw [List.length_zip] at hjl
    walk_at "ev"
    refine ⟨fun _ => ?_, fun z => Bool.noConfusion z⟩
    walk_at "ev"
    refine fShr_n ?_
    walk_at "ev"
    refine fMin_n ?_
    refine ⟨sl_lt (by rw [List.length_map, List.length_map, List.length_take]; omega), ?_, rfl⟩
    rw [take_snoc hj, List.map_append, List.map_append]; rfl
  · rw [List.take_length, zip_zipW (f := fun x y => min x (y / 2 ^ p))]
    walk_at "ev"
    exact hp

def m_enough : MS := mSeq (mSet 4 (mXe (mBin fMul (mFz (mLst (mCons (mVar 3) (mNil)))) (mBf fLen (mCons (mVar 0) (mNil)))))) (mSeq (mSet 5 (mXe (mCall c_let_down (mCons (mVar 0) (mCons (mVar 1) (mCons (mVar 2) (mCons (mVar 4) (mNil)))))))) (mSeq (mWhile (mTst (mBin fNe (mVar 5) (mVar 4))) (mSeq (mSet 4 (mXe (mVar 5))) (mSet 5 (mXe (mCall c_let_down (mCons (mVar 0) (mCons (mVar 1) (mCons (mVar 2) (mCons (mVar 4) (mNil)))))))))) (mSeq (mIfS (mTst (mBin fEq (mBf fSum (mCons (mVar 4) (mNil))) (mC (.int 0)))) (mRet (mC .non)) (mNx)) (mRet (mVar 4)))))
theorem bd_enough (T : Tx K mg a) : Bd P w K mg base 3 ["machine", "p", "q", "most", "weights", "lesser"] s_enough m_enough := ⟨fun qual f cdv A outer s H E hr tk pw =>
  gss_cons (gs_set (gx_e (ge_bin op_mulA od_mul (ge_fz (go_lst (ga_cons (ge_var) (ga_nil)))) (ge_bf call_len cd_len T.m_len (ga_cons (ge_var) (ga_nil))))) sc_enough.nd) (gss_cons (gs_set (gx_e (ge_call (G_let_down T) (hr.mono (by decide)) T.g_let_down T.F_let_down.kp T.b_let_down tk (ga_cons (ge_var) (ga_cons (ge_var) (ga_cons (ge_var) (ga_cons (ge_var) (ga_nil))))))) sc_enough.nd) (gss_cons (gs_while pw (gt_cmp (op_neA hr.units) od_ne (ge_var) (ge_var)) (gss_cons (gs_set (gx_e (ge_var)) sc_enough.nd) (gss_one (gs_set (gx_e (ge_call (G_let_down T) (hr.mono (by decide)) T.g_let_down T.F_let_down.kp T.b_let_down tk (ga_cons (ge_var) (ga_cons (ge_var) (ga_cons (ge_var) (ga_cons (ge_var) (ga_nil))))))) sc_enough.nd)))) (gss_cons (gs_if (gt_cmp (op_eqA hr.units) od_eq (ge_bf (cr_sum rfl) cd_sum T.m_sum (ga_cons (ge_var) (ga_nil))) (ge_int)) (gss_one (gs_ret (ge_non))) (gss_nil)) (gss_one (gs_ret (ge_var))))))⟩
def c_enough : CtP := fun ds P _ => ∃ (M : Mc) (p q most : Nat), ds = [mD M, .int (p : Nat), .int (q : Nat), .int (most : Nat)] ∧ M.Ok ∧ M.length ≤ 1000 ∧ q ≤ 1000 ∧
  ∀ R, R = limF (downR M p q) (M.length * most) (List.replicate M.length most) → (R.sum = 0 → P (.fz .non)) ∧ (0 < R.sum → P (.fz (nL R)))
theorem sum_rep (n x : Nat) : (List.replicate n x).sum = n * x := by simp
theorem G_enough (T : Tx K mg a) : FnOk P w K mg base (L2.CX P w) 4 a.f_enough a.d_enough ["machine", "p", "q", "most"] (spP K c_enough) :=
  fn_P T.F_enough sc_enough (by rintro ds P PX ⟨M, n, _, _, rfl, _⟩; rfl) (bd_enough T) fun ds P PX h => by
  obtain ⟨M, p, q, most, rfl, ok, hM, hq, hp⟩ := h
  have hdn := dn_R (M := M) p q
  have hp := hp _ rfl
  unfold m_enough
  walk_at "ev"
  refine ⟨by show 1 ≤ _; decide, ?_⟩
  walk_at "ev"
  refine fLen_tup ?_
  rw [List.length_map]
  walk_at "ev"
  refine fMul_rep (by omega) ?_
  walk_at "ev"
  refine ⟨M, p, q, List.replicate M.length most, rfl, ok, by simp, hM, hq, ?_⟩
  walk_at "ev"
  generalize hR : limF (downR M p q) (M.length * most) (List.replicate M.length most) = R at hp
  refine ⟨fun j ρ => ∃ l : List Nat, ρ = [.fz (mD M), .fz (.int (p : Nat)), .fz (.int (q : Nat)), .fz (.int (most : Nat)), .fz (nL l), .fz (nL (downR M p q l))] ∧ l.length = M.length ∧ l.sum = j ∧ l.sum ≤ M.length * most ∧ limF (downR M p q) (M.length * most) l = R,
    ⟨M.length * most, _, by walk_at "wk", List.replicate M.length most, rfl, by simp, sum_rep _ _, Nat.le_of_eq (sum_rep _ _), hR⟩, fun j ρ hI => ?_⟩
  obtain ⟨l, rfl, hl, hs, hsl, hlim⟩ := hI
  obtain ⟨d1, d2, d3⟩ := hdn l hl
  walk_at "ev"
  refine fNe_nL ?_
  walk_at "ev"
  refine ⟨fun z => ?_, fun z => ?_⟩
  · have z : downR M p q l ≠ l := by simpa using z
    walk_at "ev"
    refine ⟨M, p, q, downR M p q l, rfl, ok, d1, hM, hq, ?_⟩
    walk_at "ev"
    have hne : (downR M p q l).sum ≠ l.sum := fun y => z (d3 y)
    refine ⟨(downR M p q l).sum, by omega, _, ?_, downR M p q l, rfl, d1, rfl, by omega, ?_⟩
    · walk_at "wk"
    · rw [← hlim]; exact limF_next hdn hl hsl z
  · have z : downR M p q l = l := by simpa using z
    have hRl : R = l := by
      rw [← hlim]
      cases hk : M.length * most with
      | zero => rfl
      | succ k => show (if downR M p q l = l then l else _) = l; rw [if_pos z]
    rw [hRl] at hp
    walk_at "ev"
    refine fSum_n ?_
    walk_at "ev"
    refine ⟨fun y => ?_, fun y => ?_⟩
    · have y := of_decide_eq_true y
      walk_at "ev"
      exact hp.1 (by omega)
    · have y := of_decide_eq_false y
      walk_at "ev"
      exact hp.2 (by omega)

def m_shows_enough : MS := mSeq (mIfS (mOrT (mNotT (mTst (mCall c_are_numbers (mCons (mVar 3) (mCons (mBf fLen (mCons (mVar 0) (mNil))) (mCons (mC (.int 0)) (mNil))))))) (mTst (mBin fEq (mBf fSum (mCons (mVar 3) (mNil))) (mC (.int 0))))) (mRet (mC (.bl false))) (mNx)) (mRet (mBf fAll (mCons (mFz (mLc (iZp (mCons (mVar 3) (mCons (mCall c_sums_behind (mCons (mVar 0) (mCons (mVar 2) (mCons (mVar 3) (mNil))))) (mNil)))) (gT (gCs (gN 4) (gCs (gN 5) (gNl)))) (mYes) (mBin fGe (mVar 5) (mBin fShl (mVar 4) (mVar 1))) [4, 5])) (mNil))))
theorem bd_shows_enough (T : Tx K mg a) : Bd P w K mg base 2 ["machine", "p", "q", "weights", "one", "more"] s_shows_enough m_shows_enough := ⟨fun qual f cdv A outer s H E hr tk pw =>
  gss_cons (gs_if (gt_w (gw_or (gt_not (gt_val (ge_call (G_are_numbers T) (hr.mono (by decide)) T.g_are_numbers T.F_are_numbers.kp T.b_are_numbers tk (ga_cons (ge_var) (ga_cons (ge_bf call_len cd_len T.m_len (ga_cons (ge_var) (ga_nil))) (ga_cons (ge_int) (ga_nil))))))) (gw_or1 (gt_cmp (op_eqA hr.units) od_eq (ge_bf (cr_sum rfl) cd_sum T.m_sum (ga_cons (ge_var) (ga_nil))) (ge_int))))) (gss_one (gs_ret (ge_bl))) (gss_nil)) (gss_one (gs_ret (ge_bf (cr_all rfl) cd_all T.m_all (ga_cons (ge_fz (go_lc (own := [("one", 4), ("more", 5)]) rfl sc_shows_enough.nd (gi_zip T.m_zip (ga_cons (ge_var) (ga_cons (ge_call (G_sums_behind T) (hr.mono (by decide)) T.g_sums_behind T.F_sums_behind.kp T.b_sums_behind tk (ga_cons (ge_var) (ga_cons (ge_var) (ga_cons (ge_var) (ga_nil))))) (ga_nil)))) (blkOk_by (N := ["machine", "p", "q", "weights", "one", "more"]) (sc := (defScope s_shows_enough)) (by decide +kernel)) (fun _ _ _ _ _ => gg_tup2 rfl (gg_name sc_shows_enough.nd) (gg_name sc_shows_enough.nd)) (fun _ _ _ _ _ => gts_nil) (fun _ _ _ _ _ => ge_cmp op_ge od_ge (ge_var) (ge_bin op_shlW od_shl (ge_var) (ge_var))))) (ga_nil)))))⟩
def c_shows_enough : CtP := fun ds P _ => ∃ (M : Mc) (p q : Nat) (l : List Nat), ds = [mD M, .int (p : Nat), .int (q : Nat), nL l] ∧ M.Ok ∧ l.length = M.length ∧ M.length ≤ 1000 ∧ q ≤ 1000 ∧ p ≤ 1000 ∧ 0 < l.sum ∧ (∀ x ∈ l, x < 2 ^ 1000) ∧ downR M p q l = l ∧ P (.fz (.bl true))
theorem G_shows_enough (T : Tx K mg a) : FnOk P w K mg base (L2.CX P w) 3 a.f_shows_enough a.d_shows_enough ["machine", "p", "q", "weights"] (spP K c_shows_enough) :=
  fn_P T.F_shows_enough sc_shows_enough (by rintro ds P PX ⟨M, n, _, _, rfl, _⟩; rfl) (bd_shows_enough T) fun ds P PX h => by
  obtain ⟨M, p, q, l, rfl, ok, hl, hM, hq, hpl, hs, hb, he, hp⟩ := h
  have hol := itR_len M hl q
  unfold m_shows_enough
  walk_at "ev"
  refine fLen_tup ?_
  rw [List.length_map]
  walk_at "ev"
  refine ⟨l, M.length, rfl, by omega, ?_⟩
  rw [decide_eq_true hl]
  walk_at "ev"
  refine ⟨fun z => Bool.noConfusion z, fun _ => ?_⟩
  walk_at "ev"
  refine fSum_n ?_
  walk_at "ev"
  refine ⟨fun z => ?_, fun _ => ?_⟩
  · exfalso
    have := of_decide_eq_true z
    omega
  walk_at "ev"
  refine lc_run (ds := zipD (l.map nD) ((itL (oneL M) q l).map nD)) (ρ1 := [.fz (mD M), .fz (.int (p : Nat)), .fz (.int (q : Nat)), .fz (nL l), .un, .un]) (fun _ y => by walk_at "ev"; exact ⟨M, q, l, rfl, ok, hl, hM, hq, by walk_at "ev"; exact y⟩) (zip_n l (itL (oneL M) q l)) (fun j => List.replicate j (D.bl true)) (fun _ => [.fz (mD M), .fz (.int (p : Nat)), .fz (.int (q : Nat)), .fz (nL l), .un, .un]) ⟨rfl, rfl⟩ (fun j x hj => ?_) ?_
  · obtain ⟨x, y⟩ := x
    have hjl := get_lt hj
    rw [List.length_zip] at hjl
    have hj2 := List.getElem?_zip_eq_some.mp hj
    have hle : x * 2 ^ p ≤ y := by
      have : (downR M p q l)[j]? = some (min x (y / 2 ^ p)) := by rw [downR, downG_get, hj2.1, hj2.2]
      rw [he, hj2.1] at this
      have e : x = min x (y / 2 ^ p) := Option.some.inj this
      have : x ≤ y / 2 ^ p := by rw [e]; exact Nat.min_le_right _ _
      exact Nat.le_trans (Nat.mul_le_mul_right _ this) (Nat.div_mul_le_self _ _)
    walk_at "ev"
    refine ⟨fun _ => ?_, fun z => Bool.noConfusion z⟩
    walk_at "ev"
    refine fShl_n (hb x (List.mem_of_getElem? hj2.1)) (by omega) ?_
    walk_at "ev"
    rw [dle, decide_eq_true hle]
    refine ⟨sl_lt (by rw [List.length_replicate]; omega), ?_, rfl⟩
    show List.replicate j (D.bl true) ++ [D.bl true] = List.replicate (j + 1) (D.bl true)
    rw [List.replicate_succ']
  · walk_at "ev"
    refine ⟨List.replicate (l.zip (itL (oneL M) q l)).length true, ?_, ?_⟩
    · have : List.replicate (l.zip (itL (oneL M) q l)).length (D.bl true) = (List.replicate (l.zip (itL (oneL M) q l)).length true).map D.bl := by simp
      rw [this, blsOf_map]
    · have : (List.replicate (l.zip (itL (oneL M) q l)).length true).all id = true := by simp
      rw [this]
      exact hp

def m_is_too_little : MS := mRet (mBf fAll (mCons (mFz (mLc (iL (mVar 0)) (gN 3) (mYes) (mBin fLt (mVar 3) (mBin fShl (mC (.int 1)) (mBin fMul (mVar 1) (mVar 2)))) [3])) (mNil)))
theorem bd_is_too_little (T : Tx K mg a) : Bd P w K mg base 0 ["told", "p", "m", "many"] s_is_too_little m_is_too_little := ⟨fun qual f cdv A outer s H E hr tk pw =>
  gss_one (gs_ret (ge_bf (cr_all rfl) cd_all T.m_all (ga_cons (ge_fz (go_lc (own := [("many", 3)]) rfl sc_is_too_little.nd (gi_list (ge_var)) (blkOk_by (N := ["told", "p", "m", "many"]) (sc := (defScope s_is_too_little)) (by decide +kernel)) (fun _ _ _ _ _ => gg_name sc_is_too_little.nd) (fun _ _ _ _ _ => gts_nil) (fun _ _ _ _ _ => ge_cmp op_ltA od_lt (ge_var) (ge_bin op_shlW od_shl (ge_int) (ge_bin op_mulA od_mul (ge_var) (ge_var)))))) (ga_nil))))⟩
def TooL (l : List Nat) (e : Nat) : Prop := ∀ x ∈ l, x < 2 ^ e
instance (l : List Nat) (e : Nat) : Decidable (TooL l e) := by unfold TooL; exact inferInstance
def c_is_too_little : CtP := fun ds P _ => ∃ (l : List Nat) (p m : Nat), ds = [nL l, .int (p : Nat), .int (m : Nat)] ∧ l.length ≤ 1000 ∧ p ≤ 100 ∧ m ≤ 1000 ∧ P (.fz (.bl (decide (TooL l (p * m)))))
theorem G_is_too_little (T : Tx K mg a) : FnOk P w K mg base (L2.CX P w) 1 a.f_is_too_little a.d_is_too_little ["told", "p", "m"] (spP K c_is_too_little) :=
  fn_P T.F_is_too_little sc_is_too_little (by rintro ds P PX ⟨M, n, _, rfl, _⟩; rfl) (bd_is_too_little T) fun ds P PX h => by
  obtain ⟨l, p, m, rfl, hl, hpl, hm, hp⟩ := h
  have hpm : p * m ≤ 100 * 1000 := Nat.mul_le_mul hpl hm
  unfold m_is_too_little
  walk_at "ev"
  refine lc_run (fun _ q => by walk_at "ev"; exact q) (xs := l) (f := nD) rfl (fun k => (l.take k).map fun x => D.bl (decide (x < 2 ^ (p * m)))) (fun _ => [.fz (nL l), .fz (.int (p : Nat)), .fz (.int (m : Nat)), .un]) ⟨rfl, rfl⟩ (fun k x hk => ?_) ?_
  · walk_at "ev"
    refine ⟨fun _ => ?_, fun z => Bool.noConfusion z⟩
    walk_at "ev"
    refine fMul_n (by omega) ?_
    walk_at "ev"
    refine shl_one (by omega) ?_
    walk_at "ev"
    rw [dlt]
    have := acc_map (F := fun x : Nat => D.bl (decide (x < 2 ^ (p * m)))) hk rfl (by omega)
    exact ⟨this.1, this.2, rfl⟩
  · rw [List.take_length]
    walk_at "ev"
    refine ⟨l.map fun x => decide (x < 2 ^ (p * m)), ?_, ?_⟩
    · have : (l.map fun x => D.bl (decide (x < 2 ^ (p * m)))) = (l.map fun x => decide (x < 2 ^ (p * m))).map D.bl := by rw [List.map_map]; rfl
      rw [this, blsOf_map]
    · have : (l.map fun x => decide (x < 2 ^ (p * m))).all id = decide (TooL l (p * m)) := by
        rw [Bool.eq_iff_iff, List.all_map, decide_eq_true_eq]
        unfold TooL
        simp
      rw [this]
      exact hp

def m_too_little : MS := mSeq (mFor (iR2 (mCons (mC (.int 1)) (mCons (mBin fAdd (mVar 3) (mC (.int 1))) (mNil)))) (gN 4) (mSeq (mSet 5 (mXe (mCall c_counts (mCons (mVar 0) (mCons (mBin fMul (mVar 2) (mVar 4)) (mNil)))))) (mIfS (mTst (mCall c_is_too_little (mCons (mVar 5) (mCons (mVar 1) (mCons (mVar 4) (mNil)))))) (mRet (mTup (mCons (mVar 4) (mCons (mVar 5) (mNil))))) (mNx)))) (mRet (mC .non))
theorem bd_too_little (T : Tx K mg a) : Bd P w K mg base 4 ["machine", "p", "q", "most", "m", "told"] s_too_little m_too_little := ⟨fun qual f cdv A outer s H E hr tk pw =>
  gss_cons (gs_for pw rfl (gi_range2 T.m_range (ga_cons (ge_int) (ga_cons (ge_bin op_addA od_add (ge_var) (ge_int)) (ga_nil)))) (gg_name sc_too_little.nd) (gss_cons (gs_set (gx_e (ge_call (G_counts T) (hr.mono (by decide)) T.g_counts T.F_counts.kp T.b_counts tk (ga_cons (ge_var) (ga_cons (ge_bin op_mulA od_mul (ge_var) (ge_var)) (ga_nil))))) sc_too_little.nd) (gss_one (gs_if (gt_val (ge_call (G_is_too_little T) (hr.mono (by decide)) T.g_is_too_little T.F_is_too_little.kp T.b_is_too_little tk (ga_cons (ge_var) (ga_cons (ge_var) (ga_cons (ge_var) (ga_nil)))))) (gss_one (gs_ret (ge_tup (ga_cons (ge_var) (ga_cons (ge_var) (ga_nil)))))) (gss_nil))))) (gss_one (gs_ret (ge_non)))⟩
def c_too_little : CtP := fun ds P _ => ∃ (M : Mc) (p q most : Nat), ds = [mD M, .int (p : Nat), .int (q : Nat), .int (most : Nat)] ∧ M.Ok ∧ M.length ≤ 1000 ∧ p ≤ 100 ∧ q ≤ 20 ∧ most ≤ 50 ∧
  (∀ m, 1 ≤ m → m ≤ most → TooL (countsA M (q * m)) (p * m) → (∀ j, 1 ≤ j → j < m → ¬ TooL (countsA M (q * j)) (p * j)) → P (.fz (.tup [.int (m : Nat), nL (countsA M (q * m))]))) ∧
  ((∀ j, 1 ≤ j → j ≤ most → ¬ TooL (countsA M (q * j)) (p * j)) → P (.fz .non))
theorem countsA_len (M : Mc) (n : Nat) : (countsA M n).length = M.length := itR_len M (by simp) n
theorem G_too_little (T : Tx K mg a) : FnOk P w K mg base (L2.CX P w) 5 a.f_too_little a.d_too_little ["machine", "p", "q", "most"] (spP K c_too_little) :=
  fn_P T.F_too_little sc_too_little (by rintro ds P PX ⟨M, n, _, _, rfl, _⟩; rfl) (bd_too_little T) fun ds P PX h => by
  obtain ⟨M, p, q, most, rfl, ok, hM, hpl, hq, hmo, h1, h0⟩ := h
  unfold m_too_little
  walk_at "ev"
  refine for_inv (fun _ q' => by walk_at "ev"; exact ⟨⟨by decide, by decide⟩, ⟨by omega, by omega⟩, q'⟩) (range_map _ 1 1)
    (fun k ρ => ρ = [.fz (mD M), .fz (.int (p : Nat)), .fz (.int (q : Nat)), .fz (.int (most : Nat)), .un, .un] ∧ ∀ j, 1 ≤ j → j ≤ k → ¬ TooL (countsA M (q * j)) (p * j))
    ⟨_, by walk_at "wk", rfl, fun j a b => by omega⟩ (fun k x ρ hk hI => ?_) (fun ρ hI => ?_)
  · obtain ⟨rfl, hlt⟩ := range_get hk
    obtain ⟨rfl, hj⟩ := hI
    have hlt : x < most := by omega
    have ex : (1 : Int) + (x : Nat) * 1 = ((x + 1 : Nat) : Int) := by omega
    rw [ex]
    have hqx : q * (x + 1) ≤ 20 * 50 := Nat.mul_le_mul hq (by omega)
    walk_at "ev"
    refine fMul_n (by omega) ?_
    walk_at "ev"
    refine ⟨M, q * (x + 1), rfl, ok, hM, by omega, ?_⟩
    walk_at "ev"
    refine ⟨countsA M (q * (x + 1)), p, x + 1, rfl, by rw [countsA_len]; exact hM, hpl, by omega, ?_⟩
    walk_at "ev"
    refine ⟨fun z => ?_, fun z => ?_⟩
    · have z := of_decide_eq_true z
      walk_at "ev"
      exact ⟨by show 2 ≤ sizeLine; decide, h1 (x + 1) (by omega) (by omega) z fun j a b => hj j a (by omega)⟩
    · have z := of_decide_eq_false z
      walk_at "ev"
      refine ⟨_, ?_, rfl, fun j a b => ?_⟩
      · walk_at "wk"
      · rcases Nat.lt_or_ge j (x + 1) with y | y
        · exact hj j a (by omega)
        · have : j = x + 1 := by omega
          subst this
          exact z
  · obtain ⟨rfl, hj⟩ := hI
    walk_at "ev"
    refine h0 fun j a b => hj j a ?_
    rw [List.length_range]
    omega

def m_shows_too_little : MS := mSeq (mIfS (mOrT (mNotT (mTst (mCall c_is_number (mCons (mVar 3) (mCons (mC (.int 1)) (mNil)))))) (mOrT (mTst (mBin fGt (mVar 3) (mC (.int 400)))) (mNotT (mTst (mCall c_are_numbers (mCons (mVar 4) (mCons (mBf fLen (mCons (mVar 0) (mNil))) (mCons (mC (.int 0)) (mNil))))))))) (mRet (mC (.bl false))) (mNx)) (mRet (mAndV (mBin fEq (mFz (mLi (mCons (mVar 4) (mNil)))) (mCall c_counts (mCons (mVar 0) (mCons (mBin fMul (mVar 2) (mVar 3)) (mNil))))) (mCall c_is_too_little (mCons (mVar 4) (mCons (mVar 1) (mCons (mVar 3) (mNil)))))))
theorem bd_shows_too_little (T : Tx K mg a) : Bd P w K mg base 4 ["machine", "p", "q", "m", "told"] s_shows_too_little m_shows_too_little := ⟨fun qual f cdv A outer s H E hr tk pw =>
  gss_cons (gs_if (gt_w (gw_or (gt_not (gt_val (ge_call (G_is_number T) (hr.mono (by decide)) T.g_is_number T.F_is_number.kp T.b_is_number tk (ga_cons (ge_var) (ga_cons (ge_int) (ga_nil)))))) (gw_or (gt_cmp op_gt od_gt (ge_var) (ge_globIx T.c_MOST_BLOCKS)) (gw_or1 (gt_not (gt_val (ge_call (G_are_numbers T) (hr.mono (by decide)) T.g_are_numbers T.F_are_numbers.kp T.b_are_numbers tk (ga_cons (ge_var) (ga_cons (ge_bf call_len cd_len T.m_len (ga_cons (ge_var) (ga_nil))) (ga_cons (ge_int) (ga_nil))))))))))) (gss_one (gs_ret (ge_bl))) (gss_nil)) (gss_one (gs_ret (ge_and (ge_cmp (op_eqA hr.units) od_eq (ge_fz (go_list T.m_list (ga_cons (ge_var) (ga_nil)))) (ge_call (G_counts T) (hr.mono (by decide)) T.g_counts T.F_counts.kp T.b_counts tk (ga_cons (ge_var) (ga_cons (ge_bin op_mulA od_mul (ge_var) (ge_var)) (ga_nil))))) (ge_one (ge_call (G_is_too_little T) (hr.mono (by decide)) T.g_is_too_little T.F_is_too_little.kp T.b_is_too_little tk (ga_cons (ge_var) (ga_cons (ge_var) (ga_cons (ge_var) (ga_nil)))))))))⟩
def c_shows_too_little : CtP := fun ds P _ => ∃ (M : Mc) (p q m : Nat), ds = [mD M, .int (p : Nat), .int (q : Nat), .int (m : Nat), nL (countsA M (q * m))] ∧ M.Ok ∧ M.length ≤ 1000 ∧ p ≤ 100 ∧ q ≤ 20 ∧ 1 ≤ m ∧ m ≤ 50 ∧ P (.fz (.bl (decide (TooL (countsA M (q * m)) (p * m)))))
theorem G_shows_too_little (T : Tx K mg a) : FnOk P w K mg base (L2.CX P w) 5 a.f_shows_too_little a.d_shows_too_little ["machine", "p", "q", "m", "told"] (spP K c_shows_too_little) :=
  fn_P T.F_shows_too_little sc_shows_too_little (by rintro ds P PX ⟨M, n, _, _, rfl, _⟩; rfl) (bd_shows_too_little T) fun ds P PX h => by
  obtain ⟨M, p, q, m, rfl, ok, hM, hpl, hq, hm1, hm, hp⟩ := h
  have hqx : q * m ≤ 20 * 50 := Nat.mul_le_mul hq hm
  have hcl := countsA_len M (q * m)
  unfold m_shows_too_little
  walk_at "ev"
  refine ⟨m, 1, rfl, ?_⟩
  rw [decide_eq_true hm1]
  walk_at "ev"
  refine ⟨fun z => Bool.noConfusion z, fun _ => ?_⟩
  walk_at "ev"
  refine ⟨fun z => ?_, fun _ => ?_⟩
  · exfalso
    have := of_decide_eq_true z
    omega
  walk_at "ev"
  refine fLen_tup ?_
  rw [List.length_map]
  walk_at "ev"
  refine ⟨countsA M (q * m), M.length, rfl, by omega, ?_⟩
  rw [decide_eq_true hcl]
  walk_at "ev"
  refine ⟨fun z => Bool.noConfusion z, fun _ => ?_⟩
  walk_at "ev"
  refine fMul_n (by omega) ?_
  walk_at "ev"
  refine ⟨M, q * m, rfl, ok, hM, by omega, ?_⟩
  walk_at "ev"
  refine fEq_nL ?_
  rw [decide_eq_true rfl]
  walk_at "ev"
  refine ⟨fun _ => ?_, fun z => Bool.noConfusion z⟩
  exact ⟨countsA M (q * m), p, m, rfl, by omega, hpl, by omega, hp⟩

def m_parts_of : MS := mRet (mFz (mLc (iR3 (mCons (mC (.int 0)) (mCons (mBf fLen (mCons (mVar 0) (mNil))) (mCons (mVar 1) (mNil))))) (gN 2) (mYes) (mSl (mVar 0) (mSoP (mVar 2)) (mSoP (mBin fAdd (mVar 2) (mVar 1)))) [2]))
theorem bd_parts_of (T : Tx K mg a) : Bd P w K mg base 0 ["row", "many", "place"] s_parts_of m_parts_of := ⟨fun qual f cdv A outer s H E hr tk pw =>
  gss_one (gs_ret (ge_fz (go_lc (own := [("place", 2)]) rfl sc_parts_of.nd (gi_range3 T.m_range (ga_cons (ge_int) (ga_cons (ge_bf call_len cd_len T.m_len (ga_cons (ge_var) (ga_nil))) (ga_cons (ge_var) (ga_nil))))) (blkOk_by (N := ["row", "many", "place"]) (sc := (defScope s_parts_of)) (by decide +kernel)) (fun _ _ _ _ _ => gg_name sc_parts_of.nd) (fun _ _ _ _ _ => gts_nil) (fun _ _ _ _ _ => ge_sl (ge_var) (gp_some (ge_var)) (gp_some (ge_bin op_addA od_add (ge_var) (ge_var)))))))⟩
def c_parts_of : CtP := fun ds P _ => ∃ (l : List Bool) (c : Nat), ds = [.str (bs l), .int (c : Nat)] ∧ 0 < c ∧ c ≤ 1000 ∧ l.length ≤ 100000 ∧ P (.fz (.lst ((partsM c l).map fun x => D.str (bs x))))
theorem G_parts_of (T : Tx K mg a) : FnOk P w K mg base (L2.CX P w) 1 a.f_parts_of a.d_parts_of ["row", "many"] (spP K c_parts_of) :=
  fn_P T.F_parts_of sc_parts_of (by rintro ds P PX ⟨n, m, rfl, _⟩; rfl) (bd_parts_of T) fun ds P PX h => by
  obtain ⟨l, c, rfl, h0, hc, hl, hp⟩ := h
  unfold m_parts_of
  walk_at "ev"
  refine lc_run (fun _ q => by walk_at "ev"; exact fLen_bs (by omega) ⟨_, rgC_up h0 (by omega) (by omega), q⟩) (range_map ((l.length + c - 1) / c) 0 c) (fun k => ((List.range ((l.length + c - 1) / c)).take k).map fun i => D.str (bs ((l.drop (i * c)).take c))) (fun _ => [.fz (.str (bs l)), .fz (.int (c : Nat)), .un]) ⟨rfl, rfl⟩ (fun k i hk => ?_) ?_
  · obtain ⟨rfl, hlt⟩ := range_get hk
    have ex : (0 : Int) + (i : Nat) * (c : Nat) = ((i * c : Nat) : Int) := by rw [Int.natCast_mul]; omega
    rw [ex]
    walk_at "ev"
    refine ⟨fun _ => ?_, fun z => Bool.noConfusion z⟩
    walk_at "ev"
    refine fSl_bs (by omega) ?_
    have ex2 : ((i * c : Nat) : Int) + (c : Nat) = ((i * c + c : Nat) : Int) := rfl
    rw [ex2, cutD_mid, show i * c + c - i * c = c by omega]
    have hq : (l.length + c - 1) / c ≤ 200000 := Nat.le_trans (Nat.div_le_self _ _) (by omega)
    have := acc_map (F := fun i => D.str (bs ((l.drop (i * c)).take c))) hk rfl (by rw [List.length_range]; omega)
    exact ⟨this.1, this.2, rfl⟩
  · rw [List.take_length]
    walk_at "ev"
    have e : (partsM c l).map (fun x => D.str (bs x)) = (List.range ((l.length + c - 1) / c)).map fun i => D.str (bs ((l.drop (i * c)).take c)) := by rw [partsM, List.map_map]; rfl
    rw [← e]
    exact hp

def m_as_bits : MS := mRet (mSm fJoin (mC (.str "")) (mFz (mLc (iR1 (mCons (mVar 1) (mNil))) (gN 2) (mYes) (mBin fIx (mC (.str "01")) (mBin fMod (mBin fShr (mVar 0) (mBin fSub (mBin fSub (mVar 1) (mC (.int 1))) (mVar 2))) (mC (.int 2)))) [2])))
theorem bd_as_bits (T : Tx K mg a) : Bd P w K mg base 0 ["number", "many", "place"] s_as_bits m_as_bits := ⟨fun qual f cdv A outer s H E hr tk pw =>
  gss_one (gs_ret (ge_sm PySem.F.slot_str_join PySem.F.type_str_join mt_join sd_join (ge_str) (ge_fz (go_lc (own := [("place", 2)]) rfl sc_as_bits.nd (gi_range1 T.m_range (ga_cons (ge_var) (ga_nil))) (blkOk_by (N := ["number", "many", "place"]) (sc := (defScope s_as_bits)) (by decide +kernel)) (fun _ _ _ _ _ => gg_name sc_as_bits.nd) (fun _ _ _ _ _ => gts_nil) (fun _ _ _ _ _ => ge_ix (ge_str) (ge_bin op_mod od_mod (ge_bin op_shr od_shr (ge_var) (ge_bin op_sub od_sub (ge_bin op_sub od_sub (ge_var) (ge_int)) (ge_var))) (ge_int)))))))⟩
def c_as_bits : CtP := fun ds P _ => ∃ (k p : Nat), ds = [.int (k : Nat), .int (p : Nat)] ∧ p ≤ 1000 ∧ P (.fz (.str (bs (bitsN k p))))
theorem bit_at (k m : Nat) : ((k : Nat) : Int) / 2 ^ m % 2 = bi (decide (k / 2 ^ m % 2 = 1)) := by
  have e : ((k : Nat) : Int) / 2 ^ m % 2 = ((k / 2 ^ m % 2 : Nat) : Int) := by
    rw [Int.natCast_emod, Int.natCast_ediv, Int.natCast_pow]; rfl
  rw [e]
  have : k / 2 ^ m % 2 < 2 := Nat.mod_lt _ (by decide)
  rcases (by omega : k / 2 ^ m % 2 = 0 ∨ k / 2 ^ m % 2 = 1) with h | h <;> rw [h] <;> rfl
theorem G_as_bits (T : Tx K mg a) : FnOk P w K mg base (L2.CX P w) 1 a.f_as_bits a.d_as_bits ["number", "many"] (spP K c_as_bits) :=
  fn_P T.F_as_bits sc_as_bits (by rintro ds P PX ⟨n, m, rfl, _⟩; rfl) (bd_as_bits T) fun ds P PX h => by
  obtain ⟨k, p, rfl, hl, hp⟩ := h
  unfold m_as_bits
  walk_at "ev"
  refine lc_run (fun _ q => by walk_at "ev"; exact ⟨⟨by omega, by omega⟩, q⟩) (range_map p 0 1) (fun j => ((List.range p).take j).map fun i => sb (decide (k / 2 ^ (p - 1 - i) % 2 = 1))) (fun _ => [.fz (.int (k : Nat)), .fz (.int (p : Nat)), .un]) ⟨rfl, rfl⟩ (fun j i hk => ?_) ?_
  · obtain ⟨rfl, hlt⟩ := range_get hk
    have ex : (0 : Int) + (i : Nat) * 1 = (i : Nat) := by omega
    rw [ex]
    walk_at "ev"
    refine ⟨fun _ => ?_, fun z => Bool.noConfusion z⟩
    walk_at "ev"
    refine ⟨by omega, ?_⟩
    walk_at "ev"
    refine ⟨by decide, ?_⟩
    rw [show (((p : Nat) : Int) - 1 - (i : Nat)).toNat = p - 1 - i by omega, bit_at]
    refine ix01 ?_
    have := acc_map (F := fun i => sb (decide (k / 2 ^ (p - 1 - i) % 2 = 1))) hk rfl (by rw [List.length_range]; omega)
    exact ⟨this.1, this.2, rfl⟩
  · rw [List.take_length]
    walk_at "ev"
    have e : ((List.range p).map fun i => sb (decide (k / 2 ^ (p - 1 - i) % 2 = 1))) = (bitsN k p).map sb := by rw [bitsN, List.map_map]; rfl
    rw [e]
    exact fJoin_sb (by rw [bitsN, List.length_map, List.length_range]; omega) hp

def m_as_number : MS := mSeq (mSet 1 (mXe (mC (.int 0)))) (mSeq (mFor (iS (mVar 0)) (gN 2) (mSet 1 (mXe (mBin fAdd (mBin fMul (mC (.int 2)) (mVar 1)) (mBf fInt (mCons (mBin fEq (mVar 2) (mC (.str "1"))) (mNil))))))) (mRet (mVar 1)))
theorem bd_as_number (T : Tx K mg a) : Bd P w K mg base 0 ["bits", "found", "bit"] s_as_number m_as_number := ⟨fun qual f cdv A outer s H E hr tk pw =>
  gss_cons (gs_set (gx_e (ge_int)) sc_as_number.nd) (gss_cons (gs_for pw rfl (gi_str (ge_var)) (gg_name sc_as_number.nd) (gss_one (gs_set (gx_e (ge_bin op_addA od_add (ge_bin op_mulA od_mul (ge_int) (ge_var)) (ge_bt call_intA cd_int T.m_int (ga_cons (ge_cmp (op_eqA hr.units) od_eq (ge_var) (ge_str)) (ga_nil))))) sc_as_number.nd))) (gss_one (gs_ret (ge_var))))⟩
def c_as_number : CtP := fun ds P _ => ∃ l, ds = [.str (bs l)] ∧ l.length ≤ 1000 ∧ P (.fz (.int (vlB l : Nat)))
theorem G_as_number (T : Tx K mg a) : FnOk P w K mg base (L2.CX P w) 1 a.f_as_number a.d_as_number ["bits"] (spP K c_as_number) :=
  fn_P T.F_as_number sc_as_number (by rintro ds P PX ⟨n, rfl, _⟩; rfl) (bd_as_number T) fun ds P PX h => by
  obtain ⟨l, rfl, hl, hp⟩ := h
  unfold m_as_number
  walk_at "ev"
  refine for_run (fun _ q => by walk_at "ev"; exact q) (signs_bs l) (fun k => [.fz (.str (bs l)), .fz (.int (vlB (l.take k) : Nat)), .un]) (by walk_at "wk") (fun k b hk => ?_) ?_
  · walk_at "ev"
    refine fMul_small (by decide) ?_
    walk_at "ev"
    refine fEq_sb1 ?_
    walk_at "ev"
    refine fInt_bl ?_
    walk_at "ev"
    refine lp_of ?_
    have e : (2 : Int) * (vlB (l.take k) : Nat) + (if b = true then 1 else 0) = ((vlB (l.take (k + 1)) : Nat) : Int) := by
      rw [take_snoc hk, vl_snoc]
      split <;> omega
    rw [e]
    walk_at "wk"
  · rw [List.take_length]
    walk_at "ev"
    exact hp

def m_table_written : MS := mSeq (mSet 4 (mXe (mCall c_bits_for (mCons (mVar 0) (mCons (mVar 1) (mCons (mVar 2) (mNil))))))) (mSeq (mIfS (mTst (mBin fNe (mBin fMod (mBf fLen (mCons (mVar 3) (mNil))) (mVar 4)) (mC (.int 0)))) (mNever) (mNx)) (mRet (mSm fJoin (mC (.str "")) (mFz (mLc (iL (mCall c_parts_of (mCons (mVar 3) (mCons (mVar 4) (mNil))))) (gN 5) (mYes) (mCall c_row_at (mCons (mVar 0) (mCons (mVar 1) (mCons (mVar 1) (mCons (mVar 2) (mCons (mCall c_as_number (mCons (mVar 5) (mNil))) (mNil))))))) [5])))))
theorem bd_table_written (T : Tx K mg a) : Bd P w K mg base 6 ["machine", "room", "many", "bits", "p", "part"] s_table_written m_table_written := ⟨fun qual f cdv A outer s H E hr tk pw =>
  gss_cons (gs_set (gx_e (ge_call (G_bits_for T) (hr.mono (by decide)) T.g_bits_for T.F_bits_for.kp T.b_bits_for tk (ga_cons (ge_var) (ga_cons (ge_var) (ga_cons (ge_var) (ga_nil)))))) sc_table_written.nd) (gss_cons (gs_if (gt_cmp (op_neA hr.units) od_ne (ge_bin op_mod od_mod (ge_bf call_len cd_len T.m_len (ga_cons (ge_var) (ga_nil))) (ge_var)) (ge_int)) (gss_one (gs_never)) (gss_nil)) (gss_one (gs_ret (ge_sm PySem.F.slot_str_join PySem.F.type_str_join mt_join sd_join (ge_str) (ge_fz (go_lc (own := [("part", 5)]) rfl sc_table_written.nd (gi_list (ge_call (G_parts_of T) (hr.mono (by decide)) T.g_parts_of T.F_parts_of.kp T.b_parts_of tk (ga_cons (ge_var) (ga_cons (ge_var) (ga_nil))))) (blkOk_by (N := ["machine", "room", "many", "bits", "p", "part"]) (sc := (defScope s_table_written)) (by decide +kernel)) (fun _ _ _ _ _ => gg_name sc_table_written.nd) (fun _ _ _ _ _ => gts_nil) (fun _ _ _ _ _ => ge_call (G_row_at T) (hr.mono (by decide)) T.g_row_at T.F_row_at.kp T.b_row_at takesF (ga_cons (ge_var) (ga_cons (ge_var) (ga_cons (ge_var) (ga_cons (ge_var) (ga_cons (ge_call (G_as_number T) (hr.mono (by decide)) T.g_as_number T.F_as_number.kp T.b_as_number takesF (ga_cons (ge_var) (ga_nil))) (ga_nil)))))))))))))⟩
def writeM (M : Mc) (g n p : Nat) (l : List Bool) : List (List Bool) := (partsM p l).map fun x => rowAt M g n g (vlB x)
def c_table_written : CtP := fun ds P _ => ∃ (M : Mc) (g n p q : Nat) (l : List Bool), ds = [mD M, .int (g : Nat), .int (n : Nat), .str (bs l)] ∧ M.Ok ∧ M.length ≤ 1000 ∧ g < M.length ∧ n ≤ 1000 ∧ 0 < tb M g n g ∧ p = (tb M g n g).log2 ∧ 0 < p ∧ p ≤ 1000 ∧ l.length = p * q ∧ q ≤ 1000 ∧ l.length ≤ 100000 ∧ P (.fz (.str (bs (writeM M g n p l).flatten)))
theorem G_table_written (T : Tx K mg a) : FnOk P w K mg base (L2.CX P w) 7 a.f_table_written a.d_table_written ["machine", "room", "many", "bits"] (spP K c_table_written) :=
  fn_P T.F_table_written sc_table_written (by rintro ds P PX ⟨n, m, _, _, _, _, rfl, _⟩; rfl) (bd_table_written T) fun ds P PX h => by
  obtain ⟨M, g, n, p, q, l, rfl, ok, hM, hg, hn, hc, hpe, hp0, hp1, hlq, hq, hl, hp⟩ := h
  have hpow : 2 ^ p ≤ tb M g n g := by rw [hpe]; exact Nat.log2_self_le (by omega)
  unfold m_table_written
  walk_at "ev"
  refine ⟨M, g, n, rfl, ok, hM, hg, hn, fun z => absurd z (by omega), fun _ => ?_⟩
  rw [← hpe]
  walk_at "ev"
  refine fLen_bs (by omega) ?_
  walk_at "ev"
  refine ⟨by omega, ?_⟩
  have em : ((l.length : Nat) : Int) % (p : Nat) = 0 := by rw [← Int.natCast_emod, hlq, Nat.mul_mod_right]; rfl
  rw [em]
  walk_at "ev"
  refine ⟨fun z => Bool.noConfusion z, fun _ => ?_⟩
  walk_at "ev"
  have hlen := partsM_whole hp0 hlq
  refine lc_run (ds := (partsM p l).map fun x => D.str (bs x)) (ρ1 := [.fz (mD M), .fz (.int (g : Nat)), .fz (.int (n : Nat)), .fz (.str (bs l)), .fz (.int (p : Nat)), .un]) (fun _ q => by walk_at "ev"; exact ⟨l, p, rfl, hp0, hp1, hl, by walk_at "ev"; exact q⟩) rfl (fun k => ((partsM p l).take k).map fun x => D.str (bs (rowAt M g n g (vlB x)))) (fun _ => [.fz (mD M), .fz (.int (g : Nat)), .fz (.int (n : Nat)), .fz (.str (bs l)), .fz (.int (p : Nat)), .un]) ⟨rfl, rfl⟩ (fun k x hk => ?_) ?_
  · have hx : x.length ≤ p := by
      have := partsM_get (get_lt hk)
      rw [hk] at this
      rw [Option.some.inj this, List.length_take]
      omega
    walk_at "ev"
    refine ⟨fun _ => ?_, fun z => Bool.noConfusion z⟩
    walk_at "ev"
    refine ⟨x, rfl, by omega, ?_⟩
    walk_at "ev"
    refine ⟨M, g, n, g, vlB x, rfl, ok, hM, hn, hg, ?_, ?_⟩
    · have h1 := vl_lt x
      have h2 := Nat.pow_le_pow_right (n := 2) (by decide) hx
      omega
    have := acc_map (F := fun x => D.str (bs (rowAt M g n g (vlB x)))) hk rfl (by omega)
    exact ⟨this.1, this.2, rfl⟩
  · rw [List.take_length]
    walk_at "ev"
    have e : ((partsM p l).map fun x => D.str (bs (rowAt M g n g (vlB x)))) = (writeM M g n p l).map fun x => D.str (bs x) := by rw [writeM, List.map_map]; rfl
    rw [e]
    refine fJoin_bs ?_ hp
    rw [flat_len (c := n) (fun x hx => by obtain ⟨y, _, rfl⟩ := List.mem_map.mp hx; exact rowAt_len _ _ _ _ _), writeM, List.length_map, hlen]
    exact Nat.le_trans (Nat.mul_le_mul hn hq) (by decide)

def m_block_number : MS := mSeq (mIfS (mTst (mBin fNe (mBf fLen (mCons (mVar 3) (mNil))) (mVar 2))) (mRet (mC .non)) (mNx)) (mSeq (mSet 4 (mXe (mC .non))) (mSeq (mTry (exPl a_NoRow) (mSet 4 (mXe (mCall c_number_of (mCons (mVar 0) (mCons (mVar 1) (mCons (mVar 1) (mCons (mVar 3) (mNil)))))))) (mSet 4 (mXe (mC .non)))) (mRet (mVar 4))))
theorem bd_block_number (T : Tx K mg a) : Bd P w K mg base 4 ["machine", "room", "many", "block", "found"] s_block_number m_block_number := ⟨fun qual f cdv A outer s H E hr tk pw =>
  gss_cons (gs_if (gt_cmp (op_neA hr.units) od_ne (ge_bf call_len cd_len T.m_len (ga_cons (ge_var) (ga_nil))) (ge_var)) (gss_one (gs_ret (ge_non))) (gss_nil)) (gss_cons (gs_set (gx_e (ge_non)) sc_block_number.nd) (gss_cons (gs_try rfl rfl ⟨rfl, by decide, .inl T.e_NoRow.g⟩ tk (hm_one (exm_at T.e_NoRow T.e_NoRow T.s_NoRow_NoRow)) (fun W' pn xe tk' pw' => gss_one (gs_set (gx_e (ge_call (G_number_of T) (hr.mono (by decide)) T.g_number_of T.F_number_of.kp T.b_number_of tk' (ga_cons (ge_var) (ga_cons (ge_var) (ga_cons (ge_var) (ga_cons (ge_var) (ga_nil))))))) sc_block_number.nd)) (fun a' pn' => gss_one (gs_set (gx_e (ge_non)) sc_block_number.nd))) (gss_one (gs_ret (ge_var)))))⟩
def c_block_number : CtP := fun ds P _ => ∃ (M : Mc) (g n : Nat) (l : List Bool), ds = [mD M, .int (g : Nat), .int (n : Nat), .str (bs l)] ∧ M.Ok ∧ M.length ≤ 1000 ∧ g < M.length ∧ l.length ≤ 1000 ∧ (l.length = n → goM M g l = some g → P (.fz (.int (rkM M g g l : Nat)))) ∧ (¬ (l.length = n ∧ goM M g l = some g) → P (.fz .non))
theorem G_block_number (T : Tx K mg a) : FnOk P w K mg base (L2.CX P w) 5 a.f_block_number a.d_block_number ["machine", "room", "many", "block"] (spP K c_block_number) :=
  fn_P T.F_block_number sc_block_number (by rintro ds P PX ⟨n, m, _, _, rfl, _⟩; rfl) (bd_block_number T) fun ds P PX h => by
  obtain ⟨M, g, n, l, rfl, ok, hM, hg, hl, hp, hx⟩ := h
  unfold m_block_number
  walk_at "ev"
  refine fLen_bs (by omega) ?_
  walk_at "ev"
  refine ⟨fun z => ?_, fun z => ?_⟩
  · have z : ¬ l.length = n := by have z : ¬ ((l.length : Nat) : Int) = (n : Nat) := by simpa using z
                                  omega
    walk_at "ev"
    exact hx fun y => z y.1
  · have z : l.length = n := by have z : ((l.length : Nat) : Int) = (n : Nat) := by simpa using z
                                omega
    walk_at "ev"
    refine ⟨M, g, g, l, rfl, ok, hM, hl, hg, fun y => ?_, fun y => ?_⟩
    · walk_at "ev"
      exact hp z y
    · walk_at "ev"
      refine exGo_self ?_
      walk_at "ev"
      exact hx fun u => y u.2

def m_table_read : MS := mSeq (mSet 4 (mXe (mCall c_bits_for (mCons (mVar 0) (mCons (mVar 1) (mCons (mVar 2) (mNil))))))) (mSeq (mSet 5 (mXe (mC (.str "")))) (mSeq (mFor (iEn (mCons (mCall c_parts_of (mCons (mVar 3) (mCons (mVar 2) (mNil)))) (mNil))) (gT (gCs (gN 6) (gCs (gN 7) (gNl)))) (mSeq (mSet 8 (mXe (mCall c_block_number (mCons (mVar 0) (mCons (mVar 1) (mCons (mVar 2) (mCons (mVar 7) (mNil)))))))) (mSeq (mIfS (mOrT (mTst (mBin fIs (mVar 8) (mC .non))) (mTst (mBin fGe (mVar 8) (mBin fShl (mC (.int 1)) (mVar 4))))) (mRaiseF a_BadBlock "block" (mVar 6)) (mNx)) (mAug 5 fAddI (mCall c_as_bits (mCons (mVar 8) (mCons (mVar 4) (mNil)))))))) (mRet (mVar 5))))
theorem bd_table_read (T : Tx K mg a) : Bd P w K mg base 6 ["machine", "room", "many", "row", "p", "bits", "place", "block", "number"] s_table_read m_table_read := ⟨fun qual f cdv A outer s H E hr tk pw =>
  gss_cons (gs_set (gx_e (ge_call (G_bits_for T) (hr.mono (by decide)) T.g_bits_for T.F_bits_for.kp T.b_bits_for tk (ga_cons (ge_var) (ga_cons (ge_var) (ga_cons (ge_var) (ga_nil)))))) sc_table_read.nd) (gss_cons (gs_set (gx_e (ge_str)) sc_table_read.nd) (gss_cons (gs_for pw rfl (gi_enum T.m_enumerate (ga_cons (ge_call (G_parts_of T) (hr.mono (by decide)) T.g_parts_of T.F_parts_of.kp T.b_parts_of tk (ga_cons (ge_var) (ga_cons (ge_var) (ga_nil)))) (ga_nil))) (gg_tup2 rfl (gg_name sc_table_read.nd) (gg_name sc_table_read.nd)) (gss_cons (gs_set (gx_e (ge_call (G_block_number T) (hr.mono (by decide)) T.g_block_number T.F_block_number.kp T.b_block_number tk (ga_cons (ge_var) (ga_cons (ge_var) (ga_cons (ge_var) (ga_cons (ge_var) (ga_nil))))))) sc_table_read.nd) (gss_cons (gs_if (gt_w (gw_or (gt_cmp op_isA od_is (ge_var) (ge_non)) (gw_or1 (gt_cmp op_ge od_ge (ge_var) (ge_bin op_shlW od_shl (ge_int) (ge_var)))))) (gss_one (gs_raiseF T.o_BadBlock T.i_BadBlock T.t_BadBlock (G_BadBlock T) (hr.mono (by decide)) T.b_BadBlock T.g_BadBlock rfl tk (ge_var))) (gss_nil)) (gss_one (gs_aug iop_addA od_addI (ge_call (G_as_bits T) (hr.mono (by decide)) T.g_as_bits T.F_as_bits.kp T.b_as_bits tk (ga_cons (ge_var) (ga_cons (ge_var) (ga_nil)))) sc_table_read.nd))))) (gss_one (gs_ret (ge_var)))))⟩
def GoodB (M : Mc) (g n p : Nat) (x : List Bool) : Prop := x.length = n ∧ goM M g x = some g ∧ rkM M g g x < 2 ^ p
def c_table_read : CtP := fun ds P PX => ∃ (M : Mc) (g n p : Nat) (l : List Bool), ds = [mD M, .int (g : Nat), .int (n : Nat), .str (bs l)] ∧ M.Ok ∧ M.length ≤ 1000 ∧ g < M.length ∧ 0 < n ∧ n ≤ 1000 ∧ 0 < tb M g n g ∧ p = (tb M g n g).log2 ∧ p ≤ 1000 ∧ l.length ≤ 2000 ∧
  ((∀ x ∈ partsM n l, GoodB M g n p x) → P (.fz (.str (bs ((partsM n l).map fun x => bitsN (rkM M g g x) p).flatten)))) ∧
  (∀ i x, (partsM n l)[i]? = some x → (∀ j y, j < i → (partsM n l)[j]? = some y → GoodB M g n p y) → ¬ GoodB M g n p x → PX (.fd a_BadBlock "block" (.int (i : Nat))))
theorem bitsN_len (k p : Nat) : (bitsN k p).length = p := by simp [bitsN]
theorem G_table_read (T : Tx K mg a) : FnOk P w K mg base (L2.CX P w) 7 a.f_table_read a.d_table_read ["machine", "room", "many", "row"] (spP K c_table_read) :=
  fn_P T.F_table_read sc_table_read (by rintro ds P PX ⟨n, m, _, _, _, rfl, _⟩; rfl) (bd_table_read T) fun ds P PX h => by
  obtain ⟨M, g, n, p, l, rfl, ok, hM, hg, hn0, hn, hc, hpe, hp1, hl, hp, hx⟩ := h
  have hlen : (partsM n l).length ≤ 3000 := by rw [partsM_len]; exact Nat.le_trans (Nat.div_le_self _ _) (by omega)
  unfold m_table_read
  walk_at "ev"
  refine ⟨M, g, n, rfl, ok, hM, hg, hn, fun z => absurd z (by omega), fun _ => ?_⟩
  rw [← hpe]
  walk_at "ev"
  rw [litE]
  refine for_inv (ds := enumD ((partsM n l).map fun x => D.str (bs x))) (ρ1 := [.fz (mD M), .fz (.int (g : Nat)), .fz (.int (n : Nat)), .fz (.str (bs l)), .fz (.int (p : Nat)), .fz (.str (bs [])), .un, .un, .un]) (fun _ q => by walk_at "ev"; exact ⟨l, n, rfl, hn0, hn, by omega, by walk_at "ev"; exact q⟩) (enum_map _)
    (fun k ρ => ρ = [.fz (mD M), .fz (.int (g : Nat)), .fz (.int (n : Nat)), .fz (.str (bs l)), .fz (.int (p : Nat)), .fz (.str (bs (((partsM n l).take k).map fun x => bitsN (rkM M g g x) p).flatten)), .un, .un, .un] ∧ ∀ j y, j < k → (partsM n l)[j]? = some y → GoodB M g n p y)
    ⟨_, by walk_at "wk", rfl, fun j y h => by omega⟩ (fun k x ρ hx0 hI => ?_) (fun ρ hI => ?_)
  · obtain ⟨x, hb, rfl⟩ := enum_get hx0
    obtain ⟨rfl, hj⟩ := hI
    have hk := get_lt hb
    have hxl : x.length ≤ 1000 := by
      have := partsM_get hk
      rw [hb] at this
      rw [Option.some.inj this, List.length_take, List.length_drop]
      omega
    walk_at "ev"
    refine ⟨M, g, n, x, rfl, ok, hM, hg, hxl, fun y1 y2 => ?_, fun y => ?_⟩
    · walk_at "ev"
      refine ⟨fun z => Bool.noConfusion z, fun _ => ?_⟩
      walk_at "ev"
      refine shl_one (by omega) ?_
      walk_at "ev"
      refine ⟨fun z => ?_, fun z => ?_⟩
      · have z : 2 ^ p ≤ rkM M g g x := by have := of_decide_eq_true z; omega
        walk_at "ev"
        exact hx k x hb hj fun w => by have := w.2.2; omega
      · have z : ¬ 2 ^ p ≤ rkM M g g x := by have := of_decide_eq_false z; omega
        walk_at "ev"
        refine ⟨rkM M g g x, p, rfl, by omega, ?_⟩
        walk_at "ev"
        have hfl : (((partsM n l).take k).map fun x => bitsN (rkM M g g x) p).flatten.length ≤ p * 3000 := by
          rw [flat_len (c := p) (fun x hx => by obtain ⟨y, _, rfl⟩ := List.mem_map.mp hx; exact bitsN_len _ _), List.length_map, List.length_take]
          exact Nat.mul_le_mul_left _ (by omega)
        have hfl2 : p * 3000 ≤ 1000 * 3000 := Nat.mul_le_mul_right _ hp1
        refine fAddI_bs (by rw [bitsN_len]; omega) ?_
        have e : (((partsM n l).take k).map fun x => bitsN (rkM M g g x) p).flatten ++ bitsN (rkM M g g x) p = (((partsM n l).take (k + 1)).map fun x => bitsN (rkM M g g x) p).flatten := by
          rw [take_snoc hb, List.map_append, List.flatten_append]
          simp
        rw [e]
        walk_at "ev"
        refine ⟨_, ?_, rfl, fun j y hjk hy => ?_⟩
        · walk_at "wk"
        · rcases Nat.lt_or_ge j k with w | w
          · exact hj j y w hy
          · have : j = k := by omega
            subst this
            rw [hb] at hy
            cases hy
            exact ⟨y1, y2, by omega⟩
    · walk_at "ev"
      refine ⟨fun _ => ?_, fun z => Bool.noConfusion z⟩
      walk_at "ev"
      exact ⟨fun _ => hx k x hb hj fun w => y ⟨w.1, w.2.1⟩, fun z => Bool.noConfusion z⟩
  · obtain ⟨rfl, hj⟩ := hI
    rw [zipIdx_len] at hj ⊢
    rw [List.take_length]
    walk_at "ev"
    refine hp fun x hx => ?_
    obtain ⟨j, hj2⟩ := List.mem_iff_getElem?.mp hx
    exact hj j x (get_lt hj2) hj2

def m__law_cell_at : MS := mSeq (mIfS (mTst (mBin fLt (mVar 1) (mBf fLen (mCons (mVar 0) (mNil))))) (mRet (mBin fIx (mVar 0) (mVar 1))) (mNx)) (mRet (mC (.int 0)))
theorem bd__law_cell_at (T : Tx K mg a) : Bd P w K mg base 0 ["script", "k"] s__law_cell_at m__law_cell_at := ⟨fun qual f cdv A outer s H E hr tk pw =>
  gss_cons (gs_if (gt_cmp op_ltA od_lt (ge_var) (ge_bf call_len cd_len T.m_len (ga_cons (ge_var) (ga_nil)))) (gss_one (gs_ret (ge_ix (ge_var) (ge_var)))) (gss_nil)) (gss_one (gs_ret (ge_int)))⟩
def c__law_cell_at : CtP := fun ds P _ => ∃ ns : List Int, ∃ k : Nat, ds = [.scr ns, .int (k : Nat)] ∧ ∀ i, (i = 0 ∨ i ∈ ns) → P (.fz (.int i))
theorem G__law_cell_at (T : Tx K mg a) : FnOk P w K mg base (L2.CX P w) 1 a.f__law_cell_at a.d__law_cell_at ["script", "k"] (spP K c__law_cell_at) :=
  fn_P T.F__law_cell_at sc__law_cell_at (by rintro ds P PX ⟨l, k, rfl, _⟩; rfl) (bd__law_cell_at T) fun ds P PX h => by
  obtain ⟨ns, k, rfl, hp⟩ := h
  unfold m__law_cell_at
  walk_at "ev"
  refine fLen_scr ?_
  walk_at "ev"
  refine ⟨fun z => ?_, fun z => ?_⟩
  · have z : k < ns.length := by have := of_decide_eq_true z; omega
    walk_at "ev"
    refine ⟨ns[k], atI_of rfl (List.getElem?_eq_getElem z), ?_⟩
    exact hp _ (.inr (List.getElem_mem z))
  · walk_at "ev"
    exact hp 0 (.inl rfl)

def m__law_box : MS := mSeq (mSet 2 (mXe (mCall c__law_cell_at (mCons (mVar 0) (mCons (mVar 1) (mNil)))))) (mRetO (mLst (mCons (mBin fMul (mBf fAbs (mCons (mVar 2) (mNil))) (mBf fInt (mCons (mBin fGe (mBf fAbs (mCons (mVar 2) (mNil))) (mBin fPow (mC (.int 10)) (mC (.int 18)))) (mNil)))) (mCons (mBin fAdd (mBin fAdd (mBin fMod (mVar 2) (mC (.int 2305843009213693951))) (mBin fMul (mC (.int 39373)) (mVar 1))) (mC (.int 17))) (mCons (mC (.int 0)) (mNil))))))
theorem bd__law_box (T : Tx K mg a) : Bd P w K mg base 1 ["script", "k", "cell"] s__law_box m__law_box := ⟨fun qual f cdv A outer s H E hr tk pw =>
  gss_cons (gs_set (gx_e (ge_call (G__law_cell_at T) (hr.mono (by decide)) T.g__law_cell_at T.F__law_cell_at.kp T.b__law_cell_at tk (ga_cons (ge_var) (ga_cons (ge_var) (ga_nil))))) sc__law_box.nd) (gss_one (gs_retO (go_lst (ga_cons (ge_bin op_mulA od_mul (ge_bf call_abs cd_abs T.m_abs (ga_cons (ge_var) (ga_nil))) (ge_bt call_intA cd_int T.m_int (ga_cons (ge_cmp op_ge od_ge (ge_bf call_abs cd_abs T.m_abs (ga_cons (ge_var) (ga_nil))) (ge_bin op_pow od_pow (ge_int) (ge_int))) (ga_nil)))) (ga_cons (ge_bin op_addA od_add (ge_bin op_addA od_add (ge_bin op_mod od_mod (ge_var) (ge_int)) (ge_bin op_mulA od_mul (ge_int) (ge_var))) (ge_int)) (ga_cons (ge_int) (ga_nil)))))))⟩
def c__law_box : CtP := fun ds P _ => ∃ ns : List Int, ∃ k : Nat, ds = [.scr ns, .int (k : Nat)] ∧ k ≤ 1000 ∧ ∀ c, Box c 0 → P (.ow c)
theorem G__law_box (T : Tx K mg a) : FnOk P w K mg base (L2.CX P w) 2 a.f__law_box a.d__law_box ["script", "k"] (spP K c__law_box) :=
  fn_P T.F__law_box sc__law_box (by rintro ds P PX ⟨l, k, rfl, _⟩; rfl) (bd__law_box T) fun ds P PX h => by
  obtain ⟨ns, k, rfl, hk, hp⟩ := h
  unfold m__law_box
  walk_at "ev"
  refine ⟨ns, k, rfl, fun i _ => ?_⟩
  walk_at "ev"
  refine fAbs_int ?_
  walk_at "ev"
  refine fAbs_int ?_
  walk_at "ev"
  refine ⟨⟨by decide, by decide, by decide⟩, ?_⟩
  walk_at "ev"
  refine fInt_bl ?_
  walk_at "ev"
  have e1 : ∀ b : Bool, -(2 ^ 64) < (if b then (1 : Int) else 0) ∧ (if b then (1 : Int) else 0) < 2 ^ 64 := by decide
  refine ⟨.inr (.inr (e1 _)), ?_⟩
  walk_at "ev"
  refine ⟨by decide, ?_⟩
  walk_at "ev"
  refine fMul_small (by decide) ?_
  walk_at "ev"
  refine ⟨by decide, ?_⟩
  refine hp _ ⟨_, _, _, rfl, ?_, ?_, ?_, by omega, by omega⟩
  · split <;> omega
  · have := Int.emod_nonneg i (by decide : (2305843009213693951 : Int) ≠ 0)
    omega
  · have := Int.emod_lt_of_pos i (by decide : (0 : Int) < 2305843009213693951)
    have e : (2 : Int) ^ 62 = 4611686018427387904 := by decide
    rw [e]
    omega

def m__law_take : MS := mSeq (mIfS (mTst (mBin fGt (mIxV 0 (mC (.int 0))) (mC (.int 0)))) (mSeq (mSet 2 (mXe (mBin fMod (mIxV 0 (mC (.int 0))) (mVar 1)))) (mSeq (mSub 0 (mBin fDiv (mIxV 0 (mC (.int 0))) (mVar 1)) (mC (.int 0))) (mRet (mVar 2)))) (mNx)) (mSeq (mSub 0 (mBin fAdd (mIxV 0 (mC (.int 2))) (mC (.int 1))) (mC (.int 2))) (mSeq (mSet 3 (mXe (mBin fMod (mBin fMul (mBin fAdd (mIxV 0 (mC (.int 1))) (mBin fMul (mC (.int 48271)) (mIxV 0 (mC (.int 2))))) (mBin fAdd (mC (.int 39373)) (mIxV 0 (mC (.int 2))))) (mC (.int 2147483647))))) (mSeq (mSet 4 (mXe (mBin fMod (mBin fMul (mBin fAdd (mVar 3) (mIxV 0 (mC (.int 2)))) (mBin fAdd (mBin fMod (mVar 3) (mC (.int 40009))) (mC (.int 7)))) (mC (.int 2147483629))))) (mRet (mBin fMod (mBin fDiv (mBin fMod (mBin fAdd (mBin fMul (mVar 4) (mC (.int 48271))) (mVar 3)) (mC (.int 2147483587))) (mC (.int 64))) (mVar 1))))))
theorem bd__law_take (T : Tx K mg a) : Bd P w K mg base 0 ["box", "many", "found", "once", "twice"] s__law_take m__law_take := ⟨fun qual f cdv A outer s H E hr tk pw =>
  gss_cons (gs_if (gt_cmp op_gt od_gt (ge_ixv (ge_int)) (ge_int)) (gss_cons (gs_set (gx_e (ge_bin op_mod od_mod (ge_ixv (ge_int)) (ge_var))) sc__law_take.nd) (gss_cons (gs_sub (ge_bin op_fdivW od_div (ge_ixv (ge_int)) (ge_var)) (ge_int)) (gss_one (gs_ret (ge_var))))) (gss_nil)) (gss_cons (gs_sub (ge_bin op_addA od_add (ge_ixv (ge_int)) (ge_int)) (ge_int)) (gss_cons (gs_set (gx_e (ge_bin op_mod od_mod (ge_bin op_mulA od_mul (ge_bin op_addA od_add (ge_ixv (ge_int)) (ge_bin op_mulA od_mul (ge_int) (ge_ixv (ge_int)))) (ge_bin op_addA od_add (ge_int) (ge_ixv (ge_int)))) (ge_int))) sc__law_take.nd) (gss_cons (gs_set (gx_e (ge_bin op_mod od_mod (ge_bin op_mulA od_mul (ge_bin op_addA od_add (ge_var) (ge_ixv (ge_int))) (ge_bin op_addA od_add (ge_bin op_mod od_mod (ge_var) (ge_int)) (ge_int))) (ge_int))) sc__law_take.nd) (gss_one (gs_ret (ge_bin op_mod od_mod (ge_bin op_fdivW od_div (ge_bin op_mod od_mod (ge_bin op_addA od_add (ge_bin op_mulA od_mul (ge_var) (ge_int)) (ge_var)) (ge_int)) (ge_int)) (ge_var)))))))⟩
abbrev c__law_take : CtM := cTake
theorem G__law_take (T : Tx K mg a) : FnOk P w K mg base (L2.CX P w) 1 a.f__law_take a.d__law_take ["box", "many"] (spM K c__law_take) :=
  fn_M T.F__law_take sc__law_take (by rintro c0 ds P PX ⟨n, m, rfl, _⟩; rfl) (bd__law_take T) fun p c0 ds P PX h => by
  obtain ⟨n, m, rfl, hB, hn, hm, hp⟩ := h
  obtain ⟨b0, b1, b2, rfl, h0, h1, h2, h3, h4⟩ := hB
  have hm0 : (0 : Int) < (m : Nat) := by have := hm.1; omega
  have ret : ∀ (x : Int) (c' : C), Box c' (n + 1) → P (.fz (.int (x % (m : Nat)))) c' := fun x c' hb => by
    have k0 := Int.emod_nonneg x (by omega : ((m : Nat) : Int) ≠ 0)
    have k1 := Int.emod_lt_of_pos x hm0
    have e : x % (m : Nat) = (((x % (m : Nat)).toNat : Nat) : Int) := by omega
    rw [e]
    exact hp _ _ (by omega) hb
  unfold m__law_take
  walk_at "ev"
  refine ⟨_, rfl, ?_⟩
  walk_at "ev"
  refine ⟨fun z => ?_, fun z => ?_⟩
  · have z := of_decide_eq_true z
    walk_at "ev"
    refine ⟨_, rfl, hm0, ?_⟩
    walk_at "ev"
    refine ⟨_, rfl, ?_⟩
    walk_at "ev"
    refine ⟨wide_div (b := 1000) hm0 (by rw [Int.natAbs_natCast]; exact hm.2) (by decide) (by decide), ?_⟩
    walk_at "ev"
    refine ⟨0, rfl, ?_⟩
    walk_at "ev"
    refine ⟨_, rfl, ?_⟩
    refine ret _ _ ⟨_, _, _, rfl, Int.ediv_nonneg h0 (by omega), h1, h2, h3, by omega⟩
  · walk_at "ev"
    refine ⟨_, rfl, ?_⟩
    walk_at "ev"
    refine ⟨2, rfl, ?_⟩
    walk_at "ev"
    refine ⟨_, rfl, ?_⟩
    walk_at "ev"
    refine ⟨_, rfl, ?_⟩
    walk_at "ev"
    refine fMul_small (by decide) ?_
    walk_at "ev"
    refine ⟨_, rfl, ?_⟩
    have e62 : (2 : Int) ^ 62 = 4611686018427387904 := by decide
    have e64 : (2 : Int) ^ 64 = 18446744073709551616 := by decide
    rw [e62] at h2
    walk_at "ev"
    refine fMul_small (by rw [e64]; omega) ?_
    walk_at "ev"
    refine ⟨by decide, ?_⟩
    walk_at "ev"
    generalize ho : (b1 + 48271 * (b2 + 1)) * (39373 + (b2 + 1)) % 2147483647 = once
    have o1 : 0 ≤ once := by rw [← ho]; exact Int.emod_nonneg _ (by decide)
    have o2 : once < 2147483647 := by rw [← ho]; exact Int.emod_lt_of_pos _ (by decide)
    refine ⟨_, rfl, ?_⟩
    walk_at "ev"
    refine ⟨by decide, ?_⟩
    walk_at "ev"
    refine fMul_small (by rw [e64]; omega) ?_
    walk_at "ev"
    refine ⟨by decide, ?_⟩
    walk_at "ev"
    generalize ht : (once + (b2 + 1)) * (once % 40009 + 7) % 2147483629 = twice
    have t1 : 0 ≤ twice := by rw [← ht]; exact Int.emod_nonneg _ (by decide)
    have t2 : twice < 2147483629 := by rw [← ht]; exact Int.emod_lt_of_pos _ (by decide)
    refine fMul_small (by rw [e64]; omega) ?_
    walk_at "ev"
    refine ⟨by decide, ?_⟩
    walk_at "ev"
    refine ⟨⟨by decide, by decide⟩, ?_⟩
    walk_at "ev"
    refine ⟨hm0, ?_⟩
    walk_at "ev"
    refine ⟨_, rfl, ?_⟩
    exact ret _ _ ⟨_, _, _, rfl, h0, h1, by rw [e62]; exact h2, by omega, by omega⟩

def m__law_bursts : MS := mSeq (mSet 1 (mXe (mFz (mLst (mNil))))) (mSeq (mFor (iR1 (mCons (mBin fAdd (mC (.int 1)) (mCallM c__law_take 0 (mCons (mC (.int 2)) (mNil)))) (mNil))) (gN 2) (mSet 1 (mXe (mBin fAdd (mBin fAdd (mVar 1) (mBin fMul (mFz (mLst (mCons (mC (.bl true)) (mNil)))) (mBin fAdd (mC (.int 1)) (mCallM c__law_take 0 (mCons (mC (.int 3)) (mNil)))))) (mBin fMul (mFz (mLst (mCons (mC (.bl false)) (mNil)))) (mBin fAdd (mC (.int 1)) (mCallM c__law_take 0 (mCons (mC (.int 3)) (mNil))))))))) (mRet (mVar 1)))
theorem bd__law_bursts (T : Tx K mg a) : Bd P w K mg base 1 ["box", "found", "turn"] s__law_bursts m__law_bursts := ⟨fun qual f cdv A outer s H E hr tk pw =>
  gss_cons (gs_set (gx_e (ge_fz (go_lst (ga_nil)))) sc__law_bursts.nd) (gss_cons (gs_for pw rfl (gi_range1 T.m_range (ga_cons (ge_bin op_addA od_add (ge_int) (ge_callM (G__law_take T) (hr.mono (by decide)) T.g__law_take T.F__law_take.kp T.b__law_take tk (ga_cons (ge_int) (ga_nil)))) (ga_nil))) (gg_name sc__law_bursts.nd) (gss_one (gs_set (gx_e (ge_bin op_addA od_add (ge_bin op_addA od_add (ge_var) (ge_bin op_mulA od_mul (ge_fz (go_lst (ga_cons (ge_bl) (ga_nil)))) (ge_bin op_addA od_add (ge_int) (ge_callM (G__law_take T) (hr.mono (by decide)) T.g__law_take T.F__law_take.kp T.b__law_take tk (ga_cons (ge_int) (ga_nil)))))) (ge_bin op_mulA od_mul (ge_fz (go_lst (ga_cons (ge_bl) (ga_nil)))) (ge_bin op_addA od_add (ge_int) (ge_callM (G__law_take T) (hr.mono (by decide)) T.g__law_take T.F__law_take.kp T.b__law_take tk (ga_cons (ge_int) (ga_nil))))))) sc__law_bursts.nd))) (gss_one (gs_ret (ge_var))))⟩
def c__law_bursts : CtM := fun c0 ds P _ => ∃ n : Nat, ds = [] ∧ Box c0 n ∧ n ≤ 1000 ∧ ∀ (w : List Bool) (c' : C), 2 ≤ w.length → w.length ≤ 12 → 1 ≤ w.count true → Box c' (n + 10) → P (.fz (wD w)) c'
theorem G__law_bursts (T : Tx K mg a) : FnOk P w K mg base (L2.CX P w) 2 a.f__law_bursts a.d__law_bursts ["box"] (spM K c__law_bursts) :=
  fn_M T.F__law_bursts sc__law_bursts (by rintro c0 ds P PX ⟨n, rfl, _⟩; rfl) (bd__law_bursts T) fun p c0 ds P PX h => by
  obtain ⟨n, rfl, hB, hn, hp⟩ := h
  unfold m__law_bursts
  walk_at "ev"
  refine ⟨by decide, ?_⟩
  walk_at "ev"
  refine ⟨n, 2, rfl, hB, by omega, few (by decide) (by decide), fun r0 c1 hr0 hB1 => ?_⟩
  have e1 : (1 : Int) + (r0 : Nat) = ((1 + r0 : Nat) : Int) := rfl
  walk_at "ev"
  rw [e1]
  refine ⟨⟨by omega, by omega⟩, ?_⟩
  refine ⟨fun k ρ => ∃ (w : List Bool) (c' : C), ρ = [.ow (some p) c', .fz (wD w), .un] ∧ w.length ≤ 6 * k ∧ (0 < k → 2 ≤ w.length ∧ 1 ≤ w.count true) ∧ Box c' (n + 1 + 2 * k), ⟨[.ow (some p) c1, .fz (wD []), .un], by walk_at "wk", [], c1, rfl, by simp, fun h => absurd h (Nat.lt_irrefl _), hB1⟩, fun k hk ρ hI => ?_, fun ρ hI => ?_⟩
  · have hlt : k < 1 + r0 := by rw [G.range_map, List.length_map, List.length_range, Int.toNat_natCast] at hk; exact hk
    obtain ⟨w, c2, rfl, hl, hw, hB2⟩ := hI
    walk_at "ev"
    refine ⟨by decide, ?_⟩
    walk_at "ev"
    refine ⟨_, 3, rfl, hB2, by omega, few (by decide) (by decide), fun r1 c3 hr1 hB3 => ?_⟩
    have e2 : (1 : Int) + (r1 : Nat) = ((1 + r1 : Nat) : Int) := rfl
    walk_at "ev"
    rw [e2]
    refine fMul_repB (by omega) ?_
    refine fAdd_w (by rw [List.length_replicate]; omega) ?_
    walk_at "ev"
    refine ⟨by decide, ?_⟩
    walk_at "ev"
    refine ⟨_, 3, rfl, hB3, by omega, few (by decide) (by decide), fun r2 c4 hr2 hB4 => ?_⟩
    have e3 : (1 : Int) + (r2 : Nat) = ((1 + r2 : Nat) : Int) := rfl
    walk_at "ev"
    rw [e3]
    refine fMul_repB (by omega) ?_
    refine fAdd_w (by rw [List.length_append, List.length_replicate, List.length_replicate]; omega) ?_
    walk_at "ev"
    refine ⟨_, by walk_at "wk", w ++ List.replicate (1 + r1) true ++ List.replicate (1 + r2) false, c4, rfl, ?_, fun _ => ⟨?_, ?_⟩, hB4.mono (by omega)⟩
    · simp; omega
    · simp; omega
    · simp [List.count_append, List.count_replicate]; omega
  · rw [G.range_map, List.length_map, List.length_range, Int.toNat_natCast] at hI
    obtain ⟨w, c2, rfl, hl, hw, hB2⟩ := hI
    have := hw (by omega)
    walk_at "ev"
    exact ⟨_, rfl, hp w c2 this.1 (by omega) this.2 (hB2.mono (by omega))⟩

def m__law_ring : MS := mSeq (mPar2 2 3 (mXo (mLst (mNil))) (mXo (mRep (mFz (mLst (mCons (mC .non) (mNil)))) (mBf fLen (mCons (mVar 1) (mNil)))))) (mSeq (mFor (iR1 (mCons (mBf fLen (mCons (mVar 1) (mNil))) (mNil))) (gN 4) (mEx (mMt fIns 2 (mCons (mCallM c__law_take 0 (mCons (mBin fAdd (mVar 4) (mC (.int 1))) (mNil))) (mCons (mVar 4) (mNil)))))) (mSeq (mFor (iEn (mCons (mVar 1) (mNil))) (gT (gCs (gN 5) (gCs (gN 6) (gNl)))) (mSeq (mSet 7 (mXe (mBin fIx (mBin fAdd (mVar 2) (mSl (mVar 2) (mNoP) (mSoP (mC (.int 1))))) (mBin fAdd (mVar 5) (mC (.int 1)))))) (mSub 3 (mIf (mTst (mVar 6)) (mTup (mCons (mVar 7) (mCons (mVar 7) (mNil)))) (mBin fIx (mFz (mLst (mCons (mTup (mCons (mVar 7) (mCons (mC .non) (mNil)))) (mCons (mTup (mCons (mC .non) (mCons (mVar 7) (mNil)))) (mNil))))) (mCallM c__law_take 0 (mCons (mC (.int 2)) (mNil))))) (mIxV 2 (mVar 5))))) (mRet (mTup (mCons (mBf fTup (mCons (mVar 3) (mNil))) (mCons (mVar 2) (mNil)))))))
theorem bd__law_ring (T : Tx K mg a) : Bd P w K mg base 1 ["box", "wide", "order", "rooms", "k", "at", "both", "on"] s__law_ring m__law_ring := ⟨fun qual f cdv A outer s H E hr tk pw =>
  gss_cons (gs_par2 rfl sc__law_ring.nd (gx_o (go_lst (ga_nil))) (gx_o (go_rep (ge_fz (go_lst (ga_cons (ge_non) (ga_nil)))) (ge_bf call_len cd_len T.m_len (ga_cons (ge_var) (ga_nil)))))) (gss_cons (gs_for pw rfl (gi_range1 T.m_range (ga_cons (ge_bf call_len cd_len T.m_len (ga_cons (ge_var) (ga_nil))) (ga_nil))) (gg_name sc__law_ring.nd) (gss_one (gs_expr (ge_mut PySem.F.slot_list_insert PySem.F.type_list_insert mt_insert md_ins (ga_cons (ge_callM (G__law_take T) (hr.mono (by decide)) T.g__law_take T.F__law_take.kp T.b__law_take tk (ga_cons (ge_bin op_addA od_add (ge_var) (ge_int)) (ga_nil))) (ga_cons (ge_var) (ga_nil))))))) (gss_cons (gs_for pw rfl (gi_enum T.m_enumerate (ga_cons (ge_var) (ga_nil))) (gg_tup2 rfl (gg_name sc__law_ring.nd) (gg_name sc__law_ring.nd)) (gss_cons (gs_set (gx_e (ge_ix (ge_bin op_addA od_add (ge_var) (ge_sl (ge_var) (gp_none) (gp_some (ge_int)))) (ge_bin op_addA od_add (ge_var) (ge_int)))) sc__law_ring.nd) (gss_one (gs_sub (ge_if (gt_val (ge_var)) (ge_tup (ga_cons (ge_var) (ga_cons (ge_var) (ga_nil)))) (ge_ix (ge_fz (go_lst (ga_cons (ge_tup (ga_cons (ge_var) (ga_cons (ge_non) (ga_nil)))) (ga_cons (ge_tup (ga_cons (ge_non) (ga_cons (ge_var) (ga_nil)))) (ga_nil))))) (ge_callM (G__law_take T) (hr.mono (by decide)) T.g__law_take T.F__law_take.kp T.b__law_take tk (ga_cons (ge_int) (ga_nil))))) (ge_ixv (ge_var)))))) (gss_one (gs_ret (ge_tup (ga_cons (ge_bt call_tuple_of cd_tup T.m_tuple (ga_cons (ge_var) (ga_nil))) (ga_cons (ge_var) (ga_nil))))))))⟩
def c__law_ring : CtM := fun c0 ds P _ => ∃ (n : Nat) (w : List Bool), ds = [wD w] ∧ Box c0 n ∧ n ≤ 100000 ∧ 0 < w.length ∧ w.length ≤ 100 ∧ ∀ (o : List Nat) (M : Mc) (c' : C), RingM w o M → Box c' (n + 200) → P (.fz (.tup [mD M, nL o])) c'
/-- rooms made so far -/
def MadeR (w : List Bool) (o : List Nat) (k : Nat) (rs : List D) : Prop := rs.length = w.length ∧ ∀ (b r : Nat), b < k → o[b]? = some r → ∃ d, rs[r]? = some (rD d) ∧ Door (wAt w b) (onOf o b) d
theorem MadeR.set {w : List Bool} {o : List Nat} {k r : Nat} {rs : List D} {d : Option Nat × Option Nat} (hp : PermN o w.length) (h : MadeR w o k rs) (hr : o[k]? = some r) (hd : Door (wAt w k) (onOf o k) d) : MadeR w o (k + 1) (rs.set r (rD d)) := by
  have hrn := hp.lt (List.mem_of_getElem? hr)
  refine ⟨by rw [List.length_set]; exact h.1, fun b r' hb hb' => ?_⟩
  by_cases e : b = k
  · subst e
    rw [hr] at hb'
    cases hb'
    exact ⟨d, List.getElem?_set_self (by rw [h.1]; exact hrn), hd⟩
  · have : r ≠ r' := fun z => e (hp.inj hb' (by rw [hr, z]))
    rw [List.getElem?_set_ne this]
    exact h.2 b r' (by omega) hb'
theorem MadeR.done {w : List Bool} {o : List Nat} {rs : List D} (hp : PermN o w.length) (hn : 0 < w.length) (h : MadeR w o w.length rs) : ∃ M : Mc, rs = M.map rD ∧ RingM w o M := by
  have ho := hp.len
  have : ∀ rs : List D, (∀ d ∈ rs, ∃ x, d = rD x) → ∃ l : Mc, rs = l.map rD := by
    intro rs
    induction rs with
    | nil => exact fun _ => ⟨[], rfl⟩
    | cons d rs ih =>
      intro h
      obtain ⟨l, hl⟩ := ih fun x hx => h x (List.mem_cons_of_mem _ hx)
      obtain ⟨x, hx⟩ := h d List.mem_cons_self
      exact ⟨x :: l, by rw [hl, hx]; rfl⟩
  obtain ⟨M, hM⟩ := this rs fun d hd => by
    obtain ⟨r, hr⟩ := List.mem_iff_getElem?.mp hd
    have hrn : r < w.length := by rw [← h.1]; exact get_lt hr
    obtain ⟨b, hb⟩ := List.mem_iff_getElem?.mp (hp.mem hrn)
    obtain ⟨x, hx, _⟩ := h.2 b r (by rw [← ho]; exact get_lt hb) hb
    rw [hr] at hx
    exact ⟨x, Option.some.inj hx⟩
  have oinj : ∀ a b : Option Nat, oD a = oD b → a = b := fun a b e => by
    cases a <;> cases b <;> first | rfl | (cases e) | skip
    all_goals first | rfl | (unfold oD at e; injection e with e; congr 1; omega)
  have rinj : ∀ x y : Option Nat × Option Nat, rD x = rD y → x = y := fun x y e => by
    obtain ⟨x1, x2⟩ := x
    obtain ⟨y1, y2⟩ := y
    have e : D.tup [oD x1, oD x2] = D.tup [oD y1, oD y2] := e
    injection e with e
    injection e with e1 e
    injection e with e2 e
    rw [oinj _ _ e1, oinj _ _ e2]
  refine ⟨M, hM, by rw [← h.1, hM, List.length_map], hp, hn, fun b r hb => ?_⟩
  obtain ⟨d, h1, h2⟩ := h.2 b r (by rw [← ho]; exact get_lt hb) hb
  rw [hM, List.getElem?_map] at h1
  cases hx : M[r]? with
  | none => rw [hx] at h1; cases h1
  | some y =>
    rw [hx] at h1
    have : y = d := rinj _ _ (Option.some.inj h1)
    exact ⟨d, by rw [this], h2⟩
theorem G__law_ring (T : Tx K mg a) : FnOk P w K mg base (L2.CX P w) 2 a.f__law_ring a.d__law_ring ["box", "wide"] (spM K c__law_ring) :=
  fn_M T.F__law_ring sc__law_ring (by rintro c0 ds P PX ⟨n, _, rfl, _⟩; rfl) (bd__law_ring T) fun p c0 ds P PX h => by
  obtain ⟨n, w, rfl, hB, hn, h0, hl, hp⟩ := h
  unfold m__law_ring
  walk_at "ev"
  refine ⟨by decide, ?_⟩
  walk_at "ev"
  refine ⟨by decide, ?_⟩
  walk_at "ev"
  refine fLen_lst ?_
  rw [List.length_map]
  walk_at "ev"
  refine ⟨by omega, by omega, ?_, ?_⟩
  · rw [Int.toNat_natCast, Nat.one_mul]; exact sl_le (by omega)
  rw [Int.toNat_natCast, rep_non]
  walk_at "ev"
  refine for_inv (fun _ q => by walk_at "ev"; refine fLen_lst ?_; rw [List.length_map]; walk_at "ev"; exact ⟨⟨by omega, by omega⟩, q⟩) (range_map w.length 0 1) (fun k ρ => ∃ (o : List Nat) (c' : C), ρ = [.ow (some p) c', .fz (wD w), .ow none (.lst (o.map nD)), .ow none (.lst (List.replicate w.length .non)), .un, .un, .un, .un] ∧ PermN o k ∧ Box c' (n + k)) ⟨_, by walk_at "wk", [], c0, rfl, List.Perm.refl _, hB⟩ (fun k x ρ hk hI => ?_) (fun ρ hI => ?_)
  · obtain ⟨rfl, hlt⟩ := range_get hk
    obtain ⟨o, c1, rfl, hpn, hB1⟩ := hI
    have ho := hpn.len
    have ex : (0 : Int) + (x : Nat) * 1 = (x : Nat) := by omega
    rw [ex]
    walk_at "ev"
    refine ⟨n + x, x + 1, rfl, hB1, by omega, few (by omega) (by omega), fun r c2 hr hB2 => ?_⟩
    walk_at "ev"
    refine ⟨sl_lt (by rw [List.length_map]; omega), by omega, by rw [List.length_map]; omega, ?_⟩
    have e : (o.map nD).take ((r : Nat) : Int).toNat ++ D.int (x : Nat) :: (o.map nD).drop ((r : Nat) : Int).toNat = (o.take r ++ x :: o.drop r).map nD := by
      rw [Int.toNat_natCast, List.map_append, List.map_cons, List.map_take, List.map_drop]
    rw [e]
    walk_at "ev"
    exact ⟨_, by walk_at "wk", _, c2, rfl, hpn.ins r, hB2⟩
  · obtain ⟨o, c1, rfl, hpn, hB1⟩ := hI
    rw [List.length_range] at hpn hB1
    have ho := hpn.len
    walk_at "ev"
    refine for_inv (fun _ q => by walk_at "ev"; exact q) (enum_map w) (fun k ρ => ∃ (s : S) (rs : List D) (c' : C), ρ = [.ow (some p) c', .fz (wD w), s, .ow none (.lst rs), .un, .un, .un, .un] ∧ (s = .ow none (.lst (o.map nD)) ∨ s = .fz (nL o)) ∧ MadeR w o k rs ∧ Box c' (n + w.length + k)) ⟨_, by walk_at "wk", _, _, c1, rfl, .inl rfl, ⟨by simp, fun b r h => absurd h (Nat.not_lt_zero _)⟩, hB1⟩ (fun k x ρ hk hI => ?_) (fun ρ hI => ?_)
    · obtain ⟨both, hbo, rfl⟩ := enum_get hk
      obtain ⟨s, rs, c2, rfl, hs, hM, hB2⟩ := hI
      have hkl := get_lt hbo
      have hwk : wAt w k = both := by
        unfold wAt
        rw [Nat.mod_eq_of_lt hkl, List.getD_eq_getElem?_getD, hbo]; rfl
      obtain ⟨room, hro⟩ : ∃ room, o[k]? = some room := ⟨_, List.getElem?_eq_getElem (by omega)⟩
      have hroom := hpn.lt (List.mem_of_getElem? hro)
      have hon : (o ++ o.take 1)[k + 1]? = some (onOf o k) := by
        have hg := onOf_get (a := k) hpn h0
        rcases Nat.lt_or_ge (k + 1) w.length with z | z
        · rw [Nat.mod_eq_of_lt z] at hg
          rw [List.getElem?_append_left (by omega)]
          exact hg
        · have e : k + 1 = w.length := by omega
          rw [e, Nat.mod_self] at hg
          rw [List.getElem?_append_right (by omega), e, ho, Nat.sub_self, List.getElem?_take_of_lt (by decide)]
          exact hg
      have body : ∀ (PD : PEnds), (∀ ρ', lp (fun ρ => ∃ (s : S) (rs : List D) (c' : C), ρ = [.ow (some p) c', .fz (wD w), s, .ow none (.lst rs), .un, .un, .un, .un] ∧ (s = .ow none (.lst (o.map nD)) ∨ s = .fz (nL o)) ∧ MadeR w o (k + 1) rs ∧ Box c' (n + w.length + (k + 1))) ρ' → PD.nx ρ') →
          mSub 3 (mIf (mTst (mVar 6)) (mTup (mCons (mVar 7) (mCons (mVar 7) (mNil)))) (mBin fIx (mFz (mLst (mCons (mTup (mCons (mVar 7) (mCons (mC .non) (mNil)))) (mCons (mTup (mCons (mC .non) (mCons (mVar 7) (mNil)))) (mNil))))) (mCallM c__law_take 0 (mCons (mC (.int 2)) (mNil))))) (mIxV 2 (mVar 5)) PD
            [.ow (some p) c2, .fz (wD w), .fz (nL o), .ow none (.lst rs), .un, .fz (.int (k : Nat)), .fz (.bl both), .fz (.int (onOf o k : Nat))] := fun PD hnx => by
        walk_at "ev"
        have fin : ∀ (d : Option Nat × Option Nat) (c3 : C), Door (wAt w k) (onOf o k) d → Box c3 (n + w.length + (k + 1)) → PD.nx [.ow (some p) c3, .fz (wD w), .fz (nL o), .ow none (.lst (rs.set room (rD d))), .un, .fz (.int (k : Nat)), .fz (.bl both), .fz (.int (onOf o k : Nat))] := fun d c3 hd hB3 =>
          hnx _ ⟨_, by walk_at "wk", _, _, c3, rfl, .inr rfl, hM.set hpn hro hd, hB3⟩
        have hroD : o.getD k 0 = room := getD_of hro
        refine ⟨fun z => ?_, fun z => ?_⟩
        · subst z
          walk_at "ev"
          refine ⟨by decide, ?_⟩
          walk_at "ev"
          refine fIx_n (by omega) ?_
          walk_at "ev"
          rw [hroD]
          refine ⟨room, ixN_nat (by rw [hM.1]; exact hroom), ?_⟩
          exact fin (some (onOf o k), some (onOf o k)) c2 (by rw [hwk]; rfl) (hB2.mono (by omega))
        · subst z
          walk_at "ev"
          refine ⟨by decide, ?_⟩
          walk_at "ev"
          refine ⟨by decide, ?_⟩
          walk_at "ev"
          refine ⟨by decide, ?_⟩
          walk_at "ev"
          refine ⟨_, 2, rfl, hB2, by omega, few (by decide) (by decide), fun r c3 hr hB3 => ?_⟩
          walk_at "ev"
          rcases (by omega : r = 0 ∨ r = 1) with rfl | rfl
          · refine ⟨_, rfl, ?_⟩
            walk_at "ev"
            refine fIx_n (by omega) ?_
            walk_at "ev"
            rw [hroD]
            refine ⟨room, ixN_nat (by rw [hM.1]; exact hroom), ?_⟩
            exact fin (some (onOf o k), none) c3 (by rw [hwk]; exact .inl rfl) hB3
          · refine ⟨_, rfl, ?_⟩
            walk_at "ev"
            refine fIx_n (by omega) ?_
            walk_at "ev"
            rw [hroD]
            refine ⟨room, ixN_nat (by rw [hM.1]; exact hroom), ?_⟩
            exact fin (none, some (onOf o k)) c3 (by rw [hwk]; exact .inr rfl) hB3
      have ex : ((k : Nat) : Int) + 1 = ((k + 1 : Nat) : Int) := rfl
      rcases hs with rfl | rfl
      all_goals
        walk_at "ev"
        refine fSl_nL ?_
        rw [cutD_one]
        refine fAdd_nL (by rw [List.length_take]; omega) ?_
        walk_at "ev"
        rw [ex]
        refine fIx_lst (by rw [List.getElem?_map, hon]; rfl) ?_
        exact nxt_go (body _ fun _ y => y)
    · obtain ⟨s, rs, c2, rfl, hs, hM, hB2⟩ := hI
      rw [zipIdx_len] at hM hB2
      obtain ⟨M, rfl, hR⟩ := hM.done hpn h0
      rcases hs with rfl | rfl
      all_goals
        walk_at "ev"
        exact ⟨by decide, _, rfl, hp o M c2 hR (hB2.mono (by omega))⟩

def m__law_many : MS := mSeq (mSet 3 (mXe (mBin fMul (mLm fCnt (mVar 0) (mC (.bl true))) (mBin fDiv (mVar 2) (mBf fLen (mCons (mVar 0) (mNil))))))) (mSeq (mFor (iR1 (mCons (mBin fMod (mVar 2) (mBf fLen (mCons (mVar 0) (mNil)))) (mNil))) (gN 4) (mSet 3 (mXe (mBin fAdd (mVar 3) (mBf fInt (mCons (mBin fIx (mVar 0) (mBin fMod (mBin fAdd (mVar 1) (mVar 4)) (mBf fLen (mCons (mVar 0) (mNil))))) (mNil))))))) (mRet (mVar 3)))
theorem bd__law_many (T : Tx K mg a) : Bd P w K mg base 0 ["wide", "at", "many", "found", "step"] s__law_many m__law_many := ⟨fun qual f cdv A outer s H E hr tk pw =>
  gss_cons (gs_set (gx_e (ge_bin op_mulA od_mul (ge_lm PySem.F.slot_list_count (by kernel_rfl) mt_lcountB ld_cnt (ge_var) (ge_bl)) (ge_bin op_fdivW od_div (ge_var) (ge_bf call_len cd_len T.m_len (ga_cons (ge_var) (ga_nil)))))) sc__law_many.nd) (gss_cons (gs_for pw rfl (gi_range1 T.m_range (ga_cons (ge_bin op_mod od_mod (ge_var) (ge_bf call_len cd_len T.m_len (ga_cons (ge_var) (ga_nil)))) (ga_nil))) (gg_name sc__law_many.nd) (gss_one (gs_set (gx_e (ge_bin op_addA od_add (ge_var) (ge_bt call_intA cd_int T.m_int (ga_cons (ge_ix (ge_var) (ge_bin op_mod od_mod (ge_bin op_addA od_add (ge_var) (ge_var)) (ge_bf call_len cd_len T.m_len (ga_cons (ge_var) (ga_nil))))) (ga_nil))))) sc__law_many.nd))) (gss_one (gs_ret (ge_var))))⟩
def c__law_many : CtP := fun ds P _ => ∃ (w : List Bool) (a k : Nat), ds = [wD w, .int (a : Nat), .int (k : Nat)] ∧ 0 < w.length ∧ w.length ≤ 1000 ∧ P (.fz (.int (manyW w a k : Nat)))
theorem G__law_many (T : Tx K mg a) : FnOk P w K mg base (L2.CX P w) 1 a.f__law_many a.d__law_many ["wide", "at", "many"] (spP K c__law_many) :=
  fn_P T.F__law_many sc__law_many (by rintro ds P PX ⟨n, _, _, rfl, _⟩; rfl) (bd__law_many T) fun ds P PX h => by
  obtain ⟨w, a, k, rfl, h0, hl, hp⟩ := h
  have hcl := List.count_le_length (a := true) (l := w)
  unfold m__law_many
  walk_at "ev"
  refine fCnt_w ?_
  walk_at "ev"
  refine fLen_lst ?_
  rw [List.length_map]
  walk_at "ev"
  refine fDiv_n h0 (Nat.lt_of_le_of_lt hl (Nat.lt_of_lt_of_le (by decide : 1000 < 2 ^ 10) (Nat.pow_le_pow_right (by decide) (by decide)))) ?_
  walk_at "ev"
  refine fMul_n (Nat.lt_of_le_of_lt (Nat.le_trans hcl hl) (by decide)) ?_
  walk_at "ev"
  have hm := Nat.mod_lt k h0
  refine for_run (ds := rngD 0 1 (k % w.length)) (ρ1 := [.fz (wD w), .fz (.int (a : Nat)), .fz (.int (k : Nat)), .fz (.int ((w.count true * (k / w.length) : Nat) : Int)), .un]) (fun _ q => by walk_at "ev"; refine fLen_lst ?_; rw [List.length_map]; walk_at "ev"; refine fMod_n h0 ?_; walk_at "ev"; exact ⟨⟨by omega, by omega⟩, q⟩) (range_map (k % w.length) 0 1) (fun j => [.fz (wD w), .fz (.int (a : Nat)), .fz (.int (k : Nat)), .fz (.int ((w.count true * (k / w.length) + manyW w a j : Nat) : Int)), .un]) (by walk_at "wk") (fun j i hj => ?_) ?_
  · obtain ⟨rfl, hlt⟩ := range_get hj
    have ex : ((a : Nat) : Int) + (0 + (i : Nat) * 1) = ((a + i : Nat) : Int) := by omega
    walk_at "ev"
    refine fLen_lst ?_
    rw [List.length_map]
    walk_at "ev"
    rw [ex]
    refine fMod_n h0 ?_
    walk_at "ev"
    refine fIx_w h0 ?_
    walk_at "ev"
    refine fInt_bl ?_
    walk_at "ev"
    refine lp_of ?_
    have e : ((w.count true * (k / w.length) + manyW w a i : Nat) : Int) + (if wAt w (a + i) = true then 1 else 0) = ((w.count true * (k / w.length) + manyW w a (i + 1) : Nat) : Int) := by
      show _ = ((w.count true * (k / w.length) + (manyW w a i + w1 (wAt w (a + i))) : Nat) : Int)
      unfold w1
      split <;> omega
    rw [e]
    walk_at "wk"
  · rw [List.length_range, ← manyW_split]
    walk_at "ev"
    exact hp

def m__law_by_rooms : MS := mSeq (mSet 2 (mXo (mRep (mFz (mLst (mCons (mC .non) (mNil)))) (mBf fLen (mCons (mVar 0) (mNil)))))) (mSeq (mFor (iEn (mCons (mVar 0) (mNil))) (gT (gCs (gN 3) (gCs (gN 4) (gNl)))) (mSub 2 (mBin fIx (mVar 1) (mVar 3)) (mVar 4))) (mRet (mVar 2)))
theorem bd__law_by_rooms (T : Tx K mg a) : Bd P w K mg base 0 ["order", "some", "found", "at", "room"] s__law_by_rooms m__law_by_rooms := ⟨fun qual f cdv A outer s H E hr tk pw =>
  gss_cons (gs_set (gx_o (go_rep (ge_fz (go_lst (ga_cons (ge_non) (ga_nil)))) (ge_bf call_len cd_len T.m_len (ga_cons (ge_var) (ga_nil))))) sc__law_by_rooms.nd) (gss_cons (gs_for pw rfl (gi_enum T.m_enumerate (ga_cons (ge_var) (ga_nil))) (gg_tup2 rfl (gg_name sc__law_by_rooms.nd) (gg_name sc__law_by_rooms.nd)) (gss_one (gs_sub (ge_ix (ge_var) (ge_var)) (ge_var)))) (gss_one (gs_ret (ge_var))))⟩
def c__law_by_rooms : CtP := fun ds P _ => ∃ (o ws : List Nat) (n : Nat), ds = [nL o, nL ws] ∧ PermN o n ∧ ws.length = n ∧ n ≤ 1000 ∧ ∀ l, ByL o ws l → P (.fz (nL l))
theorem G__law_by_rooms (T : Tx K mg a) : FnOk P w K mg base (L2.CX P w) 1 a.f__law_by_rooms a.d__law_by_rooms ["order", "some"] (spP K c__law_by_rooms) :=
  fn_P T.F__law_by_rooms sc__law_by_rooms (by rintro ds P PX ⟨n, _, _, rfl, _⟩; rfl) (bd__law_by_rooms T) fun ds P PX h => by
  obtain ⟨o, ws, n, rfl, hpn, hw, hn, hp⟩ := h
  have ho := hpn.len
  unfold m__law_by_rooms
  walk_at "ev"
  refine ⟨by decide, ?_⟩
  walk_at "ev"
  refine fLen_lst ?_
  rw [List.length_map]
  walk_at "ev"
  refine ⟨by omega, by omega, ?_, ?_⟩
  · rw [Int.toNat_natCast, Nat.one_mul]; exact sl_le (by omega)
  rw [Int.toNat_natCast, rep_non, ho]
  walk_at "ev"
  refine for_inv (fun _ q => by walk_at "ev"; exact q) (enum_map o) (fun k ρ => ∃ rs : List D, ρ = [.fz (nL o), .fz (nL ws), .ow none (.lst rs), .un, .un] ∧ MadeN n o ws k rs) ⟨_, by walk_at "wk", _, rfl, MadeN.start n o ws⟩ (fun k x ρ hk hI => ?_) (fun ρ hI => ?_)
  · obtain ⟨r, hr, rfl⟩ := enum_get hk
    obtain ⟨rs, rfl, hM⟩ := hI
    have hkl := get_lt hr
    walk_at "ev"
    refine fIx_n (by omega) ?_
    walk_at "ev"
    refine ⟨r, ixN_nat (by rw [hM.1]; exact hpn.lt (List.mem_of_getElem? hr)), ?_⟩
    walk_at "ev"
    exact ⟨_, by walk_at "wk", _, rfl, hM.set hpn hr⟩
  · obtain ⟨rs, rfl, hM⟩ := hI
    rw [zipIdx_len, ho] at hM
    obtain ⟨l, rfl, hl⟩ := hM.done hpn hw
    walk_at "ev"
    exact hp l hl

def m__law_counts : MS := mRet (mCall c__law_by_rooms (mCons (mVar 1) (mCons (mFz (mLc (iR1 (mCons (mBf fLen (mCons (mVar 0) (mNil))) (mNil))) (gN 3) (mYes) (mBin fShl (mC (.int 1)) (mCall c__law_many (mCons (mVar 0) (mCons (mVar 3) (mCons (mVar 2) (mNil)))))) [3])) (mNil))))
theorem bd__law_counts (T : Tx K mg a) : Bd P w K mg base 1 ["wide", "order", "many", "at"] s__law_counts m__law_counts := ⟨fun qual f cdv A outer s H E hr tk pw =>
  gss_one (gs_ret (ge_call (G__law_by_rooms T) (hr.mono (by decide)) T.g__law_by_rooms T.F__law_by_rooms.kp T.b__law_by_rooms tk (ga_cons (ge_var) (ga_cons (ge_fz (go_lc (own := [("at", 3)]) rfl sc__law_counts.nd (gi_range1 T.m_range (ga_cons (ge_bf call_len cd_len T.m_len (ga_cons (ge_var) (ga_nil))) (ga_nil))) (blkOk_by (N := ["wide", "order", "many", "at"]) (sc := (defScope s__law_counts)) (by decide +kernel)) (fun _ _ _ _ _ => gg_name sc__law_counts.nd) (fun _ _ _ _ _ => gts_nil) (fun _ _ _ _ _ => ge_bin op_shlW od_shl (ge_int) (ge_call (G__law_many T) (hr.mono (by decide)) T.g__law_many T.F__law_many.kp T.b__law_many takesF (ga_cons (ge_var) (ga_cons (ge_var) (ga_cons (ge_var) (ga_nil)))))))) (ga_nil)))))⟩
def c__law_counts : CtP := fun ds P _ => ∃ (w : List Bool) (o : List Nat) (k : Nat), ds = [wD w, nL o, .int (k : Nat)] ∧ PermN o w.length ∧ 0 < w.length ∧ w.length ≤ 1000 ∧ k ≤ 10000 ∧ ∀ l, ByL o (countsW w k) l → P (.fz (nL l))
theorem G__law_counts (T : Tx K mg a) : FnOk P w K mg base (L2.CX P w) 2 a.f__law_counts a.d__law_counts ["wide", "order", "many"] (spP K c__law_counts) :=
  fn_P T.F__law_counts sc__law_counts (by rintro ds P PX ⟨n, _, _, rfl, _⟩; rfl) (bd__law_counts T) fun ds P PX h => by
  obtain ⟨w, o, k, rfl, hpn, h0, hl, hk, hp⟩ := h
  unfold m__law_counts
  walk_at "ev"
  refine lc_run (ds := rngD 0 1 w.length) (ρ1 := [.fz (wD w), .fz (nL o), .fz (.int (k : Nat)), .un]) (fun _ q => by walk_at "ev"; refine fLen_lst ?_; rw [List.length_map]; walk_at "ev"; exact ⟨⟨by omega, by omega⟩, q⟩) (range_map w.length 0 1) (fun j => ((List.range w.length).take j).map fun a => nD (2 ^ manyW w a k)) (fun _ => [.fz (wD w), .fz (nL o), .fz (.int (k : Nat)), .un]) ⟨rfl, rfl⟩ (fun j i hj => ?_) ?_
  · obtain ⟨rfl, hlt⟩ := range_get hj
    have ex : (0 : Int) + (i : Nat) * 1 = (i : Nat) := by omega
    walk_at "ev"
    rw [ex]
    refine ⟨fun _ => ?_, fun z => Bool.noConfusion z⟩
    walk_at "ev"
    refine ⟨w, i, k, rfl, h0, hl, ?_⟩
    walk_at "ev"
    have := manyW_le w i k
    refine shl_one (by omega) ?_
    have := acc_map (F := fun a => nD (2 ^ manyW w a k)) hj rfl (by rw [List.length_range]; omega)
    exact ⟨this.1, this.2, rfl⟩
  · rw [List.take_length]
    walk_at "ev"
    have e : ((List.range w.length).map fun a => nD (2 ^ manyW w a k)) = (countsW w k).map nD := by rw [countsW, List.map_map]; rfl
    rw [e]
    exact ⟨o, countsW w k, w.length, rfl, hpn, by simp [countsW], hl, hp⟩

def m__law_short : MS := mRet (mBin fLt (mBf fMax (mCons (mFz (mLc (iR1 (mCons (mBf fLen (mCons (mVar 0) (mNil))) (mNil))) (gN 4) (mYes) (mCall c__law_many (mCons (mVar 0) (mCons (mVar 4) (mCons (mVar 2) (mNil))))) [4])) (mNil))) (mBin fMul (mVar 1) (mVar 3)))
theorem bd__law_short (T : Tx K mg a) : Bd P w K mg base 1 ["wide", "p", "many", "m", "at"] s__law_short m__law_short := ⟨fun qual f cdv A outer s H E hr tk pw =>
  gss_one (gs_ret (ge_cmp op_ltA od_lt (ge_bf (cr_maxA rfl) cd_max T.m_max (ga_cons (ge_fz (go_lc (own := [("at", 4)]) rfl sc__law_short.nd (gi_range1 T.m_range (ga_cons (ge_bf call_len cd_len T.m_len (ga_cons (ge_var) (ga_nil))) (ga_nil))) (blkOk_by (N := ["wide", "p", "many", "m", "at"]) (sc := (defScope s__law_short)) (by decide +kernel)) (fun _ _ _ _ _ => gg_name sc__law_short.nd) (fun _ _ _ _ _ => gts_nil) (fun _ _ _ _ _ => ge_call (G__law_many T) (hr.mono (by decide)) T.g__law_many T.F__law_many.kp T.b__law_many takesF (ga_cons (ge_var) (ga_cons (ge_var) (ga_cons (ge_var) (ga_nil))))))) (ga_nil))) (ge_bin op_mulA od_mul (ge_var) (ge_var))))⟩
def c__law_short : CtP := fun ds P _ => ∃ (w : List Bool) (p k m : Nat), ds = [wD w, .int (p : Nat), .int (k : Nat), .int (m : Nat)] ∧ 0 < w.length ∧ w.length ≤ 1000 ∧ p ≤ 1000 ∧ P (.fz (.bl (shortB w k (p * m))))
theorem G__law_short (T : Tx K mg a) : FnOk P w K mg base (L2.CX P w) 2 a.f__law_short a.d__law_short ["wide", "p", "many", "m"] (spP K c__law_short) :=
  fn_P T.F__law_short sc__law_short (by rintro ds P PX ⟨n, _, _, _, rfl, _⟩; rfl) (bd__law_short T) fun ds P PX h => by
  obtain ⟨w, p, k, m, rfl, h0, hl, hpl, hp⟩ := h
  unfold m__law_short
  walk_at "ev"
  refine lc_run (ds := rngD 0 1 w.length) (ρ1 := [.fz (wD w), .fz (.int (p : Nat)), .fz (.int (k : Nat)), .fz (.int (m : Nat)), .un]) (fun _ q => by walk_at "ev"; refine fLen_lst ?_; rw [List.length_map]; walk_at "ev"; exact ⟨⟨by omega, by omega⟩, q⟩) (range_map w.length 0 1) (fun j => ((List.range w.length).take j).map fun a => nD (manyW w a k)) (fun _ => [.fz (wD w), .fz (.int (p : Nat)), .fz (.int (k : Nat)), .fz (.int (m : Nat)), .un]) ⟨rfl, rfl⟩ (fun j i hj => ?_) ?_
  · obtain ⟨rfl, hlt⟩ := range_get hj
    have ex : (0 : Int) + (i : Nat) * 1 = (i : Nat) := by omega
    walk_at "ev"
    rw [ex]
    refine ⟨fun _ => ?_, fun z => Bool.noConfusion z⟩
    walk_at "ev"
    refine ⟨w, i, k, rfl, h0, hl, ?_⟩
    have := acc_map (F := fun a => nD (manyW w a k)) hj rfl (by rw [List.length_range]; omega)
    exact ⟨this.1, this.2, rfl⟩
  · rw [List.take_length]
    walk_at "ev"
    have e : ((List.range w.length).map fun a => nD (manyW w a k)) = ((List.range w.length).map fun a => manyW w a k).map nD := by rw [List.map_map]; rfl
    rw [e]
    refine fMax_n (by simp; omega) fun x hx hy => ?_
    walk_at "ev"
    refine fMul_n (by omega) ?_
    walk_at "ev"
    rw [dlt]
    have e2 : decide (x < p * m) = shortB w k (p * m) := by
      rw [Bool.eq_iff_iff, decide_eq_true_iff, shortB_iff]
      constructor
      · intro h b hb
        exact Nat.lt_of_le_of_lt (hy _ (List.mem_map.mpr ⟨b, List.mem_range.mpr hb, rfl⟩)) h
      · intro h
        obtain ⟨b, hb, rfl⟩ := List.mem_map.mp hx
        exact h b (List.mem_range.mp hb)
    rw [e2]
    exact hp

def m__law_of_order : MS := mRet (mBin fIx (mVar 1) (mCallM c__law_take 0 (mCons (mBf fLen (mCons (mVar 1) (mNil))) (mNil))))
theorem bd__law_of_order (T : Tx K mg a) : Bd P w K mg base 1 ["box", "order"] s__law_of_order m__law_of_order := ⟨fun qual f cdv A outer s H E hr tk pw =>
  gss_one (gs_ret (ge_ix (ge_var) (ge_callM (G__law_take T) (hr.mono (by decide)) T.g__law_take T.F__law_take.kp T.b__law_take tk (ga_cons (ge_bf call_len cd_len T.m_len (ga_cons (ge_var) (ga_nil))) (ga_nil)))))⟩
def c__law_of_order : CtM := fun c0 ds P _ => ∃ (n : Nat) (o : List Nat), ds = [nL o] ∧ Box c0 n ∧ n ≤ 100000 ∧ 0 < o.length ∧ o.length ≤ 1000 ∧ ∀ (a g : Nat) (c' : C), o[a]? = some g → Box c' (n + 1) → P (.fz (.int (g : Nat))) c'
theorem G__law_of_order (T : Tx K mg a) : FnOk P w K mg base (L2.CX P w) 2 a.f__law_of_order a.d__law_of_order ["box", "order"] (spM K c__law_of_order) :=
  fn_M T.F__law_of_order sc__law_of_order (by rintro c0 ds P PX ⟨n, _, rfl, _⟩; rfl) (bd__law_of_order T) fun p c0 ds P PX h => by
  obtain ⟨n, o, rfl, hB, hn, h0, hl, hp⟩ := h
  unfold m__law_of_order
  walk_at "ev"
  refine fLen_lst ?_
  rw [List.length_map]
  walk_at "ev"
  refine ⟨n, o.length, rfl, hB, by omega, few h0 (by omega), fun r c1 hr hB1 => ?_⟩
  walk_at "ev"
  refine fIx_n hr ?_
  exact ⟨_, rfl, hp r _ c1 (getD_get hr) hB1⟩

def m__law_weights : MS := mSeq (mPar2 4 5 (mXe (mFz (mLst (mNil)))) (mXo (mRep (mFz (mLst (mCons (mVar 3) (mNil)))) (mBf fLen (mCons (mVar 0) (mNil)))))) (mSeq (mWhile (mTst (mBin fNe (mVar 4) (mVar 5))) (mSeq (mPar2 4 5 (mXe (mVar 5)) (mXo (mLst (mNil)))) (mFor (iEn (mCons (mVar 4) (mNil))) (gT (gCs (gN 6) (gCs (gN 7) (gNl)))) (mSeq (mSet 8 (mXe (mBin fShl (mBin fIx (mVar 4) (mBin fMod (mBin fAdd (mVar 6) (mVar 2)) (mBf fLen (mCons (mVar 0) (mNil))))) (mCall c__law_many (mCons (mVar 0) (mCons (mVar 6) (mCons (mVar 2) (mNil)))))))) (mEx (mMt fApp 5 (mCons (mBf fMin (mCons (mVar 7) (mCons (mBin fShr (mVar 8) (mVar 1)) (mNil)))) (mNil)))))))) (mRet (mIf (mTst (mBin fGt (mBf fSum (mCons (mVar 4) (mNil))) (mC (.int 0)))) (mVar 4) (mC .non))))
theorem bd__law_weights (T : Tx K mg a) : Bd P w K mg base 1 ["wide", "p", "q", "most", "weights", "lesser", "at", "weight", "behind"] s__law_weights m__law_weights := ⟨fun qual f cdv A outer s H E hr tk pw =>
  gss_cons (gs_par2 rfl sc__law_weights.nd (gx_e (ge_fz (go_lst (ga_nil)))) (gx_o (go_rep (ge_fz (go_lst (ga_cons (ge_var) (ga_nil)))) (ge_bf call_len cd_len T.m_len (ga_cons (ge_var) (ga_nil)))))) (gss_cons (gs_while pw (gt_cmp (op_neA hr.units) od_ne (ge_var) (ge_var)) (gss_cons (gs_par2 rfl sc__law_weights.nd (gx_e (ge_var)) (gx_o (go_lst (ga_nil)))) (gss_one (gs_for pw rfl (gi_enum T.m_enumerate (ga_cons (ge_var) (ga_nil))) (gg_tup2 rfl (gg_name sc__law_weights.nd) (gg_name sc__law_weights.nd)) (gss_cons (gs_set (gx_e (ge_bin op_shlW od_shl (ge_ix (ge_var) (ge_bin op_mod od_mod (ge_bin op_addA od_add (ge_var) (ge_var)) (ge_bf call_len cd_len T.m_len (ga_cons (ge_var) (ga_nil))))) (ge_call (G__law_many T) (hr.mono (by decide)) T.g__law_many T.F__law_many.kp T.b__law_many tk (ga_cons (ge_var) (ga_cons (ge_var) (ga_cons (ge_var) (ga_nil))))))) sc__law_weights.nd) (gss_one (gs_expr (ge_mut PySem.F.slot_list_append PySem.F.type_list_append (MtM.r mt_append) md_app (ga_cons (ge_bf (cr_minA rfl) cd_min T.m_min (ga_cons (ge_var) (ga_cons (ge_bin op_shr od_shr (ge_var) (ge_var)) (ga_nil)))) (ga_nil)))))))))) (gss_one (gs_ret (ge_if (gt_cmp op_gt od_gt (ge_bf (cr_sum rfl) cd_sum T.m_sum (ga_cons (ge_var) (ga_nil))) (ge_int)) (ge_var) (ge_non)))))⟩
def c__law_weights : CtP := fun ds P _ => ∃ (w : List Bool) (p q most : Nat), ds = [wD w, .int (p : Nat), .int (q : Nat), .int (most : Nat)] ∧ 0 < w.length ∧ w.length ≤ 100 ∧ q ≤ 20 ∧ p ≤ 100 ∧ most ≤ 1000 ∧
  ∀ R, R = limF (downP w p q) (w.length * most) (List.replicate w.length most) → (R.sum = 0 → P (.fz .non)) ∧ (0 < R.sum → P (.fz (nL R)))
theorem getD_le_sum : ∀ (l : List Nat) (i : Nat), l.getD i 0 ≤ l.sum
  | [], i => by simp
  | x :: l, 0 => by rw [List.sum_cons]; show x ≤ _; omega
  | x :: l, i + 1 => by
    rw [List.sum_cons]
    have := getD_le_sum l i
    show l.getD i 0 ≤ _
    omega
theorem downP_get {w : List Bool} {p q a : Nat} {ls : List Nat} (hn : 0 < w.length) (hl : ls.length = w.length) {x : Nat} (hx : ls[a]? = some x) :
    (downP w p q ls)[a]? = some (min x (ls.getD ((a + q) % w.length) 0 * 2 ^ manyW w a q / 2 ^ p)) := by
  have ha := get_lt hx
  unfold downP
  have h2 : (itL (stepL w) q ls)[a]? = some (2 ^ manyW w a q * ls.getD ((a + q) % w.length) 0) := by
    rw [get_of_getD (by rw [itL_len hl]; omega), itL_step w hn ls hl q a (by omega)]
  rw [downG_get, hx, h2, Nat.mul_comm]
theorem G__law_weights (T : Tx K mg a) : FnOk P w K mg base (L2.CX P w) 2 a.f__law_weights a.d__law_weights ["wide", "p", "q", "most"] (spP K c__law_weights) :=
  fn_P T.F__law_weights sc__law_weights (by rintro ds P PX ⟨M, n, _, _, rfl, _⟩; rfl) (bd__law_weights T) fun ds P PX h => by
  obtain ⟨w, p, q, most, rfl, hw0, hw, hq, hpl, hm, hp⟩ := h
  have hdn := dn_P (w := w) p q
  have hp := hp _ rfl
  generalize hR : limF (downP w p q) (w.length * most) (List.replicate w.length most) = R at hp
  have hmm : w.length * most ≤ 100000 := Nat.mul_le_mul hw hm
  unfold m__law_weights
  walk_at "ev"
  refine ⟨by decide, ?_⟩
  walk_at "ev"
  refine ⟨by decide, ?_⟩
  refine fLen_lst ?_
  rw [List.length_map]
  refine ⟨by omega, by omega, ?_, ?_⟩
  · rw [Int.toNat_natCast, List.length_singleton, Nat.one_mul]; exact sl_le (by omega)
  rw [Int.toNat_natCast, rep_n]
  walk_at "ev"
  refine ⟨fun j ρ => ∃ ws ls : List Nat, ρ = [.fz (wD w), .fz (.int (p : Nat)), .fz (.int (q : Nat)), .fz (.int (most : Nat)), .fz (nL ws), .ow none (.lst (ls.map nD)), .un, .un, .un] ∧ ls.length = w.length ∧ ls.sum ≤ w.length * most ∧ limF (downP w p q) (w.length * most) ls = R ∧ ((ws = [] ∧ j = w.length * most + 1) ∨ (ls = downP w p q ws ∧ ws.length = w.length ∧ ws.sum = j ∧ j ≤ w.length * most)),
    ⟨w.length * most + 1, _, by walk_at "wk", [], List.replicate w.length most, rfl, by simp, by simp, hR, .inl ⟨rfl, rfl⟩⟩, fun j ρ hI => ?_⟩
  obtain ⟨ws, ls, rfl, hl, hs, hlim, hj⟩ := hI
  obtain ⟨d1, d2, d3⟩ := hdn ls hl
  walk_at "ev"
  refine fNe_nL ?_
  walk_at "ev"
  refine ⟨fun z => ?_, fun z => ?_⟩
  · have z : ws ≠ ls := by simpa using z
    walk_at "ev"
    refine ⟨by decide, ?_⟩
    walk_at "ev"
    refine for_inv (ρ1 := [.fz (wD w), .fz (.int (p : Nat)), .fz (.int (q : Nat)), .fz (.int (most : Nat)), .fz (nL ls), .ow none (.lst []), .un, .un, .un]) (fun _ q => by walk_at "ev"; exact q) (enum_map ls) (fun k ρ => ρ = [.fz (wD w), .fz (.int (p : Nat)), .fz (.int (q : Nat)), .fz (.int (most : Nat)), .fz (nL ls), .ow none (.lst (((downP w p q ls).take k).map nD)), .un, .un, .un]) ⟨_, by walk_at "wk", rfl⟩ (fun k x ρ hk hI => ?_) (fun ρ hI => ?_)
    · obtain ⟨x, hx, rfl⟩ := enum_get hk
      obtain rfl := hI
      have hkl := get_lt hx
      have hget := downP_get (p := p) (q := q) hw0 hl hx
      walk_at "ev"
      refine fLen_lst ?_
      rw [List.length_map]
      have e1 : ((k : Nat) : Int) + (q : Nat) = ((k + q : Nat) : Int) := rfl
      rw [e1]
      refine fMod_n hw0 ?_
      refine fIx_n (by rw [hl]; exact Nat.mod_lt _ hw0) ?_
      refine ⟨w, k, q, rfl, hw0, by omega, ?_⟩
      have hb := getD_le_sum ls ((k + q) % w.length)
      have hmy := manyW_le w k q
      walk_at "ev"
      refine fShl_n (Nat.lt_of_le_of_lt (by omega : _ ≤ 100000) (by decide)) (by omega) ?_
      walk_at "ev"
      refine fShr_n ?_
      refine fMin_n ?_
      refine ⟨sl_lt (by rw [List.length_map, List.length_take]; omega), ?_⟩
      walk_at "ev"
      rw [take_snoc hget, List.map_append]
      exact lp_of (by walk_at "wk")
    · obtain rfl := hI
      rw [show (downP w p q ls).take ls.zipIdx.length = downP w p q ls by rw [zipIdx_len, hl, ← d1, List.take_length]]
      refine ⟨ls.sum, ?_, _, by walk_at "wk", ls, downP w p q ls, rfl, by omega, by omega, ?_, .inr ⟨rfl, hl, rfl, hs⟩⟩
      · rcases hj with ⟨_, e⟩ | ⟨e1, e2, e3, e4⟩
        · omega
        · obtain ⟨f1, f2, f3⟩ := hdn ws e2
          rw [← e1] at f2 f3
          have : ls.sum ≠ ws.sum := fun y => z (f3 y).symm
          omega
      · rw [← hlim]
        by_cases y : downP w p q ls = ls
        · rw [y]
        · exact limF_next hdn hl hs y
  · have z : ws = ls := by simpa using z
    have hfix : downP w p q ls = ls := by
      rcases hj with ⟨e, _⟩ | ⟨e, _⟩
      · subst z; rw [e] at hl; simp at hl; omega
      · rw [z] at e; exact e.symm
    have hRl : R = ls := by
      rw [← hlim]
      cases hk : w.length * most with
      | zero => rfl
      | succ k => show (if downP w p q ls = ls then ls else _) = ls; rw [if_pos hfix]
    subst z
    rw [hRl] at hp
    walk_at "ev"
    refine fSum_n ?_
    walk_at "ev"
    refine ⟨fun y => ?_, fun y => ?_⟩
    · have y := of_decide_eq_true y
      walk_at "ev"
      exact hp.2 (by omega)
    · have y := of_decide_eq_false y
      walk_at "ev"
      exact hp.1 (by omega)

def m__law_room_right : MS := mSeq (mSeq (mSet 7 (mXo (mLc (iR2 (mCons (mC (.int 1)) (mCons (mC (.int 15)) (mNil)))) (gN 6) (mTst (mCall c__law_short (mCons (mVar 1) (mCons (mVar 4) (mCons (mBin fMul (mVar 5) (mVar 6)) (mCons (mVar 6) (mNil))))))) (mVar 6) [6]))) (mFzS 7)) (mSeq (mSet 8 (mXe (mIf (mTst (mBin fNe (mVar 7) (mFz (mLst (mNil))))) (mBin fIx (mVar 7) (mC (.int 0))) (mC (.int 14))))) (mSeq (mFor (iT (mTup (mCons (mC (.int 14)) (mCons (mVar 8) (mCons (mBf fMax (mCons (mC (.int 1)) (mCons (mBin fSub (mVar 8) (mC (.int 1))) (mNil)))) (mCons (mC (.int 1)) (mNil))))))) (gN 9) (mSeq (mSeq (mSet 10 (mXo (mLc (iL (mVar 7)) (gN 6) (mTst (mBin fLe (mVar 6) (mVar 9))) (mVar 6) [6]))) (mFzS 10)) (mSeq (mSet 11 (mXe (mIf (mTst (mBin fNe (mVar 10) (mFz (mLst (mNil))))) (mTup (mCons (mBin fIx (mVar 10) (mC (.int 0))) (mCons (mCall c__law_counts (mCons (mVar 1) (mCons (mVar 3) (mCons (mBin fMul (mVar 5) (mBin fIx (mVar 10) (mC (.int 0)))) (mNil))))) (mNil)))) (mC .non)))) (mSeq (mSet 12 (mXe (mCall c_too_little (mCons (mVar 2) (mCons (mVar 4) (mCons (mVar 5) (mCons (mVar 9) (mNil)))))))) (mIfS (mOrT (mAndT (mTst (mBin fIs (mVar 11) (mC .non))) (mTst (mBin fIsNot (mVar 12) (mC .non)))) (mAndT (mTst (mBin fIsNot (mVar 11) (mC .non))) (mOrT (mTst (mBin fIs (mVar 12) (mC .non))) (mTst (mBin fNe (mBf fTup (mCons (mVar 12) (mNil))) (mVar 11)))))) (mRet (mC (.bl false))) (mNx)))))) (mSeq (mFor (iT (mTup (mCons (mVar 8) (mCons (mBin fAdd (mC (.int 1)) (mCallM c__law_take 0 (mCons (mC (.int 14)) (mNil)))) (mCons (mBin fMul (mC (.int 2)) (mVar 8)) (mNil)))))) (gN 6) (mSeq (mSet 12 (mXe (mCall c_shows_too_little (mCons (mVar 2) (mCons (mVar 4) (mCons (mVar 5) (mCons (mVar 6) (mCons (mCall c__law_counts (mCons (mVar 1) (mCons (mVar 3) (mCons (mBin fMul (mVar 5) (mVar 6)) (mNil))))) (mNil))))))))) (mIfS (mOrT (mNotT (mTst (mIsi "bool" (mVar 12)))) (mTst (mBin fNe (mVar 12) (mCall c__law_short (mCons (mVar 1) (mCons (mVar 4) (mCons (mBin fMul (mVar 5) (mVar 6)) (mCons (mVar 6) (mNil))))))))) (mRet (mC (.bl false))) (mNx)))) (mRet (mC (.bl true))))))
theorem bd__law_room_right (T : Tx K mg a) : Bd P w K mg base 5 ["box", "wide", "machine", "order", "p", "q", "m", "dues", "first", "most", "some", "due", "found"] s__law_room_right m__law_room_right := ⟨fun qual f cdv A outer s H E hr tk pw =>
  gss_cons (gs_fz (gs_setLcO (own := [("m", 6)]) rfl sc__law_room_right.nd (gi_range2 T.m_range (ga_cons (ge_int) (ga_cons (ge_int) (ga_nil)))) (blkOk_by (N := ["box", "wide", "machine", "order", "p", "q", "m", "dues", "first", "most", "some", "due", "found"]) (sc := (defScope s__law_room_right)) (by decide +kernel)) (fun _ _ _ _ _ => gg_name sc__law_room_right.nd) (fun _ _ _ _ _ => gts_one (gt_val (ge_call (G__law_short T) (hr.mono (by decide)) T.g__law_short T.F__law_short.kp T.b__law_short takesF (ga_cons (ge_var) (ga_cons (ge_var) (ga_cons (ge_bin op_mulA od_mul (ge_var) (ge_var)) (ga_cons (ge_var) (ga_nil)))))))) (fun _ _ _ _ _ => ge_var) (sw_true rfl rfl rfl (by decide +kernel)))) (gss_cons (gs_set (gx_e (ge_if (gt_cmp (op_neA hr.units) od_ne (ge_var) (ge_fz (go_lst (ga_nil)))) (ge_ix (ge_var) (ge_int)) (ge_int))) sc__law_room_right.nd) (gss_cons (gs_for pw rfl (gi_tup (ge_tup (ga_cons (ge_int) (ga_cons (ge_var) (ga_cons (ge_bf (cr_maxA rfl) cd_max T.m_max (ga_cons (ge_int) (ga_cons (ge_bin op_sub od_sub (ge_var) (ge_int)) (ga_nil)))) (ga_cons (ge_int) (ga_nil))))))) (gg_name sc__law_room_right.nd) (gss_cons (gs_fz (gs_setLcO (own := [("m", 6)]) rfl sc__law_room_right.nd (gi_list (ge_var)) (blkOk_by (N := ["box", "wide", "machine", "order", "p", "q", "m", "dues", "first", "most", "some", "due", "found"]) (sc := (defScope s__law_room_right)) (by decide +kernel)) (fun _ _ _ _ _ => gg_name sc__law_room_right.nd) (fun _ _ _ _ _ => gts_one (gt_cmp op_le od_le (ge_var) (ge_var))) (fun _ _ _ _ _ => ge_var) (sw_true rfl rfl rfl (by decide +kernel)))) (gss_cons (gs_set (gx_e (ge_if (gt_cmp (op_neA hr.units) od_ne (ge_var) (ge_fz (go_lst (ga_nil)))) (ge_tup (ga_cons (ge_ix (ge_var) (ge_int)) (ga_cons (ge_call (G__law_counts T) (hr.mono (by decide)) T.g__law_counts T.F__law_counts.kp T.b__law_counts tk (ga_cons (ge_var) (ga_cons (ge_var) (ga_cons (ge_bin op_mulA od_mul (ge_var) (ge_ix (ge_var) (ge_int))) (ga_nil))))) (ga_nil)))) (ge_non))) sc__law_room_right.nd) (gss_cons (gs_set (gx_e (ge_call (G_too_little T) (hr.mono (by decide)) T.g_too_little T.F_too_little.kp T.b_too_little tk (ga_cons (ge_var) (ga_cons (ge_var) (ga_cons (ge_var) (ga_cons (ge_var) (ga_nil))))))) sc__law_room_right.nd) (gss_one (gs_if (gt_w (gw_or (gt_w (gw_and (gt_cmp op_isA od_is (ge_var) (ge_non)) (gw_and1 (gt_cmp op_isNotA od_isnot (ge_var) (ge_non))))) (gw_or1 (gt_w (gw_and (gt_cmp op_isNotA od_isnot (ge_var) (ge_non)) (gw_and1 (gt_w (gw_or (gt_cmp op_isA od_is (ge_var) (ge_non)) (gw_or1 (gt_cmp (op_neA hr.units) od_ne (ge_bt call_tuple_of cd_tup T.m_tuple (ga_cons (ge_var) (ga_nil))) (ge_var))))))))))) (gss_one (gs_ret (ge_bl))) (gss_nil))))))) (gss_cons (gs_for pw rfl (gi_tup (ge_tup (ga_cons (ge_var) (ga_cons (ge_bin op_addA od_add (ge_int) (ge_callM (G__law_take T) (hr.mono (by decide)) T.g__law_take T.F__law_take.kp T.b__law_take tk (ga_cons (ge_int) (ga_nil)))) (ga_cons (ge_bin op_mulA od_mul (ge_int) (ge_var)) (ga_nil)))))) (gg_name sc__law_room_right.nd) (gss_cons (gs_set (gx_e (ge_call (G_shows_too_little T) (hr.mono (by decide)) T.g_shows_too_little T.F_shows_too_little.kp T.b_shows_too_little tk (ga_cons (ge_var) (ga_cons (ge_var) (ga_cons (ge_var) (ga_cons (ge_var) (ga_cons (ge_call (G__law_counts T) (hr.mono (by decide)) T.g__law_counts T.F__law_counts.kp T.b__law_counts tk (ga_cons (ge_var) (ga_cons (ge_var) (ga_cons (ge_bin op_mulA od_mul (ge_var) (ge_var)) (ga_nil))))) (ga_nil)))))))) sc__law_room_right.nd) (gss_one (gs_if (gt_w (gw_or (gt_not (gt_val (ge_isi T.m_isinstance T.m_bool (ge_var)))) (gw_or1 (gt_cmp (op_neA hr.units) od_ne (ge_var) (ge_call (G__law_short T) (hr.mono (by decide)) T.g__law_short T.F__law_short.kp T.b__law_short tk (ga_cons (ge_var) (ga_cons (ge_var) (ga_cons (ge_bin op_mulA od_mul (ge_var) (ge_var)) (ga_cons (ge_var) (ga_nil)))))))))) (gss_one (gs_ret (ge_bl))) (gss_nil))))) (gss_one (gs_ret (ge_bl))))))⟩
def c__law_room_right : CtM := fun c0 ds P _ => ∃ (N : Nat) (w : List Bool) (M : Mc) (o : List Nat) (p q : Nat), ds = [wD w, mD M, nL o, .int (p : Nat), .int (q : Nat)] ∧ Box c0 N ∧ N ≤ 10000 ∧ RingM w o M ∧ w.length ≤ 12 ∧ 1 ≤ p ∧ p ≤ 3 ∧ 1 ≤ q ∧ q ≤ 8 ∧ ∀ c' : C, Box c' (N + 1) → P (.fz (.bl true)) c'
theorem set_first {ms : MS} {PD : PEnds} {s0 s1 s2 s3 s4 s5 s6 s8 s9 s10 s11 s12 : S} {dues : List Nat} (h : ∀ f : Nat, (dues.head? = some f ∨ (dues = [] ∧ f = 14)) → Nxt ms PD [s0, s1, s2, s3, s4, s5, s6, .fz (nL dues), .fz (.int (f : Nat)), s9, s10, s11, s12]) :
    mSeq (mSet 8 (mXe (mIf (mTst (mBin fNe (mVar 7) (mFz (mLst (mNil))))) (mBin fIx (mVar 7) (mC (.int 0))) (mC (.int 14))))) ms PD [s0, s1, s2, s3, s4, s5, s6, .fz (nL dues), s8, s9, s10, s11, s12] := by
  walk_at "ev"
  refine ⟨by decide, ?_⟩
  refine fNe_nL (a := dues) (b := []) ?_
  walk_at "ev"
  refine ⟨fun z => ?_, fun z => ?_⟩
  · cases dues with
    | nil => cases z
    | cons f r =>
      walk_at "ev"
      refine fIx_n (i := 0) (l := f :: r) (by simp) ?_
      exact h f (.inl rfl)
  · have z : dues = [] := by simpa using z
    exact h 14 (.inr ⟨z, rfl⟩)
theorem fTup_tup {ds : List D} {P : D → Prop} (h : P (.tup ds)) : fTup [.tup ds] P := h
theorem G__law_room_right (T : Tx K mg a) : FnOk P w K mg base (L2.CX P w) 6 a.f__law_room_right a.d__law_room_right ["box", "wide", "machine", "order", "p", "q"] (spM K c__law_room_right) :=
  fn_M T.F__law_room_right sc__law_room_right (by rintro c0 ds P PX ⟨n, m, _, _, _, _, rfl, _⟩; rfl) (bd__law_room_right T) fun pp c0 ds P PX h => by
  obtain ⟨N, w, M, o, p, q, rfl, hB, hN, hR, hw, hp1, hp3, hq1, hq8, hp⟩ := h
  have hw0 := hR.hn
  have hMl := hR.hl
  unfold m__law_room_right
  generalize hBe : (fun m : Nat => shortB w (q * m) (p * m)) = B
  have hBm : ∀ m, shortB w (q * m) (p * m) = B m := fun m => by rw [← hBe]
  have hT : ∀ m, TooL (countsA M (q * m)) (p * m) ↔ B m = true := fun m => by rw [← hBm]; exact hR.short (q * m) (p * m)
  walk_at "ev"
  refine lc_inv (ds := rngD 1 1 14) (ρ1 := [.ow (some pp) c0, .fz (wD w), .fz (mD M), .fz (nL o), .fz (.int (p : Nat)), .fz (.int (q : Nat)), .un, .un, .un, .un, .un, .un, .un]) (fun _ y => by walk_at "ev"; exact ⟨⟨by decide, by decide⟩, ⟨by decide, by decide⟩, y⟩) (range_map 14 1 1) (fun k acc ρ => acc = (fsts B k).map nD ∧ ρ = [.ow (some pp) c0, .fz (wD w), .fz (mD M), .fz (nL o), .fz (.int (p : Nat)), .fz (.int (q : Nat)), .un, .un, .un, .un, .un, .un, .un]) ⟨rfl, rfl⟩ (fun k x acc ρ hx hI => ?_) (fun acc ρ hI => ?_)
  · obtain ⟨rfl, hlt⟩ := range_get hx
    obtain ⟨rfl, rfl⟩ := hI
    have ex : (1 : Int) + (x : Nat) * 1 = ((x + 1 : Nat) : Int) := by omega
    have hfl := fsts_len B x
    rw [ex]
    walk_at "ev"
    refine fMul_n (by omega) ?_
    refine ⟨w, p, q * (x + 1), x + 1, rfl, hw0, by omega, by omega, ?_⟩
    rw [hBm]
    walk_at "ev"
    refine ⟨fun z => ?_, fun z => ?_⟩
    · walk_at "ev"
      refine ⟨sl_lt (by rw [List.length_map]; omega), ?_, rfl⟩
      rw [fsts_succ, if_pos z, List.map_append]; rfl
    · refine ⟨?_, rfl⟩
      rw [fsts_succ, if_neg (by rw [z]; simp), List.append_nil]
  obtain ⟨rfl, rfl⟩ := hI
  rw [List.length_range]
  have hdl := fsts_len B 14
  generalize hdu : fsts B 14 = dues at hdl
  refine nxt_go ?_
  show Nxt _ _ _
  refine nxt_go (set_first (dues := dues) fun first hf => ?_)
  obtain ⟨hf1, hf14⟩ : 1 ≤ first ∧ first ≤ 14 := by
    rcases hf with hf | ⟨_, rfl⟩
    · cases dues with
      | nil => cases hf
      | cons d r =>
        have := fsts_cons hdu
        have e : d = first := by injection hf
        omega
    · exact ⟨by decide, by decide⟩
  obtain ⟨mx, hmx, hmx1, hmx2⟩ : ∃ mx : Nat, (if ((first : Nat) : Int) - 1 > 1 then ((first : Nat) : Int) - 1 else 1) = (mx : Nat) ∧ 1 ≤ mx ∧ mx ≤ 14 := by
    by_cases z : ((first : Nat) : Int) - 1 > 1
    · exact ⟨first - 1, by rw [if_pos z]; omega, by omega, by omega⟩
    · exact ⟨1, by rw [if_neg z]; rfl, by decide, by decide⟩
  walk_at "ev"
  refine for_run (ds := [14, first, mx, 1].map nD) (ρ1 := [.ow (some pp) c0, .fz (wD w), .fz (mD M), .fz (nL o), .fz (.int (p : Nat)), .fz (.int (q : Nat)), .un, .fz (nL dues), .fz (.int (first : Nat)), .un, .un, .un, .un]) (fun _ y => by walk_at "ev"; refine fMax_two ?_; rw [hmx]; exact ⟨by decide, y⟩) rfl (fun k => [.ow (some pp) c0, .fz (wD w), .fz (mD M), .fz (nL o), .fz (.int (p : Nat)), .fz (.int (q : Nat)), .un, .fz (nL dues), .fz (.int (first : Nat)), .un, .un, .un, .un]) (by walk_at "wk") (fun k most hk => ?_) ?_
  · have hm : 1 ≤ most ∧ most ≤ 14 := by
      have := List.mem_of_getElem? hk
      simp at this
      omega
    walk_at "ev"
    refine lc_run (ds := dues.map nD) (ρ1 := [.ow (some pp) c0, .fz (wD w), .fz (mD M), .fz (nL o), .fz (.int (p : Nat)), .fz (.int (q : Nat)), .un, .fz (nL dues), .fz (.int (first : Nat)), .fz (.int (most : Nat)), .un, .un, .un]) (fun _ y => by walk_at "ev"; exact y) rfl (fun k => ((dues.take k).filter fun x => decide (x ≤ most)).map nD) (fun k => [.ow (some pp) c0, .fz (wD w), .fz (mD M), .fz (nL o), .fz (.int (p : Nat)), .fz (.int (q : Nat)), .un, .fz (nL dues), .fz (.int (first : Nat)), .fz (.int (most : Nat)), .un, .un, .un]) ⟨rfl, rfl⟩ (fun k x hx => ?_) ?_
    · walk_at "ev"
      have hsn := take_snoc hx
      have hle := List.length_filter_le (fun x => decide (x ≤ most)) (dues.take k)
      rw [List.length_take] at hle
      rw [dle]
      refine ⟨fun z => ?_, fun z => ?_⟩
      · walk_at "ev"
        refine ⟨sl_lt (by rw [List.length_map]; omega), ?_, rfl⟩
        rw [hsn, List.filter_append, List.filter_cons, if_pos z, List.map_append]; rfl
      · refine ⟨?_, rfl⟩
        rw [hsn, List.filter_append, List.filter_cons, if_neg (by rw [z]; simp), List.filter_nil, List.append_nil]
    rw [List.take_length, ← hdu, fsts_get hm.2]
    have hTf : ∀ j, B j = false → ¬ TooL (countsA M (q * j)) (p * j) := fun j e z => by rw [(hT j).mp z] at e; cases e
    cases hs : fsts B most with
    | nil =>
      have hn := fsts_nil hs
      walk_at "ev"
      refine ⟨by decide, ?_⟩
      refine fNe_nL (a := []) (b := []) ?_
      walk_at "ev"
      refine ⟨fun z => Bool.noConfusion z, fun _ => ?_⟩
      walk_at "ev"
      refine ⟨M, p, q, most, rfl, hR.ok, by omega, by omega, by omega, by omega, fun m a b e _ => absurd e (hTf m (hn m a b)), fun _ => ?_⟩
      walk_at "ev"
      refine ⟨fun _ => ?_, fun z => Bool.noConfusion z⟩
      refine ⟨fun z => Bool.noConfusion z, fun _ => ?_⟩
      refine ⟨fun z => Bool.noConfusion z, fun _ => ?_⟩
      refine ⟨fun z => Bool.noConfusion z, fun _ => ?_⟩
      exact lp_of (by walk_at "wk")
    | cons d r =>
      obtain ⟨d1, d2, d3, d4⟩ := fsts_cons hs
      walk_at "ev"
      refine ⟨by decide, ?_⟩
      refine fNe_nL (a := d :: r) (b := []) ?_
      walk_at "ev"
      refine ⟨fun _ => ?_, fun z => Bool.noConfusion z⟩
      walk_at "ev"
      refine fIx_n (i := 0) (l := d :: r) (by simp) ?_
      refine fIx_n (i := 0) (l := d :: r) (by simp) ?_
      refine fMul_n (by omega) ?_
      have hqd : q * d ≤ 8 * 14 := Nat.mul_le_mul hq8 (by omega)
      refine ⟨w, o, q * d, rfl, hR.hp, hw0, by omega, by omega, fun l hl => ?_⟩
      obtain rfl := ByL.uniq hR.hp hl (hR.counts (q * d))
      walk_at "ev"
      refine ⟨by decide, ?_⟩
      walk_at "ev"
      refine ⟨M, p, q, most, rfl, hR.ok, by omega, by omega, by omega, by omega, fun m a b e e2 => ?_, fun e => absurd ((hT d).mpr d3) (e d d1 d2)⟩
      have em : m = d := by
        rcases Nat.lt_trichotomy m d with z | z | z
        · exact absurd e (hTf m (d4 m a z))
        · exact z
        · exact absurd ((hT d).mpr d3) (e2 d d1 z)
      subst em
      walk_at "ev"
      refine ⟨fun z => Bool.noConfusion z, fun _ => ?_⟩
      refine ⟨fun z => Bool.noConfusion z, fun _ => ?_⟩
      refine ⟨fun _ => ?_, fun z => Bool.noConfusion z⟩
      refine ⟨fun z => Bool.noConfusion z, fun _ => ?_⟩
      refine fTup_tup ?_
      refine fNe_tupSame (n := 3) (.tup fun d hd => ?_) (by decide) ?_
      · rcases List.mem_cons.mp hd with rfl | hd
        · exact ⟨rfl, Nat.zero_le _⟩
        · rw [List.mem_singleton.mp hd]
          exact Shp.nL _
      walk_at "ev"
      refine ⟨fun z => Bool.noConfusion z, fun _ => ?_⟩
      exact lp_of (by walk_at "wk")
  walk_at "ev"
  refine ⟨N, 14, rfl, hB, by omega, few (by decide) (by decide), fun r c1 hr hB1 => ?_⟩
  walk_at "ev"
  have e1 : (1 : Int) + (r : Nat) = ((1 + r : Nat) : Int) := rfl
  have e2 : (2 : Int) * (first : Nat) = ((2 * first : Nat) : Int) := rfl
  refine fMul_small ⟨by decide, by decide⟩ ?_
  rw [e1, e2]
  refine ⟨by decide, ?_⟩
  refine ⟨fun k ρ => ρ = [.ow (some pp) c1, .fz (wD w), .fz (mD M), .fz (nL o), .fz (.int (p : Nat)), .fz (.int (q : Nat)), .un, .fz (nL dues), .fz (.int (first : Nat)), .un, .un, .un, .un], ⟨_, by walk_at "wk", rfl⟩, fun k hk ρ hI => ?_, fun ρ hI => ?_⟩
  · obtain rfl := hI
    obtain ⟨m, em, hm1, hm28⟩ : ∃ m : Nat, [D.int (first : Nat), D.int ((1 + r : Nat) : Int), D.int ((2 * first : Nat) : Int)][k] = D.int (m : Nat) ∧ 1 ≤ m ∧ m ≤ 28 := by
      have hk3 : k < 3 := hk
      rcases (by omega : k = 0 ∨ k = 1 ∨ k = 2) with rfl | rfl | rfl
      · exact ⟨first, rfl, by omega, by omega⟩
      · exact ⟨1 + r, rfl, by omega, by omega⟩
      · exact ⟨2 * first, rfl, by omega, by omega⟩
    generalize [D.int (first : Nat), D.int ((1 + r : Nat) : Int), D.int ((2 * first : Nat) : Int)][k] = dd at em
    subst em
    have hqm : q * m ≤ 8 * 28 := Nat.mul_le_mul hq8 hm28
    walk_at "ev"
    refine fMul_n (by omega) ?_
    refine ⟨w, o, q * m, rfl, hR.hp, hw0, by omega, by omega, fun l hl => ?_⟩
    obtain rfl := ByL.uniq hR.hp hl (hR.counts (q * m))
    walk_at "ev"
    refine ⟨M, p, q, m, rfl, hR.ok, by omega, by omega, by omega, by omega, by omega, ?_⟩
    have eT : decide (TooL (countsA M (q * m)) (p * m)) = B m := by
      rw [Bool.eq_iff_iff, decide_eq_true_iff]; exact hT m
    rw [eT]
    walk_at "ev"
    refine ⟨_, _, rfl, rfl, ?_⟩
    refine ⟨fun z => Bool.noConfusion z, fun _ => ?_⟩
    walk_at "ev"
    refine fMul_n (by omega) ?_
    refine ⟨w, p, q * m, m, rfl, hw0, by omega, by omega, ?_⟩
    rw [hBm]
    walk_at "ev"
    refine ⟨fun z => ?_, fun _ => ?_⟩
    · exfalso; simp at z
    · exact lp_of (by walk_at "wk")
  · obtain rfl := hI
    walk_at "ev"
    exact ⟨c1, rfl, hp c1 hB1⟩

def m__law_enough_right : MS := mSeq (mFor (iT (mTup (mCons (mC (.int 1)) (mCons (mBin fAdd (mC (.int 1)) (mCallM c__law_take 0 (mCons (mC (.int 40)) (mNil)))) (mCons (mC (.int 1000)) (mNil)))))) (gN 6) (mSeq (mPar2 7 8 (mXe (mCall c__law_weights (mCons (mVar 1) (mCons (mVar 4) (mCons (mVar 5) (mCons (mVar 6) (mNil))))))) (mXe (mCall c_enough (mCons (mVar 2) (mCons (mVar 4) (mCons (mVar 5) (mCons (mVar 6) (mNil)))))))) (mSeq (mIfS (mOrT (mTst (mBin fNe (mBin fIs (mVar 8) (mC .non)) (mBin fIs (mVar 7) (mC .non)))) (mAndT (mTst (mBin fIsNot (mVar 7) (mC .non))) (mTst (mBin fNe (mFz (mLi (mCons (mVar 8) (mNil)))) (mCall c__law_by_rooms (mCons (mVar 3) (mCons (mVar 7) (mNil)))))))) (mRet (mC (.bl false))) (mNx)) (mSeq (mIfS (mAndT (mTst (mBin fIsNot (mVar 7) (mC .non))) (mTst (mBin fLt (mBin fMul (mLm fCnt (mVar 1) (mC (.bl true))) (mVar 5)) (mBin fMul (mVar 4) (mBf fLen (mCons (mVar 1) (mNil))))))) (mRet (mC (.bl false))) (mNx)) (mIfS (mAndT (mTst (mBin fIsNot (mVar 7) (mC .non))) (mTst (mBin fIsNot (mCall c_shows_enough (mCons (mVar 2) (mCons (mVar 4) (mCons (mVar 5) (mCons (mVar 8) (mNil)))))) (mC (.bl true))))) (mRet (mC (.bl false))) (mNx)))))) (mRet (mC (.bl true)))
theorem bd__law_enough_right (T : Tx K mg a) : Bd P w K mg base 4 ["box", "wide", "machine", "order", "p", "q", "most", "due", "found"] s__law_enough_right m__law_enough_right := ⟨fun qual f cdv A outer s H E hr tk pw =>
  gss_cons (gs_for pw rfl (gi_tup (ge_tup (ga_cons (ge_int) (ga_cons (ge_bin op_addA od_add (ge_int) (ge_callM (G__law_take T) (hr.mono (by decide)) T.g__law_take T.F__law_take.kp T.b__law_take tk (ga_cons (ge_int) (ga_nil)))) (ga_cons (ge_int) (ga_nil)))))) (gg_name sc__law_enough_right.nd) (gss_cons (gs_par2 rfl sc__law_enough_right.nd (gx_e (ge_call (G__law_weights T) (hr.mono (by decide)) T.g__law_weights T.F__law_weights.kp T.b__law_weights tk (ga_cons (ge_var) (ga_cons (ge_var) (ga_cons (ge_var) (ga_cons (ge_var) (ga_nil))))))) (gx_e (ge_call (G_enough T) (hr.mono (by decide)) T.g_enough T.F_enough.kp T.b_enough tk (ga_cons (ge_var) (ga_cons (ge_var) (ga_cons (ge_var) (ga_cons (ge_var) (ga_nil)))))))) (gss_cons (gs_if (gt_w (gw_or (gt_cmp (op_neA hr.units) od_ne (ge_cmp op_isA od_is (ge_var) (ge_non)) (ge_cmp op_isA od_is (ge_var) (ge_non))) (gw_or1 (gt_w (gw_and (gt_cmp op_isNotA od_isnot (ge_var) (ge_non)) (gw_and1 (gt_cmp (op_neA hr.units) od_ne (ge_fz (go_list T.m_list (ga_cons (ge_var) (ga_nil)))) (ge_call (G__law_by_rooms T) (hr.mono (by decide)) T.g__law_by_rooms T.F__law_by_rooms.kp T.b__law_by_rooms tk (ga_cons (ge_var) (ga_cons (ge_var) (ga_nil))))))))))) (gss_one (gs_ret (ge_bl))) (gss_nil)) (gss_cons (gs_if (gt_w (gw_and (gt_cmp op_isNotA od_isnot (ge_var) (ge_non)) (gw_and1 (gt_cmp op_ltA od_lt (ge_bin op_mulA od_mul (ge_lm PySem.F.slot_list_count (by kernel_rfl) mt_lcountB ld_cnt (ge_var) (ge_bl)) (ge_var)) (ge_bin op_mulA od_mul (ge_var) (ge_bf call_len cd_len T.m_len (ga_cons (ge_var) (ga_nil)))))))) (gss_one (gs_ret (ge_bl))) (gss_nil)) (gss_one (gs_if (gt_w (gw_and (gt_cmp op_isNotA od_isnot (ge_var) (ge_non)) (gw_and1 (gt_cmp op_isNotA od_isnot (ge_call (G_shows_enough T) (hr.mono (by decide)) T.g_shows_enough T.F_shows_enough.kp T.b_shows_enough tk (ga_cons (ge_var) (ga_cons (ge_var) (ga_cons (ge_var) (ga_cons (ge_var) (ga_nil)))))) (ge_bl))))) (gss_one (gs_ret (ge_bl))) (gss_nil))))))) (gss_one (gs_ret (ge_bl)))⟩
def c__law_enough_right : CtM := fun c0 ds P _ => ∃ (N : Nat) (w : List Bool) (M : Mc) (o : List Nat) (p q : Nat), ds = [wD w, mD M, nL o, .int (p : Nat), .int (q : Nat)] ∧ Box c0 N ∧ N ≤ 10000 ∧ RingM w o M ∧ w.length ≤ 12 ∧ 1 ≤ p ∧ p ≤ 3 ∧ 1 ≤ q ∧ q ≤ 8 ∧ ∀ c' : C, Box c' (N + 1) → P (.fz (.bl true)) c'
theorem sum_zero_iff : ∀ {l : List Nat}, l.sum = 0 ↔ ∀ x ∈ l, x = 0
  | [] => by simp
  | x :: l => by
    rw [List.sum_cons, List.forall_mem_cons, ← sum_zero_iff (l := l)]
    omega
theorem limF_sum {n : Nat} {f : List Nat → List Nat} (hf : Dn n f) : ∀ k l, l.length = n → (limF f k l).sum ≤ l.sum
  | 0, l, _ => Nat.le_refl _
  | k + 1, l, h => by
    show (if f l = l then l else limF f k (f l)).sum ≤ _
    obtain ⟨h1, h2, _⟩ := hf l h
    split
    · exact Nat.le_refl _
    · exact Nat.le_trans (limF_sum hf k _ h1) h2
theorem fIs_nL {l : List Nat} {P : D → Prop} (h : P (.bl false)) : fIs (nL l) .non P := h
theorem mem_le_sum {l : List Nat} {x : Nat} (h : x ∈ l) : x ≤ l.sum := by
  obtain ⟨i, hi⟩ := List.mem_iff_getElem?.mp h
  have := getD_le_sum l i
  rwa [getD_of hi] at this
theorem G__law_enough_right (T : Tx K mg a) : FnOk P w K mg base (L2.CX P w) 5 a.f__law_enough_right a.d__law_enough_right ["box", "wide", "machine", "order", "p", "q"] (spM K c__law_enough_right) :=
  fn_M T.F__law_enough_right sc__law_enough_right (by rintro c0 ds P PX ⟨n, m, _, _, _, _, rfl, _⟩; rfl) (bd__law_enough_right T) fun pp c0 ds P PX h => by
  obtain ⟨N, w, M, o, p, q, rfl, hB, hN, hR, hw, hp1, hp3, hq1, hq8, hp⟩ := h
  have hw0 := hR.hn
  have hMl := hR.hl
  unfold m__law_enough_right
  walk_at "ev"
  refine ⟨N, 40, rfl, hB, by omega, few (by decide) (by decide), fun r c1 hr hB1 => ?_⟩
  walk_at "ev"
  have e1 : (1 : Int) + (r : Nat) = ((1 + r : Nat) : Int) := rfl
  rw [e1]
  refine ⟨by decide, ?_⟩
  refine ⟨fun k ρ => ρ = [.ow (some pp) c1, .fz (wD w), .fz (mD M), .fz (nL o), .fz (.int (p : Nat)), .fz (.int (q : Nat)), .un, .un, .un], ⟨_, by walk_at "wk", rfl⟩, fun k hk ρ hI => ?_, fun ρ hI => ?_⟩
  · obtain rfl := hI
    obtain ⟨most, em, hm1, hm2⟩ : ∃ m : Nat, [D.int 1, D.int ((1 + r : Nat) : Int), D.int 1000][k] = D.int (m : Nat) ∧ 1 ≤ m ∧ m ≤ 1000 := by
      have hk3 : k < 3 := hk
      rcases (by omega : k = 0 ∨ k = 1 ∨ k = 2) with rfl | rfl | rfl
      · exact ⟨1, rfl, by omega, by omega⟩
      · exact ⟨1 + r, rfl, by omega, by omega⟩
      · exact ⟨1000, rfl, by omega, by omega⟩
    generalize [D.int 1, D.int ((1 + r : Nat) : Int), D.int 1000][k] = dd at em
    subst em
    have hdP := dn_P (w := w) p q
    have hdR := dn_R (M := M) p q
    have hby := hR.lim p q (w.length * most) (List.replicate w.length most) (List.replicate w.length most) (ByL.rep hR.hp most)
    have hfP := limF_fix hdP (w.length * most) (List.replicate w.length most) (by simp) (by simp)
    have hfR := limF_fix hdR (w.length * most) (List.replicate w.length most) (by rw [hMl]; simp) (by simp)
    have hsR := limF_sum hdR (w.length * most) (List.replicate w.length most) (by rw [hMl]; simp)
    rw [sum_rep] at hsR
    have hmm : w.length * most ≤ 12 * 1000 := Nat.mul_le_mul hw hm2
    have hz : (limF (downR M p q) (w.length * most) (List.replicate w.length most)).sum = 0 ↔ (limF (downP w p q) (w.length * most) (List.replicate w.length most)).sum = 0 := by
      rw [sum_zero_iff, sum_zero_iff]
      exact hby.all hR.hp
    walk_at "ev"
    refine ⟨w, p, q, most, rfl, hw0, by omega, by omega, by omega, by omega, fun R eR => ?_⟩
    rw [← eR] at hby hfP hz
    generalize hR2 : limF (downR M p q) (w.length * most) (List.replicate w.length most) = R2 at hby hfR hz hsR
    have hen : ∀ R', R' = limF (downR M p q) (List.length M * most) (List.replicate (List.length M) most) → R' = R2 := fun R' e => by rw [e, hMl, hR2]
    refine ⟨fun hs => ?_, fun hs => ?_⟩
    · walk_at "ev"
      refine ⟨M, p, q, most, rfl, hR.ok, by omega, by omega, fun R' e => ?_⟩
      obtain rfl := hen R' e
      refine ⟨fun _ => ?_, fun y => absurd (hz.mpr hs) (by omega)⟩
      walk_at "ev"
      refine fIs_o (o := none) ?_
      refine fIs_o (o := none) ?_
      rw [fNe_bl]
      walk_at "ev"
      refine ⟨fun z => Bool.noConfusion z, fun _ => ?_⟩
      refine ⟨fun z => Bool.noConfusion z, fun _ => ?_⟩
      refine ⟨fun z => Bool.noConfusion z, fun _ => ?_⟩
      walk_at "ev"
      refine ⟨fun z => Bool.noConfusion z, fun _ => ?_⟩
      refine ⟨fun z => Bool.noConfusion z, fun _ => ?_⟩
      walk_at "ev"
      refine ⟨fun z => Bool.noConfusion z, fun _ => ?_⟩
      refine ⟨fun z => Bool.noConfusion z, fun _ => ?_⟩
      exact lp_of (by walk_at "wk")
    · walk_at "ev"
      refine ⟨M, p, q, most, rfl, hR.ok, by omega, by omega, fun R' e => ?_⟩
      obtain rfl := hen R' e
      refine ⟨fun y => absurd (hz.mp y) (by omega), fun hs' => ?_⟩
      have hfix := hfR.1
      have hlen : R'.length = M.length := hfR.2
      have hpe := round_enough hw0 hfP.2 hfP.1 hs
      walk_at "ev"
      refine fIs_nL ?_
      refine fIs_nL ?_
      rw [fNe_bl]
      walk_at "ev"
      refine ⟨fun z => Bool.noConfusion z, fun _ => ?_⟩
      refine ⟨fun _ => ?_, fun z => Bool.noConfusion z⟩
      walk_at "ev"
      refine ⟨o, R, w.length, rfl, hR.hp, hfP.2, by omega, fun l hl => ?_⟩
      obtain rfl := ByL.uniq hR.hp hl hby
      walk_at "ev"
      refine fNe_nL ?_
      rw [decide_eq_true rfl]
      walk_at "ev"
      refine ⟨fun z => Bool.noConfusion z, fun _ => ?_⟩
      walk_at "ev"
      refine ⟨fun _ => ?_, fun z => Bool.noConfusion z⟩
      walk_at "ev"
      trace_state
      refine fCnt_w ?_
      refine fMul_n (Nat.lt_of_le_of_lt List.count_le_length (by omega)) ?_
      refine fLen_lst ?_
      rw [List.length_map]
      refine fMul_n (by omega) ?_
      rw [fLt_int, dlt, decide_eq_false (by omega)]
      refine ⟨fun z => Bool.noConfusion z, fun _ => ?_⟩
      walk_at "ev"
      refine ⟨fun _ => ?_, fun z => Bool.noConfusion z⟩
      walk_at "ev"
      refine ⟨M, p, q, l, rfl, hR.ok, hlen, by omega, by omega, by omega, hs', fun x hx => ?_, hfix, ?_⟩
      · exact Nat.lt_of_le_of_lt (Nat.le_trans (mem_le_sum hx) (by omega : _ ≤ 12000)) (by decide)
      walk_at "ev"
      refine ⟨fun z => Bool.noConfusion z, fun _ => ?_⟩
      exact lp_of (by walk_at "wk")
  · obtain rfl := hI
    walk_at "ev"
    exact ⟨c1, rfl, hp c1 hB1⟩

def m__law_rounds_right : MS := mSeq (mUnp (mTup (mCons (mCallM c__law_of_order 0 (mCons (mVar 3) (mNil))) (mCons (mLm fCnt (mVar 1) (mC (.bl true))) (mCons (mBf fLen (mCons (mVar 1) (mNil))) (mNil))))) (gT (gCs (gN 4) (gCs (gN 5) (gCs (gN 6) (gNl)))))) (mSeq (mFor (iT (mTup (mCons (mVar 6) (mCons (mBin fMul (mC (.int 3)) (mVar 6)) (mCons (mBin fAdd (mBin fMul (mC (.int 2)) (mVar 6)) (mC (.int 1))) (mCons (mBin fMul (mC (.int 30)) (mVar 6)) (mNil))))))) (gN 7) (mIfS (mTst (mBin fNe (mCall c_bits_for (mCons (mVar 2) (mCons (mVar 4) (mCons (mVar 7) (mNil))))) (mIf (mTst (mBin fEq (mBin fMod (mVar 7) (mVar 6)) (mC (.int 0)))) (mBin fMul (mVar 5) (mBin fDiv (mVar 7) (mVar 6))) (mC .non)))) (mRet (mC (.bl false))) (mNx))) (mSeq (mSet 8 (mXe (mCallM c__law_take 0 (mCons (mC (.int 9)) (mNil))))) (mSeq (mSet 7 (mXe (mBin fMul (mVar 6) (mBf fMax (mCons (mC (.int 1)) (mCons (mBin fDiv (mBin fSub (mBin fAdd (mVar 8) (mVar 5)) (mC (.int 1))) (mVar 5)) (mNil))))))) (mSeq (mSeq (mSet 9 (mXo (mLc (iR2 (mCons (mC (.int 1)) (mCons (mBin fAdd (mVar 7) (mC (.int 1))) (mNil)))) (gN 11) (mYes) (mIf (mTst (mBin fEq (mBin fMod (mVar 11) (mVar 6)) (mC (.int 0)))) (mBin fShl (mC (.int 1)) (mBin fMul (mVar 5) (mBin fDiv (mVar 11) (mVar 6)))) (mC (.int 0))) [11]))) (mFzS 9)) (mSeq (mSet 10 (mXe (mCall c_least_many (mCons (mVar 2) (mCons (mVar 4) (mCons (mVar 8) (mCons (mBin fAdd (mVar 7) (mCallM c__law_take 0 (mCons (mC (.int 9)) (mNil)))) (mNil)))))))) (mRet (mAndV (mBin fIsNot (mVar 10) (mC .non)) (mAndV (mBin fEq (mBf fTup (mCons (mVar 10) (mNil))) (mTup (mCons (mVar 7) (mCons (mVar 9) (mNil))))) (mBin fIs (mCall c_least_many (mCons (mVar 2) (mCons (mVar 4) (mCons (mVar 8) (mCons (mBin fSub (mVar 7) (mC (.int 1))) (mNil)))))) (mC .non))))))))))
theorem bd__law_rounds_right (T : Tx K mg a) : Bd P w K mg base 6 ["box", "wide", "machine", "order", "room", "more", "size", "many", "p", "due", "found", "n"] s__law_rounds_right m__law_rounds_right := ⟨fun qual f cdv A outer s H E hr tk pw =>
  gss_cons (gs_unp (ge_tup (ga_cons (ge_callM (G__law_of_order T) (hr.mono (by decide)) T.g__law_of_order T.F__law_of_order.kp T.b__law_of_order tk (ga_cons (ge_var) (ga_nil))) (ga_cons (ge_lm PySem.F.slot_list_count (by kernel_rfl) mt_lcountB ld_cnt (ge_var) (ge_bl)) (ga_cons (ge_bf call_len cd_len T.m_len (ga_cons (ge_var) (ga_nil))) (ga_nil))))) (gg_tup3 rfl (gg_name sc__law_rounds_right.nd) (gg_name sc__law_rounds_right.nd) (gg_name sc__law_rounds_right.nd))) (gss_cons (gs_for pw rfl (gi_tup (ge_tup (ga_cons (ge_var) (ga_cons (ge_bin op_mulA od_mul (ge_int) (ge_var)) (ga_cons (ge_bin op_addA od_add (ge_bin op_mulA od_mul (ge_int) (ge_var)) (ge_int)) (ga_cons (ge_bin op_mulA od_mul (ge_int) (ge_var)) (ga_nil))))))) (gg_name sc__law_rounds_right.nd) (gss_one (gs_if (gt_cmp (op_neA hr.units) od_ne (ge_call (G_bits_for T) (hr.mono (by decide)) T.g_bits_for T.F_bits_for.kp T.b_bits_for tk (ga_cons (ge_var) (ga_cons (ge_var) (ga_cons (ge_var) (ga_nil))))) (ge_if (gt_cmp (op_eqA hr.units) od_eq (ge_bin op_mod od_mod (ge_var) (ge_var)) (ge_int)) (ge_bin op_mulA od_mul (ge_var) (ge_bin op_fdivW od_div (ge_var) (ge_var))) (ge_non))) (gss_one (gs_ret (ge_bl))) (gss_nil)))) (gss_cons (gs_set (gx_e (ge_callM (G__law_take T) (hr.mono (by decide)) T.g__law_take T.F__law_take.kp T.b__law_take tk (ga_cons (ge_int) (ga_nil)))) sc__law_rounds_right.nd) (gss_cons (gs_set (gx_e (ge_bin op_mulA od_mul (ge_var) (ge_bf (cr_maxA rfl) cd_max T.m_max (ga_cons (ge_int) (ga_cons (ge_bin op_fdivW od_div (ge_bin op_sub od_sub (ge_bin op_addA od_add (ge_var) (ge_var)) (ge_int)) (ge_var)) (ga_nil)))))) sc__law_rounds_right.nd) (gss_cons (gs_fz (gs_setLcO (own := [("n", 11)]) rfl sc__law_rounds_right.nd (gi_range2 T.m_range (ga_cons (ge_int) (ga_cons (ge_bin op_addA od_add (ge_var) (ge_int)) (ga_nil)))) (blkOk_by (N := ["box", "wide", "machine", "order", "room", "more", "size", "many", "p", "due", "found", "n"]) (sc := (defScope s__law_rounds_right)) (by decide +kernel)) (fun _ _ _ _ _ => gg_name sc__law_rounds_right.nd) (fun _ _ _ _ _ => gts_nil) (fun _ _ _ _ _ => ge_if (gt_cmp (op_eqA hr.units) od_eq (ge_bin op_mod od_mod (ge_var) (ge_var)) (ge_int)) (ge_bin op_shlW od_shl (ge_int) (ge_bin op_mulA od_mul (ge_var) (ge_bin op_fdivW od_div (ge_var) (ge_var)))) (ge_int)) (sw_true rfl rfl rfl (by decide +kernel)))) (gss_cons (gs_set (gx_e (ge_call (G_least_many T) (hr.mono (by decide)) T.g_least_many T.F_least_many.kp T.b_least_many tk (ga_cons (ge_var) (ga_cons (ge_var) (ga_cons (ge_var) (ga_cons (ge_bin op_addA od_add (ge_var) (ge_callM (G__law_take T) (hr.mono (by decide)) T.g__law_take T.F__law_take.kp T.b__law_take tk (ga_cons (ge_int) (ga_nil)))) (ga_nil))))))) sc__law_rounds_right.nd) (gss_one (gs_ret (ge_and (ge_cmp op_isNotA od_isnot (ge_var) (ge_non)) (ge_and (ge_cmp (op_eqA hr.units) od_eq (ge_bt call_tuple_of cd_tup T.m_tuple (ga_cons (ge_var) (ga_nil))) (ge_tup (ga_cons (ge_var) (ga_cons (ge_var) (ga_nil))))) (ge_one (ge_cmp op_isA od_is (ge_call (G_least_many T) (hr.mono (by decide)) T.g_least_many T.F_least_many.kp T.b_least_many tk (ga_cons (ge_var) (ga_cons (ge_var) (ga_cons (ge_var) (ga_cons (ge_bin op_sub od_sub (ge_var) (ge_int)) (ga_nil)))))) (ge_non))))))))))))⟩
def c__law_rounds_right : CtM := fun c0 ds P _ => ∃ (N : Nat) (w : List Bool) (M : Mc) (o : List Nat), ds = [wD w, mD M, nL o] ∧ Box c0 N ∧ N ≤ 10000 ∧ RingM w o M ∧ w.length ≤ 12 ∧ 1 ≤ w.count true ∧ ∀ c' : C, Box c' (N + 3) → P (.fz (.bl true)) c'
theorem fEq_tupSame {n : Nat} {ds : List D} {P : D → Prop} (h : Shp n (.tup ds)) (hn : n ≤ 64) (hp : P (.bl true)) : fEq (.tup ds) (.tup ds) P := ⟨h.ok hn, h.ok hn, by rw [deq_same h]; exact hp⟩
theorem G__law_rounds_right (T : Tx K mg a) : FnOk P w K mg base (L2.CX P w) 7 a.f__law_rounds_right a.d__law_rounds_right ["box", "wide", "machine", "order"] (spM K c__law_rounds_right) :=
  fn_M T.F__law_rounds_right sc__law_rounds_right (by rintro c0 ds P PX ⟨n, m, _, _, rfl, _⟩; rfl) (bd__law_rounds_right T) fun pp c0 ds P PX h => by
  obtain ⟨N, w, M, o, rfl, hB, hN, hR, hw, hc1, hp⟩ := h
  have hw0 := hR.hn
  have hMl := hR.hl
  have hcl : w.count true ≤ w.length := List.count_le_length
  have hol := hR.hp.len
  unfold m__law_rounds_right
  walk_at "ev"
  refine ⟨N, o, rfl, hB, by omega, by omega, by omega, fun at' g c1 ha hB1 => ?_⟩
  have hgl : g < w.length := hR.hp.lt (List.mem_of_getElem? ha)
  have hro : ∀ k, cntR M g k = if k % w.length = 0 then 2 ^ (w.count true * (k / w.length)) else 0 := fun k => hR.rounds ha k
  walk_at "ev"
  refine fCnt_w ?_
  refine fLen_lst ?_
  rw [List.length_map]
  generalize hce : w.count true = c at hc1 hcl hro
  generalize hne : w.length = n at hw hw0 hMl hcl hol hgl hro
  refine ⟨by decide, ?_⟩
  walk_at "ev"
  refine for_run (ds := [n, 3 * n, 2 * n + 1, 30 * n].map nD) (ρ1 := [.ow (some pp) c1, .fz (wD w), .fz (mD M), .fz (nL o), .fz (.int (g : Nat)), .fz (.int (c : Nat)), .fz (.int (n : Nat)), .un, .un, .un, .un, .un]) (fun _ y => by walk_at "ev"; refine fMul_small ⟨by decide, by decide⟩ ?_; walk_at "ev"; refine fMul_small ⟨by decide, by decide⟩ ?_; walk_at "ev"; refine fMul_small ⟨by decide, by decide⟩ ?_; exact ⟨by decide, y⟩) rfl (fun k => [.ow (some pp) c1, .fz (wD w), .fz (mD M), .fz (nL o), .fz (.int (g : Nat)), .fz (.int (c : Nat)), .fz (.int (n : Nat)), .un, .un, .un, .un, .un]) (by walk_at "wk") (fun k many hk => ?_) ?_
  · have hm : many ≤ 30 * 12 := by
      have := List.mem_of_getElem? hk
      simp at this
      omega
    have hrm := hro many
    have hpos : ∀ x : Nat, 0 < 2 ^ x := fun x => Nat.pow_pos (by decide)
    walk_at "ev"
    refine ⟨M, g, many, rfl, hR.ok, by omega, by omega, by omega, fun z => ?_, fun z => ?_⟩
    · have hz : ¬ many % n = 0 := fun y => by
        have z : cntR M g many = 0 := z
        rw [hrm, if_pos y] at z
        have := hpos (c * (many / n))
        omega
      walk_at "ev"
      refine fMod_n hw0 ?_
      rw [fEq_int, show decide (((many % n : Nat) : Int) = 0) = false from decide_eq_false (by omega)]
      walk_at "ev"
      refine ⟨fun z => Bool.noConfusion z, fun _ => ?_⟩
      walk_at "ev"
      refine fNe_non ?_
      walk_at "ev"
      refine ⟨fun z => Bool.noConfusion z, fun _ => ?_⟩
      exact lp_of (by walk_at "wk")
    · have hz : many % n = 0 := by
        have z : 0 < cntR M g many := z
        rw [hrm] at z
        split at z
        · assumption
        · omega
      have hlog : (tb M g many g).log2 = c * (many / n) := by
        show (cntR M g many).log2 = _
        rw [hrm, if_pos hz, Nat.log2_two_pow]
      rw [hlog]
      walk_at "ev"
      refine fMod_n hw0 ?_
      rw [fEq_int, show decide (((many % n : Nat) : Int) = 0) = true from decide_eq_true (by omega)]
      walk_at "ev"
      refine ⟨fun _ => ?_, fun z => Bool.noConfusion z⟩
      walk_at "ev"
      refine fDiv_n hw0 (Nat.lt_of_le_of_lt hw (by decide)) ?_
      refine fMul_n (by omega) ?_
      rw [fNe_int, decide_eq_true rfl]
      walk_at "ev"
      refine ⟨fun z => Bool.noConfusion z, fun _ => ?_⟩
      exact lp_of (by walk_at "wk")
  walk_at "ev"
  refine ⟨N + 1, 9, rfl, hB1, by omega, few (by decide) (by decide), fun p c2 hr hB2 => ?_⟩
  walk_at "ev"
  rw [show ((p : Nat) : Int) + (c : Nat) - 1 = ((p + c - 1 : Nat) : Int) by omega]
  refine fDiv_n (by omega) (Nat.lt_of_le_of_lt hcl (Nat.lt_of_le_of_lt hw (by decide))) ?_
  refine fMax_two ?_
  obtain ⟨t, ht, ht1, ht9, htp, htm⟩ : ∃ t : Nat, (if (((p + c - 1) / c : Nat) : Int) > 1 then (((p + c - 1) / c : Nat) : Int) else 1) = (t : Nat) ∧ 1 ≤ t ∧ t ≤ 9 ∧ p ≤ c * t ∧ ∀ s, 1 ≤ s → s < t → c * s < p := by
    have d1 := Nat.div_mul_le_self (p + c - 1) c
    have d2 := Nat.lt_mul_div_succ (p + c - 1) (by omega : 0 < c)
    generalize (p + c - 1) / c = u at d1 d2
    rw [Nat.mul_comm] at d1
    rw [Nat.mul_add, Nat.mul_one] at d2
    by_cases z : ((u : Nat) : Int) > 1
    · refine ⟨u, by rw [if_pos z], by omega, ?_, by omega, fun s s1 s2 => ?_⟩
      · rcases Nat.lt_or_ge 9 u with y | y
        · have : c * 10 ≤ c * u := Nat.mul_le_mul_left _ y
          omega
        · exact y
      · have : c * (s + 1) ≤ c * u := Nat.mul_le_mul_left _ s2
        rw [Nat.mul_add, Nat.mul_one] at this
        omega
    · refine ⟨1, by rw [if_neg z]; rfl, by omega, by omega, ?_, fun s s1 s2 => by omega⟩
      have : c * u ≤ c * 1 := Nat.mul_le_mul_left _ (by omega)
      omega
  rw [ht]
  refine fMul_n (by omega) ?_
  have hmt : n * t ≤ 12 * 9 := Nat.mul_le_mul hw ht9
  have hmt1 : 1 * 1 ≤ n * t := Nat.mul_le_mul hw0 ht1
  have hbig : 2 ^ p ≤ cntR M g (n * t) := by
    rw [hro, if_pos (Nat.mul_mod_right _ _), Nat.mul_div_cancel_left _ hw0]
    exact Nat.pow_le_pow_right (by decide) htp
  have hsmall : ∀ j, 1 ≤ j → j < n * t → cntR M g j < 2 ^ p := fun j j1 j2 => by
    rw [hro]
    split
    · rename_i hz
      have e := Nat.div_add_mod j n
      rw [hz, Nat.add_zero] at e
      have s1 : 1 ≤ j / n := by
        rcases Nat.eq_zero_or_pos (j / n) with y | y
        · rw [y] at e; omega
        · exact y
      have s2 : j / n < t := by
        rcases Nat.lt_or_ge (j / n) t with y | y
        · exact y
        · have := Nat.mul_le_mul_left n y
          omega
      exact Nat.pow_lt_pow_right (by decide) (htm _ s1 s2)
    · exact Nat.pow_pos (by decide)
  have hcle : ∀ s, s ≤ t → c * s ≤ 12 * 9 := fun s hs => Nat.mul_le_mul (by omega) (by omega)
  generalize hmany : n * t = many at hmt hmt1 hbig hsmall
  walk_at "ev"
  refine lc_run (ds := rngD 1 1 many) (ρ1 := [.ow (some pp) c2, .fz (wD w), .fz (mD M), .fz (nL o), .fz (.int (g : Nat)), .fz (.int (c : Nat)), .fz (.int (n : Nat)), .fz (.int (many : Nat)), .fz (.int (p : Nat)), .un, .un, .un]) (fun _ y => by walk_at "ev"; refine ⟨⟨by decide, by decide⟩, ⟨by omega, by omega⟩, ?_⟩; rw [show (((many : Nat) : Int) + 1 - 1).toNat = many by omega]; exact y) (range_map many 1 1) (fun k => ((List.range k).map fun i => cntR M g (i + 1)).map nD) (fun k => [.ow (some pp) c2, .fz (wD w), .fz (mD M), .fz (nL o), .fz (.int (g : Nat)), .fz (.int (c : Nat)), .fz (.int (n : Nat)), .fz (.int (many : Nat)), .fz (.int (p : Nat)), .un, .un, .un]) ⟨rfl, rfl⟩ (fun k x hx => ?_) ?_
  · obtain ⟨rfl, hlt⟩ := range_get hx
    have ex : (1 : Int) + (x : Nat) * 1 = ((x + 1 : Nat) : Int) := by omega
    rw [ex]
    have hsn : ∀ v, v = cntR M g (x + 1) → ((List.range x).map fun i => cntR M g (i + 1)).map nD ++ [nD v] = ((List.range (x + 1)).map fun i => cntR M g (i + 1)).map nD := fun v e => by rw [List.range_succ, List.map_append, List.map_append, e]; rfl
    have hrx := hro (x + 1)
    walk_at "ev"
    refine ⟨fun _ => ?_, fun z => Bool.noConfusion z⟩
    walk_at "ev"
    refine fMod_n hw0 ?_
    by_cases hz : (x + 1) % n = 0
    · rw [fEq_int, show decide ((((x + 1) % n : Nat) : Int) = 0) = true from decide_eq_true (by omega)]
      walk_at "ev"
      refine ⟨fun _ => ?_, fun z => Bool.noConfusion z⟩
      walk_at "ev"
      refine fDiv_n hw0 (Nat.lt_of_le_of_lt hw (by decide)) ?_
      refine fMul_n (by omega) ?_
      have hle : (x + 1) / n ≤ t := by
        have : (x + 1) / n ≤ n * t / n := Nat.div_le_div_right (by omega)
        rwa [Nat.mul_div_cancel_left _ hw0] at this
      have := hcle _ hle
      refine shl_one (by omega) ?_
      exact ⟨sl_lt (by simp; omega), hsn _ (by rw [hrx, if_pos hz]), rfl⟩
    · rw [fEq_int, show decide ((((x + 1) % n : Nat) : Int) = 0) = false from decide_eq_false (by omega)]
      walk_at "ev"
      refine ⟨fun z => Bool.noConfusion z, fun _ => ?_⟩
      walk_at "ev"
      exact ⟨sl_lt (by simp; omega), hsn 0 (by rw [hrx, if_neg hz]), rfl⟩
  rw [List.length_range]
  walk_at "ev"
  refine ⟨N + 2, 9, rfl, hB2, by omega, few (by decide) (by decide), fun r c3 hr3 hB3 => ?_⟩
  walk_at "ev"
  refine ⟨M, g, p, many + r, rfl, hR.ok, by omega, by omega, by omega, by omega, fun m m1 m2 m3 m4 => ?_, fun z => absurd hbig (by have := z many (by omega) (by omega); omega)⟩
  have em : m = many := by
    rcases Nat.lt_trichotomy m many with z | z | z
    · exact absurd m3 (by have := hsmall m m1 z; omega)
    · exact z
    · exact absurd hbig (by have := m4 many (by omega) z; omega)
  subst em
  have hsame : fTup [D.tup [.int (m : Nat), nL (cntsR M g m)]] = fun P => P (D.tup [.int (m : Nat), nL (cntsR M g m)]) := rfl
  walk_at "ev"
  refine ⟨fun _ => ?_, fun z => Bool.noConfusion z⟩
  refine fTup_tup ?_
  refine ⟨by decide, ?_⟩
  refine fEq_tupSame (n := 3) (ds := [.int (m : Nat), nL (cntsR M g m)]) (.tup fun d hd => ?_) (by decide) ?_
  · rcases List.mem_cons.mp hd with rfl | hd
    · exact ⟨rfl, Nat.zero_le _⟩
    · rw [List.mem_singleton.mp hd]
      exact Shp.nL _
  refine ⟨fun _ => ?_, fun z => Bool.noConfusion z⟩
  refine ⟨M, g, p, m - 1, by rw [show ((m : Nat) : Int) - 1 = ((m - 1 : Nat) : Int) by omega], hR.ok, by omega, by omega, by omega, by omega, fun j j1 j2 j3 => absurd j3 (by have := hsmall j j1 (by omega); omega), fun _ => ?_⟩
  walk_at "ev"
  refine fIs_o (o := none) ?_
  exact ⟨c3, rfl, hp c3 hB3⟩

def m__law_growth_right : MS := mSeq (mSet 4 (mXe (mBin fMul (mFz (mLst (mCons (mC (.int 1)) (mNil)))) (mBf fLen (mCons (mVar 0) (mNil)))))) (mSeq (mFor (iR1 (mCons (mVar 3) (mNil))) (gN 5) (mSeq (mSeq (mSet 6 (mXo (mLc (iEn (mCons (mVar 0) (mNil))) (gT (gCs (gN 13) (gCs (gN 14) (gNl)))) (mYes) (mBin fMul (mBin fAdd (mC (.int 1)) (mBf fInt (mCons (mVar 14) (mNil)))) (mBin fIx (mVar 4) (mBin fMod (mBin fAdd (mVar 13) (mC (.int 1))) (mBf fLen (mCons (mVar 0) (mNil)))))) [13, 14]))) (mFzS 6)) (mSet 4 (mXe (mFz (mLc (iZp (mCons (mVar 4) (mCons (mVar 6) (mNil)))) (gT (gCs (gN 15) (gCs (gN 16) (gNl)))) (mYes) (mBin fAdd (mVar 15) (mVar 16)) [15, 16])))))) (mSeq (mSeq (mSet 6 (mXo (mLc (iEn (mCons (mVar 0) (mNil))) (gT (gCs (gN 13) (gCs (gN 14) (gNl)))) (mYes) (mBin fMul (mBin fAdd (mC (.int 1)) (mBf fInt (mCons (mVar 14) (mNil)))) (mBin fIx (mVar 4) (mBin fMod (mBin fAdd (mVar 13) (mC (.int 1))) (mBf fLen (mCons (mVar 0) (mNil)))))) [13, 14]))) (mFzS 6)) (mSeq (mUnp (mCall c_growth (mCons (mVar 1) (mCons (mVar 3) (mNil)))) (gT (gCs (gN 7) (gCs (gN 8) (gCs (gN 9) (gNl)))))) (mSeq (mIfS (mTst (mBin fNe (mFz (mLi (mCons (mVar 9) (mNil)))) (mCall c__law_by_rooms (mCons (mVar 2) (mCons (mVar 4) (mNil)))))) (mRet (mC (.bl false))) (mNx)) (mSeq (mFor (iZp (mCons (mVar 6) (mCons (mVar 4) (mNil)))) (gT (gCs (gN 10) (gCs (gN 11) (gNl)))) (mIfS (mOrT (mTst (mBin fGt (mBin fMul (mBin fIx (mVar 7) (mC (.int 0))) (mVar 11)) (mBin fMul (mVar 10) (mBin fIx (mVar 7) (mC (.int 1)))))) (mTst (mBin fLt (mBin fMul (mBin fIx (mVar 8) (mC (.int 0))) (mVar 11)) (mBin fMul (mVar 10) (mBin fIx (mVar 8) (mC (.int 1))))))) (mRet (mC (.bl false))) (mNx))) (mSeq (mSet 12 (mXe (mFz (mLc (iZp (mCons (mVar 6) (mCons (mVar 4) (mNil)))) (gT (gCs (gN 10) (gCs (gN 11) (gNl)))) (mYes) (mTup (mCons (mVar 10) (mCons (mVar 11) (mNil)))) [10, 11])))) (mRet (mBf fAll (mCons (mFz (mLc (iT (mTup (mCons (mVar 7) (mCons (mVar 8) (mNil))))) (gN 17) (mYes) (mBf fAny (mCons (mFz (mLc (iL (mVar 12)) (gT (gCs (gN 10) (gCs (gN 11) (gNl)))) (mYes) (mBin fEq (mBin fMul (mBin fIx (mVar 17) (mC (.int 0))) (mVar 11)) (mBin fMul (mVar 10) (mBin fIx (mVar 17) (mC (.int 1))))) [10, 11])) (mNil))) [17])) (mNil))))))))))
theorem bd__law_growth_right (T : Tx K mg a) : Bd P w K mg base 4 ["wide", "machine", "order", "steps", "weights", "turn", "added", "low", "high", "told", "top", "below", "ends", "at", "both", "one", "more", "end"] s__law_growth_right m__law_growth_right := ⟨fun qual f cdv A outer s H E hr tk pw =>
  gss_cons (gs_set (gx_e (ge_bin op_mulA od_mul (ge_fz (go_lst (ga_cons (ge_int) (ga_nil)))) (ge_bf call_len cd_len T.m_len (ga_cons (ge_var) (ga_nil))))) sc__law_growth_right.nd) (gss_cons (gs_for pw rfl (gi_range1 T.m_range (ga_cons (ge_var) (ga_nil))) (gg_name sc__law_growth_right.nd) (gss_cons (gs_fz (gs_setLcO (own := [("at", 13), ("both", 14)]) rfl sc__law_growth_right.nd (gi_enum T.m_enumerate (ga_cons (ge_var) (ga_nil))) (blkOk_by (N := ["wide", "machine", "order", "steps", "weights", "turn", "added", "low", "high", "told", "top", "below", "ends", "at", "both", "one", "more", "end"]) (sc := (defScope s__law_growth_right)) (by decide +kernel)) (fun _ _ _ _ _ => gg_tup2 rfl (gg_name sc__law_growth_right.nd) (gg_name sc__law_growth_right.nd)) (fun _ _ _ _ _ => gts_nil) (fun _ _ _ _ _ => ge_bin op_mulA od_mul (ge_bin op_addA od_add (ge_int) (ge_bt call_intA cd_int T.m_int (ga_cons (ge_var) (ga_nil)))) (ge_ix (ge_var) (ge_bin op_mod od_mod (ge_bin op_addA od_add (ge_var) (ge_int)) (ge_bf call_len cd_len T.m_len (ga_cons (ge_var) (ga_nil)))))) (sw_true rfl rfl rfl (by decide +kernel)))) (gss_one (gs_set (gx_e (ge_fz (go_lc (own := [("one", 15), ("more", 16)]) rfl sc__law_growth_right.nd (gi_zip T.m_zip (ga_cons (ge_var) (ga_cons (ge_var) (ga_nil)))) (blkOk_by (N := ["wide", "machine", "order", "steps", "weights", "turn", "added", "low", "high", "told", "top", "below", "ends", "at", "both", "one", "more", "end"]) (sc := (defScope s__law_growth_right)) (by decide +kernel)) (fun _ _ _ _ _ => gg_tup2 rfl (gg_name sc__law_growth_right.nd) (gg_name sc__law_growth_right.nd)) (fun _ _ _ _ _ => gts_nil) (fun _ _ _ _ _ => ge_bin op_addA od_add (ge_var) (ge_var))))) sc__law_growth_right.nd)))) (gss_cons (gs_fz (gs_setLcO (own := [("at", 13), ("both", 14)]) rfl sc__law_growth_right.nd (gi_enum T.m_enumerate (ga_cons (ge_var) (ga_nil))) (blkOk_by (N := ["wide", "machine", "order", "steps", "weights", "turn", "added", "low", "high", "told", "top", "below", "ends", "at", "both", "one", "more", "end"]) (sc := (defScope s__law_growth_right)) (by decide +kernel)) (fun _ _ _ _ _ => gg_tup2 rfl (gg_name sc__law_growth_right.nd) (gg_name sc__law_growth_right.nd)) (fun _ _ _ _ _ => gts_nil) (fun _ _ _ _ _ => ge_bin op_mulA od_mul (ge_bin op_addA od_add (ge_int) (ge_bt call_intA cd_int T.m_int (ga_cons (ge_var) (ga_nil)))) (ge_ix (ge_var) (ge_bin op_mod od_mod (ge_bin op_addA od_add (ge_var) (ge_int)) (ge_bf call_len cd_len T.m_len (ga_cons (ge_var) (ga_nil)))))) (sw_true rfl rfl rfl (by decide +kernel)))) (gss_cons (gs_unp (ge_call (G_growth T) (hr.mono (by decide)) T.g_growth T.F_growth.kp T.b_growth tk (ga_cons (ge_var) (ga_cons (ge_var) (ga_nil)))) (gg_tup3 rfl (gg_name sc__law_growth_right.nd) (gg_name sc__law_growth_right.nd) (gg_name sc__law_growth_right.nd))) (gss_cons (gs_if (gt_cmp (op_neA hr.units) od_ne (ge_fz (go_list T.m_list (ga_cons (ge_var) (ga_nil)))) (ge_call (G__law_by_rooms T) (hr.mono (by decide)) T.g__law_by_rooms T.F__law_by_rooms.kp T.b__law_by_rooms tk (ga_cons (ge_var) (ga_cons (ge_var) (ga_nil))))) (gss_one (gs_ret (ge_bl))) (gss_nil)) (gss_cons (gs_for pw rfl (gi_zip T.m_zip (ga_cons (ge_var) (ga_cons (ge_var) (ga_nil)))) (gg_tup2 rfl (gg_name sc__law_growth_right.nd) (gg_name sc__law_growth_right.nd)) (gss_one (gs_if (gt_w (gw_or (gt_cmp op_gt od_gt (ge_bin op_mulA od_mul (ge_ix (ge_var) (ge_int)) (ge_var)) (ge_bin op_mulA od_mul (ge_var) (ge_ix (ge_var) (ge_int)))) (gw_or1 (gt_cmp op_ltA od_lt (ge_bin op_mulA od_mul (ge_ix (ge_var) (ge_int)) (ge_var)) (ge_bin op_mulA od_mul (ge_var) (ge_ix (ge_var) (ge_int))))))) (gss_one (gs_ret (ge_bl))) (gss_nil)))) (gss_cons (gs_set (gx_e (ge_fz (go_lc (own := [("top", 10), ("below", 11)]) rfl sc__law_growth_right.nd (gi_zip T.m_zip (ga_cons (ge_var) (ga_cons (ge_var) (ga_nil)))) (blkOk_by (N := ["wide", "machine", "order", "steps", "weights", "turn", "added", "low", "high", "told", "top", "below", "ends", "at", "both", "one", "more", "end"]) (sc := (defScope s__law_growth_right)) (by decide +kernel)) (fun _ _ _ _ _ => gg_tup2 rfl (gg_name sc__law_growth_right.nd) (gg_name sc__law_growth_right.nd)) (fun _ _ _ _ _ => gts_nil) (fun _ _ _ _ _ => ge_tup (ga_cons (ge_var) (ga_cons (ge_var) (ga_nil))))))) sc__law_growth_right.nd) (gss_one (gs_ret (ge_bf (cr_all rfl) cd_all T.m_all (ga_cons (ge_fz (go_lc (own := [("end", 17)]) rfl sc__law_growth_right.nd (gi_tup (ge_tup (ga_cons (ge_var) (ga_cons (ge_var) (ga_nil))))) (blkOk_by (N := ["wide", "machine", "order", "steps", "weights", "turn", "added", "low", "high", "told", "top", "below", "ends", "at", "both", "one", "more", "end"]) (sc := (defScope s__law_growth_right)) (by decide +kernel)) (fun _ _ _ _ _ => gg_name sc__law_growth_right.nd) (fun _ _ _ _ _ => gts_nil) (fun _ _ _ _ _ => ge_bf (cr_any rfl) cd_any T.m_any (ga_cons (ge_fz (go_lc (own := [("top", 10), ("below", 11)]) rfl sc__law_growth_right.nd (gi_list (ge_var)) (blkOk_by (N := ["wide", "machine", "order", "steps", "weights", "turn", "added", "low", "high", "told", "top", "below", "ends", "at", "both", "one", "more", "end"]) (sc := (relS _ (defScope s__law_growth_right))) (by decide +kernel)) (fun _ _ _ _ _ => gg_tup2 rfl (gg_name sc__law_growth_right.nd) (gg_name sc__law_growth_right.nd)) (fun _ _ _ _ _ => gts_nil) (fun _ _ _ _ _ => ge_cmp (op_eqA hr.units) od_eq (ge_bin op_mulA od_mul (ge_ix (ge_var) (ge_int)) (ge_var)) (ge_bin op_mulA od_mul (ge_var) (ge_ix (ge_var) (ge_int)))))) (ga_nil))))) (ga_nil)))))))))))⟩
def c__law_growth_right : CtP := fun ds P _ => ∃ (w : List Bool) (M : Mc) (o : List Nat) (k : Nat), ds = [wD w, mD M, nL o, .int (k : Nat)] ∧ RingM w o M ∧ w.length ≤ 12 ∧ k ≤ 11 ∧ P (.fz (.bl true))
theorem set_added {PD : PEnds} {s1 s2 s3 s5 s6 s7 s8 s9 s10 s11 s12 s15 s16 s17 : S} {w : List Bool} {W : List Nat} (hw0 : 0 < w.length) (hl : W.length = w.length) (hw : w.length ≤ 1000)
    (h : PD.nx [.fz (wD w), s1, s2, s3, .fz (nL W), s5, .fz (nL (stepL w W)), s7, s8, s9, s10, s11, s12, .un, .un, s15, s16, s17]) :
    mSeq (mSet 6 (mXo (mLc (iEn (mCons (mVar 0) (mNil))) (gT (gCs (gN 13) (gCs (gN 14) (gNl)))) (mYes) (mBin fMul (mBin fAdd (mC (.int 1)) (mBf fInt (mCons (mVar 14) (mNil)))) (mBin fIx (mVar 4) (mBin fMod (mBin fAdd (mVar 13) (mC (.int 1))) (mBf fLen (mCons (mVar 0) (mNil)))))) [13, 14]))) (mFzS 6) PD
      [.fz (wD w), s1, s2, s3, .fz (nL W), s5, s6, s7, s8, s9, s10, s11, s12, .un, .un, s15, s16, s17] := by
  walk_at "ev"
  refine lc_run (ρ1 := [.fz (wD w), s1, s2, s3, .fz (nL W), s5, s6, s7, s8, s9, s10, s11, s12, .un, .un, s15, s16, s17]) (fun _ q => by walk_at "ev"; exact q) (enum_map w) (fun k => ((stepL w W).take k).map nD) (fun _ => [.fz (wD w), s1, s2, s3, .fz (nL W), s5, s6, s7, s8, s9, s10, s11, s12, .un, .un, s15, s16, s17]) ⟨rfl, rfl⟩ (fun k x hk => ?_) ?_
  · obtain ⟨b, hb, rfl⟩ := enum_get hk
    have hkl := get_lt hb
    have hget : (stepL w W)[k]? = some ((1 + w1 (wAt w k)) * W.getD ((k + 1) % w.length) 0) := range_map_get hkl
    have hbe : w1 (wAt w k) = w1 b := by
      unfold wAt
      rw [Nat.mod_eq_of_lt hkl, List.getD_eq_getElem?_getD, hb]; rfl
    walk_at "ev"
    refine ⟨fun _ => ?_, fun z => Bool.noConfusion z⟩
    refine fInt_bl ?_
    have eb : (if b then (1 : Int) else 0) = (w1 b : Nat) := by cases b <;> rfl
    rw [eb]
    rw [fAdd_int]
    refine fLen_lst ?_
    rw [List.length_map]
    rw [show ((k : Nat) : Int) + 1 = ((k + 1 : Nat) : Int) from rfl]
    refine fMod_n hw0 ?_
    refine fIx_n (by rw [hl]; exact Nat.mod_lt _ hw0) ?_
    rw [show (1 : Int) + (w1 b : Nat) = ((1 + w1 b : Nat) : Int) from rfl]
    refine fMul_n (Nat.lt_of_le_of_lt (by unfold w1; split <;> omega : 1 + w1 b ≤ 2) (by decide)) ?_
    refine ⟨sl_lt (by rw [List.length_map, List.length_take, stepL_len]; omega), ?_, rfl⟩
    rw [take_snoc hget, List.map_append, hbe]; rfl
  · rw [zipIdx_len, show w.length = (stepL w W).length by rw [stepL_len], List.take_length]
    walk_at "ev"
    exact h
theorem zip_by {o l m l' m' : List Nat} {n : Nat} (hp : PermN o n) (h : ByL o l l') (h' : ByL o m m') (x : Nat × Nat) : x ∈ l'.zip m' ↔ x ∈ l.zip m := by
  have ho := hp.len
  have get : ∀ {u v : List Nat} {x : Nat × Nat}, x ∈ u.zip v ↔ ∃ i, u[i]? = some x.1 ∧ v[i]? = some x.2 := fun {u v x} => by
    rw [List.mem_iff_getElem?]
    constructor
    · rintro ⟨i, hi⟩
      rw [List.getElem?_zip_eq_some] at hi
      exact ⟨i, hi⟩
    · rintro ⟨i, hi⟩
      exact ⟨i, by rw [List.getElem?_zip_eq_some]; exact hi⟩
  rw [get, get]
  constructor
  · rintro ⟨r, h1, h2⟩
    have hr : r < n := by have := get_lt h1; rw [h.2.1, ho] at this; exact this
    obtain ⟨a, ha⟩ := List.mem_iff_getElem?.mp (hp.mem hr)
    exact ⟨a, by rw [← h.2.2 a r ha]; exact h1, by rw [← h'.2.2 a r ha]; exact h2⟩
  · rintro ⟨a, h1, h2⟩
    have ha : a < o.length := by have := get_lt h1; rw [h.1] at this; exact this
    have e := List.getElem?_eq_getElem ha
    exact ⟨o[a], by rw [h.2.2 a _ e]; exact h1, by rw [h'.2.2 a _ e]; exact h2⟩
theorem gcd_low {t b t' b' : Nat} (hb : 0 < b) (h : t * b' ≤ t' * b) : t / Nat.gcd t b * b' ≤ t' * (b / Nat.gcd t b) := by
  have hg : 0 < Nat.gcd t b := Nat.gcd_pos_of_pos_right _ hb
  have e1 := Nat.div_mul_cancel (Nat.gcd_dvd_left t b)
  have e2 := Nat.div_mul_cancel (Nat.gcd_dvd_right t b)
  generalize Nat.gcd t b = g at hg e1 e2
  generalize t / g = x at e1
  generalize b / g = y at e2
  subst e1 e2
  refine Nat.le_of_mul_le_mul_right (c := g) ?_ hg
  rw [Nat.mul_right_comm, Nat.mul_assoc t' y g]
  exact h
theorem gcd_high {t b t' b' : Nat} (hb : 0 < b) (h : t' * b ≤ t * b') : t' * (b / Nat.gcd t b) ≤ t / Nat.gcd t b * b' := by
  have hg : 0 < Nat.gcd t b := Nat.gcd_pos_of_pos_right _ hb
  have e1 := Nat.div_mul_cancel (Nat.gcd_dvd_left t b)
  have e2 := Nat.div_mul_cancel (Nat.gcd_dvd_right t b)
  generalize Nat.gcd t b = g at hg e1 e2
  generalize t / g = x at e1
  generalize b / g = y at e2
  subst e1 e2
  refine Nat.le_of_mul_le_mul_right (c := g) ?_ hg
  rw [Nat.mul_right_comm x b' g, Nat.mul_assoc t' y g]
  exact h
theorem gcd_same {t b : Nat} (hb : 0 < b) : t / Nat.gcd t b * b = t * (b / Nat.gcd t b) := Nat.le_antisymm (gcd_low hb (Nat.le_refl _)) (gcd_high hb (Nat.le_refl _))
theorem G__law_growth_right (T : Tx K mg a) : FnOk P w K mg base (L2.CX P w) 5 a.f__law_growth_right a.d__law_growth_right ["wide", "machine", "order", "steps"] (spP K c__law_growth_right) :=
  fn_P T.F__law_growth_right sc__law_growth_right (by rintro ds P PX ⟨n, m, _, _, rfl, _⟩; rfl) (bd__law_growth_right T) fun ds P PX h => by
  obtain ⟨w, M, o, k, rfl, hR, hw, hk, hp⟩ := h
  have hw0 := hR.hn
  have hMl := hR.hl
  have hol := hR.hp.len
  have hlen := fun j => gws_len (w := w) (ws := List.replicate w.length 1) (by simp) j
  have hin := fun j => gws_in hw0 j
  unfold m__law_growth_right
  walk_at "ev"
  refine ⟨by decide, ?_⟩
  refine fLen_lst ?_
  rw [List.length_map]
  refine fMul_rep (x := 1) (by omega) ?_
  walk_at "ev"
  refine for_run (fun _ q => by walk_at "ev"; exact ⟨⟨by omega, by omega⟩, q⟩) (range_map k 0 1) (fun j => [.fz (wD w), .fz (mD M), .fz (nL o), .fz (.int (k : Nat)), .fz (nL (itL (gwP w) j (List.replicate w.length 1))), .un, .un, .un, .un, .un, .un, .un, .un, .un, .un, .un, .un, .un]) (by walk_at "wk") (fun j i hj => ?_) ?_
  · obtain ⟨rfl, hlt⟩ := range_get hj
    have hl := hlen i
    have hsu : itL (gwP w) (i + 1) (List.replicate w.length 1) = addL (itL (gwP w) i (List.replicate w.length 1)) (stepL w (itL (gwP w) i (List.replicate w.length 1))) := rfl
    rw [hsu]
    generalize itL (gwP w) i (List.replicate w.length 1) = W at hl
    have hsl : (stepL w W).length = w.length := stepL_len w W
    refine set_added hw0 hl (by omega) ?_
    walk_at "ev"
    refine lc_run (ds := zipD (W.map nD) ((stepL w W).map nD)) (ρ1 := [.fz (wD w), .fz (mD M), .fz (nL o), .fz (.int (k : Nat)), .fz (nL W), .fz (.int (0 + (i : Nat) * 1)), .fz (nL (stepL w W)), .un, .un, .un, .un, .un, .un, .un, .un, .un, .un, .un]) (fun _ q => by walk_at "ev"; exact q) (zip_n W (stepL w W)) (fun j => (((W.zip (stepL w W)).take j).map fun p => p.1 + p.2).map nD) (fun _ => [.fz (wD w), .fz (mD M), .fz (nL o), .fz (.int (k : Nat)), .fz (nL W), .fz (.int (0 + (i : Nat) * 1)), .fz (nL (stepL w W)), .un, .un, .un, .un, .un, .un, .un, .un, .un, .un, .un]) ⟨rfl, rfl⟩ (fun j p hj => ?_) ?_
    · obtain ⟨x, y⟩ := p
      have hjl := get_lt hj
      rw [List.length_zip] at hjl
      walk_at "ev"
      refine ⟨fun _ => ?_, fun z => Bool.noConfusion z⟩
      walk_at "ev"
      refine ⟨sl_lt (by rw [List.length_map, List.length_map, List.length_take]; omega), ?_, rfl⟩
      rw [take_snoc hj, List.map_append, List.map_append]; rfl
    · rw [List.take_length, zip_zipW (f := (· + ·))]
      walk_at "ev"
      exact lp_of (by walk_at "wk")
  · rw [List.length_range]
    have hl := hlen k
    have hi := hin k
    have hby := hR.gws (ByL.rep hR.hp 1) k
    have hst := hR.step hby
    have h3 : 3 ^ k ≤ 3 ^ 11 := Nat.pow_le_pow_right (by decide) hk
    rw [show List.replicate w.length 1 = List.replicate (List.length M) 1 by rw [hMl]] at hby hst
    have hW2 : ∀ x ∈ itL (gwR M) k (List.replicate M.length 1), 1 ≤ x ∧ x ≤ 3 ^ 11 := (hby.all hR.hp).mpr fun x hx => by
      have := hi x (by rw [show List.replicate w.length 1 = List.replicate (List.length M) 1 by rw [hMl]]; exact hx)
      omega
    rw [hMl] at hby hst hW2
    have hS2 : ∀ x ∈ oneL M (itL (gwR M) k (List.replicate w.length 1)), x ≤ 2 * 3 ^ 11 := (hst.all hR.hp).mpr fun x hx => by
      have := stepL_in hw0 hl hi x hx
      omega
    have hz := zip_by hR.hp hst hby
    rw [hMl.symm] at hby hst hW2 hS2 hz
    refine nxt_go ?_
    refine set_added hw0 hl (by omega) ?_
    walk_at "ev"
    refine ⟨M, k, rfl, hR.ok, by omega, by omega, by omega, fun x hx => ⟨(hW2 x hx).1, Nat.lt_of_le_of_lt (hW2 x hx).2 (by decide)⟩, fun x hx => Nat.lt_of_le_of_lt (hS2 x hx) (by decide), fun W' S' eW eS t b t2 b2 m1 h1 m2 h2 => ?_⟩
    rw [← eW] at hby hst hW2 hS2 hz
    rw [← eS] at hst hS2 hz
    rw [hMl] at hby hst hz
    clear hS2 eW eS hW2 hlen hin
    have hsi := stepL_in hw0 hl hi
    have hsl := stepL_len w (itL (gwP w) k (List.replicate w.length 1))
    generalize itL (gwP w) k (List.replicate w.length 1) = W at hby hst hz hsl hsi hl hi
    generalize hSe : stepL w W = S at hst hz hsl hsi
    have hZb : ∀ x y, (x, y) ∈ S.zip W → x ≤ 2 * 3 ^ 11 ∧ 1 ≤ y ∧ y ≤ 3 ^ 11 := fun x y hm => by
      have h1 := hsi x (List.of_mem_zip hm).1
      have h2 := hi y (List.of_mem_zip hm).2
      omega
    have m1 := (hz _).mp m1
    have m2 := (hz _).mp m2
    have b1 := hZb _ _ m1
    have b2' := hZb _ _ m2
    have hA : ∀ x y, (x, y) ∈ S.zip W → t / Nat.gcd t b * y ≤ x * (b / Nat.gcd t b) := fun x y hm => gcd_low b1.2.1 (h1 x y ((hz _).mpr hm))
    have hB : ∀ x y, (x, y) ∈ S.zip W → x * (b2 / Nat.gcd t2 b2) ≤ t2 / Nat.gcd t2 b2 * y := fun x y hm => gcd_high b2'.2.1 (h2 x y ((hz _).mpr hm))
    have hC : ∃ x ∈ S.zip W, t / Nat.gcd t b * x.2 = x.1 * (b / Nat.gcd t b) := ⟨_, m1, gcd_same b1.2.1⟩
    have hD : ∃ x ∈ S.zip W, t2 / Nat.gcd t2 b2 * x.2 = x.1 * (b2 / Nat.gcd t2 b2) := ⟨_, m2, gcd_same b2'.2.1⟩
    have hx1 : t / Nat.gcd t b ≤ 2 * 3 ^ 11 := Nat.le_trans (Nat.div_le_self _ _) b1.1
    have hx2 : t2 / Nat.gcd t2 b2 ≤ 2 * 3 ^ 11 := Nat.le_trans (Nat.div_le_self _ _) b2'.1
    generalize t / Nat.gcd t b = x1 at hA hC hx1
    generalize b / Nat.gcd t b = y1 at hA hC
    generalize t2 / Nat.gcd t2 b2 = x2 at hB hD hx2
    generalize b2 / Nat.gcd t2 b2 = y2 at hB hD
    clear h1 h2 m1 m2 b1 b2' hz hst hsi hi
    have h64 : 2 * 3 ^ 11 < 2 ^ 64 := by decide
    walk_at "ev"
    refine ⟨o, W, w.length, rfl, hR.hp, hl, by omega, fun l hl' => ?_⟩
    obtain rfl := ByL.uniq hR.hp hl' hby
    walk_at "ev"
    refine fNe_nL ?_
    rw [decide_eq_true rfl]
    refine ⟨fun z => Bool.noConfusion z, fun _ => ?_⟩
    walk_at "ev"
    refine for_run (ds := zipD (S.map nD) (W.map nD)) (ρ1 := [.fz (wD w), .fz (mD M), .fz (nL o), .fz (.int (k : Nat)), .fz (nL W), .un, .fz (nL S), .fz (.tup [.int (x1 : Nat), .int (y1 : Nat)]), .fz (.tup [.int (x2 : Nat), .int (y2 : Nat)]), .fz (nL l), .un, .un, .un, .un, .un, .un, .un, .un]) (fun _ q => by walk_at "ev"; exact q) (zip_n S W) (fun _ => [.fz (wD w), .fz (mD M), .fz (nL o), .fz (.int (k : Nat)), .fz (nL W), .un, .fz (nL S), .fz (.tup [.int (x1 : Nat), .int (y1 : Nat)]), .fz (.tup [.int (x2 : Nat), .int (y2 : Nat)]), .fz (nL l), .un, .un, .un, .un, .un, .un, .un, .un]) (by walk_at "wk") (fun j p hj => ?_) ?_
    · obtain ⟨x, y⟩ := p
      have hm := List.mem_of_getElem? hj
      have hb := hZb _ _ hm
      have hA := hA _ _ hm
      have hB := hB _ _ hm
      walk_at "ev"
      refine fIx_tup (k := 0) rfl ?_
      refine fMul_n (by omega) ?_
      refine fIx_tup (k := 1) rfl ?_
      refine fMul_n (by omega) ?_
      rw [fGt_int, dlt, decide_eq_false (by omega)]
      refine ⟨fun z => Bool.noConfusion z, fun _ => ?_⟩
      refine fIx_tup (k := 0) rfl ?_
      refine fMul_n (by omega) ?_
      refine fIx_tup (k := 1) rfl ?_
      refine fMul_n (by omega) ?_
      rw [fLt_int, dlt, decide_eq_false (by omega)]
      refine ⟨fun z => Bool.noConfusion z, fun _ => ?_⟩
      exact lp_of (by walk_at "wk")
    walk_at "ev"
    refine lc_run (ds := zipD (S.map nD) (W.map nD)) (ρ1 := [.fz (wD w), .fz (mD M), .fz (nL o), .fz (.int (k : Nat)), .fz (nL W), .un, .fz (nL S), .fz (.tup [.int (x1 : Nat), .int (y1 : Nat)]), .fz (.tup [.int (x2 : Nat), .int (y2 : Nat)]), .fz (nL l), .un, .un, .un, .un, .un, .un, .un, .un]) (fun _ q => by walk_at "ev"; exact q) (zip_n S W) (fun j => ((S.zip W).take j).map fun p => D.tup [nD p.1, nD p.2]) (fun _ => [.fz (wD w), .fz (mD M), .fz (nL o), .fz (.int (k : Nat)), .fz (nL W), .un, .fz (nL S), .fz (.tup [.int (x1 : Nat), .int (y1 : Nat)]), .fz (.tup [.int (x2 : Nat), .int (y2 : Nat)]), .fz (nL l), .un, .un, .un, .un, .un, .un, .un, .un]) ⟨rfl, rfl⟩ (fun j p hj => ?_) ?_
    · obtain ⟨x, y⟩ := p
      walk_at "ev"
      refine ⟨fun _ => ?_, fun z => Bool.noConfusion z⟩
      walk_at "ev"
      refine ⟨by decide, ?_⟩
      have := acc_map (F := fun p : Nat × Nat => D.tup [nD p.1, nD p.2]) hj rfl (by rw [List.length_zip]; omega)
      exact ⟨this.1, this.2, rfl⟩
    rw [List.take_length]
    walk_at "ev"
    refine lc_run (ds := [(x1, y1), (x2, y2)].map fun p => D.tup [nD p.1, nD p.2]) (ρ1 := [.fz (wD w), .fz (mD M), .fz (nL o), .fz (.int (k : Nat)), .fz (nL W), .un, .fz (nL S), .fz (.tup [.int (x1 : Nat), .int (y1 : Nat)]), .fz (.tup [.int (x2 : Nat), .int (y2 : Nat)]), .fz (nL l), .un, .un, .fz (.lst ((S.zip W).map fun p => D.tup [nD p.1, nD p.2])), .un, .un, .un, .un, .un]) (fun _ q => by walk_at "ev"; exact ⟨by decide, q⟩) rfl (fun j => List.replicate j (D.bl true)) (fun _ => [.fz (wD w), .fz (mD M), .fz (nL o), .fz (.int (k : Nat)), .fz (nL W), .un, .fz (nL S), .fz (.tup [.int (x1 : Nat), .int (y1 : Nat)]), .fz (.tup [.int (x2 : Nat), .int (y2 : Nat)]), .fz (nL l), .un, .un, .fz (.lst ((S.zip W).map fun p => D.tup [nD p.1, nD p.2])), .un, .un, .un, .un, .un]) ⟨rfl, rfl⟩ (fun j p hj => ?_) ?_
    · have hE : p.1 ≤ 2 * 3 ^ 11 ∧ ∃ x ∈ S.zip W, p.1 * x.2 = x.1 * p.2 := by
        have := List.mem_of_getElem? hj
        rcases List.mem_cons.mp this with rfl | this
        · exact ⟨hx1, hC⟩
        · rw [List.mem_singleton.mp this]
          exact ⟨hx2, hD⟩
      have hj2 := get_lt hj
      obtain ⟨u, v⟩ := p
      obtain ⟨hu, hE⟩ := hE
      walk_at "ev"
      refine ⟨fun _ => ?_, fun z => Bool.noConfusion z⟩
      walk_at "ev"
      refine lc_run (ds := (S.zip W).map fun p => D.tup [nD p.1, nD p.2]) (ρ1 := [.fz (wD w), .fz (mD M), .fz (nL o), .fz (.int (k : Nat)), .fz (nL W), .un, .fz (nL S), .fz (.tup [.int (x1 : Nat), .int (y1 : Nat)]), .fz (.tup [.int (x2 : Nat), .int (y2 : Nat)]), .fz (nL l), .un, .un, .fz (.lst ((S.zip W).map fun p => D.tup [nD p.1, nD p.2])), .un, .un, .un, .un, .fz (.tup [nD u, nD v])]) (fun _ q => by walk_at "ev"; exact q) rfl (fun j => ((S.zip W).take j).map fun p => D.bl (decide (u * p.2 = p.1 * v))) (fun _ => [.fz (wD w), .fz (mD M), .fz (nL o), .fz (.int (k : Nat)), .fz (nL W), .un, .fz (nL S), .fz (.tup [.int (x1 : Nat), .int (y1 : Nat)]), .fz (.tup [.int (x2 : Nat), .int (y2 : Nat)]), .fz (nL l), .un, .un, .fz (.lst ((S.zip W).map fun p => D.tup [nD p.1, nD p.2])), .un, .un, .un, .un, .fz (.tup [nD u, nD v])]) ⟨rfl, rfl⟩ (fun i p hi => ?_) ?_
      · have hm := List.mem_of_getElem? hi
        obtain ⟨x, y⟩ := p
        have hb := hZb _ _ hm
        walk_at "ev"
        refine ⟨fun _ => ?_, fun z => Bool.noConfusion z⟩
        walk_at "ev"
        refine fIx_tup (k := 0) rfl ?_
        refine fMul_n (by omega) ?_
        refine fIx_tup (k := 1) rfl ?_
        refine fMul_n (by omega) ?_
        rw [fEq_int, deqn]
        have := acc_map (F := fun p : Nat × Nat => D.bl (decide (u * p.2 = p.1 * v))) hi rfl (by rw [List.length_zip]; omega)
        exact ⟨this.1, this.2, rfl⟩
      rw [List.take_length]
      walk_at "ev"
      have hany : ((S.zip W).map fun p => decide (u * p.2 = p.1 * v)).any id = true := by
        obtain ⟨x, hx, e⟩ := hE
        rw [List.any_eq_true]
        exact ⟨true, List.mem_map.mpr ⟨x, hx, decide_eq_true e⟩, rfl⟩
      refine ⟨(S.zip W).map fun p => decide (u * p.2 = p.1 * v), by rw [show ((S.zip W).map fun p => D.bl (decide (u * p.2 = p.1 * v))) = ((S.zip W).map fun p => decide (u * p.2 = p.1 * v)).map D.bl by rw [List.map_map]; rfl, blsOf_map], ?_⟩
      rw [hany]
      refine ⟨sl_lt (by rw [List.length_replicate]; have : j < 2 := hj2; omega), ?_, rfl⟩
      show List.replicate j (D.bl true) ++ [D.bl true] = List.replicate (j + 1) (D.bl true)
      rw [List.replicate_succ']
    walk_at "ev"
    exact ⟨[true, true], rfl, hp⟩

def m__law_fours_right : MS := mSeq (mSet 1 (mXe (mBin fIx (mCallM c__law_ring 0 (mCons (mBin fMul (mFz (mLst (mCons (mC (.bl true)) (mNil)))) (mC (.int 4))) (mNil))) (mC (.int 1))))) (mSeq (mPar3 2 3 4 (mXo (mRep (mFz (mLst (mCons (mC .non) (mNil)))) (mC (.int 4)))) (mXe (mCallM c__law_take 0 (mCons (mC (.int 2)) (mNil)))) (mXe (mBin fIx (mFz (mLst (mCons (mC (.int 1)) (mCons (mC (.int 3)) (mNil))))) (mCallM c__law_take 0 (mCons (mC (.int 2)) (mNil)))))) (mSeq (mFor (iEn (mCons (mVar 1) (mNil))) (gT (gCs (gN 5) (gCs (gN 6) (gNl)))) (mSeq (mSet 7 (mXe (mBin fIx (mVar 1) (mBin fMod (mBin fAdd (mVar 5) (mVar 4)) (mC (.int 4)))))) (mSub 2 (mIf (mTst (mBin fEq (mVar 3) (mC (.int 1)))) (mTup (mCons (mVar 6) (mCons (mVar 7) (mNil)))) (mTup (mCons (mVar 7) (mCons (mVar 6) (mNil))))) (mVar 6)))) (mSeq (mPar2 8 6 (mXe (mBf fTup (mCons (mVar 2) (mNil)))) (mXe (mCallM c__law_of_order 0 (mCons (mVar 1) (mNil))))) (mSeq (mFor (iT (mTup (mCons (mC (.int 4)) (mCons (mC (.int 12)) (mCons (mBin fAdd (mBin fMul (mC (.int 8)) (mBin fAdd (mC (.int 12)) (mCallM c__law_take 0 (mCons (mC (.int 24)) (mNil))))) (mC (.int 4))) (mCons (mBin fAdd (mBin fMul (mC (.int 8)) (mCallM c__law_take 0 (mCons (mC (.int 30)) (mNil)))) (mC (.int 8))) (mCons (mBin fAdd (mC (.int 2)) (mBin fMul (mC (.int 4)) (mCallM c__law_take 0 (mCons (mC (.int 60)) (mNil))))) (mNil)))))))) (gN 9) (mIfS (mTst (mBin fNe (mCall c_bits_for (mCons (mVar 8) (mCons (mVar 6) (mCons (mVar 9) (mNil))))) (mBin fSub (mBin fSub (mVar 9) (mC (.int 2))) (mBf fInt (mCons (mBin fEq (mBin fMod (mVar 9) (mC (.int 8))) (mC (.int 4))) (mNil)))))) (mRet (mC (.bl false))) (mNx))) (mSeq (mSet 9 (mXe (mBin fAdd (mBin fMul (mC (.int 8)) (mBin fAdd (mC (.int 12)) (mCallM c__law_take 0 (mCons (mC (.int 5)) (mNil))))) (mC (.int 4))))) (mSeq (mFor (iT (mTup (mCons (mBin fMul (mC (.str "1")) (mBin fSub (mVar 9) (mC (.int 3)))) (mCons (mBin fAdd (mBin fMul (mC (.str "0")) (mBin fSub (mVar 9) (mC (.int 4)))) (mC (.str "1"))) (mCons (mBin fAdd (mC (.str "1")) (mBin fMul (mC (.str "01")) (mBin fDiv (mBin fSub (mVar 9) (mC (.int 4))) (mC (.int 2))))) (mNil)))))) (gN 10) (mSeq (mSet 11 (mXe (mCall c_table_written (mCons (mVar 8) (mCons (mVar 6) (mCons (mVar 9) (mCons (mVar 10) (mNil)))))))) (mIfS (mOrT (mTst (mBin fNe (mBf fLen (mCons (mVar 11) (mNil))) (mVar 9))) (mTst (mBin fNe (mCall c_table_read (mCons (mVar 8) (mCons (mVar 6) (mCons (mVar 9) (mCons (mVar 11) (mNil)))))) (mVar 10)))) (mRet (mC (.bl false))) (mNx)))) (mSeq (mSet 12 (mXe (mFz (mLst (mCons (mC (.int 1)) (mCons (mC (.int 0)) (mCons (mC (.int 0)) (mCons (mC (.int 0)) (mNil))))))))) (mSeq (mPar2 13 14 (mXo (mLst (mNil))) (mXe (mCallM c__law_take 0 (mCons (mC (.int 50)) (mNil))))) (mSeq (mWhile (mOrT (mTst (mCmpV fEq 13 (mFz (mLst (mNil))))) (mTst (mBin fLt (mIxV 13 (mNeg (mC (.int 1)))) (mBin fShl (mC (.int 1)) (mVar 14))))) (mSeq (mSet 12 (mXe (mFz (mLc (iR1 (mCons (mC (.int 4)) (mNil))) (gN 5) (mYes) (mBin fAdd (mBin fIx (mVar 12) (mVar 5)) (mBin fIx (mVar 12) (mBin fSub (mVar 5) (mC (.int 1))))) [5])))) (mEx (mMt fApp 13 (mCons (mBin fIx (mVar 12) (mC (.int 0))) (mNil)))))) (mSeq (mSet 15 (mXe (mCall c_least_many (mCons (mVar 8) (mCons (mVar 6) (mCons (mVar 14) (mCons (mC (.int 80)) (mNil)))))))) (mRet (mAndV (mBin fIsNot (mVar 15) (mC .non)) (mBin fEq (mBf fTup (mCons (mVar 15) (mNil))) (mTup (mCons (mLenV 13) (mCons (mVar 13) (mNil)))))))))))))))))
theorem bd__law_fours_right (T : Tx K mg a) : Bd P w K mg base 7 ["box", "order", "rooms", "bit", "back", "at", "room", "on", "machine", "many", "bits", "row", "some", "due", "p", "found"] s__law_fours_right m__law_fours_right := ⟨fun qual f cdv A outer s H E hr tk pw =>
  gss_cons (gs_set (gx_e (ge_ix (ge_callM (G__law_ring T) (hr.mono (by decide)) T.g__law_ring T.F__law_ring.kp T.b__law_ring tk (ga_cons (ge_bin op_mulA od_mul (ge_fz (go_lst (ga_cons (ge_bl) (ga_nil)))) (ge_int)) (ga_nil))) (ge_int))) sc__law_fours_right.nd) (gss_cons (gs_par3 rfl sc__law_fours_right.nd (gx_o (go_rep (ge_fz (go_lst (ga_cons (ge_non) (ga_nil)))) (ge_int))) (gx_e (ge_callM (G__law_take T) (hr.mono (by decide)) T.g__law_take T.F__law_take.kp T.b__law_take tk (ga_cons (ge_int) (ga_nil)))) (gx_e (ge_ix (ge_fz (go_lst (ga_cons (ge_int) (ga_cons (ge_int) (ga_nil))))) (ge_callM (G__law_take T) (hr.mono (by decide)) T.g__law_take T.F__law_take.kp T.b__law_take tk (ga_cons (ge_int) (ga_nil)))))) (gss_cons (gs_for pw rfl (gi_enum T.m_enumerate (ga_cons (ge_var) (ga_nil))) (gg_tup2 rfl (gg_name sc__law_fours_right.nd) (gg_name sc__law_fours_right.nd)) (gss_cons (gs_set (gx_e (ge_ix (ge_var) (ge_bin op_mod od_mod (ge_bin op_addA od_add (ge_var) (ge_var)) (ge_int)))) sc__law_fours_right.nd) (gss_one (gs_sub (ge_if (gt_cmp (op_eqA hr.units) od_eq (ge_var) (ge_int)) (ge_tup (ga_cons (ge_var) (ga_cons (ge_var) (ga_nil)))) (ge_tup (ga_cons (ge_var) (ga_cons (ge_var) (ga_nil))))) (ge_var))))) (gss_cons (gs_par2 rfl sc__law_fours_right.nd (gx_e (ge_bt call_tuple_of cd_tup T.m_tuple (ga_cons (ge_var) (ga_nil)))) (gx_e (ge_callM (G__law_of_order T) (hr.mono (by decide)) T.g__law_of_order T.F__law_of_order.kp T.b__law_of_order tk (ga_cons (ge_var) (ga_nil))))) (gss_cons (gs_for pw rfl (gi_tup (ge_tup (ga_cons (ge_int) (ga_cons (ge_int) (ga_cons (ge_bin op_addA od_add (ge_bin op_mulA od_mul (ge_int) (ge_bin op_addA od_add (ge_int) (ge_callM (G__law_take T) (hr.mono (by decide)) T.g__law_take T.F__law_take.kp T.b__law_take tk (ga_cons (ge_int) (ga_nil))))) (ge_int)) (ga_cons (ge_bin op_addA od_add (ge_bin op_mulA od_mul (ge_int) (ge_callM (G__law_take T) (hr.mono (by decide)) T.g__law_take T.F__law_take.kp T.b__law_take tk (ga_cons (ge_int) (ga_nil)))) (ge_int)) (ga_cons (ge_bin op_addA od_add (ge_int) (ge_bin op_mulA od_mul (ge_int) (ge_callM (G__law_take T) (hr.mono (by decide)) T.g__law_take T.F__law_take.kp T.b__law_take tk (ga_cons (ge_int) (ga_nil))))) (ga_nil)))))))) (gg_name sc__law_fours_right.nd) (gss_one (gs_if (gt_cmp (op_neA hr.units) od_ne (ge_call (G_bits_for T) (hr.mono (by decide)) T.g_bits_for T.F_bits_for.kp T.b_bits_for tk (ga_cons (ge_var) (ga_cons (ge_var) (ga_cons (ge_var) (ga_nil))))) (ge_bin op_sub od_sub (ge_bin op_sub od_sub (ge_var) (ge_int)) (ge_bt call_intA cd_int T.m_int (ga_cons (ge_cmp (op_eqA hr.units) od_eq (ge_bin op_mod od_mod (ge_var) (ge_int)) (ge_int)) (ga_nil))))) (gss_one (gs_ret (ge_bl))) (gss_nil)))) (gss_cons (gs_set (gx_e (ge_bin op_addA od_add (ge_bin op_mulA od_mul (ge_int) (ge_bin op_addA od_add (ge_int) (ge_callM (G__law_take T) (hr.mono (by decide)) T.g__law_take T.F__law_take.kp T.b__law_take tk (ga_cons (ge_int) (ga_nil))))) (ge_int))) sc__law_fours_right.nd) (gss_cons (gs_for pw rfl (gi_tup (ge_tup (ga_cons (ge_bin op_mulA od_mul (ge_str) (ge_bin op_sub od_sub (ge_var) (ge_int))) (ga_cons (ge_bin op_addA od_add (ge_bin op_mulA od_mul (ge_str) (ge_bin op_sub od_sub (ge_var) (ge_int))) (ge_str)) (ga_cons (ge_bin op_addA od_add (ge_str) (ge_bin op_mulA od_mul (ge_str) (ge_bin op_fdivW od_div (ge_bin op_sub od_sub (ge_var) (ge_int)) (ge_int)))) (ga_nil)))))) (gg_name sc__law_fours_right.nd) (gss_cons (gs_set (gx_e (ge_call (G_table_written T) (hr.mono (by decide)) T.g_table_written T.F_table_written.kp T.b_table_written tk (ga_cons (ge_var) (ga_cons (ge_var) (ga_cons (ge_var) (ga_cons (ge_var) (ga_nil))))))) sc__law_fours_right.nd) (gss_one (gs_if (gt_w (gw_or (gt_cmp (op_neA hr.units) od_ne (ge_bf call_len cd_len T.m_len (ga_cons (ge_var) (ga_nil))) (ge_var)) (gw_or1 (gt_cmp (op_neA hr.units) od_ne (ge_call (G_table_read T) (hr.mono (by decide)) T.g_table_read T.F_table_read.kp T.b_table_read tk (ga_cons (ge_var) (ga_cons (ge_var) (ga_cons (ge_var) (ga_cons (ge_var) (ga_nil)))))) (ge_var))))) (gss_one (gs_ret (ge_bl))) (gss_nil))))) (gss_cons (gs_set (gx_e (ge_fz (go_lst (ga_cons (ge_int) (ga_cons (ge_int) (ga_cons (ge_int) (ga_cons (ge_int) (ga_nil)))))))) sc__law_fours_right.nd) (gss_cons (gs_par2 rfl sc__law_fours_right.nd (gx_o (go_lst (ga_nil))) (gx_e (ge_callM (G__law_take T) (hr.mono (by decide)) T.g__law_take T.F__law_take.kp T.b__law_take tk (ga_cons (ge_int) (ga_nil))))) (gss_cons (gs_while pw (gt_w (gw_or (gt_cmpV (op_eqA hr.units) oc_eq (ge_fz (go_lst (ga_nil)))) (gw_or1 (gt_cmp op_ltA od_lt (ge_ixv (ge_neg (ge_int))) (ge_bin op_shlW od_shl (ge_int) (ge_var)))))) (gss_cons (gs_set (gx_e (ge_fz (go_lc (own := [("at", 5)]) rfl sc__law_fours_right.nd (gi_range1 T.m_range (ga_cons (ge_int) (ga_nil))) (blkOk_by (N := ["box", "order", "rooms", "bit", "back", "at", "room", "on", "machine", "many", "bits", "row", "some", "due", "p", "found"]) (sc := (defScope s__law_fours_right)) (by decide +kernel)) (fun _ _ _ _ _ => gg_name sc__law_fours_right.nd) (fun _ _ _ _ _ => gts_nil) (fun _ _ _ _ _ => ge_bin op_addA od_add (ge_ix (ge_var) (ge_var)) (ge_ix (ge_var) (ge_bin op_sub od_sub (ge_var) (ge_int))))))) sc__law_fours_right.nd) (gss_one (gs_expr (ge_mut PySem.F.slot_list_append PySem.F.type_list_append (MtM.r mt_append) md_app (ga_cons (ge_ix (ge_var) (ge_int)) (ga_nil))))))) (gss_cons (gs_set (gx_e (ge_call (G_least_many T) (hr.mono (by decide)) T.g_least_many T.F_least_many.kp T.b_least_many tk (ga_cons (ge_var) (ga_cons (ge_var) (ga_cons (ge_var) (ga_cons (ge_int) (ga_nil))))))) sc__law_fours_right.nd) (gss_one (gs_ret (ge_and (ge_cmp op_isNotA od_isnot (ge_var) (ge_non)) (ge_one (ge_cmp (op_eqA hr.units) od_eq (ge_bt call_tuple_of cd_tup T.m_tuple (ga_cons (ge_var) (ga_nil))) (ge_tup (ga_cons (ge_lenv T.m_len) (ga_cons (ge_var) (ga_nil)))))))))))))))))))⟩
def c__law_fours_right : CtM := fun c0 ds P _ => ∃ N : Nat, ds = [] ∧ Box c0 N ∧ N ≤ 10000 ∧ ∀ c' : C, Box c' (N + 1000) → P (.fz (.bl true)) c'
theorem write_parts {M : Mc} (ok : M.Ok) {g n p q : Nat} {l : List Bool} (hg : g < M.length) (hp0 : 0 < p) (hl : l.length = p * q) (hc : 2 ^ p ≤ tb M g n g) {i : Nat} (hi : i < q) :
    ∃ x w : List Bool, (partsM p l)[i]? = some x ∧ x = (l.drop (i * p)).take p ∧ x.length = p ∧ (writeM M g n p l)[i]? = some w ∧ w.length = n ∧ goM M g w = some g ∧ rkM M g g w = vlB x ∧ vlB x < 2 ^ p := by
  have hw := partsM_whole hp0 hl
  have h1 := partsM_get (c := p) (l := l) (i := i) (by omega)
  have hx : ((l.drop (i * p)).take p).length = p := by
    rw [List.length_take, List.length_drop, hl]
    have : p * (i + 1) ≤ p * q := Nat.mul_le_mul_left _ hi
    rw [Nat.mul_succ, Nat.mul_comm p i] at this
    omega
  have hv := vl_lt ((l.drop (i * p)).take p)
  rw [hx] at hv
  have ho := rowAt_ok ok g n g (vlB ((l.drop (i * p)).take p)) hg (by omega)
  exact ⟨_, _, h1, rfl, hx, by unfold writeM; rw [List.getElem?_map, h1]; rfl, rowAt_len _ _ _ _ _, ho.1, ho.2, hv⟩
theorem write_back {M : Mc} (ok : M.Ok) {g n p q : Nat} {l : List Bool} (hg : g < M.length) (hn0 : 0 < n) (hp0 : 0 < p) (hl : l.length = p * q) (hpow : 2 ^ p ≤ tb M g n g) :
    (writeM M g n p l).flatten.length = n * q ∧ (∀ x ∈ partsM n (writeM M g n p l).flatten, GoodB M g n p x) ∧ ((partsM n (writeM M g n p l).flatten).map fun x => bitsN (rkM M g g x) p).flatten = l := by
  have hws : (writeM M g n p l).length = q := by rw [writeM, List.length_map, partsM_whole hp0 hl]
  have hwl : ∀ x ∈ writeM M g n p l, x.length = n := fun x hx => by obtain ⟨y, _, rfl⟩ := List.mem_map.mp hx; exact rowAt_len _ _ _ _ _
  have hrp : partsM n (writeM M g n p l).flatten = writeM M g n p l := parts_flat hn0 hwl
  refine ⟨by rw [flat_len hwl, hws], ?_, ?_⟩
  · rw [hrp]
    intro x hx
    obtain ⟨i, hi⟩ := List.mem_iff_getElem?.mp hx
    obtain ⟨y, w, _, _, _, h4, h5, h6, h7, h8⟩ := write_parts ok hg hp0 hl hpow (by rw [← hws]; exact get_lt hi)
    rw [hi] at h4
    cases h4
    exact ⟨h5, h6, by omega⟩
  · rw [hrp]
    have : ((writeM M g n p l).map fun x => bitsN (rkM M g g x) p) = partsM p l := by
      apply List.ext_getElem?
      intro i
      by_cases hi : i < q
      · obtain ⟨y, w, h1, _, h3, h4, h5, h6, h7, h8⟩ := write_parts ok hg hp0 hl hpow hi
        rw [List.getElem?_map, h4, h1]
        show some (bitsN (rkM M g g w) p) = some y
        rw [h7, ← h3, bitsN_vl]
      · rw [List.getElem?_eq_none (by rw [List.length_map, hws]; omega), List.getElem?_eq_none (by rw [partsM_whole hp0 hl]; omega)]
    rw [this, flat_partsM hp0 hl]
theorem fTup_lst {ds : List D} {P : D → Prop} (h : P (.tup ds)) : fTup [.lst ds] P := h
theorem fours_body {PD : PEnds} {s0 s1 s2 s3 s4 s6 s7 s8 s9 s10 s11 s14 s15 : S} (k : Nat) (l : List Nat) (hl : l.length ≤ 1000)
    (h : PD.nx [s0, s1, s2, s3, s4, .un, s6, s7, s8, s9, s10, s11, .fz (nL (frL (k + 1))), .ow none (.lst ((l ++ [fr (k + 1) 0]).map nD)), s14, s15]) :
    mSeq (mSet 12 (mXe (mFz (mLc (iR1 (mCons (mC (.int 4)) (mNil))) (gN 5) (mYes) (mBin fAdd (mBin fIx (mVar 12) (mVar 5)) (mBin fIx (mVar 12) (mBin fSub (mVar 5) (mC (.int 1))))) [5])))) (mEx (mMt fApp 13 (mCons (mBin fIx (mVar 12) (mC (.int 0))) (mNil)))) PD
      [s0, s1, s2, s3, s4, .un, s6, s7, s8, s9, s10, s11, .fz (nL (frL k)), .ow none (.lst (l.map nD)), s14, s15] := by
  walk_at "ev"
  refine lc_run (ds := rngD 0 1 4) (ρ1 := [s0, s1, s2, s3, s4, .un, s6, s7, s8, s9, s10, s11, .fz (nL (frL k)), .ow none (.lst (l.map nD)), s14, s15]) (fun _ q => by walk_at "ev"; exact ⟨⟨by decide, by decide⟩, q⟩) (range_map 4 0 1) (fun i => ((frL (k + 1)).take i).map nD) (fun _ => [s0, s1, s2, s3, s4, .un, s6, s7, s8, s9, s10, s11, .fz (nL (frL k)), .ow none (.lst (l.map nD)), s14, s15]) ⟨rfl, rfl⟩ (fun i x hi => ?_) ?_
  · obtain ⟨rfl, hlt⟩ := range_get hi
    rw [frL_succ]
    walk_at "ev"
    refine ⟨fun _ => ?_, fun z => Bool.noConfusion z⟩
    walk_at "ev"
    rcases (by omega : x = 0 ∨ x = 1 ∨ x = 2 ∨ x = 3) with rfl | rfl | rfl | rfl
    · refine fIx_n (i := 0) (by show 0 < 4; decide) ?_
      refine fIx_neg1 (l := [fr k 0, fr k 1, fr k 2]) (x := fr k 3) ?_
      exact ⟨by show 0 < sizeLine; decide, rfl, rfl⟩
    · refine fIx_n (i := 1) (by show 1 < 4; decide) ?_
      refine fIx_n (i := 0) (by show 0 < 4; decide) ?_
      exact ⟨by show 1 < sizeLine; decide, rfl, rfl⟩
    · refine fIx_n (i := 2) (by show 2 < 4; decide) ?_
      refine fIx_n (i := 1) (by show 1 < 4; decide) ?_
      exact ⟨by show 2 < sizeLine; decide, rfl, rfl⟩
    · refine fIx_n (i := 3) (by show 3 < 4; decide) ?_
      refine fIx_n (i := 2) (by show 2 < 4; decide) ?_
      exact ⟨by show 3 < sizeLine; decide, rfl, rfl⟩
  · rw [List.length_range, show (frL (k + 1)).take 4 = frL (k + 1) from rfl]
    walk_at "ev"
    refine fIx_n (i := 0) (by show 0 < 4; decide) ?_
    refine ⟨sl_lt (by rw [List.length_map]; omega), ?_⟩
    rw [List.map_append] at h
    exact h
theorem G__law_fours_right (T : Tx K mg a) : FnOk P w K mg base (L2.CX P w) 8 a.f__law_fours_right a.d__law_fours_right ["box"] (spM K c__law_fours_right) :=
  fn_M T.F__law_fours_right sc__law_fours_right (by rintro c0 ds P PX ⟨n, rfl, _⟩; rfl) (bd__law_fours_right T) fun pp c0 ds P PX h => by
  obtain ⟨N, rfl, hB, hN, hp⟩ := h
  unfold m__law_fours_right
  walk_at "ev"
  refine ⟨by decide, ?_⟩
  refine fMul_repB (n := 4) (b := true) (by decide) ?_
  walk_at "ev"
  refine ⟨N, List.replicate 4 true, rfl, hB, by omega, by decide, by decide, fun o M0 c1 hR0 hB1 => ?_⟩
  have hpo : PermN o 4 := hR0.hp
  have hol := hpo.len
  clear hR0
  walk_at "ev"
  refine fIx_tup (k := 1) rfl ?_
  walk_at "ev"
  refine ⟨by decide, by decide, by decide, by decide, ?_⟩
  refine ⟨_, 2, rfl, hB1, by omega, few (by decide) (by decide), fun r1 c2 hr1 hB2 => ?_⟩
  walk_at "ev"
  refine ⟨by decide, ?_⟩
  refine ⟨_, 2, rfl, hB2, by omega, few (by decide) (by decide), fun r2 c3 hr2 hB3 => ?_⟩
  walk_at "ev"
  refine fIx_two hr2 fun v hv => ?_
  obtain ⟨back, rfl, hb⟩ : ∃ b : Nat, v = .int (b : Nat) ∧ (b = 1 ∨ b = 3) := by
    rcases hv with rfl | rfl
    · exact ⟨1, rfl, .inl rfl⟩
    · exact ⟨3, rfl, .inr rfl⟩
  clear hv
  have hB3 : Box c3 (N + 202) := hB3
  have hstart : Made4 o back 0 [.non, .non, .non, .non] := ⟨rfl, fun b r h => absurd h (Nat.not_lt_zero _)⟩
  walk_at "ev"
  refine for_inv (ρ1 := [.ow (some pp) c3, .fz (nL o), .ow none (.lst [.non, .non, .non, .non]), .fz (.int (r1 : Nat)), .fz (.int (back : Nat)), .un, .un, .un, .un, .un, .un, .un, .un, .un, .un, .un]) (fun _ q => by walk_at "ev"; exact q) (enum_map o) (fun k ρ => ∃ rs : List D, ρ = [.ow (some pp) c3, .fz (nL o), .ow none (.lst rs), .fz (.int (r1 : Nat)), .fz (.int (back : Nat)), .un, .un, .un, .un, .un, .un, .un, .un, .un, .un, .un] ∧ Made4 o back k rs) ⟨_, by walk_at "wk", _, rfl, hstart⟩ (fun k x ρ hk hI => ?_) (fun ρ hI => ?_)
  · obtain ⟨r, hr, rfl⟩ := enum_get hk
    obtain ⟨rs, rfl, hM⟩ := hI
    have hkl := get_lt hr
    have hm4 : (k + back) % 4 < o.length := by rw [hol]; exact Nat.mod_lt _ (by decide)
    walk_at "ev"
    rw [show ((k : Nat) : Int) + (back : Nat) = ((k + back : Nat) : Int) from rfl]
    refine fMod_n (y := 4) (by decide) ?_
    refine fIx_n hm4 ?_
    walk_at "ev"
    refine ⟨fun z => ?_, fun z => ?_⟩
    · walk_at "ev"
      refine ⟨by decide, ?_⟩
      refine ⟨r, ixN_nat (by rw [hM.1]; exact hpo.lt (List.mem_of_getElem? hr)), ?_⟩
      walk_at "ev"
      exact ⟨_, by walk_at "wk", _, rfl, hM.set (d := (some r, some (o.getD ((k + back) % 4) 0))) hpo hr (.inl rfl)⟩
    · walk_at "ev"
      refine ⟨by decide, ?_⟩
      refine ⟨r, ixN_nat (by rw [hM.1]; exact hpo.lt (List.mem_of_getElem? hr)), ?_⟩
      walk_at "ev"
      exact ⟨_, by walk_at "wk", _, rfl, hM.set (d := (some (o.getD ((k + back) % 4) 0), some r)) hpo hr (.inr rfl)⟩
  obtain ⟨rs, rfl, hM⟩ := hI
  rw [zipIdx_len, hol] at hM
  obtain ⟨M, rfl, hF⟩ := hM.done hpo hb
  have hMl := hF.hl
  have ok := hF.ok
  clear hM
  walk_at "ev"
  refine fTup_lst ?_
  walk_at "ev"
  refine ⟨_, o, rfl, hB3, by omega, by omega, by omega, fun at' g c4 ha hB4 => ?_⟩
  have hg : g < 4 := hpo.lt (List.mem_of_getElem? ha)
  have htb := hF.rounds ha
  walk_at "ev"
  refine ⟨_, 24, rfl, hB4, by omega, few (by decide) (by decide), fun r3 c5 hr3 hB5 => ?_⟩
  walk_at "ev"
  refine fMul_small ⟨by decide, by decide⟩ ?_
  walk_at "ev"
  refine ⟨_, 30, rfl, hB5, by omega, few (by decide) (by decide), fun r4 c6 hr4 hB6 => ?_⟩
  walk_at "ev"
  refine fMul_small ⟨by decide, by decide⟩ ?_
  walk_at "ev"
  refine ⟨_, 60, rfl, hB6, by omega, few (by decide) (by decide), fun r5 c7 hr5 hB7 => ?_⟩
  walk_at "ev"
  refine fMul_small ⟨by decide, by decide⟩ ?_
  walk_at "ev"
  have hB7 : Box c7 (N + 206) := hB7
  refine ⟨by decide, ?_⟩
  refine ⟨fun k ρ => ρ = [.ow (some pp) c7, .fz (nL o), .un, .fz (.int (r1 : Nat)), .fz (.int (back : Nat)), .un, .fz (.int (g : Nat)), .un, .fz (mD M), .un, .un, .un, .un, .un, .un, .un], ⟨_, by walk_at "wk", rfl⟩, fun k hk ρ hI => ?_, fun ρ hI => ?_⟩
  · obtain rfl := hI
    obtain ⟨m, em, hm1, hm2⟩ : ∃ m : Nat, [D.int 4, D.int 12, D.int (8 * (12 + (r3 : Nat)) + 4), D.int (8 * (r4 : Nat) + 8), D.int (2 + 4 * (r5 : Nat))][k] = D.int (m : Nat) ∧ Kind4 m ∧ m ≤ 400 := by
      have hk3 : k < 5 := hk
      rcases (by omega : k = 0 ∨ k = 1 ∨ k = 2 ∨ k = 3 ∨ k = 4) with rfl | rfl | rfl | rfl | rfl
      · exact ⟨4, rfl, .inl ⟨0, rfl⟩, by omega⟩
      · exact ⟨12, rfl, .inl ⟨1, rfl⟩, by omega⟩
      · exact ⟨8 * (12 + r3) + 4, rfl, .inl ⟨12 + r3, rfl⟩, by omega⟩
      · exact ⟨8 * r4 + 8, rfl, .inr (.inl ⟨r4, rfl⟩), by omega⟩
      · exact ⟨2 + 4 * r5, rfl, .inr (.inr ⟨r5, by omega⟩), by omega⟩
    generalize [D.int 4, D.int 12, D.int (8 * (12 + (r3 : Nat)) + 4), D.int (8 * (r4 : Nat) + 8), D.int (2 + 4 * (r5 : Nat))][k] = dd at em
    subst em
    obtain ⟨k1, k2⟩ := kind_bits hm1
    have ht := htb m
    walk_at "ev"
    refine ⟨M, g, m, rfl, ok, by omega, by omega, by omega, fun z => absurd z (by rw [ht]; omega), fun _ => ?_⟩
    rw [ht, k2]
    walk_at "ev"
    refine fMod_n (y := 8) (by decide) ?_
    have e4 : decide (((m % 8 : Nat) : Int) = 4) = decide (m % 8 = 4) := by rw [Bool.eq_iff_iff, decide_eq_true_iff, decide_eq_true_iff]; omega
    rw [fEq_int, e4]
    refine fInt_bl ?_
    rw [fSub_int, fNe_int, show (if decide (m % 8 = 4) = true then (1 : Int) else 0) = (if m % 8 = 4 then 1 else 0) by by_cases y : m % 8 = 4 <;> simp [y], decide_eq_true rfl]
    walk_at "ev"
    refine ⟨fun z => Bool.noConfusion z, fun _ => ?_⟩
    exact lp_of (by walk_at "wk")
  obtain rfl := hI
  walk_at "ev"
  refine ⟨_, 5, rfl, hB7, by omega, few (by decide) (by decide), fun r6 c8 hr6 hB8 => ?_⟩
  walk_at "ev"
  refine fMul_small ⟨by decide, by decide⟩ ?_
  walk_at "ev"
  obtain ⟨n, t, hn, hnt, ht1, ht2⟩ : ∃ n t : Nat, (8 : Int) * (12 + (r6 : Nat)) + 4 = (n : Nat) ∧ n = 8 * t + 4 ∧ 12 ≤ t ∧ t ≤ 16 := ⟨8 * (12 + r6) + 4, 12 + r6, rfl, rfl, by omega, by omega⟩
  rw [hn]
  clear hn
  have hlog : (tb M g n g).log2 = n - 3 ∧ 2 ^ (n - 3) ≤ tb M g n g := by
    rw [htb n, hnt, show 8 * t + 4 - 3 = 8 * t + 1 by omega]
    exact fr_log_a t
  obtain ⟨hlog, hpow⟩ := hlog
  have hpos : 0 < tb M g n g := by have := Nat.two_pow_pos (n - 3); omega
  have h4 : (n - 4) / 2 * 2 = n - 4 := by omega
  have hB8 : Box c8 (N + 207) := hB8
  refine for_run (ds := [List.replicate (n - 3) true, List.replicate (n - 4) false ++ [true], [true] ++ (List.replicate ((n - 4) / 2) [false, true]).flatten].map fun l => D.str (bs l)) (ρ1 := [.ow (some pp) c8, .fz (nL o), .un, .fz (.int (r1 : Nat)), .fz (.int (back : Nat)), .un, .fz (.int (g : Nat)), .un, .fz (mD M), .fz (.int (n : Nat)), .un, .un, .un, .un, .un, .un]) (fun _ y => by
    walk_at "ev"
    rw [show ((n : Nat) : Int) - 3 = ((n - 3 : Nat) : Int) by omega, s_1]
    refine fMul_sb (by omega) ?_
    walk_at "ev"
    rw [show ((n : Nat) : Int) - 4 = ((n - 4 : Nat) : Int) by omega, s_0]
    refine fMul_sb (by omega) ?_
    refine fAdd_bs (b := [true]) (by rw [List.length_replicate]; show n - 4 + 1 ≤ _; omega) ?_
    refine fDiv_n (y := 2) (by decide) (by decide) ?_
    refine fMul_bsl (l := [false, true]) (by decide) (by decide) (by omega) ?_
    refine fAdd_bs (a := [true]) (by rw [rep2_len]; show 1 + _ ≤ _; omega) ?_
    exact ⟨by decide, y⟩) rfl (fun _ => [.ow (some pp) c8, .fz (nL o), .un, .fz (.int (r1 : Nat)), .fz (.int (back : Nat)), .un, .fz (.int (g : Nat)), .un, .fz (mD M), .fz (.int (n : Nat)), .un, .un, .un, .un, .un, .un]) (by walk_at "wk") (fun k l hk => ?_) ?_
  · have hll : l.length = (n - 3) * 1 := by
      have := List.mem_of_getElem? hk
      rcases List.mem_cons.mp this with rfl | this
      · simp
      · rcases List.mem_cons.mp this with rfl | this
        · simp; omega
        · rw [List.mem_singleton.mp this, List.length_append, rep2_len]
          show 1 + _ = _
          omega
    walk_at "ev"
    refine ⟨M, g, n, n - 3, 1, l, rfl, ok, by omega, by omega, by omega, hpos, hlog.symm, by omega, by omega, hll, by omega, by omega, ?_⟩
    obtain ⟨w1, w2, w3⟩ := write_back ok (by omega) (by omega) (by omega) hll hpow
    generalize (writeM M g n (n - 3) l).flatten = row at w1 w2 w3
    walk_at "ev"
    refine fLen_bs (by omega) ?_
    rw [w1, Nat.mul_one, fNe_int, decide_eq_true rfl]
    refine ⟨fun z => Bool.noConfusion z, fun _ => ?_⟩
    walk_at "ev"
    refine ⟨M, g, n, n - 3, row, rfl, ok, by omega, by omega, by omega, by omega, hpos, hlog.symm, by omega, by omega, fun _ => ?_, fun i x h1 h2 h3 => absurd (w2 x (List.mem_of_getElem? h1)) h3⟩
    rw [w3]
    walk_at "ev"
    refine fNe_bs ?_
    rw [decide_eq_true rfl]
    refine ⟨fun z => Bool.noConfusion z, fun _ => ?_⟩
    exact lp_of (by walk_at "wk")
  walk_at "ev"
  refine ⟨by decide, ?_⟩
  walk_at "ev"
  refine ⟨by decide, ?_⟩
  refine ⟨_, 50, rfl, hB8, by omega, few (by decide) (by decide), fun p c9 hr7 hB9 => ?_⟩
  walk_at "ev"
  have hcr : ∀ j, cntR M g j = fr j 0 := htb
  refine ⟨fun j ρ => ∃ k, k + j = 52 ∧ ρ = [.ow (some pp) c9, .fz (nL o), .un, .fz (.int (r1 : Nat)), .fz (.int (back : Nat)), .un, .fz (.int (g : Nat)), .un, .fz (mD M), .fz (.int (n : Nat)), .un, .un, .fz (nL (frL k)), .ow none (.lst ((cntsR M g k).map nD)), .fz (.int (p : Nat)), .un] ∧ ∀ i, 1 ≤ i → i < k → cntR M g i < 2 ^ p, ⟨52, _, by walk_at "wk", 0, rfl, rfl, fun i _ h => absurd h (Nat.not_lt_zero _)⟩, fun j ρ hI => ?_⟩
  obtain ⟨k, hkj, rfl, hsm⟩ := hI
  have hcl := cntsR_len M g k
  have hnext : k < 52 → (∀ i, 1 ≤ i → i < k + 1 → cntR M g i < 2 ^ p) → ∃ j', j' < j ∧ lp (fun ρ => ∃ k, k + j' = 52 ∧ ρ = [.ow (some pp) c9, .fz (nL o), .un, .fz (.int (r1 : Nat)), .fz (.int (back : Nat)), .un, .fz (.int (g : Nat)), .un, .fz (mD M), .fz (.int (n : Nat)), .un, .un, .fz (nL (frL k)), .ow none (.lst ((cntsR M g k).map nD)), .fz (.int (p : Nat)), .un] ∧ ∀ i, 1 ≤ i → i < k → cntR M g i < 2 ^ p) [.ow (some pp) c9, .fz (nL o), .un, .fz (.int (r1 : Nat)), .fz (.int (back : Nat)), .un, .fz (.int (g : Nat)), .un, .fz (mD M), .fz (.int (n : Nat)), .un, .un, .fz (nL (frL (k + 1))), .ow none (.lst ((cntsR M g k ++ [fr (k + 1) 0]).map nD)), .fz (.int (p : Nat)), .un] := fun h1 h2 => by
    refine ⟨j - 1, by omega, _, ?_, k + 1, by omega, rfl, h2⟩
    rw [cntsR_succ, hcr (k + 1)]
    walk_at "wk"
  walk_at "ev"
  refine ⟨by decide, ?_⟩
  refine fEq_nL (b := []) ?_
  refine ⟨fun z => ?_, fun z => ?_⟩
  · have z : cntsR M g k = [] := of_decide_eq_true z
    have hk0 : k = 0 := by rw [z] at hcl; exact hcl.symm
    refine ⟨fun _ => ?_, fun z => Bool.noConfusion z⟩
    refine fours_body k (cntsR M g k) (by omega) ?_
    exact hnext (by omega) fun i i1 i2 => by omega
  · have z : cntsR M g k ≠ [] := of_decide_eq_false z
    obtain ⟨u, rfl⟩ : ∃ u, k = u + 1 := by
      cases k with
      | zero => exact absurd rfl z
      | succ u => exact ⟨u, rfl⟩
    have hix : ∀ {Q : D → Prop}, Q (.int (cntR M g (u + 1) : Nat)) → fIx (nL (cntsR M g (u + 1))) (.int (-1)) Q := fun {Q} hq => by rw [cntsR_succ]; exact fIx_neg1 hq
    walk_at "ev"
    refine hix ?_
    refine shl_one (by omega) ?_
    rw [fLt_int]
    refine ⟨fun y => ?_, fun y => ?_⟩
    · have y : cntR M g (u + 1) < 2 ^ p := by have := of_decide_eq_true y; omega
      have hu : u + 1 < 52 := by
        rcases Nat.lt_or_ge (u + 1) 52 with y2 | y2
        · exact y2
        · have e : u + 1 = 52 := by omega
          rw [e, hcr] at y
          have := fr_52
          have : 2 ^ p ≤ 2 ^ 49 := Nat.pow_le_pow_right (by decide) (by omega)
          omega
      refine fours_body (u + 1) (cntsR M g (u + 1)) (by omega) ?_
      exact hnext hu fun i i1 i2 => by
        rcases Nat.lt_or_ge i (u + 1) with y2 | y2
        · exact hsm i i1 y2
        · rw [show i = u + 1 by omega]; exact y
    · have y : 2 ^ p ≤ cntR M g (u + 1) := by have := of_decide_eq_false y; omega
      walk_at "ev"
      refine ⟨M, g, p, 80, rfl, ok, by omega, by omega, by omega, by omega, fun m m1 m2 m3 m4 => ?_, fun z2 => absurd y (by have := z2 (u + 1) (by omega) (by omega); omega)⟩
      have em : m = u + 1 := by
        rcases Nat.lt_trichotomy m (u + 1) with z2 | z2 | z2
        · exact absurd m3 (by have := hsm m m1 z2; omega)
        · exact z2
        · exact absurd y (by have := m4 (u + 1) (by omega) z2; omega)
      subst em
      walk_at "ev"
      refine ⟨fun _ => ?_, fun z => Bool.noConfusion z⟩
      refine fTup_tup ?_
      rw [List.length_map, cntsR_len]
      refine ⟨by decide, ?_⟩
      refine fEq_tupSame (n := 3) (ds := [.int ((u + 1 : Nat) : Int), nL (cntsR M g (u + 1))]) (.tup fun d hd => ?_) (by decide) ?_
      · rcases List.mem_cons.mp hd with rfl | hd
        · exact ⟨rfl, Nat.zero_le _⟩
        · rw [List.mem_singleton.mp hd]
          exact Shp.nL _
      exact ⟨c9, rfl, hp c9 (hB9.mono (by omega))⟩

def m_law : MS := mSeq (mFor (iR1 (mCons (mBin fAdd (mC (.int 1)) (mBf fMin (mCons (mC (.int 1)) (mCons (mBf fLen (mCons (mVar 0) (mNil))) (mNil))))) (mNil))) (gN 1) (mSeq (mSet 2 (mXo (mCallO c__law_box (mCons (mVar 0) (mCons (mVar 1) (mNil)))))) (mSeq (mSet 3 (mXe (mCallM c__law_bursts 2 (mNil)))) (mSeq (mUnp (mCallM c__law_ring 2 (mCons (mVar 3) (mNil))) (gT (gCs (gN 4) (gCs (gN 5) (gNl))))) (mSeq (mUnp (mTup (mCons (mBin fAdd (mC (.int 1)) (mCallM c__law_take 2 (mCons (mC (.int 3)) (mNil)))) (mCons (mBin fAdd (mC (.int 1)) (mCallM c__law_take 2 (mCons (mC (.int 8)) (mNil)))) (mNil)))) (gT (gCs (gN 6) (gCs (gN 7) (gNl))))) (mSeq (mWhile (mTst (mBin fGt (mBf fMax (mCons (mFz (mLc (iR1 (mCons (mBf fLen (mCons (mVar 3) (mNil))) (mNil))) (gN 8) (mYes) (mCall c__law_many (mCons (mVar 3) (mCons (mVar 8) (mCons (mVar 7) (mNil))))) [8])) (mNil))) (mC (.int 5)))) (mSet 7 (mXe (mBin fSub (mVar 7) (mC (.int 1)))))) (mSeq (mIfS (mOrT (mNotT (mTst (mCallM c__law_room_right 2 (mCons (mVar 3) (mCons (mVar 4) (mCons (mVar 5) (mCons (mVar 6) (mCons (mVar 7) (mNil))))))))) (mNotT (mTst (mCallM c__law_rounds_right 2 (mCons (mVar 3) (mCons (mVar 4) (mCons (mVar 5) (mNil)))))))) (mRet (mC (.bl false))) (mNx)) (mSeq (mIfS (mNotT (mTst (mCallM c__law_enough_right 2 (mCons (mVar 3) (mCons (mVar 4) (mCons (mVar 5) (mCons (mVar 6) (mCons (mVar 7) (mNil))))))))) (mRet (mC (.bl false))) (mNx)) (mIfS (mOrT (mNotT (mTst (mCall c__law_growth_right (mCons (mVar 3) (mCons (mVar 4) (mCons (mVar 5) (mCons (mCallM c__law_take 2 (mCons (mC (.int 12)) (mNil))) (mNil)))))))) (mNotT (mTst (mCallM c__law_fours_right 2 (mNil))))) (mRet (mC (.bl false))) (mNx)))))))))) (mRet (mC (.bl true)))
theorem bd_law (T : Tx K mg a) : Bd P w K mg base 8 ["script", "k", "box", "wide", "machine", "order", "p", "q", "at"] s_law m_law := ⟨fun qual f cdv A outer s H E hr tk pw =>
  gss_cons (gs_for pw rfl (gi_range1 T.m_range (ga_cons (ge_bin op_addA od_add (ge_int) (ge_bf (cr_minA rfl) cd_min T.m_min (ga_cons (ge_int) (ga_cons (ge_bf call_len cd_len T.m_len (ga_cons (ge_var) (ga_nil))) (ga_nil))))) (ga_nil))) (gg_name sc_law.nd) (gss_cons (gs_set (gx_o (go_call (G__law_box T) (hr.mono (by decide)) T.g__law_box T.F__law_box.kp T.b__law_box tk (ga_cons (ge_var) (ga_cons (ge_var) (ga_nil))))) sc_law.nd) (gss_cons (gs_set (gx_e (ge_callM (G__law_bursts T) (hr.mono (by decide)) T.g__law_bursts T.F__law_bursts.kp T.b__law_bursts tk (ga_nil))) sc_law.nd) (gss_cons (gs_unp (ge_callM (G__law_ring T) (hr.mono (by decide)) T.g__law_ring T.F__law_ring.kp T.b__law_ring tk (ga_cons (ge_var) (ga_nil))) (gg_tup2 rfl (gg_name sc_law.nd) (gg_name sc_law.nd))) (gss_cons (gs_unp (ge_tup (ga_cons (ge_bin op_addA od_add (ge_int) (ge_callM (G__law_take T) (hr.mono (by decide)) T.g__law_take T.F__law_take.kp T.b__law_take tk (ga_cons (ge_int) (ga_nil)))) (ga_cons (ge_bin op_addA od_add (ge_int) (ge_callM (G__law_take T) (hr.mono (by decide)) T.g__law_take T.F__law_take.kp T.b__law_take tk (ga_cons (ge_int) (ga_nil)))) (ga_nil)))) (gg_tup2 rfl (gg_name sc_law.nd) (gg_name sc_law.nd))) (gss_cons (gs_while pw (gt_cmp op_gt od_gt (ge_bf (cr_maxA rfl) cd_max T.m_max (ga_cons (ge_fz (go_lc (own := [("at", 8)]) rfl sc_law.nd (gi_range1 T.m_range (ga_cons (ge_bf call_len cd_len T.m_len (ga_cons (ge_var) (ga_nil))) (ga_nil))) (blkOk_by (N := ["script", "k", "box", "wide", "machine", "order", "p", "q", "at"]) (sc := (defScope s_law)) (by decide +kernel)) (fun _ _ _ _ _ => gg_name sc_law.nd) (fun _ _ _ _ _ => gts_nil) (fun _ _ _ _ _ => ge_call (G__law_many T) (hr.mono (by decide)) T.g__law_many T.F__law_many.kp T.b__law_many takesF (ga_cons (ge_var) (ga_cons (ge_var) (ga_cons (ge_var) (ga_nil))))))) (ga_nil))) (ge_int)) (gss_one (gs_set (gx_e (ge_bin op_sub od_sub (ge_var) (ge_int))) sc_law.nd))) (gss_cons (gs_if (gt_w (gw_or (gt_not (gt_val (ge_callM (G__law_room_right T) (hr.mono (by decide)) T.g__law_room_right T.F__law_room_right.kp T.b__law_room_right tk (ga_cons (ge_var) (ga_cons (ge_var) (ga_cons (ge_var) (ga_cons (ge_var) (ga_cons (ge_var) (ga_nil))))))))) (gw_or1 (gt_not (gt_val (ge_callM (G__law_rounds_right T) (hr.mono (by decide)) T.g__law_rounds_right T.F__law_rounds_right.kp T.b__law_rounds_right tk (ga_cons (ge_var) (ga_cons (ge_var) (ga_cons (ge_var) (ga_nil)))))))))) (gss_one (gs_ret (ge_bl))) (gss_nil)) (gss_cons (gs_if (gt_not (gt_val (ge_callM (G__law_enough_right T) (hr.mono (by decide)) T.g__law_enough_right T.F__law_enough_right.kp T.b__law_enough_right tk (ga_cons (ge_var) (ga_cons (ge_var) (ga_cons (ge_var) (ga_cons (ge_var) (ga_cons (ge_var) (ga_nil))))))))) (gss_one (gs_ret (ge_bl))) (gss_nil)) (gss_one (gs_if (gt_w (gw_or (gt_not (gt_val (ge_call (G__law_growth_right T) (hr.mono (by decide)) T.g__law_growth_right T.F__law_growth_right.kp T.b__law_growth_right tk (ga_cons (ge_var) (ga_cons (ge_var) (ga_cons (ge_var) (ga_cons (ge_callM (G__law_take T) (hr.mono (by decide)) T.g__law_take T.F__law_take.kp T.b__law_take tk (ga_cons (ge_int) (ga_nil))) (ga_nil)))))))) (gw_or1 (gt_not (gt_val (ge_callM (G__law_fours_right T) (hr.mono (by decide)) T.g__law_fours_right T.F__law_fours_right.kp T.b__law_fours_right tk (ga_nil))))))) (gss_one (gs_ret (ge_bl))) (gss_nil))))))))))) (gss_one (gs_ret (ge_bl)))⟩
def c_law : CtP := fun ds P _ => ∃ ns : List Int, ds = [.scr ns] ∧ P (.fz (.bl true))
theorem law_ok (ns : List Int) (P : Rv → Prop) (PX : Ex → Prop) (_ : ns.length ≤ 63) (h : P (.fz (.bl true))) : c_law [.scr ns] P PX := ⟨ns, rfl, h⟩
theorem G_law (T : Tx K mg a) : FnOk P w K mg base (L2.CX P w) 9 a.f_law a.d_law ["script"] (spP K c_law) :=
  fn_P T.F_law sc_law (by rintro ds P PX ⟨n, rfl, _⟩; rfl) (bd_law T) fun ds P PX h => by
  obtain ⟨ns, rfl, hp⟩ := h
  unfold m_law
  walk_at "ev"
  obtain ⟨c, hc, hc3⟩ : ∃ c : Nat, (1 : Int) + (if ((ns.length : Nat) : Int) < 1 then ((ns.length : Nat) : Int) else 1) = (c : Nat) ∧ c ≤ 2 := by
    by_cases z : ((ns.length : Nat) : Int) < 1
    · exact ⟨1 + ns.length, by rw [if_pos z]; rfl, by omega⟩
    · exact ⟨2, by rw [if_neg z]; rfl, by decide⟩
  refine for_run (fun _ q => by walk_at "ev"; refine fLen_scr ?_; walk_at "ev"; refine fMin_two ?_; walk_at "ev"; rw [hc]; exact ⟨⟨by omega, by omega⟩, q⟩) (range_map c 0 1) (fun k => [.fz (.scr ns), .un, .un, .un, .un, .un, .un, .un, .un]) (by walk_at "wk") (fun k i hk => ?_) ?_
  · obtain ⟨rfl, hlt⟩ := range_get hk
    have ex : (0 : Int) + (i : Nat) * 1 = (i : Nat) := by omega
    walk_at "ev"
    rw [ex]
    refine ⟨ns, i, rfl, by omega, fun c0 hB0 => ?_⟩
    walk_at "ev"
    refine ⟨0, rfl, hB0, by decide, fun w c1 hw2 hw12 hwc hB1 => ?_⟩
    walk_at "ev"
    refine ⟨_, w, rfl, hB1, by decide, by omega, by omega, fun o M c2 hR hB2 => ?_⟩
    walk_at "ev"
    refine ⟨_, 3, rfl, hB2, by decide, few (by decide) (by decide), fun r0 c3 hr0 hB3 => ?_⟩
    walk_at "ev"
    refine ⟨_, 8, rfl, hB3, by decide, few (by decide) (by decide), fun r1 c4 hr1 hB4 => ?_⟩
    walk_at "ev"
    refine ⟨by decide, ?_⟩
    walk_at "ev"
    obtain ⟨p, hpe, hp1, hp3⟩ : ∃ p : Nat, (1 : Int) + (r0 : Nat) = (p : Nat) ∧ 1 ≤ p ∧ p ≤ 3 := ⟨1 + r0, rfl, by omega, by omega⟩
    obtain ⟨q0, hqe, hq1, hq8⟩ : ∃ q : Nat, (1 : Int) + (r1 : Nat) = (q : Nat) ∧ 1 ≤ q ∧ q ≤ 8 := ⟨1 + r1, rfl, by omega, by omega⟩
    rw [hpe, hqe]
    clear hpe hqe hr0 hr1
    have hB4 : Box c4 212 := hB4
    refine ⟨fun j ρ => ∃ q : Nat, q = j ∧ ρ = [.fz (.scr ns), .fz (.int (i : Nat)), .ow none c4, .fz (wD w), .fz (mD M), .fz (nL o), .fz (.int (p : Nat)), .fz (.int (q : Nat)), .un] ∧ 1 ≤ q ∧ q ≤ 8, ⟨q0, _, by walk_at "wk", q0, rfl, rfl, hq1, hq8⟩, fun j ρ hI => ?_⟩
    obtain ⟨q, rfl, rfl, hq1, hq8⟩ := hI
    walk_at "ev"
    refine lc_run (ds := rngD 0 1 w.length) (ρ1 := [.fz (.scr ns), .fz (.int (i : Nat)), .ow none c4, .fz (wD w), .fz (mD M), .fz (nL o), .fz (.int (p : Nat)), .fz (.int (q : Nat)), .un]) (fun _ y => by walk_at "ev"; refine fLen_lst ?_; rw [List.length_map]; exact ⟨⟨by omega, by omega⟩, y⟩) (range_map w.length 0 1) (fun k => ((List.range k).map fun a => manyW w a q).map nD) (fun _ => [.fz (.scr ns), .fz (.int (i : Nat)), .ow none c4, .fz (wD w), .fz (mD M), .fz (nL o), .fz (.int (p : Nat)), .fz (.int (q : Nat)), .un]) ⟨rfl, rfl⟩ (fun k x hx => ?_) ?_
    · obtain ⟨rfl, hlt⟩ := range_get hx
      have ex : (0 : Int) + (x : Nat) * 1 = (x : Nat) := by omega
      rw [ex]
      walk_at "ev"
      refine ⟨fun _ => ?_, fun z => Bool.noConfusion z⟩
      walk_at "ev"
      refine ⟨w, x, q, rfl, by omega, by omega, ?_⟩
      refine ⟨sl_lt (by simp; omega), ?_, rfl⟩
      rw [List.range_succ, List.map_append, List.map_append]; rfl
    rw [List.length_range]
    walk_at "ev"
    refine fMax_n (by simp; omega) fun m hm _ => ?_
    have hmq : m ≤ q := by
      obtain ⟨a, _, rfl⟩ := List.mem_map.mp hm
      exact manyW_le w a q
    rw [fGt_int]
    refine ⟨fun z => ?_, fun _ => ?_⟩
    · have z : 5 < m := by have := of_decide_eq_true z; omega
      walk_at "ev"
      refine ⟨q - 1, by omega, _, ?_, q - 1, rfl, rfl, by omega, by omega⟩
      rw [show ((q - 1 : Nat) : Int) = (q : Nat) - 1 by omega]
      walk_at "wk"
    walk_at "ev"
    refine ⟨_, w, M, o, p, q, rfl, hB4, by decide, hR, hw12, hp1, hp3, hq1, hq8, fun c5 hB5 => ?_⟩
    walk_at "ev"
    refine ⟨fun z => Bool.noConfusion z, fun _ => ?_⟩
    refine ⟨_, w, M, o, rfl, hB5, by decide, hR, hw12, hwc, fun c6 hB6 => ?_⟩
    walk_at "ev"
    refine ⟨fun z => Bool.noConfusion z, fun _ => ?_⟩
    walk_at "ev"
    refine ⟨_, w, M, o, p, q, rfl, hB6, by decide, hR, hw12, hp1, hp3, hq1, hq8, fun c7 hB7 => ?_⟩
    walk_at "ev"
    refine ⟨fun z => Bool.noConfusion z, fun _ => ?_⟩
    walk_at "ev"
    refine ⟨_, 12, rfl, hB7, by decide, few (by decide) (by decide), fun r2 c8 hr2 hB8 => ?_⟩
    walk_at "ev"
    refine ⟨w, M, o, r2, rfl, hR, hw12, by omega, ?_⟩
    walk_at "ev"
    refine ⟨fun z => Bool.noConfusion z, fun _ => ?_⟩
    refine ⟨_, rfl, hB8, by decide, fun c9 hB9 => ?_⟩
    walk_at "ev"
    refine ⟨fun z => Bool.noConfusion z, fun _ => ?_⟩
    exact lp_of (by walk_at "wk")
  · walk_at "ev"
    exact hp

end K82

namespace K82
open PySem PySem.Spec PyProof.Rows L2 G
theorem bi_ends_of {K : PySem.W.Frag} {f : Addr} {fd : FuncData} (F : Fun K "ends_of" "ends_of" s_ends_of f fd) : Binds K fd ["room"] [] := F.binds fun _ _ _ _ _ _ us hl => match us, hl with | [_], _ => rfl
theorem bi_one_longer {K : PySem.W.Frag} {f : Addr} {fd : FuncData} (F : Fun K "one_longer" "one_longer" s_one_longer f fd) : Binds K fd ["machine", "found"] [] := F.binds fun _ _ _ _ _ _ us hl => match us, hl with | [_, _], _ => rfl
theorem bi_tables_of {K : PySem.W.Frag} {f : Addr} {fd : FuncData} (F : Fun K "tables_of" "tables_of" s_tables_of f fd) : Binds K fd ["machine", "goal", "many"] [] := F.binds fun _ _ _ _ _ _ us hl => match us, hl with | [_, _, _], _ => rfl
theorem bi_counts {K : PySem.W.Frag} {f : Addr} {fd : FuncData} (F : Fun K "counts" "counts" s_counts f fd) : Binds K fd ["machine", "many"] [] := F.binds fun _ _ _ _ _ _ us hl => match us, hl with | [_, _], _ => rfl
theorem bi_counts_to {K : PySem.W.Frag} {f : Addr} {fd : FuncData} (F : Fun K "counts_to" "counts_to" s_counts_to f fd) : Binds K fd ["machine", "many", "goal"] [] := F.binds fun _ _ _ _ _ _ us hl => match us, hl with | [_, _, _], _ => rfl
theorem bi_from_there {K : PySem.W.Frag} {f : Addr} {fd : FuncData} (F : Fun K "from_there" "from_there" s_from_there f fd) : Binds K fd ["tables", "machine", "room", "left", "number"] [] := F.binds fun _ _ _ _ _ _ us hl => match us, hl with | [_, _, _, _, _], _ => rfl
theorem bi_row_at {K : PySem.W.Frag} {f : Addr} {fd : FuncData} (F : Fun K "row_at" "row_at" s_row_at f fd) : Binds K fd ["machine", "room", "goal", "many", "number"] [] := F.binds fun _ _ _ _ _ _ us hl => match us, hl with | [_, _, _, _, _], _ => rfl
theorem bi_number_of {K : PySem.W.Frag} {f : Addr} {fd : FuncData} (F : Fun K "number_of" "number_of" s_number_of f fd) : Binds K fd ["machine", "room", "goal", "row"] [] := F.binds fun _ _ _ _ _ _ us hl => match us, hl with | [_, _, _, _], _ => rfl
theorem bi_is_number {K : PySem.W.Frag} {f : Addr} {fd : FuncData} (F : Fun K "is_number" "is_number" s_is_number f fd) : Binds K fd ["thing", "least"] [] := F.binds fun _ _ _ _ _ _ us hl => match us, hl with | [_, _], _ => rfl
theorem bi_are_numbers {K : PySem.W.Frag} {f : Addr} {fd : FuncData} (F : Fun K "are_numbers" "are_numbers" s_are_numbers f fd) : Binds K fd ["thing", "many", "least"] [] := F.binds fun _ _ _ _ _ _ us hl => match us, hl with | [_, _, _], _ => rfl
theorem bi_divisor {K : PySem.W.Frag} {f : Addr} {fd : FuncData} (F : Fun K "divisor" "divisor" s_divisor f fd) : Binds K fd ["one", "other"] [] := F.binds fun _ _ _ _ _ _ us hl => match us, hl with | [_, _], _ => rfl
theorem bi_fraction {K : PySem.W.Frag} {f : Addr} {fd : FuncData} (F : Fun K "fraction" "fraction" s_fraction f fd) : Binds K fd ["top", "below"] [] := F.binds fun _ _ _ _ _ _ us hl => match us, hl with | [_, _], _ => rfl
theorem bi_way_sums {K : PySem.W.Frag} {f : Addr} {fd : FuncData} (F : Fun K "way_sums" "way_sums" s_way_sums f fd) : Binds K fd ["machine", "weights"] [] := F.binds fun _ _ _ _ _ _ us hl => match us, hl with | [_, _], _ => rfl
theorem bi_least_ratio {K : PySem.W.Frag} {f : Addr} {fd : FuncData} (F : Fun K "least_ratio" "least_ratio" s_least_ratio f fd) : Binds K fd ["tops", "belows"] [] := F.binds fun _ _ _ _ _ _ us hl => match us, hl with | [_, _], _ => rfl
theorem bi_greatest_ratio {K : PySem.W.Frag} {f : Addr} {fd : FuncData} (F : Fun K "greatest_ratio" "greatest_ratio" s_greatest_ratio f fd) : Binds K fd ["tops", "belows"] [] := F.binds fun _ _ _ _ _ _ us hl => match us, hl with | [_, _], _ => rfl
theorem bi_growth {K : PySem.W.Frag} {f : Addr} {fd : FuncData} (F : Fun K "growth" "growth" s_growth f fd) : Binds K fd ["machine", "steps"] [] := F.binds fun _ _ _ _ _ _ us hl => match us, hl with | [_, _], _ => rfl
theorem bi_sums_behind {K : PySem.W.Frag} {f : Addr} {fd : FuncData} (F : Fun K "sums_behind" "sums_behind" s_sums_behind f fd) : Binds K fd ["machine", "q", "weights"] [] := F.binds fun _ _ _ _ _ _ us hl => match us, hl with | [_, _, _], _ => rfl
theorem bi_let_down {K : PySem.W.Frag} {f : Addr} {fd : FuncData} (F : Fun K "let_down" "let_down" s_let_down f fd) : Binds K fd ["machine", "p", "q", "weights"] [] := F.binds fun _ _ _ _ _ _ us hl => match us, hl with | [_, _, _, _], _ => rfl
theorem bi_enough {K : PySem.W.Frag} {f : Addr} {fd : FuncData} (F : Fun K "enough" "enough" s_enough f fd) : Binds K fd ["machine", "p", "q", "most"] [] := F.binds fun _ _ _ _ _ _ us hl => match us, hl with | [_, _, _, _], _ => rfl
theorem bi_shows_enough {K : PySem.W.Frag} {f : Addr} {fd : FuncData} (F : Fun K "shows_enough" "shows_enough" s_shows_enough f fd) : Binds K fd ["machine", "p", "q", "weights"] [] := F.binds fun _ _ _ _ _ _ us hl => match us, hl with | [_, _, _, _], _ => rfl
theorem bi_is_too_little {K : PySem.W.Frag} {f : Addr} {fd : FuncData} (F : Fun K "is_too_little" "is_too_little" s_is_too_little f fd) : Binds K fd ["told", "p", "m"] [] := F.binds fun _ _ _ _ _ _ us hl => match us, hl with | [_, _, _], _ => rfl
theorem bi_too_little {K : PySem.W.Frag} {f : Addr} {fd : FuncData} (F : Fun K "too_little" "too_little" s_too_little f fd) : Binds K fd ["machine", "p", "q", "most"] [] := F.binds fun _ _ _ _ _ _ us hl => match us, hl with | [_, _, _, _], _ => rfl
theorem bi_shows_too_little {K : PySem.W.Frag} {f : Addr} {fd : FuncData} (F : Fun K "shows_too_little" "shows_too_little" s_shows_too_little f fd) : Binds K fd ["machine", "p", "q", "m", "told"] [] := F.binds fun _ _ _ _ _ _ us hl => match us, hl with | [_, _, _, _, _], _ => rfl
theorem bi_round_count {K : PySem.W.Frag} {f : Addr} {fd : FuncData} (F : Fun K "round_count" "round_count" s_round_count f fd) : Binds K fd ["machine", "room", "many"] [] := F.binds fun _ _ _ _ _ _ us hl => match us, hl with | [_, _, _], _ => rfl
theorem bi_bits_for {K : PySem.W.Frag} {f : Addr} {fd : FuncData} (F : Fun K "bits_for" "bits_for" s_bits_for f fd) : Binds K fd ["machine", "room", "many"] [] := F.binds fun _ _ _ _ _ _ us hl => match us, hl with | [_, _, _], _ => rfl
theorem bi_least_many {K : PySem.W.Frag} {f : Addr} {fd : FuncData} (F : Fun K "least_many" "least_many" s_least_many f fd) : Binds K fd ["machine", "room", "p", "most"] [] := F.binds fun _ _ _ _ _ _ us hl => match us, hl with | [_, _, _, _], _ => rfl
theorem bi_parts_of {K : PySem.W.Frag} {f : Addr} {fd : FuncData} (F : Fun K "parts_of" "parts_of" s_parts_of f fd) : Binds K fd ["row", "many"] [] := F.binds fun _ _ _ _ _ _ us hl => match us, hl with | [_, _], _ => rfl
theorem bi_as_bits {K : PySem.W.Frag} {f : Addr} {fd : FuncData} (F : Fun K "as_bits" "as_bits" s_as_bits f fd) : Binds K fd ["number", "many"] [] := F.binds fun _ _ _ _ _ _ us hl => match us, hl with | [_, _], _ => rfl
theorem bi_as_number {K : PySem.W.Frag} {f : Addr} {fd : FuncData} (F : Fun K "as_number" "as_number" s_as_number f fd) : Binds K fd ["bits"] [] := F.binds fun _ _ _ _ _ _ us hl => match us, hl with | [_], _ => rfl
theorem bi_table_written {K : PySem.W.Frag} {f : Addr} {fd : FuncData} (F : Fun K "table_written" "table_written" s_table_written f fd) : Binds K fd ["machine", "room", "many", "bits"] [] := F.binds fun _ _ _ _ _ _ us hl => match us, hl with | [_, _, _, _], _ => rfl
theorem bi_block_number {K : PySem.W.Frag} {f : Addr} {fd : FuncData} (F : Fun K "block_number" "block_number" s_block_number f fd) : Binds K fd ["machine", "room", "many", "block"] [] := F.binds fun _ _ _ _ _ _ us hl => match us, hl with | [_, _, _, _], _ => rfl
theorem bi_table_read {K : PySem.W.Frag} {f : Addr} {fd : FuncData} (F : Fun K "table_read" "table_read" s_table_read f fd) : Binds K fd ["machine", "room", "many", "row"] [] := F.binds fun _ _ _ _ _ _ us hl => match us, hl with | [_, _, _, _], _ => rfl
theorem bi__law_cell_at {K : PySem.W.Frag} {f : Addr} {fd : FuncData} (F : Fun K "_law_cell_at" "_law_cell_at" s__law_cell_at f fd) : Binds K fd ["script", "k"] [] := F.binds fun _ _ _ _ _ _ us hl => match us, hl with | [_, _], _ => rfl
theorem bi__law_box {K : PySem.W.Frag} {f : Addr} {fd : FuncData} (F : Fun K "_law_box" "_law_box" s__law_box f fd) : Binds K fd ["script", "k"] [] := F.binds fun _ _ _ _ _ _ us hl => match us, hl with | [_, _], _ => rfl
theorem bi__law_take {K : PySem.W.Frag} {f : Addr} {fd : FuncData} (F : Fun K "_law_take" "_law_take" s__law_take f fd) : Binds K fd ["box", "many"] [] := F.binds fun _ _ _ _ _ _ us hl => match us, hl with | [_, _], _ => rfl
theorem bi__law_bursts {K : PySem.W.Frag} {f : Addr} {fd : FuncData} (F : Fun K "_law_bursts" "_law_bursts" s__law_bursts f fd) : Binds K fd ["box"] [] := F.binds fun _ _ _ _ _ _ us hl => match us, hl with | [_], _ => rfl
theorem bi__law_ring {K : PySem.W.Frag} {f : Addr} {fd : FuncData} (F : Fun K "_law_ring" "_law_ring" s__law_ring f fd) : Binds K fd ["box", "wide"] [] := F.binds fun _ _ _ _ _ _ us hl => match us, hl with | [_, _], _ => rfl
theorem bi__law_many {K : PySem.W.Frag} {f : Addr} {fd : FuncData} (F : Fun K "_law_many" "_law_many" s__law_many f fd) : Binds K fd ["wide", "at", "many"] [] := F.binds fun _ _ _ _ _ _ us hl => match us, hl with | [_, _, _], _ => rfl
theorem bi__law_by_rooms {K : PySem.W.Frag} {f : Addr} {fd : FuncData} (F : Fun K "_law_by_rooms" "_law_by_rooms" s__law_by_rooms f fd) : Binds K fd ["order", "some"] [] := F.binds fun _ _ _ _ _ _ us hl => match us, hl with | [_, _], _ => rfl
theorem bi__law_counts {K : PySem.W.Frag} {f : Addr} {fd : FuncData} (F : Fun K "_law_counts" "_law_counts" s__law_counts f fd) : Binds K fd ["wide", "order", "many"] [] := F.binds fun _ _ _ _ _ _ us hl => match us, hl with | [_, _, _], _ => rfl
theorem bi__law_short {K : PySem.W.Frag} {f : Addr} {fd : FuncData} (F : Fun K "_law_short" "_law_short" s__law_short f fd) : Binds K fd ["wide", "p", "many", "m"] [] := F.binds fun _ _ _ _ _ _ us hl => match us, hl with | [_, _, _, _], _ => rfl
theorem bi__law_room_right {K : PySem.W.Frag} {f : Addr} {fd : FuncData} (F : Fun K "_law_room_right" "_law_room_right" s__law_room_right f fd) : Binds K fd ["box", "wide", "machine", "order", "p", "q"] [] := F.binds fun _ _ _ _ _ _ us hl => match us, hl with | [_, _, _, _, _, _], _ => rfl
theorem bi__law_weights {K : PySem.W.Frag} {f : Addr} {fd : FuncData} (F : Fun K "_law_weights" "_law_weights" s__law_weights f fd) : Binds K fd ["wide", "p", "q", "most"] [] := F.binds fun _ _ _ _ _ _ us hl => match us, hl with | [_, _, _, _], _ => rfl
theorem bi__law_enough_right {K : PySem.W.Frag} {f : Addr} {fd : FuncData} (F : Fun K "_law_enough_right" "_law_enough_right" s__law_enough_right f fd) : Binds K fd ["box", "wide", "machine", "order", "p", "q"] [] := F.binds fun _ _ _ _ _ _ us hl => match us, hl with | [_, _, _, _, _, _], _ => rfl
theorem bi__law_growth_right {K : PySem.W.Frag} {f : Addr} {fd : FuncData} (F : Fun K "_law_growth_right" "_law_growth_right" s__law_growth_right f fd) : Binds K fd ["wide", "machine", "order", "steps"] [] := F.binds fun _ _ _ _ _ _ us hl => match us, hl with | [_, _, _, _], _ => rfl
theorem bi__law_rounds_right {K : PySem.W.Frag} {f : Addr} {fd : FuncData} (F : Fun K "_law_rounds_right" "_law_rounds_right" s__law_rounds_right f fd) : Binds K fd ["box", "wide", "machine", "order"] [] := F.binds fun _ _ _ _ _ _ us hl => match us, hl with | [_, _, _, _], _ => rfl
theorem bi__law_of_order {K : PySem.W.Frag} {f : Addr} {fd : FuncData} (F : Fun K "_law_of_order" "_law_of_order" s__law_of_order f fd) : Binds K fd ["box", "order"] [] := F.binds fun _ _ _ _ _ _ us hl => match us, hl with | [_, _], _ => rfl
theorem bi__law_fours_right {K : PySem.W.Frag} {f : Addr} {fd : FuncData} (F : Fun K "_law_fours_right" "_law_fours_right" s__law_fours_right f fd) : Binds K fd ["box"] [] := F.binds fun _ _ _ _ _ _ us hl => match us, hl with | [_], _ => rfl
theorem bi_law {K : PySem.W.Frag} {f : Addr} {fd : FuncData} (F : Fun K "law" "law" s_law f fd) : Binds K fd ["script"] [] := F.binds fun _ _ _ _ _ _ us hl => match us, hl with | [_], _ => rfl
theorem bi_BadBlock {K : PySem.W.Frag} {f : Addr} {fd : FuncData} (F : Fun K "__init__" "BadBlock.__init__" is_BadBlock f fd) : Binds K fd ["self", "block"] [] := F.binds fun _ _ _ _ _ _ us hl => match us, hl with | [_, _], _ => rfl
theorem all_mk {P : Program} {w : World} {K : PySem.W.Frag} {mg : Str → Option Value} {fa : Addr} (hfa : mg "law" = some (.ref fa)) (D_ends_of : DefAt K mg "ends_of" s_ends_of) (D_one_longer : DefAt K mg "one_longer" s_one_longer) (D_tables_of : DefAt K mg "tables_of" s_tables_of) (D_counts : DefAt K mg "counts" s_counts) (D_counts_to : DefAt K mg "counts_to" s_counts_to) (D_from_there : DefAt K mg "from_there" s_from_there) (D_row_at : DefAt K mg "row_at" s_row_at) (D_number_of : DefAt K mg "number_of" s_number_of) (D_is_number : DefAt K mg "is_number" s_is_number) (D_are_numbers : DefAt K mg "are_numbers" s_are_numbers) (D_divisor : DefAt K mg "divisor" s_divisor) (D_fraction : DefAt K mg "fraction" s_fraction) (D_way_sums : DefAt K mg "way_sums" s_way_sums) (D_least_ratio : DefAt K mg "least_ratio" s_least_ratio) (D_greatest_ratio : DefAt K mg "greatest_ratio" s_greatest_ratio) (D_growth : DefAt K mg "growth" s_growth) (D_sums_behind : DefAt K mg "sums_behind" s_sums_behind) (D_let_down : DefAt K mg "let_down" s_let_down) (D_enough : DefAt K mg "enough" s_enough) (D_shows_enough : DefAt K mg "shows_enough" s_shows_enough) (D_is_too_little : DefAt K mg "is_too_little" s_is_too_little) (D_too_little : DefAt K mg "too_little" s_too_little) (D_shows_too_little : DefAt K mg "shows_too_little" s_shows_too_little) (D_round_count : DefAt K mg "round_count" s_round_count) (D_bits_for : DefAt K mg "bits_for" s_bits_for) (D_least_many : DefAt K mg "least_many" s_least_many) (D_parts_of : DefAt K mg "parts_of" s_parts_of) (D_as_bits : DefAt K mg "as_bits" s_as_bits) (D_as_number : DefAt K mg "as_number" s_as_number) (D_table_written : DefAt K mg "table_written" s_table_written) (D_block_number : DefAt K mg "block_number" s_block_number) (D_table_read : DefAt K mg "table_read" s_table_read) (D__law_cell_at : DefAt K mg "_law_cell_at" s__law_cell_at) (D__law_box : DefAt K mg "_law_box" s__law_box) (D__law_take : DefAt K mg "_law_take" s__law_take) (D__law_bursts : DefAt K mg "_law_bursts" s__law_bursts) (D__law_ring : DefAt K mg "_law_ring" s__law_ring) (D__law_many : DefAt K mg "_law_many" s__law_many) (D__law_by_rooms : DefAt K mg "_law_by_rooms" s__law_by_rooms) (D__law_counts : DefAt K mg "_law_counts" s__law_counts) (D__law_short : DefAt K mg "_law_short" s__law_short) (D__law_room_right : DefAt K mg "_law_room_right" s__law_room_right) (D__law_weights : DefAt K mg "_law_weights" s__law_weights) (D__law_enough_right : DefAt K mg "_law_enough_right" s__law_enough_right) (D__law_growth_right : DefAt K mg "_law_growth_right" s__law_growth_right) (D__law_rounds_right : DefAt K mg "_law_rounds_right" s__law_rounds_right) (D__law_of_order : DefAt K mg "_law_of_order" s__law_of_order) (D__law_fours_right : DefAt K mg "_law_fours_right" s__law_fours_right) (D_law : DefAt K mg "law" s_law) (E_BadBlock : OwnAt K mg "BadBlock" "BadBlock.__init__" "block" a_BadBlock is_BadBlock) (E_NoRow : ClsAt K mg "NoRow" a_NoRow) (S_NoRow_NoRow : PySem.W.subIn K (.ref a_NoRow) (.ref a_NoRow) = some true) (z_abs : mg "abs" = none) (z_all : mg "all" = none) (z_any : mg "any" = none) (z_bool : mg "bool" = none) (z_enumerate : mg "enumerate" = none) (z_int : mg "int" = none) (z_isinstance : mg "isinstance" = none) (z_len : mg "len" = none) (z_list : mg "list" = none) (z_max : mg "max" = none) (z_min : mg "min" = none) (z_range : mg "range" = none) (z_sum : mg "sum" = none) (z_tuple : mg "tuple" = none) (z_zip : mg "zip" = none) (C_MOST_BLOCKS : ∃ t, mg "MOST_BLOCKS" = some (.int 400 t)) :
    ∃ fd : FuncData, (∀ (s : Shared) (v : Value), BindsTo s fd ⟨[v], []⟩ [("script", v)]) ∧ ∀ base : Heap, K.In base → base.Ns mainGlobals mg → FnOk P w K mg base (L2.CX P w) 9 fa fd ["script"] (spP K c_law) := by
  obtain ⟨f_ends_of, d_ends_of, F_ends_of, g_ends_of⟩ := D_ends_of
  obtain ⟨f_one_longer, d_one_longer, F_one_longer, g_one_longer⟩ := D_one_longer
  obtain ⟨f_tables_of, d_tables_of, F_tables_of, g_tables_of⟩ := D_tables_of
  obtain ⟨f_counts, d_counts, F_counts, g_counts⟩ := D_counts
  obtain ⟨f_counts_to, d_counts_to, F_counts_to, g_counts_to⟩ := D_counts_to
  obtain ⟨f_from_there, d_from_there, F_from_there, g_from_there⟩ := D_from_there
  obtain ⟨f_row_at, d_row_at, F_row_at, g_row_at⟩ := D_row_at
  obtain ⟨f_number_of, d_number_of, F_number_of, g_number_of⟩ := D_number_of
  obtain ⟨f_is_number, d_is_number, F_is_number, g_is_number⟩ := D_is_number
  obtain ⟨f_are_numbers, d_are_numbers, F_are_numbers, g_are_numbers⟩ := D_are_numbers
  obtain ⟨f_divisor, d_divisor, F_divisor, g_divisor⟩ := D_divisor
  obtain ⟨f_fraction, d_fraction, F_fraction, g_fraction⟩ := D_fraction
  obtain ⟨f_way_sums, d_way_sums, F_way_sums, g_way_sums⟩ := D_way_sums
  obtain ⟨f_least_ratio, d_least_ratio, F_least_ratio, g_least_ratio⟩ := D_least_ratio
  obtain ⟨f_greatest_ratio, d_greatest_ratio, F_greatest_ratio, g_greatest_ratio⟩ := D_greatest_ratio
  obtain ⟨f_growth, d_growth, F_growth, g_growth⟩ := D_growth
  obtain ⟨f_sums_behind, d_sums_behind, F_sums_behind, g_sums_behind⟩ := D_sums_behind
  obtain ⟨f_let_down, d_let_down, F_let_down, g_let_down⟩ := D_let_down
  obtain ⟨f_enough, d_enough, F_enough, g_enough⟩ := D_enough
  obtain ⟨f_shows_enough, d_shows_enough, F_shows_enough, g_shows_enough⟩ := D_shows_enough
  obtain ⟨f_is_too_little, d_is_too_little, F_is_too_little, g_is_too_little⟩ := D_is_too_little
  obtain ⟨f_too_little, d_too_little, F_too_little, g_too_little⟩ := D_too_little
  obtain ⟨f_shows_too_little, d_shows_too_little, F_shows_too_little, g_shows_too_little⟩ := D_shows_too_little
  obtain ⟨f_round_count, d_round_count, F_round_count, g_round_count⟩ := D_round_count
  obtain ⟨f_bits_for, d_bits_for, F_bits_for, g_bits_for⟩ := D_bits_for
  obtain ⟨f_least_many, d_least_many, F_least_many, g_least_many⟩ := D_least_many
  obtain ⟨f_parts_of, d_parts_of, F_parts_of, g_parts_of⟩ := D_parts_of
  obtain ⟨f_as_bits, d_as_bits, F_as_bits, g_as_bits⟩ := D_as_bits
  obtain ⟨f_as_number, d_as_number, F_as_number, g_as_number⟩ := D_as_number
  obtain ⟨f_table_written, d_table_written, F_table_written, g_table_written⟩ := D_table_written
  obtain ⟨f_block_number, d_block_number, F_block_number, g_block_number⟩ := D_block_number
  obtain ⟨f_table_read, d_table_read, F_table_read, g_table_read⟩ := D_table_read
  obtain ⟨f__law_cell_at, d__law_cell_at, F__law_cell_at, g__law_cell_at⟩ := D__law_cell_at
  obtain ⟨f__law_box, d__law_box, F__law_box, g__law_box⟩ := D__law_box
  obtain ⟨f__law_take, d__law_take, F__law_take, g__law_take⟩ := D__law_take
  obtain ⟨f__law_bursts, d__law_bursts, F__law_bursts, g__law_bursts⟩ := D__law_bursts
  obtain ⟨f__law_ring, d__law_ring, F__law_ring, g__law_ring⟩ := D__law_ring
  obtain ⟨f__law_many, d__law_many, F__law_many, g__law_many⟩ := D__law_many
  obtain ⟨f__law_by_rooms, d__law_by_rooms, F__law_by_rooms, g__law_by_rooms⟩ := D__law_by_rooms
  obtain ⟨f__law_counts, d__law_counts, F__law_counts, g__law_counts⟩ := D__law_counts
  obtain ⟨f__law_short, d__law_short, F__law_short, g__law_short⟩ := D__law_short
  obtain ⟨f__law_room_right, d__law_room_right, F__law_room_right, g__law_room_right⟩ := D__law_room_right
  obtain ⟨f__law_weights, d__law_weights, F__law_weights, g__law_weights⟩ := D__law_weights
  obtain ⟨f__law_enough_right, d__law_enough_right, F__law_enough_right, g__law_enough_right⟩ := D__law_enough_right
  obtain ⟨f__law_growth_right, d__law_growth_right, F__law_growth_right, g__law_growth_right⟩ := D__law_growth_right
  obtain ⟨f__law_rounds_right, d__law_rounds_right, F__law_rounds_right, g__law_rounds_right⟩ := D__law_rounds_right
  obtain ⟨f__law_of_order, d__law_of_order, F__law_of_order, g__law_of_order⟩ := D__law_of_order
  obtain ⟨f__law_fours_right, d__law_fours_right, F__law_fours_right, g__law_fours_right⟩ := D__law_fours_right
  obtain ⟨f_law, d_law, F_law, g_law⟩ := D_law
  obtain ⟨fi_BadBlock, di_BadBlock, br_BadBlock, FI_BadBlock, o_BadBlock, i_BadBlock, t_BadBlock, g_BadBlock, x_BadBlock, f_BadBlock, n_BadBlock, gb_BadBlock, sb_BadBlock, rb_BadBlock, cb_BadBlock⟩ := E_BadBlock
  have e := hfa.symm.trans g_law
  cases e
  have T : Tx K mg ⟨fi_BadBlock, di_BadBlock, br_BadBlock, f_ends_of, d_ends_of, f_one_longer, d_one_longer, f_tables_of, d_tables_of, f_counts, d_counts, f_counts_to, d_counts_to, f_from_there, d_from_there, f_row_at, d_row_at, f_number_of, d_number_of, f_is_number, d_is_number, f_are_numbers, d_are_numbers, f_divisor, d_divisor, f_fraction, d_fraction, f_way_sums, d_way_sums, f_least_ratio, d_least_ratio, f_greatest_ratio, d_greatest_ratio, f_growth, d_growth, f_sums_behind, d_sums_behind, f_let_down, d_let_down, f_enough, d_enough, f_shows_enough, d_shows_enough, f_is_too_little, d_is_too_little, f_too_little, d_too_little, f_shows_too_little, d_shows_too_little, f_round_count, d_round_count, f_bits_for, d_bits_for, f_least_many, d_least_many, f_parts_of, d_parts_of, f_as_bits, d_as_bits, f_as_number, d_as_number, f_table_written, d_table_written, f_block_number, d_block_number, f_table_read, d_table_read, f__law_cell_at, d__law_cell_at, f__law_box, d__law_box, f__law_take, d__law_take, f__law_bursts, d__law_bursts, f__law_ring, d__law_ring, f__law_many, d__law_many, f__law_by_rooms, d__law_by_rooms, f__law_counts, d__law_counts, f__law_short, d__law_short, f__law_room_right, d__law_room_right, f__law_weights, d__law_weights, f__law_enough_right, d__law_enough_right, f__law_growth_right, d__law_growth_right, f__law_rounds_right, d__law_rounds_right, f__law_of_order, d__law_of_order, f__law_fours_right, d__law_fours_right, fa, d_law⟩ := ⟨F_ends_of, g_ends_of, bi_ends_of F_ends_of, F_one_longer, g_one_longer, bi_one_longer F_one_longer, F_tables_of, g_tables_of, bi_tables_of F_tables_of, F_counts, g_counts, bi_counts F_counts, F_counts_to, g_counts_to, bi_counts_to F_counts_to, F_from_there, g_from_there, bi_from_there F_from_there, F_row_at, g_row_at, bi_row_at F_row_at, F_number_of, g_number_of, bi_number_of F_number_of, F_is_number, g_is_number, bi_is_number F_is_number, F_are_numbers, g_are_numbers, bi_are_numbers F_are_numbers, F_divisor, g_divisor, bi_divisor F_divisor, F_fraction, g_fraction, bi_fraction F_fraction, F_way_sums, g_way_sums, bi_way_sums F_way_sums, F_least_ratio, g_least_ratio, bi_least_ratio F_least_ratio, F_greatest_ratio, g_greatest_ratio, bi_greatest_ratio F_greatest_ratio, F_growth, g_growth, bi_growth F_growth, F_sums_behind, g_sums_behind, bi_sums_behind F_sums_behind, F_let_down, g_let_down, bi_let_down F_let_down, F_enough, g_enough, bi_enough F_enough, F_shows_enough, g_shows_enough, bi_shows_enough F_shows_enough, F_is_too_little, g_is_too_little, bi_is_too_little F_is_too_little, F_too_little, g_too_little, bi_too_little F_too_little, F_shows_too_little, g_shows_too_little, bi_shows_too_little F_shows_too_little, F_round_count, g_round_count, bi_round_count F_round_count, F_bits_for, g_bits_for, bi_bits_for F_bits_for, F_least_many, g_least_many, bi_least_many F_least_many, F_parts_of, g_parts_of, bi_parts_of F_parts_of, F_as_bits, g_as_bits, bi_as_bits F_as_bits, F_as_number, g_as_number, bi_as_number F_as_number, F_table_written, g_table_written, bi_table_written F_table_written, F_block_number, g_block_number, bi_block_number F_block_number, F_table_read, g_table_read, bi_table_read F_table_read, F__law_cell_at, g__law_cell_at, bi__law_cell_at F__law_cell_at, F__law_box, g__law_box, bi__law_box F__law_box, F__law_take, g__law_take, bi__law_take F__law_take, F__law_bursts, g__law_bursts, bi__law_bursts F__law_bursts, F__law_ring, g__law_ring, bi__law_ring F__law_ring, F__law_many, g__law_many, bi__law_many F__law_many, F__law_by_rooms, g__law_by_rooms, bi__law_by_rooms F__law_by_rooms, F__law_counts, g__law_counts, bi__law_counts F__law_counts, F__law_short, g__law_short, bi__law_short F__law_short, F__law_room_right, g__law_room_right, bi__law_room_right F__law_room_right, F__law_weights, g__law_weights, bi__law_weights F__law_weights, F__law_enough_right, g__law_enough_right, bi__law_enough_right F__law_enough_right, F__law_growth_right, g__law_growth_right, bi__law_growth_right F__law_growth_right, F__law_rounds_right, g__law_rounds_right, bi__law_rounds_right F__law_rounds_right, F__law_of_order, g__law_of_order, bi__law_of_order F__law_of_order, F__law_fours_right, g__law_fours_right, bi__law_fours_right F__law_fours_right, F_law, g_law, bi_law F_law, FI_BadBlock, o_BadBlock, i_BadBlock, t_BadBlock, bi_BadBlock FI_BadBlock, g_BadBlock, x_BadBlock, f_BadBlock, n_BadBlock, gb_BadBlock, sb_BadBlock, rb_BadBlock, cb_BadBlock, E_NoRow, S_NoRow_NoRow, z_abs, z_all, z_any, z_bool, z_enumerate, z_int, z_isinstance, z_len, z_list, z_max, z_min, z_range, z_sum, z_tuple, z_zip, C_MOST_BLOCKS⟩
  have G := fun base => G_law (P := P) (w := w) (base := base) T
  obtain ⟨oc, od, kV, doc, pm, an, cdv, ct, osl, rfl, lk, hcd⟩ := F_law.ex
  exact ⟨PySem.W.fnOf "law" "law" (defArgs s_law) (defBody s_law) (defScope s_law) .none kV doc pm an cdv ct, fun s v => .of_eq rfl, fun base _ _ => G base⟩
end K82
open PySem PySem.W PyProof.Rows
set_option maxHeartbeats 0 in
theorem PySem.Challenge.cw_runbound_k82_whole_bursts_holds : PySem.Challenge.rw_runbound_k82_whole_bursts.Holds := by
  w_on; o_law; k_head; (case hw => w_witness2)
  k_fill
  refine L2.walk_of (l := PySem.Challenge.rw_runbound_k82_whole_bursts) (n := 63) (k := 9) (x := "script") (CX := fun w => L2.CX PySem.Challenge.rw_runbound_k82_whole_bursts.prog w) (sp := fun w => G.spP _ K82.c_law) rfl (by decide) rfl ⟨rfl, by decide, by decide⟩ (fun w h Y => PySem.W.kIn_of Y) ?F (fun _ H a ns hl _ hS => G.law_holds K82.law_ok H a ns hl hS) (fun _ _ _ _ _ h => G.no_exc h)
  case F =>
    intro w mg fa h KX hG hmg
    have D_ends_of : G.DefIn KX mg "ends_of" K82.s_ends_of := by
      refine' G.def_mk KX hG ?a ?l ?c ?k
      (case a => k_is); (case l => k_is); (case c => k_is); (case k => k_is)
    have D_one_longer : G.DefIn KX mg "one_longer" K82.s_one_longer := by
      refine' G.def_mk KX hG ?a ?l ?c ?k
      (case a => k_is); (case l => k_is); (case c => k_is); (case k => k_is)
    have D_tables_of : G.DefIn KX mg "tables_of" K82.s_tables_of := by
      refine' G.def_mk KX hG ?a ?l ?c ?k
      (case a => k_is); (case l => k_is); (case c => k_is); (case k => k_is)
    have D_counts : G.DefIn KX mg "counts" K82.s_counts := by
      refine' G.def_mk KX hG ?a ?l ?c ?k
      (case a => k_is); (case l => k_is); (case c => k_is); (case k => k_is)
    have D_counts_to : G.DefIn KX mg "counts_to" K82.s_counts_to := by
      refine' G.def_mk KX hG ?a ?l ?c ?k
      (case a => k_is); (case l => k_is); (case c => k_is); (case k => k_is)
    have D_from_there : G.DefIn KX mg "from_there" K82.s_from_there := by
      refine' G.def_mk KX hG ?a ?l ?c ?k
      (case a => k_is); (case l => k_is); (case c => k_is); (case k => k_is)
    have D_row_at : G.DefIn KX mg "row_at" K82.s_row_at := by
      refine' G.def_mk KX hG ?a ?l ?c ?k
      (case a => k_is); (case l => k_is); (case c => k_is); (case k => k_is)
    have D_number_of : G.DefIn KX mg "number_of" K82.s_number_of := by
      refine' G.def_mk KX hG ?a ?l ?c ?k
      (case a => k_is); (case l => k_is); (case c => k_is); (case k => k_is)
    have D_is_number : G.DefIn KX mg "is_number" K82.s_is_number := by
      refine' G.def_mk KX hG ?a ?l ?c ?k
      (case a => k_is); (case l => k_is); (case c => k_is); (case k => k_is)
    have D_are_numbers : G.DefIn KX mg "are_numbers" K82.s_are_numbers := by
      refine' G.def_mk KX hG ?a ?l ?c ?k
      (case a => k_is); (case l => k_is); (case c => k_is); (case k => k_is)
    have D_divisor : G.DefIn KX mg "divisor" K82.s_divisor := by
      refine' G.def_mk KX hG ?a ?l ?c ?k
      (case a => k_is); (case l => k_is); (case c => k_is); (case k => k_is)
    have D_fraction : G.DefIn KX mg "fraction" K82.s_fraction := by
      refine' G.def_mk KX hG ?a ?l ?c ?k
      (case a => k_is); (case l => k_is); (case c => k_is); (case k => k_is)
    have D_way_sums : G.DefIn KX mg "way_sums" K82.s_way_sums := by
      refine' G.def_mk KX hG ?a ?l ?c ?k
      (case a => k_is); (case l => k_is); (case c => k_is); (case k => k_is)
    have D_least_ratio : G.DefIn KX mg "least_ratio" K82.s_least_ratio := by
      refine' G.def_mk KX hG ?a ?l ?c ?k
      (case a => k_is); (case l => k_is); (case c => k_is); (case k => k_is)
    have D_greatest_ratio : G.DefIn KX mg "greatest_ratio" K82.s_greatest_ratio := by
      refine' G.def_mk KX hG ?a ?l ?c ?k
      (case a => k_is); (case l => k_is); (case c => k_is); (case k => k_is)
    have D_growth : G.DefIn KX mg "growth" K82.s_growth := by
      refine' G.def_mk KX hG ?a ?l ?c ?k
      (case a => k_is); (case l => k_is); (case c => k_is); (case k => k_is)
    have D_sums_behind : G.DefIn KX mg "sums_behind" K82.s_sums_behind := by
      refine' G.def_mk KX hG ?a ?l ?c ?k
      (case a => k_is); (case l => k_is); (case c => k_is); (case k => k_is)
    have D_let_down : G.DefIn KX mg "let_down" K82.s_let_down := by
      refine' G.def_mk KX hG ?a ?l ?c ?k
      (case a => k_is); (case l => k_is); (case c => k_is); (case k => k_is)
    have D_enough : G.DefIn KX mg "enough" K82.s_enough := by
      refine' G.def_mk KX hG ?a ?l ?c ?k
      (case a => k_is); (case l => k_is); (case c => k_is); (case k => k_is)
    have D_shows_enough : G.DefIn KX mg "shows_enough" K82.s_shows_enough := by
      refine' G.def_mk KX hG ?a ?l ?c ?k
      (case a => k_is); (case l => k_is); (case c => k_is); (case k => k_is)
    have D_is_too_little : G.DefIn KX mg "is_too_little" K82.s_is_too_little := by
      refine' G.def_mk KX hG ?a ?l ?c ?k
      (case a => k_is); (case l => k_is); (case c => k_is); (case k => k_is)
    have D_too_little : G.DefIn KX mg "too_little" K82.s_too_little := by
      refine' G.def_mk KX hG ?a ?l ?c ?k
      (case a => k_is); (case l => k_is); (case c => k_is); (case k => k_is)
    have D_shows_too_little : G.DefIn KX mg "shows_too_little" K82.s_shows_too_little := by
      refine' G.def_mk KX hG ?a ?l ?c ?k
      (case a => k_is); (case l => k_is); (case c => k_is); (case k => k_is)
    have D_round_count : G.DefIn KX mg "round_count" K82.s_round_count := by
      refine' G.def_mk KX hG ?a ?l ?c ?k
      (case a => k_is); (case l => k_is); (case c => k_is); (case k => k_is)
    have D_bits_for : G.DefIn KX mg "bits_for" K82.s_bits_for := by
      refine' G.def_mk KX hG ?a ?l ?c ?k
      (case a => k_is); (case l => k_is); (case c => k_is); (case k => k_is)
    have D_least_many : G.DefIn KX mg "least_many" K82.s_least_many := by
      refine' G.def_mk KX hG ?a ?l ?c ?k
      (case a => k_is); (case l => k_is); (case c => k_is); (case k => k_is)
    have D_parts_of : G.DefIn KX mg "parts_of" K82.s_parts_of := by
      refine' G.def_mk KX hG ?a ?l ?c ?k
      (case a => k_is); (case l => k_is); (case c => k_is); (case k => k_is)
    have D_as_bits : G.DefIn KX mg "as_bits" K82.s_as_bits := by
      refine' G.def_mk KX hG ?a ?l ?c ?k
      (case a => k_is); (case l => k_is); (case c => k_is); (case k => k_is)
    have D_as_number : G.DefIn KX mg "as_number" K82.s_as_number := by
      refine' G.def_mk KX hG ?a ?l ?c ?k
      (case a => k_is); (case l => k_is); (case c => k_is); (case k => k_is)
    have D_table_written : G.DefIn KX mg "table_written" K82.s_table_written := by
      refine' G.def_mk KX hG ?a ?l ?c ?k
      (case a => k_is); (case l => k_is); (case c => k_is); (case k => k_is)
    have D_block_number : G.DefIn KX mg "block_number" K82.s_block_number := by
      refine' G.def_mk KX hG ?a ?l ?c ?k
      (case a => k_is); (case l => k_is); (case c => k_is); (case k => k_is)
    have D_table_read : G.DefIn KX mg "table_read" K82.s_table_read := by
      refine' G.def_mk KX hG ?a ?l ?c ?k
      (case a => k_is); (case l => k_is); (case c => k_is); (case k => k_is)
    have D__law_cell_at : G.DefIn KX mg "_law_cell_at" K82.s__law_cell_at := by
      refine' G.def_mk KX hG ?a ?l ?c ?k
      (case a => k_is); (case l => k_is); (case c => k_is); (case k => k_is)
    have D__law_box : G.DefIn KX mg "_law_box" K82.s__law_box := by
      refine' G.def_mk KX hG ?a ?l ?c ?k
      (case a => k_is); (case l => k_is); (case c => k_is); (case k => k_is)
    have D__law_take : G.DefIn KX mg "_law_take" K82.s__law_take := by
      refine' G.def_mk KX hG ?a ?l ?c ?k
      (case a => k_is); (case l => k_is); (case c => k_is); (case k => k_is)
    have D__law_bursts : G.DefIn KX mg "_law_bursts" K82.s__law_bursts := by
      refine' G.def_mk KX hG ?a ?l ?c ?k
      (case a => k_is); (case l => k_is); (case c => k_is); (case k => k_is)
    have D__law_ring : G.DefIn KX mg "_law_ring" K82.s__law_ring := by
      refine' G.def_mk KX hG ?a ?l ?c ?k
      (case a => k_is); (case l => k_is); (case c => k_is); (case k => k_is)
    have D__law_many : G.DefIn KX mg "_law_many" K82.s__law_many := by
      refine' G.def_mk KX hG ?a ?l ?c ?k
      (case a => k_is); (case l => k_is); (case c => k_is); (case k => k_is)
    have D__law_by_rooms : G.DefIn KX mg "_law_by_rooms" K82.s__law_by_rooms := by
      refine' G.def_mk KX hG ?a ?l ?c ?k
      (case a => k_is); (case l => k_is); (case c => k_is); (case k => k_is)
    have D__law_counts : G.DefIn KX mg "_law_counts" K82.s__law_counts := by
      refine' G.def_mk KX hG ?a ?l ?c ?k
      (case a => k_is); (case l => k_is); (case c => k_is); (case k => k_is)
    have D__law_short : G.DefIn KX mg "_law_short" K82.s__law_short := by
      refine' G.def_mk KX hG ?a ?l ?c ?k
      (case a => k_is); (case l => k_is); (case c => k_is); (case k => k_is)
    have D__law_room_right : G.DefIn KX mg "_law_room_right" K82.s__law_room_right := by
      refine' G.def_mk KX hG ?a ?l ?c ?k
      (case a => k_is); (case l => k_is); (case c => k_is); (case k => k_is)
    have D__law_weights : G.DefIn KX mg "_law_weights" K82.s__law_weights := by
      refine' G.def_mk KX hG ?a ?l ?c ?k
      (case a => k_is); (case l => k_is); (case c => k_is); (case k => k_is)
    have D__law_enough_right : G.DefIn KX mg "_law_enough_right" K82.s__law_enough_right := by
      refine' G.def_mk KX hG ?a ?l ?c ?k
      (case a => k_is); (case l => k_is); (case c => k_is); (case k => k_is)
    have D__law_growth_right : G.DefIn KX mg "_law_growth_right" K82.s__law_growth_right := by
      refine' G.def_mk KX hG ?a ?l ?c ?k
      (case a => k_is); (case l => k_is); (case c => k_is); (case k => k_is)
    have D__law_rounds_right : G.DefIn KX mg "_law_rounds_right" K82.s__law_rounds_right := by
      refine' G.def_mk KX hG ?a ?l ?c ?k
      (case a => k_is); (case l => k_is); (case c => k_is); (case k => k_is)
    have D__law_of_order : G.DefIn KX mg "_law_of_order" K82.s__law_of_order := by
      refine' G.def_mk KX hG ?a ?l ?c ?k
      (case a => k_is); (case l => k_is); (case c => k_is); (case k => k_is)
    have D__law_fours_right : G.DefIn KX mg "_law_fours_right" K82.s__law_fours_right := by
      refine' G.def_mk KX hG ?a ?l ?c ?k
      (case a => k_is); (case l => k_is); (case c => k_is); (case k => k_is)
    have D_law : G.DefIn KX mg "law" K82.s_law := by
      refine' G.def_mk KX hG ?a ?l ?c ?k
      (case a => k_is); (case l => k_is); (case c => k_is); (case k => k_is)
    have E_BadBlock : G.OwnIn KX mg "BadBlock" "BadBlock.__init__" "block" K82.a_BadBlock K82.is_BadBlock := by
      refine' G.own_mk KX hG ?aC ?xL ?rv ?sa ?ga ?gg ?nb ?a1 ?t1 ?l1 ?c1 ?k1 ?kC ?eC ?tC ?hC ?iC ?sC ?aR ?sb ?rb ?cb
      (case aC => k_is)
      (case xL => k_is)
      (case rv => decide +kernel)
      (case sa => k_is)
      (case ga => k_is)
      (case gg => k_is)
      (case nb => k_is)
      (case a1 => k_is)
      (case t1 => k_is)
      (case l1 => k_is)
      (case c1 => k_is)
      (case k1 => k_is)
      (case kC => k_is)
      (case eC => k_is)
      (case tC => k_is)
      (case hC => k_is)
      (case iC => k_is)
      (case sC => first | rfl | k_is)
      (case aR => k_is)
      (case sb => k_is)
      (case rb => k_is)
      (case cb => k_is)
    have E_NoRow : G.ClsIn KX mg "NoRow" K82.a_NoRow := by
      refine' G.cls_mk KX hG ?a ?e ?k ?b ?t ?i
      (case a => k_is); (case e => k_exc); (case k => k_is); (case b => k_is); (case t => k_is); (case i => k_is)
    have S_NoRow_NoRow : G.SubIn KX K82.a_NoRow K82.a_NoRow true := by
      refine' G.sub_mk KX ?s
      (case s => first | rfl | k_is)
    have z_abs : mg "abs" = none := by
      refine' PySem.W.mg_none_of KX hG ?z
      (case z => k_is)
    have z_all : mg "all" = none := by
      refine' PySem.W.mg_none_of KX hG ?z
      (case z => k_is)
    have z_any : mg "any" = none := by
      refine' PySem.W.mg_none_of KX hG ?z
      (case z => k_is)
    have z_bool : mg "bool" = none := by
      refine' PySem.W.mg_none_of KX hG ?z
      (case z => k_is)
    have z_enumerate : mg "enumerate" = none := by
      refine' PySem.W.mg_none_of KX hG ?z
      (case z => k_is)
    have z_int : mg "int" = none := by
      refine' PySem.W.mg_none_of KX hG ?z
      (case z => k_is)
    have z_isinstance : mg "isinstance" = none := by
      refine' PySem.W.mg_none_of KX hG ?z
      (case z => k_is)
    have z_len : mg "len" = none := by
      refine' PySem.W.mg_none_of KX hG ?z
      (case z => k_is)
    have z_list : mg "list" = none := by
      refine' PySem.W.mg_none_of KX hG ?z
      (case z => k_is)
    have z_max : mg "max" = none := by
      refine' PySem.W.mg_none_of KX hG ?z
      (case z => k_is)
    have z_min : mg "min" = none := by
      refine' PySem.W.mg_none_of KX hG ?z
      (case z => k_is)
    have z_range : mg "range" = none := by
      refine' PySem.W.mg_none_of KX hG ?z
      (case z => k_is)
    have z_sum : mg "sum" = none := by
      refine' PySem.W.mg_none_of KX hG ?z
      (case z => k_is)
    have z_tuple : mg "tuple" = none := by
      refine' PySem.W.mg_none_of KX hG ?z
      (case z => k_is)
    have z_zip : mg "zip" = none := by
      refine' PySem.W.mg_none_of KX hG ?z
      (case z => k_is)
    have C_MOST_BLOCKS : G.CIIn KX mg "MOST_BLOCKS" 400 := by
      refine' G.ci_mk KX hG ?z
      (case z => k_is)
    exact K82.all_mk hmg D_ends_of D_one_longer D_tables_of D_counts D_counts_to D_from_there D_row_at D_number_of D_is_number D_are_numbers D_divisor D_fraction D_way_sums D_least_ratio D_greatest_ratio D_growth D_sums_behind D_let_down D_enough D_shows_enough D_is_too_little D_too_little D_shows_too_little D_round_count D_bits_for D_least_many D_parts_of D_as_bits D_as_number D_table_written D_block_number D_table_read D__law_cell_at D__law_box D__law_take D__law_bursts D__law_ring D__law_many D__law_by_rooms D__law_counts D__law_short D__law_room_right D__law_weights D__law_enough_right D__law_growth_right D__law_rounds_right D__law_of_order D__law_fours_right D_law E_BadBlock E_NoRow S_NoRow_NoRow z_abs z_all z_any z_bool z_enumerate z_int z_isinstance z_len z_list z_max z_min z_range z_sum z_tuple z_zip C_MOST_BLOCKS

