import PyProof.Rows.All
import Wide.All
import OpenK.AllK
import Wide.FinOn
import HandS.ForMost
import HandS.ForExc
import HandS.Wide
import HandS.WideBits
import HandS.RaiseMore
import HandS.More
import HandS.Style
import HandS.TryOnly
import KE.GoesEnum
import HandS.ExcField
import HandS.ExcInit
import HandS.IsInst
import PySem.Challenge.RW_runbound_k80_whole_long_tables
set_option Elab.async false
set_option linter.all false
set_option maxRecDepth 100000
set_option maxHeartbeats 4000000
/-! G: plain data over the hand layer: what a variable holds (frozen data, or a list of its own), readings over that -/
namespace G
open PySem PySem.Spec PyProof.Rows L2

/-- plain data -/
inductive D where
  | non | bl (b : Bool) | int (i : Int) | str (x : Str) | lst (xs : List D) | tup (xs : List D) | scr (ns : List Int)
/-- what an own object holds -/
inductive C where
  | lst (xs : List D) | dk (kvs : List (Key × D)) | dt (kvs : List (List Key × D))
/-- a slot: unknown, data that stays, an own object (pinned at its address where t says so) -/
inductive S where
  | un | fz (d : D) | ow (t : Option Addr) (c : C)
/-- an exception: of a class alone, or with one field -/
inductive Ex where
  | pl (c : Addr) | fd (c : Addr) (f : Str) (v : V)

section
variable (K : PySem.W.Frag) (F : Hp)
mutual
inductive Rep : V → D → Prop
  | non : Rep .non .non
  | bl (b : Bool) : Rep (.bl b) (.bl b)
  | int (i : Int) : Rep (.int i) (.int i)
  | str (x : Str) : Rep (.str x) (.str x)
  | lst {a : Addr} {vs : List V} {ds : List D} : F a = some (.lst vs) → Reps vs ds → Rep (.ref a) (.lst ds)
  | tup {a : Addr} {vs : List V} {ds : List D} : F a = some (.tup vs) → Reps vs ds → Rep (.ref a) (.tup ds)
  | scr {a : Addr} {ns : List Int} : SqL K F a (ns.map V.int) → Rep (.ref a) (.scr ns)
inductive Reps : List V → List D → Prop
  | nil : Reps [] []
  | cons {v : V} {vs : List V} {d : D} {ds : List D} : Rep v d → Reps vs ds → Reps (v :: vs) (d :: ds)
end
inductive RepKV {κ : Type} : List (κ × V) → List (κ × D) → Prop
  | nil : RepKV [] []
  | cons {k : κ} {v : V} {d : D} {r : List (κ × V)} {s : List (κ × D)} : Rep K F v d → RepKV r s → RepKV ((k, v) :: r) ((k, d) :: s)
inductive RepC : HO → C → Prop
  | lst {vs : List V} {ds : List D} : Reps K F vs ds → RepC (.lst vs) (.lst ds)
  | dk {a : List (Key × V)} {b : List (Key × D)} : RepKV K F a b → RepC (.dK a) (.dk b)
  | dt {a : List (List Key × V)} {b : List (List Key × D)} : RepKV K F a b → RepC (.dT a) (.dt b)
end

section
variable {K : PySem.W.Frag} {F F' : Hp}
mutual
theorem Rep.mono' (h : Same F F') : ∀ (d : D) (v : V), Rep K F v d → Rep K F' v d
  | .non, _, .non => .non
  | .bl _, _, .bl _ => .bl _
  | .int _, _, .int _ => .int _
  | .str _, _, .str _ => .str _
  | .lst ds, _, .lst e r => .lst (h _ _ e) (Reps.mono' h ds _ r)
  | .tup ds, _, .tup e r => .tup (h _ _ e) (Reps.mono' h ds _ r)
  | .scr _, _, .scr e => .scr (h.seq e)
theorem Reps.mono' (h : Same F F') : ∀ (ds : List D) (vs : List V), Reps K F vs ds → Reps K F' vs ds
  | [], _, .nil => .nil
  | d :: ds, _, .cons r t => .cons (Rep.mono' h d _ r) (Reps.mono' h ds _ t)
end
theorem Rep.mono {d : D} {v : V} (r : Rep K F v d) (h : Same F F') : Rep K F' v d := Rep.mono' h d v r
theorem Reps.mono {ds : List D} {vs : List V} (r : Reps K F vs ds) (h : Same F F') : Reps K F' vs ds := Reps.mono' h ds vs r
theorem RepKV.mono {κ : Type} {a : List (κ × V)} {b : List (κ × D)} (r : RepKV K F a b) (h : Same F F') : RepKV K F' a b := by
  induction r with
  | nil => exact .nil
  | cons q _ ih => exact .cons (q.mono h) ih
theorem RepC.mono {o : HO} {c : C} (r : RepC K F o c) (h : Same F F') : RepC K F' o c := by
  cases r with
  | lst q => exact .lst (q.mono h)
  | dk q => exact .dk (q.mono h)
  | dt q => exact .dt (q.mono h)
theorem Reps.length : ∀ {vs : List V} {ds : List D}, Reps K F vs ds → vs.length = ds.length
  | [], _, h => by cases h; rfl
  | _ :: vs, _, h => by
    cases h with
    | cons _ t => show vs.length + 1 = _; rw [Reps.length t]; rfl
theorem Reps.get : ∀ {vs : List V} {ds : List D} (i : Nat) {d : D}, Reps K F vs ds → ds[i]? = some d → ∃ v, vs[i]? = some v ∧ Rep K F v d
  | [], _, i, _, h, e => by cases h; simp at e
  | v :: vs, _, i, d, h, e => by
    cases h with
    | cons r t =>
      cases i with
      | zero => simp at e; subst e; exact ⟨v, rfl, r⟩
      | succ i => simp at e; simpa using Reps.get i t e
theorem Reps.append {vs vs' : List V} {ds ds' : List D} (a : Reps K F vs ds) (b : Reps K F vs' ds') : Reps K F (vs ++ vs') (ds ++ ds') := by
  induction vs generalizing ds with
  | nil => cases a; exact b
  | cons v vs ih => cases a with | cons r t => exact .cons r (ih t)
theorem Reps.take {vs : List V} {ds : List D} (n : Nat) (a : Reps K F vs ds) : Reps K F (vs.take n) (ds.take n) := by
  induction vs generalizing ds n with
  | nil => cases a; simpa using Reps.nil
  | cons v vs ih => cases a with
    | cons r t => cases n with
      | zero => exact .nil
      | succ n => exact .cons r (ih n t)
theorem Reps.drop {vs : List V} {ds : List D} (n : Nat) (a : Reps K F vs ds) : Reps K F (vs.drop n) (ds.drop n) := by
  induction vs generalizing ds n with
  | nil => cases a; simpa using Reps.nil
  | cons v vs ih => cases a with
    | cons r t => cases n with
      | zero => exact .cons r t
      | succ n => exact ih n t
theorem Reps.set {vs : List V} {ds : List D} {v : V} {d : D} (n : Nat) (a : Reps K F vs ds) (r : Rep K F v d) : Reps K F (vs.set n v) (ds.set n d) := by
  induction vs generalizing ds n with
  | nil => cases a; simpa using Reps.nil
  | cons v vs ih => cases a with
    | cons q t => cases n with
      | zero => exact .cons r t
      | succ n => exact .cons q (ih n t)
theorem Reps.rev {vs : List V} {ds : List D} (a : Reps K F vs ds) : Reps K F vs.reverse ds.reverse := by
  induction vs generalizing ds with
  | nil => cases a; exact .nil
  | cons v vs ih => cases a with
    | cons r t => simp only [List.reverse_cons]; exact (ih t).append (.cons r .nil)
theorem Reps.eraseIdx {vs : List V} {ds : List D} (n : Nat) (a : Reps K F vs ds) : Reps K F (vs.eraseIdx n) (ds.eraseIdx n) := by
  induction vs generalizing ds n with
  | nil => cases a; simpa using Reps.nil
  | cons v vs ih => cases a with
    | cons q t => cases n with
      | zero => exact t
      | succ n => exact .cons q (ih n t)
/-- ints, texts, truths: their values -/
def dV : D → Option V
  | .non => some .non
  | .bl b => some (.bl b)
  | .int i => some (.int i)
  | .str x => some (.str x)
  | _ => none
theorem Rep.int_inv {v : V} {i : Int} (r : Rep K F v (.int i)) : v = .int i := by cases r; rfl
theorem Rep.str_inv {v : V} {x : Str} (r : Rep K F v (.str x)) : v = .str x := by cases r; rfl
theorem Rep.bl_inv {v : V} {b : Bool} (r : Rep K F v (.bl b)) : v = .bl b := by cases r; rfl
theorem Rep.non_inv {v : V} (r : Rep K F v .non) : v = .non := by cases r; rfl
theorem Rep.lst_inv {v : V} {ds : List D} (r : Rep K F v (.lst ds)) : ∃ a vs, v = .ref a ∧ F a = some (.lst vs) ∧ Reps K F vs ds := by
  cases r with | lst e r => exact ⟨_, _, rfl, e, r⟩
theorem Rep.tup_inv {v : V} {ds : List D} (r : Rep K F v (.tup ds)) : ∃ a vs, v = .ref a ∧ F a = some (.tup vs) ∧ Reps K F vs ds := by
  cases r with | tup e r => exact ⟨_, _, rfl, e, r⟩
theorem Rep.scr_inv {v : V} {ns : List Int} (r : Rep K F v (.scr ns)) : ∃ a, v = .ref a ∧ SqL K F a (ns.map V.int) := by
  cases r with | scr e => exact ⟨_, rfl, e⟩
theorem Reps.ints : ∀ {vs : List V} {ns : List Int}, Reps K F vs (ns.map D.int) → vs = ns.map V.int
  | _, [], h => by cases h; rfl
  | _, n :: ns, h => by cases h with | cons r t => rw [r.int_inv, Reps.ints t]; rfl
theorem Reps.strs : ∀ {vs : List V} {ns : List Str}, Reps K F vs (ns.map D.str) → vs = ns.map V.str
  | _, [], h => by cases h; rfl
  | _, n :: ns, h => by cases h with | cons r t => rw [r.str_inv, Reps.strs t]; rfl
theorem Reps.bls : ∀ {vs : List V} {ns : List Bool}, Reps K F vs (ns.map D.bl) → vs = ns.map V.bl
  | _, [], h => by cases h; rfl
  | _, n :: ns, h => by cases h with | cons r t => rw [r.bl_inv, Reps.bls t]; rfl
end

/-! ### states -/
/-- the slots, the own objects' addresses in order -/
inductive RS (K : PySem.W.Frag) (F H : Hp) : List Addr → List S → L2.St → Prop
  | nil : RS K F H [] [] []
  | un {A : List Addr} {ρ : List S} {σ : L2.St} {o : Option V} : RS K F H A ρ σ → RS K F H A (.un :: ρ) (o :: σ)
  | fz {A : List Addr} {ρ : List S} {σ : L2.St} {v : V} {d : D} : Rep K F v d → RS K F H A ρ σ → RS K F H A (.fz d :: ρ) (some v :: σ)
  | ow {A : List Addr} {ρ : List S} {σ : L2.St} {p : Addr} {o : HO} {c : C} {t : Option Addr} : H p = some o → RepC K F o c → F p = none → p ∉ A → (∀ q, t = some q → q = p) → RS K F H A ρ σ →
      RS K F H (p :: A) (.ow t c :: ρ) (some (V.ref p) :: σ)
structure R (K : PySem.W.Frag) (F : Hp) (A : List Addr) (ρ : List S) (σ : L2.St) (H : Hp) : Prop where
  same : Same F H
  rs : RS K F H A ρ σ
structure Stp (F H : Hp) (A : List Addr) (F' H' : Hp) (A' : List Addr) : Prop where
  ext : Same F F'
  kp : ∀ p o, H p = some o → p ∉ A → H' p = some o
  fr : ∀ p o, H p = some o → p ∉ A → F' p = F p
  sub : ∀ p, p ∈ A' → p ∈ A ∨ H p = none
  dom : ∀ p, H' p = none → H p = none
theorem Stp.refl {F H : Hp} {A : List Addr} : Stp F H A F H A := ⟨Same.refl F, fun _ _ h _ => h, fun _ _ _ _ => rfl, fun _ h => .inl h, fun _ h => h⟩
theorem Stp.trans {F H F1 H1 F2 H2 : Hp} {A A1 A2 : List Addr} (a : Stp F H A F1 H1 A1) (b : Stp F1 H1 A1 F2 H2 A2) : Stp F H A F2 H2 A2 := by
  have nA : ∀ p o, H p = some o → p ∉ A → p ∉ A1 := fun p o h n hp => by
    rcases a.sub p hp with z | z
    · exact n z
    · rw [h] at z; cases z
  refine ⟨a.ext.trans b.ext, fun p o h n => b.kp p o (a.kp p o h n) (nA p o h n), fun p o h n => (b.fr p o (a.kp p o h n) (nA p o h n)).trans (a.fr p o h n), fun p h => ?_, fun p h => a.dom p (b.dom p h)⟩
  rcases b.sub p h with z | z
  · exact a.sub p z
  · cases q : H p with
    | none => exact .inr rfl
    | some o =>
      by_cases hp : p ∈ A
      · exact .inl hp
      · rw [a.kp p o q hp] at z; cases z
/-- nothing but new objects -/
structure New (F H F' H' : Hp) : Prop where
  ext : Same F F'
  kp : Same H H'
  sm : Same F' H'
  fr : ∀ p o, H p = some o → F' p = F p
theorem New.refl {F H : Hp} (s : Same F H) : New F H F H := ⟨Same.refl F, Same.refl H, s, fun _ _ _ => rfl⟩
theorem New.stp {F H F' H' : Hp} {A : List Addr} (n : New F H F' H') : Stp F H A F' H' A := ⟨n.ext, fun p o h _ => n.kp p o h, fun p o h _ => n.fr p o h, fun _ h => .inl h, fun _ h => n.kp.free h⟩
theorem New.trans {F H F1 H1 F2 H2 : Hp} (a : New F H F1 H1) (b : New F1 H1 F2 H2) : New F H F2 H2 :=
  ⟨a.ext.trans b.ext, a.kp.trans b.kp, b.sm, fun p o h => (b.fr p o (a.kp p o h)).trans (a.fr p o h)⟩
theorem upd_eq {H : Hp} {p q : Addr} {o : HO} : upd H p o q = if q = p then some o else H q := rfl
theorem same_upd2 {F H : Hp} {p : Addr} {o : HO} (s : Same F H) : Same (upd F p o) (upd H p o) := fun q u e => by
  rw [upd_eq] at e ⊢
  split at e
  · rename_i h; rw [if_pos h]; exact e
  · rename_i h; rw [if_neg h]; exact s q u e
theorem same_new {H : Hp} {p : Addr} {o : HO} (h : H p = none) : Same H (upd H p o) := fun q u e => by
  rw [upd_ne (ne_of_none e h)]; exact e
theorem free_of {F H : Hp} {p : Addr} (s : Same F H) (h : H p = none) : F p = none := s.free h
/-- a new object that stays -/
theorem New.mk1 {F H : Hp} {p : Addr} (o : HO) (s : Same F H) (h : H p = none) : New F H (upd F p o) (upd H p o) :=
  ⟨same_new (free_of s h), same_new h, same_upd2 s, fun q u e => upd_ne (ne_of_none e h)⟩
/-- a new object that is not (yet) said to stay -/
theorem New.mk0 {F H : Hp} {p : Addr} (o : HO) (s : Same F H) (h : H p = none) : New F H F (upd H p o) :=
  ⟨Same.refl F, same_new h, s.trans (same_new h), fun _ _ _ => rfl⟩

section
variable {K : PySem.W.Frag} {F F' H H' : Hp} {A : List Addr} {ρ : List S} {σ : L2.St}
theorem RS.length (r : RS K F H A ρ σ) : ρ.length = σ.length := by
  induction r with
  | nil => rfl
  | un _ ih => simp [ih]
  | fz _ _ ih => simp [ih]
  | ow _ _ _ _ _ _ ih => simp [ih]
theorem RS.move (r : RS K F H A ρ σ) (h : Same F F') (k : ∀ p, p ∈ A → H' p = H p ∧ F' p = none) : RS K F' H' A ρ σ := by
  induction r with
  | nil => exact .nil
  | un _ ih => exact .un (ih k)
  | fz q _ ih => exact .fz (q.mono h) (ih k)
  | ow e c n na t _ ih =>
    have k0 := k _ List.mem_cons_self
    exact .ow (k0.1.trans e) (c.mono h) k0.2 na t (ih fun p hp => k p (List.mem_cons_of_mem _ hp))
theorem RS.there (r : RS K F H A ρ σ) : ∀ p, p ∈ A → ∃ o, H p = some o ∧ F p = none := by
  induction r with
  | nil => intro p h; cases h
  | un _ ih => exact ih
  | fz _ _ ih => exact ih
  | ow e _ n _ _ _ ih =>
    intro p h
    rcases List.mem_cons.mp h with z | z
    · subst z; exact ⟨_, e, n⟩
    · exact ih p z
theorem R.new (r : R K F A ρ σ H) (n : New F H F' H') : R K F' A ρ σ H' := ⟨n.sm, r.rs.move n.ext fun p hp => by
  obtain ⟨o, e, f⟩ := r.rs.there p hp
  exact ⟨(n.kp p o e).trans e.symm, (n.fr p o e).trans f⟩⟩
theorem RS.getF (r : RS K F H A ρ σ) : ∀ {i : Nat} {d : D}, ρ[i]? = some (.fz d) → ∃ v, σ[i]? = some (some v) ∧ Rep K F v d := by
  induction r with
  | nil => intro i d e; simp at e
  | un _ ih => intro i d e; cases i with
    | zero => simp at e
    | succ i => simpa using ih (by simpa using e)
  | fz q _ ih => intro i d e; cases i with
    | zero => simp at e; subst e; exact ⟨_, rfl, q⟩
    | succ i => simpa using ih (by simpa using e)
  | ow _ _ _ _ _ _ ih => intro i d e; cases i with
    | zero => simp at e
    | succ i => simpa using ih (by simpa using e)
theorem RS.getO (r : RS K F H A ρ σ) : ∀ {i : Nat} {t : Option Addr} {c : C}, ρ[i]? = some (.ow t c) →
    ∃ p o, σ[i]? = some (some (V.ref p)) ∧ p ∈ A ∧ H p = some o ∧ RepC K F o c ∧ F p = none ∧ ∀ q, t = some q → q = p := by
  induction r with
  | nil => intro i t c e; simp at e
  | un _ ih => intro i t c e; cases i with
    | zero => simp at e
    | succ i => simpa using ih (by simpa using e)
  | fz _ _ ih => intro i t c e; cases i with
    | zero => simp at e
    | succ i => simpa using ih (by simpa using e)
  | ow e1 c1 n1 na t1 _ ih => intro i t c e; cases i with
    | zero =>
      simp at e
      obtain ⟨rfl, rfl⟩ := e
      exact ⟨_, _, rfl, List.mem_cons_self, e1, c1, n1, t1⟩
    | succ i =>
      obtain ⟨p, o, h1, h2, h3⟩ := ih (i := i) (by simpa using e)
      exact ⟨p, o, by simpa using h1, List.mem_cons_of_mem _ h2, h3⟩
/-- data stored -/
theorem RS.setF (r : RS K F H A ρ σ) {v : V} {d : D} (q : Rep K F v d) : ∀ i : Nat, ∃ A', (∀ p, p ∈ A' → p ∈ A) ∧ RS K F H A' (ρ.set i (.fz d)) (σ.set i (some v)) := by
  induction r with
  | nil => intro i; exact ⟨[], fun _ h => h, by simpa using RS.nil⟩
  | un r0 ih => intro i; cases i with
    | zero => exact ⟨_, fun _ h => h, .fz q r0⟩
    | succ i => obtain ⟨A', s, r'⟩ := ih i; exact ⟨A', s, .un r'⟩
  | fz q0 r0 ih => intro i; cases i with
    | zero => exact ⟨_, fun _ h => h, .fz q r0⟩
    | succ i => obtain ⟨A', s, r'⟩ := ih i; exact ⟨A', s, .fz q0 r'⟩
  | ow e c n na t r0 ih => intro i; cases i with
    | zero => exact ⟨_, fun _ h => List.mem_cons_of_mem _ h, .fz q r0⟩
    | succ i =>
      obtain ⟨A', s, r'⟩ := ih i
      refine ⟨_ :: A', fun p h => ?_, .ow e c n (fun z => na (s _ z)) t r'⟩
      rcases List.mem_cons.mp h with z | z
      · rw [z]; exact List.mem_cons_self
      · exact List.mem_cons_of_mem _ (s p z)
/-- a new object of one's own stored -/
theorem RS.setO (r : RS K F H A ρ σ) {p : Addr} {o : HO} {c : C} (hp : p ∉ A) (e : H p = some o) (q : RepC K F o c) (n : F p = none) :
    ∀ i : Nat, ∃ A', (∀ q, q ∈ A' → q ∈ A ∨ q = p) ∧ RS K F H A' (ρ.set i (.ow none c)) (σ.set i (some (V.ref p))) := by
  induction r with
  | nil => intro i; exact ⟨[], fun _ h => .inl h, by simpa using RS.nil⟩
  | un r0 ih => intro i; cases i with
    | zero => exact ⟨p :: _, fun q h => by rcases List.mem_cons.mp h with z | z; exact .inr z; exact .inl z, .ow e q n hp (fun _ z => nomatch z) r0⟩
    | succ i => obtain ⟨A', s, r'⟩ := ih hp i; exact ⟨A', s, .un r'⟩
  | fz q0 r0 ih => intro i; cases i with
    | zero => exact ⟨p :: _, fun q h => by rcases List.mem_cons.mp h with z | z; exact .inr z; exact .inl z, .ow e q n hp (fun _ z => nomatch z) r0⟩
    | succ i => obtain ⟨A', s, r'⟩ := ih hp i; exact ⟨A', s, .fz q0 r'⟩
  | ow e0 c0 n0 na0 t0 r0 ih => intro i
                                have hp' := fun z => hp (List.mem_cons_of_mem _ z)
                                cases i with
    | zero => exact ⟨p :: _, fun q h => by rcases List.mem_cons.mp h with z | z; exact .inr z; exact .inl (List.mem_cons_of_mem _ z), .ow e q n hp' (fun _ z => nomatch z) r0⟩
    | succ i =>
      obtain ⟨A', s, r'⟩ := ih hp' i
      refine ⟨_ :: A', fun q h => ?_, .ow e0 c0 n0 (fun z => ?_) t0 r'⟩
      · rcases List.mem_cons.mp h with z | z
        · exact .inl (by rw [z]; exact List.mem_cons_self)
        · rcases s q z with y | y
          · exact .inl (List.mem_cons_of_mem _ y)
          · exact .inr y
      · rcases s _ z with y | y
        · exact na0 y
        · exact hp (by rw [← y]; exact List.mem_cons_self)
/-- an own object's content changed -/
theorem RS.upd (r : RS K F H A ρ σ) {p : Addr} {o' : HO} {c' : C} (q : RepC K F o' c') : ∀ {i : Nat} {t : Option Addr} {c : C}, ρ[i]? = some (.ow t c) → σ[i]? = some (some (V.ref p)) →
    RS K F (L2.upd H p o') A (ρ.set i (.ow t c')) σ := by
  induction r with
  | nil => intro i t c e; simp at e
  | un r0 ih => intro i t c e e2; cases i with
    | zero => simp at e
    | succ i => exact .un (ih (by simpa using e) (by simpa using e2))
  | fz q0 r0 ih => intro i t c e e2; cases i with
    | zero => simp at e
    | succ i => exact .fz q0 (ih (by simpa using e) (by simpa using e2))
  | ow e0 c0 n0 na0 t0 r0 ih => intro i t c e e2; cases i with
    | zero =>
      simp at e e2
      obtain ⟨rfl, rfl⟩ := e
      subst e2
      exact .ow upd_same q n0 na0 t0 (r0.move (Same.refl F) fun b hb => ⟨upd_ne (fun z => na0 (z ▸ hb)), by obtain ⟨_, _, n⟩ := r0.there b hb; exact n⟩)
    | succ i =>
      have e' := (show _ from by simpa using e : _)
      have e2' := (show _ from by simpa using e2 : _)
      obtain ⟨p1, o1, h1, h2, _⟩ := r0.getO (i := i) (t := t) (c := c) (by simpa using e)
      have z : p1 = p := by
        have y : some (some (V.ref p1)) = some (some (V.ref p)) := h1.symm.trans (by simpa using e2)
        simpa using y
      exact .ow ((upd_ne fun y => na0 (by rw [y, ← z]; exact h2)).trans e0) c0 n0 na0 t0 (ih (by simpa using e) (by simpa using e2))
/-- an own list is frozen -/
theorem RS.freeze (r : RS K F H A ρ σ) : ∀ {i : Nat} {ds : List D}, ρ[i]? = some (.ow none (.lst ds)) →
    ∃ p vs A', σ[i]? = some (some (V.ref p)) ∧ H p = some (.lst vs) ∧ Reps K F vs ds ∧ F p = none ∧ p ∈ A ∧ (∀ q, q ∈ A' → q ∈ A) ∧ p ∉ A' ∧ RS K (L2.upd F p (.lst vs)) H A' (ρ.set i (.fz (.lst ds))) σ := by
  induction r with
  | nil => intro i ds e; simp at e
  | un r0 ih => intro i ds e; cases i with
    | zero => simp at e
    | succ i =>
      obtain ⟨p, vs, A', h1, h2, h3, h4, h5, h6, h7, h8⟩ := ih (i := i) (by simpa using e)
      exact ⟨p, vs, A', by simpa using h1, h2, h3, h4, h5, h6, h7, .un h8⟩
  | fz q0 r0 ih => intro i ds e; cases i with
    | zero => simp at e
    | succ i =>
      obtain ⟨p, vs, A', h1, h2, h3, h4, h5, h6, h7, h8⟩ := ih (i := i) (by simpa using e)
      exact ⟨p, vs, A', by simpa using h1, h2, h3, h4, h5, h6, h7, .fz (q0.mono (same_new h4)) h8⟩
  | ow e0 c0 n0 na0 t0 r0 ih => intro i ds e; cases i with
    | zero =>
      simp at e
      obtain ⟨rfl, rfl⟩ := e
      cases c0 with
      | lst c0 =>
        refine ⟨_, _, _, rfl, e0, c0, n0, List.mem_cons_self, fun q h => List.mem_cons_of_mem _ h, na0, .fz (.lst upd_same (c0.mono (same_new n0))) (r0.move (same_new n0) fun b hb => ⟨rfl, ?_⟩)⟩
        obtain ⟨_, _, n⟩ := r0.there b hb
        exact (upd_ne (fun (z : b = _) => na0 (by rw [← z]; exact hb))).trans n
    | succ i =>
      obtain ⟨p, vs, A', h1, h2, h3, h4, h5, h6, h7, h8⟩ := ih (i := i) (by simpa using e)
      have ne := fun z => na0 (show _ ∈ _ from Eq.mpr (congrArg (· ∈ _) z) h5)
      refine ⟨p, vs, _ :: A', by simpa using h1, h2, h3, h4, List.mem_cons_of_mem _ h5, fun q h => ?_, fun h => ?_, .ow e0 (c0.mono (same_new h4)) ((upd_ne ne).trans n0) (fun z => na0 (h6 _ z)) t0 h8⟩
      · rcases List.mem_cons.mp h with z | z
        · rw [z]; exact List.mem_cons_self
        · exact List.mem_cons_of_mem _ (h6 q z)
      · rcases List.mem_cons.mp h with z | z
        · exact ne z.symm
        · exact h7 z
end
/-- less is known -/
def Wk : List S → List S → Prop
  | [], [] => True
  | a :: as, b :: bs => (a = .un ∨ a = b) ∧ Wk as bs
  | _, _ => False
theorem Wk.refl : ∀ ρ : List S, Wk ρ ρ
  | [] => trivial
  | _ :: r => ⟨.inr rfl, Wk.refl r⟩
theorem RS.weak {K : PySem.W.Frag} {F H : Hp} {A : List Addr} {ρ : List S} {σ : L2.St} (r : RS K F H A ρ σ) : ∀ {ρ' : List S}, Wk ρ' ρ → ∃ A', (∀ p, p ∈ A' → p ∈ A) ∧ RS K F H A' ρ' σ := by
  induction r with
  | nil => intro ρ' w; cases ρ' with
    | nil => exact ⟨[], fun _ h => h, .nil⟩
    | cons _ _ => exact w.elim
  | un r0 ih => intro ρ' w; cases ρ' with
    | nil => exact w.elim
    | cons a as =>
      obtain ⟨A', s, r'⟩ := ih w.2
      rcases w.1 with z | z <;> (subst z; exact ⟨A', s, .un r'⟩)
  | fz q r0 ih => intro ρ' w; cases ρ' with
    | nil => exact w.elim
    | cons a as =>
      obtain ⟨A', s, r'⟩ := ih w.2
      rcases w.1 with z | z
      · subst z; exact ⟨A', s, .un r'⟩
      · subst z; exact ⟨A', s, .fz q r'⟩
  | ow e c n na t r0 ih => intro ρ' w; cases ρ' with
    | nil => exact w.elim
    | cons a as =>
      obtain ⟨A', s, r'⟩ := ih w.2
      rcases w.1 with z | z
      · subst z; exact ⟨A', fun p h => List.mem_cons_of_mem _ (s p h), .un r'⟩
      · subst z
        refine ⟨_ :: A', fun p h => ?_, .ow e c n (fun z => na (s _ z)) t r'⟩
        rcases List.mem_cons.mp h with z | z
        · rw [z]; exact List.mem_cons_self
        · exact List.mem_cons_of_mem _ (s p z)
/-- fewer own addresses -/
theorem Stp.less {F H : Hp} {A A' : List Addr} (s : ∀ p, p ∈ A' → p ∈ A) : Stp F H A F H A' := ⟨Same.refl F, fun _ _ h _ => h, fun _ _ _ _ => rfl, fun p h => .inl (s p h), fun _ h => h⟩
theorem R.weak {K : PySem.W.Frag} {F H : Hp} {A : List Addr} {ρ ρ' : List S} {σ : L2.St} (r : R K F A ρ σ H) (w : Wk ρ' ρ) : ∃ A', Stp F H A F H A' ∧ R K F A' ρ' σ H := by
  obtain ⟨A', s, r'⟩ := r.rs.weak w
  exact ⟨A', Stp.less s, r.same, r'⟩
end G

/-! G: expressions -/
namespace G
open PySem PySem.Spec PyProof.Rows L2

abbrev XP := Ex → List S → Prop
abbrev ME := List S → (D → List S → Prop) → XP → Prop
abbrev MO := List S → (C → List S → Prop) → XP → Prop
abbrev MT := List S → (Bool → List S → Prop) → XP → Prop
abbrev MA := List S → (List D → List S → Prop) → XP → Prop
abbrev MP := List S → (Option Int → List S → Prop) → XP → Prop

inductive ExR (H : Hp) : Ex → Value → Option Addr → Prop
  | pl (c : Addr) : ExR H (.pl c) (.ref c) none
  | fd {c : Addr} {f : Str} {v : V} {d : Addr} : H d = some (.xd [(f, v)]) → ExR H (.fd c f v) (.ref c) (some d)

/-- what an exception comes to -/
def XC (K : PySem.W.Frag) (W : WX) (F H : Hp) (A : List Addr) (σ : L2.St) (PX : XP) : Prop :=
  ∀ x ρ' F' H' A' cls dd, PX x ρ' → Stp F H A F' H' A' → R K F' A' ρ' σ H' → ExR H' x cls dd → W cls dd σ H'
theorem XC.step {K : PySem.W.Frag} {W : WX} {F H F1 H1 : Hp} {A A1 : List Addr} {σ : L2.St} {PX : XP} (h : XC K W F H A σ PX) (s : Stp F H A F1 H1 A1) : XC K W F1 H1 A1 σ PX :=
  fun x ρ' F' H' A' cls dd hx s' r q => h x ρ' F' H' A' cls dd hx (s.trans s') r q

def lift (K : PySem.W.Frag) (W : WX) (m : ME) : TE := fun σ H Q => ∃ F A ρ P PX, R K F A ρ σ H ∧ m ρ P PX ∧
  (∀ d ρ' v F' H' A', P d ρ' → Stp F H A F' H' A' → R K F' A' ρ' σ H' → Rep K F' v d → Q v H') ∧ XC K W F H A σ PX
/-- a new object of one's own -/
def liftO (K : PySem.W.Frag) (W : WX) (m : MO) : TE := fun σ H Q => ∃ F A ρ P PX, R K F A ρ σ H ∧ m ρ P PX ∧
  (∀ c ρ' p o F' H' A', P c ρ' → Stp F H A F' H' A' → R K F' A' ρ' σ H' → p ∉ A' → H p = none → H' p = some o → RepC K F' o c → F' p = none → Q (.ref p) H') ∧ XC K W F H A σ PX
def liftT (K : PySem.W.Frag) (W : WX) (m : MT) : TT := fun σ H Q => ∃ F A ρ P PX, R K F A ρ σ H ∧ m ρ P PX ∧
  (∀ b ρ' F' H' A', P b ρ' → Stp F H A F' H' A' → R K F' A' ρ' σ H' → Q b H') ∧ XC K W F H A σ PX
def liftA (K : PySem.W.Frag) (W : WX) (m : MA) : TA := fun σ H Q => ∃ F A ρ P PX, R K F A ρ σ H ∧ m ρ P PX ∧
  (∀ ds ρ' vs F' H' A', P ds ρ' → Stp F H A F' H' A' → R K F' A' ρ' σ H' → Reps K F' vs ds → Q vs H') ∧ XC K W F H A σ PX
def liftP (K : PySem.W.Frag) (W : WX) (m : MP) : TO := fun σ H Q => ∃ F A ρ P PX, R K F A ρ σ H ∧ m ρ P PX ∧
  (∀ o ρ' F' H' A', P o ρ' → Stp F H A F' H' A' → R K F' A' ρ' σ H' → Q o H') ∧ XC K W F H A σ PX

structure GE (X : Cx) (W : WX) (e : Expr) (m : ME) : Prop where
  pe : PE X e (lift X.K W m)
structure GO (X : Cx) (W : WX) (e : Expr) (m : MO) : Prop where
  pe : PE X e (liftO X.K W m)
structure GT (X : Cx) (W : WX) (e : Expr) (m : MT) : Prop where
  pt : PT X e (liftT X.K W m)
structure GA (X : Cx) (W : WX) (es : List Expr) (m : MA) : Prop where
  pa : PA X es (liftA X.K W m)
structure GP (X : Cx) (W : WX) (e : Option Expr) (m : MP) : Prop where
  po : PO X e (liftP X.K W m)

theorem pe_imp {X : Cx} {e : Expr} {t t' : TE} (h : PE X e t) (i : ∀ σ H Q, t' σ H Q → t σ H Q) : PE X e t' := ⟨fun pins s σ H Q I hw => h.run pins s σ H Q I (i σ H Q hw)⟩
theorem pt_imp {X : Cx} {e : Expr} {t t' : TT} (h : PT X e t) (i : ∀ σ H Q, t' σ H Q → t σ H Q) : PT X e t' := ⟨fun pins s σ H Q I hw => h.run pins s σ H Q I (i σ H Q hw)⟩
theorem pa_imp {X : Cx} {e : List Expr} {t t' : TA} (h : PA X e t) (i : ∀ σ H Q, t' σ H Q → t σ H Q) : PA X e t' := ⟨fun pos pins s σ H Q I hw => h.run pos pins s σ H Q I (i σ H Q hw)⟩
theorem po_imp {X : Cx} {e : Option Expr} {t t' : TO} (h : PO X e t) (i : ∀ σ H Q, t' σ H Q → t σ H Q) : PO X e t' := ⟨fun pins s σ H Q I hw => h.run pins s σ H Q I (i σ H Q hw)⟩

section
variable {X : Cx} {W : WX} {e a b : Expr} {pos : Pos} {ma mb : ME} {ta tb : MT}

/-! ### names, constants -/
/-- a name's data; a list of one's own stays from here on -/
def mVar (i : Nat) (ρ : List S) (P : D → List S → Prop) (PX : XP) : Prop := match ρ[i]? with
  | some (.fz d) => P d ρ
  | some (.ow none (.lst ds)) => P (.lst ds) (ρ.set i (.fz (.lst ds)))
  | _ => False
theorem set_self_st : ∀ {σ : L2.St} {i : Nat} {v : Option V}, σ[i]? = some v → σ.set i v = σ
  | [], _, _, e => by simp at e
  | x :: r, 0, v, e => by simp at e; subst e; rfl
  | x :: r, i + 1, v, e => by simp at e; simp [set_self_st e]
theorem R.freeze {K : PySem.W.Frag} {F H : Hp} {A : List Addr} {ρ : List S} {σ : L2.St} (r : R K F A ρ σ H) {i : Nat} {ds : List D} (h : ρ[i]? = some (.ow none (.lst ds))) :
    ∃ (p : Addr) (F' : Hp) (A' : List Addr), σ[i]? = some (some (V.ref p)) ∧ Rep K F' (.ref p) (.lst ds) ∧ Stp F H A F' H A' ∧ R K F' A' (ρ.set i (.fz (.lst ds))) σ H := by
  obtain ⟨p, vs, A', h1, h2, h3, h4, h5, h6, h7, h8⟩ := r.rs.freeze h
  refine ⟨p, upd F p (.lst vs), A', h1, .lst upd_same (h3.mono (same_new h4)), ⟨same_new h4, fun _ _ e _ => e, fun q o e n => upd_ne fun z => n (z ▸ h5), fun q hq => .inl (h6 q hq), fun _ h => h⟩, ⟨fun q o e => ?_, h8⟩⟩
  rw [upd_eq] at e
  split at e
  · rename_i z; subst z; cases e; exact h2
  · exact r.same q o e
theorem ge_var {i : Nat} {x : Str} (hN : X.N[i]? = some x := by rfl) (hv : Vis X.env.scope x := by first | exact Or.inl rfl | exact Or.inr (Or.inl rfl) | exact Or.inr (Or.inr rfl)) (hd : (x == ("__debug__" : Str)) = false := by decide)
    (hcd : (x == ("__classdict__" : Str)) = false := by decide) : GE X W (.Name x pos) (mVar i) := ⟨pe_imp (pe_var hN hv hd hcd) fun σ H Q h => by
  obtain ⟨F, A, ρ, P, PX, r, hm, hP, _⟩ := h
  unfold mVar at hm
  split at hm
  · rename_i d h
    obtain ⟨v, h1, h2⟩ := r.rs.getF h
    exact ⟨v, h1, hP _ _ _ _ _ _ hm Stp.refl r h2⟩
  · rename_i ds h
    obtain ⟨p, F', A', h1, h2, h3, h4⟩ := r.freeze h
    exact ⟨_, h1, hP _ _ _ _ _ _ hm h3 h4 h2⟩
  · exact hm.elim⟩
def mC (d : D) (ρ : List S) (P : D → List S → Prop) (PX : XP) : Prop := P d ρ
theorem ge_int {i : Int} {j} : GE X W (.Constant (.int i) j pos) (mC (.int i)) := ⟨pe_imp pe_int fun σ H Q ⟨F, A, ρ, P, PX, r, hm, hP, _⟩ => hP _ _ _ _ _ _ hm Stp.refl r (.int i)⟩
theorem ge_str {x : Str} {j} : GE X W (.Constant (.str x) j pos) (mC (.str x)) := ⟨pe_imp pe_str fun σ H Q ⟨F, A, ρ, P, PX, r, hm, hP, _⟩ => hP _ _ _ _ _ _ hm Stp.refl r (.str x)⟩
theorem ge_bl {b : Bool} {j} : GE X W (.Constant (.bool b) j pos) (mC (.bl b)) := ⟨pe_imp pe_bl fun σ H Q ⟨F, A, ρ, P, PX, r, hm, hP, _⟩ => hP _ _ _ _ _ _ hm Stp.refl r (.bl b)⟩
theorem ge_non {j} : GE X W (.Constant .none j pos) (mC .non) := ⟨pe_imp pe_non fun σ H Q ⟨F, A, ρ, P, PX, r, hm, hP, _⟩ => hP _ _ _ _ _ _ hm Stp.refl r .non⟩

/-! ### operations on two values -/
def OpD (K : PySem.W.Frag) (r : R2) (f : D → D → (D → Prop) → Prop) : Prop :=
  ∀ (F H : Hp) (v u : V) (d e : D) (P : D → Prop), Same F H → Rep K F v d → Rep K F u e → f d e P → ∀ Q : VK, (∀ z w F' H', P z → New F H F' H' → Rep K F' w z → Q w H') → r v u H Q
def mBin (f : D → D → (D → Prop) → Prop) (ma mb : ME) (ρ : List S) (P : D → List S → Prop) (PX : XP) : Prop := ma ρ (fun d ρ1 => mb ρ1 (fun e ρ2 => f d e fun z => P z ρ2) PX) PX
theorem lift_bin {r : R2} {f : D → D → (D → Prop) → Prop} (hf : OpD X.K r f) {σ : L2.St} {H : Hp} {Q : VK} (h : lift X.K W (mBin f ma mb) σ H Q) : tOp r (lift X.K W ma) (lift X.K W mb) σ H Q := by
  obtain ⟨F, A, ρ, P, PX, r0, hm, hP, hX⟩ := h
  refine ⟨F, A, ρ, _, PX, r0, hm, fun d ρ1 v F1 H1 A1 h1 s1 r1 q1 => ?_, hX⟩
  refine ⟨F1, A1, ρ1, _, PX, r1, h1, fun e ρ2 u F2 H2 A2 h2 s2 r2 q2 => ?_, hX.step s1⟩
  exact hf F2 H2 v u d e _ r2.same (q1.mono s2.ext) q2 h2 Q fun z w F3 H3 hz n w' => hP z ρ2 w F3 H3 A2 hz ((s1.trans s2).trans n.stp) (r2.new n) w'
theorem ge_bin {op : Operator} {r : R2} {f : D → D → (D → Prop) → Prop} (ho : OpR X (binaryOp op) r) (hf : OpD X.K r f) (ha : GE X W a ma) (hb : GE X W b mb) : GE X W (.BinOp a op b pos) (mBin f ma mb) :=
  ⟨pe_imp (pe_op ho ha.pe hb.pe) fun _ _ _ h => lift_bin hf h⟩
theorem ge_cmp {op : CmpOp} {r : R2} {f : D → D → (D → Prop) → Prop} (ho : OpR X (compareOp op) r) (hf : OpD X.K r f) (ha : GE X W a ma) (hb : GE X W b mb) (h1 : behindInMarks op b = false := by first | exact nobehind _ (by decide) (by decide) | rfl) :
    GE X W (.Compare a [op] [b] pos) (mBin f ma mb) := ⟨pe_imp (pe_cmpR ho ha.pe hb.pe h1) fun _ _ _ h => lift_bin hf h⟩
/-- a truth as a test -/
def mTst (m : ME) (ρ : List S) (P : Bool → List S → Prop) (PX : XP) : Prop := m ρ (fun d ρ' => match d with | .bl b => P b ρ' | _ => False) PX
theorem liftT_tst {m : ME} {σ : L2.St} {H : Hp} {Q : Bool → Hp → Prop} (h : liftT X.K W (mTst m) σ H Q) : tB (lift X.K W m) σ H Q := by
  obtain ⟨F, A, ρ, P, PX, r0, hm, hP, hX⟩ := h
  refine ⟨F, A, ρ, _, PX, r0, hm, fun d ρ1 v F1 H1 A1 h1 s1 r1 q1 => ?_, hX⟩
  cases d with
  | bl b => exact ⟨b, q1.bl_inv, hP b ρ1 F1 H1 A1 h1 s1 r1⟩
  | _ => exact h1.elim
theorem gt_val {m : ME} (h : GE X W e m) (he : ∀ whole, isTrue e X.env whole = (do let v ← whole; standAt e.pos; holding [v] (truthy v)) := by intro _; rfl) : GT X W e (mTst m) :=
  ⟨pt_imp (pt_val h.pe he) fun _ _ _ h => liftT_tst h⟩
theorem gt_cmp {op : CmpOp} {r : R2} {f : D → D → (D → Prop) → Prop} (ho : OpR X (compareOp op) r) (hf : OpD X.K r f) (ha : GE X W a ma) (hb : GE X W b mb) (h1 : behindInMarks op b = false := by first | exact nobehind _ (by decide) (by decide) | rfl) :
    GT X W (.Compare a [op] [b] pos) (mTst (mBin f ma mb)) := ⟨pt_imp (pt_cmpR ho ha.pe hb.pe h1) fun σ H Q h => by
  have z := liftT_tst h
  exact lift_bin hf z⟩

/-! ### chains, and, or, not, if -/
def mAndT (t u : MT) (ρ : List S) (P : Bool → List S → Prop) (PX : XP) : Prop := t ρ (fun c ρ1 => (c = true → u ρ1 P PX) ∧ (c = false → P false ρ1)) PX
def mOrT (t u : MT) (ρ : List S) (P : Bool → List S → Prop) (PX : XP) : Prop := t ρ (fun c ρ1 => (c = true → P true ρ1) ∧ (c = false → u ρ1 P PX)) PX
def mNotT (t : MT) (ρ : List S) (P : Bool → List S → Prop) (PX : XP) : Prop := t ρ (fun c ρ1 => P (!c) ρ1) PX
structure GW (X : Cx) (W : WX) (e : Expr) (m : MT) : Prop where
  pw : PW X e (liftT X.K W m)
theorem pw_imp {t t' : TT} (h : PW X e t) (i : ∀ σ H Q, t' σ H Q → t σ H Q) : PW X e t' := ⟨fun wh pins s σ H Q I hw => h.run wh pins s σ H Q I (i σ H Q hw)⟩
variable {rest : List Expr}
theorem gw_and1 (ha : GT X W a ta) : GW X W (.BoolOp .And [a] pos) ta := ⟨pw_and1 ha.pt⟩
theorem gw_or1 (ha : GT X W a ta) : GW X W (.BoolOp .Or [a] pos) ta := ⟨pw_or1 ha.pt⟩
theorem gw_and (ha : GT X W a ta) (hb : GW X W (.BoolOp .And (b :: rest) pos) tb) : GW X W (.BoolOp .And (a :: b :: rest) pos) (mAndT ta tb) := ⟨pw_imp (pw_and ha.pt hb.pw) fun σ H Q h => by
  obtain ⟨F, A, ρ, P, PX, r0, hm, hP, hX⟩ := h
  refine ⟨F, A, ρ, _, PX, r0, hm, fun c ρ1 F1 H1 A1 h1 s1 r1 => ?_, hX⟩
  cases c with
  | true =>
    rw [if_pos rfl]
    exact ⟨F1, A1, ρ1, P, PX, r1, h1.1 rfl, fun b ρ2 F2 H2 A2 h2 s2 r2 => hP b ρ2 F2 H2 A2 h2 (s1.trans s2) r2, hX.step s1⟩
  | false =>
    rw [if_neg Bool.false_ne_true]
    exact hP _ _ _ _ _ (h1.2 rfl) s1 r1⟩
theorem gw_or (ha : GT X W a ta) (hb : GW X W (.BoolOp .Or (b :: rest) pos) tb) : GW X W (.BoolOp .Or (a :: b :: rest) pos) (mOrT ta tb) := ⟨pw_imp (pw_or ha.pt hb.pw) fun σ H Q h => by
  obtain ⟨F, A, ρ, P, PX, r0, hm, hP, hX⟩ := h
  refine ⟨F, A, ρ, _, PX, r0, hm, fun c ρ1 F1 H1 A1 h1 s1 r1 => ?_, hX⟩
  cases c with
  | false =>
    rw [if_neg Bool.false_ne_true]
    exact ⟨F1, A1, ρ1, P, PX, r1, h1.2 rfl, fun b ρ2 F2 H2 A2 h2 s2 r2 => hP b ρ2 F2 H2 A2 h2 (s1.trans s2) r2, hX.step s1⟩
  | true =>
    rw [if_pos rfl]
    exact hP _ _ _ _ _ (h1.1 rfl) s1 r1⟩
theorem gt_w {m : MT} (h : GW X W e m) : GT X W e m := ⟨h.pw.pt⟩
theorem gt_not (ha : GT X W a ta) : GT X W (.UnaryOp .Not a pos) (mNotT ta) := ⟨pt_imp (pt_not ha.pt) fun σ H Q h => by
  obtain ⟨F, A, ρ, P, PX, r0, hm, hP, hX⟩ := h
  exact ⟨F, A, ρ, _, PX, r0, hm, fun c ρ1 F1 H1 A1 h1 s1 r1 => hP _ _ _ _ _ h1 s1 r1, hX⟩⟩
/-- as values, truths all -/
def mAndV (ma mb : ME) (ρ : List S) (P : D → List S → Prop) (PX : XP) : Prop := ma ρ (fun d ρ1 => match d with | .bl c => (c = true → mb ρ1 P PX) ∧ (c = false → P (.bl false) ρ1) | _ => False) PX
def mOrV (ma mb : ME) (ρ : List S) (P : D → List S → Prop) (PX : XP) : Prop := ma ρ (fun d ρ1 => match d with | .bl c => (c = true → P (.bl true) ρ1) ∧ (c = false → mb ρ1 P PX) | _ => False) PX
def mNotV (ma : ME) (ρ : List S) (P : D → List S → Prop) (PX : XP) : Prop := ma ρ (fun d ρ1 => match d with | .bl c => P (.bl (!c)) ρ1 | _ => False) PX
theorem ge_one {op} {m : ME} (h : GE X W a m) : GE X W (.BoolOp op [a] pos) m := ⟨pe_one h.pe⟩
theorem ge_and (ha : GE X W a ma) (hb : GE X W (.BoolOp .And (b :: rest) pos) mb) : GE X W (.BoolOp .And (a :: b :: rest) pos) (mAndV ma mb) := ⟨pe_imp (pe_and ha.pe hb.pe) fun σ H Q h => by
  obtain ⟨F, A, ρ, P, PX, r0, hm, hP, hX⟩ := h
  refine ⟨F, A, ρ, _, PX, r0, hm, fun d ρ1 v F1 H1 A1 h1 s1 r1 q1 => ?_, hX⟩
  cases d with
  | bl c =>
    refine ⟨c, q1.bl_inv, ?_⟩
    cases c with
    | true =>
      rw [if_pos rfl]
      exact ⟨F1, A1, ρ1, P, PX, r1, h1.1 rfl, fun d ρ2 v F2 H2 A2 h2 s2 r2 q2 => hP d ρ2 v F2 H2 A2 h2 (s1.trans s2) r2 q2, hX.step s1⟩
    | false =>
      rw [if_neg Bool.false_ne_true]
      exact hP _ _ _ _ _ _ (h1.2 rfl) s1 r1 (.bl _)
  | _ => exact h1.elim⟩
theorem ge_or (ha : GE X W a ma) (hb : GE X W (.BoolOp .Or (b :: rest) pos) mb) : GE X W (.BoolOp .Or (a :: b :: rest) pos) (mOrV ma mb) := ⟨pe_imp (pe_or ha.pe hb.pe) fun σ H Q h => by
  obtain ⟨F, A, ρ, P, PX, r0, hm, hP, hX⟩ := h
  refine ⟨F, A, ρ, _, PX, r0, hm, fun d ρ1 v F1 H1 A1 h1 s1 r1 q1 => ?_, hX⟩
  cases d with
  | bl c =>
    refine ⟨c, q1.bl_inv, ?_⟩
    cases c with
    | false =>
      rw [if_neg Bool.false_ne_true]
      exact ⟨F1, A1, ρ1, P, PX, r1, h1.2 rfl, fun d ρ2 v F2 H2 A2 h2 s2 r2 q2 => hP d ρ2 v F2 H2 A2 h2 (s1.trans s2) r2 q2, hX.step s1⟩
    | true =>
      rw [if_pos rfl]
      exact hP _ _ _ _ _ _ (h1.1 rfl) s1 r1 (.bl _)
  | _ => exact h1.elim⟩
theorem ge_not (ha : GE X W a ma) : GE X W (.UnaryOp .Not a pos) (mNotV ma) := ⟨pe_imp (pe_not ha.pe) fun σ H Q h => by
  obtain ⟨F, A, ρ, P, PX, r0, hm, hP, hX⟩ := h
  refine ⟨F, A, ρ, _, PX, r0, hm, fun d ρ1 v F1 H1 A1 h1 s1 r1 q1 => ?_, hX⟩
  cases d with
  | bl c => exact ⟨c, q1.bl_inv, hP _ _ _ _ _ _ h1 s1 r1 (.bl _)⟩
  | _ => exact h1.elim⟩
def mIf (t : MT) (ma mb : ME) (ρ : List S) (P : D → List S → Prop) (PX : XP) : Prop := t ρ (fun c ρ1 => (c = true → ma ρ1 P PX) ∧ (c = false → mb ρ1 P PX)) PX
theorem ge_if {c : Expr} (hc : GT X W c ta) (ha : GE X W a ma) (hb : GE X W b mb) : GE X W (.IfExp c a b pos) (mIf ta ma mb) := ⟨pe_imp (pe_ifExp hc.pt ha.pe hb.pe) fun σ H Q h => by
  obtain ⟨F, A, ρ, P, PX, r0, hm, hP, hX⟩ := h
  refine ⟨F, A, ρ, _, PX, r0, hm, fun c ρ1 F1 H1 A1 h1 s1 r1 => ?_, hX⟩
  cases c with
  | true =>
    rw [if_pos rfl]
    exact ⟨F1, A1, ρ1, P, PX, r1, h1.1 rfl, fun d ρ2 v F2 H2 A2 h2 s2 r2 q2 => hP d ρ2 v F2 H2 A2 h2 (s1.trans s2) r2 q2, hX.step s1⟩
  | false =>
    rw [if_neg Bool.false_ne_true]
    exact ⟨F1, A1, ρ1, P, PX, r1, h1.2 rfl, fun d ρ2 v F2 H2 A2 h2 s2 r2 q2 => hP d ρ2 v F2 H2 A2 h2 (s1.trans s2) r2 q2, hX.step s1⟩⟩
/-- a < b < c, truths -/
def mChain (f g : D → D → (D → Prop) → Prop) (ma mb mc : ME) (ρ : List S) (P : D → List S → Prop) (PX : XP) : Prop := ma ρ (fun x ρ1 => mb ρ1 (fun y ρ2 => f x y fun z => match z with
  | .bl k => (k = true → mc ρ2 (fun w ρ3 => g y w fun z => P z ρ3) PX) ∧ (k = false → P (.bl false) ρ2) | _ => False) PX) PX
end
end G

/-! G: operators, subscripts, argument lists, displays -/
namespace G
open PySem PySem.Spec PyProof.Rows L2

/-! ### arithmetic -/
def fAdd : D → D → (D → Prop) → Prop
  | .int i, .int j, P => P (.int (i + j))
  | .str x, .str y, P => x.length + y.length ≤ sizeLine ∧ P (.str (x ++ y))
  | .lst x, .lst y, P => x.length + y.length ≤ sizeLine ∧ P (.lst (x ++ y))
  | .tup x, .tup y, P => x ≠ [] ∧ x.length + y.length ≤ sizeLine ∧ P (.tup (x ++ y))
  | _, _, _ => False
def fSub : D → D → (D → Prop) → Prop
  | .int i, .int j, P => P (.int (i - j))
  | _, _, _ => False
/-- one sign, repeated -/
def repS (x : Str) (n : Int) : Str := ⟨(List.replicate n.toNat x.cps.toList).flatten.toArray⟩
def fMul : D → D → (D → Prop) → Prop
  | .int i, .int j, P => (CMulW i j ∨ CMul i j) ∧ P (.int (i * j))
  | .str x, .int n, P => x.length = 1 ∧ (-100000 ≤ n ∧ n ≤ 100000) ∧ P (.str (repS x n))
  | .lst x, .int n, P => n < 2 ^ 63 ∧ -(2 ^ 63) ≤ n ∧ x.length * n.toNat ≤ sizeLine ∧ P (.lst (List.replicate n.toNat x).flatten)
  | _, _, _ => False
def fDiv : D → D → (D → Prop) → Prop
  | .int i, .int j, P => CDivW i j ∧ P (.int (i / j))
  | _, _, _ => False
def fMod : D → D → (D → Prop) → Prop
  | .int i, .int j, P => 0 < j ∧ P (.int (i % j))
  | _, _, _ => False
def fPow : D → D → (D → Prop) → Prop
  | .int i, .int j, P => CPow i j ∧ P (.int (i ^ j.toNat))
  | _, _, _ => False
def fShl : D → D → (D → Prop) → Prop
  | .int i, .int j, P => CShl i j ∧ P (.int (i * 2 ^ j.toNat))
  | _, _, _ => False
def fShr : D → D → (D → Prop) → Prop
  | .int i, .int j, P => 0 ≤ j ∧ P (.int (i / 2 ^ j.toNat))
  | _, _, _ => False
def fAnd : D → D → (D → Prop) → Prop
  | .int i, .int j, P => P (.int (Builtin.bitAnd i j))
  | _, _, _ => False

section
variable {K : PySem.W.Frag}
theorem od_I {C : Int → Int → Prop} {g : Int → Int → Int} {f : D → D → (D → Prop) → Prop} (hf : ∀ d e P, f d e P → ∃ i j, d = .int i ∧ e = .int j ∧ C i j ∧ P (.int (g i j))) : OpD K (rI C fun i j => .int (g i j)) f := by
  intro F H v u d e P s rv ru h Q q
  obtain ⟨i, j, rfl, rfl, hc, hp⟩ := hf d e P h
  exact ⟨i, j, rv.int_inv, ru.int_inv, hc, q _ _ F H hp (New.refl s) (.int _)⟩
theorem od_I0 {g : Int → Int → Int} {f : D → D → (D → Prop) → Prop} (hf : ∀ d e P, f d e P → ∃ i j, d = .int i ∧ e = .int j ∧ P (.int (g i j))) : OpD K (rI0 fun i j => .int (g i j)) f := by
  intro F H v u d e P s rv ru h Q q
  obtain ⟨i, j, rfl, rfl, hp⟩ := hf d e P h
  exact ⟨i, j, rv.int_inv, ru.int_inv, q _ _ F H hp (New.refl s) (.int _)⟩
theorem od_B0 {g : Int → Int → Bool} {f : D → D → (D → Prop) → Prop} (hf : ∀ d e P, f d e P → ∃ i j, d = .int i ∧ e = .int j ∧ P (.bl (g i j))) : OpD K (rI0 fun i j => .bl (g i j)) f := by
  intro F H v u d e P s rv ru h Q q
  obtain ⟨i, j, rfl, rfl, hp⟩ := hf d e P h
  exact ⟨i, j, rv.int_inv, ru.int_inv, q _ _ F H hp (New.refl s) (.bl _)⟩
end
section
variable {X : Cx} {W : WX} {e a b c : Expr} {pos : Pos} {ma mb mc : ME}
def rAddA (K : PySem.W.Frag) : R2 := fun x y H Q => (∃ i j, x = .int i ∧ y = .int j ∧ Q (.int (i + j)) H) ∨ (∃ i j, x = .str i ∧ y = .str j ∧ i.length + j.length ≤ sizeLine ∧ Q (.str (i ++ j)) H) ∨ rCat x y H Q ∨ rCatT K x y H Q
theorem op_addA : OpR X (binaryOp .Add) (rAddA X.K) := by
  intro pins s σ H x y v u Q I rx ry h
  rcases h with h | h | h | h
  · exact op_add pins s σ H x y v u Q I rx ry h
  · exact op_add_str pins s σ H x y v u Q I rx ry h
  · exact op_cat pins s σ H x y v u Q I rx ry h
  · exact op_catT pins s σ H x y v u Q I rx ry h
theorem iop_addA : OpR X (inplaceOp .Add) (fun x y H Q => (∃ i j, x = .int i ∧ y = .int j ∧ Q (.int (i + j)) H) ∨ (∃ i j, x = .str i ∧ y = .str j ∧ i.length + j.length ≤ sizeLine ∧ Q (.str (i ++ j)) H)) := by
  intro pins s σ H x y v u Q I rx ry h
  rcases h with h | h
  · exact iop_add pins s σ H x y v u Q I rx ry h
  · exact iop_add_str pins s σ H x y v u Q I rx ry h
theorem od_add {K : PySem.W.Frag} : OpD K (rAddA K) fAdd := by
  intro F H v u d e P s rv ru h Q q
  cases d <;> cases e <;> first | exact h.elim | skip
  · exact .inl ⟨_, _, rv.int_inv, ru.int_inv, q _ _ F H h (New.refl s) (.int _)⟩
  · exact .inr (.inl ⟨_, _, rv.str_inv, ru.str_inv, h.1, q _ _ F H h.2 (New.refl s) (.str _)⟩)
  · obtain ⟨a, vs, rfl, e1, r1⟩ := rv.lst_inv
    obtain ⟨b, us, rfl, e2, r2⟩ := ru.lst_inv
    obtain ⟨hl, hp⟩ := (show _ ∧ _ from h)
    refine .inr (.inr (.inl ⟨a, b, vs, us, rfl, rfl, s _ _ e1, s _ _ e2, by rw [r1.length, r2.length]; exact hl, fun p hn => ?_⟩))
    have n := New.mk1 (.lst (vs ++ us)) s hn
    exact q _ _ _ _ hp n (.lst upd_same ((r1.append r2).mono n.ext))
  · obtain ⟨a, vs, rfl, e1, r1⟩ := rv.tup_inv
    obtain ⟨b, us, rfl, e2, r2⟩ := ru.tup_inv
    obtain ⟨h0, hl, hp⟩ := (show _ ∧ _ ∧ _ from h)
    refine .inr (.inr (.inr ⟨a, b, vs, us, rfl, rfl, .of (s _ _ e1), .of (s _ _ e2), fun z => h0 ?_, by rw [r1.length, r2.length]; exact hl, fun z => ?_, fun _ p hn => ?_⟩))
    · subst z; cases r1; rfl
    · subst z
      cases r2
      rw [List.append_nil] at hp
      exact q _ _ F H hp (New.refl s) (.tup e1 r1)
    · have n := New.mk1 (.tup (vs ++ us)) s hn
      exact q _ _ _ _ hp n (.tup upd_same ((r1.append r2).mono n.ext))
theorem od_sub {K : PySem.W.Frag} : OpD K (rI0 fun i j => .int (i - j)) fSub := od_I0 fun d e P h => by
  cases d <;> cases e <;> first | exact h.elim | exact ⟨_, _, rfl, rfl, h⟩
theorem od_div {K : PySem.W.Frag} : OpD K (rI CDivW fun i j => .int (i / j)) fDiv := od_I fun d e P h => by
  cases d <;> cases e <;> first | exact h.elim | exact ⟨_, _, rfl, rfl, h⟩
theorem od_mod {K : PySem.W.Frag} : OpD K (rI (fun _ j => 0 < j) fun i j => .int (i % j)) fMod := od_I fun d e P h => by
  cases d <;> cases e <;> first | exact h.elim | exact ⟨_, _, rfl, rfl, h⟩
theorem od_pow {K : PySem.W.Frag} : OpD K (rI CPow fun i j => .int (i ^ j.toNat)) fPow := od_I fun d e P h => by
  cases d <;> cases e <;> first | exact h.elim | exact ⟨_, _, rfl, rfl, h⟩
theorem od_shl {K : PySem.W.Frag} : OpD K (rI CShl fun i j => .int (i * 2 ^ j.toNat)) fShl := od_I fun d e P h => by
  cases d <;> cases e <;> first | exact h.elim | exact ⟨_, _, rfl, rfl, h⟩
theorem od_shr {K : PySem.W.Frag} : OpD K (rI (fun _ j => 0 ≤ j) fun i j => .int (i / 2 ^ j.toNat)) fShr := od_I fun d e P h => by
  cases d <;> cases e <;> first | exact h.elim | exact ⟨_, _, rfl, rfl, h⟩
theorem od_and {K : PySem.W.Frag} : OpD K (rI0 fun i j => .int (Builtin.bitAnd i j)) fAnd := od_I0 fun d e P h => by
  cases d <;> cases e <;> first | exact h.elim | exact ⟨_, _, rfl, rfl, h⟩
/-- text * int -/
def rMulS : R2 := fun x y H Q => ∃ z n, x = .str z ∧ y = .int n ∧ z.length = 1 ∧ (-100000 ≤ n ∧ n ≤ 100000) ∧ Q (.str (repS z n)) H
theorem foldl_app (c : Array Nat) : ∀ (n : Nat) (a : Array Nat), (List.replicate n c).foldl (· ++ ·) a = a ++ (List.replicate n c.toList).flatten.toArray
  | 0, a => by simp
  | n + 1, a => by
    rw [List.replicate_succ, List.foldl_cons, foldl_app c n, List.replicate_succ, List.flatten_cons]
    apply Array.ext'
    simp
theorem mul_repS (z : Str) (n : Int) (h : z.length = 1) : Txt.mul z n = repS z n := by
  unfold Txt.mul repS
  by_cases h1 : n < 1
  · rw [if_pos h1, show n.toNat = 0 by omega]; rfl
  · rw [if_neg h1]
    by_cases h2 : (n == 1 || z.length == 0) = true
    · rw [if_pos h2]
      have : n = 1 := by
        rw [h] at h2
        simpa using h2
      subst this
      obtain ⟨cps⟩ := z
      simp
    · rw [if_neg h2, foldl_app]
      simp
theorem op_mulS : OpR X (binaryOp .Mult) rMulS := by
  intro pins s σ H x y v u Q I rx ry h
  obtain ⟨z, n, rfl, rfl, hz, hn, q⟩ := h
  obtain ⟨t, rfl⟩ := rx
  obtain ⟨t', rfl⟩ := ry
  have e63 : (2 : Int) ^ 63 = 9223372036854775808 := by decide
  refine SB.mul ⟨?_, fun h1 _ => ?_, fun h1 _ => ?_⟩ fun t2 k => ⟨.str (repS z n), H, I.tok k, ⟨t2, by rw [mul_repS z n hz]⟩, q⟩
  · rw [e63, decide_eq_false (by omega), decide_eq_false (by omega)]; rfl
  · rw [hz, e63]
    have : (1 : Int) ≤ (9223372036854775808 - 1) / n := by
      refine (Int.le_ediv_iff_mul_le (by omega)).mpr ?_
      omega
    show ¬ (((1 : Nat) : Int) > _)
    omega
  · rw [hz]
    unfold Builtin.Str.tooLong
    have hs : sizeLine = 16777216 := sizeLine_eq
    exact decide_eq_false (by omega)
theorem op_mulB : OpR X (binaryOp .Mult) (rI (fun i j => CMulW i j ∨ CMul i j) fun i j => .int (i * j)) := opI fun _ _ _ _ _ _ _ hc q => mul_int q (hc.elim (fun z => z.ok) fun z => z.ok)
def rMulA : R2 := fun x y H Q => rI (fun i j => CMulW i j ∨ CMul i j) (fun i j => .int (i * j)) x y H Q ∨ rMulS x y H Q ∨ rRep x y H Q
theorem op_mulA : OpR X (binaryOp .Mult) rMulA := by
  intro pins s σ H x y v u Q I rx ry h
  rcases h with h | h | h
  · exact op_mulB pins s σ H x y v u Q I rx ry h
  · exact op_mulS pins s σ H x y v u Q I rx ry h
  · exact op_rep pins s σ H x y v u Q I rx ry h
theorem Reps.rep {K : PySem.W.Frag} {F : Hp} {vs : List V} {ds : List D} (r : Reps K F vs ds) : ∀ n : Nat, Reps K F (List.replicate n vs).flatten (List.replicate n ds).flatten
  | 0 => .nil
  | n + 1 => by
    rw [List.replicate_succ, List.replicate_succ, List.flatten_cons, List.flatten_cons]
    exact r.append (Reps.rep r n)
theorem od_mul {K : PySem.W.Frag} : OpD K rMulA fMul := by
  intro F H v u d e P s rv ru h Q q
  cases d <;> cases e <;> first | exact h.elim | skip
  · exact .inl ⟨_, _, rv.int_inv, ru.int_inv, h.1, q _ _ F H h.2 (New.refl s) (.int _)⟩
  · exact .inr (.inl ⟨_, _, rv.str_inv, ru.int_inv, h.1, h.2.1, q _ _ F H h.2.2 (New.refl s) (.str _)⟩)
  · obtain ⟨a, vs, rfl, e1, r1⟩ := rv.lst_inv
    obtain ⟨h1, h2, h3, hp⟩ := (show _ ∧ _ ∧ _ ∧ _ from h)
    refine .inr (.inr ⟨a, _, vs, rfl, ru.int_inv, s _ _ e1, h2, h1, by rw [r1.length]; exact h3, fun p hn => ?_⟩)
    exact q _ _ _ _ hp (New.mk1 _ s hn) (.lst upd_same ((r1.rep _).mono (same_new (free_of s hn))))

/-! ### comparisons -/
mutual
def toP : D → PyData
  | .non => .none | .bl b => .bool b | .int i => .int i | .str x => .str x | .lst xs => .list (toPs xs) | .tup xs => .tuple (toPs xs) | .scr ns => .list (ns.map PyData.int)
def toPs : List D → List PyData
  | [] => []
  | d :: ds => toP d :: toPs ds
end
theorem dpAll_ints {K : PySem.W.Frag} {H : Hp} : ∀ ns : List Int, DpAll K H (ns.map V.int) (ns.map PyData.int)
  | [] => .nil
  | n :: ns => .cons (.int n) (dpAll_ints ns)
mutual
theorem Rep.dp {K : PySem.W.Frag} {F H : Hp} (s : Same F H) : ∀ (d : D) (v : V), Rep K F v d → Dp K H v (toP d)
  | .non, _, .non => .non
  | .bl _, _, .bl _ => .bl _
  | .int _, _, .int _ => .int _
  | .str _, _, .str _ => .str _
  | .lst ds, _, .lst e r => .lst (.of (s _ _ e)) (Reps.dp s ds _ r)
  | .tup ds, _, .tup e r => .tup (.of (s _ _ e)) (Reps.dp s ds _ r)
  | .scr ns, _, .scr e => .lst (s.seq e) (dpAll_ints ns)
theorem Reps.dp {K : PySem.W.Frag} {F H : Hp} (s : Same F H) : ∀ (ds : List D) (vs : List V), Reps K F vs ds → DpAll K H vs (toPs ds)
  | [], _, .nil => .nil
  | d :: ds, _, .cons r t => .cons (Rep.dp s d _ r) (Reps.dp s ds _ t)
end
/-- equal as data -/
def deq (d e : D) : Bool := PyData.eqv (toP d) (toP e)
def shp (d : D) : Bool := SeqAt.shaped (toP d)
def fEq : D → D → (D → Prop) → Prop
  | .int i, .int j, P => P (.bl (decide (i = j)))
  | .str i, .str j, P => P (.bl (decide (i = j)))
  | .bl i, .bl j, P => P (.bl (decide (i = j)))
  | d, e, P => shp d = true ∧ shp e = true ∧ P (.bl (deq d e))
def fNe : D → D → (D → Prop) → Prop
  | .int i, .int j, P => P (.bl (!decide (i = j)))
  | .str i, .str j, P => P (.bl (!decide (i = j)))
  | .bl i, .bl j, P => P (.bl (!decide (i = j)))
  | d, e, P => shp d = true ∧ shp e = true ∧ P (.bl (!deq d e))
def rEqA (K : PySem.W.Frag) : R2 := fun x y H Q => rEq x y H Q ∨ rEqD K x y H Q
def rNeA (K : PySem.W.Frag) : R2 := fun x y H Q => rNe x y H Q ∨ rNeD K x y H Q
theorem op_eqA (hu : X.A.units + 64 < cLine) : OpR X (compareOp .Eq) (rEqA X.K) := by
  intro pins s σ H x y v u Q I rx ry h
  rcases h with h | h
  · exact op_eq pins s σ H x y v u Q I rx ry h
  · exact op_eqD hu pins s σ H x y v u Q I rx ry h
theorem op_neA (hu : X.A.units + 64 < cLine) : OpR X (compareOp .NotEq) (rNeA X.K) := by
  intro pins s σ H x y v u Q I rx ry h
  rcases h with h | h
  · exact op_ne pins s σ H x y v u Q I rx ry h
  · exact op_neD hu pins s σ H x y v u Q I rx ry h
theorem decV_int {i j : Int} : decide (V.int i = V.int j) = decide (i = j) := by rw [Bool.eq_iff_iff]; simp
theorem decV_str {i j : Str} : decide (V.str i = V.str j) = decide (i = j) := by rw [Bool.eq_iff_iff]; simp
theorem decV_bl {i j : Bool} : decide (V.bl i = V.bl j) = decide (i = j) := by rw [Bool.eq_iff_iff]; simp
theorem od_eq {K : PySem.W.Frag} : OpD K (rEqA K) fEq := by
  intro F H v u d e P s rv ru h Q q
  have gen : shp d = true ∧ shp e = true ∧ P (.bl (deq d e)) → rEqA K v u H Q := fun h => .inr ⟨toP d, toP e, rv.dp s d _, ru.dp s e _, h.1, h.2.1, q _ _ F H h.2.2 (New.refl s) (.bl _)⟩
  cases d <;> cases e <;> first | exact gen h | skip
  · rw [rv.bl_inv, ru.bl_inv]; exact .inl ⟨rfl, by rw [decV_bl]; exact q _ _ F H h (New.refl s) (.bl _)⟩
  · rw [rv.int_inv, ru.int_inv]; exact .inl ⟨rfl, by rw [decV_int]; exact q _ _ F H h (New.refl s) (.bl _)⟩
  · rw [rv.str_inv, ru.str_inv]; exact .inl ⟨rfl, by rw [decV_str]; exact q _ _ F H h (New.refl s) (.bl _)⟩
theorem od_ne {K : PySem.W.Frag} : OpD K (rNeA K) fNe := by
  intro F H v u d e P s rv ru h Q q
  have gen : shp d = true ∧ shp e = true ∧ P (.bl (!deq d e)) → rNeA K v u H Q := fun h => .inr ⟨toP d, toP e, rv.dp s d _, ru.dp s e _, h.1, h.2.1, q _ _ F H h.2.2 (New.refl s) (.bl _)⟩
  cases d <;> cases e <;> first | exact gen h | skip
  · rw [rv.bl_inv, ru.bl_inv]; exact .inl ⟨rfl, by rw [decV_bl]; exact q _ _ F H h (New.refl s) (.bl _)⟩
  · rw [rv.int_inv, ru.int_inv]; exact .inl ⟨rfl, by rw [decV_int]; exact q _ _ F H h (New.refl s) (.bl _)⟩
  · rw [rv.str_inv, ru.str_inv]; exact .inl ⟨rfl, by rw [decV_str]; exact q _ _ F H h (New.refl s) (.bl _)⟩
/-- < of ints, of texts -/
def fLt : D → D → (D → Prop) → Prop
  | .int i, .int j, P => P (.bl (decide (i < j)))
  | .str i, .str j, P => P (.bl (decide (i.cps.toList < j.cps.toList)))
  | _, _, _ => False
def fLe : D → D → (D → Prop) → Prop
  | .int i, .int j, P => P (.bl (decide (i ≤ j)))
  | _, _, _ => False
def fGt : D → D → (D → Prop) → Prop
  | .int i, .int j, P => P (.bl (decide (j < i)))
  | _, _, _ => False
def fGe : D → D → (D → Prop) → Prop
  | .int i, .int j, P => P (.bl (decide (j ≤ i)))
  | _, _, _ => False
def rLtA : R2 := fun x y H Q => (∃ i j, x = .int i ∧ y = .int j ∧ Q (.bl (decide (i < j))) H) ∨ (∃ i j, x = .str i ∧ y = .str j ∧ Q (.bl (decide (i.cps.toList < j.cps.toList))) H)
theorem op_ltA : OpR X (compareOp .Lt) rLtA := by
  intro pins s σ H x y v u Q I rx ry h
  rcases h with h | h
  · exact op_lt pins s σ H x y v u Q I rx ry h
  · exact op_lt_str pins s σ H x y v u Q I rx ry h
theorem od_lt {K : PySem.W.Frag} : OpD K rLtA fLt := by
  intro F H v u d e P s rv ru h Q q
  cases d <;> cases e <;> first | exact h.elim | skip
  · exact .inl ⟨_, _, rv.int_inv, ru.int_inv, q _ _ F H h (New.refl s) (.bl _)⟩
  · exact .inr ⟨_, _, rv.str_inv, ru.str_inv, q _ _ F H h (New.refl s) (.bl _)⟩
theorem od_le {K : PySem.W.Frag} : OpD K (rI0 fun i j => .bl (decide (i ≤ j))) fLe := od_B0 fun d e P h => by
  cases d <;> cases e <;> first | exact h.elim | exact ⟨_, _, rfl, rfl, h⟩
theorem od_gt {K : PySem.W.Frag} : OpD K (rI0 fun i j => .bl (decide (j < i))) fGt := od_B0 fun d e P h => by
  cases d <;> cases e <;> first | exact h.elim | exact ⟨_, _, rfl, rfl, h⟩
theorem od_ge {K : PySem.W.Frag} : OpD K (rI0 fun i j => .bl (decide (j ≤ i))) fGe := od_B0 fun d e P h => by
  cases d <;> cases e <;> first | exact h.elim | exact ⟨_, _, rfl, rfl, h⟩
/-- is None, is True, is False -/
def isNonD : D → Bool
  | .non => true
  | _ => false
def rIsC : R2 := fun x y H Q => y = .non ∧ Q (.bl (decide (x = .non))) H
theorem Rep.isNon {K : PySem.W.Frag} {F : Hp} {v : V} {d : D} (r : Rep K F v d) : decide (v = .non) = isNonD d := by
  cases r <;> rfl
def fIs : D → D → (D → Prop) → Prop
  | d, .non, P => P (.bl (isNonD d))
  | .bl a, .bl b, P => P (.bl (decide (a = b)))
  | _, _, _ => False
def fIsNot : D → D → (D → Prop) → Prop
  | d, .non, P => P (.bl (!isNonD d))
  | .bl a, .bl b, P => P (.bl (!decide (a = b)))
  | _, _, _ => False
theorem op_isA : OpR X (compareOp .Is) (fun x y H Q => (y = .non ∧ Q (.bl (decide (x = .non))) H) ∨ rIsB x y H Q) := by
  intro pins s σ H x y v u Q I rx ry h
  rcases h with h | h
  · exact op_isN pins s σ H x y v u Q I rx ry h
  · exact op_isBl pins s σ H x y v u Q I rx ry h
theorem op_isNotA : OpR X (compareOp .IsNot) (fun x y H Q => (y = .non ∧ Q (.bl (!decide (x = .non))) H) ∨ rNotB x y H Q) := by
  intro pins s σ H x y v u Q I rx ry h
  rcases h with h | h
  · exact op_notN pins s σ H x y v u Q I rx ry h
  · exact op_notBl pins s σ H x y v u Q I rx ry h
theorem od_is {K : PySem.W.Frag} : OpD K (fun x y H Q => (y = .non ∧ Q (.bl (decide (x = .non))) H) ∨ rIsB x y H Q) fIs := by
  intro F H v u d e P s rv ru h Q q
  cases e with
  | non => exact .inl ⟨ru.non_inv, by rw [rv.isNon]; exact q _ _ F H (by cases d <;> exact h) (New.refl s) (.bl _)⟩
  | bl b => cases d with
    | bl a => exact .inr ⟨a, b, rv.bl_inv, ru.bl_inv, q _ _ F H h (New.refl s) (.bl _)⟩
    | _ => exact h.elim
  | _ => cases d <;> exact h.elim
theorem od_isnot {K : PySem.W.Frag} : OpD K (fun x y H Q => (y = .non ∧ Q (.bl (!decide (x = .non))) H) ∨ rNotB x y H Q) fIsNot := by
  intro F H v u d e P s rv ru h Q q
  cases e with
  | non => exact .inl ⟨ru.non_inv, by rw [rv.isNon]; exact q _ _ F H (by cases d <;> exact h) (New.refl s) (.bl _)⟩
  | bl b => cases d with
    | bl a => exact .inr ⟨a, b, rv.bl_inv, ru.bl_inv, q _ _ F H h (New.refl s) (.bl _)⟩
    | _ => exact h.elim
  | _ => cases d <;> exact h.elim
/-- x in a list or tuple of ints, of texts -/
def memI (i : Int) : List D → Option Bool
  | [] => some false
  | .int j :: r => (memI i r).map fun b => decide (j = i) || b
  | _ => none
def memS (x : Str) : List D → Option Bool
  | [] => some false
  | .str j :: r => (memS x r).map fun b => decide (j = x) || b
  | _ => none
def fIn (neg : Bool) : D → D → (D → Prop) → Prop
  | .int i, .lst ds, P => ∃ b, memI i ds = some b ∧ P (.bl (if neg then !b else b))
  | .int i, .tup ds, P => ∃ b, memI i ds = some b ∧ P (.bl (if neg then !b else b))
  | .str i, .lst ds, P => ∃ b, memS i ds = some b ∧ P (.bl (if neg then !b else b))
  | .str i, .tup ds, P => ∃ b, memS i ds = some b ∧ P (.bl (if neg then !b else b))
  | _, _, _ => False
theorem memI_vs {K : PySem.W.Frag} {F : Hp} {i : Int} : ∀ {ds : List D} {vs : List V} {b : Bool}, Reps K F vs ds → memI i ds = some b → vs.all flatV = true ∧ inV (.int i) vs = b
  | [], _, b, h, e => by
    cases h
    exact ⟨rfl, Option.some.inj e⟩
  | d :: ds, _, b, h, e => by
    cases h with
    | cons r t =>
      cases d with
      | int j =>
        obtain ⟨b', e1, e2⟩ := Option.map_eq_some_iff.mp (show (memI i ds).map _ = some b from e)
        obtain ⟨h1, h2⟩ := memI_vs t e1
        rw [r.int_inv]
        refine ⟨by rw [List.all_cons, h1]; rfl, ?_⟩
        rw [← e2, ← h2]
        show (eqV (.int j) (.int i) || inV (.int i) _) = _
        congr 1
      | _ => exact nomatch e
theorem memS_vs {K : PySem.W.Frag} {F : Hp} {i : Str} : ∀ {ds : List D} {vs : List V} {b : Bool}, Reps K F vs ds → memS i ds = some b → vs.all flatV = true ∧ inV (.str i) vs = b
  | [], _, b, h, e => by
    cases h
    exact ⟨rfl, Option.some.inj e⟩
  | d :: ds, _, b, h, e => by
    cases h with
    | cons r t =>
      cases d with
      | str j =>
        obtain ⟨b', e1, e2⟩ := Option.map_eq_some_iff.mp (show (memS i ds).map _ = some b from e)
        obtain ⟨h1, h2⟩ := memS_vs t e1
        rw [r.str_inv]
        refine ⟨by rw [List.all_cons, h1]; rfl, ?_⟩
        rw [← e2, ← h2]
        show (eqV (.str j) (.str i) || inV (.str i) _) = _
        congr 1
      | _ => exact nomatch e
theorem od_in {K : PySem.W.Frag} {neg : Bool} : OpD K (rIn K neg) (fIn neg) := by
  intro F H v u d e P s rv ru h Q q
  cases d <;> cases e <;> first | exact h.elim | skip
  · obtain ⟨b, e1, hp⟩ := h
    obtain ⟨a, vs, rfl, e2, r⟩ := ru.lst_inv
    obtain ⟨h1, h2⟩ := memI_vs r e1
    rw [rv.int_inv]
    exact ⟨a, vs, rfl, .inl (.of (s _ _ e2)), rfl, h1, by rw [h2]; exact q _ _ F H hp (New.refl s) (.bl _)⟩
  · obtain ⟨b, e1, hp⟩ := h
    obtain ⟨a, vs, rfl, e2, r⟩ := ru.tup_inv
    obtain ⟨h1, h2⟩ := memI_vs r e1
    rw [rv.int_inv]
    exact ⟨a, vs, rfl, .inr (.of (s _ _ e2)), rfl, h1, by rw [h2]; exact q _ _ F H hp (New.refl s) (.bl _)⟩
  · obtain ⟨b, e1, hp⟩ := h
    obtain ⟨a, vs, rfl, e2, r⟩ := ru.lst_inv
    obtain ⟨h1, h2⟩ := memS_vs r e1
    rw [rv.str_inv]
    exact ⟨a, vs, rfl, .inl (.of (s _ _ e2)), rfl, h1, by rw [h2]; exact q _ _ F H hp (New.refl s) (.bl _)⟩
  · obtain ⟨b, e1, hp⟩ := h
    obtain ⟨a, vs, rfl, e2, r⟩ := ru.tup_inv
    obtain ⟨h1, h2⟩ := memS_vs r e1
    rw [rv.str_inv]
    exact ⟨a, vs, rfl, .inr (.of (s _ _ e2)), rfl, h1, by rw [h2]; exact q _ _ F H hp (New.refl s) (.bl _)⟩
theorem lift_chain {r r' : R2} {f g : D → D → (D → Prop) → Prop} (hf : OpD X.K r f) (hg : OpD X.K r' g) {σ : L2.St} {H : Hp} {Q : VK} (h : lift X.K W (mChain f g ma mb mc) σ H Q) :
    tChain r r' (lift X.K W ma) (lift X.K W mb) (lift X.K W mc) σ H Q := by
  obtain ⟨F, A, ρ, P, PX, r0, hm, hP, hX⟩ := h
  refine ⟨F, A, ρ, _, PX, r0, hm, fun d ρ1 v F1 H1 A1 h1 s1 r1 q1 => ?_, hX⟩
  refine ⟨F1, A1, ρ1, _, PX, r1, h1, fun e ρ2 u F2 H2 A2 h2 s2 r2 q2 => ?_, hX.step s1⟩
  refine hf F2 H2 v u d e _ r2.same (q1.mono s2.ext) q2 h2 _ fun z w F3 H3 hz n w' => ?_
  cases z with
  | bl k =>
    refine ⟨k, w'.bl_inv, ?_⟩
    have s3 := (s1.trans s2).trans n.stp
    cases k with
    | true =>
      rw [if_pos rfl]
      refine ⟨F3, A2, ρ2, _, PX, r2.new n, hz.1 rfl, fun x ρ4 t F4 H4 A4 h4 s4 r4 q4 => ?_, hX.step s3⟩
      exact hg F4 H4 u t e x _ r4.same ((q2.mono n.ext).mono s4.ext) q4 h4 Q fun z w F5 H5 hz n w' => hP z ρ4 w F5 H5 A4 hz ((s3.trans s4).trans n.stp) (r4.new n) w'
    | false =>
      rw [if_neg Bool.false_ne_true]
      exact hP _ ρ2 _ F3 H3 A2 (hz.2 rfl) s3 (r2.new n) (.bl _)
  | _ => exact hz.elim
theorem ge_chain {op op' : CmpOp} {r r' : R2} {f g : D → D → (D → Prop) → Prop} (ho : OpR X (compareOp op) r) (ho' : OpR X (compareOp op') r') (hf : OpD X.K r f) (hg : OpD X.K r' g) (ha : GE X W a ma) (hb : GE X W b mb) (hc : GE X W c mc)
    (hm : lastMarks [op, op'] [b, c] = false := by with_unfolding_all rfl) : GE X W (.Compare a [op, op'] [b, c] pos) (mChain f g ma mb mc) := ⟨pe_imp (pe_chain ho ho' ha.pe hb.pe hc.pe hm) fun _ _ _ h => lift_chain hf hg h⟩
theorem gt_chain {op op' : CmpOp} {r r' : R2} {f g : D → D → (D → Prop) → Prop} (ho : OpR X (compareOp op) r) (ho' : OpR X (compareOp op') r') (hf : OpD X.K r f) (hg : OpD X.K r' g) (ha : GE X W a ma) (hb : GE X W b mb) (hc : GE X W c mc)
    (hm : lastMarks [op, op'] [b, c] = false := by with_unfolding_all rfl) : GT X W (.Compare a [op, op'] [b, c] pos) (mTst (mChain f g ma mb mc)) := ⟨pt_imp (pt_chain ho ho' ha.pe hb.pe hc.pe hm) fun _ _ _ h => lift_chain hf hg (liftT_tst h)⟩

/-! ### argument lists, displays -/
def mNil (ρ : List S) (P : List D → List S → Prop) (PX : XP) : Prop := P [] ρ
def mCons (ma : ME) (mr : MA) (ρ : List S) (P : List D → List S → Prop) (PX : XP) : Prop := ma ρ (fun d ρ1 => mr ρ1 (fun ds ρ2 => P (d :: ds) ρ2) PX) PX
theorem ga_nil : GA X W [] mNil := ⟨pa_imp pa_nil fun σ H Q ⟨F, A, ρ, P, PX, r, hm, hP, _⟩ => hP _ _ _ _ _ _ hm Stp.refl r .nil⟩
theorem ga_cons {es : List Expr} {mr : MA} (ha : GE X W e ma) (hr : GA X W es mr) (hs : starEach (e :: es) X.env = (false, eval e X.env) :: starEach es X.env := by rfl) : GA X W (e :: es) (mCons ma mr) := ⟨pa_imp (pa_cons ha.pe hr.pa hs) fun σ H Q h => by
  obtain ⟨F, A, ρ, P, PX, r0, hm, hP, hX⟩ := h
  refine ⟨F, A, ρ, _, PX, r0, hm, fun d ρ1 v F1 H1 A1 h1 s1 r1 q1 => ?_, hX⟩
  exact ⟨F1, A1, ρ1, _, PX, r1, h1, fun ds ρ2 vs F2 H2 A2 h2 s2 r2 q2 => hP _ ρ2 _ F2 H2 A2 h2 (s1.trans s2) r2 (.cons (q1.mono s2.ext) q2), hX.step s1⟩⟩
def mTup (m : MA) (ρ : List S) (P : D → List S → Prop) (PX : XP) : Prop := m ρ (fun ds ρ1 => ds.length ≤ sizeLine ∧ P (.tup ds) ρ1) PX
def mLst (m : MA) (ρ : List S) (P : C → List S → Prop) (PX : XP) : Prop := m ρ (fun ds ρ1 => ds.length ≤ sizeLine ∧ P (.lst ds) ρ1) PX
theorem ge_tup {es : List Expr} {m : MA} {k : Nat} (h : GA X W es m) : GE X W (.Tuple es k pos) (mTup m) := ⟨pe_imp (pe_tup h.pa) fun σ H Q h => by
  obtain ⟨F, A, ρ, P, PX, r0, hm, hP, hX⟩ := h
  refine ⟨F, A, ρ, _, PX, r0, hm, fun ds ρ1 vs F1 H1 A1 h1 s1 r1 q1 => ⟨by rw [q1.length]; exact h1.1, fun p hp => ?_⟩, hX⟩
  have n := New.mk1 (.tup vs) r1.same hp
  exact hP _ ρ1 _ _ _ A1 h1.2 (s1.trans n.stp) (r1.new n) (.tup upd_same (q1.mono n.ext))⟩
/-- a new object of one's own, given on -/
theorem own_new {K : PySem.W.Frag} {F H F1 H1 : Hp} {A A1 : List Addr} {ρ1 : List S} {σ : L2.St} {p : Addr} (o : HO) (s1 : Stp F H A F1 H1 A1) (r1 : R K F1 A1 ρ1 σ H1) (hp : H1 p = none) :
    Stp F H A F1 (upd H1 p o) A1 ∧ R K F1 A1 ρ1 σ (upd H1 p o) ∧ p ∉ A1 ∧ F1 p = none ∧ H p = none := by
  have n := New.mk0 o r1.same hp
  refine ⟨s1.trans n.stp, r1.new n, fun z => ?_, free_of r1.same hp, s1.dom p hp⟩
  obtain ⟨o', e, _⟩ := r1.rs.there p z
  rw [e] at hp; cases hp
theorem go_lst {es : List Expr} {m : MA} (h : GA X W es m) : GO X W (.List es pos) (mLst m) := ⟨pe_imp (pe_lst h.pa) fun σ H Q h => by
  obtain ⟨F, A, ρ, P, PX, r0, hm, hP, hX⟩ := h
  refine ⟨F, A, ρ, _, PX, r0, hm, fun ds ρ1 vs F1 H1 A1 h1 s1 r1 q1 => ⟨by rw [q1.length]; exact h1.1, fun p hp => ?_⟩, hX⟩
  obtain ⟨s2, r2, n1, n2, n3⟩ := own_new (.lst vs) s1 r1 hp
  exact hP _ ρ1 p _ _ _ A1 h1.2 s2 r2 n1 n3 upd_same (.lst q1) n2⟩
/-- an own list that stays from here on -/
def mFz (m : MO) (ρ : List S) (P : D → List S → Prop) (PX : XP) : Prop := m ρ (fun c ρ' => match c with | .lst ds => P (.lst ds) ρ' | _ => False) PX
theorem ge_fz {m : MO} (h : GO X W e m) : GE X W e (mFz m) := ⟨pe_imp h.pe fun σ H Q h => by
  obtain ⟨F, A, ρ, P, PX, r0, hm, hP, hX⟩ := h
  refine ⟨F, A, ρ, _, PX, r0, hm, fun c ρ1 p o F1 H1 A1 h1 s1 r1 n1 n2 n3 n4 n5 => ?_, hX⟩
  cases c with
  | lst ds =>
    cases n4 with
    | lst q =>
      rename_i vs
      have sm : Same F1 (upd F1 p (.lst vs)) := same_new n5
      refine hP _ ρ1 _ (upd F1 p (.lst vs)) H1 A1 h1 ⟨s1.ext.trans sm, s1.kp, fun b o e n => ?_, s1.sub, s1.dom⟩ ⟨fun b o e => ?_, r1.rs.move sm fun b hb => ⟨rfl, ?_⟩⟩ (.lst upd_same (q.mono sm))
      · rw [upd_ne (fun z => by rw [z, n2] at e; cases e)]
        exact s1.fr b o e n
      · rw [upd_eq] at e
        split at e
        · rename_i z; subst z; cases e; exact n3
        · exact r1.same b o e
      · obtain ⟨_, _, n⟩ := r1.rs.there b hb
        exact (upd_ne (fun (z : b = p) => n1 (by rw [← z]; exact hb))).trans n
  | _ => exact h1.elim⟩

/-! ### subscripts, slices -/
def fIx : D → D → (D → Prop) → Prop
  | .lst ds, .int i, P => ∃ d, atI ds i = some d ∧ P d
  | .tup ds, .int i, P => ∃ d, atI ds i = some d ∧ P d
  | .scr ns, .int i, P => ∃ n, atI ns i = some n ∧ P (.int n)
  | .str x, .int i, P => x.length ≤ sizeLine ∧ ∃ c, atI x.cps.toList i = some c ∧ P (.str ⟨#[c]⟩)
  | _, _, _ => False
theorem atI_reps {K : PySem.W.Frag} {F : Hp} {vs : List V} {ds : List D} {i : Int} {d : D} (r : Reps K F vs ds) (h : atI ds i = some d) : ∃ v, atI vs i = some v ∧ Rep K F v d := by
  unfold atI at h ⊢
  rw [r.length]
  obtain ⟨j, e1, e2⟩ := Option.bind_eq_some_iff.mp h
  obtain ⟨v, h1, h2⟩ := r.get j e2
  exact ⟨v, Option.bind_eq_some_iff.mpr ⟨j, e1, h1⟩, h2⟩
theorem atI_map {α β : Type} {f : α → β} {xs : List α} {i : Int} {x : α} (h : atI xs i = some x) : atI (xs.map f) i = some (f x) := by
  unfold atI at h ⊢
  rw [List.length_map]
  obtain ⟨j, e1, e2⟩ := Option.bind_eq_some_iff.mp h
  exact Option.bind_eq_some_iff.mpr ⟨j, e1, by rw [List.getElem?_map, e2]; rfl⟩
theorem od_ix {K : PySem.W.Frag} : OpD K (rIx K) fIx := by
  intro F H v u d e P s rv ru h Q q
  cases d <;> cases e <;> first | exact h.elim | skip
  · obtain ⟨z, c, e1, hp⟩ := h
    exact .inr (.inr ⟨_, _, c, rv.str_inv, ru.int_inv, z, e1, q _ _ F H hp (New.refl s) (.str _)⟩)
  · obtain ⟨d, e1, hp⟩ := h
    obtain ⟨a, vs, rfl, e2, r⟩ := rv.lst_inv
    obtain ⟨v, h1, h2⟩ := atI_reps r e1
    exact .inl ⟨a, vs, _, v, rfl, ru.int_inv, .of (s _ _ e2), h1, q _ _ F H hp (New.refl s) h2⟩
  · obtain ⟨d, e1, hp⟩ := h
    obtain ⟨a, vs, rfl, e2, r⟩ := rv.tup_inv
    obtain ⟨v, h1, h2⟩ := atI_reps r e1
    exact .inr (.inl ⟨a, vs, _, v, rfl, ru.int_inv, .of (s _ _ e2), h1, q _ _ F H hp (New.refl s) h2⟩)
  · obtain ⟨n, e1, hp⟩ := h
    obtain ⟨a, rfl, e2⟩ := rv.scr_inv
    exact .inl ⟨a, _, _, .int n, rfl, ru.int_inv, s.seq e2, atI_map e1, q _ _ F H hp (New.refl s) (.int n)⟩
theorem ge_ix (ha : GE X W a ma) (hb : GE X W b mb) (hp : PlainIx b := by exact fun _ _ => rfl) : GE X W (.Subscript a b pos) (mBin fIx ma mb) := ⟨pe_imp (pe_ix ix_seq ha.pe hb.pe hp) fun _ _ _ h => lift_bin od_ix h⟩
/-- an item of an own list -/
def mIxV (i : Nat) (mb : ME) (ρ : List S) (P : D → List S → Prop) (PX : XP) : Prop := match ρ[i]? with
  | some (.ow _ _) => mb ρ (fun e ρ1 => match ρ1[i]? with
    | some (.ow _ (.lst ds)) => fIx (.lst ds) e fun z => P z ρ1
    | _ => False) PX
  | _ => False
theorem slot_keeps {K : PySem.W.Frag} {F : Hp} {A : List Addr} {ρ : List S} {σ : L2.St} {H : Hp} (r : R K F A ρ σ H) {i : Nat} {v : V} (h : σ[i]? = some (some v)) {t : Option Addr} {c : C} (e : ρ[i]? = some (.ow t c)) :
    ∃ p o, v = .ref p ∧ p ∈ A ∧ H p = some o ∧ RepC K F o c ∧ F p = none := by
  obtain ⟨p, o, h1, h2, h3, h4, h5, _⟩ := r.rs.getO e
  rw [h1] at h
  exact ⟨p, o, (Option.some.inj (Option.some.inj h)).symm, h2, h3, h4, h5⟩
theorem ge_ixv {i : Nat} {x : Str} {p2 : Pos} (hb : GE X W b mb) (hN : X.N[i]? = some x := by rfl) (hv : Vis X.env.scope x := by first | exact Or.inl rfl | exact Or.inr (Or.inl rfl) | exact Or.inr (Or.inr rfl)) (hd : (x == ("__debug__" : Str)) = false := by decide)
    (hcd : (x == ("__classdict__" : Str)) = false := by decide) (hp : PlainIx b := by exact fun _ _ => rfl) : GE X W (.Subscript (.Name x p2) b pos) (mIxV i mb) := ⟨⟨fun pins s σ H Q I h => by
  refine (pe_ix ix_list (pe_var hN hv hd hcd) hb.pe hp).run pins s σ H Q I ?_
  obtain ⟨F, A, ρ, P, PX, r0, hm, hP, hX⟩ := h
  unfold mIxV at hm
  split at hm
  · rename_i t c h
    obtain ⟨p, o, h1, _⟩ := r0.rs.getO h
    refine ⟨_, h1, F, A, ρ, _, PX, r0, hm, fun e ρ1 u F1 H1 A1 h2 s1 r1 q1 => ?_, hX⟩
    split at h2
    · rename_i t ds h'
      obtain ⟨p', o', e1, h3, h4, h5, h6⟩ := slot_keeps r1 h1 h'
      cases e1
      cases h5 with
      | lst h5 =>
        cases e with
        | int i =>
          obtain ⟨d, e2, hp⟩ := h2
          obtain ⟨v, e3, h7⟩ := atI_reps h5 e2
          exact ⟨_, _, _, v, rfl, q1.int_inv, .of h4, e3, hP _ _ _ _ _ _ hp s1 r1 h7⟩
        | _ => exact h2.elim
    · exact h2.elim
  · exact hm.elim⟩⟩
/-- slices of a frozen list, text, tuple -/
def mNoP (ρ : List S) (P : Option Int → List S → Prop) (PX : XP) : Prop := P none ρ
def mSoP (m : ME) (ρ : List S) (P : Option Int → List S → Prop) (PX : XP) : Prop := m ρ (fun d ρ1 => match d with | .int i => P (some i) ρ1 | _ => False) PX
theorem gp_none : GP X W none mNoP := ⟨po_imp po_none fun σ H Q ⟨F, A, ρ, P, PX, r, hm, hP, _⟩ => hP _ _ _ _ _ hm Stp.refl r⟩
theorem gp_some (h : GE X W e ma) : GP X W (some e) (mSoP ma) := ⟨po_imp (po_some h.pe) fun σ H Q h => by
  obtain ⟨F, A, ρ, P, PX, r0, hm, hP, hX⟩ := h
  refine ⟨F, A, ρ, _, PX, r0, hm, fun d ρ1 v F1 H1 A1 h1 s1 r1 q1 => ?_, hX⟩
  cases d with
  | int i => exact ⟨i, q1.int_inv, hP _ _ _ _ _ h1 s1 r1⟩
  | _ => exact h1.elim⟩
def cutD {α : Type} (xs : List α) (lo hi : Option Int) : List α := (xs.drop (HT.sIx xs.length 0 lo)).take (HT.sIx xs.length xs.length hi - HT.sIx xs.length 0 lo)
def fSl : D → Option Int → Option Int → (D → Prop) → Prop
  | .str x, lo, hi, P => x.length ≤ sizeLine ∧ P (.str (cutS x lo hi))
  | .lst x, lo, hi, P => P (.lst (cutD x lo hi))
  | .tup x, lo, hi, P => ¬ (HT.sIx x.length 0 lo = 0 ∧ HT.sIx x.length x.length hi = x.length) ∧ P (.tup (cutD x lo hi))
  | _, _, _, _ => False
def rSlA (K : PySem.W.Frag) : V → Option Int → Option Int → Hp → VK → Prop := fun x lo hi H Q => rSlS x lo hi H Q ∨ rSlL K x lo hi H Q ∨ rSlT K x lo hi H Q
theorem sl_any : SlR X (rSlA X.K) := sl_str.or (sl_list.or sl_tup)
def mSl (m : ME) (l h : MP) (ρ : List S) (P : D → List S → Prop) (PX : XP) : Prop := m ρ (fun d ρ1 => l ρ1 (fun lo ρ2 => h ρ2 (fun hi ρ3 => fSl d lo hi fun z => P z ρ3) PX) PX) PX
theorem Reps.cut {K : PySem.W.Frag} {F : Hp} {vs : List V} {ds : List D} (r : Reps K F vs ds) (lo hi : Option Int) : Reps K F (cutV vs lo hi) (cutD ds lo hi) := by
  unfold cutV cutD
  rw [r.length]
  exact (r.drop _).take _
theorem ge_sl {lo hi : Option Expr} {ml mh : MP} {p2 : Pos} (ha : GE X W e ma) (hl : GP X W lo ml) (hh : GP X W hi mh) : GE X W (.Subscript e (.Slice lo hi none p2) pos) (mSl ma ml mh) := ⟨pe_imp (pe_slice sl_any ha.pe hl.po hh.po) fun σ H Q h => by
  obtain ⟨F, A, ρ, P, PX, r0, hm, hP, hX⟩ := h
  refine ⟨F, A, ρ, _, PX, r0, hm, fun d ρ1 v F1 H1 A1 h1 s1 r1 q1 => ?_, hX⟩
  refine ⟨F1, A1, ρ1, _, PX, r1, h1, fun lo ρ2 F2 H2 A2 h2 s2 r2 => ?_, hX.step s1⟩
  refine ⟨F2, A2, ρ2, _, PX, r2, h2, fun hi ρ3 F3 H3 A3 h3 s3 r3 => ?_, hX.step (s1.trans s2)⟩
  have q3 := (q1.mono s2.ext).mono s3.ext
  have s := (s1.trans s2).trans s3
  cases d with
  | str x => exact .inl ⟨x, q3.str_inv, h3.1, hP _ _ _ _ _ _ h3.2 s r3 (.str _)⟩
  | lst ds =>
    obtain ⟨a, vs, rfl, e2, r⟩ := q3.lst_inv
    refine .inr (.inl ⟨a, vs, rfl, .of (r3.same _ _ e2), fun p hp => ?_⟩)
    have n := New.mk1 (.lst (cutV vs lo hi)) r3.same hp
    exact hP _ ρ3 _ _ _ _ h3 (s.trans n.stp) (r3.new n) (.lst upd_same ((r.cut lo hi).mono n.ext))
  | tup ds =>
    obtain ⟨a, vs, rfl, e2, r⟩ := q3.tup_inv
    refine .inr (.inr ⟨a, vs, rfl, .of (r3.same _ _ e2), by rw [r.length]; exact h3.1, fun p hp => ?_⟩)
    have n := New.mk1 (.tup (cutV vs lo hi)) r3.same hp
    exact hP _ ρ3 _ _ _ _ h3.2 (s.trans n.stp) (r3.new n) (.tup upd_same ((r.cut lo hi).mono n.ext))
  | _ => exact h3.elim⟩
def mNeg (ma : ME) (ρ : List S) (P : D → List S → Prop) (PX : XP) : Prop := ma ρ (fun d ρ1 => match d with | .int i => P (.int (-i)) ρ1 | _ => False) PX
theorem ge_neg (ha : GE X W a ma) : GE X W (.UnaryOp .USub a pos) (mNeg ma) := ⟨pe_imp (pe_un un_neg ha.pe) fun σ H Q h => by
  obtain ⟨F, A, ρ, P, PX, r0, hm, hP, hX⟩ := h
  refine ⟨F, A, ρ, _, PX, r0, hm, fun d ρ1 v F1 H1 A1 h1 s1 r1 q1 => ?_, hX⟩
  cases d with
  | int i => exact ⟨i, q1.int_inv, hP _ _ _ _ _ _ h1 s1 r1 (.int _)⟩
  | _ => exact h1.elim⟩
end
end G

/-! G: targets, loops, comprehensions, statements -/
namespace G
open PySem PySem.Spec PyProof.Rows L2

/-- what a return hands back: data, or an object of one's own -/
inductive Rv where
  | fz (d : D) | ow (c : C)
structure PEnds where
  nx : List S → Prop
  rt : Rv → List S → Prop
  bk : List S → Prop := fun _ => False
  ct : List S → Prop := fun _ => False
  ex : XP
abbrev MS := PEnds → List S → Prop
abbrev MI := List S → (List D → List S → Prop) → XP → Prop
abbrev MG := D → List S → (List S → Prop) → Prop
abbrev MGs := List D → List S → (List S → Prop) → Prop
abbrev MX := List S → (S → List S → Prop) → XP → Prop

def RvOk (K : PySem.W.Frag) (F H : Hp) (A : List Addr) (F' H' : Hp) (A' : List Addr) (v : V) : Rv → Prop
  | .fz d => Rep K F' v d
  | .ow c => ∃ p o A1, v = .ref p ∧ p ∈ A1 ∧ Stp F H A F' H' A1 ∧ p ∉ A' ∧ H' p = some o ∧ RepC K F' o c ∧ F' p = none
structure SE (K : PySem.W.Frag) (W : WX) (D : Ends) (PD : PEnds) (F H : Hp) (A : List Addr) : Prop where
  nx : ∀ ρ' σ' F' H' A', PD.nx ρ' → Stp F H A F' H' A' → R K F' A' ρ' σ' H' → D.nx σ' H'
  rt : ∀ rv ρ' v σ' F' H' A', PD.rt rv ρ' → Stp F H A F' H' A' → R K F' A' ρ' σ' H' → RvOk K F H A F' H' A' v rv → D.rt v H'
  bk : ∀ ρ' σ' F' H' A', PD.bk ρ' → Stp F H A F' H' A' → R K F' A' ρ' σ' H' → D.bk σ' H'
  ct : ∀ ρ' σ' F' H' A', PD.ct ρ' → Stp F H A F' H' A' → R K F' A' ρ' σ' H' → D.ct σ' H'
  ex : ∀ x ρ' σ' F' H' A' cls dd, PD.ex x ρ' → Stp F H A F' H' A' → R K F' A' ρ' σ' H' → ExR H' x cls dd → W cls dd σ' H'
section
variable {K : PySem.W.Frag} {W : WX} {D : Ends} {PD : PEnds} {F H F1 H1 : Hp} {A A1 : List Addr}
theorem RvOk.step {F' H' : Hp} {A' : List Addr} {v : V} {rv : Rv} (s : Stp F H A F1 H1 A1) (h : RvOk K F1 H1 A1 F' H' A' v rv) : RvOk K F H A F' H' A' v rv := by
  cases rv with
  | fz d => exact h
  | ow c =>
    obtain ⟨p, o, A2, h1, h2, h3, h4⟩ := h
    exact ⟨p, o, A2, h1, h2, s.trans h3, h4⟩
theorem SE.step (h : SE K W D PD F H A) (s : Stp F H A F1 H1 A1) : SE K W D PD F1 H1 A1 where
  nx := fun ρ' σ' F' H' A' h1 s1 r1 => h.nx ρ' σ' F' H' A' h1 (s.trans s1) r1
  rt := fun rv ρ' v σ' F' H' A' h1 s1 r1 q1 => h.rt rv ρ' v σ' F' H' A' h1 (s.trans s1) r1 (q1.step s)
  bk := fun ρ' σ' F' H' A' h1 s1 r1 => h.bk ρ' σ' F' H' A' h1 (s.trans s1) r1
  ct := fun ρ' σ' F' H' A' h1 s1 r1 => h.ct ρ' σ' F' H' A' h1 (s.trans s1) r1
  ex := fun x ρ' σ' F' H' A' cls dd h1 s1 r1 q1 => h.ex x ρ' σ' F' H' A' cls dd h1 (s.trans s1) r1 q1
theorem SE.xc (h : SE K W D PD F H A) (σ : L2.St) : XC K W F H A σ PD.ex := fun x ρ' F' H' A' cls dd h1 s1 r1 q1 => h.ex x ρ' σ F' H' A' cls dd h1 s1 r1 q1
end
def liftS (K : PySem.W.Frag) (W : WX) (m : MS) : TS := fun D σ H => ∃ F A ρ PD, R K F A ρ σ H ∧ m PD ρ ∧ SE K W D PD F H A
structure GS (X : Cx) (W : WX) (st : Stmt) (m : MS) : Prop where
  ps : PS X st (liftS X.K W m)
structure GSs (X : Cx) (W : WX) (st : List Stmt) (m : MS) : Prop where
  pss : PSs X st (liftS X.K W m)
theorem ps_imp {X : Cx} {st : Stmt} {t t' : TS} (h : PS X st t) (i : ∀ D σ H, t' D σ H → t D σ H) : PS X st t' := ⟨fun pins s σ H D I hw => h.run pins s σ H D I (i D σ H hw)⟩
theorem pss_imp {X : Cx} {st : List Stmt} {t t' : TS} (h : PSs X st t) (i : ∀ D σ H, t' D σ H → t D σ H) : PSs X st t' := ⟨fun pins s σ H D I hw => h.run pins s σ H D I (i D σ H hw)⟩

section
variable {X : Cx} {W : WX} {e : Expr} {st : Stmt} {rest : List Stmt} {pos : Pos} {m1 m2 : MS} {ma : ME}
/-! ### blocks -/
def mNx (PD : PEnds) (ρ : List S) : Prop := PD.nx ρ
/-- what comes next: opened only at the head -/
structure Nxt (m : MS) (PD : PEnds) (ρ : List S) : Prop where
  go : m PD ρ
theorem nxt_go {m : MS} {PD : PEnds} {ρ : List S} (h : m PD ρ) : Nxt m PD ρ := ⟨h⟩
def mSeq (m1 m2 : MS) (PD : PEnds) (ρ : List S) : Prop := m1 { PD with nx := fun ρ' => Nxt m2 PD ρ' } ρ
theorem gss_nil : GSs X W [] mNx := ⟨pss_imp pss_nil fun D σ H ⟨F, A, ρ, PD, r, h, q⟩ => q.nx _ _ _ _ _ h Stp.refl r⟩
theorem gss_cons (h1 : GS X W st m1) (h2 : GSs X W rest m2) : GSs X W (st :: rest) (mSeq m1 m2) := ⟨pss_imp (pss_cons h1.ps h2.pss) fun D σ H h => by
  obtain ⟨F, A, ρ, PD, r, h, q⟩ := h
  exact ⟨F, A, ρ, _, r, h, ⟨fun ρ' σ' F' H' A' h1 s1 r1 => ⟨F', A', ρ', PD, r1, h1.go, q.step s1⟩, q.rt, q.bk, q.ct, q.ex⟩⟩⟩
theorem gss_one (h1 : GS X W st m1) : GSs X W [st] m1 := ⟨pss_one h1.ps⟩
theorem gs_pass : GS X W (.Pass pos) mNx := ⟨ps_imp ps_pass fun D σ H ⟨F, A, ρ, PD, r, h, q⟩ => q.nx _ _ _ _ _ h Stp.refl r⟩
def mBk (PD : PEnds) (ρ : List S) : Prop := PD.bk ρ
def mCt (PD : PEnds) (ρ : List S) : Prop := PD.ct ρ
theorem gs_break : GS X W (.Break pos) mBk := ⟨ps_imp ps_break fun D σ H ⟨F, A, ρ, PD, r, h, q⟩ => q.bk _ _ _ _ _ h Stp.refl r⟩
theorem gs_continue : GS X W (.Continue pos) mCt := ⟨ps_imp ps_continue fun D σ H ⟨F, A, ρ, PD, r, h, q⟩ => q.ct _ _ _ _ _ h Stp.refl r⟩
def mEx (m : ME) (PD : PEnds) (ρ : List S) : Prop := m ρ (fun _ ρ' => PD.nx ρ') PD.ex
theorem gs_expr (h : GE X W e ma) (hs : swapsWith e none pos.line X.env = pure false := by rfl) : GS X W (.Expr e pos) (mEx ma) := ⟨ps_imp (ps_expr h.pe hs) fun D σ H h => by
  obtain ⟨F, A, ρ, PD, r, h, q⟩ := h
  exact ⟨F, A, ρ, _, PD.ex, r, h, fun d ρ' v F' H' A' h1 s1 r1 q1 => q.nx _ _ _ _ _ h1 s1 r1, q.xc σ⟩⟩
def mIfS (t : MT) (a b : MS) (PD : PEnds) (ρ : List S) : Prop := t ρ (fun c ρ1 => (c = true → a PD ρ1) ∧ (c = false → b PD ρ1)) PD.ex
theorem gs_if {c : Expr} {a b : List Stmt} {mt : MT} (hc : GT X W c mt) (ha : GSs X W a m1) (hb : GSs X W b m2) : GS X W (.If c a b pos) (mIfS mt m1 m2) := ⟨ps_imp (ps_if hc.pt ha.pss hb.pss) fun D σ H h => by
  obtain ⟨F, A, ρ, PD, r, h, q⟩ := h
  refine ⟨F, A, ρ, _, PD.ex, r, h, fun b ρ' F' H' A' h1 s1 r1 => ?_, q.xc σ⟩
  cases b with
  | true => rw [if_pos rfl]; exact ⟨F', A', ρ', PD, r1, h1.1 rfl, q.step s1⟩
  | false => rw [if_neg Bool.false_ne_true]; exact ⟨F', A', ρ', PD, r1, h1.2 rfl, q.step s1⟩⟩

/-! ### a value for a slot: data, or a new object of one's own -/
def SlOk (K : PySem.W.Frag) (H : Hp) (F' H' : Hp) (A' : List Addr) (v : V) : S → Prop
  | .fz d => Rep K F' v d
  | .ow none c => ∃ p o, v = .ref p ∧ p ∉ A' ∧ H p = none ∧ H' p = some o ∧ RepC K F' o c ∧ F' p = none
  | _ => False
def liftX (K : PySem.W.Frag) (W : WX) (m : MX) : TE := fun σ H Q => ∃ F A ρ P PX, R K F A ρ σ H ∧ m ρ P PX ∧
  (∀ s ρ' v F' H' A', P s ρ' → Stp F H A F' H' A' → R K F' A' ρ' σ H' → SlOk K H F' H' A' v s → Q v H') ∧ XC K W F H A σ PX
structure GX (X : Cx) (W : WX) (e : Expr) (m : MX) : Prop where
  pe : PE X e (liftX X.K W m)
def mXe (m : ME) (ρ : List S) (P : S → List S → Prop) (PX : XP) : Prop := m ρ (fun d ρ' => P (.fz d) ρ') PX
def mXo (m : MO) (ρ : List S) (P : S → List S → Prop) (PX : XP) : Prop := m ρ (fun c ρ' => P (.ow none c) ρ') PX
theorem gx_e (h : GE X W e ma) : GX X W e (mXe ma) := ⟨pe_imp h.pe fun σ H Q h => by
  obtain ⟨F, A, ρ, P, PX, r, hm, hP, hX⟩ := h
  exact ⟨F, A, ρ, _, PX, r, hm, fun d ρ' v F' H' A' h1 s1 r1 q1 => hP _ _ _ _ _ _ h1 s1 r1 q1, hX⟩⟩
theorem gx_o {mo : MO} (h : GO X W e mo) : GX X W e (mXo mo) := ⟨pe_imp h.pe fun σ H Q h => by
  obtain ⟨F, A, ρ, P, PX, r, hm, hP, hX⟩ := h
  exact ⟨F, A, ρ, _, PX, r, hm, fun c ρ' p o F' H' A' h1 s1 r1 n1 n2 n3 n4 n5 => hP _ _ _ _ _ _ h1 s1 r1 ⟨p, o, rfl, n1, n2, n3, n4, n5⟩, hX⟩⟩
/-- stored -/
theorem R.store {K : PySem.W.Frag} {F H F' H' : Hp} {A A' : List Addr} {ρ : List S} {σ : L2.St} {v : V} {s : S} (s1 : Stp F H A F' H' A') (r : R K F' A' ρ σ H') (q : SlOk K H F' H' A' v s) (i : Nat) :
    ∃ A2, Stp F H A F' H' A2 ∧ R K F' A2 (ρ.set i s) (σ.set i (some v)) H' := by
  cases s with
  | un => exact q.elim
  | fz d =>
    obtain ⟨A2, h1, h2⟩ := r.rs.setF q i
    exact ⟨A2, s1.trans (Stp.less h1), r.same, h2⟩
  | ow t c =>
    cases t with
    | some t => exact q.elim
    | none =>
      obtain ⟨p, o, rfl, n1, n2, n3, n4, n5⟩ := q
      obtain ⟨A2, h1, h2⟩ := r.rs.setO n1 n3 n4 n5 i
      refine ⟨A2, ⟨s1.ext, s1.kp, s1.fr, fun b hb => ?_, s1.dom⟩, r.same, h2⟩
      rcases h1 b hb with z | z
      · exact s1.sub b z
      · rw [z]; exact .inr n2
def mSet (i : Nat) (m : MX) (PD : PEnds) (ρ : List S) : Prop := m ρ (fun s ρ' => PD.nx (ρ'.set i s)) PD.ex
theorem gs_set {i : Nat} {x : Str} {p2 : Pos} {mx : MX} (he : GX X W e mx) (hN : X.N.Nodup) (hi : X.N[i]? = some x := by rfl) (hx : Loc X.env.scope x := by first | exact Or.inl rfl | exact Or.inr rfl) (hs : swapsWith e (some (.Name x p2)) pos.line X.env = pure false := by rfl)
    (hf : X.fn x = true ∨ X.env.scope.names.lookup x = some .local := by first | exact .inl rfl | exact .inr rfl) : GS X W (.Assign [.Name x p2] e pos) (mSet i mx) := ⟨ps_imp (ps_set hN hi hx he.pe hs hf) fun D σ H h => by
  obtain ⟨F, A, ρ, PD, r, h, q⟩ := h
  refine ⟨F, A, ρ, _, PD.ex, r, h, fun s ρ' v F' H' A' h1 s1 r1 q1 => ?_, q.xc σ⟩
  obtain ⟨A2, s2, r2⟩ := r1.store s1 q1 i
  exact q.nx _ _ _ _ _ h1 s2 r2⟩
/-- return -/
def mRet (m : ME) (PD : PEnds) (ρ : List S) : Prop := m ρ (fun d ρ' => PD.rt (.fz d) ρ') PD.ex
theorem gs_ret (h : GE X W e ma) : GS X W (.Return (some e) pos) (mRet ma) := ⟨ps_imp (ps_ret h.pe) fun D σ H h => by
  obtain ⟨F, A, ρ, PD, r, h, q⟩ := h
  exact ⟨F, A, ρ, _, PD.ex, r, h, fun d ρ' v F' H' A' h1 s1 r1 q1 => q.rt _ _ _ _ _ _ _ h1 s1 r1 q1, q.xc σ⟩⟩
def mRetO (m : MO) (PD : PEnds) (ρ : List S) : Prop := m ρ (fun c ρ' => PD.rt (.ow c) ρ') PD.ex
theorem gs_retO {mo : MO} (h : GO X W e mo) : GS X W (.Return (some e) pos) (mRetO mo) := ⟨ps_imp (ps_ret h.pe) fun D σ H h => by
  obtain ⟨F, A, ρ, PD, r, h, q⟩ := h
  refine ⟨F, A, ρ, _, PD.ex, r, h, fun c ρ' p o F' H' A' h1 s1 r1 n1 n2 n3 n4 n5 => q.rt _ _ _ _ _ _ _ h1 s1 r1 ⟨p, o, p :: A', rfl, List.mem_cons_self, ⟨s1.ext, s1.kp, s1.fr, fun b hb => ?_, s1.dom⟩, n1, n3, n4, n5⟩, q.xc σ⟩
  rcases List.mem_cons.mp hb with z | z
  · rw [z]; exact .inr n2
  · exact s1.sub b z⟩
def mRetN (PD : PEnds) (ρ : List S) : Prop := PD.rt (.fz .non) ρ
theorem gs_retN : GS X W (.Return none pos) mRetN := ⟨ps_imp ps_retN fun D σ H ⟨F, A, ρ, PD, r, h, q⟩ => q.rt _ _ _ _ _ _ _ h Stp.refl r .non⟩
/-- return of an own local: it's given away -/
def mRetV (i : Nat) (PD : PEnds) (ρ : List S) : Prop := match ρ[i]? with
  | some (.ow none c) => PD.rt (.ow c) (ρ.set i .un)
  | _ => False
theorem RS.take {K : PySem.W.Frag} {F H : Hp} {A : List Addr} {ρ : List S} {σ : L2.St} (r : RS K F H A ρ σ) : ∀ {i : Nat} {t : Option Addr} {c : C}, ρ[i]? = some (.ow t c) →
    ∃ p o A', σ[i]? = some (some (V.ref p)) ∧ H p = some o ∧ RepC K F o c ∧ F p = none ∧ p ∈ A ∧ (∀ q, q ∈ A' → q ∈ A) ∧ p ∉ A' ∧ RS K F H A' (ρ.set i .un) σ := by
  induction r with
  | nil => intro i t c e; simp at e
  | un r0 ih => intro i t c e; cases i with
    | zero => simp at e
    | succ i =>
      obtain ⟨p, o, A', h1, h2, h3, h4, h5, h6, h7, h8⟩ := ih (i := i) (by simpa using e)
      exact ⟨p, o, A', by simpa using h1, h2, h3, h4, h5, h6, h7, .un h8⟩
  | fz q0 r0 ih => intro i t c e; cases i with
    | zero => simp at e
    | succ i =>
      obtain ⟨p, o, A', h1, h2, h3, h4, h5, h6, h7, h8⟩ := ih (i := i) (by simpa using e)
      exact ⟨p, o, A', by simpa using h1, h2, h3, h4, h5, h6, h7, .fz q0 h8⟩
  | ow e0 c0 n0 na0 t0 r0 ih => intro i t c e; cases i with
    | zero =>
      simp at e
      obtain ⟨rfl, rfl⟩ := e
      exact ⟨_, _, _, rfl, e0, c0, n0, List.mem_cons_self, fun q h => List.mem_cons_of_mem _ h, na0, .un r0⟩
    | succ i =>
      obtain ⟨p, o, A', h1, h2, h3, h4, h5, h6, h7, h8⟩ := ih (i := i) (by simpa using e)
      refine ⟨p, o, _ :: A', by simpa using h1, h2, h3, h4, List.mem_cons_of_mem _ h5, fun q h => ?_, fun h => ?_, .ow e0 c0 n0 (fun z => na0 (h6 _ z)) t0 h8⟩
      · rcases List.mem_cons.mp h with z | z
        · rw [z]; exact List.mem_cons_self
        · exact List.mem_cons_of_mem _ (h6 q z)
      · rcases List.mem_cons.mp h with z | z
        · exact na0 (by rw [← z]; exact h5)
        · exact h7 z
theorem gs_retV {i : Nat} {x : Str} {p2 : Pos} (hN : X.N[i]? = some x := by rfl) (hv : Vis X.env.scope x := by first | exact Or.inl rfl | exact Or.inr (Or.inl rfl) | exact Or.inr (Or.inr rfl)) (hd : (x == ("__debug__" : Str)) = false := by decide)
    (hcd : (x == ("__classdict__" : Str)) = false := by decide) : GS X W (.Return (some (.Name x p2)) pos) (mRetV i) := ⟨ps_imp (ps_ret (pe_var hN hv hd hcd)) fun D σ H h => by
  obtain ⟨F, A, ρ, PD, r, h, q⟩ := h
  unfold mRetV at h
  split at h
  · rename_i c e
    obtain ⟨p, o, A', h1, h2, h3, h4, h5, h6, h7, h8⟩ := r.rs.take e
    exact ⟨_, h1, q.rt _ _ _ _ F H A' h (Stp.less h6) ⟨r.same, h8⟩ ⟨p, o, A, rfl, h5, Stp.refl, h7, h2, h3, h4⟩⟩
  · exact h.elim⟩
/-- name op= e, on data -/
def mAug (i : Nat) (f : D → D → (D → Prop) → Prop) (m : ME) (PD : PEnds) (ρ : List S) : Prop := match ρ[i]? with
  | some (.fz d) => m ρ (fun e ρ' => f d e fun z => PD.nx (ρ'.set i (.fz z))) PD.ex
  | _ => False
theorem gs_aug {i : Nat} {x : Str} {op : Operator} {r : R2} {f : D → D → (D → Prop) → Prop} {p2 : Pos} (ho : OpR X (inplaceOp op) r) (hf : OpD X.K r f) (he : GE X W e ma) (hN : X.N.Nodup) (hi : X.N[i]? = some x := by rfl) (hx : Loc X.env.scope x := by first | exact Or.inl rfl | exact Or.inr rfl)
    (hfn : X.fn x = true ∨ X.env.scope.names.lookup x = some .local := by first | exact .inl rfl | exact .inr rfl) : GS X W (.AugAssign (.Name x p2) op e pos) (mAug i f ma) := ⟨ps_imp (ps_aug hN hi hx he.pe (ti := r) (fun pins s σ H x y v u Q I rx ry q => ho pins s σ H x y v u Q I rx ry q) hfn) fun D σ H h => by
  obtain ⟨F, A, ρ, PD, r0, h, q⟩ := h
  unfold mAug at h
  split at h
  · rename_i d h0
    obtain ⟨v0, h1, h2⟩ := r0.rs.getF h0
    refine ⟨v0, h1, F, A, ρ, _, PD.ex, r0, h, fun d' ρ' v F' H' A' h1 s1 r1 q1 => ?_, q.xc σ⟩
    refine hf F' H' v0 v d d' _ r1.same (h2.mono s1.ext) q1 h1 _ fun z w F3 H3 hz n w' => ?_
    obtain ⟨A2, s2, r2⟩ := R.store (s := .fz z) (s1.trans n.stp) (r1.new n) w' i
    exact q.nx _ _ _ _ _ hz s2 r2
  · exact h.elim⟩
end
end G

/-! G: targets, what is walked, loops, comprehensions -/
namespace G
open PySem PySem.Spec PyProof.Rows L2

/-! ### targets -/
def Chg (is : List Nat) (σ σ' : L2.St) : Prop := σ'.length = σ.length ∧ ∀ j, j ∉ is → σ'[j]? = σ[j]?
theorem Chg.refl {σ : L2.St} {is : List Nat} : Chg is σ σ := ⟨rfl, fun _ _ => rfl⟩
def liftG (K : PySem.W.Frag) (is : List Nat) (m : MG) : TG := fun v σ H Q => ∃ F A ρ d P, R K F A ρ σ H ∧ Rep K F v d ∧ m d ρ P ∧
  ∀ ρ' σ' A', P ρ' → Stp F H A F H A' → R K F A' ρ' σ' H → Chg is σ σ' → Q σ' H
def liftGs (K : PySem.W.Frag) (is : List Nat) (m : MGs) : TGs := fun vs σ H Q => ∃ F A ρ ds P, R K F A ρ σ H ∧ Reps K F vs ds ∧ m ds ρ P ∧
  ∀ ρ' σ' A', P ρ' → Stp F H A F H A' → R K F A' ρ' σ' H → Chg is σ σ' → Q σ' H
structure GG (X : Cx) (is : List Nat) (tg : Expr) (m : MG) : Prop where
  pg : PG X tg (liftG X.K is m)
structure GGs (X : Cx) (is : List Nat) (tgs : List Expr) (m : MGs) : Prop where
  pgs : PGs X tgs (liftGs X.K is m)
theorem pg_imp {X : Cx} {e : Expr} {t t' : TG} (h : PG X e t) (i : ∀ v σ H Q, t' v σ H Q → t v σ H Q) : PG X e t' := ⟨fun pins s σ H v u Q I r hw => h.run pins s σ H v u Q I r (i v σ H Q hw)⟩
theorem pgs_imp {X : Cx} {e : List Expr} {t t' : TGs} (h : PGs X e t) (i : ∀ v σ H Q, t' v σ H Q → t v σ H Q) : PGs X e t' := ⟨fun pins s σ H v u Q I r hw => h.run pins s σ H v u Q I r (i v σ H Q hw)⟩
section
variable {X : Cx} {W : WX} {e tg : Expr} {es : List Expr} {pos p2 : Pos} {is js : List Nat} {mg : MG} {mgs : MGs}
def gN (i : Nat) (d : D) (ρ : List S) (P : List S → Prop) : Prop := P (ρ.set i (.fz d))
theorem gg_name {i : Nat} {x : Str} (hN : X.N.Nodup) (hi : X.N[i]? = some x := by rfl) (hx : Loc X.env.scope x := by first | exact Or.inl rfl | exact Or.inr rfl) (hf : X.fn x = true ∨ X.env.scope.names.lookup x = some .local := by first | exact .inl rfl | exact .inr rfl) :
    GG X [i] (.Name x pos) (gN i) := ⟨pg_imp (pg_name hN hi hx hf) fun v σ H Q h => by
  obtain ⟨F, A, ρ, d, P, r, q, hm, hP⟩ := h
  obtain ⟨A2, s2, r2⟩ := R.store (s := .fz d) (Stp.refl) r q i
  exact hP _ _ _ hm s2 r2 ⟨List.length_set, fun j hj => List.getElem?_set_ne (fun z => hj (by simp [z]))⟩⟩
def gNl (ds : List D) (ρ : List S) (P : List S → Prop) : Prop := match ds with
  | [] => P ρ
  | _ => False
def gCs (g : MG) (gs : MGs) (ds : List D) (ρ : List S) (P : List S → Prop) : Prop := match ds with
  | d :: r => g d ρ fun ρ1 => gs r ρ1 P
  | _ => False
def gT (gs : MGs) (d : D) (ρ : List S) (P : List S → Prop) : Prop := match d with
  | .tup ds => gs ds ρ P
  | _ => False
theorem ggs_nil : GGs X [] [] gNl := ⟨pgs_imp pgs_nil fun v σ H Q h => by
  obtain ⟨F, A, ρ, ds, P, r, q, hm, hP⟩ := h
  cases q with
  | nil => exact ⟨rfl, hP _ _ _ hm Stp.refl r .refl⟩
  | cons _ _ => exact hm.elim⟩
theorem ggs_cons (h1 : GG X is e mg) (h2 : GGs X js es mgs) (hs : (assignEach (e :: es) X.env).map (·.2) = assign e X.env :: (assignEach es X.env).map (·.2) := by rfl) : GGs X (is ++ js) (e :: es) (gCs mg mgs) :=
  ⟨pgs_imp (pgs_cons h1.pg h2.pgs hs) fun vs σ H Q h => by
  obtain ⟨F, A, ρ, ds, P, r, q, hm, hP⟩ := h
  cases q with
  | nil => exact hm.elim
  | cons q1 q2 =>
    refine ⟨_, _, rfl, F, A, ρ, _, _, r, q1, hm, fun ρ1 σ1 A1 h1 s1 r1 c1 => ?_⟩
    refine ⟨F, A1, ρ1, _, _, r1, q2, h1, fun ρ2 σ2 A2 h2 s2 r2 c2 => hP _ _ _ h2 (s1.trans s2) r2 ⟨c2.1.trans c1.1, fun j hj => ?_⟩⟩
    rw [c2.2 j (fun z => hj (List.mem_append_right _ z)), c1.2 j (fun z => hj (List.mem_append_left _ z))]⟩
theorem gg_tup {k : Nat} {n : Nat} (hc : X.calm = true) (h : GGs X is es mgs) (hl : es.length = n) (hm : ∀ ds ρ P, mgs ds ρ P → ds.length = n) (hn : (assignEach es X.env).length = n := by rfl) (hst : (assignEach es X.env).findIdx? (·.1) = none := by rfl) : GG X is (.Tuple es k pos) (gT mgs) :=
  ⟨pg_imp (pg_tup hc h.pgs hn hst) fun v σ H Q h => by
  obtain ⟨F, A, ρ, d, P, r, q, hm', hP⟩ := h
  cases d with
  | tup ds =>
    obtain ⟨a, vs, rfl, e2, r2⟩ := q.tup_inv
    exact ⟨a, vs, rfl, .of (r.same _ _ e2), by rw [r2.length]; exact hm _ _ _ hm', F, A, ρ, ds, P, r, r2, hm', hP⟩
  | _ => exact hm'.elim⟩
theorem gNl_len {ds : List D} {ρ : List S} {P : List S → Prop} (h : gNl ds ρ P) : ds.length = 0 := by
  cases ds with
  | nil => rfl
  | cons _ _ => exact h.elim
theorem gCs1_len {i : Nat} {gs : MGs} {n : Nat} (hg : ∀ ds ρ P, gs ds ρ P → ds.length = n) (ds : List D) (ρ : List S) (P : List S → Prop) (h : gCs (gN i) gs ds ρ P) : ds.length = n + 1 := by
  cases ds with
  | nil => exact h.elim
  | cons d r => exact congrArg (· + 1) (hg _ _ _ h)
/-- (a, b) = a pair; three; four -/
theorem gg_tup2 {i j : Nat} {e1 e2 : Expr} {k : Nat} (hc : X.calm = true) (h1 : GG X [i] e1 (gN i)) (h2 : GG X [j] e2 (gN j)) (hn : (assignEach [e1, e2] X.env).length = 2 := by rfl) (hst : (assignEach [e1, e2] X.env).findIdx? (·.1) = none := by rfl)
    (hs : (assignEach [e1, e2] X.env).map (·.2) = assign e1 X.env :: (assignEach [e2] X.env).map (·.2) := by rfl) (hs2 : (assignEach [e2] X.env).map (·.2) = assign e2 X.env :: (assignEach [] X.env).map (·.2) := by rfl) :
    GG X [i, j] (.Tuple [e1, e2] k pos) (gT (gCs (gN i) (gCs (gN j) gNl))) :=
  gg_tup hc (ggs_cons h1 (ggs_cons h2 ggs_nil hs2) hs) rfl (gCs1_len (n := 1) (gCs1_len (n := 0) fun _ _ _ h => gNl_len h)) hn hst
theorem gg_tup3 {i j l : Nat} {e1 e2 e3 : Expr} {k : Nat} (hc : X.calm = true) (h1 : GG X [i] e1 (gN i)) (h2 : GG X [j] e2 (gN j)) (h3 : GG X [l] e3 (gN l)) (hn : (assignEach [e1, e2, e3] X.env).length = 3 := by rfl) (hst : (assignEach [e1, e2, e3] X.env).findIdx? (·.1) = none := by rfl)
    (hs : (assignEach [e1, e2, e3] X.env).map (·.2) = assign e1 X.env :: (assignEach [e2, e3] X.env).map (·.2) := by rfl) (hs2 : (assignEach [e2, e3] X.env).map (·.2) = assign e2 X.env :: (assignEach [e3] X.env).map (·.2) := by rfl)
    (hs3 : (assignEach [e3] X.env).map (·.2) = assign e3 X.env :: (assignEach [] X.env).map (·.2) := by rfl) :
    GG X [i, j, l] (.Tuple [e1, e2, e3] k pos) (gT (gCs (gN i) (gCs (gN j) (gCs (gN l) gNl)))) :=
  gg_tup hc (ggs_cons h1 (ggs_cons h2 (ggs_cons h3 ggs_nil hs3) hs2) hs) rfl (gCs1_len (n := 2) (gCs1_len (n := 1) (gCs1_len (n := 0) fun _ _ _ h => gNl_len h))) hn hst
end

/-! ### what is walked -/
def IsIt (K : PySem.W.Frag) (F : Hp) (J : It) (ds : List D) : Prop := ∀ i F2 H, Same F F2 → Same F2 H →
  (∀ h : i < ds.length, J.go i H ∧ ∀ x H', J.yld i H x H' → ∃ F3, New F2 H F3 H' ∧ Rep K F3 x ds[i]) ∧ (ds.length ≤ i → J.stop i H)
def liftI (K : PySem.W.Frag) (W : WX) (m : MI) : TI := fun σ H Rr => ∃ F A ρ P PX, R K F A ρ σ H ∧ m ρ P PX ∧
  (∀ ds ρ' F' H' A' J, P ds ρ' → Stp F H A F' H' A' → R K F' A' ρ' σ H' → IsIt K F' J ds → Rr J H') ∧ XC K W F H A σ PX
structure GI (X : Cx) (W : WX) (tg e : Expr) (m : MI) : Prop where
  pi : PI X tg e (liftI X.K W m)
theorem pi_imp {X : Cx} {tg e : Expr} {t t' : TI} (h : PI X tg e t) (i : ∀ σ H Q, t' σ H Q → t σ H Q) : PI X tg e t' := ⟨fun pins s σ H Q I hw => h.run pins s σ H Q I (i σ H Q hw)⟩
section
variable {K : PySem.W.Frag}
theorem isIt_list {F : Hp} {a : Addr} {vs : List V} {ds : List D} (e : F a = some (.lst vs)) (r : Reps K F vs ds) : IsIt K F (Itl K a) ds := by
  intro i F2 H s1 s2
  have hq : SqL K H a vs := .of (s2 _ _ (s1 _ _ e))
  refine ⟨fun h => ?_, fun h => ⟨vs, hq, by rw [r.length]; exact h⟩⟩
  obtain ⟨v, h1, h2⟩ := r.get i (List.getElem?_eq_getElem h)
  refine ⟨⟨vs, v, hq, h1⟩, fun x H' y => ?_⟩
  obtain ⟨rfl, y⟩ := y
  have : x = v := Option.some.inj ((y vs hq).symm.trans h1)
  subst this
  exact ⟨F2, New.refl s2, h2.mono s1⟩
theorem isIt_tup {F : Hp} {a : Addr} {vs : List V} {ds : List D} (e : F a = some (.tup vs)) (r : Reps K F vs ds) : IsIt K F (Itt K a) ds := by
  intro i F2 H s1 s2
  have hq : SqT K H a vs := .of (s2 _ _ (s1 _ _ e))
  refine ⟨fun h => ?_, fun h => ⟨vs, hq, by rw [r.length]; exact h⟩⟩
  obtain ⟨v, h1, h2⟩ := r.get i (List.getElem?_eq_getElem h)
  refine ⟨⟨vs, v, hq, h1⟩, fun x H' y => ?_⟩
  obtain ⟨rfl, y⟩ := y
  have : x = v := Option.some.inj ((y vs hq).symm.trans h1)
  subst this
  exact ⟨F2, New.refl s2, h2.mono s1⟩
/-- lo, lo + c, .. -/
def rngD (lo c : Int) (n : Nat) : List D := (List.range n).map fun i => D.int (lo + (i : Nat) * c)
theorem isIt_rng {F : Hp} (lo : Int) (n : Nat) : IsIt K F (Itr lo n) (rngD lo 1 n) := by
  intro i F2 H s1 s2
  have hl : (rngD lo 1 n).length = n := by simp [rngD]
  refine ⟨fun h => ⟨by rw [← hl]; exact h, fun x H' y => ?_⟩, fun h => by rw [hl] at h; exact h⟩
  obtain ⟨rfl, rfl⟩ := y
  refine ⟨F2, New.refl s2, ?_⟩
  have : (rngD lo 1 n)[i] = D.int (lo + i) := by simp [rngD]
  rw [this]
  exact .int _
theorem isIt_rngC {F : Hp} (lo c : Int) (n : Nat) : IsIt K F (Itc lo c n) (rngD lo c n) := by
  intro i F2 H s1 s2
  have hl : (rngD lo c n).length = n := by simp [rngD]
  refine ⟨fun h => ⟨by rw [← hl]; exact h, fun x H' y => ?_⟩, fun h => by rw [hl] at h; exact h⟩
  obtain ⟨rfl, rfl⟩ := y
  refine ⟨F2, New.refl s2, ?_⟩
  have : (rngD lo c n)[i] = D.int (lo + (i : Nat) * c) := by simp [rngD]
  rw [this]
  exact .int _
def signs (x : Str) : List D := x.cps.toList.map fun c => D.str ⟨#[c]⟩
theorem isIt_str {F : Hp} (z : Str) : IsIt K F (Its z) (signs z) := by
  intro i F2 H s1 s2
  have hl : (signs z).length = z.cps.size := by simp [signs]
  refine ⟨fun h => ⟨(show i < z.cps.size by rw [← hl]; exact h), fun x H' y => ?_⟩, fun h => (show z.cps.size ≤ i by rw [hl] at h; exact h)⟩
  obtain ⟨rfl, c, hc, rfl⟩ := y
  refine ⟨F2, New.refl s2, ?_⟩
  have hi : i < z.cps.size := by rw [← hl]; exact h
  have : z.cps[i] = c := by
    rw [Array.getElem?_eq_getElem hi] at hc
    exact Option.some.inj hc
  have e : (signs z)[i] = D.str ⟨#[c]⟩ := by simp [signs, this]
  rw [e]
  exact .str _
theorem isIt_rev {F : Hp} {a : Addr} {vs : List V} {ds : List D} (e : F a = some (.lst vs)) (r : Reps K F vs ds) : IsIt K F (Itv K a vs.length) ds.reverse := by
  intro i F2 H s1 s2
  have hq : SqL K H a vs := .of (s2 _ _ (s1 _ _ e))
  have hl : ds.reverse.length = vs.length := by rw [List.length_reverse, r.length]
  refine ⟨fun h => ?_, fun h => by rw [hl] at h; exact h⟩
  have h0 : i < vs.length := by rw [← hl]; exact h
  have h1 : ds[vs.length - 1 - i]? = some ds.reverse[i] := by
    rw [List.getElem_reverse, List.getElem?_eq_getElem (by rw [← r.length]; omega)]
    congr 2
    rw [r.length]
  obtain ⟨v, h2, h3⟩ := r.get _ h1
  refine ⟨⟨h0, vs, v, hq, h2⟩, fun x H' y => ?_⟩
  obtain ⟨rfl, y⟩ := y
  have : x = v := Option.some.inj ((y vs hq).symm.trans h2)
  subst this
  exact ⟨F2, New.refl s2, h3.mono s1⟩
def enumD (ds : List D) : List D := (List.range ds.length).map fun i => D.tup [.int (i : Nat), ds.getD i .non]
theorem isIt_enum {F : Hp} {a : Addr} {vs : List V} {ds : List D} (e : F a = some (.lst vs)) (r : Reps K F vs ds) : IsIt K F (Ite K a) (enumD ds) := by
  intro i F2 H s1 s2
  have hq : SqL K H a vs := .of (s2 _ _ (s1 _ _ e))
  have hl : (enumD ds).length = ds.length := by simp [enumD]
  refine ⟨fun h => ?_, fun h => ⟨vs, hq, by rw [r.length, ← hl]; exact h⟩⟩
  have h0 : i < ds.length := by rw [← hl]; exact h
  obtain ⟨v, h1, h2⟩ := r.get i (List.getElem?_eq_getElem h0)
  refine ⟨⟨vs, v, hq, h1⟩, fun x H' y => ?_⟩
  obtain ⟨T, x', rfl, hT, rfl, y⟩ := y
  have : x' = v := Option.some.inj ((y vs hq).symm.trans h1)
  subst this
  have n := New.mk1 (.tup [.int (i : Nat), x']) s2 hT
  refine ⟨_, n, ?_⟩
  have e : (enumD ds)[i] = D.tup [.int (i : Nat), ds[i]] := by simp [enumD, h0]
  rw [e]
  exact .tup upd_same (.cons (.int _) (.cons ((h2.mono s1).mono n.ext) .nil))
def zipD (ds es : List D) : List D := (ds.zip es).map fun p => D.tup [p.1, p.2]
theorem isIt_zip {F : Hp} {a b : Addr} {vs us : List V} {ds es : List D} (e : F a = some (.lst vs)) (r : Reps K F vs ds) (e' : F b = some (.lst us)) (r' : Reps K F us es) : IsIt K F (Itz K a b) (zipD ds es) := by
  intro i F2 H s1 s2
  have hq : SqL K H a vs := .of (s2 _ _ (s1 _ _ e))
  have hq' : SqL K H b us := .of (s2 _ _ (s1 _ _ e'))
  have hl : (zipD ds es).length = min ds.length es.length := by simp [zipD]
  refine ⟨fun h => ?_, fun h => ⟨vs, us, hq, hq', ?_⟩⟩
  · rw [hl] at h
    have k1 : i < ds.length := by omega
    have k2 : i < es.length := by omega
    obtain ⟨v, h1, h2⟩ := r.get i (List.getElem?_eq_getElem k1)
    obtain ⟨u, h1', h2'⟩ := r'.get i (List.getElem?_eq_getElem k2)
    refine ⟨⟨vs, us, v, u, hq, hq', h1, h1'⟩, fun x H' y => ?_⟩
    obtain ⟨T, x1, x2, rfl, hT, rfl, y1, y2⟩ := y
    have : x1 = v := Option.some.inj ((y1 vs hq).symm.trans h1)
    subst this
    have : x2 = u := Option.some.inj ((y2 us hq').symm.trans h1')
    subst this
    have n := New.mk1 (.tup [x1, x2]) s2 hT
    refine ⟨_, n, ?_⟩
    have e : (zipD ds es)[i]'(by rw [hl]; exact h) = D.tup [ds[i], es[i]] := by simp [zipD]
    rw [e]
    exact .tup upd_same (.cons ((h2.mono s1).mono n.ext) (.cons ((h2'.mono s1).mono n.ext) .nil))
  · rw [hl] at h
    rw [r.length, r'.length]
    omega
end
section
variable {X : Cx} {W : WX} {e e2 tg : Expr} {es : List Expr} {p pos p2 tpos : Pos} {ma : ME} {mas : MA} {elts : List Expr} {kk : Nat}
def iL (m : ME) (ρ : List S) (P : List D → List S → Prop) (PX : XP) : Prop := m ρ (fun d ρ1 => match d with | .lst ds => P ds ρ1 | _ => False) PX
def iT (m : ME) (ρ : List S) (P : List D → List S → Prop) (PX : XP) : Prop := m ρ (fun d ρ1 => match d with | .tup ds => P ds ρ1 | _ => False) PX
def iS (m : ME) (ρ : List S) (P : List D → List S → Prop) (PX : XP) : Prop := m ρ (fun d ρ1 => match d with | .str z => P (signs z) ρ1 | _ => False) PX
theorem gi_list (h : GE X W e ma) : GI X W tg e (iL ma) := ⟨pi_imp (pi_list h.pe) fun σ H Q h => by
  obtain ⟨F, A, ρ, P, PX, r, hm, hP, hX⟩ := h
  refine ⟨F, A, ρ, _, PX, r, hm, fun d ρ' v F' H' A' h1 s1 r1 q1 => ?_, hX⟩
  cases d with
  | lst ds =>
    obtain ⟨a, vs, rfl, e2, r2⟩ := q1.lst_inv
    exact ⟨a, rfl, ⟨vs, .of (r1.same _ _ e2)⟩, hP _ _ _ _ _ _ h1 s1 r1 (isIt_list e2 r2)⟩
  | _ => exact h1.elim⟩
theorem gi_tup (h : GE X W e ma) : GI X W tg e (iT ma) := ⟨pi_imp (pi_tup h.pe) fun σ H Q h => by
  obtain ⟨F, A, ρ, P, PX, r, hm, hP, hX⟩ := h
  refine ⟨F, A, ρ, _, PX, r, hm, fun d ρ' v F' H' A' h1 s1 r1 q1 => ?_, hX⟩
  cases d with
  | tup ds =>
    obtain ⟨a, vs, rfl, e2, r2⟩ := q1.tup_inv
    exact ⟨a, rfl, ⟨vs, .of (r1.same _ _ e2)⟩, hP _ _ _ _ _ _ h1 s1 r1 (isIt_tup e2 r2)⟩
  | _ => exact h1.elim⟩
theorem gi_str (h : GE X W e ma) : GI X W tg e (iS ma) := ⟨pi_imp (pi_str h.pe) fun σ H Q h => by
  obtain ⟨F, A, ρ, P, PX, r, hm, hP, hX⟩ := h
  refine ⟨F, A, ρ, _, PX, r, hm, fun d ρ' v F' H' A' h1 s1 r1 q1 => ?_, hX⟩
  cases d with
  | str z => exact ⟨z, q1.str_inv, hP _ _ _ _ _ _ h1 s1 r1 (isIt_str z)⟩
  | _ => exact h1.elim⟩
/-- range of ints within 2 ^ 62 -/
def sm62 (i : Int) : Prop := -(2 ^ 62) ≤ i ∧ i < 2 ^ 62
def iR1 (m : MA) (ρ : List S) (P : List D → List S → Prop) (PX : XP) : Prop := m ρ (fun ds ρ1 => match ds with
  | [.int j] => sm62 j ∧ P (rngD 0 1 j.toNat) ρ1
  | _ => False) PX
def iR2 (m : MA) (ρ : List S) (P : List D → List S → Prop) (PX : XP) : Prop := m ρ (fun ds ρ1 => match ds with
  | [.int i, .int j] => sm62 i ∧ sm62 j ∧ P (rngD i 1 (j - i).toNat) ρ1
  | _ => False) PX
def iR3 (m : MA) (ρ : List S) (P : List D → List S → Prop) (PX : XP) : Prop := m ρ (fun ds ρ1 => match ds with
  | [.int i, .int j, .int c] => ∃ n, RgC i j c n ∧ P (rngD i c n) ρ1
  | _ => False) PX
theorem gi_range1 {a : Expr} (hm : X.mg "range" = none) (ha : GA X W [a] mas) (hg : Gl X "range" := by rfl) (hs : starEach [a] X.env = [(false, eval a X.env)] := by rfl) : GI X W tg (.Call (.Name "range" p) [a] [] pos) (iR1 mas) := ⟨⟨fun pins s σ H Q I h => by
  obtain ⟨F, A, ρ, P, PX, r, hm', hP, hX⟩ := h
  refine (pi_range1 hg hm (ha.pa) hs).run pins s σ H Q I ⟨F, A, ρ, _, PX, r, hm', fun ds ρ' vs F' H' A' h1 s1 r1 q1 => ?_, hX⟩
  split at h1
  · rename_i j
    cases q1 with
    | cons q1 q2 =>
      cases q2
      rw [q1.int_inv]
      exact ⟨j, rfl, h1.1.1, h1.1.2, hP _ _ _ _ _ _ h1.2 s1 r1 (isIt_rng 0 _)⟩
  · exact h1.elim⟩⟩
theorem gi_range2 {a b : Expr} (hm : X.mg "range" = none) (ha : GA X W [a, b] mas) (hg : Gl X "range" := by rfl) (hs : starEach [a, b] X.env = [(false, eval a X.env), (false, eval b X.env)] := by rfl) (hs2 : starEach [b] X.env = [(false, eval b X.env)] := by rfl) :
    GI X W tg (.Call (.Name "range" p) [a, b] [] pos) (iR2 mas) := ⟨⟨fun pins s σ H Q I h => by
  obtain ⟨F, A, ρ, P, PX, r, hm', hP, hX⟩ := h
  refine (pi_range2 hg hm (ha.pa) hs hs2).run pins s σ H Q I ⟨F, A, ρ, _, PX, r, hm', fun ds ρ' vs F' H' A' h1 s1 r1 q1 => ?_, hX⟩
  split at h1
  · rename_i i j
    cases q1 with
    | cons q1 q2 =>
      cases q2 with
      | cons q2 q3 =>
        cases q3
        rw [q1.int_inv, q2.int_inv]
        exact ⟨i, j, rfl, ⟨h1.1.1, h1.1.2, h1.2.1.1, h1.2.1.2⟩, hP _ _ _ _ _ _ h1.2.2 s1 r1 (isIt_rng i _)⟩
  · exact h1.elim⟩⟩
theorem gi_range3 {a b c : Expr} (hm : X.mg "range" = none) (ha : GA X W [a, b, c] mas) (hg : Gl X "range" := by rfl) (hs : starEach [a, b, c] X.env = (false, eval a X.env) :: starEach [b, c] X.env := by rfl) (hpl : (backTo pos (starEach [b, c] X.env)).any (·.1) = false := by rfl) :
    GI X W tg (.Call (.Name "range" p) [a, b, c] [] pos) (iR3 mas) := ⟨⟨fun pins s σ H Q I h => by
  obtain ⟨F, A, ρ, P, PX, r, hm', hP, hX⟩ := h
  refine (pi_range3 hg hm (ha.pa) hs hpl).run pins s σ H Q I ⟨F, A, ρ, _, PX, r, hm', fun ds ρ' vs F' H' A' h1 s1 r1 q1 => ?_, hX⟩
  split at h1
  · rename_i i j c
    obtain ⟨n, h2, h3⟩ := h1
    cases q1 with
    | cons q1 q2 =>
      cases q2 with
      | cons q2 q3 =>
        cases q3 with
        | cons q3 q4 =>
          cases q4
          rw [q1.int_inv, q2.int_inv, q3.int_inv]
          exact ⟨i, j, c, n, rfl, h2, hP _ _ _ _ _ _ h3 s1 r1 (isIt_rngC i c _)⟩
  · exact h1.elim⟩⟩
def iEn (m : MA) (ρ : List S) (P : List D → List S → Prop) (PX : XP) : Prop := m ρ (fun ds ρ1 => match ds with | [.lst ds] => P (enumD ds) ρ1 | _ => False) PX
theorem gi_enum (hm : X.mg "enumerate" = none) (ha : GA X W [e] mas) (hg : Gl X "enumerate" := by rfl) (hs : starEach [e] X.env = [(false, eval e X.env)] := by rfl) : GI X W (.Tuple elts kk tpos) (.Call (.Name "enumerate" p) [e] [] pos) (iEn mas) := ⟨⟨fun pins s σ H Q I h => by
  obtain ⟨F, A, ρ, P, PX, r, hm', hP, hX⟩ := h
  refine (pi_enum hg hm (ha.pa) hs).run pins s σ H Q I ⟨F, A, ρ, _, PX, r, hm', fun ds ρ' vs F' H' A' h1 s1 r1 q1 => ?_, hX⟩
  split at h1
  · cases q1 with
    | cons q1 q2 =>
      cases q2
      obtain ⟨a, vs, rfl, e2, r2⟩ := q1.lst_inv
      exact ⟨a, vs, rfl, .of (r1.same _ _ e2), hP _ _ _ _ _ _ h1 s1 r1 (isIt_enum e2 r2)⟩
  · exact h1.elim⟩⟩
def iZp (m : MA) (ρ : List S) (P : List D → List S → Prop) (PX : XP) : Prop := m ρ (fun ds ρ1 => match ds with | [.lst ds, .lst es] => P (zipD ds es) ρ1 | _ => False) PX
theorem gi_zip (hm : X.mg "zip" = none) (ha : GA X W [e, e2] mas) (hg : Gl X "zip" := by rfl) (hs : starEach [e, e2] X.env = (false, eval e X.env) :: starEach [e2] X.env := by rfl) (hpl : (backTo pos (starEach [e2] X.env)).any (·.1) = false := by rfl) :
    GI X W (.Tuple elts kk tpos) (.Call (.Name "zip" p) [e, e2] [] pos) (iZp mas) := ⟨⟨fun pins s σ H Q I h => by
  obtain ⟨F, A, ρ, P, PX, r, hm', hP, hX⟩ := h
  refine (pi_zip hg hm (ha.pa) hs hpl).run pins s σ H Q I ⟨F, A, ρ, _, PX, r, hm', fun ds ρ' vs F' H' A' h1 s1 r1 q1 => ?_, hX⟩
  split at h1
  · cases q1 with
    | cons q1 q2 =>
      cases q2 with
      | cons q2 q3 =>
        cases q3
        obtain ⟨a, vs, rfl, e2, r2⟩ := q1.lst_inv
        obtain ⟨b, us, rfl, e3, r3⟩ := q2.lst_inv
        exact ⟨a, b, vs, us, rfl, .of (r1.same _ _ e2), .of (r1.same _ _ e3), hP _ _ _ _ _ _ h1 s1 r1 (isIt_zip e2 r2 e3 r3)⟩
  · exact h1.elim⟩⟩
def iRv (m : MA) (ρ : List S) (P : List D → List S → Prop) (PX : XP) : Prop := m ρ (fun ds ρ1 => match ds with | [.lst ds] => P ds.reverse ρ1 | _ => False) PX
theorem gi_rev (hm : X.mg "reversed" = none) (ha : GA X W [e] mas) (hg : Gl X "reversed" := by rfl) (hs : starEach [e] X.env = [(false, eval e X.env)] := by rfl) : GI X W tg (.Call (.Name "reversed" p) [e] [] pos) (iRv mas) := ⟨⟨fun pins s σ H Q I h => by
  obtain ⟨F, A, ρ, P, PX, r, hm', hP, hX⟩ := h
  refine (pi_reversed hg hm (ha.pa) hs).run pins s σ H Q I ⟨F, A, ρ, _, PX, r, hm', fun ds ρ' vs F' H' A' h1 s1 r1 q1 => ?_, hX⟩
  split at h1
  · cases q1 with
    | cons q1 q2 =>
      cases q2
      obtain ⟨a, vs, rfl, e2, r2⟩ := q1.lst_inv
      exact ⟨a, vs, rfl, .of (r1.same _ _ e2), hP _ _ _ _ _ _ h1 s1 r1 (isIt_rev e2 r2)⟩
  · exact h1.elim⟩⟩

/-! ### for, while -/
/-- behind a turn: less may be known -/
def lp (I : List S → Prop) : List S → Prop := fun ρ => ∃ ρ0, Wk ρ0 ρ ∧ I ρ0
def PEnds.loop (PD : PEnds) (N : List S → Prop) : PEnds := { PD with nx := N, ct := N, bk := PD.nx }
def mFor (mi : MI) (g : MG) (mb : MS) (PD : PEnds) (ρ : List S) : Prop := mi ρ (fun ds ρ1 => ∃ I : Nat → List S → Prop, lp (I 0) ρ1 ∧
  (∀ i (h : i < ds.length) ρ, I i ρ → g ds[i] ρ (mb (PD.loop (lp (I (i + 1)))))) ∧ ∀ ρ, I ds.length ρ → PD.nx ρ) PD.ex
theorem gs_for {is : List Nat} {body : List Stmt} {mi : MI} {mg : MG} {mb : MS} (hp : PassesOwn (model X.prog X.w) X.A X.env X.xe) (hc : X.calm = true) (hi : GI X W tg e mi) (hg : GG X is tg mg) (hb : GSs X W body mb) (hs : ∀ x, foldedSetIterable e X.env x = pure x := by intro _; rfl) : GS X W (.For tg e body [] pos) (mFor mi mg mb) :=
  ⟨ps_imp (ps_for hp hc hi.pi hg.pg hb.pss hs) fun D σ H h => by
  obtain ⟨F, A, ρ, PD, r, h, q⟩ := h
  refine ⟨F, A, ρ, _, PD.ex, r, h, fun ds ρ1 F1 H1 A1 J h1 s1 r1 j1 => ?_, q.xc σ⟩
  obtain ⟨I, ⟨ρ0, w0, i0⟩, turn, done⟩ := h1
  refine ⟨fun i m σ' H' => m = ds.length - i ∧ i ≤ ds.length ∧ ∃ F' A' ρ', I i ρ' ∧ Stp F1 H1 A1 F' H' A' ∧ R X.K F' A' ρ' σ' H', ⟨ds.length, by simp, Nat.zero_le _, ?_⟩, ?_⟩
  · obtain ⟨A2, s2, r2⟩ := r1.weak w0
    exact ⟨F1, A2, ρ0, i0, s2, r2⟩
  · rintro i m σ' H' ⟨rfl, hi, F', A', ρ', hI, s', r'⟩
    obtain ⟨j2, j3⟩ := j1 i F' H' s'.ext r'.same
    by_cases hlt : i < ds.length
    · obtain ⟨go, yld⟩ := j2 hlt
      refine .inr ⟨go, fun σ2 H2 => ∃ F2 A2 ρ2, I (i + 1) ρ2 ∧ Stp F1 H1 A1 F2 H2 A2 ∧ R X.K F2 A2 ρ2 σ2 H2, fun σ2 H2 hh => ⟨ds.length - (i + 1), by omega, rfl, hlt, hh⟩, fun x H2 y => ?_⟩
      obtain ⟨F3, n, q3⟩ := yld x H2 y
      have r3 := r'.new n
      refine ⟨F3, A', ρ', ds[i], _, r3, q3, turn i hlt ρ' hI, fun ρ4 σ4 A4 h4 s4 r4 _ => ?_⟩
      have s5 := (s'.trans n.stp).trans s4
      have fin : ∀ ρ6 σ6 F6 H6 A6, lp (I (i + 1)) ρ6 → Stp F3 H2 A4 F6 H6 A6 → R X.K F6 A6 ρ6 σ6 H6 → ∃ F2 A2 ρ2, I (i + 1) ρ2 ∧ Stp F1 H1 A1 F2 H6 A2 ∧ R X.K F2 A2 ρ2 σ6 H6 := fun ρ6 σ6 F6 H6 A6 l s6 r6 => by
        obtain ⟨ρ0, w, hI'⟩ := l
        obtain ⟨A7, s7, r7⟩ := r6.weak w
        exact ⟨F6, A7, ρ0, hI', (s5.trans s6).trans s7, r7⟩
      have q' := q.step (s1.trans s5)
      exact ⟨F3, A4, ρ4, _, r4, h4, ⟨fun ρ6 σ6 F6 H6 A6 l s6 r6 => fin ρ6 σ6 F6 H6 A6 l s6 r6, q'.rt, q'.nx, fun ρ6 σ6 F6 H6 A6 l s6 r6 => fin ρ6 σ6 F6 H6 A6 l s6 r6, q'.ex⟩⟩
    · have e : i = ds.length := by omega
      subst e
      exact .inl ⟨j3 (Nat.le_refl _), q.nx _ _ _ _ _ (done _ hI) (s1.trans s') r'⟩⟩
def mWhile (t : MT) (mb : MS) (PD : PEnds) (ρ : List S) : Prop := ∃ I : Nat → List S → Prop, (∃ n, lp (I n) ρ) ∧ ∀ n ρ, I n ρ → t ρ (fun b ρ1 => (b = true → mb (PD.loop (fun ρ' => ∃ k, k < n ∧ lp (I k) ρ')) ρ1) ∧ (b = false → PD.nx ρ1)) PD.ex
theorem gs_while {body : List Stmt} {mt : MT} {mb : MS} (hp : PassesOwn (model X.prog X.w) X.A X.env X.xe) (ht : GT X W e mt) (hb : GSs X W body mb) : GS X W (.While e body [] pos) (mWhile mt mb) := ⟨ps_imp (ps_while hp ht.pt hb.pss) fun D σ H h => by
  obtain ⟨F, A, ρ, PD, r, h, q⟩ := h
  obtain ⟨I, ⟨n0, ρ0, w0, i0⟩, turn⟩ := h
  refine ⟨fun n σ' H' => ∃ F' A' ρ', I n ρ' ∧ Stp F H A F' H' A' ∧ R X.K F' A' ρ' σ' H', ⟨n0, ?_⟩, ?_⟩
  · obtain ⟨A2, s2, r2⟩ := r.weak w0
    exact ⟨F, A2, ρ0, i0, s2, r2⟩
  · rintro n σ' H' ⟨F', A', ρ', hI, s', r'⟩
    refine ⟨F', A', ρ', _, PD.ex, r', turn n ρ' hI, fun b ρ1 F1 H1 A1 h1 s1 r1 => ?_, (q.step s').xc σ'⟩
    have s2 := s'.trans s1
    cases b with
    | true =>
      refine iteT ?_
      have q' := q.step s2
      have fin : ∀ ρ6 σ6 F6 H6 A6, (∃ k, k < n ∧ lp (I k) ρ6) → Stp F1 H1 A1 F6 H6 A6 → R X.K F6 A6 ρ6 σ6 H6 → ∃ m', m' < n ∧ ∃ F' A' ρ', I m' ρ' ∧ Stp F H A F' H6 A' ∧ R X.K F' A' ρ' σ6 H6 := fun ρ6 σ6 F6 H6 A6 l s6 r6 => by
        obtain ⟨k, hk, ρ0, w, hI'⟩ := l
        obtain ⟨A7, s7, r7⟩ := r6.weak w
        exact ⟨k, hk, F6, A7, ρ0, hI', (s2.trans s6).trans s7, r7⟩
      refine ⟨fun σ6 H6 => ∃ m', m' < n ∧ ∃ F' A' ρ', I m' ρ' ∧ Stp F H A F' H6 A' ∧ R X.K F' A' ρ' σ6 H6, fun σ6 H6 hh => hh, F1, A1, ρ1, _, r1, h1.1 rfl, ⟨fin, q'.rt, q'.nx, fin, q'.ex⟩⟩
    | false => exact iteF (q.nx _ _ _ _ _ (h1.2 rfl) s2 r1)⟩
end
end G

/-! G: comprehensions, promises, calls, built-ins, methods -/
namespace G
open PySem PySem.Spec PyProof.Rows L2

/-! ### comprehensions -/
/-- nothing is let out of a comprehension -/
abbrev WF : WX := fun _ _ _ _ => False
theorem takesF {X : Cx} : Takes X WF := takes0
def noX : XP := fun _ _ => False
def wipeS (ρ : List S) : List Nat → List S
  | [] => ρ
  | v :: vs => (wipeS ρ vs).set v .un
/-- the slots' values elsewhere are of no matter where nothing is known -/
theorem RS.unset {K : PySem.W.Frag} {F H : Hp} {A : List Addr} {ρ : List S} {σ : L2.St} (r : RS K F H A ρ σ) (i : Nat) (o : Option V) : ∃ A', (∀ p, p ∈ A' → p ∈ A) ∧ RS K F H A' (ρ.set i .un) (σ.set i o) := by
  induction r generalizing i with
  | nil => exact ⟨[], fun _ h => h, by simpa using RS.nil⟩
  | un r0 ih => cases i with
    | zero => exact ⟨_, fun _ h => h, .un r0⟩
    | succ i => obtain ⟨A', s, r'⟩ := ih i; exact ⟨A', s, .un r'⟩
  | fz q r0 ih => cases i with
    | zero => exact ⟨_, fun _ h => h, .un r0⟩
    | succ i => obtain ⟨A', s, r'⟩ := ih i; exact ⟨A', s, .fz q r'⟩
  | ow e c n na t r0 ih => cases i with
    | zero => exact ⟨_, fun _ h => List.mem_cons_of_mem _ h, .un r0⟩
    | succ i =>
      obtain ⟨A', s, r'⟩ := ih i
      refine ⟨_ :: A', fun p h => ?_, .ow e c n (fun z => na (s _ z)) t r'⟩
      rcases List.mem_cons.mp h with z | z
      · rw [z]; exact List.mem_cons_self
      · exact List.mem_cons_of_mem _ (s p z)
theorem RS.wiped {K : PySem.W.Frag} {F H : Hp} {A : List Addr} {ρ : List S} {σ : L2.St} (r : RS K F H A ρ σ) : ∀ vs : List Nat, ∃ A', (∀ p, p ∈ A' → p ∈ A) ∧ RS K F H A' (wipeS ρ vs) (wipe σ vs)
  | [] => ⟨A, fun _ h => h, r⟩
  | v :: vs => by
    obtain ⟨A1, s1, r1⟩ := RS.wiped r vs
    obtain ⟨A2, s2, r2⟩ := r1.unset v none
    exact ⟨A2, fun p h => s1 p (s2 p h), r2⟩
/-- from the block's slots back to the def's: the own names unknown -/
theorem RS.unwiped {K : PySem.W.Frag} {F H : Hp} {A : List Addr} {ρ : List S} {σ σ2 : L2.St} (r : RS K F H A ρ σ2) (vs : List Nat) (hw : wipe σ2 vs = wipe σ vs) : ∃ A', (∀ p, p ∈ A' → p ∈ A) ∧ RS K F H A' (wipeS ρ vs) σ := by
  obtain ⟨A', s, r'⟩ := r.wiped vs
  rw [hw] at r'
  refine ⟨A', s, ?_⟩
  -- where wipe σ vs has a value σ has it, where it has none ρ knows nothing
  have hl : (wipe σ vs).length = σ.length := wipe_length σ vs
  have hh : ∀ (i : Nat) v, (wipe σ vs)[i]? = some (some v) → σ[i]? = some (some v) := fun i v e => (wipe_some e).1
  generalize wipe σ vs = τ at r' hl hh
  clear hw r s
  generalize wipeS ρ vs = κ at r'
  induction r' generalizing σ with
  | nil => cases σ with
    | nil => exact .nil
    | cons _ _ => simp at hl
  | un r0 ih => cases σ with
    | nil => simp at hl
    | cons a b => exact .un (ih (by simpa using hl) fun i v e => by simpa using hh (i + 1) v (by simpa using e))
  | fz q r0 ih => cases σ with
    | nil => simp at hl
    | cons a b =>
      have e0 := hh 0 _ rfl
      simp at e0
      subst e0
      exact .fz q (ih (by simpa using hl) fun i v e => by simpa using hh (i + 1) v (by simpa using e))
  | ow e1 c n na t r0 ih => cases σ with
    | nil => simp at hl
    | cons a b =>
      have e0 := hh 0 _ rfl
      simp at e0
      subst e0
      exact .ow e1 c n na t (ih (by simpa using hl) fun i v e => by simpa using hh (i + 1) v (by simpa using e))
theorem wipe_get {σ : L2.St} : ∀ {vs : List Nat} {j : Nat}, j < σ.length → (wipe σ vs)[j]? = if j ∈ vs then some none else σ[j]?
  | [], j, _ => by simp [wipe]
  | v :: vs, j, h => by
    have hl := wipe_length σ vs
    by_cases e : v = j
    · subst e
      rw [show wipe σ (v :: vs) = (wipe σ vs).set v none from rfl, List.getElem?_set_self (by rw [hl]; exact h)]
      simp
    · rw [show wipe σ (v :: vs) = (wipe σ vs).set v none from rfl, List.getElem?_set_ne e, wipe_get h]
      have : (j ∈ v :: vs) ↔ j ∈ vs := by
        simp only [List.mem_cons]
        exact ⟨fun z => z.resolve_left fun y => e y.symm, .inr⟩
      simp only [this]
theorem wipe_chg {σ σ2 : L2.St} {is vs : List Nat} (c : Chg is (wipe σ vs) σ2) (h : ∀ j ∈ is, j ∈ vs) : wipe σ2 vs = wipe σ vs := by
  have hl : σ2.length = σ.length := by rw [c.1, wipe_length]
  apply List.ext_getElem?
  intro j
  by_cases hj : j < σ.length
  · rw [wipe_get (by rw [hl]; exact hj), wipe_get hj]
    split
    · rfl
    · rename_i hv
      rw [c.2 j (fun z => hv (h j z)), wipe_get hj, if_neg hv]
  · rw [List.getElem?_eq_none (by rw [wipe_length, hl]; omega), List.getElem?_eq_none (by rw [wipe_length]; omega)]
def mLc (mi : MI) (g : MG) (mt : MT) (me : ME) (vs : List Nat) (ρ : List S) (P : C → List S → Prop) (PX : XP) : Prop := mi ρ (fun ds ρ1 => ∃ I : Nat → List D → List S → Prop, I 0 [] ρ1 ∧
  (∀ i (h : i < ds.length) acc ρ, I i acc ρ → g ds[i] (wipeS ρ vs) (fun ρ2 => mt ρ2 (fun b ρ3 => (b = true → me ρ3 (fun d ρ4 => acc.length < sizeLine ∧ I (i + 1) (acc ++ [d]) (wipeS ρ4 vs)) noX) ∧ (b = false → I (i + 1) acc (wipeS ρ3 vs))) noX)) ∧
  ∀ acc ρ, I ds.length acc ρ → P (.lst acc) ρ) PX
def mYes (ρ : List S) (P : Bool → List S → Prop) (PX : XP) : Prop := P true ρ
structure GTs (X : Cx) (W : WX) (ifs : List Expr) (m : MT) : Prop where
  pts : PTs X ifs (liftT X.K W m)
section
variable {X : Cx} {W : WX} {e tg : Expr} {pos : Pos} {ma : ME}
theorem gts_nil : GTs X W [] mYes := ⟨⟨fun pins s σ H Q I h => by
  obtain ⟨F, A, ρ, P, PX, r, hm, hP, hX⟩ := h
  exact pts_nil.run pins s σ H Q I (hP _ _ _ _ _ hm Stp.refl r)⟩⟩
theorem gts_one {mt : MT} (h : GT X W e mt) : GTs X W [e] mt := ⟨pts_one h.pt⟩
theorem tlc {mi : MI} {mg : MG} {mt : MT} {me : ME} {is vs : List Nat} (hv : ∀ j ∈ is, j ∈ vs) {σ : L2.St} {H : Hp} {Q : VK} (h : liftO X.K W (mLc mi mg mt me vs) σ H Q) :
    tLc (liftI X.K W mi) (liftG X.K is mg) (liftT X.K WF mt) (lift X.K WF me) vs σ H Q := by
  obtain ⟨F, A, ρ, P, PX, r, hm, hP, hX⟩ := h
  refine ⟨F, A, ρ, _, PX, r, hm, fun ds ρ1 F1 H1 A1 J h1 s1 r1 j1 => ?_, hX⟩
  obtain ⟨I, i0, turn, done⟩ := h1
  intro D hD
  obtain ⟨sD, rD, nD, fD, hD0⟩ := own_new (.lst []) s1 r1 hD
  refine ⟨fun i m H' => m = ds.length - i ∧ i ≤ ds.length ∧ ∃ acc as F' A' ρ', I i acc ρ' ∧ Stp F1 H1 A1 F' H' A' ∧ R X.K F' A' ρ' σ H' ∧ H' D = some (.lst as) ∧ Reps X.K F' as acc ∧ F' D = none ∧ D ∉ A', ⟨ds.length, by simp, Nat.zero_le _, [], [], F1, A1, ρ1, i0, (New.mk0 _ r1.same hD).stp, rD, upd_same, .nil, fD, nD⟩, ?_⟩
  rintro i m H' ⟨rfl, hi, acc, as, F', A', ρ', hI, s', r', hd, ra, fd, nd⟩
  have sF : Same F1 F' := s'.ext
  obtain ⟨j2, j3⟩ := j1 i F' H' sF r'.same
  by_cases hlt : i < ds.length
  · obtain ⟨go, yld⟩ := j2 hlt
    refine .inr ⟨go, fun H2 => ∃ acc as F2 A2 ρ2, I (i + 1) acc ρ2 ∧ Stp F1 H1 A1 F2 H2 A2 ∧ R X.K F2 A2 ρ2 σ H2 ∧ H2 D = some (.lst as) ∧ Reps X.K F2 as acc ∧ F2 D = none ∧ D ∉ A2, fun H2 hh => ⟨ds.length - (i + 1), by omega, rfl, hlt, hh⟩, fun x H2 y => ?_⟩
    obtain ⟨F3, n, q3⟩ := yld x H2 y
    have r3 := r'.new n
    obtain ⟨A3, s3, r3'⟩ := r3.rs.wiped vs
    have rW : R X.K F3 A3 (wipeS ρ' vs) (wipe σ vs) H2 := ⟨r3.same, r3'⟩
    have sW : Stp F' H' A' F3 H2 A3 := n.stp.trans (Stp.less s3)
    have d3 : H2 D = some (.lst as) := n.kp _ _ hd
    have f3 : F3 D = none := (n.fr _ _ hd).trans fd
    have nd3 : D ∉ A3 := fun z => nd (s3 _ z)
    -- a step from there keeps the list at D
    have keepD : ∀ {F6 H6 : Hp} {A6 : List Addr}, Stp F3 H2 A3 F6 H6 A6 → H6 D = some (.lst as) ∧ Reps X.K F6 as acc ∧ F6 D = none ∧ D ∉ A6 := fun {F6 H6 A6} s6 => by
      refine ⟨s6.kp _ _ d3 nd3, (ra.mono n.ext).mono s6.ext, (s6.fr _ _ d3 nd3).trans f3, fun z => ?_⟩
      rcases s6.sub _ z with y | y
      · exact nd3 y
      · rw [d3] at y; cases y
    refine ⟨F3, A3, wipeS ρ' vs, ds[i], _, rW, q3, turn i hlt acc ρ' hI, fun ρ2 σ2 A4 h2 s4 r4 c4 => ?_⟩
    have hw : wipe σ2 vs = wipe σ vs := wipe_chg c4 hv
    refine ⟨hw, F3, A4, ρ2, _, noX, r4, h2, fun b ρ3 F5 H5 A5 h3 s5 r5 => ?_, fun _ _ _ _ _ _ _ z => z.elim⟩
    have s6 := s4.trans s5
    cases b with
    | true =>
      refine iteT ?_
      refine ⟨F5, A5, ρ3, _, noX, r5, h3.1 rfl, fun d ρ4 v F7 H7 A7 h7 s7 r7 q7 => ?_, fun _ _ _ _ _ _ _ z => z.elim⟩
      have s8 := s6.trans s7
      obtain ⟨k1, k2, k3, k4⟩ := keepD s8
      refine ⟨as, k1, by rw [k2.length]; exact h7.1, ?_⟩
      obtain ⟨A8, s9, r9⟩ := r7.rs.unwiped vs hw
      have m9 : RS X.K F7 (upd H7 D (.lst (as ++ [v]))) A8 (wipeS ρ4 vs) σ := r9.move (Same.refl _) fun p hp => ⟨upd_ne fun z => k4 (s9 _ (by rw [← z]; exact hp)), (by obtain ⟨_, _, z⟩ := r9.there p hp; exact z)⟩
      have sAll := (s'.trans sW).trans s8
      have nA1 : D ∉ A1 := nD
      refine ⟨acc ++ [d], as ++ [v], F7, A8, wipeS ρ4 vs, h7.2, ⟨sAll.ext, fun p o e np => ?_, sAll.fr, fun p hp => sAll.sub p (s9 p hp), fun p e => ?_⟩, ⟨fun p o e => ?_, m9⟩, upd_same, k2.append (.cons q7 .nil), k3, fun z => k4 (s9 _ z)⟩
      · by_cases z : p = D
        · rw [z, hD] at e; cases e
        · rw [upd_ne z]; exact sAll.kp p o e np
      · by_cases z : p = D
        · rw [z, upd_same] at e; cases e
        · rw [upd_ne z] at e; exact sAll.dom p e
      · by_cases z : p = D
        · rw [z, k3] at e; cases e
        · rw [upd_ne z]; exact r7.same p o e
    | false =>
      refine iteF ?_
      obtain ⟨k1, k2, k3, k4⟩ := keepD s6
      obtain ⟨A8, s9, r9⟩ := r5.rs.unwiped vs hw
      exact ⟨acc, as, F5, A8, wipeS ρ3 vs, h3.2 rfl, ((s'.trans sW).trans s6).trans (Stp.less s9), ⟨r5.same, r9⟩, k1, k2, k3, fun z => k4 (s9 _ z)⟩
  · have e : i = ds.length := by omega
    subst e
    refine .inl ⟨j3 (Nat.le_refl _), hP _ _ D (.lst as) F' H' A' (done acc ρ' hI) ?_ r' nd hD0 hd (.lst ra) fd⟩
    exact s1.trans s'
theorem go_lc {elt iter : Expr} {ifs : List Expr} {scope : Scope} {own : List (Str × Nat)} {mi : MI} {mg : MG} {mt : MT} {me : ME} {is : List Nat} (hc : X.calm = true) (hN : X.N.Nodup) (hi : GI X W tg iter mi) (ok : BlkOk X.N X.env.scope scope own)
    (hg : ∀ (s : Shared) (H : Hp) (C : Addr) (cl : List (Str × Addr)) (fp : List Addr), GG (X.blk s H scope (compEnvC scope cl C X.env) fp) is tg mg) (ht : ∀ (s : Shared) (H : Hp) (C : Addr) (cl : List (Str × Addr)) (fp : List Addr), GTs (X.blk s H scope (compEnvC scope cl C X.env) fp) WF ifs mt)
    (he : ∀ (s : Shared) (H : Hp) (C : Addr) (cl : List (Str × Addr)) (fp : List Addr), GE (X.blk s H scope (compEnvC scope cl C X.env) fp) WF elt me) (hv : ∀ j ∈ is, j ∈ own.map (·.2) := by decide) (hs : ∀ x, foldedSetIterable iter X.env x = pure x := by intro _; rfl) :
    GO X W (.ListComp elt [⟨tg, iter, ifs, 0⟩] scope pos) (mLc mi mg mt me (own.map (·.2))) :=
  ⟨pe_imp (pe_lc hc hN hi.pi ok (fun s H C cl fp => (hg s H C cl fp).pg) (fun s H C cl fp => (ht s H C cl fp).pts) (fun s H C cl fp => (he s H C cl fp).pe) hs) fun σ H Q h => tlc hv h⟩
/-- name = [..], own or to stay -/
theorem gs_setLcO {i : Nat} {y : Str} {py : Pos} {elt iter : Expr} {ifs : List Expr} {scope : Scope} {own : List (Str × Nat)} {spos : Pos} {mi : MI} {mg : MG} {mt : MT} {me : ME} {is : List Nat} (hc : X.calm = true) (hN : X.N.Nodup) (hi : GI X W tg iter mi) (ok : BlkOk X.N X.env.scope scope own)
    (hg : ∀ (s : Shared) (H : Hp) (C : Addr) (cl : List (Str × Addr)) (fp : List Addr), GG (X.blk s H scope (compEnvC scope cl C X.env) fp) is tg mg) (ht : ∀ (s : Shared) (H : Hp) (C : Addr) (cl : List (Str × Addr)) (fp : List Addr), GTs (X.blk s H scope (compEnvC scope cl C X.env) fp) WF ifs mt)
    (he : ∀ (s : Shared) (H : Hp) (C : Addr) (cl : List (Str × Addr)) (fp : List Addr), GE (X.blk s H scope (compEnvC scope cl C X.env) fp) WF elt me) (hsw : swapsWith (.ListComp elt [⟨tg, iter, ifs, 0⟩] scope pos) (some (.Name y py)) spos.line X.env = pure true)
    (hy : X.N[i]? = some y := by rfl) (hyl : X.env.scope.names.lookup y = some .local := by rfl) (hv : ∀ j ∈ is, j ∈ own.map (·.2) := by decide) (hs : ∀ x, foldedSetIterable iter X.env x = pure x := by intro _; rfl) :
    GS X W (.Assign [.Name y py] (.ListComp elt [⟨tg, iter, ifs, 0⟩] scope pos) spos) (mSet i (mXo (mLc mi mg mt me (own.map (·.2))))) :=
  ⟨ps_imp (ps_setLc hc hN hy hyl hsw hi.pi ok (fun s H C cl fp => (hg s H C cl fp).pg) (fun s H C cl fp => (ht s H C cl fp).pts) (fun s H C cl fp => (he s H C cl fp).pe) hs) fun D σ H h => by
  obtain ⟨F, A, ρ, PD, r, h, q⟩ := h
  have h' : mLc mi mg mt me (own.map (·.2)) ρ (fun c ρ' => PD.nx (ρ'.set i (.ow none c))) PD.ex := h
  refine tlc hv ⟨F, A, ρ, _, PD.ex, r, h', fun c ρ' p o F' H' A' h1 s1 r1 n1 n2 n3 n4 n5 => ?_, q.xc σ⟩
  obtain ⟨A2, s2, r2⟩ := R.store (s := .ow none c) s1 r1 ⟨p, o, rfl, n1, n2, n3, n4, n5⟩ i
  exact q.nx _ _ _ _ _ h1 s2 r2⟩
end

/-! ### promises -/
abbrev CtP := List D → (Rv → Prop) → (Ex → Prop) → Prop
abbrev CtM := C → List D → (Rv → C → Prop) → (Ex → C → Prop) → Prop
def RvF (K : PySem.W.Frag) (H F' H' : Hp) (v : V) : Rv → Prop
  | .fz d => Rep K F' v d
  | .ow c => ∃ p o, v = .ref p ∧ H p = none ∧ H' p = some o ∧ RepC K F' o c ∧ F' p = none
def spP (K : PySem.W.Frag) (c : CtP) : Sp := fun vs H Q E => ∃ F ds P PX, Same F H ∧ Reps K F vs ds ∧ c ds P PX ∧
  (∀ rv v F' H', P rv → Stp F H [] F' H' [] → Same F' H' → RvF K H F' H' v rv → Q v H') ∧ ∀ x F' H' cls dd, PX x → Stp F H [] F' H' [] → Same F' H' → ExR H' x cls dd → E cls dd H'
def spM (K : PySem.W.Frag) (c : CtM) : Sp := fun vs H Q E => ∃ F p o vs' c0 ds P PX, vs = .ref p :: vs' ∧ Same F H ∧ F p = none ∧ H p = some o ∧ RepC K F o c0 ∧ Reps K F vs' ds ∧ c c0 ds P PX ∧
  (∀ rv c' v F' H' o', P rv c' → Stp F H [p] F' H' [p] → Same F' H' → H' p = some o' → RepC K F' o' c' → F' p = none → RvF K H F' H' v rv → Q v H') ∧
  ∀ x c' F' H' o' cls dd, PX x c' → Stp F H [p] F' H' [p] → Same F' H' → H' p = some o' → RepC K F' o' c' → F' p = none → ExR H' x cls dd → E cls dd H'
section
variable {X : Cx} {W : WX} {e : Expr} {es : List Expr} {x : Str} {p p2 pos : Pos} {ma : ME} {mas : MA} {k : Nat} {f : Addr} {fd : FuncData} {ps : List Str} {n : Nat}
/-- what a call's end is good for here -/
def rvD (P : D → Prop) (rv : Rv) : Prop := match rv with | .fz d => P d | .ow (.lst l) => P (.lst l) | _ => False
theorem rvD_fz {P : D → Prop} {d : D} : rvD P (.fz d) = P d := rfl
theorem rvD_ow {P : D → Prop} {l : List D} : rvD P (.ow (.lst l)) = P (.lst l) := rfl
def mCall (c : CtP) (m : MA) (ρ : List S) (P : D → List S → Prop) (PX : XP) : Prop := m ρ (fun ds ρ1 => c ds (rvD fun d => P d ρ1) (fun x => PX x ρ1)) PX
def mCallO (c : CtP) (m : MA) (ρ : List S) (P : C → List S → Prop) (PX : XP) : Prop := m ρ (fun ds ρ1 => c ds (fun rv => match rv with | .ow l => P l ρ1 | _ => False) (fun x => PX x ρ1)) PX
/-- a step of a callee's, seen here -/
theorem R.called {K : PySem.W.Frag} {F H F' H' : Hp} {A : List Addr} {ρ : List S} {σ : L2.St} (r : R K F A ρ σ H) (s : Stp F H [] F' H' []) (sm : Same F' H') : Stp F H A F' H' A ∧ R K F' A ρ σ H' := by
  have nn : ∀ p, p ∉ ([] : List Addr) := fun p h => by cases h
  refine ⟨⟨s.ext, fun p o h _ => s.kp p o h (nn p), fun p o h _ => s.fr p o h (nn p), fun _ h => .inl h, s.dom⟩, sm, r.rs.move s.ext fun p hp => ?_⟩
  obtain ⟨o, e, n⟩ := r.rs.there p hp
  exact ⟨(s.kp p o e (nn p)).trans e.symm, (s.fr p o e (nn p)).trans n⟩
theorem frzL {K : PySem.W.Frag} {F H F1 H1 F' H' : Hp} {A A1 : List Addr} {ρ1 : List S} {σ : L2.St} {p : Addr} {vs : List V} {ds : List D} (s1 : Stp F H A F' H' A1) (r1 : R K F' A1 ρ1 σ H') (n1 : p ∉ A1) (n2 : H p = none) (n3 : H' p = some (.lst vs)) (q : Reps K F' vs ds) (n5 : F' p = none) :
    Stp F H A (upd F' p (.lst vs)) H' A1 ∧ R K (upd F' p (.lst vs)) A1 ρ1 σ H' ∧ Rep K (upd F' p (.lst vs)) (.ref p) (.lst ds) := by
  have sm : Same F' (upd F' p (.lst vs)) := same_new n5
  refine ⟨⟨s1.ext.trans sm, s1.kp, fun b o e n => ?_, s1.sub, s1.dom⟩, ⟨fun b o e => ?_, r1.rs.move sm fun b hb => ⟨rfl, ?_⟩⟩, .lst upd_same (q.mono sm)⟩
  · rw [upd_ne (fun z => by rw [z, n2] at e; cases e)]
    exact s1.fr b o e n
  · rw [upd_eq] at e
    split at e
    · rename_i z; subst z; cases e; exact n3
    · exact r1.same b o e
  · obtain ⟨_, _, n⟩ := r1.rs.there b hb
    exact (upd_ne (fun (z : b = p) => n1 (by rw [← z]; exact hb))).trans n
theorem ge_call {c : CtP} (Gk : FnOk X.prog X.w X.K X.mg X.base (L2.CX X.prog X.w) k f fd ps (spP X.K c)) (hr : Room k X.A) (hm : X.mg x = some (.ref f)) (hk : PySem.W.keepIn X.K (.ref f) = true) (hb : Binds X.K fd ps []) (tk : Takes X W)
    (ha : GA X W (e :: es) mas) (hg : Gl X x := by rfl) (hdb : (x == ("__debug__" : Str)) = false := by decide) (he : starEach (e :: es) X.env = (false, eval e X.env) :: starEach es X.env := by rfl) (hpl : (backTo pos (starEach es X.env)).any (·.1) = false := by rfl) :
    GE X W (.Call (.Name x p) (e :: es) [] pos) (mCall c mas) := ⟨pe_imp (pe_callS (E := WE W) Gk hr hg hm hk hb (fun σ => passAt tk σ) ha.pa hdb he hpl) fun σ H Q h => by
  obtain ⟨F, A, ρ, P, PX, r, hm', hP, hX⟩ := h
  refine ⟨F, A, ρ, _, PX, r, hm', fun ds ρ' vs F' H' A' h1 s1 r1 q1 => ⟨F', ds, _, _, r1.same, q1, h1, fun rv v F2 H2 h2 s2 sm q2 => ?_, fun x F2 H2 cls dd h2 s2 sm q2 => ?_⟩, hX⟩
  · obtain ⟨s3, r3⟩ := r1.called s2 sm
    cases rv with
    | fz d => exact hP _ _ _ _ _ _ h2 (s1.trans s3) r3 q2
    | ow l =>
      cases l with
      | lst l =>
        obtain ⟨pp, o, rfl, n2, n3, n4, n5⟩ := q2
        cases n4 with
        | lst q =>
          have np : pp ∉ A' := fun z => by
            obtain ⟨o, e, _⟩ := r1.rs.there _ z
            rw [e] at n2; cases n2
          obtain ⟨s4, r4, q4⟩ := frzL (F1 := F) (H1 := H) (s1.trans s3) r3 np (s1.dom _ n2) n3 q n5
          exact hP _ _ _ _ _ _ h2 s4 r4 q4
      | _ => exact h2.elim
  · obtain ⟨s3, r3⟩ := r1.called s2 sm
    exact hX _ _ _ _ _ _ _ h2 (s1.trans s3) r3 q2⟩
theorem go_call {c : CtP} (Gk : FnOk X.prog X.w X.K X.mg X.base (L2.CX X.prog X.w) k f fd ps (spP X.K c)) (hr : Room k X.A) (hm : X.mg x = some (.ref f)) (hk : PySem.W.keepIn X.K (.ref f) = true) (hb : Binds X.K fd ps []) (tk : Takes X W)
    (ha : GA X W (e :: es) mas) (hg : Gl X x := by rfl) (hdb : (x == ("__debug__" : Str)) = false := by decide) (he : starEach (e :: es) X.env = (false, eval e X.env) :: starEach es X.env := by rfl) (hpl : (backTo pos (starEach es X.env)).any (·.1) = false := by rfl) :
    GO X W (.Call (.Name x p) (e :: es) [] pos) (mCallO c mas) := ⟨pe_imp (pe_callS (E := WE W) Gk hr hg hm hk hb (fun σ => passAt tk σ) ha.pa hdb he hpl) fun σ H Q h => by
  obtain ⟨F, A, ρ, P, PX, r, hm', hP, hX⟩ := h
  refine ⟨F, A, ρ, _, PX, r, hm', fun ds ρ' vs F' H' A' h1 s1 r1 q1 => ⟨F', ds, _, _, r1.same, q1, h1, fun rv v F2 H2 h2 s2 sm q2 => ?_, fun x F2 H2 cls dd h2 s2 sm q2 => ?_⟩, hX⟩
  · obtain ⟨s3, r3⟩ := r1.called s2 sm
    cases rv with
    | fz d => exact h2.elim
    | ow l =>
      obtain ⟨pp, o, rfl, n2, n3, n4, n5⟩ := q2
      have np : pp ∉ A' := fun z => by
        obtain ⟨o, e, _⟩ := r1.rs.there _ z
        rw [e] at n2; cases n2
      exact hP _ _ _ _ _ _ _ h2 (s1.trans s3) r3 np (s1.dom _ n2) n3 n4 n5
  · obtain ⟨s3, r3⟩ := r1.called s2 sm
    exact hX _ _ _ _ _ _ _ h2 (s1.trans s3) r3 q2⟩
/-- f(own, ..): the own object's content may change -/
def mCallM (c : CtM) (i : Nat) (m : MA) (ρ : List S) (P : D → List S → Prop) (PX : XP) : Prop := match ρ[i]? with
  | some (.ow _ _) => m ρ (fun ds ρ1 => match ρ1[i]? with
    | some (.ow t c0) => c c0 ds (fun rv c' => rvD (fun d => P d (ρ1.set i (.ow t c'))) rv) (fun x c' => PX x (ρ1.set i (.ow t c')))
    | _ => False) PX
  | _ => False
theorem R.calledM {K : PySem.W.Frag} {F H F' H' : Hp} {A : List Addr} {ρ : List S} {σ : L2.St} {i : Nat} {t : Option Addr} {c c' : C} {p : Addr} {o' : HO} (r : R K F A ρ σ H) (hi : ρ[i]? = some (.ow t c)) (hs : σ[i]? = some (some (V.ref p))) (hp : p ∈ A)
    (s : Stp F H [p] F' H' [p]) (sm : Same F' H') (e : H' p = some o') (q : RepC K F' o' c') (n : F' p = none) : Stp F H A F' H' A ∧ R K F' A (ρ.set i (.ow t c')) σ H' := by
  have nn : ∀ b, b ≠ p → b ∉ [p] := fun b h z => h (by simpa using z)
  refine ⟨⟨s.ext, fun b o h na => s.kp b o h (nn b fun z => na (z ▸ hp)), fun b o h na => s.fr b o h (nn b fun z => na (z ▸ hp)), fun _ h => .inl h, s.dom⟩, sm, ?_⟩
  have m1 : RS K F' H A ρ σ := r.rs.move s.ext fun b hb => ⟨rfl, by
    by_cases z : b = p
    · rw [z]; exact n
    · obtain ⟨o, e, n⟩ := r.rs.there b hb
      exact (s.fr b o e (nn b z)).trans n⟩
  have m2 := m1.upd q hi hs
  refine m2.move (Same.refl _) fun b hb => ⟨?_, (m2.there b hb).elim fun _ z => z.2⟩
  by_cases z : b = p
  · rw [z, upd_same]; exact e
  · obtain ⟨o, e, _⟩ := r.rs.there b hb
    rw [upd_ne z, e]
    exact s.kp b o e (nn b z)
theorem ge_callM {c : CtM} {i : Nat} {xv : Str} (Gk : FnOk X.prog X.w X.K X.mg X.base (L2.CX X.prog X.w) k f fd ps (spM X.K c)) (hr : Room k X.A) (hm : X.mg x = some (.ref f)) (hk : PySem.W.keepIn X.K (.ref f) = true) (hb : Binds X.K fd ps []) (tk : Takes X W)
    (ha : GA X W es mas) (hN : X.N[i]? = some xv := by rfl) (hv : Vis X.env.scope xv := by first | exact Or.inl rfl | exact Or.inr (Or.inl rfl) | exact Or.inr (Or.inr rfl)) (hd2 : (xv == ("__debug__" : Str)) = false := by decide)
    (hcd : (xv == ("__classdict__" : Str)) = false := by decide) (hg : Gl X x := by rfl) (hdb : (x == ("__debug__" : Str)) = false := by decide) (he : starEach (.Name xv p2 :: es) X.env = (false, eval (.Name xv p2) X.env) :: starEach es X.env := by rfl)
    (hpl : (backTo pos (starEach es X.env)).any (·.1) = false := by rfl) : GE X W (.Call (.Name x p) (.Name xv p2 :: es) [] pos) (mCallM c i mas) :=
  ⟨pe_imp (pe_callS (E := WE W) Gk hr hg hm hk hb (fun σ => passAt tk σ) (pa_cons (pe_var hN hv hd2 hcd) ha.pa he) hdb he hpl) fun σ H Q h => by
  obtain ⟨F, A, ρ, P, PX, r, hm', hP, hX⟩ := h
  unfold mCallM at hm'
  split at hm'
  · rename_i t0 c00 h0
    obtain ⟨p0, o0, e0, _⟩ := r.rs.getO h0
    refine ⟨_, e0, F, A, ρ, _, PX, r, hm', fun ds ρ' vs F' H' A' h1 s1 r1 q1 => ?_, hX⟩
    split at h1
    · rename_i t c0 h2
      obtain ⟨p', o', e1, h3, h4, h5, h6⟩ := slot_keeps r1 e0 h2
      cases e1
      refine ⟨F', p0, o', vs, c0, ds, _, _, rfl, r1.same, h6, h4, h5, q1, h1, fun rv c' v F2 H2 o2 k1 k2 k3 k4 k5 k6 k7 => ?_, fun x c' F2 H2 o2 cls dd k1 k2 k3 k4 k5 k6 k7 => ?_⟩
      · obtain ⟨s3, r3⟩ := r1.calledM h2 e0 h3 k2 k3 k4 k5 k6
        cases rv with
        | fz d => exact hP _ _ _ _ _ _ k1 (s1.trans s3) r3 k7
        | ow l =>
          cases l with
          | lst l =>
            obtain ⟨pp, o, rfl, n2, n3, n4, n5⟩ := k7
            cases n4 with
            | lst q =>
              have np : pp ∉ A' := fun z => by
                obtain ⟨o, e, _⟩ := r1.rs.there _ z
                rw [e] at n2; cases n2
              obtain ⟨s4, r4, q4⟩ := frzL (F1 := F) (H1 := H) (s1.trans s3) r3 np (s1.dom _ n2) n3 q n5
              exact hP _ _ _ _ _ _ k1 s4 r4 q4
          | _ => exact k1.elim
      · obtain ⟨s3, r3⟩ := r1.calledM h2 e0 h3 k2 k3 k4 k5 k6
        exact hX _ _ _ _ _ _ _ k1 (s1.trans s3) r3 k7
    · exact h1.elim
  · exact hm'.elim⟩
end

/-! ### a def keeps its promise -/
section
variable {P : Program} {w : World} {K : PySem.W.Frag} {mg : Str → Option Value} {base : Heap}
/-- what a def's body is walked under -/
structure Bd (P : Program) (w : World) (K : PySem.W.Frag) (mg : Str → Option Value) (base : Heap) (k : Nat) (N : List Str) (st : Stmt) (m : MS) : Prop where
  go : ∀ (qual : Str) (f : Addr) (cdv : Value) (A : Around) (outer : List Env) (s : Shared) (H : Hp) (E : XK), Room k (A.deeper (envOfC qual (defScope st) s.heap.objs.size f cdv)) →
    Takes (cxOf (L2.CX P w) P w K mg base N qual (defScope st) f cdv A outer s H E) (fun cls d _ H' => E cls d H') →
    PassesOwn (model P w) (cxOf (L2.CX P w) P w K mg base N qual (defScope st) f cdv A outer s H E).A (cxOf (L2.CX P w) P w K mg base N qual (defScope st) f cdv A outer s H E).env (cxOf (L2.CX P w) P w K mg base N qual (defScope st) f cdv A outer s H E).xe →
    GSs (cxOf (L2.CX P w) P w K mg base N qual (defScope st) f cdv A outer s H E) (fun cls d _ H' => E cls d H') (defBody st) m
theorem reps_rs {K : PySem.W.Frag} {F H : Hp} {n : Nat} : ∀ {vs : List V} {ds : List D}, Reps K F vs ds → RS K F H [] (ds.map S.fz ++ List.replicate n .un) (vs.map some ++ List.replicate n none)
  | [], _, .nil => by
    rw [List.map_nil, List.map_nil, List.nil_append, List.nil_append]
    induction n with
    | zero => exact .nil
    | succ n ih => exact .un ih
  | v :: vs, _, .cons r t => .fz r (reps_rs t)
theorem fn_P {x qual : Str} {st : Stmt} {f : Addr} {fd : FuncData} {N ps : List Str} {k : Nat} {c : CtP} {m : MS} (Fn : Fun K x qual st f fd) (Sc : FnScope N ps (defScope st)) (hl : ∀ ds P PX, c ds P PX → ds.length = ps.length) (B : Bd P w K mg base k N st m)
    (h : ∀ ds (P : Rv → Prop) (PX : Ex → Prop), c ds P PX → m ⟨fun _ => P (.fz .non), fun rv _ => P rv, fun _ => False, fun _ => False, fun x _ => PX x⟩ (ds.map S.fz ++ List.replicate (N.length - ds.length) .un)) :
    FnOk P w K mg base (L2.CX P w) (k + 1) f fd ps (spP K c) := by
  refine Fn.okX Sc (fun vs H Q E h => ?_) (fun cdv A outer s H vs Q E hr hsp => ?_)
  · obtain ⟨F, ds, P, PX, _, r, hc, _⟩ := h
    rw [r.length]
    exact hl _ _ _ hc
  · obtain ⟨F, ds, PP, PX, sm, r, hc, hQ, hE⟩ := hsp
    refine ⟨_, (B.go qual f cdv A outer s H E hr (takes_of rfl rfl rfl rfl) (passes_of rfl)).pss, F, [], _, _, ⟨sm, ?_⟩, h ds PP PX hc, ⟨fun ρ' σ' F' H' A' h1 s1 r1 => ?_, fun rv ρ' v σ' F' H' A' h1 s1 r1 q1 => ?_, fun _ _ _ _ _ z => z.elim, fun _ _ _ _ _ z => z.elim, fun x ρ' σ' F' H' A' cls dd h1 s1 r1 q1 => ?_⟩⟩
    · unfold L2.start
      rw [r.length]
      exact reps_rs r
    · exact hQ _ _ F' H' h1 ⟨s1.ext, s1.kp, s1.fr, (fun p z => absurd z List.not_mem_nil), s1.dom⟩ r1.same .non
    · refine hQ _ _ F' H' h1 ⟨s1.ext, s1.kp, s1.fr, (fun p z => absurd z List.not_mem_nil), s1.dom⟩ r1.same ?_
      cases rv with
      | fz d => exact q1
      | ow c =>
        obtain ⟨p, o, A1, rfl, h2, h3, h4, h5, h6, h7⟩ := q1
        refine ⟨p, o, rfl, ?_, h5, h6, h7⟩
        rcases h3.sub p h2 with z | z
        · cases z
        · exact z
    · exact hE x F' H' cls dd h1 ⟨s1.ext, s1.kp, s1.fr, (fun p z => absurd z List.not_mem_nil), s1.dom⟩ r1.same q1
theorem fn_M {x qual : Str} {st : Stmt} {f : Addr} {fd : FuncData} {N ps : List Str} {k : Nat} {c : CtM} {m : MS} (Fn : Fun K x qual st f fd) (Sc : FnScope N ps (defScope st)) (hl : ∀ c0 ds P PX, c c0 ds P PX → ds.length + 1 = ps.length) (B : Bd P w K mg base k N st m)
    (h : ∀ p c0 ds (P : Rv → C → Prop) (PX : Ex → C → Prop), c c0 ds P PX → m ⟨fun ρ => ∃ c', ρ[0]? = some (.ow (some p) c') ∧ P (.fz .non) c', fun rv ρ => ∃ c', ρ[0]? = some (.ow (some p) c') ∧ P rv c', fun _ => False, fun _ => False, fun x ρ => ∃ c', ρ[0]? = some (.ow (some p) c') ∧ PX x c'⟩
      (.ow (some p) c0 :: (ds.map S.fz ++ List.replicate (N.length - (ds.length + 1)) .un))) :
    FnOk P w K mg base (L2.CX P w) (k + 1) f fd ps (spM K c) := by
  refine Fn.okX Sc (fun vs H Q E h => ?_) (fun cdv A outer s H vs Q E hr hsp => ?_)
  · obtain ⟨F, p, o, vs', c0, ds, P, PX, rfl, _, _, _, _, r, hc, _⟩ := h
    rw [List.length_cons, r.length]
    exact hl _ _ _ _ hc
  · obtain ⟨F, p, o, vs', c0, ds, PP, PX, rfl, sm, hn, ho, rc, r, hc, hQ, hE⟩ := hsp
    have fin : ∀ {F' H' : Hp} {A' : List Addr} {ρ' : List S} {σ' : L2.St} {c' : C}, Stp F H [p] F' H' A' → R K F' A' ρ' σ' H' → ρ'[0]? = some (.ow (some p) c') → Stp F H [p] F' H' [p] ∧ p ∈ A' ∧ ∃ o', H' p = some o' ∧ RepC K F' o' c' ∧ F' p = none := fun {F' H' A' ρ' σ' c'} s1 r1 e => by
      obtain ⟨p', o', h1, h2, h3, h4, h5, h6⟩ := r1.rs.getO e
      have z := h6 p rfl
      subst z
      exact ⟨⟨s1.ext, s1.kp, s1.fr, fun b z => .inl z, s1.dom⟩, h2, o', h3, h4, h5⟩
    refine ⟨_, (B.go qual f cdv A outer s H E hr (takes_of rfl rfl rfl rfl) (passes_of rfl)).pss, F, [p], _, _, ⟨sm, ?_⟩, h p c0 ds PP PX hc, ⟨fun ρ' σ' F' H' A' h1 s1 r1 => ?_, fun rv ρ' v σ' F' H' A' h1 s1 r1 q1 => ?_, fun _ _ _ _ _ z => z.elim, fun _ _ _ _ _ z => z.elim, fun x ρ' σ' F' H' A' cls dd h1 s1 r1 q1 => ?_⟩⟩
    · unfold L2.start
      rw [List.length_cons, r.length]
      exact .ow ho rc hn (fun z => by cases z) (fun q z => (Option.some.inj z).symm) (reps_rs r)
    · obtain ⟨c', e1, h1⟩ := h1
      obtain ⟨s2, _, o', k1, k2, k3⟩ := fin s1 r1 e1
      exact hQ _ c' _ F' H' o' h1 s2 r1.same k1 k2 k3 .non
    · obtain ⟨c', e1, h1⟩ := h1
      obtain ⟨s2, hp, o', k1, k2, k3⟩ := fin s1 r1 e1
      refine hQ _ c' _ F' H' o' h1 s2 r1.same k1 k2 k3 ?_
      cases rv with
      | fz d => exact q1
      | ow c =>
        obtain ⟨p1, o1, A1, rfl, h2, h3, h4, h5, h6, h7⟩ := q1
        refine ⟨p1, o1, rfl, ?_, h5, h6, h7⟩
        rcases h3.sub p1 h2 with z | z
        · have : p1 = p := by simpa using z
          exact absurd (this ▸ hp) h4
        · exact z
    · obtain ⟨c', e1, h1⟩ := h1
      obtain ⟨s2, _, o', k1, k2, k3⟩ := fin s1 r1 e1
      exact hE x c' F' H' o' cls dd h1 s2 r1.same k1 k2 k3 q1
end
end G

/-! G: built-ins, methods, more statements -/
namespace G
open PySem PySem.Spec PyProof.Rows L2
section
variable {X : Cx} {W : WX} {e a b : Expr} {es : List Expr} {x : Str} {p p2 pos : Pos} {ma mb : ME} {mas : MA}
/-! ### built-ins -/
def CallD (K : PySem.W.Frag) (r : List V → Hp → VK → Prop) (f : List D → (D → Prop) → Prop) : Prop :=
  ∀ (F H : Hp) (vs : List V) (ds : List D) (P : D → Prop), Same F H → Reps K F vs ds → f ds P → ∀ Q : VK, (∀ z w F' H', P z → New F H F' H' → Rep K F' w z → Q w H') → r vs H Q
def mBf (f : List D → (D → Prop) → Prop) (m : MA) (ρ : List S) (P : D → List S → Prop) (PX : XP) : Prop := m ρ (fun ds ρ1 => f ds fun z => P z ρ1) PX
theorem lift_bf {r : List V → Hp → VK → Prop} {f : List D → (D → Prop) → Prop} (hf : CallD X.K r f) {σ : L2.St} {H : Hp} {Q : VK} (h : lift X.K W (mBf f mas) σ H Q) : tCB r (liftA X.K W mas) σ H Q := by
  obtain ⟨F, A, ρ, P, PX, r0, hm, hP, hX⟩ := h
  refine ⟨F, A, ρ, _, PX, r0, hm, fun ds ρ1 vs F1 H1 A1 h1 s1 r1 q1 => ?_, hX⟩
  exact hf F1 H1 vs ds _ r1.same q1 h1 Q fun z w F3 H3 hz n w' => hP z ρ1 w F3 H3 A1 hz (s1.trans n.stp) (r1.new n) w'
theorem ge_bf {id : String} {r : List V → Hp → VK → Prop} {f : List D → (D → Prop) → Prop} (hc : CallR X (.builtin id) r) (hf : CallD X.K r f) (hm : X.mg x = none) (ha : GA X W (e :: es) mas) (hv : bootBuiltins x = some (.builtin id) := by decide +kernel) (hg : Gl X x := by rfl) (hn : x ≠ "__name__" := by decide) (hdb : (x == ("__debug__" : Str)) = false := by decide)
    (he : starEach (e :: es) X.env = (false, eval e X.env) :: starEach es X.env := by rfl) (hpl : (backTo pos (starEach es X.env)).any (·.1) = false := by rfl) : GE X W (.Call (.Name x p) (e :: es) [] pos) (mBf f mas) :=
  ⟨pe_imp (pe_callB hc hg hm hv ha.pa hn hdb he hpl) fun _ _ _ h => lift_bf hf h⟩
theorem ge_bt {T : String} {r : List V → Hp → VK → Prop} {f : List D → (D → Prop) → Prop} (hc : CallR X (.type T) r) (hf : CallD X.K r f) (hm : X.mg x = none) (ha : GA X W (e :: es) mas) (hv : bootBuiltins x = some (.type T) := by decide +kernel) (hg : Gl X x := by rfl) (hn : x ≠ "__name__" := by decide) (hdb : (x == ("__debug__" : Str)) = false := by decide)
    (he : starEach (e :: es) X.env = (false, eval e X.env) :: starEach es X.env := by rfl) (hpl : (backTo pos (starEach es X.env)).any (·.1) = false := by rfl) : GE X W (.Call (.Name x p) (e :: es) [] pos) (mBf f mas) :=
  ⟨pe_imp (pe_callTy hc hg hm hv ha.pa hn hdb he hpl) fun _ _ _ h => lift_bf hf h⟩
def fLen : List D → (D → Prop) → Prop
  | [.str z], P => z.length ≤ sizeLine ∧ P (.int z.length)
  | [.lst ds], P => P (.int ds.length)
  | [.tup ds], P => P (.int ds.length)
  | [.scr ns], P => P (.int ns.length)
  | _, _ => False
theorem cd_len {K : PySem.W.Frag} : CallD K (fun xs H Q => ∃ x n, xs = [x] ∧ LenV K x H n ∧ Q (.int n) H) fLen := by
  intro F H vs ds P s r h Q q
  unfold fLen at h
  split at h
  · cases r with
    | cons r t =>
      cases t
      rw [r.str_inv]
      exact ⟨_, _, rfl, ⟨h.1, rfl⟩, q _ _ F H h.2 (New.refl s) (.int _)⟩
  · cases r with
    | cons r t =>
      cases t
      obtain ⟨a, vs, rfl, e, r2⟩ := r.lst_inv
      exact ⟨_, _, rfl, .inl ⟨vs, .of (s _ _ e), rfl⟩, by rw [r2.length]; exact q _ _ F H h (New.refl s) (.int _)⟩
  · cases r with
    | cons r t =>
      cases t
      obtain ⟨a, vs, rfl, e, r2⟩ := r.tup_inv
      exact ⟨_, _, rfl, .inr ⟨vs, .of (s _ _ e), rfl⟩, by rw [r2.length]; exact q _ _ F H h (New.refl s) (.int _)⟩
  · cases r with
    | cons r t =>
      cases t
      obtain ⟨a, rfl, e⟩ := r.scr_inv
      exact ⟨_, _, rfl, .inl ⟨_, s.seq e, rfl⟩, by rw [List.length_map]; exact q _ _ F H h (New.refl s) (.int _)⟩
  · exact h.elim
/-- a one-value built-in -/
theorem cd_1 {K : PySem.W.Frag} {r : List V → Hp → VK → Prop} {f : D → (D → Prop) → Prop} (h : ∀ F H v d P, Same F H → Rep K F v d → f d P → ∀ Q : VK, (∀ z w F' H', P z → New F H F' H' → Rep K F' w z → Q w H') → r [v] H Q) :
    CallD K r (fun ds P => match ds with | [d] => f d P | _ => False) := by
  intro F H vs ds P s r' hh Q q
  split at hh
  · cases r' with
    | cons r' t =>
      cases t
      exact h F H _ _ P s r' hh Q q
  · exact hh.elim
def fAbs : List D → (D → Prop) → Prop := fun ds P => match ds with
  | [.int i] => P (.int (if i < 0 then -i else i))
  | _ => False
theorem cd_abs {K : PySem.W.Frag} : CallD K (fun xs H Q => ∃ i, xs = [.int i] ∧ Q (.int (if i < 0 then -i else i)) H) fAbs := by
  intro F H vs ds P s r h Q q
  unfold fAbs at h
  split at h
  · cases r with
    | cons r t =>
      cases t
      rw [r.int_inv]
      exact ⟨_, rfl, q _ _ F H h (New.refl s) (.int _)⟩
  · exact h.elim
/-- int(..) of an int, a truth, a text -/
def fInt : List D → (D → Prop) → Prop := fun ds P => match ds with
  | [.int i] => P (.int i)
  | [.bl k] => P (.int (if k then 1 else 0))
  | [.str z] => z.length ≤ 640 ∧ ∃ n, PySem.intText? z = some n ∧ P (.int n)
  | _ => False
theorem cd_int {K : PySem.W.Frag} : CallD K (fun xs H Q => ((∃ i, xs = [.int i] ∧ Q (.int i) H) ∨ ∃ k, xs = [.bl k] ∧ Q (.int (if k then 1 else 0)) H) ∨ (∃ a n, xs = [.str a] ∧ PySem.intText? a = some n ∧ a.length ≤ 640 ∧ Q (.int n) H)) fInt := by
  intro F H vs ds P s r h Q q
  unfold fInt at h
  split at h
  · cases r with
    | cons r t =>
      cases t
      rw [r.int_inv]
      exact .inl (.inl ⟨_, rfl, q _ _ F H h (New.refl s) (.int _)⟩)
  · cases r with
    | cons r t =>
      cases t
      rw [r.bl_inv]
      exact .inl (.inr ⟨_, rfl, q _ _ F H h (New.refl s) (.int _)⟩)
  · cases r with
    | cons r t =>
      cases t
      rw [r.str_inv]
      obtain ⟨hz, n, h1, h2⟩ := h
      exact .inr ⟨_, n, rfl, h1, hz, q _ _ F H h2 (New.refl s) (.int _)⟩
  · exact h.elim
theorem call_intA : CallR X (.type "int") (fun xs H Q => ((∃ i, xs = [.int i] ∧ Q (.int i) H) ∨ ∃ k, xs = [.bl k] ∧ Q (.int (if k then 1 else 0)) H) ∨ (∃ a n, xs = [.str a] ∧ PySem.intText? a = some n ∧ a.length ≤ 640 ∧ Q (.int n) H)) :=
  call_int1.or call_int_str
/-- str(n), repr(n) -/
def fStr : List D → (D → Prop) → Prop := fun ds P => match ds with
  | [.int i] => i.natAbs.log2 < 1920 ∧ P (.str (toString i))
  | _ => False
theorem cd_str {K : PySem.W.Frag} : CallD K (fun xs H Q => ∃ i, xs = [.int i] ∧ i.natAbs.log2 < 1920 ∧ Q (.str (toString i)) H) fStr := by
  intro F H vs ds P s r h Q q
  unfold fStr at h
  split at h
  · cases r with
    | cons r t =>
      cases t
      rw [r.int_inv]
      exact ⟨_, rfl, h.1, q _ _ F H h.2 (New.refl s) (.str _)⟩
  · exact h.elim
/-- the ints of a list -/
def intsOf : List D → Option (List Int)
  | [] => some []
  | .int i :: r => (intsOf r).map (i :: ·)
  | _ => none
theorem Reps.intsOf {K : PySem.W.Frag} {F : Hp} : ∀ {ds : List D} {vs : List V} {ns : List Int}, Reps K F vs ds → intsOf ds = some ns → vs = ns.map V.int
  | [], _, ns, h, e => by
    cases h
    cases Option.some.inj e
    rfl
  | d :: ds, _, ns, h, e => by
    cases h with
    | cons r t =>
      cases d with
      | int i =>
        obtain ⟨m, e1, e2⟩ := Option.map_eq_some_iff.mp (show (G.intsOf ds).map (i :: ·) = some ns from e)
        rw [← e2, r.int_inv, Reps.intsOf t e1]
        rfl
      | _ => exact nomatch e
theorem intsOf_map (ns : List Int) : intsOf (ns.map D.int) = some ns := by
  induction ns with
  | nil => rfl
  | cons n ns ih => show (intsOf (ns.map D.int)).map (n :: ·) = _; rw [ih]; rfl
def strsOf : List D → Option (List Str)
  | [] => some []
  | .str i :: r => (strsOf r).map (i :: ·)
  | _ => none
theorem Reps.strsOf {K : PySem.W.Frag} {F : Hp} : ∀ {ds : List D} {vs : List V} {ns : List Str}, Reps K F vs ds → strsOf ds = some ns → vs = ns.map V.str
  | [], _, ns, h, e => by
    cases h
    cases Option.some.inj e
    rfl
  | d :: ds, _, ns, h, e => by
    cases h with
    | cons r t =>
      cases d with
      | str i =>
        obtain ⟨m, e1, e2⟩ := Option.map_eq_some_iff.mp (show (G.strsOf ds).map (i :: ·) = some ns from e)
        rw [← e2, r.str_inv, Reps.strsOf t e1]
        rfl
      | _ => exact nomatch e
theorem strsOf_map (ns : List Str) : strsOf (ns.map D.str) = some ns := by
  induction ns with
  | nil => rfl
  | cons n ns ih => show (strsOf (ns.map D.str)).map (n :: ·) = _; rw [ih]; rfl
def blsOf : List D → Option (List Bool)
  | [] => some []
  | .bl i :: r => (blsOf r).map (i :: ·)
  | _ => none
theorem Reps.blsOf {K : PySem.W.Frag} {F : Hp} : ∀ {ds : List D} {vs : List V} {ns : List Bool}, Reps K F vs ds → blsOf ds = some ns → vs = ns.map V.bl
  | [], _, ns, h, e => by
    cases h
    cases Option.some.inj e
    rfl
  | d :: ds, _, ns, h, e => by
    cases h with
    | cons r t =>
      cases d with
      | bl i =>
        obtain ⟨m, e1, e2⟩ := Option.map_eq_some_iff.mp (show (G.blsOf ds).map (i :: ·) = some ns from e)
        rw [← e2, r.bl_inv, Reps.blsOf t e1]
        rfl
      | _ => exact nomatch e
theorem blsOf_map (ns : List Bool) : blsOf (ns.map D.bl) = some ns := by
  induction ns with
  | nil => rfl
  | cons n ns ih => show (blsOf (ns.map D.bl)).map (n :: ·) = _; rw [ih]; rfl
def fSum : List D → (D → Prop) → Prop := fun ds P => match ds with
  | [.lst ds] => ∃ ns, intsOf ds = some ns ∧ P (.int ns.sum)
  | _ => False
theorem cd_sum {K : PySem.W.Frag} : CallD K (rSum K) fSum := by
  intro F H vs ds P s r h Q q
  unfold fSum at h
  split at h
  · cases r with
    | cons r t =>
      cases t
      obtain ⟨ns, h1, h2⟩ := h
      obtain ⟨a, vs, rfl, e, r2⟩ := r.lst_inv
      have := r2.intsOf h1
      subst this
      exact ⟨a, ns, rfl, .of (s _ _ e), q _ _ F H h2 (New.refl s) (.int _)⟩
  · exact h.elim
def fAny : List D → (D → Prop) → Prop := fun ds P => match ds with
  | [.lst ds] => ∃ ns, blsOf ds = some ns ∧ P (.bl (ns.any id))
  | _ => False
theorem cd_any {K : PySem.W.Frag} : CallD K (rAny K) fAny := by
  intro F H vs ds P s r h Q q
  unfold fAny at h
  split at h
  · cases r with
    | cons r t =>
      cases t
      obtain ⟨ns, h1, h2⟩ := h
      obtain ⟨a, vs, rfl, e, r2⟩ := r.lst_inv
      have := r2.blsOf h1
      subst this
      exact ⟨a, ns, rfl, .of (s _ _ e), q _ _ F H h2 (New.refl s) (.bl _)⟩
  · exact h.elim
def fAll : List D → (D → Prop) → Prop := fun ds P => match ds with
  | [.lst ds] => ∃ ns, blsOf ds = some ns ∧ P (.bl (ns.all id))
  | _ => False
theorem cd_all {K : PySem.W.Frag} : CallD K (rAll K) fAll := by
  intro F H vs ds P s r h Q q
  unfold fAll at h
  split at h
  · cases r with
    | cons r t =>
      cases t
      obtain ⟨ns, h1, h2⟩ := h
      obtain ⟨a, vs, rfl, e, r2⟩ := r.lst_inv
      have := r2.blsOf h1
      subst this
      exact ⟨a, ns, rfl, .of (s _ _ e), q _ _ F H h2 (New.refl s) (.bl _)⟩
  · exact h.elim
/-- max, min of a list of ints, of two ints -/
def fMax : List D → (D → Prop) → Prop := fun ds P => match ds with
  | [.lst ds] => ∃ ns, intsOf ds = some ns ∧ 0 < ns.length ∧ ∀ m, m ∈ ns → (∀ y, y ∈ ns → y ≤ m) → P (.int m)
  | [.int i, .int j] => P (.int (if j > i then j else i))
  | _ => False
def fMin : List D → (D → Prop) → Prop := fun ds P => match ds with
  | [.lst ds] => ∃ ns, intsOf ds = some ns ∧ 0 < ns.length ∧ ∀ m, m ∈ ns → (∀ y, y ∈ ns → m ≤ y) → P (.int m)
  | [.int i, .int j] => P (.int (if j < i then j else i))
  | _ => False
theorem cr_maxA (hc : X.calm = true) : CallR X (.builtin "max") (fun xs H Q => rMax X.K xs H Q ∨ ∃ i j, xs = [.int i, .int j] ∧ Q (.int (if j > i then j else i)) H) := (cr_max hc).or (call_max2 hc)
theorem cr_minA (hc : X.calm = true) : CallR X (.builtin "min") (fun xs H Q => rMin X.K xs H Q ∨ ∃ i j, xs = [.int i, .int j] ∧ Q (.int (if j < i then j else i)) H) := (cr_min hc).or (call_min2 hc)
theorem cd_max {K : PySem.W.Frag} : CallD K (fun xs H Q => rMax K xs H Q ∨ ∃ i j, xs = [.int i, .int j] ∧ Q (.int (if j > i then j else i)) H) fMax := by
  intro F H vs ds P s r h Q q
  unfold fMax at h
  split at h
  · cases r with
    | cons r t =>
      cases t
      obtain ⟨ns, h1, h0, h2⟩ := h
      obtain ⟨a, vs, rfl, e, r2⟩ := r.lst_inv
      have := r2.intsOf h1
      subst this
      exact .inl ⟨a, ns, rfl, .of (s _ _ e), h0, fun m hm hl => q _ _ F H (h2 m hm hl) (New.refl s) (.int _)⟩
  · cases r with
    | cons r t =>
      cases t with
      | cons r' t =>
        cases t
        rw [r.int_inv, r'.int_inv]
        exact .inr ⟨_, _, rfl, q _ _ F H h (New.refl s) (.int _)⟩
  · exact h.elim
theorem cd_min {K : PySem.W.Frag} : CallD K (fun xs H Q => rMin K xs H Q ∨ ∃ i j, xs = [.int i, .int j] ∧ Q (.int (if j < i then j else i)) H) fMin := by
  intro F H vs ds P s r h Q q
  unfold fMin at h
  split at h
  · cases r with
    | cons r t =>
      cases t
      obtain ⟨ns, h1, h0, h2⟩ := h
      obtain ⟨a, vs, rfl, e, r2⟩ := r.lst_inv
      have := r2.intsOf h1
      subst this
      exact .inl ⟨a, ns, rfl, .of (s _ _ e), h0, fun m hm hl => q _ _ F H (h2 m hm hl) (New.refl s) (.int _)⟩
  · cases r with
    | cons r t =>
      cases t with
      | cons r' t =>
        cases t
        rw [r.int_inv, r'.int_inv]
        exact .inr ⟨_, _, rfl, q _ _ F H h (New.refl s) (.int _)⟩
  · exact h.elim
/-- tuple(a list), list(a list, a tuple) -/
def fTup : List D → (D → Prop) → Prop := fun ds P => match ds with
  | [.lst ds] => P (.tup ds)
  | [.tup ds] => P (.tup ds)
  | _ => False
theorem cd_tup {K : PySem.W.Frag} : CallD K (fun xs H Q => ∃ p ys, xs = [.ref p] ∧ ((SqL K H p ys ∧ ∀ l, H l = none → Q (.ref l) (upd H l (.tup ys))) ∨ (SqT K H p ys ∧ Q (.ref p) H))) fTup := by
  intro F H vs ds P s r h Q q
  unfold fTup at h
  split at h
  · cases r with
    | cons r t =>
      cases t
      obtain ⟨a, vs, rfl, e, r2⟩ := r.lst_inv
      refine ⟨a, vs, rfl, .inl ⟨.of (s _ _ e), fun l hl => ?_⟩⟩
      have n := New.mk1 (.tup vs) s hl
      exact q _ _ _ _ h n (.tup upd_same (r2.mono n.ext))
  · cases r with
    | cons r t =>
      cases t
      obtain ⟨a, vs, rfl, e, r2⟩ := r.tup_inv
      exact ⟨a, vs, rfl, .inr ⟨.of (s _ _ e), q _ _ F H h (New.refl s) (.tup e r2)⟩⟩
  · exact h.elim
def mLi (m : MA) (ρ : List S) (P : C → List S → Prop) (PX : XP) : Prop := m ρ (fun ds ρ1 => match ds with
  | [.lst ds] => P (.lst ds) ρ1
  | [.tup ds] => P (.lst ds) ρ1
  | _ => False) PX
theorem go_list (hm : X.mg x = none) (ha : GA X W (e :: es) mas) (hv : bootBuiltins x = some (.type "list") := by decide +kernel) (hg : Gl X x := by rfl) (hn : x ≠ "__name__" := by decide) (hdb : (x == ("__debug__" : Str)) = false := by decide)
    (he : starEach (e :: es) X.env = (false, eval e X.env) :: starEach es X.env := by rfl) (hpl : (backTo pos (starEach es X.env)).any (·.1) = false := by rfl) : GO X W (.Call (.Name x p) (e :: es) [] pos) (mLi mas) :=
  ⟨pe_imp (pe_callTy call_list_of hg hm hv ha.pa hn hdb he hpl) fun σ H Q h => by
  obtain ⟨F, A, ρ, P, PX, r0, hm, hP, hX⟩ := h
  refine ⟨F, A, ρ, _, PX, r0, hm, fun ds ρ1 vs F1 H1 A1 h1 s1 r1 q1 => ?_, hX⟩
  split at h1
  · cases q1 with
    | cons r t =>
      cases t
      obtain ⟨a, vs, rfl, e, r2⟩ := r.lst_inv
      refine ⟨a, vs, rfl, .inl (.of (r1.same _ _ e)), fun l hl => ?_⟩
      obtain ⟨s2, r2', n1, n2, n3⟩ := own_new (.lst vs) s1 r1 hl
      exact hP _ ρ1 l _ _ _ A1 h1 s2 r2' n1 n3 upd_same (.lst r2) n2
  · cases q1 with
    | cons r t =>
      cases t
      obtain ⟨a, vs, rfl, e, r2⟩ := r.tup_inv
      refine ⟨a, vs, rfl, .inr (.of (r1.same _ _ e)), fun l hl => ?_⟩
      obtain ⟨s2, r2', n1, n2, n3⟩ := own_new (.lst vs) s1 r1 hl
      exact hP _ ρ1 l _ _ _ A1 h1 s2 r2' n1 n3 upd_same (.lst r2) n2
  · exact h1.elim⟩
/-- len(own) -/
def mLenV (i : Nat) (ρ : List S) (P : D → List S → Prop) (PX : XP) : Prop := match ρ[i]? with
  | some (.ow _ (.lst ds)) => P (.int ds.length) ρ
  | _ => False
theorem ge_lenv {i : Nat} {xv : Str} (hm : X.mg x = none) (hv : bootBuiltins x = some (.builtin "len") := by decide +kernel) (hg : Gl X x := by rfl) (hn : x ≠ "__name__" := by decide) (hdb : (x == ("__debug__" : Str)) = false := by decide)
    (hN : X.N[i]? = some xv := by rfl) (hvv : Vis X.env.scope xv := by first | exact Or.inl rfl | exact Or.inr (Or.inl rfl) | exact Or.inr (Or.inr rfl)) (hd2 : (xv == ("__debug__" : Str)) = false := by decide)
    (hcd : (xv == ("__classdict__" : Str)) = false := by decide) (he : starEach [.Name xv p2] X.env = (false, eval (.Name xv p2) X.env) :: starEach [] X.env := by rfl) (hpl : (backTo pos (starEach [] X.env)).any (·.1) = false := by rfl) :
    GE X W (.Call (.Name x p) [.Name xv p2] [] pos) (mLenV i) :=
  ⟨pe_imp (pe_callB call_len hg hm hv (pa_cons (pe_var hN hvv hd2 hcd) pa_nil he) hn hdb he hpl) fun σ H Q h => by
  obtain ⟨F, A, ρ, P, PX, r0, hm, hP, hX⟩ := h
  unfold mLenV at hm
  split at hm
  · rename_i t ds h
    obtain ⟨p, o, h1, h2, h3, h4, h5, _⟩ := r0.rs.getO h
    cases h4 with
    | lst q =>
      exact ⟨_, h1, _, _, rfl, .inl ⟨_, .of h3, rfl⟩, by rw [q.length]; exact hP _ _ _ _ _ _ hm Stp.refl r0 (.int _)⟩
  · exact hm.elim⟩

/-! ### methods that change an own object -/
def MutD (K : PySem.W.Frag) (r : V → List V → Hp → VK → Prop) (f : C → List D → (D → C → Prop) → Prop) : Prop :=
  ∀ (F H : Hp) (p : Addr) (o : HO) (c0 : C) (vs : List V) (ds : List D) (P : D → C → Prop), Same F H → H p = some o → RepC K F o c0 → F p = none → Reps K F vs ds → f c0 ds P →
    ∀ Q : VK, (∀ d c' v o', P d c' → RepC K F o' c' → Rep K F v d → Q v (upd H p o')) → r (.ref p) vs H Q
def mMut (f : C → List D → (D → C → Prop) → Prop) (i : Nat) (m : MA) (ρ : List S) (P : D → List S → Prop) (PX : XP) : Prop := match ρ[i]? with
  | some (.ow _ _) => m ρ (fun ds ρ1 => match ρ1[i]? with
    | some (.ow t c0) => f c0 ds fun d c' => P d (ρ1.set i (.ow t c'))
    | _ => False) PX
  | _ => False
theorem R.mut {K : PySem.W.Frag} {F H : Hp} {A : List Addr} {ρ : List S} {σ : L2.St} {i : Nat} {t : Option Addr} {c c' : C} {p : Addr} {o' : HO} (r : R K F A ρ σ H) (hi : ρ[i]? = some (.ow t c)) (hs : σ[i]? = some (some (V.ref p))) (hp : p ∈ A) (hn : F p = none)
    (q : RepC K F o' c') : Stp F H A F (upd H p o') A ∧ R K F A (ρ.set i (.ow t c')) σ (upd H p o') := by
  refine ⟨⟨Same.refl F, fun b o e n => (upd_ne fun z => n (by rw [z]; exact hp)).trans e, fun _ _ _ _ => rfl, fun _ h => .inl h, fun b e => ?_⟩, fun b o e => ?_, r.rs.upd q hi hs⟩
  · by_cases z : b = p
    · rw [z, upd_same] at e; cases e
    · rw [upd_ne z] at e; exact e
  · rw [upd_ne fun z => by rw [z, hn] at e; cases e]
    exact r.same b o e
theorem tyL {K : PySem.W.Frag} {H : Hp} {p : Addr} {vs : List V} (h : H p = some (.lst vs)) : tyV K "list" (.ref p) H := .inl ⟨rfl, _, .inl (.inl h)⟩
/-- own.m(e, ..), a list's method -/
theorem ge_mut {id : String} {name xv : Str} {i : Nat} {r : V → List V → Hp → VK → Prop} {f : C → List D → (D → C → Prop) → Prop} {apos : Pos} (slot : Slot "list" name id) (hty : typeOf (.builtin id) = pure (.type "method_descriptor")) (hmt : MtR X id r) (hf : MutD X.K r f) (ha : GA X W (e :: es) mas) (hN : X.N[i]? = some xv := by rfl) (hvv : Vis X.env.scope xv := by first | exact Or.inl rfl | exact Or.inr (Or.inl rfl) | exact Or.inr (Or.inr rfl)) (hd2 : (xv == ("__debug__" : Str)) = false := by decide)
    (hcd : (xv == ("__classdict__" : Str)) = false := by decide) (hbase : attributeBase (.Name xv p2) name X.env (eval (.Name xv p2) X.env) = eval (.Name xv p2) X.env := by rfl)
    (hfew : ((backTo pos (starEach (e :: es) X.env)).all (fun x => !x.1) && (backToKw pos (keywordEach [] X.env)).all (fun x => x.1.isSome)
      && decide ((e :: es).length + ([] : List Keyword).length + (if ([] : List Keyword).isEmpty then 0 else 1) < 30)) = true := by rfl)
    (hline : (apos.endLine == pos.line) = true := by rfl) (hs : starEach (e :: es) X.env = (false, eval e X.env) :: starEach es X.env := by rfl) (hplain : (backTo pos (starEach es X.env)).any (·.1) = false := by rfl) :
    GE X W (.Call (.Attribute (.Name xv p2) name apos) (e :: es) [] pos) (fun ρ P PX => match ρ[i]? with | some (.ow _ (.lst _)) => mMut f i mas ρ P PX | _ => False) :=
  ⟨pe_imp (pe_bm PySem.F.plainAttrs_list slot hty hmt (pe_var hN hvv hd2 hcd) ha.pa hbase hfew hline hs hplain) fun σ H Q h => by
  obtain ⟨F, A, ρ, P, PX, r0, hm, hP, hX⟩ := h
  split at hm
  · rename_i t0 l0 h0
    obtain ⟨p, o, h1, h2, h3, h4, h5, _⟩ := r0.rs.getO h0
    unfold mMut at hm
    rw [h0] at hm
    cases h4 with
    | lst q0 =>
      refine ⟨_, h1, tyL h3, F, A, ρ, _, PX, r0, hm, fun ds ρ1 vs F1 H1 A1 k1 s1 r1 q1 => ?_, hX⟩
      split at k1
      · rename_i t c0 e1
        obtain ⟨p', o', e2, m1, m2, m3, m4⟩ := slot_keeps r1 h1 e1
        cases e2
        refine hf F1 H1 p o' c0 vs ds _ r1.same m2 m3 m4 q1 k1 Q fun d c' v o2 hz rc rd => ?_
        obtain ⟨s2, r2⟩ := r1.mut e1 h1 m1 m4 rc
        exact hP _ _ _ _ _ _ hz (s1.trans s2) r2 rd
      · exact k1.elim
  · exact hm.elim⟩
/-- own.m() -/
theorem ge_mut0 {id : String} {name xv : Str} {i : Nat} {r : V → List V → Hp → VK → Prop} {f : C → List D → (D → C → Prop) → Prop} {apos : Pos} (slot : Slot "list" name id) (hty : typeOf (.builtin id) = pure (.type "method_descriptor")) (hmt : MtR X id r) (hf : MutD X.K r f)
    (hN : X.N[i]? = some xv := by rfl) (hvv : Vis X.env.scope xv := by first | exact Or.inl rfl | exact Or.inr (Or.inl rfl) | exact Or.inr (Or.inr rfl)) (hd2 : (xv == ("__debug__" : Str)) = false := by decide)
    (hcd : (xv == ("__classdict__" : Str)) = false := by decide) (hbase : attributeBase (.Name xv p2) name X.env (eval (.Name xv p2) X.env) = eval (.Name xv p2) X.env := by rfl)
    (hline : (apos.endLine == pos.line) = true := by rfl) :
    GE X W (.Call (.Attribute (.Name xv p2) name apos) [] [] pos) (fun ρ P PX => match ρ[i]? with | some (.ow _ (.lst _)) => mMut f i mNil ρ P PX | _ => False) :=
  ⟨pe_imp (pe_bm0 PySem.F.plainAttrs_list slot hty hmt (pe_var hN hvv hd2 hcd) hbase hline) fun σ H Q h => by
  obtain ⟨F, A, ρ, P, PX, r0, hm, hP, hX⟩ := h
  split at hm
  · rename_i t0 l0 h0
    obtain ⟨p, o, h1, h2, h3, h4, h5, _⟩ := r0.rs.getO h0
    unfold mMut mNil at hm
    rw [h0] at hm
    cases h4 with
    | lst q0 =>
      refine ⟨_, h1, tyL h3, ?_⟩
      simp only [h0] at hm
      refine hf F H p _ _ [] [] _ r0.same h3 (.lst q0) h5 .nil hm Q fun d c' v o2 hz rc rd => ?_
      obtain ⟨s2, r2⟩ := r0.mut h0 h1 h2 h5 rc
      exact hP _ _ _ _ _ _ hz s2 r2 rd
  · exact hm.elim⟩
def fApp : C → List D → (D → C → Prop) → Prop := fun c ds P => match c, ds with
  | .lst l, [d] => l.length < sizeLine ∧ P .non (.lst (l ++ [d]))
  | _, _ => False
theorem md_app {K : PySem.W.Frag} : MutD K rAppend fApp := by
  intro F H p o c0 vs ds P s ho rc hn r h Q q
  unfold fApp at h
  split at h
  · cases rc with
    | lst rc =>
      cases r with
      | cons r t =>
        cases t
        exact ⟨p, _, _, rfl, rfl, ho, by rw [rc.length]; exact h.1, q _ _ _ _ h.2 (.lst (rc.append (.cons r .nil))) .non⟩
  · exact h.elim
def fIns : C → List D → (D → C → Prop) → Prop := fun c ds P => match c, ds with
  | .lst l, [.int i, d] => l.length < sizeLine ∧ 0 ≤ i ∧ i ≤ l.length ∧ P .non (.lst (l.take i.toNat ++ d :: l.drop i.toNat))
  | _, _ => False
def fPopAt : C → List D → (D → C → Prop) → Prop := fun c ds P => match c, ds with
  | .lst l, [.int i] => 0 ≤ i ∧ i < 2 ^ 63 ∧ ∃ d, l[i.toNat]? = some d ∧ P d (.lst (l.eraseIdx i.toNat))
  | _, _ => False
theorem md_popAt {K : PySem.W.Frag} : MutD K rPopAt fPopAt := by
  intro F H p o c0 vs ds P s ho rc hn r h Q q
  unfold fPopAt at h
  split at h
  · cases rc with
    | lst rc =>
      cases r with
      | cons r t =>
        cases t
        obtain ⟨h0, h1, d, h2, h3⟩ := h
        obtain ⟨v, h4, h5⟩ := rc.get _ h2
        rw [r.int_inv]
        have hlt := (List.getElem?_eq_some_iff.mp h4).1
        have e63 : (2 : Int) ^ 63 = 9223372036854775808 := by decide
        exact ⟨p, _, _, _, v, rfl, rfl, ho, by omega, h1, seqIndex_of h0 (by omega), h4, q _ _ _ _ h3 (.lst (rc.eraseIdx _)) h5⟩
  · exact h.elim
def fPop : C → List D → (D → C → Prop) → Prop := fun c ds P => match c, ds with
  | .lst l, [] => ∃ d, l[l.length - 1]? = some d ∧ P d (.lst l.dropLast)
  | _, _ => False
theorem Reps.dropLast {K : PySem.W.Frag} {F : Hp} {vs : List V} {ds : List D} (a : Reps K F vs ds) : Reps K F vs.dropLast ds.dropLast := by
  rw [List.dropLast_eq_take, List.dropLast_eq_take, a.length]
  exact a.take _
theorem md_pop {K : PySem.W.Frag} : MutD K rPop fPop := by
  intro F H p o c0 vs ds P s ho rc hn r h Q q
  unfold fPop at h
  split at h
  · cases rc with
    | lst rc =>
      cases r
      obtain ⟨d, h2, h3⟩ := h
      obtain ⟨v, h4, h5⟩ := rc.get _ h2
      exact ⟨p, _, v, rfl, rfl, ho, by rw [rc.length]; exact h4, q _ _ _ _ h3 (.lst rc.dropLast) h5⟩
  · exact h.elim
def fRev : C → List D → (D → C → Prop) → Prop := fun c ds P => match c, ds with
  | .lst l, [] => P .non (.lst l.reverse)
  | _, _ => False
theorem md_rev {K : PySem.W.Frag} : MutD K rReverse fRev := by
  intro F H p o c0 vs ds P s ho rc hn r h Q q
  unfold fRev at h
  split at h
  · cases rc with
    | lst rc =>
      cases r
      exact ⟨p, _, rfl, rfl, ho, q _ _ _ _ h (.lst rc.rev) .non⟩
  · exact h.elim
def fExt : C → List D → (D → C → Prop) → Prop := fun c ds P => match c, ds with
  | .lst l, [.lst z] => l.length + z.length ≤ sizeLine ∧ P .non (.lst (l ++ z))
  | _, _ => False
theorem md_ext {K : PySem.W.Frag} : MutD K rExtend fExt := by
  intro F H p o c0 vs ds P s ho rc hn r h Q q
  unfold fExt at h
  split at h
  · cases rc with
    | lst rc =>
      cases r with
      | cons r t =>
        cases t
        obtain ⟨a, us, rfl, e, r2⟩ := r.lst_inv
        exact ⟨p, a, _, us, rfl, rfl, ho, s _ _ e, by rw [rc.length, r2.length]; exact h.1, q _ _ _ _ h.2 (.lst (rc.append r2)) .non⟩
  · exact h.elim
theorem MtM.r {id : String} {r : V → List V → Hp → VK → Prop} (h : MtM X id r) : MtR X id r := fun pins s σ H x xs v us Q I rx rs q => h pins s σ H x xs v us Q I rx rs q

/-! ### own[i] = e -/
def mSub (i : Nat) (me mi : ME) (PD : PEnds) (ρ : List S) : Prop := match ρ[i]? with
  | some (.ow _ _) => me ρ (fun d ρ1 => mi ρ1 (fun k ρ2 => match ρ2[i]?, k with
    | some (.ow t (.lst l)), .int n => ∃ j, ixN l.length n = some j ∧ PD.nx (ρ2.set i (.ow t (.lst (l.set j d))))
    | _, _ => False) PD.ex) PD.ex
  | _ => False
theorem gs_sub {i : Nat} {xv : Str} {ix : Expr} {mi : ME} {spos : Pos} (he : GE X W e ma) (hi : GE X W ix mi) (hN : X.N[i]? = some xv := by rfl) (hvv : Vis X.env.scope xv := by first | exact Or.inl rfl | exact Or.inr (Or.inl rfl) | exact Or.inr (Or.inr rfl)) (hd2 : (xv == ("__debug__" : Str)) = false := by decide)
    (hcd : (xv == ("__classdict__" : Str)) = false := by decide) (hs : swapsWithSole [.Subscript (.Name xv p2) ix pos] e spos.line X.env = pure false := by rfl) (hw : swappedStores [.Subscript (.Name xv p2) ix pos] e X.env = pure none := by rfl)
    (h1 : (assignEach [.Subscript (.Name xv p2) ix pos] X.env).map (·.2) = [assign (.Subscript (.Name xv p2) ix pos) X.env] := by rfl)
    (has : ∀ v, assign (.Subscript (.Name xv p2) ix pos) X.env v = (do
      let ov ← holding [v] (eval (.Name xv p2) X.env)
      let iv ← holding [v, ov] (eval ix X.env)
      standAt pos
      holding [v, ov, iv] (setItem ov iv v)
      release [v, ov, iv] []) := by intro _; rfl) : GS X W (.Assign [.Subscript (.Name xv p2) ix pos] e spos) (mSub i ma mi) :=
  ⟨ps_imp (ps_asg he.pe (pg_sub (pe_var hN hvv hd2 hcd) hi.pe set_list has) hs hw h1) fun D σ H h => by
  obtain ⟨F, A, ρ, PD, r, h, q⟩ := h
  unfold mSub at h
  split at h
  · rename_i t0 c0 h0
    obtain ⟨p, o, e0, _⟩ := r.rs.getO h0
    refine ⟨F, A, ρ, _, PD.ex, r, h, fun d ρ1 v F1 H1 A1 k1 s1 r1 q1 => ?_, q.xc σ⟩
    refine ⟨_, e0, F1, A1, ρ1, _, PD.ex, r1, k1, fun k ρ2 u F2 H2 A2 k2 s2 r2 q2 => ?_, (q.xc σ).step s1⟩
    split at k2
    · rename_i t l n e1
      obtain ⟨j, k3, k4⟩ := k2
      obtain ⟨p', o', e2, m1, m2, m3, m4⟩ := slot_keeps r2 e0 e1
      cases e2
      cases m3 with
      | lst m3 =>
        rename_i vs
        obtain ⟨s3, r3⟩ := r2.mut e1 e0 m1 m4 (.lst (m3.set j (q1.mono s2.ext)))
        exact ⟨p, vs, n, j, rfl, q2.int_inv, m2, by rw [m3.length]; exact k3, q.nx _ _ _ _ _ k4 ((s1.trans s2).trans s3) r3⟩
    · exact k2.elim
  · exact h.elim⟩

/-! ### a, b = a tuple's items -/
def mUnp (m : ME) (g : MG) (PD : PEnds) (ρ : List S) : Prop := m ρ (fun d ρ1 => g d ρ1 PD.nx) PD.ex
theorem gs_unp {tg : Expr} {is : List Nat} {mg : MG} (he : GE X W e ma) (hg : GG X is tg mg) (hs : swapsWithSole [tg] e pos.line X.env = pure false := by rfl) (hw : swappedStores [tg] e X.env = pure none := by rfl)
    (h1 : (assignEach [tg] X.env).map (·.2) = [assign tg X.env] := by rfl) : GS X W (.Assign [tg] e pos) (mUnp ma mg) := ⟨ps_imp (ps_asg he.pe hg.pg hs hw h1) fun D σ H h => by
  obtain ⟨F, A, ρ, PD, r, h, q⟩ := h
  refine ⟨F, A, ρ, _, PD.ex, r, h, fun d ρ1 v F1 H1 A1 k1 s1 r1 q1 => ?_, q.xc σ⟩
  exact ⟨F1, A1, ρ1, d, _, r1, q1, k1, fun ρ' σ' A' h2 s2 r2 _ => q.nx _ _ _ _ _ h2 (s1.trans s2) r2⟩⟩
/-- a, b = x, y; a, b, c = x, y, z (locals) -/
def mPar2 (i j : Nat) (a b : MX) (PD : PEnds) (ρ : List S) : Prop := a ρ (fun s ρ1 => b ρ1 (fun t ρ2 => PD.nx ((ρ2.set i s).set j t)) PD.ex) PD.ex
def mPar3 (i j l : Nat) (a b c : MX) (PD : PEnds) (ρ : List S) : Prop := a ρ (fun s ρ1 => b ρ1 (fun t ρ2 => c ρ2 (fun u ρ3 => PD.nx (((ρ3.set i s).set j t).set l u)) PD.ex) PD.ex) PD.ex
/-- a value carried over a further step -/
theorem SlOk.step {K : PySem.W.Frag} {H F1 H1 F2 H2 : Hp} {A1 A2 : List Addr} {v : V} {s : S} (q : SlOk K H F1 H1 A1 v s) (st : Stp F1 H1 A1 F2 H2 A2) : SlOk K H F2 H2 A2 v s := by
  cases s with
  | un => exact q
  | fz d => exact (show Rep K F1 v d from q).mono st.ext
  | ow t c =>
    cases t with
    | some t => exact q
    | none =>
      obtain ⟨p, o, rfl, n1, n2, n3, n4, n5⟩ := q
      refine ⟨p, o, rfl, fun z => ?_, n2, st.kp _ _ n3 n1, n4.mono st.ext, (st.fr _ _ n3 n1).trans n5⟩
      rcases st.sub _ z with y | y
      · exact n1 y
      · rw [n3] at y; cases y
/-- stored, and which addresses are own then -/
theorem R.store' {K : PySem.W.Frag} {F H F' H' : Hp} {A A' : List Addr} {ρ : List S} {σ : L2.St} {v : V} {s : S} (s1 : Stp F H A F' H' A') (r : R K F' A' ρ σ H') (q : SlOk K H F' H' A' v s) (i : Nat) :
    ∃ A2, (∀ b, b ∈ A2 → b ∈ A' ∨ ∃ o, v = .ref b ∧ s ≠ .un ∧ H' b = some o ∧ H b = none ∧ ∃ c, s = .ow none c) ∧ Stp F H A F' H' A2 ∧ R K F' A2 (ρ.set i s) (σ.set i (some v)) H' := by
  cases s with
  | un => exact q.elim
  | fz d =>
    obtain ⟨A2, h1, h2⟩ := r.rs.setF q i
    exact ⟨A2, fun b hb => .inl (h1 b hb), s1.trans (Stp.less h1), r.same, h2⟩
  | ow t c =>
    cases t with
    | some t => exact q.elim
    | none =>
      obtain ⟨p, o, rfl, n1, n2, n3, n4, n5⟩ := q
      obtain ⟨A2, h1, h2⟩ := r.rs.setO n1 n3 n4 n5 i
      refine ⟨A2, fun b hb => ?_, ⟨s1.ext, s1.kp, s1.fr, fun b hb => ?_, s1.dom⟩, r.same, h2⟩
      · rcases h1 b hb with z | z
        · exact .inl z
        · rw [z]; exact .inr ⟨o, rfl, (fun z => nomatch z), n3, n2, c, rfl⟩
      · rcases h1 b hb with z | z
        · exact s1.sub b z
        · rw [z]; exact .inr n2
/-- a further value, new at a later heap, is not among the own ones -/
theorem SlOk.later {K : PySem.W.Frag} {H H1 F2 H2 : Hp} {A2 A3 : List Addr} {u v : V} {t s : S} (q2 : SlOk K H1 F2 H2 A2 u t) (dm : ∀ b, H1 b = none → H b = none) (hs : ∀ b, b ∈ A3 → b ∈ A2 ∨ ∃ o : HO, v = .ref b ∧ H1 b = some o) : SlOk K H F2 H2 A3 u t := by
  cases t with
  | un => exact q2
  | fz d => exact q2
  | ow tt c =>
    cases tt with
    | some z => exact q2
    | none =>
      obtain ⟨p, o, rfl, n1, n2, n3, n4, n5⟩ := q2
      refine ⟨p, o, rfl, fun z => ?_, dm _ n2, n3, n4, n5⟩
      rcases hs p z with y | ⟨o, _, y⟩
      · exact n1 y
      · rw [n2] at y; cases y
theorem pair_store {K : PySem.W.Frag} {F H F1 H1 F2 H2 : Hp} {A A1 A2 : List Addr} {ρ : List S} {σ : L2.St} {v u : V} {s t : S} {i j : Nat} (s1 : Stp F H A F1 H1 A1) (q1 : SlOk K H F1 H1 A1 v s) (s2 : Stp F1 H1 A1 F2 H2 A2) (q2 : SlOk K H1 F2 H2 A2 u t) (r : R K F2 A2 ρ σ H2) :
    ∃ A3, (∀ b, b ∈ A3 → b ∈ A2 ∨ (∃ o, v = .ref b ∧ H1 b = some o) ∨ (u = .ref b ∧ ∃ c, t = .ow none c)) ∧ Stp F H A F2 H2 A3 ∧ R K F2 A3 ((ρ.set i s).set j t) ((σ.set i (some v)).set j (some u)) H2 := by
  have k1 : ∀ b, (∃ c, s = .ow none c) → v = .ref b → ∃ o, H1 b = some o := fun b ⟨c, e⟩ ev => by
    subst e
    obtain ⟨p, o, e2, _, _, n3, _⟩ := q1
    rw [ev] at e2; cases e2
    exact ⟨o, n3⟩
  obtain ⟨A3, h3, s3, r3⟩ := R.store' (s1.trans s2) r (q1.step s2) i
  have q2' : SlOk K H F2 H2 A3 u t := q2.later (v := v) (s := s) s1.dom fun b hb => by
    rcases h3 b hb with z | ⟨o, e, _, _, _, c, e2⟩
    · exact .inl z
    · obtain ⟨o', e3⟩ := k1 b ⟨c, e2⟩ e
      exact .inr ⟨o', e, e3⟩
  obtain ⟨A4, h4, s4, r4⟩ := R.store' s3 r3 q2' j
  refine ⟨A4, fun b hb => ?_, s4, r4⟩
  rcases h4 b hb with z | ⟨o, e, _, _, _, ec⟩
  · rcases h3 b z with y | ⟨o, e, _, _, _, c, e2⟩
    · exact .inl y
    · obtain ⟨o', e3⟩ := k1 b ⟨c, e2⟩ e
      exact .inr (.inl ⟨o', e, e3⟩)
  · exact .inr (.inr ⟨e, ec⟩)
theorem gs_par2 {i j : Nat} {xi xj : Str} {px py pt : Pos} {kt k2 : Nat} {pt2 : Pos} {mx my : MX} (hc : X.calm = true) (hN : X.N.Nodup) (ha : GX X W a mx) (hb : GX X W b my) (hij : i ≠ j := by decide) (hi : X.N[i]? = some xi := by rfl) (hj : X.N[j]? = some xj := by rfl)
    (hx : X.env.scope.names.lookup xi = some .local := by rfl) (hy : X.env.scope.names.lookup xj = some .local := by rfl) (hw : swappedStores [.Tuple [.Name xi px, .Name xj py] kt pt] (.Tuple [a, b] k2 pt2) X.env = pure (some [xi, xj]) := by rfl)
    (hs : swapsWithSole [.Tuple [.Name xi px, .Name xj py] kt pt] (.Tuple [a, b] k2 pt2) pos.line X.env = pure false := by rfl) (h1 : starEach [a, b] X.env = (false, eval a X.env) :: starEach [b] X.env := by rfl) (h2 : starEach [b] X.env = (false, eval b X.env) :: starEach [] X.env := by rfl) :
    GS X W (.Assign [.Tuple [.Name xi px, .Name xj py] kt pt] (.Tuple [a, b] k2 pt2) pos) (mPar2 i j mx my) :=
  ⟨ps_imp (ps_par hc hN hi hj hij hx hy (pa_cons ha.pe (pa_cons hb.pe pa_nil h2) h1) hw hs) fun D σ H h => by
  obtain ⟨F, A, ρ, PD, r, h, q⟩ := h
  refine ⟨F, A, ρ, _, PD.ex, r, h, fun s ρ1 v F1 H1 A1 k1 s1 r1 q1 => ?_, q.xc σ⟩
  refine ⟨F1, A1, ρ1, _, PD.ex, r1, k1, fun t ρ2 u F2 H2 A2 k2 s2 r2 q2 => ?_, (q.xc σ).step s1⟩
  obtain ⟨A3, _, s3, r3⟩ := pair_store s1 q1 s2 q2 r2 (i := i) (j := j)
  exact ⟨v, u, rfl, q.nx _ _ _ _ _ k2 s3 r3⟩⟩
theorem gs_par3 {i j l : Nat} {xi xj xl : Str} {c : Expr} {px py pz pt : Pos} {kt k2 : Nat} {pt2 : Pos} {mx my mz : MX} (hc : X.calm = true) (hN : X.N.Nodup) (ha : GX X W a mx) (hb : GX X W b my) (hcc : GX X W c mz) (hij : i ≠ j := by decide) (hil : i ≠ l := by decide) (hjl : j ≠ l := by decide) (hi : X.N[i]? = some xi := by rfl) (hj : X.N[j]? = some xj := by rfl) (hl : X.N[l]? = some xl := by rfl)
    (hx : X.env.scope.names.lookup xi = some .local := by rfl) (hy : X.env.scope.names.lookup xj = some .local := by rfl) (hz : X.env.scope.names.lookup xl = some .local := by rfl) (hw : swappedStores [.Tuple [.Name xi px, .Name xj py, .Name xl pz] kt pt] (.Tuple [a, b, c] k2 pt2) X.env = pure (some [xi, xj, xl]) := by rfl)
    (hs : swapsWithSole [.Tuple [.Name xi px, .Name xj py, .Name xl pz] kt pt] (.Tuple [a, b, c] k2 pt2) pos.line X.env = pure false := by rfl) (h1 : starEach [a, b, c] X.env = (false, eval a X.env) :: starEach [b, c] X.env := by rfl) (h2 : starEach [b, c] X.env = (false, eval b X.env) :: starEach [c] X.env := by rfl) (h3 : starEach [c] X.env = (false, eval c X.env) :: starEach [] X.env := by rfl) :
    GS X W (.Assign [.Tuple [.Name xi px, .Name xj py, .Name xl pz] kt pt] (.Tuple [a, b, c] k2 pt2) pos) (mPar3 i j l mx my mz) :=
  ⟨ps_imp (ps_par3 hc hN hi hj hl hij hil hjl hx hy hz (pa_cons ha.pe (pa_cons hb.pe (pa_cons hcc.pe pa_nil h3) h2) h1) hw hs) fun D σ H h => by
  obtain ⟨F, A, ρ, PD, r, h, q⟩ := h
  refine ⟨F, A, ρ, _, PD.ex, r, h, fun s ρ1 v F1 H1 A1 k1 s1 r1 q1 => ?_, q.xc σ⟩
  refine ⟨F1, A1, ρ1, _, PD.ex, r1, k1, fun t ρ2 u F2 H2 A2 k2 s2 r2 q2 => ?_, (q.xc σ).step s1⟩
  refine ⟨F2, A2, ρ2, _, PD.ex, r2, k2, fun t3 ρ3 u3 F3 H3 A3 k3 s3 r3 q3 => ?_, (q.xc σ).step (s1.trans s2)⟩
  -- the first two, then the third
  have q2' := q2.step s3
  obtain ⟨A4, h4, s4, r4⟩ := pair_store (s1) q1 (s2.trans s3) q2' r3 (i := i) (j := j)
  have q3' : SlOk X.K H F3 H3 A4 u3 t3 := by
    have d2 : ∀ b, H2 b = none → H b = none := fun b e => s1.dom _ (s2.dom _ e)
    cases t3 with
    | un => exact q3
    | fz d => exact q3
    | ow tt c =>
      cases tt with
      | some z => exact q3
      | none =>
        obtain ⟨p, o, rfl, n1, n2, n3, n4, n5⟩ := q3
        refine ⟨p, o, rfl, fun z => ?_, d2 _ n2, n3, n4, n5⟩
        rcases h4 p z with y | ⟨o, _, y⟩ | ⟨e, c', e2⟩
        · exact n1 y
        · rw [s2.dom _ n2] at y; cases y
        · subst e2
          obtain ⟨p', o', e3, _, _, n3', _⟩ := q2
          rw [e] at e3; cases e3
          rw [n2] at n3'; cases n3'
  obtain ⟨A5, s5, r5⟩ := R.store s4 r4 q3' l
  exact ⟨v, u, u3, rfl, q.nx _ _ _ _ _ k3 s5 r5⟩⟩
/-- insert -/
theorem md_ins {K : PySem.W.Frag} : MutD K (fun x vs H Q => ∃ (l : Addr) (xs : List V) (i : Int) (y : V), x = .ref l ∧ vs = [.int i, y] ∧ H l = some (.lst xs) ∧ xs.length < sizeLine ∧ 0 ≤ i ∧ i < 2 ^ 63 ∧
    Q .non (upd H l (.lst (xs.take i.toNat ++ [y] ++ xs.drop i.toNat)))) fIns := by
  intro F H p o c0 vs ds P s ho rc hn r h Q q
  unfold fIns at h
  split at h
  · cases rc with
    | lst rc =>
      cases r with
      | cons r t =>
        cases t with
        | cons r' t =>
          cases t
          obtain ⟨h1, h2, h3, h4⟩ := h
          rw [r.int_inv]
          have hs : sizeLine = 16777216 := sizeLine_eq
          have e63 : (2 : Int) ^ 63 = 9223372036854775808 := by decide
          refine ⟨p, _, _, _, rfl, rfl, ho, by rw [rc.length]; exact h1, h2, by omega, q _ _ _ _ h4 (.lst ?_) .non⟩
          rw [List.append_assoc]
          exact (rc.take _).append (.cons r' (rc.drop _))
  · exact h.elim

/-! ### texts: join; ints: bit_length -/
def StrD (K : PySem.W.Frag) (r : V → List V → Hp → VK → Prop) (f : Str → D → (D → Prop) → Prop) : Prop :=
  ∀ (F H : Hp) (a : Str) (v : V) (d : D) (P : D → Prop), Same F H → Rep K F v d → f a d P → ∀ Q : VK, (∀ z w F' H', P z → New F H F' H' → Rep K F' w z → Q w H') → r (.str a) [v] H Q
def mSm (f : Str → D → (D → Prop) → Prop) (ms ml : ME) (ρ : List S) (P : D → List S → Prop) (PX : XP) : Prop := ms ρ (fun d ρ1 => match d with
  | .str z => ml ρ1 (fun l ρ2 => f z l fun y => P y ρ2) PX
  | _ => False) PX
/-- text.m(e) -/
theorem ge_sm {o : Expr} {id : String} {name : Str} {apos : Pos} {ms : ME} {r : V → List V → Hp → VK → Prop} {f : Str → D → (D → Prop) → Prop} (slot : Slot "str" name id) (ty : typeOf (.builtin id) = pure (.type "method_descriptor")) (rule : MtR X id r) (hf : StrD X.K r f) (ho : GE X W o ms) (ha : GE X W e ma)
    (hs : starEach [e] X.env = [(false, eval e X.env)] := by rfl) (hbase : attributeBase o name X.env (eval o X.env) = eval o X.env := by rfl) (hline : (apos.endLine == pos.line) = true := by rfl) :
    GE X W (.Call (.Attribute o name apos) [e] [] pos) (mSm f ms ma) := ⟨pe_imp (pe_m1 slot ty rule ho.pe ha.pe hs hbase hline) fun σ H Q h => by
  obtain ⟨F, A, ρ, P, PX, r, hm, hP, hX⟩ := h
  refine ⟨F, A, ρ, _, PX, r, hm, fun d ρ1 v F1 H1 A1 k1 s1 r1 q1 => ?_, hX⟩
  cases d with
  | str z =>
    rw [q1.str_inv]
    refine ⟨⟨z, rfl⟩, F1, A1, ρ1, _, PX, r1, k1, fun l ρ2 u F2 H2 A2 k2 s2 r2 q2 => ?_, hX.step s1⟩
    exact hf F2 H2 z u l _ r2.same q2 k2 Q fun y w F3 H3 hy n w' => hP _ _ _ _ _ _ hy ((s1.trans s2).trans n.stp) (r2.new n) w'
  | _ => exact k1.elim⟩
def fJoin : Str → D → (D → Prop) → Prop := fun z d P => match d with
  | .lst ds => ∃ ys, strsOf ds = some ys ∧ (ys.map (·.length)).sum + ys.length * z.length ≤ 16777216 ∧ P (.str (Txt.join z ys))
  | _ => False
theorem sd_join {K : PySem.W.Frag} : StrD K (fun x xs H Q => ∃ a p, ∃ ys : List Str, x = .str a ∧ xs = [.ref p] ∧ (SqL K H p (ys.map V.str) ∨ SqT K H p (ys.map V.str)) ∧
    (ys.map (·.length)).sum + ys.length * a.length ≤ 16777216 ∧ Q (.str (Txt.join a ys)) H) fJoin := by
  intro F H a v d P s r h Q q
  unfold fJoin at h
  split at h
  · obtain ⟨ys, h1, h2, h3⟩ := h
    obtain ⟨p, vs, rfl, e, r2⟩ := r.lst_inv
    have := r2.strsOf h1
    subst this
    exact ⟨a, p, ys, rfl, rfl, .inl (.of (s _ _ e)), h2, q _ _ F H h3 (New.refl s) (.str _)⟩
  · exact h.elim
def mBits (m : ME) (ρ : List S) (P : D → List S → Prop) (PX : XP) : Prop := m ρ (fun d ρ1 => match d with | .int i => P (.int (Builtin.Int.intBits i : Nat)) ρ1 | _ => False) PX
theorem ge_bits {o : Expr} {apos : Pos} {mo : ME} (ho : GE X W o mo) (hbase : attributeBase o "bit_length" X.env (eval o X.env) = eval o X.env := by rfl) (hline : (apos.endLine == pos.line) = true := by rfl) : GE X W (.Call (.Attribute o "bit_length" apos) [] [] pos) (mBits mo) :=
  ⟨pe_imp (pe_bits ho.pe hbase hline) fun σ H Q h => by
  obtain ⟨F, A, ρ, P, PX, r, hm, hP, hX⟩ := h
  refine ⟨F, A, ρ, _, PX, r, hm, fun d ρ1 v F1 H1 A1 k1 s1 r1 q1 => ?_, hX⟩
  cases d with
  | int i => exact ⟨i, q1.int_inv, hP _ _ _ _ _ _ k1 s1 r1 (.int _)⟩
  | _ => exact k1.elim⟩
end
end G

/-! G: enumerate(text); further pieces -/
namespace G
open PySem PySem.Spec PyProof.Rows L2
def Ites (x : Str) : It := ⟨fun i _ => i < x.cps.size, fun i H v H' => ∃ T c, v = .ref T ∧ H T = none ∧ H' = upd H T (.tup [.int (i : Nat), .str ⟨#[c]⟩]) ∧ x.cps[i]? = some c, fun i _ => x.cps.size ≤ i⟩
theorem turn_enumS {P : Program} {w : World} {K : PySem.W.Frag} {elts : List Expr} {kk : Nat} {tpos : Pos} (x : Str) (t : Tok) (e it : Addr) :
    Turn P w K (.Tuple elts kk tpos) (Ites x) [e, it] e (fun i h => (∃ old, IsEnum h e it ((i : Nat) : Int) old) ∧ h.IsStrIter it (strIterType x) x t i ∧ e ≠ it ∧ i ≤ x.cps.size) where
  mem := by simp
  obj := fun i h st b hb => by
    obtain ⟨⟨old, he⟩, ⟨o, ho, hc, hd⟩, _, _⟩ := st
    have e' : b = e ∨ b = it := by simpa using hb
    rcases e' with z | z
    · rw [z]; exact ⟨_, he, fun v q => nomatch q⟩
    · rw [z]; exact ⟨o, ho, fun v q => by rw [hd] at q; cases q⟩
  keep := fun i h h' st k => let ⟨⟨old, he⟩, ⟨o, ho, r⟩, hne, hl⟩ := st; ⟨⟨old, k e (by simp) _ he⟩, ⟨o, k it (by simp) o ho, r⟩, hne, hl⟩
  item := by
    intro X hP hw hK hc i pins s σ H E I hf st hg
    subst hP hw hK
    obtain ⟨⟨old, he⟩, hit, hne, hle⟩ := st
    have D : Draws X.prog X.w X.A.in1 it [it] x.cps.size (fun i v => ∃ c u, x.cps[i]? = some c ∧ v = .str ⟨#[c]⟩ u) (fun i h => h.IsStrIter it (strIterType x) x t i) := Draws.text (A := X.A.in1) (show X.A.handled = none from I.ok.hd hc) it x t
    have hel : e < s.heap.objs.size := Heap.lt_size he
    have hil : it < s.heap.objs.size := by obtain ⟨_, q, _⟩ := hit; exact Heap.lt_size q
    refine wpAny_pyNext_enum_itemD D he hit hg hne (by simpa using hne) fun u h' tk hu ho hit' hT hsz hk => ?_
    obtain ⟨c, uu, hcx, rfl⟩ := hu
    refine ⟨_, rfl, wpAny_letOwnedTupleGo_enum (s := { s with heap := h', toks := tk + 1 }) ho fun h'' he' sb => ?_⟩
    have hT2 : h''.get? s.heap.objs.size = some { cls := .type "tuple", data := .seq #[.int i tk, .str ⟨#[c]⟩ uu] } := (sb.2 _ (Nat.ne_of_gt hel)).trans hT
    have new : ObjOk X.prog X.w (upd H s.heap.objs.size (.tup [.int (i : Nat), .str ⟨#[c]⟩])) h'' s.heap.objs.size (.tup [.int (i : Nat), .str ⟨#[c]⟩]) :=
      ⟨by show 2 ≤ sizeLine; decide, [.int i tk, .str ⟨#[c]⟩ uu], .cons ⟨_, rfl⟩ (.cons ⟨_, rfl⟩ .nil), ⟨_, hT2, rfl, _, rfl⟩⟩
    have I1 : Inv X pins σ (upd H s.heap.objs.size (.tup [.int (i : Nat), .str ⟨#[c]⟩])) { s with heap := h'', toks := tk + 1 } :=
      I.turnedNew (ch := [e, it]) (fun b ob hb q => (sb.2 b (fun z => hb (by simp [z]))).trans (hk b ob (fun z => hb (by simp [z])) (fun z => hb (by simp [z])) q)) hf (Nat.le_refl _) new
    refine ⟨.ref s.heap.objs.size, _, I1, rfl, ⟨_, c, rfl, I.hok.fresh (Nat.le_refl _), rfl, hcx⟩, ⟨⟨.str ⟨#[c]⟩ uu, ?_⟩, ?_, hne, hg⟩, fun b hb => ?_⟩
    · have e1 : ((i + 1 : Nat) : Int) = (i : Int) + 1 := by omega
      rw [e1]; exact he'
    · obtain ⟨o, q1, q2⟩ := hit'
      exact ⟨o, (sb.2 it (Ne.symm hne)).trans q1, q2⟩
    · have hb' : b < s.heap.objs.size := by
        have e' : b = e ∨ b = it := by simpa using hb
        rcases e' with z | z
        · rw [z]; exact hel
        · rw [z]; exact hil
      rw [upd_ne (Nat.ne_of_lt hb')]
      exact (hf b hb).1
  done := by
    intro X hP hw hK hc i pins s σ H E I hf st hg
    subst hP hw hK
    obtain ⟨⟨old, he⟩, hit, hne, hle⟩ := st
    obtain ⟨f0, f1, f2, f3, f4, f5⟩ := hf it (by simp)
    have D : Draws X.prog X.w X.A.in1 it [it] x.cps.size (fun i v => ∃ c u, x.cps[i]? = some c ∧ v = .str ⟨#[c]⟩ u) (fun i h => h.IsStrIter it (strIterType x) x t i) := Draws.text (A := X.A.in1) (show X.A.handled = none from I.ok.hd hc) it x t
    have e : i = x.cps.size := Nat.le_antisymm hle hg
    subst e
    exact wpAny_pyNext_enum_endD D he hit fun h' eb => ⟨rfl, I.turned (t' := s.toks) (it := it) (fun b o hb q => eb b o hb q) (hf it (by simp)).1 (hf it (by simp)).2.1 (hf it (by simp)).2.2.2.1 (hf it (by simp)).2.2.2.2.1 (hf it (by simp)).2.2.2.2.2⟩
  self := fun A i s Q E st h => let ⟨⟨_, he⟩, _⟩ := st; wpAny_pyIter_enum he h
def iEnumS (ta : TA) : TI := fun σ H R => ta σ H fun vs H1 => ∃ x, vs = [.str x] ∧ R (Ites x) H1
theorem pi_enumS {X : Cx} {e : Expr} {ta : TA} {p pos tpos : Pos} {elts : List Expr} {kk : Nat} (hg : Gl X "enumerate") (hm : X.mg "enumerate" = none) (ha : PA X [e] ta) (hs : starEach [e] X.env = [(false, eval e X.env)] := by rfl) :
    PI X (.Tuple elts kk tpos) (.Call (.Name "enumerate" p) [e] [] pos) (iEnumS ta) := by
  refine ⟨fun pins s σ H R I h => ?_⟩
  refine Call_ (ld_blt I hg hm boot_enumerate (PyProof.Rows.callWith_type1 (thn (ha.run pos pins s σ H _ I h) fun us s1 ⟨vs, H1, I1, r1, q1⟩ => ?_) hs rfl))
  obtain ⟨x, ex, q⟩ := q1
  subst ex
  cases r1 with
  | cons r rr =>
    cases rr
    obtain ⟨t, rfl⟩ := r
    refine call_enumerate_str fun h' he hit hsz hk => wpAny_pyIter_enum he ?_
    have I2 : Inv X pins σ H1 { s1 with heap := h' } := I1.kept (t' := s1.toks) hk
    refine ⟨s1.heap.objs.size + 1, [s1.heap.objs.size + 1, s1.heap.objs.size], _, _, H1, rfl, I2, turn_enumS x t (s1.heap.objs.size + 1) s1.heap.objs.size, ⟨⟨.none, he⟩, hit, Nat.succ_ne_self _, Nat.zero_le _⟩, fun b hb => ?_, q⟩
    have e' : b = s1.heap.objs.size + 1 ∨ b = s1.heap.objs.size := by simpa using hb
    have hle : s1.heap.objs.size ≤ b := by
      rcases e' with z | z
      · rw [z]; exact Nat.le_add_right _ _
      · rw [z]; exact Nat.le_refl _
    exact I1.fpOk hle (I1.hok.fresh hle)
theorem isIt_enumS {K : PySem.W.Frag} {F : Hp} (z : Str) : IsIt K F (Ites z) (enumD (signs z)) := by
  intro i F2 H s1 s2
  have hl0 : (signs z).length = z.cps.size := by simp [signs]
  have hl : (enumD (signs z)).length = z.cps.size := by rw [← hl0]; simp [enumD]
  refine ⟨fun h => ⟨(show i < z.cps.size by rw [← hl]; exact h), fun x H' y => ?_⟩, fun h => (show z.cps.size ≤ i by rw [hl] at h; exact h)⟩
  obtain ⟨T, c, rfl, hT, rfl, hc⟩ := y
  have hi : i < z.cps.size := by rw [← hl]; exact h
  have e1 : z.cps[i] = c := by
    rw [Array.getElem?_eq_getElem hi] at hc
    exact Option.some.inj hc
  have e : (enumD (signs z))[i] = D.tup [.int (i : Nat), .str ⟨#[c]⟩] := by
    have h1 : i < (signs z).length := by rw [hl0]; exact hi
    have h2 : (signs z).getD i .non = D.str ⟨#[c]⟩ := by
      rw [List.getD_eq_getElem?_getD, List.getElem?_eq_getElem h1]
      simp [signs, e1]
    simp only [enumD, List.getElem_map, List.getElem_range, h2]
  rw [e]
  exact ⟨_, New.mk1 _ s2 hT, .tup upd_same (.cons (.int _) (.cons (.str _) .nil))⟩
section
variable {X : Cx} {W : WX} {e a b : Expr} {es elts : List Expr} {x : Str} {p p2 pos tpos : Pos} {kk : Nat} {ma mb : ME} {mas : MA} {st : Stmt} {ms : MS}
def iEnS (m : MA) (ρ : List S) (P : List D → List S → Prop) (PX : XP) : Prop := m ρ (fun ds ρ1 => match ds with | [.str z] => P (enumD (signs z)) ρ1 | _ => False) PX
theorem gi_enumS (hm : X.mg "enumerate" = none) (ha : GA X W [e] mas) (hg : Gl X "enumerate" := by rfl) (hs : starEach [e] X.env = [(false, eval e X.env)] := by rfl) : GI X W (.Tuple elts kk tpos) (.Call (.Name "enumerate" p) [e] [] pos) (iEnS mas) := ⟨⟨fun pins s σ H Q I h => by
  obtain ⟨F, A, ρ, P, PX, r, hm', hP, hX⟩ := h
  refine (pi_enumS hg hm (ha.pa) hs).run pins s σ H Q I ⟨F, A, ρ, _, PX, r, hm', fun ds ρ' vs F' H' A' h1 s1 r1 q1 => ?_, hX⟩
  split at h1
  · cases q1 with
    | cons q1 q2 =>
      cases q2
      rw [q1.str_inv]
      exact ⟨_, rfl, hP _ _ _ _ _ _ h1 s1 r1 (isIt_enumS _)⟩
  · exact h1.elim⟩⟩
/-- a statement that is not come to -/
def mNever (PD : PEnds) (ρ : List S) : Prop := False
theorem gs_never : GS X W st mNever := ⟨ps_imp ps_never fun D σ H ⟨F, A, ρ, PD, r, h, q⟩ => h⟩
/-- behind a statement an own list stays -/
def mFzS (i : Nat) (PD : PEnds) (ρ : List S) : Prop := match ρ[i]? with
  | some (.ow none (.lst ds)) => PD.nx (ρ.set i (.fz (.lst ds)))
  | _ => False
theorem gs_fz {i : Nat} (h : GS X W st ms) : GS X W st (mSeq ms (mFzS i)) := ⟨ps_imp h.ps fun D σ H h => by
  obtain ⟨F, A, ρ, PD, r, h, q⟩ := h
  refine ⟨F, A, ρ, _, r, h, ⟨fun ρ' σ' F' H' A' h1 s1 r1 => ?_, q.rt, q.bk, q.ct, q.ex⟩⟩
  have h1 : mFzS i PD ρ' := h1.go
  unfold mFzS at h1
  split at h1
  · rename_i ds e
    obtain ⟨p, F2, A2, _, _, s2, r2⟩ := r1.freeze e
    exact q.nx _ _ _ _ _ h1 (s1.trans s2) r2
  · exact h1.elim⟩
/-- += on ints, on texts -/
def fAddI : D → D → (D → Prop) → Prop
  | .int i, .int j, P => P (.int (i + j))
  | .str x, .str y, P => x.length + y.length ≤ sizeLine ∧ P (.str (x ++ y))
  | _, _, _ => False
theorem od_addI {K : PySem.W.Frag} : OpD K (fun x y H Q => (∃ i j, x = .int i ∧ y = .int j ∧ Q (.int (i + j)) H) ∨ (∃ i j, x = .str i ∧ y = .str j ∧ i.length + j.length ≤ sizeLine ∧ Q (.str (i ++ j)) H)) fAddI := by
  intro F H v u d e P s rv ru h Q q
  cases d <;> cases e <;> first | exact h.elim | skip
  · exact .inl ⟨_, _, rv.int_inv, ru.int_inv, q _ _ F H h (New.refl s) (.int _)⟩
  · exact .inr ⟨_, _, rv.str_inv, ru.str_inv, h.1, q _ _ F H h.2 (New.refl s) (.str _)⟩
def mMt (f : C → List D → (D → C → Prop) → Prop) (i : Nat) (m : MA) (ρ : List S) (P : D → List S → Prop) (PX : XP) : Prop := match ρ[i]? with | some (.ow _ (.lst _)) => mMut f i m ρ P PX | _ => False
/-- a constant of the module -/
theorem ge_globI {i : Int} {t : Tok} (hm : X.mg x = some (.int i t)) (hg : Gl X x := by rfl) (hd : (x == ("__debug__" : Str)) = false := by decide) : GE X W (.Name x pos) (mC (.int i)) :=
  ⟨pe_imp (pe_glob (v := .int i) hg hm ⟨t, rfl⟩ hd) fun σ H Q ⟨F, A, ρ, P, PX, r, hm, hP, _⟩ => hP _ _ _ _ _ _ hm Stp.refl r (.int i)⟩
theorem ge_globS {z : Str} {t : Tok} (hm : X.mg x = some (.str z t)) (hg : Gl X x := by rfl) (hd : (x == ("__debug__" : Str)) = false := by decide) : GE X W (.Name x pos) (mC (.str z)) :=
  ⟨pe_imp (pe_glob (v := .str z) hg hm ⟨t, rfl⟩ hd) fun σ H Q ⟨F, A, ρ, P, PX, r, hm, hP, _⟩ => hP _ _ _ _ _ _ hm Stp.refl r (.str z)⟩
/-- [..] * n, a new list of one's own -/
def mRep (ma mb : ME) (ρ : List S) (P : C → List S → Prop) (PX : XP) : Prop := ma ρ (fun d ρ1 => mb ρ1 (fun e ρ2 => match d, e with
  | .lst l, .int n => n < 2 ^ 63 ∧ -(2 ^ 63) ≤ n ∧ l.length * n.toNat ≤ sizeLine ∧ P (.lst (List.replicate n.toNat l).flatten) ρ2
  | _, _ => False) PX) PX
theorem go_rep (ha : GE X W a ma) (hb : GE X W b mb) : GO X W (.BinOp a .Mult b pos) (mRep ma mb) := ⟨pe_imp (pe_op op_rep ha.pe hb.pe) fun σ H Q h => by
  obtain ⟨F, A, ρ, P, PX, r0, hm, hP, hX⟩ := h
  refine ⟨F, A, ρ, _, PX, r0, hm, fun d ρ1 v F1 H1 A1 h1 s1 r1 q1 => ?_, hX⟩
  refine ⟨F1, A1, ρ1, _, PX, r1, h1, fun e ρ2 u F2 H2 A2 h2 s2 r2 q2 => ?_, hX.step s1⟩
  split at h2
  · obtain ⟨a, vs, rfl, e1, r3⟩ := (q1.mono s2.ext).lst_inv
    refine ⟨a, _, vs, rfl, q2.int_inv, r2.same _ _ e1, h2.2.1, h2.1, by rw [r3.length]; exact h2.2.2.1, fun p hp => ?_⟩
    obtain ⟨s3, r4, n1, n2, n3⟩ := own_new (.lst (List.replicate _ vs).flatten) (s1.trans s2) r2 hp
    exact hP _ ρ2 p _ _ _ A2 h2.2.2.2 s3 r4 n1 n3 upd_same (.lst (r3.rep _)) n2
  · exact h2.elim⟩
end
end G

/-! an own list compared: it stays one's own -/
namespace G
open PySem PySem.Spec PyProof.Rows L2
def OwnCmp (K : PySem.W.Frag) (r : R2) (f : D → D → (D → Prop) → Prop) : Prop :=
  ∀ (F H : Hp) (p : Addr) (vs : List V) (ds : List D) (u : V) (e : D) (P : D → Prop), Same F H → H p = some (.lst vs) → Reps K F vs ds → Rep K F u e → f (.lst ds) e P → ∀ Q : VK, (∀ b, P (.bl b) → Q (.bl b) H) → r (.ref p) u H Q
theorem oc_eq {K : PySem.W.Frag} : OwnCmp K (rEqA K) fEq := by
  intro F H p vs ds u e P s hp rv ru h Q q
  have h : shp (.lst ds) = true ∧ shp e = true ∧ P (.bl (deq (.lst ds) e)) := by cases e <;> exact h
  exact .inr ⟨toP (.lst ds), toP e, .lst (.of hp) (rv.dp s ds _), ru.dp s e _, h.1, h.2.1, q _ h.2.2⟩
theorem oc_ne {K : PySem.W.Frag} : OwnCmp K (rNeA K) fNe := by
  intro F H p vs ds u e P s hp rv ru h Q q
  have h : shp (.lst ds) = true ∧ shp e = true ∧ P (.bl (!deq (.lst ds) e)) := by cases e <;> exact h
  exact .inr ⟨toP (.lst ds), toP e, .lst (.of hp) (rv.dp s ds _), ru.dp s e _, h.1, h.2.1, q _ h.2.2⟩
section
variable {X : Cx} {W : WX} {b : Expr} {x : Str} {p2 pos : Pos} {mb : ME} {op : CmpOp} {r : R2} {f : D → D → (D → Prop) → Prop}
def mCmpV (f : D → D → (D → Prop) → Prop) (i : Nat) (mb : ME) (ρ : List S) (P : D → List S → Prop) (PX : XP) : Prop := match ρ[i]? with
  | some (.ow _ _) => mb ρ (fun e ρ1 => match ρ1[i]? with
    | some (.ow _ (.lst ds)) => f (.lst ds) e fun z => match z with
      | .bl b => P (.bl b) ρ1
      | _ => False
    | _ => False) PX
  | _ => False
theorem lift_cmpV {i : Nat} {σ : L2.St} {H : Hp} {Q : VK} (hf : OwnCmp X.K r f) (h : lift X.K W (mCmpV f i mb) σ H Q) : tOp r (tVar i) (lift X.K W mb) σ H Q := by
  obtain ⟨F, A, ρ, P, PX, r0, hm, hP, hX⟩ := h
  unfold mCmpV at hm
  split at hm
  · rename_i t c h
    obtain ⟨p, o, h1, _⟩ := r0.rs.getO h
    refine ⟨_, h1, F, A, ρ, _, PX, r0, hm, fun e ρ1 u F1 H1 A1 h2 s1 r1 q1 => ?_, hX⟩
    split at h2
    · rename_i t ds h'
      obtain ⟨p', o', e1, h3, h4, h5, h6⟩ := slot_keeps r1 h1 h'
      cases e1
      cases h5 with
      | lst h5 => exact hf F1 H1 p _ ds u e _ r1.same h4 h5 q1 h2 _ fun b hb => hP _ _ _ _ _ _ hb s1 r1 (.bl b)
    · exact h2.elim
  · exact hm.elim
theorem ge_cmpV {i : Nat} (ho : OpR X (compareOp op) r) (hf : OwnCmp X.K r f) (hb : GE X W b mb) (hN : X.N[i]? = some x := by rfl) (hv : Vis X.env.scope x := by first | exact Or.inl rfl | exact Or.inr (Or.inl rfl) | exact Or.inr (Or.inr rfl)) (hd : (x == ("__debug__" : Str)) = false := by decide)
    (hcd : (x == ("__classdict__" : Str)) = false := by decide) (h1 : behindInMarks op b = false := by first | exact nobehind _ (by decide) (by decide) | rfl) :
    GE X W (.Compare (.Name x p2) [op] [b] pos) (mCmpV f i mb) := ⟨pe_imp (pe_cmpR ho (pe_var hN hv hd hcd) hb.pe h1) fun _ _ _ h => lift_cmpV hf h⟩
theorem gt_cmpV {i : Nat} (ho : OpR X (compareOp op) r) (hf : OwnCmp X.K r f) (hb : GE X W b mb) (hN : X.N[i]? = some x := by rfl) (hv : Vis X.env.scope x := by first | exact Or.inl rfl | exact Or.inr (Or.inl rfl) | exact Or.inr (Or.inr rfl)) (hd : (x == ("__debug__" : Str)) = false := by decide)
    (hcd : (x == ("__classdict__" : Str)) = false := by decide) (h1 : behindInMarks op b = false := by first | exact nobehind _ (by decide) (by decide) | rfl) :
    GT X W (.Compare (.Name x p2) [op] [b] pos) (mTst (mCmpV f i mb)) := ⟨pt_imp (pt_cmpR ho (pe_var hN hv hd hcd) hb.pe h1) fun σ H Q h => by
  have z := liftT_tst h
  exact lift_cmpV hf z⟩
end
end G

/-! the end of a law row -/
namespace G
open PySem PySem.Spec PyProof.Rows L2
/-- where a def stands -/
structure DefAt (K : PySem.W.Frag) (mg : Str → Option Value) (x : Str) (st : Stmt) : Prop where
  ex : ∃ f fd, Fun K x x st f fd ∧ mg x = some (.ref f)
theorem def_mk {K : PySem.W.Frag} {h : Heap} {mg : Str → Option Value} {x : Str} {st : Stmt} {f : Addr} {oc : Value} {od an : Option Addr} {osl : Array (Option Value)} {kV doc pm cdv ct : Value} (X : K.In h) (G : h.Ns mainGlobals mg)
    (a : PySem.W.nsIn K mainGlobals x = some (some (.ref f))) (l : K.lookup f = some ⟨oc, od, .func (PySem.W.fnOf x x (defArgs st) (defBody st) (defScope st) .none kV doc pm an cdv ct), osl⟩) (c : PySem.W.codeIn K cdv x = true) (k : PySem.W.keepIn K (.ref f) = true) : DefAt K mg x st :=
  ⟨f, _, fun_mk l c k, PySem.W.mg_of X G a⟩
abbrev DefIn {K : PySem.W.Frag} {h : Heap} (_ : K.In h) (mg : Str → Option Value) (x : Str) (st : Stmt) : Prop := DefAt K mg x st
/-- what the law's def promises, at a script -/
theorem law_holds {K : PySem.W.Frag} {c : CtP} (h : ∀ (ns : List Int) (P : Rv → Prop) (PX : Ex → Prop), ns.length ≤ 63 → P (.fz (.bl true)) → c [.scr ns] P PX) (H : Hp) (a : Addr) (ns : List Int) (hl : ns.length ≤ 63) (hS : SqL K H a (ns.map V.int)) :
    spP K c [.ref a] H (fun v _ => v = .bl true) fun _ _ _ => False :=
  ⟨H, [.scr ns], fun rv => rv = .fz (.bl true), fun _ => False, Same.refl _, .cons (.scr hS) .nil, h ns _ _ hl rfl, fun rv v F' H' e _ _ r => by
    subst e
    exact (show Rep K F' v (.bl true) from r).bl_inv, fun x F' H' cls dd z => z.elim⟩
theorem no_exc {p : Program} {w : World} {H : Hp} {s : Shared} {e : Value} {s' : Shared} (h : L2.CX p w [] H s (fun _ _ _ => False) e s') : False := by
  obtain ⟨_, _, _, _, _, _, _, _, _, _, _, _, z⟩ := h
  exact z
end G

/-! raise X('..'), try .. except X: -/
namespace G
open PySem PySem.Spec PyProof.Rows L2
/-- an own exception class, a child of ValueError, without own __init__ -/
structure ClsAt (K : PySem.W.Frag) (mg : Str → Option Value) (x : Str) (C : Addr) : Prop where
  e : PySem.W.excIn K C [.type "ValueError", .type "Exception", .type "BaseException", .type "object"] "ValueError.__new__" = true
  g : mg x = some (.ref C)
  k : PySem.W.keepIn K (.ref C) = true
  b : PySem.W.subIn K (.ref C) (.type "BaseException") = some true
  t : PySem.W.typeIn K (.ref C) = some (.type "type")
  i : PySem.W.isClsIn K C = true
theorem cls_mk {K : PySem.W.Frag} {h : Heap} {mg : Str → Option Value} {x : Str} {C : Addr} (X : K.In h) (G : h.Ns mainGlobals mg) (a : PySem.W.nsIn K mainGlobals x = some (some (.ref C)))
    (e : PySem.W.excIn K C [.type "ValueError", .type "Exception", .type "BaseException", .type "object"] "ValueError.__new__" = true) (k : PySem.W.keepIn K (.ref C) = true) (b : PySem.W.subIn K (.ref C) (.type "BaseException") = some true) (t : PySem.W.typeIn K (.ref C) = some (.type "type")) (i : PySem.W.isClsIn K C = true) : ClsAt K mg x C :=
  ⟨e, PySem.W.mg_of X G a, k, b, t, i⟩
abbrev ClsIn {K : PySem.W.Frag} {h : Heap} (_ : K.In h) (mg : Str → Option Value) (x : Str) (C : Addr) : Prop := ClsAt K mg x C
abbrev SubIn {K : PySem.W.Frag} {h : Heap} (_ : K.In h) (S C : Addr) (b : Bool) : Prop := PySem.W.subIn K (.ref S) (.ref C) = some b
theorem sub_mk {K : PySem.W.Frag} {h : Heap} {S C : Addr} {b : Bool} (X : K.In h) (q : PySem.W.subIn K (.ref S) (.ref C) = some b) : SubIn X S C b := q
/-- which of our exceptions a clause names -/
theorem exm_at {K : PySem.W.Frag} {mg : Str → Option Value} {x y : Str} {S C : Addr} {b : Bool} (h : ClsAt K mg x S) (h' : ClsAt K mg y C) (q : PySem.W.subIn K (.ref S) (.ref C) = some b) : PySem.W.exmOne K (.ref S) (.ref C) = some b := by
  have h1 : (PySem.W.subIn K (.ref C) (.type "BaseException") == some true) = true := by rw [h'.b]; rfl
  have h2 : (PySem.W.clsIn K C).isSome = true := h'.i
  unfold PySem.W.exmOne
  rw [if_pos h1]
  show (if ((PySem.W.clsIn K C).isSome && PySem.W.typeIn K (.ref C) == some (.type "type")) = true then PySem.W.subIn K (.ref S) (.ref C) else none) = some b
  rw [if_pos (by rw [h2, h'.t]; rfl)]
  exact q
/-- a clause that names one class, that is raised -/
def exPl (c : Addr) : Ex → Option Bool
  | .pl d => if d = c then some true else none
  | _ => none
theorem hm_one {K : PySem.W.Frag} {C : Addr} (h : PySem.W.exmOne K (.ref C) (.ref C) = some true) : ∀ y b, exPl C y = some b → ∀ H cls dd, ExR H y cls dd → PySem.W.exmOne K cls (.ref C) = some b := by
  intro y b e H cls dd r
  cases r with
  | pl c =>
    have e : (if c = C then some true else none) = some b := e
    by_cases z : c = C
    · rw [if_pos z] at e
      cases e
      rw [z]
      exact h
    · rw [if_neg z] at e
      cases e
  | fd _ => cases e
def exGo (o : Option Bool) (A B : Prop) : Prop := match o with
  | some true => A
  | some false => B
  | none => False
theorem exGo_self {c : Addr} {A B : Prop} (h : A) : exGo (exPl c (.pl c)) A B := by
  show exGo (if c = c then some true else none) A B
  rw [if_pos rfl]
  exact h
section
variable {X : Cx} {W : WX} {x m : Str} {j : Nat} {p p2 pos pos' np : Pos} {C : Addr}
def mRaise (C : Addr) (PD : PEnds) (ρ : List S) : Prop := PD.ex (.pl C) ρ
theorem gs_raise (T : ClsAt X.K X.mg x C) (hc : X.calm = true) (tk : Takes X W) (hg : Gl X x := by rfl) (hdb : (x == ("__debug__" : Str)) = false := by decide) :
    GS X W (.Raise (some (.Call (.Name x p) [.Constant (.str m) j p2] [] pos)) none pos') (mRaise C) :=
  ⟨ps_imp (ps_raise hc tk (pmk_own PySem.F.excBase_ValueError T.e T.g T.k (raises_own T.b T.t) hg hdb)) fun D σ H h => by
  obtain ⟨F, A, ρ, PD, r, h, q⟩ := h
  exact q.ex _ _ _ _ _ _ _ _ h Stp.refl r (.pl C)⟩
/-- what a clause says of an exception: ours, not ours -/
def mTry (f : Ex → Option Bool) (mb ms : MS) (PD : PEnds) (ρ : List S) : Prop := mb { PD with ex := fun x ρ' => exGo (f x) (Nxt ms PD ρ') (PD.ex x ρ') } ρ
theorem gs_try {body suite : List Stmt} {b₀ : Stmt} {mb ms : MS} {f : Ex → Option Bool} {c : Value} (hs : X.stack = X.env :: X.outer) (hf : X.env.frame = some X.env.locals) (hc : Names X x c) (tk : Takes X W)
    (hm : ∀ y b, f y = some b → ∀ H cls dd, ExR H y cls dd → PySem.W.exmOne X.K cls c = some b)
    (hb : ∀ (W' : WX) (pn : List (Addr × Obj)) (xe : Value → Shared → Prop), Takes (X.tr pn xe) W' → PassesOwn (model X.prog X.w) X.A X.env xe → GSs (X.tr pn xe) W' body mb)
    (hsu : ∀ (a : Addr) (pn : List (Addr × Obj)), GSs (X.suite a pn) W (b₀ :: suite) ms) :
    GS X W (.Try body [.ExceptHandler (some (.Name x np)) none (b₀ :: suite) pos'] [] [] pos) (mTry f mb ms) :=
  ⟨ps_imp (ps_try_only (tb := fun W' => liftS X.K W' mb) (ts := fun _ _ _ => liftS X.K W ms) hs hf hc tk (fun W' pn xe t1 p1 => (hb W' pn xe t1 p1).pss) (fun a oe cls d pn _ _ => (hsu a _).pss)) fun D σ H h => by
  obtain ⟨F, A, ρ, PD, r, h, q⟩ := h
  refine ⟨F, A, ρ, _, r, h, ⟨q.nx, q.rt, q.bk, q.ct, fun y ρ' σ' F' H' A' cls dd h1 s1 r1 e1 => ?_⟩⟩
  have h1 : exGo (f y) (Nxt ms PD ρ') (PD.ex y ρ') := h1
  cases ef : f y with
  | none => rw [ef] at h1; exact h1.elim
  | some b =>
    rw [ef] at h1
    refine ⟨b, hm y b ef _ _ _ e1, fun z => ?_, fun z => ?_⟩
    · subst z
      intro a _
      exact ⟨F', A', ρ', PD, r1, h1.go, q.step s1⟩
    · subst z
      exact q.ex _ _ _ _ _ _ _ _ h1 s1 r1 e1⟩
/-- four names at once -/
theorem gg_tup4 {i j l n : Nat} {e1 e2 e3 e4 : Expr} {k : Nat} (hc : X.calm = true) (h1 : GG X [i] e1 (gN i)) (h2 : GG X [j] e2 (gN j)) (h3 : GG X [l] e3 (gN l)) (h4 : GG X [n] e4 (gN n)) (hn : (assignEach [e1, e2, e3, e4] X.env).length = 4 := by rfl) (hst : (assignEach [e1, e2, e3, e4] X.env).findIdx? (·.1) = none := by rfl)
    (hs : (assignEach [e1, e2, e3, e4] X.env).map (·.2) = assign e1 X.env :: (assignEach [e2, e3, e4] X.env).map (·.2) := by rfl) (hs2 : (assignEach [e2, e3, e4] X.env).map (·.2) = assign e2 X.env :: (assignEach [e3, e4] X.env).map (·.2) := by rfl)
    (hs3 : (assignEach [e3, e4] X.env).map (·.2) = assign e3 X.env :: (assignEach [e4] X.env).map (·.2) := by rfl) (hs4 : (assignEach [e4] X.env).map (·.2) = assign e4 X.env :: (assignEach [] X.env).map (·.2) := by rfl) :
    GG X [i, j, l, n] (.Tuple [e1, e2, e3, e4] k pos) (gT (gCs (gN i) (gCs (gN j) (gCs (gN l) (gCs (gN n) gNl))))) :=
  gg_tup hc (ggs_cons h1 (ggs_cons h2 (ggs_cons h3 (ggs_cons h4 ggs_nil hs4) hs3) hs2) hs) rfl (gCs1_len (n := 3) (gCs1_len (n := 2) (gCs1_len (n := 1) (gCs1_len (n := 0) fun _ _ _ h => gNl_len h)))) hn hst
end
end G

/-! an exception with a field: raised, and caught by `except X as e: y = e.f` -/
namespace G
open PySem PySem.Spec PyProof.Rows L2
theorem RS.setU {K : PySem.W.Frag} {F H : Hp} {A : List Addr} {ρ : List S} {σ : L2.St} (r : RS K F H A ρ σ) (x : Option V) : ∀ i : Nat, ∃ A', (∀ p, p ∈ A' → p ∈ A) ∧ RS K F H A' (ρ.set i .un) (σ.set i x) := by
  induction r with
  | nil => intro i; exact ⟨[], fun _ h => h, by simpa using RS.nil⟩
  | un r0 ih => intro i; cases i with
    | zero => exact ⟨_, fun _ h => h, .un r0⟩
    | succ i => obtain ⟨A', s, r'⟩ := ih i; exact ⟨A', s, .un r'⟩
  | fz q0 r0 ih => intro i; cases i with
    | zero => exact ⟨_, fun _ h => h, .un r0⟩
    | succ i => obtain ⟨A', s, r'⟩ := ih i; exact ⟨A', s, .fz q0 r'⟩
  | ow e c n na t r0 ih => intro i; cases i with
    | zero => exact ⟨_, fun _ h => List.mem_cons_of_mem _ h, .un r0⟩
    | succ i =>
      obtain ⟨A', s, r'⟩ := ih i
      refine ⟨_ :: A', fun p h => ?_, .ow e c n (fun z => na (s _ z)) t r'⟩
      rcases List.mem_cons.mp h with z | z
      · rw [z]; exact List.mem_cons_self
      · exact List.mem_cons_of_mem _ (s p z)
theorem R.setU {K : PySem.W.Frag} {F H : Hp} {A : List Addr} {ρ : List S} {σ : L2.St} (r : R K F A ρ σ H) (x : Option V) (i : Nat) : ∃ A', Stp F H A F H A' ∧ R K F A' (ρ.set i .un) (σ.set i x) H := by
  obtain ⟨A', s, r'⟩ := r.rs.setU x i
  exact ⟨A', Stp.less s, r.same, r'⟩
theorem R.setI {K : PySem.W.Frag} {F H : Hp} {A : List Addr} {ρ : List S} {σ : L2.St} (r : R K F A ρ σ H) (j : Int) (i : Nat) : ∃ A', Stp F H A F H A' ∧ R K F A' (ρ.set i (.fz (.int j))) (σ.set i (some (.int j))) H := by
  obtain ⟨A', s, r'⟩ := r.rs.setF (.int j) i
  exact ⟨A', Stp.less s, r.same, r'⟩
section
variable {X : Cx} {W : WX} {x n y f : Str} {np p2 p3 ap pos pos' pos2 : Pos} {C : Addr}
/-- only exceptions of this one class, with this one field, a number -/
def mTryF (C : Addr) (f : Str) (i k : Nat) (mb : MS) (PD : PEnds) (ρ : List S) : Prop := mb { PD with ex := fun e ρ' => match e with
  | .fd c g (.int j) => c = C ∧ g = f ∧ i < ρ'.length ∧ PD.nx ((ρ'.set i .un).set k (.fz (.int j)))
  | _ => False } ρ
theorem gs_tryF {body : List Stmt} {mb : MS} {i k : Nat} (hik : i ≠ k) (hs : X.stack = X.env :: X.outer) (hf : X.env.frame = some X.env.locals) (hN : X.N.Nodup) (hi : X.N[i]? = some n) (hk : X.N[k]? = some y) (hln : X.env.kindOf n = some .local) (hc : Names X x (.ref C)) (tk : Takes X W)
    (hm : PySem.W.exmOne X.K (.ref C) (.ref C) = some true) (T : XfC X.K C) (hno : PySem.W.findIn X.K (.ref C) f = some none)
    (hv : Vis X.env.scope n := by first | exact Or.inl rfl | exact Or.inr (Or.inl rfl) | exact Or.inr (Or.inr rfl)) (hd : (n == ("__debug__" : Str)) = false := by decide) (hcd : (n == ("__classdict__" : Str)) = false := by decide)
    (hl : Loc X.env.scope y := by first | exact Or.inl rfl | exact Or.inr rfl) (hsw : swapsWith (.Attribute (.Name n p3) f ap) (some (.Name y p2)) pos2.line X.env = pure false := by rfl)
    (hfn : X.fn y = true ∨ X.env.scope.names.lookup y = some .local := by first | exact .inl rfl | exact .inr rfl) (hba : attributeBase (.Name n p3) f X.env (eval (.Name n p3) X.env) = eval (.Name n p3) X.env := by rfl)
    (hb : ∀ (W' : WX) (pn : List (Addr × Obj)) (xe : Value → Shared → Prop), Takes (X.tr pn xe) W' → PassesOwn (model X.prog X.w) X.A X.env xe → GSs (X.tr pn xe) W' body mb) :
    GS X W (.Try body [.ExceptHandler (some (.Name x np)) (some n) [.Assign [.Name y p2] (.Attribute (.Name n p3) f ap) pos2] pos'] [] [] pos) (mTryF C f i k mb) :=
  ⟨ps_imp (ps_try_as (tb := fun W' => liftS X.K W' mb) (ts := fun a cls d => tAsg (tXf a cls d C f (tVar i)) (gName k)) hs hf hN hi hln hc tk (fun W' pn xe t1 p1 => (hb W' pn xe t1 p1).pss)
    (fun a oe cls d pn hz hfl => pss_one (ps_set (X := X.suite a ((a, oe) :: pn)) hN hk hl (pe_xf T hno hz hfl (pe_var (X := X.suite a ((a, oe) :: pn)) hi hv hd hcd) hba) hsw hfn))) fun D σ H h => by
  obtain ⟨F, A, ρ, PD, r, h, q⟩ := h
  refine ⟨F, A, ρ, _, r, h, ⟨q.nx, q.rt, q.bk, q.ct, fun e ρ' σ' F' H' A' cls dd h1 s1 r1 e1 => ?_⟩⟩
  cases e1 with
  | pl c => exact h1.elim
  | @fd c g v d ed =>
    cases v with
    | int j =>
      obtain ⟨rfl, rfl, hlen, h1⟩ := h1
      refine ⟨true, hm, fun _ a _ => ?_, fun z => by cases z⟩
      have hlen : i < σ'.length := by rw [← r1.rs.length]; exact hlen
      obtain ⟨A2, s2, r2⟩ := r1.setU (some (.ref a)) i
      obtain ⟨A3, s3, r3⟩ := r2.setI j k
      obtain ⟨A4, s4, r4⟩ := r3.setU none i
      have ec : (((ρ'.set i .un).set k (.fz (.int j))).set i .un) = (ρ'.set i .un).set k (.fz (.int j)) := by
        rw [List.set_comm _ _ (Ne.symm hik), List.set_set]
      rw [ec] at r4
      refine ⟨.ref a, ?_, rfl, rfl, d, _, .int j, rfl, ed, by simp, ?_⟩
      · rw [List.getElem?_set_self hlen]
      · exact q.nx _ _ _ _ _ h1 (((s1.trans s2).trans s3).trans s4) r4
    | _ => exact h1.elim⟩
/-- R.__init__(self, ..), R an own class that has ValueError's -/
theorem pe_oinit {R : Addr} {e : Expr} {es : List Expr} {ta : TA} {p1 p2 pos : Pos} {pl : Sem Bool} (hg : Gl X x) (hm : X.mg x = some (.ref R)) (hga : PySem.W.specialIn X.K (.ref R) "__getattribute__" = some (some (.builtin "type.__getattribute__")))
    (hr : PySem.W.readsIn X.K R (.type "type") = true) (vV : PySem.W.findCls X.K (.ref R) (.type "type") "__init__" = some (.val (.builtin "ValueError.__init__"))) (ha : PA X (e :: es) ta) (hdb : (x == ("__debug__" : Str)) = false := by decide)
    (hc : eval (.Call (.Attribute (.Name x p1) "__init__" p2) (e :: es) [] pos) X.env = (do
      let ov ← eval (.Name x p1) X.env
      standAt p2.atName
      let (f, first) ← holding [ov] (getMethod ov "__init__" pl)
      callWith pos f first (backTo pos (starEach (e :: es) X.env)) (backToKw pos (keywordEach [] X.env))) := by rfl)
    (he : starEach (e :: es) X.env = (false, eval e X.env) :: starEach es X.env := by rfl) (hpl : (backTo pos (starEach es X.env)).any (·.1) = false := by rfl) :
    PE X (.Call (.Attribute (.Name x p1) "__init__" p2) (e :: es) [] pos) (tVeI X.K ta) := by
  refine ⟨fun pins s σ H Q I h => ?_⟩
  refine PySem.W.methodCall_KW (ld_glob I hg hm ?_ hdb) hc
  refine PySem.W.method_cls I.kIn hga (PySem.W.cls_value I.kIn hr vV (by decide +kernel) ?_)
  show wpAny _ _ (callWith pos (Value.builtin "ValueError.__init__") [] (backTo pos (starEach (e :: es) X.env)) []) _ _ _
  refine PyProof.Rows.callWith_method1 (thn (ha.run pos pins _ σ H _ (I.tok _) h) fun us s1 ⟨vs, H1, I1, r1, a, C, ws, ev, hl, T, ea, q⟩ => ?_) he hpl
  subst ev
  cases r1 with
  | @cons _ u0 _ ur ra rw' =>
    obtain rfl : u0 = Value.ref a := ra
    have hlen : ur.length ≤ sizeLine := by
      rw [← Paired.length rw', sizeLine_eq]
      omega
    exact oinit_ok T I1 ea hlen fun s' J => ⟨.non, H1, J, rfl, q⟩
/-- what an own __init__ of one field promises -/
def spInit (C : Addr) (f : Str) : Sp := fun vs H Q _ => ∃ (a : Addr) (v : V), vs = [.ref a, v] ∧ H a = some (exo a C none) ∧ ∀ dx, H dx = none → dx ≠ a → Q .non (upd (upd H dx (exd dx [(f, v)])) a (exo a C (some dx)))
theorem dV_inv {K : PySem.W.Frag} {F : Hp} {v v0 : V} {d : D} (r : Rep K F v d) (h : dV d = some v0) : v = v0 := by
  cases r <;> first | (exact Option.some.inj h) | (cases h)
def mRaiseF (C : Addr) (f : Str) (ma : ME) (PD : PEnds) (ρ : List S) : Prop := ma ρ (fun d ρ1 => match dV d with
  | some v => PD.ex (.fd C f v) ρ1
  | none => False) PD.ex
theorem gs_raiseF {e : Expr} {ma : ME} {fI : Addr} {fd : FuncData} {ps : List Str} {k : Nat} (T : OexC X.K C) (iC : PySem.W.findIn X.K (.ref C) "__init__" = some (some (.ref fI))) (tI : PySem.W.typeIn X.K (.ref fI) = some (.type "function"))
    (F1 : FnOk X.prog X.w X.K X.mg X.base CX0 k fI fd ps (spInit C f)) (hr : Room (k + 1) X.A) (hb : Binds X.K fd ps []) (hm : X.mg x = some (.ref C)) (hc : X.calm = true) (tk : Takes X W) (he : GE X W e ma) (hg : Gl X x := by rfl) (hdb : (x == ("__debug__" : Str)) = false := by decide)
    (hs : starEach [e] X.env = (false, eval e X.env) :: starEach [] X.env := by rfl) (hpl : (backTo pos (starEach [] X.env)).any (·.1) = false := by rfl) :
    GS X W (.Raise (some (.Call (.Name x p2) [e] [] pos)) none pos') (mRaiseF C f ma) :=
  ⟨ps_imp (ps_raise hc tk (pmk_oex T iC tI F1 hr hb .nil pass0 hg hm (pa_cons he.pe pa_nil hs) hdb hs hpl)) fun D σ H h => by
  obtain ⟨F, A, ρ, PD, r, h, q⟩ := h
  refine ⟨F, A, ρ, _, PD.ex, r, h, fun d ρ' v F' H' A' h1 s1 r1 q1 => ?_, q.xc σ⟩
  have h1 : (match dV d with | some v => PD.ex (.fd C f v) ρ' | none => False) := h1
  cases ed : dV d with
  | none => rw [ed] at h1; exact h1.elim
  | some v0 =>
    rw [ed] at h1
    obtain rfl := dV_inv q1 ed
    refine ⟨by show 1 ≤ 1000; decide, fun a ha => ⟨a, v, rfl, upd_same, fun dx hdx hne => ⟨rfl, dx, [(f, v)], ?_, ?_, ?_, ?_⟩⟩⟩
    · exact upd_same
    · rw [upd_ne hne, upd_same]
    · rwa [upd_ne hne] at hdx
    · have hdx' : H' dx = none := by rwa [upd_ne hne] at hdx
      have eH : upd (del (upd (upd (upd H' a (exo a C none)) dx (exd dx [(f, v)])) a (exo a C (some dx))) a) dx (.xd [(f, v)]) = upd H' dx (.xd [(f, v)]) := by
        funext b
        by_cases h1 : b = dx
        · rw [h1, upd_same, upd_same]
        · rw [upd_ne h1, upd_ne h1]
          by_cases h2 : b = a
          · rw [h2, del_same, ha]
          · rw [del_ne h2, upd_ne h2, upd_ne h1, upd_ne h2]
      rw [eH]
      have n := New.mk0 (F := F') (.xd [(f, v)]) r1.same hdx'
      exact q.ex _ _ _ _ _ _ _ _ h1 (s1.trans n.stp) (r1.new n) (.fd upd_same)⟩
end
end G

/-! isinstance(e, T), T a built-in type -/
namespace G
open PySem PySem.Spec PyProof.Rows L2
def tyN : D → Option String
  | .non => some "NoneType" | .bl _ => some "bool" | .int _ => some "int" | .str _ => some "str" | .lst _ => some "list" | .tup _ => some "tuple" | .scr _ => none
theorem Rep.ty {K : PySem.W.Frag} {F H : Hp} {v : V} {d : D} {t : String} (s : Same F H) (r : Rep K F v d) (h : tyN d = some t) : TyX K H v (.type t) := by
  cases r with
  | non => cases h; exact .base .non
  | bl b => cases h; exact .base (.bl b)
  | int i => cases h; exact .base (.int i)
  | str x => cases h; exact .base (.str x)
  | lst e _ => cases h; exact .base (.lst (s _ _ e))
  | tup e _ => cases h; exact .base (.tup (s _ _ e))
  | scr _ => cases h
section
variable {X : Cx} {W : WX} {e : Expr} {x : Str} {p pT pos : Pos} {ma : ME} {T : String}
def mIsi (T : String) (ma : ME) (ρ : List S) (P : D → List S → Prop) (PX : XP) : Prop := ma ρ (fun d ρ1 => ∃ t b, tyN d = some t ∧ kitB t T = some b ∧ P (.bl b) ρ1) PX
theorem ge_isi (hi : X.mg "isinstance" = none) (hm : X.mg x = none) (he : GE X W e ma) (hv : bootBuiltins x = some (.type T) := by decide +kernel) (hg : Gl X "isinstance" := by rfl) (hgx : Gl X x := by rfl) (hn : x ≠ "__name__" := by decide) (hdb : (x == ("__debug__" : Str)) = false := by decide)
    (h1 : starEach [e, .Name x pT] X.env = (false, eval e X.env) :: starEach [.Name x pT] X.env := by rfl) (h2 : starEach [.Name x pT] X.env = (false, eval (.Name x pT) X.env) :: starEach [] X.env := by rfl) (hpl : (backTo pos (starEach [.Name x pT] X.env)).any (·.1) = false := by rfl) :
    GE X W (.Call (.Name "isinstance" p) [e, .Name x pT] [] pos) (mIsi T ma) :=
  ⟨pe_imp (pe_callB call_isi hg hi (by decide +kernel) (pa_cons he.pe (pa_cons (pe_bltn (v := .ty T) hgx hm hv rfl hn hdb) pa_nil h2) h1) (by decide) (by decide) h1 hpl) fun σ H Q h => by
  obtain ⟨F, A, ρ, P, PX, r0, hm', hP, hX⟩ := h
  refine ⟨F, A, ρ, _, PX, r0, hm', fun d ρ1 v F1 H1 A1 k1 s1 r1 q1 => ?_, hX⟩
  obtain ⟨t, b, e1, e2, k1⟩ := k1
  exact ⟨v, .ty T, .type t, .type T, b, rfl, .ty T, q1.ty r1.same e1, kit_ty e2, hP _ _ _ _ _ _ k1 s1 r1 (.bl b)⟩⟩
/-- isinstance(e, (T, U)) -/
def mIsi2 (T U : String) (ma : ME) (ρ : List S) (P : D → List S → Prop) (PX : XP) : Prop := ma ρ (fun d ρ1 => ∃ t b c, tyN d = some t ∧ kitB t T = some b ∧ kitB t U = some c ∧ P (.bl (b || c)) ρ1) PX
theorem ge_isi2 {y : Str} {U : String} {k : Nat} {pU tpos : Pos} (hi : X.mg "isinstance" = none) (hm : X.mg x = none) (hm2 : X.mg y = none) (he : GE X W e ma) (hv : bootBuiltins x = some (.type T) := by decide +kernel) (hv2 : bootBuiltins y = some (.type U) := by decide +kernel) (hg : Gl X "isinstance" := by rfl) (hgx : Gl X x := by rfl) (hgy : Gl X y := by rfl)
    (hn : x ≠ "__name__" := by decide) (hdb : (x == ("__debug__" : Str)) = false := by decide) (hn2 : y ≠ "__name__" := by decide) (hdb2 : (y == ("__debug__" : Str)) = false := by decide)
    (h1 : starEach [e, .Tuple [.Name x pT, .Name y pU] k tpos] X.env = (false, eval e X.env) :: starEach [.Tuple [.Name x pT, .Name y pU] k tpos] X.env := by rfl) (h2 : starEach [.Tuple [.Name x pT, .Name y pU] k tpos] X.env = (false, eval (.Tuple [.Name x pT, .Name y pU] k tpos) X.env) :: starEach [] X.env := by rfl)
    (h3 : starEach [.Name x pT, .Name y pU] X.env = (false, eval (.Name x pT) X.env) :: starEach [.Name y pU] X.env := by rfl) (h4 : starEach [.Name y pU] X.env = (false, eval (.Name y pU) X.env) :: starEach [] X.env := by rfl)
    (hpl : (backTo pos (starEach [.Tuple [.Name x pT, .Name y pU] k tpos] X.env)).any (·.1) = false := by rfl) :
    GE X W (.Call (.Name "isinstance" p) [e, .Tuple [.Name x pT, .Name y pU] k tpos] [] pos) (mIsi2 T U ma) :=
  ⟨pe_imp (pe_callB call_isiT hg hi (by decide +kernel) (pa_cons he.pe (pa_cons (pe_tup (pa_cons (pe_bltn (v := .ty T) hgx hm hv rfl hn hdb) (pa_cons (pe_bltn (v := .ty U) hgy hm2 hv2 rfl hn2 hdb2) pa_nil h4) h3)) pa_nil h2) h1) (by decide) (by decide) h1 hpl) fun σ H Q h => by
  obtain ⟨F, A, ρ, P, PX, r0, hm', hP, hX⟩ := h
  refine ⟨F, A, ρ, _, PX, r0, hm', fun d ρ1 v F1 H1 A1 k1 s1 r1 q1 => ?_, hX⟩
  obtain ⟨t, b, c, e1, e2, e3, k1⟩ := k1
  refine ⟨by show 2 ≤ sizeLine; rw [sizeLine_eq]; omega, fun tp htp => ?_⟩
  have n := New.mk1 (.tup [.ty T, .ty U]) r1.same htp
  have ka : PySem.W.kitAny X.K (.type t) [.type T, .type U] = some (b || c) := by
    refine kitAny_cons (kit_ty e2) (fun z => ?_) (fun z => by rw [z]; rfl)
    refine kitAny_cons (kit_ty e3) (fun z2 => by rw [z, z2]; rfl) (fun z2 => by rw [z, z2]; rfl)
  exact ⟨v, tp, [.ty T, .ty U], .type t, [.type T, .type U], b || c, rfl, upd_same, .cons (.ty T) (.cons (.ty U) .nil), (q1.mono n.ext).ty n.sm e1, ka, hP _ _ _ _ _ _ k1 (s1.trans n.stp) (r1.new n) (.bl _)⟩⟩
end
end G

/-! enumerate(tuple) -/
namespace G
open PySem PySem.Spec PyProof.Rows L2
theorem meets_enumerate_newB1 {v : Value} {o : Obj} {H : Heap → Prop} (B : Begins v o H) :
    Meets (Builtin.«enumerate.__new__» ⟨[.type "enumerate", v], []⟩) (fun _ R s => H s.heap ∧
      R (.ok (.ret (.ref (s.heap.push o).objs.size))) { s with heap := (s.heap.push o).push { cls := .type "enumerate", data := .fields #[.none, .bool false, .ref s.heap.objs.size, rawInt 0, .none, .none] } }) :=
  .of_wp fun prog w A R s h => by
    obtain ⟨hp, g, d, tk, os⟩ := s; obtain ⟨h1, h⟩ := h
    have hsub := sub_enumerate
    have q1 : ∀ {A' : Around} {E : Value → Shared → Prop} {Q : Value → Shared → Prop}, Q (.ref hp.objs.size) ⟨hp.push o, g, d, tk, os⟩ → wpAny (model prog w) A' (pyIter v) Q E ⟨hp, g, d, tk, os⟩ :=
      fun q => B.iter prog w _ _ ⟨hp, g, d, tk, os⟩ _ h1 q
    wp_walk using q1
    refine wpAny_stack_any fun st => wpAny_pure ?_
    split
    · rename_i c _ _ _ _ _
      cases (c == Value.type "enumerate")
      · wp_walk using q1
        exact ⟨_, rfl, h⟩
      · wp_walk using q1
        exact ⟨_, rfl, h⟩
    · wp_walk using q1
      exact ⟨_, rfl, h⟩
section
variable {prog : Program} {w : World} {A : Around} {E : Value → Shared → Prop} {s : Shared}
theorem enum_begins1 {v : Value} {o : Obj} {H : Heap → Prop} {Q : Value → Shared → Prop} (B : Begins v o H) (h1 : H s.heap)
    (h : ∀ h', IsEnum h' (s.heap.objs.size + 1) s.heap.objs.size 0 .none → h'.get? s.heap.objs.size = some o → h'.objs.size = s.heap.objs.size + 2 →
      (∀ b o, s.heap.get? b = some o → h'.get? b = some o) → Q (.ref (s.heap.objs.size + 1)) { s with heap := h' }) :
    wpAny (model prog w) A (call (.type "enumerate") [v]) Q E s := by
  refine callType_new F.called_enumerate (by decide) (F.typeCall_enumerate_1 _) (F.newCall_enumerate_1 _) (fun obj => F.args_object_init_2 obj _) F.entry_enumerate_new
    (meets_enumerate_newB1 B) ⟨h1, ?_⟩
  have hz : (s.heap.push o).objs.size = s.heap.objs.size + 1 := Heap.size_push ..
  show _ ∧ _
  rw [hz]
  have he : IsEnum ((s.heap.push o).push { cls := .type "enumerate", data := .fields #[.none, .bool false, .ref s.heap.objs.size, rawInt 0, .none, .none] }) (s.heap.objs.size + 1) s.heap.objs.size 0 .none := by
    have := Heap.get?_push_size (s.heap.push o) (o := { cls := .type "enumerate", data := .fields #[.none, .bool false, .ref s.heap.objs.size, rawInt 0, .none, .none] }) rfl
    rw [hz] at this; exact this
  refine ⟨⟨_, he, rfl⟩, h _ he (Heap.get?_push_of_some _ (Heap.get?_push_size _ B.free)) (by rw [Heap.size_push, hz]) fun b o x => Heap.get?_push_of_some _ (Heap.get?_push_of_some _ x)⟩
end
def Itet (K : PySem.W.Frag) (a : Addr) : It :=
  ⟨fun i H => ∃ (xs : List V) (x : V), SqT K H a xs ∧ xs[i]? = some x, fun i H v H' => ∃ T x, v = .ref T ∧ H T = none ∧ H' = upd H T (.tup [.int (i : Nat), x]) ∧ ∀ xs, SqT K H a xs → xs[i]? = some x, fun i H => ∃ xs : List V, SqT K H a xs ∧ xs.length ≤ i⟩
theorem turn_enumT {P : Program} {w : World} {K : PySem.W.Frag} {elts : List Expr} {kk : Nat} {tpos : Pos} (a e it : Addr) :
    Turn P w K (.Tuple elts kk tpos) (Itet K a) [e, it] e (fun i h => (∃ old, IsEnum h e it ((i : Nat) : Int) old) ∧ h.IsTupleIter it a i ∧ e ≠ it) where
  mem := by simp
  obj := fun i h st b hb => by
    obtain ⟨⟨old, he⟩, ⟨o, ho, hc, hd⟩, _⟩ := st
    have e' : b = e ∨ b = it := by simpa using hb
    rcases e' with z | z
    · rw [z]; exact ⟨_, he, fun v q => nomatch q⟩
    · rw [z]; exact ⟨o, ho, fun v q => by rw [hd] at q; cases q⟩
  keep := fun i h h' st k => let ⟨⟨old, he⟩, hi, hne⟩ := st; ⟨⟨old, k e (by simp) _ he⟩, hi.at fun o q => k it (by simp) o q, hne⟩
  item := by
    intro X hP hw hK hc i pins s σ H E I hf st hg
    subst hP hw hK
    obtain ⟨⟨old, he⟩, hit, hne⟩ := st
    obtain ⟨xs, x, hq, hx⟩ := hg
    obtain ⟨its, rv, p, hz⟩ := I.tuple hq
    obtain ⟨u, hu, ru⟩ := rv.get hx
    have pT : s.heap.IsTuple a its.toArray := p
    have hai : a ≠ it := by
      intro z
      obtain ⟨o1, q1, c1, d1⟩ := hit
      obtain ⟨o2, q2, c2, _⟩ := pT
      rw [z, q1] at q2
      cases q2
      rw [c1] at c2
      exact absurd c2 (by decide)
    have hae : a ≠ e := by
      intro z
      obtain ⟨o2, q2, c2, _⟩ := pT
      have he2 : s.heap.get? e = some _ := he
      rw [z, he2] at q2
      cases q2
      exact absurd (show Value.type "enumerate" = Value.type "tuple" from c2) (by decide)
    have D : Draws X.prog X.w X.A.in1 it [it, a] its.toArray.size (fun i v => its.toArray[i]? = some v) (fun i h => h.IsTupleIter it a i ∧ h.IsTuple a its.toArray) := Draws.tuple (A := X.A.in1) (show X.A.handled = none from I.ok.hd hc) it a hai its.toArray
    have hel : e < s.heap.objs.size := Heap.lt_size he
    have hil : it < s.heap.objs.size := by obtain ⟨_, q, _⟩ := hit; exact Heap.lt_size q
    have hlt : i < its.toArray.size := by
      have := (List.getElem?_eq_some_iff.mp hu).1
      simpa using this
    refine wpAny_pyNext_enum_itemD D he ⟨hit, pT⟩ hlt hne (by simp; exact ⟨hne, fun z => hae z.symm⟩) fun u2 h' tk hu2 ho hit' hT hsz hk => ?_
    have eu : u2 = u := by
      have q : its[i]? = some u2 := by simpa using hu2
      exact Option.some.inj (q.symm.trans hu)
    subst eu
    refine ⟨_, rfl, wpAny_letOwnedTupleGo_enum (s := { s with heap := h', toks := tk + 1 }) ho fun h'' he' sb => ?_⟩
    have hT2 : h''.get? s.heap.objs.size = some { cls := .type "tuple", data := .seq #[.int i tk, u2] } := (sb.2 _ (Nat.ne_of_gt hel)).trans hT
    have new : ObjOk X.prog X.w (upd H s.heap.objs.size (.tup [.int (i : Nat), x])) h'' s.heap.objs.size (.tup [.int (i : Nat), x]) :=
      ⟨by show 2 ≤ sizeLine; decide, [.int i tk, u2], .cons ⟨_, rfl⟩ (.cons ru .nil), ⟨_, hT2, rfl, _, rfl⟩⟩
    have I1 : Inv X pins σ (upd H s.heap.objs.size (.tup [.int (i : Nat), x])) { s with heap := h'', toks := tk + 1 } :=
      I.turnedNew (ch := [e, it]) (fun b ob hb q => (sb.2 b (fun z => hb (by simp [z]))).trans (hk b ob (fun z => hb (by simp [z])) (fun z => hb (by simp [z])) q)) hf (Nat.le_refl _) new
    refine ⟨.ref s.heap.objs.size, _, I1, rfl, ⟨_, x, rfl, I.hok.fresh (Nat.le_refl _), rfl, fun ys hy => by rw [I.tuple_inj hy hq]; exact hx⟩, ⟨⟨u2, ?_⟩, hit'.1.at fun o q => (sb.2 it (Ne.symm hne)).trans q, hne⟩, fun b hb => ?_⟩
    · have e1 : ((i + 1 : Nat) : Int) = (i : Int) + 1 := by omega
      rw [e1]; exact he'
    · have hb' : b < s.heap.objs.size := by
        have e' : b = e ∨ b = it := by simpa using hb
        rcases e' with z | z
        · rw [z]; exact hel
        · rw [z]; exact hil
      rw [upd_ne (Nat.ne_of_lt hb')]
      exact (hf b hb).1
  done := by
    intro X hP hw hK hc i pins s σ H E I hf st hg
    subst hP hw hK
    obtain ⟨⟨old, he⟩, hit, hne⟩ := st
    obtain ⟨xs, hq, hx⟩ := hg
    obtain ⟨its, rv, p, hz⟩ := I.tuple hq
    obtain ⟨f0, f1, f2, f3, f4, f5⟩ := hf it (by simp)
    have pT : s.heap.IsTuple a its.toArray := p
    have hai : a ≠ it := by
      intro z
      obtain ⟨o1, q1, c1, d1⟩ := hit
      obtain ⟨o2, q2, c2, _⟩ := pT
      rw [z, q1] at q2
      cases q2
      rw [c1] at c2
      exact absurd c2 (by decide)
    have hl := rv.length
    have hh : X.A.in1.handled = none := I.ok.hd hc
    have D : Draws X.prog X.w X.A.in1 it [it, a] i (fun _ _ => True) (fun j h => j = i ∧ h.IsTupleIter it a i ∧ h.IsTuple a its.toArray) :=
      { live := fun _ _ st => let ⟨o, ho, _⟩ := st.2.1; ⟨o, ho⟩
        frame := fun _ _ _ st hk => ⟨st.1, st.2.1.at fun o e => hk it (by simp) o e, st.2.2.at fun o e => hk a (by simp) o e⟩
        item := fun j s Q E hi st hQ => absurd st.1 (Nat.ne_of_lt hi)
        done := fun s Q E st hE => wpAny_nextOf_tuple_end hh st.2.1 st.2.2 (by simp; omega) hE }
    exact wpAny_pyNext_enum_endD D he ⟨rfl, hit, pT⟩ fun h' eb => ⟨rfl, I.turned (t' := s.toks) (it := it) (fun b o hb q => eb b o hb q) f0 f1 f3 f4 f5⟩
  self := fun A i s Q E st h => let ⟨⟨_, he⟩, _⟩ := st; wpAny_pyIter_enum he h
def iEnumT (K : PySem.W.Frag) (ta : TA) : TI := fun σ H R => ta σ H fun vs H1 => ∃ a xs, vs = [.ref a] ∧ SqT K H1 a xs ∧ R (Itet K a) H1
theorem pi_enumT {X : Cx} {e : Expr} {ta : TA} {p pos tpos : Pos} {elts : List Expr} {kk : Nat} (hg : Gl X "enumerate") (hm : X.mg "enumerate" = none) (ha : PA X [e] ta) (hs : starEach [e] X.env = [(false, eval e X.env)] := by rfl) :
    PI X (.Tuple elts kk tpos) (.Call (.Name "enumerate" p) [e] [] pos) (iEnumT X.K ta) := by
  refine ⟨fun pins s σ H R I h => ?_⟩
  refine Call_ (ld_blt I hg hm boot_enumerate (PyProof.Rows.callWith_type1 (thn (ha.run pos pins s σ H _ I h) fun us s1 ⟨vs, H1, I1, r1, q1⟩ => ?_) hs rfl))
  obtain ⟨a, xs, ex, hq, q⟩ := q1
  subst ex
  cases r1 with
  | cons r rr =>
    cases rr
    cases r
    obtain ⟨its, rv, p', hz⟩ := I1.tuple hq
    refine enum_begins1 (begins_tuple a its.toArray) p' fun h' he hit hsz hk => wpAny_pyIter_enum he ?_
    have I2 : Inv X pins σ H1 { s1 with heap := h' } := I1.kept (t' := s1.toks) hk
    refine ⟨s1.heap.objs.size + 1, [s1.heap.objs.size + 1, s1.heap.objs.size], _, _, H1, rfl, I2, turn_enumT a (s1.heap.objs.size + 1) s1.heap.objs.size, ⟨⟨.none, he⟩, ⟨_, hit, rfl, rfl⟩, Nat.succ_ne_self _⟩, fun b hb => ?_, q⟩
    have e' : b = s1.heap.objs.size + 1 ∨ b = s1.heap.objs.size := by simpa using hb
    have hle : s1.heap.objs.size ≤ b := by
      rcases e' with z | z
      · rw [z]; exact Nat.le_add_right _ _
      · rw [z]; exact Nat.le_refl _
    exact I1.fpOk hle (I1.hok.fresh hle)
theorem isIt_enumT {K : PySem.W.Frag} {F : Hp} {a : Addr} {vs : List V} {ds : List D} (e : F a = some (.tup vs)) (r : Reps K F vs ds) : IsIt K F (Itet K a) (enumD ds) := by
  intro i F2 H s1 s2
  have hq : SqT K H a vs := .of (s2 _ _ (s1 _ _ e))
  have hl : (enumD ds).length = ds.length := by simp [enumD]
  refine ⟨fun h => ?_, fun h => ⟨vs, hq, by rw [r.length, ← hl]; exact h⟩⟩
  have h0 : i < ds.length := by rw [← hl]; exact h
  obtain ⟨v, h1, h2⟩ := r.get i (List.getElem?_eq_getElem h0)
  refine ⟨⟨vs, v, hq, h1⟩, fun x H' y => ?_⟩
  obtain ⟨T, x', rfl, hT, rfl, y⟩ := y
  have : x' = v := Option.some.inj ((y vs hq).symm.trans h1)
  subst this
  have n := New.mk1 (.tup [.int (i : Nat), x']) s2 hT
  refine ⟨_, n, ?_⟩
  have e : (enumD ds)[i] = D.tup [.int (i : Nat), ds[i]] := by simp [enumD, h0]
  rw [e]
  exact .tup upd_same (.cons (.int _) (.cons ((h2.mono s1).mono n.ext) .nil))
section
variable {X : Cx} {W : WX} {e a b : Expr} {es elts : List Expr} {x : Str} {p p2 pos tpos : Pos} {kk : Nat} {ma mb : ME} {mas : MA} {st : Stmt} {ms : MS}
def iEnT (m : MA) (ρ : List S) (P : List D → List S → Prop) (PX : XP) : Prop := m ρ (fun ds ρ1 => match ds with | [.tup ds] => P (enumD ds) ρ1 | _ => False) PX
theorem gi_enumT (hm : X.mg "enumerate" = none) (ha : GA X W [e] mas) (hg : Gl X "enumerate" := by rfl) (hs : starEach [e] X.env = [(false, eval e X.env)] := by rfl) : GI X W (.Tuple elts kk tpos) (.Call (.Name "enumerate" p) [e] [] pos) (iEnT mas) := ⟨⟨fun pins s σ H Q I h => by
  obtain ⟨F, A, ρ, P, PX, r, hm', hP, hX⟩ := h
  refine (pi_enumT hg hm (ha.pa) hs).run pins s σ H Q I ⟨F, A, ρ, _, PX, r, hm', fun ds ρ' vs F' H' A' h1 s1 r1 q1 => ?_, hX⟩
  split at h1
  · cases q1 with
    | cons q1 q2 =>
      cases q2
      obtain ⟨a, vs, rfl, e2, r2⟩ := q1.tup_inv
      exact ⟨a, vs, rfl, .of (r1.same _ _ e2), hP _ _ _ _ _ _ h1 s1 r1 (isIt_enumT e2 r2)⟩
  · exact h1.elim⟩⟩
end
end G

/-! an own exception class with an own __init__ of one field, over RunError: what stands in the written heap -/
namespace G
open PySem PySem.Spec PyProof.Rows L2
structure OwnAt (K : PySem.W.Frag) (mg : Str → Option Value) (x qi fld : Str) (C : Addr) (st : Stmt) : Prop where
  ex : ∃ fi fd br, Fun K "__init__" qi st fi fd ∧ OexC K C ∧ PySem.W.findIn K (.ref C) "__init__" = some (some (.ref fi)) ∧ PySem.W.typeIn K (.ref fi) = some (.type "function") ∧ mg x = some (.ref C) ∧ PySem.W.exmOne K (.ref C) (.ref C) = some true ∧ XfC K C ∧
    PySem.W.findIn K (.ref C) fld = some none ∧ mg "RunError" = some (.ref br) ∧ PySem.W.specialIn K (.ref br) "__getattribute__" = some (some (.builtin "type.__getattribute__")) ∧ PySem.W.readsIn K br (.type "type") = true ∧ PySem.W.findCls K (.ref br) (.type "type") "__init__" = some (.val (.builtin "ValueError.__init__"))
theorem exm_own {K : PySem.W.Frag} {S : Addr} (h1 : PySem.W.subIn K (.ref S) (.type "BaseException") = some true) (h2 : PySem.W.isClsIn K S = true) (h3 : PySem.W.typeIn K (.ref S) = some (.type "type")) (h4 : PySem.W.subIn K (.ref S) (.ref S) = some true) : PySem.W.exmOne K (.ref S) (.ref S) = some true := by
  have e1 : (PySem.W.subIn K (.ref S) (.type "BaseException") == some true) = true := by rw [h1]; rfl
  have h2' : (PySem.W.clsIn K S).isSome = true := h2
  unfold PySem.W.exmOne
  rw [if_pos e1]
  show (if ((PySem.W.clsIn K S).isSome && PySem.W.typeIn K (.ref S) == some (.type "type")) = true then PySem.W.subIn K (.ref S) (.ref S) else none) = some true
  rw [if_pos (by rw [h2', h3]; rfl)]
  exact h4
theorem own_mk {K : PySem.W.Frag} {h : Heap} {mg : Str → Option Value} {x qi fld nm q : Str} {C N fi br : Addr} {st : Stmt} {bs bm : List Value} {sn : List Str} {sub : List Value} {ab : Bool} {col : Option Bool} {dd : Option Addr} {m0 m1 m2 m3 m5 : Option Value}
    {oc : Value} {od an : Option Addr} {osl : Array (Option Value)} {kV doc pm cdv ct : Value} (X : K.In h) (G : h.Ns mainGlobals mg)
    (aC : PySem.W.nsIn K mainGlobals x = some (some (.ref C))) (xL : K.lookup C = some (excClassObj nm q C N bs bm true sn sub ab col dd m0 m1 m2 m3 m5 "ValueError.__new__")) (rv : PySem.HandSPX.refsVE bm = true)
    (sa : PySem.W.findIn K (.ref C) "__setattr__" = some (some (.builtin "object.__setattr__"))) (ga : PySem.W.findIn K (.ref C) "__getattribute__" = some (some (.builtin "BaseException.__getattribute__"))) (gg : PySem.W.findIn K (.ref C) "__getattr__" = some none) (nb : PySem.W.findIn K (.ref C) fld = some none)
    (a1 : PySem.W.findIn K (.ref C) "__init__" = some (some (.ref fi))) (t1 : PySem.W.typeIn K (.ref fi) = some (.type "function"))
    (l1 : K.lookup fi = some ⟨oc, od, .func (PySem.W.fnOf "__init__" qi (defArgs st) (defBody st) (defScope st) .none kV doc pm an cdv ct), osl⟩) (c1 : PySem.W.codeIn K cdv qi = true) (k1 : PySem.W.keepIn K (.ref fi) = true)
    (kC : PySem.W.keepIn K (.ref C) = true) (eC : PySem.W.subIn K (.ref C) (.type "BaseException") = some true) (tC : PySem.W.typeIn K (.ref C) = some (.type "type")) (hC : PySem.W.hasDictIn K C = true) (iC : PySem.W.isClsIn K C = true) (sC : PySem.W.subIn K (.ref C) (.ref C) = some true)
    (aR : PySem.W.nsIn K mainGlobals "RunError" = some (some (.ref br))) (sb : PySem.W.specialIn K (.ref br) "__getattribute__" = some (some (.builtin "type.__getattribute__"))) (rb : PySem.W.readsIn K br (.type "type") = true)
    (cb : PySem.W.findCls K (.ref br) (.type "type") "__init__" = some (.val (.builtin "ValueError.__init__"))) : OwnAt K mg x qi fld C st :=
  ⟨fi, _, br, fun_mk l1 c1 k1, ⟨⟨nm, q, N, bs, bm, sn, sub, ab, col, dd, m0, m1, m2, m3, m5, xL, rv⟩, sa, eC, tC, kC⟩, a1, t1, PySem.W.mg_of X G aC, exm_own eC iC tC sC, ⟨ga, gg, eC, hC⟩, nb, PySem.W.mg_of X G aR, sb, rb, cb⟩
abbrev OwnIn {K : PySem.W.Frag} {h : Heap} (_ : K.In h) (mg : Str → Option Value) (x qi fld : Str) (C : Addr) (st : Stmt) : Prop := OwnAt K mg x qi fld C st
end G

/-! rows of bits as lists of truths -/
namespace G
open PySem PySem.Spec PyProof.Rows L2
def bc (b : Bool) : Nat := if b then 49 else 48
def bs (l : List Bool) : Str := ⟨(l.map bc).toArray⟩
theorem bs_cps (l : List Bool) : (bs l).cps.toList = l.map bc := by simp [bs]
theorem bs_len (l : List Bool) : (bs l).length = l.length := by simp [bs, Str.length]
theorem bs_app (a b : List Bool) : bs a ++ bs b = bs (a ++ b) := by
  show Str.mk ((bs a).cps ++ (bs b).cps) = bs (a ++ b)
  simp [bs]
theorem bc_inj {a b : Bool} (h : bc a = bc b) : a = b := by cases a <;> cases b <;> first | rfl | (exact absurd h (by decide))
theorem map_bc_inj : ∀ {a b : List Bool}, a.map bc = b.map bc → a = b
  | [], [], _ => rfl
  | [], _ :: _, h => by simp at h
  | _ :: _, [], h => by simp at h
  | x :: a, y :: b, h => by
    simp only [List.map_cons, List.cons.injEq] at h
    rw [bc_inj h.1, map_bc_inj h.2]
theorem bs_inj {a b : List Bool} (h : bs a = bs b) : a = b := map_bc_inj (by rw [← bs_cps, ← bs_cps, h])
theorem bs_eq {a b : List Bool} : (bs a = bs b) = (a = b) := propext ⟨bs_inj, fun h => by rw [h]⟩
def sb (b : Bool) : D := .str (bs [b])
theorem sb_cp (b : Bool) : D.str ⟨#[bc b]⟩ = sb b := rfl
theorem signs_bs (l : List Bool) : signs (bs l) = l.map sb := by
  unfold signs
  rw [bs_cps, List.map_map]
  rfl
theorem cutS_bs (l : List Bool) (lo hi : Option Int) : cutS (bs l) lo hi = bs (cutD l lo hi) := by
  unfold cutS cutD
  rw [bs_cps, bs_len, ← List.map_drop, ← List.map_take]
  rfl
/-- the bit's int -/
def bi (b : Bool) : Int := if b then 1 else 0
theorem int_bs (b : Bool) : PySem.intText? (bs [b]) = some (bi b) := by cases b <;> decide +kernel
theorem lit0 : ("0" : Str) = bs [false] := by decide +kernel
theorem lit1 : ("1" : Str) = bs [true] := by decide +kernel
theorem lit10 : ("10" : Str) = bs [true, false] := by decide +kernel
theorem lit01 : ("01" : Str) = bs [false, true] := by decide +kernel
theorem litE : ("" : Str) = bs [] := by decide +kernel
theorem repS_bs (b : Bool) (n : Int) : repS (bs [b]) n = bs (List.replicate n.toNat b) := by
  unfold repS
  rw [bs_cps]
  have : ∀ k, (List.replicate k ([b].map bc)).flatten = (List.replicate k b).map bc := fun k => by
    induction k with
    | zero => rfl
    | succ k ih => rw [List.replicate_succ, List.flatten_cons, ih, List.replicate_succ]; rfl
  rw [this]
  rfl
theorem join_bs (ls : List (List Bool)) : Txt.join (bs []) (ls.map bs) = bs ls.flatten := by
  have fold : ∀ (ls : List (List Bool)) (a : List Bool), (ls.map bs).foldl (fun acc p => acc ++ (bs []).cps ++ p.cps) (bs a).cps = (bs (a ++ ls.flatten)).cps := fun ls => by
    induction ls with
    | nil => intro a; simp
    | cons x r ih =>
      intro a
      rw [List.map_cons, List.foldl_cons]
      have e : (bs a).cps ++ (bs []).cps ++ (bs x).cps = (bs (a ++ x)).cps := by simp [bs]
      rw [e, ih, List.flatten_cons, List.append_assoc]
  cases ls with
  | nil => rfl
  | cons x r =>
    show Str.mk ((r.map bs).foldl (fun acc q => acc ++ (bs []).cps ++ q.cps) (bs x).cps) = _
    rw [fold, List.flatten_cons]
theorem cutD_to {α : Type} (l : List α) (n : Nat) : cutD l none (some (n : Int)) = l.take n := by
  unfold cutD
  rw [HT.sIx_none, HT.sIx_nat]
  simp only [List.drop_zero, Nat.sub_zero]
  rw [List.take_eq_take_iff]
  omega
theorem cutD_from {α : Type} (l : List α) (n : Nat) : cutD l (some (n : Int)) none = l.drop n := by
  unfold cutD
  rw [HT.sIx_none, HT.sIx_nat]
  rw [List.take_of_length_le (by rw [List.length_drop]; omega)]
  by_cases h : n ≤ l.length
  · rw [Nat.min_eq_left h]
  · rw [Nat.min_eq_right (by omega), List.drop_of_length_le (by omega), List.drop_of_length_le (by omega)]
theorem cutD_mid {α : Type} (l : List α) (n m : Nat) : cutD l (some (n : Int)) (some (m : Int)) = (l.drop n).take (m - n) := by
  unfold cutD
  rw [HT.sIx_nat, HT.sIx_nat]
  by_cases h : n ≤ l.length
  · rw [Nat.min_eq_left h]
    by_cases h2 : m ≤ l.length
    · rw [Nat.min_eq_left h2]
    · rw [Nat.min_eq_right (by omega), List.take_of_length_le (by rw [List.length_drop]; omega), List.take_of_length_le (by rw [List.length_drop]; omega)]
  · rw [Nat.min_eq_right (show l.length ≤ n by omega), List.drop_of_length_le (by omega), List.drop_of_length_le (by omega)]
    simp
/-- the last n signs -/
theorem cutD_last {α : Type} (l : List α) (n : Nat) (h0 : 0 < n) (h : n ≤ l.length) : cutD l (some (-(n : Int))) none = l.drop (l.length - n) := by
  unfold cutD
  rw [HT.sIx_none]
  have : HT.sIx l.length 0 (some (-(n : Int))) = l.length - n := by
    show (if -(n : Int) < 0 then (-(n : Int) + (l.length : Int)).toNat else min (-(n : Int)).toNat l.length) = _
    rw [if_pos (by omega)]
    omega
  rw [this, List.take_of_length_le (by rw [List.length_drop]; omega)]
/-- all but the last sign -/
theorem cutD_but {α : Type} (l : List α) (h : 0 < l.length) : cutD l none (some (-1)) = l.take (l.length - 1) := by
  unfold cutD
  rw [HT.sIx_none]
  have : HT.sIx l.length l.length (some (-1)) = l.length - 1 := by
    show (if (-1 : Int) < 0 then (-1 + (l.length : Int)).toNat else min (-1 : Int).toNat l.length) = _
    rw [if_pos (by omega)]
    omega
  rw [this]
  rfl
theorem atI_of {α : Type} {xs : List α} {i : Int} {k : Nat} {x : α} (e : i = (k : Int)) (h : xs[k]? = some x) : atI xs i = some x := by
  rw [e]
  exact atI_nat h
theorem atI_m1 {α : Type} {xs : List α} {x : α} : atI (xs ++ [x]) (-1) = some x := atI_last _ _
theorem sl_le {n : Nat} (h : n ≤ 1000000) : n ≤ sizeLine := Nat.le_trans h (by decide)
theorem sl_lt {n : Nat} (h : n ≤ 1000000) : n < sizeLine := Nat.lt_of_le_of_lt h (by decide)
theorem bs_sl {l : List Bool} (h : l.length ≤ 1000000) : (bs l).length ≤ sizeLine := by rw [bs_len]; exact sl_le h
/-! ### loops, in the forms one uses -/
theorem Wk.nil' : Wk [] [] := trivial
theorem Wk.un {a : S} {as bs : List S} (h : Wk as bs) : Wk (.un :: as) (a :: bs) := ⟨.inl rfl, h⟩
theorem Wk.eq {a : S} {as bs : List S} (h : Wk as bs) : Wk (a :: as) (a :: bs) := ⟨.inr rfl, h⟩
theorem Wk.eqv {a b : S} {as bs : List S} (h : Wk as bs) (e : a = b) : Wk (a :: as) (b :: bs) := ⟨.inr e, h⟩
theorem lp_of {E ρ : List S} (h : Wk E ρ) : lp (fun ρ => ρ = E) ρ := ⟨E, h, rfl⟩
section
variable {α : Type} {f : α → D} {xs : List α} {ds : List D} {g : MG} {mb : MS} {PD : PEnds} {ρ1 : List S}
theorem loop_map (e : ds = xs.map f) (I : Nat → List S → Prop) (h0 : lp (I 0) ρ1) (hs : ∀ k x ρ, xs[k]? = some x → I k ρ → g (f x) ρ (mb (PD.loop (lp (I (k + 1)))))) (hd : ∀ ρ, I xs.length ρ → PD.nx ρ) :
    ∃ I : Nat → List S → Prop, lp (I 0) ρ1 ∧ (∀ i (h : i < ds.length) ρ, I i ρ → g ds[i] ρ (mb (PD.loop (lp (I (i + 1)))))) ∧ ∀ ρ, I ds.length ρ → PD.nx ρ := by
  subst e
  refine ⟨I, h0, fun i h ρ hI => ?_, fun ρ hI => hd ρ (by rwa [List.length_map] at hI)⟩
  have hl : i < xs.length := by rwa [List.length_map] at h
  rw [List.getElem_map]
  exact hs i _ ρ (List.getElem?_eq_getElem hl) hI
theorem loop_env (e : ds = xs.map f) (E : Nat → List S) (h0 : Wk (E 0) ρ1) (hs : ∀ k x, xs[k]? = some x → g (f x) (E k) (mb (PD.loop (lp (fun ρ => ρ = E (k + 1)))))) (hd : PD.nx (E xs.length)) :
    ∃ I : Nat → List S → Prop, lp (I 0) ρ1 ∧ (∀ i (h : i < ds.length) ρ, I i ρ → g ds[i] ρ (mb (PD.loop (lp (I (i + 1)))))) ∧ ∀ ρ, I ds.length ρ → PD.nx ρ :=
  loop_map e (fun k ρ => ρ = E k) (lp_of h0) (fun k x ρ hx hI => by subst hI; exact hs k x hx) (fun ρ hI => by subst hI; exact hd)
end
theorem range_map (n : Nat) (lo c : Int) : rngD lo c n = (List.range n).map fun i => D.int (lo + (i : Nat) * c) := rfl
theorem range_get {n k x : Nat} (h : (List.range n)[k]? = some x) : x = k ∧ k < n := by
  obtain ⟨h1, h2⟩ := List.getElem?_eq_some_iff.mp h
  rw [List.length_range] at h1
  rw [List.getElem_range] at h2
  exact ⟨h2.symm, h1⟩
/-- a comprehension: what is made and what is known behind each turn -/
theorem lc_env {α : Type} {f : α → D} {xs : List α} {ds : List D} {g : MG} {mt : MT} {me : ME} {vs : List Nat} {ρ1 : List S} {P : C → List S → Prop} (e : ds = xs.map f) (Acc : Nat → List D) (E : Nat → List S) (h0 : Acc 0 = [] ∧ ρ1 = E 0)
    (hs : ∀ k x, xs[k]? = some x → g (f x) (wipeS (E k) vs) (fun ρ2 => mt ρ2 (fun b ρ3 => (b = true → me ρ3 (fun d ρ4 => (Acc k).length < sizeLine ∧ (Acc k ++ [d] = Acc (k + 1) ∧ wipeS ρ4 vs = E (k + 1))) noX) ∧ (b = false → Acc k = Acc (k + 1) ∧ wipeS ρ3 vs = E (k + 1))) noX))
    (hd : P (.lst (Acc xs.length)) (E xs.length)) :
    ∃ I : Nat → List D → List S → Prop, I 0 [] ρ1 ∧ (∀ i (h : i < ds.length) acc ρ, I i acc ρ → g ds[i] (wipeS ρ vs) (fun ρ2 => mt ρ2 (fun b ρ3 => (b = true → me ρ3 (fun d ρ4 => acc.length < sizeLine ∧ I (i + 1) (acc ++ [d]) (wipeS ρ4 vs)) noX) ∧ (b = false → I (i + 1) acc (wipeS ρ3 vs))) noX)) ∧
      ∀ acc ρ, I ds.length acc ρ → P (.lst acc) ρ := by
  subst e
  refine ⟨fun k acc ρ => acc = Acc k ∧ ρ = E k, ⟨h0.1.symm, h0.2⟩, fun i h acc ρ hI => ?_, fun acc ρ hI => ?_⟩
  · obtain ⟨rfl, rfl⟩ := hI
    have hl : i < xs.length := by rwa [List.length_map] at h
    rw [List.getElem_map]
    exact hs i _ (List.getElem?_eq_getElem hl)
  · obtain ⟨rfl, rfl⟩ := hI
    rw [List.length_map]
    exact hd
theorem lc_run {α : Type} {f : α → D} {xs : List α} {ds : List D} {mi : MI} {g : MG} {mt : MT} {me : ME} {vs : List Nat} {ρ0 ρ1 : List S} {P : C → List S → Prop} {PX : XP} (hi : ∀ Q : List D → List S → Prop, Q ds ρ1 → mi ρ0 Q PX) (e : ds = xs.map f) (Acc : Nat → List D) (E : Nat → List S) (h0 : Acc 0 = [] ∧ ρ1 = E 0)
    (hs : ∀ k x, xs[k]? = some x → g (f x) (wipeS (E k) vs) (fun ρ2 => mt ρ2 (fun b ρ3 => (b = true → me ρ3 (fun d ρ4 => (Acc k).length < sizeLine ∧ (Acc k ++ [d] = Acc (k + 1) ∧ wipeS ρ4 vs = E (k + 1))) noX) ∧ (b = false → Acc k = Acc (k + 1) ∧ wipeS ρ3 vs = E (k + 1))) noX))
    (hd : P (.lst (Acc xs.length)) (E xs.length)) : mLc mi g mt me vs ρ0 P PX := hi _ (lc_env e Acc E h0 hs hd)
theorem for_run {α : Type} {f : α → D} {xs : List α} {ds : List D} {mi : MI} {g : MG} {mb : MS} {ρ0 ρ1 : List S} {PD : PEnds} (hi : ∀ Q : List D → List S → Prop, Q ds ρ1 → mi ρ0 Q PD.ex) (e : ds = xs.map f) (E : Nat → List S) (h0 : Wk (E 0) ρ1)
    (hs : ∀ k x, xs[k]? = some x → g (f x) (E k) (mb (PD.loop (lp (fun ρ => ρ = E (k + 1)))))) (hd : PD.nx (E xs.length)) : mFor mi g mb PD ρ0 := hi _ (loop_env e E h0 hs hd)
/-- .. with any invariant -/
theorem for_inv {α : Type} {f : α → D} {xs : List α} {ds : List D} {mi : MI} {g : MG} {mb : MS} {ρ0 ρ1 : List S} {PD : PEnds} (hi : ∀ Q : List D → List S → Prop, Q ds ρ1 → mi ρ0 Q PD.ex) (e : ds = xs.map f) (I : Nat → List S → Prop) (h0 : lp (I 0) ρ1)
    (hs : ∀ k x ρ, xs[k]? = some x → I k ρ → g (f x) ρ (mb (PD.loop (lp (I (k + 1)))))) (hd : ∀ ρ, I xs.length ρ → PD.nx ρ) : mFor mi g mb PD ρ0 := hi _ (loop_map e I h0 hs hd)
/-- a comprehension with any invariant -/
theorem lc_inv {α : Type} {f : α → D} {xs : List α} {ds : List D} {mi : MI} {g : MG} {mt : MT} {me : ME} {vs : List Nat} {ρ0 ρ1 : List S} {P : C → List S → Prop} {PX : XP} (hi : ∀ Q : List D → List S → Prop, Q ds ρ1 → mi ρ0 Q PX) (e : ds = xs.map f) (I : Nat → List D → List S → Prop) (h0 : I 0 [] ρ1)
    (hs : ∀ k x acc ρ, xs[k]? = some x → I k acc ρ → g (f x) (wipeS ρ vs) (fun ρ2 => mt ρ2 (fun b ρ3 => (b = true → me ρ3 (fun d ρ4 => acc.length < sizeLine ∧ I (k + 1) (acc ++ [d]) (wipeS ρ4 vs)) noX) ∧ (b = false → I (k + 1) acc (wipeS ρ3 vs))) noX))
    (hd : ∀ acc ρ, I xs.length acc ρ → P (.lst acc) ρ) : mLc mi g mt me vs ρ0 P PX := hi _ (by
  subst e
  refine ⟨I, h0, fun i h acc ρ hI => ?_, fun acc ρ hI => ?_⟩
  · have hl : i < xs.length := by rwa [List.length_map] at h
    rw [List.getElem_map]
    exact hs i _ acc ρ (List.getElem?_eq_getElem hl) hI
  · rw [List.length_map] at hI
    exact hd acc ρ hI)
theorem fLen_scr {ns : List Int} {P : D → Prop} (h : P (.int (ns.length : Nat))) : fLen [.scr ns] P := h
theorem fLen_lst {ns : List D} {P : D → Prop} (h : P (.int (ns.length : Nat))) : fLen [.lst ns] P := h
theorem fIsNot_non {P : D → Prop} (h : P (.bl false)) : fIsNot .non .non P := h
theorem fIsNot_str {x : Str} {P : D → Prop} (h : P (.bl true)) : fIsNot (.str x) .non P := h
theorem fMin_two {i j : Int} {P : D → Prop} (h : P (.int (if j < i then j else i))) : fMin [.int i, .int j] P := h
theorem fIx_at {ds : List D} {i : Int} {d : D} {P : D → Prop} (h : atI ds i = some d) (hp : P d) : fIx (.lst ds) (.int i) P := ⟨d, h, hp⟩
theorem fInt_bl {b : Bool} {P : D → Prop} (h : P (.int (if b then 1 else 0))) : fInt [.bl b] P := h
theorem fIx_two {x y : D} {r : Nat} {P : D → Prop} (hr : r < 2) (h : ∀ v, v = x ∨ v = y → P v) : fIx (.lst [x, y]) (.int (r : Nat)) P := by
  rcases (by omega : r = 0 ∨ r = 1) with rfl | rfl
  · exact ⟨x, rfl, h _ (.inl rfl)⟩
  · exact ⟨y, rfl, h _ (.inr rfl)⟩
theorem fIx_three {x y z : D} {r : Nat} {P : D → Prop} (hr : r < 3) (h : ∀ v, v = x ∨ v = y ∨ v = z → P v) : fIx (.lst [x, y, z]) (.int (r : Nat)) P := by
  rcases (by omega : r = 0 ∨ r = 1 ∨ r = 2) with rfl | rfl | rfl
  · exact ⟨x, rfl, h _ (.inl rfl)⟩
  · exact ⟨y, rfl, h _ (.inr (.inl rfl))⟩
  · exact ⟨z, rfl, h _ (.inr (.inr rfl))⟩
theorem bit_of {r : Nat} (h : r < 2) : ∃ b, ((r : Nat) : Int) = bi b := by
  rcases (by omega : r = 0 ∨ r = 1) with rfl | rfl
  · exact ⟨false, rfl⟩
  · exact ⟨true, rfl⟩
/-! ### data that may be compared -/
def Shp (n : Nat) (d : D) : Prop := (toP d).canLay0 = true ∧ (toP d).depth ≤ n
theorem Shp.int (i : Int) : Shp 1 (.int i) := ⟨rfl, Nat.zero_le _⟩
theorem Shp.bl (i : Bool) : Shp 1 (.bl i) := ⟨rfl, Nat.zero_le _⟩
theorem Shp.str_bs (l : List Bool) : Shp 1 (.str (bs l)) := ⟨by
  show ((bs l).cps.all fun c => decide (c < 0x110000)) = true
  simp only [Array.all_eq_true']
  intro c hc
  have : c ∈ (bs l).cps.toList := by simpa using hc
  rw [bs_cps, List.mem_map] at this
  obtain ⟨b, _, rfl⟩ := this
  cases b <;> decide, Nat.zero_le _⟩
theorem shps : ∀ {ds : List D} {n : Nat}, (∀ d ∈ ds, Shp n d) → PyData.canLayAll0 (toPs ds) = true ∧ PyData.depthAll (toPs ds) ≤ n
  | [], n, _ => ⟨rfl, Nat.zero_le _⟩
  | d :: r, n, h => by
    obtain ⟨h1, h2⟩ := h d List.mem_cons_self
    obtain ⟨h3, h4⟩ := shps (ds := r) fun x hx => h x (List.mem_cons_of_mem _ hx)
    exact ⟨by show ((toP d).canLay0 && PyData.canLayAll0 (toPs r)) = true; rw [h1, h3]; rfl, Nat.max_le.mpr ⟨h2, h4⟩⟩
theorem Shp.lst {ds : List D} {n : Nat} (h : ∀ d ∈ ds, Shp n d) : Shp (n + 1) (.lst ds) := ⟨(shps h).1, Nat.succ_le_succ (shps h).2⟩
theorem Shp.tup {ds : List D} {n : Nat} (h : ∀ d ∈ ds, Shp n d) : Shp (n + 1) (.tup ds) := ⟨(shps h).1, Nat.succ_le_succ (shps h).2⟩
theorem Shp.ok {n : Nat} {d : D} (h : Shp n d) (hn : n ≤ 64) : shp d = true := by
  show ((toP d).canLay0 && decide ((toP d).depth ≤ 64)) = true
  rw [h.1, decide_eq_true (Nat.le_trans h.2 hn)]
  rfl
theorem deq_same {n : Nat} {d : D} (h : Shp n d) : deq d d = true := SeqAt.eqv_refl _ h.1
theorem fNe_same {n : Nat} {ds : List D} {P : D → Prop} (h : Shp n (.lst ds)) (hn : n ≤ 64) (hp : P (.bl false)) : fNe (.lst ds) (.lst ds) P := ⟨h.ok hn, h.ok hn, by rw [deq_same h]; exact hp⟩
theorem fEq_same {n : Nat} {ds : List D} {P : D → Prop} (h : Shp n (.lst ds)) (hn : n ≤ 64) (hp : P (.bl true)) : fEq (.lst ds) (.lst ds) P := ⟨h.ok hn, h.ok hn, by rw [deq_same h]; exact hp⟩
theorem fNe_nil {n : Nat} {ds : List D} {P : D → Prop} (h : Shp n (.lst ds)) (hn : n ≤ 64) (hp : P (.bl (!ds.isEmpty))) : fNe (.lst ds) (.lst []) P := ⟨h.ok hn, by decide, by
  cases ds <;> exact hp⟩
theorem fNe_non {P : D → Prop} (h : P (.bl false)) : fNe .non .non P := ⟨by decide, by decide, h⟩
theorem fNe_strSame {x : Str} {P : D → Prop} (h : P (.bl false)) : fNe (.str x) (.str x) P := by
  show P (.bl (!decide (x = x)))
  rw [decide_eq_true rfl]
  exact h
theorem fNe_strNon {x : List Bool} {P : D → Prop} (h : P (.bl true)) : fNe (.str (bs x)) .non P := ⟨(Shp.str_bs x).ok (by decide), by decide, h⟩
/-! ### the box from which laws draw -/
def Box (c : C) (n : Nat) : Prop := ∃ b0 b1 b2 : Int, c = .lst [.int b0, .int b1, .int b2] ∧ 0 ≤ b0 ∧ 0 ≤ b1 ∧ b1 < 2 ^ 62 ∧ 0 ≤ b2 ∧ b2 ≤ n
theorem Box.mono {c : C} {n m : Nat} (h : Box c n) (e : n ≤ m) : Box c m := by
  obtain ⟨b0, b1, b2, h0, h1, h2, h3, h4, h5⟩ := h
  exact ⟨b0, b1, b2, h0, h1, h2, h3, h4, by omega⟩
/-- what a draw may be of -/
def Few (m : Nat) : Prop := 0 < m ∧ m < 2 ^ 1000
theorem few {m : Nat} (h0 : 0 < m) (h : m ≤ 1000000) : Few m := ⟨h0, Nat.lt_of_lt_of_le (Nat.lt_of_le_of_lt h (by decide : 1000000 < 2 ^ 20)) (Nat.pow_le_pow_right (by decide) (by decide))⟩
def cTake : CtM := fun c0 ds P _ => ∃ n m : Nat, ds = [.int (m : Nat)] ∧ Box c0 n ∧ n ≤ 1000000 ∧ Few m ∧ ∀ (r : Nat) (c' : C), r < m → Box c' (n + 1) → P (.fz (.int (r : Nat))) c'
theorem take_snoc {α : Type} {l : List α} {k : Nat} {x : α} (h : l[k]? = some x) : l.take (k + 1) = l.take k ++ [x] := by rw [List.take_add_one, h]; rfl
theorem get_lt {α : Type} {l : List α} {k : Nat} {x : α} (h : l[k]? = some x) : k < l.length := (List.getElem?_eq_some_iff.mp h).1
/-- .. each element from its item alone -/
theorem acc_map {α : Type} {xs : List α} {F : α → D} {k : Nat} {x : α} {d : D} (h : xs[k]? = some x) (e : d = F x) (hl : xs.length ≤ 1000000) : ((xs.take k).map F).length < sizeLine ∧ (xs.take k).map F ++ [d] = (xs.take (k + 1)).map F := by
  refine ⟨sl_lt ?_, ?_⟩
  · rw [List.length_map, List.length_take]; omega
  · rw [take_snoc h, List.map_append, e]; rfl
/-! ### operations on ints that ask nothing -/
section
variable {i j : Int} {b c : Bool} {P : D → Prop}
theorem fAdd_int : fAdd (.int i) (.int j) P = P (.int (i + j)) := rfl
theorem fAddI_int : fAddI (.int i) (.int j) P = P (.int (i + j)) := rfl
theorem fSub_int : fSub (.int i) (.int j) P = P (.int (i - j)) := rfl
theorem fLt_int : fLt (.int i) (.int j) P = P (.bl (decide (i < j))) := rfl
theorem fLe_int : fLe (.int i) (.int j) P = P (.bl (decide (i ≤ j))) := rfl
theorem fGt_int : fGt (.int i) (.int j) P = P (.bl (decide (j < i))) := rfl
theorem fGe_int : fGe (.int i) (.int j) P = P (.bl (decide (j ≤ i))) := rfl
theorem fEq_int : fEq (.int i) (.int j) P = P (.bl (decide (i = j))) := rfl
theorem fNe_int : fNe (.int i) (.int j) P = P (.bl (!decide (i = j))) := rfl
theorem fEq_bl : fEq (.bl b) (.bl c) P = P (.bl (decide (b = c))) := rfl
theorem fNe_bl : fNe (.bl b) (.bl c) P = P (.bl (!decide (b = c))) := rfl
end
/-! ### bits in texts -/
theorem strsOf_bs (ls : List (List Bool)) : strsOf (ls.map fun x => D.str (bs x)) = some (ls.map bs) := by
  have : (ls.map fun x => D.str (bs x)) = (ls.map bs).map D.str := by rw [List.map_map]; rfl
  rw [this, strsOf_map]
theorem sum_len_bs (ls : List (List Bool)) : ((ls.map bs).map (·.length)).sum = ls.flatten.length := by
  induction ls with
  | nil => rfl
  | cons x r ih => rw [List.map_cons, List.map_cons, List.sum_cons, ih, List.flatten_cons, List.length_append, bs_len]
theorem fJoin_bs {ls : List (List Bool)} {P : D → Prop} (h : ls.flatten.length ≤ 1000000) (hp : P (.str (bs ls.flatten))) : fJoin ("" : Str) (.lst (ls.map fun x => D.str (bs x))) P := by
  refine ⟨ls.map bs, strsOf_bs ls, ?_, ?_⟩
  · rw [sum_len_bs, litE, bs_len]
    show _ + _ * 0 ≤ _
    omega
  · rw [litE, join_bs]; exact hp
theorem flatten_ones (l : List Bool) : (l.map fun b => [b]).flatten = l := by
  induction l with
  | nil => rfl
  | cons b l ih => rw [List.map_cons, List.flatten_cons, ih]; rfl
theorem fJoin_sb {l : List Bool} {P : D → Prop} (h : l.length ≤ 1000000) (hp : P (.str (bs l))) : fJoin ("" : Str) (.lst (l.map sb)) P := by
  have e : l.map sb = (l.map fun b => [b]).map fun x => D.str (bs x) := by rw [List.map_map]; rfl
  rw [e]
  exact fJoin_bs (by rw [flatten_ones]; exact h) (by rw [flatten_ones]; exact hp)
theorem fInt_sb {b : Bool} {P : D → Prop} (hp : P (.int (bi b))) : fInt [sb b] P := ⟨by rw [bs_len]; exact Nat.le_of_ble_eq_true rfl, _, int_bs b, hp⟩
theorem ix10 {b : Bool} {P : D → Prop} (hp : P (sb (!b))) : fIx (.str "10") (.int (bi b)) P := by
  refine ⟨by rw [lit10, bs_len]; exact sl_le (by decide), bc (!b), ?_, hp⟩
  rw [lit10, bs_cps]
  cases b with
  | true => exact atI_of (k := 1) rfl rfl
  | false => exact atI_of (k := 0) rfl rfl
theorem ix01 {b : Bool} {P : D → Prop} (hp : P (sb b)) : fIx (.str "01") (.int (bi b)) P := by
  refine ⟨by rw [lit01, bs_len]; exact sl_le (by decide), bc b, ?_, hp⟩
  rw [lit01, bs_cps]
  cases b with
  | true => exact atI_of (k := 1) rfl rfl
  | false => exact atI_of (k := 0) rfl rfl
theorem fLen_bs {l : List Bool} {P : D → Prop} (h : l.length ≤ 1000000) (hp : P (.int (l.length : Nat))) : fLen [.str (bs l)] P := ⟨bs_sl h, by rw [bs_len]; exact hp⟩
theorem fRev_two {x y : D} {P : D → C → Prop} (h : P .non (.lst [y, x])) : fRev (.lst [x, y]) [] P := h
theorem fAbs_int {i : Int} {P : D → Prop} (hp : P (.int (i.natAbs : Nat))) : fAbs [.int i] P := by
  show P (.int (if i < 0 then -i else i))
  rw [show (if i < 0 then -i else i) = (i.natAbs : Int) by split <;> omega]
  exact hp
theorem fAdd_bs {a b : List Bool} {P : D → Prop} (h : a.length + b.length ≤ 1000000) (hp : P (.str (bs (a ++ b)))) : fAdd (.str (bs a)) (.str (bs b)) P := ⟨by rw [bs_len, bs_len]; exact sl_le h, by rw [bs_app]; exact hp⟩
theorem fSl_bs {l : List Bool} {lo hi : Option Int} {P : D → Prop} (h : l.length ≤ 1000000) (hp : P (.str (bs (cutD l lo hi)))) : fSl (.str (bs l)) lo hi P := ⟨bs_sl h, by rw [cutS_bs]; exact hp⟩
theorem fIx_bs {l : List Bool} {i : Int} {k : Nat} {b : Bool} {P : D → Prop} (hl : l.length ≤ 1000000) (e : i = (k : Int)) (h : l[k]? = some b) (hp : P (sb b)) : fIx (.str (bs l)) (.int i) P :=
  ⟨bs_sl hl, bc b, by rw [bs_cps]; exact atI_map (atI_of e h), hp⟩
theorem fIx_bsl {l : List Bool} {b : Bool} {P : D → Prop} (hl : (l ++ [b]).length ≤ 1000000) (hp : P (sb b)) : fIx (.str (bs (l ++ [b]))) (.int (-1)) P :=
  ⟨bs_sl hl, bc b, by rw [bs_cps]; exact atI_map atI_m1, hp⟩
theorem fMul_sb {b : Bool} {n : Nat} {P : D → Prop} (h : n ≤ 100000) (hp : P (.str (bs (List.replicate n b)))) : fMul (sb b) (.int (n : Nat)) P :=
  ⟨by rw [bs_len]; rfl, ⟨by omega, by omega⟩, by rw [repS_bs]; exact hp⟩
theorem fMul_small {i j : Int} {P : D → Prop} (h : -(2 ^ 64) < i ∧ i < 2 ^ 64) (hp : P (.int (i * j))) : fMul (.int i) (.int j) P := ⟨.inr (.inl h), hp⟩
theorem fEq_bs {a b : List Bool} {P : D → Prop} (hp : P (.bl (decide (a = b)))) : fEq (.str (bs a)) (.str (bs b)) P := by
  show P (.bl (decide (bs a = bs b)))
  have : decide (bs a = bs b) = decide (a = b) := by rw [Bool.eq_iff_iff]; simp [bs_eq]
  rw [this]; exact hp
theorem fNe_bs {a b : List Bool} {P : D → Prop} (hp : P (.bl (!decide (a = b)))) : fNe (.str (bs a)) (.str (bs b)) P := by
  show P (.bl (!decide (bs a = bs b)))
  have : decide (bs a = bs b) = decide (a = b) := by rw [Bool.eq_iff_iff]; simp [bs_eq]
  rw [this]; exact hp
theorem str_bi (b : Bool) : (Str.ofString (toString (bi b))) = bs [b] := by cases b <;> decide +kernel
theorem fStr_bi {b : Bool} {P : D → Prop} (hp : P (sb b)) : fStr [.int (bi b)] P := by
  refine ⟨by cases b <;> decide, ?_⟩
  have e := str_bi b
  show P (.str (Str.ofString (toString (bi b))))
  rw [e]; exact hp
/-! ### range by a step -/
theorem rgC_step {n c k : Nat} (hc : 0 < c) (hc2 : c ≤ 100000) (hn : n ≤ 100000) (e : n = k * c) : RgC 0 (n : Int) (c : Int) k := by
  have hs : Builtin.Range.rangeSize 0 (n : Int) (c : Int) = k := by
    unfold Builtin.Range.rangeSize
    rw [if_pos (by omega)]
    by_cases h : (0 : Int) < n
    · rw [if_pos h]
      have hk : 0 < k := by
        rcases Nat.eq_zero_or_pos k with z | z
        · subst z; rw [Nat.zero_mul] at e; omega
        · exact z
      have : ((n : Int) - 0 - 1) / c = (k : Int) - 1 := by
        rw [Int.ediv_eq_iff_of_pos (by omega)]
        have e2 : (n : Int) = k * c := by rw [e]; exact Int.natCast_mul k c
        have e3 : ((k : Int) - 1) * c = k * c - c := by rw [Int.sub_mul, Int.one_mul]
        have e4 : ((k : Int) - 1 + 1) * c = k * c := by rw [Int.sub_add_cancel]
        omega
      omega
    · rw [if_neg h]
      have : n = 0 := by omega
      rw [this] at e
      have : k = 0 := by
        rcases Nat.eq_zero_or_pos k with z | z
        · exact z
        · have := Nat.mul_pos z hc; omega
      omega
  refine ⟨by omega, by omega, ?_, hs⟩
  unfold Builtin.Range.small
  rw [hs]
  have hk : k ≤ n := by rw [e]; exact Nat.le_mul_of_pos_right k hc
  have e63 : (2 : Int) ^ 63 = 9223372036854775808 := by decide
  rw [if_pos (show (c : Int) > 0 by omega)]
  simp only [Builtin.Range.rangeFitsLong, Bool.and_eq_true, Bool.or_eq_true, decide_eq_true_eq, beq_iff_eq, e63]
  omega
/-! ### while -/
theorem while_env {t : MT} {mb : MS} {PD : PEnds} {ρ : List S} (n : Nat) (E : Nat → List S) (h0 : Wk (E 0) ρ)
    (hs : ∀ k, k ≤ n → t (E k) (fun b ρ1 => (b = true → mb (PD.loop (fun ρ' => ∃ j, j < n - k ∧ lp (fun ρ => ∃ k', k' + j = n ∧ ρ = E k') ρ')) ρ1) ∧ (b = false → PD.nx ρ1)) PD.ex) : mWhile t mb PD ρ := by
  refine ⟨fun j ρ => ∃ k, k + j = n ∧ ρ = E k, ⟨n, E 0, h0, 0, by omega, rfl⟩, fun j ρ hI => ?_⟩
  obtain ⟨k, e, rfl⟩ := hI
  have := hs k (by omega)
  have ej : n - k = j := by omega
  rw [ej] at this
  exact this
theorem while_next {n k : Nat} {E : Nat → List S} {ρ : List S} (h : k < n) (w : Wk (E (k + 1)) ρ) : ∃ j, j < n - k ∧ lp (fun ρ => ∃ k', k' + j = n ∧ ρ = E k') ρ :=
  ⟨n - (k + 1), by omega, E (k + 1), w, k + 1, by omega, rfl⟩
end G

namespace G
/-! machines, and rows from a room to a goal -/
abbrev Mc := List (Option Nat × Option Nat)
def ends (r : Option Nat × Option Nat) : List Nat := r.1.toList ++ r.2.toList
def Mc.Ok (M : Mc) : Prop := ∀ r ∈ M, ∀ e ∈ ends r, e < M.length
def oneL (M : Mc) (t : List Nat) : List Nat := M.map fun r => ((ends r).map fun e => t.getD e 0).sum
def tab (M : Mc) (g : Nat) : Nat → List Nat
  | 0 => (List.range M.length).map fun a => if a = g then 1 else 0
  | n + 1 => oneL M (tab M g n)
def tb (M : Mc) (g n a : Nat) : Nat := (tab M g n).getD a 0
def nx (M : Mc) (a : Nat) (b : Bool) : Option Nat := match M[a]? with
  | some r => if b then r.2 else r.1
  | none => none
def tbO (M : Mc) (g n : Nat) : Option Nat → Nat
  | some e => tb M g n e
  | none => 0
theorem tab_len (M : Mc) (g : Nat) : ∀ n, (tab M g n).length = M.length
  | 0 => by simp [tab]
  | n + 1 => by simp [tab, oneL]
theorem tb_zero {M : Mc} {g a : Nat} (h : a < M.length) : tb M g 0 a = if a = g then 1 else 0 := by
  unfold tb tab
  simp [List.getD_eq_getElem?_getD, h]
theorem tb_succ {M : Mc} {g n a : Nat} (h : a < M.length) : tb M g (n + 1) a = tbO M g n (nx M a false) + tbO M g n (nx M a true) := by
  unfold tb tab oneL nx
  rw [List.getD_eq_getElem?_getD, List.getElem?_map, List.getElem?_eq_getElem h]
  simp only [Option.map_some, Option.getD_some]
  generalize M[a] = r
  obtain ⟨x, y⟩ := r
  cases x <;> cases y <;> simp [ends, tbO, tb]
theorem nx_lt {M : Mc} (ok : M.Ok) {a e : Nat} {b : Bool} (h : nx M a b = some e) : e < M.length := by
  unfold nx at h
  cases hq : M[a]? with
  | none => rw [hq] at h; cases h
  | some r =>
    rw [hq] at h
    refine ok r (List.mem_of_getElem? hq) e ?_
    obtain ⟨x, y⟩ := r
    cases b
    · have : x = some e := h
      subst this
      simp [ends]
    · have : y = some e := h
      subst this
      simp [ends]
def goM (M : Mc) : Nat → List Bool → Option Nat
  | a, [] => some a
  | a, b :: l => match nx M a b with
    | some e => goM M e l
    | none => none
def rowAt (M : Mc) (g : Nat) : Nat → Nat → Nat → List Bool
  | 0, _, _ => []
  | n + 1, a, k => if k < tbO M g n (nx M a false) then false :: rowAt M g n ((nx M a false).getD 0) k
    else true :: rowAt M g n ((nx M a true).getD 0) (k - tbO M g n (nx M a false))
def rkM (M : Mc) (g : Nat) : Nat → List Bool → Nat
  | _, [] => 0
  | a, b :: l => (if b then tbO M g l.length (nx M a false) else 0) + match nx M a b with
    | some e => rkM M g e l
    | none => 0
theorem rowAt_len (M : Mc) (g : Nat) : ∀ n a k, (rowAt M g n a k).length = n
  | 0, _, _ => rfl
  | n + 1, a, k => by
    unfold rowAt
    split <;> simp [rowAt_len M g n]
theorem rowAt_ok {M : Mc} (ok : M.Ok) (g : Nat) : ∀ n a k, a < M.length → k < tb M g n a → goM M a (rowAt M g n a k) = some g ∧ rkM M g a (rowAt M g n a k) = k
  | 0, a, k, h, hk => by
    rw [tb_zero h] at hk
    by_cases e : a = g
    · rw [if_pos e] at hk
      exact ⟨by rw [← e]; rfl, by show 0 = k; omega⟩
    · rw [if_neg e] at hk; omega
  | n + 1, a, k, h, hk => by
    rw [tb_succ h] at hk
    unfold rowAt
    by_cases hc : k < tbO M g n (nx M a false)
    · rw [if_pos hc]
      cases hx : nx M a false with
      | none => rw [hx] at hc; exact absurd hc (Nat.not_lt_zero _)
      | some e =>
        rw [hx] at hc
        obtain ⟨h1, h2⟩ := rowAt_ok ok g n e k (nx_lt ok hx) hc
        refine ⟨?_, ?_⟩
        · show (match nx M a false with | some e => goM M e _ | none => none) = some g
          rw [hx]; exact h1
        · show (if false = true then _ else 0) + (match nx M a false with | some e => rkM M g e _ | none => 0) = k
          rw [hx, if_neg Bool.false_ne_true, Nat.zero_add]; exact h2
    · rw [if_neg hc]
      have hk' : k - tbO M g n (nx M a false) < tbO M g n (nx M a true) := by omega
      cases hx : nx M a true with
      | none => rw [hx] at hk'; exact absurd hk' (Nat.not_lt_zero _)
      | some e =>
        rw [hx] at hk'
        obtain ⟨h1, h2⟩ := rowAt_ok ok g n e _ (nx_lt ok hx) hk'
        refine ⟨?_, ?_⟩
        · show (match nx M a true with | some e => goM M e _ | none => none) = some g
          rw [hx]; exact h1
        · show (if true = true then tbO M g (rowAt M g n ((some e).getD 0) (k - tbO M g n (nx M a false))).length (nx M a false) else 0) + (match nx M a true with | some e => rkM M g e _ | none => 0) = k
          rw [hx, if_pos rfl, rowAt_len]
          show _ + rkM M g e (rowAt M g n e (k - tbO M g n (nx M a false))) = k
          rw [h2]
          omega
theorem rkM_lt {M : Mc} (ok : M.Ok) (g : Nat) : ∀ (l : List Bool) (a : Nat), a < M.length → goM M a l = some g → rkM M g a l < tb M g l.length a
  | [], a, h, e => by
    have e : a = g := Option.some.inj e
    show 0 < tb M g 0 a
    rw [tb_zero h, if_pos e]
    exact Nat.one_pos
  | b :: l, a, h, e => by
    have e : (match nx M a b with | some e => goM M e l | none => none) = some g := e
    show (if b = true then tbO M g l.length (nx M a false) else 0) + (match nx M a b with | some e => rkM M g e l | none => 0) < tb M g (l.length + 1) a
    rw [tb_succ h]
    cases hx : nx M a b with
    | none => rw [hx] at e; cases e
    | some u =>
      rw [hx] at e
      have ih := rkM_lt ok g l u (nx_lt ok hx) e
      cases b with
      | false =>
        rw [if_neg Bool.false_ne_true, hx]
        show 0 + rkM M g u l < tb M g l.length u + _
        omega
      | true =>
        rw [if_pos rfl, hx]
        show _ + rkM M g u l < _ + tb M g l.length u
        omega
/-- rows of as many bits, in order -/
def ltB : List Bool → List Bool → Bool
  | b :: l, c :: m => (!b && c) || (b == c && ltB l m)
  | _, _ => false
theorem rk_lt_of {M : Mc} (ok : M.Ok) (g : Nat) : ∀ (l m : List Bool) (a : Nat), a < M.length → l.length = m.length → goM M a l = some g → goM M a m = some g → (ltB l m = true ↔ rkM M g a l < rkM M g a m)
  | [], [], a, _, _, _, _ => by simp [ltB]
  | [], _ :: _, _, _, h, _, _ => by simp at h
  | _ :: _, [], _, _, h, _, _ => by simp at h
  | b :: l, c :: m, a, h, hl0, e10, e20 => by
    have hl : l.length = m.length := by simpa using hl0
    have e1 : (match nx M a b with | some e => goM M e l | none => none) = some g := e10
    have e2 : (match nx M a c with | some e => goM M e m | none => none) = some g := e20
    show ltB (b :: l) (c :: m) = true ↔ (if b = true then tbO M g l.length (nx M a false) else 0) + (match nx M a b with | some e => rkM M g e l | none => 0) < (if c = true then tbO M g m.length (nx M a false) else 0) + (match nx M a c with | some e => rkM M g e m | none => 0)
    cases hb : nx M a b with
    | none => rw [hb] at e1; cases e1
    | some u =>
    cases hc : nx M a c with
    | none => rw [hc] at e2; cases e2
    | some v =>
    rw [hb] at e1
    rw [hc] at e2
    simp only at e1 e2 ⊢
    have hu := nx_lt ok hb
    have hv := nx_lt ok hc
    cases b <;> cases c
    · rw [hb] at hc; cases hc
      have := rk_lt_of ok g l m u hu hl e1 e2
      simpa [ltB] using this
    · have := rkM_lt ok g l u hu e1
      rw [hb]
      simp only [ltB, Bool.not_false, Bool.true_and, Bool.true_or, if_pos, true_iff, tbO]
      rw [← hl]
      simp
      omega
    · have := rkM_lt ok g m v hv e2
      rw [hc]
      simp only [ltB, tbO, if_pos]
      rw [hl]
      simp
      omega
    · rw [hb] at hc; cases hc
      have := rk_lt_of ok g l m u hu hl e1 e2
      simp only [ltB, Bool.not_true, Bool.false_and, Bool.false_or, beq_self_eq_true, Bool.true_and, if_pos]
      rw [hl]
      rw [this]
      omega
theorem rk_inj {M : Mc} (ok : M.Ok) (g : Nat) : ∀ (l m : List Bool) (a : Nat), a < M.length → l.length = m.length → goM M a l = some g → goM M a m = some g → rkM M g a l = rkM M g a m → l = m
  | [], [], a, _, _, _, _, _ => rfl
  | [], _ :: _, _, _, h, _, _, _ => by simp at h
  | _ :: _, [], _, _, h, _, _, _ => by simp at h
  | b :: l, c :: m, a, h, hl0, e10, e20, er0 => by
    have hl : l.length = m.length := by simpa using hl0
    have e1 : (match nx M a b with | some e => goM M e l | none => none) = some g := e10
    have e2 : (match nx M a c with | some e => goM M e m | none => none) = some g := e20
    have er : (if b = true then tbO M g l.length (nx M a false) else 0) + (match nx M a b with | some e => rkM M g e l | none => 0) = (if c = true then tbO M g m.length (nx M a false) else 0) + (match nx M a c with | some e => rkM M g e m | none => 0) := er0
    cases hb : nx M a b with
    | none => rw [hb] at e1; cases e1
    | some u =>
    cases hc : nx M a c with
    | none => rw [hc] at e2; cases e2
    | some v =>
    rw [hb] at e1
    rw [hc] at e2
    rw [hb, hc] at er
    simp only at e1 e2 er
    have hu := nx_lt ok hb
    have hv := nx_lt ok hc
    cases b <;> cases c
    · rw [hb] at hc; cases hc
      rw [rk_inj ok g l m u hu hl e1 e2 (by simpa using er)]
    · have := rkM_lt ok g l u hu e1
      rw [hb] at er
      simp only [if_pos, tbO, ← hl] at er
      simp at er
      omega
    · have := rkM_lt ok g m v hv e2
      rw [hc] at er
      simp only [if_pos, tbO, hl] at er
      simp at er
      omega
    · rw [hb] at hc; cases hc
      rw [rk_inj ok g l m u hu hl e1 e2 (by rw [if_pos rfl, if_pos rfl, hl] at er; omega)]
/-! ### numbers as bits -/
def vlB : List Bool → Nat
  | [] => 0
  | b :: l => (if b then 2 ^ l.length else 0) + vlB l
theorem vl_lt : ∀ l : List Bool, vlB l < 2 ^ l.length
  | [] => by decide
  | b :: l => by
    have := vl_lt l
    show (if b = true then 2 ^ l.length else 0) + vlB l < 2 ^ (l.length + 1)
    rw [Nat.pow_succ]
    split <;> omega
theorem vl_snoc (l : List Bool) (b : Bool) : vlB (l ++ [b]) = 2 * vlB l + (if b then 1 else 0) := by
  induction l with
  | nil => cases b <;> rfl
  | cons c l ih =>
    show (if c = true then 2 ^ (l ++ [b]).length else 0) + vlB (l ++ [b]) = 2 * ((if c = true then 2 ^ l.length else 0) + vlB l) + _
    rw [ih, List.length_append, List.length_singleton, Nat.pow_succ]
    split <;> omega
theorem ltB_vl : ∀ l m : List Bool, l.length = m.length → (ltB l m = true ↔ vlB l < vlB m)
  | [], [], _ => by simp [ltB]
  | [], _ :: _, h => by simp at h
  | _ :: _, [], h => by simp at h
  | b :: l, c :: m, h => by
    have h : l.length = m.length := by simpa using h
    have ih := ltB_vl l m h
    have h1 := vl_lt l
    have h2 := vl_lt m
    rw [← h] at h2
    show ltB (b :: l) (c :: m) = true ↔ (if b = true then 2 ^ l.length else 0) + vlB l < (if c = true then 2 ^ m.length else 0) + vlB m
    rw [← h]
    cases b <;> cases c <;> simp [ltB, ih] <;> omega
theorem vl_bit : ∀ (l : List Bool) (i : Nat), i < l.length → l[i]? = some (decide (vlB l / 2 ^ (l.length - 1 - i) % 2 = 1))
  | [], i, h => by simp at h
  | b :: l, 0, h => by
    have hv := vl_lt l
    show some b = some (decide (((if b = true then 2 ^ l.length else 0) + vlB l) / 2 ^ (l.length + 1 - 1 - 0) % 2 = 1))
    rw [Nat.add_sub_cancel, Nat.sub_zero]
    cases b with
    | false => rw [if_neg Bool.false_ne_true, Nat.zero_add, Nat.div_eq_of_lt hv]; rfl
    | true => rw [if_pos rfl, Nat.add_div_left _ (Nat.two_pow_pos _), Nat.div_eq_of_lt hv]; rfl
  | b :: l, i + 1, h => by
    have hi : i < l.length := by simpa using h
    have ih := vl_bit l i hi
    show l[i]? = some (decide (((if b = true then 2 ^ l.length else 0) + vlB l) / 2 ^ (l.length + 1 - 1 - (i + 1)) % 2 = 1))
    rw [ih]
    have e : l.length + 1 - 1 - (i + 1) = l.length - 1 - i := by omega
    rw [e]
    generalize hj : l.length - 1 - i = j
    have e2 : l.length = j + (i + 1) := by omega
    congr 2
    cases b with
    | false => rw [if_neg Bool.false_ne_true, Nat.zero_add]
    | true =>
      rw [if_pos rfl, e2, Nat.pow_add, Nat.mul_add_div (Nat.two_pow_pos _), Nat.pow_succ, Nat.mul_comm (2 ^ i) 2, Nat.add_comm, Nat.add_mul_mod_self_left]
def bitsN (k p : Nat) : List Bool := (List.range p).map fun i => decide (k / 2 ^ (p - 1 - i) % 2 = 1)
theorem bitsN_vl (l : List Bool) : bitsN (vlB l) l.length = l := by
  apply List.ext_getElem?
  intro i
  by_cases h : i < l.length
  · rw [vl_bit l i h, bitsN, List.getElem?_map, List.getElem?_range h]; rfl
  · rw [List.getElem?_eq_none (by simp [bitsN]; omega), List.getElem?_eq_none (by omega)]
/-! ### forward counts -/
def dotN : List Nat → List Nat → Nat
  | a :: l, b :: m => a * b + dotN l m
  | _, _ => 0
theorem dotN_zero (n : Nat) : ∀ m : List Nat, dotN (List.replicate n 0) m = 0 := by
  induction n with
  | zero => intro m; rfl
  | succ n ih => intro m; cases m with
    | nil => rfl
    | cons b m => show 0 * b + dotN (List.replicate n 0) m = 0; rw [ih]; simp
theorem dotN_set : ∀ (l w : List Nat) (i x : Nat), i < l.length → l.length = w.length → dotN (l.set i (l.getD i 0 + x)) w = dotN l w + x * w.getD i 0
  | [], w, i, x, h, _ => by simp at h
  | a :: l, [], i, x, _, h => by simp at h
  | a :: l, b :: w, 0, x, _, _ => by simp [dotN, Nat.add_mul]; omega
  | a :: l, b :: w, i + 1, x, h, hl => by
    have := dotN_set l w i x (by simpa using h) (by simpa using hl)
    simp only [List.set_cons_succ, List.getD_cons_succ, dotN]
    rw [this]; omega
theorem dotN_one : ∀ (l : List Nat) (s g : Nat), dotN l ((List.range' s l.length).map fun a => if a = g then 1 else 0) = if s ≤ g then l.getD (g - s) 0 else 0
  | [], s, g => by simp [dotN]
  | a :: l, s, g => by
    have ih := dotN_one l (s + 1) g
    rw [List.length_cons, List.range'_succ, List.map_cons, dotN, ih]
    by_cases h : s = g
    · subst h
      simp
      omega
    · by_cases h2 : s ≤ g
      · have e : g - s = (g - (s + 1)) + 1 := by omega
        rw [if_neg h, if_pos h2, if_pos (by omega), e, List.getD_cons_succ]; omega
      · rw [if_neg h, if_neg h2, if_neg (by omega)]; simp
theorem dotN_tab0 {M : Mc} {l : List Nat} (g : Nat) (h : l.length = M.length) : dotN l (tab M g 0) = l.getD g 0 := by
  have := dotN_one l 0 g
  rw [h, ← List.range_eq_range'] at this
  simpa [tab] using this
theorem dotN_one' : ∀ (w : List Nat) (s g : Nat), dotN ((List.range' s w.length).map fun a => if a = g then 1 else 0) w = if s ≤ g then w.getD (g - s) 0 else 0
  | [], s, g => by simp [dotN]
  | a :: l, s, g => by
    have ih := dotN_one' l (s + 1) g
    rw [List.length_cons, List.range'_succ, List.map_cons, dotN, ih]
    by_cases h : s = g
    · subst h
      simp
      omega
    · by_cases h2 : s ≤ g
      · have e : g - s = (g - (s + 1)) + 1 := by omega
        rw [if_neg h, if_pos h2, if_pos (by omega), e, List.getD_cons_succ]; omega
      · rw [if_neg h, if_neg h2, if_neg (by omega)]; simp
/-- ways: what is known of the forward counts behind t turns -/
def Ways (M : Mc) (g t : Nat) (w : List Nat) : Prop := w.length = M.length ∧ ∀ n, dotN w (tab M g n) = tb M g (n + t) g
theorem Ways.start (M : Mc) (g : Nat) : Ways M g 0 ((List.range M.length).map fun a => if a = g then 1 else 0) := by
  refine ⟨by simp, fun n => ?_⟩
  have := dotN_one' (tab M g n) 0 g
  rw [tab_len, ← List.range_eq_range'] at this
  simpa [tb] using this
theorem Ways.get {M : Mc} {g t : Nat} {w : List Nat} (h : Ways M g t w) : w.getD g 0 = tb M g t g := by
  have := h.2 0
  rw [dotN_tab0 g h.1, Nat.zero_add] at this
  exact this
/-- one turn: more, so that for all weights .. -/
def Push (M : Mc) (w : List Nat) (k : Nat) (more : List Nat) : Prop := more.length = M.length ∧ ∀ t : List Nat, t.length = M.length → dotN more t = dotN (w.take k) ((oneL M t).take k)
theorem Push.done {M : Mc} {g t : Nat} {w more : List Nat} (h : Ways M g t w) (p : Push M w M.length more) : Ways M g (t + 1) more := by
  refine ⟨p.1, fun n => ?_⟩
  rw [p.2 _ (tab_len M g n), List.take_of_length_le (by rw [h.1]; exact Nat.le_refl _), List.take_of_length_le (by simp [oneL])]
  have := h.2 (n + 1)
  rw [show n + 1 + t = n + (t + 1) by omega] at this
  exact this
theorem Push.start (M : Mc) (w : List Nat) : Push M w 0 (List.replicate M.length 0) := ⟨by simp, fun t ht => by rw [dotN_zero]; simp [dotN]⟩
theorem dotN_take : ∀ (l w : List Nat) (k : Nat), k < l.length → l.length = w.length → dotN (l.take (k + 1)) (w.take (k + 1)) = dotN (l.take k) (w.take k) + l.getD k 0 * w.getD k 0
  | [], w, k, h, _ => by simp at h
  | a :: l, [], k, _, h => by simp at h
  | a :: l, b :: w, 0, _, _ => by simp [dotN]
  | a :: l, b :: w, k + 1, h, hl => by
    have := dotN_take l w k (by simpa using h) (by simpa using hl)
    simp only [List.take_succ_cons, dotN, List.getD_cons_succ]
    rw [this]; omega
def addAt (more : List Nat) (x : Nat) : Option Nat → List Nat
  | some e => more.set e (more.getD e 0 + x)
  | none => more
theorem addAt_len (more : List Nat) (x : Nat) (o : Option Nat) : (addAt more x o).length = more.length := by
  cases o <;> simp [addAt]
theorem Push.step {M : Mc} {w more : List Nat} {k : Nat} (ok : M.Ok) (hw : w.length = M.length) {r : Option Nat × Option Nat} (hr : M[k]? = some r) (h : Push M w k more) : Push M w (k + 1) (addAt (addAt more (w.getD k 0) r.1) (w.getD k 0) r.2) := by
  refine ⟨by rw [addAt_len, addAt_len]; exact h.1, fun t ht => ?_⟩
  have hk : k < M.length := (List.getElem?_eq_some_iff.mp hr).1
  rw [dotN_take _ _ _ (by rw [hw]; exact hk) (by simp [oneL, hw]), ← h.2 t ht]
  have ho : (oneL M t).getD k 0 = ((ends r).map fun e => t.getD e 0).sum := by
    unfold oneL
    rw [List.getD_eq_getElem?_getD, List.getElem?_map, hr]
    rfl
  rw [ho]
  have he := ok r (List.mem_of_getElem? hr)
  obtain ⟨x, y⟩ := r
  have hl := h.1
  cases x with
  | none =>
    cases y with
    | none => simp [addAt, ends]
    | some v =>
      have : v < M.length := he v (by simp [ends])
      simp only [addAt, ends]
      rw [dotN_set _ _ _ _ (by omega) (by omega)]
      simp
  | some u =>
    have hu : u < M.length := he u (by simp [ends])
    cases y with
    | none =>
      simp only [addAt, ends]
      rw [dotN_set _ _ _ _ (by omega) (by omega)]
      simp
    | some v =>
      have hv : v < M.length := he v (by simp [ends])
      simp only [addAt, ends]
      rw [dotN_set _ _ _ _ (by rw [List.length_set]; omega) (by rw [List.length_set]; omega), dotN_set _ _ _ _ (by omega) (by omega)]
      simp [Nat.mul_add]
      omega
end G

namespace G
open PySem PySem.Spec PyProof.Rows L2
/-! machines as data -/
def oD : Option Nat → D
  | none => .non
  | some e => .int (e : Nat)
abbrev rD (r : Option Nat × Option Nat) : D := .tup [oD r.1, oD r.2]
abbrev mD (M : Mc) : D := .tup (M.map rD)
abbrev nD (n : Nat) : D := .int (n : Nat)
abbrev nL (l : List Nat) : D := .lst (l.map nD)
abbrev tL (ls : List (List Nat)) : D := .lst (ls.map nL)
theorem fLen_tup {ns : List D} {P : D → Prop} (h : P (.int (ns.length : Nat))) : fLen [.tup ns] P := h
theorem fIsNot_o {o : Option Nat} {P : D → Prop} (h : P (.bl o.isSome)) : fIsNot (oD o) .non P := by cases o <;> exact h
theorem fIs_o {o : Option Nat} {P : D → Prop} (h : P (.bl o.isNone)) : fIs (oD o) .non P := by cases o <;> exact h
theorem fIx_m {M : Mc} {a : Nat} {r : Option Nat × Option Nat} {P : D → Prop} (h : M[a]? = some r) (hp : P (.tup [oD r.1, oD r.2])) : fIx (mD M) (.int (a : Nat)) P :=
  ⟨rD r, atI_of rfl (by rw [List.getElem?_map, h]; rfl), hp⟩
theorem getD_get {l : List Nat} {i : Nat} (h : i < l.length) : l[i]? = some (l.getD i 0) := by
  rw [List.getElem?_eq_getElem h, List.getD_eq_getElem?_getD, List.getElem?_eq_getElem h]; rfl
theorem fIx_n {l : List Nat} {i : Nat} {P : D → Prop} (h : i < l.length) (hp : P (.int (l.getD i 0 : Nat))) : fIx (nL l) (.int (i : Nat)) P :=
  ⟨nD (l.getD i 0), atI_of rfl (by rw [List.getElem?_map, getD_get h]; rfl), hp⟩
theorem fIx_nO {l : List Nat} {o : Option Nat} {e : Nat} {P : D → Prop} (ho : o = some e) (h : e < l.length) (hp : P (.int (l.getD e 0 : Nat))) : fIx (nL l) (oD o) P := by
  subst ho
  exact fIx_n h hp
theorem fSl_nL {l : List Nat} {lo hi : Option Int} {P : D → Prop} (hp : P (nL (cutD l lo hi))) : fSl (nL l) lo hi P := by
  show P (.lst (cutD (l.map nD) lo hi))
  have : cutD (l.map nD) lo hi = (cutD l lo hi).map nD := by
    unfold cutD
    rw [List.length_map, ← List.map_drop, ← List.map_take]
  rw [this]
  exact hp
theorem fAddI_bs {a b : List Bool} {P : D → Prop} (h : a.length + b.length ≤ 10000000) (hp : P (.str (bs (a ++ b)))) : fAddI (.str (bs a)) (.str (bs b)) P := by
  refine ⟨?_, by rw [bs_app]; exact hp⟩
  rw [bs_len, bs_len, sizeLine_eq]
  omega
theorem fAdd_nL {a b : List Nat} {P : D → Prop} (h : a.length + b.length ≤ 1000000) (hp : P (nL (a ++ b))) : fAdd (nL a) (nL b) P := by
  refine ⟨by rw [List.length_map, List.length_map]; exact sl_le h, ?_⟩
  rw [← List.map_append]; exact hp
theorem fIx_t {ls : List (List Nat)} {i : Nat} {l : List Nat} {P : D → Prop} (h : ls[i]? = some l) (hp : P (nL l)) : fIx (tL ls) (.int (i : Nat)) P :=
  ⟨nL l, atI_of rfl (by rw [List.getElem?_map, h]; rfl), hp⟩
theorem fEq_sb1 {b : Bool} {P : D → Prop} (hp : P (.bl b)) : fEq (sb b) (.str "1") P := by
  rw [lit1]
  refine fEq_bs ?_
  cases b <;> exact hp
theorem enum_map {α : Type} {f : α → D} (xs : List α) : enumD (xs.map f) = xs.zipIdx.map fun p => D.tup [.int (p.2 : Nat), f p.1] := by
  apply List.ext_getElem?
  intro i
  unfold enumD
  rw [List.getElem?_map, List.getElem?_map, List.length_map]
  by_cases h : i < xs.length
  · rw [List.getElem?_range h, List.getElem?_zipIdx, List.getElem?_eq_getElem h]
    simp [List.getD_eq_getElem?_getD, h]
  · rw [List.getElem?_eq_none (by simp; omega), List.getElem?_eq_none (by simp; omega)]
    rfl
theorem enum_get {α : Type} {xs : List α} {k : Nat} {x : α × Nat} (h : xs.zipIdx[k]? = some x) : ∃ b, xs[k]? = some b ∧ x = (b, k) := by
  rw [List.getElem?_zipIdx] at h
  cases hb : xs[k]? with
  | none => rw [hb] at h; cases h
  | some b =>
    rw [hb] at h
    simp at h
    exact ⟨b, rfl, h.symm⟩
theorem enum_bs (l : List Bool) : enumD (signs (bs l)) = l.zipIdx.map fun p => D.tup [.int (p.2 : Nat), sb p.1] := by
  rw [signs_bs, enum_map]
theorem zipIdx_len {α : Type} (xs : List α) : xs.zipIdx.length = xs.length := by simp
theorem drop_get {α : Type} {l : List α} {k : Nat} {b : α} (hk : l[k]? = some b) : l.drop k = b :: l.drop (k + 1) := by
  obtain ⟨h, e⟩ := List.getElem?_eq_some_iff.mp hk
  rw [List.drop_eq_getElem_cons h, e]
theorem len_get {M : Mc} {a : Nat} (h : a < M.length) : ∃ r, M[a]? = some r := ⟨_, List.getElem?_eq_getElem h⟩
theorem nx_of {M : Mc} {a : Nat} {r : Option Nat × Option Nat} (h : M[a]? = some r) : nx M a false = r.1 ∧ nx M a true = r.2 := by
  unfold nx
  rw [h]
  exact ⟨rfl, rfl⟩
theorem fSum_n {l : List Nat} {P : D → Prop} (hp : P (.int (l.sum : Nat))) : fSum [nL l] P := by
  refine ⟨l.map fun n => ((n : Nat) : Int), ?_, ?_⟩
  · have : l.map nD = (l.map fun n => ((n : Nat) : Int)).map D.int := by rw [List.map_map]; rfl
    rw [this, intsOf_map]
  · have : (l.map fun n => ((n : Nat) : Int)).sum = ((l.sum : Nat) : Int) := by
      clear hp
      induction l with
      | nil => rfl
      | cons a l ih => rw [List.map_cons, List.sum_cons, List.sum_cons, ih]; omega
    rw [this]; exact hp
/-- 1 << p -/
theorem shl_one {p : Nat} {P : D → Prop} (h : p ≤ 100000) (hp : P (.int ((2 ^ p : Nat) : Int))) : fShl (.int 1) (.int (p : Nat)) P := by
  refine ⟨shl_ok (n := 1) (by decide) (by omega), ?_⟩
  rw [Int.one_mul, Int.toNat_natCast]
  have e : (2 : Int) ^ p = ((2 ^ p : Nat) : Int) := by rw [Int.natCast_pow]; rfl
  rw [e]; exact hp
theorem bits_pos {n : Nat} (h : 0 < n) : ((Builtin.Int.intBits (n : Int) : Nat) : Int) - 1 = ((n.log2 : Nat) : Int) := by
  unfold Builtin.Int.intBits
  have : ((n : Int) == 0) = false := by simpa using (by omega : n ≠ 0)
  rw [this]
  simp only [Bool.false_eq_true, if_false, Int.natAbs_natCast]
  omega
/-! rows parted -/
theorem rgC_up {n c : Nat} (hc : 0 < c) (hc2 : c ≤ 100000) (hn : n ≤ 100000) : RgC 0 (n : Int) (c : Int) ((n + c - 1) / c) := by
  have hs : Builtin.Range.rangeSize 0 (n : Int) (c : Int) = (((n + c - 1) / c : Nat) : Int) := by
    unfold Builtin.Range.rangeSize
    rw [if_pos (by omega)]
    by_cases h : (0 : Int) < n
    · rw [if_pos h]
      have e : ((n : Int) - 0 - 1) = ((n - 1 : Nat) : Int) := by omega
      rw [e, ← Int.natCast_ediv]
      have e2 : (n + c - 1) / c = (n - 1) / c + 1 := by
        rw [show n + c - 1 = (n - 1) + c by omega, Nat.add_div_right _ hc]
      rw [e2]
      omega
    · rw [if_neg h]
      have : n = 0 := by omega
      subst this
      rw [Nat.div_eq_of_lt (by omega)]
      rfl
  generalize hk0 : (n + c - 1) / c = k at hs
  refine ⟨by omega, by omega, ?_, hs⟩
  unfold Builtin.Range.small
  rw [hs]
  have hk : k ≤ n + c := by rw [← hk0]; exact Nat.le_trans (Nat.div_le_self _ _) (by omega)
  have e63 : (2 : Int) ^ 63 = 9223372036854775808 := by decide
  rw [if_pos (show (c : Int) > 0 by omega)]
  simp only [Builtin.Range.rangeFitsLong, Bool.and_eq_true, Bool.or_eq_true, decide_eq_true_eq, beq_iff_eq, e63]
  omega
def partsM (c : Nat) (l : List Bool) : List (List Bool) := (List.range ((l.length + c - 1) / c)).map fun i => (l.drop (i * c)).take c
theorem partsM_len (c : Nat) (l : List Bool) : (partsM c l).length = (l.length + c - 1) / c := by simp [partsM]
theorem partsM_whole {c q : Nat} {l : List Bool} (hc : 0 < c) (h : l.length = c * q) : (partsM c l).length = q := by
  rw [partsM_len, h, show c * q + c - 1 = (c - 1) + c * q by omega, Nat.add_mul_div_left _ _ hc, Nat.div_eq_of_lt (by omega), Nat.zero_add]
theorem partsM_get {c i : Nat} {l : List Bool} (h : i < (partsM c l).length) : (partsM c l)[i]? = some ((l.drop (i * c)).take c) := by
  have : i < (l.length + c - 1) / c := by rwa [partsM_len] at h
  unfold partsM
  rw [List.getElem?_map, List.getElem?_range this]
  rfl
theorem take_parts {c : Nat} (hc : 0 < c) : ∀ (q : Nat) (l : List Bool), l.length = c * q → ((List.range q).map fun i => (l.drop (i * c)).take c).flatten = l
  | 0, l, h => by
    have : l = [] := List.eq_nil_of_length_eq_zero (by simpa using h)
    subst this
    rfl
  | q + 1, l, h => by
    rw [List.range_succ_eq_map, List.map_cons, List.map_map, List.flatten_cons]
    have e : ((fun i => (l.drop (i * c)).take c) ∘ Nat.succ) = fun i => ((l.drop c).drop (i * c)).take c := by
      funext i
      show (l.drop ((i + 1) * c)).take c = _
      rw [List.drop_drop, Nat.add_mul, Nat.one_mul, Nat.add_comm]
    rw [e, take_parts hc q (l.drop c) (by rw [List.length_drop, h, Nat.mul_succ]; omega)]
    simp
theorem flat_partsM {c q : Nat} {l : List Bool} (hc : 0 < c) (h : l.length = c * q) : (partsM c l).flatten = l := by
  have hq := partsM_whole hc h
  rw [partsM_len] at hq
  unfold partsM
  rw [hq]
  exact take_parts hc q l h
theorem flat_get {c : Nat} : ∀ {ls : List (List Bool)} (_ : ∀ x ∈ ls, x.length = c) {i : Nat} {x : List Bool}, ls[i]? = some x → (ls.flatten.drop (i * c)).take c = x
  | [], _, i, x, h => by simp at h
  | a :: ls, hl, 0, x, h => by
    simp at h
    subst h
    have := hl a List.mem_cons_self
    rw [Nat.zero_mul, List.drop_zero, List.flatten_cons, ← this, List.take_left]
  | a :: ls, hl, i + 1, x, h => by
    have h0 := hl a List.mem_cons_self
    have := flat_get (ls := ls) (fun x hx => hl x (List.mem_cons_of_mem _ hx)) (i := i) (x := x) (by simpa using h)
    rw [List.flatten_cons, Nat.add_mul, Nat.one_mul, Nat.add_comm, ← List.drop_drop, ← h0, List.drop_left, h0]
    exact this
theorem flat_len {c : Nat} : ∀ {ls : List (List Bool)} (_ : ∀ x ∈ ls, x.length = c), ls.flatten.length = c * ls.length
  | [], _ => rfl
  | a :: ls, hl => by
    rw [List.flatten_cons, List.length_append, hl a List.mem_cons_self, flat_len (ls := ls) (fun x hx => hl x (List.mem_cons_of_mem _ hx)), List.length_cons, Nat.mul_succ]; omega
theorem parts_flat {c : Nat} (hc : 0 < c) {ls : List (List Bool)} (hl : ∀ x ∈ ls, x.length = c) : partsM c ls.flatten = ls := by
  have hn := partsM_whole hc (flat_len hl)
  apply List.ext_getElem?
  intro i
  by_cases h : i < ls.length
  · rw [partsM_get (by omega), List.getElem?_eq_getElem h, flat_get hl (List.getElem?_eq_getElem h)]
  · rw [List.getElem?_eq_none (by omega), List.getElem?_eq_none (by omega)]
/-- order of rows of bits as texts -/
theorem lt_bs : ∀ {l m : List Bool}, l.length = m.length → (decide ((bs l).cps.toList < (bs m).cps.toList) = ltB l m)
  | [], [], _ => by decide
  | [], _ :: _, h => by simp at h
  | _ :: _, [], h => by simp at h
  | a :: l, b :: m, h => by
    have ih := lt_bs (l := l) (m := m) (by simpa using h)
    rw [bs_cps, bs_cps] at ih ⊢
    rw [Bool.eq_iff_iff, decide_eq_true_iff] at ih ⊢
    rw [List.map_cons, List.map_cons, List.cons_lt_cons_iff, ih]
    show (bc a < bc b ∨ bc a = bc b ∧ ltB l m = true) ↔ ((!a && b) || (a == b && ltB l m)) = true
    cases a <;> cases b <;> simp [bc]
theorem fLt_bs {l m : List Bool} {P : D → Prop} (h : l.length = m.length) (hp : P (.bl (ltB l m))) : fLt (.str (bs l)) (.str (bs m)) P := by
  show P (.bl (decide ((bs l).cps.toList < (bs m).cps.toList)))
  rw [lt_bs h]; exact hp
theorem Shp.nD (n : Nat) : Shp 1 (nD n) := .int _
theorem Shp.nL (l : List Nat) : Shp 2 (nL l) := .lst fun d hd => by
  obtain ⟨n, _, rfl⟩ := List.mem_map.mp hd
  exact .int _
theorem deq_nL {a b : List Nat} : deq (G.nL a) (G.nL b) = decide (a = b) := by
  show PyData.eqv (.list (toPs (a.map G.nD))) (.list (toPs (b.map G.nD))) = _
  have : ∀ a b : List Nat, PyData.eqvAll (toPs (a.map G.nD)) (toPs (b.map G.nD)) = decide (a = b) := by
    intro a
    induction a with
    | nil => intro b; cases b <;> rfl
    | cons x a ih =>
      intro b
      cases b with
      | nil => rfl
      | cons y b =>
        show (PyData.eqv (.int (x : Nat)) (.int (y : Nat)) && PyData.eqvAll (toPs (a.map G.nD)) (toPs (b.map G.nD))) = _
        rw [ih]
        show (decide ((x : Int) = (y : Int)) && _) = _
        rw [Bool.eq_iff_iff]
        simp
        exact fun _ => by omega
  exact this a b
theorem fEq_nL {a b : List Nat} {P : D → Prop} (h : P (.bl (decide (a = b)))) : fEq (nL a) (nL b) P := ⟨(Shp.nL a).ok (by decide), (Shp.nL b).ok (by decide), by rw [deq_nL]; exact h⟩
theorem cutD_one {α : Type} (l : List α) : cutD l none (some 1) = l.take 1 := cutD_to l 1
theorem fIx_last {l t : List Bool} {b : Bool} {P : D → Prop} (e : l = t ++ [b]) (hl : l.length ≤ 1000000) (hp : P (sb b)) : fIx (.str (bs l)) (.int (-1)) P := by
  subst e
  exact fIx_bsl hl hp
theorem tb_le {M : Mc} (ok : M.Ok) (g : Nat) : ∀ n a, a < M.length → tb M g n a ≤ 2 ^ n
  | 0, a, h => by rw [tb_zero h]; split <;> simp
  | n + 1, a, h => by
    rw [tb_succ h, Nat.pow_succ]
    have : ∀ o : Option Nat, (∀ e, o = some e → e < M.length) → tbO M g n o ≤ 2 ^ n := fun o ho => by
      cases o with
      | none => exact Nat.zero_le _
      | some e => exact tb_le ok g n e (ho e rfl)
    have h1 := this (nx M a false) fun e he => nx_lt ok he
    have h2 := this (nx M a true) fun e he => nx_lt ok he
    omega
theorem ixN_nat {n k : Nat} (h : k < n) : ixN n (k : Int) = some k := by
  unfold ixN
  rw [if_pos (by omega), if_pos (by omega)]
  rfl
theorem oD_some (e : Nat) : oD (some e) = .int (e : Nat) := rfl
theorem Shp.oD (o : Option Nat) : Shp 1 (G.oD o) := by cases o with
  | none => exact ⟨rfl, Nat.zero_le _⟩
  | some e => exact .int _
theorem fNe_o {o : Option Nat} {g : Nat} {P : D → Prop} (hp : P (.bl (!decide (o = some g)))) : fNe (oD o) (.int (g : Nat)) P := by
  cases o with
  | none => exact ⟨by decide, (Shp.int _).ok (by decide), hp⟩
  | some e =>
    show P (.bl (!decide (((e : Nat) : Int) = (g : Nat))))
    have : decide (((e : Nat) : Int) = (g : Nat)) = decide (some e = some g) := by rw [Bool.eq_iff_iff]; simp; omega
    rw [this]; exact hp
theorem fNe_oo {o : Option Nat} {P : D → Prop} (hp : P (.bl false)) : fNe (oD o) (oD o) P := by
  cases o with
  | none => exact ⟨by decide, by decide, hp⟩
  | some e =>
    show P (.bl (!decide (((e : Nat) : Int) = (e : Nat))))
    rw [decide_eq_true rfl]; exact hp
theorem fNe_tupSame {n : Nat} {ds : List D} {P : D → Prop} (h : Shp n (.tup ds)) (hn : n ≤ 64) (hp : P (.bl false)) : fNe (.tup ds) (.tup ds) P := ⟨h.ok hn, h.ok hn, by rw [deq_same h]; exact hp⟩
theorem fMax_two {i j : Int} {P : D → Prop} (h : P (.int (if j > i then j else i))) : fMax [.int i, .int j] P := h
theorem fIx_lst {ds : List D} {k : Nat} {d : D} {P : D → Prop} (h : ds[k]? = some d) (hp : P d) : fIx (.lst ds) (.int (k : Nat)) P := ⟨d, atI_of rfl h, hp⟩
theorem fIx_tup {ds : List D} {k : Nat} {d : D} {P : D → Prop} (h : ds[k]? = some d) (hp : P d) : fIx (.tup ds) (.int (k : Nat)) P := ⟨d, atI_of rfl h, hp⟩
def addAll (more : List Nat) (x : Nat) (os : List (Option Nat)) : List Nat := os.foldl (fun m o => addAt m x o) more
theorem addAll_snoc (more : List Nat) (x : Nat) (os : List (Option Nat)) (o : Option Nat) : addAll more x (os ++ [o]) = addAt (addAll more x os) x o := by simp [addAll]
theorem addAll_len (x : Nat) : ∀ (os : List (Option Nat)) (more : List Nat), (addAll more x os).length = more.length
  | [], _ => rfl
  | o :: os, more => by
    show (addAll (addAt more x o) x os).length = _
    rw [addAll_len x os, addAt_len]
theorem map_set {l : List Nat} {i x : Nat} : (l.map nD).set i (nD x) = (l.set i x).map nD := by rw [List.map_set]
theorem rep_zero (n : Nat) : (List.replicate n [D.int 0]).flatten = (List.replicate n 0).map nD := by
  induction n with
  | zero => rfl
  | succ n ih => rw [List.replicate_succ, List.flatten_cons, ih, List.replicate_succ]; rfl
theorem rep_bl (n : Nat) (b : Bool) : (List.replicate n [D.bl b]).flatten = List.replicate n (D.bl b) := by
  induction n with
  | zero => rfl
  | succ n ih => rw [List.replicate_succ, List.flatten_cons, ih, List.replicate_succ]; rfl
theorem rep_non (n : Nat) : (List.replicate n [D.non]).flatten = List.replicate n D.non := by
  induction n with
  | zero => rfl
  | succ n ih => rw [List.replicate_succ, List.flatten_cons, ih, List.replicate_succ]; rfl
end G

namespace K80
open PySem PySem.Spec PyProof.Rows L2 G
def topS (i : Nat) : Stmt := PySem.Challenge.pw_runbound_k80_whole_long_tables.main.body.getD i (.Pass ⟨0, 0, 0, 0⟩)
abbrev s_ends_of : Stmt := topS 7
theorem sc_ends_of : FnScope ["room", "end"] ["room"] (defScope s_ends_of) := ⟨rfl, rfl, rfl, by decide +kernel, rfl, by decide +kernel, by decide +kernel⟩
abbrev s_one_longer : Stmt := topS 9
theorem sc_one_longer : FnScope ["machine", "found", "room", "end"] ["machine", "found"] (defScope s_one_longer) := ⟨rfl, rfl, rfl, by decide +kernel, rfl, by decide +kernel, by decide +kernel⟩
abbrev s_tables_of : Stmt := topS 10
theorem sc_tables_of : FnScope ["machine", "goal", "many", "tables", "turn", "room"] ["machine", "goal", "many"] (defScope s_tables_of) := ⟨rfl, rfl, rfl, by decide +kernel, rfl, by decide +kernel, by decide +kernel⟩
abbrev s_counts_to : Stmt := topS 11
theorem sc_counts_to : FnScope ["machine", "many", "goal"] ["machine", "many", "goal"] (defScope s_counts_to) := ⟨rfl, rfl, rfl, by decide +kernel, rfl, by decide +kernel, by decide +kernel⟩
abbrev s_from_there : Stmt := topS 12
theorem sc_from_there : FnScope ["tables", "machine", "room", "left", "number", "row", "at", "ahead", "rest", "first", "second", "many"] ["tables", "machine", "room", "left", "number"] (defScope s_from_there) := ⟨rfl, rfl, rfl, by decide +kernel, rfl, by decide +kernel, by decide +kernel⟩
abbrev s_row_at : Stmt := topS 13
theorem sc_row_at : FnScope ["machine", "room", "goal", "many", "number", "tables"] ["machine", "room", "goal", "many", "number"] (defScope s_row_at) := ⟨rfl, rfl, rfl, by decide +kernel, rfl, by decide +kernel, by decide +kernel⟩
abbrev s_number_of : Stmt := topS 14
theorem sc_number_of : FnScope ["machine", "room", "goal", "row", "tables", "at", "ahead", "place", "bit", "first", "second"] ["machine", "room", "goal", "row"] (defScope s_number_of) := ⟨rfl, rfl, rfl, by decide +kernel, rfl, by decide +kernel, by decide +kernel⟩
abbrev s_is_number : Stmt := topS 16
theorem sc_is_number : FnScope ["thing", "least"] ["thing", "least"] (defScope s_is_number) := ⟨rfl, rfl, rfl, by decide +kernel, rfl, by decide +kernel, by decide +kernel⟩
abbrev s_are_numbers : Stmt := topS 17
theorem sc_are_numbers : FnScope ["thing", "many", "least", "one"] ["thing", "many", "least"] (defScope s_are_numbers) := ⟨rfl, rfl, rfl, by decide +kernel, rfl, by decide +kernel, by decide +kernel⟩
abbrev s_round_count : Stmt := topS 19
theorem sc_round_count : FnScope ["machine", "room", "many"] ["machine", "room", "many"] (defScope s_round_count) := ⟨rfl, rfl, rfl, by decide +kernel, rfl, by decide +kernel, by decide +kernel⟩
abbrev s_bits_for : Stmt := topS 20
theorem sc_bits_for : FnScope ["machine", "room", "many", "found"] ["machine", "room", "many"] (defScope s_bits_for) := ⟨rfl, rfl, rfl, by decide +kernel, rfl, by decide +kernel, by decide +kernel⟩
abbrev s_least_many : Stmt := topS 21
theorem sc_least_many : FnScope ["machine", "room", "p", "most", "told", "many"] ["machine", "room", "p", "most"] (defScope s_least_many) := ⟨rfl, rfl, rfl, by decide +kernel, rfl, by decide +kernel, by decide +kernel⟩
abbrev s_shows_least_many : Stmt := topS 22
theorem sc_shows_least_many : FnScope ["machine", "room", "p", "many", "told", "length", "one"] ["machine", "room", "p", "many", "told"] (defScope s_shows_least_many) := ⟨rfl, rfl, rfl, by decide +kernel, rfl, by decide +kernel, by decide +kernel⟩
abbrev s_parts_of : Stmt := topS 23
theorem sc_parts_of : FnScope ["row", "many", "place"] ["row", "many"] (defScope s_parts_of) := ⟨rfl, rfl, rfl, by decide +kernel, rfl, by decide +kernel, by decide +kernel⟩
abbrev s_as_bits : Stmt := topS 24
theorem sc_as_bits : FnScope ["number", "many", "place"] ["number", "many"] (defScope s_as_bits) := ⟨rfl, rfl, rfl, by decide +kernel, rfl, by decide +kernel, by decide +kernel⟩
abbrev s_as_number : Stmt := topS 25
theorem sc_as_number : FnScope ["bits", "found", "bit"] ["bits"] (defScope s_as_number) := ⟨rfl, rfl, rfl, by decide +kernel, rfl, by decide +kernel, by decide +kernel⟩
abbrev s_table_written : Stmt := topS 26
theorem sc_table_written : FnScope ["machine", "room", "many", "bits", "p", "part"] ["machine", "room", "many", "bits"] (defScope s_table_written) := ⟨rfl, rfl, rfl, by decide +kernel, rfl, by decide +kernel, by decide +kernel⟩
abbrev s_block_number : Stmt := topS 27
theorem sc_block_number : FnScope ["machine", "room", "many", "block", "found"] ["machine", "room", "many", "block"] (defScope s_block_number) := ⟨rfl, rfl, rfl, by decide +kernel, rfl, by decide +kernel, by decide +kernel⟩
abbrev s_table_read : Stmt := topS 28
theorem sc_table_read : FnScope ["machine", "room", "many", "row", "p", "bits", "place", "block", "number"] ["machine", "room", "many", "row"] (defScope s_table_read) := ⟨rfl, rfl, rfl, by decide +kernel, rfl, by decide +kernel, by decide +kernel⟩
abbrev s__law_cell_at : Stmt := topS 30
theorem sc__law_cell_at : FnScope ["script", "k"] ["script", "k"] (defScope s__law_cell_at) := ⟨rfl, rfl, rfl, by decide +kernel, rfl, by decide +kernel, by decide +kernel⟩
abbrev s__law_box : Stmt := topS 31
theorem sc__law_box : FnScope ["script", "k", "cell"] ["script", "k"] (defScope s__law_box) := ⟨rfl, rfl, rfl, by decide +kernel, rfl, by decide +kernel, by decide +kernel⟩
abbrev s__law_take : Stmt := topS 32
theorem sc__law_take : FnScope ["box", "many", "found", "once", "twice"] ["box", "many"] (defScope s__law_take) := ⟨rfl, rfl, rfl, by decide +kernel, rfl, by decide +kernel, by decide +kernel⟩
abbrev s__law_ring_machine : Stmt := topS 33
theorem sc__law_ring_machine : FnScope ["box", "many", "order", "k", "rooms", "at", "room", "on", "other"] ["box", "many"] (defScope s__law_ring_machine) := ⟨rfl, rfl, rfl, by decide +kernel, rfl, by decide +kernel, by decide +kernel⟩
abbrev s__law_rounds : Stmt := topS 34
theorem sc__law_rounds : FnScope ["machine", "room", "many", "place", "ways", "seen", "turn", "more", "doors", "goal"] ["machine", "room", "many"] (defScope s__law_rounds) := ⟨rfl, rfl, rfl, by decide +kernel, rfl, by decide +kernel, by decide +kernel⟩
abbrev s__law_leads : Stmt := topS 35
theorem sc__law_leads : FnScope ["machine", "room", "row", "bit"] ["machine", "room", "row"] (defScope s__law_leads) := ⟨rfl, rfl, rfl, by decide +kernel, rfl, by decide +kernel, by decide +kernel⟩
abbrev s__law_bad_block : Stmt := topS 36
theorem sc__law_bad_block : FnScope ["machine", "room", "many", "row", "block", "error"] ["machine", "room", "many", "row"] (defScope s__law_bad_block) := ⟨rfl, rfl, rfl, by decide +kernel, rfl, by decide +kernel, by decide +kernel⟩
abbrev s__law_table_right : Stmt := topS 37
theorem sc__law_table_right : FnScope ["box", "machine", "room", "many", "p", "blocks", "bits", "row", "parts", "told", "last", "at", "place", "part"] ["box", "machine", "room", "many", "p"] (defScope s__law_table_right) := ⟨rfl, rfl, rfl, by decide +kernel, rfl, by decide +kernel, by decide +kernel⟩
abbrev s__law_least_right : Stmt := topS 38
theorem sc__law_least_right : FnScope ["box", "machine", "room", "seen", "further", "p", "most", "due", "got", "at", "other", "many"] ["box", "machine", "room", "seen", "further"] (defScope s__law_least_right) := ⟨rfl, rfl, rfl, by decide +kernel, rfl, by decide +kernel, by decide +kernel⟩
abbrev s_law : Stmt := topS 39
theorem sc_law : FnScope ["script", "k", "box", "some", "machine", "room", "many", "seen", "p"] ["script"] (defScope s_law) := ⟨rfl, rfl, rfl, by decide +kernel, rfl, by decide +kernel, by decide +kernel⟩
abbrev a_NoRow : Addr := 49
abbrev a_BadBlock : Addr := 80
def is_BadBlock : Stmt := match topS 5 with
  | .ClassDef (body := b) .. => b.getD 0 (.Pass ⟨0, 0, 0, 0⟩)
  | _ => .Pass ⟨0, 0, 0, 0⟩
theorem isc_BadBlock : FnScope ["self", "block"] ["self", "block"] (defScope is_BadBlock) := ⟨rfl, rfl, rfl, by decide +kernel, rfl, by decide +kernel, by decide +kernel⟩
structure Ad where
  fi_BadBlock : Addr
  di_BadBlock : FuncData
  br_BadBlock : Addr
  f_ends_of : Addr
  d_ends_of : FuncData
  f_one_longer : Addr
  d_one_longer : FuncData
  f_tables_of : Addr
  d_tables_of : FuncData
  f_counts_to : Addr
  d_counts_to : FuncData
  f_from_there : Addr
  d_from_there : FuncData
  f_row_at : Addr
  d_row_at : FuncData
  f_number_of : Addr
  d_number_of : FuncData
  f_is_number : Addr
  d_is_number : FuncData
  f_are_numbers : Addr
  d_are_numbers : FuncData
  f_round_count : Addr
  d_round_count : FuncData
  f_bits_for : Addr
  d_bits_for : FuncData
  f_least_many : Addr
  d_least_many : FuncData
  f_shows_least_many : Addr
  d_shows_least_many : FuncData
  f_parts_of : Addr
  d_parts_of : FuncData
  f_as_bits : Addr
  d_as_bits : FuncData
  f_as_number : Addr
  d_as_number : FuncData
  f_table_written : Addr
  d_table_written : FuncData
  f_block_number : Addr
  d_block_number : FuncData
  f_table_read : Addr
  d_table_read : FuncData
  f__law_cell_at : Addr
  d__law_cell_at : FuncData
  f__law_box : Addr
  d__law_box : FuncData
  f__law_take : Addr
  d__law_take : FuncData
  f__law_ring_machine : Addr
  d__law_ring_machine : FuncData
  f__law_rounds : Addr
  d__law_rounds : FuncData
  f__law_leads : Addr
  d__law_leads : FuncData
  f__law_bad_block : Addr
  d__law_bad_block : FuncData
  f__law_table_right : Addr
  d__law_table_right : FuncData
  f__law_least_right : Addr
  d__law_least_right : FuncData
  f_law : Addr
  d_law : FuncData
structure Tx (K : PySem.W.Frag) (mg : Str → Option Value) (a : Ad) : Prop where
  F_ends_of : Fun K "ends_of" "ends_of" s_ends_of a.f_ends_of a.d_ends_of
  g_ends_of : mg "ends_of" = some (.ref a.f_ends_of)
  b_ends_of : Binds K a.d_ends_of ["room"] []
  F_one_longer : Fun K "one_longer" "one_longer" s_one_longer a.f_one_longer a.d_one_longer
  g_one_longer : mg "one_longer" = some (.ref a.f_one_longer)
  b_one_longer : Binds K a.d_one_longer ["machine", "found"] []
  F_tables_of : Fun K "tables_of" "tables_of" s_tables_of a.f_tables_of a.d_tables_of
  g_tables_of : mg "tables_of" = some (.ref a.f_tables_of)
  b_tables_of : Binds K a.d_tables_of ["machine", "goal", "many"] []
  F_counts_to : Fun K "counts_to" "counts_to" s_counts_to a.f_counts_to a.d_counts_to
  g_counts_to : mg "counts_to" = some (.ref a.f_counts_to)
  b_counts_to : Binds K a.d_counts_to ["machine", "many", "goal"] []
  F_from_there : Fun K "from_there" "from_there" s_from_there a.f_from_there a.d_from_there
  g_from_there : mg "from_there" = some (.ref a.f_from_there)
  b_from_there : Binds K a.d_from_there ["tables", "machine", "room", "left", "number"] []
  F_row_at : Fun K "row_at" "row_at" s_row_at a.f_row_at a.d_row_at
  g_row_at : mg "row_at" = some (.ref a.f_row_at)
  b_row_at : Binds K a.d_row_at ["machine", "room", "goal", "many", "number"] []
  F_number_of : Fun K "number_of" "number_of" s_number_of a.f_number_of a.d_number_of
  g_number_of : mg "number_of" = some (.ref a.f_number_of)
  b_number_of : Binds K a.d_number_of ["machine", "room", "goal", "row"] []
  F_is_number : Fun K "is_number" "is_number" s_is_number a.f_is_number a.d_is_number
  g_is_number : mg "is_number" = some (.ref a.f_is_number)
  b_is_number : Binds K a.d_is_number ["thing", "least"] []
  F_are_numbers : Fun K "are_numbers" "are_numbers" s_are_numbers a.f_are_numbers a.d_are_numbers
  g_are_numbers : mg "are_numbers" = some (.ref a.f_are_numbers)
  b_are_numbers : Binds K a.d_are_numbers ["thing", "many", "least"] []
  F_round_count : Fun K "round_count" "round_count" s_round_count a.f_round_count a.d_round_count
  g_round_count : mg "round_count" = some (.ref a.f_round_count)
  b_round_count : Binds K a.d_round_count ["machine", "room", "many"] []
  F_bits_for : Fun K "bits_for" "bits_for" s_bits_for a.f_bits_for a.d_bits_for
  g_bits_for : mg "bits_for" = some (.ref a.f_bits_for)
  b_bits_for : Binds K a.d_bits_for ["machine", "room", "many"] []
  F_least_many : Fun K "least_many" "least_many" s_least_many a.f_least_many a.d_least_many
  g_least_many : mg "least_many" = some (.ref a.f_least_many)
  b_least_many : Binds K a.d_least_many ["machine", "room", "p", "most"] []
  F_shows_least_many : Fun K "shows_least_many" "shows_least_many" s_shows_least_many a.f_shows_least_many a.d_shows_least_many
  g_shows_least_many : mg "shows_least_many" = some (.ref a.f_shows_least_many)
  b_shows_least_many : Binds K a.d_shows_least_many ["machine", "room", "p", "many", "told"] []
  F_parts_of : Fun K "parts_of" "parts_of" s_parts_of a.f_parts_of a.d_parts_of
  g_parts_of : mg "parts_of" = some (.ref a.f_parts_of)
  b_parts_of : Binds K a.d_parts_of ["row", "many"] []
  F_as_bits : Fun K "as_bits" "as_bits" s_as_bits a.f_as_bits a.d_as_bits
  g_as_bits : mg "as_bits" = some (.ref a.f_as_bits)
  b_as_bits : Binds K a.d_as_bits ["number", "many"] []
  F_as_number : Fun K "as_number" "as_number" s_as_number a.f_as_number a.d_as_number
  g_as_number : mg "as_number" = some (.ref a.f_as_number)
  b_as_number : Binds K a.d_as_number ["bits"] []
  F_table_written : Fun K "table_written" "table_written" s_table_written a.f_table_written a.d_table_written
  g_table_written : mg "table_written" = some (.ref a.f_table_written)
  b_table_written : Binds K a.d_table_written ["machine", "room", "many", "bits"] []
  F_block_number : Fun K "block_number" "block_number" s_block_number a.f_block_number a.d_block_number
  g_block_number : mg "block_number" = some (.ref a.f_block_number)
  b_block_number : Binds K a.d_block_number ["machine", "room", "many", "block"] []
  F_table_read : Fun K "table_read" "table_read" s_table_read a.f_table_read a.d_table_read
  g_table_read : mg "table_read" = some (.ref a.f_table_read)
  b_table_read : Binds K a.d_table_read ["machine", "room", "many", "row"] []
  F__law_cell_at : Fun K "_law_cell_at" "_law_cell_at" s__law_cell_at a.f__law_cell_at a.d__law_cell_at
  g__law_cell_at : mg "_law_cell_at" = some (.ref a.f__law_cell_at)
  b__law_cell_at : Binds K a.d__law_cell_at ["script", "k"] []
  F__law_box : Fun K "_law_box" "_law_box" s__law_box a.f__law_box a.d__law_box
  g__law_box : mg "_law_box" = some (.ref a.f__law_box)
  b__law_box : Binds K a.d__law_box ["script", "k"] []
  F__law_take : Fun K "_law_take" "_law_take" s__law_take a.f__law_take a.d__law_take
  g__law_take : mg "_law_take" = some (.ref a.f__law_take)
  b__law_take : Binds K a.d__law_take ["box", "many"] []
  F__law_ring_machine : Fun K "_law_ring_machine" "_law_ring_machine" s__law_ring_machine a.f__law_ring_machine a.d__law_ring_machine
  g__law_ring_machine : mg "_law_ring_machine" = some (.ref a.f__law_ring_machine)
  b__law_ring_machine : Binds K a.d__law_ring_machine ["box", "many"] []
  F__law_rounds : Fun K "_law_rounds" "_law_rounds" s__law_rounds a.f__law_rounds a.d__law_rounds
  g__law_rounds : mg "_law_rounds" = some (.ref a.f__law_rounds)
  b__law_rounds : Binds K a.d__law_rounds ["machine", "room", "many"] []
  F__law_leads : Fun K "_law_leads" "_law_leads" s__law_leads a.f__law_leads a.d__law_leads
  g__law_leads : mg "_law_leads" = some (.ref a.f__law_leads)
  b__law_leads : Binds K a.d__law_leads ["machine", "room", "row"] []
  F__law_bad_block : Fun K "_law_bad_block" "_law_bad_block" s__law_bad_block a.f__law_bad_block a.d__law_bad_block
  g__law_bad_block : mg "_law_bad_block" = some (.ref a.f__law_bad_block)
  b__law_bad_block : Binds K a.d__law_bad_block ["machine", "room", "many", "row"] []
  F__law_table_right : Fun K "_law_table_right" "_law_table_right" s__law_table_right a.f__law_table_right a.d__law_table_right
  g__law_table_right : mg "_law_table_right" = some (.ref a.f__law_table_right)
  b__law_table_right : Binds K a.d__law_table_right ["box", "machine", "room", "many", "p"] []
  F__law_least_right : Fun K "_law_least_right" "_law_least_right" s__law_least_right a.f__law_least_right a.d__law_least_right
  g__law_least_right : mg "_law_least_right" = some (.ref a.f__law_least_right)
  b__law_least_right : Binds K a.d__law_least_right ["box", "machine", "room", "seen", "further"] []
  F_law : Fun K "law" "law" s_law a.f_law a.d_law
  g_law : mg "law" = some (.ref a.f_law)
  b_law : Binds K a.d_law ["script"] []
  FI_BadBlock : Fun K "__init__" "BadBlock.__init__" is_BadBlock a.fi_BadBlock a.di_BadBlock
  o_BadBlock : OexC K a_BadBlock
  i_BadBlock : PySem.W.findIn K (.ref a_BadBlock) "__init__" = some (some (.ref a.fi_BadBlock))
  t_BadBlock : PySem.W.typeIn K (.ref a.fi_BadBlock) = some (.type "function")
  b_BadBlock : Binds K a.di_BadBlock ["self", "block"] []
  g_BadBlock : mg "BadBlock" = some (.ref a_BadBlock)
  x_BadBlock : PySem.W.exmOne K (.ref a_BadBlock) (.ref a_BadBlock) = some true
  f_BadBlock : XfC K a_BadBlock
  n_BadBlock : PySem.W.findIn K (.ref a_BadBlock) "block" = some none
  gb_BadBlock : mg "RunError" = some (.ref a.br_BadBlock)
  sb_BadBlock : PySem.W.specialIn K (.ref a.br_BadBlock) "__getattribute__" = some (some (.builtin "type.__getattribute__"))
  rb_BadBlock : PySem.W.readsIn K a.br_BadBlock (.type "type") = true
  cb_BadBlock : PySem.W.findCls K (.ref a.br_BadBlock) (.type "type") "__init__" = some (.val (.builtin "ValueError.__init__"))
  e_NoRow : ClsAt K mg "NoRow" a_NoRow
  s_NoRow_NoRow : PySem.W.subIn K (.ref a_NoRow) (.ref a_NoRow) = some true
  m_abs : mg "abs" = none
  m_all : mg "all" = none
  m_any : mg "any" = none
  m_bool : mg "bool" = none
  m_enumerate : mg "enumerate" = none
  m_int : mg "int" = none
  m_isinstance : mg "isinstance" = none
  m_len : mg "len" = none
  m_list : mg "list" = none
  m_max : mg "max" = none
  m_min : mg "min" = none
  m_range : mg "range" = none
  m_sum : mg "sum" = none
  m_tuple : mg "tuple" = none
theorem G_BadBlock {P : Program} {w : World} {K : PySem.W.Frag} {mg : Str → Option Value} {base : Heap} {a : Ad} (T : Tx K mg a) : FnOk P w K mg base CX0 1 a.fi_BadBlock a.di_BadBlock ["self", "block"] (spInit a_BadBlock "block") :=
  Fun.ok T.FI_BadBlock isc_BadBlock (by rintro vs H Q E ⟨a, v, rfl, _⟩; rfl) fun cdv A outer s H vs Q E hr h => by
  refine ⟨_, pss_cons (ps_expr (pe_oinit rfl T.gb_BadBlock T.sb_BadBlock T.rb_BadBlock T.cb_BadBlock (pa_cons (pv 0) (pa_cons pe_str pa_nil)))) (pss_one (ps_ost (pv 0) (pv 1))), ?_⟩
  obtain ⟨x, v, rfl, hx, hq⟩ := h
  exact ⟨.ref x, rfl, x, a_BadBlock, [.str _], rfl, by decide, T.o_BadBlock, hx, v, rfl, .ref x, rfl, x, a_BadBlock, rfl, T.o_BadBlock, T.n_BadBlock, .inl ⟨hx, fun dx h1 h2 => hq dx h1 h2⟩⟩

end K80
namespace K80
open PySem PySem.Spec PyProof.Rows L2 G
variable {P : Program} {w : World} {K : PySem.W.Frag} {mg : Str → Option Value} {base : Heap} {a : Ad}
local macro_rules | `(tactic| walk_at "wk") => `(tactic| repeat first | exact Wk.nil' | refine Wk.eq ?_ | refine Wk.un ?_ | refine Wk.eqv ?_ ?_)
local macro_rules | `(tactic| walk_at "ev") => `(tactic| (repeat (first | with_reducible refine nxt_go ?_ | dsimp only [↓mVar, ↓mC, ↓mBin, ↓mTst, ↓mAndT, ↓mOrT, ↓mNotT, ↓mAndV, ↓mOrV, ↓mNotV, ↓mIf, ↓mChain, ↓mNil, ↓mCons, ↓mTup, ↓mLst, ↓mFz, ↓mIxV, ↓mNoP, ↓mSoP, ↓mSl, ↓mNeg, ↓mNx, ↓mSeq, ↓mBk, ↓mCt, ↓mEx, ↓mIfS, ↓mXe, ↓mXo, ↓mSet, ↓mRet, ↓mRetO, ↓mRetN, ↓mRetV, ↓mAug, ↓gN, ↓gNl, ↓gCs, ↓gT, ↓iL, ↓iT, ↓iS, ↓iR1, ↓iR2, ↓iR3, ↓iEn, ↓iEnS, ↓iZp, ↓iRv, ↓mYes, ↓mCall, ↓mCallO, ↓mCallM, ↓mBf, ↓mLi, ↓mLenV, ↓mMut, ↓mMt, ↓mSub, ↓mUnp, ↓mPar2, ↓mPar3, ↓mSm, ↓mBits, ↓mNever, ↓mFzS, ↓mCmpV, ↓mRaise, ↓mTry, ↓mRaiseF, ↓mTryF, ↓mIsi, ↓mIsi2, ↓iEnT, ↓mRep, ↓wipeS, ↓fAdd_int, ↓fAddI_int, ↓fSub_int, ↓fLt_int, ↓fLe_int, ↓fGt_int, ↓fGe_int, ↓fEq_int, ↓fNe_int, ↓fEq_bl, ↓fNe_bl, ↓Nat.reduceAdd, ↓Nat.reduceSub, ↓List.reduceReplicate, ↓List.map, ↓List.replicate, ↓List.length, ↓List.append, ↓List.cons_append, ↓List.nil_append, ↓List.set, ↓List.getElem?_cons_zero, ↓List.getElem?_cons_succ, ↓List.set_cons_zero, ↓List.set_cons_succ, ↓List.length_cons, ↓List.length_nil, rvD_fz, rvD_ow, PEnds.loop])))
def m_ends_of : MS := mRet (mFz (mLc (iT (mVar 0)) (gN 1) (mTst (mBin fIsNot (mVar 1) (mC .non))) (mVar 1) [1]))
theorem bd_ends_of (T : Tx K mg a) : Bd P w K mg base 0 ["room", "end"] s_ends_of m_ends_of := ⟨fun qual f cdv A outer s H E hr tk pw =>
  gss_one (gs_ret (ge_fz (go_lc (own := [("end", 1)]) rfl sc_ends_of.nd (gi_tup (ge_var)) (blkOk_by (N := ["room", "end"]) (sc := (defScope s_ends_of)) (by decide +kernel)) (fun _ _ _ _ _ => gg_name sc_ends_of.nd) (fun _ _ _ _ _ => gts_one (gt_cmp op_isNotA od_isnot (ge_var) (ge_non))) (fun _ _ _ _ _ => ge_var))))⟩
def c_ends_of : CtP := fun ds P _ => ∃ r, ds = [rD r] ∧ P (.fz (nL (ends r)))
theorem G_ends_of (T : Tx K mg a) : FnOk P w K mg base (L2.CX P w) 1 a.f_ends_of a.d_ends_of ["room"] (spP K c_ends_of) :=
  fn_P T.F_ends_of sc_ends_of (by rintro ds P PX ⟨r, rfl, _⟩; rfl) (bd_ends_of T) fun ds P PX h => by
  obtain ⟨⟨x, y⟩, rfl, hp⟩ := h
  unfold m_ends_of
  walk_at "ev"
  refine lc_run (fun _ q => by walk_at "ev"; exact q) (xs := [x, y]) (f := oD) rfl (fun k => (([x, y].take k).filterMap id).map nD) (fun _ => [.fz (rD (x, y)), .un]) ⟨rfl, rfl⟩ (fun k i hk => ?_) ?_
  · have hk2 : k < 2 := get_lt hk
    have e : ([x, y].take (k + 1)) = [x, y].take k ++ [i] := take_snoc hk
    walk_at "ev"
    refine fIsNot_o ?_
    walk_at "ev"
    have hl : (([x, y].take k).filterMap id).length ≤ 2 := Nat.le_trans (List.length_filterMap_le _ _) (by rw [List.length_take]; omega)
    cases i with
    | none =>
      refine ⟨fun z => Bool.noConfusion z, fun _ => ⟨?_, rfl⟩⟩
      rw [e, List.filterMap_append]
      simp
    | some v =>
      refine ⟨fun _ => ?_, fun z => Bool.noConfusion z⟩
      walk_at "ev"
      refine ⟨sl_lt (by rw [List.length_map]; omega), ?_, rfl⟩
      rw [e, List.filterMap_append]
      simp
      rfl
  · walk_at "ev"
    have e : [x, y].filterMap id = ends (x, y) := by cases x <;> cases y <;> rfl
    show P (.fz (.lst ((([x, y].take 2).filterMap id).map nD)))
    rw [show [x, y].take 2 = [x, y] from rfl, e]
    exact hp

def m_one_longer : MS := mRet (mFz (mLc (iT (mVar 0)) (gN 2) (mYes) (mBf fSum (mCons (mFz (mLc (iL (mCall c_ends_of (mCons (mVar 2) (mNil)))) (gN 3) (mYes) (mBin fIx (mVar 1) (mVar 3)) [3])) (mNil))) [2]))
theorem bd_one_longer (T : Tx K mg a) : Bd P w K mg base 1 ["machine", "found", "room", "end"] s_one_longer m_one_longer := ⟨fun qual f cdv A outer s H E hr tk pw =>
  gss_one (gs_ret (ge_fz (go_lc (own := [("room", 2)]) rfl sc_one_longer.nd (gi_tup (ge_var)) (blkOk_by (N := ["machine", "found", "room", "end"]) (sc := (defScope s_one_longer)) (by decide +kernel)) (fun _ _ _ _ _ => gg_name sc_one_longer.nd) (fun _ _ _ _ _ => gts_nil) (fun _ _ _ _ _ => ge_bf (cr_sum rfl) cd_sum T.m_sum (ga_cons (ge_fz (go_lc (own := [("end", 3)]) rfl sc_one_longer.nd (gi_list (ge_call (G_ends_of T) (hr.mono (by decide)) T.g_ends_of T.F_ends_of.kp T.b_ends_of takesF (ga_cons (ge_var) (ga_nil)))) (blkOk_by (N := ["machine", "found", "room", "end"]) (sc := (relS _ (defScope s_one_longer))) (by decide +kernel)) (fun _ _ _ _ _ => gg_name sc_one_longer.nd) (fun _ _ _ _ _ => gts_nil) (fun _ _ _ _ _ => ge_ix (ge_var) (ge_var)))) (ga_nil))))))⟩
def c_one_longer : CtP := fun ds P _ => ∃ (M : Mc) (t : List Nat), ds = [mD M, nL t] ∧ M.Ok ∧ t.length = M.length ∧ M.length ≤ 1000 ∧ P (.fz (nL (oneL M t)))
theorem G_one_longer (T : Tx K mg a) : FnOk P w K mg base (L2.CX P w) 2 a.f_one_longer a.d_one_longer ["machine", "found"] (spP K c_one_longer) :=
  fn_P T.F_one_longer sc_one_longer (by rintro ds P PX ⟨M, t, rfl, _⟩; rfl) (bd_one_longer T) fun ds P PX h => by
  obtain ⟨M, t, rfl, ok, hl, hM, hp⟩ := h
  unfold m_one_longer
  walk_at "ev"
  refine lc_run (fun _ q => by walk_at "ev"; exact q) (xs := M) (f := rD) rfl (fun k => (M.take k).map fun r => nD ((ends r).map fun e => t.getD e 0).sum) (fun _ => [.fz (mD M), .fz (nL t), .un, .un]) ⟨rfl, rfl⟩ (fun k r hk => ?_) ?_
  · walk_at "ev"
    refine ⟨fun _ => ?_, fun z => Bool.noConfusion z⟩
    walk_at "ev"
    refine lc_run (ds := (ends r).map nD) (ρ1 := [.fz (mD M), .fz (nL t), .fz (rD r), .un]) (fun _ q => by walk_at "ev"; exact ⟨r, rfl, by walk_at "ev"; exact q⟩) (xs := ends r) (f := nD) rfl (fun j => ((ends r).take j).map fun e => nD (t.getD e 0)) (fun _ => [.fz (mD M), .fz (nL t), .fz (rD r), .un]) ⟨rfl, rfl⟩ (fun j e he => ?_) ?_
    · have hlt := ok r (List.mem_of_getElem? hk) e (List.mem_of_getElem? he)
      walk_at "ev"
      refine ⟨fun _ => ?_, fun z => Bool.noConfusion z⟩
      walk_at "ev"
      refine fIx_n (by omega) ?_
      have h2 : (ends r).length ≤ 2 := by
        obtain ⟨x, y⟩ := r
        cases x <;> cases y <;> simp [ends]
      have := acc_map (F := fun e => nD (t.getD e 0)) he rfl (by omega)
      exact ⟨this.1, this.2, rfl⟩
    · rw [List.take_length]
      walk_at "ev"
      have e : ((ends r).map fun e => nD (t.getD e 0)) = ((ends r).map fun e => t.getD e 0).map nD := by rw [List.map_map]; rfl
      rw [e]
      refine fSum_n ?_
      have := acc_map (F := fun r : Option Nat × Option Nat => nD ((ends r).map fun e => t.getD e 0).sum) hk rfl (by omega)
      exact ⟨this.1, this.2, rfl⟩
  · rw [List.take_length]
    have e : (M.map fun r => nD ((ends r).map fun e => t.getD e 0).sum) = (oneL M t).map nD := by rw [oneL, List.map_map]; rfl
    rw [e]
    walk_at "ev"
    exact hp

def m_tables_of : MS := mSeq (mSet 3 (mXo (mLst (mCons (mFz (mLc (iR1 (mCons (mBf fLen (mCons (mVar 0) (mNil))) (mNil))) (gN 5) (mYes) (mBf fInt (mCons (mOrV (mBin fIs (mVar 1) (mC .non)) (mBin fEq (mVar 5) (mVar 1))) (mNil))) [5])) (mNil))))) (mSeq (mFor (iR1 (mCons (mVar 2) (mNil))) (gN 4) (mEx (mMt fApp 3 (mCons (mCall c_one_longer (mCons (mVar 0) (mCons (mIxV 3 (mNeg (mC (.int 1)))) (mNil)))) (mNil))))) (mRet (mVar 3)))
theorem bd_tables_of (T : Tx K mg a) : Bd P w K mg base 2 ["machine", "goal", "many", "tables", "turn", "room"] s_tables_of m_tables_of := ⟨fun qual f cdv A outer s H E hr tk pw =>
  gss_cons (gs_set (gx_o (go_lst (ga_cons (ge_fz (go_lc (own := [("room", 5)]) rfl sc_tables_of.nd (gi_range1 T.m_range (ga_cons (ge_bf call_len cd_len T.m_len (ga_cons (ge_var) (ga_nil))) (ga_nil))) (blkOk_by (N := ["machine", "goal", "many", "tables", "turn", "room"]) (sc := (defScope s_tables_of)) (by decide +kernel)) (fun _ _ _ _ _ => gg_name sc_tables_of.nd) (fun _ _ _ _ _ => gts_nil) (fun _ _ _ _ _ => ge_bt call_intA cd_int T.m_int (ga_cons (ge_or (ge_cmp op_isA od_is (ge_var) (ge_non)) (ge_one (ge_cmp (op_eqA hr.units) od_eq (ge_var) (ge_var)))) (ga_nil))))) (ga_nil)))) sc_tables_of.nd) (gss_cons (gs_for pw rfl (gi_range1 T.m_range (ga_cons (ge_var) (ga_nil))) (gg_name sc_tables_of.nd) (gss_one (gs_expr (ge_mut PySem.F.slot_list_append PySem.F.type_list_append (MtM.r mt_append) md_app (ga_cons (ge_call (G_one_longer T) (hr.mono (by decide)) T.g_one_longer T.F_one_longer.kp T.b_one_longer tk (ga_cons (ge_var) (ga_cons (ge_ixv (ge_neg (ge_int))) (ga_nil)))) (ga_nil)))))) (gss_one (gs_ret (ge_var))))⟩
def c_tables_of : CtP := fun ds P _ => ∃ (M : Mc) (g n : Nat), ds = [mD M, .int (g : Nat), .int (n : Nat)] ∧ M.Ok ∧ M.length ≤ 1000 ∧ n ≤ 1000 ∧ P (.fz (tL ((List.range (n + 1)).map (tab M g))))
theorem G_tables_of (T : Tx K mg a) : FnOk P w K mg base (L2.CX P w) 3 a.f_tables_of a.d_tables_of ["machine", "goal", "many"] (spP K c_tables_of) :=
  fn_P T.F_tables_of sc_tables_of (by rintro ds P PX ⟨M, g, n, rfl, _⟩; rfl) (bd_tables_of T) fun ds P PX h => by
  obtain ⟨M, g, n, rfl, ok, hM, hn, hp⟩ := h
  unfold m_tables_of
  walk_at "ev"
  refine lc_run (ds := rngD 0 1 M.length) (ρ1 := [.fz (mD M), .fz (.int (g : Nat)), .fz (.int (n : Nat)), .un, .un, .un]) (fun _ q => by walk_at "ev"; refine fLen_tup ?_; walk_at "ev"; rw [List.length_map]; exact ⟨⟨by omega, by omega⟩, q⟩) (range_map M.length 0 1) (fun k => ((List.range M.length).take k).map fun a => nD (if a = g then 1 else 0)) (fun _ => [.fz (mD M), .fz (.int (g : Nat)), .fz (.int (n : Nat)), .un, .un, .un]) ⟨rfl, rfl⟩ (fun k i hk => ?_) ?_
  · obtain ⟨rfl, hlt⟩ := range_get hk
    have ex : (0 : Int) + (i : Nat) * 1 = (i : Nat) := by omega
    walk_at "ev"
    rw [ex]
    refine ⟨fun _ => ?_, fun z => Bool.noConfusion z⟩
    walk_at "ev"
    refine ⟨fun z => Bool.noConfusion z, fun _ => ?_⟩
    walk_at "ev"
    refine fInt_bl ?_
    have e : D.int (if decide (((i : Nat) : Int) = (g : Nat)) = true then 1 else 0) = nD (if i = g then 1 else 0) := by
      by_cases z : i = g
      · subst z; simp
      · rw [if_neg z, if_neg (by simpa using fun y => z (by omega))]; rfl
    have := acc_map (F := fun a => nD (if a = g then 1 else 0)) hk e (by rw [List.length_range]; omega)
    exact ⟨this.1, this.2, rfl⟩
  · walk_at "ev"
    have e : (((List.range M.length).take (List.range M.length).length).map fun a => nD (if a = g then 1 else 0)) = (tab M g 0).map nD := by
      rw [List.take_length, tab, List.map_map]; rfl
    rw [e]
    refine ⟨sl_le (by show 1 ≤ _; decide), ?_⟩
    walk_at "ev"
    refine for_run (fun _ q => by walk_at "ev"; exact ⟨⟨by omega, by omega⟩, q⟩) (range_map n 0 1) (fun k => [.fz (mD M), .fz (.int (g : Nat)), .fz (.int (n : Nat)), .ow none (.lst (((List.range (k + 1)).map (tab M g)).map nL)), .un, .un]) (by walk_at "wk") (fun k i hk => ?_) ?_
    · obtain ⟨rfl, hlt⟩ := range_get hk
      walk_at "ev"
      refine ⟨nL (tab M g i), ?_, ?_⟩
      · rw [List.range_succ, List.map_append, List.map_append]
        exact atI_m1
      walk_at "ev"
      refine ⟨M, tab M g i, rfl, ok, tab_len M g i, hM, ?_⟩
      walk_at "ev"
      refine ⟨sl_lt (by simp; omega), ?_⟩
      walk_at "ev"
      refine lp_of ?_
      have e : (((List.range (i + 1)).map (tab M g)).map nL) ++ [nL (oneL M (tab M g i))] = ((List.range (i + 1 + 1)).map (tab M g)).map nL := by
        rw [List.range_succ (n := i + 1), List.map_append, List.map_append]
        rfl
      rw [e]
      walk_at "wk"
    · rw [List.length_range]
      walk_at "ev"
      exact hp

def m_counts_to : MS := mRet (mBin fIx (mCall c_tables_of (mCons (mVar 0) (mCons (mVar 2) (mCons (mVar 1) (mNil))))) (mNeg (mC (.int 1))))
theorem bd_counts_to (T : Tx K mg a) : Bd P w K mg base 3 ["machine", "many", "goal"] s_counts_to m_counts_to := ⟨fun qual f cdv A outer s H E hr tk pw =>
  gss_one (gs_ret (ge_ix (ge_call (G_tables_of T) (hr.mono (by decide)) T.g_tables_of T.F_tables_of.kp T.b_tables_of tk (ga_cons (ge_var) (ga_cons (ge_var) (ga_cons (ge_var) (ga_nil))))) (ge_neg (ge_int))))⟩
def c_counts_to : CtP := fun ds P _ => ∃ (M : Mc) (g n : Nat), ds = [mD M, .int (n : Nat), .int (g : Nat)] ∧ M.Ok ∧ M.length ≤ 1000 ∧ n ≤ 1000 ∧ P (.fz (nL (tab M g n)))
theorem G_counts_to (T : Tx K mg a) : FnOk P w K mg base (L2.CX P w) 4 a.f_counts_to a.d_counts_to ["machine", "many", "goal"] (spP K c_counts_to) :=
  fn_P T.F_counts_to sc_counts_to (by rintro ds P PX ⟨M, g, n, rfl, _⟩; rfl) (bd_counts_to T) fun ds P PX h => by
  obtain ⟨M, g, n, rfl, ok, hM, hn, hp⟩ := h
  unfold m_counts_to
  walk_at "ev"
  refine ⟨M, g, n, rfl, ok, hM, hn, ?_⟩
  walk_at "ev"
  refine ⟨nL (tab M g n), ?_, hp⟩
  rw [List.range_succ, List.map_append, List.map_append]
  exact atI_m1

def m_round_count : MS := mRet (mBin fIx (mCall c_counts_to (mCons (mVar 0) (mCons (mVar 2) (mCons (mVar 1) (mNil))))) (mVar 1))
theorem bd_round_count (T : Tx K mg a) : Bd P w K mg base 4 ["machine", "room", "many"] s_round_count m_round_count := ⟨fun qual f cdv A outer s H E hr tk pw =>
  gss_one (gs_ret (ge_ix (ge_call (G_counts_to T) (hr.mono (by decide)) T.g_counts_to T.F_counts_to.kp T.b_counts_to tk (ga_cons (ge_var) (ga_cons (ge_var) (ga_cons (ge_var) (ga_nil))))) (ge_var)))⟩
def c_round_count : CtP := fun ds P _ => ∃ (M : Mc) (g n : Nat), ds = [mD M, .int (g : Nat), .int (n : Nat)] ∧ M.Ok ∧ M.length ≤ 1000 ∧ g < M.length ∧ n ≤ 1000 ∧ P (.fz (.int (tb M g n g : Nat)))
theorem G_round_count (T : Tx K mg a) : FnOk P w K mg base (L2.CX P w) 5 a.f_round_count a.d_round_count ["machine", "room", "many"] (spP K c_round_count) :=
  fn_P T.F_round_count sc_round_count (by rintro ds P PX ⟨M, g, n, rfl, _⟩; rfl) (bd_round_count T) fun ds P PX h => by
  obtain ⟨M, g, n, rfl, ok, hM, hg, hn, hp⟩ := h
  unfold m_round_count
  walk_at "ev"
  refine ⟨M, g, n, rfl, ok, hM, hn, ?_⟩
  walk_at "ev"
  refine fIx_n (by rw [tab_len]; exact hg) ?_
  exact hp

def m_bits_for : MS := mSeq (mSet 3 (mXe (mCall c_round_count (mCons (mVar 0) (mCons (mVar 1) (mCons (mVar 2) (mNil))))))) (mSeq (mIfS (mTst (mBin fEq (mVar 3) (mC (.int 0)))) (mRet (mC .non)) (mNx)) (mRet (mBin fSub (mBits (mVar 3)) (mC (.int 1)))))
theorem bd_bits_for (T : Tx K mg a) : Bd P w K mg base 5 ["machine", "room", "many", "found"] s_bits_for m_bits_for := ⟨fun qual f cdv A outer s H E hr tk pw =>
  gss_cons (gs_set (gx_e (ge_call (G_round_count T) (hr.mono (by decide)) T.g_round_count T.F_round_count.kp T.b_round_count tk (ga_cons (ge_var) (ga_cons (ge_var) (ga_cons (ge_var) (ga_nil)))))) sc_bits_for.nd) (gss_cons (gs_if (gt_cmp (op_eqA hr.units) od_eq (ge_var) (ge_int)) (gss_one (gs_ret (ge_non))) (gss_nil)) (gss_one (gs_ret (ge_bin op_sub od_sub (ge_bits (ge_var)) (ge_int)))))⟩
def c_bits_for : CtP := fun ds P _ => ∃ (M : Mc) (g n : Nat), ds = [mD M, .int (g : Nat), .int (n : Nat)] ∧ M.Ok ∧ M.length ≤ 1000 ∧ g < M.length ∧ n ≤ 1000 ∧ (tb M g n g = 0 → P (.fz .non)) ∧ (0 < tb M g n g → P (.fz (.int ((tb M g n g).log2 : Nat))))
theorem G_bits_for (T : Tx K mg a) : FnOk P w K mg base (L2.CX P w) 6 a.f_bits_for a.d_bits_for ["machine", "room", "many"] (spP K c_bits_for) :=
  fn_P T.F_bits_for sc_bits_for (by rintro ds P PX ⟨M, g, n, rfl, _⟩; rfl) (bd_bits_for T) fun ds P PX h => by
  obtain ⟨M, g, n, rfl, ok, hM, hg, hn, h0, h1⟩ := h
  unfold m_bits_for
  walk_at "ev"
  refine ⟨M, g, n, rfl, ok, hM, hg, hn, ?_⟩
  generalize tb M g n g = c at h0 h1
  walk_at "ev"
  refine ⟨fun z => ?_, fun z => ?_⟩
  · have z := of_decide_eq_true z
    walk_at "ev"
    exact h0 (by omega)
  · have z := of_decide_eq_false z
    walk_at "ev"
    have hc : 0 < c := by omega
    rw [bits_pos hc]
    exact h1 hc

def m_from_there : MS := mSeq (mSet 5 (mXe (mC (.str "")))) (mSeq (mSet 6 (mXe (mVar 2))) (mSeq (mSet 7 (mXe (mVar 4))) (mSeq (mFor (iR3 (mCons (mBin fSub (mVar 3) (mC (.int 1))) (mCons (mNeg (mC (.int 1))) (mCons (mNeg (mC (.int 1))) (mNil))))) (gN 8) (mSeq (mUnp (mBin fIx (mVar 1) (mVar 6)) (gT (gCs (gN 9) (gCs (gN 10) (gNl))))) (mSeq (mSet 11 (mXe (mIf (mTst (mBin fIs (mVar 9) (mC .non))) (mC (.int 0)) (mBin fIx (mBin fIx (mVar 0) (mVar 8)) (mVar 9))))) (mIfS (mTst (mBin fLt (mVar 7) (mVar 11))) (mSeq (mSet 5 (mXe (mBin fAdd (mVar 5) (mC (.str "0"))))) (mSet 6 (mXe (mVar 9)))) (mSeq (mSet 5 (mXe (mBin fAdd (mVar 5) (mC (.str "1"))))) (mSeq (mSet 6 (mXe (mVar 10))) (mSet 7 (mXe (mBin fSub (mVar 7) (mVar 11)))))))))) (mRet (mVar 5)))))
theorem bd_from_there (T : Tx K mg a) : Bd P w K mg base 0 ["tables", "machine", "room", "left", "number", "row", "at", "ahead", "rest", "first", "second", "many"] s_from_there m_from_there := ⟨fun qual f cdv A outer s H E hr tk pw =>
  gss_cons (gs_set (gx_e (ge_str)) sc_from_there.nd) (gss_cons (gs_set (gx_e (ge_var)) sc_from_there.nd) (gss_cons (gs_set (gx_e (ge_var)) sc_from_there.nd) (gss_cons (gs_for pw rfl (gi_range3 T.m_range (ga_cons (ge_bin op_sub od_sub (ge_var) (ge_int)) (ga_cons (ge_neg (ge_int)) (ga_cons (ge_neg (ge_int)) (ga_nil))))) (gg_name sc_from_there.nd) (gss_cons (gs_unp (ge_ix (ge_var) (ge_var)) (gg_tup2 rfl (gg_name sc_from_there.nd) (gg_name sc_from_there.nd))) (gss_cons (gs_set (gx_e (ge_if (gt_cmp op_isA od_is (ge_var) (ge_non)) (ge_int) (ge_ix (ge_ix (ge_var) (ge_var)) (ge_var)))) sc_from_there.nd) (gss_one (gs_if (gt_cmp op_ltA od_lt (ge_var) (ge_var)) (gss_cons (gs_set (gx_e (ge_bin op_addA od_add (ge_var) (ge_str))) sc_from_there.nd) (gss_one (gs_set (gx_e (ge_var)) sc_from_there.nd))) (gss_cons (gs_set (gx_e (ge_bin op_addA od_add (ge_var) (ge_str))) sc_from_there.nd) (gss_cons (gs_set (gx_e (ge_var)) sc_from_there.nd) (gss_one (gs_set (gx_e (ge_bin op_sub od_sub (ge_var) (ge_var))) sc_from_there.nd))))))))) (gss_one (gs_ret (ge_var))))))⟩
def c_from_there : CtP := fun ds P _ => ∃ (M : Mc) (g n N a k : Nat), ds = [tL ((List.range (N + 1)).map (tab M g)), mD M, .int (a : Nat), .int (n : Nat), .int (k : Nat)] ∧ M.Ok ∧ n ≤ N ∧ N ≤ 1000 ∧ a < M.length ∧ k < tb M g n a ∧ P (.fz (.str (bs (rowAt M g n a k))))
theorem ftO {M : Mc} {g n N : Nat} {o : Option Nat} {P : D → Prop} (hn : n ≤ N) (ho : ∀ e, o = some e → e < M.length) (hp : P (.int (tbO M g n o : Nat))) :
    (o.isNone = true → P (.int 0)) ∧ (o.isNone = false → fIx (tL ((List.range (N + 1)).map (tab M g))) (.int (n : Nat)) fun z => fIx z (oD o) P) := by
  cases o with
  | none => exact ⟨fun _ => hp, fun z => nomatch z⟩
  | some e =>
    refine ⟨fun z => Bool.noConfusion z, fun _ => ?_⟩
    refine fIx_t (by rw [List.getElem?_map, List.getElem?_range (by omega)]; rfl) ?_
    exact fIx_n (by rw [tab_len]; exact ho e rfl) hp
theorem G_from_there (T : Tx K mg a) : FnOk P w K mg base (L2.CX P w) 1 a.f_from_there a.d_from_there ["tables", "machine", "room", "left", "number"] (spP K c_from_there) :=
  fn_P T.F_from_there sc_from_there (by rintro ds P PX ⟨M, g, n, N, a, k, rfl, _⟩; rfl) (bd_from_there T) fun ds P PX h => by
  obtain ⟨M, g, n, N, a, k, rfl, ok, hn, hN, ha, hk, hp⟩ := h
  unfold m_from_there
  walk_at "ev"
  refine for_inv (fun _ q => by walk_at "ev"; exact ⟨n, by have := RgC.neg (i := ((n : Nat) : Int) - 1) (j := -1) (by omega) (by omega) (by decide) (by decide); rwa [show (((n : Nat) : Int) - 1 - -1).toNat = n by omega] at this, q⟩) (range_map n _ (-1))
    (fun i ρ => ∃ (row : List Bool) (u k' : Nat), ρ = [.fz (tL ((List.range (N + 1)).map (tab M g))), .fz (mD M), .fz (.int (a : Nat)), .fz (.int (n : Nat)), .fz (.int (k : Nat)), .fz (.str (bs row)), .fz (.int (u : Nat)), .fz (.int (k' : Nat)), .un, .un, .un, .un] ∧ row.length = i ∧ row ++ rowAt M g (n - i) u k' = rowAt M g n a k ∧ u < M.length ∧ k' < tb M g (n - i) u)
    ⟨_, by walk_at "wk", [], a, k, rfl, rfl, rfl, ha, hk⟩ (fun i x ρ hx hI => ?_) (fun ρ hI => ?_)
  · obtain ⟨rfl, hx⟩ := range_get hx
    obtain ⟨row, u, k', rfl, hl, he, hu, hlt⟩ := hI
    obtain ⟨m, hm⟩ : ∃ m, n - x = m + 1 := ⟨n - x - 1, by omega⟩
    have hm' : n - (x + 1) = m := by omega
    rw [hm] at he hlt
    have ex : ((n : Nat) : Int) - 1 + (x : Nat) * (-1) = (m : Nat) := by omega
    rw [ex]
    obtain ⟨r, hr⟩ := len_get hu
    obtain ⟨e1, e2⟩ := nx_of hr
    walk_at "ev"
    refine fIx_m hr ?_
    walk_at "ev"
    refine fIs_o ?_
    rw [tb_succ hu, e1, e2] at hlt
    rw [rowAt, e1, e2] at he
    walk_at "ev"
    refine ftO (n := m) (N := N) (P := fun z => Nxt _ _ [_, _, _, _, _, _, _, _, _, _, _, .fz z]) (by omega) (fun e h => nx_lt ok (e1.trans h)) ?_
    walk_at "ev"
    refine ⟨fun z => ?_, fun z => ?_⟩
    · have z : k' < tbO M g m r.1 := by have := of_decide_eq_true z; omega
      rw [if_pos z] at he
      walk_at "ev"
      refine fAdd_bs (a := row) (b := [false]) (by rw [hl]; show x + 1 ≤ _; omega) ?_
      walk_at "ev"
      cases h1 : r.1 with
      | none => rw [h1] at z; exact absurd z (Nat.not_lt_zero _)
      | some e =>
        rw [h1] at he z
        refine ⟨_, ?_, row ++ [false], e, k', rfl, by simp [hl], ?_, nx_lt ok (e1.trans h1), ?_⟩
        · walk_at "wk"
        · rw [hm', ← he, List.append_assoc]; rfl
        · rw [hm']; exact z
    · have z : ¬ k' < tbO M g m r.1 := by have := of_decide_eq_false z; omega
      rw [if_neg z] at he
      walk_at "ev"
      refine fAdd_bs (a := row) (b := [true]) (by rw [hl]; show x + 1 ≤ _; omega) ?_
      walk_at "ev"
      have e3 : ((k' : Nat) : Int) - (tbO M g m r.1 : Nat) = ((k' - tbO M g m r.1 : Nat) : Int) := by omega
      rw [e3]
      have z2 : k' - tbO M g m r.1 < tbO M g m r.2 := by omega
      cases h1 : r.2 with
      | none => rw [h1] at z2; exact absurd z2 (Nat.not_lt_zero _)
      | some e =>
        rw [h1] at he z2
        refine ⟨_, ?_, row ++ [true], e, k' - tbO M g m r.1, rfl, by simp [hl], ?_, nx_lt ok (e2.trans h1), ?_⟩
        · walk_at "wk"
        · rw [hm', ← he, List.append_assoc]; rfl
        · rw [hm']; exact z2
  · obtain ⟨row, u, k', rfl, hl, he, hu, hlt⟩ := hI
    rw [List.length_range] at hl he
    rw [Nat.sub_self] at he
    walk_at "ev"
    rw [← he, rowAt, List.append_nil] at hp
    exact hp

def m_row_at : MS := mSeq (mSet 5 (mXe (mCall c_tables_of (mCons (mVar 0) (mCons (mVar 2) (mCons (mVar 3) (mNil))))))) (mSeq (mIfS (mNotT (mTst (mChain fLe fLt (mC (.int 0)) (mVar 4) (mBin fIx (mBin fIx (mVar 5) (mVar 3)) (mVar 1))))) (mNever) (mNx)) (mRet (mCall c_from_there (mCons (mVar 5) (mCons (mVar 0) (mCons (mVar 1) (mCons (mVar 3) (mCons (mVar 4) (mNil)))))))))
theorem bd_row_at (T : Tx K mg a) : Bd P w K mg base 3 ["machine", "room", "goal", "many", "number", "tables"] s_row_at m_row_at := ⟨fun qual f cdv A outer s H E hr tk pw =>
  gss_cons (gs_set (gx_e (ge_call (G_tables_of T) (hr.mono (by decide)) T.g_tables_of T.F_tables_of.kp T.b_tables_of tk (ga_cons (ge_var) (ga_cons (ge_var) (ga_cons (ge_var) (ga_nil)))))) sc_row_at.nd) (gss_cons (gs_if (gt_not (gt_chain op_le op_ltA od_le od_lt (ge_int) (ge_var) (ge_ix (ge_ix (ge_var) (ge_var)) (ge_var)))) (gss_one (gs_never)) (gss_nil)) (gss_one (gs_ret (ge_call (G_from_there T) (hr.mono (by decide)) T.g_from_there T.F_from_there.kp T.b_from_there tk (ga_cons (ge_var) (ga_cons (ge_var) (ga_cons (ge_var) (ga_cons (ge_var) (ga_cons (ge_var) (ga_nil))))))))))⟩
def c_row_at : CtP := fun ds P _ => ∃ (M : Mc) (g n a k : Nat), ds = [mD M, .int (a : Nat), .int (g : Nat), .int (n : Nat), .int (k : Nat)] ∧ M.Ok ∧ M.length ≤ 1000 ∧ n ≤ 1000 ∧ a < M.length ∧ k < tb M g n a ∧ P (.fz (.str (bs (rowAt M g n a k))))
theorem tabs_at {M : Mc} {g n : Nat} {P : D → Prop} (hp : P (nL (tab M g n))) : fIx (tL ((List.range (n + 1)).map (tab M g))) (.int (n : Nat)) P :=
  fIx_t (by rw [List.getElem?_map, List.getElem?_range (by omega)]; rfl) hp
theorem G_row_at (T : Tx K mg a) : FnOk P w K mg base (L2.CX P w) 4 a.f_row_at a.d_row_at ["machine", "room", "goal", "many", "number"] (spP K c_row_at) :=
  fn_P T.F_row_at sc_row_at (by rintro ds P PX ⟨M, g, n, a, k, rfl, _⟩; rfl) (bd_row_at T) fun ds P PX h => by
  obtain ⟨M, g, n, a, k, rfl, ok, hM, hn, ha, hk, hp⟩ := h
  unfold m_row_at
  walk_at "ev"
  refine ⟨M, g, n, rfl, ok, hM, hn, ?_⟩
  walk_at "ev"
  refine ⟨fun _ => ?_, fun z => ?_⟩
  · walk_at "ev"
    refine tabs_at ?_
    walk_at "ev"
    refine fIx_n (by rw [tab_len]; exact ha) ?_
    walk_at "ev"
    refine ⟨fun z => ?_, fun _ => ?_⟩
    · exfalso
      have hk : k < (tab M g n).getD a 0 := hk
      have : (k : Int) < ((tab M g n).getD a 0 : Nat) := by omega
      rw [decide_eq_true this] at z
      cases z
    · walk_at "ev"
      exact ⟨M, g, n, n, a, k, rfl, ok, Nat.le_refl _, hn, ha, hk, hp⟩
  · exfalso
    rw [decide_eq_true (by omega)] at z
    cases z

def m_number_of : MS := mSeq (mSet 4 (mXe (mCall c_tables_of (mCons (mVar 0) (mCons (mVar 2) (mCons (mBf fLen (mCons (mVar 3) (mNil))) (mNil))))))) (mSeq (mSet 5 (mXe (mVar 1))) (mSeq (mSet 6 (mXe (mC (.int 0)))) (mSeq (mFor (iEnS (mCons (mVar 3) (mNil))) (gT (gCs (gN 7) (gCs (gN 8) (gNl)))) (mSeq (mUnp (mBin fIx (mVar 0) (mVar 5)) (gT (gCs (gN 9) (gCs (gN 10) (gNl))))) (mSeq (mIfS (mAndT (mTst (mBin fEq (mVar 8) (mC (.str "1")))) (mTst (mBin fIsNot (mVar 9) (mC .non)))) (mSet 6 (mXe (mBin fAdd (mVar 6) (mBin fIx (mBin fIx (mVar 4) (mBin fSub (mBin fSub (mBf fLen (mCons (mVar 3) (mNil))) (mVar 7)) (mC (.int 1)))) (mVar 9))))) (mNx)) (mSeq (mSet 5 (mXe (mIf (mTst (mBin fEq (mVar 8) (mC (.str "1")))) (mVar 10) (mVar 9)))) (mIfS (mTst (mBin fIs (mVar 5) (mC .non))) (mRaise a_NoRow) (mNx)))))) (mSeq (mIfS (mAndT (mTst (mBin fIsNot (mVar 2) (mC .non))) (mTst (mBin fNe (mVar 5) (mVar 2)))) (mRaise a_NoRow) (mNx)) (mRet (mVar 6))))))
theorem bd_number_of (T : Tx K mg a) : Bd P w K mg base 3 ["machine", "room", "goal", "row", "tables", "at", "ahead", "place", "bit", "first", "second"] s_number_of m_number_of := ⟨fun qual f cdv A outer s H E hr tk pw =>
  gss_cons (gs_set (gx_e (ge_call (G_tables_of T) (hr.mono (by decide)) T.g_tables_of T.F_tables_of.kp T.b_tables_of tk (ga_cons (ge_var) (ga_cons (ge_var) (ga_cons (ge_bf call_len cd_len T.m_len (ga_cons (ge_var) (ga_nil))) (ga_nil)))))) sc_number_of.nd) (gss_cons (gs_set (gx_e (ge_var)) sc_number_of.nd) (gss_cons (gs_set (gx_e (ge_int)) sc_number_of.nd) (gss_cons (gs_for pw rfl (gi_enumS T.m_enumerate (ga_cons (ge_var) (ga_nil))) (gg_tup2 rfl (gg_name sc_number_of.nd) (gg_name sc_number_of.nd)) (gss_cons (gs_unp (ge_ix (ge_var) (ge_var)) (gg_tup2 rfl (gg_name sc_number_of.nd) (gg_name sc_number_of.nd))) (gss_cons (gs_if (gt_w (gw_and (gt_cmp (op_eqA hr.units) od_eq (ge_var) (ge_str)) (gw_and1 (gt_cmp op_isNotA od_isnot (ge_var) (ge_non))))) (gss_one (gs_set (gx_e (ge_bin op_addA od_add (ge_var) (ge_ix (ge_ix (ge_var) (ge_bin op_sub od_sub (ge_bin op_sub od_sub (ge_bf call_len cd_len T.m_len (ga_cons (ge_var) (ga_nil))) (ge_var)) (ge_int))) (ge_var)))) sc_number_of.nd)) (gss_nil)) (gss_cons (gs_set (gx_e (ge_if (gt_cmp (op_eqA hr.units) od_eq (ge_var) (ge_str)) (ge_var) (ge_var))) sc_number_of.nd) (gss_one (gs_if (gt_cmp op_isA od_is (ge_var) (ge_non)) (gss_one (gs_raise T.e_NoRow rfl tk)) (gss_nil))))))) (gss_cons (gs_if (gt_w (gw_and (gt_cmp op_isNotA od_isnot (ge_var) (ge_non)) (gw_and1 (gt_cmp (op_neA hr.units) od_ne (ge_var) (ge_var))))) (gss_one (gs_raise T.e_NoRow rfl tk)) (gss_nil)) (gss_one (gs_ret (ge_var)))))))⟩
def c_number_of : CtP := fun ds P PX => ∃ (M : Mc) (g a : Nat) (l : List Bool), ds = [mD M, .int (a : Nat), .int (g : Nat), .str (bs l)] ∧ M.Ok ∧ M.length ≤ 1000 ∧ l.length ≤ 1000 ∧ a < M.length ∧ (goM M a l = some g → P (.fz (.int (rkM M g a l : Nat)))) ∧ (goM M a l ≠ some g → PX (.pl a_NoRow))
theorem G_number_of (T : Tx K mg a) : FnOk P w K mg base (L2.CX P w) 4 a.f_number_of a.d_number_of ["machine", "room", "goal", "row"] (spP K c_number_of) :=
  fn_P T.F_number_of sc_number_of (by rintro ds P PX ⟨M, g, a, l, rfl, _⟩; rfl) (bd_number_of T) fun ds P PX h => by
  obtain ⟨M, g, a, l, rfl, ok, hM, hl, ha, hp, hx⟩ := h
  unfold m_number_of
  walk_at "ev"
  refine fLen_bs (by omega) ?_
  walk_at "ev"
  refine ⟨M, g, l.length, rfl, ok, hM, hl, ?_⟩
  walk_at "ev"
  refine for_inv (fun _ q => by walk_at "ev"; exact q) (enum_bs l)
    (fun k ρ => ∃ (u A : Nat), ρ = [.fz (mD M), .fz (.int (a : Nat)), .fz (.int (g : Nat)), .fz (.str (bs l)), .fz (tL ((List.range (l.length + 1)).map (tab M g))), .fz (.int (u : Nat)), .fz (.int (A : Nat)), .un, .un, .un, .un] ∧ goM M a l = goM M u (l.drop k) ∧ rkM M g a l = A + rkM M g u (l.drop k) ∧ u < M.length)
    ⟨_, by walk_at "wk", a, 0, rfl, rfl, by rw [Nat.zero_add]; rfl, ha⟩ (fun k x ρ hx0 hI => ?_) (fun ρ hI => ?_)
  · obtain ⟨b, hb, rfl⟩ := enum_get hx0
    obtain ⟨u, A, rfl, hgo, hrk, hu⟩ := hI
    have hlt := get_lt hb
    rw [drop_get hb] at hgo hrk
    have hgo : goM M a l = match nx M u b with | some e => goM M e (l.drop (k + 1)) | none => none := hgo
    have hrk : rkM M g a l = A + ((if b then tbO M g (l.drop (k + 1)).length (nx M u false) else 0) + match nx M u b with | some e => rkM M g e (l.drop (k + 1)) | none => 0) := hrk
    obtain ⟨r, hr⟩ := len_get hu
    obtain ⟨e1, e2⟩ := nx_of hr
    rw [List.length_drop] at hrk
    walk_at "ev"
    refine fIx_m hr ?_
    walk_at "ev"
    refine fEq_sb1 ?_
    have tail : ∀ (PD : PEnds) (A' : Nat), rkM M g a l = A' + (match nx M u b with | some e => rkM M g e (l.drop (k + 1)) | none => 0) → PD.ex = (fun x _ => PX x) → (∀ ρ', lp (fun ρ => ∃ (u A : Nat), ρ = [.fz (mD M), .fz (.int (a : Nat)), .fz (.int (g : Nat)), .fz (.str (bs l)), .fz (tL ((List.range (l.length + 1)).map (tab M g))), .fz (.int (u : Nat)), .fz (.int (A : Nat)), .un, .un, .un, .un] ∧ goM M a l = goM M u (l.drop (k + 1)) ∧ rkM M g a l = A + rkM M g u (l.drop (k + 1)) ∧ u < M.length) ρ' → PD.nx ρ') →
        mSeq (mSet 5 (mXe (mIf (mTst (mBin fEq (mVar 8) (mC (.str "1")))) (mVar 10) (mVar 9)))) (mIfS (mTst (mBin fIs (mVar 5) (mC .non))) (mRaise a_NoRow) (mNx)) PD
          [.fz (mD M), .fz (.int (a : Nat)), .fz (.int (g : Nat)), .fz (.str (bs l)), .fz (tL ((List.range (l.length + 1)).map (tab M g))), .fz (.int (u : Nat)), .fz (.int (A' : Nat)), .fz (.int (k : Nat)), .fz (sb b), .fz (oD r.1), .fz (oD r.2)] := fun PD A' hA hex hnx => by
      have fin : ∀ o : Option Nat, nx M u b = o → mIfS (mTst (mBin fIs (mVar 5) (mC .non))) (mRaise a_NoRow) (mNx) PD
          [.fz (mD M), .fz (.int (a : Nat)), .fz (.int (g : Nat)), .fz (.str (bs l)), .fz (tL ((List.range (l.length + 1)).map (tab M g))), .fz (oD o), .fz (.int (A' : Nat)), .fz (.int (k : Nat)), .fz (sb b), .fz (oD r.1), .fz (oD r.2)] := fun o ho => by
        walk_at "ev"
        refine fIs_o ?_
        walk_at "ev"
        rw [ho] at hgo hA
        cases o with
        | none =>
          refine ⟨fun _ => ?_, fun z => Bool.noConfusion z⟩
          walk_at "ev"
          rw [hex]
          refine hx ?_
          rw [hgo]
          exact fun z => nomatch z
        | some e =>
          refine ⟨fun z => Bool.noConfusion z, fun _ => ?_⟩
          walk_at "ev"
          exact hnx _ ⟨_, by walk_at "wk", e, A', rfl, hgo, hA, nx_lt ok ho⟩
      walk_at "ev"
      refine fEq_sb1 ?_
      cases b with
      | true =>
        refine ⟨fun _ => ?_, fun z => Bool.noConfusion z⟩
        walk_at "ev"
        exact fin r.2 e2
      | false =>
        refine ⟨fun z => Bool.noConfusion z, fun _ => ?_⟩
        walk_at "ev"
        exact fin r.1 e1
    walk_at "ev"
    cases b with
    | false =>
      refine ⟨fun z => Bool.noConfusion z, fun _ => ⟨fun z => Bool.noConfusion z, fun _ => ⟨tail _ A (by rw [hrk]; simp) rfl fun _ y => y⟩⟩⟩
    | true =>
      refine ⟨fun _ => ?_, fun z => Bool.noConfusion z⟩
      walk_at "ev"
      refine fIsNot_o ?_
      walk_at "ev"
      rw [e1, if_pos rfl] at hrk
      rcases Option.eq_none_or_eq_some r.1 with h1 | ⟨e, h1⟩
      · rw [h1] at hrk
        refine ⟨fun z => (by rw [h1] at z; cases z), fun _ => ⟨tail _ A (by rw [hrk]; show A + (0 + _) = _; rw [Nat.zero_add]) rfl fun _ y => y⟩⟩
      · rw [h1] at hrk
        refine ⟨fun _ => ?_, fun z => (by rw [h1] at z; cases z)⟩
        walk_at "ev"
        refine fLen_bs (by omega) ?_
        walk_at "ev"
        have ex : ((l.length : Nat) : Int) - (k : Nat) - 1 = ((l.length - (k + 1) : Nat) : Int) := by omega
        rw [ex]
        refine fIx_t (by rw [List.getElem?_map, List.getElem?_range (by omega)]; rfl) ?_
        walk_at "ev"
        refine fIx_nO h1 (by rw [tab_len]; exact nx_lt ok (e1.trans h1)) ?_
        exact nxt_go (tail _ (A + tb M g (l.length - (k + 1)) e) (by rw [hrk]; show A + (tb M g (l.length - (k + 1)) e + _) = _; omega) rfl fun _ y => y)
  · obtain ⟨u, A, rfl, hgo, hrk, hu⟩ := hI
    rw [zipIdx_len, List.drop_length] at hgo hrk
    have hgo : goM M a l = some u := hgo
    have hrk : rkM M g a l = A := hrk
    walk_at "ev"
    refine ⟨fun _ => ?_, fun z => Bool.noConfusion z⟩
    walk_at "ev"
    refine ⟨fun z => ?_, fun z => ?_⟩
    · walk_at "ev"
      refine hx fun y => ?_
      rw [hgo] at y
      cases y
      simp at z
    · walk_at "ev"
      rw [hrk] at hp
      refine hp ?_
      have z : u = g := by have z : ((u : Nat) : Int) = (g : Nat) := by simpa using z
                           omega
      rw [hgo, z]

def m_is_number : MS := mRet (mAndV (mIsi "int" (mVar 0)) (mAndV (mNotV (mIsi "bool" (mVar 0))) (mBin fGe (mVar 0) (mVar 1))))
theorem bd_is_number (T : Tx K mg a) : Bd P w K mg base 0 ["thing", "least"] s_is_number m_is_number := ⟨fun qual f cdv A outer s H E hr tk pw =>
  gss_one (gs_ret (ge_and (ge_isi T.m_isinstance T.m_int (ge_var)) (ge_and (ge_not (ge_isi T.m_isinstance T.m_bool (ge_var))) (ge_one (ge_cmp op_ge od_ge (ge_var) (ge_var))))))⟩
def c_is_number : CtP := fun ds P _ => ∃ n m : Nat, ds = [.int (n : Nat), .int (m : Nat)] ∧ P (.fz (.bl (decide (m ≤ n))))
theorem G_is_number (T : Tx K mg a) : FnOk P w K mg base (L2.CX P w) 1 a.f_is_number a.d_is_number ["thing", "least"] (spP K c_is_number) :=
  fn_P T.F_is_number sc_is_number (by rintro ds P PX ⟨n, m, rfl, _⟩; rfl) (bd_is_number T) fun ds P PX h => by
  obtain ⟨n, m, rfl, hp⟩ := h
  unfold m_is_number
  walk_at "ev"
  refine ⟨_, _, rfl, (by decide : kitB "int" "int" = some true), ?_⟩
  walk_at "ev"
  refine ⟨fun _ => ?_, fun z => Bool.noConfusion z⟩
  walk_at "ev"
  refine ⟨_, _, rfl, (by decide : kitB "int" "bool" = some false), ?_⟩
  walk_at "ev"
  refine ⟨fun _ => ?_, fun z => Bool.noConfusion z⟩
  walk_at "ev"
  have e : decide (((m : Nat) : Int) ≤ (n : Nat)) = decide (m ≤ n) := by rw [Bool.eq_iff_iff]; simp
  rw [e]
  exact hp

def m_are_numbers : MS := mSeq (mIfS (mOrT (mNotT (mTst (mIsi2 "list" "tuple" (mVar 0)))) (mTst (mBin fNe (mBf fLen (mCons (mVar 0) (mNil))) (mVar 1)))) (mRet (mC (.bl false))) (mNx)) (mRet (mBf fAll (mCons (mFz (mLc (iL (mVar 0)) (gN 3) (mYes) (mCall c_is_number (mCons (mVar 3) (mCons (mVar 2) (mNil)))) [3])) (mNil))))
theorem bd_are_numbers (T : Tx K mg a) : Bd P w K mg base 1 ["thing", "many", "least", "one"] s_are_numbers m_are_numbers := ⟨fun qual f cdv A outer s H E hr tk pw =>
  gss_cons (gs_if (gt_w (gw_or (gt_not (gt_val (ge_isi2 T.m_isinstance T.m_list T.m_tuple (ge_var)))) (gw_or1 (gt_cmp (op_neA hr.units) od_ne (ge_bf call_len cd_len T.m_len (ga_cons (ge_var) (ga_nil))) (ge_var))))) (gss_one (gs_ret (ge_bl))) (gss_nil)) (gss_one (gs_ret (ge_bf (cr_all rfl) cd_all T.m_all (ga_cons (ge_fz (go_lc (own := [("one", 3)]) rfl sc_are_numbers.nd (gi_list (ge_var)) (blkOk_by (N := ["thing", "many", "least", "one"]) (sc := (defScope s_are_numbers)) (by decide +kernel)) (fun _ _ _ _ _ => gg_name sc_are_numbers.nd) (fun _ _ _ _ _ => gts_nil) (fun _ _ _ _ _ => ge_call (G_is_number T) (hr.mono (by decide)) T.g_is_number T.F_is_number.kp T.b_is_number takesF (ga_cons (ge_var) (ga_cons (ge_var) (ga_nil)))))) (ga_nil)))))⟩
def c_are_numbers : CtP := fun ds P _ => ∃ (l : List Nat) (n : Nat), ds = [nL l, .int (n : Nat), .int 0] ∧ l.length ≤ 1000 ∧ P (.fz (.bl (decide (l.length = n))))
theorem G_are_numbers (T : Tx K mg a) : FnOk P w K mg base (L2.CX P w) 2 a.f_are_numbers a.d_are_numbers ["thing", "many", "least"] (spP K c_are_numbers) :=
  fn_P T.F_are_numbers sc_are_numbers (by rintro ds P PX ⟨n, m, rfl, _⟩; rfl) (bd_are_numbers T) fun ds P PX h => by
  obtain ⟨l, n, rfl, hl, hp⟩ := h
  unfold m_are_numbers
  walk_at "ev"
  refine ⟨_, _, _, rfl, (by decide : kitB "list" "list" = some true), (by decide : kitB "list" "tuple" = some false), ?_⟩
  walk_at "ev"
  refine ⟨fun z => Bool.noConfusion z, fun _ => ?_⟩
  walk_at "ev"
  refine fLen_lst ?_
  rw [List.length_map]
  walk_at "ev"
  refine ⟨fun z => ?_, fun z => ?_⟩
  · have z : ¬ l.length = n := by have z : ¬ ((l.length : Nat) : Int) = (n : Nat) := by simpa using z
                                  omega
    walk_at "ev"
    rw [decide_eq_false z] at hp
    exact hp
  · have z : l.length = n := by have z : ((l.length : Nat) : Int) = (n : Nat) := by simpa using z
                                omega
    rw [decide_eq_true z] at hp
    walk_at "ev"
    refine lc_run (fun _ q => by walk_at "ev"; exact q) (xs := l) (f := nD) rfl (fun k => (l.take k).map fun _ => D.bl true) (fun _ => [.fz (nL l), .fz (.int (n : Nat)), .fz (.int 0), .un]) ⟨rfl, rfl⟩ (fun k i hk => ?_) ?_
    · walk_at "ev"
      refine ⟨fun _ => ?_, fun z => Bool.noConfusion z⟩
      walk_at "ev"
      refine ⟨i, 0, rfl, ?_⟩
      walk_at "ev"
      have := acc_map (F := fun _ : Nat => D.bl true) hk (d := .bl (decide (0 ≤ i))) (by rw [decide_eq_true (Nat.zero_le _)]) (by omega)
      exact ⟨this.1, this.2, rfl⟩
    · walk_at "ev"
      refine ⟨(l.take l.length).map fun _ => true, ?_, ?_⟩
      · have : ((l.take l.length).map fun _ => D.bl true) = ((l.take l.length).map fun _ => true).map D.bl := by rw [List.map_map]; rfl
        rw [this, blsOf_map]
      · have : ((l.take l.length).map fun _ => true).all id = true := by simp
        rw [this]
        exact hp

def m_least_many : MS := mSeq (mSet 4 (mXo (mLst (mNil)))) (mSeq (mFor (iR2 (mCons (mC (.int 1)) (mCons (mBin fAdd (mVar 3) (mC (.int 1))) (mNil)))) (gN 5) (mSeq (mEx (mMt fApp 4 (mCons (mCall c_round_count (mCons (mVar 0) (mCons (mVar 1) (mCons (mVar 5) (mNil))))) (mNil)))) (mIfS (mTst (mBin fGe (mIxV 4 (mNeg (mC (.int 1)))) (mBin fShl (mC (.int 1)) (mVar 2)))) (mRet (mTup (mCons (mVar 5) (mCons (mVar 4) (mNil))))) (mNx)))) (mRet (mC .non)))
theorem bd_least_many (T : Tx K mg a) : Bd P w K mg base 5 ["machine", "room", "p", "most", "told", "many"] s_least_many m_least_many := ⟨fun qual f cdv A outer s H E hr tk pw =>
  gss_cons (gs_set (gx_o (go_lst (ga_nil))) sc_least_many.nd) (gss_cons (gs_for pw rfl (gi_range2 T.m_range (ga_cons (ge_int) (ga_cons (ge_bin op_addA od_add (ge_var) (ge_int)) (ga_nil)))) (gg_name sc_least_many.nd) (gss_cons (gs_expr (ge_mut PySem.F.slot_list_append PySem.F.type_list_append (MtM.r mt_append) md_app (ga_cons (ge_call (G_round_count T) (hr.mono (by decide)) T.g_round_count T.F_round_count.kp T.b_round_count tk (ga_cons (ge_var) (ga_cons (ge_var) (ga_cons (ge_var) (ga_nil))))) (ga_nil)))) (gss_one (gs_if (gt_cmp op_ge od_ge (ge_ixv (ge_neg (ge_int))) (ge_bin op_shlW od_shl (ge_int) (ge_var))) (gss_one (gs_ret (ge_tup (ga_cons (ge_var) (ga_cons (ge_var) (ga_nil)))))) (gss_nil))))) (gss_one (gs_ret (ge_non))))⟩
def cntR (M : Mc) (g n : Nat) : Nat := tb M g n g
def cntsR (M : Mc) (g n : Nat) : List Nat := (List.range n).map fun i => cntR M g (i + 1)
theorem cntsR_succ (M : Mc) (g n : Nat) : cntsR M g (n + 1) = cntsR M g n ++ [cntR M g (n + 1)] := by
  unfold cntsR
  rw [List.range_succ, List.map_append]; rfl
theorem cntsR_len (M : Mc) (g n : Nat) : (cntsR M g n).length = n := by simp [cntsR]
def c_least_many : CtP := fun ds P _ => ∃ (M : Mc) (g p most : Nat), ds = [mD M, .int (g : Nat), .int (p : Nat), .int (most : Nat)] ∧ M.Ok ∧ M.length ≤ 1000 ∧ g < M.length ∧ p ≤ 1000 ∧ most ≤ 1000 ∧
  (∀ n, 1 ≤ n → n ≤ most → 2 ^ p ≤ cntR M g n → (∀ j, 1 ≤ j → j < n → cntR M g j < 2 ^ p) → P (.fz (.tup [.int (n : Nat), nL (cntsR M g n)]))) ∧
  ((∀ j, 1 ≤ j → j ≤ most → cntR M g j < 2 ^ p) → P (.fz .non))
theorem G_least_many (T : Tx K mg a) : FnOk P w K mg base (L2.CX P w) 6 a.f_least_many a.d_least_many ["machine", "room", "p", "most"] (spP K c_least_many) :=
  fn_P T.F_least_many sc_least_many (by rintro ds P PX ⟨M, g, p, most, rfl, _⟩; rfl) (bd_least_many T) fun ds P PX h => by
  obtain ⟨M, g, p, most, rfl, ok, hM, hg, hpl, hml, h1, h0⟩ := h
  unfold m_least_many
  walk_at "ev"
  refine ⟨by decide, ?_⟩
  walk_at "ev"
  refine for_inv (fun _ q => by walk_at "ev"; exact ⟨⟨by decide, by decide⟩, ⟨by omega, by omega⟩, q⟩) (range_map _ 1 1)
    (fun k ρ => ρ = [.fz (mD M), .fz (.int (g : Nat)), .fz (.int (p : Nat)), .fz (.int (most : Nat)), .ow none (.lst ((cntsR M g k).map nD)), .un] ∧ ∀ j, 1 ≤ j → j ≤ k → cntR M g j < 2 ^ p)
    ⟨_, by walk_at "wk", rfl, fun j a b => by omega⟩ (fun k x ρ hk hI => ?_) (fun ρ hI => ?_)
  · obtain ⟨rfl, hlt⟩ := range_get hk
    obtain ⟨rfl, hj⟩ := hI
    have hlt : x < most := by omega
    have ex : (1 : Int) + (x : Nat) * 1 = ((x + 1 : Nat) : Int) := by omega
    rw [ex]
    walk_at "ev"
    refine ⟨M, g, x + 1, rfl, ok, hM, hg, by omega, ?_⟩
    walk_at "ev"
    refine ⟨sl_lt (by rw [List.length_map, cntsR_len]; omega), ?_⟩
    have e : (cntsR M g x).map nD ++ [D.int (tb M g (x + 1) g : Nat)] = (cntsR M g (x + 1)).map nD := by rw [cntsR_succ, List.map_append]; rfl
    rw [e]
    walk_at "ev"
    refine ⟨nD (cntR M g (x + 1)), by rw [cntsR_succ, List.map_append]; exact atI_m1, ?_⟩
    walk_at "ev"
    refine shl_one (by omega) ?_
    walk_at "ev"
    refine ⟨fun z => ?_, fun z => ?_⟩
    · have z : 2 ^ p ≤ cntR M g (x + 1) := by have := of_decide_eq_true z; omega
      walk_at "ev"
      refine ⟨by show 2 ≤ sizeLine; decide, ?_⟩
      exact h1 (x + 1) (by omega) (by omega) z fun j a b => hj j a (by omega)
    · have z : ¬ 2 ^ p ≤ cntR M g (x + 1) := by have := of_decide_eq_false z; omega
      walk_at "ev"
      refine ⟨_, ?_, rfl, fun j a b => ?_⟩
      · walk_at "wk"
      · rcases Nat.lt_or_ge j (x + 1) with y | y
        · exact hj j a (by omega)
        · have : j = x + 1 := by omega
          subst this
          omega
  · obtain ⟨rfl, hj⟩ := hI
    walk_at "ev"
    refine h0 fun j a b => hj j a ?_
    rw [List.length_range]
    omega

def m_shows_least_many : MS := mSeq (mIfS (mOrT (mNotT (mTst (mCall c_is_number (mCons (mVar 3) (mCons (mC (.int 1)) (mNil)))))) (mOrT (mNotT (mTst (mIsi2 "list" "tuple" (mVar 4)))) (mTst (mBin fNe (mBf fLen (mCons (mVar 4) (mNil))) (mVar 3))))) (mRet (mC (.bl false))) (mNx)) (mSeq (mIfS (mOrT (mNotT (mTst (mCall c_are_numbers (mCons (mVar 4) (mCons (mVar 3) (mCons (mC (.int 0)) (mNil))))))) (mOrT (mTst (mBin fLt (mBin fIx (mVar 4) (mNeg (mC (.int 1)))) (mBin fShl (mC (.int 1)) (mVar 2)))) (mTst (mBf fAny (mCons (mFz (mLc (iL (mSl (mVar 4) (mNoP) (mSoP (mNeg (mC (.int 1)))))) (gN 6) (mYes) (mBin fGe (mVar 6) (mBin fShl (mC (.int 1)) (mVar 2))) [6])) (mNil)))))) (mRet (mC (.bl false))) (mNx)) (mRet (mBin fEq (mFz (mLi (mCons (mVar 4) (mNil)))) (mFz (mLc (iR2 (mCons (mC (.int 1)) (mCons (mBin fAdd (mVar 3) (mC (.int 1))) (mNil)))) (gN 5) (mYes) (mCall c_round_count (mCons (mVar 0) (mCons (mVar 1) (mCons (mVar 5) (mNil))))) [5])))))
theorem bd_shows_least_many (T : Tx K mg a) : Bd P w K mg base 5 ["machine", "room", "p", "many", "told", "length", "one"] s_shows_least_many m_shows_least_many := ⟨fun qual f cdv A outer s H E hr tk pw =>
  gss_cons (gs_if (gt_w (gw_or (gt_not (gt_val (ge_call (G_is_number T) (hr.mono (by decide)) T.g_is_number T.F_is_number.kp T.b_is_number tk (ga_cons (ge_var) (ga_cons (ge_int) (ga_nil)))))) (gw_or (gt_not (gt_val (ge_isi2 T.m_isinstance T.m_list T.m_tuple (ge_var)))) (gw_or1 (gt_cmp (op_neA hr.units) od_ne (ge_bf call_len cd_len T.m_len (ga_cons (ge_var) (ga_nil))) (ge_var)))))) (gss_one (gs_ret (ge_bl))) (gss_nil)) (gss_cons (gs_if (gt_w (gw_or (gt_not (gt_val (ge_call (G_are_numbers T) (hr.mono (by decide)) T.g_are_numbers T.F_are_numbers.kp T.b_are_numbers tk (ga_cons (ge_var) (ga_cons (ge_var) (ga_cons (ge_int) (ga_nil))))))) (gw_or (gt_cmp op_ltA od_lt (ge_ix (ge_var) (ge_neg (ge_int))) (ge_bin op_shlW od_shl (ge_int) (ge_var))) (gw_or1 (gt_val (ge_bf (cr_any rfl) cd_any T.m_any (ga_cons (ge_fz (go_lc (own := [("one", 6)]) rfl sc_shows_least_many.nd (gi_list (ge_sl (ge_var) (gp_none) (gp_some (ge_neg (ge_int))))) (blkOk_by (N := ["machine", "room", "p", "many", "told", "length", "one"]) (sc := (defScope s_shows_least_many)) (by decide +kernel)) (fun _ _ _ _ _ => gg_name sc_shows_least_many.nd) (fun _ _ _ _ _ => gts_nil) (fun _ _ _ _ _ => ge_cmp op_ge od_ge (ge_var) (ge_bin op_shlW od_shl (ge_int) (ge_var))))) (ga_nil)))))))) (gss_one (gs_ret (ge_bl))) (gss_nil)) (gss_one (gs_ret (ge_cmp (op_eqA hr.units) od_eq (ge_fz (go_list T.m_list (ga_cons (ge_var) (ga_nil)))) (ge_fz (go_lc (own := [("length", 5)]) rfl sc_shows_least_many.nd (gi_range2 T.m_range (ga_cons (ge_int) (ga_cons (ge_bin op_addA od_add (ge_var) (ge_int)) (ga_nil)))) (blkOk_by (N := ["machine", "room", "p", "many", "told", "length", "one"]) (sc := (defScope s_shows_least_many)) (by decide +kernel)) (fun _ _ _ _ _ => gg_name sc_shows_least_many.nd) (fun _ _ _ _ _ => gts_nil) (fun _ _ _ _ _ => ge_call (G_round_count T) (hr.mono (by decide)) T.g_round_count T.F_round_count.kp T.b_round_count takesF (ga_cons (ge_var) (ga_cons (ge_var) (ga_cons (ge_var) (ga_nil)))))))))))⟩
def c_shows_least_many : CtP := fun ds P _ => ∃ (M : Mc) (g p n : Nat) (l : List Nat), ds = [mD M, .int (g : Nat), .int (p : Nat), .int (n : Nat), nL l] ∧ M.Ok ∧ M.length ≤ 1000 ∧ g < M.length ∧ p ≤ 1000 ∧ n ≤ 1000 ∧ l.length = n ∧
  ∀ b : Bool, (b = true ↔ 0 < n ∧ 2 ^ p ≤ l.getD (n - 1) 0 ∧ (∀ j, j < n - 1 → l.getD j 0 < 2 ^ p) ∧ l = cntsR M g n) → P (.fz (.bl b))
theorem G_shows_least_many (T : Tx K mg a) : FnOk P w K mg base (L2.CX P w) 6 a.f_shows_least_many a.d_shows_least_many ["machine", "room", "p", "many", "told"] (spP K c_shows_least_many) :=
  fn_P T.F_shows_least_many sc_shows_least_many (by rintro ds P PX ⟨M, g, p, n, l, rfl, _⟩; rfl) (bd_shows_least_many T) fun ds P PX h => by
  obtain ⟨M, g, p, n, l, rfl, ok, hM, hg, hpl, hn, hl, hp⟩ := h
  unfold m_shows_least_many
  walk_at "ev"
  refine ⟨n, 1, rfl, ?_⟩
  walk_at "ev"
  refine ⟨fun z => ?_, fun z => ?_⟩
  · walk_at "ev"
    refine ⟨fun _ => ?_, fun z => Bool.noConfusion z⟩
    walk_at "ev"
    refine hp false ⟨fun z => Bool.noConfusion z, fun y => ?_⟩
    rw [decide_eq_true (by omega)] at z
    cases z
  have hn1 : 1 ≤ n := by
    have y := z
    simp at y
    omega
  clear z
  walk_at "ev"
  refine ⟨_, _, _, rfl, (by decide : kitB "list" "list" = some true), (by decide : kitB "list" "tuple" = some false), ?_⟩
  walk_at "ev"
  refine ⟨fun z => Bool.noConfusion z, fun _ => ?_⟩
  walk_at "ev"
  refine fLen_lst ?_
  rw [List.length_map, hl]
  walk_at "ev"
  refine ⟨fun z => ?_, fun _ => ?_⟩
  · exfalso
    simp at z
  walk_at "ev"
  refine ⟨l, n, rfl, by omega, ?_⟩
  rw [decide_eq_true hl]
  walk_at "ev"
  refine ⟨fun z => Bool.noConfusion z, fun _ => ?_⟩
  walk_at "ev"
  have hlast : l[n - 1]? = some (l.getD (n - 1) 0) := getD_get (by omega)
  have hsn : l = l.take (n - 1) ++ [l.getD (n - 1) 0] := by
    have := take_snoc hlast
    rw [show n - 1 + 1 = l.length by omega, List.take_length] at this
    exact this
  refine ⟨nD (l.getD (n - 1) 0), ?_, ?_⟩
  · have : l.map nD = (l.take (n - 1)).map nD ++ [nD (l.getD (n - 1) 0)] := by
      rw [← List.map_singleton, ← List.map_append, ← hsn]
    rw [this]
    exact atI_m1
  walk_at "ev"
  refine shl_one (by omega) ?_
  walk_at "ev"
  refine ⟨fun z => ?_, fun z => ?_⟩
  · walk_at "ev"
    refine ⟨fun _ => ?_, fun z => Bool.noConfusion z⟩
    walk_at "ev"
    have z := of_decide_eq_true z
    exact hp false ⟨fun z => Bool.noConfusion z, fun y => by omega⟩
  have z1 : 2 ^ p ≤ l.getD (n - 1) 0 := by have := of_decide_eq_false z; omega
  clear z
  walk_at "ev"
  refine lc_run (ds := (l.take (n - 1)).map nD) (ρ1 := [.fz (mD M), .fz (.int (g : Nat)), .fz (.int (p : Nat)), .fz (.int (n : Nat)), .fz (nL l), .un, .un]) (fun _ q => by walk_at "ev"; refine fSl_nL ?_; rw [cutD_but _ (by omega), hl]; walk_at "ev"; exact q) (xs := l.take (n - 1)) (f := nD) rfl (fun k => ((l.take (n - 1)).take k).map fun c => D.bl (decide (2 ^ p ≤ c))) (fun _ => [.fz (mD M), .fz (.int (g : Nat)), .fz (.int (p : Nat)), .fz (.int (n : Nat)), .fz (nL l), .un, .un]) ⟨rfl, rfl⟩ (fun k i hk => ?_) ?_
  · walk_at "ev"
    refine ⟨fun _ => ?_, fun z => Bool.noConfusion z⟩
    walk_at "ev"
    refine shl_one (by omega) ?_
    walk_at "ev"
    have := acc_map (F := fun c : Nat => D.bl (decide (2 ^ p ≤ c))) hk (d := .bl (decide (((2 ^ p : Nat) : Int) ≤ (i : Nat)))) (by congr 1; rw [Bool.eq_iff_iff]; simp only [decide_eq_true_eq]; omega) (by rw [List.length_take]; omega)
    exact ⟨this.1, this.2, rfl⟩
  rw [List.take_length]
  walk_at "ev"
  refine ⟨(l.take (n - 1)).map fun c => decide (2 ^ p ≤ c), ?_, ?_⟩
  · have : ((l.take (n - 1)).map fun c => D.bl (decide (2 ^ p ≤ c))) = ((l.take (n - 1)).map fun c => decide (2 ^ p ≤ c)).map D.bl := by rw [List.map_map]; rfl
    rw [this, blsOf_map]
  walk_at "ev"
  have hany : (((l.take (n - 1)).map fun c => decide (2 ^ p ≤ c)).any id = false) ↔ ∀ j, j < n - 1 → l.getD j 0 < 2 ^ p := by
    rw [List.any_eq_false]
    constructor
    · intro h j hj
      have hm : l.getD j 0 ∈ l.take (n - 1) := by
        refine List.mem_of_getElem? (i := j) ?_
        rw [List.getElem?_take_of_lt hj]
        exact getD_get (by omega)
      have := h _ (List.mem_map_of_mem hm)
      simpa using this
    · intro h x hx
      obtain ⟨c, hc, rfl⟩ := List.mem_map.mp hx
      obtain ⟨j, hj⟩ := List.mem_iff_getElem?.mp hc
      have hlt : j < n - 1 := by have := get_lt hj; rw [List.length_take] at this; omega
      rw [List.getElem?_take_of_lt hlt, getD_get (by omega)] at hj
      have := h j hlt
      have e : l.getD j 0 = c := Option.some.inj hj
      simp
      omega
  refine ⟨fun z => ?_, fun z => ?_⟩
  · walk_at "ev"
    refine hp false ⟨fun z => Bool.noConfusion z, fun y => ?_⟩
    rw [hany.mpr y.2.2.1] at z
    cases z
  have z2 := hany.mp z
  clear z
  walk_at "ev"
  have he : (1 : Int) + ((n : Nat) : Int) - 1 = (n : Nat) := by omega
  refine lc_run (fun _ q => by walk_at "ev"; exact ⟨⟨by decide, by decide⟩, ⟨by omega, by omega⟩, q⟩) (range_map _ 1 1) (fun k => (cntsR M g k).map nD) (fun _ => [.fz (mD M), .fz (.int (g : Nat)), .fz (.int (p : Nat)), .fz (.int (n : Nat)), .fz (nL l), .un, .un]) ⟨rfl, rfl⟩ (fun k i hk => ?_) ?_
  · obtain ⟨rfl, hlt⟩ := range_get hk
    have hlt : i < n := by omega
    have ex : (1 : Int) + (i : Nat) * 1 = ((i + 1 : Nat) : Int) := by omega
    rw [ex]
    walk_at "ev"
    refine ⟨fun _ => ?_, fun z => Bool.noConfusion z⟩
    walk_at "ev"
    refine ⟨M, g, i + 1, rfl, ok, hM, hg, by omega, ?_⟩
    walk_at "ev"
    refine ⟨sl_lt (by rw [List.length_map, cntsR_len]; omega), ?_, rfl⟩
    rw [cntsR_succ, List.map_append]; rfl
  · rw [List.length_range, show (((n : Nat) : Int) + 1 - 1).toNat = n by omega]
    walk_at "ev"
    refine fEq_nL ?_
    refine hp _ ⟨fun y => ⟨by omega, z1, z2, of_decide_eq_true y⟩, fun y => decide_eq_true y.2.2.2⟩

def m_parts_of : MS := mRet (mFz (mLc (iR3 (mCons (mC (.int 0)) (mCons (mBf fLen (mCons (mVar 0) (mNil))) (mCons (mVar 1) (mNil))))) (gN 2) (mYes) (mSl (mVar 0) (mSoP (mVar 2)) (mSoP (mBin fAdd (mVar 2) (mVar 1)))) [2]))
theorem bd_parts_of (T : Tx K mg a) : Bd P w K mg base 0 ["row", "many", "place"] s_parts_of m_parts_of := ⟨fun qual f cdv A outer s H E hr tk pw =>
  gss_one (gs_ret (ge_fz (go_lc (own := [("place", 2)]) rfl sc_parts_of.nd (gi_range3 T.m_range (ga_cons (ge_int) (ga_cons (ge_bf call_len cd_len T.m_len (ga_cons (ge_var) (ga_nil))) (ga_cons (ge_var) (ga_nil))))) (blkOk_by (N := ["row", "many", "place"]) (sc := (defScope s_parts_of)) (by decide +kernel)) (fun _ _ _ _ _ => gg_name sc_parts_of.nd) (fun _ _ _ _ _ => gts_nil) (fun _ _ _ _ _ => ge_sl (ge_var) (gp_some (ge_var)) (gp_some (ge_bin op_addA od_add (ge_var) (ge_var)))))))⟩
def c_parts_of : CtP := fun ds P _ => ∃ (l : List Bool) (c : Nat), ds = [.str (bs l), .int (c : Nat)] ∧ 0 < c ∧ c ≤ 1000 ∧ l.length ≤ 100000 ∧ P (.fz (.lst ((partsM c l).map fun x => D.str (bs x))))
theorem G_parts_of (T : Tx K mg a) : FnOk P w K mg base (L2.CX P w) 1 a.f_parts_of a.d_parts_of ["row", "many"] (spP K c_parts_of) :=
  fn_P T.F_parts_of sc_parts_of (by rintro ds P PX ⟨n, m, rfl, _⟩; rfl) (bd_parts_of T) fun ds P PX h => by
  obtain ⟨l, c, rfl, h0, hc, hl, hp⟩ := h
  unfold m_parts_of
  walk_at "ev"
  refine lc_run (fun _ q => by walk_at "ev"; exact fLen_bs (by omega) ⟨_, rgC_up h0 (by omega) (by omega), q⟩) (range_map ((l.length + c - 1) / c) 0 c) (fun k => ((List.range ((l.length + c - 1) / c)).take k).map fun i => D.str (bs ((l.drop (i * c)).take c))) (fun _ => [.fz (.str (bs l)), .fz (.int (c : Nat)), .un]) ⟨rfl, rfl⟩ (fun k i hk => ?_) ?_
  · obtain ⟨rfl, hlt⟩ := range_get hk
    have ex : (0 : Int) + (i : Nat) * (c : Nat) = ((i * c : Nat) : Int) := by rw [Int.natCast_mul]; omega
    rw [ex]
    walk_at "ev"
    refine ⟨fun _ => ?_, fun z => Bool.noConfusion z⟩
    walk_at "ev"
    refine fSl_bs (by omega) ?_
    have ex2 : ((i * c : Nat) : Int) + (c : Nat) = ((i * c + c : Nat) : Int) := rfl
    rw [ex2, cutD_mid, show i * c + c - i * c = c by omega]
    have hq : (l.length + c - 1) / c ≤ 200000 := Nat.le_trans (Nat.div_le_self _ _) (by omega)
    have := acc_map (F := fun i => D.str (bs ((l.drop (i * c)).take c))) hk rfl (by rw [List.length_range]; omega)
    exact ⟨this.1, this.2, rfl⟩
  · rw [List.take_length]
    walk_at "ev"
    have e : (partsM c l).map (fun x => D.str (bs x)) = (List.range ((l.length + c - 1) / c)).map fun i => D.str (bs ((l.drop (i * c)).take c)) := by rw [partsM, List.map_map]; rfl
    rw [← e]
    exact hp

def m_as_bits : MS := mRet (mSm fJoin (mC (.str "")) (mFz (mLc (iR1 (mCons (mVar 1) (mNil))) (gN 2) (mYes) (mBin fIx (mC (.str "01")) (mBin fMod (mBin fShr (mVar 0) (mBin fSub (mBin fSub (mVar 1) (mC (.int 1))) (mVar 2))) (mC (.int 2)))) [2])))
theorem bd_as_bits (T : Tx K mg a) : Bd P w K mg base 0 ["number", "many", "place"] s_as_bits m_as_bits := ⟨fun qual f cdv A outer s H E hr tk pw =>
  gss_one (gs_ret (ge_sm PySem.F.slot_str_join PySem.F.type_str_join mt_join sd_join (ge_str) (ge_fz (go_lc (own := [("place", 2)]) rfl sc_as_bits.nd (gi_range1 T.m_range (ga_cons (ge_var) (ga_nil))) (blkOk_by (N := ["number", "many", "place"]) (sc := (defScope s_as_bits)) (by decide +kernel)) (fun _ _ _ _ _ => gg_name sc_as_bits.nd) (fun _ _ _ _ _ => gts_nil) (fun _ _ _ _ _ => ge_ix (ge_str) (ge_bin op_mod od_mod (ge_bin op_shr od_shr (ge_var) (ge_bin op_sub od_sub (ge_bin op_sub od_sub (ge_var) (ge_int)) (ge_var))) (ge_int)))))))⟩
def c_as_bits : CtP := fun ds P _ => ∃ (k p : Nat), ds = [.int (k : Nat), .int (p : Nat)] ∧ p ≤ 1000 ∧ P (.fz (.str (bs (bitsN k p))))
theorem bit_at (k m : Nat) : ((k : Nat) : Int) / 2 ^ m % 2 = bi (decide (k / 2 ^ m % 2 = 1)) := by
  have e : ((k : Nat) : Int) / 2 ^ m % 2 = ((k / 2 ^ m % 2 : Nat) : Int) := by
    rw [Int.natCast_emod, Int.natCast_ediv, Int.natCast_pow]; rfl
  rw [e]
  have : k / 2 ^ m % 2 < 2 := Nat.mod_lt _ (by decide)
  rcases (by omega : k / 2 ^ m % 2 = 0 ∨ k / 2 ^ m % 2 = 1) with h | h <;> rw [h] <;> rfl
theorem G_as_bits (T : Tx K mg a) : FnOk P w K mg base (L2.CX P w) 1 a.f_as_bits a.d_as_bits ["number", "many"] (spP K c_as_bits) :=
  fn_P T.F_as_bits sc_as_bits (by rintro ds P PX ⟨n, m, rfl, _⟩; rfl) (bd_as_bits T) fun ds P PX h => by
  obtain ⟨k, p, rfl, hl, hp⟩ := h
  unfold m_as_bits
  walk_at "ev"
  refine lc_run (fun _ q => by walk_at "ev"; exact ⟨⟨by omega, by omega⟩, q⟩) (range_map p 0 1) (fun j => ((List.range p).take j).map fun i => sb (decide (k / 2 ^ (p - 1 - i) % 2 = 1))) (fun _ => [.fz (.int (k : Nat)), .fz (.int (p : Nat)), .un]) ⟨rfl, rfl⟩ (fun j i hk => ?_) ?_
  · obtain ⟨rfl, hlt⟩ := range_get hk
    have ex : (0 : Int) + (i : Nat) * 1 = (i : Nat) := by omega
    rw [ex]
    walk_at "ev"
    refine ⟨fun _ => ?_, fun z => Bool.noConfusion z⟩
    walk_at "ev"
    refine ⟨by omega, ?_⟩
    walk_at "ev"
    refine ⟨by decide, ?_⟩
    rw [show (((p : Nat) : Int) - 1 - (i : Nat)).toNat = p - 1 - i by omega, bit_at]
    refine ix01 ?_
    have := acc_map (F := fun i => sb (decide (k / 2 ^ (p - 1 - i) % 2 = 1))) hk rfl (by rw [List.length_range]; omega)
    exact ⟨this.1, this.2, rfl⟩
  · rw [List.take_length]
    walk_at "ev"
    have e : ((List.range p).map fun i => sb (decide (k / 2 ^ (p - 1 - i) % 2 = 1))) = (bitsN k p).map sb := by rw [bitsN, List.map_map]; rfl
    rw [e]
    exact fJoin_sb (by rw [bitsN, List.length_map, List.length_range]; omega) hp

def m_as_number : MS := mSeq (mSet 1 (mXe (mC (.int 0)))) (mSeq (mFor (iS (mVar 0)) (gN 2) (mSet 1 (mXe (mBin fAdd (mBin fMul (mC (.int 2)) (mVar 1)) (mBf fInt (mCons (mBin fEq (mVar 2) (mC (.str "1"))) (mNil))))))) (mRet (mVar 1)))
theorem bd_as_number (T : Tx K mg a) : Bd P w K mg base 0 ["bits", "found", "bit"] s_as_number m_as_number := ⟨fun qual f cdv A outer s H E hr tk pw =>
  gss_cons (gs_set (gx_e (ge_int)) sc_as_number.nd) (gss_cons (gs_for pw rfl (gi_str (ge_var)) (gg_name sc_as_number.nd) (gss_one (gs_set (gx_e (ge_bin op_addA od_add (ge_bin op_mulA od_mul (ge_int) (ge_var)) (ge_bt call_intA cd_int T.m_int (ga_cons (ge_cmp (op_eqA hr.units) od_eq (ge_var) (ge_str)) (ga_nil))))) sc_as_number.nd))) (gss_one (gs_ret (ge_var))))⟩
def c_as_number : CtP := fun ds P _ => ∃ l, ds = [.str (bs l)] ∧ l.length ≤ 1000 ∧ P (.fz (.int (vlB l : Nat)))
theorem G_as_number (T : Tx K mg a) : FnOk P w K mg base (L2.CX P w) 1 a.f_as_number a.d_as_number ["bits"] (spP K c_as_number) :=
  fn_P T.F_as_number sc_as_number (by rintro ds P PX ⟨n, rfl, _⟩; rfl) (bd_as_number T) fun ds P PX h => by
  obtain ⟨l, rfl, hl, hp⟩ := h
  unfold m_as_number
  walk_at "ev"
  refine for_run (fun _ q => by walk_at "ev"; exact q) (signs_bs l) (fun k => [.fz (.str (bs l)), .fz (.int (vlB (l.take k) : Nat)), .un]) (by walk_at "wk") (fun k b hk => ?_) ?_
  · walk_at "ev"
    refine fMul_small (by decide) ?_
    walk_at "ev"
    refine fEq_sb1 ?_
    walk_at "ev"
    refine fInt_bl ?_
    walk_at "ev"
    refine lp_of ?_
    have e : (2 : Int) * (vlB (l.take k) : Nat) + (if b = true then 1 else 0) = ((vlB (l.take (k + 1)) : Nat) : Int) := by
      rw [take_snoc hk, vl_snoc]
      split <;> omega
    rw [e]
    walk_at "wk"
  · rw [List.take_length]
    walk_at "ev"
    exact hp

def m_table_written : MS := mSeq (mSet 4 (mXe (mCall c_bits_for (mCons (mVar 0) (mCons (mVar 1) (mCons (mVar 2) (mNil))))))) (mSeq (mIfS (mTst (mBin fNe (mBin fMod (mBf fLen (mCons (mVar 3) (mNil))) (mVar 4)) (mC (.int 0)))) (mNever) (mNx)) (mRet (mSm fJoin (mC (.str "")) (mFz (mLc (iL (mCall c_parts_of (mCons (mVar 3) (mCons (mVar 4) (mNil))))) (gN 5) (mYes) (mCall c_row_at (mCons (mVar 0) (mCons (mVar 1) (mCons (mVar 1) (mCons (mVar 2) (mCons (mCall c_as_number (mCons (mVar 5) (mNil))) (mNil))))))) [5])))))
theorem bd_table_written (T : Tx K mg a) : Bd P w K mg base 6 ["machine", "room", "many", "bits", "p", "part"] s_table_written m_table_written := ⟨fun qual f cdv A outer s H E hr tk pw =>
  gss_cons (gs_set (gx_e (ge_call (G_bits_for T) (hr.mono (by decide)) T.g_bits_for T.F_bits_for.kp T.b_bits_for tk (ga_cons (ge_var) (ga_cons (ge_var) (ga_cons (ge_var) (ga_nil)))))) sc_table_written.nd) (gss_cons (gs_if (gt_cmp (op_neA hr.units) od_ne (ge_bin op_mod od_mod (ge_bf call_len cd_len T.m_len (ga_cons (ge_var) (ga_nil))) (ge_var)) (ge_int)) (gss_one (gs_never)) (gss_nil)) (gss_one (gs_ret (ge_sm PySem.F.slot_str_join PySem.F.type_str_join mt_join sd_join (ge_str) (ge_fz (go_lc (own := [("part", 5)]) rfl sc_table_written.nd (gi_list (ge_call (G_parts_of T) (hr.mono (by decide)) T.g_parts_of T.F_parts_of.kp T.b_parts_of tk (ga_cons (ge_var) (ga_cons (ge_var) (ga_nil))))) (blkOk_by (N := ["machine", "room", "many", "bits", "p", "part"]) (sc := (defScope s_table_written)) (by decide +kernel)) (fun _ _ _ _ _ => gg_name sc_table_written.nd) (fun _ _ _ _ _ => gts_nil) (fun _ _ _ _ _ => ge_call (G_row_at T) (hr.mono (by decide)) T.g_row_at T.F_row_at.kp T.b_row_at takesF (ga_cons (ge_var) (ga_cons (ge_var) (ga_cons (ge_var) (ga_cons (ge_var) (ga_cons (ge_call (G_as_number T) (hr.mono (by decide)) T.g_as_number T.F_as_number.kp T.b_as_number takesF (ga_cons (ge_var) (ga_nil))) (ga_nil)))))))))))))⟩
def writeM (M : Mc) (g n p : Nat) (l : List Bool) : List (List Bool) := (partsM p l).map fun x => rowAt M g n g (vlB x)
def c_table_written : CtP := fun ds P _ => ∃ (M : Mc) (g n p q : Nat) (l : List Bool), ds = [mD M, .int (g : Nat), .int (n : Nat), .str (bs l)] ∧ M.Ok ∧ M.length ≤ 1000 ∧ g < M.length ∧ n ≤ 1000 ∧ 0 < tb M g n g ∧ p = (tb M g n g).log2 ∧ 0 < p ∧ p ≤ 1000 ∧ l.length = p * q ∧ q ≤ 1000 ∧ l.length ≤ 100000 ∧ P (.fz (.str (bs (writeM M g n p l).flatten)))
theorem G_table_written (T : Tx K mg a) : FnOk P w K mg base (L2.CX P w) 7 a.f_table_written a.d_table_written ["machine", "room", "many", "bits"] (spP K c_table_written) :=
  fn_P T.F_table_written sc_table_written (by rintro ds P PX ⟨n, m, _, _, _, _, rfl, _⟩; rfl) (bd_table_written T) fun ds P PX h => by
  obtain ⟨M, g, n, p, q, l, rfl, ok, hM, hg, hn, hc, hpe, hp0, hp1, hlq, hq, hl, hp⟩ := h
  have hpow : 2 ^ p ≤ tb M g n g := by rw [hpe]; exact Nat.log2_self_le (by omega)
  unfold m_table_written
  walk_at "ev"
  refine ⟨M, g, n, rfl, ok, hM, hg, hn, fun z => absurd z (by omega), fun _ => ?_⟩
  rw [← hpe]
  walk_at "ev"
  refine fLen_bs (by omega) ?_
  walk_at "ev"
  refine ⟨by omega, ?_⟩
  have em : ((l.length : Nat) : Int) % (p : Nat) = 0 := by rw [← Int.natCast_emod, hlq, Nat.mul_mod_right]; rfl
  rw [em]
  walk_at "ev"
  refine ⟨fun z => Bool.noConfusion z, fun _ => ?_⟩
  walk_at "ev"
  have hlen := partsM_whole hp0 hlq
  refine lc_run (ds := (partsM p l).map fun x => D.str (bs x)) (ρ1 := [.fz (mD M), .fz (.int (g : Nat)), .fz (.int (n : Nat)), .fz (.str (bs l)), .fz (.int (p : Nat)), .un]) (fun _ q => by walk_at "ev"; exact ⟨l, p, rfl, hp0, hp1, hl, by walk_at "ev"; exact q⟩) rfl (fun k => ((partsM p l).take k).map fun x => D.str (bs (rowAt M g n g (vlB x)))) (fun _ => [.fz (mD M), .fz (.int (g : Nat)), .fz (.int (n : Nat)), .fz (.str (bs l)), .fz (.int (p : Nat)), .un]) ⟨rfl, rfl⟩ (fun k x hk => ?_) ?_
  · have hx : x.length ≤ p := by
      have := partsM_get (get_lt hk)
      rw [hk] at this
      rw [Option.some.inj this, List.length_take]
      omega
    walk_at "ev"
    refine ⟨fun _ => ?_, fun z => Bool.noConfusion z⟩
    walk_at "ev"
    refine ⟨x, rfl, by omega, ?_⟩
    walk_at "ev"
    refine ⟨M, g, n, g, vlB x, rfl, ok, hM, hn, hg, ?_, ?_⟩
    · have h1 := vl_lt x
      have h2 := Nat.pow_le_pow_right (n := 2) (by decide) hx
      omega
    have := acc_map (F := fun x => D.str (bs (rowAt M g n g (vlB x)))) hk rfl (by omega)
    exact ⟨this.1, this.2, rfl⟩
  · rw [List.take_length]
    walk_at "ev"
    have e : ((partsM p l).map fun x => D.str (bs (rowAt M g n g (vlB x)))) = (writeM M g n p l).map fun x => D.str (bs x) := by rw [writeM, List.map_map]; rfl
    rw [e]
    refine fJoin_bs ?_ hp
    rw [flat_len (c := n) (fun x hx => by obtain ⟨y, _, rfl⟩ := List.mem_map.mp hx; exact rowAt_len _ _ _ _ _), writeM, List.length_map, hlen]
    exact Nat.le_trans (Nat.mul_le_mul hn hq) (by decide)

def m_block_number : MS := mSeq (mIfS (mTst (mBin fNe (mBf fLen (mCons (mVar 3) (mNil))) (mVar 2))) (mRet (mC .non)) (mNx)) (mSeq (mSet 4 (mXe (mC .non))) (mSeq (mTry (exPl a_NoRow) (mSet 4 (mXe (mCall c_number_of (mCons (mVar 0) (mCons (mVar 1) (mCons (mVar 1) (mCons (mVar 3) (mNil)))))))) (mSet 4 (mXe (mC .non)))) (mRet (mVar 4))))
theorem bd_block_number (T : Tx K mg a) : Bd P w K mg base 4 ["machine", "room", "many", "block", "found"] s_block_number m_block_number := ⟨fun qual f cdv A outer s H E hr tk pw =>
  gss_cons (gs_if (gt_cmp (op_neA hr.units) od_ne (ge_bf call_len cd_len T.m_len (ga_cons (ge_var) (ga_nil))) (ge_var)) (gss_one (gs_ret (ge_non))) (gss_nil)) (gss_cons (gs_set (gx_e (ge_non)) sc_block_number.nd) (gss_cons (gs_try rfl rfl ⟨rfl, by decide, .inl T.e_NoRow.g⟩ tk (hm_one (exm_at T.e_NoRow T.e_NoRow T.s_NoRow_NoRow)) (fun W' pn xe tk' pw' => gss_one (gs_set (gx_e (ge_call (G_number_of T) (hr.mono (by decide)) T.g_number_of T.F_number_of.kp T.b_number_of tk' (ga_cons (ge_var) (ga_cons (ge_var) (ga_cons (ge_var) (ga_cons (ge_var) (ga_nil))))))) sc_block_number.nd)) (fun a' pn' => gss_one (gs_set (gx_e (ge_non)) sc_block_number.nd))) (gss_one (gs_ret (ge_var)))))⟩
def c_block_number : CtP := fun ds P _ => ∃ (M : Mc) (g n : Nat) (l : List Bool), ds = [mD M, .int (g : Nat), .int (n : Nat), .str (bs l)] ∧ M.Ok ∧ M.length ≤ 1000 ∧ g < M.length ∧ l.length ≤ 1000 ∧ (l.length = n → goM M g l = some g → P (.fz (.int (rkM M g g l : Nat)))) ∧ (¬ (l.length = n ∧ goM M g l = some g) → P (.fz .non))
theorem G_block_number (T : Tx K mg a) : FnOk P w K mg base (L2.CX P w) 5 a.f_block_number a.d_block_number ["machine", "room", "many", "block"] (spP K c_block_number) :=
  fn_P T.F_block_number sc_block_number (by rintro ds P PX ⟨n, m, _, _, rfl, _⟩; rfl) (bd_block_number T) fun ds P PX h => by
  obtain ⟨M, g, n, l, rfl, ok, hM, hg, hl, hp, hx⟩ := h
  unfold m_block_number
  walk_at "ev"
  refine fLen_bs (by omega) ?_
  walk_at "ev"
  refine ⟨fun z => ?_, fun z => ?_⟩
  · have z : ¬ l.length = n := by have z : ¬ ((l.length : Nat) : Int) = (n : Nat) := by simpa using z
                                  omega
    walk_at "ev"
    exact hx fun y => z y.1
  · have z : l.length = n := by have z : ((l.length : Nat) : Int) = (n : Nat) := by simpa using z
                                omega
    walk_at "ev"
    refine ⟨M, g, g, l, rfl, ok, hM, hl, hg, fun y => ?_, fun y => ?_⟩
    · walk_at "ev"
      exact hp z y
    · walk_at "ev"
      refine exGo_self ?_
      walk_at "ev"
      exact hx fun u => y u.2

def m_table_read : MS := mSeq (mSet 4 (mXe (mCall c_bits_for (mCons (mVar 0) (mCons (mVar 1) (mCons (mVar 2) (mNil))))))) (mSeq (mSet 5 (mXe (mC (.str "")))) (mSeq (mFor (iEn (mCons (mCall c_parts_of (mCons (mVar 3) (mCons (mVar 2) (mNil)))) (mNil))) (gT (gCs (gN 6) (gCs (gN 7) (gNl)))) (mSeq (mSet 8 (mXe (mCall c_block_number (mCons (mVar 0) (mCons (mVar 1) (mCons (mVar 2) (mCons (mVar 7) (mNil)))))))) (mSeq (mIfS (mOrT (mTst (mBin fIs (mVar 8) (mC .non))) (mTst (mBin fGe (mVar 8) (mBin fShl (mC (.int 1)) (mVar 4))))) (mRaiseF a_BadBlock "block" (mVar 6)) (mNx)) (mAug 5 fAddI (mCall c_as_bits (mCons (mVar 8) (mCons (mVar 4) (mNil)))))))) (mRet (mVar 5))))
theorem bd_table_read (T : Tx K mg a) : Bd P w K mg base 6 ["machine", "room", "many", "row", "p", "bits", "place", "block", "number"] s_table_read m_table_read := ⟨fun qual f cdv A outer s H E hr tk pw =>
  gss_cons (gs_set (gx_e (ge_call (G_bits_for T) (hr.mono (by decide)) T.g_bits_for T.F_bits_for.kp T.b_bits_for tk (ga_cons (ge_var) (ga_cons (ge_var) (ga_cons (ge_var) (ga_nil)))))) sc_table_read.nd) (gss_cons (gs_set (gx_e (ge_str)) sc_table_read.nd) (gss_cons (gs_for pw rfl (gi_enum T.m_enumerate (ga_cons (ge_call (G_parts_of T) (hr.mono (by decide)) T.g_parts_of T.F_parts_of.kp T.b_parts_of tk (ga_cons (ge_var) (ga_cons (ge_var) (ga_nil)))) (ga_nil))) (gg_tup2 rfl (gg_name sc_table_read.nd) (gg_name sc_table_read.nd)) (gss_cons (gs_set (gx_e (ge_call (G_block_number T) (hr.mono (by decide)) T.g_block_number T.F_block_number.kp T.b_block_number tk (ga_cons (ge_var) (ga_cons (ge_var) (ga_cons (ge_var) (ga_cons (ge_var) (ga_nil))))))) sc_table_read.nd) (gss_cons (gs_if (gt_w (gw_or (gt_cmp op_isA od_is (ge_var) (ge_non)) (gw_or1 (gt_cmp op_ge od_ge (ge_var) (ge_bin op_shlW od_shl (ge_int) (ge_var)))))) (gss_one (gs_raiseF T.o_BadBlock T.i_BadBlock T.t_BadBlock (G_BadBlock T) (hr.mono (by decide)) T.b_BadBlock T.g_BadBlock rfl tk (ge_var))) (gss_nil)) (gss_one (gs_aug iop_addA od_addI (ge_call (G_as_bits T) (hr.mono (by decide)) T.g_as_bits T.F_as_bits.kp T.b_as_bits tk (ga_cons (ge_var) (ga_cons (ge_var) (ga_nil)))) sc_table_read.nd))))) (gss_one (gs_ret (ge_var)))))⟩
def GoodB (M : Mc) (g n p : Nat) (x : List Bool) : Prop := x.length = n ∧ goM M g x = some g ∧ rkM M g g x < 2 ^ p
def c_table_read : CtP := fun ds P PX => ∃ (M : Mc) (g n p : Nat) (l : List Bool), ds = [mD M, .int (g : Nat), .int (n : Nat), .str (bs l)] ∧ M.Ok ∧ M.length ≤ 1000 ∧ g < M.length ∧ 0 < n ∧ n ≤ 1000 ∧ 0 < tb M g n g ∧ p = (tb M g n g).log2 ∧ p ≤ 1000 ∧ l.length ≤ 2000 ∧
  ((∀ x ∈ partsM n l, GoodB M g n p x) → P (.fz (.str (bs ((partsM n l).map fun x => bitsN (rkM M g g x) p).flatten)))) ∧
  (∀ i x, (partsM n l)[i]? = some x → (∀ j y, j < i → (partsM n l)[j]? = some y → GoodB M g n p y) → ¬ GoodB M g n p x → PX (.fd a_BadBlock "block" (.int (i : Nat))))
theorem bitsN_len (k p : Nat) : (bitsN k p).length = p := by simp [bitsN]
theorem G_table_read (T : Tx K mg a) : FnOk P w K mg base (L2.CX P w) 7 a.f_table_read a.d_table_read ["machine", "room", "many", "row"] (spP K c_table_read) :=
  fn_P T.F_table_read sc_table_read (by rintro ds P PX ⟨n, m, _, _, _, rfl, _⟩; rfl) (bd_table_read T) fun ds P PX h => by
  obtain ⟨M, g, n, p, l, rfl, ok, hM, hg, hn0, hn, hc, hpe, hp1, hl, hp, hx⟩ := h
  have hlen : (partsM n l).length ≤ 3000 := by rw [partsM_len]; exact Nat.le_trans (Nat.div_le_self _ _) (by omega)
  unfold m_table_read
  walk_at "ev"
  refine ⟨M, g, n, rfl, ok, hM, hg, hn, fun z => absurd z (by omega), fun _ => ?_⟩
  rw [← hpe]
  walk_at "ev"
  rw [litE]
  refine for_inv (ds := enumD ((partsM n l).map fun x => D.str (bs x))) (ρ1 := [.fz (mD M), .fz (.int (g : Nat)), .fz (.int (n : Nat)), .fz (.str (bs l)), .fz (.int (p : Nat)), .fz (.str (bs [])), .un, .un, .un]) (fun _ q => by walk_at "ev"; exact ⟨l, n, rfl, hn0, hn, by omega, by walk_at "ev"; exact q⟩) (enum_map _)
    (fun k ρ => ρ = [.fz (mD M), .fz (.int (g : Nat)), .fz (.int (n : Nat)), .fz (.str (bs l)), .fz (.int (p : Nat)), .fz (.str (bs (((partsM n l).take k).map fun x => bitsN (rkM M g g x) p).flatten)), .un, .un, .un] ∧ ∀ j y, j < k → (partsM n l)[j]? = some y → GoodB M g n p y)
    ⟨_, by walk_at "wk", rfl, fun j y h => by omega⟩ (fun k x ρ hx0 hI => ?_) (fun ρ hI => ?_)
  · obtain ⟨x, hb, rfl⟩ := enum_get hx0
    obtain ⟨rfl, hj⟩ := hI
    have hk := get_lt hb
    have hxl : x.length ≤ 1000 := by
      have := partsM_get hk
      rw [hb] at this
      rw [Option.some.inj this, List.length_take, List.length_drop]
      omega
    walk_at "ev"
    refine ⟨M, g, n, x, rfl, ok, hM, hg, hxl, fun y1 y2 => ?_, fun y => ?_⟩
    · walk_at "ev"
      refine ⟨fun z => Bool.noConfusion z, fun _ => ?_⟩
      walk_at "ev"
      refine shl_one (by omega) ?_
      walk_at "ev"
      refine ⟨fun z => ?_, fun z => ?_⟩
      · have z : 2 ^ p ≤ rkM M g g x := by have := of_decide_eq_true z; omega
        walk_at "ev"
        exact hx k x hb hj fun w => by have := w.2.2; omega
      · have z : ¬ 2 ^ p ≤ rkM M g g x := by have := of_decide_eq_false z; omega
        walk_at "ev"
        refine ⟨rkM M g g x, p, rfl, by omega, ?_⟩
        walk_at "ev"
        have hfl : (((partsM n l).take k).map fun x => bitsN (rkM M g g x) p).flatten.length ≤ p * 3000 := by
          rw [flat_len (c := p) (fun x hx => by obtain ⟨y, _, rfl⟩ := List.mem_map.mp hx; exact bitsN_len _ _), List.length_map, List.length_take]
          exact Nat.mul_le_mul_left _ (by omega)
        have hfl2 : p * 3000 ≤ 1000 * 3000 := Nat.mul_le_mul_right _ hp1
        refine fAddI_bs (by rw [bitsN_len]; omega) ?_
        have e : (((partsM n l).take k).map fun x => bitsN (rkM M g g x) p).flatten ++ bitsN (rkM M g g x) p = (((partsM n l).take (k + 1)).map fun x => bitsN (rkM M g g x) p).flatten := by
          rw [take_snoc hb, List.map_append, List.flatten_append]
          simp
        rw [e]
        walk_at "ev"
        refine ⟨_, ?_, rfl, fun j y hjk hy => ?_⟩
        · walk_at "wk"
        · rcases Nat.lt_or_ge j k with w | w
          · exact hj j y w hy
          · have : j = k := by omega
            subst this
            rw [hb] at hy
            cases hy
            exact ⟨y1, y2, by omega⟩
    · walk_at "ev"
      refine ⟨fun _ => ?_, fun z => Bool.noConfusion z⟩
      walk_at "ev"
      exact ⟨fun _ => hx k x hb hj fun w => y ⟨w.1, w.2.1⟩, fun z => Bool.noConfusion z⟩
  · obtain ⟨rfl, hj⟩ := hI
    rw [zipIdx_len] at hj ⊢
    rw [List.take_length]
    walk_at "ev"
    refine hp fun x hx => ?_
    obtain ⟨j, hj2⟩ := List.mem_iff_getElem?.mp hx
    exact hj j x (get_lt hj2) hj2

def m__law_cell_at : MS := mSeq (mIfS (mTst (mBin fLt (mVar 1) (mBf fLen (mCons (mVar 0) (mNil))))) (mRet (mBin fIx (mVar 0) (mVar 1))) (mNx)) (mRet (mC (.int 0)))
theorem bd__law_cell_at (T : Tx K mg a) : Bd P w K mg base 0 ["script", "k"] s__law_cell_at m__law_cell_at := ⟨fun qual f cdv A outer s H E hr tk pw =>
  gss_cons (gs_if (gt_cmp op_ltA od_lt (ge_var) (ge_bf call_len cd_len T.m_len (ga_cons (ge_var) (ga_nil)))) (gss_one (gs_ret (ge_ix (ge_var) (ge_var)))) (gss_nil)) (gss_one (gs_ret (ge_int)))⟩
def c__law_cell_at : CtP := fun ds P _ => ∃ ns : List Int, ∃ k : Nat, ds = [.scr ns, .int (k : Nat)] ∧ ∀ i, (i = 0 ∨ i ∈ ns) → P (.fz (.int i))
theorem G__law_cell_at (T : Tx K mg a) : FnOk P w K mg base (L2.CX P w) 1 a.f__law_cell_at a.d__law_cell_at ["script", "k"] (spP K c__law_cell_at) :=
  fn_P T.F__law_cell_at sc__law_cell_at (by rintro ds P PX ⟨l, k, rfl, _⟩; rfl) (bd__law_cell_at T) fun ds P PX h => by
  obtain ⟨ns, k, rfl, hp⟩ := h
  unfold m__law_cell_at
  walk_at "ev"
  refine fLen_scr ?_
  walk_at "ev"
  refine ⟨fun z => ?_, fun z => ?_⟩
  · have z : k < ns.length := by have := of_decide_eq_true z; omega
    walk_at "ev"
    refine ⟨ns[k], atI_of rfl (List.getElem?_eq_getElem z), ?_⟩
    exact hp _ (.inr (List.getElem_mem z))
  · walk_at "ev"
    exact hp 0 (.inl rfl)

def m__law_box : MS := mSeq (mSet 2 (mXe (mCall c__law_cell_at (mCons (mVar 0) (mCons (mVar 1) (mNil)))))) (mRetO (mLst (mCons (mBin fMul (mBf fAbs (mCons (mVar 2) (mNil))) (mBf fInt (mCons (mBin fGe (mBf fAbs (mCons (mVar 2) (mNil))) (mBin fPow (mC (.int 10)) (mC (.int 18)))) (mNil)))) (mCons (mBin fAdd (mBin fAdd (mBin fMod (mVar 2) (mC (.int 2305843009213693951))) (mBin fMul (mC (.int 39373)) (mVar 1))) (mC (.int 17))) (mCons (mC (.int 0)) (mNil))))))
theorem bd__law_box (T : Tx K mg a) : Bd P w K mg base 1 ["script", "k", "cell"] s__law_box m__law_box := ⟨fun qual f cdv A outer s H E hr tk pw =>
  gss_cons (gs_set (gx_e (ge_call (G__law_cell_at T) (hr.mono (by decide)) T.g__law_cell_at T.F__law_cell_at.kp T.b__law_cell_at tk (ga_cons (ge_var) (ga_cons (ge_var) (ga_nil))))) sc__law_box.nd) (gss_one (gs_retO (go_lst (ga_cons (ge_bin op_mulA od_mul (ge_bf call_abs cd_abs T.m_abs (ga_cons (ge_var) (ga_nil))) (ge_bt call_intA cd_int T.m_int (ga_cons (ge_cmp op_ge od_ge (ge_bf call_abs cd_abs T.m_abs (ga_cons (ge_var) (ga_nil))) (ge_bin op_pow od_pow (ge_int) (ge_int))) (ga_nil)))) (ga_cons (ge_bin op_addA od_add (ge_bin op_addA od_add (ge_bin op_mod od_mod (ge_var) (ge_int)) (ge_bin op_mulA od_mul (ge_int) (ge_var))) (ge_int)) (ga_cons (ge_int) (ga_nil)))))))⟩
def c__law_box : CtP := fun ds P _ => ∃ ns : List Int, ∃ k : Nat, ds = [.scr ns, .int (k : Nat)] ∧ k ≤ 1000 ∧ ∀ c, Box c 0 → P (.ow c)
theorem G__law_box (T : Tx K mg a) : FnOk P w K mg base (L2.CX P w) 2 a.f__law_box a.d__law_box ["script", "k"] (spP K c__law_box) :=
  fn_P T.F__law_box sc__law_box (by rintro ds P PX ⟨l, k, rfl, _⟩; rfl) (bd__law_box T) fun ds P PX h => by
  obtain ⟨ns, k, rfl, hk, hp⟩ := h
  unfold m__law_box
  walk_at "ev"
  refine ⟨ns, k, rfl, fun i _ => ?_⟩
  walk_at "ev"
  refine fAbs_int ?_
  walk_at "ev"
  refine fAbs_int ?_
  walk_at "ev"
  refine ⟨⟨by decide, by decide, by decide⟩, ?_⟩
  walk_at "ev"
  refine fInt_bl ?_
  walk_at "ev"
  have e1 : ∀ b : Bool, -(2 ^ 64) < (if b then (1 : Int) else 0) ∧ (if b then (1 : Int) else 0) < 2 ^ 64 := by decide
  refine ⟨.inr (.inr (e1 _)), ?_⟩
  walk_at "ev"
  refine ⟨by decide, ?_⟩
  walk_at "ev"
  refine fMul_small (by decide) ?_
  walk_at "ev"
  refine ⟨by decide, ?_⟩
  refine hp _ ⟨_, _, _, rfl, ?_, ?_, ?_, by omega, by omega⟩
  · split <;> omega
  · have := Int.emod_nonneg i (by decide : (2305843009213693951 : Int) ≠ 0)
    omega
  · have := Int.emod_lt_of_pos i (by decide : (0 : Int) < 2305843009213693951)
    have e : (2 : Int) ^ 62 = 4611686018427387904 := by decide
    rw [e]
    omega

def m__law_take : MS := mSeq (mIfS (mTst (mBin fGt (mIxV 0 (mC (.int 0))) (mC (.int 0)))) (mSeq (mSet 2 (mXe (mBin fMod (mIxV 0 (mC (.int 0))) (mVar 1)))) (mSeq (mSub 0 (mBin fDiv (mIxV 0 (mC (.int 0))) (mVar 1)) (mC (.int 0))) (mRet (mVar 2)))) (mNx)) (mSeq (mSub 0 (mBin fAdd (mIxV 0 (mC (.int 2))) (mC (.int 1))) (mC (.int 2))) (mSeq (mSet 3 (mXe (mBin fMod (mBin fMul (mBin fAdd (mIxV 0 (mC (.int 1))) (mBin fMul (mC (.int 48271)) (mIxV 0 (mC (.int 2))))) (mBin fAdd (mC (.int 39373)) (mIxV 0 (mC (.int 2))))) (mC (.int 2147483647))))) (mSeq (mSet 4 (mXe (mBin fMod (mBin fMul (mBin fAdd (mVar 3) (mIxV 0 (mC (.int 2)))) (mBin fAdd (mBin fMod (mVar 3) (mC (.int 40009))) (mC (.int 7)))) (mC (.int 2147483629))))) (mRet (mBin fMod (mBin fDiv (mBin fMod (mBin fAdd (mBin fMul (mVar 4) (mC (.int 48271))) (mVar 3)) (mC (.int 2147483587))) (mC (.int 64))) (mVar 1))))))
theorem bd__law_take (T : Tx K mg a) : Bd P w K mg base 0 ["box", "many", "found", "once", "twice"] s__law_take m__law_take := ⟨fun qual f cdv A outer s H E hr tk pw =>
  gss_cons (gs_if (gt_cmp op_gt od_gt (ge_ixv (ge_int)) (ge_int)) (gss_cons (gs_set (gx_e (ge_bin op_mod od_mod (ge_ixv (ge_int)) (ge_var))) sc__law_take.nd) (gss_cons (gs_sub (ge_bin op_fdivW od_div (ge_ixv (ge_int)) (ge_var)) (ge_int)) (gss_one (gs_ret (ge_var))))) (gss_nil)) (gss_cons (gs_sub (ge_bin op_addA od_add (ge_ixv (ge_int)) (ge_int)) (ge_int)) (gss_cons (gs_set (gx_e (ge_bin op_mod od_mod (ge_bin op_mulA od_mul (ge_bin op_addA od_add (ge_ixv (ge_int)) (ge_bin op_mulA od_mul (ge_int) (ge_ixv (ge_int)))) (ge_bin op_addA od_add (ge_int) (ge_ixv (ge_int)))) (ge_int))) sc__law_take.nd) (gss_cons (gs_set (gx_e (ge_bin op_mod od_mod (ge_bin op_mulA od_mul (ge_bin op_addA od_add (ge_var) (ge_ixv (ge_int))) (ge_bin op_addA od_add (ge_bin op_mod od_mod (ge_var) (ge_int)) (ge_int))) (ge_int))) sc__law_take.nd) (gss_one (gs_ret (ge_bin op_mod od_mod (ge_bin op_fdivW od_div (ge_bin op_mod od_mod (ge_bin op_addA od_add (ge_bin op_mulA od_mul (ge_var) (ge_int)) (ge_var)) (ge_int)) (ge_int)) (ge_var)))))))⟩
abbrev c__law_take : CtM := cTake
theorem G__law_take (T : Tx K mg a) : FnOk P w K mg base (L2.CX P w) 1 a.f__law_take a.d__law_take ["box", "many"] (spM K c__law_take) :=
  fn_M T.F__law_take sc__law_take (by rintro c0 ds P PX ⟨n, m, rfl, _⟩; rfl) (bd__law_take T) fun p c0 ds P PX h => by
  obtain ⟨n, m, rfl, hB, hn, hm, hp⟩ := h
  obtain ⟨b0, b1, b2, rfl, h0, h1, h2, h3, h4⟩ := hB
  have hm0 : (0 : Int) < (m : Nat) := by have := hm.1; omega
  have ret : ∀ (x : Int) (c' : C), Box c' (n + 1) → P (.fz (.int (x % (m : Nat)))) c' := fun x c' hb => by
    have k0 := Int.emod_nonneg x (by omega : ((m : Nat) : Int) ≠ 0)
    have k1 := Int.emod_lt_of_pos x hm0
    have e : x % (m : Nat) = (((x % (m : Nat)).toNat : Nat) : Int) := by omega
    rw [e]
    exact hp _ _ (by omega) hb
  unfold m__law_take
  walk_at "ev"
  refine ⟨_, rfl, ?_⟩
  walk_at "ev"
  refine ⟨fun z => ?_, fun z => ?_⟩
  · have z := of_decide_eq_true z
    walk_at "ev"
    refine ⟨_, rfl, hm0, ?_⟩
    walk_at "ev"
    refine ⟨_, rfl, ?_⟩
    walk_at "ev"
    refine ⟨wide_div (b := 1000) hm0 (by rw [Int.natAbs_natCast]; exact hm.2) (by decide) (by decide), ?_⟩
    walk_at "ev"
    refine ⟨0, rfl, ?_⟩
    walk_at "ev"
    refine ⟨_, rfl, ?_⟩
    refine ret _ _ ⟨_, _, _, rfl, Int.ediv_nonneg h0 (by omega), h1, h2, h3, by omega⟩
  · walk_at "ev"
    refine ⟨_, rfl, ?_⟩
    walk_at "ev"
    refine ⟨2, rfl, ?_⟩
    walk_at "ev"
    refine ⟨_, rfl, ?_⟩
    walk_at "ev"
    refine ⟨_, rfl, ?_⟩
    walk_at "ev"
    refine fMul_small (by decide) ?_
    walk_at "ev"
    refine ⟨_, rfl, ?_⟩
    have e62 : (2 : Int) ^ 62 = 4611686018427387904 := by decide
    have e64 : (2 : Int) ^ 64 = 18446744073709551616 := by decide
    rw [e62] at h2
    walk_at "ev"
    refine fMul_small (by rw [e64]; omega) ?_
    walk_at "ev"
    refine ⟨by decide, ?_⟩
    walk_at "ev"
    generalize ho : (b1 + 48271 * (b2 + 1)) * (39373 + (b2 + 1)) % 2147483647 = once
    have o1 : 0 ≤ once := by rw [← ho]; exact Int.emod_nonneg _ (by decide)
    have o2 : once < 2147483647 := by rw [← ho]; exact Int.emod_lt_of_pos _ (by decide)
    refine ⟨_, rfl, ?_⟩
    walk_at "ev"
    refine ⟨by decide, ?_⟩
    walk_at "ev"
    refine fMul_small (by rw [e64]; omega) ?_
    walk_at "ev"
    refine ⟨by decide, ?_⟩
    walk_at "ev"
    generalize ht : (once + (b2 + 1)) * (once % 40009 + 7) % 2147483629 = twice
    have t1 : 0 ≤ twice := by rw [← ht]; exact Int.emod_nonneg _ (by decide)
    have t2 : twice < 2147483629 := by rw [← ht]; exact Int.emod_lt_of_pos _ (by decide)
    refine fMul_small (by rw [e64]; omega) ?_
    walk_at "ev"
    refine ⟨by decide, ?_⟩
    walk_at "ev"
    refine ⟨⟨by decide, by decide⟩, ?_⟩
    walk_at "ev"
    refine ⟨hm0, ?_⟩
    walk_at "ev"
    refine ⟨_, rfl, ?_⟩
    exact ret _ _ ⟨_, _, _, rfl, h0, h1, by rw [e62]; exact h2, by omega, by omega⟩

def m__law_leads : MS := mSeq (mFor (iS (mVar 2)) (gN 3) (mSet 1 (mXe (mIf (mTst (mBin fIs (mVar 1) (mC .non))) (mC .non) (mBin fIx (mBin fIx (mVar 0) (mVar 1)) (mBf fInt (mCons (mVar 3) (mNil)))))))) (mRet (mVar 1))
theorem bd__law_leads (T : Tx K mg a) : Bd P w K mg base 0 ["machine", "room", "row", "bit"] s__law_leads m__law_leads := ⟨fun qual f cdv A outer s H E hr tk pw =>
  gss_cons (gs_for pw rfl (gi_str (ge_var)) (gg_name sc__law_leads.nd) (gss_one (gs_set (gx_e (ge_if (gt_cmp op_isA od_is (ge_var) (ge_non)) (ge_non) (ge_ix (ge_ix (ge_var) (ge_var)) (ge_bt call_intA cd_int T.m_int (ga_cons (ge_var) (ga_nil)))))) sc__law_leads.nd))) (gss_one (gs_ret (ge_var)))⟩
def c__law_leads : CtP := fun ds P _ => ∃ (M : Mc) (a : Nat) (l : List Bool), ds = [mD M, .int (a : Nat), .str (bs l)] ∧ M.Ok ∧ a < M.length ∧ l.length ≤ 100000 ∧ P (.fz (oD (goM M a l)))
def goO (M : Mc) : Option Nat → List Bool → Option Nat
  | some a, l => goM M a l
  | none, _ => none
theorem goO_cons {M : Mc} {o : Option Nat} {b : Bool} {l : List Bool} : goO M o (b :: l) = goO M (o.bind fun a => nx M a b) l := by
  cases o with
  | none => rfl
  | some a =>
    show (match nx M a b with | some e => goM M e l | none => none) = goO M (nx M a b) l
    cases nx M a b <;> rfl
theorem fIx_r {r : Option Nat × Option Nat} {b : Bool} {P : D → Prop} (hp : P (oD (if b then r.2 else r.1))) : fIx (.tup [oD r.1, oD r.2]) (.int (bi b)) P := by
  cases b with
  | false => exact ⟨_, rfl, hp⟩
  | true => exact ⟨_, rfl, hp⟩
theorem G__law_leads (T : Tx K mg a) : FnOk P w K mg base (L2.CX P w) 1 a.f__law_leads a.d__law_leads ["machine", "room", "row"] (spP K c__law_leads) :=
  fn_P T.F__law_leads sc__law_leads (by rintro ds P PX ⟨n, m, _, rfl, _⟩; rfl) (bd__law_leads T) fun ds P PX h => by
  obtain ⟨M, a, l, rfl, ok, ha, hl, hp⟩ := h
  unfold m__law_leads
  walk_at "ev"
  refine for_inv (fun _ q => by walk_at "ev"; exact q) (signs_bs l) (fun k ρ => ∃ o : Option Nat, ρ = [.fz (mD M), .fz (oD o), .fz (.str (bs l)), .un] ∧ goM M a l = goO M o (l.drop k) ∧ ∀ e, o = some e → e < M.length)
    ⟨_, by walk_at "wk", some a, rfl, rfl, fun e h => by cases h; exact ha⟩ (fun k b ρ hk hI => ?_) (fun ρ hI => ?_)
  · obtain ⟨o, rfl, hgo, hlt⟩ := hI
    rw [drop_get hk, goO_cons] at hgo
    walk_at "ev"
    refine fIs_o ?_
    walk_at "ev"
    cases o with
    | none =>
      refine ⟨fun _ => ?_, fun z => Bool.noConfusion z⟩
      walk_at "ev"
      refine ⟨_, ?_, none, rfl, hgo, fun e h => nomatch h⟩
      walk_at "wk"
    | some u =>
      refine ⟨fun z => Bool.noConfusion z, fun _ => ?_⟩
      obtain ⟨r, hr⟩ := len_get (hlt u rfl)
      obtain ⟨e1, e2⟩ := nx_of hr
      walk_at "ev"
      rw [oD_some]
      refine fIx_m hr ?_
      walk_at "ev"
      refine fInt_sb ?_
      walk_at "ev"
      refine fIx_r ?_
      have e : (if b then r.2 else r.1) = nx M u b := by
        cases b
        · exact e1.symm
        · exact e2.symm
      rw [e]
      walk_at "ev"
      refine ⟨_, ?_, nx M u b, rfl, hgo, fun e h => nx_lt ok h⟩
      walk_at "wk"
  · obtain ⟨o, rfl, hgo, hlt⟩ := hI
    rw [List.drop_length] at hgo
    walk_at "ev"
    have : goO M o [] = o := by cases o <;> rfl
    rw [hgo, this] at hp
    exact hp

def m__law_bad_block : MS := mSeq (mSet 4 (mXe (mC .non))) (mSeq (mTryF a_BadBlock "block" 5 4 (mEx (mCall c_table_read (mCons (mVar 0) (mCons (mVar 1) (mCons (mVar 2) (mCons (mVar 3) (mNil)))))))) (mRet (mVar 4)))
theorem bd__law_bad_block (T : Tx K mg a) : Bd P w K mg base 7 ["machine", "room", "many", "row", "block", "error"] s__law_bad_block m__law_bad_block := ⟨fun qual f cdv A outer s H E hr tk pw =>
  gss_cons (gs_set (gx_e (ge_non)) sc__law_bad_block.nd) (gss_cons (gs_tryF (by decide) rfl rfl sc__law_bad_block.nd rfl rfl rfl ⟨rfl, by decide, .inl T.g_BadBlock⟩ tk T.x_BadBlock T.f_BadBlock T.n_BadBlock (hb := fun W' pn xe tk' pw' => gss_one (gs_expr (ge_call (G_table_read T) (hr.mono (by decide)) T.g_table_read T.F_table_read.kp T.b_table_read tk' (ga_cons (ge_var) (ga_cons (ge_var) (ga_cons (ge_var) (ga_cons (ge_var) (ga_nil))))))))) (gss_one (gs_ret (ge_var))))⟩
def c__law_bad_block : CtP := fun ds P _ => ∃ (M : Mc) (g n p : Nat) (l : List Bool), ds = [mD M, .int (g : Nat), .int (n : Nat), .str (bs l)] ∧ M.Ok ∧ M.length ≤ 1000 ∧ g < M.length ∧ 0 < n ∧ n ≤ 1000 ∧ 0 < tb M g n g ∧ p = (tb M g n g).log2 ∧ p ≤ 1000 ∧ l.length ≤ 2000 ∧
  ((∀ x ∈ partsM n l, GoodB M g n p x) → P (.fz .non)) ∧
  (∀ i x, (partsM n l)[i]? = some x → (∀ j y, j < i → (partsM n l)[j]? = some y → GoodB M g n p y) → ¬ GoodB M g n p x → P (.fz (.int (i : Nat))))
theorem G__law_bad_block (T : Tx K mg a) : FnOk P w K mg base (L2.CX P w) 8 a.f__law_bad_block a.d__law_bad_block ["machine", "room", "many", "row"] (spP K c__law_bad_block) :=
  fn_P T.F__law_bad_block sc__law_bad_block (by rintro ds P PX ⟨n, m, _, _, _, rfl, _⟩; rfl) (bd__law_bad_block T) fun ds P PX h => by
  obtain ⟨M, g, n, p, l, rfl, ok, hM, hg, hn0, hn, hc, hpe, hp1, hl, hp, hx⟩ := h
  unfold m__law_bad_block
  walk_at "ev"
  refine ⟨M, g, n, p, l, rfl, ok, hM, hg, hn0, hn, hc, hpe, hp1, hl, fun h => ?_, fun i x h1 h2 h3 => ?_⟩
  · walk_at "ev"
    exact hp h
  · walk_at "ev"
    refine ⟨rfl, rfl, by show 5 < 6; decide, ?_⟩
    walk_at "ev"
    exact hx i x h1 h2 h3

def m__law_rounds : MS := mSeq (mPar2 4 5 (mXe (mFz (mLc (iR1 (mCons (mBf fLen (mCons (mVar 0) (mNil))) (mNil))) (gN 3) (mYes) (mBf fInt (mCons (mBin fEq (mVar 3) (mVar 1)) (mNil))) [3]))) (mXo (mLst (mNil)))) (mSeq (mFor (iR1 (mCons (mBin fAdd (mVar 2) (mC (.int 1))) (mNil))) (gN 6) (mSeq (mEx (mMt fApp 5 (mCons (mBin fIx (mVar 4) (mVar 1)) (mNil)))) (mSeq (mSet 7 (mXo (mRep (mFz (mLst (mCons (mC (.int 0)) (mNil)))) (mBf fLen (mCons (mVar 0) (mNil)))))) (mSeq (mFor (iEnT (mCons (mVar 0) (mNil))) (gT (gCs (gN 3) (gCs (gN 8) (gNl)))) (mFor (iT (mVar 8)) (gN 9) (mIfS (mTst (mBin fIsNot (mVar 9) (mC .non))) (mSub 7 (mBin fAdd (mIxV 7 (mVar 9)) (mBin fIx (mVar 4) (mVar 3))) (mVar 9)) (mNx)))) (mSet 4 (mXe (mVar 7))))))) (mRet (mVar 5)))
theorem bd__law_rounds (T : Tx K mg a) : Bd P w K mg base 0 ["machine", "room", "many", "place", "ways", "seen", "turn", "more", "doors", "goal"] s__law_rounds m__law_rounds := ⟨fun qual f cdv A outer s H E hr tk pw =>
  gss_cons (gs_par2 rfl sc__law_rounds.nd (gx_e (ge_fz (go_lc (own := [("place", 3)]) rfl sc__law_rounds.nd (gi_range1 T.m_range (ga_cons (ge_bf call_len cd_len T.m_len (ga_cons (ge_var) (ga_nil))) (ga_nil))) (blkOk_by (N := ["machine", "room", "many", "place", "ways", "seen", "turn", "more", "doors", "goal"]) (sc := (defScope s__law_rounds)) (by decide +kernel)) (fun _ _ _ _ _ => gg_name sc__law_rounds.nd) (fun _ _ _ _ _ => gts_nil) (fun _ _ _ _ _ => ge_bt call_intA cd_int T.m_int (ga_cons (ge_cmp (op_eqA hr.units) od_eq (ge_var) (ge_var)) (ga_nil)))))) (gx_o (go_lst (ga_nil)))) (gss_cons (gs_for pw rfl (gi_range1 T.m_range (ga_cons (ge_bin op_addA od_add (ge_var) (ge_int)) (ga_nil))) (gg_name sc__law_rounds.nd) (gss_cons (gs_expr (ge_mut PySem.F.slot_list_append PySem.F.type_list_append (MtM.r mt_append) md_app (ga_cons (ge_ix (ge_var) (ge_var)) (ga_nil)))) (gss_cons (gs_set (gx_o (go_rep (ge_fz (go_lst (ga_cons (ge_int) (ga_nil)))) (ge_bf call_len cd_len T.m_len (ga_cons (ge_var) (ga_nil))))) sc__law_rounds.nd) (gss_cons (gs_for pw rfl (gi_enumT T.m_enumerate (ga_cons (ge_var) (ga_nil))) (gg_tup2 rfl (gg_name sc__law_rounds.nd) (gg_name sc__law_rounds.nd)) (gss_one (gs_for pw rfl (gi_tup (ge_var)) (gg_name sc__law_rounds.nd) (gss_one (gs_if (gt_cmp op_isNotA od_isnot (ge_var) (ge_non)) (gss_one (gs_sub (ge_bin op_addA od_add (ge_ixv (ge_var)) (ge_ix (ge_var) (ge_var))) (ge_var))) (gss_nil)))))) (gss_one (gs_set (gx_e (ge_var)) sc__law_rounds.nd)))))) (gss_one (gs_ret (ge_var))))⟩
def c__law_rounds : CtP := fun ds P _ => ∃ (M : Mc) (g n : Nat), ds = [mD M, .int (g : Nat), .int (n : Nat)] ∧ M.Ok ∧ M.length ≤ 1000 ∧ g < M.length ∧ n ≤ 1000 ∧ P (.fz (nL ((List.range (n + 1)).map (cntR M g))))
theorem G__law_rounds (T : Tx K mg a) : FnOk P w K mg base (L2.CX P w) 1 a.f__law_rounds a.d__law_rounds ["machine", "room", "many"] (spP K c__law_rounds) :=
  fn_P T.F__law_rounds sc__law_rounds (by rintro ds P PX ⟨n, m, _, rfl, _⟩; rfl) (bd__law_rounds T) fun ds P PX h => by
  obtain ⟨M, g, n, rfl, ok, hM, hg, hn, hp⟩ := h
  unfold m__law_rounds
  walk_at "ev"
  refine lc_run (ds := rngD 0 1 M.length) (ρ1 := [.fz (mD M), .fz (.int (g : Nat)), .fz (.int (n : Nat)), .un, .un, .un, .un, .un, .un, .un]) (fun _ q => by walk_at "ev"; refine fLen_tup ?_; walk_at "ev"; rw [List.length_map]; exact ⟨⟨by omega, by omega⟩, q⟩) (range_map M.length 0 1) (fun k => ((List.range M.length).take k).map fun a => nD (if a = g then 1 else 0)) (fun _ => [.fz (mD M), .fz (.int (g : Nat)), .fz (.int (n : Nat)), .un, .un, .un, .un, .un, .un, .un]) ⟨rfl, rfl⟩ (fun k i hk => ?_) ?_
  · obtain ⟨rfl, hlt⟩ := range_get hk
    have ex : (0 : Int) + (i : Nat) * 1 = (i : Nat) := by omega
    walk_at "ev"
    rw [ex]
    refine ⟨fun _ => ?_, fun z => Bool.noConfusion z⟩
    walk_at "ev"
    refine fInt_bl ?_
    have e : D.int (if decide (((i : Nat) : Int) = (g : Nat)) = true then 1 else 0) = nD (if i = g then 1 else 0) := by
      by_cases z : i = g
      · subst z; simp
      · rw [if_neg z, if_neg (by simpa using fun y => z (by omega))]; rfl
    have := acc_map (F := fun a => nD (if a = g then 1 else 0)) hk e (by rw [List.length_range]; omega)
    exact ⟨this.1, this.2, rfl⟩
  · have e : (((List.range M.length).take (List.range M.length).length).map fun a => nD (if a = g then 1 else 0)) = ((List.range M.length).map fun a => if a = g then 1 else 0).map nD := by
      rw [List.take_length, List.map_map]; rfl
    rw [e]
    walk_at "ev"
    refine ⟨by decide, ?_⟩
    walk_at "ev"
    refine for_inv (fun _ q => by walk_at "ev"; exact ⟨⟨by omega, by omega⟩, q⟩) (range_map _ 0 1)
      (fun t ρ => ∃ ways : List Nat, ρ = [.fz (mD M), .fz (.int (g : Nat)), .fz (.int (n : Nat)), .un, .fz (nL ways), .ow none (.lst (((List.range t).map (cntR M g)).map nD)), .un, .un, .un, .un] ∧ Ways M g t ways)
      ⟨_, by walk_at "wk", _, rfl, Ways.start M g⟩ (fun t x ρ ht hI => ?_) (fun ρ hI => ?_)
    · obtain ⟨rfl, hlt⟩ := range_get ht
      obtain ⟨ways, rfl, hW⟩ := hI
      walk_at "ev"
      refine fIx_n (by rw [hW.1]; exact hg) ?_
      rw [hW.get]
      walk_at "ev"
      have e2 : ((List.range x).map (cntR M g)).map nD ++ [D.int (tb M g x g : Nat)] = ((List.range (x + 1)).map (cntR M g)).map nD := by
        rw [List.range_succ, List.map_append, List.map_append]; rfl
      refine ⟨sl_lt (by simp; omega), ?_⟩
      rw [e2]
      walk_at "ev"
      refine ⟨by decide, ?_⟩
      walk_at "ev"
      refine fLen_tup ?_
      rw [List.length_map]
      walk_at "ev"
      refine ⟨by omega, by omega, ?_, ?_⟩
      · rw [Int.toNat_natCast, Nat.one_mul]; exact sl_le (by omega)
      rw [Int.toNat_natCast, rep_zero]
      walk_at "ev"
      generalize hseen : ((List.range (x + 1)).map (cntR M g)).map nD = seen
      refine for_inv (fun _ q => by walk_at "ev"; exact q) (enum_map M)
        (fun k ρ => ∃ more : List Nat, ρ = [.fz (mD M), .fz (.int (g : Nat)), .fz (.int (n : Nat)), .un, .fz (nL ways), .ow none (.lst seen), .un, .ow none (.lst (more.map nD)), .un, .un] ∧ Push M ways k more)
        ⟨_, by walk_at "wk", _, rfl, Push.start M ways⟩ (fun k y ρ hk hI => ?_) (fun ρ hI => ?_)
      · obtain ⟨r, hr, rfl⟩ := enum_get hk
        obtain ⟨more, rfl, hP⟩ := hI
        have hkl := get_lt hr
        have hrok := ok r (List.mem_of_getElem? hr)
        walk_at "ev"
        refine for_run (ds := [oD r.1, oD r.2]) (ρ1 := [.fz (mD M), .fz (.int (g : Nat)), .fz (.int (n : Nat)), .fz (.int (k : Nat)), .fz (nL ways), .ow none (.lst seen), .un, .ow none (.lst (more.map nD)), .fz (rD r), .un]) (fun _ q => by walk_at "ev"; exact q) (xs := [r.1, r.2]) (f := oD) rfl
          (fun j => [.fz (mD M), .fz (.int (g : Nat)), .fz (.int (n : Nat)), .fz (.int (k : Nat)), .fz (nL ways), .ow none (.lst seen), .un, .ow none (.lst ((addAll more (ways.getD k 0) ([r.1, r.2].take j)).map nD)), .fz (rD r), .un]) (by walk_at "wk") (fun j o hj => ?_) ?_
        · walk_at "ev"
          refine fIsNot_o ?_
          walk_at "ev"
          rw [take_snoc hj, addAll_snoc]
          have hml : (addAll more (ways.getD k 0) ([r.1, r.2].take j)).length = M.length := by rw [addAll_len]; exact hP.1
          generalize addAll more (ways.getD k 0) ([r.1, r.2].take j) = mm at hml
          cases o with
          | none =>
            refine ⟨fun z => Bool.noConfusion z, fun _ => ?_⟩
            walk_at "ev"
            refine lp_of ?_
            show Wk [_, _, _, _, _, _, _, .ow none (.lst (mm.map nD)), _, _] _
            walk_at "wk"
          | some e =>
            have he : e < M.length := by
              refine hrok e ?_
              have := List.mem_of_getElem? hj
              obtain ⟨u, v⟩ := r
              simp at this
              rcases this with rfl | rfl <;> simp [ends]
            refine ⟨fun _ => ?_, fun z => Bool.noConfusion z⟩
            walk_at "ev"
            rw [oD_some]
            refine fIx_n (by rw [hml]; exact he) ?_
            walk_at "ev"
            refine fIx_n (by rw [hW.1]; exact hkl) ?_
            walk_at "ev"
            refine ⟨e, ixN_nat (by rw [List.length_map, hml]; exact he), ?_⟩
            walk_at "ev"
            refine lp_of ?_
            have es : (mm.map nD).set e (D.int (((mm.getD e 0 : Nat) : Int) + (ways.getD k 0 : Nat))) = (addAt mm (ways.getD k 0) (some e)).map nD := map_set (l := mm) (i := e) (x := mm.getD e 0 + ways.getD k 0)
            rw [es]
            walk_at "wk"
        · walk_at "ev"
          refine ⟨_, by walk_at "wk", _, rfl, ?_⟩
          exact hP.step ok hW.1 hr
      · obtain ⟨more, rfl, hP⟩ := hI
        rw [zipIdx_len] at hP
        rw [← hseen]
        walk_at "ev"
        refine ⟨_, by walk_at "wk", more, rfl, hP.done hW⟩
    · obtain ⟨ways, rfl, hW⟩ := hI
      rw [List.length_range] at *
      walk_at "ev"
      rw [show (((n : Nat) : Int) + 1).toNat = n + 1 by omega]
      exact hp

def m__law_ring_machine : MS := mSeq (mSet 2 (mXo (mLst (mNil)))) (mSeq (mFor (iR1 (mCons (mVar 1) (mNil))) (gN 3) (mEx (mMt fIns 2 (mCons (mCallM c__law_take 0 (mCons (mBin fAdd (mVar 3) (mC (.int 1))) (mNil))) (mCons (mVar 3) (mNil)))))) (mSeq (mSet 4 (mXo (mRep (mFz (mLst (mCons (mC .non) (mNil)))) (mVar 1)))) (mSeq (mFor (iEn (mCons (mVar 2) (mNil))) (gT (gCs (gN 5) (gCs (gN 6) (gNl)))) (mSeq (mSet 7 (mXe (mBin fIx (mBin fAdd (mVar 2) (mSl (mVar 2) (mNoP) (mSoP (mC (.int 1))))) (mBin fAdd (mVar 5) (mC (.int 1)))))) (mSeq (mSet 8 (mXe (mBin fIx (mFz (mLst (mCons (mCallM c__law_take 0 (mCons (mVar 1) (mNil))) (mCons (mC .non) (mNil))))) (mBf fInt (mCons (mBin fEq (mCallM c__law_take 0 (mCons (mC (.int 3)) (mNil))) (mC (.int 0))) (mNil)))))) (mSub 4 (mBin fIx (mFz (mLst (mCons (mTup (mCons (mVar 7) (mCons (mVar 8) (mNil)))) (mCons (mTup (mCons (mVar 8) (mCons (mVar 7) (mNil)))) (mNil))))) (mCallM c__law_take 0 (mCons (mC (.int 2)) (mNil)))) (mVar 6))))) (mRet (mBf fTup (mCons (mVar 4) (mNil)))))))
theorem bd__law_ring_machine (T : Tx K mg a) : Bd P w K mg base 1 ["box", "many", "order", "k", "rooms", "at", "room", "on", "other"] s__law_ring_machine m__law_ring_machine := ⟨fun qual f cdv A outer s H E hr tk pw =>
  gss_cons (gs_set (gx_o (go_lst (ga_nil))) sc__law_ring_machine.nd) (gss_cons (gs_for pw rfl (gi_range1 T.m_range (ga_cons (ge_var) (ga_nil))) (gg_name sc__law_ring_machine.nd) (gss_one (gs_expr (ge_mut PySem.F.slot_list_insert PySem.F.type_list_insert mt_insert md_ins (ga_cons (ge_callM (G__law_take T) (hr.mono (by decide)) T.g__law_take T.F__law_take.kp T.b__law_take tk (ga_cons (ge_bin op_addA od_add (ge_var) (ge_int)) (ga_nil))) (ga_cons (ge_var) (ga_nil))))))) (gss_cons (gs_set (gx_o (go_rep (ge_fz (go_lst (ga_cons (ge_non) (ga_nil)))) (ge_var))) sc__law_ring_machine.nd) (gss_cons (gs_for pw rfl (gi_enum T.m_enumerate (ga_cons (ge_var) (ga_nil))) (gg_tup2 rfl (gg_name sc__law_ring_machine.nd) (gg_name sc__law_ring_machine.nd)) (gss_cons (gs_set (gx_e (ge_ix (ge_bin op_addA od_add (ge_var) (ge_sl (ge_var) (gp_none) (gp_some (ge_int)))) (ge_bin op_addA od_add (ge_var) (ge_int)))) sc__law_ring_machine.nd) (gss_cons (gs_set (gx_e (ge_ix (ge_fz (go_lst (ga_cons (ge_callM (G__law_take T) (hr.mono (by decide)) T.g__law_take T.F__law_take.kp T.b__law_take tk (ga_cons (ge_var) (ga_nil))) (ga_cons (ge_non) (ga_nil))))) (ge_bt call_intA cd_int T.m_int (ga_cons (ge_cmp (op_eqA hr.units) od_eq (ge_callM (G__law_take T) (hr.mono (by decide)) T.g__law_take T.F__law_take.kp T.b__law_take tk (ga_cons (ge_int) (ga_nil))) (ge_int)) (ga_nil))))) sc__law_ring_machine.nd) (gss_one (gs_sub (ge_ix (ge_fz (go_lst (ga_cons (ge_tup (ga_cons (ge_var) (ga_cons (ge_var) (ga_nil)))) (ga_cons (ge_tup (ga_cons (ge_var) (ga_cons (ge_var) (ga_nil)))) (ga_nil))))) (ge_callM (G__law_take T) (hr.mono (by decide)) T.g__law_take T.F__law_take.kp T.b__law_take tk (ga_cons (ge_int) (ga_nil)))) (ge_var)))))) (gss_one (gs_ret (ge_bt call_tuple_of cd_tup T.m_tuple (ga_cons (ge_var) (ga_nil))))))))⟩
def c__law_ring_machine : CtM := fun c0 ds P _ => ∃ n m : Nat, ds = [.int (m : Nat)] ∧ Box c0 n ∧ n ≤ 1000 ∧ 1 ≤ m ∧ m ≤ 60 ∧ ∀ (M : Mc) (c' : C), M.Ok → M.length = m → Box c' (n + 1000) → P (.fz (mD M)) c'
/-- rooms of which those named first are made -/
def Made (m : Nat) (o : List Nat) (rs : List D) : Prop := rs.length = m ∧ ∀ j ∈ o, ∃ r : Option Nat × Option Nat, (∀ e ∈ ends r, e < m) ∧ rs[j]? = some (rD r)
theorem Made.all {m : Nat} {o : List Nat} {rs : List D} (h : Made m o rs) (ho : ∀ j, j < m → j ∈ o) : ∃ M : Mc, M.Ok ∧ M.length = m ∧ rs = M.map rD := by
  have : ∀ (rs : List D), (∀ d ∈ rs, ∃ r : Option Nat × Option Nat, (∀ e ∈ ends r, e < m) ∧ d = rD r) → ∃ M : Mc, (∀ r ∈ M, ∀ e ∈ ends r, e < m) ∧ rs = M.map rD := by
    intro rs
    induction rs with
    | nil => exact fun _ => ⟨[], fun _ h => by (cases h), rfl⟩
    | cons d rs ih =>
      intro h
      obtain ⟨M, h1, h2⟩ := ih fun x hx => h x (List.mem_cons_of_mem _ hx)
      obtain ⟨r, h3, h4⟩ := h d List.mem_cons_self
      refine ⟨r :: M, fun x hx => ?_, by rw [h2, h4]; rfl⟩
      rcases List.mem_cons.mp hx with rfl | z
      · exact h3
      · exact h1 x z
  obtain ⟨M, h1, h2⟩ := this rs fun d hd => by
    obtain ⟨j, hj⟩ := List.mem_iff_getElem?.mp hd
    have := get_lt hj
    obtain ⟨r, h1, h2⟩ := h.2 j (ho j (by rw [← h.1]; exact this))
    rw [hj] at h2
    exact ⟨r, h1, Option.some.inj h2⟩
  have hl : M.length = m := by rw [← h.1, h2, List.length_map]
  exact ⟨M, fun r hr e he => by rw [hl]; exact h1 r hr e he, hl, h2⟩
theorem Made.set {m k : Nat} {o : List Nat} {rs : List D} {r : Option Nat × Option Nat} (h : Made m o rs) (hk : k < m) (hr : ∀ e ∈ ends r, e < m) : Made m (o ++ [k]) (rs.set k (rD r)) := by
  refine ⟨by rw [List.length_set]; exact h.1, fun j hj => ?_⟩
  by_cases z : k = j
  · subst z
    exact ⟨r, hr, List.getElem?_set_self (by rw [h.1]; exact hk)⟩
  · rcases List.mem_append.mp hj with y | y
    · obtain ⟨r', h1, h2⟩ := h.2 j y
      exact ⟨r', h1, by rw [List.getElem?_set_ne z]; exact h2⟩
    · have y : j = k := by simpa using y
      exact absurd y.symm z
theorem G__law_ring_machine (T : Tx K mg a) : FnOk P w K mg base (L2.CX P w) 2 a.f__law_ring_machine a.d__law_ring_machine ["box", "many"] (spM K c__law_ring_machine) :=
  fn_M T.F__law_ring_machine sc__law_ring_machine (by rintro c0 ds P PX ⟨n, m, rfl, _⟩; rfl) (bd__law_ring_machine T) fun p c0 ds P PX h => by
  obtain ⟨n, m, rfl, hB, hn, hm1, hm, hp⟩ := h
  unfold m__law_ring_machine
  walk_at "ev"
  refine ⟨by decide, ?_⟩
  walk_at "ev"
  refine for_inv (fun _ q => by walk_at "ev"; exact ⟨⟨by omega, by omega⟩, q⟩) (range_map m 0 1) (fun k ρ => ∃ (o : List Nat) (c' : C), ρ = [.ow (some p) c', .fz (.int (m : Nat)), .ow none (.lst (o.map nD)), .un, .un, .un, .un, .un, .un] ∧ o.length = k ∧ (∀ j, j < k → j ∈ o) ∧ (∀ j ∈ o, j < m) ∧ Box c' (n + k)) ⟨_, by walk_at "wk", [], c0, rfl, rfl, fun j h => absurd h (Nat.not_lt_zero _), fun j h => by (cases h), hB⟩ (fun k x ρ hk hI => ?_) (fun ρ hI => ?_)
  · obtain ⟨rfl, hlt⟩ := range_get hk
    obtain ⟨o, c1, rfl, hl, ho1, ho2, hB1⟩ := hI
    have ex : (0 : Int) + (x : Nat) * 1 = (x : Nat) := by omega
    rw [ex]
    walk_at "ev"
    refine ⟨n + x, x + 1, rfl, hB1, by omega, few (by omega) (by omega), fun r c2 hr hB2 => ?_⟩
    walk_at "ev"
    refine ⟨sl_lt (by rw [List.length_map]; omega), by omega, by rw [List.length_map]; omega, ?_⟩
    have e : (o.map nD).take ((r : Nat) : Int).toNat ++ D.int (x : Nat) :: (o.map nD).drop ((r : Nat) : Int).toNat = (o.take r ++ x :: o.drop r).map nD := by
      rw [Int.toNat_natCast, List.map_append, List.map_cons, List.map_take, List.map_drop]
    rw [e]
    have hmem : ∀ j, j ∈ o.take r ++ x :: o.drop r ↔ j ∈ o ∨ j = x := by
      intro j
      have := List.take_append_drop r o
      constructor
      · intro h
        rcases List.mem_append.mp h with z | z
        · exact .inl (List.mem_of_mem_take z)
        · rcases List.mem_cons.mp z with y | y
          · exact .inr y
          · exact .inl (List.mem_of_mem_drop y)
      · rintro (z | z)
        · rw [← this] at z
          rcases List.mem_append.mp z with y | y
          · exact List.mem_append_left _ y
          · exact List.mem_append_right _ (List.mem_cons_of_mem _ y)
        · rw [z]; exact List.mem_append_right _ List.mem_cons_self
    walk_at "ev"
    refine ⟨_, by walk_at "wk", o.take r ++ x :: o.drop r, c2, rfl, ?_, fun j hj => ?_, fun j hj => ?_, hB2⟩
    · simp
      omega
    · rw [hmem]
      rcases Nat.lt_or_ge j x with z | z
      · exact .inl (ho1 j z)
      · exact .inr (by omega)
    · rcases (hmem j).mp hj with z | z
      · exact ho2 j z
      · omega
  · obtain ⟨o, c1, rfl, hl, ho1, ho2, hB1⟩ := hI
    rw [List.length_range] at hl ho1 hB1
    walk_at "ev"
    refine ⟨by decide, ?_⟩
    walk_at "ev"
    refine ⟨by omega, by omega, ?_, ?_⟩
    · rw [Int.toNat_natCast, Nat.one_mul]; exact sl_le (by omega)
    rw [Int.toNat_natCast, rep_non]
    walk_at "ev"
    refine for_inv (fun _ q => by walk_at "ev"; exact q) (enum_map o) (fun k ρ => ∃ (rs : List D) (c' : C), ρ = [.ow (some p) c', .fz (.int (m : Nat)), .fz (nL o), .un, .ow none (.lst rs), .un, .un, .un, .un] ∧ Made m (o.take k) rs ∧ Box c' (n + m + 3 * k)) ⟨_, by walk_at "wk", List.replicate m .non, c1, rfl, ⟨by simp, fun j h => by (cases h)⟩, hB1⟩ (fun k x ρ hk hI => ?_) (fun ρ hI => ?_)
    · obtain ⟨room, hro, rfl⟩ := enum_get hk
      obtain ⟨rs, c2, rfl, hMd, hB2⟩ := hI
      have hkl := get_lt hro
      have hroom := ho2 room (List.mem_of_getElem? hro)
      walk_at "ev"
      refine fSl_nL ?_
      rw [cutD_one]
      have hon : ∃ on, (o ++ o.take 1)[k + 1]? = some on ∧ on < m := by
        have hlen : k + 1 < (o ++ o.take 1).length := by rw [List.length_append, List.length_take]; omega
        refine ⟨(o ++ o.take 1)[k + 1], List.getElem?_eq_getElem hlen, ?_⟩
        have := List.getElem_mem hlen
        rcases List.mem_append.mp this with z | z
        · exact ho2 _ z
        · exact ho2 _ (List.mem_of_mem_take z)
      obtain ⟨on, hon1, hon2⟩ := hon
      refine fAdd_nL (by rw [List.length_take]; omega) ?_
      walk_at "ev"
      have ex : ((k : Nat) : Int) + 1 = ((k + 1 : Nat) : Int) := rfl
      rw [ex]
      refine fIx_lst (by rw [List.getElem?_map, hon1]; rfl) ?_
      walk_at "ev"
      refine ⟨_, m, rfl, hB2, by omega, few (by omega) (by omega), fun r1 c3 hr1 hB3 => ?_⟩
      walk_at "ev"
      refine ⟨by decide, ?_⟩
      walk_at "ev"
      refine ⟨_, 3, rfl, hB3, by omega, few (by decide) (by decide), fun r2 c4 hr2 hB4 => ?_⟩
      walk_at "ev"
      refine fInt_bl ?_
      have hoth : ∃ other : Option Nat, (∀ e, other = some e → e < m) ∧ ∀ P : D → Prop, P (oD other) → fIx (.lst [.int (r1 : Nat), .non]) (.int (if decide (((r2 : Nat) : Int) = 0) = true then 1 else 0)) P := by
        by_cases z : ((r2 : Nat) : Int) = 0
        · refine ⟨none, fun e h => ?_, fun P h => ?_⟩
          · cases h
          · rw [decide_eq_true z]; exact ⟨_, rfl, h⟩
        · refine ⟨some r1, fun e h => ?_, fun P h => ?_⟩
          · cases h; exact hr1
          · rw [decide_eq_false z]; exact ⟨_, rfl, h⟩
      obtain ⟨other, hot, hfx⟩ := hoth
      refine hfx _ ?_
      walk_at "ev"
      refine ⟨by decide, ?_⟩
      walk_at "ev"
      refine ⟨by decide, ?_⟩
      walk_at "ev"
      refine ⟨by decide, ?_⟩
      walk_at "ev"
      refine ⟨_, 2, rfl, hB4, by omega, few (by decide) (by decide), fun r3 c5 hr3 hB5 => ?_⟩
      walk_at "ev"
      have hdoor : ∃ r : Option Nat × Option Nat, (∀ e ∈ ends r, e < m) ∧ ∀ P : D → Prop, P (rD r) → fIx (.lst [.tup [.int (on : Nat), oD other], .tup [oD other, .int (on : Nat)]]) (.int (r3 : Nat)) P := by
        rcases (by omega : r3 = 0 ∨ r3 = 1) with rfl | rfl
        · refine ⟨(some on, other), fun e he => ?_, fun P h => ⟨_, rfl, h⟩⟩
          cases other with
          | none => simp [ends] at he; omega
          | some v => have := hot v rfl; simp [ends] at he; rcases he with z | z <;> omega
        · refine ⟨(other, some on), fun e he => ?_, fun P h => ⟨_, rfl, h⟩⟩
          cases other with
          | none => simp [ends] at he; omega
          | some v => have := hot v rfl; simp [ends] at he; rcases he with z | z <;> omega
      obtain ⟨r, hr, hfr⟩ := hdoor
      refine hfr _ ?_
      walk_at "ev"
      refine ⟨room, ixN_nat (by rw [hMd.1]; exact hroom), ?_⟩
      walk_at "ev"
      refine ⟨_, by walk_at "wk", _, c5, rfl, ?_, hB5.mono (by omega)⟩
      rw [take_snoc hro]
      exact hMd.set hroom hr
    · obtain ⟨rs, c2, rfl, hMd, hB2⟩ := hI
      rw [zipIdx_len, List.take_length] at hMd
      rw [zipIdx_len] at hB2
      obtain ⟨M, ok, hMl, hrs⟩ := hMd.all ho1
      subst hrs
      walk_at "ev"
      exact ⟨_, rfl, hp M c2 ok hMl (hB2.mono (by omega))⟩

def m__law_table_right : MS := mSeq (mSet 5 (mXe (mBin fAdd (mC (.int 1)) (mCallM c__law_take 0 (mCons (mBf fMin (mCons (mC (.int 3)) (mCons (mBin fDiv (mC (.int 400)) (mVar 3)) (mNil)))) (mNil)))))) (mSeq (mSet 6 (mXe (mSm fJoin (mC (.str "")) (mFz (mLc (iR1 (mCons (mBin fMul (mVar 4) (mVar 5)) (mNil))) (gN 12) (mYes) (mBin fIx (mC (.str "01")) (mCallM c__law_take 0 (mCons (mC (.int 2)) (mNil)))) [12]))))) (mSeq (mSet 7 (mXe (mCall c_table_written (mCons (mVar 1) (mCons (mVar 2) (mCons (mVar 3) (mCons (mVar 6) (mNil)))))))) (mSeq (mIfS (mOrT (mTst (mBin fNe (mBf fLen (mCons (mVar 7) (mNil))) (mBin fMul (mVar 3) (mVar 5)))) (mTst (mBin fNe (mCall c_table_read (mCons (mVar 1) (mCons (mVar 2) (mCons (mVar 3) (mCons (mVar 7) (mNil)))))) (mVar 6)))) (mRet (mC (.bl false))) (mNx)) (mSeq (mSet 8 (mXe (mFz (mLc (iR1 (mCons (mVar 5) (mNil))) (gN 11) (mYes) (mSl (mVar 7) (mSoP (mBin fMul (mVar 3) (mVar 11))) (mSoP (mBin fMul (mVar 3) (mBin fAdd (mVar 11) (mC (.int 1)))))) [11])))) (mSeq (mIfS (mTst (mBf fAny (mCons (mFz (mLc (iL (mVar 8)) (gN 13) (mYes) (mBin fNe (mCall c__law_leads (mCons (mVar 1) (mCons (mVar 2) (mCons (mVar 13) (mNil))))) (mVar 2)) [13])) (mNil)))) (mRet (mC (.bl false))) (mNx)) (mSeq (mSet 9 (mXe (mFz (mLc (iR1 (mCons (mVar 5) (mNil))) (gN 11) (mYes) (mSl (mVar 6) (mSoP (mBin fMul (mVar 4) (mVar 11))) (mSoP (mBin fMul (mVar 4) (mBin fAdd (mVar 11) (mC (.int 1)))))) [11])))) (mSeq (mIfS (mTst (mBin fNe (mFz (mLc (iR1 (mCons (mVar 5) (mNil))) (gN 11) (mYes) (mBin fEq (mBin fLt (mBin fIx (mVar 8) (mVar 11)) (mBin fIx (mVar 8) (mC (.int 0)))) (mBin fLt (mBin fIx (mVar 9) (mVar 11)) (mBin fIx (mVar 9) (mC (.int 0))))) [11])) (mBin fMul (mFz (mLst (mCons (mC (.bl true)) (mNil)))) (mVar 5)))) (mRet (mC (.bl false))) (mNx)) (mSeq (mIfS (mAndT (mTst (mBin fNe (mCall c__law_bad_block (mCons (mVar 1) (mCons (mVar 2) (mCons (mVar 3) (mCons (mSl (mVar 7) (mNoP) (mSoP (mNeg (mC (.int 1))))) (mNil)))))) (mBin fSub (mVar 5) (mC (.int 1))))) (mTst (mBin fGt (mVar 3) (mC (.int 1))))) (mRet (mC (.bl false))) (mNx)) (mSeq (mSet 10 (mXe (mBin fAdd (mSl (mVar 7) (mNoP) (mSoP (mNeg (mC (.int 1))))) (mBin fIx (mC (.str "10")) (mBf fInt (mCons (mBin fIx (mVar 7) (mNeg (mC (.int 1)))) (mNil))))))) (mSeq (mIfS (mTst (mBin fNe (mCall c__law_leads (mCons (mVar 1) (mCons (mVar 2) (mCons (mSl (mVar 10) (mSoP (mBin fMul (mVar 3) (mBin fSub (mVar 5) (mC (.int 1))))) (mNoP)) (mNil))))) (mVar 2))) (mRet (mBin fEq (mCall c__law_bad_block (mCons (mVar 1) (mCons (mVar 2) (mCons (mVar 3) (mCons (mVar 10) (mNil)))))) (mBin fSub (mVar 5) (mC (.int 1))))) (mNx)) (mRet (mC (.bl true)))))))))))))
theorem bd__law_table_right (T : Tx K mg a) : Bd P w K mg base 8 ["box", "machine", "room", "many", "p", "blocks", "bits", "row", "parts", "told", "last", "at", "place", "part"] s__law_table_right m__law_table_right := ⟨fun qual f cdv A outer s H E hr tk pw =>
  gss_cons (gs_set (gx_e (ge_bin op_addA od_add (ge_int) (ge_callM (G__law_take T) (hr.mono (by decide)) T.g__law_take T.F__law_take.kp T.b__law_take tk (ga_cons (ge_bf (cr_minA rfl) cd_min T.m_min (ga_cons (ge_int) (ga_cons (ge_bin op_fdivW od_div (ge_int) (ge_var)) (ga_nil)))) (ga_nil))))) sc__law_table_right.nd) (gss_cons (gs_set (gx_e (ge_sm PySem.F.slot_str_join PySem.F.type_str_join mt_join sd_join (ge_str) (ge_fz (go_lc (own := [("place", 12)]) rfl sc__law_table_right.nd (gi_range1 T.m_range (ga_cons (ge_bin op_mulA od_mul (ge_var) (ge_var)) (ga_nil))) (blkOk_by (N := ["box", "machine", "room", "many", "p", "blocks", "bits", "row", "parts", "told", "last", "at", "place", "part"]) (sc := (defScope s__law_table_right)) (by decide +kernel)) (fun _ _ _ _ _ => gg_name sc__law_table_right.nd) (fun _ _ _ _ _ => gts_nil) (fun _ _ _ _ _ => ge_ix (ge_str) (ge_callM (G__law_take T) (hr.mono (by decide)) T.g__law_take T.F__law_take.kp T.b__law_take takesF (ga_cons (ge_int) (ga_nil)))))))) sc__law_table_right.nd) (gss_cons (gs_set (gx_e (ge_call (G_table_written T) (hr.mono (by decide)) T.g_table_written T.F_table_written.kp T.b_table_written tk (ga_cons (ge_var) (ga_cons (ge_var) (ga_cons (ge_var) (ga_cons (ge_var) (ga_nil))))))) sc__law_table_right.nd) (gss_cons (gs_if (gt_w (gw_or (gt_cmp (op_neA hr.units) od_ne (ge_bf call_len cd_len T.m_len (ga_cons (ge_var) (ga_nil))) (ge_bin op_mulA od_mul (ge_var) (ge_var))) (gw_or1 (gt_cmp (op_neA hr.units) od_ne (ge_call (G_table_read T) (hr.mono (by decide)) T.g_table_read T.F_table_read.kp T.b_table_read tk (ga_cons (ge_var) (ga_cons (ge_var) (ga_cons (ge_var) (ga_cons (ge_var) (ga_nil)))))) (ge_var))))) (gss_one (gs_ret (ge_bl))) (gss_nil)) (gss_cons (gs_set (gx_e (ge_fz (go_lc (own := [("at", 11)]) rfl sc__law_table_right.nd (gi_range1 T.m_range (ga_cons (ge_var) (ga_nil))) (blkOk_by (N := ["box", "machine", "room", "many", "p", "blocks", "bits", "row", "parts", "told", "last", "at", "place", "part"]) (sc := (defScope s__law_table_right)) (by decide +kernel)) (fun _ _ _ _ _ => gg_name sc__law_table_right.nd) (fun _ _ _ _ _ => gts_nil) (fun _ _ _ _ _ => ge_sl (ge_var) (gp_some (ge_bin op_mulA od_mul (ge_var) (ge_var))) (gp_some (ge_bin op_mulA od_mul (ge_var) (ge_bin op_addA od_add (ge_var) (ge_int)))))))) sc__law_table_right.nd) (gss_cons (gs_if (gt_val (ge_bf (cr_any rfl) cd_any T.m_any (ga_cons (ge_fz (go_lc (own := [("part", 13)]) rfl sc__law_table_right.nd (gi_list (ge_var)) (blkOk_by (N := ["box", "machine", "room", "many", "p", "blocks", "bits", "row", "parts", "told", "last", "at", "place", "part"]) (sc := (defScope s__law_table_right)) (by decide +kernel)) (fun _ _ _ _ _ => gg_name sc__law_table_right.nd) (fun _ _ _ _ _ => gts_nil) (fun _ _ _ _ _ => ge_cmp (op_neA hr.units) od_ne (ge_call (G__law_leads T) (hr.mono (by decide)) T.g__law_leads T.F__law_leads.kp T.b__law_leads takesF (ga_cons (ge_var) (ga_cons (ge_var) (ga_cons (ge_var) (ga_nil))))) (ge_var)))) (ga_nil)))) (gss_one (gs_ret (ge_bl))) (gss_nil)) (gss_cons (gs_set (gx_e (ge_fz (go_lc (own := [("at", 11)]) rfl sc__law_table_right.nd (gi_range1 T.m_range (ga_cons (ge_var) (ga_nil))) (blkOk_by (N := ["box", "machine", "room", "many", "p", "blocks", "bits", "row", "parts", "told", "last", "at", "place", "part"]) (sc := (defScope s__law_table_right)) (by decide +kernel)) (fun _ _ _ _ _ => gg_name sc__law_table_right.nd) (fun _ _ _ _ _ => gts_nil) (fun _ _ _ _ _ => ge_sl (ge_var) (gp_some (ge_bin op_mulA od_mul (ge_var) (ge_var))) (gp_some (ge_bin op_mulA od_mul (ge_var) (ge_bin op_addA od_add (ge_var) (ge_int)))))))) sc__law_table_right.nd) (gss_cons (gs_if (gt_cmp (op_neA hr.units) od_ne (ge_fz (go_lc (own := [("at", 11)]) rfl sc__law_table_right.nd (gi_range1 T.m_range (ga_cons (ge_var) (ga_nil))) (blkOk_by (N := ["box", "machine", "room", "many", "p", "blocks", "bits", "row", "parts", "told", "last", "at", "place", "part"]) (sc := (defScope s__law_table_right)) (by decide +kernel)) (fun _ _ _ _ _ => gg_name sc__law_table_right.nd) (fun _ _ _ _ _ => gts_nil) (fun _ _ _ _ _ => ge_cmp (op_eqA hr.units) od_eq (ge_cmp op_ltA od_lt (ge_ix (ge_var) (ge_var)) (ge_ix (ge_var) (ge_int))) (ge_cmp op_ltA od_lt (ge_ix (ge_var) (ge_var)) (ge_ix (ge_var) (ge_int)))))) (ge_bin op_mulA od_mul (ge_fz (go_lst (ga_cons (ge_bl) (ga_nil)))) (ge_var))) (gss_one (gs_ret (ge_bl))) (gss_nil)) (gss_cons (gs_if (gt_w (gw_and (gt_cmp (op_neA hr.units) od_ne (ge_call (G__law_bad_block T) (hr.mono (by decide)) T.g__law_bad_block T.F__law_bad_block.kp T.b__law_bad_block tk (ga_cons (ge_var) (ga_cons (ge_var) (ga_cons (ge_var) (ga_cons (ge_sl (ge_var) (gp_none) (gp_some (ge_neg (ge_int)))) (ga_nil)))))) (ge_bin op_sub od_sub (ge_var) (ge_int))) (gw_and1 (gt_cmp op_gt od_gt (ge_var) (ge_int))))) (gss_one (gs_ret (ge_bl))) (gss_nil)) (gss_cons (gs_set (gx_e (ge_bin op_addA od_add (ge_sl (ge_var) (gp_none) (gp_some (ge_neg (ge_int)))) (ge_ix (ge_str) (ge_bt call_intA cd_int T.m_int (ga_cons (ge_ix (ge_var) (ge_neg (ge_int))) (ga_nil)))))) sc__law_table_right.nd) (gss_cons (gs_if (gt_cmp (op_neA hr.units) od_ne (ge_call (G__law_leads T) (hr.mono (by decide)) T.g__law_leads T.F__law_leads.kp T.b__law_leads tk (ga_cons (ge_var) (ga_cons (ge_var) (ga_cons (ge_sl (ge_var) (gp_some (ge_bin op_mulA od_mul (ge_var) (ge_bin op_sub od_sub (ge_var) (ge_int)))) (gp_none)) (ga_nil))))) (ge_var)) (gss_one (gs_ret (ge_cmp (op_eqA hr.units) od_eq (ge_call (G__law_bad_block T) (hr.mono (by decide)) T.g__law_bad_block T.F__law_bad_block.kp T.b__law_bad_block tk (ga_cons (ge_var) (ga_cons (ge_var) (ga_cons (ge_var) (ga_cons (ge_var) (ga_nil)))))) (ge_bin op_sub od_sub (ge_var) (ge_int))))) (gss_nil)) (gss_one (gs_ret (ge_bl)))))))))))))⟩
theorem fNe_pbs {x : List Bool} {o : Option Nat} {P : D → Prop} (h : P (.bl true)) : True := trivial
def c__law_table_right : CtM := fun c0 ds P _ => ∃ (N : Nat) (M : Mc) (g n p : Nat), ds = [mD M, .int (g : Nat), .int (n : Nat), .int (p : Nat)] ∧ Box c0 N ∧ N ≤ 10000 ∧ M.Ok ∧ M.length ≤ 1000 ∧ g < M.length ∧ 0 < n ∧ n ≤ 400 ∧ 0 < tb M g n g ∧ p = (tb M g n g).log2 ∧ 0 < p ∧ p ≤ 1000 ∧ ∀ c' : C, Box c' (N + 4000) → P (.fz (.bl true)) c'
theorem write_parts {M : Mc} (ok : M.Ok) {g n p q : Nat} {l : List Bool} (hg : g < M.length) (hp0 : 0 < p) (hl : l.length = p * q) (hc : 2 ^ p ≤ tb M g n g) {i : Nat} (hi : i < q) :
    ∃ x w : List Bool, (partsM p l)[i]? = some x ∧ x = (l.drop (i * p)).take p ∧ x.length = p ∧ (writeM M g n p l)[i]? = some w ∧ w.length = n ∧ goM M g w = some g ∧ rkM M g g w = vlB x ∧ vlB x < 2 ^ p := by
  have hw := partsM_whole hp0 hl
  have h1 := partsM_get (c := p) (l := l) (i := i) (by omega)
  have hx : ((l.drop (i * p)).take p).length = p := by
    rw [List.length_take, List.length_drop, hl]
    have : p * (i + 1) ≤ p * q := Nat.mul_le_mul_left _ hi
    rw [Nat.mul_succ, Nat.mul_comm p i] at this
    omega
  have hv := vl_lt ((l.drop (i * p)).take p)
  rw [hx] at hv
  have ho := rowAt_ok ok g n g (vlB ((l.drop (i * p)).take p)) hg (by omega)
  exact ⟨_, _, h1, rfl, hx, by unfold writeM; rw [List.getElem?_map, h1]; rfl, rowAt_len _ _ _ _ _, ho.1, ho.2, hv⟩
theorem G__law_table_right (T : Tx K mg a) : FnOk P w K mg base (L2.CX P w) 9 a.f__law_table_right a.d__law_table_right ["box", "machine", "room", "many", "p"] (spM K c__law_table_right) :=
  fn_M T.F__law_table_right sc__law_table_right (by rintro c0 ds P PX ⟨n, m, _, _, _, rfl, _⟩; rfl) (bd__law_table_right T) fun pp c0 ds P PX h => by
  obtain ⟨N, M, g, n, p, rfl, hB, hN, ok, hM, hg, hn0, hn, hc, hpe, hp0, hp1, hp⟩ := h
  have hpow : 2 ^ p ≤ tb M g n g := by rw [hpe]; exact Nat.log2_self_le (by omega)
  unfold m__law_table_right
  walk_at "ev"
  refine ⟨wide_div (b := 10) (by omega) (by rw [Int.natAbs_natCast]; show n < 1024; omega) (by decide) (by decide), ?_⟩
  walk_at "ev"
  refine fMin_two ?_
  have e4 : (400 : Int) / (n : Nat) = ((400 / n : Nat) : Int) := by rw [Int.natCast_ediv]; rfl
  rw [e4]
  have q0 : 0 < 400 / n := Nat.div_pos hn hn0
  obtain ⟨f, hf, hf0, hf3⟩ : ∃ f : Nat, (if ((400 / n : Nat) : Int) < 3 then ((400 / n : Nat) : Int) else 3) = (f : Nat) ∧ 0 < f ∧ f ≤ 3 := by
    by_cases z : ((400 / n : Nat) : Int) < 3
    · exact ⟨400 / n, by rw [if_pos z], q0, by omega⟩
    · exact ⟨3, by rw [if_neg z]; rfl, by decide, by decide⟩
  rw [hf]
  walk_at "ev"
  refine ⟨N, f, rfl, hB, by omega, few hf0 (by omega), fun r c1 hr hB1 => ?_⟩
  walk_at "ev"
  obtain ⟨q, hq, hq0, hq3⟩ : ∃ q : Nat, (1 : Int) + (r : Nat) = (q : Nat) ∧ 0 < q ∧ q ≤ 3 := ⟨1 + r, rfl, by omega, by omega⟩
  rw [hq]
  clear hq hr hf hf0 hf3
  have hpq : p * q ≤ 3000 := Nat.mul_le_mul hp1 hq3
  have hnq : n * q ≤ 1200 := Nat.mul_le_mul hn hq3
  refine lc_inv (ds := rngD 0 1 (p * q)) (ρ1 := [.ow (some pp) c1, .fz (mD M), .fz (.int (g : Nat)), .fz (.int (n : Nat)), .fz (.int (p : Nat)), .fz (.int (q : Nat)), .un, .un, .un, .un, .un, .un, .un, .un]) (fun _ q' => by walk_at "ev"; refine fMul_small ⟨by omega, by omega⟩ ?_; walk_at "ev"; rw [← Int.natCast_mul]; exact ⟨⟨by omega, by omega⟩, q'⟩) (range_map (p * q) 0 1) (fun k acc ρ => ∃ (l : List Bool) (c' : C), acc = l.map sb ∧ l.length = k ∧ Box c' (N + 1 + k) ∧ ρ = [.ow (some pp) c', .fz (mD M), .fz (.int (g : Nat)), .fz (.int (n : Nat)), .fz (.int (p : Nat)), .fz (.int (q : Nat)), .un, .un, .un, .un, .un, .un, .un, .un]) ⟨[], c1, rfl, rfl, hB1, rfl⟩ (fun k x acc ρ hx hI => ?_) (fun acc ρ hI => ?_)
  · obtain ⟨rfl, hlt⟩ := range_get hx
    obtain ⟨l, c4, rfl, hl, hB4, rfl⟩ := hI
    walk_at "ev"
    refine ⟨fun _ => ?_, fun z => Bool.noConfusion z⟩
    walk_at "ev"
    refine ⟨N + 1 + x, 2, rfl, hB4, by omega, few (by decide) (by decide), fun r c5 hr hB5 => ?_⟩
    obtain ⟨b, eb⟩ := bit_of hr
    walk_at "ev"
    rw [eb]
    refine ix01 ?_
    walk_at "ev"
    exact ⟨sl_lt (by rw [List.length_map]; omega), l ++ [b], c5, by rw [List.map_append]; rfl, by simp [hl], hB5, rfl⟩
  obtain ⟨l, c2, rfl, hl, hB2, rfl⟩ := hI
  rw [List.length_range] at hl hB2
  walk_at "ev"
  refine fJoin_sb (by omega) ?_
  walk_at "ev"
  refine ⟨M, g, n, p, q, l, rfl, ok, hM, hg, by omega, hc, hpe, hp0, hp1, hl, by omega, by omega, ?_⟩
  -- what is written
  have hws : (writeM M g n p l).length = q := by rw [writeM, List.length_map, partsM_whole hp0 hl]
  have hwl : ∀ x ∈ writeM M g n p l, x.length = n := fun x hx => by obtain ⟨y, _, rfl⟩ := List.mem_map.mp hx; exact rowAt_len _ _ _ _ _
  have hrl : (writeM M g n p l).flatten.length = n * q := by rw [flat_len hwl, hws]
  have hrp : partsM n (writeM M g n p l).flatten = writeM M g n p l := parts_flat hn0 hwl
  have hgood : ∀ x ∈ writeM M g n p l, GoodB M g n p x := fun x hx => by
    obtain ⟨i, hi⟩ := List.mem_iff_getElem?.mp hx
    obtain ⟨y, w, _, _, _, h4, h5, h6, h7, h8⟩ := write_parts ok hg hp0 hl hpow (by rw [← hws]; exact get_lt hi)
    rw [hi] at h4
    cases h4
    exact ⟨h5, h6, by omega⟩
  have hback : ((writeM M g n p l).map fun x => bitsN (rkM M g g x) p).flatten = l := by
    have : ((writeM M g n p l).map fun x => bitsN (rkM M g g x) p) = partsM p l := by
      apply List.ext_getElem?
      intro i
      by_cases hi : i < q
      · obtain ⟨y, w, h1, _, h3, h4, h5, h6, h7, h8⟩ := write_parts ok hg hp0 hl hpow hi
        rw [List.getElem?_map, h4, h1]
        show some (bitsN (rkM M g g w) p) = some y
        rw [h7, ← h3, bitsN_vl]
      · rw [List.getElem?_eq_none (by rw [List.length_map, hws]; omega), List.getElem?_eq_none (by rw [partsM_whole hp0 hl]; omega)]
    rw [this, flat_partsM hp0 hl]
  have hcut : ∀ i, i < q → ∃ w, (writeM M g n p l)[i]? = some w ∧ ((writeM M g n p l).flatten.drop (n * i)).take n = w := fun i hi => by
    obtain ⟨w, hw⟩ : ∃ w, (writeM M g n p l)[i]? = some w := ⟨_, List.getElem?_eq_getElem (by omega)⟩
    exact ⟨w, hw, by rw [Nat.mul_comm]; exact flat_get hwl hw⟩
  generalize hws0 : writeM M g n p l = ws at hws hwl hrl hrp hgood hback hcut
  generalize hrow : ws.flatten = row at hrl hrp hcut
  walk_at "ev"
  refine fLen_bs (by omega) ?_
  walk_at "ev"
  refine fMul_small ⟨by omega, by omega⟩ ?_
  walk_at "ev"
  refine ⟨fun z => ?_, fun _ => ?_⟩
  · exfalso
    rw [hrl, Int.natCast_mul] at z
    simp at z
  walk_at "ev"
  refine ⟨M, g, n, p, row, rfl, ok, hM, hg, hn0, by omega, hc, hpe, hp1, by omega, fun _ => ?_, fun i x h1 h2 h3 => ?_⟩
  rotate_left
  · exfalso
    rw [hrp] at h1
    exact h3 (hgood x (List.mem_of_getElem? h1))
  rw [hrp, hback]
  walk_at "ev"
  refine fNe_bs ?_
  rw [decide_eq_true rfl]
  walk_at "ev"
  refine ⟨fun z => Bool.noConfusion z, fun _ => ?_⟩
  walk_at "ev"
  -- parts
  refine lc_run (ds := rngD 0 1 q) (ρ1 := [.ow (some pp) c2, .fz (mD M), .fz (.int (g : Nat)), .fz (.int (n : Nat)), .fz (.int (p : Nat)), .fz (.int (q : Nat)), .fz (.str (bs l)), .fz (.str (bs row)), .un, .un, .un, .un, .un, .un]) (fun _ q' => by walk_at "ev"; exact ⟨⟨by omega, by omega⟩, q'⟩) (range_map q 0 1) (fun k => ((List.range q).take k).map fun i => D.str (bs ((row.drop (n * i)).take n))) (fun _ => [.ow (some pp) c2, .fz (mD M), .fz (.int (g : Nat)), .fz (.int (n : Nat)), .fz (.int (p : Nat)), .fz (.int (q : Nat)), .fz (.str (bs l)), .fz (.str (bs row)), .un, .un, .un, .un, .un, .un]) ⟨rfl, rfl⟩ (fun k i hk => ?_) ?_
  · obtain ⟨rfl, hlt⟩ := range_get hk
    have ex : (0 : Int) + (i : Nat) * 1 = (i : Nat) := by omega
    rw [ex]
    walk_at "ev"
    refine ⟨fun _ => ?_, fun z => Bool.noConfusion z⟩
    walk_at "ev"
    refine fMul_small ⟨by omega, by omega⟩ ?_
    walk_at "ev"
    refine fMul_small ⟨by omega, by omega⟩ ?_
    walk_at "ev"
    refine fSl_bs (by omega) ?_
    have e1 : ((n : Nat) : Int) * ((i : Nat) + 1) = ((n * (i + 1) : Nat) : Int) := by rw [Int.natCast_mul]; rfl
    rw [e1, ← Int.natCast_mul, cutD_mid, show n * (i + 1) - n * i = n by rw [Nat.mul_succ]; omega]
    have := acc_map (F := fun i => D.str (bs ((row.drop (n * i)).take n))) hk rfl (by rw [List.length_range]; omega)
    exact ⟨this.1, this.2, rfl⟩
  rw [List.take_length]
  have epa : ((List.range q).map fun i => D.str (bs ((row.drop (n * i)).take n))) = ws.map fun x => D.str (bs x) := by
    apply List.ext_getElem?
    intro i
    rw [List.getElem?_map, List.getElem?_map]
    by_cases hi : i < q
    · obtain ⟨w, h1, h2⟩ := hcut i hi
      rw [List.getElem?_range hi, h1]
      show some (D.str (bs ((row.drop (n * i)).take n))) = _
      rw [h2]; rfl
    · rw [List.getElem?_eq_none (by simp; omega), List.getElem?_eq_none (by omega)]; rfl
  rw [epa]
  walk_at "ev"
  -- each leads to the room again
  refine lc_run (fun _ q' => by walk_at "ev"; exact q') (xs := ws) (f := fun x => D.str (bs x)) rfl (fun k => (ws.take k).map fun _ => D.bl false) (fun _ => [.ow (some pp) c2, .fz (mD M), .fz (.int (g : Nat)), .fz (.int (n : Nat)), .fz (.int (p : Nat)), .fz (.int (q : Nat)), .fz (.str (bs l)), .fz (.str (bs row)), .fz (.lst (ws.map fun x => D.str (bs x))), .un, .un, .un, .un, .un]) ⟨rfl, rfl⟩ (fun k x hk => ?_) ?_
  · walk_at "ev"
    refine ⟨fun _ => ?_, fun z => Bool.noConfusion z⟩
    have hx := hgood x (List.mem_of_getElem? hk)
    walk_at "ev"
    refine ⟨M, g, x, rfl, ok, hg, by rw [hx.1]; omega, ?_⟩
    rw [hx.2.1]
    walk_at "ev"
    refine fNe_o ?_
    rw [decide_eq_true rfl]
    have := acc_map (F := fun _ : List Bool => D.bl false) hk rfl (by omega)
    exact ⟨this.1, this.2, rfl⟩
  rw [List.take_length]
  walk_at "ev"
  refine ⟨ws.map fun _ => false, by rw [show (ws.map fun _ => D.bl false) = (ws.map fun _ => false).map D.bl by rw [List.map_map]; rfl, blsOf_map], ?_⟩
  walk_at "ev"
  refine ⟨fun z => ?_, fun _ => ?_⟩
  · exfalso
    rw [List.any_map] at z
    simp at z
  walk_at "ev"
  -- the bits' parts
  refine lc_run (ds := rngD 0 1 q) (ρ1 := [.ow (some pp) c2, .fz (mD M), .fz (.int (g : Nat)), .fz (.int (n : Nat)), .fz (.int (p : Nat)), .fz (.int (q : Nat)), .fz (.str (bs l)), .fz (.str (bs row)), .fz (.lst (ws.map fun x => D.str (bs x))), .un, .un, .un, .un, .un]) (fun _ q' => by walk_at "ev"; exact ⟨⟨by omega, by omega⟩, q'⟩) (range_map q 0 1) (fun k => ((List.range q).take k).map fun i => D.str (bs ((l.drop (i * p)).take p))) (fun _ => [.ow (some pp) c2, .fz (mD M), .fz (.int (g : Nat)), .fz (.int (n : Nat)), .fz (.int (p : Nat)), .fz (.int (q : Nat)), .fz (.str (bs l)), .fz (.str (bs row)), .fz (.lst (ws.map fun x => D.str (bs x))), .un, .un, .un, .un, .un]) ⟨rfl, rfl⟩ (fun k i hk => ?_) ?_
  · obtain ⟨rfl, hlt⟩ := range_get hk
    have ex : (0 : Int) + (i : Nat) * 1 = (i : Nat) := by omega
    rw [ex]
    walk_at "ev"
    refine ⟨fun _ => ?_, fun z => Bool.noConfusion z⟩
    walk_at "ev"
    refine fMul_small ⟨by omega, by omega⟩ ?_
    walk_at "ev"
    refine fMul_small ⟨by omega, by omega⟩ ?_
    walk_at "ev"
    refine fSl_bs (by omega) ?_
    have e1 : ((p : Nat) : Int) * ((i : Nat) + 1) = ((p * (i + 1) : Nat) : Int) := by rw [Int.natCast_mul]; rfl
    rw [e1, ← Int.natCast_mul, cutD_mid, show p * (i + 1) - p * i = p by rw [Nat.mul_succ]; omega, Nat.mul_comm p i]
    have := acc_map (F := fun i => D.str (bs ((l.drop (i * p)).take p))) hk rfl (by rw [List.length_range]; omega)
    exact ⟨this.1, this.2, rfl⟩
  rw [List.take_length]
  have epb : ((List.range q).map fun i => D.str (bs ((l.drop (i * p)).take p))) = (partsM p l).map fun x => D.str (bs x) := by
    have hq := partsM_whole hp0 hl
    rw [partsM_len] at hq
    rw [partsM, hq, List.map_map]; rfl
  rw [epb]
  walk_at "ev"
  -- in order
  have wp : ∀ {i : Nat}, i < q → ∃ x w : List Bool, (partsM p l)[i]? = some x ∧ x.length = p ∧ ws[i]? = some w ∧ w.length = n ∧ goM M g w = some g ∧ rkM M g g w = vlB x := fun {i} hi => by
    obtain ⟨x, w, h1, _, h3, h4, h5, h6, h7, _⟩ := write_parts ok hg hp0 hl hpow hi
    exact ⟨x, w, h1, h3, by rw [← hws0]; exact h4, h5, h6, h7⟩
  obtain ⟨x0, w0, hx0, hxl0, hw0, hwl0, hwg0, hwr0⟩ := wp hq0
  refine lc_run (ds := rngD 0 1 q) (ρ1 := [.ow (some pp) c2, .fz (mD M), .fz (.int (g : Nat)), .fz (.int (n : Nat)), .fz (.int (p : Nat)), .fz (.int (q : Nat)), .fz (.str (bs l)), .fz (.str (bs row)), .fz (.lst (ws.map fun x => D.str (bs x))), .fz (.lst ((partsM p l).map fun x => D.str (bs x))), .un, .un, .un, .un]) (fun _ q' => by walk_at "ev"; exact ⟨⟨by omega, by omega⟩, q'⟩) (range_map q 0 1) (fun k => List.replicate k (D.bl true)) (fun _ => [.ow (some pp) c2, .fz (mD M), .fz (.int (g : Nat)), .fz (.int (n : Nat)), .fz (.int (p : Nat)), .fz (.int (q : Nat)), .fz (.str (bs l)), .fz (.str (bs row)), .fz (.lst (ws.map fun x => D.str (bs x))), .fz (.lst ((partsM p l).map fun x => D.str (bs x))), .un, .un, .un, .un]) ⟨rfl, rfl⟩ (fun k i hk => ?_) ?_
  · obtain ⟨rfl, hlt⟩ := range_get hk
    have ex : (0 : Int) + (i : Nat) * 1 = (i : Nat) := by omega
    rw [ex]
    obtain ⟨x, w, hx, hxl, hw, hwl', hwg, hwr⟩ := wp hlt
    walk_at "ev"
    refine ⟨fun _ => ?_, fun z => Bool.noConfusion z⟩
    walk_at "ev"
    refine fIx_lst (by rw [List.getElem?_map, hw]; rfl) ?_
    refine fIx_lst (k := 0) (by rw [List.getElem?_map, hw0]; rfl) ?_
    refine fLt_bs (by omega) ?_
    walk_at "ev"
    refine fIx_lst (by rw [List.getElem?_map, hx]; rfl) ?_
    refine fIx_lst (k := 0) (by rw [List.getElem?_map, hx0]; rfl) ?_
    refine fLt_bs (by omega) ?_
    walk_at "ev"
    have e : ltB w w0 = ltB x x0 := by
      rw [Bool.eq_iff_iff, rk_lt_of ok g w w0 g hg (by omega) hwg hwg0, ltB_vl x x0 (by omega), hwr, hwr0]
    rw [e, decide_eq_true rfl]
    refine ⟨sl_lt (by rw [List.length_replicate]; omega), ?_, rfl⟩
    show List.replicate i (D.bl true) ++ [D.bl true] = List.replicate (i + 1) (D.bl true)
    rw [List.replicate_succ']
  rw [List.length_range]
  walk_at "ev"
  refine ⟨by decide, ?_⟩
  walk_at "ev"
  refine ⟨by omega, by omega, ?_, ?_⟩
  · rw [Int.toNat_natCast, List.length_singleton, Nat.one_mul]; exact sl_le (by omega)
  rw [Int.toNat_natCast, rep_bl]
  have hsh : Shp 2 (.lst (List.replicate q (D.bl true))) := .lst fun d hd => by rw [(List.mem_replicate.mp hd).2]; exact .bl _
  refine fNe_same hsh (by decide) ?_
  walk_at "ev"
  refine ⟨fun z => Bool.noConfusion z, fun _ => ?_⟩
  walk_at "ev"
  -- a row of a bit less
  have hrow0 : 0 < row.length := by rw [hrl]; exact Nat.mul_pos hn0 hq0
  have hlast : ∃ w, ws[q - 1]? = some w ∧ w.length = n ∧ goM M g w = some g ∧ ∀ v, partsM n (row.take (row.length - 1) ++ v) = partsM n (row.take (row.length - 1) ++ v) := by
    obtain ⟨_, w, _, _, h4, h5, h6, _⟩ := wp (i := q - 1) (by omega)
    exact ⟨w, h4, h5, h6, fun _ => rfl⟩
  obtain ⟨wl, hwl1, hwl2, hwl3, _⟩ := hlast
  have hfirst : ∀ j, j < q - 1 → ∀ v : List Bool, n * (q - 1) ≤ v.length → v.take (n * (q - 1)) = row.take (n * (q - 1)) → (v.drop (j * n)).take n = (row.drop (n * j)).take n := fun j hj v hv he => by
    have hle : j * n + n ≤ n * (q - 1) := by
      have : n * (j + 1) ≤ n * (q - 1) := Nat.mul_le_mul_left _ (by omega)
      rw [Nat.mul_succ, Nat.mul_comm n j] at this
      exact this
    have key : ∀ u : List Bool, (u.drop (j * n)).take n = ((u.take (n * (q - 1))).drop (j * n)).take n := fun u => by
      rw [List.drop_take, List.take_take, Nat.min_eq_left (by omega)]
    rw [key v, he, Nat.mul_comm n j, ← key row]
  have hnq1 : n * (q - 1) + n = n * q := by
    rw [← Nat.mul_succ]; congr 1; omega
  -- of rows that are as this one ahead of the last block
  have hbad : ∀ (v : List Bool) (P : D → Prop), (partsM n v).length = q → v.take (n * (q - 1)) = row.take (n * (q - 1)) → n * (q - 1) ≤ v.length → ¬ GoodB M g n p (v.drop (n * (q - 1)) |>.take n) → P (.int ((q - 1 : Nat) : Int)) →
      ((∀ x ∈ partsM n v, GoodB M g n p x) → P .non) ∧ (∀ i x, (partsM n v)[i]? = some x → (∀ j y, j < i → (partsM n v)[j]? = some y → GoodB M g n p y) → ¬ GoodB M g n p x → P (.int (i : Nat))) := fun v P hv1 hv2 hv3 hv4 hP => by
    have g1 : ∀ i x, (partsM n v)[i]? = some x → i < q - 1 → GoodB M g n p x := fun i x hx hi => by
      have := partsM_get (get_lt hx)
      rw [hx, hfirst i hi v hv3 hv2] at this
      obtain ⟨w, h1, h2⟩ := hcut i (by omega)
      rw [h2] at this
      rw [Option.some.inj this]
      exact hgood w (List.mem_of_getElem? h1)
    have g2 : (partsM n v)[q - 1]? = some ((v.drop (n * (q - 1))).take n) := by
      have := partsM_get (c := n) (l := v) (i := q - 1) (by omega)
      rw [this, Nat.mul_comm]
    refine ⟨fun h => absurd (h _ (List.mem_of_getElem? g2)) hv4, fun i x h1 h2 h3 => ?_⟩
    have hi := get_lt h1
    rcases Nat.lt_or_ge i (q - 1) with z | z
    · exact absurd (g1 i x h1 z) h3
    · have : i = q - 1 := by omega
      rw [this]; exact hP
  have eq1 : ((q : Nat) : Int) - 1 = ((q - 1 : Nat) : Int) := by omega
  have fin : ∀ PD : PEnds, (∀ ρ, PD.rt (.fz (.bl true)) ρ ↔ ∃ c', ρ[0]? = some (.ow (some pp) c') ∧ P (.fz (.bl true)) c') → mSeq (mSet 10 (mXe (mBin fAdd (mSl (mVar 7) (mNoP) (mSoP (mNeg (mC (.int 1))))) (mBin fIx (mC (.str "10")) (mBf fInt (mCons (mBin fIx (mVar 7) (mNeg (mC (.int 1)))) (mNil))))))) (mSeq (mIfS (mTst (mBin fNe (mCall c__law_leads (mCons (mVar 1) (mCons (mVar 2) (mCons (mSl (mVar 10) (mSoP (mBin fMul (mVar 3) (mBin fSub (mVar 5) (mC (.int 1))))) (mNoP)) (mNil))))) (mVar 2))) (mRet (mBin fEq (mCall c__law_bad_block (mCons (mVar 1) (mCons (mVar 2) (mCons (mVar 3) (mCons (mVar 10) (mNil)))))) (mBin fSub (mVar 5) (mC (.int 1))))) (mNx)) (mRet (mC (.bl true)))) PD
      [.ow (some pp) c2, .fz (mD M), .fz (.int (g : Nat)), .fz (.int (n : Nat)), .fz (.int (p : Nat)), .fz (.int (q : Nat)), .fz (.str (bs l)), .fz (.str (bs row)), .fz (.lst (ws.map fun x => D.str (bs x))), .fz (.lst ((partsM p l).map fun x => D.str (bs x))), .un, .un, .un, .un] := fun PD hPD => by
    walk_at "ev"
    refine fSl_bs (by omega) ?_
    rw [cutD_but _ hrow0]
    walk_at "ev"
    obtain ⟨b, hb⟩ : ∃ b, row = row.take (row.length - 1) ++ [b] := by
      obtain ⟨b, hb⟩ : ∃ b, row[row.length - 1]? = some b := ⟨_, List.getElem?_eq_getElem (by omega)⟩
      refine ⟨b, ?_⟩
      have := take_snoc hb
      rwa [show row.length - 1 + 1 = row.length by omega, List.take_length] at this
    refine fIx_last hb (by omega) ?_
    walk_at "ev"
    refine fInt_sb ?_
    walk_at "ev"
    refine ix10 ?_
    walk_at "ev"
    have htl : (row.take (row.length - 1)).length = row.length - 1 := by rw [List.length_take]; omega
    refine fAdd_bs (b := [!b]) (by rw [htl, List.length_singleton]; omega) ?_
    generalize hv : row.take (row.length - 1) ++ [!b] = v
    have hvl : v.length = n * q := by rw [← hv, List.length_append, htl, List.length_singleton]; omega
    have hvt : v.take (n * (q - 1)) = row.take (n * (q - 1)) := by
      rw [← hv, List.take_append_of_le_length (by omega), List.take_take, Nat.min_eq_left (by omega)]
    have hvw : (partsM n v).length = q := partsM_whole hn0 hvl
    walk_at "ev"
    rw [eq1]
    refine fMul_small ⟨by omega, by omega⟩ ?_
    rw [← Int.natCast_mul]
    walk_at "ev"
    refine fSl_bs (by omega) ?_
    rw [cutD_from]
    walk_at "ev"
    refine ⟨M, g, v.drop (n * (q - 1)), rfl, ok, hg, by rw [List.length_drop]; omega, ?_⟩
    walk_at "ev"
    refine fNe_o ?_
    walk_at "ev"
    have hrt : ∀ (c' : C) (z : List S), z[0]? = some (.ow (some pp) c') → Box c' (N + 4000) → PD.rt (.fz (.bl true)) z := fun c' z h1 h2 => (hPD z).mpr ⟨c', h1, hp c' h2⟩
    refine ⟨fun z => ?_, fun _ => ?_⟩
    · have z : goM M g (v.drop (n * (q - 1))) ≠ some g := by simpa using z
      have hlen : (v.drop (n * (q - 1))).take n = v.drop (n * (q - 1)) := List.take_of_length_le (by rw [List.length_drop]; omega)
      have hbb := hbad v (fun d => fEq d (.int ((q - 1 : Nat) : Int)) fun z => PD.rt (.fz z) [.ow (some pp) c2, .fz (mD M), .fz (.int (g : Nat)), .fz (.int (n : Nat)), .fz (.int (p : Nat)), .fz (.int (q : Nat)), .fz (.str (bs l)), .fz (.str (bs row)), .fz (.lst (ws.map fun x => D.str (bs x))), .fz (.lst ((partsM p l).map fun x => D.str (bs x))), .fz (.str (bs v)), .un, .un, .un]) hvw hvt (by omega) (by rw [hlen]; exact fun y => z y.2.1) (by
          show PD.rt (.fz (.bl (decide (((q - 1 : Nat) : Int) = ((q - 1 : Nat) : Int))))) _
          rw [decide_eq_true rfl]
          exact hrt c2 _ rfl (hB2.mono (by omega)))
      walk_at "ev"
      refine ⟨M, g, n, p, v, rfl, ok, hM, hg, hn0, by omega, hc, hpe, hp1, by omega, fun h => ?_, fun i x h1 h2 h3 => ?_⟩
      · walk_at "ev"
        exact hbb.1 h
      · walk_at "ev"
        exact hbb.2 i x h1 h2 h3
    · walk_at "ev"
      exact hrt c2 _ rfl (hB2.mono (by omega))
  refine fSl_bs (by omega) ?_
  rw [cutD_but _ hrow0]
  walk_at "ev"
  have htl : (row.take (row.length - 1)).length = row.length - 1 := by rw [List.length_take]; omega
  -- whatever is told of it
  have step : ∀ (d : D), (1 < n → d = .int ((q - 1 : Nat) : Int)) → (d = .non ∨ ∃ i : Nat, d = .int (i : Nat)) → ∀ Q : D → Prop, (1 < n → Q (.bl false)) → (¬ 1 < n → ∀ b, Q (.bl b)) → fNe d (.int ((q - 1 : Nat) : Int)) Q := fun d h1 h2 Q h3 h4 => by
    by_cases hn1 : 1 < n
    · rw [h1 hn1]
      show Q (.bl (!decide (_ = _)))
      rw [decide_eq_true rfl]
      exact h3 hn1
    · rcases h2 with rfl | ⟨i, rfl⟩
      · exact ⟨by decide, (Shp.int _).ok (by decide), h4 hn1 _⟩
      · exact h4 hn1 _
  have two : ∀ (d : D), (1 < n → d = .int ((q - 1 : Nat) : Int)) → (d = .non ∨ ∃ i : Nat, d = .int (i : Nat)) → True := fun _ _ _ => trivial
  have hshort : 1 < n → (partsM n (row.take (row.length - 1))).length = q := fun h1 => by
    rw [partsM_len, htl, hrl, show n * q - 1 + n - 1 = (n - 2) + n * q by omega, Nat.add_mul_div_left _ _ hn0, Nat.div_eq_of_lt (by omega), Nat.zero_add]
  have htt : (row.take (row.length - 1)).take (n * (q - 1)) = row.take (n * (q - 1)) := by rw [List.take_take, Nat.min_eq_left (by omega)]
  have hng : ¬ GoodB M g n p (((row.take (row.length - 1)).drop (n * (q - 1))).take n) := fun y => by
    have := y.1
    rw [List.length_take, List.length_drop, htl] at this
    omega
  refine ⟨M, g, n, p, row.take (row.length - 1), rfl, ok, hM, hg, hn0, by omega, hc, hpe, hp1, by omega, fun h => ?_, fun i x h1 h2 h3 => ?_⟩
  · walk_at "ev"
    rw [eq1]
    refine step _ (fun h1 => (hbad _ (fun d => d = .int ((q - 1 : Nat) : Int)) (hshort h1) htt (by omega) hng rfl).1 h) (.inl rfl) _ (fun h1 => ?_) (fun h1 b => ?_)
    · walk_at "ev"
      refine ⟨fun z => Bool.noConfusion z, fun _ => ?_⟩
      refine ⟨fun z => Bool.noConfusion z, fun _ => ?_⟩
      exact nxt_go (fin _ fun ρ => Iff.rfl)
    · walk_at "ev"
      refine ⟨fun _ => ?_, fun _ => ⟨fun z => Bool.noConfusion z, fun _ => nxt_go (fin _ fun ρ => Iff.rfl)⟩⟩
      walk_at "ev"
      refine ⟨fun z => ?_, fun _ => nxt_go (fin _ fun ρ => Iff.rfl)⟩
      exfalso
      rw [decide_eq_false (by omega)] at z
      cases z
  · walk_at "ev"
    rw [eq1]
    refine ⟨fun z => ⟨fun w => ?_, fun _ => nxt_go (fin _ fun ρ => Iff.rfl)⟩, fun _ => ⟨fun z => Bool.noConfusion z, fun _ => nxt_go (fin _ fun ρ => Iff.rfl)⟩⟩
    exfalso
    have w := of_decide_eq_true w
    have := (hbad _ (fun d => d = .int ((q - 1 : Nat) : Int)) (hshort (by omega)) htt (by omega) hng rfl).2 i x h1 h2 h3
    have e : ((i : Nat) : Int) = ((q - 1 : Nat) : Int) := by injection this
    rw [e] at z
    simp at z

def m__law_least_right : MS := mSeq (mSet 5 (mXe (mCallM c__law_take 0 (mCons (mVar 4) (mNil))))) (mSeq (mSet 6 (mXe (mIf (mTst (mBin fGe (mBin fIx (mVar 3) (mC (.int 400))) (mBin fShl (mC (.int 1)) (mVar 5)))) (mC (.int 400)) (mC (.int 100))))) (mSeq (mSet 7 (mXe (mSl (mFz (mLc (iR2 (mCons (mC (.int 1)) (mCons (mBin fAdd (mVar 6) (mC (.int 1))) (mNil)))) (gN 11) (mTst (mBin fGe (mBin fIx (mVar 3) (mVar 11)) (mBin fShl (mC (.int 1)) (mVar 5)))) (mVar 11) [11])) (mNoP) (mSoP (mC (.int 1)))))) (mSeq (mSet 8 (mXe (mCall c_least_many (mCons (mVar 1) (mCons (mVar 2) (mCons (mVar 5) (mCons (mVar 6) (mNil)))))))) (mSeq (mIfS (mTst (mBin fEq (mVar 7) (mFz (mLst (mNil))))) (mRet (mBin fIs (mVar 8) (mC .non))) (mNx)) (mSeq (mIfS (mOrT (mTst (mBin fNe (mVar 8) (mTup (mCons (mBin fIx (mVar 7) (mC (.int 0))) (mCons (mSl (mVar 3) (mSoP (mC (.int 1))) (mSoP (mBin fAdd (mBin fIx (mVar 7) (mC (.int 0))) (mC (.int 1))))) (mNil)))))) (mNotT (mTst (mIsi "list" (mBin fIx (mVar 8) (mC (.int 1))))))) (mRet (mC (.bl false))) (mNx)) (mSeq (mIfS (mTst (mBin fIsNot (mCall c_shows_least_many (mCons (mVar 1) (mCons (mVar 2) (mCons (mVar 5) (mCons (mBin fIx (mVar 8) (mC (.int 0))) (mCons (mBin fIx (mVar 8) (mC (.int 1))) (mNil))))))) (mC (.bl true)))) (mRet (mC (.bl false))) (mNx)) (mSeq (mSet 9 (mXe (mCallM c__law_take 0 (mCons (mBin fIx (mVar 7) (mC (.int 0))) (mNil))))) (mSeq (mSet 10 (mXe (mBin fAdd (mBin fAdd (mSl (mBin fIx (mVar 8) (mC (.int 1))) (mNoP) (mSoP (mVar 9))) (mFz (mLst (mCons (mBin fAdd (mBin fIx (mBin fIx (mVar 8) (mC (.int 1))) (mVar 9)) (mC (.int 1))) (mNil))))) (mSl (mBin fIx (mVar 8) (mC (.int 1))) (mSoP (mBin fAdd (mVar 9) (mC (.int 1)))) (mNoP))))) (mSeq (mIfS (mTst (mBin fIsNot (mCall c_shows_least_many (mCons (mVar 1) (mCons (mVar 2) (mCons (mVar 5) (mCons (mBin fIx (mVar 8) (mC (.int 0))) (mCons (mVar 10) (mNil))))))) (mC (.bl false)))) (mRet (mC (.bl false))) (mNx)) (mRet (mBin fIs (mCall c_shows_least_many (mCons (mVar 1) (mCons (mVar 2) (mCons (mVar 5) (mCons (mBin fSub (mBin fIx (mVar 8) (mC (.int 0))) (mC (.int 1))) (mCons (mSl (mBin fIx (mVar 8) (mC (.int 1))) (mNoP) (mSoP (mNeg (mC (.int 1))))) (mNil))))))) (mC (.bl false)))))))))))))
theorem bd__law_least_right (T : Tx K mg a) : Bd P w K mg base 6 ["box", "machine", "room", "seen", "further", "p", "most", "due", "got", "at", "other", "many"] s__law_least_right m__law_least_right := ⟨fun qual f cdv A outer s H E hr tk pw =>
  gss_cons (gs_set (gx_e (ge_callM (G__law_take T) (hr.mono (by decide)) T.g__law_take T.F__law_take.kp T.b__law_take tk (ga_cons (ge_var) (ga_nil)))) sc__law_least_right.nd) (gss_cons (gs_set (gx_e (ge_if (gt_cmp op_ge od_ge (ge_ix (ge_var) (ge_int)) (ge_bin op_shlW od_shl (ge_int) (ge_var))) (ge_int) (ge_int))) sc__law_least_right.nd) (gss_cons (gs_set (gx_e (ge_sl (ge_fz (go_lc (own := [("many", 11)]) rfl sc__law_least_right.nd (gi_range2 T.m_range (ga_cons (ge_int) (ga_cons (ge_bin op_addA od_add (ge_var) (ge_int)) (ga_nil)))) (blkOk_by (N := ["box", "machine", "room", "seen", "further", "p", "most", "due", "got", "at", "other", "many"]) (sc := (defScope s__law_least_right)) (by decide +kernel)) (fun _ _ _ _ _ => gg_name sc__law_least_right.nd) (fun _ _ _ _ _ => gts_one (gt_cmp op_ge od_ge (ge_ix (ge_var) (ge_var)) (ge_bin op_shlW od_shl (ge_int) (ge_var)))) (fun _ _ _ _ _ => ge_var))) (gp_none) (gp_some (ge_int)))) sc__law_least_right.nd) (gss_cons (gs_set (gx_e (ge_call (G_least_many T) (hr.mono (by decide)) T.g_least_many T.F_least_many.kp T.b_least_many tk (ga_cons (ge_var) (ga_cons (ge_var) (ga_cons (ge_var) (ga_cons (ge_var) (ga_nil))))))) sc__law_least_right.nd) (gss_cons (gs_if (gt_cmp (op_eqA hr.units) od_eq (ge_var) (ge_fz (go_lst (ga_nil)))) (gss_one (gs_ret (ge_cmp op_isA od_is (ge_var) (ge_non)))) (gss_nil)) (gss_cons (gs_if (gt_w (gw_or (gt_cmp (op_neA hr.units) od_ne (ge_var) (ge_tup (ga_cons (ge_ix (ge_var) (ge_int)) (ga_cons (ge_sl (ge_var) (gp_some (ge_int)) (gp_some (ge_bin op_addA od_add (ge_ix (ge_var) (ge_int)) (ge_int)))) (ga_nil))))) (gw_or1 (gt_not (gt_val (ge_isi T.m_isinstance T.m_list (ge_ix (ge_var) (ge_int)))))))) (gss_one (gs_ret (ge_bl))) (gss_nil)) (gss_cons (gs_if (gt_cmp op_isNotA od_isnot (ge_call (G_shows_least_many T) (hr.mono (by decide)) T.g_shows_least_many T.F_shows_least_many.kp T.b_shows_least_many tk (ga_cons (ge_var) (ga_cons (ge_var) (ga_cons (ge_var) (ga_cons (ge_ix (ge_var) (ge_int)) (ga_cons (ge_ix (ge_var) (ge_int)) (ga_nil))))))) (ge_bl)) (gss_one (gs_ret (ge_bl))) (gss_nil)) (gss_cons (gs_set (gx_e (ge_callM (G__law_take T) (hr.mono (by decide)) T.g__law_take T.F__law_take.kp T.b__law_take tk (ga_cons (ge_ix (ge_var) (ge_int)) (ga_nil)))) sc__law_least_right.nd) (gss_cons (gs_set (gx_e (ge_bin op_addA od_add (ge_bin op_addA od_add (ge_sl (ge_ix (ge_var) (ge_int)) (gp_none) (gp_some (ge_var))) (ge_fz (go_lst (ga_cons (ge_bin op_addA od_add (ge_ix (ge_ix (ge_var) (ge_int)) (ge_var)) (ge_int)) (ga_nil))))) (ge_sl (ge_ix (ge_var) (ge_int)) (gp_some (ge_bin op_addA od_add (ge_var) (ge_int))) (gp_none)))) sc__law_least_right.nd) (gss_cons (gs_if (gt_cmp op_isNotA od_isnot (ge_call (G_shows_least_many T) (hr.mono (by decide)) T.g_shows_least_many T.F_shows_least_many.kp T.b_shows_least_many tk (ga_cons (ge_var) (ga_cons (ge_var) (ga_cons (ge_var) (ga_cons (ge_ix (ge_var) (ge_int)) (ga_cons (ge_var) (ga_nil))))))) (ge_bl)) (gss_one (gs_ret (ge_bl))) (gss_nil)) (gss_one (gs_ret (ge_cmp op_isA od_is (ge_call (G_shows_least_many T) (hr.mono (by decide)) T.g_shows_least_many T.F_shows_least_many.kp T.b_shows_least_many tk (ga_cons (ge_var) (ga_cons (ge_var) (ga_cons (ge_var) (ga_cons (ge_bin op_sub od_sub (ge_ix (ge_var) (ge_int)) (ge_int)) (ga_cons (ge_sl (ge_ix (ge_var) (ge_int)) (gp_none) (gp_some (ge_neg (ge_int)))) (ga_nil))))))) (ge_bl)))))))))))))⟩
/-- the lengths of which there are so many rounds -/
def lensR (M : Mc) (g p k : Nat) : List Nat := ((List.range k).map (· + 1)).filter fun j => decide (2 ^ p ≤ cntR M g j)
theorem lensR_succ (M : Mc) (g p k : Nat) : lensR M g p (k + 1) = lensR M g p k ++ (if 2 ^ p ≤ cntR M g (k + 1) then [k + 1] else []) := by
  unfold lensR
  rw [List.range_succ, List.map_append, List.filter_append]
  congr 1
  show [k + 1].filter _ = _
  by_cases h : 2 ^ p ≤ cntR M g (k + 1)
  · rw [if_pos h, List.filter_cons, if_pos (by simpa using h)]; rfl
  · rw [if_neg h, List.filter_cons, if_neg (by simpa using h)]; rfl
theorem lensR_len (M : Mc) (g p k : Nat) : (lensR M g p k).length ≤ k := Nat.le_trans (List.length_filter_le _ _) (by simp)
theorem lensR_nil {M : Mc} {g p : Nat} : ∀ {k : Nat}, lensR M g p k = [] → ∀ j, 1 ≤ j → j ≤ k → cntR M g j < 2 ^ p
  | 0, _, j, a, b => by omega
  | k + 1, h, j, a, b => by
    rw [lensR_succ] at h
    have h := List.append_eq_nil_iff.mp h
    rcases Nat.lt_or_ge j (k + 1) with z | z
    · exact lensR_nil h.1 j a (by omega)
    · have : j = k + 1 := by omega
      subst this
      have h2 := h.2
      split at h2
      · cases h2
      · omega
theorem lensR_cons {M : Mc} {g p : Nat} : ∀ {k d : Nat} {r : List Nat}, lensR M g p k = d :: r → 1 ≤ d ∧ d ≤ k ∧ 2 ^ p ≤ cntR M g d ∧ ∀ j, 1 ≤ j → j < d → cntR M g j < 2 ^ p
  | 0, d, r, h => by cases h
  | k + 1, d, r, h => by
    rw [lensR_succ] at h
    cases hk : lensR M g p k with
    | nil =>
      rw [hk, List.nil_append] at h
      split at h
      · rename_i hc
        have e : k + 1 = d := by
          injection h
        subst e
        exact ⟨by omega, Nat.le_refl _, hc, fun j a b => lensR_nil hk j a (by omega)⟩
      · cases h
    | cons u v =>
      rw [hk] at h
      have e : u = d := by
        injection h
      subst e
      obtain ⟨h1, h2, h3, h4⟩ := lensR_cons hk
      exact ⟨h1, by omega, h3, h4⟩
theorem fIsNot_bl {a b : Bool} {P : D → Prop} (h : P (.bl (!decide (a = b)))) : fIsNot (.bl a) (.bl b) P := h
theorem fIs_bl {a b : Bool} {P : D → Prop} (h : P (.bl (decide (a = b)))) : fIs (.bl a) (.bl b) P := h
def c__law_least_right : CtM := fun c0 ds P _ => ∃ (N : Nat) (M : Mc) (g fu : Nat), ds = [mD M, .int (g : Nat), nL ((List.range 401).map (cntR M g)), .int (fu : Nat)] ∧ Box c0 N ∧ N ≤ 10000 ∧ M.Ok ∧ M.length ≤ 1000 ∧ g < M.length ∧ 0 < fu ∧ fu ≤ 61 ∧ ∀ c' : C, Box c' (N + 2) → P (.fz (.bl true)) c'
theorem G__law_least_right (T : Tx K mg a) : FnOk P w K mg base (L2.CX P w) 7 a.f__law_least_right a.d__law_least_right ["box", "machine", "room", "seen", "further"] (spM K c__law_least_right) :=
  fn_M T.F__law_least_right sc__law_least_right (by rintro c0 ds P PX ⟨n, m, _, _, rfl, _⟩; rfl) (bd__law_least_right T) fun pp c0 ds P PX h => by
  obtain ⟨N, M, g, fu, rfl, hB, hN, ok, hM, hg, hf0, hf1, hp⟩ := h
  have hseen : ∀ i, i ≤ 400 → ((List.range 401).map (cntR M g)).getD i 0 = cntR M g i := fun i hi => by
    rw [List.getD_eq_getElem?_getD, List.getElem?_map, List.getElem?_range (by omega)]; rfl
  have hsl : ((List.range 401).map (cntR M g)).length = 401 := by simp
  have hcut : ∀ d, d ≤ 400 → cutD ((List.range 401).map (cntR M g)) (some 1) (some (((d + 1 : Nat) : Int))) = cntsR M g d := fun d hd => by
    rw [show (some 1 : Option Int) = some ((1 : Nat) : Int) from rfl, cutD_mid, Nat.add_sub_cancel]
    apply List.ext_getElem?
    intro i
    unfold cntsR
    rw [List.getElem?_map]
    by_cases hi : i < d
    · rw [List.getElem?_take_of_lt hi, List.getElem?_drop, List.getElem?_map, List.getElem?_range (by omega), List.getElem?_range hi, Nat.add_comm]; rfl
    · rw [List.getElem?_eq_none (by rw [List.length_take]; omega), List.getElem?_eq_none (by simp; omega)]; rfl
  generalize (List.range 401).map (cntR M g) = seen at hseen hsl hcut
  unfold m__law_least_right
  walk_at "ev"
  refine ⟨N, fu, rfl, hB, by omega, few hf0 (by omega), fun p c1 hr hB1 => ?_⟩
  walk_at "ev"
  refine fIx_n (i := 400) (by omega) ?_
  rw [hseen 400 (by decide)]
  walk_at "ev"
  refine shl_one (by omega) ?_
  walk_at "ev"
  have two : ∀ most : Nat, most ≤ 400 → mSeq (mSet 7 (mXe (mSl (mFz (mLc (iR2 (mCons (mC (.int 1)) (mCons (mBin fAdd (mVar 6) (mC (.int 1))) (mNil)))) (gN 11) (mTst (mBin fGe (mBin fIx (mVar 3) (mVar 11)) (mBin fShl (mC (.int 1)) (mVar 5)))) (mVar 11) [11])) (mNoP) (mSoP (mC (.int 1)))))) (mSeq (mSet 8 (mXe (mCall c_least_many (mCons (mVar 1) (mCons (mVar 2) (mCons (mVar 5) (mCons (mVar 6) (mNil)))))))) (mSeq (mIfS (mTst (mBin fEq (mVar 7) (mFz (mLst (mNil))))) (mRet (mBin fIs (mVar 8) (mC .non))) (mNx)) (mSeq (mIfS (mOrT (mTst (mBin fNe (mVar 8) (mTup (mCons (mBin fIx (mVar 7) (mC (.int 0))) (mCons (mSl (mVar 3) (mSoP (mC (.int 1))) (mSoP (mBin fAdd (mBin fIx (mVar 7) (mC (.int 0))) (mC (.int 1))))) (mNil)))))) (mNotT (mTst (mIsi "list" (mBin fIx (mVar 8) (mC (.int 1))))))) (mRet (mC (.bl false))) (mNx)) (mSeq (mIfS (mTst (mBin fIsNot (mCall c_shows_least_many (mCons (mVar 1) (mCons (mVar 2) (mCons (mVar 5) (mCons (mBin fIx (mVar 8) (mC (.int 0))) (mCons (mBin fIx (mVar 8) (mC (.int 1))) (mNil))))))) (mC (.bl true)))) (mRet (mC (.bl false))) (mNx)) (mSeq (mSet 9 (mXe (mCallM c__law_take 0 (mCons (mBin fIx (mVar 7) (mC (.int 0))) (mNil))))) (mSeq (mSet 10 (mXe (mBin fAdd (mBin fAdd (mSl (mBin fIx (mVar 8) (mC (.int 1))) (mNoP) (mSoP (mVar 9))) (mFz (mLst (mCons (mBin fAdd (mBin fIx (mBin fIx (mVar 8) (mC (.int 1))) (mVar 9)) (mC (.int 1))) (mNil))))) (mSl (mBin fIx (mVar 8) (mC (.int 1))) (mSoP (mBin fAdd (mVar 9) (mC (.int 1)))) (mNoP))))) (mSeq (mIfS (mTst (mBin fIsNot (mCall c_shows_least_many (mCons (mVar 1) (mCons (mVar 2) (mCons (mVar 5) (mCons (mBin fIx (mVar 8) (mC (.int 0))) (mCons (mVar 10) (mNil))))))) (mC (.bl false)))) (mRet (mC (.bl false))) (mNx)) (mRet (mBin fIs (mCall c_shows_least_many (mCons (mVar 1) (mCons (mVar 2) (mCons (mVar 5) (mCons (mBin fSub (mBin fIx (mVar 8) (mC (.int 0))) (mC (.int 1))) (mCons (mSl (mBin fIx (mVar 8) (mC (.int 1))) (mNoP) (mSoP (mNeg (mC (.int 1))))) (mNil))))))) (mC (.bl false)))))))))))
      ⟨fun ρ => ∃ c', ρ[0]? = some (.ow (some pp) c') ∧ P (.fz .non) c', fun rv ρ => ∃ c', ρ[0]? = some (.ow (some pp) c') ∧ P rv c', fun _ => False, fun _ => False, fun x ρ => ∃ c', ρ[0]? = some (.ow (some pp) c') ∧ PX x c'⟩
      [.ow (some pp) c1, .fz (mD M), .fz (.int (g : Nat)), .fz (nL seen), .fz (.int (fu : Nat)), .fz (.int (p : Nat)), .fz (.int (most : Nat)), .un, .un, .un, .un, .un] := fun most hmost => by
    walk_at "ev"
    refine lc_inv (ds := rngD 1 1 most) (ρ1 := [.ow (some pp) c1, .fz (mD M), .fz (.int (g : Nat)), .fz (nL seen), .fz (.int (fu : Nat)), .fz (.int (p : Nat)), .fz (.int (most : Nat)), .un, .un, .un, .un, .un]) (fun _ q => by walk_at "ev"; refine ⟨⟨by decide, by decide⟩, ⟨by omega, by omega⟩, ?_⟩; rw [show (((most : Nat) : Int) + 1 - 1).toNat = most by omega]; exact q) (range_map most 1 1) (fun k acc ρ => acc = (lensR M g p k).map nD ∧ ρ = [.ow (some pp) c1, .fz (mD M), .fz (.int (g : Nat)), .fz (nL seen), .fz (.int (fu : Nat)), .fz (.int (p : Nat)), .fz (.int (most : Nat)), .un, .un, .un, .un, .un]) ⟨rfl, rfl⟩ (fun k x acc ρ hx hI => ?_) (fun acc ρ hI => ?_)
    · obtain ⟨rfl, hlt⟩ := range_get hx
      obtain ⟨rfl, rfl⟩ := hI
      have ex : (1 : Int) + (x : Nat) * 1 = ((x + 1 : Nat) : Int) := by omega
      rw [ex]
      walk_at "ev"
      refine fIx_n (by omega) ?_
      rw [hseen _ (by omega)]
      walk_at "ev"
      refine shl_one (by omega) ?_
      walk_at "ev"
      have := lensR_len M g p x
      refine ⟨fun z => ?_, fun z => ?_⟩
      · have z : 2 ^ p ≤ cntR M g (x + 1) := by have := of_decide_eq_true z; omega
        walk_at "ev"
        refine ⟨sl_lt (by rw [List.length_map]; omega), ?_, rfl⟩
        rw [lensR_succ, if_pos z, List.map_append]; rfl
      · have z : ¬ 2 ^ p ≤ cntR M g (x + 1) := by have := of_decide_eq_false z; omega
        refine ⟨?_, rfl⟩
        rw [lensR_succ, if_neg z, List.append_nil]
    obtain ⟨rfl, rfl⟩ := hI
    rw [List.length_range]
    walk_at "ev"
    refine fSl_nL ?_
    rw [cutD_one]
    walk_at "ev"
    cases hd : lensR M g p most with
    | nil =>
      have hn := lensR_nil hd
      refine ⟨M, g, p, most, rfl, ok, hM, hg, by omega, by omega, fun n a b c => absurd c (by have := hn n a b; omega), fun _ => ?_⟩
      walk_at "ev"
      refine ⟨by decide, ?_⟩
      refine fEq_nL (a := []) (b := []) ?_
      walk_at "ev"
      refine ⟨fun _ => ?_, fun z => nomatch z⟩
      walk_at "ev"
      exact ⟨c1, rfl, hp c1 (hB1.mono (by omega))⟩
    | cons d r =>
      obtain ⟨d1, d2, d3, d4⟩ := lensR_cons hd
      have hcl := cntsR_len M g d
      refine ⟨M, g, p, most, rfl, ok, hM, hg, by omega, by omega, fun n a b c e => ?_, fun h => absurd d3 (by have := h d d1 d2; omega)⟩
      have en : n = d := by
        rcases Nat.lt_trichotomy n d with z | z | z
        · have := d4 n a z; omega
        · exact z
        · have := e d d1 z; omega
      subst en
      clear a b c e
      walk_at "ev"
      refine ⟨by decide, ?_⟩
      refine fEq_nL (a := [n]) (b := []) ?_
      walk_at "ev"
      refine ⟨fun z => Bool.noConfusion (show false = true from z), fun _ => ?_⟩
      walk_at "ev"
      refine fIx_lst (k := 0) rfl ?_
      walk_at "ev"
      refine fIx_lst (k := 0) rfl ?_
      walk_at "ev"
      refine fSl_nL ?_
      have e1 : ((n : Nat) : Int) + 1 = ((n + 1 : Nat) : Int) := rfl
      rw [e1, hcut n (by omega)]
      walk_at "ev"
      refine ⟨by decide, ?_⟩
      have hsh : Shp 3 (.tup [nD n, nL (cntsR M g n)]) := .tup fun d hd => by
        rcases List.mem_cons.mp hd with rfl | z
        · exact ⟨rfl, Nat.zero_le _⟩
        · have : d = nL (cntsR M g n) := by simpa using z
          rw [this]; exact .nL _
      refine fNe_tupSame hsh (by decide) ?_
      walk_at "ev"
      refine ⟨fun z => Bool.noConfusion z, fun _ => ?_⟩
      walk_at "ev"
      refine fIx_tup (k := 1) rfl ?_
      walk_at "ev"
      refine ⟨_, _, rfl, (by decide : kitB "list" "list" = some true), ?_⟩
      walk_at "ev"
      refine ⟨fun z => Bool.noConfusion z, fun _ => ?_⟩
      walk_at "ev"
      refine fIx_tup (k := 0) rfl ?_
      walk_at "ev"
      refine fIx_tup (k := 1) rfl ?_
      walk_at "ev"
      have hcg : ∀ j, j < n → (cntsR M g n).getD j 0 = cntR M g (j + 1) := fun j hj => by
        unfold cntsR
        rw [List.getD_eq_getElem?_getD, List.getElem?_map, List.getElem?_range hj]; rfl
      refine ⟨M, g, p, n, cntsR M g n, rfl, ok, hM, hg, by omega, by omega, hcl, fun b hb => ?_⟩
      have eb : b = true := by
        refine hb.mpr ⟨by omega, ?_, fun j hj => ?_, rfl⟩
        · rw [hcg _ (by omega), show n - 1 + 1 = n by omega]; exact d3
        · rw [hcg _ (by omega)]; exact d4 _ (by omega) (by omega)
      subst eb
      walk_at "ev"
      refine fIsNot_bl ?_
      walk_at "ev"
      refine ⟨fun z => Bool.noConfusion (show false = true from z), fun _ => ?_⟩
      walk_at "ev"
      refine fIx_lst (k := 0) rfl ?_
      walk_at "ev"
      refine ⟨N + 1, n, rfl, hB1, by omega, few d1 (by omega), fun at' c2 hat hB2 => ?_⟩
      walk_at "ev"
      refine fIx_tup (k := 1) rfl ?_
      walk_at "ev"
      refine fSl_nL ?_
      rw [cutD_to]
      walk_at "ev"
      refine fIx_tup (k := 1) rfl ?_
      walk_at "ev"
      refine fIx_n (by rw [hcl]; exact hat) ?_
      walk_at "ev"
      refine ⟨by decide, ?_⟩
      walk_at "ev"
      refine fAdd_nL (b := [(cntsR M g n).getD at' 0 + 1]) (by rw [List.length_take, List.length_singleton]; omega) ?_
      walk_at "ev"
      refine fIx_tup (k := 1) rfl ?_
      walk_at "ev"
      refine fSl_nL ?_
      have e2 : ((at' : Nat) : Int) + 1 = ((at' + 1 : Nat) : Int) := rfl
      rw [e2, cutD_from]
      refine fAdd_nL (by rw [List.length_append, List.length_take, List.length_drop, List.length_singleton]; omega) ?_
      generalize ho : (cntsR M g n).take at' ++ [(cntsR M g n).getD at' 0 + 1] ++ (cntsR M g n).drop (at' + 1) = other
      have hol : other.length = n := by rw [← ho]; simp; omega
      have hoa : other.getD at' 0 = (cntsR M g n).getD at' 0 + 1 := by
        rw [← ho, List.getD_eq_getElem?_getD, List.getElem?_append_left (by simp; omega), List.getElem?_append_right (by simp; omega), List.length_take, show at' - min at' (cntsR M g n).length = 0 by omega]
        rfl
      walk_at "ev"
      refine fIx_tup (k := 0) rfl ?_
      walk_at "ev"
      refine ⟨M, g, p, n, other, rfl, ok, hM, hg, by omega, by omega, hol, fun b hb => ?_⟩
      have eb : b = false := by
        cases b with
        | false => rfl
        | true =>
          have := (hb.mp rfl).2.2.2
          rw [this] at hoa
          omega
      subst eb
      walk_at "ev"
      refine fIsNot_bl ?_
      walk_at "ev"
      refine ⟨fun z => Bool.noConfusion (show false = true from z), fun _ => ?_⟩
      walk_at "ev"
      refine fIx_tup (k := 0) rfl ?_
      walk_at "ev"
      refine fIx_tup (k := 1) rfl ?_
      walk_at "ev"
      refine fSl_nL ?_
      rw [cutD_but _ (by omega), hcl]
      have e3 : ((n : Nat) : Int) - 1 = ((n - 1 : Nat) : Int) := by omega
      rw [e3]
      walk_at "ev"
      refine ⟨M, g, p, n - 1, (cntsR M g n).take (n - 1), rfl, ok, hM, hg, by omega, by omega, by rw [List.length_take]; omega, fun b hb => ?_⟩
      have eb : b = false := by
        cases b with
        | false => rfl
        | true =>
          obtain ⟨h1, h2, _⟩ := hb.mp rfl
          rw [List.getD_eq_getElem?_getD, List.getElem?_take_of_lt (by omega), ← List.getD_eq_getElem?_getD, hcg _ (by omega), show n - 1 - 1 + 1 = n - 1 by omega] at h2
          have := d4 (n - 1) (by omega) (by omega)
          omega
      subst eb
      walk_at "ev"
      refine fIs_bl ?_
      walk_at "ev"
      exact ⟨c2, rfl, hp c2 hB2⟩
  refine ⟨fun _ => ?_, fun _ => ?_⟩
  · exact nxt_go (two 400 (by decide))
  · exact nxt_go (two 100 (by decide))

def m_law : MS := mSeq (mFor (iR1 (mCons (mBin fAdd (mC (.int 1)) (mBf fMin (mCons (mC (.int 3)) (mCons (mBf fLen (mCons (mVar 0) (mNil))) (mNil))))) (mNil))) (gN 1) (mSeq (mSet 2 (mXo (mCallO c__law_box (mCons (mVar 0) (mCons (mVar 1) (mNil)))))) (mSeq (mSet 3 (mXe (mFz (mLst (mCons (mCallM c__law_ring_machine 2 (mCons (mBin fAdd (mC (.int 1)) (mCallM c__law_take 2 (mCons (mC (.int 5)) (mNil)))) (mNil))) (mCons (mTup (mCons (mTup (mCons (mC (.int 0)) (mCons (mC (.int 0)) (mNil)))) (mNil))) (mCons (mTup (mCons (mTup (mCons (mC (.int 0)) (mCons (mC .non) (mNil)))) (mNil))) (mCons (mTup (mCons (mTup (mCons (mC .non) (mCons (mC .non) (mNil)))) (mNil))) (mNil))))))))) (mSeq (mSet 4 (mXe (mBin fIx (mVar 3) (mBf fMax (mCons (mC (.int 0)) (mCons (mBin fSub (mCallM c__law_take 2 (mCons (mC (.int 8)) (mNil))) (mC (.int 4))) (mNil))))))) (mSeq (mSet 5 (mXe (mCallM c__law_take 2 (mCons (mBf fLen (mCons (mVar 4) (mNil))) (mNil))))) (mSeq (mSet 6 (mXe (mBin fIx (mFz (mLst (mCons (mC (.int 400)) (mCons (mBin fAdd (mC (.int 1)) (mCallM c__law_take 2 (mCons (mC (.int 400)) (mNil)))) (mCons (mBin fAdd (mC (.int 60)) (mCallM c__law_take 2 (mCons (mC (.int 80)) (mNil)))) (mNil)))))) (mCallM c__law_take 2 (mCons (mC (.int 3)) (mNil)))))) (mSeq (mSet 7 (mXe (mCall c__law_rounds (mCons (mVar 4) (mCons (mVar 5) (mCons (mC (.int 400)) (mNil))))))) (mSeq (mSet 8 (mXe (mIf (mTst (mBin fGt (mBin fIx (mVar 7) (mVar 6)) (mC (.int 0)))) (mBin fSub (mBits (mBin fIx (mVar 7) (mVar 6))) (mC (.int 1))) (mC .non)))) (mSeq (mIfS (mOrT (mTst (mBin fNe (mCall c_bits_for (mCons (mVar 4) (mCons (mVar 5) (mCons (mVar 6) (mNil))))) (mVar 8))) (mNotT (mTst (mCallM c__law_least_right 2 (mCons (mVar 4) (mCons (mVar 5) (mCons (mVar 7) (mCons (mBin fIx (mFz (mLst (mCons (mC (.int 61)) (mCons (mC (.int 13)) (mNil))))) (mBf fMin (mCons (mC (.int 1)) (mCons (mVar 1) (mNil))))) (mNil))))))))) (mRet (mC (.bl false))) (mNx)) (mIfS (mAndT (mTst (mBin fIsNot (mVar 8) (mC .non))) (mAndT (mTst (mBin fGt (mVar 8) (mC (.int 0)))) (mNotT (mTst (mCallM c__law_table_right 2 (mCons (mVar 4) (mCons (mVar 5) (mCons (mVar 6) (mCons (mVar 8) (mNil)))))))))) (mRet (mC (.bl false))) (mNx))))))))))) (mRet (mC (.bl true)))
theorem bd_law (T : Tx K mg a) : Bd P w K mg base 9 ["script", "k", "box", "some", "machine", "room", "many", "seen", "p"] s_law m_law := ⟨fun qual f cdv A outer s H E hr tk pw =>
  gss_cons (gs_for pw rfl (gi_range1 T.m_range (ga_cons (ge_bin op_addA od_add (ge_int) (ge_bf (cr_minA rfl) cd_min T.m_min (ga_cons (ge_int) (ga_cons (ge_bf call_len cd_len T.m_len (ga_cons (ge_var) (ga_nil))) (ga_nil))))) (ga_nil))) (gg_name sc_law.nd) (gss_cons (gs_set (gx_o (go_call (G__law_box T) (hr.mono (by decide)) T.g__law_box T.F__law_box.kp T.b__law_box tk (ga_cons (ge_var) (ga_cons (ge_var) (ga_nil))))) sc_law.nd) (gss_cons (gs_set (gx_e (ge_fz (go_lst (ga_cons (ge_callM (G__law_ring_machine T) (hr.mono (by decide)) T.g__law_ring_machine T.F__law_ring_machine.kp T.b__law_ring_machine tk (ga_cons (ge_bin op_addA od_add (ge_int) (ge_callM (G__law_take T) (hr.mono (by decide)) T.g__law_take T.F__law_take.kp T.b__law_take tk (ga_cons (ge_int) (ga_nil)))) (ga_nil))) (ga_cons (ge_tup (ga_cons (ge_tup (ga_cons (ge_int) (ga_cons (ge_int) (ga_nil)))) (ga_nil))) (ga_cons (ge_tup (ga_cons (ge_tup (ga_cons (ge_int) (ga_cons (ge_non) (ga_nil)))) (ga_nil))) (ga_cons (ge_tup (ga_cons (ge_tup (ga_cons (ge_non) (ga_cons (ge_non) (ga_nil)))) (ga_nil))) (ga_nil)))))))) sc_law.nd) (gss_cons (gs_set (gx_e (ge_ix (ge_var) (ge_bf (cr_maxA rfl) cd_max T.m_max (ga_cons (ge_int) (ga_cons (ge_bin op_sub od_sub (ge_callM (G__law_take T) (hr.mono (by decide)) T.g__law_take T.F__law_take.kp T.b__law_take tk (ga_cons (ge_int) (ga_nil))) (ge_int)) (ga_nil)))))) sc_law.nd) (gss_cons (gs_set (gx_e (ge_callM (G__law_take T) (hr.mono (by decide)) T.g__law_take T.F__law_take.kp T.b__law_take tk (ga_cons (ge_bf call_len cd_len T.m_len (ga_cons (ge_var) (ga_nil))) (ga_nil)))) sc_law.nd) (gss_cons (gs_set (gx_e (ge_ix (ge_fz (go_lst (ga_cons (ge_int) (ga_cons (ge_bin op_addA od_add (ge_int) (ge_callM (G__law_take T) (hr.mono (by decide)) T.g__law_take T.F__law_take.kp T.b__law_take tk (ga_cons (ge_int) (ga_nil)))) (ga_cons (ge_bin op_addA od_add (ge_int) (ge_callM (G__law_take T) (hr.mono (by decide)) T.g__law_take T.F__law_take.kp T.b__law_take tk (ga_cons (ge_int) (ga_nil)))) (ga_nil)))))) (ge_callM (G__law_take T) (hr.mono (by decide)) T.g__law_take T.F__law_take.kp T.b__law_take tk (ga_cons (ge_int) (ga_nil))))) sc_law.nd) (gss_cons (gs_set (gx_e (ge_call (G__law_rounds T) (hr.mono (by decide)) T.g__law_rounds T.F__law_rounds.kp T.b__law_rounds tk (ga_cons (ge_var) (ga_cons (ge_var) (ga_cons (ge_int) (ga_nil)))))) sc_law.nd) (gss_cons (gs_set (gx_e (ge_if (gt_cmp op_gt od_gt (ge_ix (ge_var) (ge_var)) (ge_int)) (ge_bin op_sub od_sub (ge_bits (ge_ix (ge_var) (ge_var))) (ge_int)) (ge_non))) sc_law.nd) (gss_cons (gs_if (gt_w (gw_or (gt_cmp (op_neA hr.units) od_ne (ge_call (G_bits_for T) (hr.mono (by decide)) T.g_bits_for T.F_bits_for.kp T.b_bits_for tk (ga_cons (ge_var) (ga_cons (ge_var) (ga_cons (ge_var) (ga_nil))))) (ge_var)) (gw_or1 (gt_not (gt_val (ge_callM (G__law_least_right T) (hr.mono (by decide)) T.g__law_least_right T.F__law_least_right.kp T.b__law_least_right tk (ga_cons (ge_var) (ga_cons (ge_var) (ga_cons (ge_var) (ga_cons (ge_ix (ge_fz (go_lst (ga_cons (ge_int) (ga_cons (ge_int) (ga_nil))))) (ge_bf (cr_minA rfl) cd_min T.m_min (ga_cons (ge_int) (ga_cons (ge_var) (ga_nil))))) (ga_nil))))))))))) (gss_one (gs_ret (ge_bl))) (gss_nil)) (gss_one (gs_if (gt_w (gw_and (gt_cmp op_isNotA od_isnot (ge_var) (ge_non)) (gw_and (gt_cmp op_gt od_gt (ge_var) (ge_int)) (gw_and1 (gt_not (gt_val (ge_callM (G__law_table_right T) (hr.mono (by decide)) T.g__law_table_right T.F__law_table_right.kp T.b__law_table_right tk (ga_cons (ge_var) (ga_cons (ge_var) (ga_cons (ge_var) (ga_cons (ge_var) (ga_nil)))))))))))) (gss_one (gs_ret (ge_bl))) (gss_nil)))))))))))) (gss_one (gs_ret (ge_bl)))⟩
def c_law : CtP := fun ds P _ => ∃ ns : List Int, ds = [.scr ns] ∧ P (.fz (.bl true))
theorem law_ok (ns : List Int) (P : Rv → Prop) (PX : Ex → Prop) (_ : ns.length ≤ 63) (h : P (.fz (.bl true))) : c_law [.scr ns] P PX := ⟨ns, rfl, h⟩
theorem four_m {M : Mc} (ok : M.Ok) (h1 : 1 ≤ M.length) (h2 : M.length ≤ 5) {r : Nat} (hr : r < 4) {P : D → Prop} (hp : ∀ M : Mc, M.Ok → 1 ≤ M.length → M.length ≤ 5 → P (mD M)) :
    fIx (.lst [mD M, .tup [.tup [.int 0, .int 0]], .tup [.tup [.int 0, .non]], .tup [.tup [.non, .non]]]) (.int (r : Nat)) P := by
  rcases (by omega : r = 0 ∨ r = 1 ∨ r = 2 ∨ r = 3) with rfl | rfl | rfl | rfl
  · exact ⟨_, rfl, hp M ok h1 h2⟩
  · exact ⟨_, rfl, hp [(some 0, some 0)] (by intro r hr e he; simp at hr; subst hr; simp [ends] at he; subst he; decide) (by decide) (by decide)⟩
  · exact ⟨_, rfl, hp [(some 0, none)] (by intro r hr e he; simp at hr; subst hr; simp [ends] at he; subst he; decide) (by decide) (by decide)⟩
  · exact ⟨_, rfl, hp [(none, none)] (by intro r hr e he; simp at hr; subst hr; simp [ends] at he) (by decide) (by decide)⟩
theorem G_law (T : Tx K mg a) : FnOk P w K mg base (L2.CX P w) 10 a.f_law a.d_law ["script"] (spP K c_law) :=
  fn_P T.F_law sc_law (by rintro ds P PX ⟨n, rfl, _⟩; rfl) (bd_law T) fun ds P PX h => by
  obtain ⟨ns, rfl, hp⟩ := h
  unfold m_law
  walk_at "ev"
  obtain ⟨c, hc, hc3⟩ : ∃ c : Nat, (1 : Int) + (if ((ns.length : Nat) : Int) < 3 then ((ns.length : Nat) : Int) else 3) = (c : Nat) ∧ c ≤ 4 := by
    by_cases z : ((ns.length : Nat) : Int) < 3
    · exact ⟨1 + ns.length, by rw [if_pos z]; rfl, by omega⟩
    · exact ⟨4, by rw [if_neg z]; rfl, by decide⟩
  refine for_run (fun _ q => by walk_at "ev"; refine fLen_scr ?_; walk_at "ev"; refine fMin_two ?_; walk_at "ev"; rw [hc]; exact ⟨⟨by omega, by omega⟩, q⟩) (range_map c 0 1) (fun k => [.fz (.scr ns), .un, .un, .un, .un, .un, .un, .un, .un]) (by walk_at "wk") (fun k i hk => ?_) ?_
  · obtain ⟨rfl, hlt⟩ := range_get hk
    have ex : (0 : Int) + (i : Nat) * 1 = (i : Nat) := by omega
    walk_at "ev"
    rw [ex]
    refine ⟨ns, i, rfl, by omega, fun c0 hB0 => ?_⟩
    walk_at "ev"
    refine ⟨0, 5, rfl, hB0, by decide, few (by decide) (by decide), fun r0 c1 hr0 hB1 => ?_⟩
    walk_at "ev"
    have e1 : (1 : Int) + (r0 : Nat) = ((1 + r0 : Nat) : Int) := rfl
    rw [e1]
    refine ⟨1, 1 + r0, rfl, hB1, by decide, by omega, by omega, fun M0 c2 ok0 hl0 hB2 => ?_⟩
    walk_at "ev"
    refine ⟨by decide, ?_⟩
    walk_at "ev"
    refine ⟨by decide, ?_⟩
    walk_at "ev"
    refine ⟨by decide, ?_⟩
    walk_at "ev"
    refine ⟨by decide, ?_⟩
    walk_at "ev"
    refine ⟨by decide, ?_⟩
    walk_at "ev"
    refine ⟨by decide, ?_⟩
    walk_at "ev"
    refine ⟨by decide, ?_⟩
    walk_at "ev"
    refine ⟨_, 8, rfl, hB2, by decide, few (by decide) (by decide), fun r1 c3 hr1 hB3 => ?_⟩
    walk_at "ev"
    refine fMax_two ?_
    obtain ⟨r, hr, hr4⟩ : ∃ r : Nat, (if ((r1 : Nat) : Int) - 4 > 0 then ((r1 : Nat) : Int) - 4 else 0) = (r : Nat) ∧ r < 4 := by
      by_cases z : ((r1 : Nat) : Int) - 4 > 0
      · exact ⟨r1 - 4, by rw [if_pos z]; omega, by omega⟩
      · exact ⟨0, by rw [if_neg z]; rfl, by decide⟩
    rw [hr]
    refine four_m ok0 (by omega) (by omega) hr4 fun M ok hl1 hl5 => ?_
    clear hr hr4 hr1 e1 hl0 ok0
    walk_at "ev"
    refine fLen_tup ?_
    rw [List.length_map]
    walk_at "ev"
    refine ⟨_, M.length, rfl, hB3, by decide, few (by omega) (by omega), fun g c4 hg hB4 => ?_⟩
    walk_at "ev"
    refine ⟨_, 400, rfl, hB4, by decide, few (by decide) (by decide), fun r2 c5 hr2 hB5 => ?_⟩
    walk_at "ev"
    refine ⟨_, 80, rfl, hB5, by decide, few (by decide) (by decide), fun r3 c6 hr3 hB6 => ?_⟩
    walk_at "ev"
    refine ⟨by decide, ?_⟩
    walk_at "ev"
    refine ⟨_, 3, rfl, hB6, by decide, few (by decide) (by decide), fun r4 c7 hr4 hB7 => ?_⟩
    walk_at "ev"
    refine fIx_three hr4 fun v hv => ?_
    obtain ⟨n, rfl, hn0, hn⟩ : ∃ n : Nat, v = .int (n : Nat) ∧ 0 < n ∧ n ≤ 400 := by
      rcases hv with rfl | rfl | rfl
      · exact ⟨400, rfl, by decide, by decide⟩
      · exact ⟨1 + r2, rfl, by omega, by omega⟩
      · exact ⟨60 + r3, rfl, by omega, by omega⟩
    clear hv
    walk_at "ev"
    refine ⟨M, g, 400, rfl, ok, by omega, hg, by decide, ?_⟩
    walk_at "ev"
    have hsl : ((List.range 401).map (cntR M g)).length = 401 := by simp
    have hseen : ((List.range 401).map (cntR M g)).getD n 0 = tb M g n g := by
      rw [List.getD_eq_getElem?_getD, List.getElem?_map, List.getElem?_range (by omega)]; rfl
    have hss : nL ((List.range (400 + 1)).map (cntR M g)) = nL ((List.range 401).map (cntR M g)) := rfl
    refine fIx_n (by show n < ((List.range 401).map (cntR M g)).length; omega) ?_
    rw [show ((List.range (400 + 1)).map (cntR M g)).getD n 0 = tb M g n g from hseen]
    walk_at "ev"
    -- behind what is told of it
    have least : ∀ (PD : PEnds) (c' : C) (o : D), Box c' 2000 → (∀ c'' : C, Box c'' 2002 → Nxt (mIfS (mAndT (mTst (mBin fIsNot (mVar 8) (mC .non))) (mAndT (mTst (mBin fGt (mVar 8) (mC (.int 0)))) (mNotT (mTst (mCallM c__law_table_right 2 (mCons (mVar 4) (mCons (mVar 5) (mCons (mVar 6) (mCons (mVar 8) (mNil)))))))))) (mRet (mC (.bl false))) (mNx)) PD [.fz (.scr ns), .fz (.int (i : Nat)), .ow none c'', .fz (.lst [mD M0, .tup [.tup [.int 0, .int 0]], .tup [.tup [.int 0, .non]], .tup [.tup [.non, .non]]]), .fz (mD M), .fz (.int (g : Nat)), .fz (.int (n : Nat)), .fz (nL ((List.range 401).map (cntR M g))), .fz o]) →
        mNotT (mTst (mCallM c__law_least_right 2 (mCons (mVar 4) (mCons (mVar 5) (mCons (mVar 7) (mCons (mBin fIx (mFz (mLst (mCons (mC (.int 61)) (mCons (mC (.int 13)) (mNil))))) (mBf fMin (mCons (mC (.int 1)) (mCons (mVar 1) (mNil))))) (mNil)))))))
          [.fz (.scr ns), .fz (.int (i : Nat)), .ow none c', .fz (.lst [mD M0, .tup [.tup [.int 0, .int 0]], .tup [.tup [.int 0, .non]], .tup [.tup [.non, .non]]]), .fz (mD M), .fz (.int (g : Nat)), .fz (.int (n : Nat)), .fz (nL ((List.range 401).map (cntR M g))), .fz o]
          (fun b ρ => (b = true → mRet (mC (.bl false)) PD ρ) ∧ (b = false → mNx { PD with nx := fun ρ' => Nxt (mIfS (mAndT (mTst (mBin fIsNot (mVar 8) (mC .non))) (mAndT (mTst (mBin fGt (mVar 8) (mC (.int 0)))) (mNotT (mTst (mCallM c__law_table_right 2 (mCons (mVar 4) (mCons (mVar 5) (mCons (mVar 6) (mCons (mVar 8) (mNil)))))))))) (mRet (mC (.bl false))) (mNx)) PD ρ' } ρ)) PD.ex := fun PD c' o hB h => by
      walk_at "ev"
      refine ⟨by decide, ?_⟩
      walk_at "ev"
      refine fMin_two ?_
      obtain ⟨e, he, he2⟩ : ∃ e : Nat, (if ((i : Nat) : Int) < 1 then ((i : Nat) : Int) else 1) = (e : Nat) ∧ e < 2 := by
        by_cases z : ((i : Nat) : Int) < 1
        · exact ⟨i, by rw [if_pos z], by omega⟩
        · exact ⟨1, by rw [if_neg z]; rfl, by decide⟩
      rw [he]
      refine fIx_two he2 fun v hv => ?_
      obtain ⟨u, rfl, hu1, hu2⟩ : ∃ u : Nat, v = .int (u : Nat) ∧ 0 < u ∧ u ≤ 61 := by
        rcases hv with rfl | rfl
        · exact ⟨61, rfl, by decide, by decide⟩
        · exact ⟨13, rfl, by decide, by decide⟩
      clear hv
      walk_at "ev"
      refine ⟨2000, M, g, u, rfl, hB, by decide, ok, by omega, hg, hu1, hu2, fun c'' hB'' => ?_⟩
      walk_at "ev"
      refine ⟨fun z => Bool.noConfusion z, fun _ => ?_⟩
      exact h c'' hB''
    have turn : ∀ (PD : PEnds), (∀ ρ, (∃ c'' x, ρ = [.fz (.scr ns), .fz (.int (i : Nat)), .ow none c'', .fz (.lst [mD M0, .tup [.tup [.int 0, .int 0]], .tup [.tup [.int 0, .non]], .tup [.tup [.non, .non]]]), .fz (mD M), .fz (.int (g : Nat)), .fz (.int (n : Nat)), .fz (nL ((List.range 401).map (cntR M g))), .fz x]) → PD.nx ρ) → ∀ (c : C) (o : D), Box c 2000 → o = oD (if 0 < tb M g n g then some (tb M g n g).log2 else none) →
        mSeq (mIfS (mOrT (mTst (mBin fNe (mCall c_bits_for (mCons (mVar 4) (mCons (mVar 5) (mCons (mVar 6) (mNil))))) (mVar 8))) (mNotT (mTst (mCallM c__law_least_right 2 (mCons (mVar 4) (mCons (mVar 5) (mCons (mVar 7) (mCons (mBin fIx (mFz (mLst (mCons (mC (.int 61)) (mCons (mC (.int 13)) (mNil))))) (mBf fMin (mCons (mC (.int 1)) (mCons (mVar 1) (mNil))))) (mNil))))))))) (mRet (mC (.bl false))) (mNx)) (mIfS (mAndT (mTst (mBin fIsNot (mVar 8) (mC .non))) (mAndT (mTst (mBin fGt (mVar 8) (mC (.int 0)))) (mNotT (mTst (mCallM c__law_table_right 2 (mCons (mVar 4) (mCons (mVar 5) (mCons (mVar 6) (mCons (mVar 8) (mNil)))))))))) (mRet (mC (.bl false))) (mNx)) PD
          [.fz (.scr ns), .fz (.int (i : Nat)), .ow none c, .fz (.lst [mD M0, .tup [.tup [.int 0, .int 0]], .tup [.tup [.int 0, .non]], .tup [.tup [.non, .non]]]), .fz (mD M), .fz (.int (g : Nat)), .fz (.int (n : Nat)), .fz (nL ((List.range 401).map (cntR M g))), .fz o] := fun PD hnx c o hB ho => by
      subst ho
      walk_at "ev"
      refine ⟨M, g, n, rfl, ok, by omega, hg, by omega, fun z => ?_, fun z => ?_⟩
      · rw [if_neg (by omega)]
        walk_at "ev"
        refine fNe_oo (o := none) ?_
        walk_at "ev"
        refine ⟨fun z => Bool.noConfusion z, fun _ => ?_⟩
        refine least PD c _ hB fun c'' hB'' => ?_
        walk_at "ev"
        refine fIsNot_o (o := none) ?_
        walk_at "ev"
        refine ⟨fun z => Bool.noConfusion z, fun _ => ?_⟩
        exact ⟨fun z => Bool.noConfusion z, fun _ => hnx _ ⟨_, _, rfl⟩⟩
      · rw [if_pos z]
        walk_at "ev"
        refine fNe_oo (o := some (tb M g n g).log2) ?_
        walk_at "ev"
        refine ⟨fun z => Bool.noConfusion z, fun _ => ?_⟩
        refine least PD c _ hB fun c'' hB'' => ?_
        walk_at "ev"
        refine fIsNot_o (o := some (tb M g n g).log2) ?_
        walk_at "ev"
        refine ⟨fun _ => ?_, fun z => Bool.noConfusion z⟩
        rw [oD_some]
        walk_at "ev"
        refine ⟨fun y => ?_, fun _ => ?_⟩
        · have y : 0 < (tb M g n g).log2 := by have := of_decide_eq_true y; omega
          walk_at "ev"
          have hle : tb M g n g < 2 ^ 401 := Nat.lt_of_le_of_lt (tb_le ok g n g hg) (Nat.pow_lt_pow_right (by decide) (by omega))
          refine ⟨2002, M, g, n, (tb M g n g).log2, rfl, hB'', by decide, ok, by omega, hg, hn0, hn, z, rfl, y, ?_, fun c3 hB3 => ?_⟩
          · have := (Nat.log2_lt (by omega)).mpr hle
            omega
          walk_at "ev"
          refine ⟨fun z => Bool.noConfusion z, fun _ => ?_⟩
          exact hnx _ ⟨_, _, rfl⟩
        · exact ⟨fun z => Bool.noConfusion z, fun _ => hnx _ ⟨_, _, rfl⟩⟩
    have fin : ∀ ρ, (∃ c'' x, ρ = [.fz (.scr ns), .fz (.int (i : Nat)), .ow none c'', .fz (.lst [mD M0, .tup [.tup [.int 0, .int 0]], .tup [.tup [.int 0, .non]], .tup [.tup [.non, .non]]]), .fz (mD M), .fz (.int (g : Nat)), .fz (.int (n : Nat)), .fz (nL ((List.range 401).map (cntR M g))), .fz x]) → lp (fun ρ => ρ = [.fz (.scr ns), .un, .un, .un, .un, .un, .un, .un, .un]) ρ := fun ρ ⟨c'', x, e⟩ => by
      subst e
      refine lp_of ?_
      walk_at "wk"
    refine ⟨fun z => ?_, fun z => ?_⟩
    · have z : 0 < tb M g n g := by have := of_decide_eq_true z; omega
      walk_at "ev"
      refine fIx_n (by show n < ((List.range 401).map (cntR M g)).length; omega) ?_
      rw [show ((List.range (400 + 1)).map (cntR M g)).getD n 0 = tb M g n g from hseen]
      show Nxt _ _ [_, _, _, _, _, _, _, _, .fz (.int (((Builtin.Int.intBits (tb M g n g : Int) : Nat) : Int) - 1))]
      rw [bits_pos z]
      exact nxt_go (turn _ fin c7 _ (hB7.mono (by decide)) (by rw [if_pos z]; rfl))
    · have z : ¬ 0 < tb M g n g := by have := of_decide_eq_false z; omega
      exact nxt_go (turn _ fin c7 _ (hB7.mono (by decide)) (by rw [if_neg z]; rfl))
  · walk_at "ev"
    exact hp

end K80

namespace K80
open PySem PySem.Spec PyProof.Rows L2 G
theorem bi_ends_of {K : PySem.W.Frag} {f : Addr} {fd : FuncData} (F : Fun K "ends_of" "ends_of" s_ends_of f fd) : Binds K fd ["room"] [] := F.binds fun _ _ _ _ _ _ us hl => match us, hl with | [_], _ => rfl
theorem bi_one_longer {K : PySem.W.Frag} {f : Addr} {fd : FuncData} (F : Fun K "one_longer" "one_longer" s_one_longer f fd) : Binds K fd ["machine", "found"] [] := F.binds fun _ _ _ _ _ _ us hl => match us, hl with | [_, _], _ => rfl
theorem bi_tables_of {K : PySem.W.Frag} {f : Addr} {fd : FuncData} (F : Fun K "tables_of" "tables_of" s_tables_of f fd) : Binds K fd ["machine", "goal", "many"] [] := F.binds fun _ _ _ _ _ _ us hl => match us, hl with | [_, _, _], _ => rfl
theorem bi_counts_to {K : PySem.W.Frag} {f : Addr} {fd : FuncData} (F : Fun K "counts_to" "counts_to" s_counts_to f fd) : Binds K fd ["machine", "many", "goal"] [] := F.binds fun _ _ _ _ _ _ us hl => match us, hl with | [_, _, _], _ => rfl
theorem bi_from_there {K : PySem.W.Frag} {f : Addr} {fd : FuncData} (F : Fun K "from_there" "from_there" s_from_there f fd) : Binds K fd ["tables", "machine", "room", "left", "number"] [] := F.binds fun _ _ _ _ _ _ us hl => match us, hl with | [_, _, _, _, _], _ => rfl
theorem bi_row_at {K : PySem.W.Frag} {f : Addr} {fd : FuncData} (F : Fun K "row_at" "row_at" s_row_at f fd) : Binds K fd ["machine", "room", "goal", "many", "number"] [] := F.binds fun _ _ _ _ _ _ us hl => match us, hl with | [_, _, _, _, _], _ => rfl
theorem bi_number_of {K : PySem.W.Frag} {f : Addr} {fd : FuncData} (F : Fun K "number_of" "number_of" s_number_of f fd) : Binds K fd ["machine", "room", "goal", "row"] [] := F.binds fun _ _ _ _ _ _ us hl => match us, hl with | [_, _, _, _], _ => rfl
theorem bi_is_number {K : PySem.W.Frag} {f : Addr} {fd : FuncData} (F : Fun K "is_number" "is_number" s_is_number f fd) : Binds K fd ["thing", "least"] [] := F.binds fun _ _ _ _ _ _ us hl => match us, hl with | [_, _], _ => rfl
theorem bi_are_numbers {K : PySem.W.Frag} {f : Addr} {fd : FuncData} (F : Fun K "are_numbers" "are_numbers" s_are_numbers f fd) : Binds K fd ["thing", "many", "least"] [] := F.binds fun _ _ _ _ _ _ us hl => match us, hl with | [_, _, _], _ => rfl
theorem bi_round_count {K : PySem.W.Frag} {f : Addr} {fd : FuncData} (F : Fun K "round_count" "round_count" s_round_count f fd) : Binds K fd ["machine", "room", "many"] [] := F.binds fun _ _ _ _ _ _ us hl => match us, hl with | [_, _, _], _ => rfl
theorem bi_bits_for {K : PySem.W.Frag} {f : Addr} {fd : FuncData} (F : Fun K "bits_for" "bits_for" s_bits_for f fd) : Binds K fd ["machine", "room", "many"] [] := F.binds fun _ _ _ _ _ _ us hl => match us, hl with | [_, _, _], _ => rfl
theorem bi_least_many {K : PySem.W.Frag} {f : Addr} {fd : FuncData} (F : Fun K "least_many" "least_many" s_least_many f fd) : Binds K fd ["machine", "room", "p", "most"] [] := F.binds fun _ _ _ _ _ _ us hl => match us, hl with | [_, _, _, _], _ => rfl
theorem bi_shows_least_many {K : PySem.W.Frag} {f : Addr} {fd : FuncData} (F : Fun K "shows_least_many" "shows_least_many" s_shows_least_many f fd) : Binds K fd ["machine", "room", "p", "many", "told"] [] := F.binds fun _ _ _ _ _ _ us hl => match us, hl with | [_, _, _, _, _], _ => rfl
theorem bi_parts_of {K : PySem.W.Frag} {f : Addr} {fd : FuncData} (F : Fun K "parts_of" "parts_of" s_parts_of f fd) : Binds K fd ["row", "many"] [] := F.binds fun _ _ _ _ _ _ us hl => match us, hl with | [_, _], _ => rfl
theorem bi_as_bits {K : PySem.W.Frag} {f : Addr} {fd : FuncData} (F : Fun K "as_bits" "as_bits" s_as_bits f fd) : Binds K fd ["number", "many"] [] := F.binds fun _ _ _ _ _ _ us hl => match us, hl with | [_, _], _ => rfl
theorem bi_as_number {K : PySem.W.Frag} {f : Addr} {fd : FuncData} (F : Fun K "as_number" "as_number" s_as_number f fd) : Binds K fd ["bits"] [] := F.binds fun _ _ _ _ _ _ us hl => match us, hl with | [_], _ => rfl
theorem bi_table_written {K : PySem.W.Frag} {f : Addr} {fd : FuncData} (F : Fun K "table_written" "table_written" s_table_written f fd) : Binds K fd ["machine", "room", "many", "bits"] [] := F.binds fun _ _ _ _ _ _ us hl => match us, hl with | [_, _, _, _], _ => rfl
theorem bi_block_number {K : PySem.W.Frag} {f : Addr} {fd : FuncData} (F : Fun K "block_number" "block_number" s_block_number f fd) : Binds K fd ["machine", "room", "many", "block"] [] := F.binds fun _ _ _ _ _ _ us hl => match us, hl with | [_, _, _, _], _ => rfl
theorem bi_table_read {K : PySem.W.Frag} {f : Addr} {fd : FuncData} (F : Fun K "table_read" "table_read" s_table_read f fd) : Binds K fd ["machine", "room", "many", "row"] [] := F.binds fun _ _ _ _ _ _ us hl => match us, hl with | [_, _, _, _], _ => rfl
theorem bi__law_cell_at {K : PySem.W.Frag} {f : Addr} {fd : FuncData} (F : Fun K "_law_cell_at" "_law_cell_at" s__law_cell_at f fd) : Binds K fd ["script", "k"] [] := F.binds fun _ _ _ _ _ _ us hl => match us, hl with | [_, _], _ => rfl
theorem bi__law_box {K : PySem.W.Frag} {f : Addr} {fd : FuncData} (F : Fun K "_law_box" "_law_box" s__law_box f fd) : Binds K fd ["script", "k"] [] := F.binds fun _ _ _ _ _ _ us hl => match us, hl with | [_, _], _ => rfl
theorem bi__law_take {K : PySem.W.Frag} {f : Addr} {fd : FuncData} (F : Fun K "_law_take" "_law_take" s__law_take f fd) : Binds K fd ["box", "many"] [] := F.binds fun _ _ _ _ _ _ us hl => match us, hl with | [_, _], _ => rfl
theorem bi__law_ring_machine {K : PySem.W.Frag} {f : Addr} {fd : FuncData} (F : Fun K "_law_ring_machine" "_law_ring_machine" s__law_ring_machine f fd) : Binds K fd ["box", "many"] [] := F.binds fun _ _ _ _ _ _ us hl => match us, hl with | [_, _], _ => rfl
theorem bi__law_rounds {K : PySem.W.Frag} {f : Addr} {fd : FuncData} (F : Fun K "_law_rounds" "_law_rounds" s__law_rounds f fd) : Binds K fd ["machine", "room", "many"] [] := F.binds fun _ _ _ _ _ _ us hl => match us, hl with | [_, _, _], _ => rfl
theorem bi__law_leads {K : PySem.W.Frag} {f : Addr} {fd : FuncData} (F : Fun K "_law_leads" "_law_leads" s__law_leads f fd) : Binds K fd ["machine", "room", "row"] [] := F.binds fun _ _ _ _ _ _ us hl => match us, hl with | [_, _, _], _ => rfl
theorem bi__law_bad_block {K : PySem.W.Frag} {f : Addr} {fd : FuncData} (F : Fun K "_law_bad_block" "_law_bad_block" s__law_bad_block f fd) : Binds K fd ["machine", "room", "many", "row"] [] := F.binds fun _ _ _ _ _ _ us hl => match us, hl with | [_, _, _, _], _ => rfl
theorem bi__law_table_right {K : PySem.W.Frag} {f : Addr} {fd : FuncData} (F : Fun K "_law_table_right" "_law_table_right" s__law_table_right f fd) : Binds K fd ["box", "machine", "room", "many", "p"] [] := F.binds fun _ _ _ _ _ _ us hl => match us, hl with | [_, _, _, _, _], _ => rfl
theorem bi__law_least_right {K : PySem.W.Frag} {f : Addr} {fd : FuncData} (F : Fun K "_law_least_right" "_law_least_right" s__law_least_right f fd) : Binds K fd ["box", "machine", "room", "seen", "further"] [] := F.binds fun _ _ _ _ _ _ us hl => match us, hl with | [_, _, _, _, _], _ => rfl
theorem bi_law {K : PySem.W.Frag} {f : Addr} {fd : FuncData} (F : Fun K "law" "law" s_law f fd) : Binds K fd ["script"] [] := F.binds fun _ _ _ _ _ _ us hl => match us, hl with | [_], _ => rfl
theorem bi_BadBlock {K : PySem.W.Frag} {f : Addr} {fd : FuncData} (F : Fun K "__init__" "BadBlock.__init__" is_BadBlock f fd) : Binds K fd ["self", "block"] [] := F.binds fun _ _ _ _ _ _ us hl => match us, hl with | [_, _], _ => rfl
theorem all_mk {P : Program} {w : World} {K : PySem.W.Frag} {mg : Str → Option Value} {fa : Addr} (hfa : mg "law" = some (.ref fa)) (D_ends_of : DefAt K mg "ends_of" s_ends_of) (D_one_longer : DefAt K mg "one_longer" s_one_longer) (D_tables_of : DefAt K mg "tables_of" s_tables_of) (D_counts_to : DefAt K mg "counts_to" s_counts_to) (D_from_there : DefAt K mg "from_there" s_from_there) (D_row_at : DefAt K mg "row_at" s_row_at) (D_number_of : DefAt K mg "number_of" s_number_of) (D_is_number : DefAt K mg "is_number" s_is_number) (D_are_numbers : DefAt K mg "are_numbers" s_are_numbers) (D_round_count : DefAt K mg "round_count" s_round_count) (D_bits_for : DefAt K mg "bits_for" s_bits_for) (D_least_many : DefAt K mg "least_many" s_least_many) (D_shows_least_many : DefAt K mg "shows_least_many" s_shows_least_many) (D_parts_of : DefAt K mg "parts_of" s_parts_of) (D_as_bits : DefAt K mg "as_bits" s_as_bits) (D_as_number : DefAt K mg "as_number" s_as_number) (D_table_written : DefAt K mg "table_written" s_table_written) (D_block_number : DefAt K mg "block_number" s_block_number) (D_table_read : DefAt K mg "table_read" s_table_read) (D__law_cell_at : DefAt K mg "_law_cell_at" s__law_cell_at) (D__law_box : DefAt K mg "_law_box" s__law_box) (D__law_take : DefAt K mg "_law_take" s__law_take) (D__law_ring_machine : DefAt K mg "_law_ring_machine" s__law_ring_machine) (D__law_rounds : DefAt K mg "_law_rounds" s__law_rounds) (D__law_leads : DefAt K mg "_law_leads" s__law_leads) (D__law_bad_block : DefAt K mg "_law_bad_block" s__law_bad_block) (D__law_table_right : DefAt K mg "_law_table_right" s__law_table_right) (D__law_least_right : DefAt K mg "_law_least_right" s__law_least_right) (D_law : DefAt K mg "law" s_law) (E_BadBlock : OwnAt K mg "BadBlock" "BadBlock.__init__" "block" a_BadBlock is_BadBlock) (E_NoRow : ClsAt K mg "NoRow" a_NoRow) (S_NoRow_NoRow : PySem.W.subIn K (.ref a_NoRow) (.ref a_NoRow) = some true) (z_abs : mg "abs" = none) (z_all : mg "all" = none) (z_any : mg "any" = none) (z_bool : mg "bool" = none) (z_enumerate : mg "enumerate" = none) (z_int : mg "int" = none) (z_isinstance : mg "isinstance" = none) (z_len : mg "len" = none) (z_list : mg "list" = none) (z_max : mg "max" = none) (z_min : mg "min" = none) (z_range : mg "range" = none) (z_sum : mg "sum" = none) (z_tuple : mg "tuple" = none) :
    ∃ fd : FuncData, (∀ (s : Shared) (v : Value), BindsTo s fd ⟨[v], []⟩ [("script", v)]) ∧ ∀ base : Heap, K.In base → base.Ns mainGlobals mg → FnOk P w K mg base (L2.CX P w) 10 fa fd ["script"] (spP K c_law) := by
  obtain ⟨f_ends_of, d_ends_of, F_ends_of, g_ends_of⟩ := D_ends_of
  obtain ⟨f_one_longer, d_one_longer, F_one_longer, g_one_longer⟩ := D_one_longer
  obtain ⟨f_tables_of, d_tables_of, F_tables_of, g_tables_of⟩ := D_tables_of
  obtain ⟨f_counts_to, d_counts_to, F_counts_to, g_counts_to⟩ := D_counts_to
  obtain ⟨f_from_there, d_from_there, F_from_there, g_from_there⟩ := D_from_there
  obtain ⟨f_row_at, d_row_at, F_row_at, g_row_at⟩ := D_row_at
  obtain ⟨f_number_of, d_number_of, F_number_of, g_number_of⟩ := D_number_of
  obtain ⟨f_is_number, d_is_number, F_is_number, g_is_number⟩ := D_is_number
  obtain ⟨f_are_numbers, d_are_numbers, F_are_numbers, g_are_numbers⟩ := D_are_numbers
  obtain ⟨f_round_count, d_round_count, F_round_count, g_round_count⟩ := D_round_count
  obtain ⟨f_bits_for, d_bits_for, F_bits_for, g_bits_for⟩ := D_bits_for
  obtain ⟨f_least_many, d_least_many, F_least_many, g_least_many⟩ := D_least_many
  obtain ⟨f_shows_least_many, d_shows_least_many, F_shows_least_many, g_shows_least_many⟩ := D_shows_least_many
  obtain ⟨f_parts_of, d_parts_of, F_parts_of, g_parts_of⟩ := D_parts_of
  obtain ⟨f_as_bits, d_as_bits, F_as_bits, g_as_bits⟩ := D_as_bits
  obtain ⟨f_as_number, d_as_number, F_as_number, g_as_number⟩ := D_as_number
  obtain ⟨f_table_written, d_table_written, F_table_written, g_table_written⟩ := D_table_written
  obtain ⟨f_block_number, d_block_number, F_block_number, g_block_number⟩ := D_block_number
  obtain ⟨f_table_read, d_table_read, F_table_read, g_table_read⟩ := D_table_read
  obtain ⟨f__law_cell_at, d__law_cell_at, F__law_cell_at, g__law_cell_at⟩ := D__law_cell_at
  obtain ⟨f__law_box, d__law_box, F__law_box, g__law_box⟩ := D__law_box
  obtain ⟨f__law_take, d__law_take, F__law_take, g__law_take⟩ := D__law_take
  obtain ⟨f__law_ring_machine, d__law_ring_machine, F__law_ring_machine, g__law_ring_machine⟩ := D__law_ring_machine
  obtain ⟨f__law_rounds, d__law_rounds, F__law_rounds, g__law_rounds⟩ := D__law_rounds
  obtain ⟨f__law_leads, d__law_leads, F__law_leads, g__law_leads⟩ := D__law_leads
  obtain ⟨f__law_bad_block, d__law_bad_block, F__law_bad_block, g__law_bad_block⟩ := D__law_bad_block
  obtain ⟨f__law_table_right, d__law_table_right, F__law_table_right, g__law_table_right⟩ := D__law_table_right
  obtain ⟨f__law_least_right, d__law_least_right, F__law_least_right, g__law_least_right⟩ := D__law_least_right
  obtain ⟨f_law, d_law, F_law, g_law⟩ := D_law
  obtain ⟨fi_BadBlock, di_BadBlock, br_BadBlock, FI_BadBlock, o_BadBlock, i_BadBlock, t_BadBlock, g_BadBlock, x_BadBlock, f_BadBlock, n_BadBlock, gb_BadBlock, sb_BadBlock, rb_BadBlock, cb_BadBlock⟩ := E_BadBlock
  have e := hfa.symm.trans g_law
  cases e
  have T : Tx K mg ⟨fi_BadBlock, di_BadBlock, br_BadBlock, f_ends_of, d_ends_of, f_one_longer, d_one_longer, f_tables_of, d_tables_of, f_counts_to, d_counts_to, f_from_there, d_from_there, f_row_at, d_row_at, f_number_of, d_number_of, f_is_number, d_is_number, f_are_numbers, d_are_numbers, f_round_count, d_round_count, f_bits_for, d_bits_for, f_least_many, d_least_many, f_shows_least_many, d_shows_least_many, f_parts_of, d_parts_of, f_as_bits, d_as_bits, f_as_number, d_as_number, f_table_written, d_table_written, f_block_number, d_block_number, f_table_read, d_table_read, f__law_cell_at, d__law_cell_at, f__law_box, d__law_box, f__law_take, d__law_take, f__law_ring_machine, d__law_ring_machine, f__law_rounds, d__law_rounds, f__law_leads, d__law_leads, f__law_bad_block, d__law_bad_block, f__law_table_right, d__law_table_right, f__law_least_right, d__law_least_right, fa, d_law⟩ := ⟨F_ends_of, g_ends_of, bi_ends_of F_ends_of, F_one_longer, g_one_longer, bi_one_longer F_one_longer, F_tables_of, g_tables_of, bi_tables_of F_tables_of, F_counts_to, g_counts_to, bi_counts_to F_counts_to, F_from_there, g_from_there, bi_from_there F_from_there, F_row_at, g_row_at, bi_row_at F_row_at, F_number_of, g_number_of, bi_number_of F_number_of, F_is_number, g_is_number, bi_is_number F_is_number, F_are_numbers, g_are_numbers, bi_are_numbers F_are_numbers, F_round_count, g_round_count, bi_round_count F_round_count, F_bits_for, g_bits_for, bi_bits_for F_bits_for, F_least_many, g_least_many, bi_least_many F_least_many, F_shows_least_many, g_shows_least_many, bi_shows_least_many F_shows_least_many, F_parts_of, g_parts_of, bi_parts_of F_parts_of, F_as_bits, g_as_bits, bi_as_bits F_as_bits, F_as_number, g_as_number, bi_as_number F_as_number, F_table_written, g_table_written, bi_table_written F_table_written, F_block_number, g_block_number, bi_block_number F_block_number, F_table_read, g_table_read, bi_table_read F_table_read, F__law_cell_at, g__law_cell_at, bi__law_cell_at F__law_cell_at, F__law_box, g__law_box, bi__law_box F__law_box, F__law_take, g__law_take, bi__law_take F__law_take, F__law_ring_machine, g__law_ring_machine, bi__law_ring_machine F__law_ring_machine, F__law_rounds, g__law_rounds, bi__law_rounds F__law_rounds, F__law_leads, g__law_leads, bi__law_leads F__law_leads, F__law_bad_block, g__law_bad_block, bi__law_bad_block F__law_bad_block, F__law_table_right, g__law_table_right, bi__law_table_right F__law_table_right, F__law_least_right, g__law_least_right, bi__law_least_right F__law_least_right, F_law, g_law, bi_law F_law, FI_BadBlock, o_BadBlock, i_BadBlock, t_BadBlock, bi_BadBlock FI_BadBlock, g_BadBlock, x_BadBlock, f_BadBlock, n_BadBlock, gb_BadBlock, sb_BadBlock, rb_BadBlock, cb_BadBlock, E_NoRow, S_NoRow_NoRow, z_abs, z_all, z_any, z_bool, z_enumerate, z_int, z_isinstance, z_len, z_list, z_max, z_min, z_range, z_sum, z_tuple⟩
  have G := fun base => G_law (P := P) (w := w) (base := base) T
  obtain ⟨oc, od, kV, doc, pm, an, cdv, ct, osl, rfl, lk, hcd⟩ := F_law.ex
  exact ⟨PySem.W.fnOf "law" "law" (defArgs s_law) (defBody s_law) (defScope s_law) .none kV doc pm an cdv ct, fun s v => .of_eq rfl, fun base _ _ => G base⟩
end K80
open PySem PySem.W PyProof.Rows
set_option maxHeartbeats 0 in
theorem PySem.Challenge.cw_runbound_k80_whole_long_tables_holds : PySem.Challenge.rw_runbound_k80_whole_long_tables.Holds := by
  w_on; o_law; k_head; (case hw => w_witness2)
  k_fill
  refine L2.walk_of (l := PySem.Challenge.rw_runbound_k80_whole_long_tables) (n := 63) (k := 10) (x := "script") (CX := fun w => L2.CX PySem.Challenge.rw_runbound_k80_whole_long_tables.prog w) (sp := fun w => G.spP _ K80.c_law) rfl (by decide) rfl ⟨rfl, by decide, by decide⟩ (fun w h Y => PySem.W.kIn_of Y) ?F (fun _ H a ns hl _ hS => G.law_holds K80.law_ok H a ns hl hS) (fun _ _ _ _ _ h => G.no_exc h)
  case F =>
    intro w mg fa h KX hG hmg
    have D_ends_of : G.DefIn KX mg "ends_of" K80.s_ends_of := by
      refine' G.def_mk KX hG ?a ?l ?c ?k
      (case a => k_is); (case l => k_is); (case c => k_is); (case k => k_is)
    have D_one_longer : G.DefIn KX mg "one_longer" K80.s_one_longer := by
      refine' G.def_mk KX hG ?a ?l ?c ?k
      (case a => k_is); (case l => k_is); (case c => k_is); (case k => k_is)
    have D_tables_of : G.DefIn KX mg "tables_of" K80.s_tables_of := by
      refine' G.def_mk KX hG ?a ?l ?c ?k
      (case a => k_is); (case l => k_is); (case c => k_is); (case k => k_is)
    have D_counts_to : G.DefIn KX mg "counts_to" K80.s_counts_to := by
      refine' G.def_mk KX hG ?a ?l ?c ?k
      (case a => k_is); (case l => k_is); (case c => k_is); (case k => k_is)
    have D_from_there : G.DefIn KX mg "from_there" K80.s_from_there := by
      refine' G.def_mk KX hG ?a ?l ?c ?k
      (case a => k_is); (case l => k_is); (case c => k_is); (case k => k_is)
    have D_row_at : G.DefIn KX mg "row_at" K80.s_row_at := by
      refine' G.def_mk KX hG ?a ?l ?c ?k
      (case a => k_is); (case l => k_is); (case c => k_is); (case k => k_is)
    have D_number_of : G.DefIn KX mg "number_of" K80.s_number_of := by
      refine' G.def_mk KX hG ?a ?l ?c ?k
      (case a => k_is); (case l => k_is); (case c => k_is); (case k => k_is)
    have D_is_number : G.DefIn KX mg "is_number" K80.s_is_number := by
      refine' G.def_mk KX hG ?a ?l ?c ?k
      (case a => k_is); (case l => k_is); (case c => k_is); (case k => k_is)
    have D_are_numbers : G.DefIn KX mg "are_numbers" K80.s_are_numbers := by
      refine' G.def_mk KX hG ?a ?l ?c ?k
      (case a => k_is); (case l => k_is); (case c => k_is); (case k => k_is)
    have D_round_count : G.DefIn KX mg "round_count" K80.s_round_count := by
      refine' G.def_mk KX hG ?a ?l ?c ?k
      (case a => k_is); (case l => k_is); (case c => k_is); (case k => k_is)
    have D_bits_for : G.DefIn KX mg "bits_for" K80.s_bits_for := by
      refine' G.def_mk KX hG ?a ?l ?c ?k
      (case a => k_is); (case l => k_is); (case c => k_is); (case k => k_is)
    have D_least_many : G.DefIn KX mg "least_many" K80.s_least_many := by
      refine' G.def_mk KX hG ?a ?l ?c ?k
      (case a => k_is); (case l => k_is); (case c => k_is); (case k => k_is)
    have D_shows_least_many : G.DefIn KX mg "shows_least_many" K80.s_shows_least_many := by
      refine' G.def_mk KX hG ?a ?l ?c ?k
      (case a => k_is); (case l => k_is); (case c => k_is); (case k => k_is)
    have D_parts_of : G.DefIn KX mg "parts_of" K80.s_parts_of := by
      refine' G.def_mk KX hG ?a ?l ?c ?k
      (case a => k_is); (case l => k_is); (case c => k_is); (case k => k_is)
    have D_as_bits : G.DefIn KX mg "as_bits" K80.s_as_bits := by
      refine' G.def_mk KX hG ?a ?l ?c ?k
      (case a => k_is); (case l => k_is); (case c => k_is); (case k => k_is)
    have D_as_number : G.DefIn KX mg "as_number" K80.s_as_number := by
      refine' G.def_mk KX hG ?a ?l ?c ?k
      (case a => k_is); (case l => k_is); (case c => k_is); (case k => k_is)
    have D_table_written : G.DefIn KX mg "table_written" K80.s_table_written := by
      refine' G.def_mk KX hG ?a ?l ?c ?k
      (case a => k_is); (case l => k_is); (case c => k_is); (case k => k_is)
    have D_block_number : G.DefIn KX mg "block_number" K80.s_block_number := by
      refine' G.def_mk KX hG ?a ?l ?c ?k
      (case a => k_is); (case l => k_is); (case c => k_is); (case k => k_is)
    have D_table_read : G.DefIn KX mg "table_read" K80.s_table_read := by
      refine' G.def_mk KX hG ?a ?l ?c ?k
      (case a => k_is); (case l => k_is); (case c => k_is); (case k => k_is)
    have D__law_cell_at : G.DefIn KX mg "_law_cell_at" K80.s__law_cell_at := by
      refine' G.def_mk KX hG ?a ?l ?c ?k
      (case a => k_is); (case l => k_is); (case c => k_is); (case k => k_is)
    have D__law_box : G.DefIn KX mg "_law_box" K80.s__law_box := by
      refine' G.def_mk KX hG ?a ?l ?c ?k
      (case a => k_is); (case l => k_is); (case c => k_is); (case k => k_is)
    have D__law_take : G.DefIn KX mg "_law_take" K80.s__law_take := by
      refine' G.def_mk KX hG ?a ?l ?c ?k
      (case a => k_is); (case l => k_is); (case c => k_is); (case k => k_is)
    have D__law_ring_machine : G.DefIn KX mg "_law_ring_machine" K80.s__law_ring_machine := by
      refine' G.def_mk KX hG ?a ?l ?c ?k
      (case a => k_is); (case l => k_is); (case c => k_is); (case k => k_is)
    have D__law_rounds : G.DefIn KX mg "_law_rounds" K80.s__law_rounds := by
      refine' G.def_mk KX hG ?a ?l ?c ?k
      (case a => k_is); (case l => k_is); (case c => k_is); (case k => k_is)
    have D__law_leads : G.DefIn KX mg "_law_leads" K80.s__law_leads := by
      refine' G.def_mk KX hG ?a ?l ?c ?k
      (case a => k_is); (case l => k_is); (case c => k_is); (case k => k_is)
    have D__law_bad_block : G.DefIn KX mg "_law_bad_block" K80.s__law_bad_block := by
      refine' G.def_mk KX hG ?a ?l ?c ?k
      (case a => k_is); (case l => k_is); (case c => k_is); (case k => k_is)
    have D__law_table_right : G.DefIn KX mg "_law_table_right" K80.s__law_table_right := by
      refine' G.def_mk KX hG ?a ?l ?c ?k
      (case a => k_is); (case l => k_is); (case c => k_is); (case k => k_is)
    have D__law_least_right : G.DefIn KX mg "_law_least_right" K80.s__law_least_right := by
      refine' G.def_mk KX hG ?a ?l ?c ?k
      (case a => k_is); (case l => k_is); (case c => k_is); (case k => k_is)
    have D_law : G.DefIn KX mg "law" K80.s_law := by
      refine' G.def_mk KX hG ?a ?l ?c ?k
      (case a => k_is); (case l => k_is); (case c => k_is); (case k => k_is)
    have E_BadBlock : G.OwnIn KX mg "BadBlock" "BadBlock.__init__" "block" K80.a_BadBlock K80.is_BadBlock := by
      refine' G.own_mk KX hG ?aC ?xL ?rv ?sa ?ga ?gg ?nb ?a1 ?t1 ?l1 ?c1 ?k1 ?kC ?eC ?tC ?hC ?iC ?sC ?aR ?sb ?rb ?cb
      (case aC => k_is)
      (case xL => k_is)
      (case rv => decide +kernel)
      (case sa => k_is)
      (case ga => k_is)
      (case gg => k_is)
      (case nb => k_is)
      (case a1 => k_is)
      (case t1 => k_is)
      (case l1 => k_is)
      (case c1 => k_is)
      (case k1 => k_is)
      (case kC => k_is)
      (case eC => k_is)
      (case tC => k_is)
      (case hC => k_is)
      (case iC => k_is)
      (case sC => first | rfl | k_is)
      (case aR => k_is)
      (case sb => k_is)
      (case rb => k_is)
      (case cb => k_is)
    have E_NoRow : G.ClsIn KX mg "NoRow" K80.a_NoRow := by
      refine' G.cls_mk KX hG ?a ?e ?k ?b ?t ?i
      (case a => k_is); (case e => k_exc); (case k => k_is); (case b => k_is); (case t => k_is); (case i => k_is)
    have S_NoRow_NoRow : G.SubIn KX K80.a_NoRow K80.a_NoRow true := by
      refine' G.sub_mk KX ?s
      (case s => first | rfl | k_is)
    have z_abs : mg "abs" = none := by
      refine' PySem.W.mg_none_of KX hG ?z
      (case z => k_is)
    have z_all : mg "all" = none := by
      refine' PySem.W.mg_none_of KX hG ?z
      (case z => k_is)
    have z_any : mg "any" = none := by
      refine' PySem.W.mg_none_of KX hG ?z
      (case z => k_is)
    have z_bool : mg "bool" = none := by
      refine' PySem.W.mg_none_of KX hG ?z
      (case z => k_is)
    have z_enumerate : mg "enumerate" = none := by
      refine' PySem.W.mg_none_of KX hG ?z
      (case z => k_is)
    have z_int : mg "int" = none := by
      refine' PySem.W.mg_none_of KX hG ?z
      (case z => k_is)
    have z_isinstance : mg "isinstance" = none := by
      refine' PySem.W.mg_none_of KX hG ?z
      (case z => k_is)
    have z_len : mg "len" = none := by
      refine' PySem.W.mg_none_of KX hG ?z
      (case z => k_is)
    have z_list : mg "list" = none := by
      refine' PySem.W.mg_none_of KX hG ?z
      (case z => k_is)
    have z_max : mg "max" = none := by
      refine' PySem.W.mg_none_of KX hG ?z
      (case z => k_is)
    have z_min : mg "min" = none := by
      refine' PySem.W.mg_none_of KX hG ?z
      (case z => k_is)
    have z_range : mg "range" = none := by
      refine' PySem.W.mg_none_of KX hG ?z
      (case z => k_is)
    have z_sum : mg "sum" = none := by
      refine' PySem.W.mg_none_of KX hG ?z
      (case z => k_is)
    have z_tuple : mg "tuple" = none := by
      refine' PySem.W.mg_none_of KX hG ?z
      (case z => k_is)
    exact K80.all_mk hmg D_ends_of D_one_longer D_tables_of D_counts_to D_from_there D_row_at D_number_of D_is_number D_are_numbers D_round_count D_bits_for D_least_many D_shows_least_many D_parts_of D_as_bits D_as_number D_table_written D_block_number D_table_read D__law_cell_at D__law_box D__law_take D__law_ring_machine D__law_rounds D__law_leads D__law_bad_block D__law_table_right D__law_least_right D_law E_BadBlock E_NoRow S_NoRow_NoRow z_abs z_all z_any z_bool z_enumerate z_int z_isinstance z_len z_list z_max z_min z_range z_sum z_tuple

