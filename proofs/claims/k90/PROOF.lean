import PyProof.Rows.All
import Wide.All
import OpenK.AllK
import Wide.FinOn
import HandS.ForMost
import HandS.ForExc
import HandS.Wide
import HandS.WideBits
import HandS.RaiseMore
import HandS.More
import HandS.Style
import HandS.TryOnly
import KE.GoesEnum
import PySem.Challenge.RW_runbound_k90_whole_long_rows_spoilt
set_option Elab.async false
set_option linter.all false
set_option maxRecDepth 100000
set_option maxHeartbeats 4000000
/-! G: plain data over the hand layer: what a variable holds (frozen data, or a list of its own), readings over that -/
namespace G
open PySem PySem.Spec PyProof.Rows L2

/-- plain data -/
inductive D where
  | non | bl (b : Bool) | int (i : Int) | str (x : Str) | lst (xs : List D) | tup (xs : List D) | scr (ns : List Int)
/-- what an own object holds -/
inductive C where
  | lst (xs : List D) | dk (kvs : List (Key × D)) | dt (kvs : List (List Key × D))
/-- a slot: unknown, data that stays, an own object (pinned at its address where t says so) -/
inductive S where
  | un | fz (d : D) | ow (t : Option Addr) (c : C)
/-- an exception: of a class alone, or with one field -/
inductive Ex where
  | pl (c : Addr) | fd (c : Addr) (f : Str) (v : V)

section
variable (K : PySem.W.Frag) (F : Hp)
mutual
inductive Rep : V → D → Prop
  | non : Rep .non .non
  | bl (b : Bool) : Rep (.bl b) (.bl b)
  | int (i : Int) : Rep (.int i) (.int i)
  | str (x : Str) : Rep (.str x) (.str x)
  | lst {a : Addr} {vs : List V} {ds : List D} : F a = some (.lst vs) → Reps vs ds → Rep (.ref a) (.lst ds)
  | tup {a : Addr} {vs : List V} {ds : List D} : F a = some (.tup vs) → Reps vs ds → Rep (.ref a) (.tup ds)
  | scr {a : Addr} {ns : List Int} : SqL K F a (ns.map V.int) → Rep (.ref a) (.scr ns)
inductive Reps : List V → List D → Prop
  | nil : Reps [] []
  | cons {v : V} {vs : List V} {d : D} {ds : List D} : Rep v d → Reps vs ds → Reps (v :: vs) (d :: ds)
end
inductive RepKV {κ : Type} : List (κ × V) → List (κ × D) → Prop
  | nil : RepKV [] []
  | cons {k : κ} {v : V} {d : D} {r : List (κ × V)} {s : List (κ × D)} : Rep K F v d → RepKV r s → RepKV ((k, v) :: r) ((k, d) :: s)
inductive RepC : HO → C → Prop
  | lst {vs : List V} {ds : List D} : Reps K F vs ds → RepC (.lst vs) (.lst ds)
  | dk {a : List (Key × V)} {b : List (Key × D)} : RepKV K F a b → RepC (.dK a) (.dk b)
  | dt {a : List (List Key × V)} {b : List (List Key × D)} : RepKV K F a b → RepC (.dT a) (.dt b)
end

section
variable {K : PySem.W.Frag} {F F' : Hp}
mutual
theorem Rep.mono' (h : Same F F') : ∀ (d : D) (v : V), Rep K F v d → Rep K F' v d
  | .non, _, .non => .non
  | .bl _, _, .bl _ => .bl _
  | .int _, _, .int _ => .int _
  | .str _, _, .str _ => .str _
  | .lst ds, _, .lst e r => .lst (h _ _ e) (Reps.mono' h ds _ r)
  | .tup ds, _, .tup e r => .tup (h _ _ e) (Reps.mono' h ds _ r)
  | .scr _, _, .scr e => .scr (h.seq e)
theorem Reps.mono' (h : Same F F') : ∀ (ds : List D) (vs : List V), Reps K F vs ds → Reps K F' vs ds
  | [], _, .nil => .nil
  | d :: ds, _, .cons r t => .cons (Rep.mono' h d _ r) (Reps.mono' h ds _ t)
end
theorem Rep.mono {d : D} {v : V} (r : Rep K F v d) (h : Same F F') : Rep K F' v d := Rep.mono' h d v r
theorem Reps.mono {ds : List D} {vs : List V} (r : Reps K F vs ds) (h : Same F F') : Reps K F' vs ds := Reps.mono' h ds vs r
theorem RepKV.mono {κ : Type} {a : List (κ × V)} {b : List (κ × D)} (r : RepKV K F a b) (h : Same F F') : RepKV K F' a b := by
  induction r with
  | nil => exact .nil
  | cons q _ ih => exact .cons (q.mono h) ih
theorem RepC.mono {o : HO} {c : C} (r : RepC K F o c) (h : Same F F') : RepC K F' o c := by
  cases r with
  | lst q => exact .lst (q.mono h)
  | dk q => exact .dk (q.mono h)
  | dt q => exact .dt (q.mono h)
theorem Reps.length : ∀ {vs : List V} {ds : List D}, Reps K F vs ds → vs.length = ds.length
  | [], _, h => by cases h; rfl
  | _ :: vs, _, h => by
    cases h with
    | cons _ t => show vs.length + 1 = _; rw [Reps.length t]; rfl
theorem Reps.get : ∀ {vs : List V} {ds : List D} (i : Nat) {d : D}, Reps K F vs ds → ds[i]? = some d → ∃ v, vs[i]? = some v ∧ Rep K F v d
  | [], _, i, _, h, e => by cases h; simp at e
  | v :: vs, _, i, d, h, e => by
    cases h with
    | cons r t =>
      cases i with
      | zero => simp at e; subst e; exact ⟨v, rfl, r⟩
      | succ i => simp at e; simpa using Reps.get i t e
theorem Reps.append {vs vs' : List V} {ds ds' : List D} (a : Reps K F vs ds) (b : Reps K F vs' ds') : Reps K F (vs ++ vs') (ds ++ ds') := by
  induction vs generalizing ds with
  | nil => cases a; exact b
  | cons v vs ih => cases a with | cons r t => exact .cons r (ih t)
theorem Reps.take {vs : List V} {ds : List D} (n : Nat) (a : Reps K F vs ds) : Reps K F (vs.take n) (ds.take n) := by
  induction vs generalizing ds n with
  | nil => cases a; simpa using Reps.nil
  | cons v vs ih => cases a with
    | cons r t => cases n with
      | zero => exact .nil
      | succ n => exact .cons r (ih n t)
theorem Reps.drop {vs : List V} {ds : List D} (n : Nat) (a : Reps K F vs ds) : Reps K F (vs.drop n) (ds.drop n) := by
  induction vs generalizing ds n with
  | nil => cases a; simpa using Reps.nil
  | cons v vs ih => cases a with
    | cons r t => cases n with
      | zero => exact .cons r t
      | succ n => exact ih n t
theorem Reps.set {vs : List V} {ds : List D} {v : V} {d : D} (n : Nat) (a : Reps K F vs ds) (r : Rep K F v d) : Reps K F (vs.set n v) (ds.set n d) := by
  induction vs generalizing ds n with
  | nil => cases a; simpa using Reps.nil
  | cons v vs ih => cases a with
    | cons q t => cases n with
      | zero => exact .cons r t
      | succ n => exact .cons q (ih n t)
theorem Reps.rev {vs : List V} {ds : List D} (a : Reps K F vs ds) : Reps K F vs.reverse ds.reverse := by
  induction vs generalizing ds with
  | nil => cases a; exact .nil
  | cons v vs ih => cases a with
    | cons r t => simp only [List.reverse_cons]; exact (ih t).append (.cons r .nil)
theorem Reps.eraseIdx {vs : List V} {ds : List D} (n : Nat) (a : Reps K F vs ds) : Reps K F (vs.eraseIdx n) (ds.eraseIdx n) := by
  induction vs generalizing ds n with
  | nil => cases a; simpa using Reps.nil
  | cons v vs ih => cases a with
    | cons q t => cases n with
      | zero => exact t
      | succ n => exact .cons q (ih n t)
/-- ints, texts, truths: their values -/
def dV : D → Option V
  | .non => some .non
  | .bl b => some (.bl b)
  | .int i => some (.int i)
  | .str x => some (.str x)
  | _ => none
theorem Rep.int_inv {v : V} {i : Int} (r : Rep K F v (.int i)) : v = .int i := by cases r; rfl
theorem Rep.str_inv {v : V} {x : Str} (r : Rep K F v (.str x)) : v = .str x := by cases r; rfl
theorem Rep.bl_inv {v : V} {b : Bool} (r : Rep K F v (.bl b)) : v = .bl b := by cases r; rfl
theorem Rep.non_inv {v : V} (r : Rep K F v .non) : v = .non := by cases r; rfl
theorem Rep.lst_inv {v : V} {ds : List D} (r : Rep K F v (.lst ds)) : ∃ a vs, v = .ref a ∧ F a = some (.lst vs) ∧ Reps K F vs ds := by
  cases r with | lst e r => exact ⟨_, _, rfl, e, r⟩
theorem Rep.tup_inv {v : V} {ds : List D} (r : Rep K F v (.tup ds)) : ∃ a vs, v = .ref a ∧ F a = some (.tup vs) ∧ Reps K F vs ds := by
  cases r with | tup e r => exact ⟨_, _, rfl, e, r⟩
theorem Rep.scr_inv {v : V} {ns : List Int} (r : Rep K F v (.scr ns)) : ∃ a, v = .ref a ∧ SqL K F a (ns.map V.int) := by
  cases r with | scr e => exact ⟨_, rfl, e⟩
theorem Reps.ints : ∀ {vs : List V} {ns : List Int}, Reps K F vs (ns.map D.int) → vs = ns.map V.int
  | _, [], h => by cases h; rfl
  | _, n :: ns, h => by cases h with | cons r t => rw [r.int_inv, Reps.ints t]; rfl
theorem Reps.strs : ∀ {vs : List V} {ns : List Str}, Reps K F vs (ns.map D.str) → vs = ns.map V.str
  | _, [], h => by cases h; rfl
  | _, n :: ns, h => by cases h with | cons r t => rw [r.str_inv, Reps.strs t]; rfl
theorem Reps.bls : ∀ {vs : List V} {ns : List Bool}, Reps K F vs (ns.map D.bl) → vs = ns.map V.bl
  | _, [], h => by cases h; rfl
  | _, n :: ns, h => by cases h with | cons r t => rw [r.bl_inv, Reps.bls t]; rfl
end

/-! ### states -/
/-- the slots, the own objects' addresses in order -/
inductive RS (K : PySem.W.Frag) (F H : Hp) : List Addr → List S → L2.St → Prop
  | nil : RS K F H [] [] []
  | un {A : List Addr} {ρ : List S} {σ : L2.St} {o : Option V} : RS K F H A ρ σ → RS K F H A (.un :: ρ) (o :: σ)
  | fz {A : List Addr} {ρ : List S} {σ : L2.St} {v : V} {d : D} : Rep K F v d → RS K F H A ρ σ → RS K F H A (.fz d :: ρ) (some v :: σ)
  | ow {A : List Addr} {ρ : List S} {σ : L2.St} {p : Addr} {o : HO} {c : C} {t : Option Addr} : H p = some o → RepC K F o c → F p = none → p ∉ A → (∀ q, t = some q → q = p) → RS K F H A ρ σ →
      RS K F H (p :: A) (.ow t c :: ρ) (some (V.ref p) :: σ)
structure R (K : PySem.W.Frag) (F : Hp) (A : List Addr) (ρ : List S) (σ : L2.St) (H : Hp) : Prop where
  same : Same F H
  rs : RS K F H A ρ σ
structure Stp (F H : Hp) (A : List Addr) (F' H' : Hp) (A' : List Addr) : Prop where
  ext : Same F F'
  kp : ∀ p o, H p = some o → p ∉ A → H' p = some o
  fr : ∀ p o, H p = some o → p ∉ A → F' p = F p
  sub : ∀ p, p ∈ A' → p ∈ A ∨ H p = none
  dom : ∀ p, H' p = none → H p = none
theorem Stp.refl {F H : Hp} {A : List Addr} : Stp F H A F H A := ⟨Same.refl F, fun _ _ h _ => h, fun _ _ _ _ => rfl, fun _ h => .inl h, fun _ h => h⟩
theorem Stp.trans {F H F1 H1 F2 H2 : Hp} {A A1 A2 : List Addr} (a : Stp F H A F1 H1 A1) (b : Stp F1 H1 A1 F2 H2 A2) : Stp F H A F2 H2 A2 := by
  have nA : ∀ p o, H p = some o → p ∉ A → p ∉ A1 := fun p o h n hp => by
    rcases a.sub p hp with z | z
    · exact n z
    · rw [h] at z; cases z
  refine ⟨a.ext.trans b.ext, fun p o h n => b.kp p o (a.kp p o h n) (nA p o h n), fun p o h n => (b.fr p o (a.kp p o h n) (nA p o h n)).trans (a.fr p o h n), fun p h => ?_, fun p h => a.dom p (b.dom p h)⟩
  rcases b.sub p h with z | z
  · exact a.sub p z
  · cases q : H p with
    | none => exact .inr rfl
    | some o =>
      by_cases hp : p ∈ A
      · exact .inl hp
      · rw [a.kp p o q hp] at z; cases z
/-- nothing but new objects -/
structure New (F H F' H' : Hp) : Prop where
  ext : Same F F'
  kp : Same H H'
  sm : Same F' H'
  fr : ∀ p o, H p = some o → F' p = F p
theorem New.refl {F H : Hp} (s : Same F H) : New F H F H := ⟨Same.refl F, Same.refl H, s, fun _ _ _ => rfl⟩
theorem New.stp {F H F' H' : Hp} {A : List Addr} (n : New F H F' H') : Stp F H A F' H' A := ⟨n.ext, fun p o h _ => n.kp p o h, fun p o h _ => n.fr p o h, fun _ h => .inl h, fun _ h => n.kp.free h⟩
theorem New.trans {F H F1 H1 F2 H2 : Hp} (a : New F H F1 H1) (b : New F1 H1 F2 H2) : New F H F2 H2 :=
  ⟨a.ext.trans b.ext, a.kp.trans b.kp, b.sm, fun p o h => (b.fr p o (a.kp p o h)).trans (a.fr p o h)⟩
theorem upd_eq {H : Hp} {p q : Addr} {o : HO} : upd H p o q = if q = p then some o else H q := rfl
theorem same_upd2 {F H : Hp} {p : Addr} {o : HO} (s : Same F H) : Same (upd F p o) (upd H p o) := fun q u e => by
  rw [upd_eq] at e ⊢
  split at e
  · rename_i h; rw [if_pos h]; exact e
  · rename_i h; rw [if_neg h]; exact s q u e
theorem same_new {H : Hp} {p : Addr} {o : HO} (h : H p = none) : Same H (upd H p o) := fun q u e => by
  rw [upd_ne (ne_of_none e h)]; exact e
theorem free_of {F H : Hp} {p : Addr} (s : Same F H) (h : H p = none) : F p = none := s.free h
/-- a new object that stays -/
theorem New.mk1 {F H : Hp} {p : Addr} (o : HO) (s : Same F H) (h : H p = none) : New F H (upd F p o) (upd H p o) :=
  ⟨same_new (free_of s h), same_new h, same_upd2 s, fun q u e => upd_ne (ne_of_none e h)⟩
/-- a new object that is not (yet) said to stay -/
theorem New.mk0 {F H : Hp} {p : Addr} (o : HO) (s : Same F H) (h : H p = none) : New F H F (upd H p o) :=
  ⟨Same.refl F, same_new h, s.trans (same_new h), fun _ _ _ => rfl⟩

section
variable {K : PySem.W.Frag} {F F' H H' : Hp} {A : List Addr} {ρ : List S} {σ : L2.St}
theorem RS.length (r : RS K F H A ρ σ) : ρ.length = σ.length := by
  induction r with
  | nil => rfl
  | un _ ih => simp [ih]
  | fz _ _ ih => simp [ih]
  | ow _ _ _ _ _ _ ih => simp [ih]
theorem RS.move (r : RS K F H A ρ σ) (h : Same F F') (k : ∀ p, p ∈ A → H' p = H p ∧ F' p = none) : RS K F' H' A ρ σ := by
  induction r with
  | nil => exact .nil
  | un _ ih => exact .un (ih k)
  | fz q _ ih => exact .fz (q.mono h) (ih k)
  | ow e c n na t _ ih =>
    have k0 := k _ List.mem_cons_self
    exact .ow (k0.1.trans e) (c.mono h) k0.2 na t (ih fun p hp => k p (List.mem_cons_of_mem _ hp))
theorem RS.there (r : RS K F H A ρ σ) : ∀ p, p ∈ A → ∃ o, H p = some o ∧ F p = none := by
  induction r with
  | nil => intro p h; cases h
  | un _ ih => exact ih
  | fz _ _ ih => exact ih
  | ow e _ n _ _ _ ih =>
    intro p h
    rcases List.mem_cons.mp h with z | z
    · subst z; exact ⟨_, e, n⟩
    · exact ih p z
theorem R.new (r : R K F A ρ σ H) (n : New F H F' H') : R K F' A ρ σ H' := ⟨n.sm, r.rs.move n.ext fun p hp => by
  obtain ⟨o, e, f⟩ := r.rs.there p hp
  exact ⟨(n.kp p o e).trans e.symm, (n.fr p o e).trans f⟩⟩
theorem RS.getF (r : RS K F H A ρ σ) : ∀ {i : Nat} {d : D}, ρ[i]? = some (.fz d) → ∃ v, σ[i]? = some (some v) ∧ Rep K F v d := by
  induction r with
  | nil => intro i d e; simp at e
  | un _ ih => intro i d e; cases i with
    | zero => simp at e
    | succ i => simpa using ih (by simpa using e)
  | fz q _ ih => intro i d e; cases i with
    | zero => simp at e; subst e; exact ⟨_, rfl, q⟩
    | succ i => simpa using ih (by simpa using e)
  | ow _ _ _ _ _ _ ih => intro i d e; cases i with
    | zero => simp at e
    | succ i => simpa using ih (by simpa using e)
theorem RS.getO (r : RS K F H A ρ σ) : ∀ {i : Nat} {t : Option Addr} {c : C}, ρ[i]? = some (.ow t c) →
    ∃ p o, σ[i]? = some (some (V.ref p)) ∧ p ∈ A ∧ H p = some o ∧ RepC K F o c ∧ F p = none ∧ ∀ q, t = some q → q = p := by
  induction r with
  | nil => intro i t c e; simp at e
  | un _ ih => intro i t c e; cases i with
    | zero => simp at e
    | succ i => simpa using ih (by simpa using e)
  | fz _ _ ih => intro i t c e; cases i with
    | zero => simp at e
    | succ i => simpa using ih (by simpa using e)
  | ow e1 c1 n1 na t1 _ ih => intro i t c e; cases i with
    | zero =>
      simp at e
      obtain ⟨rfl, rfl⟩ := e
      exact ⟨_, _, rfl, List.mem_cons_self, e1, c1, n1, t1⟩
    | succ i =>
      obtain ⟨p, o, h1, h2, h3⟩ := ih (i := i) (by simpa using e)
      exact ⟨p, o, by simpa using h1, List.mem_cons_of_mem _ h2, h3⟩
/-- data stored -/
theorem RS.setF (r : RS K F H A ρ σ) {v : V} {d : D} (q : Rep K F v d) : ∀ i : Nat, ∃ A', (∀ p, p ∈ A' → p ∈ A) ∧ RS K F H A' (ρ.set i (.fz d)) (σ.set i (some v)) := by
  induction r with
  | nil => intro i; exact ⟨[], fun _ h => h, by simpa using RS.nil⟩
  | un r0 ih => intro i; cases i with
    | zero => exact ⟨_, fun _ h => h, .fz q r0⟩
    | succ i => obtain ⟨A', s, r'⟩ := ih i; exact ⟨A', s, .un r'⟩
  | fz q0 r0 ih => intro i; cases i with
    | zero => exact ⟨_, fun _ h => h, .fz q r0⟩
    | succ i => obtain ⟨A', s, r'⟩ := ih i; exact ⟨A', s, .fz q0 r'⟩
  | ow e c n na t r0 ih => intro i; cases i with
    | zero => exact ⟨_, fun _ h => List.mem_cons_of_mem _ h, .fz q r0⟩
    | succ i =>
      obtain ⟨A', s, r'⟩ := ih i
      refine ⟨_ :: A', fun p h => ?_, .ow e c n (fun z => na (s _ z)) t r'⟩
      rcases List.mem_cons.mp h with z | z
      · rw [z]; exact List.mem_cons_self
      · exact List.mem_cons_of_mem _ (s p z)
/-- a new object of one's own stored -/
theorem RS.setO (r : RS K F H A ρ σ) {p : Addr} {o : HO} {c : C} (hp : p ∉ A) (e : H p = some o) (q : RepC K F o c) (n : F p = none) :
    ∀ i : Nat, ∃ A', (∀ q, q ∈ A' → q ∈ A ∨ q = p) ∧ RS K F H A' (ρ.set i (.ow none c)) (σ.set i (some (V.ref p))) := by
  induction r with
  | nil => intro i; exact ⟨[], fun _ h => .inl h, by simpa using RS.nil⟩
  | un r0 ih => intro i; cases i with
    | zero => exact ⟨p :: _, fun q h => by rcases List.mem_cons.mp h with z | z; exact .inr z; exact .inl z, .ow e q n hp (fun _ z => nomatch z) r0⟩
    | succ i => obtain ⟨A', s, r'⟩ := ih hp i; exact ⟨A', s, .un r'⟩
  | fz q0 r0 ih => intro i; cases i with
    | zero => exact ⟨p :: _, fun q h => by rcases List.mem_cons.mp h with z | z; exact .inr z; exact .inl z, .ow e q n hp (fun _ z => nomatch z) r0⟩
    | succ i => obtain ⟨A', s, r'⟩ := ih hp i; exact ⟨A', s, .fz q0 r'⟩
  | ow e0 c0 n0 na0 t0 r0 ih => intro i
                                have hp' := fun z => hp (List.mem_cons_of_mem _ z)
                                cases i with
    | zero => exact ⟨p :: _, fun q h => by rcases List.mem_cons.mp h with z | z; exact .inr z; exact .inl (List.mem_cons_of_mem _ z), .ow e q n hp' (fun _ z => nomatch z) r0⟩
    | succ i =>
      obtain ⟨A', s, r'⟩ := ih hp' i
      refine ⟨_ :: A', fun q h => ?_, .ow e0 c0 n0 (fun z => ?_) t0 r'⟩
      · rcases List.mem_cons.mp h with z | z
        · exact .inl (by rw [z]; exact List.mem_cons_self)
        · rcases s q z with y | y
          · exact .inl (List.mem_cons_of_mem _ y)
          · exact .inr y
      · rcases s _ z with y | y
        · exact na0 y
        · exact hp (by rw [← y]; exact List.mem_cons_self)
/-- an own object's content changed -/
theorem RS.upd (r : RS K F H A ρ σ) {p : Addr} {o' : HO} {c' : C} (q : RepC K F o' c') : ∀ {i : Nat} {t : Option Addr} {c : C}, ρ[i]? = some (.ow t c) → σ[i]? = some (some (V.ref p)) →
    RS K F (L2.upd H p o') A (ρ.set i (.ow t c')) σ := by
  induction r with
  | nil => intro i t c e; simp at e
  | un r0 ih => intro i t c e e2; cases i with
    | zero => simp at e
    | succ i => exact .un (ih (by simpa using e) (by simpa using e2))
  | fz q0 r0 ih => intro i t c e e2; cases i with
    | zero => simp at e
    | succ i => exact .fz q0 (ih (by simpa using e) (by simpa using e2))
  | ow e0 c0 n0 na0 t0 r0 ih => intro i t c e e2; cases i with
    | zero =>
      simp at e e2
      obtain ⟨rfl, rfl⟩ := e
      subst e2
      exact .ow upd_same q n0 na0 t0 (r0.move (Same.refl F) fun b hb => ⟨upd_ne (fun z => na0 (z ▸ hb)), by obtain ⟨_, _, n⟩ := r0.there b hb; exact n⟩)
    | succ i =>
      have e' := (show _ from by simpa using e : _)
      have e2' := (show _ from by simpa using e2 : _)
      obtain ⟨p1, o1, h1, h2, _⟩ := r0.getO (i := i) (t := t) (c := c) (by simpa using e)
      have z : p1 = p := by
        have y : some (some (V.ref p1)) = some (some (V.ref p)) := h1.symm.trans (by simpa using e2)
        simpa using y
      exact .ow ((upd_ne fun y => na0 (by rw [y, ← z]; exact h2)).trans e0) c0 n0 na0 t0 (ih (by simpa using e) (by simpa using e2))
/-- an own list is frozen -/
theorem RS.freeze (r : RS K F H A ρ σ) : ∀ {i : Nat} {ds : List D}, ρ[i]? = some (.ow none (.lst ds)) →
    ∃ p vs A', σ[i]? = some (some (V.ref p)) ∧ H p = some (.lst vs) ∧ Reps K F vs ds ∧ F p = none ∧ p ∈ A ∧ (∀ q, q ∈ A' → q ∈ A) ∧ p ∉ A' ∧ RS K (L2.upd F p (.lst vs)) H A' (ρ.set i (.fz (.lst ds))) σ := by
  induction r with
  | nil => intro i ds e; simp at e
  | un r0 ih => intro i ds e; cases i with
    | zero => simp at e
    | succ i =>
      obtain ⟨p, vs, A', h1, h2, h3, h4, h5, h6, h7, h8⟩ := ih (i := i) (by simpa using e)
      exact ⟨p, vs, A', by simpa using h1, h2, h3, h4, h5, h6, h7, .un h8⟩
  | fz q0 r0 ih => intro i ds e; cases i with
    | zero => simp at e
    | succ i =>
      obtain ⟨p, vs, A', h1, h2, h3, h4, h5, h6, h7, h8⟩ := ih (i := i) (by simpa using e)
      exact ⟨p, vs, A', by simpa using h1, h2, h3, h4, h5, h6, h7, .fz (q0.mono (same_new h4)) h8⟩
  | ow e0 c0 n0 na0 t0 r0 ih => intro i ds e; cases i with
    | zero =>
      simp at e
      obtain ⟨rfl, rfl⟩ := e
      cases c0 with
      | lst c0 =>
        refine ⟨_, _, _, rfl, e0, c0, n0, List.mem_cons_self, fun q h => List.mem_cons_of_mem _ h, na0, .fz (.lst upd_same (c0.mono (same_new n0))) (r0.move (same_new n0) fun b hb => ⟨rfl, ?_⟩)⟩
        obtain ⟨_, _, n⟩ := r0.there b hb
        exact (upd_ne (fun (z : b = _) => na0 (by rw [← z]; exact hb))).trans n
    | succ i =>
      obtain ⟨p, vs, A', h1, h2, h3, h4, h5, h6, h7, h8⟩ := ih (i := i) (by simpa using e)
      have ne := fun z => na0 (show _ ∈ _ from Eq.mpr (congrArg (· ∈ _) z) h5)
      refine ⟨p, vs, _ :: A', by simpa using h1, h2, h3, h4, List.mem_cons_of_mem _ h5, fun q h => ?_, fun h => ?_, .ow e0 (c0.mono (same_new h4)) ((upd_ne ne).trans n0) (fun z => na0 (h6 _ z)) t0 h8⟩
      · rcases List.mem_cons.mp h with z | z
        · rw [z]; exact List.mem_cons_self
        · exact List.mem_cons_of_mem _ (h6 q z)
      · rcases List.mem_cons.mp h with z | z
        · exact ne z.symm
        · exact h7 z
end
/-- less is known -/
def Wk : List S → List S → Prop
  | [], [] => True
  | a :: as, b :: bs => (a = .un ∨ a = b) ∧ Wk as bs
  | _, _ => False
theorem Wk.refl : ∀ ρ : List S, Wk ρ ρ
  | [] => trivial
  | _ :: r => ⟨.inr rfl, Wk.refl r⟩
theorem RS.weak {K : PySem.W.Frag} {F H : Hp} {A : List Addr} {ρ : List S} {σ : L2.St} (r : RS K F H A ρ σ) : ∀ {ρ' : List S}, Wk ρ' ρ → ∃ A', (∀ p, p ∈ A' → p ∈ A) ∧ RS K F H A' ρ' σ := by
  induction r with
  | nil => intro ρ' w; cases ρ' with
    | nil => exact ⟨[], fun _ h => h, .nil⟩
    | cons _ _ => exact w.elim
  | un r0 ih => intro ρ' w; cases ρ' with
    | nil => exact w.elim
    | cons a as =>
      obtain ⟨A', s, r'⟩ := ih w.2
      rcases w.1 with z | z <;> (subst z; exact ⟨A', s, .un r'⟩)
  | fz q r0 ih => intro ρ' w; cases ρ' with
    | nil => exact w.elim
    | cons a as =>
      obtain ⟨A', s, r'⟩ := ih w.2
      rcases w.1 with z | z
      · subst z; exact ⟨A', s, .un r'⟩
      · subst z; exact ⟨A', s, .fz q r'⟩
  | ow e c n na t r0 ih => intro ρ' w; cases ρ' with
    | nil => exact w.elim
    | cons a as =>
      obtain ⟨A', s, r'⟩ := ih w.2
      rcases w.1 with z | z
      · subst z; exact ⟨A', fun p h => List.mem_cons_of_mem _ (s p h), .un r'⟩
      · subst z
        refine ⟨_ :: A', fun p h => ?_, .ow e c n (fun z => na (s _ z)) t r'⟩
        rcases List.mem_cons.mp h with z | z
        · rw [z]; exact List.mem_cons_self
        · exact List.mem_cons_of_mem _ (s p z)
/-- fewer own addresses -/
theorem Stp.less {F H : Hp} {A A' : List Addr} (s : ∀ p, p ∈ A' → p ∈ A) : Stp F H A F H A' := ⟨Same.refl F, fun _ _ h _ => h, fun _ _ _ _ => rfl, fun p h => .inl (s p h), fun _ h => h⟩
theorem R.weak {K : PySem.W.Frag} {F H : Hp} {A : List Addr} {ρ ρ' : List S} {σ : L2.St} (r : R K F A ρ σ H) (w : Wk ρ' ρ) : ∃ A', Stp F H A F H A' ∧ R K F A' ρ' σ H := by
  obtain ⟨A', s, r'⟩ := r.rs.weak w
  exact ⟨A', Stp.less s, r.same, r'⟩
end G

/-! G: expressions -/
namespace G
open PySem PySem.Spec PyProof.Rows L2

abbrev XP := Ex → List S → Prop
abbrev ME := List S → (D → List S → Prop) → XP → Prop
abbrev MO := List S → (C → List S → Prop) → XP → Prop
abbrev MT := List S → (Bool → List S → Prop) → XP → Prop
abbrev MA := List S → (List D → List S → Prop) → XP → Prop
abbrev MP := List S → (Option Int → List S → Prop) → XP → Prop

inductive ExR (H : Hp) : Ex → Value → Option Addr → Prop
  | pl (c : Addr) : ExR H (.pl c) (.ref c) none
  | fd {c : Addr} {f : Str} {v : V} {d : Addr} : H d = some (.xd [(f, v)]) → ExR H (.fd c f v) (.ref c) (some d)

/-- what an exception comes to -/
def XC (K : PySem.W.Frag) (W : WX) (F H : Hp) (A : List Addr) (σ : L2.St) (PX : XP) : Prop :=
  ∀ x ρ' F' H' A' cls dd, PX x ρ' → Stp F H A F' H' A' → R K F' A' ρ' σ H' → ExR H' x cls dd → W cls dd σ H'
theorem XC.step {K : PySem.W.Frag} {W : WX} {F H F1 H1 : Hp} {A A1 : List Addr} {σ : L2.St} {PX : XP} (h : XC K W F H A σ PX) (s : Stp F H A F1 H1 A1) : XC K W F1 H1 A1 σ PX :=
  fun x ρ' F' H' A' cls dd hx s' r q => h x ρ' F' H' A' cls dd hx (s.trans s') r q

def lift (K : PySem.W.Frag) (W : WX) (m : ME) : TE := fun σ H Q => ∃ F A ρ P PX, R K F A ρ σ H ∧ m ρ P PX ∧
  (∀ d ρ' v F' H' A', P d ρ' → Stp F H A F' H' A' → R K F' A' ρ' σ H' → Rep K F' v d → Q v H') ∧ XC K W F H A σ PX
/-- a new object of one's own -/
def liftO (K : PySem.W.Frag) (W : WX) (m : MO) : TE := fun σ H Q => ∃ F A ρ P PX, R K F A ρ σ H ∧ m ρ P PX ∧
  (∀ c ρ' p o F' H' A', P c ρ' → Stp F H A F' H' A' → R K F' A' ρ' σ H' → p ∉ A' → H p = none → H' p = some o → RepC K F' o c → F' p = none → Q (.ref p) H') ∧ XC K W F H A σ PX
def liftT (K : PySem.W.Frag) (W : WX) (m : MT) : TT := fun σ H Q => ∃ F A ρ P PX, R K F A ρ σ H ∧ m ρ P PX ∧
  (∀ b ρ' F' H' A', P b ρ' → Stp F H A F' H' A' → R K F' A' ρ' σ H' → Q b H') ∧ XC K W F H A σ PX
def liftA (K : PySem.W.Frag) (W : WX) (m : MA) : TA := fun σ H Q => ∃ F A ρ P PX, R K F A ρ σ H ∧ m ρ P PX ∧
  (∀ ds ρ' vs F' H' A', P ds ρ' → Stp F H A F' H' A' → R K F' A' ρ' σ H' → Reps K F' vs ds → Q vs H') ∧ XC K W F H A σ PX
def liftP (K : PySem.W.Frag) (W : WX) (m : MP) : TO := fun σ H Q => ∃ F A ρ P PX, R K F A ρ σ H ∧ m ρ P PX ∧
  (∀ o ρ' F' H' A', P o ρ' → Stp F H A F' H' A' → R K F' A' ρ' σ H' → Q o H') ∧ XC K W F H A σ PX

structure GE (X : Cx) (W : WX) (e : Expr) (m : ME) : Prop where
  pe : PE X e (lift X.K W m)
structure GO (X : Cx) (W : WX) (e : Expr) (m : MO) : Prop where
  pe : PE X e (liftO X.K W m)
structure GT (X : Cx) (W : WX) (e : Expr) (m : MT) : Prop where
  pt : PT X e (liftT X.K W m)
structure GA (X : Cx) (W : WX) (es : List Expr) (m : MA) : Prop where
  pa : PA X es (liftA X.K W m)
structure GP (X : Cx) (W : WX) (e : Option Expr) (m : MP) : Prop where
  po : PO X e (liftP X.K W m)

theorem pe_imp {X : Cx} {e : Expr} {t t' : TE} (h : PE X e t) (i : ∀ σ H Q, t' σ H Q → t σ H Q) : PE X e t' := ⟨fun pins s σ H Q I hw => h.run pins s σ H Q I (i σ H Q hw)⟩
theorem pt_imp {X : Cx} {e : Expr} {t t' : TT} (h : PT X e t) (i : ∀ σ H Q, t' σ H Q → t σ H Q) : PT X e t' := ⟨fun pins s σ H Q I hw => h.run pins s σ H Q I (i σ H Q hw)⟩
theorem pa_imp {X : Cx} {e : List Expr} {t t' : TA} (h : PA X e t) (i : ∀ σ H Q, t' σ H Q → t σ H Q) : PA X e t' := ⟨fun pos pins s σ H Q I hw => h.run pos pins s σ H Q I (i σ H Q hw)⟩
theorem po_imp {X : Cx} {e : Option Expr} {t t' : TO} (h : PO X e t) (i : ∀ σ H Q, t' σ H Q → t σ H Q) : PO X e t' := ⟨fun pins s σ H Q I hw => h.run pins s σ H Q I (i σ H Q hw)⟩

section
variable {X : Cx} {W : WX} {e a b : Expr} {pos : Pos} {ma mb : ME} {ta tb : MT}

/-! ### names, constants -/
/-- a name's data; a list of one's own stays from here on -/
def mVar (i : Nat) (ρ : List S) (P : D → List S → Prop) (PX : XP) : Prop := match ρ[i]? with
  | some (.fz d) => P d ρ
  | some (.ow none (.lst ds)) => P (.lst ds) (ρ.set i (.fz (.lst ds)))
  | _ => False
theorem set_self_st : ∀ {σ : L2.St} {i : Nat} {v : Option V}, σ[i]? = some v → σ.set i v = σ
  | [], _, _, e => by simp at e
  | x :: r, 0, v, e => by simp at e; subst e; rfl
  | x :: r, i + 1, v, e => by simp at e; simp [set_self_st e]
theorem R.freeze {K : PySem.W.Frag} {F H : Hp} {A : List Addr} {ρ : List S} {σ : L2.St} (r : R K F A ρ σ H) {i : Nat} {ds : List D} (h : ρ[i]? = some (.ow none (.lst ds))) :
    ∃ (p : Addr) (F' : Hp) (A' : List Addr), σ[i]? = some (some (V.ref p)) ∧ Rep K F' (.ref p) (.lst ds) ∧ Stp F H A F' H A' ∧ R K F' A' (ρ.set i (.fz (.lst ds))) σ H := by
  obtain ⟨p, vs, A', h1, h2, h3, h4, h5, h6, h7, h8⟩ := r.rs.freeze h
  refine ⟨p, upd F p (.lst vs), A', h1, .lst upd_same (h3.mono (same_new h4)), ⟨same_new h4, fun _ _ e _ => e, fun q o e n => upd_ne fun z => n (z ▸ h5), fun q hq => .inl (h6 q hq), fun _ h => h⟩, ⟨fun q o e => ?_, h8⟩⟩
  rw [upd_eq] at e
  split at e
  · rename_i z; subst z; cases e; exact h2
  · exact r.same q o e
theorem ge_var {i : Nat} {x : Str} (hN : X.N[i]? = some x := by rfl) (hv : Vis X.env.scope x := by first | exact Or.inl rfl | exact Or.inr (Or.inl rfl) | exact Or.inr (Or.inr rfl)) (hd : (x == ("__debug__" : Str)) = false := by decide)
    (hcd : (x == ("__classdict__" : Str)) = false := by decide) : GE X W (.Name x pos) (mVar i) := ⟨pe_imp (pe_var hN hv hd hcd) fun σ H Q h => by
  obtain ⟨F, A, ρ, P, PX, r, hm, hP, _⟩ := h
  unfold mVar at hm
  split at hm
  · rename_i d h
    obtain ⟨v, h1, h2⟩ := r.rs.getF h
    exact ⟨v, h1, hP _ _ _ _ _ _ hm Stp.refl r h2⟩
  · rename_i ds h
    obtain ⟨p, F', A', h1, h2, h3, h4⟩ := r.freeze h
    exact ⟨_, h1, hP _ _ _ _ _ _ hm h3 h4 h2⟩
  · exact hm.elim⟩
def mC (d : D) (ρ : List S) (P : D → List S → Prop) (PX : XP) : Prop := P d ρ
theorem ge_int {i : Int} {j} : GE X W (.Constant (.int i) j pos) (mC (.int i)) := ⟨pe_imp pe_int fun σ H Q ⟨F, A, ρ, P, PX, r, hm, hP, _⟩ => hP _ _ _ _ _ _ hm Stp.refl r (.int i)⟩
theorem ge_str {x : Str} {j} : GE X W (.Constant (.str x) j pos) (mC (.str x)) := ⟨pe_imp pe_str fun σ H Q ⟨F, A, ρ, P, PX, r, hm, hP, _⟩ => hP _ _ _ _ _ _ hm Stp.refl r (.str x)⟩
theorem ge_bl {b : Bool} {j} : GE X W (.Constant (.bool b) j pos) (mC (.bl b)) := ⟨pe_imp pe_bl fun σ H Q ⟨F, A, ρ, P, PX, r, hm, hP, _⟩ => hP _ _ _ _ _ _ hm Stp.refl r (.bl b)⟩
theorem ge_non {j} : GE X W (.Constant .none j pos) (mC .non) := ⟨pe_imp pe_non fun σ H Q ⟨F, A, ρ, P, PX, r, hm, hP, _⟩ => hP _ _ _ _ _ _ hm Stp.refl r .non⟩

/-! ### operations on two values -/
def OpD (K : PySem.W.Frag) (r : R2) (f : D → D → (D → Prop) → Prop) : Prop :=
  ∀ (F H : Hp) (v u : V) (d e : D) (P : D → Prop), Same F H → Rep K F v d → Rep K F u e → f d e P → ∀ Q : VK, (∀ z w F' H', P z → New F H F' H' → Rep K F' w z → Q w H') → r v u H Q
def mBin (f : D → D → (D → Prop) → Prop) (ma mb : ME) (ρ : List S) (P : D → List S → Prop) (PX : XP) : Prop := ma ρ (fun d ρ1 => mb ρ1 (fun e ρ2 => f d e fun z => P z ρ2) PX) PX
theorem lift_bin {r : R2} {f : D → D → (D → Prop) → Prop} (hf : OpD X.K r f) {σ : L2.St} {H : Hp} {Q : VK} (h : lift X.K W (mBin f ma mb) σ H Q) : tOp r (lift X.K W ma) (lift X.K W mb) σ H Q := by
  obtain ⟨F, A, ρ, P, PX, r0, hm, hP, hX⟩ := h
  refine ⟨F, A, ρ, _, PX, r0, hm, fun d ρ1 v F1 H1 A1 h1 s1 r1 q1 => ?_, hX⟩
  refine ⟨F1, A1, ρ1, _, PX, r1, h1, fun e ρ2 u F2 H2 A2 h2 s2 r2 q2 => ?_, hX.step s1⟩
  exact hf F2 H2 v u d e _ r2.same (q1.mono s2.ext) q2 h2 Q fun z w F3 H3 hz n w' => hP z ρ2 w F3 H3 A2 hz ((s1.trans s2).trans n.stp) (r2.new n) w'
theorem ge_bin {op : Operator} {r : R2} {f : D → D → (D → Prop) → Prop} (ho : OpR X (binaryOp op) r) (hf : OpD X.K r f) (ha : GE X W a ma) (hb : GE X W b mb) : GE X W (.BinOp a op b pos) (mBin f ma mb) :=
  ⟨pe_imp (pe_op ho ha.pe hb.pe) fun _ _ _ h => lift_bin hf h⟩
theorem ge_cmp {op : CmpOp} {r : R2} {f : D → D → (D → Prop) → Prop} (ho : OpR X (compareOp op) r) (hf : OpD X.K r f) (ha : GE X W a ma) (hb : GE X W b mb) (h1 : behindInMarks op b = false := by first | exact nobehind _ (by decide) (by decide) | rfl) :
    GE X W (.Compare a [op] [b] pos) (mBin f ma mb) := ⟨pe_imp (pe_cmpR ho ha.pe hb.pe h1) fun _ _ _ h => lift_bin hf h⟩
/-- a truth as a test -/
def mTst (m : ME) (ρ : List S) (P : Bool → List S → Prop) (PX : XP) : Prop := m ρ (fun d ρ' => match d with | .bl b => P b ρ' | _ => False) PX
theorem liftT_tst {m : ME} {σ : L2.St} {H : Hp} {Q : Bool → Hp → Prop} (h : liftT X.K W (mTst m) σ H Q) : tB (lift X.K W m) σ H Q := by
  obtain ⟨F, A, ρ, P, PX, r0, hm, hP, hX⟩ := h
  refine ⟨F, A, ρ, _, PX, r0, hm, fun d ρ1 v F1 H1 A1 h1 s1 r1 q1 => ?_, hX⟩
  cases d with
  | bl b => exact ⟨b, q1.bl_inv, hP b ρ1 F1 H1 A1 h1 s1 r1⟩
  | _ => exact h1.elim
theorem gt_val {m : ME} (h : GE X W e m) (he : ∀ whole, isTrue e X.env whole = (do let v ← whole; standAt e.pos; holding [v] (truthy v)) := by intro _; rfl) : GT X W e (mTst m) :=
  ⟨pt_imp (pt_val h.pe he) fun _ _ _ h => liftT_tst h⟩
theorem gt_cmp {op : CmpOp} {r : R2} {f : D → D → (D → Prop) → Prop} (ho : OpR X (compareOp op) r) (hf : OpD X.K r f) (ha : GE X W a ma) (hb : GE X W b mb) (h1 : behindInMarks op b = false := by first | exact nobehind _ (by decide) (by decide) | rfl) :
    GT X W (.Compare a [op] [b] pos) (mTst (mBin f ma mb)) := ⟨pt_imp (pt_cmpR ho ha.pe hb.pe h1) fun σ H Q h => by
  have z := liftT_tst h
  exact lift_bin hf z⟩

/-! ### chains, and, or, not, if -/
def mAndT (t u : MT) (ρ : List S) (P : Bool → List S → Prop) (PX : XP) : Prop := t ρ (fun c ρ1 => (c = true → u ρ1 P PX) ∧ (c = false → P false ρ1)) PX
def mOrT (t u : MT) (ρ : List S) (P : Bool → List S → Prop) (PX : XP) : Prop := t ρ (fun c ρ1 => (c = true → P true ρ1) ∧ (c = false → u ρ1 P PX)) PX
def mNotT (t : MT) (ρ : List S) (P : Bool → List S → Prop) (PX : XP) : Prop := t ρ (fun c ρ1 => P (!c) ρ1) PX
structure GW (X : Cx) (W : WX) (e : Expr) (m : MT) : Prop where
  pw : PW X e (liftT X.K W m)
theorem pw_imp {t t' : TT} (h : PW X e t) (i : ∀ σ H Q, t' σ H Q → t σ H Q) : PW X e t' := ⟨fun wh pins s σ H Q I hw => h.run wh pins s σ H Q I (i σ H Q hw)⟩
variable {rest : List Expr}
theorem gw_and1 (ha : GT X W a ta) : GW X W (.BoolOp .And [a] pos) ta := ⟨pw_and1 ha.pt⟩
theorem gw_or1 (ha : GT X W a ta) : GW X W (.BoolOp .Or [a] pos) ta := ⟨pw_or1 ha.pt⟩
theorem gw_and (ha : GT X W a ta) (hb : GW X W (.BoolOp .And (b :: rest) pos) tb) : GW X W (.BoolOp .And (a :: b :: rest) pos) (mAndT ta tb) := ⟨pw_imp (pw_and ha.pt hb.pw) fun σ H Q h => by
  obtain ⟨F, A, ρ, P, PX, r0, hm, hP, hX⟩ := h
  refine ⟨F, A, ρ, _, PX, r0, hm, fun c ρ1 F1 H1 A1 h1 s1 r1 => ?_, hX⟩
  cases c with
  | true =>
    rw [if_pos rfl]
    exact ⟨F1, A1, ρ1, P, PX, r1, h1.1 rfl, fun b ρ2 F2 H2 A2 h2 s2 r2 => hP b ρ2 F2 H2 A2 h2 (s1.trans s2) r2, hX.step s1⟩
  | false =>
    rw [if_neg Bool.false_ne_true]
    exact hP _ _ _ _ _ (h1.2 rfl) s1 r1⟩
theorem gw_or (ha : GT X W a ta) (hb : GW X W (.BoolOp .Or (b :: rest) pos) tb) : GW X W (.BoolOp .Or (a :: b :: rest) pos) (mOrT ta tb) := ⟨pw_imp (pw_or ha.pt hb.pw) fun σ H Q h => by
  obtain ⟨F, A, ρ, P, PX, r0, hm, hP, hX⟩ := h
  refine ⟨F, A, ρ, _, PX, r0, hm, fun c ρ1 F1 H1 A1 h1 s1 r1 => ?_, hX⟩
  cases c with
  | false =>
    rw [if_neg Bool.false_ne_true]
    exact ⟨F1, A1, ρ1, P, PX, r1, h1.2 rfl, fun b ρ2 F2 H2 A2 h2 s2 r2 => hP b ρ2 F2 H2 A2 h2 (s1.trans s2) r2, hX.step s1⟩
  | true =>
    rw [if_pos rfl]
    exact hP _ _ _ _ _ (h1.1 rfl) s1 r1⟩
theorem gt_w {m : MT} (h : GW X W e m) : GT X W e m := ⟨h.pw.pt⟩
theorem gt_not (ha : GT X W a ta) : GT X W (.UnaryOp .Not a pos) (mNotT ta) := ⟨pt_imp (pt_not ha.pt) fun σ H Q h => by
  obtain ⟨F, A, ρ, P, PX, r0, hm, hP, hX⟩ := h
  exact ⟨F, A, ρ, _, PX, r0, hm, fun c ρ1 F1 H1 A1 h1 s1 r1 => hP _ _ _ _ _ h1 s1 r1, hX⟩⟩
/-- as values, truths all -/
def mAndV (ma mb : ME) (ρ : List S) (P : D → List S → Prop) (PX : XP) : Prop := ma ρ (fun d ρ1 => match d with | .bl c => (c = true → mb ρ1 P PX) ∧ (c = false → P (.bl false) ρ1) | _ => False) PX
def mOrV (ma mb : ME) (ρ : List S) (P : D → List S → Prop) (PX : XP) : Prop := ma ρ (fun d ρ1 => match d with | .bl c => (c = true → P (.bl true) ρ1) ∧ (c = false → mb ρ1 P PX) | _ => False) PX
def mNotV (ma : ME) (ρ : List S) (P : D → List S → Prop) (PX : XP) : Prop := ma ρ (fun d ρ1 => match d with | .bl c => P (.bl (!c)) ρ1 | _ => False) PX
theorem ge_one {op} {m : ME} (h : GE X W a m) : GE X W (.BoolOp op [a] pos) m := ⟨pe_one h.pe⟩
theorem ge_and (ha : GE X W a ma) (hb : GE X W (.BoolOp .And (b :: rest) pos) mb) : GE X W (.BoolOp .And (a :: b :: rest) pos) (mAndV ma mb) := ⟨pe_imp (pe_and ha.pe hb.pe) fun σ H Q h => by
  obtain ⟨F, A, ρ, P, PX, r0, hm, hP, hX⟩ := h
  refine ⟨F, A, ρ, _, PX, r0, hm, fun d ρ1 v F1 H1 A1 h1 s1 r1 q1 => ?_, hX⟩
  cases d with
  | bl c =>
    refine ⟨c, q1.bl_inv, ?_⟩
    cases c with
    | true =>
      rw [if_pos rfl]
      exact ⟨F1, A1, ρ1, P, PX, r1, h1.1 rfl, fun d ρ2 v F2 H2 A2 h2 s2 r2 q2 => hP d ρ2 v F2 H2 A2 h2 (s1.trans s2) r2 q2, hX.step s1⟩
    | false =>
      rw [if_neg Bool.false_ne_true]
      exact hP _ _ _ _ _ _ (h1.2 rfl) s1 r1 (.bl _)
  | _ => exact h1.elim⟩
theorem ge_or (ha : GE X W a ma) (hb : GE X W (.BoolOp .Or (b :: rest) pos) mb) : GE X W (.BoolOp .Or (a :: b :: rest) pos) (mOrV ma mb) := ⟨pe_imp (pe_or ha.pe hb.pe) fun σ H Q h => by
  obtain ⟨F, A, ρ, P, PX, r0, hm, hP, hX⟩ := h
  refine ⟨F, A, ρ, _, PX, r0, hm, fun d ρ1 v F1 H1 A1 h1 s1 r1 q1 => ?_, hX⟩
  cases d with
  | bl c =>
    refine ⟨c, q1.bl_inv, ?_⟩
    cases c with
    | false =>
      rw [if_neg Bool.false_ne_true]
      exact ⟨F1, A1, ρ1, P, PX, r1, h1.2 rfl, fun d ρ2 v F2 H2 A2 h2 s2 r2 q2 => hP d ρ2 v F2 H2 A2 h2 (s1.trans s2) r2 q2, hX.step s1⟩
    | true =>
      rw [if_pos rfl]
      exact hP _ _ _ _ _ _ (h1.1 rfl) s1 r1 (.bl _)
  | _ => exact h1.elim⟩
theorem ge_not (ha : GE X W a ma) : GE X W (.UnaryOp .Not a pos) (mNotV ma) := ⟨pe_imp (pe_not ha.pe) fun σ H Q h => by
  obtain ⟨F, A, ρ, P, PX, r0, hm, hP, hX⟩ := h
  refine ⟨F, A, ρ, _, PX, r0, hm, fun d ρ1 v F1 H1 A1 h1 s1 r1 q1 => ?_, hX⟩
  cases d with
  | bl c => exact ⟨c, q1.bl_inv, hP _ _ _ _ _ _ h1 s1 r1 (.bl _)⟩
  | _ => exact h1.elim⟩
def mIf (t : MT) (ma mb : ME) (ρ : List S) (P : D → List S → Prop) (PX : XP) : Prop := t ρ (fun c ρ1 => (c = true → ma ρ1 P PX) ∧ (c = false → mb ρ1 P PX)) PX
theorem ge_if {c : Expr} (hc : GT X W c ta) (ha : GE X W a ma) (hb : GE X W b mb) : GE X W (.IfExp c a b pos) (mIf ta ma mb) := ⟨pe_imp (pe_ifExp hc.pt ha.pe hb.pe) fun σ H Q h => by
  obtain ⟨F, A, ρ, P, PX, r0, hm, hP, hX⟩ := h
  refine ⟨F, A, ρ, _, PX, r0, hm, fun c ρ1 F1 H1 A1 h1 s1 r1 => ?_, hX⟩
  cases c with
  | true =>
    rw [if_pos rfl]
    exact ⟨F1, A1, ρ1, P, PX, r1, h1.1 rfl, fun d ρ2 v F2 H2 A2 h2 s2 r2 q2 => hP d ρ2 v F2 H2 A2 h2 (s1.trans s2) r2 q2, hX.step s1⟩
  | false =>
    rw [if_neg Bool.false_ne_true]
    exact ⟨F1, A1, ρ1, P, PX, r1, h1.2 rfl, fun d ρ2 v F2 H2 A2 h2 s2 r2 q2 => hP d ρ2 v F2 H2 A2 h2 (s1.trans s2) r2 q2, hX.step s1⟩⟩
/-- a < b < c, truths -/
def mChain (f g : D → D → (D → Prop) → Prop) (ma mb mc : ME) (ρ : List S) (P : D → List S → Prop) (PX : XP) : Prop := ma ρ (fun x ρ1 => mb ρ1 (fun y ρ2 => f x y fun z => match z with
  | .bl k => (k = true → mc ρ2 (fun w ρ3 => g y w fun z => P z ρ3) PX) ∧ (k = false → P (.bl false) ρ2) | _ => False) PX) PX
end
end G

/-! G: operators, subscripts, argument lists, displays -/
namespace G
open PySem PySem.Spec PyProof.Rows L2

/-! ### arithmetic -/
def fAdd : D → D → (D → Prop) → Prop
  | .int i, .int j, P => P (.int (i + j))
  | .str x, .str y, P => x.length + y.length ≤ sizeLine ∧ P (.str (x ++ y))
  | .lst x, .lst y, P => x.length + y.length ≤ sizeLine ∧ P (.lst (x ++ y))
  | .tup x, .tup y, P => x ≠ [] ∧ x.length + y.length ≤ sizeLine ∧ P (.tup (x ++ y))
  | _, _, _ => False
def fSub : D → D → (D → Prop) → Prop
  | .int i, .int j, P => P (.int (i - j))
  | _, _, _ => False
/-- one sign, repeated -/
def repS (x : Str) (n : Int) : Str := ⟨(List.replicate n.toNat x.cps.toList).flatten.toArray⟩
def fMul : D → D → (D → Prop) → Prop
  | .int i, .int j, P => (CMulW i j ∨ CMul i j) ∧ P (.int (i * j))
  | .str x, .int n, P => x.length = 1 ∧ (-100000 ≤ n ∧ n ≤ 100000) ∧ P (.str (repS x n))
  | .lst x, .int n, P => n < 2 ^ 63 ∧ -(2 ^ 63) ≤ n ∧ x.length * n.toNat ≤ sizeLine ∧ P (.lst (List.replicate n.toNat x).flatten)
  | _, _, _ => False
def fDiv : D → D → (D → Prop) → Prop
  | .int i, .int j, P => CDivW i j ∧ P (.int (i / j))
  | _, _, _ => False
def fMod : D → D → (D → Prop) → Prop
  | .int i, .int j, P => 0 < j ∧ P (.int (i % j))
  | _, _, _ => False
def fPow : D → D → (D → Prop) → Prop
  | .int i, .int j, P => CPow i j ∧ P (.int (i ^ j.toNat))
  | _, _, _ => False
def fShl : D → D → (D → Prop) → Prop
  | .int i, .int j, P => CShl i j ∧ P (.int (i * 2 ^ j.toNat))
  | _, _, _ => False
def fShr : D → D → (D → Prop) → Prop
  | .int i, .int j, P => 0 ≤ j ∧ P (.int (i / 2 ^ j.toNat))
  | _, _, _ => False
def fAnd : D → D → (D → Prop) → Prop
  | .int i, .int j, P => P (.int (Builtin.bitAnd i j))
  | _, _, _ => False

section
variable {K : PySem.W.Frag}
theorem od_I {C : Int → Int → Prop} {g : Int → Int → Int} {f : D → D → (D → Prop) → Prop} (hf : ∀ d e P, f d e P → ∃ i j, d = .int i ∧ e = .int j ∧ C i j ∧ P (.int (g i j))) : OpD K (rI C fun i j => .int (g i j)) f := by
  intro F H v u d e P s rv ru h Q q
  obtain ⟨i, j, rfl, rfl, hc, hp⟩ := hf d e P h
  exact ⟨i, j, rv.int_inv, ru.int_inv, hc, q _ _ F H hp (New.refl s) (.int _)⟩
theorem od_I0 {g : Int → Int → Int} {f : D → D → (D → Prop) → Prop} (hf : ∀ d e P, f d e P → ∃ i j, d = .int i ∧ e = .int j ∧ P (.int (g i j))) : OpD K (rI0 fun i j => .int (g i j)) f := by
  intro F H v u d e P s rv ru h Q q
  obtain ⟨i, j, rfl, rfl, hp⟩ := hf d e P h
  exact ⟨i, j, rv.int_inv, ru.int_inv, q _ _ F H hp (New.refl s) (.int _)⟩
theorem od_B0 {g : Int → Int → Bool} {f : D → D → (D → Prop) → Prop} (hf : ∀ d e P, f d e P → ∃ i j, d = .int i ∧ e = .int j ∧ P (.bl (g i j))) : OpD K (rI0 fun i j => .bl (g i j)) f := by
  intro F H v u d e P s rv ru h Q q
  obtain ⟨i, j, rfl, rfl, hp⟩ := hf d e P h
  exact ⟨i, j, rv.int_inv, ru.int_inv, q _ _ F H hp (New.refl s) (.bl _)⟩
end
section
variable {X : Cx} {W : WX} {e a b c : Expr} {pos : Pos} {ma mb mc : ME}
def rAddA (K : PySem.W.Frag) : R2 := fun x y H Q => (∃ i j, x = .int i ∧ y = .int j ∧ Q (.int (i + j)) H) ∨ (∃ i j, x = .str i ∧ y = .str j ∧ i.length + j.length ≤ sizeLine ∧ Q (.str (i ++ j)) H) ∨ rCat x y H Q ∨ rCatT K x y H Q
theorem op_addA : OpR X (binaryOp .Add) (rAddA X.K) := by
  intro pins s σ H x y v u Q I rx ry h
  rcases h with h | h | h | h
  · exact op_add pins s σ H x y v u Q I rx ry h
  · exact op_add_str pins s σ H x y v u Q I rx ry h
  · exact op_cat pins s σ H x y v u Q I rx ry h
  · exact op_catT pins s σ H x y v u Q I rx ry h
theorem iop_addA : OpR X (inplaceOp .Add) (fun x y H Q => (∃ i j, x = .int i ∧ y = .int j ∧ Q (.int (i + j)) H) ∨ (∃ i j, x = .str i ∧ y = .str j ∧ i.length + j.length ≤ sizeLine ∧ Q (.str (i ++ j)) H)) := by
  intro pins s σ H x y v u Q I rx ry h
  rcases h with h | h
  · exact iop_add pins s σ H x y v u Q I rx ry h
  · exact iop_add_str pins s σ H x y v u Q I rx ry h
theorem od_add {K : PySem.W.Frag} : OpD K (rAddA K) fAdd := by
  intro F H v u d e P s rv ru h Q q
  cases d <;> cases e <;> first | exact h.elim | skip
  · exact .inl ⟨_, _, rv.int_inv, ru.int_inv, q _ _ F H h (New.refl s) (.int _)⟩
  · exact .inr (.inl ⟨_, _, rv.str_inv, ru.str_inv, h.1, q _ _ F H h.2 (New.refl s) (.str _)⟩)
  · obtain ⟨a, vs, rfl, e1, r1⟩ := rv.lst_inv
    obtain ⟨b, us, rfl, e2, r2⟩ := ru.lst_inv
    obtain ⟨hl, hp⟩ := (show _ ∧ _ from h)
    refine .inr (.inr (.inl ⟨a, b, vs, us, rfl, rfl, s _ _ e1, s _ _ e2, by rw [r1.length, r2.length]; exact hl, fun p hn => ?_⟩))
    have n := New.mk1 (.lst (vs ++ us)) s hn
    exact q _ _ _ _ hp n (.lst upd_same ((r1.append r2).mono n.ext))
  · obtain ⟨a, vs, rfl, e1, r1⟩ := rv.tup_inv
    obtain ⟨b, us, rfl, e2, r2⟩ := ru.tup_inv
    obtain ⟨h0, hl, hp⟩ := (show _ ∧ _ ∧ _ from h)
    refine .inr (.inr (.inr ⟨a, b, vs, us, rfl, rfl, .of (s _ _ e1), .of (s _ _ e2), fun z => h0 ?_, by rw [r1.length, r2.length]; exact hl, fun z => ?_, fun _ p hn => ?_⟩))
    · subst z; cases r1; rfl
    · subst z
      cases r2
      rw [List.append_nil] at hp
      exact q _ _ F H hp (New.refl s) (.tup e1 r1)
    · have n := New.mk1 (.tup (vs ++ us)) s hn
      exact q _ _ _ _ hp n (.tup upd_same ((r1.append r2).mono n.ext))
theorem od_sub {K : PySem.W.Frag} : OpD K (rI0 fun i j => .int (i - j)) fSub := od_I0 fun d e P h => by
  cases d <;> cases e <;> first | exact h.elim | exact ⟨_, _, rfl, rfl, h⟩
theorem od_div {K : PySem.W.Frag} : OpD K (rI CDivW fun i j => .int (i / j)) fDiv := od_I fun d e P h => by
  cases d <;> cases e <;> first | exact h.elim | exact ⟨_, _, rfl, rfl, h⟩
theorem od_mod {K : PySem.W.Frag} : OpD K (rI (fun _ j => 0 < j) fun i j => .int (i % j)) fMod := od_I fun d e P h => by
  cases d <;> cases e <;> first | exact h.elim | exact ⟨_, _, rfl, rfl, h⟩
theorem od_pow {K : PySem.W.Frag} : OpD K (rI CPow fun i j => .int (i ^ j.toNat)) fPow := od_I fun d e P h => by
  cases d <;> cases e <;> first | exact h.elim | exact ⟨_, _, rfl, rfl, h⟩
theorem od_shl {K : PySem.W.Frag} : OpD K (rI CShl fun i j => .int (i * 2 ^ j.toNat)) fShl := od_I fun d e P h => by
  cases d <;> cases e <;> first | exact h.elim | exact ⟨_, _, rfl, rfl, h⟩
theorem od_shr {K : PySem.W.Frag} : OpD K (rI (fun _ j => 0 ≤ j) fun i j => .int (i / 2 ^ j.toNat)) fShr := od_I fun d e P h => by
  cases d <;> cases e <;> first | exact h.elim | exact ⟨_, _, rfl, rfl, h⟩
theorem od_and {K : PySem.W.Frag} : OpD K (rI0 fun i j => .int (Builtin.bitAnd i j)) fAnd := od_I0 fun d e P h => by
  cases d <;> cases e <;> first | exact h.elim | exact ⟨_, _, rfl, rfl, h⟩
/-- text * int -/
def rMulS : R2 := fun x y H Q => ∃ z n, x = .str z ∧ y = .int n ∧ z.length = 1 ∧ (-100000 ≤ n ∧ n ≤ 100000) ∧ Q (.str (repS z n)) H
theorem foldl_app (c : Array Nat) : ∀ (n : Nat) (a : Array Nat), (List.replicate n c).foldl (· ++ ·) a = a ++ (List.replicate n c.toList).flatten.toArray
  | 0, a => by simp
  | n + 1, a => by
    rw [List.replicate_succ, List.foldl_cons, foldl_app c n, List.replicate_succ, List.flatten_cons]
    apply Array.ext'
    simp
theorem mul_repS (z : Str) (n : Int) (h : z.length = 1) : Txt.mul z n = repS z n := by
  unfold Txt.mul repS
  by_cases h1 : n < 1
  · rw [if_pos h1, show n.toNat = 0 by omega]; rfl
  · rw [if_neg h1]
    by_cases h2 : (n == 1 || z.length == 0) = true
    · rw [if_pos h2]
      have : n = 1 := by
        rw [h] at h2
        simpa using h2
      subst this
      obtain ⟨cps⟩ := z
      simp
    · rw [if_neg h2, foldl_app]
      simp
theorem op_mulS : OpR X (binaryOp .Mult) rMulS := by
  intro pins s σ H x y v u Q I rx ry h
  obtain ⟨z, n, rfl, rfl, hz, hn, q⟩ := h
  obtain ⟨t, rfl⟩ := rx
  obtain ⟨t', rfl⟩ := ry
  have e63 : (2 : Int) ^ 63 = 9223372036854775808 := by decide
  refine SB.mul ⟨?_, fun h1 _ => ?_, fun h1 _ => ?_⟩ fun t2 k => ⟨.str (repS z n), H, I.tok k, ⟨t2, by rw [mul_repS z n hz]⟩, q⟩
  · rw [e63, decide_eq_false (by omega), decide_eq_false (by omega)]; rfl
  · rw [hz, e63]
    have : (1 : Int) ≤ (9223372036854775808 - 1) / n := by
      refine (Int.le_ediv_iff_mul_le (by omega)).mpr ?_
      omega
    show ¬ (((1 : Nat) : Int) > _)
    omega
  · rw [hz]
    unfold Builtin.Str.tooLong
    have hs : sizeLine = 16777216 := sizeLine_eq
    exact decide_eq_false (by omega)
theorem op_mulB : OpR X (binaryOp .Mult) (rI (fun i j => CMulW i j ∨ CMul i j) fun i j => .int (i * j)) := opI fun _ _ _ _ _ _ _ hc q => mul_int q (hc.elim (fun z => z.ok) fun z => z.ok)
def rMulA : R2 := fun x y H Q => rI (fun i j => CMulW i j ∨ CMul i j) (fun i j => .int (i * j)) x y H Q ∨ rMulS x y H Q ∨ rRep x y H Q
theorem op_mulA : OpR X (binaryOp .Mult) rMulA := by
  intro pins s σ H x y v u Q I rx ry h
  rcases h with h | h | h
  · exact op_mulB pins s σ H x y v u Q I rx ry h
  · exact op_mulS pins s σ H x y v u Q I rx ry h
  · exact op_rep pins s σ H x y v u Q I rx ry h
theorem Reps.rep {K : PySem.W.Frag} {F : Hp} {vs : List V} {ds : List D} (r : Reps K F vs ds) : ∀ n : Nat, Reps K F (List.replicate n vs).flatten (List.replicate n ds).flatten
  | 0 => .nil
  | n + 1 => by
    rw [List.replicate_succ, List.replicate_succ, List.flatten_cons, List.flatten_cons]
    exact r.append (Reps.rep r n)
theorem od_mul {K : PySem.W.Frag} : OpD K rMulA fMul := by
  intro F H v u d e P s rv ru h Q q
  cases d <;> cases e <;> first | exact h.elim | skip
  · exact .inl ⟨_, _, rv.int_inv, ru.int_inv, h.1, q _ _ F H h.2 (New.refl s) (.int _)⟩
  · exact .inr (.inl ⟨_, _, rv.str_inv, ru.int_inv, h.1, h.2.1, q _ _ F H h.2.2 (New.refl s) (.str _)⟩)
  · obtain ⟨a, vs, rfl, e1, r1⟩ := rv.lst_inv
    obtain ⟨h1, h2, h3, hp⟩ := (show _ ∧ _ ∧ _ ∧ _ from h)
    refine .inr (.inr ⟨a, _, vs, rfl, ru.int_inv, s _ _ e1, h2, h1, by rw [r1.length]; exact h3, fun p hn => ?_⟩)
    exact q _ _ _ _ hp (New.mk1 _ s hn) (.lst upd_same ((r1.rep _).mono (same_new (free_of s hn))))

/-! ### comparisons -/
mutual
def toP : D → PyData
  | .non => .none | .bl b => .bool b | .int i => .int i | .str x => .str x | .lst xs => .list (toPs xs) | .tup xs => .tuple (toPs xs) | .scr ns => .list (ns.map PyData.int)
def toPs : List D → List PyData
  | [] => []
  | d :: ds => toP d :: toPs ds
end
theorem dpAll_ints {K : PySem.W.Frag} {H : Hp} : ∀ ns : List Int, DpAll K H (ns.map V.int) (ns.map PyData.int)
  | [] => .nil
  | n :: ns => .cons (.int n) (dpAll_ints ns)
mutual
theorem Rep.dp {K : PySem.W.Frag} {F H : Hp} (s : Same F H) : ∀ (d : D) (v : V), Rep K F v d → Dp K H v (toP d)
  | .non, _, .non => .non
  | .bl _, _, .bl _ => .bl _
  | .int _, _, .int _ => .int _
  | .str _, _, .str _ => .str _
  | .lst ds, _, .lst e r => .lst (.of (s _ _ e)) (Reps.dp s ds _ r)
  | .tup ds, _, .tup e r => .tup (.of (s _ _ e)) (Reps.dp s ds _ r)
  | .scr ns, _, .scr e => .lst (s.seq e) (dpAll_ints ns)
theorem Reps.dp {K : PySem.W.Frag} {F H : Hp} (s : Same F H) : ∀ (ds : List D) (vs : List V), Reps K F vs ds → DpAll K H vs (toPs ds)
  | [], _, .nil => .nil
  | d :: ds, _, .cons r t => .cons (Rep.dp s d _ r) (Reps.dp s ds _ t)
end
/-- equal as data -/
def deq (d e : D) : Bool := PyData.eqv (toP d) (toP e)
def shp (d : D) : Bool := SeqAt.shaped (toP d)
def fEq : D → D → (D → Prop) → Prop
  | .int i, .int j, P => P (.bl (decide (i = j)))
  | .str i, .str j, P => P (.bl (decide (i = j)))
  | .bl i, .bl j, P => P (.bl (decide (i = j)))
  | d, e, P => shp d = true ∧ shp e = true ∧ P (.bl (deq d e))
def fNe : D → D → (D → Prop) → Prop
  | .int i, .int j, P => P (.bl (!decide (i = j)))
  | .str i, .str j, P => P (.bl (!decide (i = j)))
  | .bl i, .bl j, P => P (.bl (!decide (i = j)))
  | d, e, P => shp d = true ∧ shp e = true ∧ P (.bl (!deq d e))
def rEqA (K : PySem.W.Frag) : R2 := fun x y H Q => rEq x y H Q ∨ rEqD K x y H Q
def rNeA (K : PySem.W.Frag) : R2 := fun x y H Q => rNe x y H Q ∨ rNeD K x y H Q
theorem op_eqA (hu : X.A.units + 64 < cLine) : OpR X (compareOp .Eq) (rEqA X.K) := by
  intro pins s σ H x y v u Q I rx ry h
  rcases h with h | h
  · exact op_eq pins s σ H x y v u Q I rx ry h
  · exact op_eqD hu pins s σ H x y v u Q I rx ry h
theorem op_neA (hu : X.A.units + 64 < cLine) : OpR X (compareOp .NotEq) (rNeA X.K) := by
  intro pins s σ H x y v u Q I rx ry h
  rcases h with h | h
  · exact op_ne pins s σ H x y v u Q I rx ry h
  · exact op_neD hu pins s σ H x y v u Q I rx ry h
theorem decV_int {i j : Int} : decide (V.int i = V.int j) = decide (i = j) := by rw [Bool.eq_iff_iff]; simp
theorem decV_str {i j : Str} : decide (V.str i = V.str j) = decide (i = j) := by rw [Bool.eq_iff_iff]; simp
theorem decV_bl {i j : Bool} : decide (V.bl i = V.bl j) = decide (i = j) := by rw [Bool.eq_iff_iff]; simp
theorem od_eq {K : PySem.W.Frag} : OpD K (rEqA K) fEq := by
  intro F H v u d e P s rv ru h Q q
  have gen : shp d = true ∧ shp e = true ∧ P (.bl (deq d e)) → rEqA K v u H Q := fun h => .inr ⟨toP d, toP e, rv.dp s d _, ru.dp s e _, h.1, h.2.1, q _ _ F H h.2.2 (New.refl s) (.bl _)⟩
  cases d <;> cases e <;> first | exact gen h | skip
  · rw [rv.bl_inv, ru.bl_inv]; exact .inl ⟨rfl, by rw [decV_bl]; exact q _ _ F H h (New.refl s) (.bl _)⟩
  · rw [rv.int_inv, ru.int_inv]; exact .inl ⟨rfl, by rw [decV_int]; exact q _ _ F H h (New.refl s) (.bl _)⟩
  · rw [rv.str_inv, ru.str_inv]; exact .inl ⟨rfl, by rw [decV_str]; exact q _ _ F H h (New.refl s) (.bl _)⟩
theorem od_ne {K : PySem.W.Frag} : OpD K (rNeA K) fNe := by
  intro F H v u d e P s rv ru h Q q
  have gen : shp d = true ∧ shp e = true ∧ P (.bl (!deq d e)) → rNeA K v u H Q := fun h => .inr ⟨toP d, toP e, rv.dp s d _, ru.dp s e _, h.1, h.2.1, q _ _ F H h.2.2 (New.refl s) (.bl _)⟩
  cases d <;> cases e <;> first | exact gen h | skip
  · rw [rv.bl_inv, ru.bl_inv]; exact .inl ⟨rfl, by rw [decV_bl]; exact q _ _ F H h (New.refl s) (.bl _)⟩
  · rw [rv.int_inv, ru.int_inv]; exact .inl ⟨rfl, by rw [decV_int]; exact q _ _ F H h (New.refl s) (.bl _)⟩
  · rw [rv.str_inv, ru.str_inv]; exact .inl ⟨rfl, by rw [decV_str]; exact q _ _ F H h (New.refl s) (.bl _)⟩
/-- < of ints, of texts -/
def fLt : D → D → (D → Prop) → Prop
  | .int i, .int j, P => P (.bl (decide (i < j)))
  | .str i, .str j, P => P (.bl (decide (i.cps.toList < j.cps.toList)))
  | _, _, _ => False
def fLe : D → D → (D → Prop) → Prop
  | .int i, .int j, P => P (.bl (decide (i ≤ j)))
  | _, _, _ => False
def fGt : D → D → (D → Prop) → Prop
  | .int i, .int j, P => P (.bl (decide (j < i)))
  | _, _, _ => False
def fGe : D → D → (D → Prop) → Prop
  | .int i, .int j, P => P (.bl (decide (j ≤ i)))
  | _, _, _ => False
def rLtA : R2 := fun x y H Q => (∃ i j, x = .int i ∧ y = .int j ∧ Q (.bl (decide (i < j))) H) ∨ (∃ i j, x = .str i ∧ y = .str j ∧ Q (.bl (decide (i.cps.toList < j.cps.toList))) H)
theorem op_ltA : OpR X (compareOp .Lt) rLtA := by
  intro pins s σ H x y v u Q I rx ry h
  rcases h with h | h
  · exact op_lt pins s σ H x y v u Q I rx ry h
  · exact op_lt_str pins s σ H x y v u Q I rx ry h
theorem od_lt {K : PySem.W.Frag} : OpD K rLtA fLt := by
  intro F H v u d e P s rv ru h Q q
  cases d <;> cases e <;> first | exact h.elim | skip
  · exact .inl ⟨_, _, rv.int_inv, ru.int_inv, q _ _ F H h (New.refl s) (.bl _)⟩
  · exact .inr ⟨_, _, rv.str_inv, ru.str_inv, q _ _ F H h (New.refl s) (.bl _)⟩
theorem od_le {K : PySem.W.Frag} : OpD K (rI0 fun i j => .bl (decide (i ≤ j))) fLe := od_B0 fun d e P h => by
  cases d <;> cases e <;> first | exact h.elim | exact ⟨_, _, rfl, rfl, h⟩
theorem od_gt {K : PySem.W.Frag} : OpD K (rI0 fun i j => .bl (decide (j < i))) fGt := od_B0 fun d e P h => by
  cases d <;> cases e <;> first | exact h.elim | exact ⟨_, _, rfl, rfl, h⟩
theorem od_ge {K : PySem.W.Frag} : OpD K (rI0 fun i j => .bl (decide (j ≤ i))) fGe := od_B0 fun d e P h => by
  cases d <;> cases e <;> first | exact h.elim | exact ⟨_, _, rfl, rfl, h⟩
/-- is None, is True, is False -/
def isNonD : D → Bool
  | .non => true
  | _ => false
def rIsC : R2 := fun x y H Q => y = .non ∧ Q (.bl (decide (x = .non))) H
theorem Rep.isNon {K : PySem.W.Frag} {F : Hp} {v : V} {d : D} (r : Rep K F v d) : decide (v = .non) = isNonD d := by
  cases r <;> rfl
def fIs : D → D → (D → Prop) → Prop
  | d, .non, P => P (.bl (isNonD d))
  | .bl a, .bl b, P => P (.bl (decide (a = b)))
  | _, _, _ => False
def fIsNot : D → D → (D → Prop) → Prop
  | d, .non, P => P (.bl (!isNonD d))
  | .bl a, .bl b, P => P (.bl (!decide (a = b)))
  | _, _, _ => False
theorem op_isA : OpR X (compareOp .Is) (fun x y H Q => (y = .non ∧ Q (.bl (decide (x = .non))) H) ∨ rIsB x y H Q) := by
  intro pins s σ H x y v u Q I rx ry h
  rcases h with h | h
  · exact op_isN pins s σ H x y v u Q I rx ry h
  · exact op_isBl pins s σ H x y v u Q I rx ry h
theorem op_isNotA : OpR X (compareOp .IsNot) (fun x y H Q => (y = .non ∧ Q (.bl (!decide (x = .non))) H) ∨ rNotB x y H Q) := by
  intro pins s σ H x y v u Q I rx ry h
  rcases h with h | h
  · exact op_notN pins s σ H x y v u Q I rx ry h
  · exact op_notBl pins s σ H x y v u Q I rx ry h
theorem od_is {K : PySem.W.Frag} : OpD K (fun x y H Q => (y = .non ∧ Q (.bl (decide (x = .non))) H) ∨ rIsB x y H Q) fIs := by
  intro F H v u d e P s rv ru h Q q
  cases e with
  | non => exact .inl ⟨ru.non_inv, by rw [rv.isNon]; exact q _ _ F H (by cases d <;> exact h) (New.refl s) (.bl _)⟩
  | bl b => cases d with
    | bl a => exact .inr ⟨a, b, rv.bl_inv, ru.bl_inv, q _ _ F H h (New.refl s) (.bl _)⟩
    | _ => exact h.elim
  | _ => cases d <;> exact h.elim
theorem od_isnot {K : PySem.W.Frag} : OpD K (fun x y H Q => (y = .non ∧ Q (.bl (!decide (x = .non))) H) ∨ rNotB x y H Q) fIsNot := by
  intro F H v u d e P s rv ru h Q q
  cases e with
  | non => exact .inl ⟨ru.non_inv, by rw [rv.isNon]; exact q _ _ F H (by cases d <;> exact h) (New.refl s) (.bl _)⟩
  | bl b => cases d with
    | bl a => exact .inr ⟨a, b, rv.bl_inv, ru.bl_inv, q _ _ F H h (New.refl s) (.bl _)⟩
    | _ => exact h.elim
  | _ => cases d <;> exact h.elim
/-- x in a list or tuple of ints, of texts -/
def memI (i : Int) : List D → Option Bool
  | [] => some false
  | .int j :: r => (memI i r).map fun b => decide (j = i) || b
  | _ => none
def memS (x : Str) : List D → Option Bool
  | [] => some false
  | .str j :: r => (memS x r).map fun b => decide (j = x) || b
  | _ => none
def fIn (neg : Bool) : D → D → (D → Prop) → Prop
  | .int i, .lst ds, P => ∃ b, memI i ds = some b ∧ P (.bl (if neg then !b else b))
  | .int i, .tup ds, P => ∃ b, memI i ds = some b ∧ P (.bl (if neg then !b else b))
  | .str i, .lst ds, P => ∃ b, memS i ds = some b ∧ P (.bl (if neg then !b else b))
  | .str i, .tup ds, P => ∃ b, memS i ds = some b ∧ P (.bl (if neg then !b else b))
  | _, _, _ => False
theorem memI_vs {K : PySem.W.Frag} {F : Hp} {i : Int} : ∀ {ds : List D} {vs : List V} {b : Bool}, Reps K F vs ds → memI i ds = some b → vs.all flatV = true ∧ inV (.int i) vs = b
  | [], _, b, h, e => by
    cases h
    exact ⟨rfl, Option.some.inj e⟩
  | d :: ds, _, b, h, e => by
    cases h with
    | cons r t =>
      cases d with
      | int j =>
        obtain ⟨b', e1, e2⟩ := Option.map_eq_some_iff.mp (show (memI i ds).map _ = some b from e)
        obtain ⟨h1, h2⟩ := memI_vs t e1
        rw [r.int_inv]
        refine ⟨by rw [List.all_cons, h1]; rfl, ?_⟩
        rw [← e2, ← h2]
        show (eqV (.int j) (.int i) || inV (.int i) _) = _
        congr 1
      | _ => exact nomatch e
theorem memS_vs {K : PySem.W.Frag} {F : Hp} {i : Str} : ∀ {ds : List D} {vs : List V} {b : Bool}, Reps K F vs ds → memS i ds = some b → vs.all flatV = true ∧ inV (.str i) vs = b
  | [], _, b, h, e => by
    cases h
    exact ⟨rfl, Option.some.inj e⟩
  | d :: ds, _, b, h, e => by
    cases h with
    | cons r t =>
      cases d with
      | str j =>
        obtain ⟨b', e1, e2⟩ := Option.map_eq_some_iff.mp (show (memS i ds).map _ = some b from e)
        obtain ⟨h1, h2⟩ := memS_vs t e1
        rw [r.str_inv]
        refine ⟨by rw [List.all_cons, h1]; rfl, ?_⟩
        rw [← e2, ← h2]
        show (eqV (.str j) (.str i) || inV (.str i) _) = _
        congr 1
      | _ => exact nomatch e
theorem od_in {K : PySem.W.Frag} {neg : Bool} : OpD K (rIn K neg) (fIn neg) := by
  intro F H v u d e P s rv ru h Q q
  cases d <;> cases e <;> first | exact h.elim | skip
  · obtain ⟨b, e1, hp⟩ := h
    obtain ⟨a, vs, rfl, e2, r⟩ := ru.lst_inv
    obtain ⟨h1, h2⟩ := memI_vs r e1
    rw [rv.int_inv]
    exact ⟨a, vs, rfl, .inl (.of (s _ _ e2)), rfl, h1, by rw [h2]; exact q _ _ F H hp (New.refl s) (.bl _)⟩
  · obtain ⟨b, e1, hp⟩ := h
    obtain ⟨a, vs, rfl, e2, r⟩ := ru.tup_inv
    obtain ⟨h1, h2⟩ := memI_vs r e1
    rw [rv.int_inv]
    exact ⟨a, vs, rfl, .inr (.of (s _ _ e2)), rfl, h1, by rw [h2]; exact q _ _ F H hp (New.refl s) (.bl _)⟩
  · obtain ⟨b, e1, hp⟩ := h
    obtain ⟨a, vs, rfl, e2, r⟩ := ru.lst_inv
    obtain ⟨h1, h2⟩ := memS_vs r e1
    rw [rv.str_inv]
    exact ⟨a, vs, rfl, .inl (.of (s _ _ e2)), rfl, h1, by rw [h2]; exact q _ _ F H hp (New.refl s) (.bl _)⟩
  · obtain ⟨b, e1, hp⟩ := h
    obtain ⟨a, vs, rfl, e2, r⟩ := ru.tup_inv
    obtain ⟨h1, h2⟩ := memS_vs r e1
    rw [rv.str_inv]
    exact ⟨a, vs, rfl, .inr (.of (s _ _ e2)), rfl, h1, by rw [h2]; exact q _ _ F H hp (New.refl s) (.bl _)⟩
theorem lift_chain {r r' : R2} {f g : D → D → (D → Prop) → Prop} (hf : OpD X.K r f) (hg : OpD X.K r' g) {σ : L2.St} {H : Hp} {Q : VK} (h : lift X.K W (mChain f g ma mb mc) σ H Q) :
    tChain r r' (lift X.K W ma) (lift X.K W mb) (lift X.K W mc) σ H Q := by
  obtain ⟨F, A, ρ, P, PX, r0, hm, hP, hX⟩ := h
  refine ⟨F, A, ρ, _, PX, r0, hm, fun d ρ1 v F1 H1 A1 h1 s1 r1 q1 => ?_, hX⟩
  refine ⟨F1, A1, ρ1, _, PX, r1, h1, fun e ρ2 u F2 H2 A2 h2 s2 r2 q2 => ?_, hX.step s1⟩
  refine hf F2 H2 v u d e _ r2.same (q1.mono s2.ext) q2 h2 _ fun z w F3 H3 hz n w' => ?_
  cases z with
  | bl k =>
    refine ⟨k, w'.bl_inv, ?_⟩
    have s3 := (s1.trans s2).trans n.stp
    cases k with
    | true =>
      rw [if_pos rfl]
      refine ⟨F3, A2, ρ2, _, PX, r2.new n, hz.1 rfl, fun x ρ4 t F4 H4 A4 h4 s4 r4 q4 => ?_, hX.step s3⟩
      exact hg F4 H4 u t e x _ r4.same ((q2.mono n.ext).mono s4.ext) q4 h4 Q fun z w F5 H5 hz n w' => hP z ρ4 w F5 H5 A4 hz ((s3.trans s4).trans n.stp) (r4.new n) w'
    | false =>
      rw [if_neg Bool.false_ne_true]
      exact hP _ ρ2 _ F3 H3 A2 (hz.2 rfl) s3 (r2.new n) (.bl _)
  | _ => exact hz.elim
theorem ge_chain {op op' : CmpOp} {r r' : R2} {f g : D → D → (D → Prop) → Prop} (ho : OpR X (compareOp op) r) (ho' : OpR X (compareOp op') r') (hf : OpD X.K r f) (hg : OpD X.K r' g) (ha : GE X W a ma) (hb : GE X W b mb) (hc : GE X W c mc)
    (hm : lastMarks [op, op'] [b, c] = false := by with_unfolding_all rfl) : GE X W (.Compare a [op, op'] [b, c] pos) (mChain f g ma mb mc) := ⟨pe_imp (pe_chain ho ho' ha.pe hb.pe hc.pe hm) fun _ _ _ h => lift_chain hf hg h⟩
theorem gt_chain {op op' : CmpOp} {r r' : R2} {f g : D → D → (D → Prop) → Prop} (ho : OpR X (compareOp op) r) (ho' : OpR X (compareOp op') r') (hf : OpD X.K r f) (hg : OpD X.K r' g) (ha : GE X W a ma) (hb : GE X W b mb) (hc : GE X W c mc)
    (hm : lastMarks [op, op'] [b, c] = false := by with_unfolding_all rfl) : GT X W (.Compare a [op, op'] [b, c] pos) (mTst (mChain f g ma mb mc)) := ⟨pt_imp (pt_chain ho ho' ha.pe hb.pe hc.pe hm) fun _ _ _ h => lift_chain hf hg (liftT_tst h)⟩

/-! ### argument lists, displays -/
def mNil (ρ : List S) (P : List D → List S → Prop) (PX : XP) : Prop := P [] ρ
def mCons (ma : ME) (mr : MA) (ρ : List S) (P : List D → List S → Prop) (PX : XP) : Prop := ma ρ (fun d ρ1 => mr ρ1 (fun ds ρ2 => P (d :: ds) ρ2) PX) PX
theorem ga_nil : GA X W [] mNil := ⟨pa_imp pa_nil fun σ H Q ⟨F, A, ρ, P, PX, r, hm, hP, _⟩ => hP _ _ _ _ _ _ hm Stp.refl r .nil⟩
theorem ga_cons {es : List Expr} {mr : MA} (ha : GE X W e ma) (hr : GA X W es mr) (hs : starEach (e :: es) X.env = (false, eval e X.env) :: starEach es X.env := by rfl) : GA X W (e :: es) (mCons ma mr) := ⟨pa_imp (pa_cons ha.pe hr.pa hs) fun σ H Q h => by
  obtain ⟨F, A, ρ, P, PX, r0, hm, hP, hX⟩ := h
  refine ⟨F, A, ρ, _, PX, r0, hm, fun d ρ1 v F1 H1 A1 h1 s1 r1 q1 => ?_, hX⟩
  exact ⟨F1, A1, ρ1, _, PX, r1, h1, fun ds ρ2 vs F2 H2 A2 h2 s2 r2 q2 => hP _ ρ2 _ F2 H2 A2 h2 (s1.trans s2) r2 (.cons (q1.mono s2.ext) q2), hX.step s1⟩⟩
def mTup (m : MA) (ρ : List S) (P : D → List S → Prop) (PX : XP) : Prop := m ρ (fun ds ρ1 => ds.length ≤ sizeLine ∧ P (.tup ds) ρ1) PX
def mLst (m : MA) (ρ : List S) (P : C → List S → Prop) (PX : XP) : Prop := m ρ (fun ds ρ1 => ds.length ≤ sizeLine ∧ P (.lst ds) ρ1) PX
theorem ge_tup {es : List Expr} {m : MA} {k : Nat} (h : GA X W es m) : GE X W (.Tuple es k pos) (mTup m) := ⟨pe_imp (pe_tup h.pa) fun σ H Q h => by
  obtain ⟨F, A, ρ, P, PX, r0, hm, hP, hX⟩ := h
  refine ⟨F, A, ρ, _, PX, r0, hm, fun ds ρ1 vs F1 H1 A1 h1 s1 r1 q1 => ⟨by rw [q1.length]; exact h1.1, fun p hp => ?_⟩, hX⟩
  have n := New.mk1 (.tup vs) r1.same hp
  exact hP _ ρ1 _ _ _ A1 h1.2 (s1.trans n.stp) (r1.new n) (.tup upd_same (q1.mono n.ext))⟩
/-- a new object of one's own, given on -/
theorem own_new {K : PySem.W.Frag} {F H F1 H1 : Hp} {A A1 : List Addr} {ρ1 : List S} {σ : L2.St} {p : Addr} (o : HO) (s1 : Stp F H A F1 H1 A1) (r1 : R K F1 A1 ρ1 σ H1) (hp : H1 p = none) :
    Stp F H A F1 (upd H1 p o) A1 ∧ R K F1 A1 ρ1 σ (upd H1 p o) ∧ p ∉ A1 ∧ F1 p = none ∧ H p = none := by
  have n := New.mk0 o r1.same hp
  refine ⟨s1.trans n.stp, r1.new n, fun z => ?_, free_of r1.same hp, s1.dom p hp⟩
  obtain ⟨o', e, _⟩ := r1.rs.there p z
  rw [e] at hp; cases hp
theorem go_lst {es : List Expr} {m : MA} (h : GA X W es m) : GO X W (.List es pos) (mLst m) := ⟨pe_imp (pe_lst h.pa) fun σ H Q h => by
  obtain ⟨F, A, ρ, P, PX, r0, hm, hP, hX⟩ := h
  refine ⟨F, A, ρ, _, PX, r0, hm, fun ds ρ1 vs F1 H1 A1 h1 s1 r1 q1 => ⟨by rw [q1.length]; exact h1.1, fun p hp => ?_⟩, hX⟩
  obtain ⟨s2, r2, n1, n2, n3⟩ := own_new (.lst vs) s1 r1 hp
  exact hP _ ρ1 p _ _ _ A1 h1.2 s2 r2 n1 n3 upd_same (.lst q1) n2⟩
/-- an own list that stays from here on -/
def mFz (m : MO) (ρ : List S) (P : D → List S → Prop) (PX : XP) : Prop := m ρ (fun c ρ' => match c with | .lst ds => P (.lst ds) ρ' | _ => False) PX
theorem ge_fz {m : MO} (h : GO X W e m) : GE X W e (mFz m) := ⟨pe_imp h.pe fun σ H Q h => by
  obtain ⟨F, A, ρ, P, PX, r0, hm, hP, hX⟩ := h
  refine ⟨F, A, ρ, _, PX, r0, hm, fun c ρ1 p o F1 H1 A1 h1 s1 r1 n1 n2 n3 n4 n5 => ?_, hX⟩
  cases c with
  | lst ds =>
    cases n4 with
    | lst q =>
      rename_i vs
      have sm : Same F1 (upd F1 p (.lst vs)) := same_new n5
      refine hP _ ρ1 _ (upd F1 p (.lst vs)) H1 A1 h1 ⟨s1.ext.trans sm, s1.kp, fun b o e n => ?_, s1.sub, s1.dom⟩ ⟨fun b o e => ?_, r1.rs.move sm fun b hb => ⟨rfl, ?_⟩⟩ (.lst upd_same (q.mono sm))
      · rw [upd_ne (fun z => by rw [z, n2] at e; cases e)]
        exact s1.fr b o e n
      · rw [upd_eq] at e
        split at e
        · rename_i z; subst z; cases e; exact n3
        · exact r1.same b o e
      · obtain ⟨_, _, n⟩ := r1.rs.there b hb
        exact (upd_ne (fun (z : b = p) => n1 (by rw [← z]; exact hb))).trans n
  | _ => exact h1.elim⟩

/-! ### subscripts, slices -/
def fIx : D → D → (D → Prop) → Prop
  | .lst ds, .int i, P => ∃ d, atI ds i = some d ∧ P d
  | .tup ds, .int i, P => ∃ d, atI ds i = some d ∧ P d
  | .scr ns, .int i, P => ∃ n, atI ns i = some n ∧ P (.int n)
  | .str x, .int i, P => x.length ≤ sizeLine ∧ ∃ c, atI x.cps.toList i = some c ∧ P (.str ⟨#[c]⟩)
  | _, _, _ => False
theorem atI_reps {K : PySem.W.Frag} {F : Hp} {vs : List V} {ds : List D} {i : Int} {d : D} (r : Reps K F vs ds) (h : atI ds i = some d) : ∃ v, atI vs i = some v ∧ Rep K F v d := by
  unfold atI at h ⊢
  rw [r.length]
  obtain ⟨j, e1, e2⟩ := Option.bind_eq_some_iff.mp h
  obtain ⟨v, h1, h2⟩ := r.get j e2
  exact ⟨v, Option.bind_eq_some_iff.mpr ⟨j, e1, h1⟩, h2⟩
theorem atI_map {α β : Type} {f : α → β} {xs : List α} {i : Int} {x : α} (h : atI xs i = some x) : atI (xs.map f) i = some (f x) := by
  unfold atI at h ⊢
  rw [List.length_map]
  obtain ⟨j, e1, e2⟩ := Option.bind_eq_some_iff.mp h
  exact Option.bind_eq_some_iff.mpr ⟨j, e1, by rw [List.getElem?_map, e2]; rfl⟩
theorem od_ix {K : PySem.W.Frag} : OpD K (rIx K) fIx := by
  intro F H v u d e P s rv ru h Q q
  cases d <;> cases e <;> first | exact h.elim | skip
  · obtain ⟨z, c, e1, hp⟩ := h
    exact .inr (.inr ⟨_, _, c, rv.str_inv, ru.int_inv, z, e1, q _ _ F H hp (New.refl s) (.str _)⟩)
  · obtain ⟨d, e1, hp⟩ := h
    obtain ⟨a, vs, rfl, e2, r⟩ := rv.lst_inv
    obtain ⟨v, h1, h2⟩ := atI_reps r e1
    exact .inl ⟨a, vs, _, v, rfl, ru.int_inv, .of (s _ _ e2), h1, q _ _ F H hp (New.refl s) h2⟩
  · obtain ⟨d, e1, hp⟩ := h
    obtain ⟨a, vs, rfl, e2, r⟩ := rv.tup_inv
    obtain ⟨v, h1, h2⟩ := atI_reps r e1
    exact .inr (.inl ⟨a, vs, _, v, rfl, ru.int_inv, .of (s _ _ e2), h1, q _ _ F H hp (New.refl s) h2⟩)
  · obtain ⟨n, e1, hp⟩ := h
    obtain ⟨a, rfl, e2⟩ := rv.scr_inv
    exact .inl ⟨a, _, _, .int n, rfl, ru.int_inv, s.seq e2, atI_map e1, q _ _ F H hp (New.refl s) (.int n)⟩
theorem ge_ix (ha : GE X W a ma) (hb : GE X W b mb) (hp : PlainIx b := by exact fun _ _ => rfl) : GE X W (.Subscript a b pos) (mBin fIx ma mb) := ⟨pe_imp (pe_ix ix_seq ha.pe hb.pe hp) fun _ _ _ h => lift_bin od_ix h⟩
/-- an item of an own list -/
def mIxV (i : Nat) (mb : ME) (ρ : List S) (P : D → List S → Prop) (PX : XP) : Prop := match ρ[i]? with
  | some (.ow _ _) => mb ρ (fun e ρ1 => match ρ1[i]? with
    | some (.ow _ (.lst ds)) => fIx (.lst ds) e fun z => P z ρ1
    | _ => False) PX
  | _ => False
theorem slot_keeps {K : PySem.W.Frag} {F : Hp} {A : List Addr} {ρ : List S} {σ : L2.St} {H : Hp} (r : R K F A ρ σ H) {i : Nat} {v : V} (h : σ[i]? = some (some v)) {t : Option Addr} {c : C} (e : ρ[i]? = some (.ow t c)) :
    ∃ p o, v = .ref p ∧ p ∈ A ∧ H p = some o ∧ RepC K F o c ∧ F p = none := by
  obtain ⟨p, o, h1, h2, h3, h4, h5, _⟩ := r.rs.getO e
  rw [h1] at h
  exact ⟨p, o, (Option.some.inj (Option.some.inj h)).symm, h2, h3, h4, h5⟩
theorem ge_ixv {i : Nat} {x : Str} {p2 : Pos} (hb : GE X W b mb) (hN : X.N[i]? = some x := by rfl) (hv : Vis X.env.scope x := by first | exact Or.inl rfl | exact Or.inr (Or.inl rfl) | exact Or.inr (Or.inr rfl)) (hd : (x == ("__debug__" : Str)) = false := by decide)
    (hcd : (x == ("__classdict__" : Str)) = false := by decide) (hp : PlainIx b := by exact fun _ _ => rfl) : GE X W (.Subscript (.Name x p2) b pos) (mIxV i mb) := ⟨⟨fun pins s σ H Q I h => by
  refine (pe_ix ix_list (pe_var hN hv hd hcd) hb.pe hp).run pins s σ H Q I ?_
  obtain ⟨F, A, ρ, P, PX, r0, hm, hP, hX⟩ := h
  unfold mIxV at hm
  split at hm
  · rename_i t c h
    obtain ⟨p, o, h1, _⟩ := r0.rs.getO h
    refine ⟨_, h1, F, A, ρ, _, PX, r0, hm, fun e ρ1 u F1 H1 A1 h2 s1 r1 q1 => ?_, hX⟩
    split at h2
    · rename_i t ds h'
      obtain ⟨p', o', e1, h3, h4, h5, h6⟩ := slot_keeps r1 h1 h'
      cases e1
      cases h5 with
      | lst h5 =>
        cases e with
        | int i =>
          obtain ⟨d, e2, hp⟩ := h2
          obtain ⟨v, e3, h7⟩ := atI_reps h5 e2
          exact ⟨_, _, _, v, rfl, q1.int_inv, .of h4, e3, hP _ _ _ _ _ _ hp s1 r1 h7⟩
        | _ => exact h2.elim
    · exact h2.elim
  · exact hm.elim⟩⟩
/-- slices of a frozen list, text, tuple -/
def mNoP (ρ : List S) (P : Option Int → List S → Prop) (PX : XP) : Prop := P none ρ
def mSoP (m : ME) (ρ : List S) (P : Option Int → List S → Prop) (PX : XP) : Prop := m ρ (fun d ρ1 => match d with | .int i => P (some i) ρ1 | _ => False) PX
theorem gp_none : GP X W none mNoP := ⟨po_imp po_none fun σ H Q ⟨F, A, ρ, P, PX, r, hm, hP, _⟩ => hP _ _ _ _ _ hm Stp.refl r⟩
theorem gp_some (h : GE X W e ma) : GP X W (some e) (mSoP ma) := ⟨po_imp (po_some h.pe) fun σ H Q h => by
  obtain ⟨F, A, ρ, P, PX, r0, hm, hP, hX⟩ := h
  refine ⟨F, A, ρ, _, PX, r0, hm, fun d ρ1 v F1 H1 A1 h1 s1 r1 q1 => ?_, hX⟩
  cases d with
  | int i => exact ⟨i, q1.int_inv, hP _ _ _ _ _ h1 s1 r1⟩
  | _ => exact h1.elim⟩
def cutD {α : Type} (xs : List α) (lo hi : Option Int) : List α := (xs.drop (HT.sIx xs.length 0 lo)).take (HT.sIx xs.length xs.length hi - HT.sIx xs.length 0 lo)
def fSl : D → Option Int → Option Int → (D → Prop) → Prop
  | .str x, lo, hi, P => x.length ≤ sizeLine ∧ P (.str (cutS x lo hi))
  | .lst x, lo, hi, P => P (.lst (cutD x lo hi))
  | .tup x, lo, hi, P => ¬ (HT.sIx x.length 0 lo = 0 ∧ HT.sIx x.length x.length hi = x.length) ∧ P (.tup (cutD x lo hi))
  | _, _, _, _ => False
def rSlA (K : PySem.W.Frag) : V → Option Int → Option Int → Hp → VK → Prop := fun x lo hi H Q => rSlS x lo hi H Q ∨ rSlL K x lo hi H Q ∨ rSlT K x lo hi H Q
theorem sl_any : SlR X (rSlA X.K) := sl_str.or (sl_list.or sl_tup)
def mSl (m : ME) (l h : MP) (ρ : List S) (P : D → List S → Prop) (PX : XP) : Prop := m ρ (fun d ρ1 => l ρ1 (fun lo ρ2 => h ρ2 (fun hi ρ3 => fSl d lo hi fun z => P z ρ3) PX) PX) PX
theorem Reps.cut {K : PySem.W.Frag} {F : Hp} {vs : List V} {ds : List D} (r : Reps K F vs ds) (lo hi : Option Int) : Reps K F (cutV vs lo hi) (cutD ds lo hi) := by
  unfold cutV cutD
  rw [r.length]
  exact (r.drop _).take _
theorem ge_sl {lo hi : Option Expr} {ml mh : MP} {p2 : Pos} (ha : GE X W e ma) (hl : GP X W lo ml) (hh : GP X W hi mh) : GE X W (.Subscript e (.Slice lo hi none p2) pos) (mSl ma ml mh) := ⟨pe_imp (pe_slice sl_any ha.pe hl.po hh.po) fun σ H Q h => by
  obtain ⟨F, A, ρ, P, PX, r0, hm, hP, hX⟩ := h
  refine ⟨F, A, ρ, _, PX, r0, hm, fun d ρ1 v F1 H1 A1 h1 s1 r1 q1 => ?_, hX⟩
  refine ⟨F1, A1, ρ1, _, PX, r1, h1, fun lo ρ2 F2 H2 A2 h2 s2 r2 => ?_, hX.step s1⟩
  refine ⟨F2, A2, ρ2, _, PX, r2, h2, fun hi ρ3 F3 H3 A3 h3 s3 r3 => ?_, hX.step (s1.trans s2)⟩
  have q3 := (q1.mono s2.ext).mono s3.ext
  have s := (s1.trans s2).trans s3
  cases d with
  | str x => exact .inl ⟨x, q3.str_inv, h3.1, hP _ _ _ _ _ _ h3.2 s r3 (.str _)⟩
  | lst ds =>
    obtain ⟨a, vs, rfl, e2, r⟩ := q3.lst_inv
    refine .inr (.inl ⟨a, vs, rfl, .of (r3.same _ _ e2), fun p hp => ?_⟩)
    have n := New.mk1 (.lst (cutV vs lo hi)) r3.same hp
    exact hP _ ρ3 _ _ _ _ h3 (s.trans n.stp) (r3.new n) (.lst upd_same ((r.cut lo hi).mono n.ext))
  | tup ds =>
    obtain ⟨a, vs, rfl, e2, r⟩ := q3.tup_inv
    refine .inr (.inr ⟨a, vs, rfl, .of (r3.same _ _ e2), by rw [r.length]; exact h3.1, fun p hp => ?_⟩)
    have n := New.mk1 (.tup (cutV vs lo hi)) r3.same hp
    exact hP _ ρ3 _ _ _ _ h3.2 (s.trans n.stp) (r3.new n) (.tup upd_same ((r.cut lo hi).mono n.ext))
  | _ => exact h3.elim⟩
def mNeg (ma : ME) (ρ : List S) (P : D → List S → Prop) (PX : XP) : Prop := ma ρ (fun d ρ1 => match d with | .int i => P (.int (-i)) ρ1 | _ => False) PX
theorem ge_neg (ha : GE X W a ma) : GE X W (.UnaryOp .USub a pos) (mNeg ma) := ⟨pe_imp (pe_un un_neg ha.pe) fun σ H Q h => by
  obtain ⟨F, A, ρ, P, PX, r0, hm, hP, hX⟩ := h
  refine ⟨F, A, ρ, _, PX, r0, hm, fun d ρ1 v F1 H1 A1 h1 s1 r1 q1 => ?_, hX⟩
  cases d with
  | int i => exact ⟨i, q1.int_inv, hP _ _ _ _ _ _ h1 s1 r1 (.int _)⟩
  | _ => exact h1.elim⟩
end
end G

/-! G: targets, loops, comprehensions, statements -/
namespace G
open PySem PySem.Spec PyProof.Rows L2

/-- what a return hands back: data, or an object of one's own -/
inductive Rv where
  | fz (d : D) | ow (c : C)
structure PEnds where
  nx : List S → Prop
  rt : Rv → List S → Prop
  bk : List S → Prop := fun _ => False
  ct : List S → Prop := fun _ => False
  ex : XP
abbrev MS := PEnds → List S → Prop
abbrev MI := List S → (List D → List S → Prop) → XP → Prop
abbrev MG := D → List S → (List S → Prop) → Prop
abbrev MGs := List D → List S → (List S → Prop) → Prop
abbrev MX := List S → (S → List S → Prop) → XP → Prop

def RvOk (K : PySem.W.Frag) (F H : Hp) (A : List Addr) (F' H' : Hp) (A' : List Addr) (v : V) : Rv → Prop
  | .fz d => Rep K F' v d
  | .ow c => ∃ p o A1, v = .ref p ∧ p ∈ A1 ∧ Stp F H A F' H' A1 ∧ p ∉ A' ∧ H' p = some o ∧ RepC K F' o c ∧ F' p = none
structure SE (K : PySem.W.Frag) (W : WX) (D : Ends) (PD : PEnds) (F H : Hp) (A : List Addr) : Prop where
  nx : ∀ ρ' σ' F' H' A', PD.nx ρ' → Stp F H A F' H' A' → R K F' A' ρ' σ' H' → D.nx σ' H'
  rt : ∀ rv ρ' v σ' F' H' A', PD.rt rv ρ' → Stp F H A F' H' A' → R K F' A' ρ' σ' H' → RvOk K F H A F' H' A' v rv → D.rt v H'
  bk : ∀ ρ' σ' F' H' A', PD.bk ρ' → Stp F H A F' H' A' → R K F' A' ρ' σ' H' → D.bk σ' H'
  ct : ∀ ρ' σ' F' H' A', PD.ct ρ' → Stp F H A F' H' A' → R K F' A' ρ' σ' H' → D.ct σ' H'
  ex : ∀ x ρ' σ' F' H' A' cls dd, PD.ex x ρ' → Stp F H A F' H' A' → R K F' A' ρ' σ' H' → ExR H' x cls dd → W cls dd σ' H'
section
variable {K : PySem.W.Frag} {W : WX} {D : Ends} {PD : PEnds} {F H F1 H1 : Hp} {A A1 : List Addr}
theorem RvOk.step {F' H' : Hp} {A' : List Addr} {v : V} {rv : Rv} (s : Stp F H A F1 H1 A1) (h : RvOk K F1 H1 A1 F' H' A' v rv) : RvOk K F H A F' H' A' v rv := by
  cases rv with
  | fz d => exact h
  | ow c =>
    obtain ⟨p, o, A2, h1, h2, h3, h4⟩ := h
    exact ⟨p, o, A2, h1, h2, s.trans h3, h4⟩
theorem SE.step (h : SE K W D PD F H A) (s : Stp F H A F1 H1 A1) : SE K W D PD F1 H1 A1 where
  nx := fun ρ' σ' F' H' A' h1 s1 r1 => h.nx ρ' σ' F' H' A' h1 (s.trans s1) r1
  rt := fun rv ρ' v σ' F' H' A' h1 s1 r1 q1 => h.rt rv ρ' v σ' F' H' A' h1 (s.trans s1) r1 (q1.step s)
  bk := fun ρ' σ' F' H' A' h1 s1 r1 => h.bk ρ' σ' F' H' A' h1 (s.trans s1) r1
  ct := fun ρ' σ' F' H' A' h1 s1 r1 => h.ct ρ' σ' F' H' A' h1 (s.trans s1) r1
  ex := fun x ρ' σ' F' H' A' cls dd h1 s1 r1 q1 => h.ex x ρ' σ' F' H' A' cls dd h1 (s.trans s1) r1 q1
theorem SE.xc (h : SE K W D PD F H A) (σ : L2.St) : XC K W F H A σ PD.ex := fun x ρ' F' H' A' cls dd h1 s1 r1 q1 => h.ex x ρ' σ F' H' A' cls dd h1 s1 r1 q1
end
def liftS (K : PySem.W.Frag) (W : WX) (m : MS) : TS := fun D σ H => ∃ F A ρ PD, R K F A ρ σ H ∧ m PD ρ ∧ SE K W D PD F H A
structure GS (X : Cx) (W : WX) (st : Stmt) (m : MS) : Prop where
  ps : PS X st (liftS X.K W m)
structure GSs (X : Cx) (W : WX) (st : List Stmt) (m : MS) : Prop where
  pss : PSs X st (liftS X.K W m)
theorem ps_imp {X : Cx} {st : Stmt} {t t' : TS} (h : PS X st t) (i : ∀ D σ H, t' D σ H → t D σ H) : PS X st t' := ⟨fun pins s σ H D I hw => h.run pins s σ H D I (i D σ H hw)⟩
theorem pss_imp {X : Cx} {st : List Stmt} {t t' : TS} (h : PSs X st t) (i : ∀ D σ H, t' D σ H → t D σ H) : PSs X st t' := ⟨fun pins s σ H D I hw => h.run pins s σ H D I (i D σ H hw)⟩

section
variable {X : Cx} {W : WX} {e : Expr} {st : Stmt} {rest : List Stmt} {pos : Pos} {m1 m2 : MS} {ma : ME}
/-! ### blocks -/
def mNx (PD : PEnds) (ρ : List S) : Prop := PD.nx ρ
/-- what comes next: opened only at the head -/
structure Nxt (m : MS) (PD : PEnds) (ρ : List S) : Prop where
  go : m PD ρ
theorem nxt_go {m : MS} {PD : PEnds} {ρ : List S} (h : m PD ρ) : Nxt m PD ρ := ⟨h⟩
def mSeq (m1 m2 : MS) (PD : PEnds) (ρ : List S) : Prop := m1 { PD with nx := fun ρ' => Nxt m2 PD ρ' } ρ
theorem gss_nil : GSs X W [] mNx := ⟨pss_imp pss_nil fun D σ H ⟨F, A, ρ, PD, r, h, q⟩ => q.nx _ _ _ _ _ h Stp.refl r⟩
theorem gss_cons (h1 : GS X W st m1) (h2 : GSs X W rest m2) : GSs X W (st :: rest) (mSeq m1 m2) := ⟨pss_imp (pss_cons h1.ps h2.pss) fun D σ H h => by
  obtain ⟨F, A, ρ, PD, r, h, q⟩ := h
  exact ⟨F, A, ρ, _, r, h, ⟨fun ρ' σ' F' H' A' h1 s1 r1 => ⟨F', A', ρ', PD, r1, h1.go, q.step s1⟩, q.rt, q.bk, q.ct, q.ex⟩⟩⟩
theorem gss_one (h1 : GS X W st m1) : GSs X W [st] m1 := ⟨pss_one h1.ps⟩
theorem gs_pass : GS X W (.Pass pos) mNx := ⟨ps_imp ps_pass fun D σ H ⟨F, A, ρ, PD, r, h, q⟩ => q.nx _ _ _ _ _ h Stp.refl r⟩
def mBk (PD : PEnds) (ρ : List S) : Prop := PD.bk ρ
def mCt (PD : PEnds) (ρ : List S) : Prop := PD.ct ρ
theorem gs_break : GS X W (.Break pos) mBk := ⟨ps_imp ps_break fun D σ H ⟨F, A, ρ, PD, r, h, q⟩ => q.bk _ _ _ _ _ h Stp.refl r⟩
theorem gs_continue : GS X W (.Continue pos) mCt := ⟨ps_imp ps_continue fun D σ H ⟨F, A, ρ, PD, r, h, q⟩ => q.ct _ _ _ _ _ h Stp.refl r⟩
def mEx (m : ME) (PD : PEnds) (ρ : List S) : Prop := m ρ (fun _ ρ' => PD.nx ρ') PD.ex
theorem gs_expr (h : GE X W e ma) (hs : swapsWith e none pos.line X.env = pure false := by rfl) : GS X W (.Expr e pos) (mEx ma) := ⟨ps_imp (ps_expr h.pe hs) fun D σ H h => by
  obtain ⟨F, A, ρ, PD, r, h, q⟩ := h
  exact ⟨F, A, ρ, _, PD.ex, r, h, fun d ρ' v F' H' A' h1 s1 r1 q1 => q.nx _ _ _ _ _ h1 s1 r1, q.xc σ⟩⟩
def mIfS (t : MT) (a b : MS) (PD : PEnds) (ρ : List S) : Prop := t ρ (fun c ρ1 => (c = true → a PD ρ1) ∧ (c = false → b PD ρ1)) PD.ex
theorem gs_if {c : Expr} {a b : List Stmt} {mt : MT} (hc : GT X W c mt) (ha : GSs X W a m1) (hb : GSs X W b m2) : GS X W (.If c a b pos) (mIfS mt m1 m2) := ⟨ps_imp (ps_if hc.pt ha.pss hb.pss) fun D σ H h => by
  obtain ⟨F, A, ρ, PD, r, h, q⟩ := h
  refine ⟨F, A, ρ, _, PD.ex, r, h, fun b ρ' F' H' A' h1 s1 r1 => ?_, q.xc σ⟩
  cases b with
  | true => rw [if_pos rfl]; exact ⟨F', A', ρ', PD, r1, h1.1 rfl, q.step s1⟩
  | false => rw [if_neg Bool.false_ne_true]; exact ⟨F', A', ρ', PD, r1, h1.2 rfl, q.step s1⟩⟩

/-! ### a value for a slot: data, or a new object of one's own -/
def SlOk (K : PySem.W.Frag) (H : Hp) (F' H' : Hp) (A' : List Addr) (v : V) : S → Prop
  | .fz d => Rep K F' v d
  | .ow none c => ∃ p o, v = .ref p ∧ p ∉ A' ∧ H p = none ∧ H' p = some o ∧ RepC K F' o c ∧ F' p = none
  | _ => False
def liftX (K : PySem.W.Frag) (W : WX) (m : MX) : TE := fun σ H Q => ∃ F A ρ P PX, R K F A ρ σ H ∧ m ρ P PX ∧
  (∀ s ρ' v F' H' A', P s ρ' → Stp F H A F' H' A' → R K F' A' ρ' σ H' → SlOk K H F' H' A' v s → Q v H') ∧ XC K W F H A σ PX
structure GX (X : Cx) (W : WX) (e : Expr) (m : MX) : Prop where
  pe : PE X e (liftX X.K W m)
def mXe (m : ME) (ρ : List S) (P : S → List S → Prop) (PX : XP) : Prop := m ρ (fun d ρ' => P (.fz d) ρ') PX
def mXo (m : MO) (ρ : List S) (P : S → List S → Prop) (PX : XP) : Prop := m ρ (fun c ρ' => P (.ow none c) ρ') PX
theorem gx_e (h : GE X W e ma) : GX X W e (mXe ma) := ⟨pe_imp h.pe fun σ H Q h => by
  obtain ⟨F, A, ρ, P, PX, r, hm, hP, hX⟩ := h
  exact ⟨F, A, ρ, _, PX, r, hm, fun d ρ' v F' H' A' h1 s1 r1 q1 => hP _ _ _ _ _ _ h1 s1 r1 q1, hX⟩⟩
theorem gx_o {mo : MO} (h : GO X W e mo) : GX X W e (mXo mo) := ⟨pe_imp h.pe fun σ H Q h => by
  obtain ⟨F, A, ρ, P, PX, r, hm, hP, hX⟩ := h
  exact ⟨F, A, ρ, _, PX, r, hm, fun c ρ' p o F' H' A' h1 s1 r1 n1 n2 n3 n4 n5 => hP _ _ _ _ _ _ h1 s1 r1 ⟨p, o, rfl, n1, n2, n3, n4, n5⟩, hX⟩⟩
/-- stored -/
theorem R.store {K : PySem.W.Frag} {F H F' H' : Hp} {A A' : List Addr} {ρ : List S} {σ : L2.St} {v : V} {s : S} (s1 : Stp F H A F' H' A') (r : R K F' A' ρ σ H') (q : SlOk K H F' H' A' v s) (i : Nat) :
    ∃ A2, Stp F H A F' H' A2 ∧ R K F' A2 (ρ.set i s) (σ.set i (some v)) H' := by
  cases s with
  | un => exact q.elim
  | fz d =>
    obtain ⟨A2, h1, h2⟩ := r.rs.setF q i
    exact ⟨A2, s1.trans (Stp.less h1), r.same, h2⟩
  | ow t c =>
    cases t with
    | some t => exact q.elim
    | none =>
      obtain ⟨p, o, rfl, n1, n2, n3, n4, n5⟩ := q
      obtain ⟨A2, h1, h2⟩ := r.rs.setO n1 n3 n4 n5 i
      refine ⟨A2, ⟨s1.ext, s1.kp, s1.fr, fun b hb => ?_, s1.dom⟩, r.same, h2⟩
      rcases h1 b hb with z | z
      · exact s1.sub b z
      · rw [z]; exact .inr n2
def mSet (i : Nat) (m : MX) (PD : PEnds) (ρ : List S) : Prop := m ρ (fun s ρ' => PD.nx (ρ'.set i s)) PD.ex
theorem gs_set {i : Nat} {x : Str} {p2 : Pos} {mx : MX} (he : GX X W e mx) (hN : X.N.Nodup) (hi : X.N[i]? = some x := by rfl) (hx : Loc X.env.scope x := by first | exact Or.inl rfl | exact Or.inr rfl) (hs : swapsWith e (some (.Name x p2)) pos.line X.env = pure false := by rfl)
    (hf : X.fn x = true ∨ X.env.scope.names.lookup x = some .local := by first | exact .inl rfl | exact .inr rfl) : GS X W (.Assign [.Name x p2] e pos) (mSet i mx) := ⟨ps_imp (ps_set hN hi hx he.pe hs hf) fun D σ H h => by
  obtain ⟨F, A, ρ, PD, r, h, q⟩ := h
  refine ⟨F, A, ρ, _, PD.ex, r, h, fun s ρ' v F' H' A' h1 s1 r1 q1 => ?_, q.xc σ⟩
  obtain ⟨A2, s2, r2⟩ := r1.store s1 q1 i
  exact q.nx _ _ _ _ _ h1 s2 r2⟩
/-- return -/
def mRet (m : ME) (PD : PEnds) (ρ : List S) : Prop := m ρ (fun d ρ' => PD.rt (.fz d) ρ') PD.ex
theorem gs_ret (h : GE X W e ma) : GS X W (.Return (some e) pos) (mRet ma) := ⟨ps_imp (ps_ret h.pe) fun D σ H h => by
  obtain ⟨F, A, ρ, PD, r, h, q⟩ := h
  exact ⟨F, A, ρ, _, PD.ex, r, h, fun d ρ' v F' H' A' h1 s1 r1 q1 => q.rt _ _ _ _ _ _ _ h1 s1 r1 q1, q.xc σ⟩⟩
def mRetO (m : MO) (PD : PEnds) (ρ : List S) : Prop := m ρ (fun c ρ' => PD.rt (.ow c) ρ') PD.ex
theorem gs_retO {mo : MO} (h : GO X W e mo) : GS X W (.Return (some e) pos) (mRetO mo) := ⟨ps_imp (ps_ret h.pe) fun D σ H h => by
  obtain ⟨F, A, ρ, PD, r, h, q⟩ := h
  refine ⟨F, A, ρ, _, PD.ex, r, h, fun c ρ' p o F' H' A' h1 s1 r1 n1 n2 n3 n4 n5 => q.rt _ _ _ _ _ _ _ h1 s1 r1 ⟨p, o, p :: A', rfl, List.mem_cons_self, ⟨s1.ext, s1.kp, s1.fr, fun b hb => ?_, s1.dom⟩, n1, n3, n4, n5⟩, q.xc σ⟩
  rcases List.mem_cons.mp hb with z | z
  · rw [z]; exact .inr n2
  · exact s1.sub b z⟩
def mRetN (PD : PEnds) (ρ : List S) : Prop := PD.rt (.fz .non) ρ
theorem gs_retN : GS X W (.Return none pos) mRetN := ⟨ps_imp ps_retN fun D σ H ⟨F, A, ρ, PD, r, h, q⟩ => q.rt _ _ _ _ _ _ _ h Stp.refl r .non⟩
/-- return of an own local: it's given away -/
def mRetV (i : Nat) (PD : PEnds) (ρ : List S) : Prop := match ρ[i]? with
  | some (.ow none c) => PD.rt (.ow c) (ρ.set i .un)
  | _ => False
theorem RS.take {K : PySem.W.Frag} {F H : Hp} {A : List Addr} {ρ : List S} {σ : L2.St} (r : RS K F H A ρ σ) : ∀ {i : Nat} {t : Option Addr} {c : C}, ρ[i]? = some (.ow t c) →
    ∃ p o A', σ[i]? = some (some (V.ref p)) ∧ H p = some o ∧ RepC K F o c ∧ F p = none ∧ p ∈ A ∧ (∀ q, q ∈ A' → q ∈ A) ∧ p ∉ A' ∧ RS K F H A' (ρ.set i .un) σ := by
  induction r with
  | nil => intro i t c e; simp at e
  | un r0 ih => intro i t c e; cases i with
    | zero => simp at e
    | succ i =>
      obtain ⟨p, o, A', h1, h2, h3, h4, h5, h6, h7, h8⟩ := ih (i := i) (by simpa using e)
      exact ⟨p, o, A', by simpa using h1, h2, h3, h4, h5, h6, h7, .un h8⟩
  | fz q0 r0 ih => intro i t c e; cases i with
    | zero => simp at e
    | succ i =>
      obtain ⟨p, o, A', h1, h2, h3, h4, h5, h6, h7, h8⟩ := ih (i := i) (by simpa using e)
      exact ⟨p, o, A', by simpa using h1, h2, h3, h4, h5, h6, h7, .fz q0 h8⟩
  | ow e0 c0 n0 na0 t0 r0 ih => intro i t c e; cases i with
    | zero =>
      simp at e
      obtain ⟨rfl, rfl⟩ := e
      exact ⟨_, _, _, rfl, e0, c0, n0, List.mem_cons_self, fun q h => List.mem_cons_of_mem _ h, na0, .un r0⟩
    | succ i =>
      obtain ⟨p, o, A', h1, h2, h3, h4, h5, h6, h7, h8⟩ := ih (i := i) (by simpa using e)
      refine ⟨p, o, _ :: A', by simpa using h1, h2, h3, h4, List.mem_cons_of_mem _ h5, fun q h => ?_, fun h => ?_, .ow e0 c0 n0 (fun z => na0 (h6 _ z)) t0 h8⟩
      · rcases List.mem_cons.mp h with z | z
        · rw [z]; exact List.mem_cons_self
        · exact List.mem_cons_of_mem _ (h6 q z)
      · rcases List.mem_cons.mp h with z | z
        · exact na0 (by rw [← z]; exact h5)
        · exact h7 z
theorem gs_retV {i : Nat} {x : Str} {p2 : Pos} (hN : X.N[i]? = some x := by rfl) (hv : Vis X.env.scope x := by first | exact Or.inl rfl | exact Or.inr (Or.inl rfl) | exact Or.inr (Or.inr rfl)) (hd : (x == ("__debug__" : Str)) = false := by decide)
    (hcd : (x == ("__classdict__" : Str)) = false := by decide) : GS X W (.Return (some (.Name x p2)) pos) (mRetV i) := ⟨ps_imp (ps_ret (pe_var hN hv hd hcd)) fun D σ H h => by
  obtain ⟨F, A, ρ, PD, r, h, q⟩ := h
  unfold mRetV at h
  split at h
  · rename_i c e
    obtain ⟨p, o, A', h1, h2, h3, h4, h5, h6, h7, h8⟩ := r.rs.take e
    exact ⟨_, h1, q.rt _ _ _ _ F H A' h (Stp.less h6) ⟨r.same, h8⟩ ⟨p, o, A, rfl, h5, Stp.refl, h7, h2, h3, h4⟩⟩
  · exact h.elim⟩
/-- name op= e, on data -/
def mAug (i : Nat) (f : D → D → (D → Prop) → Prop) (m : ME) (PD : PEnds) (ρ : List S) : Prop := match ρ[i]? with
  | some (.fz d) => m ρ (fun e ρ' => f d e fun z => PD.nx (ρ'.set i (.fz z))) PD.ex
  | _ => False
theorem gs_aug {i : Nat} {x : Str} {op : Operator} {r : R2} {f : D → D → (D → Prop) → Prop} {p2 : Pos} (ho : OpR X (inplaceOp op) r) (hf : OpD X.K r f) (he : GE X W e ma) (hN : X.N.Nodup) (hi : X.N[i]? = some x := by rfl) (hx : Loc X.env.scope x := by first | exact Or.inl rfl | exact Or.inr rfl)
    (hfn : X.fn x = true ∨ X.env.scope.names.lookup x = some .local := by first | exact .inl rfl | exact .inr rfl) : GS X W (.AugAssign (.Name x p2) op e pos) (mAug i f ma) := ⟨ps_imp (ps_aug hN hi hx he.pe (ti := r) (fun pins s σ H x y v u Q I rx ry q => ho pins s σ H x y v u Q I rx ry q) hfn) fun D σ H h => by
  obtain ⟨F, A, ρ, PD, r0, h, q⟩ := h
  unfold mAug at h
  split at h
  · rename_i d h0
    obtain ⟨v0, h1, h2⟩ := r0.rs.getF h0
    refine ⟨v0, h1, F, A, ρ, _, PD.ex, r0, h, fun d' ρ' v F' H' A' h1 s1 r1 q1 => ?_, q.xc σ⟩
    refine hf F' H' v0 v d d' _ r1.same (h2.mono s1.ext) q1 h1 _ fun z w F3 H3 hz n w' => ?_
    obtain ⟨A2, s2, r2⟩ := R.store (s := .fz z) (s1.trans n.stp) (r1.new n) w' i
    exact q.nx _ _ _ _ _ hz s2 r2
  · exact h.elim⟩
end
end G

/-! G: targets, what is walked, loops, comprehensions -/
namespace G
open PySem PySem.Spec PyProof.Rows L2

/-! ### targets -/
def Chg (is : List Nat) (σ σ' : L2.St) : Prop := σ'.length = σ.length ∧ ∀ j, j ∉ is → σ'[j]? = σ[j]?
theorem Chg.refl {σ : L2.St} {is : List Nat} : Chg is σ σ := ⟨rfl, fun _ _ => rfl⟩
def liftG (K : PySem.W.Frag) (is : List Nat) (m : MG) : TG := fun v σ H Q => ∃ F A ρ d P, R K F A ρ σ H ∧ Rep K F v d ∧ m d ρ P ∧
  ∀ ρ' σ' A', P ρ' → Stp F H A F H A' → R K F A' ρ' σ' H → Chg is σ σ' → Q σ' H
def liftGs (K : PySem.W.Frag) (is : List Nat) (m : MGs) : TGs := fun vs σ H Q => ∃ F A ρ ds P, R K F A ρ σ H ∧ Reps K F vs ds ∧ m ds ρ P ∧
  ∀ ρ' σ' A', P ρ' → Stp F H A F H A' → R K F A' ρ' σ' H → Chg is σ σ' → Q σ' H
structure GG (X : Cx) (is : List Nat) (tg : Expr) (m : MG) : Prop where
  pg : PG X tg (liftG X.K is m)
structure GGs (X : Cx) (is : List Nat) (tgs : List Expr) (m : MGs) : Prop where
  pgs : PGs X tgs (liftGs X.K is m)
theorem pg_imp {X : Cx} {e : Expr} {t t' : TG} (h : PG X e t) (i : ∀ v σ H Q, t' v σ H Q → t v σ H Q) : PG X e t' := ⟨fun pins s σ H v u Q I r hw => h.run pins s σ H v u Q I r (i v σ H Q hw)⟩
theorem pgs_imp {X : Cx} {e : List Expr} {t t' : TGs} (h : PGs X e t) (i : ∀ v σ H Q, t' v σ H Q → t v σ H Q) : PGs X e t' := ⟨fun pins s σ H v u Q I r hw => h.run pins s σ H v u Q I r (i v σ H Q hw)⟩
section
variable {X : Cx} {W : WX} {e tg : Expr} {es : List Expr} {pos p2 : Pos} {is js : List Nat} {mg : MG} {mgs : MGs}
def gN (i : Nat) (d : D) (ρ : List S) (P : List S → Prop) : Prop := P (ρ.set i (.fz d))
theorem gg_name {i : Nat} {x : Str} (hN : X.N.Nodup) (hi : X.N[i]? = some x := by rfl) (hx : Loc X.env.scope x := by first | exact Or.inl rfl | exact Or.inr rfl) (hf : X.fn x = true ∨ X.env.scope.names.lookup x = some .local := by first | exact .inl rfl | exact .inr rfl) :
    GG X [i] (.Name x pos) (gN i) := ⟨pg_imp (pg_name hN hi hx hf) fun v σ H Q h => by
  obtain ⟨F, A, ρ, d, P, r, q, hm, hP⟩ := h
  obtain ⟨A2, s2, r2⟩ := R.store (s := .fz d) (Stp.refl) r q i
  exact hP _ _ _ hm s2 r2 ⟨List.length_set, fun j hj => List.getElem?_set_ne (fun z => hj (by simp [z]))⟩⟩
def gNl (ds : List D) (ρ : List S) (P : List S → Prop) : Prop := match ds with
  | [] => P ρ
  | _ => False
def gCs (g : MG) (gs : MGs) (ds : List D) (ρ : List S) (P : List S → Prop) : Prop := match ds with
  | d :: r => g d ρ fun ρ1 => gs r ρ1 P
  | _ => False
def gT (gs : MGs) (d : D) (ρ : List S) (P : List S → Prop) : Prop := match d with
  | .tup ds => gs ds ρ P
  | _ => False
theorem ggs_nil : GGs X [] [] gNl := ⟨pgs_imp pgs_nil fun v σ H Q h => by
  obtain ⟨F, A, ρ, ds, P, r, q, hm, hP⟩ := h
  cases q with
  | nil => exact ⟨rfl, hP _ _ _ hm Stp.refl r .refl⟩
  | cons _ _ => exact hm.elim⟩
theorem ggs_cons (h1 : GG X is e mg) (h2 : GGs X js es mgs) (hs : (assignEach (e :: es) X.env).map (·.2) = assign e X.env :: (assignEach es X.env).map (·.2) := by rfl) : GGs X (is ++ js) (e :: es) (gCs mg mgs) :=
  ⟨pgs_imp (pgs_cons h1.pg h2.pgs hs) fun vs σ H Q h => by
  obtain ⟨F, A, ρ, ds, P, r, q, hm, hP⟩ := h
  cases q with
  | nil => exact hm.elim
  | cons q1 q2 =>
    refine ⟨_, _, rfl, F, A, ρ, _, _, r, q1, hm, fun ρ1 σ1 A1 h1 s1 r1 c1 => ?_⟩
    refine ⟨F, A1, ρ1, _, _, r1, q2, h1, fun ρ2 σ2 A2 h2 s2 r2 c2 => hP _ _ _ h2 (s1.trans s2) r2 ⟨c2.1.trans c1.1, fun j hj => ?_⟩⟩
    rw [c2.2 j (fun z => hj (List.mem_append_right _ z)), c1.2 j (fun z => hj (List.mem_append_left _ z))]⟩
theorem gg_tup {k : Nat} {n : Nat} (hc : X.calm = true) (h : GGs X is es mgs) (hl : es.length = n) (hm : ∀ ds ρ P, mgs ds ρ P → ds.length = n) (hn : (assignEach es X.env).length = n := by rfl) (hst : (assignEach es X.env).findIdx? (·.1) = none := by rfl) : GG X is (.Tuple es k pos) (gT mgs) :=
  ⟨pg_imp (pg_tup hc h.pgs hn hst) fun v σ H Q h => by
  obtain ⟨F, A, ρ, d, P, r, q, hm', hP⟩ := h
  cases d with
  | tup ds =>
    obtain ⟨a, vs, rfl, e2, r2⟩ := q.tup_inv
    exact ⟨a, vs, rfl, .of (r.same _ _ e2), by rw [r2.length]; exact hm _ _ _ hm', F, A, ρ, ds, P, r, r2, hm', hP⟩
  | _ => exact hm'.elim⟩
theorem gNl_len {ds : List D} {ρ : List S} {P : List S → Prop} (h : gNl ds ρ P) : ds.length = 0 := by
  cases ds with
  | nil => rfl
  | cons _ _ => exact h.elim
theorem gCs1_len {i : Nat} {gs : MGs} {n : Nat} (hg : ∀ ds ρ P, gs ds ρ P → ds.length = n) (ds : List D) (ρ : List S) (P : List S → Prop) (h : gCs (gN i) gs ds ρ P) : ds.length = n + 1 := by
  cases ds with
  | nil => exact h.elim
  | cons d r => exact congrArg (· + 1) (hg _ _ _ h)
/-- (a, b) = a pair; three; four -/
theorem gg_tup2 {i j : Nat} {e1 e2 : Expr} {k : Nat} (hc : X.calm = true) (h1 : GG X [i] e1 (gN i)) (h2 : GG X [j] e2 (gN j)) (hn : (assignEach [e1, e2] X.env).length = 2 := by rfl) (hst : (assignEach [e1, e2] X.env).findIdx? (·.1) = none := by rfl)
    (hs : (assignEach [e1, e2] X.env).map (·.2) = assign e1 X.env :: (assignEach [e2] X.env).map (·.2) := by rfl) (hs2 : (assignEach [e2] X.env).map (·.2) = assign e2 X.env :: (assignEach [] X.env).map (·.2) := by rfl) :
    GG X [i, j] (.Tuple [e1, e2] k pos) (gT (gCs (gN i) (gCs (gN j) gNl))) :=
  gg_tup hc (ggs_cons h1 (ggs_cons h2 ggs_nil hs2) hs) rfl (gCs1_len (n := 1) (gCs1_len (n := 0) fun _ _ _ h => gNl_len h)) hn hst
theorem gg_tup3 {i j l : Nat} {e1 e2 e3 : Expr} {k : Nat} (hc : X.calm = true) (h1 : GG X [i] e1 (gN i)) (h2 : GG X [j] e2 (gN j)) (h3 : GG X [l] e3 (gN l)) (hn : (assignEach [e1, e2, e3] X.env).length = 3 := by rfl) (hst : (assignEach [e1, e2, e3] X.env).findIdx? (·.1) = none := by rfl)
    (hs : (assignEach [e1, e2, e3] X.env).map (·.2) = assign e1 X.env :: (assignEach [e2, e3] X.env).map (·.2) := by rfl) (hs2 : (assignEach [e2, e3] X.env).map (·.2) = assign e2 X.env :: (assignEach [e3] X.env).map (·.2) := by rfl)
    (hs3 : (assignEach [e3] X.env).map (·.2) = assign e3 X.env :: (assignEach [] X.env).map (·.2) := by rfl) :
    GG X [i, j, l] (.Tuple [e1, e2, e3] k pos) (gT (gCs (gN i) (gCs (gN j) (gCs (gN l) gNl)))) :=
  gg_tup hc (ggs_cons h1 (ggs_cons h2 (ggs_cons h3 ggs_nil hs3) hs2) hs) rfl (gCs1_len (n := 2) (gCs1_len (n := 1) (gCs1_len (n := 0) fun _ _ _ h => gNl_len h))) hn hst
end

/-! ### what is walked -/
def IsIt (K : PySem.W.Frag) (F : Hp) (J : It) (ds : List D) : Prop := ∀ i F2 H, Same F F2 → Same F2 H →
  (∀ h : i < ds.length, J.go i H ∧ ∀ x H', J.yld i H x H' → ∃ F3, New F2 H F3 H' ∧ Rep K F3 x ds[i]) ∧ (ds.length ≤ i → J.stop i H)
def liftI (K : PySem.W.Frag) (W : WX) (m : MI) : TI := fun σ H Rr => ∃ F A ρ P PX, R K F A ρ σ H ∧ m ρ P PX ∧
  (∀ ds ρ' F' H' A' J, P ds ρ' → Stp F H A F' H' A' → R K F' A' ρ' σ H' → IsIt K F' J ds → Rr J H') ∧ XC K W F H A σ PX
structure GI (X : Cx) (W : WX) (tg e : Expr) (m : MI) : Prop where
  pi : PI X tg e (liftI X.K W m)
theorem pi_imp {X : Cx} {tg e : Expr} {t t' : TI} (h : PI X tg e t) (i : ∀ σ H Q, t' σ H Q → t σ H Q) : PI X tg e t' := ⟨fun pins s σ H Q I hw => h.run pins s σ H Q I (i σ H Q hw)⟩
section
variable {K : PySem.W.Frag}
theorem isIt_list {F : Hp} {a : Addr} {vs : List V} {ds : List D} (e : F a = some (.lst vs)) (r : Reps K F vs ds) : IsIt K F (Itl K a) ds := by
  intro i F2 H s1 s2
  have hq : SqL K H a vs := .of (s2 _ _ (s1 _ _ e))
  refine ⟨fun h => ?_, fun h => ⟨vs, hq, by rw [r.length]; exact h⟩⟩
  obtain ⟨v, h1, h2⟩ := r.get i (List.getElem?_eq_getElem h)
  refine ⟨⟨vs, v, hq, h1⟩, fun x H' y => ?_⟩
  obtain ⟨rfl, y⟩ := y
  have : x = v := Option.some.inj ((y vs hq).symm.trans h1)
  subst this
  exact ⟨F2, New.refl s2, h2.mono s1⟩
theorem isIt_tup {F : Hp} {a : Addr} {vs : List V} {ds : List D} (e : F a = some (.tup vs)) (r : Reps K F vs ds) : IsIt K F (Itt K a) ds := by
  intro i F2 H s1 s2
  have hq : SqT K H a vs := .of (s2 _ _ (s1 _ _ e))
  refine ⟨fun h => ?_, fun h => ⟨vs, hq, by rw [r.length]; exact h⟩⟩
  obtain ⟨v, h1, h2⟩ := r.get i (List.getElem?_eq_getElem h)
  refine ⟨⟨vs, v, hq, h1⟩, fun x H' y => ?_⟩
  obtain ⟨rfl, y⟩ := y
  have : x = v := Option.some.inj ((y vs hq).symm.trans h1)
  subst this
  exact ⟨F2, New.refl s2, h2.mono s1⟩
/-- lo, lo + c, .. -/
def rngD (lo c : Int) (n : Nat) : List D := (List.range n).map fun i => D.int (lo + (i : Nat) * c)
theorem isIt_rng {F : Hp} (lo : Int) (n : Nat) : IsIt K F (Itr lo n) (rngD lo 1 n) := by
  intro i F2 H s1 s2
  have hl : (rngD lo 1 n).length = n := by simp [rngD]
  refine ⟨fun h => ⟨by rw [← hl]; exact h, fun x H' y => ?_⟩, fun h => by rw [hl] at h; exact h⟩
  obtain ⟨rfl, rfl⟩ := y
  refine ⟨F2, New.refl s2, ?_⟩
  have : (rngD lo 1 n)[i] = D.int (lo + i) := by simp [rngD]
  rw [this]
  exact .int _
theorem isIt_rngC {F : Hp} (lo c : Int) (n : Nat) : IsIt K F (Itc lo c n) (rngD lo c n) := by
  intro i F2 H s1 s2
  have hl : (rngD lo c n).length = n := by simp [rngD]
  refine ⟨fun h => ⟨by rw [← hl]; exact h, fun x H' y => ?_⟩, fun h => by rw [hl] at h; exact h⟩
  obtain ⟨rfl, rfl⟩ := y
  refine ⟨F2, New.refl s2, ?_⟩
  have : (rngD lo c n)[i] = D.int (lo + (i : Nat) * c) := by simp [rngD]
  rw [this]
  exact .int _
def signs (x : Str) : List D := x.cps.toList.map fun c => D.str ⟨#[c]⟩
theorem isIt_str {F : Hp} (z : Str) : IsIt K F (Its z) (signs z) := by
  intro i F2 H s1 s2
  have hl : (signs z).length = z.cps.size := by simp [signs]
  refine ⟨fun h => ⟨(show i < z.cps.size by rw [← hl]; exact h), fun x H' y => ?_⟩, fun h => (show z.cps.size ≤ i by rw [hl] at h; exact h)⟩
  obtain ⟨rfl, c, hc, rfl⟩ := y
  refine ⟨F2, New.refl s2, ?_⟩
  have hi : i < z.cps.size := by rw [← hl]; exact h
  have : z.cps[i] = c := by
    rw [Array.getElem?_eq_getElem hi] at hc
    exact Option.some.inj hc
  have e : (signs z)[i] = D.str ⟨#[c]⟩ := by simp [signs, this]
  rw [e]
  exact .str _
theorem isIt_rev {F : Hp} {a : Addr} {vs : List V} {ds : List D} (e : F a = some (.lst vs)) (r : Reps K F vs ds) : IsIt K F (Itv K a vs.length) ds.reverse := by
  intro i F2 H s1 s2
  have hq : SqL K H a vs := .of (s2 _ _ (s1 _ _ e))
  have hl : ds.reverse.length = vs.length := by rw [List.length_reverse, r.length]
  refine ⟨fun h => ?_, fun h => by rw [hl] at h; exact h⟩
  have h0 : i < vs.length := by rw [← hl]; exact h
  have h1 : ds[vs.length - 1 - i]? = some ds.reverse[i] := by
    rw [List.getElem_reverse, List.getElem?_eq_getElem (by rw [← r.length]; omega)]
    congr 2
    rw [r.length]
  obtain ⟨v, h2, h3⟩ := r.get _ h1
  refine ⟨⟨h0, vs, v, hq, h2⟩, fun x H' y => ?_⟩
  obtain ⟨rfl, y⟩ := y
  have : x = v := Option.some.inj ((y vs hq).symm.trans h2)
  subst this
  exact ⟨F2, New.refl s2, h3.mono s1⟩
def enumD (ds : List D) : List D := (List.range ds.length).map fun i => D.tup [.int (i : Nat), ds.getD i .non]
theorem isIt_enum {F : Hp} {a : Addr} {vs : List V} {ds : List D} (e : F a = some (.lst vs)) (r : Reps K F vs ds) : IsIt K F (Ite K a) (enumD ds) := by
  intro i F2 H s1 s2
  have hq : SqL K H a vs := .of (s2 _ _ (s1 _ _ e))
  have hl : (enumD ds).length = ds.length := by simp [enumD]
  refine ⟨fun h => ?_, fun h => ⟨vs, hq, by rw [r.length, ← hl]; exact h⟩⟩
  have h0 : i < ds.length := by rw [← hl]; exact h
  obtain ⟨v, h1, h2⟩ := r.get i (List.getElem?_eq_getElem h0)
  refine ⟨⟨vs, v, hq, h1⟩, fun x H' y => ?_⟩
  obtain ⟨T, x', rfl, hT, rfl, y⟩ := y
  have : x' = v := Option.some.inj ((y vs hq).symm.trans h1)
  subst this
  have n := New.mk1 (.tup [.int (i : Nat), x']) s2 hT
  refine ⟨_, n, ?_⟩
  have e : (enumD ds)[i] = D.tup [.int (i : Nat), ds[i]] := by simp [enumD, h0]
  rw [e]
  exact .tup upd_same (.cons (.int _) (.cons ((h2.mono s1).mono n.ext) .nil))
def zipD (ds es : List D) : List D := (ds.zip es).map fun p => D.tup [p.1, p.2]
theorem isIt_zip {F : Hp} {a b : Addr} {vs us : List V} {ds es : List D} (e : F a = some (.lst vs)) (r : Reps K F vs ds) (e' : F b = some (.lst us)) (r' : Reps K F us es) : IsIt K F (Itz K a b) (zipD ds es) := by
  intro i F2 H s1 s2
  have hq : SqL K H a vs := .of (s2 _ _ (s1 _ _ e))
  have hq' : SqL K H b us := .of (s2 _ _ (s1 _ _ e'))
  have hl : (zipD ds es).length = min ds.length es.length := by simp [zipD]
  refine ⟨fun h => ?_, fun h => ⟨vs, us, hq, hq', ?_⟩⟩
  · rw [hl] at h
    have k1 : i < ds.length := by omega
    have k2 : i < es.length := by omega
    obtain ⟨v, h1, h2⟩ := r.get i (List.getElem?_eq_getElem k1)
    obtain ⟨u, h1', h2'⟩ := r'.get i (List.getElem?_eq_getElem k2)
    refine ⟨⟨vs, us, v, u, hq, hq', h1, h1'⟩, fun x H' y => ?_⟩
    obtain ⟨T, x1, x2, rfl, hT, rfl, y1, y2⟩ := y
    have : x1 = v := Option.some.inj ((y1 vs hq).symm.trans h1)
    subst this
    have : x2 = u := Option.some.inj ((y2 us hq').symm.trans h1')
    subst this
    have n := New.mk1 (.tup [x1, x2]) s2 hT
    refine ⟨_, n, ?_⟩
    have e : (zipD ds es)[i]'(by rw [hl]; exact h) = D.tup [ds[i], es[i]] := by simp [zipD]
    rw [e]
    exact .tup upd_same (.cons ((h2.mono s1).mono n.ext) (.cons ((h2'.mono s1).mono n.ext) .nil))
  · rw [hl] at h
    rw [r.length, r'.length]
    omega
end
section
variable {X : Cx} {W : WX} {e e2 tg : Expr} {es : List Expr} {p pos p2 tpos : Pos} {ma : ME} {mas : MA} {elts : List Expr} {kk : Nat}
def iL (m : ME) (ρ : List S) (P : List D → List S → Prop) (PX : XP) : Prop := m ρ (fun d ρ1 => match d with | .lst ds => P ds ρ1 | _ => False) PX
def iT (m : ME) (ρ : List S) (P : List D → List S → Prop) (PX : XP) : Prop := m ρ (fun d ρ1 => match d with | .tup ds => P ds ρ1 | _ => False) PX
def iS (m : ME) (ρ : List S) (P : List D → List S → Prop) (PX : XP) : Prop := m ρ (fun d ρ1 => match d with | .str z => P (signs z) ρ1 | _ => False) PX
theorem gi_list (h : GE X W e ma) : GI X W tg e (iL ma) := ⟨pi_imp (pi_list h.pe) fun σ H Q h => by
  obtain ⟨F, A, ρ, P, PX, r, hm, hP, hX⟩ := h
  refine ⟨F, A, ρ, _, PX, r, hm, fun d ρ' v F' H' A' h1 s1 r1 q1 => ?_, hX⟩
  cases d with
  | lst ds =>
    obtain ⟨a, vs, rfl, e2, r2⟩ := q1.lst_inv
    exact ⟨a, rfl, ⟨vs, .of (r1.same _ _ e2)⟩, hP _ _ _ _ _ _ h1 s1 r1 (isIt_list e2 r2)⟩
  | _ => exact h1.elim⟩
theorem gi_tup (h : GE X W e ma) : GI X W tg e (iT ma) := ⟨pi_imp (pi_tup h.pe) fun σ H Q h => by
  obtain ⟨F, A, ρ, P, PX, r, hm, hP, hX⟩ := h
  refine ⟨F, A, ρ, _, PX, r, hm, fun d ρ' v F' H' A' h1 s1 r1 q1 => ?_, hX⟩
  cases d with
  | tup ds =>
    obtain ⟨a, vs, rfl, e2, r2⟩ := q1.tup_inv
    exact ⟨a, rfl, ⟨vs, .of (r1.same _ _ e2)⟩, hP _ _ _ _ _ _ h1 s1 r1 (isIt_tup e2 r2)⟩
  | _ => exact h1.elim⟩
theorem gi_str (h : GE X W e ma) : GI X W tg e (iS ma) := ⟨pi_imp (pi_str h.pe) fun σ H Q h => by
  obtain ⟨F, A, ρ, P, PX, r, hm, hP, hX⟩ := h
  refine ⟨F, A, ρ, _, PX, r, hm, fun d ρ' v F' H' A' h1 s1 r1 q1 => ?_, hX⟩
  cases d with
  | str z => exact ⟨z, q1.str_inv, hP _ _ _ _ _ _ h1 s1 r1 (isIt_str z)⟩
  | _ => exact h1.elim⟩
/-- range of ints within 2 ^ 62 -/
def sm62 (i : Int) : Prop := -(2 ^ 62) ≤ i ∧ i < 2 ^ 62
def iR1 (m : MA) (ρ : List S) (P : List D → List S → Prop) (PX : XP) : Prop := m ρ (fun ds ρ1 => match ds with
  | [.int j] => sm62 j ∧ P (rngD 0 1 j.toNat) ρ1
  | _ => False) PX
def iR2 (m : MA) (ρ : List S) (P : List D → List S → Prop) (PX : XP) : Prop := m ρ (fun ds ρ1 => match ds with
  | [.int i, .int j] => sm62 i ∧ sm62 j ∧ P (rngD i 1 (j - i).toNat) ρ1
  | _ => False) PX
def iR3 (m : MA) (ρ : List S) (P : List D → List S → Prop) (PX : XP) : Prop := m ρ (fun ds ρ1 => match ds with
  | [.int i, .int j, .int c] => ∃ n, RgC i j c n ∧ P (rngD i c n) ρ1
  | _ => False) PX
theorem gi_range1 {a : Expr} (hm : X.mg "range" = none) (ha : GA X W [a] mas) (hg : Gl X "range" := by rfl) (hs : starEach [a] X.env = [(false, eval a X.env)] := by rfl) : GI X W tg (.Call (.Name "range" p) [a] [] pos) (iR1 mas) := ⟨⟨fun pins s σ H Q I h => by
  obtain ⟨F, A, ρ, P, PX, r, hm', hP, hX⟩ := h
  refine (pi_range1 hg hm (ha.pa) hs).run pins s σ H Q I ⟨F, A, ρ, _, PX, r, hm', fun ds ρ' vs F' H' A' h1 s1 r1 q1 => ?_, hX⟩
  split at h1
  · rename_i j
    cases q1 with
    | cons q1 q2 =>
      cases q2
      rw [q1.int_inv]
      exact ⟨j, rfl, h1.1.1, h1.1.2, hP _ _ _ _ _ _ h1.2 s1 r1 (isIt_rng 0 _)⟩
  · exact h1.elim⟩⟩
theorem gi_range2 {a b : Expr} (hm : X.mg "range" = none) (ha : GA X W [a, b] mas) (hg : Gl X "range" := by rfl) (hs : starEach [a, b] X.env = [(false, eval a X.env), (false, eval b X.env)] := by rfl) (hs2 : starEach [b] X.env = [(false, eval b X.env)] := by rfl) :
    GI X W tg (.Call (.Name "range" p) [a, b] [] pos) (iR2 mas) := ⟨⟨fun pins s σ H Q I h => by
  obtain ⟨F, A, ρ, P, PX, r, hm', hP, hX⟩ := h
  refine (pi_range2 hg hm (ha.pa) hs hs2).run pins s σ H Q I ⟨F, A, ρ, _, PX, r, hm', fun ds ρ' vs F' H' A' h1 s1 r1 q1 => ?_, hX⟩
  split at h1
  · rename_i i j
    cases q1 with
    | cons q1 q2 =>
      cases q2 with
      | cons q2 q3 =>
        cases q3
        rw [q1.int_inv, q2.int_inv]
        exact ⟨i, j, rfl, ⟨h1.1.1, h1.1.2, h1.2.1.1, h1.2.1.2⟩, hP _ _ _ _ _ _ h1.2.2 s1 r1 (isIt_rng i _)⟩
  · exact h1.elim⟩⟩
theorem gi_range3 {a b c : Expr} (hm : X.mg "range" = none) (ha : GA X W [a, b, c] mas) (hg : Gl X "range" := by rfl) (hs : starEach [a, b, c] X.env = (false, eval a X.env) :: starEach [b, c] X.env := by rfl) (hpl : (backTo pos (starEach [b, c] X.env)).any (·.1) = false := by rfl) :
    GI X W tg (.Call (.Name "range" p) [a, b, c] [] pos) (iR3 mas) := ⟨⟨fun pins s σ H Q I h => by
  obtain ⟨F, A, ρ, P, PX, r, hm', hP, hX⟩ := h
  refine (pi_range3 hg hm (ha.pa) hs hpl).run pins s σ H Q I ⟨F, A, ρ, _, PX, r, hm', fun ds ρ' vs F' H' A' h1 s1 r1 q1 => ?_, hX⟩
  split at h1
  · rename_i i j c
    obtain ⟨n, h2, h3⟩ := h1
    cases q1 with
    | cons q1 q2 =>
      cases q2 with
      | cons q2 q3 =>
        cases q3 with
        | cons q3 q4 =>
          cases q4
          rw [q1.int_inv, q2.int_inv, q3.int_inv]
          exact ⟨i, j, c, n, rfl, h2, hP _ _ _ _ _ _ h3 s1 r1 (isIt_rngC i c _)⟩
  · exact h1.elim⟩⟩
def iEn (m : MA) (ρ : List S) (P : List D → List S → Prop) (PX : XP) : Prop := m ρ (fun ds ρ1 => match ds with | [.lst ds] => P (enumD ds) ρ1 | _ => False) PX
theorem gi_enum (hm : X.mg "enumerate" = none) (ha : GA X W [e] mas) (hg : Gl X "enumerate" := by rfl) (hs : starEach [e] X.env = [(false, eval e X.env)] := by rfl) : GI X W (.Tuple elts kk tpos) (.Call (.Name "enumerate" p) [e] [] pos) (iEn mas) := ⟨⟨fun pins s σ H Q I h => by
  obtain ⟨F, A, ρ, P, PX, r, hm', hP, hX⟩ := h
  refine (pi_enum hg hm (ha.pa) hs).run pins s σ H Q I ⟨F, A, ρ, _, PX, r, hm', fun ds ρ' vs F' H' A' h1 s1 r1 q1 => ?_, hX⟩
  split at h1
  · cases q1 with
    | cons q1 q2 =>
      cases q2
      obtain ⟨a, vs, rfl, e2, r2⟩ := q1.lst_inv
      exact ⟨a, vs, rfl, .of (r1.same _ _ e2), hP _ _ _ _ _ _ h1 s1 r1 (isIt_enum e2 r2)⟩
  · exact h1.elim⟩⟩
def iZp (m : MA) (ρ : List S) (P : List D → List S → Prop) (PX : XP) : Prop := m ρ (fun ds ρ1 => match ds with | [.lst ds, .lst es] => P (zipD ds es) ρ1 | _ => False) PX
theorem gi_zip (hm : X.mg "zip" = none) (ha : GA X W [e, e2] mas) (hg : Gl X "zip" := by rfl) (hs : starEach [e, e2] X.env = (false, eval e X.env) :: starEach [e2] X.env := by rfl) (hpl : (backTo pos (starEach [e2] X.env)).any (·.1) = false := by rfl) :
    GI X W (.Tuple elts kk tpos) (.Call (.Name "zip" p) [e, e2] [] pos) (iZp mas) := ⟨⟨fun pins s σ H Q I h => by
  obtain ⟨F, A, ρ, P, PX, r, hm', hP, hX⟩ := h
  refine (pi_zip hg hm (ha.pa) hs hpl).run pins s σ H Q I ⟨F, A, ρ, _, PX, r, hm', fun ds ρ' vs F' H' A' h1 s1 r1 q1 => ?_, hX⟩
  split at h1
  · cases q1 with
    | cons q1 q2 =>
      cases q2 with
      | cons q2 q3 =>
        cases q3
        obtain ⟨a, vs, rfl, e2, r2⟩ := q1.lst_inv
        obtain ⟨b, us, rfl, e3, r3⟩ := q2.lst_inv
        exact ⟨a, b, vs, us, rfl, .of (r1.same _ _ e2), .of (r1.same _ _ e3), hP _ _ _ _ _ _ h1 s1 r1 (isIt_zip e2 r2 e3 r3)⟩
  · exact h1.elim⟩⟩
def iRv (m : MA) (ρ : List S) (P : List D → List S → Prop) (PX : XP) : Prop := m ρ (fun ds ρ1 => match ds with | [.lst ds] => P ds.reverse ρ1 | _ => False) PX
theorem gi_rev (hm : X.mg "reversed" = none) (ha : GA X W [e] mas) (hg : Gl X "reversed" := by rfl) (hs : starEach [e] X.env = [(false, eval e X.env)] := by rfl) : GI X W tg (.Call (.Name "reversed" p) [e] [] pos) (iRv mas) := ⟨⟨fun pins s σ H Q I h => by
  obtain ⟨F, A, ρ, P, PX, r, hm', hP, hX⟩ := h
  refine (pi_reversed hg hm (ha.pa) hs).run pins s σ H Q I ⟨F, A, ρ, _, PX, r, hm', fun ds ρ' vs F' H' A' h1 s1 r1 q1 => ?_, hX⟩
  split at h1
  · cases q1 with
    | cons q1 q2 =>
      cases q2
      obtain ⟨a, vs, rfl, e2, r2⟩ := q1.lst_inv
      exact ⟨a, vs, rfl, .of (r1.same _ _ e2), hP _ _ _ _ _ _ h1 s1 r1 (isIt_rev e2 r2)⟩
  · exact h1.elim⟩⟩

/-! ### for, while -/
/-- behind a turn: less may be known -/
def lp (I : List S → Prop) : List S → Prop := fun ρ => ∃ ρ0, Wk ρ0 ρ ∧ I ρ0
def PEnds.loop (PD : PEnds) (N : List S → Prop) : PEnds := { PD with nx := N, ct := N, bk := PD.nx }
def mFor (mi : MI) (g : MG) (mb : MS) (PD : PEnds) (ρ : List S) : Prop := mi ρ (fun ds ρ1 => ∃ I : Nat → List S → Prop, lp (I 0) ρ1 ∧
  (∀ i (h : i < ds.length) ρ, I i ρ → g ds[i] ρ (mb (PD.loop (lp (I (i + 1)))))) ∧ ∀ ρ, I ds.length ρ → PD.nx ρ) PD.ex
theorem gs_for {is : List Nat} {body : List Stmt} {mi : MI} {mg : MG} {mb : MS} (hp : PassesOwn (model X.prog X.w) X.A X.env X.xe) (hc : X.calm = true) (hi : GI X W tg e mi) (hg : GG X is tg mg) (hb : GSs X W body mb) (hs : ∀ x, foldedSetIterable e X.env x = pure x := by intro _; rfl) : GS X W (.For tg e body [] pos) (mFor mi mg mb) :=
  ⟨ps_imp (ps_for hp hc hi.pi hg.pg hb.pss hs) fun D σ H h => by
  obtain ⟨F, A, ρ, PD, r, h, q⟩ := h
  refine ⟨F, A, ρ, _, PD.ex, r, h, fun ds ρ1 F1 H1 A1 J h1 s1 r1 j1 => ?_, q.xc σ⟩
  obtain ⟨I, ⟨ρ0, w0, i0⟩, turn, done⟩ := h1
  refine ⟨fun i m σ' H' => m = ds.length - i ∧ i ≤ ds.length ∧ ∃ F' A' ρ', I i ρ' ∧ Stp F1 H1 A1 F' H' A' ∧ R X.K F' A' ρ' σ' H', ⟨ds.length, by simp, Nat.zero_le _, ?_⟩, ?_⟩
  · obtain ⟨A2, s2, r2⟩ := r1.weak w0
    exact ⟨F1, A2, ρ0, i0, s2, r2⟩
  · rintro i m σ' H' ⟨rfl, hi, F', A', ρ', hI, s', r'⟩
    obtain ⟨j2, j3⟩ := j1 i F' H' s'.ext r'.same
    by_cases hlt : i < ds.length
    · obtain ⟨go, yld⟩ := j2 hlt
      refine .inr ⟨go, fun σ2 H2 => ∃ F2 A2 ρ2, I (i + 1) ρ2 ∧ Stp F1 H1 A1 F2 H2 A2 ∧ R X.K F2 A2 ρ2 σ2 H2, fun σ2 H2 hh => ⟨ds.length - (i + 1), by omega, rfl, hlt, hh⟩, fun x H2 y => ?_⟩
      obtain ⟨F3, n, q3⟩ := yld x H2 y
      have r3 := r'.new n
      refine ⟨F3, A', ρ', ds[i], _, r3, q3, turn i hlt ρ' hI, fun ρ4 σ4 A4 h4 s4 r4 _ => ?_⟩
      have s5 := (s'.trans n.stp).trans s4
      have fin : ∀ ρ6 σ6 F6 H6 A6, lp (I (i + 1)) ρ6 → Stp F3 H2 A4 F6 H6 A6 → R X.K F6 A6 ρ6 σ6 H6 → ∃ F2 A2 ρ2, I (i + 1) ρ2 ∧ Stp F1 H1 A1 F2 H6 A2 ∧ R X.K F2 A2 ρ2 σ6 H6 := fun ρ6 σ6 F6 H6 A6 l s6 r6 => by
        obtain ⟨ρ0, w, hI'⟩ := l
        obtain ⟨A7, s7, r7⟩ := r6.weak w
        exact ⟨F6, A7, ρ0, hI', (s5.trans s6).trans s7, r7⟩
      have q' := q.step (s1.trans s5)
      exact ⟨F3, A4, ρ4, _, r4, h4, ⟨fun ρ6 σ6 F6 H6 A6 l s6 r6 => fin ρ6 σ6 F6 H6 A6 l s6 r6, q'.rt, q'.nx, fun ρ6 σ6 F6 H6 A6 l s6 r6 => fin ρ6 σ6 F6 H6 A6 l s6 r6, q'.ex⟩⟩
    · have e : i = ds.length := by omega
      subst e
      exact .inl ⟨j3 (Nat.le_refl _), q.nx _ _ _ _ _ (done _ hI) (s1.trans s') r'⟩⟩
def mWhile (t : MT) (mb : MS) (PD : PEnds) (ρ : List S) : Prop := ∃ I : Nat → List S → Prop, (∃ n, lp (I n) ρ) ∧ ∀ n ρ, I n ρ → t ρ (fun b ρ1 => (b = true → mb (PD.loop (fun ρ' => ∃ k, k < n ∧ lp (I k) ρ')) ρ1) ∧ (b = false → PD.nx ρ1)) PD.ex
theorem gs_while {body : List Stmt} {mt : MT} {mb : MS} (hp : PassesOwn (model X.prog X.w) X.A X.env X.xe) (ht : GT X W e mt) (hb : GSs X W body mb) : GS X W (.While e body [] pos) (mWhile mt mb) := ⟨ps_imp (ps_while hp ht.pt hb.pss) fun D σ H h => by
  obtain ⟨F, A, ρ, PD, r, h, q⟩ := h
  obtain ⟨I, ⟨n0, ρ0, w0, i0⟩, turn⟩ := h
  refine ⟨fun n σ' H' => ∃ F' A' ρ', I n ρ' ∧ Stp F H A F' H' A' ∧ R X.K F' A' ρ' σ' H', ⟨n0, ?_⟩, ?_⟩
  · obtain ⟨A2, s2, r2⟩ := r.weak w0
    exact ⟨F, A2, ρ0, i0, s2, r2⟩
  · rintro n σ' H' ⟨F', A', ρ', hI, s', r'⟩
    refine ⟨F', A', ρ', _, PD.ex, r', turn n ρ' hI, fun b ρ1 F1 H1 A1 h1 s1 r1 => ?_, (q.step s').xc σ'⟩
    have s2 := s'.trans s1
    cases b with
    | true =>
      refine iteT ?_
      have q' := q.step s2
      have fin : ∀ ρ6 σ6 F6 H6 A6, (∃ k, k < n ∧ lp (I k) ρ6) → Stp F1 H1 A1 F6 H6 A6 → R X.K F6 A6 ρ6 σ6 H6 → ∃ m', m' < n ∧ ∃ F' A' ρ', I m' ρ' ∧ Stp F H A F' H6 A' ∧ R X.K F' A' ρ' σ6 H6 := fun ρ6 σ6 F6 H6 A6 l s6 r6 => by
        obtain ⟨k, hk, ρ0, w, hI'⟩ := l
        obtain ⟨A7, s7, r7⟩ := r6.weak w
        exact ⟨k, hk, F6, A7, ρ0, hI', (s2.trans s6).trans s7, r7⟩
      refine ⟨fun σ6 H6 => ∃ m', m' < n ∧ ∃ F' A' ρ', I m' ρ' ∧ Stp F H A F' H6 A' ∧ R X.K F' A' ρ' σ6 H6, fun σ6 H6 hh => hh, F1, A1, ρ1, _, r1, h1.1 rfl, ⟨fin, q'.rt, q'.nx, fin, q'.ex⟩⟩
    | false => exact iteF (q.nx _ _ _ _ _ (h1.2 rfl) s2 r1)⟩
end
end G

/-! G: comprehensions, promises, calls, built-ins, methods -/
namespace G
open PySem PySem.Spec PyProof.Rows L2

/-! ### comprehensions -/
/-- nothing is let out of a comprehension -/
abbrev WF : WX := fun _ _ _ _ => False
theorem takesF {X : Cx} : Takes X WF := takes0
def noX : XP := fun _ _ => False
def wipeS (ρ : List S) : List Nat → List S
  | [] => ρ
  | v :: vs => (wipeS ρ vs).set v .un
/-- the slots' values elsewhere are of no matter where nothing is known -/
theorem RS.unset {K : PySem.W.Frag} {F H : Hp} {A : List Addr} {ρ : List S} {σ : L2.St} (r : RS K F H A ρ σ) (i : Nat) (o : Option V) : ∃ A', (∀ p, p ∈ A' → p ∈ A) ∧ RS K F H A' (ρ.set i .un) (σ.set i o) := by
  induction r generalizing i with
  | nil => exact ⟨[], fun _ h => h, by simpa using RS.nil⟩
  | un r0 ih => cases i with
    | zero => exact ⟨_, fun _ h => h, .un r0⟩
    | succ i => obtain ⟨A', s, r'⟩ := ih i; exact ⟨A', s, .un r'⟩
  | fz q r0 ih => cases i with
    | zero => exact ⟨_, fun _ h => h, .un r0⟩
    | succ i => obtain ⟨A', s, r'⟩ := ih i; exact ⟨A', s, .fz q r'⟩
  | ow e c n na t r0 ih => cases i with
    | zero => exact ⟨_, fun _ h => List.mem_cons_of_mem _ h, .un r0⟩
    | succ i =>
      obtain ⟨A', s, r'⟩ := ih i
      refine ⟨_ :: A', fun p h => ?_, .ow e c n (fun z => na (s _ z)) t r'⟩
      rcases List.mem_cons.mp h with z | z
      · rw [z]; exact List.mem_cons_self
      · exact List.mem_cons_of_mem _ (s p z)
theorem RS.wiped {K : PySem.W.Frag} {F H : Hp} {A : List Addr} {ρ : List S} {σ : L2.St} (r : RS K F H A ρ σ) : ∀ vs : List Nat, ∃ A', (∀ p, p ∈ A' → p ∈ A) ∧ RS K F H A' (wipeS ρ vs) (wipe σ vs)
  | [] => ⟨A, fun _ h => h, r⟩
  | v :: vs => by
    obtain ⟨A1, s1, r1⟩ := RS.wiped r vs
    obtain ⟨A2, s2, r2⟩ := r1.unset v none
    exact ⟨A2, fun p h => s1 p (s2 p h), r2⟩
/-- from the block's slots back to the def's: the own names unknown -/
theorem RS.unwiped {K : PySem.W.Frag} {F H : Hp} {A : List Addr} {ρ : List S} {σ σ2 : L2.St} (r : RS K F H A ρ σ2) (vs : List Nat) (hw : wipe σ2 vs = wipe σ vs) : ∃ A', (∀ p, p ∈ A' → p ∈ A) ∧ RS K F H A' (wipeS ρ vs) σ := by
  obtain ⟨A', s, r'⟩ := r.wiped vs
  rw [hw] at r'
  refine ⟨A', s, ?_⟩
  -- where wipe σ vs has a value σ has it, where it has none ρ knows nothing
  have hl : (wipe σ vs).length = σ.length := wipe_length σ vs
  have hh : ∀ (i : Nat) v, (wipe σ vs)[i]? = some (some v) → σ[i]? = some (some v) := fun i v e => (wipe_some e).1
  generalize wipe σ vs = τ at r' hl hh
  clear hw r s
  generalize wipeS ρ vs = κ at r'
  induction r' generalizing σ with
  | nil => cases σ with
    | nil => exact .nil
    | cons _ _ => simp at hl
  | un r0 ih => cases σ with
    | nil => simp at hl
    | cons a b => exact .un (ih (by simpa using hl) fun i v e => by simpa using hh (i + 1) v (by simpa using e))
  | fz q r0 ih => cases σ with
    | nil => simp at hl
    | cons a b =>
      have e0 := hh 0 _ rfl
      simp at e0
      subst e0
      exact .fz q (ih (by simpa using hl) fun i v e => by simpa using hh (i + 1) v (by simpa using e))
  | ow e1 c n na t r0 ih => cases σ with
    | nil => simp at hl
    | cons a b =>
      have e0 := hh 0 _ rfl
      simp at e0
      subst e0
      exact .ow e1 c n na t (ih (by simpa using hl) fun i v e => by simpa using hh (i + 1) v (by simpa using e))
theorem wipe_get {σ : L2.St} : ∀ {vs : List Nat} {j : Nat}, j < σ.length → (wipe σ vs)[j]? = if j ∈ vs then some none else σ[j]?
  | [], j, _ => by simp [wipe]
  | v :: vs, j, h => by
    have hl := wipe_length σ vs
    by_cases e : v = j
    · subst e
      rw [show wipe σ (v :: vs) = (wipe σ vs).set v none from rfl, List.getElem?_set_self (by rw [hl]; exact h)]
      simp
    · rw [show wipe σ (v :: vs) = (wipe σ vs).set v none from rfl, List.getElem?_set_ne e, wipe_get h]
      have : (j ∈ v :: vs) ↔ j ∈ vs := by
        simp only [List.mem_cons]
        exact ⟨fun z => z.resolve_left fun y => e y.symm, .inr⟩
      simp only [this]
theorem wipe_chg {σ σ2 : L2.St} {is vs : List Nat} (c : Chg is (wipe σ vs) σ2) (h : ∀ j ∈ is, j ∈ vs) : wipe σ2 vs = wipe σ vs := by
  have hl : σ2.length = σ.length := by rw [c.1, wipe_length]
  apply List.ext_getElem?
  intro j
  by_cases hj : j < σ.length
  · rw [wipe_get (by rw [hl]; exact hj), wipe_get hj]
    split
    · rfl
    · rename_i hv
      rw [c.2 j (fun z => hv (h j z)), wipe_get hj, if_neg hv]
  · rw [List.getElem?_eq_none (by rw [wipe_length, hl]; omega), List.getElem?_eq_none (by rw [wipe_length]; omega)]
def mLc (mi : MI) (g : MG) (mt : MT) (me : ME) (vs : List Nat) (ρ : List S) (P : C → List S → Prop) (PX : XP) : Prop := mi ρ (fun ds ρ1 => ∃ I : Nat → List D → List S → Prop, I 0 [] ρ1 ∧
  (∀ i (h : i < ds.length) acc ρ, I i acc ρ → g ds[i] (wipeS ρ vs) (fun ρ2 => mt ρ2 (fun b ρ3 => (b = true → me ρ3 (fun d ρ4 => acc.length < sizeLine ∧ I (i + 1) (acc ++ [d]) (wipeS ρ4 vs)) noX) ∧ (b = false → I (i + 1) acc (wipeS ρ3 vs))) noX)) ∧
  ∀ acc ρ, I ds.length acc ρ → P (.lst acc) ρ) PX
def mYes (ρ : List S) (P : Bool → List S → Prop) (PX : XP) : Prop := P true ρ
structure GTs (X : Cx) (W : WX) (ifs : List Expr) (m : MT) : Prop where
  pts : PTs X ifs (liftT X.K W m)
section
variable {X : Cx} {W : WX} {e tg : Expr} {pos : Pos} {ma : ME}
theorem gts_nil : GTs X W [] mYes := ⟨⟨fun pins s σ H Q I h => by
  obtain ⟨F, A, ρ, P, PX, r, hm, hP, hX⟩ := h
  exact pts_nil.run pins s σ H Q I (hP _ _ _ _ _ hm Stp.refl r)⟩⟩
theorem gts_one {mt : MT} (h : GT X W e mt) : GTs X W [e] mt := ⟨pts_one h.pt⟩
theorem tlc {mi : MI} {mg : MG} {mt : MT} {me : ME} {is vs : List Nat} (hv : ∀ j ∈ is, j ∈ vs) {σ : L2.St} {H : Hp} {Q : VK} (h : liftO X.K W (mLc mi mg mt me vs) σ H Q) :
    tLc (liftI X.K W mi) (liftG X.K is mg) (liftT X.K WF mt) (lift X.K WF me) vs σ H Q := by
  obtain ⟨F, A, ρ, P, PX, r, hm, hP, hX⟩ := h
  refine ⟨F, A, ρ, _, PX, r, hm, fun ds ρ1 F1 H1 A1 J h1 s1 r1 j1 => ?_, hX⟩
  obtain ⟨I, i0, turn, done⟩ := h1
  intro D hD
  obtain ⟨sD, rD, nD, fD, hD0⟩ := own_new (.lst []) s1 r1 hD
  refine ⟨fun i m H' => m = ds.length - i ∧ i ≤ ds.length ∧ ∃ acc as F' A' ρ', I i acc ρ' ∧ Stp F1 H1 A1 F' H' A' ∧ R X.K F' A' ρ' σ H' ∧ H' D = some (.lst as) ∧ Reps X.K F' as acc ∧ F' D = none ∧ D ∉ A', ⟨ds.length, by simp, Nat.zero_le _, [], [], F1, A1, ρ1, i0, (New.mk0 _ r1.same hD).stp, rD, upd_same, .nil, fD, nD⟩, ?_⟩
  rintro i m H' ⟨rfl, hi, acc, as, F', A', ρ', hI, s', r', hd, ra, fd, nd⟩
  have sF : Same F1 F' := s'.ext
  obtain ⟨j2, j3⟩ := j1 i F' H' sF r'.same
  by_cases hlt : i < ds.length
  · obtain ⟨go, yld⟩ := j2 hlt
    refine .inr ⟨go, fun H2 => ∃ acc as F2 A2 ρ2, I (i + 1) acc ρ2 ∧ Stp F1 H1 A1 F2 H2 A2 ∧ R X.K F2 A2 ρ2 σ H2 ∧ H2 D = some (.lst as) ∧ Reps X.K F2 as acc ∧ F2 D = none ∧ D ∉ A2, fun H2 hh => ⟨ds.length - (i + 1), by omega, rfl, hlt, hh⟩, fun x H2 y => ?_⟩
    obtain ⟨F3, n, q3⟩ := yld x H2 y
    have r3 := r'.new n
    obtain ⟨A3, s3, r3'⟩ := r3.rs.wiped vs
    have rW : R X.K F3 A3 (wipeS ρ' vs) (wipe σ vs) H2 := ⟨r3.same, r3'⟩
    have sW : Stp F' H' A' F3 H2 A3 := n.stp.trans (Stp.less s3)
    have d3 : H2 D = some (.lst as) := n.kp _ _ hd
    have f3 : F3 D = none := (n.fr _ _ hd).trans fd
    have nd3 : D ∉ A3 := fun z => nd (s3 _ z)
    -- a step from there keeps the list at D
    have keepD : ∀ {F6 H6 : Hp} {A6 : List Addr}, Stp F3 H2 A3 F6 H6 A6 → H6 D = some (.lst as) ∧ Reps X.K F6 as acc ∧ F6 D = none ∧ D ∉ A6 := fun {F6 H6 A6} s6 => by
      refine ⟨s6.kp _ _ d3 nd3, (ra.mono n.ext).mono s6.ext, (s6.fr _ _ d3 nd3).trans f3, fun z => ?_⟩
      rcases s6.sub _ z with y | y
      · exact nd3 y
      · rw [d3] at y; cases y
    refine ⟨F3, A3, wipeS ρ' vs, ds[i], _, rW, q3, turn i hlt acc ρ' hI, fun ρ2 σ2 A4 h2 s4 r4 c4 => ?_⟩
    have hw : wipe σ2 vs = wipe σ vs := wipe_chg c4 hv
    refine ⟨hw, F3, A4, ρ2, _, noX, r4, h2, fun b ρ3 F5 H5 A5 h3 s5 r5 => ?_, fun _ _ _ _ _ _ _ z => z.elim⟩
    have s6 := s4.trans s5
    cases b with
    | true =>
      refine iteT ?_
      refine ⟨F5, A5, ρ3, _, noX, r5, h3.1 rfl, fun d ρ4 v F7 H7 A7 h7 s7 r7 q7 => ?_, fun _ _ _ _ _ _ _ z => z.elim⟩
      have s8 := s6.trans s7
      obtain ⟨k1, k2, k3, k4⟩ := keepD s8
      refine ⟨as, k1, by rw [k2.length]; exact h7.1, ?_⟩
      obtain ⟨A8, s9, r9⟩ := r7.rs.unwiped vs hw
      have m9 : RS X.K F7 (upd H7 D (.lst (as ++ [v]))) A8 (wipeS ρ4 vs) σ := r9.move (Same.refl _) fun p hp => ⟨upd_ne fun z => k4 (s9 _ (by rw [← z]; exact hp)), (by obtain ⟨_, _, z⟩ := r9.there p hp; exact z)⟩
      have sAll := (s'.trans sW).trans s8
      have nA1 : D ∉ A1 := nD
      refine ⟨acc ++ [d], as ++ [v], F7, A8, wipeS ρ4 vs, h7.2, ⟨sAll.ext, fun p o e np => ?_, sAll.fr, fun p hp => sAll.sub p (s9 p hp), fun p e => ?_⟩, ⟨fun p o e => ?_, m9⟩, upd_same, k2.append (.cons q7 .nil), k3, fun z => k4 (s9 _ z)⟩
      · by_cases z : p = D
        · rw [z, hD] at e; cases e
        · rw [upd_ne z]; exact sAll.kp p o e np
      · by_cases z : p = D
        · rw [z, upd_same] at e; cases e
        · rw [upd_ne z] at e; exact sAll.dom p e
      · by_cases z : p = D
        · rw [z, k3] at e; cases e
        · rw [upd_ne z]; exact r7.same p o e
    | false =>
      refine iteF ?_
      obtain ⟨k1, k2, k3, k4⟩ := keepD s6
      obtain ⟨A8, s9, r9⟩ := r5.rs.unwiped vs hw
      exact ⟨acc, as, F5, A8, wipeS ρ3 vs, h3.2 rfl, ((s'.trans sW).trans s6).trans (Stp.less s9), ⟨r5.same, r9⟩, k1, k2, k3, fun z => k4 (s9 _ z)⟩
  · have e : i = ds.length := by omega
    subst e
    refine .inl ⟨j3 (Nat.le_refl _), hP _ _ D (.lst as) F' H' A' (done acc ρ' hI) ?_ r' nd hD0 hd (.lst ra) fd⟩
    exact s1.trans s'
theorem go_lc {elt iter : Expr} {ifs : List Expr} {scope : Scope} {own : List (Str × Nat)} {mi : MI} {mg : MG} {mt : MT} {me : ME} {is : List Nat} (hc : X.calm = true) (hN : X.N.Nodup) (hi : GI X W tg iter mi) (ok : BlkOk X.N X.env.scope scope own)
    (hg : ∀ (s : Shared) (H : Hp) (C : Addr) (cl : List (Str × Addr)) (fp : List Addr), GG (X.blk s H scope (compEnvC scope cl C X.env) fp) is tg mg) (ht : ∀ (s : Shared) (H : Hp) (C : Addr) (cl : List (Str × Addr)) (fp : List Addr), GTs (X.blk s H scope (compEnvC scope cl C X.env) fp) WF ifs mt)
    (he : ∀ (s : Shared) (H : Hp) (C : Addr) (cl : List (Str × Addr)) (fp : List Addr), GE (X.blk s H scope (compEnvC scope cl C X.env) fp) WF elt me) (hv : ∀ j ∈ is, j ∈ own.map (·.2) := by decide) (hs : ∀ x, foldedSetIterable iter X.env x = pure x := by intro _; rfl) :
    GO X W (.ListComp elt [⟨tg, iter, ifs, 0⟩] scope pos) (mLc mi mg mt me (own.map (·.2))) :=
  ⟨pe_imp (pe_lc hc hN hi.pi ok (fun s H C cl fp => (hg s H C cl fp).pg) (fun s H C cl fp => (ht s H C cl fp).pts) (fun s H C cl fp => (he s H C cl fp).pe) hs) fun σ H Q h => tlc hv h⟩
/-- name = [..], own or to stay -/
theorem gs_setLcO {i : Nat} {y : Str} {py : Pos} {elt iter : Expr} {ifs : List Expr} {scope : Scope} {own : List (Str × Nat)} {spos : Pos} {mi : MI} {mg : MG} {mt : MT} {me : ME} {is : List Nat} (hc : X.calm = true) (hN : X.N.Nodup) (hi : GI X W tg iter mi) (ok : BlkOk X.N X.env.scope scope own)
    (hg : ∀ (s : Shared) (H : Hp) (C : Addr) (cl : List (Str × Addr)) (fp : List Addr), GG (X.blk s H scope (compEnvC scope cl C X.env) fp) is tg mg) (ht : ∀ (s : Shared) (H : Hp) (C : Addr) (cl : List (Str × Addr)) (fp : List Addr), GTs (X.blk s H scope (compEnvC scope cl C X.env) fp) WF ifs mt)
    (he : ∀ (s : Shared) (H : Hp) (C : Addr) (cl : List (Str × Addr)) (fp : List Addr), GE (X.blk s H scope (compEnvC scope cl C X.env) fp) WF elt me) (hsw : swapsWith (.ListComp elt [⟨tg, iter, ifs, 0⟩] scope pos) (some (.Name y py)) spos.line X.env = pure true)
    (hy : X.N[i]? = some y := by rfl) (hyl : X.env.scope.names.lookup y = some .local := by rfl) (hv : ∀ j ∈ is, j ∈ own.map (·.2) := by decide) (hs : ∀ x, foldedSetIterable iter X.env x = pure x := by intro _; rfl) :
    GS X W (.Assign [.Name y py] (.ListComp elt [⟨tg, iter, ifs, 0⟩] scope pos) spos) (mSet i (mXo (mLc mi mg mt me (own.map (·.2))))) :=
  ⟨ps_imp (ps_setLc hc hN hy hyl hsw hi.pi ok (fun s H C cl fp => (hg s H C cl fp).pg) (fun s H C cl fp => (ht s H C cl fp).pts) (fun s H C cl fp => (he s H C cl fp).pe) hs) fun D σ H h => by
  obtain ⟨F, A, ρ, PD, r, h, q⟩ := h
  have h' : mLc mi mg mt me (own.map (·.2)) ρ (fun c ρ' => PD.nx (ρ'.set i (.ow none c))) PD.ex := h
  refine tlc hv ⟨F, A, ρ, _, PD.ex, r, h', fun c ρ' p o F' H' A' h1 s1 r1 n1 n2 n3 n4 n5 => ?_, q.xc σ⟩
  obtain ⟨A2, s2, r2⟩ := R.store (s := .ow none c) s1 r1 ⟨p, o, rfl, n1, n2, n3, n4, n5⟩ i
  exact q.nx _ _ _ _ _ h1 s2 r2⟩
end

/-! ### promises -/
abbrev CtP := List D → (Rv → Prop) → (Ex → Prop) → Prop
abbrev CtM := C → List D → (Rv → C → Prop) → (Ex → C → Prop) → Prop
def RvF (K : PySem.W.Frag) (H F' H' : Hp) (v : V) : Rv → Prop
  | .fz d => Rep K F' v d
  | .ow c => ∃ p o, v = .ref p ∧ H p = none ∧ H' p = some o ∧ RepC K F' o c ∧ F' p = none
def spP (K : PySem.W.Frag) (c : CtP) : Sp := fun vs H Q E => ∃ F ds P PX, Same F H ∧ Reps K F vs ds ∧ c ds P PX ∧
  (∀ rv v F' H', P rv → Stp F H [] F' H' [] → Same F' H' → RvF K H F' H' v rv → Q v H') ∧ ∀ x F' H' cls dd, PX x → Stp F H [] F' H' [] → Same F' H' → ExR H' x cls dd → E cls dd H'
def spM (K : PySem.W.Frag) (c : CtM) : Sp := fun vs H Q E => ∃ F p o vs' c0 ds P PX, vs = .ref p :: vs' ∧ Same F H ∧ F p = none ∧ H p = some o ∧ RepC K F o c0 ∧ Reps K F vs' ds ∧ c c0 ds P PX ∧
  (∀ rv c' v F' H' o', P rv c' → Stp F H [p] F' H' [p] → Same F' H' → H' p = some o' → RepC K F' o' c' → F' p = none → RvF K H F' H' v rv → Q v H') ∧
  ∀ x c' F' H' o' cls dd, PX x c' → Stp F H [p] F' H' [p] → Same F' H' → H' p = some o' → RepC K F' o' c' → F' p = none → ExR H' x cls dd → E cls dd H'
section
variable {X : Cx} {W : WX} {e : Expr} {es : List Expr} {x : Str} {p p2 pos : Pos} {ma : ME} {mas : MA} {k : Nat} {f : Addr} {fd : FuncData} {ps : List Str} {n : Nat}
/-- what a call's end is good for here -/
def rvD (P : D → Prop) (rv : Rv) : Prop := match rv with | .fz d => P d | .ow (.lst l) => P (.lst l) | _ => False
theorem rvD_fz {P : D → Prop} {d : D} : rvD P (.fz d) = P d := rfl
theorem rvD_ow {P : D → Prop} {l : List D} : rvD P (.ow (.lst l)) = P (.lst l) := rfl
def mCall (c : CtP) (m : MA) (ρ : List S) (P : D → List S → Prop) (PX : XP) : Prop := m ρ (fun ds ρ1 => c ds (rvD fun d => P d ρ1) (fun x => PX x ρ1)) PX
def mCallO (c : CtP) (m : MA) (ρ : List S) (P : C → List S → Prop) (PX : XP) : Prop := m ρ (fun ds ρ1 => c ds (fun rv => match rv with | .ow l => P l ρ1 | _ => False) (fun x => PX x ρ1)) PX
/-- a step of a callee's, seen here -/
theorem R.called {K : PySem.W.Frag} {F H F' H' : Hp} {A : List Addr} {ρ : List S} {σ : L2.St} (r : R K F A ρ σ H) (s : Stp F H [] F' H' []) (sm : Same F' H') : Stp F H A F' H' A ∧ R K F' A ρ σ H' := by
  have nn : ∀ p, p ∉ ([] : List Addr) := fun p h => by cases h
  refine ⟨⟨s.ext, fun p o h _ => s.kp p o h (nn p), fun p o h _ => s.fr p o h (nn p), fun _ h => .inl h, s.dom⟩, sm, r.rs.move s.ext fun p hp => ?_⟩
  obtain ⟨o, e, n⟩ := r.rs.there p hp
  exact ⟨(s.kp p o e (nn p)).trans e.symm, (s.fr p o e (nn p)).trans n⟩
theorem frzL {K : PySem.W.Frag} {F H F1 H1 F' H' : Hp} {A A1 : List Addr} {ρ1 : List S} {σ : L2.St} {p : Addr} {vs : List V} {ds : List D} (s1 : Stp F H A F' H' A1) (r1 : R K F' A1 ρ1 σ H') (n1 : p ∉ A1) (n2 : H p = none) (n3 : H' p = some (.lst vs)) (q : Reps K F' vs ds) (n5 : F' p = none) :
    Stp F H A (upd F' p (.lst vs)) H' A1 ∧ R K (upd F' p (.lst vs)) A1 ρ1 σ H' ∧ Rep K (upd F' p (.lst vs)) (.ref p) (.lst ds) := by
  have sm : Same F' (upd F' p (.lst vs)) := same_new n5
  refine ⟨⟨s1.ext.trans sm, s1.kp, fun b o e n => ?_, s1.sub, s1.dom⟩, ⟨fun b o e => ?_, r1.rs.move sm fun b hb => ⟨rfl, ?_⟩⟩, .lst upd_same (q.mono sm)⟩
  · rw [upd_ne (fun z => by rw [z, n2] at e; cases e)]
    exact s1.fr b o e n
  · rw [upd_eq] at e
    split at e
    · rename_i z; subst z; cases e; exact n3
    · exact r1.same b o e
  · obtain ⟨_, _, n⟩ := r1.rs.there b hb
    exact (upd_ne (fun (z : b = p) => n1 (by rw [← z]; exact hb))).trans n
theorem ge_call {c : CtP} (Gk : FnOk X.prog X.w X.K X.mg X.base (L2.CX X.prog X.w) k f fd ps (spP X.K c)) (hr : Room k X.A) (hm : X.mg x = some (.ref f)) (hk : PySem.W.keepIn X.K (.ref f) = true) (hb : Binds X.K fd ps []) (tk : Takes X W)
    (ha : GA X W (e :: es) mas) (hg : Gl X x := by rfl) (hdb : (x == ("__debug__" : Str)) = false := by decide) (he : starEach (e :: es) X.env = (false, eval e X.env) :: starEach es X.env := by rfl) (hpl : (backTo pos (starEach es X.env)).any (·.1) = false := by rfl) :
    GE X W (.Call (.Name x p) (e :: es) [] pos) (mCall c mas) := ⟨pe_imp (pe_callS (E := WE W) Gk hr hg hm hk hb (fun σ => passAt tk σ) ha.pa hdb he hpl) fun σ H Q h => by
  obtain ⟨F, A, ρ, P, PX, r, hm', hP, hX⟩ := h
  refine ⟨F, A, ρ, _, PX, r, hm', fun ds ρ' vs F' H' A' h1 s1 r1 q1 => ⟨F', ds, _, _, r1.same, q1, h1, fun rv v F2 H2 h2 s2 sm q2 => ?_, fun x F2 H2 cls dd h2 s2 sm q2 => ?_⟩, hX⟩
  · obtain ⟨s3, r3⟩ := r1.called s2 sm
    cases rv with
    | fz d => exact hP _ _ _ _ _ _ h2 (s1.trans s3) r3 q2
    | ow l =>
      cases l with
      | lst l =>
        obtain ⟨pp, o, rfl, n2, n3, n4, n5⟩ := q2
        cases n4 with
        | lst q =>
          have np : pp ∉ A' := fun z => by
            obtain ⟨o, e, _⟩ := r1.rs.there _ z
            rw [e] at n2; cases n2
          obtain ⟨s4, r4, q4⟩ := frzL (F1 := F) (H1 := H) (s1.trans s3) r3 np (s1.dom _ n2) n3 q n5
          exact hP _ _ _ _ _ _ h2 s4 r4 q4
      | _ => exact h2.elim
  · obtain ⟨s3, r3⟩ := r1.called s2 sm
    exact hX _ _ _ _ _ _ _ h2 (s1.trans s3) r3 q2⟩
theorem go_call {c : CtP} (Gk : FnOk X.prog X.w X.K X.mg X.base (L2.CX X.prog X.w) k f fd ps (spP X.K c)) (hr : Room k X.A) (hm : X.mg x = some (.ref f)) (hk : PySem.W.keepIn X.K (.ref f) = true) (hb : Binds X.K fd ps []) (tk : Takes X W)
    (ha : GA X W (e :: es) mas) (hg : Gl X x := by rfl) (hdb : (x == ("__debug__" : Str)) = false := by decide) (he : starEach (e :: es) X.env = (false, eval e X.env) :: starEach es X.env := by rfl) (hpl : (backTo pos (starEach es X.env)).any (·.1) = false := by rfl) :
    GO X W (.Call (.Name x p) (e :: es) [] pos) (mCallO c mas) := ⟨pe_imp (pe_callS (E := WE W) Gk hr hg hm hk hb (fun σ => passAt tk σ) ha.pa hdb he hpl) fun σ H Q h => by
  obtain ⟨F, A, ρ, P, PX, r, hm', hP, hX⟩ := h
  refine ⟨F, A, ρ, _, PX, r, hm', fun ds ρ' vs F' H' A' h1 s1 r1 q1 => ⟨F', ds, _, _, r1.same, q1, h1, fun rv v F2 H2 h2 s2 sm q2 => ?_, fun x F2 H2 cls dd h2 s2 sm q2 => ?_⟩, hX⟩
  · obtain ⟨s3, r3⟩ := r1.called s2 sm
    cases rv with
    | fz d => exact h2.elim
    | ow l =>
      obtain ⟨pp, o, rfl, n2, n3, n4, n5⟩ := q2
      have np : pp ∉ A' := fun z => by
        obtain ⟨o, e, _⟩ := r1.rs.there _ z
        rw [e] at n2; cases n2
      exact hP _ _ _ _ _ _ _ h2 (s1.trans s3) r3 np (s1.dom _ n2) n3 n4 n5
  · obtain ⟨s3, r3⟩ := r1.called s2 sm
    exact hX _ _ _ _ _ _ _ h2 (s1.trans s3) r3 q2⟩
/-- f(own, ..): the own object's content may change -/
def mCallM (c : CtM) (i : Nat) (m : MA) (ρ : List S) (P : D → List S → Prop) (PX : XP) : Prop := match ρ[i]? with
  | some (.ow _ _) => m ρ (fun ds ρ1 => match ρ1[i]? with
    | some (.ow t c0) => c c0 ds (fun rv c' => rvD (fun d => P d (ρ1.set i (.ow t c'))) rv) (fun x c' => PX x (ρ1.set i (.ow t c')))
    | _ => False) PX
  | _ => False
theorem R.calledM {K : PySem.W.Frag} {F H F' H' : Hp} {A : List Addr} {ρ : List S} {σ : L2.St} {i : Nat} {t : Option Addr} {c c' : C} {p : Addr} {o' : HO} (r : R K F A ρ σ H) (hi : ρ[i]? = some (.ow t c)) (hs : σ[i]? = some (some (V.ref p))) (hp : p ∈ A)
    (s : Stp F H [p] F' H' [p]) (sm : Same F' H') (e : H' p = some o') (q : RepC K F' o' c') (n : F' p = none) : Stp F H A F' H' A ∧ R K F' A (ρ.set i (.ow t c')) σ H' := by
  have nn : ∀ b, b ≠ p → b ∉ [p] := fun b h z => h (by simpa using z)
  refine ⟨⟨s.ext, fun b o h na => s.kp b o h (nn b fun z => na (z ▸ hp)), fun b o h na => s.fr b o h (nn b fun z => na (z ▸ hp)), fun _ h => .inl h, s.dom⟩, sm, ?_⟩
  have m1 : RS K F' H A ρ σ := r.rs.move s.ext fun b hb => ⟨rfl, by
    by_cases z : b = p
    · rw [z]; exact n
    · obtain ⟨o, e, n⟩ := r.rs.there b hb
      exact (s.fr b o e (nn b z)).trans n⟩
  have m2 := m1.upd q hi hs
  refine m2.move (Same.refl _) fun b hb => ⟨?_, (m2.there b hb).elim fun _ z => z.2⟩
  by_cases z : b = p
  · rw [z, upd_same]; exact e
  · obtain ⟨o, e, _⟩ := r.rs.there b hb
    rw [upd_ne z, e]
    exact s.kp b o e (nn b z)
theorem ge_callM {c : CtM} {i : Nat} {xv : Str} (Gk : FnOk X.prog X.w X.K X.mg X.base (L2.CX X.prog X.w) k f fd ps (spM X.K c)) (hr : Room k X.A) (hm : X.mg x = some (.ref f)) (hk : PySem.W.keepIn X.K (.ref f) = true) (hb : Binds X.K fd ps []) (tk : Takes X W)
    (ha : GA X W es mas) (hN : X.N[i]? = some xv := by rfl) (hv : Vis X.env.scope xv := by first | exact Or.inl rfl | exact Or.inr (Or.inl rfl) | exact Or.inr (Or.inr rfl)) (hd2 : (xv == ("__debug__" : Str)) = false := by decide)
    (hcd : (xv == ("__classdict__" : Str)) = false := by decide) (hg : Gl X x := by rfl) (hdb : (x == ("__debug__" : Str)) = false := by decide) (he : starEach (.Name xv p2 :: es) X.env = (false, eval (.Name xv p2) X.env) :: starEach es X.env := by rfl)
    (hpl : (backTo pos (starEach es X.env)).any (·.1) = false := by rfl) : GE X W (.Call (.Name x p) (.Name xv p2 :: es) [] pos) (mCallM c i mas) :=
  ⟨pe_imp (pe_callS (E := WE W) Gk hr hg hm hk hb (fun σ => passAt tk σ) (pa_cons (pe_var hN hv hd2 hcd) ha.pa he) hdb he hpl) fun σ H Q h => by
  obtain ⟨F, A, ρ, P, PX, r, hm', hP, hX⟩ := h
  unfold mCallM at hm'
  split at hm'
  · rename_i t0 c00 h0
    obtain ⟨p0, o0, e0, _⟩ := r.rs.getO h0
    refine ⟨_, e0, F, A, ρ, _, PX, r, hm', fun ds ρ' vs F' H' A' h1 s1 r1 q1 => ?_, hX⟩
    split at h1
    · rename_i t c0 h2
      obtain ⟨p', o', e1, h3, h4, h5, h6⟩ := slot_keeps r1 e0 h2
      cases e1
      refine ⟨F', p0, o', vs, c0, ds, _, _, rfl, r1.same, h6, h4, h5, q1, h1, fun rv c' v F2 H2 o2 k1 k2 k3 k4 k5 k6 k7 => ?_, fun x c' F2 H2 o2 cls dd k1 k2 k3 k4 k5 k6 k7 => ?_⟩
      · obtain ⟨s3, r3⟩ := r1.calledM h2 e0 h3 k2 k3 k4 k5 k6
        cases rv with
        | fz d => exact hP _ _ _ _ _ _ k1 (s1.trans s3) r3 k7
        | ow l =>
          cases l with
          | lst l =>
            obtain ⟨pp, o, rfl, n2, n3, n4, n5⟩ := k7
            cases n4 with
            | lst q =>
              have np : pp ∉ A' := fun z => by
                obtain ⟨o, e, _⟩ := r1.rs.there _ z
                rw [e] at n2; cases n2
              obtain ⟨s4, r4, q4⟩ := frzL (F1 := F) (H1 := H) (s1.trans s3) r3 np (s1.dom _ n2) n3 q n5
              exact hP _ _ _ _ _ _ k1 s4 r4 q4
          | _ => exact k1.elim
      · obtain ⟨s3, r3⟩ := r1.calledM h2 e0 h3 k2 k3 k4 k5 k6
        exact hX _ _ _ _ _ _ _ k1 (s1.trans s3) r3 k7
    · exact h1.elim
  · exact hm'.elim⟩
end

/-! ### a def keeps its promise -/
section
variable {P : Program} {w : World} {K : PySem.W.Frag} {mg : Str → Option Value} {base : Heap}
/-- what a def's body is walked under -/
structure Bd (P : Program) (w : World) (K : PySem.W.Frag) (mg : Str → Option Value) (base : Heap) (k : Nat) (N : List Str) (st : Stmt) (m : MS) : Prop where
  go : ∀ (qual : Str) (f : Addr) (cdv : Value) (A : Around) (outer : List Env) (s : Shared) (H : Hp) (E : XK), Room k (A.deeper (envOfC qual (defScope st) s.heap.objs.size f cdv)) →
    Takes (cxOf (L2.CX P w) P w K mg base N qual (defScope st) f cdv A outer s H E) (fun cls d _ H' => E cls d H') →
    PassesOwn (model P w) (cxOf (L2.CX P w) P w K mg base N qual (defScope st) f cdv A outer s H E).A (cxOf (L2.CX P w) P w K mg base N qual (defScope st) f cdv A outer s H E).env (cxOf (L2.CX P w) P w K mg base N qual (defScope st) f cdv A outer s H E).xe →
    GSs (cxOf (L2.CX P w) P w K mg base N qual (defScope st) f cdv A outer s H E) (fun cls d _ H' => E cls d H') (defBody st) m
theorem reps_rs {K : PySem.W.Frag} {F H : Hp} {n : Nat} : ∀ {vs : List V} {ds : List D}, Reps K F vs ds → RS K F H [] (ds.map S.fz ++ List.replicate n .un) (vs.map some ++ List.replicate n none)
  | [], _, .nil => by
    rw [List.map_nil, List.map_nil, List.nil_append, List.nil_append]
    induction n with
    | zero => exact .nil
    | succ n ih => exact .un ih
  | v :: vs, _, .cons r t => .fz r (reps_rs t)
theorem fn_P {x qual : Str} {st : Stmt} {f : Addr} {fd : FuncData} {N ps : List Str} {k : Nat} {c : CtP} {m : MS} (Fn : Fun K x qual st f fd) (Sc : FnScope N ps (defScope st)) (hl : ∀ ds P PX, c ds P PX → ds.length = ps.length) (B : Bd P w K mg base k N st m)
    (h : ∀ ds (P : Rv → Prop) (PX : Ex → Prop), c ds P PX → m ⟨fun _ => P (.fz .non), fun rv _ => P rv, fun _ => False, fun _ => False, fun x _ => PX x⟩ (ds.map S.fz ++ List.replicate (N.length - ds.length) .un)) :
    FnOk P w K mg base (L2.CX P w) (k + 1) f fd ps (spP K c) := by
  refine Fn.okX Sc (fun vs H Q E h => ?_) (fun cdv A outer s H vs Q E hr hsp => ?_)
  · obtain ⟨F, ds, P, PX, _, r, hc, _⟩ := h
    rw [r.length]
    exact hl _ _ _ hc
  · obtain ⟨F, ds, PP, PX, sm, r, hc, hQ, hE⟩ := hsp
    refine ⟨_, (B.go qual f cdv A outer s H E hr (takes_of rfl rfl rfl rfl) (passes_of rfl)).pss, F, [], _, _, ⟨sm, ?_⟩, h ds PP PX hc, ⟨fun ρ' σ' F' H' A' h1 s1 r1 => ?_, fun rv ρ' v σ' F' H' A' h1 s1 r1 q1 => ?_, fun _ _ _ _ _ z => z.elim, fun _ _ _ _ _ z => z.elim, fun x ρ' σ' F' H' A' cls dd h1 s1 r1 q1 => ?_⟩⟩
    · unfold L2.start
      rw [r.length]
      exact reps_rs r
    · exact hQ _ _ F' H' h1 ⟨s1.ext, s1.kp, s1.fr, (fun p z => absurd z List.not_mem_nil), s1.dom⟩ r1.same .non
    · refine hQ _ _ F' H' h1 ⟨s1.ext, s1.kp, s1.fr, (fun p z => absurd z List.not_mem_nil), s1.dom⟩ r1.same ?_
      cases rv with
      | fz d => exact q1
      | ow c =>
        obtain ⟨p, o, A1, rfl, h2, h3, h4, h5, h6, h7⟩ := q1
        refine ⟨p, o, rfl, ?_, h5, h6, h7⟩
        rcases h3.sub p h2 with z | z
        · cases z
        · exact z
    · exact hE x F' H' cls dd h1 ⟨s1.ext, s1.kp, s1.fr, (fun p z => absurd z List.not_mem_nil), s1.dom⟩ r1.same q1
theorem fn_M {x qual : Str} {st : Stmt} {f : Addr} {fd : FuncData} {N ps : List Str} {k : Nat} {c : CtM} {m : MS} (Fn : Fun K x qual st f fd) (Sc : FnScope N ps (defScope st)) (hl : ∀ c0 ds P PX, c c0 ds P PX → ds.length + 1 = ps.length) (B : Bd P w K mg base k N st m)
    (h : ∀ p c0 ds (P : Rv → C → Prop) (PX : Ex → C → Prop), c c0 ds P PX → m ⟨fun ρ => ∃ c', ρ[0]? = some (.ow (some p) c') ∧ P (.fz .non) c', fun rv ρ => ∃ c', ρ[0]? = some (.ow (some p) c') ∧ P rv c', fun _ => False, fun _ => False, fun x ρ => ∃ c', ρ[0]? = some (.ow (some p) c') ∧ PX x c'⟩
      (.ow (some p) c0 :: (ds.map S.fz ++ List.replicate (N.length - (ds.length + 1)) .un))) :
    FnOk P w K mg base (L2.CX P w) (k + 1) f fd ps (spM K c) := by
  refine Fn.okX Sc (fun vs H Q E h => ?_) (fun cdv A outer s H vs Q E hr hsp => ?_)
  · obtain ⟨F, p, o, vs', c0, ds, P, PX, rfl, _, _, _, _, r, hc, _⟩ := h
    rw [List.length_cons, r.length]
    exact hl _ _ _ _ hc
  · obtain ⟨F, p, o, vs', c0, ds, PP, PX, rfl, sm, hn, ho, rc, r, hc, hQ, hE⟩ := hsp
    have fin : ∀ {F' H' : Hp} {A' : List Addr} {ρ' : List S} {σ' : L2.St} {c' : C}, Stp F H [p] F' H' A' → R K F' A' ρ' σ' H' → ρ'[0]? = some (.ow (some p) c') → Stp F H [p] F' H' [p] ∧ p ∈ A' ∧ ∃ o', H' p = some o' ∧ RepC K F' o' c' ∧ F' p = none := fun {F' H' A' ρ' σ' c'} s1 r1 e => by
      obtain ⟨p', o', h1, h2, h3, h4, h5, h6⟩ := r1.rs.getO e
      have z := h6 p rfl
      subst z
      exact ⟨⟨s1.ext, s1.kp, s1.fr, fun b z => .inl z, s1.dom⟩, h2, o', h3, h4, h5⟩
    refine ⟨_, (B.go qual f cdv A outer s H E hr (takes_of rfl rfl rfl rfl) (passes_of rfl)).pss, F, [p], _, _, ⟨sm, ?_⟩, h p c0 ds PP PX hc, ⟨fun ρ' σ' F' H' A' h1 s1 r1 => ?_, fun rv ρ' v σ' F' H' A' h1 s1 r1 q1 => ?_, fun _ _ _ _ _ z => z.elim, fun _ _ _ _ _ z => z.elim, fun x ρ' σ' F' H' A' cls dd h1 s1 r1 q1 => ?_⟩⟩
    · unfold L2.start
      rw [List.length_cons, r.length]
      exact .ow ho rc hn (fun z => by cases z) (fun q z => (Option.some.inj z).symm) (reps_rs r)
    · obtain ⟨c', e1, h1⟩ := h1
      obtain ⟨s2, _, o', k1, k2, k3⟩ := fin s1 r1 e1
      exact hQ _ c' _ F' H' o' h1 s2 r1.same k1 k2 k3 .non
    · obtain ⟨c', e1, h1⟩ := h1
      obtain ⟨s2, hp, o', k1, k2, k3⟩ := fin s1 r1 e1
      refine hQ _ c' _ F' H' o' h1 s2 r1.same k1 k2 k3 ?_
      cases rv with
      | fz d => exact q1
      | ow c =>
        obtain ⟨p1, o1, A1, rfl, h2, h3, h4, h5, h6, h7⟩ := q1
        refine ⟨p1, o1, rfl, ?_, h5, h6, h7⟩
        rcases h3.sub p1 h2 with z | z
        · have : p1 = p := by simpa using z
          exact absurd (this ▸ hp) h4
        · exact z
    · obtain ⟨c', e1, h1⟩ := h1
      obtain ⟨s2, _, o', k1, k2, k3⟩ := fin s1 r1 e1
      exact hE x c' F' H' o' cls dd h1 s2 r1.same k1 k2 k3 q1
end
end G

/-! G: built-ins, methods, more statements -/
namespace G
open PySem PySem.Spec PyProof.Rows L2
section
variable {X : Cx} {W : WX} {e a b : Expr} {es : List Expr} {x : Str} {p p2 pos : Pos} {ma mb : ME} {mas : MA}
/-! ### built-ins -/
def CallD (K : PySem.W.Frag) (r : List V → Hp → VK → Prop) (f : List D → (D → Prop) → Prop) : Prop :=
  ∀ (F H : Hp) (vs : List V) (ds : List D) (P : D → Prop), Same F H → Reps K F vs ds → f ds P → ∀ Q : VK, (∀ z w F' H', P z → New F H F' H' → Rep K F' w z → Q w H') → r vs H Q
def mBf (f : List D → (D → Prop) → Prop) (m : MA) (ρ : List S) (P : D → List S → Prop) (PX : XP) : Prop := m ρ (fun ds ρ1 => f ds fun z => P z ρ1) PX
theorem lift_bf {r : List V → Hp → VK → Prop} {f : List D → (D → Prop) → Prop} (hf : CallD X.K r f) {σ : L2.St} {H : Hp} {Q : VK} (h : lift X.K W (mBf f mas) σ H Q) : tCB r (liftA X.K W mas) σ H Q := by
  obtain ⟨F, A, ρ, P, PX, r0, hm, hP, hX⟩ := h
  refine ⟨F, A, ρ, _, PX, r0, hm, fun ds ρ1 vs F1 H1 A1 h1 s1 r1 q1 => ?_, hX⟩
  exact hf F1 H1 vs ds _ r1.same q1 h1 Q fun z w F3 H3 hz n w' => hP z ρ1 w F3 H3 A1 hz (s1.trans n.stp) (r1.new n) w'
theorem ge_bf {id : String} {r : List V → Hp → VK → Prop} {f : List D → (D → Prop) → Prop} (hc : CallR X (.builtin id) r) (hf : CallD X.K r f) (hm : X.mg x = none) (ha : GA X W (e :: es) mas) (hv : bootBuiltins x = some (.builtin id) := by decide +kernel) (hg : Gl X x := by rfl) (hn : x ≠ "__name__" := by decide) (hdb : (x == ("__debug__" : Str)) = false := by decide)
    (he : starEach (e :: es) X.env = (false, eval e X.env) :: starEach es X.env := by rfl) (hpl : (backTo pos (starEach es X.env)).any (·.1) = false := by rfl) : GE X W (.Call (.Name x p) (e :: es) [] pos) (mBf f mas) :=
  ⟨pe_imp (pe_callB hc hg hm hv ha.pa hn hdb he hpl) fun _ _ _ h => lift_bf hf h⟩
theorem ge_bt {T : String} {r : List V → Hp → VK → Prop} {f : List D → (D → Prop) → Prop} (hc : CallR X (.type T) r) (hf : CallD X.K r f) (hm : X.mg x = none) (ha : GA X W (e :: es) mas) (hv : bootBuiltins x = some (.type T) := by decide +kernel) (hg : Gl X x := by rfl) (hn : x ≠ "__name__" := by decide) (hdb : (x == ("__debug__" : Str)) = false := by decide)
    (he : starEach (e :: es) X.env = (false, eval e X.env) :: starEach es X.env := by rfl) (hpl : (backTo pos (starEach es X.env)).any (·.1) = false := by rfl) : GE X W (.Call (.Name x p) (e :: es) [] pos) (mBf f mas) :=
  ⟨pe_imp (pe_callTy hc hg hm hv ha.pa hn hdb he hpl) fun _ _ _ h => lift_bf hf h⟩
def fLen : List D → (D → Prop) → Prop
  | [.str z], P => z.length ≤ sizeLine ∧ P (.int z.length)
  | [.lst ds], P => P (.int ds.length)
  | [.tup ds], P => P (.int ds.length)
  | [.scr ns], P => P (.int ns.length)
  | _, _ => False
theorem cd_len {K : PySem.W.Frag} : CallD K (fun xs H Q => ∃ x n, xs = [x] ∧ LenV K x H n ∧ Q (.int n) H) fLen := by
  intro F H vs ds P s r h Q q
  unfold fLen at h
  split at h
  · cases r with
    | cons r t =>
      cases t
      rw [r.str_inv]
      exact ⟨_, _, rfl, ⟨h.1, rfl⟩, q _ _ F H h.2 (New.refl s) (.int _)⟩
  · cases r with
    | cons r t =>
      cases t
      obtain ⟨a, vs, rfl, e, r2⟩ := r.lst_inv
      exact ⟨_, _, rfl, .inl ⟨vs, .of (s _ _ e), rfl⟩, by rw [r2.length]; exact q _ _ F H h (New.refl s) (.int _)⟩
  · cases r with
    | cons r t =>
      cases t
      obtain ⟨a, vs, rfl, e, r2⟩ := r.tup_inv
      exact ⟨_, _, rfl, .inr ⟨vs, .of (s _ _ e), rfl⟩, by rw [r2.length]; exact q _ _ F H h (New.refl s) (.int _)⟩
  · cases r with
    | cons r t =>
      cases t
      obtain ⟨a, rfl, e⟩ := r.scr_inv
      exact ⟨_, _, rfl, .inl ⟨_, s.seq e, rfl⟩, by rw [List.length_map]; exact q _ _ F H h (New.refl s) (.int _)⟩
  · exact h.elim
/-- a one-value built-in -/
theorem cd_1 {K : PySem.W.Frag} {r : List V → Hp → VK → Prop} {f : D → (D → Prop) → Prop} (h : ∀ F H v d P, Same F H → Rep K F v d → f d P → ∀ Q : VK, (∀ z w F' H', P z → New F H F' H' → Rep K F' w z → Q w H') → r [v] H Q) :
    CallD K r (fun ds P => match ds with | [d] => f d P | _ => False) := by
  intro F H vs ds P s r' hh Q q
  split at hh
  · cases r' with
    | cons r' t =>
      cases t
      exact h F H _ _ P s r' hh Q q
  · exact hh.elim
def fAbs : List D → (D → Prop) → Prop := fun ds P => match ds with
  | [.int i] => P (.int (if i < 0 then -i else i))
  | _ => False
theorem cd_abs {K : PySem.W.Frag} : CallD K (fun xs H Q => ∃ i, xs = [.int i] ∧ Q (.int (if i < 0 then -i else i)) H) fAbs := by
  intro F H vs ds P s r h Q q
  unfold fAbs at h
  split at h
  · cases r with
    | cons r t =>
      cases t
      rw [r.int_inv]
      exact ⟨_, rfl, q _ _ F H h (New.refl s) (.int _)⟩
  · exact h.elim
/-- int(..) of an int, a truth, a text -/
def fInt : List D → (D → Prop) → Prop := fun ds P => match ds with
  | [.int i] => P (.int i)
  | [.bl k] => P (.int (if k then 1 else 0))
  | [.str z] => z.length ≤ 640 ∧ ∃ n, PySem.intText? z = some n ∧ P (.int n)
  | _ => False
theorem cd_int {K : PySem.W.Frag} : CallD K (fun xs H Q => ((∃ i, xs = [.int i] ∧ Q (.int i) H) ∨ ∃ k, xs = [.bl k] ∧ Q (.int (if k then 1 else 0)) H) ∨ (∃ a n, xs = [.str a] ∧ PySem.intText? a = some n ∧ a.length ≤ 640 ∧ Q (.int n) H)) fInt := by
  intro F H vs ds P s r h Q q
  unfold fInt at h
  split at h
  · cases r with
    | cons r t =>
      cases t
      rw [r.int_inv]
      exact .inl (.inl ⟨_, rfl, q _ _ F H h (New.refl s) (.int _)⟩)
  · cases r with
    | cons r t =>
      cases t
      rw [r.bl_inv]
      exact .inl (.inr ⟨_, rfl, q _ _ F H h (New.refl s) (.int _)⟩)
  · cases r with
    | cons r t =>
      cases t
      rw [r.str_inv]
      obtain ⟨hz, n, h1, h2⟩ := h
      exact .inr ⟨_, n, rfl, h1, hz, q _ _ F H h2 (New.refl s) (.int _)⟩
  · exact h.elim
theorem call_intA : CallR X (.type "int") (fun xs H Q => ((∃ i, xs = [.int i] ∧ Q (.int i) H) ∨ ∃ k, xs = [.bl k] ∧ Q (.int (if k then 1 else 0)) H) ∨ (∃ a n, xs = [.str a] ∧ PySem.intText? a = some n ∧ a.length ≤ 640 ∧ Q (.int n) H)) :=
  call_int1.or call_int_str
/-- str(n), repr(n) -/
def fStr : List D → (D → Prop) → Prop := fun ds P => match ds with
  | [.int i] => i.natAbs.log2 < 1920 ∧ P (.str (toString i))
  | _ => False
theorem cd_str {K : PySem.W.Frag} : CallD K (fun xs H Q => ∃ i, xs = [.int i] ∧ i.natAbs.log2 < 1920 ∧ Q (.str (toString i)) H) fStr := by
  intro F H vs ds P s r h Q q
  unfold fStr at h
  split at h
  · cases r with
    | cons r t =>
      cases t
      rw [r.int_inv]
      exact ⟨_, rfl, h.1, q _ _ F H h.2 (New.refl s) (.str _)⟩
  · exact h.elim
/-- the ints of a list -/
def intsOf : List D → Option (List Int)
  | [] => some []
  | .int i :: r => (intsOf r).map (i :: ·)
  | _ => none
theorem Reps.intsOf {K : PySem.W.Frag} {F : Hp} : ∀ {ds : List D} {vs : List V} {ns : List Int}, Reps K F vs ds → intsOf ds = some ns → vs = ns.map V.int
  | [], _, ns, h, e => by
    cases h
    cases Option.some.inj e
    rfl
  | d :: ds, _, ns, h, e => by
    cases h with
    | cons r t =>
      cases d with
      | int i =>
        obtain ⟨m, e1, e2⟩ := Option.map_eq_some_iff.mp (show (G.intsOf ds).map (i :: ·) = some ns from e)
        rw [← e2, r.int_inv, Reps.intsOf t e1]
        rfl
      | _ => exact nomatch e
theorem intsOf_map (ns : List Int) : intsOf (ns.map D.int) = some ns := by
  induction ns with
  | nil => rfl
  | cons n ns ih => show (intsOf (ns.map D.int)).map (n :: ·) = _; rw [ih]; rfl
def strsOf : List D → Option (List Str)
  | [] => some []
  | .str i :: r => (strsOf r).map (i :: ·)
  | _ => none
theorem Reps.strsOf {K : PySem.W.Frag} {F : Hp} : ∀ {ds : List D} {vs : List V} {ns : List Str}, Reps K F vs ds → strsOf ds = some ns → vs = ns.map V.str
  | [], _, ns, h, e => by
    cases h
    cases Option.some.inj e
    rfl
  | d :: ds, _, ns, h, e => by
    cases h with
    | cons r t =>
      cases d with
      | str i =>
        obtain ⟨m, e1, e2⟩ := Option.map_eq_some_iff.mp (show (G.strsOf ds).map (i :: ·) = some ns from e)
        rw [← e2, r.str_inv, Reps.strsOf t e1]
        rfl
      | _ => exact nomatch e
theorem strsOf_map (ns : List Str) : strsOf (ns.map D.str) = some ns := by
  induction ns with
  | nil => rfl
  | cons n ns ih => show (strsOf (ns.map D.str)).map (n :: ·) = _; rw [ih]; rfl
def blsOf : List D → Option (List Bool)
  | [] => some []
  | .bl i :: r => (blsOf r).map (i :: ·)
  | _ => none
theorem Reps.blsOf {K : PySem.W.Frag} {F : Hp} : ∀ {ds : List D} {vs : List V} {ns : List Bool}, Reps K F vs ds → blsOf ds = some ns → vs = ns.map V.bl
  | [], _, ns, h, e => by
    cases h
    cases Option.some.inj e
    rfl
  | d :: ds, _, ns, h, e => by
    cases h with
    | cons r t =>
      cases d with
      | bl i =>
        obtain ⟨m, e1, e2⟩ := Option.map_eq_some_iff.mp (show (G.blsOf ds).map (i :: ·) = some ns from e)
        rw [← e2, r.bl_inv, Reps.blsOf t e1]
        rfl
      | _ => exact nomatch e
theorem blsOf_map (ns : List Bool) : blsOf (ns.map D.bl) = some ns := by
  induction ns with
  | nil => rfl
  | cons n ns ih => show (blsOf (ns.map D.bl)).map (n :: ·) = _; rw [ih]; rfl
def fSum : List D → (D → Prop) → Prop := fun ds P => match ds with
  | [.lst ds] => ∃ ns, intsOf ds = some ns ∧ P (.int ns.sum)
  | _ => False
theorem cd_sum {K : PySem.W.Frag} : CallD K (rSum K) fSum := by
  intro F H vs ds P s r h Q q
  unfold fSum at h
  split at h
  · cases r with
    | cons r t =>
      cases t
      obtain ⟨ns, h1, h2⟩ := h
      obtain ⟨a, vs, rfl, e, r2⟩ := r.lst_inv
      have := r2.intsOf h1
      subst this
      exact ⟨a, ns, rfl, .of (s _ _ e), q _ _ F H h2 (New.refl s) (.int _)⟩
  · exact h.elim
def fAny : List D → (D → Prop) → Prop := fun ds P => match ds with
  | [.lst ds] => ∃ ns, blsOf ds = some ns ∧ P (.bl (ns.any id))
  | _ => False
theorem cd_any {K : PySem.W.Frag} : CallD K (rAny K) fAny := by
  intro F H vs ds P s r h Q q
  unfold fAny at h
  split at h
  · cases r with
    | cons r t =>
      cases t
      obtain ⟨ns, h1, h2⟩ := h
      obtain ⟨a, vs, rfl, e, r2⟩ := r.lst_inv
      have := r2.blsOf h1
      subst this
      exact ⟨a, ns, rfl, .of (s _ _ e), q _ _ F H h2 (New.refl s) (.bl _)⟩
  · exact h.elim
def fAll : List D → (D → Prop) → Prop := fun ds P => match ds with
  | [.lst ds] => ∃ ns, blsOf ds = some ns ∧ P (.bl (ns.all id))
  | _ => False
theorem cd_all {K : PySem.W.Frag} : CallD K (rAll K) fAll := by
  intro F H vs ds P s r h Q q
  unfold fAll at h
  split at h
  · cases r with
    | cons r t =>
      cases t
      obtain ⟨ns, h1, h2⟩ := h
      obtain ⟨a, vs, rfl, e, r2⟩ := r.lst_inv
      have := r2.blsOf h1
      subst this
      exact ⟨a, ns, rfl, .of (s _ _ e), q _ _ F H h2 (New.refl s) (.bl _)⟩
  · exact h.elim
/-- max, min of a list of ints, of two ints -/
def fMax : List D → (D → Prop) → Prop := fun ds P => match ds with
  | [.lst ds] => ∃ ns, intsOf ds = some ns ∧ 0 < ns.length ∧ ∀ m, m ∈ ns → (∀ y, y ∈ ns → y ≤ m) → P (.int m)
  | [.int i, .int j] => P (.int (if j > i then j else i))
  | _ => False
def fMin : List D → (D → Prop) → Prop := fun ds P => match ds with
  | [.lst ds] => ∃ ns, intsOf ds = some ns ∧ 0 < ns.length ∧ ∀ m, m ∈ ns → (∀ y, y ∈ ns → m ≤ y) → P (.int m)
  | [.int i, .int j] => P (.int (if j < i then j else i))
  | _ => False
theorem cr_maxA (hc : X.calm = true) : CallR X (.builtin "max") (fun xs H Q => rMax X.K xs H Q ∨ ∃ i j, xs = [.int i, .int j] ∧ Q (.int (if j > i then j else i)) H) := (cr_max hc).or (call_max2 hc)
theorem cr_minA (hc : X.calm = true) : CallR X (.builtin "min") (fun xs H Q => rMin X.K xs H Q ∨ ∃ i j, xs = [.int i, .int j] ∧ Q (.int (if j < i then j else i)) H) := (cr_min hc).or (call_min2 hc)
theorem cd_max {K : PySem.W.Frag} : CallD K (fun xs H Q => rMax K xs H Q ∨ ∃ i j, xs = [.int i, .int j] ∧ Q (.int (if j > i then j else i)) H) fMax := by
  intro F H vs ds P s r h Q q
  unfold fMax at h
  split at h
  · cases r with
    | cons r t =>
      cases t
      obtain ⟨ns, h1, h0, h2⟩ := h
      obtain ⟨a, vs, rfl, e, r2⟩ := r.lst_inv
      have := r2.intsOf h1
      subst this
      exact .inl ⟨a, ns, rfl, .of (s _ _ e), h0, fun m hm hl => q _ _ F H (h2 m hm hl) (New.refl s) (.int _)⟩
  · cases r with
    | cons r t =>
      cases t with
      | cons r' t =>
        cases t
        rw [r.int_inv, r'.int_inv]
        exact .inr ⟨_, _, rfl, q _ _ F H h (New.refl s) (.int _)⟩
  · exact h.elim
theorem cd_min {K : PySem.W.Frag} : CallD K (fun xs H Q => rMin K xs H Q ∨ ∃ i j, xs = [.int i, .int j] ∧ Q (.int (if j < i then j else i)) H) fMin := by
  intro F H vs ds P s r h Q q
  unfold fMin at h
  split at h
  · cases r with
    | cons r t =>
      cases t
      obtain ⟨ns, h1, h0, h2⟩ := h
      obtain ⟨a, vs, rfl, e, r2⟩ := r.lst_inv
      have := r2.intsOf h1
      subst this
      exact .inl ⟨a, ns, rfl, .of (s _ _ e), h0, fun m hm hl => q _ _ F H (h2 m hm hl) (New.refl s) (.int _)⟩
  · cases r with
    | cons r t =>
      cases t with
      | cons r' t =>
        cases t
        rw [r.int_inv, r'.int_inv]
        exact .inr ⟨_, _, rfl, q _ _ F H h (New.refl s) (.int _)⟩
  · exact h.elim
/-- tuple(a list), list(a list, a tuple) -/
def fTup : List D → (D → Prop) → Prop := fun ds P => match ds with
  | [.lst ds] => P (.tup ds)
  | [.tup ds] => P (.tup ds)
  | _ => False
theorem cd_tup {K : PySem.W.Frag} : CallD K (fun xs H Q => ∃ p ys, xs = [.ref p] ∧ ((SqL K H p ys ∧ ∀ l, H l = none → Q (.ref l) (upd H l (.tup ys))) ∨ (SqT K H p ys ∧ Q (.ref p) H))) fTup := by
  intro F H vs ds P s r h Q q
  unfold fTup at h
  split at h
  · cases r with
    | cons r t =>
      cases t
      obtain ⟨a, vs, rfl, e, r2⟩ := r.lst_inv
      refine ⟨a, vs, rfl, .inl ⟨.of (s _ _ e), fun l hl => ?_⟩⟩
      have n := New.mk1 (.tup vs) s hl
      exact q _ _ _ _ h n (.tup upd_same (r2.mono n.ext))
  · cases r with
    | cons r t =>
      cases t
      obtain ⟨a, vs, rfl, e, r2⟩ := r.tup_inv
      exact ⟨a, vs, rfl, .inr ⟨.of (s _ _ e), q _ _ F H h (New.refl s) (.tup e r2)⟩⟩
  · exact h.elim
def mLi (m : MA) (ρ : List S) (P : C → List S → Prop) (PX : XP) : Prop := m ρ (fun ds ρ1 => match ds with
  | [.lst ds] => P (.lst ds) ρ1
  | [.tup ds] => P (.lst ds) ρ1
  | _ => False) PX
theorem go_list (hm : X.mg x = none) (ha : GA X W (e :: es) mas) (hv : bootBuiltins x = some (.type "list") := by decide +kernel) (hg : Gl X x := by rfl) (hn : x ≠ "__name__" := by decide) (hdb : (x == ("__debug__" : Str)) = false := by decide)
    (he : starEach (e :: es) X.env = (false, eval e X.env) :: starEach es X.env := by rfl) (hpl : (backTo pos (starEach es X.env)).any (·.1) = false := by rfl) : GO X W (.Call (.Name x p) (e :: es) [] pos) (mLi mas) :=
  ⟨pe_imp (pe_callTy call_list_of hg hm hv ha.pa hn hdb he hpl) fun σ H Q h => by
  obtain ⟨F, A, ρ, P, PX, r0, hm, hP, hX⟩ := h
  refine ⟨F, A, ρ, _, PX, r0, hm, fun ds ρ1 vs F1 H1 A1 h1 s1 r1 q1 => ?_, hX⟩
  split at h1
  · cases q1 with
    | cons r t =>
      cases t
      obtain ⟨a, vs, rfl, e, r2⟩ := r.lst_inv
      refine ⟨a, vs, rfl, .inl (.of (r1.same _ _ e)), fun l hl => ?_⟩
      obtain ⟨s2, r2', n1, n2, n3⟩ := own_new (.lst vs) s1 r1 hl
      exact hP _ ρ1 l _ _ _ A1 h1 s2 r2' n1 n3 upd_same (.lst r2) n2
  · cases q1 with
    | cons r t =>
      cases t
      obtain ⟨a, vs, rfl, e, r2⟩ := r.tup_inv
      refine ⟨a, vs, rfl, .inr (.of (r1.same _ _ e)), fun l hl => ?_⟩
      obtain ⟨s2, r2', n1, n2, n3⟩ := own_new (.lst vs) s1 r1 hl
      exact hP _ ρ1 l _ _ _ A1 h1 s2 r2' n1 n3 upd_same (.lst r2) n2
  · exact h1.elim⟩
/-- len(own) -/
def mLenV (i : Nat) (ρ : List S) (P : D → List S → Prop) (PX : XP) : Prop := match ρ[i]? with
  | some (.ow _ (.lst ds)) => P (.int ds.length) ρ
  | _ => False
theorem ge_lenv {i : Nat} {xv : Str} (hm : X.mg x = none) (hv : bootBuiltins x = some (.builtin "len") := by decide +kernel) (hg : Gl X x := by rfl) (hn : x ≠ "__name__" := by decide) (hdb : (x == ("__debug__" : Str)) = false := by decide)
    (hN : X.N[i]? = some xv := by rfl) (hvv : Vis X.env.scope xv := by first | exact Or.inl rfl | exact Or.inr (Or.inl rfl) | exact Or.inr (Or.inr rfl)) (hd2 : (xv == ("__debug__" : Str)) = false := by decide)
    (hcd : (xv == ("__classdict__" : Str)) = false := by decide) (he : starEach [.Name xv p2] X.env = (false, eval (.Name xv p2) X.env) :: starEach [] X.env := by rfl) (hpl : (backTo pos (starEach [] X.env)).any (·.1) = false := by rfl) :
    GE X W (.Call (.Name x p) [.Name xv p2] [] pos) (mLenV i) :=
  ⟨pe_imp (pe_callB call_len hg hm hv (pa_cons (pe_var hN hvv hd2 hcd) pa_nil he) hn hdb he hpl) fun σ H Q h => by
  obtain ⟨F, A, ρ, P, PX, r0, hm, hP, hX⟩ := h
  unfold mLenV at hm
  split at hm
  · rename_i t ds h
    obtain ⟨p, o, h1, h2, h3, h4, h5, _⟩ := r0.rs.getO h
    cases h4 with
    | lst q =>
      exact ⟨_, h1, _, _, rfl, .inl ⟨_, .of h3, rfl⟩, by rw [q.length]; exact hP _ _ _ _ _ _ hm Stp.refl r0 (.int _)⟩
  · exact hm.elim⟩

/-! ### methods that change an own object -/
def MutD (K : PySem.W.Frag) (r : V → List V → Hp → VK → Prop) (f : C → List D → (D → C → Prop) → Prop) : Prop :=
  ∀ (F H : Hp) (p : Addr) (o : HO) (c0 : C) (vs : List V) (ds : List D) (P : D → C → Prop), Same F H → H p = some o → RepC K F o c0 → F p = none → Reps K F vs ds → f c0 ds P →
    ∀ Q : VK, (∀ d c' v o', P d c' → RepC K F o' c' → Rep K F v d → Q v (upd H p o')) → r (.ref p) vs H Q
def mMut (f : C → List D → (D → C → Prop) → Prop) (i : Nat) (m : MA) (ρ : List S) (P : D → List S → Prop) (PX : XP) : Prop := match ρ[i]? with
  | some (.ow _ _) => m ρ (fun ds ρ1 => match ρ1[i]? with
    | some (.ow t c0) => f c0 ds fun d c' => P d (ρ1.set i (.ow t c'))
    | _ => False) PX
  | _ => False
theorem R.mut {K : PySem.W.Frag} {F H : Hp} {A : List Addr} {ρ : List S} {σ : L2.St} {i : Nat} {t : Option Addr} {c c' : C} {p : Addr} {o' : HO} (r : R K F A ρ σ H) (hi : ρ[i]? = some (.ow t c)) (hs : σ[i]? = some (some (V.ref p))) (hp : p ∈ A) (hn : F p = none)
    (q : RepC K F o' c') : Stp F H A F (upd H p o') A ∧ R K F A (ρ.set i (.ow t c')) σ (upd H p o') := by
  refine ⟨⟨Same.refl F, fun b o e n => (upd_ne fun z => n (by rw [z]; exact hp)).trans e, fun _ _ _ _ => rfl, fun _ h => .inl h, fun b e => ?_⟩, fun b o e => ?_, r.rs.upd q hi hs⟩
  · by_cases z : b = p
    · rw [z, upd_same] at e; cases e
    · rw [upd_ne z] at e; exact e
  · rw [upd_ne fun z => by rw [z, hn] at e; cases e]
    exact r.same b o e
theorem tyL {K : PySem.W.Frag} {H : Hp} {p : Addr} {vs : List V} (h : H p = some (.lst vs)) : tyV K "list" (.ref p) H := .inl ⟨rfl, _, .inl (.inl h)⟩
/-- own.m(e, ..), a list's method -/
theorem ge_mut {id : String} {name xv : Str} {i : Nat} {r : V → List V → Hp → VK → Prop} {f : C → List D → (D → C → Prop) → Prop} {apos : Pos} (slot : Slot "list" name id) (hty : typeOf (.builtin id) = pure (.type "method_descriptor")) (hmt : MtR X id r) (hf : MutD X.K r f) (ha : GA X W (e :: es) mas) (hN : X.N[i]? = some xv := by rfl) (hvv : Vis X.env.scope xv := by first | exact Or.inl rfl | exact Or.inr (Or.inl rfl) | exact Or.inr (Or.inr rfl)) (hd2 : (xv == ("__debug__" : Str)) = false := by decide)
    (hcd : (xv == ("__classdict__" : Str)) = false := by decide) (hbase : attributeBase (.Name xv p2) name X.env (eval (.Name xv p2) X.env) = eval (.Name xv p2) X.env := by rfl)
    (hfew : ((backTo pos (starEach (e :: es) X.env)).all (fun x => !x.1) && (backToKw pos (keywordEach [] X.env)).all (fun x => x.1.isSome)
      && decide ((e :: es).length + ([] : List Keyword).length + (if ([] : List Keyword).isEmpty then 0 else 1) < 30)) = true := by rfl)
    (hline : (apos.endLine == pos.line) = true := by rfl) (hs : starEach (e :: es) X.env = (false, eval e X.env) :: starEach es X.env := by rfl) (hplain : (backTo pos (starEach es X.env)).any (·.1) = false := by rfl) :
    GE X W (.Call (.Attribute (.Name xv p2) name apos) (e :: es) [] pos) (fun ρ P PX => match ρ[i]? with | some (.ow _ (.lst _)) => mMut f i mas ρ P PX | _ => False) :=
  ⟨pe_imp (pe_bm PySem.F.plainAttrs_list slot hty hmt (pe_var hN hvv hd2 hcd) ha.pa hbase hfew hline hs hplain) fun σ H Q h => by
  obtain ⟨F, A, ρ, P, PX, r0, hm, hP, hX⟩ := h
  split at hm
  · rename_i t0 l0 h0
    obtain ⟨p, o, h1, h2, h3, h4, h5, _⟩ := r0.rs.getO h0
    unfold mMut at hm
    rw [h0] at hm
    cases h4 with
    | lst q0 =>
      refine ⟨_, h1, tyL h3, F, A, ρ, _, PX, r0, hm, fun ds ρ1 vs F1 H1 A1 k1 s1 r1 q1 => ?_, hX⟩
      split at k1
      · rename_i t c0 e1
        obtain ⟨p', o', e2, m1, m2, m3, m4⟩ := slot_keeps r1 h1 e1
        cases e2
        refine hf F1 H1 p o' c0 vs ds _ r1.same m2 m3 m4 q1 k1 Q fun d c' v o2 hz rc rd => ?_
        obtain ⟨s2, r2⟩ := r1.mut e1 h1 m1 m4 rc
        exact hP _ _ _ _ _ _ hz (s1.trans s2) r2 rd
      · exact k1.elim
  · exact hm.elim⟩
/-- own.m() -/
theorem ge_mut0 {id : String} {name xv : Str} {i : Nat} {r : V → List V → Hp → VK → Prop} {f : C → List D → (D → C → Prop) → Prop} {apos : Pos} (slot : Slot "list" name id) (hty : typeOf (.builtin id) = pure (.type "method_descriptor")) (hmt : MtR X id r) (hf : MutD X.K r f)
    (hN : X.N[i]? = some xv := by rfl) (hvv : Vis X.env.scope xv := by first | exact Or.inl rfl | exact Or.inr (Or.inl rfl) | exact Or.inr (Or.inr rfl)) (hd2 : (xv == ("__debug__" : Str)) = false := by decide)
    (hcd : (xv == ("__classdict__" : Str)) = false := by decide) (hbase : attributeBase (.Name xv p2) name X.env (eval (.Name xv p2) X.env) = eval (.Name xv p2) X.env := by rfl)
    (hline : (apos.endLine == pos.line) = true := by rfl) :
    GE X W (.Call (.Attribute (.Name xv p2) name apos) [] [] pos) (fun ρ P PX => match ρ[i]? with | some (.ow _ (.lst _)) => mMut f i mNil ρ P PX | _ => False) :=
  ⟨pe_imp (pe_bm0 PySem.F.plainAttrs_list slot hty hmt (pe_var hN hvv hd2 hcd) hbase hline) fun σ H Q h => by
  obtain ⟨F, A, ρ, P, PX, r0, hm, hP, hX⟩ := h
  split at hm
  · rename_i t0 l0 h0
    obtain ⟨p, o, h1, h2, h3, h4, h5, _⟩ := r0.rs.getO h0
    unfold mMut mNil at hm
    rw [h0] at hm
    cases h4 with
    | lst q0 =>
      refine ⟨_, h1, tyL h3, ?_⟩
      simp only [h0] at hm
      refine hf F H p _ _ [] [] _ r0.same h3 (.lst q0) h5 .nil hm Q fun d c' v o2 hz rc rd => ?_
      obtain ⟨s2, r2⟩ := r0.mut h0 h1 h2 h5 rc
      exact hP _ _ _ _ _ _ hz s2 r2 rd
  · exact hm.elim⟩
def fApp : C → List D → (D → C → Prop) → Prop := fun c ds P => match c, ds with
  | .lst l, [d] => l.length < sizeLine ∧ P .non (.lst (l ++ [d]))
  | _, _ => False
theorem md_app {K : PySem.W.Frag} : MutD K rAppend fApp := by
  intro F H p o c0 vs ds P s ho rc hn r h Q q
  unfold fApp at h
  split at h
  · cases rc with
    | lst rc =>
      cases r with
      | cons r t =>
        cases t
        exact ⟨p, _, _, rfl, rfl, ho, by rw [rc.length]; exact h.1, q _ _ _ _ h.2 (.lst (rc.append (.cons r .nil))) .non⟩
  · exact h.elim
def fIns : C → List D → (D → C → Prop) → Prop := fun c ds P => match c, ds with
  | .lst l, [.int i, d] => l.length < sizeLine ∧ 0 ≤ i ∧ i ≤ l.length ∧ P .non (.lst (l.take i.toNat ++ d :: l.drop i.toNat))
  | _, _ => False
def fPopAt : C → List D → (D → C → Prop) → Prop := fun c ds P => match c, ds with
  | .lst l, [.int i] => 0 ≤ i ∧ i < 2 ^ 63 ∧ ∃ d, l[i.toNat]? = some d ∧ P d (.lst (l.eraseIdx i.toNat))
  | _, _ => False
theorem md_popAt {K : PySem.W.Frag} : MutD K rPopAt fPopAt := by
  intro F H p o c0 vs ds P s ho rc hn r h Q q
  unfold fPopAt at h
  split at h
  · cases rc with
    | lst rc =>
      cases r with
      | cons r t =>
        cases t
        obtain ⟨h0, h1, d, h2, h3⟩ := h
        obtain ⟨v, h4, h5⟩ := rc.get _ h2
        rw [r.int_inv]
        have hlt := (List.getElem?_eq_some_iff.mp h4).1
        have e63 : (2 : Int) ^ 63 = 9223372036854775808 := by decide
        exact ⟨p, _, _, _, v, rfl, rfl, ho, by omega, h1, seqIndex_of h0 (by omega), h4, q _ _ _ _ h3 (.lst (rc.eraseIdx _)) h5⟩
  · exact h.elim
def fPop : C → List D → (D → C → Prop) → Prop := fun c ds P => match c, ds with
  | .lst l, [] => ∃ d, l[l.length - 1]? = some d ∧ P d (.lst l.dropLast)
  | _, _ => False
theorem Reps.dropLast {K : PySem.W.Frag} {F : Hp} {vs : List V} {ds : List D} (a : Reps K F vs ds) : Reps K F vs.dropLast ds.dropLast := by
  rw [List.dropLast_eq_take, List.dropLast_eq_take, a.length]
  exact a.take _
theorem md_pop {K : PySem.W.Frag} : MutD K rPop fPop := by
  intro F H p o c0 vs ds P s ho rc hn r h Q q
  unfold fPop at h
  split at h
  · cases rc with
    | lst rc =>
      cases r
      obtain ⟨d, h2, h3⟩ := h
      obtain ⟨v, h4, h5⟩ := rc.get _ h2
      exact ⟨p, _, v, rfl, rfl, ho, by rw [rc.length]; exact h4, q _ _ _ _ h3 (.lst rc.dropLast) h5⟩
  · exact h.elim
def fRev : C → List D → (D → C → Prop) → Prop := fun c ds P => match c, ds with
  | .lst l, [] => P .non (.lst l.reverse)
  | _, _ => False
theorem md_rev {K : PySem.W.Frag} : MutD K rReverse fRev := by
  intro F H p o c0 vs ds P s ho rc hn r h Q q
  unfold fRev at h
  split at h
  · cases rc with
    | lst rc =>
      cases r
      exact ⟨p, _, rfl, rfl, ho, q _ _ _ _ h (.lst rc.rev) .non⟩
  · exact h.elim
def fExt : C → List D → (D → C → Prop) → Prop := fun c ds P => match c, ds with
  | .lst l, [.lst z] => l.length + z.length ≤ sizeLine ∧ P .non (.lst (l ++ z))
  | _, _ => False
theorem md_ext {K : PySem.W.Frag} : MutD K rExtend fExt := by
  intro F H p o c0 vs ds P s ho rc hn r h Q q
  unfold fExt at h
  split at h
  · cases rc with
    | lst rc =>
      cases r with
      | cons r t =>
        cases t
        obtain ⟨a, us, rfl, e, r2⟩ := r.lst_inv
        exact ⟨p, a, _, us, rfl, rfl, ho, s _ _ e, by rw [rc.length, r2.length]; exact h.1, q _ _ _ _ h.2 (.lst (rc.append r2)) .non⟩
  · exact h.elim
theorem MtM.r {id : String} {r : V → List V → Hp → VK → Prop} (h : MtM X id r) : MtR X id r := fun pins s σ H x xs v us Q I rx rs q => h pins s σ H x xs v us Q I rx rs q

/-! ### own[i] = e -/
def mSub (i : Nat) (me mi : ME) (PD : PEnds) (ρ : List S) : Prop := match ρ[i]? with
  | some (.ow _ _) => me ρ (fun d ρ1 => mi ρ1 (fun k ρ2 => match ρ2[i]?, k with
    | some (.ow t (.lst l)), .int n => ∃ j, ixN l.length n = some j ∧ PD.nx (ρ2.set i (.ow t (.lst (l.set j d))))
    | _, _ => False) PD.ex) PD.ex
  | _ => False
theorem gs_sub {i : Nat} {xv : Str} {ix : Expr} {mi : ME} {spos : Pos} (he : GE X W e ma) (hi : GE X W ix mi) (hN : X.N[i]? = some xv := by rfl) (hvv : Vis X.env.scope xv := by first | exact Or.inl rfl | exact Or.inr (Or.inl rfl) | exact Or.inr (Or.inr rfl)) (hd2 : (xv == ("__debug__" : Str)) = false := by decide)
    (hcd : (xv == ("__classdict__" : Str)) = false := by decide) (hs : swapsWithSole [.Subscript (.Name xv p2) ix pos] e spos.line X.env = pure false := by rfl) (hw : swappedStores [.Subscript (.Name xv p2) ix pos] e X.env = pure none := by rfl)
    (h1 : (assignEach [.Subscript (.Name xv p2) ix pos] X.env).map (·.2) = [assign (.Subscript (.Name xv p2) ix pos) X.env] := by rfl)
    (has : ∀ v, assign (.Subscript (.Name xv p2) ix pos) X.env v = (do
      let ov ← holding [v] (eval (.Name xv p2) X.env)
      let iv ← holding [v, ov] (eval ix X.env)
      standAt pos
      holding [v, ov, iv] (setItem ov iv v)
      release [v, ov, iv] []) := by intro _; rfl) : GS X W (.Assign [.Subscript (.Name xv p2) ix pos] e spos) (mSub i ma mi) :=
  ⟨ps_imp (ps_asg he.pe (pg_sub (pe_var hN hvv hd2 hcd) hi.pe set_list has) hs hw h1) fun D σ H h => by
  obtain ⟨F, A, ρ, PD, r, h, q⟩ := h
  unfold mSub at h
  split at h
  · rename_i t0 c0 h0
    obtain ⟨p, o, e0, _⟩ := r.rs.getO h0
    refine ⟨F, A, ρ, _, PD.ex, r, h, fun d ρ1 v F1 H1 A1 k1 s1 r1 q1 => ?_, q.xc σ⟩
    refine ⟨_, e0, F1, A1, ρ1, _, PD.ex, r1, k1, fun k ρ2 u F2 H2 A2 k2 s2 r2 q2 => ?_, (q.xc σ).step s1⟩
    split at k2
    · rename_i t l n e1
      obtain ⟨j, k3, k4⟩ := k2
      obtain ⟨p', o', e2, m1, m2, m3, m4⟩ := slot_keeps r2 e0 e1
      cases e2
      cases m3 with
      | lst m3 =>
        rename_i vs
        obtain ⟨s3, r3⟩ := r2.mut e1 e0 m1 m4 (.lst (m3.set j (q1.mono s2.ext)))
        exact ⟨p, vs, n, j, rfl, q2.int_inv, m2, by rw [m3.length]; exact k3, q.nx _ _ _ _ _ k4 ((s1.trans s2).trans s3) r3⟩
    · exact k2.elim
  · exact h.elim⟩

/-! ### a, b = a tuple's items -/
def mUnp (m : ME) (g : MG) (PD : PEnds) (ρ : List S) : Prop := m ρ (fun d ρ1 => g d ρ1 PD.nx) PD.ex
theorem gs_unp {tg : Expr} {is : List Nat} {mg : MG} (he : GE X W e ma) (hg : GG X is tg mg) (hs : swapsWithSole [tg] e pos.line X.env = pure false := by rfl) (hw : swappedStores [tg] e X.env = pure none := by rfl)
    (h1 : (assignEach [tg] X.env).map (·.2) = [assign tg X.env] := by rfl) : GS X W (.Assign [tg] e pos) (mUnp ma mg) := ⟨ps_imp (ps_asg he.pe hg.pg hs hw h1) fun D σ H h => by
  obtain ⟨F, A, ρ, PD, r, h, q⟩ := h
  refine ⟨F, A, ρ, _, PD.ex, r, h, fun d ρ1 v F1 H1 A1 k1 s1 r1 q1 => ?_, q.xc σ⟩
  exact ⟨F1, A1, ρ1, d, _, r1, q1, k1, fun ρ' σ' A' h2 s2 r2 _ => q.nx _ _ _ _ _ h2 (s1.trans s2) r2⟩⟩
/-- a, b = x, y; a, b, c = x, y, z (locals) -/
def mPar2 (i j : Nat) (a b : MX) (PD : PEnds) (ρ : List S) : Prop := a ρ (fun s ρ1 => b ρ1 (fun t ρ2 => PD.nx ((ρ2.set i s).set j t)) PD.ex) PD.ex
def mPar3 (i j l : Nat) (a b c : MX) (PD : PEnds) (ρ : List S) : Prop := a ρ (fun s ρ1 => b ρ1 (fun t ρ2 => c ρ2 (fun u ρ3 => PD.nx (((ρ3.set i s).set j t).set l u)) PD.ex) PD.ex) PD.ex
/-- a value carried over a further step -/
theorem SlOk.step {K : PySem.W.Frag} {H F1 H1 F2 H2 : Hp} {A1 A2 : List Addr} {v : V} {s : S} (q : SlOk K H F1 H1 A1 v s) (st : Stp F1 H1 A1 F2 H2 A2) : SlOk K H F2 H2 A2 v s := by
  cases s with
  | un => exact q
  | fz d => exact (show Rep K F1 v d from q).mono st.ext
  | ow t c =>
    cases t with
    | some t => exact q
    | none =>
      obtain ⟨p, o, rfl, n1, n2, n3, n4, n5⟩ := q
      refine ⟨p, o, rfl, fun z => ?_, n2, st.kp _ _ n3 n1, n4.mono st.ext, (st.fr _ _ n3 n1).trans n5⟩
      rcases st.sub _ z with y | y
      · exact n1 y
      · rw [n3] at y; cases y
/-- stored, and which addresses are own then -/
theorem R.store' {K : PySem.W.Frag} {F H F' H' : Hp} {A A' : List Addr} {ρ : List S} {σ : L2.St} {v : V} {s : S} (s1 : Stp F H A F' H' A') (r : R K F' A' ρ σ H') (q : SlOk K H F' H' A' v s) (i : Nat) :
    ∃ A2, (∀ b, b ∈ A2 → b ∈ A' ∨ ∃ o, v = .ref b ∧ s ≠ .un ∧ H' b = some o ∧ H b = none ∧ ∃ c, s = .ow none c) ∧ Stp F H A F' H' A2 ∧ R K F' A2 (ρ.set i s) (σ.set i (some v)) H' := by
  cases s with
  | un => exact q.elim
  | fz d =>
    obtain ⟨A2, h1, h2⟩ := r.rs.setF q i
    exact ⟨A2, fun b hb => .inl (h1 b hb), s1.trans (Stp.less h1), r.same, h2⟩
  | ow t c =>
    cases t with
    | some t => exact q.elim
    | none =>
      obtain ⟨p, o, rfl, n1, n2, n3, n4, n5⟩ := q
      obtain ⟨A2, h1, h2⟩ := r.rs.setO n1 n3 n4 n5 i
      refine ⟨A2, fun b hb => ?_, ⟨s1.ext, s1.kp, s1.fr, fun b hb => ?_, s1.dom⟩, r.same, h2⟩
      · rcases h1 b hb with z | z
        · exact .inl z
        · rw [z]; exact .inr ⟨o, rfl, (fun z => nomatch z), n3, n2, c, rfl⟩
      · rcases h1 b hb with z | z
        · exact s1.sub b z
        · rw [z]; exact .inr n2
/-- a further value, new at a later heap, is not among the own ones -/
theorem SlOk.later {K : PySem.W.Frag} {H H1 F2 H2 : Hp} {A2 A3 : List Addr} {u v : V} {t s : S} (q2 : SlOk K H1 F2 H2 A2 u t) (dm : ∀ b, H1 b = none → H b = none) (hs : ∀ b, b ∈ A3 → b ∈ A2 ∨ ∃ o : HO, v = .ref b ∧ H1 b = some o) : SlOk K H F2 H2 A3 u t := by
  cases t with
  | un => exact q2
  | fz d => exact q2
  | ow tt c =>
    cases tt with
    | some z => exact q2
    | none =>
      obtain ⟨p, o, rfl, n1, n2, n3, n4, n5⟩ := q2
      refine ⟨p, o, rfl, fun z => ?_, dm _ n2, n3, n4, n5⟩
      rcases hs p z with y | ⟨o, _, y⟩
      · exact n1 y
      · rw [n2] at y; cases y
theorem pair_store {K : PySem.W.Frag} {F H F1 H1 F2 H2 : Hp} {A A1 A2 : List Addr} {ρ : List S} {σ : L2.St} {v u : V} {s t : S} {i j : Nat} (s1 : Stp F H A F1 H1 A1) (q1 : SlOk K H F1 H1 A1 v s) (s2 : Stp F1 H1 A1 F2 H2 A2) (q2 : SlOk K H1 F2 H2 A2 u t) (r : R K F2 A2 ρ σ H2) :
    ∃ A3, (∀ b, b ∈ A3 → b ∈ A2 ∨ (∃ o, v = .ref b ∧ H1 b = some o) ∨ (u = .ref b ∧ ∃ c, t = .ow none c)) ∧ Stp F H A F2 H2 A3 ∧ R K F2 A3 ((ρ.set i s).set j t) ((σ.set i (some v)).set j (some u)) H2 := by
  have k1 : ∀ b, (∃ c, s = .ow none c) → v = .ref b → ∃ o, H1 b = some o := fun b ⟨c, e⟩ ev => by
    subst e
    obtain ⟨p, o, e2, _, _, n3, _⟩ := q1
    rw [ev] at e2; cases e2
    exact ⟨o, n3⟩
  obtain ⟨A3, h3, s3, r3⟩ := R.store' (s1.trans s2) r (q1.step s2) i
  have q2' : SlOk K H F2 H2 A3 u t := q2.later (v := v) (s := s) s1.dom fun b hb => by
    rcases h3 b hb with z | ⟨o, e, _, _, _, c, e2⟩
    · exact .inl z
    · obtain ⟨o', e3⟩ := k1 b ⟨c, e2⟩ e
      exact .inr ⟨o', e, e3⟩
  obtain ⟨A4, h4, s4, r4⟩ := R.store' s3 r3 q2' j
  refine ⟨A4, fun b hb => ?_, s4, r4⟩
  rcases h4 b hb with z | ⟨o, e, _, _, _, ec⟩
  · rcases h3 b z with y | ⟨o, e, _, _, _, c, e2⟩
    · exact .inl y
    · obtain ⟨o', e3⟩ := k1 b ⟨c, e2⟩ e
      exact .inr (.inl ⟨o', e, e3⟩)
  · exact .inr (.inr ⟨e, ec⟩)
theorem gs_par2 {i j : Nat} {xi xj : Str} {px py pt : Pos} {kt k2 : Nat} {pt2 : Pos} {mx my : MX} (hc : X.calm = true) (hN : X.N.Nodup) (ha : GX X W a mx) (hb : GX X W b my) (hij : i ≠ j := by decide) (hi : X.N[i]? = some xi := by rfl) (hj : X.N[j]? = some xj := by rfl)
    (hx : X.env.scope.names.lookup xi = some .local := by rfl) (hy : X.env.scope.names.lookup xj = some .local := by rfl) (hw : swappedStores [.Tuple [.Name xi px, .Name xj py] kt pt] (.Tuple [a, b] k2 pt2) X.env = pure (some [xi, xj]) := by rfl)
    (hs : swapsWithSole [.Tuple [.Name xi px, .Name xj py] kt pt] (.Tuple [a, b] k2 pt2) pos.line X.env = pure false := by rfl) (h1 : starEach [a, b] X.env = (false, eval a X.env) :: starEach [b] X.env := by rfl) (h2 : starEach [b] X.env = (false, eval b X.env) :: starEach [] X.env := by rfl) :
    GS X W (.Assign [.Tuple [.Name xi px, .Name xj py] kt pt] (.Tuple [a, b] k2 pt2) pos) (mPar2 i j mx my) :=
  ⟨ps_imp (ps_par hc hN hi hj hij hx hy (pa_cons ha.pe (pa_cons hb.pe pa_nil h2) h1) hw hs) fun D σ H h => by
  obtain ⟨F, A, ρ, PD, r, h, q⟩ := h
  refine ⟨F, A, ρ, _, PD.ex, r, h, fun s ρ1 v F1 H1 A1 k1 s1 r1 q1 => ?_, q.xc σ⟩
  refine ⟨F1, A1, ρ1, _, PD.ex, r1, k1, fun t ρ2 u F2 H2 A2 k2 s2 r2 q2 => ?_, (q.xc σ).step s1⟩
  obtain ⟨A3, _, s3, r3⟩ := pair_store s1 q1 s2 q2 r2 (i := i) (j := j)
  exact ⟨v, u, rfl, q.nx _ _ _ _ _ k2 s3 r3⟩⟩
theorem gs_par3 {i j l : Nat} {xi xj xl : Str} {c : Expr} {px py pz pt : Pos} {kt k2 : Nat} {pt2 : Pos} {mx my mz : MX} (hc : X.calm = true) (hN : X.N.Nodup) (ha : GX X W a mx) (hb : GX X W b my) (hcc : GX X W c mz) (hij : i ≠ j := by decide) (hil : i ≠ l := by decide) (hjl : j ≠ l := by decide) (hi : X.N[i]? = some xi := by rfl) (hj : X.N[j]? = some xj := by rfl) (hl : X.N[l]? = some xl := by rfl)
    (hx : X.env.scope.names.lookup xi = some .local := by rfl) (hy : X.env.scope.names.lookup xj = some .local := by rfl) (hz : X.env.scope.names.lookup xl = some .local := by rfl) (hw : swappedStores [.Tuple [.Name xi px, .Name xj py, .Name xl pz] kt pt] (.Tuple [a, b, c] k2 pt2) X.env = pure (some [xi, xj, xl]) := by rfl)
    (hs : swapsWithSole [.Tuple [.Name xi px, .Name xj py, .Name xl pz] kt pt] (.Tuple [a, b, c] k2 pt2) pos.line X.env = pure false := by rfl) (h1 : starEach [a, b, c] X.env = (false, eval a X.env) :: starEach [b, c] X.env := by rfl) (h2 : starEach [b, c] X.env = (false, eval b X.env) :: starEach [c] X.env := by rfl) (h3 : starEach [c] X.env = (false, eval c X.env) :: starEach [] X.env := by rfl) :
    GS X W (.Assign [.Tuple [.Name xi px, .Name xj py, .Name xl pz] kt pt] (.Tuple [a, b, c] k2 pt2) pos) (mPar3 i j l mx my mz) :=
  ⟨ps_imp (ps_par3 hc hN hi hj hl hij hil hjl hx hy hz (pa_cons ha.pe (pa_cons hb.pe (pa_cons hcc.pe pa_nil h3) h2) h1) hw hs) fun D σ H h => by
  obtain ⟨F, A, ρ, PD, r, h, q⟩ := h
  refine ⟨F, A, ρ, _, PD.ex, r, h, fun s ρ1 v F1 H1 A1 k1 s1 r1 q1 => ?_, q.xc σ⟩
  refine ⟨F1, A1, ρ1, _, PD.ex, r1, k1, fun t ρ2 u F2 H2 A2 k2 s2 r2 q2 => ?_, (q.xc σ).step s1⟩
  refine ⟨F2, A2, ρ2, _, PD.ex, r2, k2, fun t3 ρ3 u3 F3 H3 A3 k3 s3 r3 q3 => ?_, (q.xc σ).step (s1.trans s2)⟩
  -- the first two, then the third
  have q2' := q2.step s3
  obtain ⟨A4, h4, s4, r4⟩ := pair_store (s1) q1 (s2.trans s3) q2' r3 (i := i) (j := j)
  have q3' : SlOk X.K H F3 H3 A4 u3 t3 := by
    have d2 : ∀ b, H2 b = none → H b = none := fun b e => s1.dom _ (s2.dom _ e)
    cases t3 with
    | un => exact q3
    | fz d => exact q3
    | ow tt c =>
      cases tt with
      | some z => exact q3
      | none =>
        obtain ⟨p, o, rfl, n1, n2, n3, n4, n5⟩ := q3
        refine ⟨p, o, rfl, fun z => ?_, d2 _ n2, n3, n4, n5⟩
        rcases h4 p z with y | ⟨o, _, y⟩ | ⟨e, c', e2⟩
        · exact n1 y
        · rw [s2.dom _ n2] at y; cases y
        · subst e2
          obtain ⟨p', o', e3, _, _, n3', _⟩ := q2
          rw [e] at e3; cases e3
          rw [n2] at n3'; cases n3'
  obtain ⟨A5, s5, r5⟩ := R.store s4 r4 q3' l
  exact ⟨v, u, u3, rfl, q.nx _ _ _ _ _ k3 s5 r5⟩⟩
/-- insert -/
theorem md_ins {K : PySem.W.Frag} : MutD K (fun x vs H Q => ∃ (l : Addr) (xs : List V) (i : Int) (y : V), x = .ref l ∧ vs = [.int i, y] ∧ H l = some (.lst xs) ∧ xs.length < sizeLine ∧ 0 ≤ i ∧ i < 2 ^ 63 ∧
    Q .non (upd H l (.lst (xs.take i.toNat ++ [y] ++ xs.drop i.toNat)))) fIns := by
  intro F H p o c0 vs ds P s ho rc hn r h Q q
  unfold fIns at h
  split at h
  · cases rc with
    | lst rc =>
      cases r with
      | cons r t =>
        cases t with
        | cons r' t =>
          cases t
          obtain ⟨h1, h2, h3, h4⟩ := h
          rw [r.int_inv]
          have hs : sizeLine = 16777216 := sizeLine_eq
          have e63 : (2 : Int) ^ 63 = 9223372036854775808 := by decide
          refine ⟨p, _, _, _, rfl, rfl, ho, by rw [rc.length]; exact h1, h2, by omega, q _ _ _ _ h4 (.lst ?_) .non⟩
          rw [List.append_assoc]
          exact (rc.take _).append (.cons r' (rc.drop _))
  · exact h.elim

/-! ### texts: join; ints: bit_length -/
def StrD (K : PySem.W.Frag) (r : V → List V → Hp → VK → Prop) (f : Str → D → (D → Prop) → Prop) : Prop :=
  ∀ (F H : Hp) (a : Str) (v : V) (d : D) (P : D → Prop), Same F H → Rep K F v d → f a d P → ∀ Q : VK, (∀ z w F' H', P z → New F H F' H' → Rep K F' w z → Q w H') → r (.str a) [v] H Q
def mSm (f : Str → D → (D → Prop) → Prop) (ms ml : ME) (ρ : List S) (P : D → List S → Prop) (PX : XP) : Prop := ms ρ (fun d ρ1 => match d with
  | .str z => ml ρ1 (fun l ρ2 => f z l fun y => P y ρ2) PX
  | _ => False) PX
/-- text.m(e) -/
theorem ge_sm {o : Expr} {id : String} {name : Str} {apos : Pos} {ms : ME} {r : V → List V → Hp → VK → Prop} {f : Str → D → (D → Prop) → Prop} (slot : Slot "str" name id) (ty : typeOf (.builtin id) = pure (.type "method_descriptor")) (rule : MtR X id r) (hf : StrD X.K r f) (ho : GE X W o ms) (ha : GE X W e ma)
    (hs : starEach [e] X.env = [(false, eval e X.env)] := by rfl) (hbase : attributeBase o name X.env (eval o X.env) = eval o X.env := by rfl) (hline : (apos.endLine == pos.line) = true := by rfl) :
    GE X W (.Call (.Attribute o name apos) [e] [] pos) (mSm f ms ma) := ⟨pe_imp (pe_m1 slot ty rule ho.pe ha.pe hs hbase hline) fun σ H Q h => by
  obtain ⟨F, A, ρ, P, PX, r, hm, hP, hX⟩ := h
  refine ⟨F, A, ρ, _, PX, r, hm, fun d ρ1 v F1 H1 A1 k1 s1 r1 q1 => ?_, hX⟩
  cases d with
  | str z =>
    rw [q1.str_inv]
    refine ⟨⟨z, rfl⟩, F1, A1, ρ1, _, PX, r1, k1, fun l ρ2 u F2 H2 A2 k2 s2 r2 q2 => ?_, hX.step s1⟩
    exact hf F2 H2 z u l _ r2.same q2 k2 Q fun y w F3 H3 hy n w' => hP _ _ _ _ _ _ hy ((s1.trans s2).trans n.stp) (r2.new n) w'
  | _ => exact k1.elim⟩
def fJoin : Str → D → (D → Prop) → Prop := fun z d P => match d with
  | .lst ds => ∃ ys, strsOf ds = some ys ∧ (ys.map (·.length)).sum + ys.length * z.length ≤ 16777216 ∧ P (.str (Txt.join z ys))
  | _ => False
theorem sd_join {K : PySem.W.Frag} : StrD K (fun x xs H Q => ∃ a p, ∃ ys : List Str, x = .str a ∧ xs = [.ref p] ∧ (SqL K H p (ys.map V.str) ∨ SqT K H p (ys.map V.str)) ∧
    (ys.map (·.length)).sum + ys.length * a.length ≤ 16777216 ∧ Q (.str (Txt.join a ys)) H) fJoin := by
  intro F H a v d P s r h Q q
  unfold fJoin at h
  split at h
  · obtain ⟨ys, h1, h2, h3⟩ := h
    obtain ⟨p, vs, rfl, e, r2⟩ := r.lst_inv
    have := r2.strsOf h1
    subst this
    exact ⟨a, p, ys, rfl, rfl, .inl (.of (s _ _ e)), h2, q _ _ F H h3 (New.refl s) (.str _)⟩
  · exact h.elim
def mBits (m : ME) (ρ : List S) (P : D → List S → Prop) (PX : XP) : Prop := m ρ (fun d ρ1 => match d with | .int i => P (.int (Builtin.Int.intBits i : Nat)) ρ1 | _ => False) PX
theorem ge_bits {o : Expr} {apos : Pos} {mo : ME} (ho : GE X W o mo) (hbase : attributeBase o "bit_length" X.env (eval o X.env) = eval o X.env := by rfl) (hline : (apos.endLine == pos.line) = true := by rfl) : GE X W (.Call (.Attribute o "bit_length" apos) [] [] pos) (mBits mo) :=
  ⟨pe_imp (pe_bits ho.pe hbase hline) fun σ H Q h => by
  obtain ⟨F, A, ρ, P, PX, r, hm, hP, hX⟩ := h
  refine ⟨F, A, ρ, _, PX, r, hm, fun d ρ1 v F1 H1 A1 k1 s1 r1 q1 => ?_, hX⟩
  cases d with
  | int i => exact ⟨i, q1.int_inv, hP _ _ _ _ _ _ k1 s1 r1 (.int _)⟩
  | _ => exact k1.elim⟩
end
end G

/-! G: enumerate(text); further pieces -/
namespace G
open PySem PySem.Spec PyProof.Rows L2
def Ites (x : Str) : It := ⟨fun i _ => i < x.cps.size, fun i H v H' => ∃ T c, v = .ref T ∧ H T = none ∧ H' = upd H T (.tup [.int (i : Nat), .str ⟨#[c]⟩]) ∧ x.cps[i]? = some c, fun i _ => x.cps.size ≤ i⟩
theorem turn_enumS {P : Program} {w : World} {K : PySem.W.Frag} {elts : List Expr} {kk : Nat} {tpos : Pos} (x : Str) (t : Tok) (e it : Addr) :
    Turn P w K (.Tuple elts kk tpos) (Ites x) [e, it] e (fun i h => (∃ old, IsEnum h e it ((i : Nat) : Int) old) ∧ h.IsStrIter it (strIterType x) x t i ∧ e ≠ it ∧ i ≤ x.cps.size) where
  mem := by simp
  obj := fun i h st b hb => by
    obtain ⟨⟨old, he⟩, ⟨o, ho, hc, hd⟩, _, _⟩ := st
    have e' : b = e ∨ b = it := by simpa using hb
    rcases e' with z | z
    · rw [z]; exact ⟨_, he, fun v q => nomatch q⟩
    · rw [z]; exact ⟨o, ho, fun v q => by rw [hd] at q; cases q⟩
  keep := fun i h h' st k => let ⟨⟨old, he⟩, ⟨o, ho, r⟩, hne, hl⟩ := st; ⟨⟨old, k e (by simp) _ he⟩, ⟨o, k it (by simp) o ho, r⟩, hne, hl⟩
  item := by
    intro X hP hw hK hc i pins s σ H E I hf st hg
    subst hP hw hK
    obtain ⟨⟨old, he⟩, hit, hne, hle⟩ := st
    have D : Draws X.prog X.w X.A.in1 it [it] x.cps.size (fun i v => ∃ c u, x.cps[i]? = some c ∧ v = .str ⟨#[c]⟩ u) (fun i h => h.IsStrIter it (strIterType x) x t i) := Draws.text (A := X.A.in1) (show X.A.handled = none from I.ok.hd hc) it x t
    have hel : e < s.heap.objs.size := Heap.lt_size he
    have hil : it < s.heap.objs.size := by obtain ⟨_, q, _⟩ := hit; exact Heap.lt_size q
    refine wpAny_pyNext_enum_itemD D he hit hg hne (by simpa using hne) fun u h' tk hu ho hit' hT hsz hk => ?_
    obtain ⟨c, uu, hcx, rfl⟩ := hu
    refine ⟨_, rfl, wpAny_letOwnedTupleGo_enum (s := { s with heap := h', toks := tk + 1 }) ho fun h'' he' sb => ?_⟩
    have hT2 : h''.get? s.heap.objs.size = some { cls := .type "tuple", data := .seq #[.int i tk, .str ⟨#[c]⟩ uu] } := (sb.2 _ (Nat.ne_of_gt hel)).trans hT
    have new : ObjOk X.prog X.w (upd H s.heap.objs.size (.tup [.int (i : Nat), .str ⟨#[c]⟩])) h'' s.heap.objs.size (.tup [.int (i : Nat), .str ⟨#[c]⟩]) :=
      ⟨by show 2 ≤ sizeLine; decide, [.int i tk, .str ⟨#[c]⟩ uu], .cons ⟨_, rfl⟩ (.cons ⟨_, rfl⟩ .nil), ⟨_, hT2, rfl, _, rfl⟩⟩
    have I1 : Inv X pins σ (upd H s.heap.objs.size (.tup [.int (i : Nat), .str ⟨#[c]⟩])) { s with heap := h'', toks := tk + 1 } :=
      I.turnedNew (ch := [e, it]) (fun b ob hb q => (sb.2 b (fun z => hb (by simp [z]))).trans (hk b ob (fun z => hb (by simp [z])) (fun z => hb (by simp [z])) q)) hf (Nat.le_refl _) new
    refine ⟨.ref s.heap.objs.size, _, I1, rfl, ⟨_, c, rfl, I.hok.fresh (Nat.le_refl _), rfl, hcx⟩, ⟨⟨.str ⟨#[c]⟩ uu, ?_⟩, ?_, hne, hg⟩, fun b hb => ?_⟩
    · have e1 : ((i + 1 : Nat) : Int) = (i : Int) + 1 := by omega
      rw [e1]; exact he'
    · obtain ⟨o, q1, q2⟩ := hit'
      exact ⟨o, (sb.2 it (Ne.symm hne)).trans q1, q2⟩
    · have hb' : b < s.heap.objs.size := by
        have e' : b = e ∨ b = it := by simpa using hb
        rcases e' with z | z
        · rw [z]; exact hel
        · rw [z]; exact hil
      rw [upd_ne (Nat.ne_of_lt hb')]
      exact (hf b hb).1
  done := by
    intro X hP hw hK hc i pins s σ H E I hf st hg
    subst hP hw hK
    obtain ⟨⟨old, he⟩, hit, hne, hle⟩ := st
    obtain ⟨f0, f1, f2, f3, f4, f5⟩ := hf it (by simp)
    have D : Draws X.prog X.w X.A.in1 it [it] x.cps.size (fun i v => ∃ c u, x.cps[i]? = some c ∧ v = .str ⟨#[c]⟩ u) (fun i h => h.IsStrIter it (strIterType x) x t i) := Draws.text (A := X.A.in1) (show X.A.handled = none from I.ok.hd hc) it x t
    have e : i = x.cps.size := Nat.le_antisymm hle hg
    subst e
    exact wpAny_pyNext_enum_endD D he hit fun h' eb => ⟨rfl, I.turned (t' := s.toks) (it := it) (fun b o hb q => eb b o hb q) (hf it (by simp)).1 (hf it (by simp)).2.1 (hf it (by simp)).2.2.2.1 (hf it (by simp)).2.2.2.2.1 (hf it (by simp)).2.2.2.2.2⟩
  self := fun A i s Q E st h => let ⟨⟨_, he⟩, _⟩ := st; wpAny_pyIter_enum he h
def iEnumS (ta : TA) : TI := fun σ H R => ta σ H fun vs H1 => ∃ x, vs = [.str x] ∧ R (Ites x) H1
theorem pi_enumS {X : Cx} {e : Expr} {ta : TA} {p pos tpos : Pos} {elts : List Expr} {kk : Nat} (hg : Gl X "enumerate") (hm : X.mg "enumerate" = none) (ha : PA X [e] ta) (hs : starEach [e] X.env = [(false, eval e X.env)] := by rfl) :
    PI X (.Tuple elts kk tpos) (.Call (.Name "enumerate" p) [e] [] pos) (iEnumS ta) := by
  refine ⟨fun pins s σ H R I h => ?_⟩
  refine Call_ (ld_blt I hg hm boot_enumerate (PyProof.Rows.callWith_type1 (thn (ha.run pos pins s σ H _ I h) fun us s1 ⟨vs, H1, I1, r1, q1⟩ => ?_) hs rfl))
  obtain ⟨x, ex, q⟩ := q1
  subst ex
  cases r1 with
  | cons r rr =>
    cases rr
    obtain ⟨t, rfl⟩ := r
    refine call_enumerate_str fun h' he hit hsz hk => wpAny_pyIter_enum he ?_
    have I2 : Inv X pins σ H1 { s1 with heap := h' } := I1.kept (t' := s1.toks) hk
    refine ⟨s1.heap.objs.size + 1, [s1.heap.objs.size + 1, s1.heap.objs.size], _, _, H1, rfl, I2, turn_enumS x t (s1.heap.objs.size + 1) s1.heap.objs.size, ⟨⟨.none, he⟩, hit, Nat.succ_ne_self _, Nat.zero_le _⟩, fun b hb => ?_, q⟩
    have e' : b = s1.heap.objs.size + 1 ∨ b = s1.heap.objs.size := by simpa using hb
    have hle : s1.heap.objs.size ≤ b := by
      rcases e' with z | z
      · rw [z]; exact Nat.le_add_right _ _
      · rw [z]; exact Nat.le_refl _
    exact I1.fpOk hle (I1.hok.fresh hle)
theorem isIt_enumS {K : PySem.W.Frag} {F : Hp} (z : Str) : IsIt K F (Ites z) (enumD (signs z)) := by
  intro i F2 H s1 s2
  have hl0 : (signs z).length = z.cps.size := by simp [signs]
  have hl : (enumD (signs z)).length = z.cps.size := by rw [← hl0]; simp [enumD]
  refine ⟨fun h => ⟨(show i < z.cps.size by rw [← hl]; exact h), fun x H' y => ?_⟩, fun h => (show z.cps.size ≤ i by rw [hl] at h; exact h)⟩
  obtain ⟨T, c, rfl, hT, rfl, hc⟩ := y
  have hi : i < z.cps.size := by rw [← hl]; exact h
  have e1 : z.cps[i] = c := by
    rw [Array.getElem?_eq_getElem hi] at hc
    exact Option.some.inj hc
  have e : (enumD (signs z))[i] = D.tup [.int (i : Nat), .str ⟨#[c]⟩] := by
    have h1 : i < (signs z).length := by rw [hl0]; exact hi
    have h2 : (signs z).getD i .non = D.str ⟨#[c]⟩ := by
      rw [List.getD_eq_getElem?_getD, List.getElem?_eq_getElem h1]
      simp [signs, e1]
    simp only [enumD, List.getElem_map, List.getElem_range, h2]
  rw [e]
  exact ⟨_, New.mk1 _ s2 hT, .tup upd_same (.cons (.int _) (.cons (.str _) .nil))⟩
section
variable {X : Cx} {W : WX} {e a b : Expr} {es elts : List Expr} {x : Str} {p p2 pos tpos : Pos} {kk : Nat} {ma mb : ME} {mas : MA} {st : Stmt} {ms : MS}
def iEnS (m : MA) (ρ : List S) (P : List D → List S → Prop) (PX : XP) : Prop := m ρ (fun ds ρ1 => match ds with | [.str z] => P (enumD (signs z)) ρ1 | _ => False) PX
theorem gi_enumS (hm : X.mg "enumerate" = none) (ha : GA X W [e] mas) (hg : Gl X "enumerate" := by rfl) (hs : starEach [e] X.env = [(false, eval e X.env)] := by rfl) : GI X W (.Tuple elts kk tpos) (.Call (.Name "enumerate" p) [e] [] pos) (iEnS mas) := ⟨⟨fun pins s σ H Q I h => by
  obtain ⟨F, A, ρ, P, PX, r, hm', hP, hX⟩ := h
  refine (pi_enumS hg hm (ha.pa) hs).run pins s σ H Q I ⟨F, A, ρ, _, PX, r, hm', fun ds ρ' vs F' H' A' h1 s1 r1 q1 => ?_, hX⟩
  split at h1
  · cases q1 with
    | cons q1 q2 =>
      cases q2
      rw [q1.str_inv]
      exact ⟨_, rfl, hP _ _ _ _ _ _ h1 s1 r1 (isIt_enumS _)⟩
  · exact h1.elim⟩⟩
/-- a statement that is not come to -/
def mNever (PD : PEnds) (ρ : List S) : Prop := False
theorem gs_never : GS X W st mNever := ⟨ps_imp ps_never fun D σ H ⟨F, A, ρ, PD, r, h, q⟩ => h⟩
/-- behind a statement an own list stays -/
def mFzS (i : Nat) (PD : PEnds) (ρ : List S) : Prop := match ρ[i]? with
  | some (.ow none (.lst ds)) => PD.nx (ρ.set i (.fz (.lst ds)))
  | _ => False
theorem gs_fz {i : Nat} (h : GS X W st ms) : GS X W st (mSeq ms (mFzS i)) := ⟨ps_imp h.ps fun D σ H h => by
  obtain ⟨F, A, ρ, PD, r, h, q⟩ := h
  refine ⟨F, A, ρ, _, r, h, ⟨fun ρ' σ' F' H' A' h1 s1 r1 => ?_, q.rt, q.bk, q.ct, q.ex⟩⟩
  have h1 : mFzS i PD ρ' := h1.go
  unfold mFzS at h1
  split at h1
  · rename_i ds e
    obtain ⟨p, F2, A2, _, _, s2, r2⟩ := r1.freeze e
    exact q.nx _ _ _ _ _ h1 (s1.trans s2) r2
  · exact h1.elim⟩
/-- += on ints, on texts -/
def fAddI : D → D → (D → Prop) → Prop
  | .int i, .int j, P => P (.int (i + j))
  | .str x, .str y, P => x.length + y.length ≤ sizeLine ∧ P (.str (x ++ y))
  | _, _, _ => False
theorem od_addI {K : PySem.W.Frag} : OpD K (fun x y H Q => (∃ i j, x = .int i ∧ y = .int j ∧ Q (.int (i + j)) H) ∨ (∃ i j, x = .str i ∧ y = .str j ∧ i.length + j.length ≤ sizeLine ∧ Q (.str (i ++ j)) H)) fAddI := by
  intro F H v u d e P s rv ru h Q q
  cases d <;> cases e <;> first | exact h.elim | skip
  · exact .inl ⟨_, _, rv.int_inv, ru.int_inv, q _ _ F H h (New.refl s) (.int _)⟩
  · exact .inr ⟨_, _, rv.str_inv, ru.str_inv, h.1, q _ _ F H h.2 (New.refl s) (.str _)⟩
def mMt (f : C → List D → (D → C → Prop) → Prop) (i : Nat) (m : MA) (ρ : List S) (P : D → List S → Prop) (PX : XP) : Prop := match ρ[i]? with | some (.ow _ (.lst _)) => mMut f i m ρ P PX | _ => False
/-- a constant of the module -/
theorem ge_globI {i : Int} {t : Tok} (hm : X.mg x = some (.int i t)) (hg : Gl X x := by rfl) (hd : (x == ("__debug__" : Str)) = false := by decide) : GE X W (.Name x pos) (mC (.int i)) :=
  ⟨pe_imp (pe_glob (v := .int i) hg hm ⟨t, rfl⟩ hd) fun σ H Q ⟨F, A, ρ, P, PX, r, hm, hP, _⟩ => hP _ _ _ _ _ _ hm Stp.refl r (.int i)⟩
theorem ge_globS {z : Str} {t : Tok} (hm : X.mg x = some (.str z t)) (hg : Gl X x := by rfl) (hd : (x == ("__debug__" : Str)) = false := by decide) : GE X W (.Name x pos) (mC (.str z)) :=
  ⟨pe_imp (pe_glob (v := .str z) hg hm ⟨t, rfl⟩ hd) fun σ H Q ⟨F, A, ρ, P, PX, r, hm, hP, _⟩ => hP _ _ _ _ _ _ hm Stp.refl r (.str z)⟩
/-- [..] * n, a new list of one's own -/
def mRep (ma mb : ME) (ρ : List S) (P : C → List S → Prop) (PX : XP) : Prop := ma ρ (fun d ρ1 => mb ρ1 (fun e ρ2 => match d, e with
  | .lst l, .int n => n < 2 ^ 63 ∧ -(2 ^ 63) ≤ n ∧ l.length * n.toNat ≤ sizeLine ∧ P (.lst (List.replicate n.toNat l).flatten) ρ2
  | _, _ => False) PX) PX
theorem go_rep (ha : GE X W a ma) (hb : GE X W b mb) : GO X W (.BinOp a .Mult b pos) (mRep ma mb) := ⟨pe_imp (pe_op op_rep ha.pe hb.pe) fun σ H Q h => by
  obtain ⟨F, A, ρ, P, PX, r0, hm, hP, hX⟩ := h
  refine ⟨F, A, ρ, _, PX, r0, hm, fun d ρ1 v F1 H1 A1 h1 s1 r1 q1 => ?_, hX⟩
  refine ⟨F1, A1, ρ1, _, PX, r1, h1, fun e ρ2 u F2 H2 A2 h2 s2 r2 q2 => ?_, hX.step s1⟩
  split at h2
  · obtain ⟨a, vs, rfl, e1, r3⟩ := (q1.mono s2.ext).lst_inv
    refine ⟨a, _, vs, rfl, q2.int_inv, r2.same _ _ e1, h2.2.1, h2.1, by rw [r3.length]; exact h2.2.2.1, fun p hp => ?_⟩
    obtain ⟨s3, r4, n1, n2, n3⟩ := own_new (.lst (List.replicate _ vs).flatten) (s1.trans s2) r2 hp
    exact hP _ ρ2 p _ _ _ A2 h2.2.2.2 s3 r4 n1 n3 upd_same (.lst (r3.rep _)) n2
  · exact h2.elim⟩
end
end G

/-! an own list compared: it stays one's own -/
namespace G
open PySem PySem.Spec PyProof.Rows L2
def OwnCmp (K : PySem.W.Frag) (r : R2) (f : D → D → (D → Prop) → Prop) : Prop :=
  ∀ (F H : Hp) (p : Addr) (vs : List V) (ds : List D) (u : V) (e : D) (P : D → Prop), Same F H → H p = some (.lst vs) → Reps K F vs ds → Rep K F u e → f (.lst ds) e P → ∀ Q : VK, (∀ b, P (.bl b) → Q (.bl b) H) → r (.ref p) u H Q
theorem oc_eq {K : PySem.W.Frag} : OwnCmp K (rEqA K) fEq := by
  intro F H p vs ds u e P s hp rv ru h Q q
  have h : shp (.lst ds) = true ∧ shp e = true ∧ P (.bl (deq (.lst ds) e)) := by cases e <;> exact h
  exact .inr ⟨toP (.lst ds), toP e, .lst (.of hp) (rv.dp s ds _), ru.dp s e _, h.1, h.2.1, q _ h.2.2⟩
theorem oc_ne {K : PySem.W.Frag} : OwnCmp K (rNeA K) fNe := by
  intro F H p vs ds u e P s hp rv ru h Q q
  have h : shp (.lst ds) = true ∧ shp e = true ∧ P (.bl (!deq (.lst ds) e)) := by cases e <;> exact h
  exact .inr ⟨toP (.lst ds), toP e, .lst (.of hp) (rv.dp s ds _), ru.dp s e _, h.1, h.2.1, q _ h.2.2⟩
section
variable {X : Cx} {W : WX} {b : Expr} {x : Str} {p2 pos : Pos} {mb : ME} {op : CmpOp} {r : R2} {f : D → D → (D → Prop) → Prop}
def mCmpV (f : D → D → (D → Prop) → Prop) (i : Nat) (mb : ME) (ρ : List S) (P : D → List S → Prop) (PX : XP) : Prop := match ρ[i]? with
  | some (.ow _ _) => mb ρ (fun e ρ1 => match ρ1[i]? with
    | some (.ow _ (.lst ds)) => f (.lst ds) e fun z => match z with
      | .bl b => P (.bl b) ρ1
      | _ => False
    | _ => False) PX
  | _ => False
theorem lift_cmpV {i : Nat} {σ : L2.St} {H : Hp} {Q : VK} (hf : OwnCmp X.K r f) (h : lift X.K W (mCmpV f i mb) σ H Q) : tOp r (tVar i) (lift X.K W mb) σ H Q := by
  obtain ⟨F, A, ρ, P, PX, r0, hm, hP, hX⟩ := h
  unfold mCmpV at hm
  split at hm
  · rename_i t c h
    obtain ⟨p, o, h1, _⟩ := r0.rs.getO h
    refine ⟨_, h1, F, A, ρ, _, PX, r0, hm, fun e ρ1 u F1 H1 A1 h2 s1 r1 q1 => ?_, hX⟩
    split at h2
    · rename_i t ds h'
      obtain ⟨p', o', e1, h3, h4, h5, h6⟩ := slot_keeps r1 h1 h'
      cases e1
      cases h5 with
      | lst h5 => exact hf F1 H1 p _ ds u e _ r1.same h4 h5 q1 h2 _ fun b hb => hP _ _ _ _ _ _ hb s1 r1 (.bl b)
    · exact h2.elim
  · exact hm.elim
theorem ge_cmpV {i : Nat} (ho : OpR X (compareOp op) r) (hf : OwnCmp X.K r f) (hb : GE X W b mb) (hN : X.N[i]? = some x := by rfl) (hv : Vis X.env.scope x := by first | exact Or.inl rfl | exact Or.inr (Or.inl rfl) | exact Or.inr (Or.inr rfl)) (hd : (x == ("__debug__" : Str)) = false := by decide)
    (hcd : (x == ("__classdict__" : Str)) = false := by decide) (h1 : behindInMarks op b = false := by first | exact nobehind _ (by decide) (by decide) | rfl) :
    GE X W (.Compare (.Name x p2) [op] [b] pos) (mCmpV f i mb) := ⟨pe_imp (pe_cmpR ho (pe_var hN hv hd hcd) hb.pe h1) fun _ _ _ h => lift_cmpV hf h⟩
theorem gt_cmpV {i : Nat} (ho : OpR X (compareOp op) r) (hf : OwnCmp X.K r f) (hb : GE X W b mb) (hN : X.N[i]? = some x := by rfl) (hv : Vis X.env.scope x := by first | exact Or.inl rfl | exact Or.inr (Or.inl rfl) | exact Or.inr (Or.inr rfl)) (hd : (x == ("__debug__" : Str)) = false := by decide)
    (hcd : (x == ("__classdict__" : Str)) = false := by decide) (h1 : behindInMarks op b = false := by first | exact nobehind _ (by decide) (by decide) | rfl) :
    GT X W (.Compare (.Name x p2) [op] [b] pos) (mTst (mCmpV f i mb)) := ⟨pt_imp (pt_cmpR ho (pe_var hN hv hd hcd) hb.pe h1) fun σ H Q h => by
  have z := liftT_tst h
  exact lift_cmpV hf z⟩
end
end G

/-! the end of a law row -/
namespace G
open PySem PySem.Spec PyProof.Rows L2
/-- where a def stands -/
structure DefAt (K : PySem.W.Frag) (mg : Str → Option Value) (x : Str) (st : Stmt) : Prop where
  ex : ∃ f fd, Fun K x x st f fd ∧ mg x = some (.ref f)
theorem def_mk {K : PySem.W.Frag} {h : Heap} {mg : Str → Option Value} {x : Str} {st : Stmt} {f : Addr} {oc : Value} {od an : Option Addr} {osl : Array (Option Value)} {kV doc pm cdv ct : Value} (X : K.In h) (G : h.Ns mainGlobals mg)
    (a : PySem.W.nsIn K mainGlobals x = some (some (.ref f))) (l : K.lookup f = some ⟨oc, od, .func (PySem.W.fnOf x x (defArgs st) (defBody st) (defScope st) .none kV doc pm an cdv ct), osl⟩) (c : PySem.W.codeIn K cdv x = true) (k : PySem.W.keepIn K (.ref f) = true) : DefAt K mg x st :=
  ⟨f, _, fun_mk l c k, PySem.W.mg_of X G a⟩
abbrev DefIn {K : PySem.W.Frag} {h : Heap} (_ : K.In h) (mg : Str → Option Value) (x : Str) (st : Stmt) : Prop := DefAt K mg x st
/-- what the law's def promises, at a script -/
theorem law_holds {K : PySem.W.Frag} {c : CtP} (h : ∀ (ns : List Int) (P : Rv → Prop) (PX : Ex → Prop), ns.length ≤ 63 → P (.fz (.bl true)) → c [.scr ns] P PX) (H : Hp) (a : Addr) (ns : List Int) (hl : ns.length ≤ 63) (hS : SqL K H a (ns.map V.int)) :
    spP K c [.ref a] H (fun v _ => v = .bl true) fun _ _ _ => False :=
  ⟨H, [.scr ns], fun rv => rv = .fz (.bl true), fun _ => False, Same.refl _, .cons (.scr hS) .nil, h ns _ _ hl rfl, fun rv v F' H' e _ _ r => by
    subst e
    exact (show Rep K F' v (.bl true) from r).bl_inv, fun x F' H' cls dd z => z.elim⟩
theorem no_exc {p : Program} {w : World} {H : Hp} {s : Shared} {e : Value} {s' : Shared} (h : L2.CX p w [] H s (fun _ _ _ => False) e s') : False := by
  obtain ⟨_, _, _, _, _, _, _, _, _, _, _, _, z⟩ := h
  exact z
end G

/-! raise X('..'), try .. except X: -/
namespace G
open PySem PySem.Spec PyProof.Rows L2
/-- an own exception class, a child of ValueError, without own __init__ -/
structure ClsAt (K : PySem.W.Frag) (mg : Str → Option Value) (x : Str) (C : Addr) : Prop where
  e : PySem.W.excIn K C [.type "ValueError", .type "Exception", .type "BaseException", .type "object"] "ValueError.__new__" = true
  g : mg x = some (.ref C)
  k : PySem.W.keepIn K (.ref C) = true
  b : PySem.W.subIn K (.ref C) (.type "BaseException") = some true
  t : PySem.W.typeIn K (.ref C) = some (.type "type")
  i : PySem.W.isClsIn K C = true
theorem cls_mk {K : PySem.W.Frag} {h : Heap} {mg : Str → Option Value} {x : Str} {C : Addr} (X : K.In h) (G : h.Ns mainGlobals mg) (a : PySem.W.nsIn K mainGlobals x = some (some (.ref C)))
    (e : PySem.W.excIn K C [.type "ValueError", .type "Exception", .type "BaseException", .type "object"] "ValueError.__new__" = true) (k : PySem.W.keepIn K (.ref C) = true) (b : PySem.W.subIn K (.ref C) (.type "BaseException") = some true) (t : PySem.W.typeIn K (.ref C) = some (.type "type")) (i : PySem.W.isClsIn K C = true) : ClsAt K mg x C :=
  ⟨e, PySem.W.mg_of X G a, k, b, t, i⟩
abbrev ClsIn {K : PySem.W.Frag} {h : Heap} (_ : K.In h) (mg : Str → Option Value) (x : Str) (C : Addr) : Prop := ClsAt K mg x C
abbrev SubIn {K : PySem.W.Frag} {h : Heap} (_ : K.In h) (S C : Addr) (b : Bool) : Prop := PySem.W.subIn K (.ref S) (.ref C) = some b
theorem sub_mk {K : PySem.W.Frag} {h : Heap} {S C : Addr} {b : Bool} (X : K.In h) (q : PySem.W.subIn K (.ref S) (.ref C) = some b) : SubIn X S C b := q
/-- which of our exceptions a clause names -/
theorem exm_at {K : PySem.W.Frag} {mg : Str → Option Value} {x y : Str} {S C : Addr} {b : Bool} (h : ClsAt K mg x S) (h' : ClsAt K mg y C) (q : PySem.W.subIn K (.ref S) (.ref C) = some b) : PySem.W.exmOne K (.ref S) (.ref C) = some b := by
  have h1 : (PySem.W.subIn K (.ref C) (.type "BaseException") == some true) = true := by rw [h'.b]; rfl
  have h2 : (PySem.W.clsIn K C).isSome = true := h'.i
  unfold PySem.W.exmOne
  rw [if_pos h1]
  show (if ((PySem.W.clsIn K C).isSome && PySem.W.typeIn K (.ref C) == some (.type "type")) = true then PySem.W.subIn K (.ref S) (.ref C) else none) = some b
  rw [if_pos (by rw [h2, h'.t]; rfl)]
  exact q
/-- a clause that names one class, that is raised -/
def exPl (c : Addr) : Ex → Option Bool
  | .pl d => if d = c then some true else none
  | _ => none
theorem hm_one {K : PySem.W.Frag} {C : Addr} (h : PySem.W.exmOne K (.ref C) (.ref C) = some true) : ∀ y b, exPl C y = some b → ∀ H cls dd, ExR H y cls dd → PySem.W.exmOne K cls (.ref C) = some b := by
  intro y b e H cls dd r
  cases r with
  | pl c =>
    have e : (if c = C then some true else none) = some b := e
    by_cases z : c = C
    · rw [if_pos z] at e
      cases e
      rw [z]
      exact h
    · rw [if_neg z] at e
      cases e
  | fd _ => cases e
def exGo (o : Option Bool) (A B : Prop) : Prop := match o with
  | some true => A
  | some false => B
  | none => False
theorem exGo_self {c : Addr} {A B : Prop} (h : A) : exGo (exPl c (.pl c)) A B := by
  show exGo (if c = c then some true else none) A B
  rw [if_pos rfl]
  exact h
section
variable {X : Cx} {W : WX} {x m : Str} {j : Nat} {p p2 pos pos' np : Pos} {C : Addr}
def mRaise (C : Addr) (PD : PEnds) (ρ : List S) : Prop := PD.ex (.pl C) ρ
theorem gs_raise (T : ClsAt X.K X.mg x C) (hc : X.calm = true) (tk : Takes X W) (hg : Gl X x := by rfl) (hdb : (x == ("__debug__" : Str)) = false := by decide) :
    GS X W (.Raise (some (.Call (.Name x p) [.Constant (.str m) j p2] [] pos)) none pos') (mRaise C) :=
  ⟨ps_imp (ps_raise hc tk (pmk_own PySem.F.excBase_ValueError T.e T.g T.k (raises_own T.b T.t) hg hdb)) fun D σ H h => by
  obtain ⟨F, A, ρ, PD, r, h, q⟩ := h
  exact q.ex _ _ _ _ _ _ _ _ h Stp.refl r (.pl C)⟩
/-- what a clause says of an exception: ours, not ours -/
def mTry (f : Ex → Option Bool) (mb ms : MS) (PD : PEnds) (ρ : List S) : Prop := mb { PD with ex := fun x ρ' => exGo (f x) (Nxt ms PD ρ') (PD.ex x ρ') } ρ
theorem gs_try {body suite : List Stmt} {b₀ : Stmt} {mb ms : MS} {f : Ex → Option Bool} {c : Value} (hs : X.stack = X.env :: X.outer) (hf : X.env.frame = some X.env.locals) (hc : Names X x c) (tk : Takes X W)
    (hm : ∀ y b, f y = some b → ∀ H cls dd, ExR H y cls dd → PySem.W.exmOne X.K cls c = some b)
    (hb : ∀ (W' : WX) (pn : List (Addr × Obj)) (xe : Value → Shared → Prop), Takes (X.tr pn xe) W' → PassesOwn (model X.prog X.w) X.A X.env xe → GSs (X.tr pn xe) W' body mb)
    (hsu : ∀ (a : Addr) (pn : List (Addr × Obj)), GSs (X.suite a pn) W (b₀ :: suite) ms) :
    GS X W (.Try body [.ExceptHandler (some (.Name x np)) none (b₀ :: suite) pos'] [] [] pos) (mTry f mb ms) :=
  ⟨ps_imp (ps_try_only (tb := fun W' => liftS X.K W' mb) (ts := fun _ _ _ => liftS X.K W ms) hs hf hc tk (fun W' pn xe t1 p1 => (hb W' pn xe t1 p1).pss) (fun a oe cls d pn _ _ => (hsu a _).pss)) fun D σ H h => by
  obtain ⟨F, A, ρ, PD, r, h, q⟩ := h
  refine ⟨F, A, ρ, _, r, h, ⟨q.nx, q.rt, q.bk, q.ct, fun y ρ' σ' F' H' A' cls dd h1 s1 r1 e1 => ?_⟩⟩
  have h1 : exGo (f y) (Nxt ms PD ρ') (PD.ex y ρ') := h1
  cases ef : f y with
  | none => rw [ef] at h1; exact h1.elim
  | some b =>
    rw [ef] at h1
    refine ⟨b, hm y b ef _ _ _ e1, fun z => ?_, fun z => ?_⟩
    · subst z
      intro a _
      exact ⟨F', A', ρ', PD, r1, h1.go, q.step s1⟩
    · subst z
      exact q.ex _ _ _ _ _ _ _ _ h1 s1 r1 e1⟩
/-- four names at once -/
theorem gg_tup4 {i j l n : Nat} {e1 e2 e3 e4 : Expr} {k : Nat} (hc : X.calm = true) (h1 : GG X [i] e1 (gN i)) (h2 : GG X [j] e2 (gN j)) (h3 : GG X [l] e3 (gN l)) (h4 : GG X [n] e4 (gN n)) (hn : (assignEach [e1, e2, e3, e4] X.env).length = 4 := by rfl) (hst : (assignEach [e1, e2, e3, e4] X.env).findIdx? (·.1) = none := by rfl)
    (hs : (assignEach [e1, e2, e3, e4] X.env).map (·.2) = assign e1 X.env :: (assignEach [e2, e3, e4] X.env).map (·.2) := by rfl) (hs2 : (assignEach [e2, e3, e4] X.env).map (·.2) = assign e2 X.env :: (assignEach [e3, e4] X.env).map (·.2) := by rfl)
    (hs3 : (assignEach [e3, e4] X.env).map (·.2) = assign e3 X.env :: (assignEach [e4] X.env).map (·.2) := by rfl) (hs4 : (assignEach [e4] X.env).map (·.2) = assign e4 X.env :: (assignEach [] X.env).map (·.2) := by rfl) :
    GG X [i, j, l, n] (.Tuple [e1, e2, e3, e4] k pos) (gT (gCs (gN i) (gCs (gN j) (gCs (gN l) (gCs (gN n) gNl))))) :=
  gg_tup hc (ggs_cons h1 (ggs_cons h2 (ggs_cons h3 (ggs_cons h4 ggs_nil hs4) hs3) hs2) hs) rfl (gCs1_len (n := 3) (gCs1_len (n := 2) (gCs1_len (n := 1) (gCs1_len (n := 0) fun _ _ _ h => gNl_len h)))) hn hst
end
end G

/-! rows of bits as lists of truths -/
namespace G
open PySem PySem.Spec PyProof.Rows L2
def bc (b : Bool) : Nat := if b then 49 else 48
def bs (l : List Bool) : Str := ⟨(l.map bc).toArray⟩
theorem bs_cps (l : List Bool) : (bs l).cps.toList = l.map bc := by simp [bs]
theorem bs_len (l : List Bool) : (bs l).length = l.length := by simp [bs, Str.length]
theorem bs_app (a b : List Bool) : bs a ++ bs b = bs (a ++ b) := by
  show Str.mk ((bs a).cps ++ (bs b).cps) = bs (a ++ b)
  simp [bs]
theorem bc_inj {a b : Bool} (h : bc a = bc b) : a = b := by cases a <;> cases b <;> first | rfl | (exact absurd h (by decide))
theorem map_bc_inj : ∀ {a b : List Bool}, a.map bc = b.map bc → a = b
  | [], [], _ => rfl
  | [], _ :: _, h => by simp at h
  | _ :: _, [], h => by simp at h
  | x :: a, y :: b, h => by
    simp only [List.map_cons, List.cons.injEq] at h
    rw [bc_inj h.1, map_bc_inj h.2]
theorem bs_inj {a b : List Bool} (h : bs a = bs b) : a = b := map_bc_inj (by rw [← bs_cps, ← bs_cps, h])
theorem bs_eq {a b : List Bool} : (bs a = bs b) = (a = b) := propext ⟨bs_inj, fun h => by rw [h]⟩
def sb (b : Bool) : D := .str (bs [b])
theorem sb_cp (b : Bool) : D.str ⟨#[bc b]⟩ = sb b := rfl
theorem signs_bs (l : List Bool) : signs (bs l) = l.map sb := by
  unfold signs
  rw [bs_cps, List.map_map]
  rfl
theorem cutS_bs (l : List Bool) (lo hi : Option Int) : cutS (bs l) lo hi = bs (cutD l lo hi) := by
  unfold cutS cutD
  rw [bs_cps, bs_len, ← List.map_drop, ← List.map_take]
  rfl
/-- the bit's int -/
def bi (b : Bool) : Int := if b then 1 else 0
theorem int_bs (b : Bool) : PySem.intText? (bs [b]) = some (bi b) := by cases b <;> decide +kernel
theorem lit0 : ("0" : Str) = bs [false] := by decide +kernel
theorem lit1 : ("1" : Str) = bs [true] := by decide +kernel
theorem lit10 : ("10" : Str) = bs [true, false] := by decide +kernel
theorem lit01 : ("01" : Str) = bs [false, true] := by decide +kernel
theorem litE : ("" : Str) = bs [] := by decide +kernel
theorem repS_bs (b : Bool) (n : Int) : repS (bs [b]) n = bs (List.replicate n.toNat b) := by
  unfold repS
  rw [bs_cps]
  have : ∀ k, (List.replicate k ([b].map bc)).flatten = (List.replicate k b).map bc := fun k => by
    induction k with
    | zero => rfl
    | succ k ih => rw [List.replicate_succ, List.flatten_cons, ih, List.replicate_succ]; rfl
  rw [this]
  rfl
theorem join_bs (ls : List (List Bool)) : Txt.join (bs []) (ls.map bs) = bs ls.flatten := by
  have fold : ∀ (ls : List (List Bool)) (a : List Bool), (ls.map bs).foldl (fun acc p => acc ++ (bs []).cps ++ p.cps) (bs a).cps = (bs (a ++ ls.flatten)).cps := fun ls => by
    induction ls with
    | nil => intro a; simp
    | cons x r ih =>
      intro a
      rw [List.map_cons, List.foldl_cons]
      have e : (bs a).cps ++ (bs []).cps ++ (bs x).cps = (bs (a ++ x)).cps := by simp [bs]
      rw [e, ih, List.flatten_cons, List.append_assoc]
  cases ls with
  | nil => rfl
  | cons x r =>
    show Str.mk ((r.map bs).foldl (fun acc q => acc ++ (bs []).cps ++ q.cps) (bs x).cps) = _
    rw [fold, List.flatten_cons]
theorem cutD_to {α : Type} (l : List α) (n : Nat) : cutD l none (some (n : Int)) = l.take n := by
  unfold cutD
  rw [HT.sIx_none, HT.sIx_nat]
  simp only [List.drop_zero, Nat.sub_zero]
  rw [List.take_eq_take_iff]
  omega
theorem cutD_from {α : Type} (l : List α) (n : Nat) : cutD l (some (n : Int)) none = l.drop n := by
  unfold cutD
  rw [HT.sIx_none, HT.sIx_nat]
  rw [List.take_of_length_le (by rw [List.length_drop]; omega)]
  by_cases h : n ≤ l.length
  · rw [Nat.min_eq_left h]
  · rw [Nat.min_eq_right (by omega), List.drop_of_length_le (by omega), List.drop_of_length_le (by omega)]
theorem cutD_mid {α : Type} (l : List α) (n m : Nat) : cutD l (some (n : Int)) (some (m : Int)) = (l.drop n).take (m - n) := by
  unfold cutD
  rw [HT.sIx_nat, HT.sIx_nat]
  by_cases h : n ≤ l.length
  · rw [Nat.min_eq_left h]
    by_cases h2 : m ≤ l.length
    · rw [Nat.min_eq_left h2]
    · rw [Nat.min_eq_right (by omega), List.take_of_length_le (by rw [List.length_drop]; omega), List.take_of_length_le (by rw [List.length_drop]; omega)]
  · rw [Nat.min_eq_right (show l.length ≤ n by omega), List.drop_of_length_le (by omega), List.drop_of_length_le (by omega)]
    simp
/-- the last n signs -/
theorem cutD_last {α : Type} (l : List α) (n : Nat) (h0 : 0 < n) (h : n ≤ l.length) : cutD l (some (-(n : Int))) none = l.drop (l.length - n) := by
  unfold cutD
  rw [HT.sIx_none]
  have : HT.sIx l.length 0 (some (-(n : Int))) = l.length - n := by
    show (if -(n : Int) < 0 then (-(n : Int) + (l.length : Int)).toNat else min (-(n : Int)).toNat l.length) = _
    rw [if_pos (by omega)]
    omega
  rw [this, List.take_of_length_le (by rw [List.length_drop]; omega)]
/-- all but the last sign -/
theorem cutD_but {α : Type} (l : List α) (h : 0 < l.length) : cutD l none (some (-1)) = l.take (l.length - 1) := by
  unfold cutD
  rw [HT.sIx_none]
  have : HT.sIx l.length l.length (some (-1)) = l.length - 1 := by
    show (if (-1 : Int) < 0 then (-1 + (l.length : Int)).toNat else min (-1 : Int).toNat l.length) = _
    rw [if_pos (by omega)]
    omega
  rw [this]
  rfl
theorem atI_of {α : Type} {xs : List α} {i : Int} {k : Nat} {x : α} (e : i = (k : Int)) (h : xs[k]? = some x) : atI xs i = some x := by
  rw [e]
  exact atI_nat h
theorem atI_m1 {α : Type} {xs : List α} {x : α} : atI (xs ++ [x]) (-1) = some x := atI_last _ _
theorem sl_le {n : Nat} (h : n ≤ 1000000) : n ≤ sizeLine := Nat.le_trans h (by decide)
theorem sl_lt {n : Nat} (h : n ≤ 1000000) : n < sizeLine := Nat.lt_of_le_of_lt h (by decide)
theorem bs_sl {l : List Bool} (h : l.length ≤ 1000000) : (bs l).length ≤ sizeLine := by rw [bs_len]; exact sl_le h
/-! ### loops, in the forms one uses -/
theorem Wk.nil' : Wk [] [] := trivial
theorem Wk.un {a : S} {as bs : List S} (h : Wk as bs) : Wk (.un :: as) (a :: bs) := ⟨.inl rfl, h⟩
theorem Wk.eq {a : S} {as bs : List S} (h : Wk as bs) : Wk (a :: as) (a :: bs) := ⟨.inr rfl, h⟩
theorem Wk.eqv {a b : S} {as bs : List S} (h : Wk as bs) (e : a = b) : Wk (a :: as) (b :: bs) := ⟨.inr e, h⟩
theorem lp_of {E ρ : List S} (h : Wk E ρ) : lp (fun ρ => ρ = E) ρ := ⟨E, h, rfl⟩
section
variable {α : Type} {f : α → D} {xs : List α} {ds : List D} {g : MG} {mb : MS} {PD : PEnds} {ρ1 : List S}
theorem loop_map (e : ds = xs.map f) (I : Nat → List S → Prop) (h0 : lp (I 0) ρ1) (hs : ∀ k x ρ, xs[k]? = some x → I k ρ → g (f x) ρ (mb (PD.loop (lp (I (k + 1)))))) (hd : ∀ ρ, I xs.length ρ → PD.nx ρ) :
    ∃ I : Nat → List S → Prop, lp (I 0) ρ1 ∧ (∀ i (h : i < ds.length) ρ, I i ρ → g ds[i] ρ (mb (PD.loop (lp (I (i + 1)))))) ∧ ∀ ρ, I ds.length ρ → PD.nx ρ := by
  subst e
  refine ⟨I, h0, fun i h ρ hI => ?_, fun ρ hI => hd ρ (by rwa [List.length_map] at hI)⟩
  have hl : i < xs.length := by rwa [List.length_map] at h
  rw [List.getElem_map]
  exact hs i _ ρ (List.getElem?_eq_getElem hl) hI
theorem loop_env (e : ds = xs.map f) (E : Nat → List S) (h0 : Wk (E 0) ρ1) (hs : ∀ k x, xs[k]? = some x → g (f x) (E k) (mb (PD.loop (lp (fun ρ => ρ = E (k + 1)))))) (hd : PD.nx (E xs.length)) :
    ∃ I : Nat → List S → Prop, lp (I 0) ρ1 ∧ (∀ i (h : i < ds.length) ρ, I i ρ → g ds[i] ρ (mb (PD.loop (lp (I (i + 1)))))) ∧ ∀ ρ, I ds.length ρ → PD.nx ρ :=
  loop_map e (fun k ρ => ρ = E k) (lp_of h0) (fun k x ρ hx hI => by subst hI; exact hs k x hx) (fun ρ hI => by subst hI; exact hd)
end
theorem range_map (n : Nat) (lo c : Int) : rngD lo c n = (List.range n).map fun i => D.int (lo + (i : Nat) * c) := rfl
theorem range_get {n k x : Nat} (h : (List.range n)[k]? = some x) : x = k ∧ k < n := by
  obtain ⟨h1, h2⟩ := List.getElem?_eq_some_iff.mp h
  rw [List.length_range] at h1
  rw [List.getElem_range] at h2
  exact ⟨h2.symm, h1⟩
/-- a comprehension: what is made and what is known behind each turn -/
theorem lc_env {α : Type} {f : α → D} {xs : List α} {ds : List D} {g : MG} {mt : MT} {me : ME} {vs : List Nat} {ρ1 : List S} {P : C → List S → Prop} (e : ds = xs.map f) (Acc : Nat → List D) (E : Nat → List S) (h0 : Acc 0 = [] ∧ ρ1 = E 0)
    (hs : ∀ k x, xs[k]? = some x → g (f x) (wipeS (E k) vs) (fun ρ2 => mt ρ2 (fun b ρ3 => (b = true → me ρ3 (fun d ρ4 => (Acc k).length < sizeLine ∧ (Acc k ++ [d] = Acc (k + 1) ∧ wipeS ρ4 vs = E (k + 1))) noX) ∧ (b = false → Acc k = Acc (k + 1) ∧ wipeS ρ3 vs = E (k + 1))) noX))
    (hd : P (.lst (Acc xs.length)) (E xs.length)) :
    ∃ I : Nat → List D → List S → Prop, I 0 [] ρ1 ∧ (∀ i (h : i < ds.length) acc ρ, I i acc ρ → g ds[i] (wipeS ρ vs) (fun ρ2 => mt ρ2 (fun b ρ3 => (b = true → me ρ3 (fun d ρ4 => acc.length < sizeLine ∧ I (i + 1) (acc ++ [d]) (wipeS ρ4 vs)) noX) ∧ (b = false → I (i + 1) acc (wipeS ρ3 vs))) noX)) ∧
      ∀ acc ρ, I ds.length acc ρ → P (.lst acc) ρ := by
  subst e
  refine ⟨fun k acc ρ => acc = Acc k ∧ ρ = E k, ⟨h0.1.symm, h0.2⟩, fun i h acc ρ hI => ?_, fun acc ρ hI => ?_⟩
  · obtain ⟨rfl, rfl⟩ := hI
    have hl : i < xs.length := by rwa [List.length_map] at h
    rw [List.getElem_map]
    exact hs i _ (List.getElem?_eq_getElem hl)
  · obtain ⟨rfl, rfl⟩ := hI
    rw [List.length_map]
    exact hd
theorem lc_run {α : Type} {f : α → D} {xs : List α} {ds : List D} {mi : MI} {g : MG} {mt : MT} {me : ME} {vs : List Nat} {ρ0 ρ1 : List S} {P : C → List S → Prop} {PX : XP} (hi : ∀ Q : List D → List S → Prop, Q ds ρ1 → mi ρ0 Q PX) (e : ds = xs.map f) (Acc : Nat → List D) (E : Nat → List S) (h0 : Acc 0 = [] ∧ ρ1 = E 0)
    (hs : ∀ k x, xs[k]? = some x → g (f x) (wipeS (E k) vs) (fun ρ2 => mt ρ2 (fun b ρ3 => (b = true → me ρ3 (fun d ρ4 => (Acc k).length < sizeLine ∧ (Acc k ++ [d] = Acc (k + 1) ∧ wipeS ρ4 vs = E (k + 1))) noX) ∧ (b = false → Acc k = Acc (k + 1) ∧ wipeS ρ3 vs = E (k + 1))) noX))
    (hd : P (.lst (Acc xs.length)) (E xs.length)) : mLc mi g mt me vs ρ0 P PX := hi _ (lc_env e Acc E h0 hs hd)
theorem for_run {α : Type} {f : α → D} {xs : List α} {ds : List D} {mi : MI} {g : MG} {mb : MS} {ρ0 ρ1 : List S} {PD : PEnds} (hi : ∀ Q : List D → List S → Prop, Q ds ρ1 → mi ρ0 Q PD.ex) (e : ds = xs.map f) (E : Nat → List S) (h0 : Wk (E 0) ρ1)
    (hs : ∀ k x, xs[k]? = some x → g (f x) (E k) (mb (PD.loop (lp (fun ρ => ρ = E (k + 1)))))) (hd : PD.nx (E xs.length)) : mFor mi g mb PD ρ0 := hi _ (loop_env e E h0 hs hd)
/-- .. with any invariant -/
theorem for_inv {α : Type} {f : α → D} {xs : List α} {ds : List D} {mi : MI} {g : MG} {mb : MS} {ρ0 ρ1 : List S} {PD : PEnds} (hi : ∀ Q : List D → List S → Prop, Q ds ρ1 → mi ρ0 Q PD.ex) (e : ds = xs.map f) (I : Nat → List S → Prop) (h0 : lp (I 0) ρ1)
    (hs : ∀ k x ρ, xs[k]? = some x → I k ρ → g (f x) ρ (mb (PD.loop (lp (I (k + 1)))))) (hd : ∀ ρ, I xs.length ρ → PD.nx ρ) : mFor mi g mb PD ρ0 := hi _ (loop_map e I h0 hs hd)
/-- a comprehension with any invariant -/
theorem lc_inv {α : Type} {f : α → D} {xs : List α} {ds : List D} {mi : MI} {g : MG} {mt : MT} {me : ME} {vs : List Nat} {ρ0 ρ1 : List S} {P : C → List S → Prop} {PX : XP} (hi : ∀ Q : List D → List S → Prop, Q ds ρ1 → mi ρ0 Q PX) (e : ds = xs.map f) (I : Nat → List D → List S → Prop) (h0 : I 0 [] ρ1)
    (hs : ∀ k x acc ρ, xs[k]? = some x → I k acc ρ → g (f x) (wipeS ρ vs) (fun ρ2 => mt ρ2 (fun b ρ3 => (b = true → me ρ3 (fun d ρ4 => acc.length < sizeLine ∧ I (k + 1) (acc ++ [d]) (wipeS ρ4 vs)) noX) ∧ (b = false → I (k + 1) acc (wipeS ρ3 vs))) noX))
    (hd : ∀ acc ρ, I xs.length acc ρ → P (.lst acc) ρ) : mLc mi g mt me vs ρ0 P PX := hi _ (by
  subst e
  refine ⟨I, h0, fun i h acc ρ hI => ?_, fun acc ρ hI => ?_⟩
  · have hl : i < xs.length := by rwa [List.length_map] at h
    rw [List.getElem_map]
    exact hs i _ acc ρ (List.getElem?_eq_getElem hl) hI
  · rw [List.length_map] at hI
    exact hd acc ρ hI)
theorem fLen_scr {ns : List Int} {P : D → Prop} (h : P (.int (ns.length : Nat))) : fLen [.scr ns] P := h
theorem fLen_lst {ns : List D} {P : D → Prop} (h : P (.int (ns.length : Nat))) : fLen [.lst ns] P := h
theorem fIsNot_non {P : D → Prop} (h : P (.bl false)) : fIsNot .non .non P := h
theorem fIsNot_str {x : Str} {P : D → Prop} (h : P (.bl true)) : fIsNot (.str x) .non P := h
theorem fMin_two {i j : Int} {P : D → Prop} (h : P (.int (if j < i then j else i))) : fMin [.int i, .int j] P := h
theorem fIx_at {ds : List D} {i : Int} {d : D} {P : D → Prop} (h : atI ds i = some d) (hp : P d) : fIx (.lst ds) (.int i) P := ⟨d, h, hp⟩
theorem fInt_bl {b : Bool} {P : D → Prop} (h : P (.int (if b then 1 else 0))) : fInt [.bl b] P := h
theorem fIx_two {x y : D} {r : Nat} {P : D → Prop} (hr : r < 2) (h : ∀ v, v = x ∨ v = y → P v) : fIx (.lst [x, y]) (.int (r : Nat)) P := by
  rcases (by omega : r = 0 ∨ r = 1) with rfl | rfl
  · exact ⟨x, rfl, h _ (.inl rfl)⟩
  · exact ⟨y, rfl, h _ (.inr rfl)⟩
theorem fIx_three {x y z : D} {r : Nat} {P : D → Prop} (hr : r < 3) (h : ∀ v, v = x ∨ v = y ∨ v = z → P v) : fIx (.lst [x, y, z]) (.int (r : Nat)) P := by
  rcases (by omega : r = 0 ∨ r = 1 ∨ r = 2) with rfl | rfl | rfl
  · exact ⟨x, rfl, h _ (.inl rfl)⟩
  · exact ⟨y, rfl, h _ (.inr (.inl rfl))⟩
  · exact ⟨z, rfl, h _ (.inr (.inr rfl))⟩
theorem bit_of {r : Nat} (h : r < 2) : ∃ b, ((r : Nat) : Int) = bi b := by
  rcases (by omega : r = 0 ∨ r = 1) with rfl | rfl
  · exact ⟨false, rfl⟩
  · exact ⟨true, rfl⟩
/-! ### data that may be compared -/
def Shp (n : Nat) (d : D) : Prop := (toP d).canLay0 = true ∧ (toP d).depth ≤ n
theorem Shp.int (i : Int) : Shp 1 (.int i) := ⟨rfl, Nat.zero_le _⟩
theorem Shp.bl (i : Bool) : Shp 1 (.bl i) := ⟨rfl, Nat.zero_le _⟩
theorem Shp.str_bs (l : List Bool) : Shp 1 (.str (bs l)) := ⟨by
  show ((bs l).cps.all fun c => decide (c < 0x110000)) = true
  simp only [Array.all_eq_true']
  intro c hc
  have : c ∈ (bs l).cps.toList := by simpa using hc
  rw [bs_cps, List.mem_map] at this
  obtain ⟨b, _, rfl⟩ := this
  cases b <;> decide, Nat.zero_le _⟩
theorem shps : ∀ {ds : List D} {n : Nat}, (∀ d ∈ ds, Shp n d) → PyData.canLayAll0 (toPs ds) = true ∧ PyData.depthAll (toPs ds) ≤ n
  | [], n, _ => ⟨rfl, Nat.zero_le _⟩
  | d :: r, n, h => by
    obtain ⟨h1, h2⟩ := h d List.mem_cons_self
    obtain ⟨h3, h4⟩ := shps (ds := r) fun x hx => h x (List.mem_cons_of_mem _ hx)
    exact ⟨by show ((toP d).canLay0 && PyData.canLayAll0 (toPs r)) = true; rw [h1, h3]; rfl, Nat.max_le.mpr ⟨h2, h4⟩⟩
theorem Shp.lst {ds : List D} {n : Nat} (h : ∀ d ∈ ds, Shp n d) : Shp (n + 1) (.lst ds) := ⟨(shps h).1, Nat.succ_le_succ (shps h).2⟩
theorem Shp.tup {ds : List D} {n : Nat} (h : ∀ d ∈ ds, Shp n d) : Shp (n + 1) (.tup ds) := ⟨(shps h).1, Nat.succ_le_succ (shps h).2⟩
theorem Shp.ok {n : Nat} {d : D} (h : Shp n d) (hn : n ≤ 64) : shp d = true := by
  show ((toP d).canLay0 && decide ((toP d).depth ≤ 64)) = true
  rw [h.1, decide_eq_true (Nat.le_trans h.2 hn)]
  rfl
theorem deq_same {n : Nat} {d : D} (h : Shp n d) : deq d d = true := SeqAt.eqv_refl _ h.1
theorem fNe_same {n : Nat} {ds : List D} {P : D → Prop} (h : Shp n (.lst ds)) (hn : n ≤ 64) (hp : P (.bl false)) : fNe (.lst ds) (.lst ds) P := ⟨h.ok hn, h.ok hn, by rw [deq_same h]; exact hp⟩
theorem fEq_same {n : Nat} {ds : List D} {P : D → Prop} (h : Shp n (.lst ds)) (hn : n ≤ 64) (hp : P (.bl true)) : fEq (.lst ds) (.lst ds) P := ⟨h.ok hn, h.ok hn, by rw [deq_same h]; exact hp⟩
theorem fNe_nil {n : Nat} {ds : List D} {P : D → Prop} (h : Shp n (.lst ds)) (hn : n ≤ 64) (hp : P (.bl (!ds.isEmpty))) : fNe (.lst ds) (.lst []) P := ⟨h.ok hn, by decide, by
  cases ds <;> exact hp⟩
theorem fNe_non {P : D → Prop} (h : P (.bl false)) : fNe .non .non P := ⟨by decide, by decide, h⟩
theorem fNe_strSame {x : Str} {P : D → Prop} (h : P (.bl false)) : fNe (.str x) (.str x) P := by
  show P (.bl (!decide (x = x)))
  rw [decide_eq_true rfl]
  exact h
theorem fNe_strNon {x : List Bool} {P : D → Prop} (h : P (.bl true)) : fNe (.str (bs x)) .non P := ⟨(Shp.str_bs x).ok (by decide), by decide, h⟩
/-! ### the box from which laws draw -/
def Box (c : C) (n : Nat) : Prop := ∃ b0 b1 b2 : Int, c = .lst [.int b0, .int b1, .int b2] ∧ 0 ≤ b0 ∧ 0 ≤ b1 ∧ b1 < 2 ^ 62 ∧ 0 ≤ b2 ∧ b2 ≤ n
theorem Box.mono {c : C} {n m : Nat} (h : Box c n) (e : n ≤ m) : Box c m := by
  obtain ⟨b0, b1, b2, h0, h1, h2, h3, h4, h5⟩ := h
  exact ⟨b0, b1, b2, h0, h1, h2, h3, h4, by omega⟩
/-- what a draw may be of -/
def Few (m : Nat) : Prop := 0 < m ∧ m < 2 ^ 1000
theorem few {m : Nat} (h0 : 0 < m) (h : m ≤ 1000000) : Few m := ⟨h0, Nat.lt_of_lt_of_le (Nat.lt_of_le_of_lt h (by decide : 1000000 < 2 ^ 20)) (Nat.pow_le_pow_right (by decide) (by decide))⟩
def cTake : CtM := fun c0 ds P _ => ∃ n m : Nat, ds = [.int (m : Nat)] ∧ Box c0 n ∧ n ≤ 1000000 ∧ Few m ∧ ∀ (r : Nat) (c' : C), r < m → Box c' (n + 1) → P (.fz (.int (r : Nat))) c'
theorem take_snoc {α : Type} {l : List α} {k : Nat} {x : α} (h : l[k]? = some x) : l.take (k + 1) = l.take k ++ [x] := by rw [List.take_add_one, h]; rfl
theorem get_lt {α : Type} {l : List α} {k : Nat} {x : α} (h : l[k]? = some x) : k < l.length := (List.getElem?_eq_some_iff.mp h).1
/-- .. each element from its item alone -/
theorem acc_map {α : Type} {xs : List α} {F : α → D} {k : Nat} {x : α} {d : D} (h : xs[k]? = some x) (e : d = F x) (hl : xs.length ≤ 1000000) : ((xs.take k).map F).length < sizeLine ∧ (xs.take k).map F ++ [d] = (xs.take (k + 1)).map F := by
  refine ⟨sl_lt ?_, ?_⟩
  · rw [List.length_map, List.length_take]; omega
  · rw [take_snoc h, List.map_append, e]; rfl
/-! ### operations on ints that ask nothing -/
section
variable {i j : Int} {b c : Bool} {P : D → Prop}
theorem fAdd_int : fAdd (.int i) (.int j) P = P (.int (i + j)) := rfl
theorem fAddI_int : fAddI (.int i) (.int j) P = P (.int (i + j)) := rfl
theorem fSub_int : fSub (.int i) (.int j) P = P (.int (i - j)) := rfl
theorem fLt_int : fLt (.int i) (.int j) P = P (.bl (decide (i < j))) := rfl
theorem fLe_int : fLe (.int i) (.int j) P = P (.bl (decide (i ≤ j))) := rfl
theorem fGt_int : fGt (.int i) (.int j) P = P (.bl (decide (j < i))) := rfl
theorem fGe_int : fGe (.int i) (.int j) P = P (.bl (decide (j ≤ i))) := rfl
theorem fEq_int : fEq (.int i) (.int j) P = P (.bl (decide (i = j))) := rfl
theorem fNe_int : fNe (.int i) (.int j) P = P (.bl (!decide (i = j))) := rfl
theorem fEq_bl : fEq (.bl b) (.bl c) P = P (.bl (decide (b = c))) := rfl
theorem fNe_bl : fNe (.bl b) (.bl c) P = P (.bl (!decide (b = c))) := rfl
end
/-! ### bits in texts -/
theorem strsOf_bs (ls : List (List Bool)) : strsOf (ls.map fun x => D.str (bs x)) = some (ls.map bs) := by
  have : (ls.map fun x => D.str (bs x)) = (ls.map bs).map D.str := by rw [List.map_map]; rfl
  rw [this, strsOf_map]
theorem sum_len_bs (ls : List (List Bool)) : ((ls.map bs).map (·.length)).sum = ls.flatten.length := by
  induction ls with
  | nil => rfl
  | cons x r ih => rw [List.map_cons, List.map_cons, List.sum_cons, ih, List.flatten_cons, List.length_append, bs_len]
theorem fJoin_bs {ls : List (List Bool)} {P : D → Prop} (h : ls.flatten.length ≤ 1000000) (hp : P (.str (bs ls.flatten))) : fJoin ("" : Str) (.lst (ls.map fun x => D.str (bs x))) P := by
  refine ⟨ls.map bs, strsOf_bs ls, ?_, ?_⟩
  · rw [sum_len_bs, litE, bs_len]
    show _ + _ * 0 ≤ _
    omega
  · rw [litE, join_bs]; exact hp
theorem flatten_ones (l : List Bool) : (l.map fun b => [b]).flatten = l := by
  induction l with
  | nil => rfl
  | cons b l ih => rw [List.map_cons, List.flatten_cons, ih]; rfl
theorem fJoin_sb {l : List Bool} {P : D → Prop} (h : l.length ≤ 1000000) (hp : P (.str (bs l))) : fJoin ("" : Str) (.lst (l.map sb)) P := by
  have e : l.map sb = (l.map fun b => [b]).map fun x => D.str (bs x) := by rw [List.map_map]; rfl
  rw [e]
  exact fJoin_bs (by rw [flatten_ones]; exact h) (by rw [flatten_ones]; exact hp)
theorem fInt_sb {b : Bool} {P : D → Prop} (hp : P (.int (bi b))) : fInt [sb b] P := ⟨by rw [bs_len]; exact Nat.le_of_ble_eq_true rfl, _, int_bs b, hp⟩
theorem ix10 {b : Bool} {P : D → Prop} (hp : P (sb (!b))) : fIx (.str "10") (.int (bi b)) P := by
  refine ⟨by rw [lit10, bs_len]; exact sl_le (by decide), bc (!b), ?_, hp⟩
  rw [lit10, bs_cps]
  cases b with
  | true => exact atI_of (k := 1) rfl rfl
  | false => exact atI_of (k := 0) rfl rfl
theorem ix01 {b : Bool} {P : D → Prop} (hp : P (sb b)) : fIx (.str "01") (.int (bi b)) P := by
  refine ⟨by rw [lit01, bs_len]; exact sl_le (by decide), bc b, ?_, hp⟩
  rw [lit01, bs_cps]
  cases b with
  | true => exact atI_of (k := 1) rfl rfl
  | false => exact atI_of (k := 0) rfl rfl
theorem fLen_bs {l : List Bool} {P : D → Prop} (h : l.length ≤ 1000000) (hp : P (.int (l.length : Nat))) : fLen [.str (bs l)] P := ⟨bs_sl h, by rw [bs_len]; exact hp⟩
theorem fRev_two {x y : D} {P : D → C → Prop} (h : P .non (.lst [y, x])) : fRev (.lst [x, y]) [] P := h
theorem fAbs_int {i : Int} {P : D → Prop} (hp : P (.int (i.natAbs : Nat))) : fAbs [.int i] P := by
  show P (.int (if i < 0 then -i else i))
  rw [show (if i < 0 then -i else i) = (i.natAbs : Int) by split <;> omega]
  exact hp
theorem fAdd_bs {a b : List Bool} {P : D → Prop} (h : a.length + b.length ≤ 1000000) (hp : P (.str (bs (a ++ b)))) : fAdd (.str (bs a)) (.str (bs b)) P := ⟨by rw [bs_len, bs_len]; exact sl_le h, by rw [bs_app]; exact hp⟩
theorem fSl_bs {l : List Bool} {lo hi : Option Int} {P : D → Prop} (h : l.length ≤ 1000000) (hp : P (.str (bs (cutD l lo hi)))) : fSl (.str (bs l)) lo hi P := ⟨bs_sl h, by rw [cutS_bs]; exact hp⟩
theorem fIx_bs {l : List Bool} {i : Int} {k : Nat} {b : Bool} {P : D → Prop} (hl : l.length ≤ 1000000) (e : i = (k : Int)) (h : l[k]? = some b) (hp : P (sb b)) : fIx (.str (bs l)) (.int i) P :=
  ⟨bs_sl hl, bc b, by rw [bs_cps]; exact atI_map (atI_of e h), hp⟩
theorem fIx_bsl {l : List Bool} {b : Bool} {P : D → Prop} (hl : (l ++ [b]).length ≤ 1000000) (hp : P (sb b)) : fIx (.str (bs (l ++ [b]))) (.int (-1)) P :=
  ⟨bs_sl hl, bc b, by rw [bs_cps]; exact atI_map atI_m1, hp⟩
theorem fMul_sb {b : Bool} {n : Nat} {P : D → Prop} (h : n ≤ 100000) (hp : P (.str (bs (List.replicate n b)))) : fMul (sb b) (.int (n : Nat)) P :=
  ⟨by rw [bs_len]; rfl, ⟨by omega, by omega⟩, by rw [repS_bs]; exact hp⟩
theorem fMul_small {i j : Int} {P : D → Prop} (h : -(2 ^ 64) < i ∧ i < 2 ^ 64) (hp : P (.int (i * j))) : fMul (.int i) (.int j) P := ⟨.inr (.inl h), hp⟩
theorem fEq_bs {a b : List Bool} {P : D → Prop} (hp : P (.bl (decide (a = b)))) : fEq (.str (bs a)) (.str (bs b)) P := by
  show P (.bl (decide (bs a = bs b)))
  have : decide (bs a = bs b) = decide (a = b) := by rw [Bool.eq_iff_iff]; simp [bs_eq]
  rw [this]; exact hp
theorem fNe_bs {a b : List Bool} {P : D → Prop} (hp : P (.bl (!decide (a = b)))) : fNe (.str (bs a)) (.str (bs b)) P := by
  show P (.bl (!decide (bs a = bs b)))
  have : decide (bs a = bs b) = decide (a = b) := by rw [Bool.eq_iff_iff]; simp [bs_eq]
  rw [this]; exact hp
theorem str_bi (b : Bool) : (Str.ofString (toString (bi b))) = bs [b] := by cases b <;> decide +kernel
theorem fStr_bi {b : Bool} {P : D → Prop} (hp : P (sb b)) : fStr [.int (bi b)] P := by
  refine ⟨by cases b <;> decide, ?_⟩
  have e := str_bi b
  show P (.str (Str.ofString (toString (bi b))))
  rw [e]; exact hp
/-! ### range by a step -/
theorem rgC_step {n c k : Nat} (hc : 0 < c) (hc2 : c ≤ 100000) (hn : n ≤ 100000) (e : n = k * c) : RgC 0 (n : Int) (c : Int) k := by
  have hs : Builtin.Range.rangeSize 0 (n : Int) (c : Int) = k := by
    unfold Builtin.Range.rangeSize
    rw [if_pos (by omega)]
    by_cases h : (0 : Int) < n
    · rw [if_pos h]
      have hk : 0 < k := by
        rcases Nat.eq_zero_or_pos k with z | z
        · subst z; rw [Nat.zero_mul] at e; omega
        · exact z
      have : ((n : Int) - 0 - 1) / c = (k : Int) - 1 := by
        rw [Int.ediv_eq_iff_of_pos (by omega)]
        have e2 : (n : Int) = k * c := by rw [e]; exact Int.natCast_mul k c
        have e3 : ((k : Int) - 1) * c = k * c - c := by rw [Int.sub_mul, Int.one_mul]
        have e4 : ((k : Int) - 1 + 1) * c = k * c := by rw [Int.sub_add_cancel]
        omega
      omega
    · rw [if_neg h]
      have : n = 0 := by omega
      rw [this] at e
      have : k = 0 := by
        rcases Nat.eq_zero_or_pos k with z | z
        · exact z
        · have := Nat.mul_pos z hc; omega
      omega
  refine ⟨by omega, by omega, ?_, hs⟩
  unfold Builtin.Range.small
  rw [hs]
  have hk : k ≤ n := by rw [e]; exact Nat.le_mul_of_pos_right k hc
  have e63 : (2 : Int) ^ 63 = 9223372036854775808 := by decide
  rw [if_pos (show (c : Int) > 0 by omega)]
  simp only [Builtin.Range.rangeFitsLong, Bool.and_eq_true, Bool.or_eq_true, decide_eq_true_eq, beq_iff_eq, e63]
  omega
/-! ### while -/
theorem while_env {t : MT} {mb : MS} {PD : PEnds} {ρ : List S} (n : Nat) (E : Nat → List S) (h0 : Wk (E 0) ρ)
    (hs : ∀ k, k ≤ n → t (E k) (fun b ρ1 => (b = true → mb (PD.loop (fun ρ' => ∃ j, j < n - k ∧ lp (fun ρ => ∃ k', k' + j = n ∧ ρ = E k') ρ')) ρ1) ∧ (b = false → PD.nx ρ1)) PD.ex) : mWhile t mb PD ρ := by
  refine ⟨fun j ρ => ∃ k, k + j = n ∧ ρ = E k, ⟨n, E 0, h0, 0, by omega, rfl⟩, fun j ρ hI => ?_⟩
  obtain ⟨k, e, rfl⟩ := hI
  have := hs k (by omega)
  have ej : n - k = j := by omega
  rw [ej] at this
  exact this
theorem while_next {n k : Nat} {E : Nat → List S} {ρ : List S} (h : k < n) (w : Wk (E (k + 1)) ρ) : ∃ j, j < n - k ∧ lp (fun ρ => ∃ k', k' + j = n ∧ ρ = E k') ρ :=
  ⟨n - (k + 1), by omega, E (k + 1), w, k + 1, by omega, rfl⟩
end G

/-! the mathematics of rows, sums, balanced rows, flags, stuffing -/
namespace G
/-! ### sums -/
def pm (b : Bool) : Int := 2 * bi b - 1
def sumL (l : List Bool) : Int := (l.map pm).sum
theorem sumL_app (a b : List Bool) : sumL (a ++ b) = sumL a + sumL b := by simp [sumL]
theorem sumL_one (b : Bool) : sumL [b] = pm b := by simp [sumL]
theorem sumL_nil : sumL [] = 0 := rfl
theorem sumL_cons (b : Bool) (l : List Bool) : sumL (b :: l) = pm b + sumL l := by simp [sumL]
theorem pm_not (b : Bool) : pm (!b) = - pm b := by cases b <;> rfl
theorem sumL_not (l : List Bool) : sumL (l.map not) = - sumL l := by
  induction l with
  | nil => rfl
  | cons b l ih => rw [List.map_cons, sumL_cons, sumL_cons, pm_not, ih]; omega
theorem sumL_abs (l : List Bool) : -(l.length : Int) ≤ sumL l ∧ sumL l ≤ l.length := by
  induction l with
  | nil => exact ⟨by decide, by decide⟩
  | cons b l ih =>
    rw [sumL_cons, List.length_cons]
    have : pm b = 1 ∨ pm b = -1 := by cases b <;> simp [pm, bi]
    omega
def sumsM (l : List Bool) : List Int := (List.range (l.length + 1)).map fun k => sumL (l.take k)
theorem sumsM_snoc (l : List Bool) (b : Bool) : sumsM (l ++ [b]) = sumsM l ++ [sumL l + pm b] := by
  unfold sumsM
  rw [List.length_append, List.length_singleton, List.range_succ, List.map_append]
  congr 1
  · apply List.map_congr_left
    intro k hk
    rw [List.mem_range] at hk
    rw [List.take_append_of_le_length (by omega)]
  · rw [List.map_singleton, List.take_of_length_le (by simp), sumL_app, sumL_one]
theorem sumsM_last (l : List Bool) : L2.atI (sumsM l) (-1) = some (sumL l) := by
  unfold sumsM
  rw [List.range_succ, List.map_append, List.map_singleton, List.take_length]
  exact atI_m1
theorem sumsM_len (l : List Bool) : (sumsM l).length = l.length + 1 := by simp [sumsM]
def dI (l : List Int) : D := .lst (l.map .int)

/-! ### runs -/
def runStep (acc : List (Bool × Nat)) (b : Bool) : List (Bool × Nat) := match acc.getLast? with
  | some (c, n) => if c = b then acc.dropLast ++ [(b, n + 1)] else acc ++ [(b, 1)]
  | none => [(b, 1)]
def runsM (l : List Bool) : List (Bool × Nat) := l.foldl runStep []
theorem runsM_snoc (l : List Bool) (b : Bool) : runsM (l ++ [b]) = runStep (runsM l) b := by simp [runsM]
def unrun (r : List (Bool × Nat)) : List Bool := (r.map fun p => List.replicate p.2 p.1).flatten
theorem unrun_app (a b : List (Bool × Nat)) : unrun (a ++ b) = unrun a ++ unrun b := by simp [unrun]
theorem unrun_one (b : Bool) (n : Nat) : unrun [(b, n)] = List.replicate n b := by simp [unrun]
theorem unrun_step (acc : List (Bool × Nat)) (b : Bool) : unrun (runStep acc b) = unrun acc ++ [b] := by
  unfold runStep
  cases h : acc.getLast? with
  | none =>
    rw [List.getLast?_eq_none_iff] at h
    subst h
    rfl
  | some p =>
    obtain ⟨c, n⟩ := p
    obtain ⟨ini, rfl⟩ := List.getLast?_eq_some_iff.mp h
    by_cases e : c = b
    · subst e
      simp only [if_true]
      rw [List.dropLast_concat, unrun_app, unrun_app, unrun_one, unrun_one, List.replicate_succ', List.append_assoc]
    · simp only [if_neg e]
      rw [unrun_app, unrun_one]
      rfl
theorem unrun_runs (l : List Bool) : unrun (runsM l) = l := by
  have h : ∀ (l : List Bool) (acc : List (Bool × Nat)), unrun (l.foldl runStep acc) = unrun acc ++ l := fun l => by
    induction l with
    | nil => intro acc; simp
    | cons b l ih => intro acc; rw [List.foldl_cons, ih, unrun_step, List.append_assoc]; rfl
  exact h l []
theorem runs_pos (l : List Bool) : ∀ p ∈ runsM l, 0 < p.2 := by
  have h : ∀ (l : List Bool) (acc : List (Bool × Nat)), (∀ p ∈ acc, 0 < p.2) → ∀ p ∈ l.foldl runStep acc, 0 < p.2 := fun l => by
    induction l with
    | nil => intro acc h; exact h
    | cons b l ih =>
      intro acc h
      rw [List.foldl_cons]
      refine ih _ fun p hp => ?_
      unfold runStep at hp
      split at hp
      · split at hp
        · rcases List.mem_append.mp hp with z | z
          · exact h p (List.dropLast_subset _ z)
          · rw [List.mem_singleton.mp z]; exact Nat.succ_pos _
        · rcases List.mem_append.mp hp with z | z
          · exact h p z
          · rw [List.mem_singleton.mp z]; exact Nat.one_pos
      · rw [List.mem_singleton.mp hp]; exact Nat.one_pos
  exact h l [] (fun _ z => nomatch z)
theorem unrun_bound : ∀ (r : List (Bool × Nat)), (∀ p ∈ r, 0 < p.2) → r.length ≤ (unrun r).length ∧ ∀ p ∈ r, p.2 ≤ (unrun r).length
  | [], _ => ⟨Nat.le_refl _, fun _ z => nomatch z⟩
  | q :: r, h => by
    obtain ⟨h1, h2⟩ := unrun_bound r fun p hp => h p (List.mem_cons_of_mem _ hp)
    have h0 := h q List.mem_cons_self
    have e : (unrun (q :: r)).length = q.2 + (unrun r).length := by simp [unrun]
    rw [e, List.length_cons]
    refine ⟨by omega, fun p hp => ?_⟩
    rcases List.mem_cons.mp hp with z | z
    · rw [z]; omega
    · have := h2 p z; omega
theorem runs_bound (l : List Bool) : (runsM l).length ≤ l.length ∧ ∀ p ∈ runsM l, p.2 ≤ l.length := by
  have := unrun_bound (runsM l) (runs_pos l)
  rwa [unrun_runs] at this
def dRun (p : Bool × Nat) : D := .tup [.int (bi p.1), .int (p.2 : Nat)]

/-! ### choosing -/
def ch : Nat → Nat → Nat
  | _, 0 => 1
  | 0, _ + 1 => 0
  | n + 1, k + 1 => ch n k + ch n (k + 1)
theorem ch_zero (n : Nat) : ch n 0 = 1 := by cases n <;> rfl
theorem ch_big : ∀ {n k : Nat}, n < k → ch n k = 0
  | 0, k + 1, _ => rfl
  | n + 1, k + 1, h => by
    show ch n k + ch n (k + 1) = 0
    rw [ch_big (by omega), ch_big (by omega)]
theorem ch_mul : ∀ n k : Nat, ch n (k + 1) * (k + 1) = ch n k * (n - k)
  | 0, 0 => rfl
  | 0, k + 1 => by show 0 * _ = 0 * _; simp
  | n + 1, 0 => by
    have := ch_mul n 0
    rw [ch_zero] at this
    show (ch n 0 + ch n 1) * 1 = ch (n + 1) 0 * (n + 1 - 0)
    rw [ch_zero, ch_zero]
    simp only [Nat.zero_add, Nat.mul_one, Nat.one_mul, Nat.sub_zero] at this ⊢
    omega
  | n + 1, k + 1 => by
    have h1 := ch_mul n k
    have h2 := ch_mul n (k + 1)
    show (ch n (k + 1) + ch n (k + 2)) * (k + 2) = (ch n k + ch n (k + 1)) * (n + 1 - (k + 1))
    have e : n + 1 - (k + 1) = n - k := by omega
    rw [e]
    by_cases hk : k < n
    · have e2 : n - k = (n - (k + 1)) + 1 := by omega
      have e3 : (ch n (k + 1) + ch n (k + 2)) * (k + 2) = ch n (k + 1) * (k + 1) + ch n (k + 1) + ch n (k + 2) * (k + 1 + 1) := by
        have y : ch n (k + 1) * (k + 2) = ch n (k + 1) * (k + 1) + ch n (k + 1) := Nat.mul_succ _ _
        rw [Nat.add_mul, y]
      rw [e3, h1, h2, Nat.add_mul, e2, Nat.mul_add (ch n (k + 1))]
      omega
    · have z1 : n - k = 0 := by omega
      rw [z1, ch_big (show n < k + 1 by omega), ch_big (show n < k + 2 by omega)]
      simp
theorem ch_step (n k : Nat) : ch n k * (n - k) / (k + 1) = ch n (k + 1) := by
  rw [← ch_mul, Nat.mul_div_cancel _ (Nat.succ_pos k)]
theorem ch_pos : ∀ {n k : Nat}, k ≤ n → 0 < ch n k
  | _, 0, _ => by rw [ch_zero]; exact Nat.one_pos
  | n + 1, k + 1, h => by
    show 0 < ch n k + ch n (k + 1)
    have := ch_pos (n := n) (k := k) (by omega)
    omega
theorem ch_le : ∀ n k : Nat, ch n k ≤ 2 ^ n
  | n, 0 => by rw [ch_zero]; exact Nat.one_le_two_pow
  | 0, k + 1 => Nat.zero_le _
  | n + 1, k + 1 => by
    show ch n k + ch n (k + 1) ≤ 2 ^ (n + 1)
    have h1 := ch_le n k
    have h2 := ch_le n (k + 1)
    rw [Nat.pow_succ]
    omega

/-! ### the row of a number, the number of a row, among those of so many ones -/
def unr : Nat → Nat → Nat → List Bool
  | 0, _, _ => []
  | left + 1, ones, num => if num < ch left ones then false :: unr left ones num else true :: unr left (ones - 1) (num - ch left ones)
def cnt (l : List Bool) : Nat := l.count true
def rank : List Bool → Nat → Nat
  | [], _ => 0
  | b :: r, ones => if b then ch r.length ones + rank r (ones - 1) else rank r ones
theorem unr_lt {left ones num : Nat} (h : num < ch left ones) : unr (left + 1) ones num = false :: unr left ones num := by
  show (if num < ch left ones then _ else _) = _
  rw [if_pos h]
theorem unr_ge {left ones num : Nat} (h : ¬ num < ch left ones) : unr (left + 1) ones num = true :: unr left (ones - 1) (num - ch left ones) := by
  show (if num < ch left ones then _ else _) = _
  rw [if_neg h]
theorem unr_len : ∀ left ones num, (unr left ones num).length = left
  | 0, _, _ => rfl
  | left + 1, ones, num => by
    unfold unr
    split
    · rw [List.length_cons, unr_len]
    · rw [List.length_cons, unr_len]
theorem unr_ok : ∀ left ones num, ones ≤ left → num < ch left ones → cnt (unr left ones num) = ones ∧ rank (unr left ones num) ones = num
  | 0, ones, num, h, hn => by
    have : ones = 0 := by omega
    subst this
    rw [ch_zero] at hn
    exact ⟨rfl, by show 0 = num; omega⟩
  | left + 1, ones, num, h, hn => by
    unfold unr
    by_cases hlt : num < ch left ones
    · rw [if_pos hlt]
      have hl : ones ≤ left := by
        rcases Nat.lt_or_ge left ones with z | z
        · rw [ch_big z] at hlt; omega
        · exact z
      obtain ⟨h1, h2⟩ := unr_ok left ones num hl hlt
      refine ⟨?_, ?_⟩
      · show List.count true (false :: unr left ones num) = ones
        rw [List.count_cons_of_ne (by decide)]; exact h1
      · show rank (unr left ones num) ones = num
        exact h2
    · rw [if_neg hlt]
      cases ones with
      | zero =>
        rw [ch_zero] at hn hlt
        omega
      | succ k =>
        have hn' : num < ch left k + ch left (k + 1) := hn
        obtain ⟨h1, h2⟩ := unr_ok left k (num - ch left (k + 1)) (by omega) (by omega)
        show cnt (true :: unr left k (num - ch left (k + 1))) = k + 1 ∧ rank (true :: unr left k (num - ch left (k + 1))) (k + 1) = num
        refine ⟨?_, ?_⟩
        · show List.count true (true :: unr left k (num - ch left (k + 1))) = k + 1
          rw [List.count_cons_self]; exact congrArg (· + 1) h1
        · show ch (unr left k (num - ch left (k + 1))).length (k + 1) + rank (unr left k (num - ch left (k + 1))) k = num
          rw [h2, unr_len]
          omega
theorem sumL_cnt (l : List Bool) : sumL l = 2 * (cnt l : Int) - l.length := by
  induction l with
  | nil => rfl
  | cons b l ih =>
    rw [sumL_cons, ih, List.length_cons]
    cases b with
    | true =>
      have : cnt (true :: l) = cnt l + 1 := List.count_cons_self
      rw [this]
      show (2 * 1 - 1 : Int) + _ = _
      omega
    | false =>
      have : cnt (false :: l) = cnt l := List.count_cons_of_ne (by decide)
      rw [this]
      show (2 * 0 - 1 : Int) + _ = _
      omega

/-! ### turning -/
def turnedM (l : List Bool) (n : Nat) : List Bool := (l.take n).map not ++ l.drop n
theorem turned_len (l : List Bool) (n : Nat) : (turnedM l n).length = l.length := by
  unfold turnedM
  rw [List.length_append, List.length_map, List.length_take, List.length_drop]
  omega
theorem turned_sum (l : List Bool) (n : Nat) : sumL (turnedM l n) = sumL l - 2 * sumL (l.take n) := by
  unfold turnedM
  rw [sumL_app, sumL_not]
  have : sumL l = sumL (l.take n) + sumL (l.drop n) := by rw [← sumL_app, List.take_append_drop]
  omega
theorem turned_turned (l : List Bool) (n : Nat) : turnedM (turnedM l n) n = l := by
  unfold turnedM
  by_cases h : n ≤ l.length
  · have e : ((l.take n).map not).length = n := by rw [List.length_map, List.length_take]; omega
    rw [List.take_append_of_le_length (by omega), List.take_of_length_le (by omega), List.drop_append_of_le_length (by omega), List.drop_of_length_le (by omega), List.nil_append, List.map_map]
    have : (not ∘ not) = (id : Bool → Bool) := by funext b; cases b <;> rfl
    rw [this, List.map_id, List.take_append_drop]
  · have hl : l.length ≤ n := by omega
    rw [List.take_of_length_le hl, List.drop_of_length_le hl, List.append_nil, List.take_of_length_le (by rw [List.length_map]; exact hl), List.drop_of_length_le (by rw [List.length_map]; exact hl), List.append_nil, List.map_map]
    have : (not ∘ not) = (id : Bool → Bool) := by funext b; cases b <;> rfl
    rw [this, List.map_id]
/-- what is left of the sum when so many first bits are exchanged -/
def half (l : List Bool) (n : Nat) : Int := sumL l - 2 * sumL (l.take n)
theorem half_zero (l : List Bool) : half l 0 = sumL l := by simp [half, sumL_nil]
theorem half_step {l : List Bool} {n : Nat} {b : Bool} (h : l[n]? = some b) : half l (n + 1) = half l n - 2 * pm b := by
  unfold half
  rw [take_snoc h, sumL_app, sumL_one]
  omega
theorem half_end (l : List Bool) : half l l.length = - sumL l := by
  unfold half
  rw [List.take_length]
  omega
def IsTurn (l : List Bool) (n : Nat) : Prop := half l n = 0 ∧ ∀ m, m < n → half l m ≠ 0
theorem IsTurn.uniq {l : List Bool} {n m : Nat} (a : IsTurn l n) (b : IsTurn l m) : n = m := by
  rcases Nat.lt_trichotomy n m with h | h | h
  · exact absurd a.1 (b.2 n h)
  · exact h
  · exact absurd b.1 (a.2 m h)
/-- a change by two at each step meets nought -/
theorem meets {f : Nat → Int} {n : Nat} (hs : ∀ k, k < n → f (k + 1) = f k + 2 ∨ f (k + 1) = f k - 2) (he : f 0 % 2 = 0) (h0 : 0 < f 0) (hn : f n < 0) : ∃ k, k < n ∧ f k = 0 ∧ ∀ m, m < k → f m ≠ 0 := by
  induction n with
  | zero => omega
  | succ n ih =>
    by_cases h : f n < 0
    · obtain ⟨k, h1, h2⟩ := ih (fun k hk => hs k (by omega)) h
      exact ⟨k, by omega, h2⟩
    · -- f n is even, not below nought, f (n+1) below: f n = 0
      have par : ∀ k, k ≤ n → f k % 2 = 0 := fun k => by
        induction k with
        | zero => intro _; exact he
        | succ k ih => intro hk; have := ih (by omega); rcases hs k (by omega) with z | z <;> omega
      have hp := par n (Nat.le_refl _)
      have hz : f n = 0 := by rcases hs n (by omega) with z | z <;> omega
      -- the least
      have least : ∀ k, k ≤ n → (∃ j, j ≤ k ∧ f j = 0 ∧ ∀ m, m < j → f m ≠ 0) ∨ ∀ j, j ≤ k → f j ≠ 0 := fun k => by
        induction k with
        | zero =>
          intro _
          exact .inr fun j hj => by have : j = 0 := by omega
                                    subst this; omega
        | succ k ih =>
          intro hk
          rcases ih (by omega) with ⟨j, h1, h2⟩ | h1
          · exact .inl ⟨j, by omega, h2⟩
          · by_cases z : f (k + 1) = 0
            · exact .inl ⟨k + 1, Nat.le_refl _, z, fun m hm => h1 m (by omega)⟩
            · refine .inr fun j hj => ?_
              rcases Nat.lt_or_ge j (k + 1) with y | y
              · exact h1 j (by omega)
              · have : j = k + 1 := by omega
                subst this; exact z
      rcases least n (Nat.le_refl _) with ⟨j, h1, h2⟩ | h1
      · exact ⟨j, by omega, h2⟩
      · exact absurd hz (h1 n (Nat.le_refl _))
theorem turn_there (l : List Bool) (h : l.length % 2 = 0) (h0 : 0 < l.length) : ∃ n, n < l.length ∧ IsTurn l n := by
  have par : sumL l % 2 = 0 := by rw [sumL_cnt]; omega
  have st : ∀ k, k < l.length → half l (k + 1) = half l k + 2 ∨ half l (k + 1) = half l k - 2 := fun k hk => by
    rw [half_step (List.getElem?_eq_getElem hk)]
    cases l[k] with
    | true => exact .inr rfl
    | false => exact .inl (by show _ - 2 * (2 * 0 - 1) = _; omega)
  rcases Int.lt_trichotomy (sumL l) 0 with z | z | z
  · obtain ⟨k, h1, h2, h3⟩ := meets (f := fun k => - half l k) (n := l.length) (fun k hk => by rcases st k hk with y | y <;> (simp only [y]; omega)) (by simp only [half_zero]; omega) (by simp only [half_zero]; omega) (by simp only [half_end]; omega)
    exact ⟨k, h1, by omega, fun m hm y => h3 m hm (by omega)⟩
  · exact ⟨0, h0, by rw [half_zero]; exact z, fun m hm => by omega⟩
  · obtain ⟨k, h1, h2, h3⟩ := meets (f := half l) (n := l.length) st (by rw [half_zero]; exact par) (by rw [half_zero]; exact z) (by rw [half_end]; omega)
    exact ⟨k, h1, h2, h3⟩
end G
namespace G
open PySem PySem.Spec L2
theorem shp_runs (r : List (Bool × Nat)) : Shp 3 (.lst (r.map dRun)) := Shp.lst fun d hd => by
  obtain ⟨p, _, rfl⟩ := List.mem_map.mp hd
  refine Shp.tup fun d hd => ?_
  rcases List.mem_cons.mp hd with rfl | hd
  · exact Shp.int _
  · rw [List.mem_singleton] at hd
    subst hd
    exact Shp.int _
theorem shp_ints (r : List Int) : Shp 2 (dI r) := Shp.lst fun d hd => by
  obtain ⟨p, _, rfl⟩ := List.mem_map.mp hd
  exact Shp.int _
/-- one step of choosing, as the program reckons it -/
theorem chose {n k : Nat} {P : D → Prop} (hn : n ≤ 1000) (hk : k < n) (hp : P (.int (ch n (k + 1) : Nat))) :
    fSub (.int (n : Nat)) (.int (0 + (k : Nat) * 1)) fun z => fMul (.int (ch n k : Nat)) z fun z => fAdd (.int (0 + (k : Nat) * 1)) (.int 1) fun z_1 => fDiv z z_1 P := by
  have e0 : (0 : Int) + (k : Nat) * 1 = (k : Nat) := by omega
  rw [e0]
  refine ⟨.inl ?_, ?_⟩
  · refine wide_mul (a := 1001) (b := 11) ?_ ?_ (by decide) (by decide) (by decide)
    · have h1 := ch_le n k
      have h2 : 2 ^ n ≤ 2 ^ 1000 := Nat.pow_le_pow_right (by decide) hn
      have h3 : 2 ^ 1000 < 2 ^ 1001 := Nat.pow_lt_pow_right (by decide) (by decide)
      rw [Int.natAbs_natCast]
      omega
    · have : (2 : Nat) ^ 11 = 2048 := by decide
      omega
  · refine ⟨wide_div (b := 11) (by omega) ?_ (by decide) (by decide), ?_⟩
    · have : (2 : Nat) ^ 11 = 2048 := by decide
      omega
    · have e : ((ch n k : Nat) : Int) * ((n : Nat) - (k : Nat)) / ((k : Nat) + 1) = (ch n (k + 1) : Nat) := by
        rw [← ch_step, Int.natCast_ediv, Int.natCast_mul, Int.natCast_sub (by omega)]
        rfl
      rw [e]
      exact hp
/-- the number of a row, as the program's loop reckons it: what is reckoned behind k bits -/
theorem chose2 {n k : Nat} {P : D → Prop} (hn : n ≤ 1000) (hk : k < n) (hp : P (.int (ch n (k + 1) : Nat))) :
    fMul (.int (ch n k : Nat)) (.int ((n : Nat) - (0 + (k : Nat) * 1))) fun z => fDiv z (.int (0 + (k : Nat) * 1 + 1)) P := chose hn hk hp
def rkN (l : List Bool) (h k : Nat) : Nat := rank l h - rank (l.drop k) (h - cnt (l.take k))
theorem rank_split : ∀ (l : List Bool) (h k : Nat), k ≤ l.length → rank (l.drop k) (h - cnt (l.take k)) ≤ rank l h
  | _, _, 0, _ => by simp [cnt]
  | [], _, k + 1, hk => by simp at hk
  | b :: r, h, k + 1, hk => by
    have ih := rank_split r
    cases b with
    | true =>
      have e : cnt (List.take (k + 1) (true :: r)) = cnt (r.take k) + 1 := List.count_cons_self
      have := ih (h - 1) k (by simpa using hk)
      rw [e, List.drop_succ_cons]
      have e2 : h - (cnt (r.take k) + 1) = h - 1 - cnt (r.take k) := by omega
      rw [e2]
      show _ ≤ ch r.length h + rank r (h - 1)
      omega
    | false =>
      have e : cnt (List.take (k + 1) (false :: r)) = cnt (r.take k) := List.count_cons_of_ne (by decide)
      have := ih h k (by simpa using hk)
      rw [e, List.drop_succ_cons]
      show _ ≤ rank r h
      exact this
theorem rkN_zero (l : List Bool) (h : Nat) : rkN l h 0 = 0 := by simp [rkN, cnt]
theorem rkN_end (l : List Bool) (h : Nat) : rkN l h l.length = rank l h := by simp [rkN, rank]
theorem drop_get {l : List Bool} {k : Nat} {b : Bool} (hk : l[k]? = some b) : l.drop k = b :: l.drop (k + 1) := by
  have h := get_lt hk
  rw [List.drop_eq_getElem_cons h]
  rw [List.getElem?_eq_getElem h] at hk
  rw [Option.some.inj hk]
theorem cnt_snoc {l : List Bool} {k : Nat} {b : Bool} (hk : l[k]? = some b) : cnt (l.take (k + 1)) = cnt (l.take k) + if b then 1 else 0 := by
  rw [take_snoc hk]
  unfold cnt
  rw [List.count_append]
  cases b <;> rfl
theorem rkN_false {l : List Bool} {h k : Nat} (hk : l[k]? = some false) : rkN l h (k + 1) = rkN l h k := by
  unfold rkN
  rw [cnt_snoc hk, drop_get hk]
  rfl
theorem rkN_true {l : List Bool} {h k : Nat} (hk : l[k]? = some true) : rkN l h (k + 1) = rkN l h k + ch (l.length - k - 1) (h - cnt (l.take k)) := by
  have hlt := get_lt hk
  have h1 := rank_split l h k (by omega)
  have h2 := rank_split l h (k + 1) (by omega)
  unfold rkN
  rw [cnt_snoc hk] at h2 ⊢
  rw [drop_get hk] at h1 ⊢
  have e : rank (true :: l.drop (k + 1)) (h - cnt (l.take k)) = ch (l.drop (k + 1)).length (h - cnt (l.take k)) + rank (l.drop (k + 1)) (h - cnt (l.take k) - 1) := rfl
  rw [e] at h1 ⊢
  rw [List.length_drop] at h1 ⊢
  have e2 : h - (cnt (l.take k) + if true = true then 1 else 0) = h - cnt (l.take k) - 1 := by simp; omega
  rw [e2] at h2 ⊢
  have e3 : l.length - (k + 1) = l.length - k - 1 := by omega
  rw [e3] at h1 ⊢
  omega
theorem cnt_le (l : List Bool) (k : Nat) : cnt (l.take k) ≤ cnt l := by
  unfold cnt
  exact List.Sublist.count_le true (List.take_sublist k l)
theorem cnt_lt {l : List Bool} {k : Nat} (hk : l[k]? = some true) : cnt (l.take k) < cnt l := by
  have := cnt_le l (k + 1)
  rw [cnt_snoc hk] at this
  simp at this
  omega
end G

/-! stuffing, blocks, flags, heads -/
namespace G
/-! ### how many like bits stand at the end -/
def trail (b : Bool) (l : List Bool) : Nat := (l.reverse.takeWhile (· == b)).length
theorem trail_snoc (b : Bool) (l : List Bool) : trail b (l ++ [b]) = trail b l + 1 := by simp [trail]
theorem trail_other {b c : Bool} (h : c ≠ b) (l : List Bool) : trail b (l ++ [c]) = 0 := by simp [trail, h]
theorem tw_iff (b : Bool) : ∀ (r : List Bool) (m : Nat), m ≤ (r.takeWhile (· == b)).length ↔ m ≤ r.length ∧ r.take m = List.replicate m b
  | _, 0 => by simp
  | [], m + 1 => by simp
  | c :: r, m + 1 => by
    have ih := tw_iff b r m
    by_cases h : c = b
    · have e : (c == b) = true := by simpa using h
      rw [List.takeWhile_cons, e, if_pos rfl, List.length_cons, List.length_cons, List.take_succ_cons, List.replicate_succ, Nat.add_le_add_iff_right, Nat.add_le_add_iff_right, ih]
      constructor
      · rintro ⟨h1, h2⟩; exact ⟨h1, by rw [h, h2]⟩
      · rintro ⟨h1, h2⟩; exact ⟨h1, (List.cons.inj h2).2⟩
    · have e : (c == b) = false := by simpa using h
      rw [List.takeWhile_cons, e, if_neg (by decide), List.length_nil, List.take_succ_cons, List.replicate_succ]
      constructor
      · intro h1; omega
      · rintro ⟨h1, h2⟩; exact absurd (List.cons.inj h2).1 h
theorem trail_iff (b : Bool) (l : List Bool) (m : Nat) : m ≤ trail b l ↔ m ≤ l.length ∧ l.drop (l.length - m) = List.replicate m b := by
  unfold trail
  rw [tw_iff, List.length_reverse]
  constructor
  · rintro ⟨h1, h2⟩
    refine ⟨h1, ?_⟩
    have : (l.drop (l.length - m)).reverse = List.replicate m b := by
      rw [List.reverse_drop]
      have e : l.length - (l.length - m) = m := by omega
      rw [e, h2]
    have h3 := congrArg List.reverse this
    rwa [List.reverse_reverse, List.reverse_replicate] at h3
  · rintro ⟨h1, h2⟩
    refine ⟨h1, ?_⟩
    have h3 := congrArg List.reverse h2
    rw [List.reverse_drop, List.reverse_replicate] at h3
    have e : l.length - (l.length - m) = m := by omega
    rwa [e] at h3
/-! ### stuffing -/
def stuffStep (m : Nat) (t : List Bool) (b : Bool) : List Bool := if m ≤ trail b (t ++ [b]) then t ++ [b] ++ [!b] else t ++ [b]
def stuffM (m : Nat) (l : List Bool) : List Bool := l.foldl (stuffStep m) []
theorem stuff_snoc (m : Nat) (l : List Bool) (b : Bool) : stuffM m (l ++ [b]) = stuffStep m (stuffM m l) b := by simp [stuffM]
theorem stuffStep_pre (m : Nat) (t : List Bool) (b : Bool) : t ++ [b] <+: stuffStep m t b := by
  unfold stuffStep
  split
  · exact List.prefix_append _ _
  · exact List.prefix_refl _
theorem fold_pre (m : Nat) : ∀ (l t : List Bool), t <+: l.foldl (stuffStep m) t
  | [], t => List.prefix_refl _
  | b :: l, t => ((List.prefix_append t [b]).trans (stuffStep_pre m t b)).trans (fold_pre m l _)
theorem stuff_pre (m : Nat) (l : List Bool) (k : Nat) : stuffM m (l.take k) <+: stuffM m l := by
  have : stuffM m l = (l.drop k).foldl (stuffStep m) (stuffM m (l.take k)) := by
    unfold stuffM
    rw [← List.foldl_append, List.take_append_drop]
  rw [this]
  exact fold_pre m _ _
theorem stuff_len_le (m : Nat) (l : List Bool) : (stuffM m l).length ≤ 2 * l.length := by
  have : ∀ (l t : List Bool), (l.foldl (stuffStep m) t).length ≤ t.length + 2 * l.length := fun l => by
    induction l with
    | nil => intro t; simp
    | cons b l ih =>
      intro t
      have h := ih (stuffStep m t b)
      have : (stuffStep m t b).length ≤ t.length + 2 := by
        unfold stuffStep
        split <;> simp
      rw [List.foldl_cons, List.length_cons]
      omega
  have := this l []
  simpa [stuffM] using this
/-- the law's way: how many like bits stand at the end is kept -/
def lawStep (m : Nat) (p : List Bool × Nat) (b : Bool) : List Bool × Nat :=
  let same := if p.1.getLast? = some b then p.2 + 1 else 1
  if same = m then (p.1 ++ [b] ++ [!b], 1) else (p.1 ++ [b], same)
def LawInv (m : Nat) (p : List Bool × Nat) : Prop := p.1 = [] ∨ ∃ t c, p.1 = t ++ [c] ∧ p.2 = trail c (t ++ [c]) ∧ p.2 < m
theorem same_trail {m : Nat} {p : List Bool × Nat} (h : LawInv m p) (b : Bool) : (if p.1.getLast? = some b then p.2 + 1 else 1) = trail b (p.1 ++ [b]) := by
  rcases h with h | ⟨t, c, h1, h2, _⟩
  · rw [h]; simp [trail]
  · rw [trail_snoc]
    by_cases e : c = b
    · subst e
      rw [h1, h2]
      simp
    · rw [h1]
      have : (t ++ [c]).getLast? = some c := by simp
      rw [this, if_neg (by simpa using e), trail_other e]
theorem lawStep_ok {m : Nat} (hm : 2 ≤ m) {p : List Bool × Nat} (h : LawInv m p) (b : Bool) : (lawStep m p b).1 = stuffStep m p.1 b ∧ LawInv m (lawStep m p b) := by
  have hs := same_trail h b
  have hle : trail b (p.1 ++ [b]) ≤ m := by
    rw [← hs]
    rcases h with h | ⟨t, c, h1, h2, h3⟩
    · rw [h]; simp; omega
    · split <;> omega
  unfold lawStep stuffStep
  simp only [hs]
  by_cases e : trail b (p.1 ++ [b]) = m
  · rw [if_pos e, if_pos (by omega)]
    refine ⟨rfl, .inr ⟨p.1 ++ [b], !b, rfl, ?_, ?_⟩⟩
    · show 1 = _
      rw [trail_snoc, trail_other (by cases b <;> decide)]
    · show 1 < m
      omega
  · rw [if_neg e, if_neg (by omega)]
    exact ⟨rfl, .inr ⟨p.1, b, rfl, rfl, by show trail b (p.1 ++ [b]) < m; omega⟩⟩
def lawFold (m : Nat) (l : List Bool) : List Bool × Nat := l.foldl (lawStep m) ([], 0)
theorem lawFold_snoc (m : Nat) (l : List Bool) (b : Bool) : lawFold m (l ++ [b]) = lawStep m (lawFold m l) b := by simp [lawFold]
theorem lawFold_ok {m : Nat} (hm : 2 ≤ m) (l : List Bool) : (lawFold m l).1 = stuffM m l ∧ LawInv m (lawFold m l) := by
  have : ∀ (l : List Bool) (p : List Bool × Nat) (t : List Bool), p.1 = t → LawInv m p → (l.foldl (lawStep m) p).1 = l.foldl (stuffStep m) t ∧ LawInv m (l.foldl (lawStep m) p) := fun l => by
    induction l with
    | nil => intro p t e h; exact ⟨e, h⟩
    | cons b l ih =>
      intro p t e h
      obtain ⟨h1, h2⟩ := lawStep_ok hm h b
      rw [List.foldl_cons, List.foldl_cons]
      exact ih _ _ (by rw [h1, e]) h2
  exact this l ([], 0) [] rfl (.inl rfl)
/-! ### the places of one's own bits -/
def lastOf (l : List Bool) (p : Nat) : Bool := l.getD p false
def nextP (m : Nat) (row : List Bool) (p : Nat) : Nat := if m ≤ trail (lastOf row p) (row.take (p + 1)) then p + 2 else p + 1
def placesF (m : Nat) (row : List Bool) : Nat → Nat → List Nat
  | 0, _ => []
  | n + 1, p => if p < row.length then p :: placesF m row n (nextP m row p) else []
def placesM (m : Nat) (row : List Bool) : List Nat := placesF m row row.length 0
theorem nextP_gt (m : Nat) (row : List Bool) (p : Nat) : p + 1 ≤ nextP m row p ∧ nextP m row p ≤ p + 2 := by
  unfold nextP
  split <;> omega
theorem placesF_end {m : Nat} {row : List Bool} {n p : Nat} (h : row.length ≤ p) : placesF m row n p = [] := by
  cases n with
  | zero => rfl
  | succ n => show (if p < row.length then _ else _) = _; rw [if_neg (by omega)]
theorem placesF_step {m : Nat} {row : List Bool} {n p : Nat} (h : p < row.length) (hn : row.length - p ≤ n) : placesF m row n p = p :: placesF m row (n - 1) (nextP m row p) := by
  cases n with
  | zero => omega
  | succ n => show (if p < row.length then _ else _) = _; rw [if_pos h]; rfl
theorem placesF_lt (m : Nat) (row : List Bool) : ∀ n p, ∀ q ∈ placesF m row n p, q < row.length
  | 0, _, _, h => by cases h
  | n + 1, p, q, h => by
    have h : q ∈ (if p < row.length then p :: placesF m row n (nextP m row p) else []) := h
    split at h
    · rcases List.mem_cons.mp h with z | z
      · rw [z]; assumption
      · exact placesF_lt m row n _ q z
    · cases h
theorem placesF_len (m : Nat) (row : List Bool) : ∀ n p, (placesF m row n p).length ≤ n
  | 0, _ => Nat.le_refl _
  | n + 1, p => by
    show (if p < row.length then p :: placesF m row n (nextP m row p) else []).length ≤ n + 1
    split
    · rw [List.length_cons]; have := placesF_len m row n (nextP m row p); omega
    · exact Nat.zero_le _
def picks (m : Nat) (row : List Bool) : List Bool := (placesM m row).map fun p => row.getD p false
theorem take_pre {s t : List Bool} (h : t <+: s) : s.take t.length = t := List.prefix_iff_eq_take.mp h |>.symm
theorem picks_stuffed (m : Nat) (l : List Bool) : picks m (stuffM m l) = l := by
  have main : ∀ (j k n : Nat), l.length - k = j → k ≤ l.length → (stuffM m l).length - (stuffM m (l.take k)).length ≤ n → (placesF m (stuffM m l) n (stuffM m (l.take k)).length).map (fun p => (stuffM m l).getD p false) = l.drop k := by
    intro j
    induction j with
    | zero =>
      intro k n h1 h2 h3
      have : k = l.length := by omega
      subst this
      rw [List.take_length, placesF_end (Nat.le_refl _), List.drop_length]
      rfl
    | succ j ih =>
      intro k n h1 h2 h3
      have hk : k < l.length := by omega
      have hget : l[k]? = some l[k] := List.getElem?_eq_getElem hk
      have es : stuffM m (l.take (k + 1)) = stuffStep m (stuffM m (l.take k)) l[k] := by rw [take_snoc hget, stuff_snoc]
      have pre1 : stuffM m (l.take k) ++ [l[k]] <+: stuffM m l := ((es ▸ stuffStep_pre m _ _ : stuffM m (l.take k) ++ [l[k]] <+: stuffM m (l.take (k + 1)))).trans (stuff_pre m l (k + 1))
      have hlt : (stuffM m (l.take k)).length < (stuffM m l).length := by
        have := pre1.length_le
        rw [List.length_append, List.length_singleton] at this
        omega
      have tk : (stuffM m l).take ((stuffM m (l.take k)).length + 1) = stuffM m (l.take k) ++ [l[k]] := by
        have := take_pre pre1
        rwa [List.length_append, List.length_singleton] at this
      have gt : (stuffM m l).getD (stuffM m (l.take k)).length false = l[k] := by
        have e : (stuffM m l)[(stuffM m (l.take k)).length]? = ((stuffM m l).take ((stuffM m (l.take k)).length + 1))[(stuffM m (l.take k)).length]? := by
          rw [List.getElem?_take_of_lt (Nat.lt_succ_self _)]
        rw [List.getD_eq_getElem?_getD, e, tk]
        simp
      have nx : nextP m (stuffM m l) (stuffM m (l.take k)).length = (stuffM m (l.take (k + 1))).length := by
        unfold nextP lastOf
        rw [gt, tk, es]
        unfold stuffStep
        split
        · simp
        · simp
      rw [placesF_step hlt h3, List.map_cons, gt, nx, ih (k + 1) (n - 1) (by omega) (by omega) (by
        have := (stuff_pre m l (k + 1)).length_le
        have h5 : (stuffM m (l.take k)).length < (stuffM m (l.take (k + 1))).length := by
          have := (es ▸ stuffStep_pre m _ _ : stuffM m (l.take k) ++ [l[k]] <+: stuffM m (l.take (k + 1))).length_le
          rw [List.length_append, List.length_singleton] at this
          omega
        omega)]
      rw [List.drop_eq_getElem_cons hk]
  have := main l.length 0 (stuffM m l).length (by omega) (Nat.zero_le _) (by omega)
  simpa [picks, placesM, stuffM] using this
/-! ### blocks -/
def blocksM (n : Nat) (l : List Bool) : List (List Bool) := (List.range (l.length / n)).map fun i => (l.drop (i * n)).take n
theorem blocks_join {n : Nat} (hn : 0 < n) : ∀ {bl : List (List Bool)}, (∀ b ∈ bl, b.length = n) → blocksM n bl.flatten = bl
  | [], _ => by simp [blocksM]
  | b :: r, h => by
    have ih := blocks_join hn (bl := r) fun x hx => h x (List.mem_cons_of_mem _ hx)
    have hb := h b List.mem_cons_self
    unfold blocksM at ih ⊢
    have el : (b :: r).flatten.length / n = r.flatten.length / n + 1 := by
      rw [List.flatten_cons, List.length_append, hb, Nat.add_comm, Nat.add_div_right _ hn]
    rw [el, List.range_succ_eq_map, List.map_cons, List.map_map]
    congr 1
    · rw [Nat.zero_mul, List.drop_zero, List.flatten_cons, List.take_append_of_le_length (by omega), List.take_of_length_le (by omega)]
    · have e2 : ((fun i => ((b :: r).flatten.drop (i * n)).take n) ∘ Nat.succ) = fun i => (r.flatten.drop (i * n)).take n := by
        funext i
        show ((b ++ r.flatten).drop ((i + 1) * n)).take n = _
        have e3 : (i + 1) * n = b.length + i * n := by rw [hb, Nat.add_mul, Nat.one_mul, Nat.add_comm]
        rw [e3, ← List.drop_drop, List.drop_left]
      rw [e2]
      exact ih
theorem blocks_len {n : Nat} (hn : 0 < n) {l : List Bool} (h : l.length % n = 0) : ∀ b ∈ blocksM n l, b.length = n := by
  intro b hb
  obtain ⟨i, hi, rfl⟩ := List.mem_map.mp hb
  rw [List.mem_range] at hi
  rw [List.length_take, List.length_drop]
  have : i * n + n ≤ l.length := by
    have h1 : (i + 1) * n ≤ l.length / n * n := Nat.mul_le_mul_right n hi
    have h2 : l.length / n * n ≤ l.length := Nat.div_mul_le_self _ _
    rw [Nat.add_mul, Nat.one_mul] at h1
    omega
  omega
theorem blocks_flat {n : Nat} (hn : 0 < n) {l : List Bool} (h : l.length % n = 0) : (blocksM n l).flatten = l := by
  have : ∀ k, k ≤ l.length / n → ((List.range k).map fun i => (l.drop (i * n)).take n).flatten = l.take (k * n) := fun k => by
    induction k with
    | zero => intro _; simp
    | succ k ih =>
      intro hk
      rw [List.range_succ, List.map_append, List.flatten_append, ih (by omega), List.map_singleton]
      simp only [List.flatten_cons, List.flatten_nil, List.append_nil]
      rw [Nat.add_mul, Nat.one_mul, List.take_add]
  have h2 := this _ (Nat.le_refl _)
  unfold blocksM
  rw [h2, List.take_of_length_le]
  have := Nat.div_add_mod l.length n
  rw [h, Nat.mul_comm] at this
  omega
/-! ### flags -/
def flag (tot : Int) (b : List Bool) : List Bool := if (tot + sumL (true :: b.map not)).natAbs < (tot + sumL (false :: b)).natAbs then true :: b.map not else false :: b
def flagged : Int → List (List Bool) → List (List Bool)
  | _, [] => []
  | tot, b :: r => flag tot b :: flagged (tot + sumL (flag tot b)) r
def flagsM (n : Nat) (l : List Bool) : List Bool := (flagged 0 (blocksM n l)).flatten
theorem flagged_app (tot : Int) (a b : List (List Bool)) : flagged tot (a ++ b) = flagged tot a ++ flagged (tot + sumL (flagged tot a).flatten) b := by
  induction a generalizing tot with
  | nil => simp [flagged, sumL_nil]
  | cons x r ih =>
    show flag tot x :: flagged (tot + sumL (flag tot x)) (r ++ b) = flag tot x :: (flagged _ r ++ flagged (tot + sumL (flag tot x ++ (flagged (tot + sumL (flag tot x)) r).flatten)) b)
    rw [ih, sumL_app, Int.add_assoc]
theorem flag_len (tot : Int) (b : List Bool) : (flag tot b).length = b.length + 1 := by
  unfold flag
  split <;> simp
theorem flagged_len {n : Nat} : ∀ (tot : Int) {bl : List (List Bool)}, (∀ b ∈ bl, b.length = n) → (∀ b ∈ flagged tot bl, b.length = n + 1) ∧ (flagged tot bl).length = bl.length
  | _, [], _ => ⟨fun _ z => absurd z List.not_mem_nil, rfl⟩
  | tot, b :: r, h => by
    obtain ⟨h1, h2⟩ := flagged_len (tot + sumL (flag tot b)) (bl := r) fun x hx => h x (List.mem_cons_of_mem _ hx)
    refine ⟨fun x hx => ?_, congrArg (· + 1) h2⟩
    rcases List.mem_cons.mp hx with z | z
    · rw [z, flag_len, h b List.mem_cons_self]
    · exact h1 x z
def unflag (b : List Bool) : List Bool := match b with
  | [] => []
  | f :: r => if f then r.map not else r
theorem unflag_flag (tot : Int) (b : List Bool) : unflag (flag tot b) = b := by
  unfold flag
  split
  · show (b.map not).map not = b
    rw [List.map_map]
    have : (not ∘ not) = (id : Bool → Bool) := by funext b; cases b <;> rfl
    rw [this, List.map_id]
  · rfl
theorem unflag_all : ∀ (tot : Int) (bl : List (List Bool)), (flagged tot bl).map unflag = bl
  | _, [] => rfl
  | tot, b :: r => by
    show unflag (flag tot b) :: (flagged _ r).map unflag = _
    rw [unflag_flag, unflag_all]
theorem flags_back {n : Nat} (hn : 0 < n) {l : List Bool} (h : l.length % n = 0) : ((blocksM (n + 1) (flagsM n l)).map unflag).flatten = l ∧ (flagsM n l).length = l.length / n * (n + 1) := by
  obtain ⟨h1, h2⟩ := flagged_len 0 (blocks_len hn h)
  unfold flagsM
  rw [blocks_join (Nat.succ_pos n) h1, unflag_all, blocks_flat hn h]
  refine ⟨rfl, ?_⟩
  have : ∀ (bl : List (List Bool)), (∀ b ∈ bl, b.length = n + 1) → bl.flatten.length = bl.length * (n + 1) := fun bl => by
    induction bl with
    | nil => intro _; simp
    | cons b r ih =>
      intro h
      rw [List.flatten_cons, List.length_append, ih fun x hx => h x (List.mem_cons_of_mem _ hx), h b List.mem_cons_self, List.length_cons, Nat.add_mul, Nat.one_mul, Nat.add_comm]
  rw [this _ h1, h2]
  simp [blocksM]
theorem flagged_flat {n : Nat} {tot : Int} {bl : List (List Bool)} (h : ∀ b ∈ bl, b.length = n) : (flagged tot bl).flatten.length = bl.length * (n + 1) := by
  obtain ⟨h1, h2⟩ := flagged_len tot h
  have : ∀ (bl : List (List Bool)), (∀ b ∈ bl, b.length = n + 1) → bl.flatten.length = bl.length * (n + 1) := fun bl => by
    induction bl with
    | nil => intro _; simp
    | cons b r ih =>
      intro h
      rw [List.flatten_cons, List.length_append, ih fun x hx => h x (List.mem_cons_of_mem _ hx), h b List.mem_cons_self, List.length_cons, Nat.add_mul, Nat.one_mul, Nat.add_comm]
  rw [this _ h1, h2]
theorem unflag_flat {n : Nat} : ∀ {bl : List (List Bool)}, (∀ b ∈ bl, b.length = n + 1) → (bl.map unflag).flatten.length = bl.length * n
  | [], _ => by simp
  | b :: r, h => by
    have hb := h b List.mem_cons_self
    have ih := unflag_flat (bl := r) fun x hx => h x (List.mem_cons_of_mem _ hx)
    rw [List.map_cons, List.flatten_cons, List.length_append, ih, List.length_cons, Nat.add_mul, Nat.one_mul, Nat.add_comm]
    congr 1
    cases b with
    | nil => simp at hb
    | cons f t =>
      have : t.length = n := by simpa using hb
      cases f <;> simp [unflag, this]
/-! ### the least head -/
def IsHead (n h : Nat) : Prop := n ≤ ch (2 * h) h ∧ ∀ j, j < h → ch (2 * j) j < n
theorem head_there {n : Nat} : ∀ k, n ≤ ch (2 * k) k → ∃ h, h ≤ k ∧ IsHead n h := by
  intro k
  induction k using Nat.strongRecOn with
  | ind k ih =>
    intro h
    by_cases e : ∃ j, j < k ∧ n ≤ ch (2 * j) j
    · obtain ⟨j, h1, h2⟩ := e
      obtain ⟨x, h3, h4⟩ := ih j h1 h2
      exact ⟨x, by omega, h4⟩
    · refine ⟨k, Nat.le_refl _, h, fun j hj => ?_⟩
      rcases Nat.lt_or_ge (ch (2 * j) j) n with y | y
      · exact y
      · exact absurd ⟨j, hj, y⟩ e
end G

/-! reading a row that is stuffed; all turnings -/
namespace G
def readF (m : Nat) (row : List Bool) : Nat → Nat → List Bool → Option (List Bool)
  | 0, p, f => some f
  | n + 1, p, f => if p < row.length then
      if m ≤ trail (lastOf row p) (row.take (p + 1)) then (if row[p + 1]? = some (!(lastOf row p)) then readF m row n (p + 2) (f ++ [lastOf row p]) else none)
      else readF m row n (p + 1) (f ++ [lastOf row p])
    else some f
def readM (m : Nat) (row : List Bool) : Option (List Bool) := if stuffM m (picks m row) = row then some (picks m row) else none
theorem lastOf_get {row : List Bool} {p : Nat} (h : p < row.length) : row[p]? = some (lastOf row p) := by simp [lastOf, h]
theorem readF_ok (m : Nat) (row : List Bool) : ∀ n p f, row.length - p ≤ n → p ≤ row.length → row.take p = stuffM m f → f ++ (placesF m row n p).map (fun q => row.getD q false) = picks m row → readF m row n p f = readM m row := by
  intro n
  induction n with
  | zero =>
    intro p f h1 h2 h3 h4
    have e : p = row.length := by omega
    subst e
    rw [placesF_end (Nat.le_refl _), List.map_nil, List.append_nil] at h4
    rw [List.take_length] at h3
    unfold readM
    rw [← h4, if_pos h3.symm]
    rfl
  | succ n ih =>
    intro p f h1 h2 h3 h4
    by_cases hp : p < row.length
    · have hg := lastOf_get hp
      have hgd : row.getD p false = lastOf row p := rfl
      have tk : row.take (p + 1) = stuffM m f ++ [lastOf row p] := by rw [take_snoc hg, h3]
      rw [placesF_step hp h1] at h4
      have h4 : f ++ (lastOf row p :: (placesF m row n (nextP m row p)).map (fun q => row.getD q false)) = picks m row := h4
      show (if p < row.length then _ else _) = _
      rw [if_pos hp]
      by_cases ht : m ≤ trail (lastOf row p) (row.take (p + 1))
      · rw [if_pos ht]
        have en : nextP m row p = p + 2 := by unfold nextP; rw [if_pos ht]
        have es : stuffM m (f ++ [lastOf row p]) = stuffM m f ++ [lastOf row p] ++ [!(lastOf row p)] := by
          rw [stuff_snoc, stuffStep, if_pos (by rw [← tk]; exact ht)]
        by_cases hn : row[p + 1]? = some (!(lastOf row p))
        · rw [if_pos hn]
          have := get_lt hn
          refine ih (p + 2) _ (by omega) (by omega) ?_ ?_
          · rw [take_snoc hn, tk, es]
          · rw [List.append_assoc, ← en]
            exact h4
        · rw [if_neg hn]
          unfold readM
          rw [if_neg]
          intro hst
          apply hn
          have pre : stuffM m (f ++ [lastOf row p]) <+: row := by
            have e2 : stuffM m (picks m row) = ((placesF m row n (nextP m row p)).map (fun q => row.getD q false)).foldl (stuffStep m) (stuffM m (f ++ [lastOf row p])) := by
              rw [← h4]
              unfold stuffM
              rw [← List.foldl_append, List.append_assoc]
              rfl
            rw [e2] at hst
            have := fold_pre m ((placesF m row n (nextP m row p)).map (fun q => row.getD q false)) (stuffM m (f ++ [lastOf row p]))
            rwa [hst] at this
          rw [es, ← tk] at pre
          obtain ⟨r, hr⟩ := pre
          have hl : (row.take (p + 1)).length = p + 1 := by rw [List.length_take]; omega
          have e3 : row[p + 1]? = ((row.take (p + 1)) ++ ([!(lastOf row p)] ++ r))[p + 1]? := by rw [← List.append_assoc, hr]
          rw [e3, List.getElem?_append_right (by omega), hl, Nat.sub_self]
          rfl
      · rw [if_neg ht]
        have en : nextP m row p = p + 1 := by unfold nextP; rw [if_neg ht]
        refine ih (p + 1) _ (by omega) (by omega) ?_ ?_
        · rw [stuff_snoc, stuffStep, if_neg (by rw [← tk]; exact ht)]
          exact tk
        · rw [List.append_assoc, ← en]
          exact h4
    · have e : p = row.length := by omega
      subst e
      rw [placesF_end (Nat.le_refl _), List.map_nil, List.append_nil] at h4
      rw [List.take_length] at h3
      show (if row.length < row.length then _ else _) = _
      rw [if_neg hp]
      unfold readM
      rw [← h4, if_pos h3.symm]
theorem readF_all (m : Nat) (row : List Bool) : readF m row row.length 0 [] = readM m row := readF_ok m row _ _ _ (by omega) (Nat.zero_le _) rfl rfl
theorem picks_len (m : Nat) (row : List Bool) : (picks m row).length ≤ row.length := by
  unfold picks placesM
  rw [List.length_map]
  exact placesF_len _ _ _ _
/-! ### all turnings -/
def turnsM (l : List Bool) (n : Nat) : List Nat := (List.range n).filter fun k => decide (half l k = 0)
theorem turns_succ (l : List Bool) (n : Nat) : turnsM l (n + 1) = if half l n = 0 then turnsM l n ++ [n] else turnsM l n := by
  unfold turnsM
  rw [List.range_succ, List.filter_append]
  by_cases h : half l n = 0
  · simp [h]
  · simp [h]
theorem turns_len (l : List Bool) (n : Nat) : (turnsM l n).length ≤ n := by
  have := List.length_filter_le (fun k => decide (half l k = 0)) (List.range n)
  rwa [List.length_range] at this
theorem mem_turns {l : List Bool} {n k : Nat} : k ∈ turnsM l n ↔ k < n ∧ half l k = 0 := by
  unfold turnsM
  rw [List.mem_filter, List.mem_range, decide_eq_true_eq]
theorem turns_none {l : List Bool} : ∀ {n : Nat}, (∀ k, k < n → half l k ≠ 0) → turnsM l n = []
  | 0, _ => rfl
  | n + 1, h => by rw [turns_succ, if_neg (h n (Nat.lt_succ_self n)), turns_none fun k hk => h k (by omega)]
theorem turns_first {l : List Bool} {t : Nat} (ht : IsTurn l t) : ∀ {n : Nat}, t < n → ∃ r, turnsM l n = t :: r
  | 0, h => absurd h (Nat.not_lt_zero _)
  | n + 1, h => by
    rcases Nat.lt_or_ge t n with y | y
    · obtain ⟨r, e⟩ := turns_first ht y
      rw [turns_succ, e]
      split
      · exact ⟨r ++ [n], rfl⟩
      · exact ⟨r, rfl⟩
    · have e : t = n := by omega
      subst e
      rw [turns_succ, if_pos ht.1, turns_none fun k hk => ht.2 k hk]
      exact ⟨[], rfl⟩
theorem half_turned (l : List Bool) (n : Nat) : half l n = sumL (turnedM l n) := by
  unfold half
  rw [turned_sum]
theorem turn_back {b : List Bool} {n : Nat} : half (turnedM b n) n = sumL b := by rw [half_turned, turned_turned]
/-- one bit exchanged: not balanced any more -/
theorem sum_flip {b : List Bool} {i : Nat} {c : Bool} (h : b[i]? = some c) : sumL (b.take i ++ [!c] ++ b.drop (i + 1)) = sumL b - 2 * pm c := by
  have e : b = b.take i ++ [c] ++ b.drop (i + 1) := by
    rw [← take_snoc h, List.take_append_drop]
  have e2 : sumL b = sumL (b.take i) + pm c + sumL (b.drop (i + 1)) := by
    conv => lhs; rw [e]
    rw [sumL_app, sumL_app, sumL_one]
  rw [sumL_app, sumL_app, sumL_one, pm_not, e2]
  omega
end G

namespace K90
open PySem PySem.Spec PyProof.Rows L2 G
def topS (i : Nat) : Stmt := PySem.Challenge.pw_runbound_k90_whole_long_rows_spoilt.main.body.getD i (.Pass ⟨0, 0, 0, 0⟩)
abbrev s_exchanged : Stmt := topS 5
theorem sc_exchanged : FnScope ["row", "sign"] ["row"] (defScope s_exchanged) := ⟨rfl, rfl, rfl, by decide +kernel, rfl, by decide +kernel, by decide +kernel⟩
abbrev s_sums : Stmt := topS 6
theorem sc_sums : FnScope ["row", "found", "sign"] ["row"] (defScope s_sums) := ⟨rfl, rfl, rfl, by decide +kernel, rfl, by decide +kernel, by decide +kernel⟩
abbrev s_sum_of : Stmt := topS 7
theorem sc_sum_of : FnScope ["row"] ["row"] (defScope s_sum_of) := ⟨rfl, rfl, rfl, by decide +kernel, rfl, by decide +kernel, by decide +kernel⟩
abbrev s_turned : Stmt := topS 9
theorem sc_turned : FnScope ["row", "many"] ["row", "many"] (defScope s_turned) := ⟨rfl, rfl, rfl, by decide +kernel, rfl, by decide +kernel, by decide +kernel⟩
abbrev s_turning : Stmt := topS 10
theorem sc_turning : FnScope ["row", "many"] ["row"] (defScope s_turning) := ⟨rfl, rfl, rfl, by decide +kernel, rfl, by decide +kernel, by decide +kernel⟩
abbrev s_choices : Stmt := topS 11
theorem sc_choices : FnScope ["many", "ones", "found", "k"] ["many", "ones"] (defScope s_choices) := ⟨rfl, rfl, rfl, by decide +kernel, rfl, by decide +kernel, by decide +kernel⟩
abbrev s_balanced_count : Stmt := topS 12
theorem sc_balanced_count : FnScope ["many"] ["many"] (defScope s_balanced_count) := ⟨rfl, rfl, rfl, by decide +kernel, rfl, by decide +kernel, by decide +kernel⟩
abbrev s_balanced_at : Stmt := topS 13
theorem sc_balanced_at : FnScope ["many", "number", "row", "ones", "left", "ahead"] ["many", "number"] (defScope s_balanced_at) := ⟨rfl, rfl, rfl, by decide +kernel, rfl, by decide +kernel, by decide +kernel⟩
abbrev s_balanced_number : Stmt := topS 14
theorem sc_balanced_number : FnScope ["row", "number", "ones", "place", "sign", "left"] ["row"] (defScope s_balanced_number) := ⟨rfl, rfl, rfl, by decide +kernel, rfl, by decide +kernel, by decide +kernel⟩
abbrev s_head_for : Stmt := topS 15
theorem sc_head_for : FnScope ["many", "found"] ["many"] (defScope s_head_for) := ⟨rfl, rfl, rfl, by decide +kernel, rfl, by decide +kernel, by decide +kernel⟩
abbrev s_balance_written : Stmt := topS 16
theorem sc_balance_written : FnScope ["row", "many"] ["row"] (defScope s_balance_written) := ⟨rfl, rfl, rfl, by decide +kernel, rfl, by decide +kernel, by decide +kernel⟩
abbrev s_balance_read : Stmt := topS 17
theorem sc_balance_read : FnScope ["row", "many", "head", "first", "found"] ["row", "many"] (defScope s_balance_read) := ⟨rfl, rfl, rfl, by decide +kernel, rfl, by decide +kernel, by decide +kernel⟩
abbrev s_is_long : Stmt := topS 19
theorem sc_is_long : FnScope ["row", "most"] ["row", "most"] (defScope s_is_long) := ⟨rfl, rfl, rfl, by decide +kernel, rfl, by decide +kernel, by decide +kernel⟩
abbrev s_stuffed : Stmt := topS 20
theorem sc_stuffed : FnScope ["row", "most", "told", "sign"] ["row", "most"] (defScope s_stuffed) := ⟨rfl, rfl, rfl, by decide +kernel, rfl, by decide +kernel, by decide +kernel⟩
abbrev s_unstuffed : Stmt := topS 21
theorem sc_unstuffed : FnScope ["row", "most", "found", "place"] ["row", "most"] (defScope s_unstuffed) := ⟨rfl, rfl, rfl, by decide +kernel, rfl, by decide +kernel, by decide +kernel⟩
abbrev s_own_places : Stmt := topS 22
theorem sc_own_places : FnScope ["row", "most", "found", "place"] ["row", "most"] (defScope s_own_places) := ⟨rfl, rfl, rfl, by decide +kernel, rfl, by decide +kernel, by decide +kernel⟩
abbrev s__law_cell_at : Stmt := topS 24
theorem sc__law_cell_at : FnScope ["script", "k"] ["script", "k"] (defScope s__law_cell_at) := ⟨rfl, rfl, rfl, by decide +kernel, rfl, by decide +kernel, by decide +kernel⟩
abbrev s__law_box : Stmt := topS 25
theorem sc__law_box : FnScope ["script", "k", "cell"] ["script", "k"] (defScope s__law_box) := ⟨rfl, rfl, rfl, by decide +kernel, rfl, by decide +kernel, by decide +kernel⟩
abbrev s__law_take : Stmt := topS 26
theorem sc__law_take : FnScope ["box", "many", "found", "once", "twice"] ["box", "many"] (defScope s__law_take) := ⟨rfl, rfl, rfl, by decide +kernel, rfl, by decide +kernel, by decide +kernel⟩
abbrev s__law_row : Stmt := topS 27
theorem sc__law_row : FnScope ["box", "many", "long", "row"] ["box", "many"] (defScope s__law_row) := ⟨rfl, rfl, rfl, by decide +kernel, rfl, by decide +kernel, by decide +kernel⟩
abbrev s__law_other : Stmt := topS 28
theorem sc__law_other : FnScope ["bits", "bit"] ["bits"] (defScope s__law_other) := ⟨rfl, rfl, rfl, by decide +kernel, rfl, by decide +kernel, by decide +kernel⟩
abbrev s__law_stuffed : Stmt := topS 29
theorem sc__law_stuffed : FnScope ["row", "most", "told", "same", "bit"] ["row", "most"] (defScope s__law_stuffed) := ⟨rfl, rfl, rfl, by decide +kernel, rfl, by decide +kernel, by decide +kernel⟩
abbrev s__law_unstuffed : Stmt := topS 30
theorem sc__law_unstuffed : FnScope ["row", "most", "found", "last", "same", "at", "bit"] ["row", "most"] (defScope s__law_unstuffed) := ⟨rfl, rfl, rfl, by decide +kernel, rfl, by decide +kernel, by decide +kernel⟩
abbrev s__law_spoilt : Stmt := topS 31
theorem sc__law_spoilt : FnScope ["box", "row", "far", "at", "way"] ["box", "row"] (defScope s__law_spoilt) := ⟨rfl, rfl, rfl, by decide +kernel, rfl, by decide +kernel, by decide +kernel⟩
abbrev s__law_stuffing_right : Stmt := topS 32
theorem sc__law_stuffing_right : FnScope ["box", "most", "row", "good", "turn", "bent", "found"] ["box"] (defScope s__law_stuffing_right) := ⟨rfl, rfl, rfl, by decide +kernel, rfl, by decide +kernel, by decide +kernel⟩
abbrev s__law_count : Stmt := topS 33
theorem sc__law_count : FnScope ["many", "found", "k"] ["many"] (defScope s__law_count) := ⟨rfl, rfl, rfl, by decide +kernel, rfl, by decide +kernel, by decide +kernel⟩
abbrev s__law_head : Stmt := topS 34
theorem sc__law_head : FnScope ["many", "head"] ["many"] (defScope s__law_head) := ⟨rfl, rfl, rfl, by decide +kernel, rfl, by decide +kernel, by decide +kernel⟩
abbrev s__law_balanced : Stmt := topS 35
theorem sc__law_balanced : FnScope ["many", "number", "row", "ones", "place", "left", "less", "k"] ["many", "number"] (defScope s__law_balanced) := ⟨rfl, rfl, rfl, by decide +kernel, rfl, by decide +kernel, by decide +kernel⟩
abbrev s__law_turnings : Stmt := topS 36
theorem sc__law_turnings : FnScope ["row", "whole", "found", "many", "bit"] ["row"] (defScope s__law_turnings) := ⟨rfl, rfl, rfl, by decide +kernel, rfl, by decide +kernel, by decide +kernel⟩
abbrev s__law_balance_told : Stmt := topS 37
theorem sc__law_balance_told : FnScope ["row", "many", "found"] ["row", "many"] (defScope s__law_balance_told) := ⟨rfl, rfl, rfl, by decide +kernel, rfl, by decide +kernel, by decide +kernel⟩
abbrev s__law_balance_right : Stmt := topS 38
theorem sc__law_balance_right : FnScope ["box", "most", "many", "row", "first", "head", "body", "good", "at", "wrong", "bent", "number", "meets", "greatest", "some", "back", "fits"] ["box", "most"] (defScope s__law_balance_right) := ⟨rfl, rfl, rfl, by decide +kernel, rfl, by decide +kernel, by decide +kernel⟩
abbrev s__law_heads_right : Stmt := topS 39
theorem sc__law_heads_right : FnScope ["box", "great", "count", "many"] ["box"] (defScope s__law_heads_right) := ⟨rfl, rfl, rfl, by decide +kernel, rfl, by decide +kernel, by decide +kernel⟩
abbrev s_law : Stmt := topS 40
theorem sc_law : FnScope ["script", "k", "box"] ["script"] (defScope s_law) := ⟨rfl, rfl, rfl, by decide +kernel, rfl, by decide +kernel, by decide +kernel⟩
abbrev a_NoRow : Addr := 49
structure Ad where
  f_exchanged : Addr
  d_exchanged : FuncData
  f_sums : Addr
  d_sums : FuncData
  f_sum_of : Addr
  d_sum_of : FuncData
  f_turned : Addr
  d_turned : FuncData
  f_turning : Addr
  d_turning : FuncData
  f_choices : Addr
  d_choices : FuncData
  f_balanced_count : Addr
  d_balanced_count : FuncData
  f_balanced_at : Addr
  d_balanced_at : FuncData
  f_balanced_number : Addr
  d_balanced_number : FuncData
  f_head_for : Addr
  d_head_for : FuncData
  f_balance_written : Addr
  d_balance_written : FuncData
  f_balance_read : Addr
  d_balance_read : FuncData
  f_is_long : Addr
  d_is_long : FuncData
  f_stuffed : Addr
  d_stuffed : FuncData
  f_unstuffed : Addr
  d_unstuffed : FuncData
  f_own_places : Addr
  d_own_places : FuncData
  f__law_cell_at : Addr
  d__law_cell_at : FuncData
  f__law_box : Addr
  d__law_box : FuncData
  f__law_take : Addr
  d__law_take : FuncData
  f__law_row : Addr
  d__law_row : FuncData
  f__law_other : Addr
  d__law_other : FuncData
  f__law_stuffed : Addr
  d__law_stuffed : FuncData
  f__law_unstuffed : Addr
  d__law_unstuffed : FuncData
  f__law_spoilt : Addr
  d__law_spoilt : FuncData
  f__law_stuffing_right : Addr
  d__law_stuffing_right : FuncData
  f__law_count : Addr
  d__law_count : FuncData
  f__law_head : Addr
  d__law_head : FuncData
  f__law_balanced : Addr
  d__law_balanced : FuncData
  f__law_turnings : Addr
  d__law_turnings : FuncData
  f__law_balance_told : Addr
  d__law_balance_told : FuncData
  f__law_balance_right : Addr
  d__law_balance_right : FuncData
  f__law_heads_right : Addr
  d__law_heads_right : FuncData
  f_law : Addr
  d_law : FuncData
structure Tx (K : PySem.W.Frag) (mg : Str → Option Value) (a : Ad) : Prop where
  F_exchanged : Fun K "exchanged" "exchanged" s_exchanged a.f_exchanged a.d_exchanged
  g_exchanged : mg "exchanged" = some (.ref a.f_exchanged)
  b_exchanged : Binds K a.d_exchanged ["row"] []
  F_sums : Fun K "sums" "sums" s_sums a.f_sums a.d_sums
  g_sums : mg "sums" = some (.ref a.f_sums)
  b_sums : Binds K a.d_sums ["row"] []
  F_sum_of : Fun K "sum_of" "sum_of" s_sum_of a.f_sum_of a.d_sum_of
  g_sum_of : mg "sum_of" = some (.ref a.f_sum_of)
  b_sum_of : Binds K a.d_sum_of ["row"] []
  F_turned : Fun K "turned" "turned" s_turned a.f_turned a.d_turned
  g_turned : mg "turned" = some (.ref a.f_turned)
  b_turned : Binds K a.d_turned ["row", "many"] []
  F_turning : Fun K "turning" "turning" s_turning a.f_turning a.d_turning
  g_turning : mg "turning" = some (.ref a.f_turning)
  b_turning : Binds K a.d_turning ["row"] []
  F_choices : Fun K "choices" "choices" s_choices a.f_choices a.d_choices
  g_choices : mg "choices" = some (.ref a.f_choices)
  b_choices : Binds K a.d_choices ["many", "ones"] []
  F_balanced_count : Fun K "balanced_count" "balanced_count" s_balanced_count a.f_balanced_count a.d_balanced_count
  g_balanced_count : mg "balanced_count" = some (.ref a.f_balanced_count)
  b_balanced_count : Binds K a.d_balanced_count ["many"] []
  F_balanced_at : Fun K "balanced_at" "balanced_at" s_balanced_at a.f_balanced_at a.d_balanced_at
  g_balanced_at : mg "balanced_at" = some (.ref a.f_balanced_at)
  b_balanced_at : Binds K a.d_balanced_at ["many", "number"] []
  F_balanced_number : Fun K "balanced_number" "balanced_number" s_balanced_number a.f_balanced_number a.d_balanced_number
  g_balanced_number : mg "balanced_number" = some (.ref a.f_balanced_number)
  b_balanced_number : Binds K a.d_balanced_number ["row"] []
  F_head_for : Fun K "head_for" "head_for" s_head_for a.f_head_for a.d_head_for
  g_head_for : mg "head_for" = some (.ref a.f_head_for)
  b_head_for : Binds K a.d_head_for ["many"] []
  F_balance_written : Fun K "balance_written" "balance_written" s_balance_written a.f_balance_written a.d_balance_written
  g_balance_written : mg "balance_written" = some (.ref a.f_balance_written)
  b_balance_written : Binds K a.d_balance_written ["row"] []
  F_balance_read : Fun K "balance_read" "balance_read" s_balance_read a.f_balance_read a.d_balance_read
  g_balance_read : mg "balance_read" = some (.ref a.f_balance_read)
  b_balance_read : Binds K a.d_balance_read ["row", "many"] []
  F_is_long : Fun K "is_long" "is_long" s_is_long a.f_is_long a.d_is_long
  g_is_long : mg "is_long" = some (.ref a.f_is_long)
  b_is_long : Binds K a.d_is_long ["row", "most"] []
  F_stuffed : Fun K "stuffed" "stuffed" s_stuffed a.f_stuffed a.d_stuffed
  g_stuffed : mg "stuffed" = some (.ref a.f_stuffed)
  b_stuffed : Binds K a.d_stuffed ["row", "most"] []
  F_unstuffed : Fun K "unstuffed" "unstuffed" s_unstuffed a.f_unstuffed a.d_unstuffed
  g_unstuffed : mg "unstuffed" = some (.ref a.f_unstuffed)
  b_unstuffed : Binds K a.d_unstuffed ["row", "most"] []
  F_own_places : Fun K "own_places" "own_places" s_own_places a.f_own_places a.d_own_places
  g_own_places : mg "own_places" = some (.ref a.f_own_places)
  b_own_places : Binds K a.d_own_places ["row", "most"] []
  F__law_cell_at : Fun K "_law_cell_at" "_law_cell_at" s__law_cell_at a.f__law_cell_at a.d__law_cell_at
  g__law_cell_at : mg "_law_cell_at" = some (.ref a.f__law_cell_at)
  b__law_cell_at : Binds K a.d__law_cell_at ["script", "k"] []
  F__law_box : Fun K "_law_box" "_law_box" s__law_box a.f__law_box a.d__law_box
  g__law_box : mg "_law_box" = some (.ref a.f__law_box)
  b__law_box : Binds K a.d__law_box ["script", "k"] []
  F__law_take : Fun K "_law_take" "_law_take" s__law_take a.f__law_take a.d__law_take
  g__law_take : mg "_law_take" = some (.ref a.f__law_take)
  b__law_take : Binds K a.d__law_take ["box", "many"] []
  F__law_row : Fun K "_law_row" "_law_row" s__law_row a.f__law_row a.d__law_row
  g__law_row : mg "_law_row" = some (.ref a.f__law_row)
  b__law_row : Binds K a.d__law_row ["box", "many"] []
  F__law_other : Fun K "_law_other" "_law_other" s__law_other a.f__law_other a.d__law_other
  g__law_other : mg "_law_other" = some (.ref a.f__law_other)
  b__law_other : Binds K a.d__law_other ["bits"] []
  F__law_stuffed : Fun K "_law_stuffed" "_law_stuffed" s__law_stuffed a.f__law_stuffed a.d__law_stuffed
  g__law_stuffed : mg "_law_stuffed" = some (.ref a.f__law_stuffed)
  b__law_stuffed : Binds K a.d__law_stuffed ["row", "most"] []
  F__law_unstuffed : Fun K "_law_unstuffed" "_law_unstuffed" s__law_unstuffed a.f__law_unstuffed a.d__law_unstuffed
  g__law_unstuffed : mg "_law_unstuffed" = some (.ref a.f__law_unstuffed)
  b__law_unstuffed : Binds K a.d__law_unstuffed ["row", "most"] []
  F__law_spoilt : Fun K "_law_spoilt" "_law_spoilt" s__law_spoilt a.f__law_spoilt a.d__law_spoilt
  g__law_spoilt : mg "_law_spoilt" = some (.ref a.f__law_spoilt)
  b__law_spoilt : Binds K a.d__law_spoilt ["box", "row"] []
  F__law_stuffing_right : Fun K "_law_stuffing_right" "_law_stuffing_right" s__law_stuffing_right a.f__law_stuffing_right a.d__law_stuffing_right
  g__law_stuffing_right : mg "_law_stuffing_right" = some (.ref a.f__law_stuffing_right)
  b__law_stuffing_right : Binds K a.d__law_stuffing_right ["box"] []
  F__law_count : Fun K "_law_count" "_law_count" s__law_count a.f__law_count a.d__law_count
  g__law_count : mg "_law_count" = some (.ref a.f__law_count)
  b__law_count : Binds K a.d__law_count ["many"] []
  F__law_head : Fun K "_law_head" "_law_head" s__law_head a.f__law_head a.d__law_head
  g__law_head : mg "_law_head" = some (.ref a.f__law_head)
  b__law_head : Binds K a.d__law_head ["many"] []
  F__law_balanced : Fun K "_law_balanced" "_law_balanced" s__law_balanced a.f__law_balanced a.d__law_balanced
  g__law_balanced : mg "_law_balanced" = some (.ref a.f__law_balanced)
  b__law_balanced : Binds K a.d__law_balanced ["many", "number"] []
  F__law_turnings : Fun K "_law_turnings" "_law_turnings" s__law_turnings a.f__law_turnings a.d__law_turnings
  g__law_turnings : mg "_law_turnings" = some (.ref a.f__law_turnings)
  b__law_turnings : Binds K a.d__law_turnings ["row"] []
  F__law_balance_told : Fun K "_law_balance_told" "_law_balance_told" s__law_balance_told a.f__law_balance_told a.d__law_balance_told
  g__law_balance_told : mg "_law_balance_told" = some (.ref a.f__law_balance_told)
  b__law_balance_told : Binds K a.d__law_balance_told ["row", "many"] []
  F__law_balance_right : Fun K "_law_balance_right" "_law_balance_right" s__law_balance_right a.f__law_balance_right a.d__law_balance_right
  g__law_balance_right : mg "_law_balance_right" = some (.ref a.f__law_balance_right)
  b__law_balance_right : Binds K a.d__law_balance_right ["box", "most"] []
  F__law_heads_right : Fun K "_law_heads_right" "_law_heads_right" s__law_heads_right a.f__law_heads_right a.d__law_heads_right
  g__law_heads_right : mg "_law_heads_right" = some (.ref a.f__law_heads_right)
  b__law_heads_right : Binds K a.d__law_heads_right ["box"] []
  F_law : Fun K "law" "law" s_law a.f_law a.d_law
  g_law : mg "law" = some (.ref a.f_law)
  b_law : Binds K a.d_law ["script"] []
  e_NoRow : ClsAt K mg "NoRow" a_NoRow
  s_NoRow_NoRow : PySem.W.subIn K (.ref a_NoRow) (.ref a_NoRow) = some true
  m_abs : mg "abs" = none
  m_enumerate : mg "enumerate" = none
  m_int : mg "int" = none
  m_len : mg "len" = none
  m_min : mg "min" = none
  m_range : mg "range" = none
  m_repr : mg "repr" = none
  m_str : mg "str" = none
  m_sum : mg "sum" = none

end K90
namespace K90
open PySem PySem.Spec PyProof.Rows L2 G
variable {P : Program} {w : World} {K : PySem.W.Frag} {mg : Str → Option Value} {base : Heap} {a : Ad}
local macro_rules | `(tactic| walk_at "wk") => `(tactic| repeat first | exact Wk.nil' | refine Wk.eq ?_ | refine Wk.un ?_ | refine Wk.eqv ?_ ?_)
local macro_rules | `(tactic| walk_at "ev") => `(tactic| (repeat (first | with_reducible refine nxt_go ?_ | dsimp only [↓mVar, ↓mC, ↓mBin, ↓mTst, ↓mAndT, ↓mOrT, ↓mNotT, ↓mAndV, ↓mOrV, ↓mNotV, ↓mIf, ↓mChain, ↓mNil, ↓mCons, ↓mTup, ↓mLst, ↓mFz, ↓mIxV, ↓mNoP, ↓mSoP, ↓mSl, ↓mNeg, ↓mNx, ↓mSeq, ↓mBk, ↓mCt, ↓mEx, ↓mIfS, ↓mXe, ↓mXo, ↓mSet, ↓mRet, ↓mRetO, ↓mRetN, ↓mRetV, ↓mAug, ↓gN, ↓gNl, ↓gCs, ↓gT, ↓iL, ↓iT, ↓iS, ↓iR1, ↓iR2, ↓iR3, ↓iEn, ↓iEnS, ↓iZp, ↓iRv, ↓mYes, ↓mCall, ↓mCallO, ↓mCallM, ↓mBf, ↓mLi, ↓mLenV, ↓mMut, ↓mMt, ↓mSub, ↓mUnp, ↓mPar2, ↓mPar3, ↓mSm, ↓mBits, ↓mNever, ↓mFzS, ↓mCmpV, ↓mRaise, ↓mTry, ↓mRep, ↓wipeS, ↓fAdd_int, ↓fAddI_int, ↓fSub_int, ↓fLt_int, ↓fLe_int, ↓fGt_int, ↓fGe_int, ↓fEq_int, ↓fNe_int, ↓fEq_bl, ↓fNe_bl, ↓Nat.reduceAdd, ↓Nat.reduceSub, ↓List.reduceReplicate, ↓List.map, ↓List.replicate, ↓List.length, ↓List.append, ↓List.cons_append, ↓List.nil_append, ↓List.set, ↓List.getElem?_cons_zero, ↓List.getElem?_cons_succ, ↓List.set_cons_zero, ↓List.set_cons_succ, ↓List.length_cons, ↓List.length_nil, rvD_fz, rvD_ow, PEnds.loop])))
def m_sums : MS := mSeq (mSet 1 (mXo (mLst (mCons (mC (.int 0)) (mNil))))) (mSeq (mFor (iS (mVar 0)) (gN 2) (mEx (mMt fApp 1 (mCons (mBin fSub (mBin fAdd (mIxV 1 (mNeg (mC (.int 1)))) (mBin fMul (mC (.int 2)) (mBf fInt (mCons (mVar 2) (mNil))))) (mC (.int 1))) (mNil))))) (mRet (mVar 1)))
theorem bd_sums (T : Tx K mg a) : Bd P w K mg base 0 ["row", "found", "sign"] s_sums m_sums := ⟨fun qual f cdv A outer s H E hr tk pw =>
  gss_cons (gs_set (gx_o (go_lst (ga_cons (ge_int) (ga_nil)))) sc_sums.nd) (gss_cons (gs_for pw rfl (gi_str (ge_var)) (gg_name sc_sums.nd) (gss_one (gs_expr (ge_mut PySem.F.slot_list_append PySem.F.type_list_append (MtM.r mt_append) md_app (ga_cons (ge_bin op_sub od_sub (ge_bin op_addA od_add (ge_ixv (ge_neg (ge_int))) (ge_bin op_mulA od_mul (ge_int) (ge_bt call_intA cd_int T.m_int (ga_cons (ge_var) (ga_nil))))) (ge_int)) (ga_nil)))))) (gss_one (gs_ret (ge_var))))⟩
def c_sums : CtP := fun ds P _ => ∃ l, ds = [.str (bs l)] ∧ l.length ≤ 100000 ∧ P (.fz (dI (sumsM l)))
theorem G_sums (T : Tx K mg a) : FnOk P w K mg base (L2.CX P w) 1 a.f_sums a.d_sums ["row"] (spP K c_sums) :=
  fn_P T.F_sums sc_sums (by rintro ds P PX ⟨l, rfl, _⟩; rfl) (bd_sums T) fun ds P PX h => by
  obtain ⟨l, rfl, hl, hp⟩ := h
  unfold m_sums
  walk_at "ev"
  refine ⟨by decide, ?_⟩
  walk_at "ev"
  refine for_run (fun _ q => q) (signs_bs l) (fun k => [.fz (.str (bs l)), .ow none (.lst ((sumsM (l.take k)).map .int)), .un]) (by walk_at "wk") (fun k b hk => ?_) ?_
  · have hb : (l.take k).length ≤ 100000 := by rw [List.length_take]; omega
    walk_at "ev"
    refine ⟨_, atI_map (sumsM_last _), ?_⟩
    refine fInt_sb ?_
    refine fMul_small (by decide) ?_
    refine ⟨sl_lt (by rw [List.length_map, sumsM_len]; omega), ?_⟩
    refine lp_of ?_
    walk_at "wk"
    rw [take_snoc hk, sumsM_snoc, List.map_append]
    have : sumL (l.take k) + 2 * bi b - 1 = sumL (l.take k) + pm b := by unfold pm; omega
    rw [this]
    rfl
  · walk_at "ev"
    rw [List.take_length]
    walk_at "ev"
    exact hp

def m_exchanged : MS := mRet (mSm fJoin (mC (.str "")) (mFz (mLc (iS (mVar 0)) (gN 1) (mYes) (mBin fIx (mC (.str "10")) (mBf fInt (mCons (mVar 1) (mNil)))) [1])))
theorem bd_exchanged (T : Tx K mg a) : Bd P w K mg base 0 ["row", "sign"] s_exchanged m_exchanged := ⟨fun qual f cdv A outer s H E hr tk pw =>
  gss_one (gs_ret (ge_sm PySem.F.slot_str_join PySem.F.type_str_join mt_join sd_join (ge_str) (ge_fz (go_lc (own := [("sign", 1)]) rfl sc_exchanged.nd (gi_str (ge_var)) (blkOk_by (N := ["row", "sign"]) (sc := defScope s_exchanged) (by decide +kernel)) (fun _ _ _ _ _ => gg_name sc_exchanged.nd) (fun _ _ _ _ _ => gts_nil) (fun _ _ _ _ _ => ge_ix (ge_str) (ge_bt call_intA cd_int T.m_int (ga_cons (ge_var) (ga_nil))))))))⟩
def c_exchanged : CtP := fun ds P _ => ∃ l, ds = [.str (bs l)] ∧ l.length ≤ 100000 ∧ P (.fz (.str (bs (l.map not))))
theorem G_exchanged (T : Tx K mg a) : FnOk P w K mg base (L2.CX P w) 1 a.f_exchanged a.d_exchanged ["row"] (spP K c_exchanged) :=
  fn_P T.F_exchanged sc_exchanged (by rintro ds P PX ⟨l, rfl, _⟩; rfl) (bd_exchanged T) fun ds P PX h => by
  obtain ⟨l, rfl, hl, hp⟩ := h
  unfold m_exchanged
  walk_at "ev"
  refine lc_run (fun _ q => q) (signs_bs l) (fun k => (l.take k).map fun b => sb (!b)) (fun _ => [.fz (.str (bs l)), .un]) ⟨rfl, rfl⟩ (fun k b hk => ?_) ?_
  · walk_at "ev"
    refine ⟨fun _ => ?_, fun z => nomatch z⟩
    refine fInt_sb ?_
    refine ix10 ?_
    obtain ⟨h1, h2⟩ := acc_map (F := fun b => sb (!b)) hk rfl (by omega)
    exact ⟨h1, h2, rfl⟩
  · rw [List.take_length]
    have e : (l.map fun b => sb (!b)) = (l.map not).map sb := by rw [List.map_map]; rfl
    rw [e]
    exact fJoin_sb (by rw [List.length_map]; omega) hp

def m_sum_of : MS := mRet (mBin fIx (mCall c_sums (mCons (mVar 0) (mNil))) (mNeg (mC (.int 1))))
theorem bd_sum_of (T : Tx K mg a) : Bd P w K mg base 1 ["row"] s_sum_of m_sum_of := ⟨fun qual f cdv A outer s H E hr tk pw =>
  gss_one (gs_ret (ge_ix (ge_call (G_sums T) (hr.mono (by decide)) T.g_sums T.F_sums.kp T.b_sums tk (ga_cons (ge_var) (ga_nil))) (ge_neg (ge_int))))⟩
def c_sum_of : CtP := fun ds P _ => ∃ l, ds = [.str (bs l)] ∧ l.length ≤ 100000 ∧ P (.fz (.int (sumL l)))
theorem G_sum_of (T : Tx K mg a) : FnOk P w K mg base (L2.CX P w) 2 a.f_sum_of a.d_sum_of ["row"] (spP K c_sum_of) :=
  fn_P T.F_sum_of sc_sum_of (by rintro ds P PX ⟨l, rfl, _⟩; rfl) (bd_sum_of T) fun ds P PX h => by
  obtain ⟨l, rfl, hl, hp⟩ := h
  unfold m_sum_of
  walk_at "ev"
  exact ⟨l, rfl, hl, _, atI_map (sumsM_last l), hp⟩

def m_turned : MS := mRet (mBin fAdd (mCall c_exchanged (mCons (mSl (mVar 0) (mNoP) (mSoP (mVar 1))) (mNil))) (mSl (mVar 0) (mSoP (mVar 1)) (mNoP)))
theorem bd_turned (T : Tx K mg a) : Bd P w K mg base 1 ["row", "many"] s_turned m_turned := ⟨fun qual f cdv A outer s H E hr tk pw =>
  gss_one (gs_ret (ge_bin op_addA od_add (ge_call (G_exchanged T) (hr.mono (by decide)) T.g_exchanged T.F_exchanged.kp T.b_exchanged tk (ga_cons (ge_sl (ge_var) (gp_none) (gp_some (ge_var))) (ga_nil))) (ge_sl (ge_var) (gp_some (ge_var)) (gp_none))))⟩
def c_turned : CtP := fun ds P _ => ∃ l, ∃ n : Nat, ds = [.str (bs l), .int n] ∧ l.length ≤ 100000 ∧ P (.fz (.str (bs (turnedM l n))))
theorem G_turned (T : Tx K mg a) : FnOk P w K mg base (L2.CX P w) 2 a.f_turned a.d_turned ["row", "many"] (spP K c_turned) :=
  fn_P T.F_turned sc_turned (by rintro ds P PX ⟨l, n, rfl, _⟩; rfl) (bd_turned T) fun ds P PX h => by
  obtain ⟨l, n, rfl, hl, hp⟩ := h
  unfold m_turned
  walk_at "ev"
  refine fSl_bs (by omega) ?_
  rw [cutD_to]
  have h1 : (l.take n).length ≤ 100000 := by rw [List.length_take]; omega
  refine ⟨_, rfl, h1, ?_⟩
  walk_at "ev"
  refine fSl_bs (by omega) ?_
  rw [cutD_from]
  refine fAdd_bs (by rw [List.length_map, List.length_take, List.length_drop]; omega) ?_
  walk_at "ev"
  exact hp

def m_turning : MS := mSeq (mSet 1 (mXe (mC (.int 0)))) (mSeq (mWhile (mTst (mBin fNe (mCall c_sum_of (mCons (mCall c_turned (mCons (mVar 0) (mCons (mVar 1) (mNil)))) (mNil))) (mC (.int 0)))) (mAug 1 fAddI (mC (.int 1)))) (mRet (mVar 1)))
theorem bd_turning (T : Tx K mg a) : Bd P w K mg base 2 ["row", "many"] s_turning m_turning := ⟨fun qual f cdv A outer s H E hr tk pw =>
  gss_cons (gs_set (gx_e (ge_int)) sc_turning.nd) (gss_cons (gs_while pw (gt_cmp (op_neA hr.units) od_ne (ge_call (G_sum_of T) (hr.mono (by decide)) T.g_sum_of T.F_sum_of.kp T.b_sum_of tk (ga_cons (ge_call (G_turned T) (hr.mono (by decide)) T.g_turned T.F_turned.kp T.b_turned tk (ga_cons (ge_var) (ga_cons (ge_var) (ga_nil)))) (ga_nil))) (ge_int)) (gss_one (gs_aug iop_addA od_addI (ge_int) sc_turning.nd))) (gss_one (gs_ret (ge_var))))⟩
def c_turning : CtP := fun ds P _ => ∃ l, ∃ n : Nat, ds = [.str (bs l)] ∧ l.length ≤ 100000 ∧ IsTurn l n ∧ P (.fz (.int n))
theorem G_turning (T : Tx K mg a) : FnOk P w K mg base (L2.CX P w) 3 a.f_turning a.d_turning ["row"] (spP K c_turning) :=
  fn_P T.F_turning sc_turning (by rintro ds P PX ⟨l, n, rfl, _⟩; rfl) (bd_turning T) fun ds P PX h => by
  obtain ⟨l, n, rfl, hl, ht, hp⟩ := h
  unfold m_turning
  walk_at "ev"
  refine while_env n (fun k => [.fz (.str (bs l)), .fz (.int (k : Nat))]) (by walk_at "wk") (fun k hk => ?_)
  walk_at "ev"
  refine ⟨l, k, rfl, hl, ?_⟩
  refine ⟨turnedM l k, rfl, by rw [turned_len]; exact hl, ?_⟩
  rw [turned_sum]
  refine ⟨fun z => ?_, fun z => ?_⟩
  · have z : half l k ≠ 0 := fun y => by simp [show sumL l - 2 * sumL (l.take k) = 0 from y] at z
    have hlt : k < n := by
      rcases Nat.lt_or_ge k n with y | y
      · exact y
      · have : k = n := by omega
        subst this
        exact absurd ht.1 z
    walk_at "ev"
    exact while_next hlt (by walk_at "wk")
  · have z : half l k = 0 := by
      have : decide (sumL l - 2 * sumL (l.take k) = 0) = true := by
        cases h : decide (sumL l - 2 * sumL (l.take k) = 0) with
        | true => rfl
        | false => rw [h] at z; exact nomatch z
      exact of_decide_eq_true this
    have : k = n := by
      rcases Nat.lt_or_ge k n with y | y
      · exact absurd z (ht.2 k y)
      · omega
    subst this
    walk_at "ev"
    exact hp

def m_choices : MS := mSeq (mSet 2 (mXe (mC (.int 1)))) (mSeq (mFor (iR1 (mCons (mVar 1) (mNil))) (gN 3) (mSet 2 (mXe (mBin fDiv (mBin fMul (mVar 2) (mBin fSub (mVar 0) (mVar 3))) (mBin fAdd (mVar 3) (mC (.int 1))))))) (mRet (mVar 2)))
theorem bd_choices (T : Tx K mg a) : Bd P w K mg base 0 ["many", "ones", "found", "k"] s_choices m_choices := ⟨fun qual f cdv A outer s H E hr tk pw =>
  gss_cons (gs_set (gx_e (ge_int)) sc_choices.nd) (gss_cons (gs_for pw rfl (gi_range1 T.m_range (ga_cons (ge_var) (ga_nil))) (gg_name sc_choices.nd) (gss_one (gs_set (gx_e (ge_bin op_fdivW od_div (ge_bin op_mulA od_mul (ge_var) (ge_bin op_sub od_sub (ge_var) (ge_var))) (ge_bin op_addA od_add (ge_var) (ge_int)))) sc_choices.nd))) (gss_one (gs_ret (ge_var))))⟩
def c_choices : CtP := fun ds P _ => ∃ n k : Nat, ds = [.int n, .int k] ∧ n ≤ 1000 ∧ k ≤ n ∧ P (.fz (.int (ch n k : Nat)))
theorem G_choices (T : Tx K mg a) : FnOk P w K mg base (L2.CX P w) 1 a.f_choices a.d_choices ["many", "ones"] (spP K c_choices) :=
  fn_P T.F_choices sc_choices (by rintro ds P PX ⟨n, k, rfl, _⟩; rfl) (bd_choices T) fun ds P PX h => by
  obtain ⟨n, k, rfl, hn, hk, hp⟩ := h
  unfold m_choices
  walk_at "ev"
  refine for_run (fun _ q => ⟨⟨by omega, by omega⟩, q⟩) (range_map k 0 1) (fun i => [.fz (.int n), .fz (.int k), .fz (.int (ch n i : Nat)), .un]) (by walk_at "wk"; rw [ch_zero]; rfl) (fun i x hx => ?_) ?_
  · obtain ⟨rfl, hlt⟩ := range_get hx
    have hi : x < k := by omega
    walk_at "ev"
    refine chose2 hn (by omega) ?_
    exact lp_of (by walk_at "wk")
  · walk_at "ev"
    rw [List.length_range]
    walk_at "ev"
    exact hp

def m_balanced_count : MS := mRet (mIf (mTst (mBin fEq (mBin fMod (mVar 0) (mC (.int 2))) (mC (.int 1)))) (mC (.int 0)) (mCall c_choices (mCons (mVar 0) (mCons (mBin fDiv (mVar 0) (mC (.int 2))) (mNil)))))
theorem bd_balanced_count (T : Tx K mg a) : Bd P w K mg base 1 ["many"] s_balanced_count m_balanced_count := ⟨fun qual f cdv A outer s H E hr tk pw =>
  gss_one (gs_ret (ge_if (gt_cmp (op_eqA hr.units) od_eq (ge_bin op_mod od_mod (ge_var) (ge_int)) (ge_int)) (ge_int) (ge_call (G_choices T) (hr.mono (by decide)) T.g_choices T.F_choices.kp T.b_choices tk (ga_cons (ge_var) (ga_cons (ge_bin op_fdivW od_div (ge_var) (ge_int)) (ga_nil))))))⟩
def c_balanced_count : CtP := fun ds P _ => ∃ h : Nat, ds = [.int (2 * h : Nat)] ∧ 2 * h ≤ 1000 ∧ P (.fz (.int (ch (2 * h) h : Nat)))
theorem G_balanced_count (T : Tx K mg a) : FnOk P w K mg base (L2.CX P w) 2 a.f_balanced_count a.d_balanced_count ["many"] (spP K c_balanced_count) :=
  fn_P T.F_balanced_count sc_balanced_count (by rintro ds P PX ⟨n, rfl, _⟩; rfl) (bd_balanced_count T) fun ds P PX h => by
  obtain ⟨n, rfl, hn, hp⟩ := h
  unfold m_balanced_count
  walk_at "ev"
  refine ⟨by decide, ?_⟩
  refine ⟨fun z => ?_, fun _ => ?_⟩
  · exfalso
    have z := of_decide_eq_true z
    omega
  · refine ⟨⟨by decide, by decide⟩, ?_⟩
    refine ⟨2 * n, n, ?_, hn, by omega, hp⟩
    have : ((2 * n : Nat) : Int) / 2 = (n : Nat) := by omega
    rw [this]

def m_balanced_number : MS := mSeq (mIfS (mTst (mBin fNe (mCall c_sum_of (mCons (mVar 0) (mNil))) (mC (.int 0)))) (mRaise a_NoRow) (mNx)) (mSeq (mSet 1 (mXe (mC (.int 0)))) (mSeq (mSet 2 (mXe (mBin fDiv (mBf fLen (mCons (mVar 0) (mNil))) (mC (.int 2))))) (mSeq (mFor (iEnS (mCons (mVar 0) (mNil))) (gT (gCs (gN 3) (gCs (gN 4) (gNl)))) (mIfS (mTst (mBin fEq (mVar 4) (mC (.str "1")))) (mSeq (mSet 5 (mXe (mBin fSub (mBin fSub (mBf fLen (mCons (mVar 0) (mNil))) (mVar 3)) (mC (.int 1))))) (mSeq (mAug 1 fAddI (mIf (mTst (mBin fLe (mVar 2) (mVar 5))) (mCall c_choices (mCons (mVar 5) (mCons (mVar 2) (mNil)))) (mC (.int 0)))) (mAug 2 fSub (mC (.int 1))))) (mNx))) (mRet (mVar 1)))))
theorem bd_balanced_number (T : Tx K mg a) : Bd P w K mg base 2 ["row", "number", "ones", "place", "sign", "left"] s_balanced_number m_balanced_number := ⟨fun qual f cdv A outer s H E hr tk pw =>
  gss_cons (gs_if (gt_cmp (op_neA hr.units) od_ne (ge_call (G_sum_of T) (hr.mono (by decide)) T.g_sum_of T.F_sum_of.kp T.b_sum_of tk (ga_cons (ge_var) (ga_nil))) (ge_int)) (gss_one (gs_raise T.e_NoRow rfl tk)) (gss_nil)) (gss_cons (gs_set (gx_e (ge_int)) sc_balanced_number.nd) (gss_cons (gs_set (gx_e (ge_bin op_fdivW od_div (ge_bf call_len cd_len T.m_len (ga_cons (ge_var) (ga_nil))) (ge_int))) sc_balanced_number.nd) (gss_cons (gs_for pw rfl (gi_enumS T.m_enumerate (ga_cons (ge_var) (ga_nil))) (gg_tup2 rfl (gg_name sc_balanced_number.nd) (gg_name sc_balanced_number.nd)) (gss_one (gs_if (gt_cmp (op_eqA hr.units) od_eq (ge_var) (ge_str)) (gss_cons (gs_set (gx_e (ge_bin op_sub od_sub (ge_bin op_sub od_sub (ge_bf call_len cd_len T.m_len (ga_cons (ge_var) (ga_nil))) (ge_var)) (ge_int))) sc_balanced_number.nd) (gss_cons (gs_aug iop_addA od_addI (ge_if (gt_cmp op_le od_le (ge_var) (ge_var)) (ge_call (G_choices T) (hr.mono (by decide)) T.g_choices T.F_choices.kp T.b_choices tk (ga_cons (ge_var) (ga_cons (ge_var) (ga_nil)))) (ge_int)) sc_balanced_number.nd) (gss_one (gs_aug iop_sub od_sub (ge_int) sc_balanced_number.nd)))) (gss_nil)))) (gss_one (gs_ret (ge_var))))))⟩
def c_balanced_number : CtP := fun ds P _ => ∃ h l, ds = [.str (bs l)] ∧ 2 * h ≤ 1000 ∧ l.length = 2 * h ∧ cnt l = h ∧ P (.fz (.int (rank l h : Nat)))
theorem G_balanced_number (T : Tx K mg a) : FnOk P w K mg base (L2.CX P w) 3 a.f_balanced_number a.d_balanced_number ["row"] (spP K c_balanced_number) :=
  fn_P T.F_balanced_number sc_balanced_number (by rintro ds P PX ⟨n, m, rfl, _⟩; rfl) (bd_balanced_number T) fun ds P PX h => by
  obtain ⟨h, l, rfl, hn, hl, hc, hp⟩ := h
  unfold m_balanced_number
  walk_at "ev"
  refine ⟨l, rfl, by omega, ?_⟩
  have hz : sumL l = 0 := by rw [sumL_cnt]; omega
  rw [hz]
  walk_at "ev"
  refine ⟨fun z => absurd z (by decide), fun _ => ?_⟩
  walk_at "ev"
  refine fLen_bs (by omega) ?_
  walk_at "ev"
  refine ⟨⟨by decide, by decide⟩, ?_⟩
  have e2 : ((l.length : Nat) : Int) / 2 = (h : Nat) := by omega
  rw [e2]
  have el : (enumD (signs (bs l))) = (List.range l.length).map fun i => D.tup [.int (i : Nat), sb (l.getD i false)] := by
    unfold enumD
    rw [signs_bs, List.length_map]
    apply List.map_congr_left
    intro i hi
    rw [List.mem_range] at hi
    simp [hi]
  walk_at "ev"
  refine for_run (fun _ q => q) el (fun k => [.fz (.str (bs l)), .fz (.int (rkN l h k : Nat)), .fz (.int ((h - cnt (l.take k) : Nat))), .un, .un, .un]) (by walk_at "wk"; rw [rkN_zero]; rfl) (fun k x hx => ?_) ?_
  · obtain ⟨rfl, hk⟩ := range_get hx
    have hb : l[x]? = some (l.getD x false) := by simp [hk]
    generalize l.getD x false = b at hb ⊢
    walk_at "ev"
    rw [lit1]
    walk_at "ev"
    refine fEq_bs ?_
    have hle : cnt (l.take x) ≤ h := by rw [← hc]; exact cnt_le l x
    cases b with
    | false =>
      walk_at "ev"
      refine ⟨fun z => absurd z (by decide), fun _ => ?_⟩
      walk_at "ev"
      refine lp_of ?_
      walk_at "wk"
      · rw [cnt_snoc hb]; rfl
      · rw [rkN_false hb]
    | true =>
      have hlt : cnt (l.take x) < h := by rw [← hc]; exact cnt_lt hb
      walk_at "ev"
      refine ⟨fun _ => ?_, fun z => absurd z (by decide)⟩
      walk_at "ev"
      refine fLen_bs (by omega) ?_
      have e1 : ((l.length : Nat) : Int) - (x : Nat) - 1 = ((l.length - x - 1 : Nat) : Int) := by omega
      walk_at "ev"
      rw [e1]
      refine ⟨fun z => ?a, fun z => ?b⟩
      case' a =>
        have z := of_decide_eq_true z
        refine ⟨_, _, rfl, by omega, by omega, ?_⟩
        clear z
      case' b =>
        have z := of_decide_eq_false z
        have e0 : (0 : Int) = ((ch (l.length - x - 1) (h - cnt (l.take x)) : Nat) : Int) := by rw [ch_big (by omega)]; rfl
        rw [e0]
        clear z e0
      all_goals
        walk_at "ev"
        refine lp_of ?_
        walk_at "wk"
        · rw [cnt_snoc hb]
          show S.fz (.int _) = S.fz (.int (_ - 1))
          congr 2
          simp
          omega
        · rw [rkN_true hb]; rfl
  · walk_at "ev"
    rw [List.length_range, rkN_end]
    walk_at "ev"
    exact hp

def m_balanced_at : MS := mSeq (mIfS (mNotT (mTst (mChain fLe fLt (mC (.int 0)) (mVar 1) (mCall c_balanced_count (mCons (mVar 0) (mNil)))))) (mNever) (mNx)) (mSeq (mSet 2 (mXe (mC (.str "")))) (mSeq (mSet 3 (mXe (mBin fDiv (mVar 0) (mC (.int 2))))) (mSeq (mFor (iR3 (mCons (mVar 0) (mCons (mC (.int 0)) (mCons (mNeg (mC (.int 1))) (mNil))))) (gN 4) (mSeq (mSet 5 (mXe (mIf (mTst (mBin fLt (mVar 3) (mVar 4))) (mCall c_choices (mCons (mBin fSub (mVar 4) (mC (.int 1))) (mCons (mVar 3) (mNil)))) (mC (.int 0))))) (mIfS (mTst (mBin fLt (mVar 1) (mVar 5))) (mSet 2 (mXe (mBin fAdd (mVar 2) (mC (.str "0"))))) (mSeq (mAug 1 fSub (mVar 5)) (mSeq (mSet 2 (mXe (mBin fAdd (mVar 2) (mC (.str "1"))))) (mAug 3 fSub (mC (.int 1)))))))) (mRet (mVar 2)))))
theorem bd_balanced_at (T : Tx K mg a) : Bd P w K mg base 2 ["many", "number", "row", "ones", "left", "ahead"] s_balanced_at m_balanced_at := ⟨fun qual f cdv A outer s H E hr tk pw =>
  gss_cons (gs_if (gt_not (gt_chain op_le op_ltA od_le od_lt (ge_int) (ge_var) (ge_call (G_balanced_count T) (hr.mono (by decide)) T.g_balanced_count T.F_balanced_count.kp T.b_balanced_count tk (ga_cons (ge_var) (ga_nil))))) (gss_one (gs_never)) (gss_nil)) (gss_cons (gs_set (gx_e (ge_str)) sc_balanced_at.nd) (gss_cons (gs_set (gx_e (ge_bin op_fdivW od_div (ge_var) (ge_int))) sc_balanced_at.nd) (gss_cons (gs_for pw rfl (gi_range3 T.m_range (ga_cons (ge_var) (ga_cons (ge_int) (ga_cons (ge_neg (ge_int)) (ga_nil))))) (gg_name sc_balanced_at.nd) (gss_cons (gs_set (gx_e (ge_if (gt_cmp op_ltA od_lt (ge_var) (ge_var)) (ge_call (G_choices T) (hr.mono (by decide)) T.g_choices T.F_choices.kp T.b_choices tk (ga_cons (ge_bin op_sub od_sub (ge_var) (ge_int)) (ga_cons (ge_var) (ga_nil)))) (ge_int))) sc_balanced_at.nd) (gss_one (gs_if (gt_cmp op_ltA od_lt (ge_var) (ge_var)) (gss_one (gs_set (gx_e (ge_bin op_addA od_add (ge_var) (ge_str))) sc_balanced_at.nd)) (gss_cons (gs_aug iop_sub od_sub (ge_var) sc_balanced_at.nd) (gss_cons (gs_set (gx_e (ge_bin op_addA od_add (ge_var) (ge_str))) sc_balanced_at.nd) (gss_one (gs_aug iop_sub od_sub (ge_int) sc_balanced_at.nd)))))))) (gss_one (gs_ret (ge_var))))))⟩
def c_balanced_at : CtP := fun ds P _ => ∃ h num : Nat, ds = [.int (2 * h : Nat), .int num] ∧ 2 * h ≤ 1000 ∧ num < ch (2 * h) h ∧ P (.fz (.str (bs (unr (2 * h) h num))))
theorem G_balanced_at (T : Tx K mg a) : FnOk P w K mg base (L2.CX P w) 3 a.f_balanced_at a.d_balanced_at ["many", "number"] (spP K c_balanced_at) :=
  fn_P T.F_balanced_at sc_balanced_at (by rintro ds P PX ⟨n, m, rfl, _⟩; rfl) (bd_balanced_at T) fun ds P PX h => by
  obtain ⟨h, num, rfl, hn, hlt, hp⟩ := h
  unfold m_balanced_at
  walk_at "ev"
  refine ⟨fun _ => ?_, fun z => absurd z (by simp)⟩
  walk_at "ev"
  refine ⟨h, rfl, hn, ?_⟩
  walk_at "ev"
  refine ⟨fun z => absurd z (by simp [hlt]), fun _ => ?_⟩
  walk_at "ev"
  refine ⟨⟨by decide, by decide⟩, ?_⟩
  have e2 : ((2 * h : Nat) : Int) / 2 = (h : Nat) := by omega
  rw [e2]
  walk_at "ev"
  refine for_inv (fun _ q => ⟨2 * h, by have := RgC.neg (i := ((2 * h : Nat) : Int)) (j := 0) (by omega) (by omega) (by decide) (by decide); rwa [show (((2 * h : Nat) : Int) - 0).toNat = 2 * h by omega] at this, q⟩) (range_map (2 * h) _ (-1))
    (fun k ρ => ∃ (row : List Bool) (ones num' : Nat), ρ = [.fz (.int (2 * h : Nat)), .fz (.int (num' : Nat)), .fz (.str (bs row)), .fz (.int (ones : Nat)), .un, .un] ∧ row.length = k ∧ row ++ unr (2 * h - k) ones num' = unr (2 * h) h num ∧ ones ≤ 2 * h - k ∧ num' < ch (2 * h - k) ones)
    ⟨_, by walk_at "wk", [], h, num, rfl, rfl, rfl, by omega, hlt⟩ (fun k x ρ hx hI => ?_) (fun ρ hI => ?_)
  · obtain ⟨rfl, hk⟩ := range_get hx
    obtain ⟨row, ones, num', rfl, hl, he, ho, hlt'⟩ := hI
    obtain ⟨left, hleft⟩ : ∃ left, 2 * h - x = left + 1 := ⟨2 * h - x - 1, by omega⟩
    have hleft' : 2 * h - (x + 1) = left := by omega
    rw [hleft] at he ho hlt'
    have ex : ((2 * h : Nat) : Int) + (x : Nat) * (-1) = ((left + 1 : Nat) : Int) := by omega
    rw [ex]
    walk_at "ev"
    refine ⟨fun z => ?a, fun z => ?b⟩
    case' a =>
      have z := of_decide_eq_true z
      refine ⟨left, ones, ?_, by omega, by omega, ?_⟩
      · show [D.int (((left + 1 : Nat) : Int) - 1), D.int (ones : Nat)] = _
        rw [show (((left + 1 : Nat) : Int) - 1) = (left : Nat) by omega]
      clear z
    case' b =>
      have z := of_decide_eq_false z
      have e0 : (0 : Int) = ((ch left ones : Nat) : Int) := by rw [ch_big (by omega)]; rfl
      rw [e0]
      clear z e0
    all_goals
      walk_at "ev"
      refine ⟨fun z => ?_, fun z => ?_⟩
      · have z : num' < ch left ones := by have := of_decide_eq_true z; omega
        walk_at "ev"
        rw [lit0]
        refine fAdd_bs (a := row) (b := [false]) (by rw [hl]; show x + 1 ≤ _; omega) ?_
        walk_at "ev"
        refine ⟨_, ?_, row ++ [false], ones, num', rfl, by simp [hl], ?_, ?_, ?_⟩
        · walk_at "wk"
        · rw [← he, hleft']
          rw [unr_lt z, List.append_assoc]
          rfl
        · rw [hleft']
          rcases Nat.lt_or_ge left ones with y | y
          · rw [ch_big y] at z; omega
          · exact y
        · rw [hleft']
          exact z
      · have z : ¬ num' < ch left ones := by have := of_decide_eq_false z; omega
        cases ones with
        | zero => rw [ch_zero] at z hlt'; omega
        | succ o =>
          have hlt2 : num' < ch left o + ch left (o + 1) := hlt'
          walk_at "ev"
          rw [lit1]
          walk_at "ev"
          refine fAdd_bs (a := row) (b := [true]) (by rw [hl]; show x + 1 ≤ _; omega) ?_
          have e1 : ((num' : Nat) : Int) - (ch left (o + 1) : Nat) = ((num' - ch left (o + 1) : Nat) : Int) := by omega
          have e3 : ((o + 1 : Nat) : Int) - 1 = (o : Nat) := by omega
          walk_at "ev"
          refine ⟨_, ?_, row ++ [true], o, num' - ch left (o + 1), rfl, by simp [hl], ?_, by omega, by rw [hleft']; omega⟩
          · walk_at "wk"
            · rw [← e3]
            · rw [← e1]
          · rw [← he, hleft']
            rw [unr_ge z, List.append_assoc]
            rfl
  · obtain ⟨row, ones, num', rfl, hl, he, ho, hlt'⟩ := hI
    walk_at "ev"
    rw [List.length_range, Nat.sub_self] at he
    have : row = unr (2 * h) h num := by rw [← he]; exact (List.append_nil _).symm
    rw [this]
    walk_at "ev"
    exact hp

def m_head_for : MS := mSeq (mSet 1 (mXe (mC (.int 0)))) (mSeq (mWhile (mTst (mBin fLt (mCall c_balanced_count (mCons (mVar 1) (mNil))) (mVar 0))) (mAug 1 fAddI (mC (.int 2)))) (mRet (mVar 1)))
theorem bd_head_for (T : Tx K mg a) : Bd P w K mg base 2 ["many", "found"] s_head_for m_head_for := ⟨fun qual f cdv A outer s H E hr tk pw =>
  gss_cons (gs_set (gx_e (ge_int)) sc_head_for.nd) (gss_cons (gs_while pw (gt_cmp op_ltA od_lt (ge_call (G_balanced_count T) (hr.mono (by decide)) T.g_balanced_count T.F_balanced_count.kp T.b_balanced_count tk (ga_cons (ge_var) (ga_nil))) (ge_var)) (gss_one (gs_aug iop_addA od_addI (ge_int) sc_head_for.nd))) (gss_one (gs_ret (ge_var))))⟩
def c_head_for : CtP := fun ds P _ => ∃ n h : Nat, ds = [.int n] ∧ 2 * h ≤ 1000 ∧ IsHead n h ∧ P (.fz (.int (2 * h : Nat)))
theorem G_head_for (T : Tx K mg a) : FnOk P w K mg base (L2.CX P w) 3 a.f_head_for a.d_head_for ["many"] (spP K c_head_for) :=
  fn_P T.F_head_for sc_head_for (by rintro ds P PX ⟨n, h, rfl, _⟩; rfl) (bd_head_for T) fun ds P PX h => by
  obtain ⟨n, h, rfl, hh, hi, hp⟩ := h
  unfold m_head_for
  walk_at "ev"
  refine while_env h (fun k => [.fz (.int n), .fz (.int (2 * k : Nat))]) (by walk_at "wk") (fun k hk => ?_)
  walk_at "ev"
  refine ⟨k, rfl, by omega, ?_⟩
  walk_at "ev"
  refine ⟨fun z => ?_, fun z => ?_⟩
  · have z := of_decide_eq_true z
    have hlt : k < h := by
      rcases Nat.lt_or_ge k h with y | y
      · exact y
      · have : k = h := by omega
        subst this
        have := hi.1
        omega
    walk_at "ev"
    exact while_next hlt (by walk_at "wk")
  · have z := of_decide_eq_false z
    have : k = h := by
      rcases Nat.lt_or_ge k h with y | y
      · have := hi.2 k y
        omega
      · omega
    subst this
    walk_at "ev"
    exact hp

def m_is_long : MS := mRet (mAndV (mBin fGe (mBf fLen (mCons (mVar 0) (mNil))) (mVar 1)) (mBin fEq (mSl (mVar 0) (mSoP (mNeg (mVar 1))) (mNoP)) (mBin fMul (mBin fIx (mVar 0) (mNeg (mC (.int 1)))) (mVar 1))))
theorem bd_is_long (T : Tx K mg a) : Bd P w K mg base 0 ["row", "most"] s_is_long m_is_long := ⟨fun qual f cdv A outer s H E hr tk pw =>
  gss_one (gs_ret (ge_and (ge_cmp op_ge od_ge (ge_bf call_len cd_len T.m_len (ga_cons (ge_var) (ga_nil))) (ge_var)) (ge_one (ge_cmp (op_eqA hr.units) od_eq (ge_sl (ge_var) (gp_some (ge_neg (ge_var))) (gp_none)) (ge_bin op_mulA od_mul (ge_ix (ge_var) (ge_neg (ge_int))) (ge_var))))))⟩
def c_is_long : CtP := fun ds P _ => ∃ t b, ∃ m : Nat, ds = [.str (bs (t ++ [b])), .int m] ∧ 1 ≤ m ∧ m ≤ 100000 ∧ (t ++ [b]).length ≤ 100000 ∧ P (.fz (.bl (decide (m ≤ trail b (t ++ [b])))))
theorem G_is_long (T : Tx K mg a) : FnOk P w K mg base (L2.CX P w) 1 a.f_is_long a.d_is_long ["row", "most"] (spP K c_is_long) :=
  fn_P T.F_is_long sc_is_long (by rintro ds P PX ⟨t, b, m, rfl, _⟩; rfl) (bd_is_long T) fun ds P PX h => by
  obtain ⟨t, b, m, rfl, h1, h2, h3, hp⟩ := h
  unfold m_is_long
  walk_at "ev"
  refine fLen_bs (by omega) ?_
  walk_at "ev"
  refine ⟨fun z => ?_, fun z => ?_⟩
  · have z : m ≤ (t ++ [b]).length := by have := of_decide_eq_true z; omega
    walk_at "ev"
    refine fSl_bs (by omega) ?_
    rw [cutD_last _ _ (by omega) z]
    walk_at "ev"
    refine fIx_bsl (by omega) ?_
    walk_at "ev"
    refine fMul_sb h2 ?_
    walk_at "ev"
    refine fEq_bs ?_
    have : (m ≤ trail b (t ++ [b])) ↔ ((t ++ [b]).drop ((t ++ [b]).length - m) = List.replicate m b) := by
      rw [trail_iff]
      exact ⟨fun y => y.2, fun y => ⟨z, y⟩⟩
    rw [decide_eq_decide.mpr this] at hp
    walk_at "ev"
    exact hp
  · have z : ¬ m ≤ (t ++ [b]).length := by have := of_decide_eq_false z; omega
    have : ¬ (m ≤ trail b (t ++ [b])) := fun y => z ((trail_iff _ _ _).mp y).1
    rw [decide_eq_false this] at hp
    walk_at "ev"
    exact hp

def m_stuffed : MS := mSeq (mSet 2 (mXe (mC (.str "")))) (mSeq (mFor (iS (mVar 0)) (gN 3) (mSeq (mSet 2 (mXe (mBin fAdd (mVar 2) (mVar 3)))) (mIfS (mTst (mCall c_is_long (mCons (mVar 2) (mCons (mVar 1) (mNil))))) (mSet 2 (mXe (mBin fAdd (mVar 2) (mCall c_exchanged (mCons (mVar 3) (mNil)))))) (mNx)))) (mRet (mVar 2)))
theorem bd_stuffed (T : Tx K mg a) : Bd P w K mg base 1 ["row", "most", "told", "sign"] s_stuffed m_stuffed := ⟨fun qual f cdv A outer s H E hr tk pw =>
  gss_cons (gs_set (gx_e (ge_str)) sc_stuffed.nd) (gss_cons (gs_for pw rfl (gi_str (ge_var)) (gg_name sc_stuffed.nd) (gss_cons (gs_set (gx_e (ge_bin op_addA od_add (ge_var) (ge_var))) sc_stuffed.nd) (gss_one (gs_if (gt_val (ge_call (G_is_long T) (hr.mono (by decide)) T.g_is_long T.F_is_long.kp T.b_is_long tk (ga_cons (ge_var) (ga_cons (ge_var) (ga_nil))))) (gss_one (gs_set (gx_e (ge_bin op_addA od_add (ge_var) (ge_call (G_exchanged T) (hr.mono (by decide)) T.g_exchanged T.F_exchanged.kp T.b_exchanged tk (ga_cons (ge_var) (ga_nil))))) sc_stuffed.nd)) (gss_nil))))) (gss_one (gs_ret (ge_var))))⟩
def c_stuffed : CtP := fun ds P _ => ∃ l, ∃ m : Nat, ds = [.str (bs l), .int m] ∧ 1 ≤ m ∧ m ≤ 100000 ∧ l.length ≤ 40000 ∧ P (.fz (.str (bs (stuffM m l))))
theorem G_stuffed (T : Tx K mg a) : FnOk P w K mg base (L2.CX P w) 2 a.f_stuffed a.d_stuffed ["row", "most"] (spP K c_stuffed) :=
  fn_P T.F_stuffed sc_stuffed (by rintro ds P PX ⟨l, m, rfl, _⟩; rfl) (bd_stuffed T) fun ds P PX h => by
  obtain ⟨l, m, rfl, h1, h2, hl, hp⟩ := h
  unfold m_stuffed
  walk_at "ev"
  refine for_run (fun _ q => q) (signs_bs l) (fun k => [.fz (.str (bs l)), .fz (.int m), .fz (.str (bs (stuffM m (l.take k)))), .un]) (by walk_at "wk") (fun k b hk => ?_) ?_
  · have hb : (stuffM m (l.take k)).length ≤ 80000 := by
      have := stuff_len_le m (l.take k)
      rw [List.length_take] at this
      omega
    have es : stuffM m (l.take (k + 1)) = stuffStep m (stuffM m (l.take k)) b := by rw [take_snoc hk, stuff_snoc]
    generalize stuffM m (l.take k) = t at hb es
    walk_at "ev"
    have hl2 : (t ++ [b]).length ≤ 80001 := by rw [List.length_append, List.length_singleton]; omega
    walk_at "ev"
    refine fAdd_bs (a := t) (b := [b]) (by rw [List.length_singleton]; omega) ?_
    walk_at "ev"
    refine ⟨t, b, m, rfl, h1, h2, by omega, ?_⟩
    walk_at "ev"
    refine ⟨fun z => ?_, fun z => ?_⟩
    · have z := of_decide_eq_true z
      walk_at "ev"
      refine ⟨[b], rfl, by rw [List.length_singleton]; omega, ?_⟩
      walk_at "ev"
      refine fAdd_bs (a := t ++ [b]) (b := [!b]) (by rw [List.length_singleton]; omega) ?_
      walk_at "ev"
      refine lp_of ?_
      walk_at "wk"
      rw [es, stuffStep, if_pos z]
    · have z := of_decide_eq_false z
      walk_at "ev"
      refine lp_of ?_
      walk_at "wk"
      rw [es, stuffStep, if_neg z]
  · walk_at "ev"
    rw [List.take_length]
    walk_at "ev"
    exact hp

def m_own_places : MS := mSeq (mSet 2 (mXo (mLst (mNil)))) (mSeq (mSet 3 (mXe (mC (.int 0)))) (mSeq (mWhile (mTst (mBin fLt (mVar 3) (mBf fLen (mCons (mVar 0) (mNil))))) (mSeq (mEx (mMt fApp 2 (mCons (mVar 3) (mNil)))) (mSeq (mAug 3 fAddI (mC (.int 1))) (mIfS (mTst (mCall c_is_long (mCons (mSl (mVar 0) (mNoP) (mSoP (mVar 3))) (mCons (mVar 1) (mNil))))) (mAug 3 fAddI (mC (.int 1))) (mNx))))) (mRet (mVar 2))))
theorem bd_own_places (T : Tx K mg a) : Bd P w K mg base 1 ["row", "most", "found", "place"] s_own_places m_own_places := ⟨fun qual f cdv A outer s H E hr tk pw =>
  gss_cons (gs_set (gx_o (go_lst (ga_nil))) sc_own_places.nd) (gss_cons (gs_set (gx_e (ge_int)) sc_own_places.nd) (gss_cons (gs_while pw (gt_cmp op_ltA od_lt (ge_var) (ge_bf call_len cd_len T.m_len (ga_cons (ge_var) (ga_nil)))) (gss_cons (gs_expr (ge_mut PySem.F.slot_list_append PySem.F.type_list_append (MtM.r mt_append) md_app (ga_cons (ge_var) (ga_nil)))) (gss_cons (gs_aug iop_addA od_addI (ge_int) sc_own_places.nd) (gss_one (gs_if (gt_val (ge_call (G_is_long T) (hr.mono (by decide)) T.g_is_long T.F_is_long.kp T.b_is_long tk (ga_cons (ge_sl (ge_var) (gp_none) (gp_some (ge_var))) (ga_cons (ge_var) (ga_nil))))) (gss_one (gs_aug iop_addA od_addI (ge_int) sc_own_places.nd)) (gss_nil)))))) (gss_one (gs_ret (ge_var)))))⟩
def c_own_places : CtP := fun ds P _ => ∃ l, ∃ m : Nat, ds = [.str (bs l), .int m] ∧ 1 ≤ m ∧ m ≤ 100000 ∧ l.length ≤ 80000 ∧ P (.fz (.lst ((placesM m l).map fun p => .int (p : Nat))))
theorem G_own_places (T : Tx K mg a) : FnOk P w K mg base (L2.CX P w) 2 a.f_own_places a.d_own_places ["row", "most"] (spP K c_own_places) :=
  fn_P T.F_own_places sc_own_places (by rintro ds P PX ⟨l, m, rfl, _⟩; rfl) (bd_own_places T) fun ds P PX h => by
  obtain ⟨l, m, rfl, h1, h2, hl, hp⟩ := h
  unfold m_own_places
  walk_at "ev"
  refine ⟨by decide, ?_⟩
  walk_at "ev"
  refine ⟨fun j ρ => ∃ (acc : List Nat) (p : Nat), ρ = [.fz (.str (bs l)), .fz (.int m), .ow none (.lst (acc.map fun p => .int (p : Nat))), .fz (.int (p : Nat))] ∧ acc ++ placesF m l j p = placesM m l ∧ acc.length ≤ p ∧ p ≤ l.length + 1 ∧ l.length - p ≤ j,
    ⟨l.length, _, by walk_at "wk", [], 0, rfl, rfl, Nat.le_refl _, by omega, by omega⟩, fun j ρ hI => ?_⟩
  obtain ⟨acc, p, rfl, he, ha, hp2, hj⟩ := hI
  walk_at "ev"
  refine fLen_bs (by omega) ?_
  walk_at "ev"
  refine ⟨fun z => ?_, fun z => ?_⟩
  · have z : p < l.length := by have := of_decide_eq_true z; omega
    rw [placesF_step z hj] at he
    have hg : l[p]? = some (lastOf l p) := by
      simp [lastOf, z]
    have nx : nextP m l p = if m ≤ trail (lastOf l p) (l.take p ++ [lastOf l p]) then p + 2 else p + 1 := by unfold nextP; rw [take_snoc hg]
    walk_at "ev"
    refine ⟨sl_lt (by rw [List.length_map]; omega), ?_⟩
    walk_at "ev"
    have ex : ((p : Nat) : Int) + 1 = ((p + 1 : Nat) : Int) := rfl
    rw [ex]
    walk_at "ev"
    refine fSl_bs (by omega) ?_
    rw [cutD_to, take_snoc hg]
    walk_at "ev"
    refine ⟨l.take p, lastOf l p, m, rfl, h1, h2, ?_, ?_⟩
    · rw [← take_snoc hg, List.length_take]; omega
    have fin : ∀ q : Nat, q = nextP m l p → ∃ k, k < j ∧ lp (fun ρ => ∃ (acc : List Nat) (p : Nat), ρ = [.fz (.str (bs l)), .fz (.int m), .ow none (.lst (acc.map fun p => .int (p : Nat))), .fz (.int (p : Nat))] ∧ acc ++ placesF m l k p = placesM m l ∧ acc.length ≤ p ∧ p ≤ l.length + 1 ∧ l.length - p ≤ k)
        [.fz (.str (bs l)), .fz (.int m), .ow none (.lst ((acc.map fun p => D.int (p : Nat)) ++ [D.int (p : Nat)])), .fz (.int (q : Nat))] := fun q eq => by
      have hq := nextP_gt m l p
      walk_at "ev"
      refine ⟨j - 1, by omega, _, ?_, acc ++ [p], q, rfl, ?_, ?_, by omega, by omega⟩
      · walk_at "wk"
        rw [List.map_append]
        rfl
      · rw [eq, List.append_assoc]
        exact he
      · rw [List.length_append, List.length_singleton]; omega
    walk_at "ev"
    refine ⟨fun z => ?_, fun z => ?_⟩
    · have z := of_decide_eq_true z
      rw [if_pos z] at nx
      have := fin (p + 2) nx.symm
      walk_at "ev"
      exact this
    · have z := of_decide_eq_false z
      rw [if_neg z] at nx
      walk_at "ev"
      exact fin (p + 1) nx.symm
  · have z : ¬ p < l.length := by have := of_decide_eq_false z; omega
    rw [placesF_end (by omega), List.append_nil] at he
    rw [he]
    walk_at "ev"
    exact hp

def m_balance_written : MS := mSeq (mSet 1 (mXe (mCall c_turning (mCons (mVar 0) (mNil))))) (mRet (mBin fAdd (mCall c_balanced_at (mCons (mCall c_head_for (mCons (mBf fLen (mCons (mVar 0) (mNil))) (mNil))) (mCons (mVar 1) (mNil)))) (mCall c_turned (mCons (mVar 0) (mCons (mVar 1) (mNil))))))
theorem bd_balance_written (T : Tx K mg a) : Bd P w K mg base 3 ["row", "many"] s_balance_written m_balance_written := ⟨fun qual f cdv A outer s H E hr tk pw =>
  gss_cons (gs_set (gx_e (ge_call (G_turning T) (hr.mono (by decide)) T.g_turning T.F_turning.kp T.b_turning tk (ga_cons (ge_var) (ga_nil)))) sc_balance_written.nd) (gss_one (gs_ret (ge_bin op_addA od_add (ge_call (G_balanced_at T) (hr.mono (by decide)) T.g_balanced_at T.F_balanced_at.kp T.b_balanced_at tk (ga_cons (ge_call (G_head_for T) (hr.mono (by decide)) T.g_head_for T.F_head_for.kp T.b_head_for tk (ga_cons (ge_bf call_len cd_len T.m_len (ga_cons (ge_var) (ga_nil))) (ga_nil))) (ga_cons (ge_var) (ga_nil)))) (ge_call (G_turned T) (hr.mono (by decide)) T.g_turned T.F_turned.kp T.b_turned tk (ga_cons (ge_var) (ga_cons (ge_var) (ga_nil)))))))⟩
def c_balance_written : CtP := fun ds P _ => ∃ l, ∃ t h : Nat, ds = [.str (bs l)] ∧ l.length ≤ 1000 ∧ IsTurn l t ∧ t < l.length ∧ IsHead l.length h ∧ 2 * h ≤ 1000 ∧ P (.fz (.str (bs (unr (2 * h) h t ++ turnedM l t))))
theorem G_balance_written (T : Tx K mg a) : FnOk P w K mg base (L2.CX P w) 4 a.f_balance_written a.d_balance_written ["row"] (spP K c_balance_written) :=
  fn_P T.F_balance_written sc_balance_written (by rintro ds P PX ⟨l, t, h, rfl, _⟩; rfl) (bd_balance_written T) fun ds P PX h => by
  obtain ⟨l, t, h, rfl, hl, ht, htl, hh, h2, hp⟩ := h
  unfold m_balance_written
  walk_at "ev"
  refine ⟨l, t, rfl, by omega, ht, ?_⟩
  walk_at "ev"
  refine fLen_bs (by omega) ?_
  walk_at "ev"
  refine ⟨l.length, h, rfl, h2, hh, ?_⟩
  walk_at "ev"
  refine ⟨h, t, rfl, h2, by have := hh.1; omega, ?_⟩
  walk_at "ev"
  refine ⟨l, t, rfl, by omega, ?_⟩
  walk_at "ev"
  refine fAdd_bs (by rw [unr_len, turned_len]; omega) ?_
  walk_at "ev"
  exact hp

def m_unstuffed : MS := mSeq (mSet 2 (mXe (mSm fJoin (mC (.str "")) (mFz (mLc (iL (mCall c_own_places (mCons (mVar 0) (mCons (mVar 1) (mNil))))) (gN 3) (mYes) (mBin fIx (mVar 0) (mVar 3)) [3]))))) (mSeq (mIfS (mTst (mBin fNe (mCall c_stuffed (mCons (mVar 2) (mCons (mVar 1) (mNil)))) (mVar 0))) (mRaise a_NoRow) (mNx)) (mRet (mVar 2)))
theorem bd_unstuffed (T : Tx K mg a) : Bd P w K mg base 2 ["row", "most", "found", "place"] s_unstuffed m_unstuffed := ⟨fun qual f cdv A outer s H E hr tk pw =>
  gss_cons (gs_set (gx_e (ge_sm PySem.F.slot_str_join PySem.F.type_str_join mt_join sd_join (ge_str) (ge_fz (go_lc (own := [("place", 3)]) rfl sc_unstuffed.nd (gi_list (ge_call (G_own_places T) (hr.mono (by decide)) T.g_own_places T.F_own_places.kp T.b_own_places tk (ga_cons (ge_var) (ga_cons (ge_var) (ga_nil))))) (blkOk_by (N := ["row", "most", "found", "place"]) (sc := defScope s_unstuffed) (by decide +kernel)) (fun _ _ _ _ _ => gg_name sc_unstuffed.nd) (fun _ _ _ _ _ => gts_nil) (fun _ _ _ _ _ => ge_ix (ge_var) (ge_var)))))) sc_unstuffed.nd) (gss_cons (gs_if (gt_cmp (op_neA hr.units) od_ne (ge_call (G_stuffed T) (hr.mono (by decide)) T.g_stuffed T.F_stuffed.kp T.b_stuffed tk (ga_cons (ge_var) (ga_cons (ge_var) (ga_nil)))) (ge_var)) (gss_one (gs_raise T.e_NoRow rfl tk)) (gss_nil)) (gss_one (gs_ret (ge_var))))⟩
def c_unstuffed : CtP := fun ds P PX => ∃ r, ∃ m : Nat, ds = [.str (bs r), .int m] ∧ 1 ≤ m ∧ m ≤ 100000 ∧ r.length ≤ 40000 ∧ (∀ f, readM m r = some f → P (.fz (.str (bs f)))) ∧ (readM m r = none → PX (.pl a_NoRow))
theorem G_unstuffed (T : Tx K mg a) : FnOk P w K mg base (L2.CX P w) 3 a.f_unstuffed a.d_unstuffed ["row", "most"] (spP K c_unstuffed) :=
  fn_P T.F_unstuffed sc_unstuffed (by rintro ds P PX ⟨l, m, rfl, _⟩; rfl) (bd_unstuffed T) fun ds P PX h => by
  obtain ⟨r, m, rfl, h1, h2, hl, hp, hx⟩ := h
  have hb := picks_len m r
  unfold m_unstuffed
  walk_at "ev"
  refine lc_run (xs := placesM m r) (fun _ q => by walk_at "ev"; exact ⟨r, m, rfl, h1, h2, by omega, q⟩) rfl (fun k => ((placesM m r).take k).map fun p => sb (r.getD p false)) (fun _ => [.fz (.str (bs r)), .fz (.int m), .un, .un]) ⟨rfl, rfl⟩ (fun k p hk => ?_) ?_
  · walk_at "ev"
    refine ⟨fun _ => ?_, fun z => nomatch z⟩
    have hlt : p < r.length := placesF_lt m _ _ _ p (List.mem_of_getElem? hk)
    walk_at "ev"
    refine fIx_bs (by omega) rfl (b := r.getD p false) (by simp [hlt]) ?_
    obtain ⟨h1, h2⟩ := acc_map (F := fun p => sb (r.getD p false)) hk rfl (by have := placesF_len m r r.length 0; show (placesF m _ _ 0).length ≤ _; omega)
    walk_at "ev"
    exact ⟨h1, h2, rfl⟩
  · rw [List.take_length]
    have e : ((placesM m r).map fun p => sb (r.getD p false)) = (picks m r).map sb := by
      unfold picks
      rw [List.map_map]
      rfl
    rw [e]
    walk_at "ev"
    refine fJoin_sb (by omega) ?_
    walk_at "ev"
    refine ⟨picks m r, m, rfl, h1, h2, by omega, ?_⟩
    walk_at "ev"
    refine fNe_bs ?_
    walk_at "ev"
    refine ⟨fun z => ?_, fun z => ?_⟩
    · walk_at "ev"
      refine hx ?_
      unfold readM
      rw [if_neg (by simpa using z)]
    · walk_at "ev"
      refine hp _ ?_
      unfold readM
      rw [if_pos (by simpa using z)]

def m_balance_read : MS := mSeq (mSet 2 (mXe (mCall c_head_for (mCons (mVar 1) (mNil))))) (mSeq (mIfS (mTst (mBin fNe (mBf fLen (mCons (mVar 0) (mNil))) (mBin fAdd (mVar 2) (mVar 1)))) (mRaise a_NoRow) (mNx)) (mSeq (mSet 3 (mXe (mCall c_balanced_number (mCons (mSl (mVar 0) (mNoP) (mSoP (mVar 2))) (mNil))))) (mSeq (mIfS (mTst (mBin fGe (mVar 3) (mVar 1))) (mRaise a_NoRow) (mNx)) (mSeq (mSet 4 (mXe (mCall c_turned (mCons (mSl (mVar 0) (mSoP (mVar 2)) (mNoP)) (mCons (mVar 3) (mNil)))))) (mSeq (mIfS (mTst (mBin fNe (mCall c_turning (mCons (mVar 4) (mNil))) (mVar 3))) (mRaise a_NoRow) (mNx)) (mRet (mVar 4)))))))
theorem bd_balance_read (T : Tx K mg a) : Bd P w K mg base 3 ["row", "many", "head", "first", "found"] s_balance_read m_balance_read := ⟨fun qual f cdv A outer s H E hr tk pw =>
  gss_cons (gs_set (gx_e (ge_call (G_head_for T) (hr.mono (by decide)) T.g_head_for T.F_head_for.kp T.b_head_for tk (ga_cons (ge_var) (ga_nil)))) sc_balance_read.nd) (gss_cons (gs_if (gt_cmp (op_neA hr.units) od_ne (ge_bf call_len cd_len T.m_len (ga_cons (ge_var) (ga_nil))) (ge_bin op_addA od_add (ge_var) (ge_var))) (gss_one (gs_raise T.e_NoRow rfl tk)) (gss_nil)) (gss_cons (gs_set (gx_e (ge_call (G_balanced_number T) (hr.mono (by decide)) T.g_balanced_number T.F_balanced_number.kp T.b_balanced_number tk (ga_cons (ge_sl (ge_var) (gp_none) (gp_some (ge_var))) (ga_nil)))) sc_balance_read.nd) (gss_cons (gs_if (gt_cmp op_ge od_ge (ge_var) (ge_var)) (gss_one (gs_raise T.e_NoRow rfl tk)) (gss_nil)) (gss_cons (gs_set (gx_e (ge_call (G_turned T) (hr.mono (by decide)) T.g_turned T.F_turned.kp T.b_turned tk (ga_cons (ge_sl (ge_var) (gp_some (ge_var)) (gp_none)) (ga_cons (ge_var) (ga_nil))))) sc_balance_read.nd) (gss_cons (gs_if (gt_cmp (op_neA hr.units) od_ne (ge_call (G_turning T) (hr.mono (by decide)) T.g_turning T.F_turning.kp T.b_turning tk (ga_cons (ge_var) (ga_nil))) (ge_var)) (gss_one (gs_raise T.e_NoRow rfl tk)) (gss_nil)) (gss_one (gs_ret (ge_var))))))))⟩
def c_balance_read : CtP := fun ds P PX => ∃ r, ∃ n h : Nat, ds = [.str (bs r), .int n] ∧ r.length ≤ 4000 ∧ n % 2 = 0 ∧ 2 ≤ n ∧ n ≤ 1000 ∧ IsHead n h ∧ 2 * h ≤ 1000 ∧
  ((r.length ≠ 2 * h + n ∧ PX (.pl a_NoRow)) ∨ ∃ num b, r = unr (2 * h) h num ++ b ∧ num < ch (2 * h) h ∧ b.length = n ∧ (num < n → IsTurn (turnedM b num) num → P (.fz (.str (bs (turnedM b num))))) ∧ (¬ (num < n ∧ IsTurn (turnedM b num) num) → PX (.pl a_NoRow)))
theorem read_parts {r b : List Bool} {t h : Nat} (hr : r = unr (2 * h) h t ++ b) (ht : t < ch (2 * h) h) : ∃ u, r = u ++ b ∧ u.length = 2 * h ∧ cnt u = h ∧ rank u h = t ∧ r.length = 2 * h + b.length ∧ r.take (2 * h) = u ∧ r.drop (2 * h) = b := by
  have hu := unr_len (2 * h) h t
  have h0 : h ≤ 2 * h := Nat.le_mul_of_pos_left h (by decide)
  obtain ⟨u1, u2⟩ := unr_ok (2 * h) h t h0 ht
  refine ⟨unr (2 * h) h t, hr, hu, u1, u2, ?_, ?_, ?_⟩
  · rw [hr, List.length_append, hu]
  · rw [hr, List.take_append_of_le_length (Nat.le_of_eq hu.symm), List.take_of_length_le (Nat.le_of_eq hu)]
  · rw [hr, List.drop_append, List.drop_of_length_le (Nat.le_of_eq hu), hu, Nat.sub_self]
    rfl
theorem G_balance_read (T : Tx K mg a) : FnOk P w K mg base (L2.CX P w) 4 a.f_balance_read a.d_balance_read ["row", "many"] (spP K c_balance_read) :=
  fn_P T.F_balance_read sc_balance_read (by rintro ds P PX ⟨r, n, h, rfl, _⟩; rfl) (bd_balance_read T) fun ds P PX h => by
  obtain ⟨r, n, h, rfl, hrl, hev, hn2, hn, hh, h2, hc⟩ := h
  unfold m_balance_read
  walk_at "ev"
  refine ⟨n, h, rfl, h2, hh, ?_⟩
  walk_at "ev"
  refine fLen_bs (by omega) ?_
  walk_at "ev"
  rcases hc with ⟨hne, hx⟩ | ⟨num, b, hr, hnum, hb, hp, hx⟩
  · refine ⟨fun z => ?_, fun z => ?_⟩
    · walk_at "ev"
      exact hx
    · exfalso
      have z : ((r.length : Nat) : Int) = ((2 * h : Nat) : Int) + (n : Nat) := by simpa using z
      omega
  obtain ⟨u, hr, hu, u1, u2, hrl2, e1, e2⟩ := read_parts hr hnum
  refine ⟨fun z => ?_, fun _ => ?_⟩
  · exfalso
    rw [hrl2, hb] at z
    simp at z
  walk_at "ev"
  refine fSl_bs (by omega) ?_
  rw [cutD_to, e1]
  walk_at "ev"
  refine ⟨h, u, rfl, h2, hu, u1, ?_⟩
  rw [u2]
  walk_at "ev"
  refine ⟨fun z => ?_, fun z => ?_⟩
  · walk_at "ev"
    have z := of_decide_eq_true z
    exact hx fun y => by omega
  have z := of_decide_eq_false z
  have hlt : num < n := by omega
  walk_at "ev"
  refine fSl_bs (by omega) ?_
  rw [cutD_from, e2]
  walk_at "ev"
  refine ⟨b, num, rfl, by omega, ?_⟩
  have htl := turned_len b num
  obtain ⟨t, ht1, ht⟩ := turn_there (turnedM b num) (by rw [htl, hb]; exact hev) (by rw [htl, hb]; omega)
  generalize turnedM b num = tb at *
  walk_at "ev"
  refine ⟨tb, t, rfl, by omega, ht, ?_⟩
  walk_at "ev"
  refine ⟨fun z => ?_, fun z => ?_⟩
  · walk_at "ev"
    refine hx fun y => ?_
    have := y.2.uniq ht
    subst this
    simp at z
  · walk_at "ev"
    have z : t = num := by have z : ((t : Nat) : Int) = (num : Nat) := by simpa using z
                           omega
    subst z
    exact hp hlt ht

def m__law_cell_at : MS := mSeq (mIfS (mTst (mBin fLt (mVar 1) (mBf fLen (mCons (mVar 0) (mNil))))) (mRet (mBin fIx (mVar 0) (mVar 1))) (mNx)) (mRet (mC (.int 0)))
theorem bd__law_cell_at (T : Tx K mg a) : Bd P w K mg base 0 ["script", "k"] s__law_cell_at m__law_cell_at := ⟨fun qual f cdv A outer s H E hr tk pw =>
  gss_cons (gs_if (gt_cmp op_ltA od_lt (ge_var) (ge_bf call_len cd_len T.m_len (ga_cons (ge_var) (ga_nil)))) (gss_one (gs_ret (ge_ix (ge_var) (ge_var)))) (gss_nil)) (gss_one (gs_ret (ge_int)))⟩
def c__law_cell_at : CtP := fun ds P _ => ∃ ns : List Int, ∃ k : Nat, ds = [.scr ns, .int (k : Nat)] ∧ ∀ i, (i = 0 ∨ i ∈ ns) → P (.fz (.int i))
theorem G__law_cell_at (T : Tx K mg a) : FnOk P w K mg base (L2.CX P w) 1 a.f__law_cell_at a.d__law_cell_at ["script", "k"] (spP K c__law_cell_at) :=
  fn_P T.F__law_cell_at sc__law_cell_at (by rintro ds P PX ⟨l, k, rfl, _⟩; rfl) (bd__law_cell_at T) fun ds P PX h => by
  obtain ⟨ns, k, rfl, hp⟩ := h
  unfold m__law_cell_at
  walk_at "ev"
  refine fLen_scr ?_
  walk_at "ev"
  refine ⟨fun z => ?_, fun z => ?_⟩
  · have z : k < ns.length := by have := of_decide_eq_true z; omega
    walk_at "ev"
    refine ⟨ns[k], atI_of rfl (List.getElem?_eq_getElem z), ?_⟩
    exact hp _ (.inr (List.getElem_mem z))
  · walk_at "ev"
    exact hp 0 (.inl rfl)

def m__law_box : MS := mSeq (mSet 2 (mXe (mCall c__law_cell_at (mCons (mVar 0) (mCons (mVar 1) (mNil)))))) (mRetO (mLst (mCons (mBin fMul (mBf fAbs (mCons (mVar 2) (mNil))) (mBf fInt (mCons (mBin fGe (mBf fAbs (mCons (mVar 2) (mNil))) (mBin fPow (mC (.int 10)) (mC (.int 18)))) (mNil)))) (mCons (mBin fAdd (mBin fAdd (mBin fMod (mVar 2) (mC (.int 2305843009213693951))) (mBin fMul (mC (.int 39373)) (mVar 1))) (mC (.int 17))) (mCons (mC (.int 0)) (mNil))))))
theorem bd__law_box (T : Tx K mg a) : Bd P w K mg base 1 ["script", "k", "cell"] s__law_box m__law_box := ⟨fun qual f cdv A outer s H E hr tk pw =>
  gss_cons (gs_set (gx_e (ge_call (G__law_cell_at T) (hr.mono (by decide)) T.g__law_cell_at T.F__law_cell_at.kp T.b__law_cell_at tk (ga_cons (ge_var) (ga_cons (ge_var) (ga_nil))))) sc__law_box.nd) (gss_one (gs_retO (go_lst (ga_cons (ge_bin op_mulA od_mul (ge_bf call_abs cd_abs T.m_abs (ga_cons (ge_var) (ga_nil))) (ge_bt call_intA cd_int T.m_int (ga_cons (ge_cmp op_ge od_ge (ge_bf call_abs cd_abs T.m_abs (ga_cons (ge_var) (ga_nil))) (ge_bin op_pow od_pow (ge_int) (ge_int))) (ga_nil)))) (ga_cons (ge_bin op_addA od_add (ge_bin op_addA od_add (ge_bin op_mod od_mod (ge_var) (ge_int)) (ge_bin op_mulA od_mul (ge_int) (ge_var))) (ge_int)) (ga_cons (ge_int) (ga_nil)))))))⟩
def c__law_box : CtP := fun ds P _ => ∃ ns : List Int, ∃ k : Nat, ds = [.scr ns, .int (k : Nat)] ∧ k ≤ 1000 ∧ ∀ c, Box c 0 → P (.ow c)
theorem G__law_box (T : Tx K mg a) : FnOk P w K mg base (L2.CX P w) 2 a.f__law_box a.d__law_box ["script", "k"] (spP K c__law_box) :=
  fn_P T.F__law_box sc__law_box (by rintro ds P PX ⟨l, k, rfl, _⟩; rfl) (bd__law_box T) fun ds P PX h => by
  obtain ⟨ns, k, rfl, hk, hp⟩ := h
  unfold m__law_box
  walk_at "ev"
  refine ⟨ns, k, rfl, fun i _ => ?_⟩
  walk_at "ev"
  refine fAbs_int ?_
  walk_at "ev"
  refine fAbs_int ?_
  walk_at "ev"
  refine ⟨⟨by decide, by decide, by decide⟩, ?_⟩
  walk_at "ev"
  refine fInt_bl ?_
  walk_at "ev"
  have e1 : ∀ b : Bool, -(2 ^ 64) < (if b then (1 : Int) else 0) ∧ (if b then (1 : Int) else 0) < 2 ^ 64 := by decide
  refine ⟨.inr (.inr (e1 _)), ?_⟩
  walk_at "ev"
  refine ⟨by decide, ?_⟩
  walk_at "ev"
  refine fMul_small (by decide) ?_
  walk_at "ev"
  refine ⟨by decide, ?_⟩
  refine hp _ ⟨_, _, _, rfl, ?_, ?_, ?_, by omega, by omega⟩
  · split <;> omega
  · have := Int.emod_nonneg i (by decide : (2305843009213693951 : Int) ≠ 0)
    omega
  · have := Int.emod_lt_of_pos i (by decide : (0 : Int) < 2305843009213693951)
    have e : (2 : Int) ^ 62 = 4611686018427387904 := by decide
    rw [e]
    omega

def m__law_take : MS := mSeq (mIfS (mTst (mBin fGt (mIxV 0 (mC (.int 0))) (mC (.int 0)))) (mSeq (mSet 2 (mXe (mBin fMod (mIxV 0 (mC (.int 0))) (mVar 1)))) (mSeq (mSub 0 (mBin fDiv (mIxV 0 (mC (.int 0))) (mVar 1)) (mC (.int 0))) (mRet (mVar 2)))) (mNx)) (mSeq (mSub 0 (mBin fAdd (mIxV 0 (mC (.int 2))) (mC (.int 1))) (mC (.int 2))) (mSeq (mSet 3 (mXe (mBin fMod (mBin fMul (mBin fAdd (mIxV 0 (mC (.int 1))) (mBin fMul (mC (.int 48271)) (mIxV 0 (mC (.int 2))))) (mBin fAdd (mC (.int 39373)) (mIxV 0 (mC (.int 2))))) (mC (.int 2147483647))))) (mSeq (mSet 4 (mXe (mBin fMod (mBin fMul (mBin fAdd (mVar 3) (mIxV 0 (mC (.int 2)))) (mBin fAdd (mBin fMod (mVar 3) (mC (.int 40009))) (mC (.int 7)))) (mC (.int 2147483629))))) (mRet (mBin fMod (mBin fDiv (mBin fMod (mBin fAdd (mBin fMul (mVar 4) (mC (.int 48271))) (mVar 3)) (mC (.int 2147483587))) (mC (.int 64))) (mVar 1))))))
theorem bd__law_take (T : Tx K mg a) : Bd P w K mg base 0 ["box", "many", "found", "once", "twice"] s__law_take m__law_take := ⟨fun qual f cdv A outer s H E hr tk pw =>
  gss_cons (gs_if (gt_cmp op_gt od_gt (ge_ixv (ge_int)) (ge_int)) (gss_cons (gs_set (gx_e (ge_bin op_mod od_mod (ge_ixv (ge_int)) (ge_var))) sc__law_take.nd) (gss_cons (gs_sub (ge_bin op_fdivW od_div (ge_ixv (ge_int)) (ge_var)) (ge_int)) (gss_one (gs_ret (ge_var))))) (gss_nil)) (gss_cons (gs_sub (ge_bin op_addA od_add (ge_ixv (ge_int)) (ge_int)) (ge_int)) (gss_cons (gs_set (gx_e (ge_bin op_mod od_mod (ge_bin op_mulA od_mul (ge_bin op_addA od_add (ge_ixv (ge_int)) (ge_bin op_mulA od_mul (ge_int) (ge_ixv (ge_int)))) (ge_bin op_addA od_add (ge_int) (ge_ixv (ge_int)))) (ge_int))) sc__law_take.nd) (gss_cons (gs_set (gx_e (ge_bin op_mod od_mod (ge_bin op_mulA od_mul (ge_bin op_addA od_add (ge_var) (ge_ixv (ge_int))) (ge_bin op_addA od_add (ge_bin op_mod od_mod (ge_var) (ge_int)) (ge_int))) (ge_int))) sc__law_take.nd) (gss_one (gs_ret (ge_bin op_mod od_mod (ge_bin op_fdivW od_div (ge_bin op_mod od_mod (ge_bin op_addA od_add (ge_bin op_mulA od_mul (ge_var) (ge_int)) (ge_var)) (ge_int)) (ge_int)) (ge_var)))))))⟩
abbrev c__law_take : CtM := cTake
theorem G__law_take (T : Tx K mg a) : FnOk P w K mg base (L2.CX P w) 1 a.f__law_take a.d__law_take ["box", "many"] (spM K c__law_take) :=
  fn_M T.F__law_take sc__law_take (by rintro c0 ds P PX ⟨n, m, rfl, _⟩; rfl) (bd__law_take T) fun p c0 ds P PX h => by
  obtain ⟨n, m, rfl, hB, hn, hm, hp⟩ := h
  obtain ⟨b0, b1, b2, rfl, h0, h1, h2, h3, h4⟩ := hB
  have hm0 : (0 : Int) < (m : Nat) := by have := hm.1; omega
  have ret : ∀ (x : Int) (c' : C), Box c' (n + 1) → P (.fz (.int (x % (m : Nat)))) c' := fun x c' hb => by
    have k0 := Int.emod_nonneg x (by omega : ((m : Nat) : Int) ≠ 0)
    have k1 := Int.emod_lt_of_pos x hm0
    have e : x % (m : Nat) = (((x % (m : Nat)).toNat : Nat) : Int) := by omega
    rw [e]
    exact hp _ _ (by omega) hb
  unfold m__law_take
  walk_at "ev"
  refine ⟨_, rfl, ?_⟩
  walk_at "ev"
  refine ⟨fun z => ?_, fun z => ?_⟩
  · have z := of_decide_eq_true z
    walk_at "ev"
    refine ⟨_, rfl, hm0, ?_⟩
    walk_at "ev"
    refine ⟨_, rfl, ?_⟩
    walk_at "ev"
    refine ⟨wide_div (b := 1000) hm0 (by rw [Int.natAbs_natCast]; exact hm.2) (by decide) (by decide), ?_⟩
    walk_at "ev"
    refine ⟨0, rfl, ?_⟩
    walk_at "ev"
    refine ⟨_, rfl, ?_⟩
    refine ret _ _ ⟨_, _, _, rfl, Int.ediv_nonneg h0 (by omega), h1, h2, h3, by omega⟩
  · walk_at "ev"
    refine ⟨_, rfl, ?_⟩
    walk_at "ev"
    refine ⟨2, rfl, ?_⟩
    walk_at "ev"
    refine ⟨_, rfl, ?_⟩
    walk_at "ev"
    refine ⟨_, rfl, ?_⟩
    walk_at "ev"
    refine fMul_small (by decide) ?_
    walk_at "ev"
    refine ⟨_, rfl, ?_⟩
    have e62 : (2 : Int) ^ 62 = 4611686018427387904 := by decide
    have e64 : (2 : Int) ^ 64 = 18446744073709551616 := by decide
    rw [e62] at h2
    walk_at "ev"
    refine fMul_small (by rw [e64]; omega) ?_
    walk_at "ev"
    refine ⟨by decide, ?_⟩
    walk_at "ev"
    generalize ho : (b1 + 48271 * (b2 + 1)) * (39373 + (b2 + 1)) % 2147483647 = once
    have o1 : 0 ≤ once := by rw [← ho]; exact Int.emod_nonneg _ (by decide)
    have o2 : once < 2147483647 := by rw [← ho]; exact Int.emod_lt_of_pos _ (by decide)
    refine ⟨_, rfl, ?_⟩
    walk_at "ev"
    refine ⟨by decide, ?_⟩
    walk_at "ev"
    refine fMul_small (by rw [e64]; omega) ?_
    walk_at "ev"
    refine ⟨by decide, ?_⟩
    walk_at "ev"
    generalize ht : (once + (b2 + 1)) * (once % 40009 + 7) % 2147483629 = twice
    have t1 : 0 ≤ twice := by rw [← ht]; exact Int.emod_nonneg _ (by decide)
    have t2 : twice < 2147483629 := by rw [← ht]; exact Int.emod_lt_of_pos _ (by decide)
    refine fMul_small (by rw [e64]; omega) ?_
    walk_at "ev"
    refine ⟨by decide, ?_⟩
    walk_at "ev"
    refine ⟨⟨by decide, by decide⟩, ?_⟩
    walk_at "ev"
    refine ⟨hm0, ?_⟩
    walk_at "ev"
    refine ⟨_, rfl, ?_⟩
    exact ret _ _ ⟨_, _, _, rfl, h0, h1, by rw [e62]; exact h2, by omega, by omega⟩

def m__law_other : MS := mRet (mSm fJoin (mC (.str "")) (mFz (mLc (iS (mVar 0)) (gN 1) (mYes) (mBin fIx (mC (.str "10")) (mBf fInt (mCons (mVar 1) (mNil)))) [1])))
theorem bd__law_other (T : Tx K mg a) : Bd P w K mg base 0 ["bits", "bit"] s__law_other m__law_other := ⟨fun qual f cdv A outer s H E hr tk pw =>
  gss_one (gs_ret (ge_sm PySem.F.slot_str_join PySem.F.type_str_join mt_join sd_join (ge_str) (ge_fz (go_lc (own := [("bit", 1)]) rfl sc__law_other.nd (gi_str (ge_var)) (blkOk_by (N := ["bits", "bit"]) (sc := defScope s__law_other) (by decide +kernel)) (fun _ _ _ _ _ => gg_name sc__law_other.nd) (fun _ _ _ _ _ => gts_nil) (fun _ _ _ _ _ => ge_ix (ge_str) (ge_bt call_intA cd_int T.m_int (ga_cons (ge_var) (ga_nil))))))))⟩
def c__law_other : CtP := fun ds P _ => ∃ l, ds = [.str (bs l)] ∧ l.length ≤ 100000 ∧ P (.fz (.str (bs (l.map not))))
theorem G__law_other (T : Tx K mg a) : FnOk P w K mg base (L2.CX P w) 1 a.f__law_other a.d__law_other ["bits"] (spP K c__law_other) :=
  fn_P T.F__law_other sc__law_other (by rintro ds P PX ⟨l, rfl, _⟩; rfl) (bd__law_other T) fun ds P PX h => by
  obtain ⟨l, rfl, hl, hp⟩ := h
  unfold m__law_other
  walk_at "ev"
  refine lc_run (fun _ q => q) (signs_bs l) (fun k => (l.take k).map fun b => sb (!b)) (fun _ => [.fz (.str (bs l)), .un]) ⟨rfl, rfl⟩ (fun k b hk => ?_) ?_
  · walk_at "ev"
    refine ⟨fun _ => ?_, fun z => nomatch z⟩
    refine fInt_sb ?_
    refine ix10 ?_
    obtain ⟨h1, h2⟩ := acc_map (F := fun b => sb (!b)) hk rfl (by omega)
    exact ⟨h1, h2, rfl⟩
  · rw [List.take_length]
    have e : (l.map fun b => sb (!b)) = (l.map not).map sb := by rw [List.map_map]; rfl
    rw [e]
    exact fJoin_sb (by rw [List.length_map]; omega) hp

def m__law_count : MS := mSeq (mSet 1 (mXe (mC (.int 1)))) (mSeq (mFor (iR1 (mCons (mBin fDiv (mVar 0) (mC (.int 2))) (mNil))) (gN 2) (mSet 1 (mXe (mBin fDiv (mBin fMul (mVar 1) (mBin fSub (mVar 0) (mVar 2))) (mBin fAdd (mVar 2) (mC (.int 1))))))) (mRet (mVar 1)))
theorem bd__law_count (T : Tx K mg a) : Bd P w K mg base 0 ["many", "found", "k"] s__law_count m__law_count := ⟨fun qual f cdv A outer s H E hr tk pw =>
  gss_cons (gs_set (gx_e (ge_int)) sc__law_count.nd) (gss_cons (gs_for pw rfl (gi_range1 T.m_range (ga_cons (ge_bin op_fdivW od_div (ge_var) (ge_int)) (ga_nil))) (gg_name sc__law_count.nd) (gss_one (gs_set (gx_e (ge_bin op_fdivW od_div (ge_bin op_mulA od_mul (ge_var) (ge_bin op_sub od_sub (ge_var) (ge_var))) (ge_bin op_addA od_add (ge_var) (ge_int)))) sc__law_count.nd))) (gss_one (gs_ret (ge_var))))⟩
def c__law_count : CtP := fun ds P _ => ∃ h : Nat, ds = [.int (2 * h : Nat)] ∧ 2 * h ≤ 1000 ∧ P (.fz (.int (ch (2 * h) h : Nat)))
theorem G__law_count (T : Tx K mg a) : FnOk P w K mg base (L2.CX P w) 1 a.f__law_count a.d__law_count ["many"] (spP K c__law_count) :=
  fn_P T.F__law_count sc__law_count (by rintro ds P PX ⟨n, rfl, _⟩; rfl) (bd__law_count T) fun ds P PX h => by
  obtain ⟨h, rfl, hn, hp⟩ := h
  unfold m__law_count
  walk_at "ev"
  have e2 : ((2 * h : Nat) : Int) / 2 = (h : Nat) := by omega
  refine for_run (fun _ q => by walk_at "ev"; refine ⟨⟨by decide, by decide⟩, ?_⟩; rw [e2]; exact ⟨⟨by omega, by omega⟩, q⟩) (range_map h 0 1) (fun i => [.fz (.int (2 * h : Nat)), .fz (.int (ch (2 * h) i : Nat)), .un]) (by walk_at "wk"; rw [ch_zero]; rfl) (fun i x hx => ?_) ?_
  · obtain ⟨rfl, hlt⟩ := range_get hx
    walk_at "ev"
    refine chose2 hn (by omega) ?_
    walk_at "ev"
    exact lp_of (by walk_at "wk")
  · walk_at "ev"
    rw [List.length_range]
    exact hp

def m__law_head : MS := mSeq (mSet 1 (mXe (mC (.int 0)))) (mSeq (mWhile (mTst (mBin fLt (mCall c__law_count (mCons (mVar 1) (mNil))) (mVar 0))) (mSet 1 (mXe (mBin fAdd (mVar 1) (mC (.int 2)))))) (mRet (mVar 1)))
theorem bd__law_head (T : Tx K mg a) : Bd P w K mg base 1 ["many", "head"] s__law_head m__law_head := ⟨fun qual f cdv A outer s H E hr tk pw =>
  gss_cons (gs_set (gx_e (ge_int)) sc__law_head.nd) (gss_cons (gs_while pw (gt_cmp op_ltA od_lt (ge_call (G__law_count T) (hr.mono (by decide)) T.g__law_count T.F__law_count.kp T.b__law_count tk (ga_cons (ge_var) (ga_nil))) (ge_var)) (gss_one (gs_set (gx_e (ge_bin op_addA od_add (ge_var) (ge_int))) sc__law_head.nd))) (gss_one (gs_ret (ge_var))))⟩
def c__law_head : CtP := fun ds P _ => ∃ n h : Nat, ds = [.int n] ∧ 2 * h ≤ 1000 ∧ IsHead n h ∧ P (.fz (.int (2 * h : Nat)))
theorem G__law_head (T : Tx K mg a) : FnOk P w K mg base (L2.CX P w) 2 a.f__law_head a.d__law_head ["many"] (spP K c__law_head) :=
  fn_P T.F__law_head sc__law_head (by rintro ds P PX ⟨n, h, rfl, _⟩; rfl) (bd__law_head T) fun ds P PX h => by
  obtain ⟨n, h, rfl, hh, hi, hp⟩ := h
  unfold m__law_head
  walk_at "ev"
  refine while_env h (fun k => [.fz (.int n), .fz (.int (2 * k : Nat))]) (by walk_at "wk") (fun k hk => ?_)
  walk_at "ev"
  refine ⟨k, rfl, by omega, ?_⟩
  walk_at "ev"
  refine ⟨fun z => ?_, fun z => ?_⟩
  · have z := of_decide_eq_true z
    have hlt : k < h := by
      rcases Nat.lt_or_ge k h with y | y
      · exact y
      · have : k = h := by omega
        subst this
        have := hi.1
        omega
    walk_at "ev"
    exact while_next hlt (by walk_at "wk")
  · have z := of_decide_eq_false z
    have : k = h := by
      rcases Nat.lt_or_ge k h with y | y
      · have := hi.2 k y
        omega
      · omega
    subst this
    walk_at "ev"
    exact hp

def m__law_row : MS := mSeq (mPar2 2 3 (mXe (mBin fIx (mFz (mLst (mCons (mC (.int 3)) (mCons (mC (.int 30)) (mCons (mC (.int 400)) (mNil)))))) (mCallM c__law_take 0 (mCons (mC (.int 3)) (mNil))))) (mXe (mC (.str "")))) (mSeq (mWhile (mTst (mBin fLt (mBf fLen (mCons (mVar 3) (mNil))) (mVar 1))) (mSet 3 (mXe (mBin fAdd (mVar 3) (mBin fMul (mBin fIx (mC (.str "01")) (mCallM c__law_take 0 (mCons (mC (.int 2)) (mNil)))) (mBin fAdd (mC (.int 1)) (mCallM c__law_take 0 (mCons (mVar 2) (mNil))))))))) (mRet (mSl (mVar 3) (mNoP) (mSoP (mVar 1)))))
theorem bd__law_row (T : Tx K mg a) : Bd P w K mg base 1 ["box", "many", "long", "row"] s__law_row m__law_row := ⟨fun qual f cdv A outer s H E hr tk pw =>
  gss_cons (gs_par2 rfl sc__law_row.nd (gx_e (ge_ix (ge_fz (go_lst (ga_cons (ge_int) (ga_cons (ge_int) (ga_cons (ge_int) (ga_nil)))))) (ge_callM (G__law_take T) (hr.mono (by decide)) T.g__law_take T.F__law_take.kp T.b__law_take tk (ga_cons (ge_int) (ga_nil))))) (gx_e (ge_str))) (gss_cons (gs_while pw (gt_cmp op_ltA od_lt (ge_bf call_len cd_len T.m_len (ga_cons (ge_var) (ga_nil))) (ge_var)) (gss_one (gs_set (gx_e (ge_bin op_addA od_add (ge_var) (ge_bin op_mulA od_mul (ge_ix (ge_str) (ge_callM (G__law_take T) (hr.mono (by decide)) T.g__law_take T.F__law_take.kp T.b__law_take tk (ga_cons (ge_int) (ga_nil)))) (ge_bin op_addA od_add (ge_int) (ge_callM (G__law_take T) (hr.mono (by decide)) T.g__law_take T.F__law_take.kp T.b__law_take tk (ga_cons (ge_var) (ga_nil))))))) sc__law_row.nd))) (gss_one (gs_ret (ge_sl (ge_var) (gp_none) (gp_some (ge_var))))))⟩
def c__law_row : CtM := fun c0 ds P _ => ∃ n many : Nat, ds = [.int (many : Nat)] ∧ Box c0 n ∧ n ≤ 100000 ∧ many ≤ 1000 ∧ ∀ (l : List Bool) (c' : C), l.length = many → Box c' (n + 3000) → P (.fz (.str (bs l))) c'
theorem G__law_row (T : Tx K mg a) : FnOk P w K mg base (L2.CX P w) 2 a.f__law_row a.d__law_row ["box", "many"] (spM K c__law_row) :=
  fn_M T.F__law_row sc__law_row (by rintro c0 ds P PX ⟨n, many, rfl, _⟩; rfl) (bd__law_row T) fun p c0 ds P PX h => by
  obtain ⟨n, many, rfl, hB, hn, hm, hp⟩ := h
  unfold m__law_row
  walk_at "ev"
  refine ⟨by decide, ?_⟩
  walk_at "ev"
  refine ⟨n, 3, rfl, hB, by omega, few (by decide) (by decide), fun r1 c1 hr1 hB1 => ?_⟩
  walk_at "ev"
  refine fIx_three hr1 fun v hv => ?_
  obtain ⟨u, rfl, hu1, hu2⟩ : ∃ u : Nat, v = .int (u : Nat) ∧ 1 ≤ u ∧ u ≤ 400 := by
    rcases hv with rfl | rfl | rfl
    · exact ⟨3, rfl, by decide, by decide⟩
    · exact ⟨30, rfl, by decide, by decide⟩
    · exact ⟨400, rfl, by decide, by decide⟩
  clear hv
  walk_at "ev"
  refine ⟨fun j ρ => ∃ (l : List Bool) (c' : C), ρ = [.ow (some p) c', .fz (.int (many : Nat)), .fz (.int (u : Nat)), .fz (.str (bs l))] ∧ many ≤ l.length + j ∧ l.length ≤ 2000 ∧ Box c' (n + 1 + 2 * min l.length 1000), ⟨many, [.ow (some p) c1, .fz (.int (many : Nat)), .fz (.int (u : Nat)), .fz (.str "")], by walk_at "wk", [], c1, by rw [litE], by show many ≤ 0 + many; omega, by decide, hB1⟩, fun j ρ hI => ?_⟩
  obtain ⟨l, c4, rfl, hj, hl, hB4⟩ := hI
  walk_at "ev"
  refine fLen_bs (by omega) ?_
  walk_at "ev"
  refine ⟨fun z2 => ?_, fun z2 => ?_⟩
  · have z2 : l.length < many := by have := of_decide_eq_true z2; omega
    walk_at "ev"
    refine ⟨n + 1 + 2 * min l.length 1000, 2, rfl, hB4, by omega, few (by decide) (by decide), fun r c5 hr hB5 => ?_⟩
    obtain ⟨b, eb⟩ := bit_of hr
    walk_at "ev"
    rw [eb]
    refine ix01 ?_
    walk_at "ev"
    refine ⟨_, u, rfl, hB5, by omega, few (by omega) (by omega), fun t c6 ht hB6 => ?_⟩
    walk_at "ev"
    have et : (1 : Int) + (t : Nat) = ((1 + t : Nat) : Int) := rfl
    rw [et]
    refine fMul_sb (by omega) ?_
    walk_at "ev"
    refine fAdd_bs (by rw [List.length_replicate]; omega) ?_
    walk_at "ev"
    refine ⟨j - 1, by omega, _, ?_, l ++ List.replicate (1 + t) b, c6, rfl, by rw [List.length_append, List.length_replicate]; omega, by rw [List.length_append, List.length_replicate]; omega, hB6.mono (by rw [List.length_append, List.length_replicate]; omega)⟩
    walk_at "wk"
  · have z2 : ¬ l.length < many := by have := of_decide_eq_false z2; omega
    walk_at "ev"
    refine fSl_bs (by omega) ?_
    rw [cutD_to]
    walk_at "ev"
    have el : (l.take many).length = many := by rw [List.length_take]; omega
    exact ⟨_, rfl, hp _ c4 el (hB4.mono (by omega))⟩

def m__law_stuffed : MS := mSeq (mUnp (mTup (mCons (mC (.str "")) (mCons (mC (.int 0)) (mNil)))) (gT (gCs (gN 2) (gCs (gN 3) (gNl))))) (mSeq (mFor (iS (mVar 0)) (gN 4) (mSeq (mSet 3 (mXe (mIf (mAndT (mTst (mBin fNe (mVar 2) (mC (.str "")))) (mTst (mBin fEq (mBin fIx (mVar 2) (mNeg (mC (.int 1)))) (mVar 4)))) (mBin fAdd (mVar 3) (mC (.int 1))) (mC (.int 1))))) (mSeq (mSet 2 (mXe (mBin fAdd (mVar 2) (mVar 4)))) (mIfS (mTst (mBin fEq (mVar 3) (mVar 1))) (mPar2 2 3 (mXe (mBin fAdd (mVar 2) (mCall c__law_other (mCons (mVar 4) (mNil))))) (mXe (mC (.int 1)))) (mNx))))) (mRet (mVar 2)))
theorem bd__law_stuffed (T : Tx K mg a) : Bd P w K mg base 1 ["row", "most", "told", "same", "bit"] s__law_stuffed m__law_stuffed := ⟨fun qual f cdv A outer s H E hr tk pw =>
  gss_cons (gs_unp (ge_tup (ga_cons (ge_str) (ga_cons (ge_int) (ga_nil)))) (gg_tup2 rfl (gg_name sc__law_stuffed.nd) (gg_name sc__law_stuffed.nd))) (gss_cons (gs_for pw rfl (gi_str (ge_var)) (gg_name sc__law_stuffed.nd) (gss_cons (gs_set (gx_e (ge_if (gt_w (gw_and (gt_cmp (op_neA hr.units) od_ne (ge_var) (ge_str)) (gw_and1 (gt_cmp (op_eqA hr.units) od_eq (ge_ix (ge_var) (ge_neg (ge_int))) (ge_var))))) (ge_bin op_addA od_add (ge_var) (ge_int)) (ge_int))) sc__law_stuffed.nd) (gss_cons (gs_set (gx_e (ge_bin op_addA od_add (ge_var) (ge_var))) sc__law_stuffed.nd) (gss_one (gs_if (gt_cmp (op_eqA hr.units) od_eq (ge_var) (ge_var)) (gss_one (gs_par2 rfl sc__law_stuffed.nd (gx_e (ge_bin op_addA od_add (ge_var) (ge_call (G__law_other T) (hr.mono (by decide)) T.g__law_other T.F__law_other.kp T.b__law_other tk (ga_cons (ge_var) (ga_nil))))) (gx_e (ge_int)))) (gss_nil)))))) (gss_one (gs_ret (ge_var))))⟩
def c__law_stuffed : CtP := fun ds P _ => ∃ l, ∃ m : Nat, ds = [.str (bs l), .int m] ∧ 2 ≤ m ∧ m ≤ 1000 ∧ l.length ≤ 1000 ∧ P (.fz (.str (bs (stuffM m l))))
theorem G__law_stuffed (T : Tx K mg a) : FnOk P w K mg base (L2.CX P w) 2 a.f__law_stuffed a.d__law_stuffed ["row", "most"] (spP K c__law_stuffed) :=
  fn_P T.F__law_stuffed sc__law_stuffed (by rintro ds P PX ⟨l, m, rfl, _⟩; rfl) (bd__law_stuffed T) fun ds P PX h => by
  obtain ⟨l, m, rfl, hm, hm2, hl, hp⟩ := h
  unfold m__law_stuffed
  walk_at "ev"
  refine ⟨by decide, ?_⟩
  walk_at "ev"
  refine for_run (fun _ q => q) (signs_bs l) (fun k => [.fz (.str (bs l)), .fz (.int (m : Nat)), .fz (.str (bs (lawFold m (l.take k)).1)), .fz (.int ((lawFold m (l.take k)).2 : Nat)), .un]) (by walk_at "wk") (fun k b hk => ?_) ?_
  · obtain ⟨k1, k2⟩ := lawFold_ok hm (l.take k)
    have hb : (lawFold m (l.take k)).1.length ≤ 80000 := by
      have := stuff_len_le m (l.take k)
      rw [List.length_take] at this
      rw [k1]
      omega
    have es : lawFold m (l.take (k + 1)) = lawStep m (lawFold m (l.take k)) b := by rw [take_snoc hk, lawFold_snoc]
    generalize lawFold m (l.take k) = t at hb es k1 k2
    obtain ⟨t1, t2⟩ := t
    clear k1 k2
    have hb : t1.length ≤ 80000 := hb
    walk_at "ev"
    rw [litE]
    refine fNe_bs ?_
    walk_at "ev"
    have tail : ∀ (PD : PEnds), PD.nx = lp (fun ρ => ρ = [.fz (.str (bs l)), .fz (.int (m : Nat)), .fz (.str (bs (lawFold m (l.take (k + 1))).1)), .fz (.int ((lawFold m (l.take (k + 1))).2 : Nat)), .un]) → ∀ same : Nat, same = (if t1.getLast? = some b then t2 + 1 else 1) → mSeq (mSet 2 (mXe (mBin fAdd (mVar 2) (mVar 4)))) (mIfS (mTst (mBin fEq (mVar 3) (mVar 1))) (mPar2 2 3 (mXe (mBin fAdd (mVar 2) (mCall c__law_other (mCons (mVar 4) (mNil))))) (mXe (mC (.int 1)))) (mNx)) PD [.fz (.str (bs l)), .fz (.int (m : Nat)), .fz (.str (bs t1)), .fz (.int (same : Nat)), .fz (sb b)] := fun PD hPD same hs => by
      have hl2 : (t1 ++ [b]).length ≤ 80001 := by rw [List.length_append, List.length_singleton]; omega
      walk_at "ev"
      refine fAdd_bs (a := t1) (b := [b]) (by rw [List.length_singleton]; omega) ?_
      walk_at "ev"
      refine ⟨fun z => ?_, fun z => ?_⟩
      · have z : same = m := by have := of_decide_eq_true z; omega
        walk_at "ev"
        refine ⟨[b], rfl, by rw [List.length_singleton]; omega, ?_⟩
        walk_at "ev"
        refine fAdd_bs (a := t1 ++ [b]) (b := [!b]) (by rw [List.length_singleton]; omega) ?_
        walk_at "ev"
        rw [hPD]
        refine lp_of ?_
        have : lawStep m (t1, t2) b = (t1 ++ [b] ++ [!b], 1) := by
          show (if (if t1.getLast? = some b then t2 + 1 else 1) = m then _ else _) = _
          rw [← hs, if_pos z]
        rw [es, this]
        walk_at "wk"
      · have z : ¬ same = m := by have := of_decide_eq_false z; omega
        walk_at "ev"
        rw [hPD]
        refine lp_of ?_
        have : lawStep m (t1, t2) b = (t1 ++ [b], same) := by
          show (if (if t1.getLast? = some b then t2 + 1 else 1) = m then _ else (t1 ++ [b], if t1.getLast? = some b then t2 + 1 else 1)) = _
          rw [← hs, if_neg z]
        rw [es, this]
        walk_at "wk"
    refine ⟨fun z => ?_, fun z => ?_⟩
    · have z : t1 ≠ [] := by simpa using z
      obtain ⟨ini, c, rfl⟩ : ∃ ini c, t1 = ini ++ [c] := ⟨t1.dropLast, t1.getLast z, (List.dropLast_concat_getLast z).symm⟩
      walk_at "ev"
      refine fIx_bsl (by omega) ?_
      walk_at "ev"
      refine fEq_bs ?_
      walk_at "ev"
      have gl : (ini ++ [c]).getLast? = some c := by simp
      refine ⟨fun z => ?_, fun z => ?_⟩
      · have z : c = b := by simpa using z
        subst z
        exact ⟨tail _ rfl (t2 + 1) (by rw [gl, if_pos rfl])⟩
      · have z : ¬ c = b := by simpa using z
        exact ⟨tail _ rfl 1 (by rw [gl, if_neg (by simpa using z)])⟩
    · have z : t1 = [] := by simpa using z
      subst z
      walk_at "ev"
      refine ⟨fun z => Bool.noConfusion z, fun _ => ?_⟩
      exact ⟨tail _ rfl 1 (by simp)⟩
  · rw [List.take_length]
    obtain ⟨k1, _⟩ := lawFold_ok hm l
    rw [k1]
    walk_at "ev"
    exact hp

def m__law_unstuffed : MS := mSeq (mUnp (mTup (mCons (mC (.str "")) (mCons (mC (.str "")) (mCons (mC (.int 0)) (mCons (mC (.int 0)) (mNil)))))) (gT (gCs (gN 2) (gCs (gN 3) (gCs (gN 4) (gCs (gN 5) (gNl))))))) (mSeq (mWhile (mTst (mBin fLt (mVar 5) (mBf fLen (mCons (mVar 0) (mNil))))) (mSeq (mSet 6 (mXe (mBin fIx (mVar 0) (mVar 5)))) (mSeq (mSet 4 (mXe (mIf (mTst (mBin fEq (mVar 6) (mVar 3))) (mBin fAdd (mVar 4) (mC (.int 1))) (mC (.int 1))))) (mSeq (mPar3 2 3 5 (mXe (mBin fAdd (mVar 2) (mVar 6))) (mXe (mVar 6)) (mXe (mBin fAdd (mVar 5) (mC (.int 1))))) (mIfS (mTst (mBin fEq (mVar 4) (mVar 1))) (mSeq (mIfS (mTst (mBin fNe (mSl (mVar 0) (mSoP (mVar 5)) (mSoP (mBin fAdd (mVar 5) (mC (.int 1))))) (mCall c__law_other (mCons (mVar 6) (mNil))))) (mRet (mC .non)) (mNx)) (mPar3 3 4 5 (mXe (mCall c__law_other (mCons (mVar 6) (mNil)))) (mXe (mC (.int 1))) (mXe (mBin fAdd (mVar 5) (mC (.int 1)))))) (mNx)))))) (mRet (mVar 2)))
theorem bd__law_unstuffed (T : Tx K mg a) : Bd P w K mg base 1 ["row", "most", "found", "last", "same", "at", "bit"] s__law_unstuffed m__law_unstuffed := ⟨fun qual f cdv A outer s H E hr tk pw =>
  gss_cons (gs_unp (ge_tup (ga_cons (ge_str) (ga_cons (ge_str) (ga_cons (ge_int) (ga_cons (ge_int) (ga_nil)))))) (gg_tup4 rfl (gg_name sc__law_unstuffed.nd) (gg_name sc__law_unstuffed.nd) (gg_name sc__law_unstuffed.nd) (gg_name sc__law_unstuffed.nd))) (gss_cons (gs_while pw (gt_cmp op_ltA od_lt (ge_var) (ge_bf call_len cd_len T.m_len (ga_cons (ge_var) (ga_nil)))) (gss_cons (gs_set (gx_e (ge_ix (ge_var) (ge_var))) sc__law_unstuffed.nd) (gss_cons (gs_set (gx_e (ge_if (gt_cmp (op_eqA hr.units) od_eq (ge_var) (ge_var)) (ge_bin op_addA od_add (ge_var) (ge_int)) (ge_int))) sc__law_unstuffed.nd) (gss_cons (gs_par3 rfl sc__law_unstuffed.nd (gx_e (ge_bin op_addA od_add (ge_var) (ge_var))) (gx_e (ge_var)) (gx_e (ge_bin op_addA od_add (ge_var) (ge_int)))) (gss_one (gs_if (gt_cmp (op_eqA hr.units) od_eq (ge_var) (ge_var)) (gss_cons (gs_if (gt_cmp (op_neA hr.units) od_ne (ge_sl (ge_var) (gp_some (ge_var)) (gp_some (ge_bin op_addA od_add (ge_var) (ge_int)))) (ge_call (G__law_other T) (hr.mono (by decide)) T.g__law_other T.F__law_other.kp T.b__law_other tk (ga_cons (ge_var) (ga_nil)))) (gss_one (gs_ret (ge_non))) (gss_nil)) (gss_one (gs_par3 rfl sc__law_unstuffed.nd (gx_e (ge_call (G__law_other T) (hr.mono (by decide)) T.g__law_other T.F__law_other.kp T.b__law_other tk (ga_cons (ge_var) (ga_nil)))) (gx_e (ge_int)) (gx_e (ge_bin op_addA od_add (ge_var) (ge_int)))))) (gss_nil))))))) (gss_one (gs_ret (ge_var))))⟩
def c__law_unstuffed : CtP := fun ds P _ => ∃ r, ∃ m : Nat, ds = [.str (bs r), .int m] ∧ 2 ≤ m ∧ m ≤ 1000 ∧ r.length ≤ 4000 ∧ (∀ f, readM m r = some f → P (.fz (.str (bs f)))) ∧ (readM m r = none → P (.fz .non))
def UInv (r : List Bool) (m : Nat) (j : Nat) (ρ : List S) : Prop := ∃ (f last : List Bool) (p same : Nat), ρ = [.fz (.str (bs r)), .fz (.int (m : Nat)), .fz (.str (bs f)), .fz (.str (bs last)), .fz (.int (same : Nat)), .fz (.int (p : Nat)), .un] ∧
  readF m r j p f = readM m r ∧ p ≤ r.length ∧ r.length - p ≤ j ∧ f.length ≤ p ∧ (last = [] ∧ p = 0 ∨ ∃ t c, last = [c] ∧ r.take p = t ++ [c] ∧ same = trail c (t ++ [c]) ∧ same < m)
theorem G__law_unstuffed (T : Tx K mg a) : FnOk P w K mg base (L2.CX P w) 2 a.f__law_unstuffed a.d__law_unstuffed ["row", "most"] (spP K c__law_unstuffed) :=
  fn_P T.F__law_unstuffed sc__law_unstuffed (by rintro ds P PX ⟨l, m, rfl, _⟩; rfl) (bd__law_unstuffed T) fun ds P PX h => by
  obtain ⟨r, m, rfl, hm, hm2, hl, hp, hx⟩ := h
  unfold m__law_unstuffed
  walk_at "ev"
  refine ⟨by decide, ?_⟩
  walk_at "ev"
  rw [litE]
  refine ⟨UInv r m, ⟨r.length, [.fz (.str (bs r)), .fz (.int (m : Nat)), .fz (.str (bs [])), .fz (.str (bs [])), .fz (.int (0 : Nat)), .fz (.int (0 : Nat)), .un], by walk_at "wk", [], [], 0, 0, rfl, readF_all m r, Nat.zero_le _, Nat.le_refl _, Nat.le_refl _, .inl ⟨rfl, rfl⟩⟩, fun j ρ hI => ?_⟩
  obtain ⟨f, last, p, same, rfl, hr, hpl, hj, hf, hu⟩ := hI
  walk_at "ev"
  refine fLen_bs (by omega) ?_
  walk_at "ev"
  refine ⟨fun z => ?_, fun z => ?_⟩
  · have z : p < r.length := by have := of_decide_eq_true z; omega
    obtain ⟨j, rfl⟩ : ∃ i, j = i + 1 := ⟨j - 1, by omega⟩
    have hb := lastOf_get z
    have hr : (if p < r.length then if m ≤ trail (lastOf r p) (r.take (p + 1)) then (if r[p + 1]? = some (!(lastOf r p)) then readF m r j (p + 2) (f ++ [lastOf r p]) else none) else readF m r j (p + 1) (f ++ [lastOf r p]) else some f) = readM m r := hr
    rw [if_pos z, take_snoc hb] at hr
    have tk := take_snoc hb
    generalize lastOf r p = b at hb hr tk
    have hs : (if [b] = last then same + 1 else 1) = trail b (r.take p ++ [b]) ∧ trail b (r.take p ++ [b]) ≤ m := by
      rcases hu with ⟨rfl, rfl⟩ | ⟨t, c, rfl, e, e2, e3⟩
      · simp [trail]
        omega
      · rw [e, trail_snoc]
        by_cases y : b = c
        · subst y
          rw [if_pos rfl, e2]
          exact ⟨rfl, by omega⟩
        · rw [if_neg (by simpa using y), trail_other (fun z => y z.symm)]
          exact ⟨rfl, by omega⟩
    walk_at "ev"
    refine fIx_bs (by omega) rfl hb ?_
    walk_at "ev"
    refine fEq_bs ?_
    walk_at "ev"
    have tail : ∀ (PD : PEnds), (∀ ρ', (∃ k, k < j + 1 ∧ lp (UInv r m k) ρ') → PD.nx ρ') → (∀ ρ', readM m r = none → PD.rt (.fz .non) ρ') → ∀ v : Nat, v = trail b (r.take p ++ [b]) →
        mSeq (mPar3 2 3 5 (mXe (mBin fAdd (mVar 2) (mVar 6))) (mXe (mVar 6)) (mXe (mBin fAdd (mVar 5) (mC (.int 1))))) (mIfS (mTst (mBin fEq (mVar 4) (mVar 1))) (mSeq (mIfS (mTst (mBin fNe (mSl (mVar 0) (mSoP (mVar 5)) (mSoP (mBin fAdd (mVar 5) (mC (.int 1))))) (mCall c__law_other (mCons (mVar 6) (mNil))))) (mRet (mC .non)) (mNx)) (mPar3 3 4 5 (mXe (mCall c__law_other (mCons (mVar 6) (mNil)))) (mXe (mC (.int 1))) (mXe (mBin fAdd (mVar 5) (mC (.int 1)))))) (mNx))
          PD [.fz (.str (bs r)), .fz (.int (m : Nat)), .fz (.str (bs f)), .fz (.str (bs last)), .fz (.int (v : Nat)), .fz (.int (p : Nat)), .fz (sb b)] := fun PD hnx hrt v hv => by
      walk_at "ev"
      refine fAdd_bs (a := f) (b := [b]) (by rw [List.length_singleton]; omega) ?_
      walk_at "ev"
      have ex : ((p : Nat) : Int) + 1 = ((p + 1 : Nat) : Int) := rfl
      have ex2 : ((p : Nat) : Int) + 1 + 1 = ((p + 2 : Nat) : Int) := rfl
      refine ⟨fun z => ?_, fun z => ?_⟩
      · have z : v = m := by have := of_decide_eq_true z; omega
        rw [if_pos (by omega)] at hr
        walk_at "ev"
        rw [ex2, ex]
        refine fSl_bs (by omega) ?_
        rw [cutD_mid, show p + 2 - (p + 1) = 1 by omega]
        have hd : ((r.drop (p + 1)).take 1 = [!b]) ↔ r[p + 1]? = some (!b) := by
          cases hq : r[p + 1]? with
          | none =>
            rw [List.getElem?_eq_none_iff] at hq
            rw [List.drop_of_length_le hq]
            simp
          | some c => rw [drop_get hq]; simp
        walk_at "ev"
        refine ⟨[b], rfl, by rw [List.length_singleton]; omega, ?_⟩
        walk_at "ev"
        refine fNe_bs (b := [!b]) ?_
        walk_at "ev"
        refine ⟨fun z2 => ?_, fun z2 => ?_⟩
        · have z2 : ¬ (r.drop (p + 1)).take 1 = [!b] := by simpa using z2
          rw [if_neg (fun y => z2 (hd.mpr y))] at hr
          walk_at "ev"
          exact hrt _ hr.symm
        · have z2 : (r.drop (p + 1)).take 1 = [!b] := by simpa using z2
          have z3 := hd.mp z2
          rw [if_pos z3] at hr
          have := get_lt z3
          walk_at "ev"
          refine ⟨[b], rfl, by rw [List.length_singleton]; omega, ?_⟩
          walk_at "ev"
          refine hnx _ ⟨j, by omega, _, ?_, f ++ [b], [!b], p + 2, 1, rfl, hr, by omega, by omega, by rw [List.length_append, List.length_singleton]; omega, .inr ⟨r.take (p + 1), !b, rfl, take_snoc z3, ?_, by omega⟩⟩
          · walk_at "wk"
          · rw [tk, trail_snoc, trail_other (by cases b <;> decide)]
      · have z : ¬ v = m := by have := of_decide_eq_false z; omega
        rw [if_neg (by have := hs.2; omega)] at hr
        walk_at "ev"
        refine hnx _ ⟨j, by omega, _, ?_, f ++ [b], [b], p + 1, v, rfl, hr, by omega, by omega, by rw [List.length_append, List.length_singleton]; omega, .inr ⟨r.take p, b, rfl, tk, hv, by have := hs.2; omega⟩⟩
        walk_at "wk"
    refine ⟨fun z => ?_, fun z => ?_⟩
    · have z : [b] = last := of_decide_eq_true z
      rw [if_pos z] at hs
      exact ⟨tail _ (fun _ y => y) (fun _ y => hx y) (same + 1) hs.1⟩
    · have z : ¬ [b] = last := of_decide_eq_false z
      rw [if_neg z] at hs
      exact ⟨tail _ (fun _ y => y) (fun _ y => hx y) 1 hs.1⟩
  · have z : ¬ p < r.length := by have := of_decide_eq_false z; omega
    have hr : readM m r = some f := by
      rw [← hr]
      cases j with
      | zero => rfl
      | succ j => show (if p < r.length then _ else some f) = _; rw [if_neg z]
    walk_at "ev"
    exact hp f hr

def m__law_spoilt : MS := mSeq (mSet 2 (mXe (mBin fDiv (mBf fLen (mCons (mVar 1) (mNil))) (mC (.int 10))))) (mSeq (mSet 3 (mXe (mIf (mTst (mBin fEq (mCallM c__law_take 0 (mCons (mC (.int 2)) (mNil))) (mC (.int 0)))) (mCallM c__law_take 0 (mCons (mBin fAdd (mBf fLen (mCons (mVar 1) (mNil))) (mC (.int 1))) (mNil))) (mBin fSub (mBf fLen (mCons (mVar 1) (mNil))) (mCallM c__law_take 0 (mCons (mBin fAdd (mVar 2) (mC (.int 1))) (mNil))))))) (mSeq (mSet 4 (mXe (mCallM c__law_take 0 (mCons (mC (.int 4)) (mNil))))) (mSeq (mIfS (mTst (mBin fEq (mVar 4) (mC (.int 0)))) (mRet (mSl (mVar 1) (mNoP) (mSoP (mVar 3)))) (mNx)) (mSeq (mIfS (mTst (mBin fEq (mVar 4) (mC (.int 1)))) (mRet (mBin fAdd (mSl (mVar 1) (mNoP) (mSoP (mVar 3))) (mSl (mVar 1) (mSoP (mBin fAdd (mVar 3) (mC (.int 1)))) (mNoP)))) (mNx)) (mSeq (mIfS (mTst (mBin fEq (mVar 4) (mC (.int 2)))) (mRet (mBin fAdd (mBin fAdd (mSl (mVar 1) (mNoP) (mSoP (mVar 3))) (mBin fIx (mC (.str "01")) (mCallM c__law_take 0 (mCons (mC (.int 2)) (mNil))))) (mSl (mVar 1) (mSoP (mVar 3)) (mNoP)))) (mNx)) (mRet (mBin fAdd (mBin fAdd (mSl (mVar 1) (mNoP) (mSoP (mVar 3))) (mCall c__law_other (mCons (mSl (mVar 1) (mSoP (mVar 3)) (mSoP (mBin fAdd (mVar 3) (mC (.int 1))))) (mNil)))) (mSl (mVar 1) (mSoP (mBin fAdd (mVar 3) (mC (.int 1)))) (mNoP)))))))))
theorem bd__law_spoilt (T : Tx K mg a) : Bd P w K mg base 1 ["box", "row", "far", "at", "way"] s__law_spoilt m__law_spoilt := ⟨fun qual f cdv A outer s H E hr tk pw =>
  gss_cons (gs_set (gx_e (ge_bin op_fdivW od_div (ge_bf call_len cd_len T.m_len (ga_cons (ge_var) (ga_nil))) (ge_int))) sc__law_spoilt.nd) (gss_cons (gs_set (gx_e (ge_if (gt_cmp (op_eqA hr.units) od_eq (ge_callM (G__law_take T) (hr.mono (by decide)) T.g__law_take T.F__law_take.kp T.b__law_take tk (ga_cons (ge_int) (ga_nil))) (ge_int)) (ge_callM (G__law_take T) (hr.mono (by decide)) T.g__law_take T.F__law_take.kp T.b__law_take tk (ga_cons (ge_bin op_addA od_add (ge_bf call_len cd_len T.m_len (ga_cons (ge_var) (ga_nil))) (ge_int)) (ga_nil))) (ge_bin op_sub od_sub (ge_bf call_len cd_len T.m_len (ga_cons (ge_var) (ga_nil))) (ge_callM (G__law_take T) (hr.mono (by decide)) T.g__law_take T.F__law_take.kp T.b__law_take tk (ga_cons (ge_bin op_addA od_add (ge_var) (ge_int)) (ga_nil)))))) sc__law_spoilt.nd) (gss_cons (gs_set (gx_e (ge_callM (G__law_take T) (hr.mono (by decide)) T.g__law_take T.F__law_take.kp T.b__law_take tk (ga_cons (ge_int) (ga_nil)))) sc__law_spoilt.nd) (gss_cons (gs_if (gt_cmp (op_eqA hr.units) od_eq (ge_var) (ge_int)) (gss_one (gs_ret (ge_sl (ge_var) (gp_none) (gp_some (ge_var))))) (gss_nil)) (gss_cons (gs_if (gt_cmp (op_eqA hr.units) od_eq (ge_var) (ge_int)) (gss_one (gs_ret (ge_bin op_addA od_add (ge_sl (ge_var) (gp_none) (gp_some (ge_var))) (ge_sl (ge_var) (gp_some (ge_bin op_addA od_add (ge_var) (ge_int))) (gp_none))))) (gss_nil)) (gss_cons (gs_if (gt_cmp (op_eqA hr.units) od_eq (ge_var) (ge_int)) (gss_one (gs_ret (ge_bin op_addA od_add (ge_bin op_addA od_add (ge_sl (ge_var) (gp_none) (gp_some (ge_var))) (ge_ix (ge_str) (ge_callM (G__law_take T) (hr.mono (by decide)) T.g__law_take T.F__law_take.kp T.b__law_take tk (ga_cons (ge_int) (ga_nil))))) (ge_sl (ge_var) (gp_some (ge_var)) (gp_none))))) (gss_nil)) (gss_one (gs_ret (ge_bin op_addA od_add (ge_bin op_addA od_add (ge_sl (ge_var) (gp_none) (gp_some (ge_var))) (ge_call (G__law_other T) (hr.mono (by decide)) T.g__law_other T.F__law_other.kp T.b__law_other tk (ga_cons (ge_sl (ge_var) (gp_some (ge_var)) (gp_some (ge_bin op_addA od_add (ge_var) (ge_int)))) (ga_nil)))) (ge_sl (ge_var) (gp_some (ge_bin op_addA od_add (ge_var) (ge_int))) (gp_none))))))))))⟩
def c__law_spoilt : CtM := fun c0 ds P _ => ∃ n : Nat, ∃ l, ds = [.str (bs l)] ∧ Box c0 n ∧ n ≤ 100000 ∧ l.length ≤ 2000 ∧ ∀ (l' : List Bool) (c' : C), l'.length ≤ l.length + 1 → Box c' (n + 10) → P (.fz (.str (bs l'))) c'
theorem G__law_spoilt (T : Tx K mg a) : FnOk P w K mg base (L2.CX P w) 2 a.f__law_spoilt a.d__law_spoilt ["box", "row"] (spM K c__law_spoilt) :=
  fn_M T.F__law_spoilt sc__law_spoilt (by rintro c0 ds P PX ⟨n, l, rfl, _⟩; rfl) (bd__law_spoilt T) fun p c0 ds P PX h => by
  obtain ⟨n, l, rfl, hB, hn, hl, hp⟩ := h
  unfold m__law_spoilt
  walk_at "ev"
  refine fLen_bs (by omega) ?_
  walk_at "ev"
  refine ⟨⟨by decide, by decide⟩, ?_⟩
  have ef : ((l.length : Nat) : Int) / 10 = ((l.length / 10 : Nat) : Int) := by omega
  rw [ef]
  walk_at "ev"
  refine ⟨n, 2, rfl, hB, by omega, few (by decide) (by decide), fun r1 c1 hr1 hB1 => ?_⟩
  walk_at "ev"
  refine ⟨fun z => ?a, fun z => ?b⟩
  case' a =>
    walk_at "ev"
    refine fLen_bs (by omega) ?_
    walk_at "ev"
    refine ⟨n + 1, l.length + 1, rfl, hB1, by omega, few (by omega) (by omega), fun r2 c2 hr2 hB2 => ?_⟩
    walk_at "ev"
    obtain ⟨at', hat, e⟩ : ∃ x : Nat, x ≤ l.length ∧ ((r2 : Nat) : Int) = (x : Nat) := ⟨r2, by omega, rfl⟩
    rw [e]
    clear z e hr2 r2
  case' b =>
    walk_at "ev"
    refine fLen_bs (by omega) ?_
    walk_at "ev"
    refine ⟨n + 1, l.length / 10 + 1, rfl, hB1, by omega, few (by omega) (by omega), fun r2 c2 hr2 hB2 => ?_⟩
    walk_at "ev"
    obtain ⟨at', hat, e⟩ : ∃ x : Nat, x ≤ l.length ∧ ((l.length : Nat) : Int) - (r2 : Nat) = (x : Nat) := ⟨l.length - r2, by omega, by omega⟩
    rw [e]
    clear z e hr2 r2
  all_goals
    walk_at "ev"
    refine ⟨n + 2, 4, rfl, hB2, by omega, few (by decide) (by decide), fun way c3 hw hB3 => ?_⟩
    have t1 : (l.take at').length ≤ at' := by rw [List.length_take]; omega
    have t2 : (l.drop at').length = l.length - at' := List.length_drop
    have t3 : (l.drop (at' + 1)).length = l.length - (at' + 1) := List.length_drop
    have t4 : ((l.drop at').take 1).length ≤ 1 := by rw [List.length_take]; omega
    have ex : ((at' : Nat) : Int) + 1 = ((at' + 1 : Nat) : Int) := rfl
    walk_at "ev"
    refine ⟨fun z => ?_, fun z1 => ?_⟩
    · walk_at "ev"
      refine fSl_bs (by omega) ?_
      rw [cutD_to]
      walk_at "ev"
      exact ⟨_, rfl, hp _ c3 (by omega) (hB3.mono (by omega))⟩
    · walk_at "ev"
      refine ⟨fun z => ?_, fun z2 => ?_⟩
      · walk_at "ev"
        refine fSl_bs (by omega) ?_
        rw [cutD_to]
        walk_at "ev"
        rw [ex]
        refine fSl_bs (by omega) ?_
        rw [cutD_from]
        walk_at "ev"
        refine fAdd_bs (by omega) ?_
        walk_at "ev"
        exact ⟨_, rfl, hp _ c3 (by rw [List.length_append]; omega) (hB3.mono (by omega))⟩
      · walk_at "ev"
        refine ⟨fun z => ?_, fun z3 => ?_⟩
        · walk_at "ev"
          refine fSl_bs (by omega) ?_
          rw [cutD_to]
          walk_at "ev"
          refine ⟨n + 3, 2, rfl, hB3, by omega, few (by decide) (by decide), fun r c4 hr hB4 => ?_⟩
          obtain ⟨b, eb⟩ := bit_of hr
          walk_at "ev"
          rw [eb]
          refine ix01 ?_
          walk_at "ev"
          refine fAdd_bs (b := [b]) (by rw [List.length_singleton]; omega) ?_
          walk_at "ev"
          refine fSl_bs (by omega) ?_
          rw [cutD_from]
          walk_at "ev"
          refine fAdd_bs (by rw [List.length_append, List.length_singleton]; omega) ?_
          walk_at "ev"
          exact ⟨_, rfl, hp _ c4 (by rw [List.length_append, List.length_append, List.length_singleton]; omega) (hB4.mono (by omega))⟩
        · walk_at "ev"
          refine fSl_bs (by omega) ?_
          rw [cutD_to]
          walk_at "ev"
          rw [ex]
          refine fSl_bs (by omega) ?_
          rw [cutD_mid, show at' + 1 - at' = 1 by omega]
          walk_at "ev"
          refine ⟨(l.drop at').take 1, rfl, by omega, ?_⟩
          walk_at "ev"
          refine fAdd_bs (by rw [List.length_map]; omega) ?_
          walk_at "ev"
          try rw [ex]
          refine fSl_bs (by omega) ?_
          rw [cutD_from]
          walk_at "ev"
          refine fAdd_bs (by rw [List.length_append, List.length_map]; omega) ?_
          walk_at "ev"
          refine ⟨_, rfl, hp _ c3 ?_ (hB3.mono (by omega))⟩
          rw [List.length_append, List.length_append, List.length_map]
          have t5 : ((l.drop at').take 1).length ≤ l.length - at' := by rw [List.length_take, t2]; omega
          omega

def m__law_balanced : MS := mSeq (mPar2 2 3 (mXe (mC (.str ""))) (mXe (mBin fDiv (mVar 0) (mC (.int 2))))) (mSeq (mFor (iR1 (mCons (mVar 0) (mNil))) (gN 4) (mSeq (mPar2 5 6 (mXe (mBin fSub (mBin fSub (mVar 0) (mVar 4)) (mC (.int 1)))) (mXe (mC (.int 0)))) (mSeq (mIfS (mTst (mBin fLe (mVar 3) (mVar 5))) (mSeq (mSet 6 (mXe (mC (.int 1)))) (mFor (iR1 (mCons (mVar 3) (mNil))) (gN 7) (mSet 6 (mXe (mBin fDiv (mBin fMul (mVar 6) (mBin fSub (mVar 5) (mVar 7))) (mBin fAdd (mVar 7) (mC (.int 1)))))))) (mNx)) (mIfS (mTst (mBin fLt (mVar 1) (mVar 6))) (mSet 2 (mXe (mBin fAdd (mVar 2) (mC (.str "0"))))) (mPar3 2 1 3 (mXe (mBin fAdd (mVar 2) (mC (.str "1")))) (mXe (mBin fSub (mVar 1) (mVar 6))) (mXe (mBin fSub (mVar 3) (mC (.int 1))))))))) (mRet (mVar 2)))
theorem bd__law_balanced (T : Tx K mg a) : Bd P w K mg base 0 ["many", "number", "row", "ones", "place", "left", "less", "k"] s__law_balanced m__law_balanced := ⟨fun qual f cdv A outer s H E hr tk pw =>
  gss_cons (gs_par2 rfl sc__law_balanced.nd (gx_e (ge_str)) (gx_e (ge_bin op_fdivW od_div (ge_var) (ge_int)))) (gss_cons (gs_for pw rfl (gi_range1 T.m_range (ga_cons (ge_var) (ga_nil))) (gg_name sc__law_balanced.nd) (gss_cons (gs_par2 rfl sc__law_balanced.nd (gx_e (ge_bin op_sub od_sub (ge_bin op_sub od_sub (ge_var) (ge_var)) (ge_int))) (gx_e (ge_int))) (gss_cons (gs_if (gt_cmp op_le od_le (ge_var) (ge_var)) (gss_cons (gs_set (gx_e (ge_int)) sc__law_balanced.nd) (gss_one (gs_for pw rfl (gi_range1 T.m_range (ga_cons (ge_var) (ga_nil))) (gg_name sc__law_balanced.nd) (gss_one (gs_set (gx_e (ge_bin op_fdivW od_div (ge_bin op_mulA od_mul (ge_var) (ge_bin op_sub od_sub (ge_var) (ge_var))) (ge_bin op_addA od_add (ge_var) (ge_int)))) sc__law_balanced.nd))))) (gss_nil)) (gss_one (gs_if (gt_cmp op_ltA od_lt (ge_var) (ge_var)) (gss_one (gs_set (gx_e (ge_bin op_addA od_add (ge_var) (ge_str))) sc__law_balanced.nd)) (gss_one (gs_par3 rfl sc__law_balanced.nd (gx_e (ge_bin op_addA od_add (ge_var) (ge_str))) (gx_e (ge_bin op_sub od_sub (ge_var) (ge_var))) (gx_e (ge_bin op_sub od_sub (ge_var) (ge_int)))))))))) (gss_one (gs_ret (ge_var))))⟩
def c__law_balanced : CtP := fun ds P _ => ∃ h num : Nat, ds = [.int (2 * h : Nat), .int num] ∧ 2 * h ≤ 1000 ∧ num < ch (2 * h) h ∧ P (.fz (.str (bs (unr (2 * h) h num))))
theorem G__law_balanced (T : Tx K mg a) : FnOk P w K mg base (L2.CX P w) 1 a.f__law_balanced a.d__law_balanced ["many", "number"] (spP K c__law_balanced) :=
  fn_P T.F__law_balanced sc__law_balanced (by rintro ds P PX ⟨n, m, rfl, _⟩; rfl) (bd__law_balanced T) fun ds P PX h => by
  obtain ⟨h, num, rfl, hn, hlt, hp⟩ := h
  unfold m__law_balanced
  walk_at "ev"
  refine ⟨⟨by decide, by decide⟩, ?_⟩
  have e2 : ((2 * h : Nat) : Int) / 2 = (h : Nat) := by omega
  rw [e2]
  walk_at "ev"
  refine for_inv (fun _ q => by walk_at "ev"; exact ⟨⟨by omega, by omega⟩, q⟩) (range_map (2 * h) 0 1)
    (fun k ρ => ∃ (row : List Bool) (ones num' : Nat), ρ = [.fz (.int (2 * h : Nat)), .fz (.int (num' : Nat)), .fz (.str (bs row)), .fz (.int (ones : Nat)), .un, .un, .un, .un] ∧ row.length = k ∧ row ++ unr (2 * h - k) ones num' = unr (2 * h) h num ∧ ones ≤ 2 * h - k ∧ num' < ch (2 * h - k) ones)
    ⟨[.fz (.int (2 * h : Nat)), .fz (.int (num : Nat)), .fz (.str ""), .fz (.int (h : Nat)), .un, .un, .un, .un], by walk_at "wk", [], h, num, by rw [litE], rfl, rfl, by omega, hlt⟩ (fun k x ρ hx hI => ?_) (fun ρ hI => ?_)
  · obtain ⟨rfl, hk⟩ := range_get hx
    obtain ⟨row, ones, num', rfl, hl, he, ho, hlt'⟩ := hI
    obtain ⟨left, hleft⟩ : ∃ left, 2 * h - x = left + 1 := ⟨2 * h - x - 1, by omega⟩
    have hleft' : 2 * h - (x + 1) = left := by omega
    rw [hleft] at he ho hlt'
    have ex : (0 : Int) + (x : Nat) * 1 = (x : Nat) := by omega
    rw [ex]
    have ey : ((2 * h : Nat) : Int) - (x : Nat) - 1 = (left : Nat) := by omega
    walk_at "ev"
    rw [ey]
    refine ⟨fun z => ?a, fun z => ?b⟩
    case' a =>
      have z := of_decide_eq_true z
      walk_at "ev"
      refine for_run (fun _ q => by walk_at "ev"; exact ⟨⟨by omega, by omega⟩, q⟩) (range_map ones 0 1) (fun i => [.fz (.int (2 * h : Nat)), .fz (.int (num' : Nat)), .fz (.str (bs row)), .fz (.int (ones : Nat)), .fz (.int (x : Nat)), .fz (.int (left : Nat)), .fz (.int (ch left i : Nat)), .un]) (by walk_at "wk"; rw [ch_zero]; rfl) (fun i y hy => ?_) ?_
      · obtain ⟨rfl, hlt⟩ := range_get hy
        walk_at "ev"
        refine chose2 (by omega) (by omega) ?_
        walk_at "ev"
        exact lp_of (by walk_at "wk")
      rw [List.length_range]
      clear z
    case' b =>
      have z := of_decide_eq_false z
      have e0 : (0 : Int) = ((ch left ones : Nat) : Int) := by rw [ch_big (by omega)]; rfl
      walk_at "ev"
      rw [e0]
      clear z e0
    all_goals
      walk_at "ev"
      refine ⟨fun z => ?_, fun z => ?_⟩
      · have z : num' < ch left ones := by have := of_decide_eq_true z; omega
        walk_at "ev"
        rw [lit0]
        refine fAdd_bs (a := row) (b := [false]) (by rw [hl]; show x + 1 ≤ _; omega) ?_
        walk_at "ev"
        refine ⟨_, ?_, row ++ [false], ones, num', rfl, by simp [hl], ?_, ?_, ?_⟩
        · walk_at "wk"
        · rw [← he, hleft']
          rw [unr_lt z, List.append_assoc]
          rfl
        · rw [hleft']
          rcases Nat.lt_or_ge left ones with y | y
          · rw [ch_big y] at z; omega
          · exact y
        · rw [hleft']
          exact z
      · have z : ¬ num' < ch left ones := by have := of_decide_eq_false z; omega
        cases ones with
        | zero => rw [ch_zero] at z hlt'; omega
        | succ o =>
          have hlt2 : num' < ch left o + ch left (o + 1) := hlt'
          walk_at "ev"
          rw [lit1]
          walk_at "ev"
          refine fAdd_bs (a := row) (b := [true]) (by rw [hl]; show x + 1 ≤ _; omega) ?_
          have e1 : ((num' : Nat) : Int) - (ch left (o + 1) : Nat) = ((num' - ch left (o + 1) : Nat) : Int) := by omega
          have e3 : ((o + 1 : Nat) : Int) - 1 = (o : Nat) := by omega
          walk_at "ev"
          rw [e1, e3]
          refine ⟨_, ?_, row ++ [true], o, num' - ch left (o + 1), rfl, by simp [hl], ?_, by omega, by rw [hleft']; omega⟩
          · walk_at "wk"
          · rw [← he, hleft']
            rw [unr_ge z, List.append_assoc]
            rfl
  · obtain ⟨row, ones, num', rfl, hl, he, ho, hlt'⟩ := hI
    walk_at "ev"
    rw [List.length_range, Nat.sub_self] at he
    have : row = unr (2 * h) h num := by rw [← he]; exact (List.append_nil _).symm
    rw [this]
    walk_at "ev"
    exact hp

def m__law_turnings : MS := mSeq (mSet 1 (mXe (mBf fSum (mCons (mFz (mLc (iS (mVar 0)) (gN 4) (mYes) (mBin fSub (mBin fMul (mC (.int 2)) (mBf fInt (mCons (mVar 4) (mNil)))) (mC (.int 1))) [4])) (mNil))))) (mSeq (mSet 2 (mXo (mLst (mNil)))) (mSeq (mFor (iR1 (mCons (mBin fAdd (mBf fLen (mCons (mVar 0) (mNil))) (mC (.int 1))) (mNil))) (gN 3) (mSeq (mIfS (mTst (mBin fEq (mVar 1) (mC (.int 0)))) (mEx (mMt fApp 2 (mCons (mVar 3) (mNil)))) (mNx)) (mIfS (mTst (mBin fLt (mVar 3) (mBf fLen (mCons (mVar 0) (mNil))))) (mSet 1 (mXe (mBin fSub (mVar 1) (mBin fMul (mC (.int 2)) (mBin fSub (mBin fMul (mC (.int 2)) (mBf fInt (mCons (mBin fIx (mVar 0) (mVar 3)) (mNil)))) (mC (.int 1))))))) (mNx)))) (mRet (mVar 2))))
theorem bd__law_turnings (T : Tx K mg a) : Bd P w K mg base 0 ["row", "whole", "found", "many", "bit"] s__law_turnings m__law_turnings := ⟨fun qual f cdv A outer s H E hr tk pw =>
  gss_cons (gs_set (gx_e (ge_bf (cr_sum rfl) cd_sum T.m_sum (ga_cons (ge_fz (go_lc (own := [("bit", 4)]) rfl sc__law_turnings.nd (gi_str (ge_var)) (blkOk_by (N := ["row", "whole", "found", "many", "bit"]) (sc := defScope s__law_turnings) (by decide +kernel)) (fun _ _ _ _ _ => gg_name sc__law_turnings.nd) (fun _ _ _ _ _ => gts_nil) (fun _ _ _ _ _ => ge_bin op_sub od_sub (ge_bin op_mulA od_mul (ge_int) (ge_bt call_intA cd_int T.m_int (ga_cons (ge_var) (ga_nil)))) (ge_int)))) (ga_nil)))) sc__law_turnings.nd) (gss_cons (gs_set (gx_o (go_lst (ga_nil))) sc__law_turnings.nd) (gss_cons (gs_for pw rfl (gi_range1 T.m_range (ga_cons (ge_bin op_addA od_add (ge_bf call_len cd_len T.m_len (ga_cons (ge_var) (ga_nil))) (ge_int)) (ga_nil))) (gg_name sc__law_turnings.nd) (gss_cons (gs_if (gt_cmp (op_eqA hr.units) od_eq (ge_var) (ge_int)) (gss_one (gs_expr (ge_mut PySem.F.slot_list_append PySem.F.type_list_append (MtM.r mt_append) md_app (ga_cons (ge_var) (ga_nil))))) (gss_nil)) (gss_one (gs_if (gt_cmp op_ltA od_lt (ge_var) (ge_bf call_len cd_len T.m_len (ga_cons (ge_var) (ga_nil)))) (gss_one (gs_set (gx_e (ge_bin op_sub od_sub (ge_var) (ge_bin op_mulA od_mul (ge_int) (ge_bin op_sub od_sub (ge_bin op_mulA od_mul (ge_int) (ge_bt call_intA cd_int T.m_int (ga_cons (ge_ix (ge_var) (ge_var)) (ga_nil)))) (ge_int))))) sc__law_turnings.nd)) (gss_nil))))) (gss_one (gs_ret (ge_var)))))⟩
def c__law_turnings : CtP := fun ds P _ => ∃ l, ds = [.str (bs l)] ∧ l.length ≤ 10000 ∧ P (.fz (.lst ((turnsM l (l.length + 1)).map fun k => .int (k : Nat))))
theorem G__law_turnings (T : Tx K mg a) : FnOk P w K mg base (L2.CX P w) 1 a.f__law_turnings a.d__law_turnings ["row"] (spP K c__law_turnings) :=
  fn_P T.F__law_turnings sc__law_turnings (by rintro ds P PX ⟨n, rfl, _⟩; rfl) (bd__law_turnings T) fun ds P PX h => by
  obtain ⟨l, rfl, hl, hp⟩ := h
  unfold m__law_turnings
  walk_at "ev"
  refine lc_run (fun _ q => q) (signs_bs l) (fun k => (l.take k).map fun b => .int (pm b)) (fun _ => [.fz (.str (bs l)), .un, .un, .un, .un]) ⟨rfl, rfl⟩ (fun k b hk => ?_) ?_
  · walk_at "ev"
    refine ⟨fun _ => ?_, fun z => nomatch z⟩
    walk_at "ev"
    refine fInt_sb ?_
    walk_at "ev"
    refine fMul_small (by decide) ?_
    walk_at "ev"
    obtain ⟨h1, h2⟩ := acc_map (F := fun b => D.int (pm b)) hk rfl (by omega)
    exact ⟨h1, h2, rfl⟩
  rw [List.take_length]
  walk_at "ev"
  refine ⟨l.map pm, by rw [← intsOf_map (l.map pm), List.map_map]; rfl, ?_⟩
  have e0 : (l.map pm).sum = half l (min 0 l.length) := by rw [Nat.zero_min, half_zero]; rfl
  rw [e0]
  walk_at "ev"
  refine ⟨by decide, ?_⟩
  walk_at "ev"
  refine for_run (fun _ q => by walk_at "ev"; refine fLen_bs (by omega) ?_; walk_at "ev"; exact ⟨⟨by omega, by omega⟩, q⟩) (range_map (l.length + 1) 0 1) (fun k => [.fz (.str (bs l)), .fz (.int (half l (min k l.length))), .ow none (.lst ((turnsM l k).map fun k => .int (k : Nat))), .un, .un]) (by walk_at "wk") (fun k x hk => ?_) ?_
  · obtain ⟨rfl, hlt⟩ := range_get hk
    have hx : x ≤ l.length := by omega
    have ex : (0 : Int) + (x : Nat) * 1 = (x : Nat) := by omega
    have ht := turns_len l x
    have hsu := turns_succ l x
    rw [Nat.min_eq_left hx]
    walk_at "ev"
    rw [ex]
    refine ⟨fun z => ?a, fun z => ?b⟩
    case' a =>
      have z : half l x = 0 := of_decide_eq_true z
      rw [if_pos z] at hsu
      walk_at "ev"
      refine ⟨sl_lt (by rw [List.length_map]; omega), ?_⟩
      have e3 : ((turnsM l x).map fun k => D.int (k : Nat)) ++ [D.int (x : Nat)] = (turnsM l (x + 1)).map fun k => D.int (k : Nat) := by rw [hsu, List.map_append]; rfl
      rw [e3]
      clear z e3
    case' b =>
      have z : ¬ half l x = 0 := of_decide_eq_false z
      rw [if_neg z] at hsu
      walk_at "ev"
      rw [← hsu]
      clear z
    all_goals
      walk_at "ev"
      refine fLen_bs (by omega) ?_
      walk_at "ev"
      refine ⟨fun z => ?_, fun z => ?_⟩
      · have z : x < l.length := by have := of_decide_eq_true z; omega
        have hb := lastOf_get z
        have hst := half_step hb
        generalize lastOf l x = b at hb hst
        walk_at "ev"
        refine fIx_bs (by omega) rfl hb ?_
        walk_at "ev"
        refine fInt_sb ?_
        walk_at "ev"
        refine fMul_small (by decide) ?_
        walk_at "ev"
        refine fMul_small (by decide) ?_
        walk_at "ev"
        refine lp_of ?_
        walk_at "wk"
        rw [Nat.min_eq_left (by omega), hst]
        rfl
      · have z : ¬ x < l.length := by have := of_decide_eq_false z; omega
        walk_at "ev"
        refine lp_of ?_
        walk_at "wk"
        rw [Nat.min_eq_right (by omega), show l.length = x by omega]
  · walk_at "ev"
    rw [List.length_range]
    exact hp

def m__law_balance_told : MS := mSeq (mSet 2 (mXe (mC .non))) (mSeq (mTry (exPl a_NoRow) (mSet 2 (mXe (mCall c_balance_read (mCons (mVar 0) (mCons (mVar 1) (mNil)))))) (mSet 2 (mXe (mC .non)))) (mRet (mVar 2)))
theorem bd__law_balance_told (T : Tx K mg a) : Bd P w K mg base 4 ["row", "many", "found"] s__law_balance_told m__law_balance_told := ⟨fun qual f cdv A outer s H E hr tk pw =>
  gss_cons (gs_set (gx_e (ge_non)) sc__law_balance_told.nd) (gss_cons (gs_try rfl rfl ⟨rfl, by decide, .inl T.e_NoRow.g⟩ tk (hm_one (exm_at T.e_NoRow T.e_NoRow T.s_NoRow_NoRow)) (fun W' pn xe tk' pw' => gss_one (gs_set (gx_e (ge_call (G_balance_read T) (hr.mono (by decide)) T.g_balance_read T.F_balance_read.kp T.b_balance_read tk' (ga_cons (ge_var) (ga_cons (ge_var) (ga_nil))))) sc__law_balance_told.nd)) (fun a' pn' => gss_one (gs_set (gx_e (ge_non)) sc__law_balance_told.nd))) (gss_one (gs_ret (ge_var))))⟩
def c__law_balance_told : CtP := fun ds P _ => ∃ r, ∃ n h : Nat, ds = [.str (bs r), .int n] ∧ r.length ≤ 4000 ∧ n % 2 = 0 ∧ 2 ≤ n ∧ n ≤ 1000 ∧ IsHead n h ∧ 2 * h ≤ 1000 ∧
  ((r.length ≠ 2 * h + n ∧ P (.fz .non)) ∨ ∃ num b, r = unr (2 * h) h num ++ b ∧ num < ch (2 * h) h ∧ b.length = n ∧ (num < n → IsTurn (turnedM b num) num → P (.fz (.str (bs (turnedM b num))))) ∧ (¬ (num < n ∧ IsTurn (turnedM b num) num) → P (.fz .non)))
theorem G__law_balance_told (T : Tx K mg a) : FnOk P w K mg base (L2.CX P w) 5 a.f__law_balance_told a.d__law_balance_told ["row", "many"] (spP K c__law_balance_told) :=
  fn_P T.F__law_balance_told sc__law_balance_told (by rintro ds P PX ⟨r, n, h, rfl, _⟩; rfl) (bd__law_balance_told T) fun ds P PX h => by
  obtain ⟨r, n, h, rfl, hrl, hev, hn2, hn, hh, h2, hc⟩ := h
  unfold m__law_balance_told
  walk_at "ev"
  refine ⟨r, n, h, rfl, hrl, hev, hn2, hn, hh, h2, ?_⟩
  rcases hc with ⟨hne, hx⟩ | ⟨num, b, hr, hnum, hb, hp, hx⟩
  · refine .inl ⟨hne, ?_⟩
    walk_at "ev"
    refine exGo_self ?_
    walk_at "ev"
    exact hx
  · refine .inr ⟨num, b, hr, hnum, hb, fun k1 k2 => ?_, fun k1 => ?_⟩
    · walk_at "ev"
      exact hp k1 k2
    · walk_at "ev"
      refine exGo_self ?_
      walk_at "ev"
      exact hx k1

def m__law_stuffing_right : MS := mSeq (mSet 1 (mXe (mBin fAdd (mC (.int 2)) (mIf (mTst (mBin fEq (mCallM c__law_take 0 (mCons (mC (.int 2)) (mNil))) (mC (.int 0)))) (mCallM c__law_take 0 (mCons (mC (.int 30)) (mNil))) (mCallM c__law_take 0 (mCons (mC (.int 399)) (mNil))))))) (mSeq (mSet 2 (mXe (mCallM c__law_row 0 (mCons (mBin fAdd (mC (.int 1)) (mCallM c__law_take 0 (mCons (mBin fDiv (mBin fMul (mC (.int 398)) (mBin fSub (mVar 1) (mC (.int 1)))) (mVar 1)) (mNil)))) (mNil))))) (mSeq (mSet 3 (mXe (mCall c__law_stuffed (mCons (mVar 2) (mCons (mVar 1) (mNil)))))) (mSeq (mIfS (mOrT (mTst (mBin fNe (mCall c_stuffed (mCons (mVar 2) (mCons (mVar 1) (mNil)))) (mVar 3))) (mTst (mBin fNe (mCall c_unstuffed (mCons (mVar 3) (mCons (mVar 1) (mNil)))) (mVar 2)))) (mRet (mC (.bl false))) (mNx)) (mSeq (mFor (iR1 (mCons (mC (.int 3)) (mNil))) (gN 4) (mSeq (mPar2 5 6 (mXe (mCallM c__law_spoilt 0 (mCons (mVar 3) (mNil)))) (mXe (mC .non))) (mSeq (mTry (exPl a_NoRow) (mSet 6 (mXe (mCall c_unstuffed (mCons (mVar 5) (mCons (mVar 1) (mNil)))))) (mSet 6 (mXe (mC .non)))) (mIfS (mTst (mBin fNe (mVar 6) (mCall c__law_unstuffed (mCons (mVar 5) (mCons (mVar 1) (mNil)))))) (mRet (mC (.bl false))) (mNx))))) (mRet (mC (.bl true)))))))
theorem bd__law_stuffing_right (T : Tx K mg a) : Bd P w K mg base 3 ["box", "most", "row", "good", "turn", "bent", "found"] s__law_stuffing_right m__law_stuffing_right := ⟨fun qual f cdv A outer s H E hr tk pw =>
  gss_cons (gs_set (gx_e (ge_bin op_addA od_add (ge_int) (ge_if (gt_cmp (op_eqA hr.units) od_eq (ge_callM (G__law_take T) (hr.mono (by decide)) T.g__law_take T.F__law_take.kp T.b__law_take tk (ga_cons (ge_int) (ga_nil))) (ge_int)) (ge_callM (G__law_take T) (hr.mono (by decide)) T.g__law_take T.F__law_take.kp T.b__law_take tk (ga_cons (ge_int) (ga_nil))) (ge_callM (G__law_take T) (hr.mono (by decide)) T.g__law_take T.F__law_take.kp T.b__law_take tk (ga_cons (ge_int) (ga_nil)))))) sc__law_stuffing_right.nd) (gss_cons (gs_set (gx_e (ge_callM (G__law_row T) (hr.mono (by decide)) T.g__law_row T.F__law_row.kp T.b__law_row tk (ga_cons (ge_bin op_addA od_add (ge_int) (ge_callM (G__law_take T) (hr.mono (by decide)) T.g__law_take T.F__law_take.kp T.b__law_take tk (ga_cons (ge_bin op_fdivW od_div (ge_bin op_mulA od_mul (ge_int) (ge_bin op_sub od_sub (ge_var) (ge_int))) (ge_var)) (ga_nil)))) (ga_nil)))) sc__law_stuffing_right.nd) (gss_cons (gs_set (gx_e (ge_call (G__law_stuffed T) (hr.mono (by decide)) T.g__law_stuffed T.F__law_stuffed.kp T.b__law_stuffed tk (ga_cons (ge_var) (ga_cons (ge_var) (ga_nil))))) sc__law_stuffing_right.nd) (gss_cons (gs_if (gt_w (gw_or (gt_cmp (op_neA hr.units) od_ne (ge_call (G_stuffed T) (hr.mono (by decide)) T.g_stuffed T.F_stuffed.kp T.b_stuffed tk (ga_cons (ge_var) (ga_cons (ge_var) (ga_nil)))) (ge_var)) (gw_or1 (gt_cmp (op_neA hr.units) od_ne (ge_call (G_unstuffed T) (hr.mono (by decide)) T.g_unstuffed T.F_unstuffed.kp T.b_unstuffed tk (ga_cons (ge_var) (ga_cons (ge_var) (ga_nil)))) (ge_var))))) (gss_one (gs_ret (ge_bl))) (gss_nil)) (gss_cons (gs_for pw rfl (gi_range1 T.m_range (ga_cons (ge_int) (ga_nil))) (gg_name sc__law_stuffing_right.nd) (gss_cons (gs_par2 rfl sc__law_stuffing_right.nd (gx_e (ge_callM (G__law_spoilt T) (hr.mono (by decide)) T.g__law_spoilt T.F__law_spoilt.kp T.b__law_spoilt tk (ga_cons (ge_var) (ga_nil)))) (gx_e (ge_non))) (gss_cons (gs_try rfl rfl ⟨rfl, by decide, .inl T.e_NoRow.g⟩ tk (hm_one (exm_at T.e_NoRow T.e_NoRow T.s_NoRow_NoRow)) (fun W' pn xe tk' pw' => gss_one (gs_set (gx_e (ge_call (G_unstuffed T) (hr.mono (by decide)) T.g_unstuffed T.F_unstuffed.kp T.b_unstuffed tk' (ga_cons (ge_var) (ga_cons (ge_var) (ga_nil))))) sc__law_stuffing_right.nd)) (fun a' pn' => gss_one (gs_set (gx_e (ge_non)) sc__law_stuffing_right.nd))) (gss_one (gs_if (gt_cmp (op_neA hr.units) od_ne (ge_var) (ge_call (G__law_unstuffed T) (hr.mono (by decide)) T.g__law_unstuffed T.F__law_unstuffed.kp T.b__law_unstuffed tk (ga_cons (ge_var) (ga_cons (ge_var) (ga_nil))))) (gss_one (gs_ret (ge_bl))) (gss_nil)))))) (gss_one (gs_ret (ge_bl)))))))⟩
def c__law_stuffing_right : CtM := fun c0 ds P _ => ∃ n : Nat, ds = [] ∧ Box c0 n ∧ n ≤ 1000 ∧ ∀ c', Box c' (n + 4000) → P (.fz (.bl true)) c'
theorem read_stuffed (m : Nat) (l : List Bool) : readM m (stuffM m l) = some l := by
  unfold readM
  rw [picks_stuffed, if_pos rfl]
theorem G__law_stuffing_right (T : Tx K mg a) : FnOk P w K mg base (L2.CX P w) 4 a.f__law_stuffing_right a.d__law_stuffing_right ["box"] (spM K c__law_stuffing_right) :=
  fn_M T.F__law_stuffing_right sc__law_stuffing_right (by rintro c0 ds P PX ⟨n, rfl, _⟩; rfl) (bd__law_stuffing_right T) fun p c0 ds P PX h => by
  obtain ⟨n, rfl, hB, hn, hp⟩ := h
  unfold m__law_stuffing_right
  walk_at "ev"
  refine ⟨n, 2, rfl, hB, by omega, few (by decide) (by decide), fun r1 c1 hr1 hB1 => ?_⟩
  walk_at "ev"
  refine ⟨fun z => ?a, fun z => ?b⟩
  case' a =>
    walk_at "ev"
    refine ⟨n + 1, 30, rfl, hB1, by omega, few (by decide) (by decide), fun r2 c2 hr2 hB2 => ?_⟩
    walk_at "ev"
    obtain ⟨m, e, hm1, hm2⟩ : ∃ m : Nat, (2 : Int) + (r2 : Nat) = (m : Nat) ∧ 2 ≤ m ∧ m ≤ 400 := ⟨2 + r2, rfl, by omega, by omega⟩
    rw [e]
    clear z e hr2 r2
  case' b =>
    walk_at "ev"
    refine ⟨n + 1, 399, rfl, hB1, by omega, few (by decide) (by decide), fun r2 c2 hr2 hB2 => ?_⟩
    walk_at "ev"
    obtain ⟨m, e, hm1, hm2⟩ : ∃ m : Nat, (2 : Int) + (r2 : Nat) = (m : Nat) ∧ 2 ≤ m ∧ m ≤ 400 := ⟨2 + r2, rfl, by omega, by omega⟩
    rw [e]
    clear z e hr2 r2
  all_goals
    walk_at "ev"
    refine fMul_small (by decide) ?_
    walk_at "ev"
    have e1 : (398 : Int) * ((m : Nat) - 1) = ((398 * (m - 1) : Nat) : Int) := by omega
    rw [e1]
    refine ⟨wide_div (b := 10) (by omega) (by rw [Int.natAbs_natCast]; show m < 1024; omega) (by decide) (by decide), ?_⟩
    rw [← Int.natCast_ediv]
    have q0 : 0 < 398 * (m - 1) / m := Nat.div_pos (by omega) (by omega)
    have q1 : 398 * (m - 1) / m ≤ 398 := Nat.div_le_of_le_mul (by rw [Nat.mul_comm m 398]; exact Nat.mul_le_mul_left _ (by omega))
    walk_at "ev"
    refine ⟨n + 2, 398 * (m - 1) / m, rfl, hB2, by omega, few q0 (by omega), fun r3 c3 hr3 hB3 => ?_⟩
    walk_at "ev"
    refine ⟨n + 3, 1 + r3, rfl, hB3, by omega, by omega, fun l c4 hl hB4 => ?_⟩
    walk_at "ev"
    refine ⟨l, m, rfl, hm1, by omega, by omega, ?_⟩
    have hsl := stuff_len_le m l
    walk_at "ev"
    refine ⟨l, m, rfl, by omega, by omega, by omega, ?_⟩
    walk_at "ev"
    refine fNe_bs ?_
    walk_at "ev"
    refine ⟨fun z => ?_, fun _ => ?_⟩
    · exfalso
      simp at z
    walk_at "ev"
    refine ⟨stuffM m l, m, rfl, by omega, by omega, by omega, fun f hf => ?_, fun hf => ?_⟩
    rotate_left
    · rw [read_stuffed] at hf
      cases hf
    rw [read_stuffed] at hf
    cases hf
    walk_at "ev"
    refine fNe_bs ?_
    walk_at "ev"
    refine ⟨fun z => ?_, fun _ => ?_⟩
    · exfalso
      simp at z
    walk_at "ev"
    refine for_inv (fun _ q => by walk_at "ev"; exact ⟨⟨by decide, by decide⟩, q⟩) (range_map 3 0 1) (fun k ρ => ∃ c' : C, ρ = [.ow (some p) c', .fz (.int (m : Nat)), .fz (.str (bs l)), .fz (.str (bs (stuffM m l))), .un, .un, .un] ∧ Box c' (n + 3 + 3000 + 10 * k)) ⟨_, by walk_at "wk", c4, rfl, hB4⟩ (fun k x ρ hk hI => ?_) (fun ρ hI => ?_)
    · obtain ⟨rfl, hlt⟩ := range_get hk
      obtain ⟨c5, rfl, hB5⟩ := hI
      walk_at "ev"
      refine ⟨_, stuffM m l, rfl, hB5, by omega, by omega, fun bent c6 hbl hB6 => ?_⟩
      walk_at "ev"
      refine ⟨bent, m, rfl, by omega, by omega, by omega, fun f hf => ?_, fun hf => ?_⟩
      · walk_at "ev"
        refine ⟨bent, m, rfl, hm1, by omega, by omega, fun f' hf' => ?_, fun hf' => ?_⟩
        · rw [hf] at hf'
          cases hf'
          walk_at "ev"
          refine fNe_bs ?_
          walk_at "ev"
          refine ⟨fun z => ?_, fun _ => ?_⟩
          · exfalso
            simp at z
          walk_at "ev"
          exact ⟨_, by walk_at "wk", c6, rfl, hB6.mono (by omega)⟩
        · rw [hf] at hf'
          cases hf'
      · walk_at "ev"
        refine exGo_self ?_
        walk_at "ev"
        refine ⟨bent, m, rfl, hm1, by omega, by omega, fun f' hf' => ?_, fun hf' => ?_⟩
        · rw [hf] at hf'
          cases hf'
        · walk_at "ev"
          refine fNe_non ?_
          walk_at "ev"
          refine ⟨fun z => Bool.noConfusion z, fun _ => ?_⟩
          walk_at "ev"
          exact ⟨_, by walk_at "wk", c6, rfl, hB6.mono (by omega)⟩
    · obtain ⟨c5, rfl, hB5⟩ := hI
      walk_at "ev"
      exact ⟨_, rfl, hp _ (hB5.mono (by rw [List.length_range]; omega))⟩

def m__law_heads_right : MS := mSeq (mSet 1 (mXe (mBin fAdd (mBin fMul (mBin fAdd (mBin fMul (mCallM c__law_take 0 (mCons (mC (.int 33554432)) (mNil))) (mC (.int 33554432))) (mCallM c__law_take 0 (mCons (mC (.int 33554432)) (mNil)))) (mC (.int 256))) (mCallM c__law_take 0 (mCons (mC (.int 256)) (mNil)))))) (mSeq (mSet 2 (mXe (mCall c__law_count (mCons (mBin fMul (mC (.int 2)) (mCallM c__law_take 0 (mCons (mC (.int 30)) (mNil)))) (mNil))))) (mSeq (mFor (iT (mTup (mCons (mBin fAdd (mC (.int 1)) (mBin fMod (mVar 1) (mBin fPow (mC (.int 10)) (mC (.int 17))))) (mCons (mVar 2) (mCons (mBin fAdd (mVar 2) (mC (.int 1))) (mCons (mBin fAdd (mC (.int 1)) (mBin fMod (mVar 1) (mBin fPow (mC (.int 10)) (mC (.int 6))))) (mCons (mBin fAdd (mC (.int 1)) (mBin fMod (mVar 1) (mC (.int 9)))) (mNil)))))))) (gN 3) (mIfS (mTst (mBin fNe (mBf fStr (mCons (mCall c_head_for (mCons (mVar 3) (mNil))) (mNil))) (mBf fStr (mCons (mCall c__law_head (mCons (mVar 3) (mNil))) (mNil))))) (mRet (mC (.bl false))) (mNx))) (mRet (mC (.bl true)))))
theorem bd__law_heads_right (T : Tx K mg a) : Bd P w K mg base 3 ["box", "great", "count", "many"] s__law_heads_right m__law_heads_right := ⟨fun qual f cdv A outer s H E hr tk pw =>
  gss_cons (gs_set (gx_e (ge_bin op_addA od_add (ge_bin op_mulA od_mul (ge_bin op_addA od_add (ge_bin op_mulA od_mul (ge_callM (G__law_take T) (hr.mono (by decide)) T.g__law_take T.F__law_take.kp T.b__law_take tk (ga_cons (ge_int) (ga_nil))) (ge_int)) (ge_callM (G__law_take T) (hr.mono (by decide)) T.g__law_take T.F__law_take.kp T.b__law_take tk (ga_cons (ge_int) (ga_nil)))) (ge_int)) (ge_callM (G__law_take T) (hr.mono (by decide)) T.g__law_take T.F__law_take.kp T.b__law_take tk (ga_cons (ge_int) (ga_nil))))) sc__law_heads_right.nd) (gss_cons (gs_set (gx_e (ge_call (G__law_count T) (hr.mono (by decide)) T.g__law_count T.F__law_count.kp T.b__law_count tk (ga_cons (ge_bin op_mulA od_mul (ge_int) (ge_callM (G__law_take T) (hr.mono (by decide)) T.g__law_take T.F__law_take.kp T.b__law_take tk (ga_cons (ge_int) (ga_nil)))) (ga_nil)))) sc__law_heads_right.nd) (gss_cons (gs_for pw rfl (gi_tup (ge_tup (ga_cons (ge_bin op_addA od_add (ge_int) (ge_bin op_mod od_mod (ge_var) (ge_bin op_pow od_pow (ge_int) (ge_int)))) (ga_cons (ge_var) (ga_cons (ge_bin op_addA od_add (ge_var) (ge_int)) (ga_cons (ge_bin op_addA od_add (ge_int) (ge_bin op_mod od_mod (ge_var) (ge_bin op_pow od_pow (ge_int) (ge_int)))) (ga_cons (ge_bin op_addA od_add (ge_int) (ge_bin op_mod od_mod (ge_var) (ge_int))) (ga_nil)))))))) (gg_name sc__law_heads_right.nd) (gss_one (gs_if (gt_cmp (op_neA hr.units) od_ne (ge_bf SkE.call_repr_int cd_str T.m_repr (ga_cons (ge_call (G_head_for T) (hr.mono (by decide)) T.g_head_for T.F_head_for.kp T.b_head_for tk (ga_cons (ge_var) (ga_nil))) (ga_nil))) (ge_bt call_str_int cd_str T.m_str (ga_cons (ge_call (G__law_head T) (hr.mono (by decide)) T.g__law_head T.F__law_head.kp T.b__law_head tk (ga_cons (ge_var) (ga_nil))) (ga_nil)))) (gss_one (gs_ret (ge_bl))) (gss_nil)))) (gss_one (gs_ret (ge_bl)))))⟩
def c__law_heads_right : CtM := fun c0 ds P _ => ∃ n : Nat, ds = [] ∧ Box c0 n ∧ n ≤ 100000 ∧ ∀ c', Box c' (n + 4) → P (.fz (.bl true)) c'
theorem head_any {n : Nat} (h : n ≤ 118264581564861424) : ∃ h, h ≤ 30 ∧ IsHead n h := by
  have e : ch (2 * 30) 30 = 118264581564861424 := by decide +kernel
  exact head_there 30 (by rw [e]; exact h)
theorem ch_mono {k : Nat} (h : k ≤ 29) : ch (2 * k) k + 1 ≤ 118264581564861424 := by
  have : ∀ k : Fin 30, ch (2 * k.val) k.val + 1 ≤ 118264581564861424 := by decide +kernel
  exact this ⟨k, by omega⟩
theorem G__law_heads_right (T : Tx K mg a) : FnOk P w K mg base (L2.CX P w) 4 a.f__law_heads_right a.d__law_heads_right ["box"] (spM K c__law_heads_right) :=
  fn_M T.F__law_heads_right sc__law_heads_right (by rintro c0 ds P PX ⟨n, rfl, _⟩; rfl) (bd__law_heads_right T) fun p c0 ds P PX h => by
  obtain ⟨n, rfl, hB, hn, hp⟩ := h
  unfold m__law_heads_right
  walk_at "ev"
  refine ⟨n, 33554432, rfl, hB, by omega, ⟨by decide, Nat.lt_of_lt_of_le (by decide : 33554432 < 2 ^ 26) (Nat.pow_le_pow_right (by decide) (by decide))⟩, fun r1 c1 hr1 hB1 => ?_⟩
  walk_at "ev"
  refine ⟨.inr (.inr (by decide)), ?_⟩
  walk_at "ev"
  refine ⟨n + 1, 33554432, rfl, hB1, by omega, ⟨by decide, Nat.lt_of_lt_of_le (by decide : 33554432 < 2 ^ 26) (Nat.pow_le_pow_right (by decide) (by decide))⟩, fun r2 c2 hr2 hB2 => ?_⟩
  walk_at "ev"
  refine ⟨.inr (.inr (by decide)), ?_⟩
  walk_at "ev"
  refine ⟨n + 2, 256, rfl, hB2, by omega, few (by decide) (by decide), fun r3 c3 hr3 hB3 => ?_⟩
  obtain ⟨g, hg⟩ : ∃ g : Nat, ((((r1 : Nat) : Int) * 33554432 + (r2 : Nat)) * 256 + (r3 : Nat)) = (g : Nat) := ⟨(r1 * 33554432 + r2) * 256 + r3, by omega⟩
  walk_at "ev"
  rw [hg]
  refine ⟨n + 3, 30, rfl, hB3, by omega, few (by decide) (by decide), fun k c4 hk hB4 => ?_⟩
  walk_at "ev"
  refine fMul_small (by decide) ?_
  have e2 : (2 : Int) * (k : Nat) = ((2 * k : Nat) : Int) := by omega
  rw [e2]
  walk_at "ev"
  refine ⟨k, rfl, by omega, ?_⟩
  have hcm := ch_mono (k := k) (by omega)
  generalize ch (2 * k) k = cn at hcm
  have m1 : (1 : Int) + (g : Nat) % 10 ^ (17 : Int).toNat = ((1 + g % 10 ^ 17 : Nat) : Int) := by
    show (1 : Int) + (g : Nat) % 100000000000000000 = ((1 + g % 100000000000000000 : Nat) : Int)
    omega
  have m2 : (1 : Int) + (g : Nat) % 10 ^ (6 : Int).toNat = ((1 + g % 10 ^ 6 : Nat) : Int) := by
    show (1 : Int) + (g : Nat) % 1000000 = ((1 + g % 1000000 : Nat) : Int)
    omega
  have m3 : (1 : Int) + (g : Nat) % 9 = ((1 + g % 9 : Nat) : Int) := by omega
  have b1 : 1 + g % 10 ^ 17 ≤ 118264581564861424 := by
    have : g % 10 ^ 17 < 10 ^ 17 := Nat.mod_lt _ (by decide)
    have e : (10 : Nat) ^ 17 = 100000000000000000 := by decide
    omega
  have b2 : 1 + g % 10 ^ 6 ≤ 118264581564861424 := by
    have : g % 10 ^ 6 < 10 ^ 6 := Nat.mod_lt _ (by decide)
    have e : (10 : Nat) ^ 6 = 1000000 := by decide
    omega
  have b3 : 1 + g % 9 ≤ 118264581564861424 := by omega
  walk_at "ev"
  refine for_run (f := fun x : Nat => D.int (x : Nat)) (xs := [1 + g % 10 ^ 17, cn, cn + 1, 1 + g % 10 ^ 6, 1 + g % 9]) (fun _ q' => by
    walk_at "ev"
    refine ⟨⟨by decide, by decide, by decide⟩, ?_⟩
    walk_at "ev"
    refine ⟨by decide, ?_⟩
    walk_at "ev"
    refine ⟨⟨by decide, by decide, by decide⟩, ?_⟩
    walk_at "ev"
    refine ⟨by decide, ?_⟩
    walk_at "ev"
    refine ⟨by decide, ?_⟩
    walk_at "ev"
    rw [m1, m2, m3, show ((cn : Nat) : Int) + 1 = ((cn + 1 : Nat) : Int) from rfl]
    exact ⟨by decide, q'⟩) rfl (fun k => [.ow (some p) c4, .fz (.int (g : Nat)), .fz (.int (cn : Nat)), .un]) (by walk_at "wk") (fun k x hx => ?_) ?_
  · have hxb : x ≤ 118264581564861424 := by
      have := List.mem_of_getElem? hx
      simp only [List.mem_cons, List.not_mem_nil, or_false] at this
      rcases this with h | h | h | h | h <;> omega
    clear hx m1 m2 m3 b1 b2 b3
    obtain ⟨h, hh, hi⟩ := head_any hxb
    walk_at "ev"
    refine ⟨x, h, rfl, by omega, hi, ?_⟩
    walk_at "ev"
    have hs : ((2 * h : Nat) : Int).natAbs.log2 < 1920 := by
      rw [Int.natAbs_natCast]
      exact Nat.lt_of_le_of_lt (Nat.log2_le_self _) (by omega)
    refine ⟨hs, ?_⟩
    walk_at "ev"
    refine ⟨x, h, rfl, by omega, hi, ?_⟩
    walk_at "ev"
    refine ⟨hs, ?_⟩
    walk_at "ev"
    refine fNe_strSame ?_
    walk_at "ev"
    refine ⟨fun z => Bool.noConfusion z, fun _ => ?_⟩
    walk_at "ev"
    refine lp_of ?_
    walk_at "wk"
  · walk_at "ev"
    exact ⟨_, rfl, hp _ hB4⟩

def m__law_balance_right : MS := mSeq (mSet 2 (mXe (mBin fMul (mC (.int 2)) (mIf (mTst (mBin fEq (mCallM c__law_take 0 (mCons (mC (.int 2)) (mNil))) (mC (.int 0)))) (mVar 1) (mBin fAdd (mC (.int 1)) (mCallM c__law_take 0 (mCons (mVar 1) (mNil)))))))) (mSeq (mSet 3 (mXe (mCallM c__law_row 0 (mCons (mVar 2) (mNil))))) (mSeq (mSet 4 (mXe (mBin fIx (mCall c__law_turnings (mCons (mVar 3) (mNil))) (mC (.int 0))))) (mSeq (mSet 5 (mXe (mCall c__law_head (mCons (mVar 2) (mNil))))) (mSeq (mSet 6 (mXe (mBin fAdd (mCall c__law_other (mCons (mSl (mVar 3) (mNoP) (mSoP (mVar 4))) (mNil))) (mSl (mVar 3) (mSoP (mVar 4)) (mNoP))))) (mSeq (mSet 7 (mXe (mBin fAdd (mCall c__law_balanced (mCons (mVar 5) (mCons (mVar 4) (mNil)))) (mVar 6)))) (mSeq (mIfS (mOrT (mTst (mBin fNe (mCall c_balance_written (mCons (mVar 3) (mNil))) (mVar 7))) (mTst (mBin fNe (mCall c__law_balance_told (mCons (mVar 7) (mCons (mVar 2) (mNil)))) (mVar 3)))) (mRet (mC (.bl false))) (mNx)) (mSeq (mSet 8 (mXe (mCallM c__law_take 0 (mCons (mBf fLen (mCons (mVar 6) (mNil))) (mNil))))) (mSeq (mSet 9 (mXe (mBin fAdd (mBin fAdd (mSl (mVar 7) (mNoP) (mSoP (mBin fAdd (mVar 5) (mVar 8)))) (mCall c__law_other (mCons (mBin fIx (mVar 6) (mVar 8)) (mNil)))) (mSl (mVar 6) (mSoP (mBin fAdd (mVar 8) (mC (.int 1)))) (mNoP))))) (mSeq (mFor (iT (mTup (mCons (mVar 9) (mCons (mSl (mVar 7) (mNoP) (mSoP (mNeg (mC (.int 1))))) (mCons (mBin fAdd (mVar 7) (mC (.str "0"))) (mNil)))))) (gN 10) (mIfS (mTst (mBin fIsNot (mCall c__law_balance_told (mCons (mVar 10) (mCons (mVar 2) (mNil)))) (mC .non))) (mRet (mC (.bl false))) (mNx))) (mSeq (mSeq (mSet 12 (mXo (mLc (iL (mCall c__law_turnings (mCons (mVar 6) (mNil)))) (gN 11) (mTst (mBin fLt (mVar 11) (mVar 2))) (mVar 11) [11]))) (mFzS 12)) (mSeq (mSet 13 (mXe (mCall c__law_count (mCons (mVar 5) (mNil))))) (mSeq (mSet 14 (mXe (mFz (mLst (mCons (mCallM c__law_take 0 (mCons (mVar 2) (mNil))) (mCons (mBin fIx (mVar 12) (mCallM c__law_take 0 (mCons (mBf fLen (mCons (mVar 12) (mNil))) (mNil)))) (mCons (mBin fIx (mVar 12) (mNeg (mC (.int 1)))) (mCons (mBin fSub (mVar 2) (mC (.int 1))) (mCons (mCallM c__law_take 0 (mCons (mVar 13) (mNil))) (mNil)))))))))) (mSeq (mFor (iL (mBin fAdd (mVar 14) (mFz (mLst (mCons (mBf fMin (mCons (mVar 2) (mCons (mBin fSub (mVar 13) (mC (.int 1))) (mNil)))) (mNil)))))) (gN 11) (mSeq (mSet 15 (mXe (mBin fAdd (mCall c__law_other (mCons (mSl (mVar 6) (mNoP) (mSoP (mVar 11))) (mNil))) (mSl (mVar 6) (mSoP (mVar 11)) (mNoP))))) (mSeq (mSet 16 (mXe (mAndV (mBin fLt (mVar 11) (mVar 2)) (mBin fEq (mBin fIx (mCall c__law_turnings (mCons (mVar 15) (mNil))) (mC (.int 0))) (mVar 11))))) (mIfS (mTst (mBin fNe (mCall c__law_balance_told (mCons (mBin fAdd (mCall c__law_balanced (mCons (mVar 5) (mCons (mVar 11) (mNil)))) (mVar 6)) (mCons (mVar 2) (mNil)))) (mIf (mTst (mVar 16)) (mVar 15) (mC .non)))) (mRet (mC (.bl false))) (mNx))))) (mRet (mC (.bl true))))))))))))))))
theorem bd__law_balance_right (T : Tx K mg a) : Bd P w K mg base 5 ["box", "most", "many", "row", "first", "head", "body", "good", "at", "wrong", "bent", "number", "meets", "greatest", "some", "back", "fits"] s__law_balance_right m__law_balance_right := ⟨fun qual f cdv A outer s H E hr tk pw =>
  gss_cons (gs_set (gx_e (ge_bin op_mulA od_mul (ge_int) (ge_if (gt_cmp (op_eqA hr.units) od_eq (ge_callM (G__law_take T) (hr.mono (by decide)) T.g__law_take T.F__law_take.kp T.b__law_take tk (ga_cons (ge_int) (ga_nil))) (ge_int)) (ge_var) (ge_bin op_addA od_add (ge_int) (ge_callM (G__law_take T) (hr.mono (by decide)) T.g__law_take T.F__law_take.kp T.b__law_take tk (ga_cons (ge_var) (ga_nil))))))) sc__law_balance_right.nd) (gss_cons (gs_set (gx_e (ge_callM (G__law_row T) (hr.mono (by decide)) T.g__law_row T.F__law_row.kp T.b__law_row tk (ga_cons (ge_var) (ga_nil)))) sc__law_balance_right.nd) (gss_cons (gs_set (gx_e (ge_ix (ge_call (G__law_turnings T) (hr.mono (by decide)) T.g__law_turnings T.F__law_turnings.kp T.b__law_turnings tk (ga_cons (ge_var) (ga_nil))) (ge_int))) sc__law_balance_right.nd) (gss_cons (gs_set (gx_e (ge_call (G__law_head T) (hr.mono (by decide)) T.g__law_head T.F__law_head.kp T.b__law_head tk (ga_cons (ge_var) (ga_nil)))) sc__law_balance_right.nd) (gss_cons (gs_set (gx_e (ge_bin op_addA od_add (ge_call (G__law_other T) (hr.mono (by decide)) T.g__law_other T.F__law_other.kp T.b__law_other tk (ga_cons (ge_sl (ge_var) (gp_none) (gp_some (ge_var))) (ga_nil))) (ge_sl (ge_var) (gp_some (ge_var)) (gp_none)))) sc__law_balance_right.nd) (gss_cons (gs_set (gx_e (ge_bin op_addA od_add (ge_call (G__law_balanced T) (hr.mono (by decide)) T.g__law_balanced T.F__law_balanced.kp T.b__law_balanced tk (ga_cons (ge_var) (ga_cons (ge_var) (ga_nil)))) (ge_var))) sc__law_balance_right.nd) (gss_cons (gs_if (gt_w (gw_or (gt_cmp (op_neA hr.units) od_ne (ge_call (G_balance_written T) (hr.mono (by decide)) T.g_balance_written T.F_balance_written.kp T.b_balance_written tk (ga_cons (ge_var) (ga_nil))) (ge_var)) (gw_or1 (gt_cmp (op_neA hr.units) od_ne (ge_call (G__law_balance_told T) (hr.mono (by decide)) T.g__law_balance_told T.F__law_balance_told.kp T.b__law_balance_told tk (ga_cons (ge_var) (ga_cons (ge_var) (ga_nil)))) (ge_var))))) (gss_one (gs_ret (ge_bl))) (gss_nil)) (gss_cons (gs_set (gx_e (ge_callM (G__law_take T) (hr.mono (by decide)) T.g__law_take T.F__law_take.kp T.b__law_take tk (ga_cons (ge_bf call_len cd_len T.m_len (ga_cons (ge_var) (ga_nil))) (ga_nil)))) sc__law_balance_right.nd) (gss_cons (gs_set (gx_e (ge_bin op_addA od_add (ge_bin op_addA od_add (ge_sl (ge_var) (gp_none) (gp_some (ge_bin op_addA od_add (ge_var) (ge_var)))) (ge_call (G__law_other T) (hr.mono (by decide)) T.g__law_other T.F__law_other.kp T.b__law_other tk (ga_cons (ge_ix (ge_var) (ge_var)) (ga_nil)))) (ge_sl (ge_var) (gp_some (ge_bin op_addA od_add (ge_var) (ge_int))) (gp_none)))) sc__law_balance_right.nd) (gss_cons (gs_for pw rfl (gi_tup (ge_tup (ga_cons (ge_var) (ga_cons (ge_sl (ge_var) (gp_none) (gp_some (ge_neg (ge_int)))) (ga_cons (ge_bin op_addA od_add (ge_var) (ge_str)) (ga_nil)))))) (gg_name sc__law_balance_right.nd) (gss_one (gs_if (gt_cmp op_isNotA od_isnot (ge_call (G__law_balance_told T) (hr.mono (by decide)) T.g__law_balance_told T.F__law_balance_told.kp T.b__law_balance_told tk (ga_cons (ge_var) (ga_cons (ge_var) (ga_nil)))) (ge_non)) (gss_one (gs_ret (ge_bl))) (gss_nil)))) (gss_cons (gs_fz (gs_setLcO (own := [("number", 11)]) rfl sc__law_balance_right.nd (gi_list (ge_call (G__law_turnings T) (hr.mono (by decide)) T.g__law_turnings T.F__law_turnings.kp T.b__law_turnings tk (ga_cons (ge_var) (ga_nil)))) (blkOk_by (N := ["box", "most", "many", "row", "first", "head", "body", "good", "at", "wrong", "bent", "number", "meets", "greatest", "some", "back", "fits"]) (sc := defScope s__law_balance_right) (by decide +kernel)) (fun _ _ _ _ _ => gg_name sc__law_balance_right.nd) (fun _ _ _ _ _ => gts_one (gt_cmp op_ltA od_lt (ge_var) (ge_var))) (fun _ _ _ _ _ => ge_var) (sw_true rfl rfl rfl (by decide +kernel)))) (gss_cons (gs_set (gx_e (ge_call (G__law_count T) (hr.mono (by decide)) T.g__law_count T.F__law_count.kp T.b__law_count tk (ga_cons (ge_var) (ga_nil)))) sc__law_balance_right.nd) (gss_cons (gs_set (gx_e (ge_fz (go_lst (ga_cons (ge_callM (G__law_take T) (hr.mono (by decide)) T.g__law_take T.F__law_take.kp T.b__law_take tk (ga_cons (ge_var) (ga_nil))) (ga_cons (ge_ix (ge_var) (ge_callM (G__law_take T) (hr.mono (by decide)) T.g__law_take T.F__law_take.kp T.b__law_take tk (ga_cons (ge_bf call_len cd_len T.m_len (ga_cons (ge_var) (ga_nil))) (ga_nil)))) (ga_cons (ge_ix (ge_var) (ge_neg (ge_int))) (ga_cons (ge_bin op_sub od_sub (ge_var) (ge_int)) (ga_cons (ge_callM (G__law_take T) (hr.mono (by decide)) T.g__law_take T.F__law_take.kp T.b__law_take tk (ga_cons (ge_var) (ga_nil))) (ga_nil))))))))) sc__law_balance_right.nd) (gss_cons (gs_for pw rfl (gi_list (ge_bin op_addA od_add (ge_var) (ge_fz (go_lst (ga_cons (ge_bf (cr_minA rfl) cd_min T.m_min (ga_cons (ge_var) (ga_cons (ge_bin op_sub od_sub (ge_var) (ge_int)) (ga_nil)))) (ga_nil)))))) (gg_name sc__law_balance_right.nd) (gss_cons (gs_set (gx_e (ge_bin op_addA od_add (ge_call (G__law_other T) (hr.mono (by decide)) T.g__law_other T.F__law_other.kp T.b__law_other tk (ga_cons (ge_sl (ge_var) (gp_none) (gp_some (ge_var))) (ga_nil))) (ge_sl (ge_var) (gp_some (ge_var)) (gp_none)))) sc__law_balance_right.nd) (gss_cons (gs_set (gx_e (ge_and (ge_cmp op_ltA od_lt (ge_var) (ge_var)) (ge_one (ge_cmp (op_eqA hr.units) od_eq (ge_ix (ge_call (G__law_turnings T) (hr.mono (by decide)) T.g__law_turnings T.F__law_turnings.kp T.b__law_turnings tk (ga_cons (ge_var) (ga_nil))) (ge_int)) (ge_var))))) sc__law_balance_right.nd) (gss_one (gs_if (gt_cmp (op_neA hr.units) od_ne (ge_call (G__law_balance_told T) (hr.mono (by decide)) T.g__law_balance_told T.F__law_balance_told.kp T.b__law_balance_told tk (ga_cons (ge_bin op_addA od_add (ge_call (G__law_balanced T) (hr.mono (by decide)) T.g__law_balanced T.F__law_balanced.kp T.b__law_balanced tk (ga_cons (ge_var) (ga_cons (ge_var) (ga_nil)))) (ge_var)) (ga_cons (ge_var) (ga_nil)))) (ge_if (gt_val (ge_var)) (ge_var) (ge_non))) (gss_one (gs_ret (ge_bl))) (gss_nil)))))) (gss_one (gs_ret (ge_bl))))))))))))))))⟩
def c__law_balance_right : CtM := fun c0 ds P _ => ∃ n most : Nat, ds = [.int (most : Nat)] ∧ Box c0 n ∧ n ≤ 10000 ∧ 1 ≤ most ∧ most ≤ 193 ∧ ∀ c', Box c' (n + 4000) → P (.fz (.bl true)) c'
theorem few_ch {q : Nat} (h : 2 * q ≤ 400) : Few (ch (2 * q) q) := ⟨ch_pos (by omega), Nat.lt_of_le_of_lt (ch_le _ _) (Nat.pow_lt_pow_right (by decide) (by omega))⟩
theorem G__law_balance_right (T : Tx K mg a) : FnOk P w K mg base (L2.CX P w) 6 a.f__law_balance_right a.d__law_balance_right ["box", "most"] (spM K c__law_balance_right) :=
  fn_M T.F__law_balance_right sc__law_balance_right (by rintro c0 ds P PX ⟨n, m, rfl, _⟩; rfl) (bd__law_balance_right T) fun p c0 ds P PX h => by
  obtain ⟨n, most, rfl, hB, hn, hm1, hm2, hp⟩ := h
  unfold m__law_balance_right
  walk_at "ev"
  refine ⟨n, 2, rfl, hB, by omega, few (by decide) (by decide), fun r1 c1 hr1 hB1 => ?_⟩
  have e2 : ∀ x : Nat, (2 : Int) * (x : Nat) = ((2 * x : Nat) : Int) := fun x => by omega
  walk_at "ev"
  refine ⟨fun z => ?a, fun z => ?b⟩
  case' a =>
    obtain ⟨q, hq, hq1, hq2⟩ : ∃ q : Nat, q = most ∧ 1 ≤ q ∧ q ≤ 193 := ⟨most, rfl, hm1, hm2⟩
    walk_at "ev"
    refine fMul_small (by decide) ?_
    rw [show (2 : Int) * (most : Nat) = ((2 * q : Nat) : Int) by omega]
    have hB2 := hB1.mono (Nat.le_succ _)
    generalize c1 = c2 at hB2 ⊢
    clear z hB1 hq
  case' b =>
    walk_at "ev"
    refine ⟨n + 1, most, rfl, hB1, by omega, few (by omega) (by omega), fun r2 c2 hr2 hB2 => ?_⟩
    walk_at "ev"
    obtain ⟨q, hq, hq1, hq2⟩ : ∃ q : Nat, (1 : Int) + (r2 : Nat) = (q : Nat) ∧ 1 ≤ q ∧ q ≤ 193 := ⟨1 + r2, rfl, by omega, by omega⟩
    rw [hq]
    refine fMul_small (by decide) ?_
    rw [e2]
    clear z hq hr2 r2 hB1
  all_goals
    walk_at "ev"
    refine ⟨_, 2 * q, rfl, hB2, by omega, by omega, fun l c3 hl hB3 => ?_⟩
    obtain ⟨t, htl, ht⟩ := turn_there l (by omega) (by omega)
    obtain ⟨rest, hrest⟩ := turns_first ht (n := l.length + 1) (by omega)
    obtain ⟨h, hh6, hh⟩ := head_there (n := 2 * q) 6 (by have e : ch (2 * 6) 6 = 924 := by decide +kernel
                                                         rw [e]; omega)
    walk_at "ev"
    refine ⟨l, rfl, by omega, ?_⟩
    rw [hrest]
    walk_at "ev"
    refine fIx_at (d := .int (t : Nat)) (atI_of (k := 0) rfl rfl) ?_
    walk_at "ev"
    refine ⟨2 * q, h, rfl, by omega, hh, ?_⟩
    walk_at "ev"
    refine fSl_bs (by omega) ?_
    rw [cutD_to]
    walk_at "ev"
    refine ⟨l.take t, rfl, by rw [List.length_take]; omega, ?_⟩
    walk_at "ev"
    refine fSl_bs (by omega) ?_
    rw [cutD_from]
    walk_at "ev"
    refine fAdd_bs (by rw [List.length_map, List.length_take, List.length_drop]; omega) ?_
    have hbl := turned_len l t
    have htt := turned_turned l t
    have hsb : sumL (turnedM l t) = 0 := by rw [← half_turned]; exact ht.1
    have eb : (l.take t).map not ++ l.drop t = turnedM l t := rfl
    rw [eb]
    have htc : t < ch (2 * h) h := Nat.lt_of_lt_of_le (by omega) hh.1
    generalize hbody : turnedM l t = body at *
    walk_at "ev"
    refine ⟨h, t, rfl, by omega, htc, ?_⟩
    have hul : ∀ x, (unr (2 * h) h x).length = 2 * h := fun x => unr_len _ _ _
    have hut := hul t
    generalize hu : unr (2 * h) h t = u at *
    walk_at "ev"
    refine fAdd_bs (by omega) ?_
    walk_at "ev"
    refine ⟨l, t, h, rfl, by omega, ht, htl, by rw [hl]; exact hh, by omega, ?_⟩
    rw [hu, hbody]
    walk_at "ev"
    refine fNe_bs ?_
    walk_at "ev"
    refine ⟨fun z => ?_, fun _ => ?_⟩
    · exfalso
      simp at z
    have hgl : (u ++ body).length = 2 * h + 2 * q := by rw [List.length_append]; omega
    walk_at "ev"
    refine ⟨u ++ body, 2 * q, h, rfl, by omega, by omega, by omega, by omega, hh, by omega, .inr ⟨t, body, by rw [hu], htc, by omega, fun _ _ => ?_, fun k1 => absurd ⟨by omega, by rw [htt]; exact ht⟩ k1⟩⟩
    rw [htt]
    walk_at "ev"
    refine fNe_bs ?_
    walk_at "ev"
    refine ⟨fun z => ?_, fun _ => ?_⟩
    · exfalso
      simp at z
    walk_at "ev"
    refine fLen_bs (by omega) ?_
    walk_at "ev"
    refine ⟨_, body.length, rfl, hB3, by omega, few (by omega) (by omega), fun at' c4 hat hB4 => ?_⟩
    walk_at "ev"
    have ea : ((2 * h : Nat) : Int) + (at' : Nat) = ((2 * h + at' : Nat) : Int) := rfl
    rw [ea]
    refine fSl_bs (by omega) ?_
    rw [cutD_to]
    walk_at "ev"
    have hbit := lastOf_get hat
    generalize lastOf body at' = bb at hbit
    refine fIx_bs (by omega) rfl hbit ?_
    walk_at "ev"
    refine ⟨[bb], rfl, by rw [List.length_singleton]; omega, ?_⟩
    walk_at "ev"
    have t1 : ((u ++ body).take (2 * h + at')).length = 2 * h + at' := by rw [List.length_take]; omega
    refine fAdd_bs (a := (u ++ body).take (2 * h + at')) (b := [!bb]) (by rw [List.length_singleton]; omega) ?_
    walk_at "ev"
    rw [show ((at' : Nat) : Int) + 1 = ((at' + 1 : Nat) : Int) from rfl]
    refine fSl_bs (by omega) ?_
    rw [cutD_from]
    have t2 : (body.drop (at' + 1)).length = body.length - (at' + 1) := List.length_drop
    walk_at "ev"
    refine fAdd_bs (by rw [List.length_append, List.length_singleton]; omega) ?_
    obtain ⟨wb, hwb⟩ : ∃ wb, wb = body.take at' ++ [!bb] ++ body.drop (at' + 1) := ⟨_, rfl⟩
    have hwl : wb.length = 2 * q := by rw [hwb, List.length_append, List.length_append, List.length_take, List.length_singleton, t2]; omega
    have hws : sumL wb ≠ 0 := by
      rw [hwb, sum_flip hbit, hsb]
      cases bb <;> decide
    have ewr : (u ++ body).take (2 * h + at') ++ [!bb] ++ body.drop (at' + 1) = u ++ wb := by
      rw [hwb, List.take_append, List.take_of_length_le (by omega), show 2 * h + at' - u.length = at' by omega, List.append_assoc, List.append_assoc, List.append_assoc]
    rw [ewr]
    clear ewr t1 t2 hbit
    walk_at "ev"
    have hw3 : ∀ x ∈ [u ++ wb, (u ++ body).take ((u ++ body).length - 1), (u ++ body) ++ [false]], x.length ≤ 4000 ∧ (x.length ≠ 2 * h + 2 * q ∨ ∃ b, x = u ++ b ∧ b.length = 2 * q ∧ sumL b ≠ 0) := fun x hx => by
      simp only [List.mem_cons, List.not_mem_nil, or_false] at hx
      rcases hx with rfl | rfl | rfl
      · exact ⟨by rw [List.length_append]; omega, .inr ⟨wb, rfl, hwl, hws⟩⟩
      · exact ⟨by rw [List.length_take]; omega, .inl (by rw [List.length_take]; omega)⟩
      · exact ⟨by rw [List.length_append, List.length_singleton]; omega, .inl (by rw [List.length_append, List.length_singleton]; omega)⟩
    refine for_run (f := fun x => D.str (bs x)) (xs := [u ++ wb, (u ++ body).take ((u ++ body).length - 1), (u ++ body) ++ [false]]) (fun _ q' => by
      walk_at "ev"
      refine fSl_bs (by omega) ?_
      rw [cutD_but _ (by omega)]
      walk_at "ev"
      rw [lit0]
      refine fAdd_bs (by rw [List.length_singleton]; omega) ?_
      walk_at "ev"
      exact ⟨by decide, q'⟩) rfl (fun k => [.ow (some p) c4, .fz (.int (most : Nat)), .fz (.int (2 * q : Nat)), .fz (.str (bs l)), .fz (.int (t : Nat)), .fz (.int (2 * h : Nat)), .fz (.str (bs body)), .fz (.str (bs (u ++ body))), .un, .un, .un, .un, .un, .un, .un, .un, .un]) (by walk_at "wk") (fun k x hx => ?_) ?_
    · obtain ⟨hxl, hxc⟩ := hw3 x (List.mem_of_getElem? hx)
      walk_at "ev"
      refine ⟨x, 2 * q, h, rfl, hxl, by omega, by omega, by omega, hh, by omega, ?_⟩
      have fin : ∀ P' : Prop, P' → P' := fun _ y => y
      rcases hxc with hne | ⟨b, rfl, hb, hs⟩
      · refine .inl ⟨hne, ?_⟩
        walk_at "ev"
        refine fIsNot_non ?_
        walk_at "ev"
        refine ⟨fun z => Bool.noConfusion z, fun _ => ?_⟩
        walk_at "ev"
        refine lp_of ?_
        walk_at "wk"
      · have nt : ¬ IsTurn (turnedM b t) t := fun y => hs (by have := y.1; rwa [turn_back] at this)
        refine .inr ⟨t, b, by rw [hu], htc, hb, fun _ k2 => absurd k2 nt, fun _ => ?_⟩
        walk_at "ev"
        refine fIsNot_non ?_
        walk_at "ev"
        refine ⟨fun z => Bool.noConfusion z, fun _ => ?_⟩
        walk_at "ev"
        refine lp_of ?_
        walk_at "wk"
    walk_at "ev"
    clear hw3 hws hwl hwb
    obtain ⟨ts, hts⟩ : ∃ ts, ts = turnsM body (body.length + 1) := ⟨_, rfl⟩
    have h0t : 0 ∈ ts := by rw [hts, mem_turns]; exact ⟨by omega, by rw [half_zero]; exact hsb⟩
    have htlen : ts.length ≤ 1000 := by rw [hts]; have := turns_len body (body.length + 1); omega
    obtain ⟨ms, hms⟩ : ∃ ms, ms = ts.filter fun x => decide (x < 2 * q) := ⟨_, rfl⟩
    have hm0 : 0 ∈ ms := by rw [hms, List.mem_filter]; exact ⟨h0t, decide_eq_true (by omega)⟩
    have hmb : ∀ x ∈ ms, x < 2 * q := fun x hx => by rw [hms, List.mem_filter] at hx; exact of_decide_eq_true hx.2
    have hml : ms.length ≤ 1000 := by rw [hms]; exact Nat.le_trans (List.length_filter_le _ _) htlen
    have hmp : 0 < ms.length := List.length_pos_of_mem hm0
    refine lc_run (fun _ q' => by walk_at "ev"; refine ⟨body, rfl, by omega, ?_⟩; rw [← hts]; exact q') rfl (fun k => ((ts.take k).filter fun x => decide (x < 2 * q)).map fun x => D.int (x : Nat)) (fun _ => [.ow (some p) c4, .fz (.int (most : Nat)), .fz (.int (2 * q : Nat)), .fz (.str (bs l)), .fz (.int (t : Nat)), .fz (.int (2 * h : Nat)), .fz (.str (bs body)), .fz (.str (bs (u ++ body))), .un, .un, .un, .un, .un, .un, .un, .un, .un]) ⟨rfl, rfl⟩ (fun k x hk => ?_) ?_
    · have hfl : ((ts.take k).filter fun x => decide (x < 2 * q)).length ≤ 1000 := by
        have h1 := List.length_filter_le (fun x => decide (x < 2 * q)) (ts.take k)
        rw [List.length_take] at h1
        omega
      have hsn : (ts.take (k + 1)).filter (fun x => decide (x < 2 * q)) = (ts.take k).filter (fun x => decide (x < 2 * q)) ++ (if x < 2 * q then [x] else []) := by
        rw [take_snoc hk, List.filter_append]
        by_cases z : x < 2 * q
        · simp [z]
        · simp [z]
      walk_at "ev"
      refine ⟨fun z => ?_, fun z => ?_⟩
      · have z : x < 2 * q := by have := of_decide_eq_true z; omega
        walk_at "ev"
        refine ⟨sl_lt (by rw [List.length_map]; omega), ?_, rfl⟩
        rw [hsn, if_pos z, List.map_append]
        rfl
      · have z : ¬ x < 2 * q := by have := of_decide_eq_false z; omega
        walk_at "ev"
        refine ⟨?_, rfl⟩
        rw [hsn, if_neg z, List.append_nil]
    rw [List.take_length, ← hms]
    walk_at "ev"
    refine ⟨h, rfl, by omega, ?_⟩
    have hgf := few_ch (q := h) (by omega)
    have hqg := hh.1
    generalize hgr : ch (2 * h) h = gr at *
    walk_at "ev"
    refine ⟨_, 2 * q, rfl, hB4, by omega, few (by omega) (by omega), fun r5 c5 hr5 hB5 => ?_⟩
    walk_at "ev"
    refine fLen_lst ?_
    walk_at "ev"
    refine ⟨_, ms.length, by rw [List.length_map], hB5, by omega, few hmp (by omega), fun r6 c6 hr6 hB6 => ?_⟩
    have hg6 : ms[r6]? = some ms[r6] := List.getElem?_eq_getElem hr6
    have hb6 : ms[r6] < 2 * q := hmb _ (List.getElem_mem hr6)
    generalize ms[r6] = x6 at hg6 hb6
    walk_at "ev"
    refine fIx_at (d := .int (x6 : Nat)) (atI_of (k := r6) rfl (by rw [List.getElem?_map, hg6]; rfl)) ?_
    obtain ⟨ini, x7, hini⟩ : ∃ ini x7, ms = ini ++ [x7] := ⟨ms.dropLast, ms.getLast (List.ne_nil_of_length_pos hmp), (List.dropLast_concat_getLast _).symm⟩
    have hb7 : x7 < 2 * q := hmb _ (by rw [hini]; simp)
    walk_at "ev"
    refine fIx_at (d := .int (x7 : Nat)) (by rw [hini, List.map_append]; exact atI_m1) ?_
    walk_at "ev"
    refine ⟨_, gr, rfl, hB6, by omega, hgf, fun r7 c7 hr7 hB7 => ?_⟩
    walk_at "ev"
    refine ⟨by decide, ?_⟩
    have e8 : ((2 * q : Nat) : Int) - 1 = ((2 * q - 1 : Nat) : Int) := by omega
    have e9 : ((gr : Nat) : Int) - 1 = ((gr - 1 : Nat) : Int) := by omega
    obtain ⟨x9, hx9, hb9⟩ : ∃ x9 : Nat, (if ((gr - 1 : Nat) : Int) < ((2 * q : Nat) : Int) then ((gr - 1 : Nat) : Int) else ((2 * q : Nat) : Int)) = (x9 : Nat) ∧ x9 < gr := by
      by_cases z : ((gr - 1 : Nat) : Int) < ((2 * q : Nat) : Int)
      · exact ⟨gr - 1, by rw [if_pos z], by omega⟩
      · exact ⟨2 * q, by rw [if_neg z], by omega⟩
    rw [e8]
    walk_at "ev"
    refine for_run (f := fun x : Nat => D.int (x : Nat)) (xs := [r5, x6, x7, 2 * q - 1, r7, x9]) (fun _ q' => by
      walk_at "ev"
      rw [e9]
      refine fMin_two ?_
      rw [hx9]
      walk_at "ev"
      refine ⟨Nat.le_of_ble_eq_true rfl, ?_⟩
      walk_at "ev"
      exact ⟨Nat.le_of_ble_eq_true rfl, q'⟩) rfl (fun k => [.ow (some p) c7, .fz (.int (most : Nat)), .fz (.int (2 * q : Nat)), .fz (.str (bs l)), .fz (.int (t : Nat)), .fz (.int (2 * h : Nat)), .fz (.str (bs body)), .fz (.str (bs (u ++ body))), .un, .un, .un, .un, .un, .un, .un, .un, .un]) (by walk_at "wk") (fun k x hx => ?_) ?_
    · have hxg : x < gr := by
        have := List.mem_of_getElem? hx
        simp only [List.mem_cons, List.not_mem_nil, or_false] at this
        rcases this with h | h | h | h | h | h <;> omega
      clear hx
      walk_at "ev"
      refine fSl_bs (by omega) ?_
      rw [cutD_to]
      walk_at "ev"
      refine ⟨body.take x, rfl, by rw [List.length_take]; omega, ?_⟩
      walk_at "ev"
      refine fSl_bs (by omega) ?_
      rw [cutD_from]
      walk_at "ev"
      refine fAdd_bs (by rw [List.length_map, List.length_take, List.length_drop]; omega) ?_
      have hkl := turned_len body x
      have ebk : (body.take x).map not ++ body.drop x = turnedM body x := rfl
      rw [ebk]
      obtain ⟨t2, ht2l, ht2⟩ := turn_there (turnedM body x) (by omega) (by omega)
      obtain ⟨rest2, hrest2⟩ := turns_first ht2 (n := (turnedM body x).length + 1) (by omega)
      generalize hbk : turnedM body x = back at *
      walk_at "ev"
      refine ⟨fun z => ?_, fun z => ?_⟩
      have z : x < 2 * q := by have := of_decide_eq_true z; omega
      walk_at "ev"
      refine ⟨back, rfl, by omega, ?_⟩
      rw [hrest2]
      walk_at "ev"
      refine fIx_at (d := .int (t2 : Nat)) (atI_of (k := 0) rfl rfl) ?_
      walk_at "ev"
      have hfb : decide (((t2 : Nat) : Int) = (x : Nat)) = true ↔ x < 2 * q ∧ IsTurn back x := by
        refine ⟨fun y => ?_, fun y => ?_⟩
        · have y : t2 = x := by have := of_decide_eq_true y; omega
          exact ⟨z, y ▸ ht2⟩
        · exact decide_eq_true (by rw [ht2.uniq y.2])
      clear z
      rotate_left
      have z : ¬ x < 2 * q := by have := of_decide_eq_false z; omega
      walk_at "ev"
      have hfb : false = true ↔ x < 2 * q ∧ IsTurn back x := ⟨fun y => Bool.noConfusion y, fun y => absurd y.1 z⟩
      clear z
      all_goals
        walk_at "ev"
        refine ⟨h, x, rfl, by omega, by rw [hgr]; exact hxg, ?_⟩
        have hux := hul x
        generalize hu2 : unr (2 * h) h x = u2 at hux ⊢
        walk_at "ev"
        refine fAdd_bs (by omega) ?_
        walk_at "ev"
        refine ⟨u2 ++ body, 2 * q, h, rfl, by rw [List.length_append]; omega, by omega, by omega, by omega, hh, by omega, .inr ⟨x, body, by rw [hu2], by rw [hgr]; exact hxg, by omega, fun k1 k2 => ?_, fun k1 => ?_⟩⟩
        · rw [hbk] at k2 ⊢
          walk_at "ev"
          refine ⟨fun _ => ?_, fun z => ?_⟩
          · walk_at "ev"
            refine fNe_bs ?_
            walk_at "ev"
            refine ⟨fun z => ?_, fun _ => ?_⟩
            · exfalso
              simp at z
            walk_at "ev"
            refine lp_of ?_
            walk_at "wk"
          · exfalso
            exact absurd ((hfb.mpr ⟨k1, k2⟩).symm.trans z) (by decide)
        · rw [hbk] at k1
          walk_at "ev"
          refine ⟨fun z => absurd (hfb.mp z) k1, fun _ => ?_⟩
          walk_at "ev"
          refine fNe_non ?_
          walk_at "ev"
          refine ⟨fun z => Bool.noConfusion z, fun _ => ?_⟩
          walk_at "ev"
          refine lp_of ?_
          walk_at "wk"
    · walk_at "ev"
      exact ⟨_, rfl, hp _ (hB7.mono (by omega))⟩

def m_law : MS := mSeq (mFor (iR1 (mCons (mBin fAdd (mC (.int 1)) (mBf fMin (mCons (mC (.int 2)) (mCons (mBf fLen (mCons (mVar 0) (mNil))) (mNil))))) (mNil))) (gN 1) (mSeq (mSet 2 (mXo (mCallO c__law_box (mCons (mVar 0) (mCons (mVar 1) (mNil)))))) (mSeq (mIfS (mOrT (mNotT (mTst (mCallM c__law_stuffing_right 2 (mNil)))) (mNotT (mTst (mCallM c__law_balance_right 2 (mCons (mBin fIx (mFz (mLst (mCons (mC (.int 193)) (mCons (mC (.int 40)) (mNil))))) (mBf fMin (mCons (mC (.int 1)) (mCons (mVar 1) (mNil))))) (mNil)))))) (mRet (mC (.bl false))) (mNx)) (mIfS (mNotT (mTst (mCallM c__law_heads_right 2 (mNil)))) (mRet (mC (.bl false))) (mNx))))) (mRet (mC (.bl true)))
theorem bd_law (T : Tx K mg a) : Bd P w K mg base 6 ["script", "k", "box"] s_law m_law := ⟨fun qual f cdv A outer s H E hr tk pw =>
  gss_cons (gs_for pw rfl (gi_range1 T.m_range (ga_cons (ge_bin op_addA od_add (ge_int) (ge_bf (cr_minA rfl) cd_min T.m_min (ga_cons (ge_int) (ga_cons (ge_bf call_len cd_len T.m_len (ga_cons (ge_var) (ga_nil))) (ga_nil))))) (ga_nil))) (gg_name sc_law.nd) (gss_cons (gs_set (gx_o (go_call (G__law_box T) (hr.mono (by decide)) T.g__law_box T.F__law_box.kp T.b__law_box tk (ga_cons (ge_var) (ga_cons (ge_var) (ga_nil))))) sc_law.nd) (gss_cons (gs_if (gt_w (gw_or (gt_not (gt_val (ge_callM (G__law_stuffing_right T) (hr.mono (by decide)) T.g__law_stuffing_right T.F__law_stuffing_right.kp T.b__law_stuffing_right tk (ga_nil)))) (gw_or1 (gt_not (gt_val (ge_callM (G__law_balance_right T) (hr.mono (by decide)) T.g__law_balance_right T.F__law_balance_right.kp T.b__law_balance_right tk (ga_cons (ge_ix (ge_fz (go_lst (ga_cons (ge_int) (ga_cons (ge_int) (ga_nil))))) (ge_bf (cr_minA rfl) cd_min T.m_min (ga_cons (ge_int) (ga_cons (ge_var) (ga_nil))))) (ga_nil)))))))) (gss_one (gs_ret (ge_bl))) (gss_nil)) (gss_one (gs_if (gt_not (gt_val (ge_callM (G__law_heads_right T) (hr.mono (by decide)) T.g__law_heads_right T.F__law_heads_right.kp T.b__law_heads_right tk (ga_nil)))) (gss_one (gs_ret (ge_bl))) (gss_nil)))))) (gss_one (gs_ret (ge_bl)))⟩
def c_law : CtP := fun ds P _ => ∃ ns : List Int, ds = [.scr ns] ∧ P (.fz (.bl true))
theorem law_ok (ns : List Int) (P : Rv → Prop) (PX : Ex → Prop) (_ : ns.length ≤ 63) (h : P (.fz (.bl true))) : c_law [.scr ns] P PX := ⟨ns, rfl, h⟩
theorem G_law (T : Tx K mg a) : FnOk P w K mg base (L2.CX P w) 7 a.f_law a.d_law ["script"] (spP K c_law) :=
  fn_P T.F_law sc_law (by rintro ds P PX ⟨n, rfl, _⟩; rfl) (bd_law T) fun ds P PX h => by
  obtain ⟨ns, rfl, hp⟩ := h
  unfold m_law
  walk_at "ev"
  obtain ⟨c, hc, hc3⟩ : ∃ c : Nat, (1 : Int) + (if ((ns.length : Nat) : Int) < 2 then ((ns.length : Nat) : Int) else 2) = (c : Nat) ∧ c ≤ 3 := by
    by_cases z : ((ns.length : Nat) : Int) < 2
    · exact ⟨1 + ns.length, by rw [if_pos z]; rfl, by omega⟩
    · exact ⟨3, by rw [if_neg z]; rfl, by decide⟩
  refine for_run (fun _ q => by walk_at "ev"; refine fLen_scr ?_; walk_at "ev"; refine fMin_two ?_; walk_at "ev"; rw [hc]; exact ⟨⟨by omega, by omega⟩, q⟩) (range_map c 0 1) (fun k => [.fz (.scr ns), .un, .un]) (by walk_at "wk") (fun k i hk => ?_) ?_
  · obtain ⟨rfl, hlt⟩ := range_get hk
    have ex : (0 : Int) + (i : Nat) * 1 = (i : Nat) := by omega
    walk_at "ev"
    rw [ex]
    refine ⟨ns, i, rfl, by omega, fun c0 hB0 => ?_⟩
    walk_at "ev"
    refine ⟨0, rfl, hB0, by decide, fun c1 hB1 => ?_⟩
    walk_at "ev"
    refine ⟨fun z => Bool.noConfusion z, fun _ => ?_⟩
    walk_at "ev"
    refine ⟨by decide, ?_⟩
    walk_at "ev"
    refine fMin_two ?_
    obtain ⟨e, he, he2⟩ : ∃ e : Nat, (if ((i : Nat) : Int) < 1 then ((i : Nat) : Int) else 1) = (e : Nat) ∧ e < 2 := by
      by_cases z : ((i : Nat) : Int) < 1
      · exact ⟨i, by rw [if_pos z], by omega⟩
      · exact ⟨1, by rw [if_neg z]; rfl, by decide⟩
    walk_at "ev"
    rw [he]
    refine fIx_two he2 fun v hv => ?_
    obtain ⟨u, rfl, hu1, hu2⟩ : ∃ u : Nat, v = .int (u : Nat) ∧ 1 ≤ u ∧ u ≤ 193 := by
      rcases hv with rfl | rfl
      · exact ⟨193, rfl, by decide, by decide⟩
      · exact ⟨40, rfl, by decide, by decide⟩
    clear hv
    walk_at "ev"
    refine ⟨_, u, rfl, hB1, by decide, hu1, hu2, fun c2 hB2 => ?_⟩
    walk_at "ev"
    refine ⟨fun z => Bool.noConfusion z, fun _ => ?_⟩
    walk_at "ev"
    refine ⟨_, rfl, hB2, by decide, fun c3 hB3 => ?_⟩
    walk_at "ev"
    refine ⟨fun z => Bool.noConfusion z, fun _ => ?_⟩
    walk_at "ev"
    refine lp_of ?_
    walk_at "wk"
  · walk_at "ev"
    exact hp

end K90

namespace K90
open PySem PySem.Spec PyProof.Rows L2 G
theorem bi_exchanged {K : PySem.W.Frag} {f : Addr} {fd : FuncData} (F : Fun K "exchanged" "exchanged" s_exchanged f fd) : Binds K fd ["row"] [] := F.binds fun _ _ _ _ _ _ us hl => match us, hl with | [_], _ => rfl
theorem bi_sums {K : PySem.W.Frag} {f : Addr} {fd : FuncData} (F : Fun K "sums" "sums" s_sums f fd) : Binds K fd ["row"] [] := F.binds fun _ _ _ _ _ _ us hl => match us, hl with | [_], _ => rfl
theorem bi_sum_of {K : PySem.W.Frag} {f : Addr} {fd : FuncData} (F : Fun K "sum_of" "sum_of" s_sum_of f fd) : Binds K fd ["row"] [] := F.binds fun _ _ _ _ _ _ us hl => match us, hl with | [_], _ => rfl
theorem bi_turned {K : PySem.W.Frag} {f : Addr} {fd : FuncData} (F : Fun K "turned" "turned" s_turned f fd) : Binds K fd ["row", "many"] [] := F.binds fun _ _ _ _ _ _ us hl => match us, hl with | [_, _], _ => rfl
theorem bi_turning {K : PySem.W.Frag} {f : Addr} {fd : FuncData} (F : Fun K "turning" "turning" s_turning f fd) : Binds K fd ["row"] [] := F.binds fun _ _ _ _ _ _ us hl => match us, hl with | [_], _ => rfl
theorem bi_choices {K : PySem.W.Frag} {f : Addr} {fd : FuncData} (F : Fun K "choices" "choices" s_choices f fd) : Binds K fd ["many", "ones"] [] := F.binds fun _ _ _ _ _ _ us hl => match us, hl with | [_, _], _ => rfl
theorem bi_balanced_count {K : PySem.W.Frag} {f : Addr} {fd : FuncData} (F : Fun K "balanced_count" "balanced_count" s_balanced_count f fd) : Binds K fd ["many"] [] := F.binds fun _ _ _ _ _ _ us hl => match us, hl with | [_], _ => rfl
theorem bi_balanced_at {K : PySem.W.Frag} {f : Addr} {fd : FuncData} (F : Fun K "balanced_at" "balanced_at" s_balanced_at f fd) : Binds K fd ["many", "number"] [] := F.binds fun _ _ _ _ _ _ us hl => match us, hl with | [_, _], _ => rfl
theorem bi_balanced_number {K : PySem.W.Frag} {f : Addr} {fd : FuncData} (F : Fun K "balanced_number" "balanced_number" s_balanced_number f fd) : Binds K fd ["row"] [] := F.binds fun _ _ _ _ _ _ us hl => match us, hl with | [_], _ => rfl
theorem bi_head_for {K : PySem.W.Frag} {f : Addr} {fd : FuncData} (F : Fun K "head_for" "head_for" s_head_for f fd) : Binds K fd ["many"] [] := F.binds fun _ _ _ _ _ _ us hl => match us, hl with | [_], _ => rfl
theorem bi_balance_written {K : PySem.W.Frag} {f : Addr} {fd : FuncData} (F : Fun K "balance_written" "balance_written" s_balance_written f fd) : Binds K fd ["row"] [] := F.binds fun _ _ _ _ _ _ us hl => match us, hl with | [_], _ => rfl
theorem bi_balance_read {K : PySem.W.Frag} {f : Addr} {fd : FuncData} (F : Fun K "balance_read" "balance_read" s_balance_read f fd) : Binds K fd ["row", "many"] [] := F.binds fun _ _ _ _ _ _ us hl => match us, hl with | [_, _], _ => rfl
theorem bi_is_long {K : PySem.W.Frag} {f : Addr} {fd : FuncData} (F : Fun K "is_long" "is_long" s_is_long f fd) : Binds K fd ["row", "most"] [] := F.binds fun _ _ _ _ _ _ us hl => match us, hl with | [_, _], _ => rfl
theorem bi_stuffed {K : PySem.W.Frag} {f : Addr} {fd : FuncData} (F : Fun K "stuffed" "stuffed" s_stuffed f fd) : Binds K fd ["row", "most"] [] := F.binds fun _ _ _ _ _ _ us hl => match us, hl with | [_, _], _ => rfl
theorem bi_unstuffed {K : PySem.W.Frag} {f : Addr} {fd : FuncData} (F : Fun K "unstuffed" "unstuffed" s_unstuffed f fd) : Binds K fd ["row", "most"] [] := F.binds fun _ _ _ _ _ _ us hl => match us, hl with | [_, _], _ => rfl
theorem bi_own_places {K : PySem.W.Frag} {f : Addr} {fd : FuncData} (F : Fun K "own_places" "own_places" s_own_places f fd) : Binds K fd ["row", "most"] [] := F.binds fun _ _ _ _ _ _ us hl => match us, hl with | [_, _], _ => rfl
theorem bi__law_cell_at {K : PySem.W.Frag} {f : Addr} {fd : FuncData} (F : Fun K "_law_cell_at" "_law_cell_at" s__law_cell_at f fd) : Binds K fd ["script", "k"] [] := F.binds fun _ _ _ _ _ _ us hl => match us, hl with | [_, _], _ => rfl
theorem bi__law_box {K : PySem.W.Frag} {f : Addr} {fd : FuncData} (F : Fun K "_law_box" "_law_box" s__law_box f fd) : Binds K fd ["script", "k"] [] := F.binds fun _ _ _ _ _ _ us hl => match us, hl with | [_, _], _ => rfl
theorem bi__law_take {K : PySem.W.Frag} {f : Addr} {fd : FuncData} (F : Fun K "_law_take" "_law_take" s__law_take f fd) : Binds K fd ["box", "many"] [] := F.binds fun _ _ _ _ _ _ us hl => match us, hl with | [_, _], _ => rfl
theorem bi__law_row {K : PySem.W.Frag} {f : Addr} {fd : FuncData} (F : Fun K "_law_row" "_law_row" s__law_row f fd) : Binds K fd ["box", "many"] [] := F.binds fun _ _ _ _ _ _ us hl => match us, hl with | [_, _], _ => rfl
theorem bi__law_other {K : PySem.W.Frag} {f : Addr} {fd : FuncData} (F : Fun K "_law_other" "_law_other" s__law_other f fd) : Binds K fd ["bits"] [] := F.binds fun _ _ _ _ _ _ us hl => match us, hl with | [_], _ => rfl
theorem bi__law_stuffed {K : PySem.W.Frag} {f : Addr} {fd : FuncData} (F : Fun K "_law_stuffed" "_law_stuffed" s__law_stuffed f fd) : Binds K fd ["row", "most"] [] := F.binds fun _ _ _ _ _ _ us hl => match us, hl with | [_, _], _ => rfl
theorem bi__law_unstuffed {K : PySem.W.Frag} {f : Addr} {fd : FuncData} (F : Fun K "_law_unstuffed" "_law_unstuffed" s__law_unstuffed f fd) : Binds K fd ["row", "most"] [] := F.binds fun _ _ _ _ _ _ us hl => match us, hl with | [_, _], _ => rfl
theorem bi__law_spoilt {K : PySem.W.Frag} {f : Addr} {fd : FuncData} (F : Fun K "_law_spoilt" "_law_spoilt" s__law_spoilt f fd) : Binds K fd ["box", "row"] [] := F.binds fun _ _ _ _ _ _ us hl => match us, hl with | [_, _], _ => rfl
theorem bi__law_stuffing_right {K : PySem.W.Frag} {f : Addr} {fd : FuncData} (F : Fun K "_law_stuffing_right" "_law_stuffing_right" s__law_stuffing_right f fd) : Binds K fd ["box"] [] := F.binds fun _ _ _ _ _ _ us hl => match us, hl with | [_], _ => rfl
theorem bi__law_count {K : PySem.W.Frag} {f : Addr} {fd : FuncData} (F : Fun K "_law_count" "_law_count" s__law_count f fd) : Binds K fd ["many"] [] := F.binds fun _ _ _ _ _ _ us hl => match us, hl with | [_], _ => rfl
theorem bi__law_head {K : PySem.W.Frag} {f : Addr} {fd : FuncData} (F : Fun K "_law_head" "_law_head" s__law_head f fd) : Binds K fd ["many"] [] := F.binds fun _ _ _ _ _ _ us hl => match us, hl with | [_], _ => rfl
theorem bi__law_balanced {K : PySem.W.Frag} {f : Addr} {fd : FuncData} (F : Fun K "_law_balanced" "_law_balanced" s__law_balanced f fd) : Binds K fd ["many", "number"] [] := F.binds fun _ _ _ _ _ _ us hl => match us, hl with | [_, _], _ => rfl
theorem bi__law_turnings {K : PySem.W.Frag} {f : Addr} {fd : FuncData} (F : Fun K "_law_turnings" "_law_turnings" s__law_turnings f fd) : Binds K fd ["row"] [] := F.binds fun _ _ _ _ _ _ us hl => match us, hl with | [_], _ => rfl
theorem bi__law_balance_told {K : PySem.W.Frag} {f : Addr} {fd : FuncData} (F : Fun K "_law_balance_told" "_law_balance_told" s__law_balance_told f fd) : Binds K fd ["row", "many"] [] := F.binds fun _ _ _ _ _ _ us hl => match us, hl with | [_, _], _ => rfl
theorem bi__law_balance_right {K : PySem.W.Frag} {f : Addr} {fd : FuncData} (F : Fun K "_law_balance_right" "_law_balance_right" s__law_balance_right f fd) : Binds K fd ["box", "most"] [] := F.binds fun _ _ _ _ _ _ us hl => match us, hl with | [_, _], _ => rfl
theorem bi__law_heads_right {K : PySem.W.Frag} {f : Addr} {fd : FuncData} (F : Fun K "_law_heads_right" "_law_heads_right" s__law_heads_right f fd) : Binds K fd ["box"] [] := F.binds fun _ _ _ _ _ _ us hl => match us, hl with | [_], _ => rfl
theorem bi_law {K : PySem.W.Frag} {f : Addr} {fd : FuncData} (F : Fun K "law" "law" s_law f fd) : Binds K fd ["script"] [] := F.binds fun _ _ _ _ _ _ us hl => match us, hl with | [_], _ => rfl
theorem all_mk {P : Program} {w : World} {K : PySem.W.Frag} {mg : Str → Option Value} {fa : Addr} (hfa : mg "law" = some (.ref fa)) (D_exchanged : DefAt K mg "exchanged" s_exchanged) (D_sums : DefAt K mg "sums" s_sums) (D_sum_of : DefAt K mg "sum_of" s_sum_of) (D_turned : DefAt K mg "turned" s_turned) (D_turning : DefAt K mg "turning" s_turning) (D_choices : DefAt K mg "choices" s_choices) (D_balanced_count : DefAt K mg "balanced_count" s_balanced_count) (D_balanced_at : DefAt K mg "balanced_at" s_balanced_at) (D_balanced_number : DefAt K mg "balanced_number" s_balanced_number) (D_head_for : DefAt K mg "head_for" s_head_for) (D_balance_written : DefAt K mg "balance_written" s_balance_written) (D_balance_read : DefAt K mg "balance_read" s_balance_read) (D_is_long : DefAt K mg "is_long" s_is_long) (D_stuffed : DefAt K mg "stuffed" s_stuffed) (D_unstuffed : DefAt K mg "unstuffed" s_unstuffed) (D_own_places : DefAt K mg "own_places" s_own_places) (D__law_cell_at : DefAt K mg "_law_cell_at" s__law_cell_at) (D__law_box : DefAt K mg "_law_box" s__law_box) (D__law_take : DefAt K mg "_law_take" s__law_take) (D__law_row : DefAt K mg "_law_row" s__law_row) (D__law_other : DefAt K mg "_law_other" s__law_other) (D__law_stuffed : DefAt K mg "_law_stuffed" s__law_stuffed) (D__law_unstuffed : DefAt K mg "_law_unstuffed" s__law_unstuffed) (D__law_spoilt : DefAt K mg "_law_spoilt" s__law_spoilt) (D__law_stuffing_right : DefAt K mg "_law_stuffing_right" s__law_stuffing_right) (D__law_count : DefAt K mg "_law_count" s__law_count) (D__law_head : DefAt K mg "_law_head" s__law_head) (D__law_balanced : DefAt K mg "_law_balanced" s__law_balanced) (D__law_turnings : DefAt K mg "_law_turnings" s__law_turnings) (D__law_balance_told : DefAt K mg "_law_balance_told" s__law_balance_told) (D__law_balance_right : DefAt K mg "_law_balance_right" s__law_balance_right) (D__law_heads_right : DefAt K mg "_law_heads_right" s__law_heads_right) (D_law : DefAt K mg "law" s_law) (E_NoRow : ClsAt K mg "NoRow" a_NoRow) (S_NoRow_NoRow : PySem.W.subIn K (.ref a_NoRow) (.ref a_NoRow) = some true) (z_abs : mg "abs" = none) (z_enumerate : mg "enumerate" = none) (z_int : mg "int" = none) (z_len : mg "len" = none) (z_min : mg "min" = none) (z_range : mg "range" = none) (z_repr : mg "repr" = none) (z_str : mg "str" = none) (z_sum : mg "sum" = none) :
    ∃ fd : FuncData, (∀ (s : Shared) (v : Value), BindsTo s fd ⟨[v], []⟩ [("script", v)]) ∧ ∀ base : Heap, K.In base → base.Ns mainGlobals mg → FnOk P w K mg base (L2.CX P w) 7 fa fd ["script"] (spP K c_law) := by
  obtain ⟨f_exchanged, d_exchanged, F_exchanged, g_exchanged⟩ := D_exchanged
  obtain ⟨f_sums, d_sums, F_sums, g_sums⟩ := D_sums
  obtain ⟨f_sum_of, d_sum_of, F_sum_of, g_sum_of⟩ := D_sum_of
  obtain ⟨f_turned, d_turned, F_turned, g_turned⟩ := D_turned
  obtain ⟨f_turning, d_turning, F_turning, g_turning⟩ := D_turning
  obtain ⟨f_choices, d_choices, F_choices, g_choices⟩ := D_choices
  obtain ⟨f_balanced_count, d_balanced_count, F_balanced_count, g_balanced_count⟩ := D_balanced_count
  obtain ⟨f_balanced_at, d_balanced_at, F_balanced_at, g_balanced_at⟩ := D_balanced_at
  obtain ⟨f_balanced_number, d_balanced_number, F_balanced_number, g_balanced_number⟩ := D_balanced_number
  obtain ⟨f_head_for, d_head_for, F_head_for, g_head_for⟩ := D_head_for
  obtain ⟨f_balance_written, d_balance_written, F_balance_written, g_balance_written⟩ := D_balance_written
  obtain ⟨f_balance_read, d_balance_read, F_balance_read, g_balance_read⟩ := D_balance_read
  obtain ⟨f_is_long, d_is_long, F_is_long, g_is_long⟩ := D_is_long
  obtain ⟨f_stuffed, d_stuffed, F_stuffed, g_stuffed⟩ := D_stuffed
  obtain ⟨f_unstuffed, d_unstuffed, F_unstuffed, g_unstuffed⟩ := D_unstuffed
  obtain ⟨f_own_places, d_own_places, F_own_places, g_own_places⟩ := D_own_places
  obtain ⟨f__law_cell_at, d__law_cell_at, F__law_cell_at, g__law_cell_at⟩ := D__law_cell_at
  obtain ⟨f__law_box, d__law_box, F__law_box, g__law_box⟩ := D__law_box
  obtain ⟨f__law_take, d__law_take, F__law_take, g__law_take⟩ := D__law_take
  obtain ⟨f__law_row, d__law_row, F__law_row, g__law_row⟩ := D__law_row
  obtain ⟨f__law_other, d__law_other, F__law_other, g__law_other⟩ := D__law_other
  obtain ⟨f__law_stuffed, d__law_stuffed, F__law_stuffed, g__law_stuffed⟩ := D__law_stuffed
  obtain ⟨f__law_unstuffed, d__law_unstuffed, F__law_unstuffed, g__law_unstuffed⟩ := D__law_unstuffed
  obtain ⟨f__law_spoilt, d__law_spoilt, F__law_spoilt, g__law_spoilt⟩ := D__law_spoilt
  obtain ⟨f__law_stuffing_right, d__law_stuffing_right, F__law_stuffing_right, g__law_stuffing_right⟩ := D__law_stuffing_right
  obtain ⟨f__law_count, d__law_count, F__law_count, g__law_count⟩ := D__law_count
  obtain ⟨f__law_head, d__law_head, F__law_head, g__law_head⟩ := D__law_head
  obtain ⟨f__law_balanced, d__law_balanced, F__law_balanced, g__law_balanced⟩ := D__law_balanced
  obtain ⟨f__law_turnings, d__law_turnings, F__law_turnings, g__law_turnings⟩ := D__law_turnings
  obtain ⟨f__law_balance_told, d__law_balance_told, F__law_balance_told, g__law_balance_told⟩ := D__law_balance_told
  obtain ⟨f__law_balance_right, d__law_balance_right, F__law_balance_right, g__law_balance_right⟩ := D__law_balance_right
  obtain ⟨f__law_heads_right, d__law_heads_right, F__law_heads_right, g__law_heads_right⟩ := D__law_heads_right
  obtain ⟨f_law, d_law, F_law, g_law⟩ := D_law
  have e := hfa.symm.trans g_law
  cases e
  have T : Tx K mg ⟨f_exchanged, d_exchanged, f_sums, d_sums, f_sum_of, d_sum_of, f_turned, d_turned, f_turning, d_turning, f_choices, d_choices, f_balanced_count, d_balanced_count, f_balanced_at, d_balanced_at, f_balanced_number, d_balanced_number, f_head_for, d_head_for, f_balance_written, d_balance_written, f_balance_read, d_balance_read, f_is_long, d_is_long, f_stuffed, d_stuffed, f_unstuffed, d_unstuffed, f_own_places, d_own_places, f__law_cell_at, d__law_cell_at, f__law_box, d__law_box, f__law_take, d__law_take, f__law_row, d__law_row, f__law_other, d__law_other, f__law_stuffed, d__law_stuffed, f__law_unstuffed, d__law_unstuffed, f__law_spoilt, d__law_spoilt, f__law_stuffing_right, d__law_stuffing_right, f__law_count, d__law_count, f__law_head, d__law_head, f__law_balanced, d__law_balanced, f__law_turnings, d__law_turnings, f__law_balance_told, d__law_balance_told, f__law_balance_right, d__law_balance_right, f__law_heads_right, d__law_heads_right, fa, d_law⟩ := ⟨F_exchanged, g_exchanged, bi_exchanged F_exchanged, F_sums, g_sums, bi_sums F_sums, F_sum_of, g_sum_of, bi_sum_of F_sum_of, F_turned, g_turned, bi_turned F_turned, F_turning, g_turning, bi_turning F_turning, F_choices, g_choices, bi_choices F_choices, F_balanced_count, g_balanced_count, bi_balanced_count F_balanced_count, F_balanced_at, g_balanced_at, bi_balanced_at F_balanced_at, F_balanced_number, g_balanced_number, bi_balanced_number F_balanced_number, F_head_for, g_head_for, bi_head_for F_head_for, F_balance_written, g_balance_written, bi_balance_written F_balance_written, F_balance_read, g_balance_read, bi_balance_read F_balance_read, F_is_long, g_is_long, bi_is_long F_is_long, F_stuffed, g_stuffed, bi_stuffed F_stuffed, F_unstuffed, g_unstuffed, bi_unstuffed F_unstuffed, F_own_places, g_own_places, bi_own_places F_own_places, F__law_cell_at, g__law_cell_at, bi__law_cell_at F__law_cell_at, F__law_box, g__law_box, bi__law_box F__law_box, F__law_take, g__law_take, bi__law_take F__law_take, F__law_row, g__law_row, bi__law_row F__law_row, F__law_other, g__law_other, bi__law_other F__law_other, F__law_stuffed, g__law_stuffed, bi__law_stuffed F__law_stuffed, F__law_unstuffed, g__law_unstuffed, bi__law_unstuffed F__law_unstuffed, F__law_spoilt, g__law_spoilt, bi__law_spoilt F__law_spoilt, F__law_stuffing_right, g__law_stuffing_right, bi__law_stuffing_right F__law_stuffing_right, F__law_count, g__law_count, bi__law_count F__law_count, F__law_head, g__law_head, bi__law_head F__law_head, F__law_balanced, g__law_balanced, bi__law_balanced F__law_balanced, F__law_turnings, g__law_turnings, bi__law_turnings F__law_turnings, F__law_balance_told, g__law_balance_told, bi__law_balance_told F__law_balance_told, F__law_balance_right, g__law_balance_right, bi__law_balance_right F__law_balance_right, F__law_heads_right, g__law_heads_right, bi__law_heads_right F__law_heads_right, F_law, g_law, bi_law F_law, E_NoRow, S_NoRow_NoRow, z_abs, z_enumerate, z_int, z_len, z_min, z_range, z_repr, z_str, z_sum⟩
  have G := fun base => G_law (P := P) (w := w) (base := base) T
  obtain ⟨oc, od, kV, doc, pm, an, cdv, ct, osl, rfl, lk, hcd⟩ := F_law.ex
  exact ⟨PySem.W.fnOf "law" "law" (defArgs s_law) (defBody s_law) (defScope s_law) .none kV doc pm an cdv ct, fun s v => .of_eq rfl, fun base _ _ => G base⟩
end K90
open PySem PySem.W PyProof.Rows
set_option maxHeartbeats 0 in
theorem PySem.Challenge.cw_runbound_k90_whole_long_rows_spoilt_holds : PySem.Challenge.rw_runbound_k90_whole_long_rows_spoilt.Holds := by
  w_on; o_law; k_head; (case hw => w_witness2)
  k_fill
  refine L2.walk_of (l := PySem.Challenge.rw_runbound_k90_whole_long_rows_spoilt) (n := 63) (k := 7) (x := "script") (CX := fun w => L2.CX PySem.Challenge.rw_runbound_k90_whole_long_rows_spoilt.prog w) (sp := fun w => G.spP _ K90.c_law) rfl (by decide) rfl ⟨rfl, by decide, by decide⟩ (fun w h Y => PySem.W.kIn_of Y) ?F (fun _ H a ns hl _ hS => G.law_holds K90.law_ok H a ns hl hS) (fun _ _ _ _ _ h => G.no_exc h)
  case F =>
    intro w mg fa h KX hG hmg
    have D_exchanged : G.DefIn KX mg "exchanged" K90.s_exchanged := by
      refine' G.def_mk KX hG ?a ?l ?c ?k
      (case a => k_is); (case l => k_is); (case c => k_is); (case k => k_is)
    have D_sums : G.DefIn KX mg "sums" K90.s_sums := by
      refine' G.def_mk KX hG ?a ?l ?c ?k
      (case a => k_is); (case l => k_is); (case c => k_is); (case k => k_is)
    have D_sum_of : G.DefIn KX mg "sum_of" K90.s_sum_of := by
      refine' G.def_mk KX hG ?a ?l ?c ?k
      (case a => k_is); (case l => k_is); (case c => k_is); (case k => k_is)
    have D_turned : G.DefIn KX mg "turned" K90.s_turned := by
      refine' G.def_mk KX hG ?a ?l ?c ?k
      (case a => k_is); (case l => k_is); (case c => k_is); (case k => k_is)
    have D_turning : G.DefIn KX mg "turning" K90.s_turning := by
      refine' G.def_mk KX hG ?a ?l ?c ?k
      (case a => k_is); (case l => k_is); (case c => k_is); (case k => k_is)
    have D_choices : G.DefIn KX mg "choices" K90.s_choices := by
      refine' G.def_mk KX hG ?a ?l ?c ?k
      (case a => k_is); (case l => k_is); (case c => k_is); (case k => k_is)
    have D_balanced_count : G.DefIn KX mg "balanced_count" K90.s_balanced_count := by
      refine' G.def_mk KX hG ?a ?l ?c ?k
      (case a => k_is); (case l => k_is); (case c => k_is); (case k => k_is)
    have D_balanced_at : G.DefIn KX mg "balanced_at" K90.s_balanced_at := by
      refine' G.def_mk KX hG ?a ?l ?c ?k
      (case a => k_is); (case l => k_is); (case c => k_is); (case k => k_is)
    have D_balanced_number : G.DefIn KX mg "balanced_number" K90.s_balanced_number := by
      refine' G.def_mk KX hG ?a ?l ?c ?k
      (case a => k_is); (case l => k_is); (case c => k_is); (case k => k_is)
    have D_head_for : G.DefIn KX mg "head_for" K90.s_head_for := by
      refine' G.def_mk KX hG ?a ?l ?c ?k
      (case a => k_is); (case l => k_is); (case c => k_is); (case k => k_is)
    have D_balance_written : G.DefIn KX mg "balance_written" K90.s_balance_written := by
      refine' G.def_mk KX hG ?a ?l ?c ?k
      (case a => k_is); (case l => k_is); (case c => k_is); (case k => k_is)
    have D_balance_read : G.DefIn KX mg "balance_read" K90.s_balance_read := by
      refine' G.def_mk KX hG ?a ?l ?c ?k
      (case a => k_is); (case l => k_is); (case c => k_is); (case k => k_is)
    have D_is_long : G.DefIn KX mg "is_long" K90.s_is_long := by
      refine' G.def_mk KX hG ?a ?l ?c ?k
      (case a => k_is); (case l => k_is); (case c => k_is); (case k => k_is)
    have D_stuffed : G.DefIn KX mg "stuffed" K90.s_stuffed := by
      refine' G.def_mk KX hG ?a ?l ?c ?k
      (case a => k_is); (case l => k_is); (case c => k_is); (case k => k_is)
    have D_unstuffed : G.DefIn KX mg "unstuffed" K90.s_unstuffed := by
      refine' G.def_mk KX hG ?a ?l ?c ?k
      (case a => k_is); (case l => k_is); (case c => k_is); (case k => k_is)
    have D_own_places : G.DefIn KX mg "own_places" K90.s_own_places := by
      refine' G.def_mk KX hG ?a ?l ?c ?k
      (case a => k_is); (case l => k_is); (case c => k_is); (case k => k_is)
    have D__law_cell_at : G.DefIn KX mg "_law_cell_at" K90.s__law_cell_at := by
      refine' G.def_mk KX hG ?a ?l ?c ?k
      (case a => k_is); (case l => k_is); (case c => k_is); (case k => k_is)
    have D__law_box : G.DefIn KX mg "_law_box" K90.s__law_box := by
      refine' G.def_mk KX hG ?a ?l ?c ?k
      (case a => k_is); (case l => k_is); (case c => k_is); (case k => k_is)
    have D__law_take : G.DefIn KX mg "_law_take" K90.s__law_take := by
      refine' G.def_mk KX hG ?a ?l ?c ?k
      (case a => k_is); (case l => k_is); (case c => k_is); (case k => k_is)
    have D__law_row : G.DefIn KX mg "_law_row" K90.s__law_row := by
      refine' G.def_mk KX hG ?a ?l ?c ?k
      (case a => k_is); (case l => k_is); (case c => k_is); (case k => k_is)
    have D__law_other : G.DefIn KX mg "_law_other" K90.s__law_other := by
      refine' G.def_mk KX hG ?a ?l ?c ?k
      (case a => k_is); (case l => k_is); (case c => k_is); (case k => k_is)
    have D__law_stuffed : G.DefIn KX mg "_law_stuffed" K90.s__law_stuffed := by
      refine' G.def_mk KX hG ?a ?l ?c ?k
      (case a => k_is); (case l => k_is); (case c => k_is); (case k => k_is)
    have D__law_unstuffed : G.DefIn KX mg "_law_unstuffed" K90.s__law_unstuffed := by
      refine' G.def_mk KX hG ?a ?l ?c ?k
      (case a => k_is); (case l => k_is); (case c => k_is); (case k => k_is)
    have D__law_spoilt : G.DefIn KX mg "_law_spoilt" K90.s__law_spoilt := by
      refine' G.def_mk KX hG ?a ?l ?c ?k
      (case a => k_is); (case l => k_is); (case c => k_is); (case k => k_is)
    have D__law_stuffing_right : G.DefIn KX mg "_law_stuffing_right" K90.s__law_stuffing_right := by
      refine' G.def_mk KX hG ?a ?l ?c ?k
      (case a => k_is); (case l => k_is); (case c => k_is); (case k => k_is)
    have D__law_count : G.DefIn KX mg "_law_count" K90.s__law_count := by
      refine' G.def_mk KX hG ?a ?l ?c ?k
      (case a => k_is); (case l => k_is); (case c => k_is); (case k => k_is)
    have D__law_head : G.DefIn KX mg "_law_head" K90.s__law_head := by
      refine' G.def_mk KX hG ?a ?l ?c ?k
      (case a => k_is); (case l => k_is); (case c => k_is); (case k => k_is)
    have D__law_balanced : G.DefIn KX mg "_law_balanced" K90.s__law_balanced := by
      refine' G.def_mk KX hG ?a ?l ?c ?k
      (case a => k_is); (case l => k_is); (case c => k_is); (case k => k_is)
    have D__law_turnings : G.DefIn KX mg "_law_turnings" K90.s__law_turnings := by
      refine' G.def_mk KX hG ?a ?l ?c ?k
      (case a => k_is); (case l => k_is); (case c => k_is); (case k => k_is)
    have D__law_balance_told : G.DefIn KX mg "_law_balance_told" K90.s__law_balance_told := by
      refine' G.def_mk KX hG ?a ?l ?c ?k
      (case a => k_is); (case l => k_is); (case c => k_is); (case k => k_is)
    have D__law_balance_right : G.DefIn KX mg "_law_balance_right" K90.s__law_balance_right := by
      refine' G.def_mk KX hG ?a ?l ?c ?k
      (case a => k_is); (case l => k_is); (case c => k_is); (case k => k_is)
    have D__law_heads_right : G.DefIn KX mg "_law_heads_right" K90.s__law_heads_right := by
      refine' G.def_mk KX hG ?a ?l ?c ?k
      (case a => k_is); (case l => k_is); (case c => k_is); (case k => k_is)
    have D_law : G.DefIn KX mg "law" K90.s_law := by
      refine' G.def_mk KX hG ?a ?l ?c ?k
      (case a => k_is); (case l => k_is); (case c => k_is); (case k => k_is)
    have E_NoRow : G.ClsIn KX mg "NoRow" K90.a_NoRow := by
      refine' G.cls_mk KX hG ?a ?e ?k ?b ?t ?i
      (case a => k_is); (case e => k_exc); (case k => k_is); (case b => k_is); (case t => k_is); (case i => k_is)
    have S_NoRow_NoRow : G.SubIn KX K90.a_NoRow K90.a_NoRow true := by
      refine' G.sub_mk KX ?s
      (case s => first | rfl | k_is)
    have z_abs : mg "abs" = none := by
      refine' PySem.W.mg_none_of KX hG ?z
      (case z => k_is)
    have z_enumerate : mg "enumerate" = none := by
      refine' PySem.W.mg_none_of KX hG ?z
      (case z => k_is)
    have z_int : mg "int" = none := by
      refine' PySem.W.mg_none_of KX hG ?z
      (case z => k_is)
    have z_len : mg "len" = none := by
      refine' PySem.W.mg_none_of KX hG ?z
      (case z => k_is)
    have z_min : mg "min" = none := by
      refine' PySem.W.mg_none_of KX hG ?z
      (case z => k_is)
    have z_range : mg "range" = none := by
      refine' PySem.W.mg_none_of KX hG ?z
      (case z => k_is)
    have z_repr : mg "repr" = none := by
      refine' PySem.W.mg_none_of KX hG ?z
      (case z => k_is)
    have z_str : mg "str" = none := by
      refine' PySem.W.mg_none_of KX hG ?z
      (case z => k_is)
    have z_sum : mg "sum" = none := by
      refine' PySem.W.mg_none_of KX hG ?z
      (case z => k_is)
    exact K90.all_mk hmg D_exchanged D_sums D_sum_of D_turned D_turning D_choices D_balanced_count D_balanced_at D_balanced_number D_head_for D_balance_written D_balance_read D_is_long D_stuffed D_unstuffed D_own_places D__law_cell_at D__law_box D__law_take D__law_row D__law_other D__law_stuffed D__law_unstuffed D__law_spoilt D__law_stuffing_right D__law_count D__law_head D__law_balanced D__law_turnings D__law_balance_told D__law_balance_right D__law_heads_right D_law E_NoRow S_NoRow_NoRow z_abs z_enumerate z_int z_len z_min z_range z_repr z_str z_sum

