import PyProof.Rows.All
import Wide.All
import OpenK.AllK
import Wide.FinOn
import HandS.ForMost
import HandS.ForExc
import HandS.ExcIs
import HandS.ExcField
import HandS.ExcInit
import HandS.TryMany
import HandS.TryElse
import HandS.SuiteRaise
import HandS.RaiseMore
import HandS.Wide
import HandS.DictComp
import HandS.IsInst
import HandS.EndBits
import KE.KExcIs
import KE.IntTextLaws
import HandS.Replace
import HandS.Zip
import HandS.SortKw
import KE.DataMinMax
import KE.KRevIter
import KE.KDictList
import HandS.Rev
import HandS.Iter
import HandS.SetKeys
import HandS.SortInts
import HandS.TupLe
import HandS.SetFor
import HandS.Strs
import KE.KUnpack
import HandS.TupSets
import KE.SortKeyHeap
import HandS.RevRange
import HandS.CallSlots
import HandS.Defaults
import PySem.Challenge.RW_skewhouse_k16_the_askers_own
set_option Elab.async false
set_option linter.all false
set_option maxRecDepth 100000
set_option maxHeartbeats 4000000
namespace SK
open PySem PySem.Spec PyProof.Rows L2
inductive D where
  | non | bl (b : Bool) | int (i : Int) | str (s : Str) | ref (a : Addr) | ty (n : String)
  | tup (xs : List D) | lst (xs : List D) | sq (xs : List D) | dic (kvs : List (Key × D)) | dit (kvs : List (List Key × D)) | ins (C : Addr) (fs : List (Str × D))
inductive O where
  | d (x : D) | ol (xs : List O) | od (kvs : List (Key × O)) | ot (kvs : List (List Key × O)) | oi (a C : Addr) (fs : List (Str × O)) | op (xs : List O) | atA (a : Addr) (o : O)
mutual
inductive R (K : PySem.W.Frag) (B : Hp) : V → D → Prop
  | non : R K B .non .non
  | bl {b} : R K B (.bl b) (.bl b)
  | int {i} : R K B (.int i) (.int i)
  | str {s} : R K B (.str s) (.str s)
  | ref {a} : R K B (.ref a) (.ref a)
  | ty {n} : R K B (.ty n) (.ty n)
  | tup {a vs xs} : SqT K B a vs → RL K B vs xs → R K B (.ref a) (.tup xs)
  | lst {a vs xs} : B a = some (.lst vs) → RL K B vs xs → R K B (.ref a) (.lst xs)
  | sq {a vs xs} : SqL K B a vs → RL K B vs xs → R K B (.ref a) (.sq xs)
  | dic {a ws kvs} : Rd B a (.dK ws) → (kvs.map (·.1)).Nodup → RK K B ws kvs → R K B (.ref a) (.dic kvs)
  | dit {a ws kvs} : Rd B a (.dT ws) → (kvs.map (·.1)).Nodup → RT K B ws kvs → R K B (.ref a) (.dit kvs)
  | ins {a C dx ws fs} : B a = some (.ins C dx ws) → RF K B ws fs → R K B (.ref a) (.ins C fs)
inductive RL (K : PySem.W.Frag) (B : Hp) : List V → List D → Prop
  | nil : RL K B [] []
  | cons {v x vs xs} : R K B v x → RL K B vs xs → RL K B (v :: vs) (x :: xs)
inductive RK (K : PySem.W.Frag) (B : Hp) : List (Key × V) → List (Key × D) → Prop
  | nil : RK K B [] []
  | cons {k v x vs xs} : R K B v x → RK K B vs xs → RK K B ((k, v) :: vs) ((k, x) :: xs)
inductive RT (K : PySem.W.Frag) (B : Hp) : List (List Key × V) → List (List Key × D) → Prop
  | nil : RT K B [] []
  | cons {k v x vs xs} : R K B v x → RT K B vs xs → RT K B ((k, v) :: vs) ((k, x) :: xs)
inductive RF (K : PySem.W.Frag) (B : Hp) : List (Str × V) → List (Str × D) → Prop
  | nil : RF K B [] []
  | cons {k v x vs xs} : R K B v x → RF K B vs xs → RF K B ((k, v) :: vs) ((k, x) :: xs)
end
/-- what pure data lean on stays -/
structure BLe (B B' : Hp) : Prop where
  tup : ∀ a xs, Rd B a (.tup xs) → Rd B' a (.tup xs)
  lst : ∀ a xs, Rd B a (.lst xs) → Rd B' a (.lst xs)
  ls : ∀ a xs, B a = some (.lst xs) → B' a = some (.lst xs)
  dK : ∀ a xs, Rd B a (.dK xs) → Rd B' a (.dK xs)
  dT : ∀ a xs, Rd B a (.dT xs) → Rd B' a (.dT xs)
  ins : ∀ a C dx fs, B a = some (.ins C dx fs) → B' a = some (.ins C dx fs)
def Ex (H H' : Hp) : Prop := ∀ a o, H a = some o → H' a = some o
theorem Ex.refl (H : Hp) : Ex H H := fun _ _ h => h
theorem Ex.trans {H H1 H2 : Hp} (a : Ex H H1) (b : Ex H1 H2) : Ex H H2 := fun x o h => b x o (a x o h)
theorem Ex.rd {H H' : Hp} (e : Ex H H') {a : Addr} {u : HO} (h : Rd H a u) : Rd H' a u := by
  rcases h with h | ⟨o, h⟩
  · exact .inl (e _ _ h)
  · exact .inr ⟨o, e _ _ h⟩
theorem Ex.back {H H' : Hp} (e : Ex H H') {a : Addr} (h : H' a = none) : H a = none := by
  cases q : H a with
  | none => rfl
  | some o => rw [e a o q] at h; cases h
theorem Ex.new {H : Hp} {p : Addr} {o : HO} (h : H p = none) : Ex H (upd H p o) := fun a u e => by
  rw [upd_ne (ne_of_none e h)]; exact e
theorem BLe.of_ex {B B' : Hp} (e : Ex B B') : BLe B B' := ⟨fun _ _ h => e.rd h, fun _ _ h => e.rd h, fun _ _ h => e _ _ h, fun _ _ h => e.rd h, fun _ _ h => e.rd h, fun _ _ _ _ h => e _ _ h⟩
theorem BLe.refl (B : Hp) : BLe B B := .of_ex (.refl B)
theorem BLe.trans {B B1 B2 : Hp} (a : BLe B B1) (b : BLe B1 B2) : BLe B B2 :=
  ⟨fun _ _ h => b.tup _ _ (a.tup _ _ h), fun _ _ h => b.lst _ _ (a.lst _ _ h), fun _ _ h => b.ls _ _ (a.ls _ _ h), fun _ _ h => b.dK _ _ (a.dK _ _ h), fun _ _ h => b.dT _ _ (a.dT _ _ h), fun _ _ _ _ h => b.ins _ _ _ _ (a.ins _ _ _ _ h)⟩
theorem BLe.sqT {K : PySem.W.Frag} {B B' : Hp} (e : BLe B B') {a : Addr} {xs : List V} (h : SqT K B a xs) : SqT K B' a xs := h.imp (e.tup _ _) id
theorem BLe.sqL {K : PySem.W.Frag} {B B' : Hp} (e : BLe B B') {a : Addr} {xs : List V} (h : SqL K B a xs) : SqL K B' a xs := h.imp (e.lst _ _) id
section
variable {K : PySem.W.Frag} {B B' : Hp}
mutual
theorem R.mono (e : BLe B B') : ∀ {v : V} {x : D}, R K B v x → R K B' v x
  | _, _, .non => .non
  | _, _, .bl => .bl
  | _, _, .int => .int
  | _, _, .str => .str
  | _, _, .ref => .ref
  | _, _, .ty => .ty
  | _, _, .tup h r => .tup (e.sqT h) (RL.mono e r)
  | _, _, .lst h r => .lst (e.ls _ _ h) (RL.mono e r)
  | _, _, .sq h r => .sq (e.sqL h) (RL.mono e r)
  | _, _, .dic h n r => .dic (e.dK _ _ h) n (RK.mono e r)
  | _, _, .dit h n r => .dit (e.dT _ _ h) n (RT.mono e r)
  | _, _, .ins h r => .ins (e.ins _ _ _ _ h) (RF.mono e r)
theorem RL.mono (e : BLe B B') : ∀ {v : List V} {x : List D}, RL K B v x → RL K B' v x
  | _, _, .nil => .nil
  | _, _, .cons h r => .cons (R.mono e h) (RL.mono e r)
theorem RK.mono (e : BLe B B') : ∀ {v : List (Key × V)} {x : List (Key × D)}, RK K B v x → RK K B' v x
  | _, _, .nil => .nil
  | _, _, .cons h r => .cons (R.mono e h) (RK.mono e r)
theorem RT.mono (e : BLe B B') : ∀ {v : List (List Key × V)} {x : List (List Key × D)}, RT K B v x → RT K B' v x
  | _, _, .nil => .nil
  | _, _, .cons h r => .cons (R.mono e h) (RT.mono e r)
theorem RF.mono (e : BLe B B') : ∀ {v : List (Str × V)} {x : List (Str × D)}, RF K B v x → RF K B' v x
  | _, _, .nil => .nil
  | _, _, .cons h r => .cons (R.mono e h) (RF.mono e r)
end
end
end SK
namespace SK
open PySem PySem.Spec PyProof.Rows L2
abbrev Ad := Addr → Prop
mutual
inductive RO (K : PySem.W.Frag) (B H : Hp) : Ad → V → O → Prop
  | d {S : Ad} {v x} : R K B v x → RO K B H S v (.d x)
  | ol {S S' : Ad} {a vs xs} : S a → (∀ b, S' b → S b) → ¬ S' a → H a = some (.lst vs) → RS K B H S' (vs.map some) (xs.map some) → RO K B H S (.ref a) (.ol xs)
  | od {S S' : Ad} {a ws kvs} : S a → (∀ b, S' b → S b) → ¬ S' a → H a = some (.dK ws) → (kvs.map (·.1)).Nodup → ws.map (·.1) = kvs.map (·.1) → RS K B H S' (ws.map fun p => some p.2) (kvs.map fun p => some p.2) → RO K B H S (.ref a) (.od kvs)
  | ot {S S' : Ad} {a ws kvs} : S a → (∀ b, S' b → S b) → ¬ S' a → H a = some (.dT ws) → (kvs.map (·.1)).Nodup → ws.map (·.1) = kvs.map (·.1) → RS K B H S' (ws.map fun p => some p.2) (kvs.map fun p => some p.2) → RO K B H S (.ref a) (.ot kvs)
  | oi {S S' : Ad} {a dx C ws kvs} : S a → S dx → (∀ b, S' b → S b) → ¬ S' a → ¬ S' dx → a ≠ dx → H a = some (.ins C dx ws) → H dx = some (.own a) → ws.map (·.1) = kvs.map (·.1) → RS K B H S' (ws.map fun p => some p.2) (kvs.map fun p => some p.2) → RO K B H S (.ref a) (.oi a C kvs)
  | op {S : Ad} {a vs xs} : SqT K B a vs → RS K B H S (vs.map some) (xs.map some) → RO K B H S (.ref a) (.op xs)
  | atA {S : Ad} {a o} : RO K B H S (.ref a) o → RO K B H S (.ref a) (.atA a o)
inductive RS (K : PySem.W.Frag) (B H : Hp) : Ad → List (Option V) → List (Option O) → Prop
  | nil {S : Ad} : RS K B H S [] []
  | un {S : Ad} {v σ Γ} : RS K B H S σ Γ → RS K B H S (v :: σ) (none :: Γ)
  | cons {S S1 S2 : Ad} {v o σ Γ} : (∀ b, S1 b → S b) → (∀ b, S2 b → S b) → (∀ b, S1 b → ¬ S2 b) → RO K B H S1 v o → RS K B H S2 σ Γ → RS K B H S (some v :: σ) (some o :: Γ)
end
section
variable {K : PySem.W.Frag} {B B' H H' : Hp}
mutual
theorem RO.tr (e : BLe B B') : ∀ {S S' : Ad} {v : V} {o : O}, (∀ a, S a → S' a) → (∀ a u, S a → H a = some u → H' a = some u) → RO K B H S v o → RO K B' H' S' v o
  | _, _, _, _, _, _, .d r => .d (r.mono e)
  | _, _, _, _, s, k, .ol ha hs hn h r => .ol (s _ ha) (fun b z => s b (hs b z)) hn (k _ _ ha h) (RS.tr e (fun _ z => z) (fun b u z => k b u (hs b z)) r)
  | _, _, _, _, s, k, .od ha hs hn h nd q r => .od (s _ ha) (fun b z => s b (hs b z)) hn (k _ _ ha h) nd q (RS.tr e (fun _ z => z) (fun b u z => k b u (hs b z)) r)
  | _, _, _, _, s, k, .ot ha hs hn h nd q r => .ot (s _ ha) (fun b z => s b (hs b z)) hn (k _ _ ha h) nd q (RS.tr e (fun _ z => z) (fun b u z => k b u (hs b z)) r)
  | _, _, _, _, s, k, .oi ha hd hs hn hn2 ne h h2 q r => .oi (s _ ha) (s _ hd) (fun b z => s b (hs b z)) hn hn2 ne (k _ _ ha h) (k _ _ hd h2) q (RS.tr e (fun _ z => z) (fun b u z => k b u (hs b z)) r)
  | _, _, _, _, s, k, .op h r => .op (e.sqT h) (RS.tr e s k r)
  | _, _, _, _, s, k, .atA r => .atA (RO.tr e s k r)
theorem RS.tr (e : BLe B B') : ∀ {S S' : Ad} {σ : List (Option V)} {Γ : List (Option O)}, (∀ a, S a → S' a) → (∀ a u, S a → H a = some u → H' a = some u) → RS K B H S σ Γ → RS K B' H' S' σ Γ
  | _, _, _, _, _, _, .nil => .nil
  | _, _, _, _, s, k, .un r => .un (RS.tr e s k r)
  | _, _, _, _, s, k, .cons s1 s2 dj h r => .cons (fun b z => s b (s1 b z)) (fun b z => s b (s2 b z)) dj (RO.tr e (fun _ z => z) (fun b u z => k b u (s1 b z)) h) (RS.tr e (fun _ z => z) (fun b u z => k b u (s2 b z)) r)
end
end
/-- the i-th thing, and the others for any other thing in its place -/
theorem RS.focus {K : PySem.W.Frag} {B H : Hp} {o : O} : ∀ {σ : List (Option V)} {Γ : List (Option O)} {S : Ad} {i : Nat}, RS K B H S σ Γ → Γ[i]? = some (some o) →
    ∃ (v : V) (S1 S2 : Ad), σ[i]? = some (some v) ∧ (∀ b, S1 b → S b) ∧ (∀ b, S2 b → S b) ∧ (∀ b, S1 b → ¬ S2 b) ∧ RO K B H S1 v o ∧
      ∀ (B' H' : Hp) (S1' : Ad) (v' : Option V) (o' : Option O), BLe B B' → (∀ b u, S2 b → H b = some u → H' b = some u) → (∀ b, S1' b → ¬ S2 b) → (∀ x, o' = some x → ∃ w, v' = some w ∧ RO K B' H' S1' w x) →
        RS K B' H' (fun b => S1' b ∨ S2 b) (σ.set i v') (Γ.set i o') := by
  intro σ Γ
  induction Γ generalizing σ with
  | nil => intro S i _ h; simp at h
  | cons g Γ ih =>
    intro S i r h
    cases i with
    | zero =>
      rw [List.getElem?_cons_zero] at h
      cases h
      cases r with
      | cons s1 s2 dj h r =>
        refine ⟨_, _, _, rfl, s1, s2, dj, h, fun B' H' S1' v' o' e k dj' q => ?_⟩
        rw [List.set_cons_zero, List.set_cons_zero]
        cases o' with
        | none => exact .un (r.tr e (fun _ z => .inr z) k)
        | some x =>
          obtain ⟨w, rfl, q2⟩ := q x rfl
          exact .cons (fun _ z => .inl z) (fun _ z => .inr z) dj' q2 (r.tr e (fun _ z => z) k)
    | succ i =>
      rw [List.getElem?_cons_succ] at h
      cases r with
      | un r =>
        obtain ⟨v, S1, S2, a, b, c, d, e, f⟩ := ih r h
        refine ⟨v, S1, S2, by rw [List.getElem?_cons_succ]; exact a, b, c, d, e, fun B' H' S1' v' o' e k dj' q => ?_⟩
        rw [List.set_cons_succ, List.set_cons_succ]
        exact .un (f B' H' S1' v' o' e k dj' q)
      | @cons _ T1 T2 _ _ _ _ s1 s2 dj h0 r =>
        obtain ⟨v, S1, S2, a, b, c, d, e, f⟩ := ih r h
        refine ⟨v, S1, fun x => T1 x ∨ S2 x, by rw [List.getElem?_cons_succ]; exact a, fun x z => s2 x (b x z), fun x z => z.elim (s1 x) (fun z => s2 x (c x z)), fun x z w => w.elim (fun w => dj x w (b x z)) (fun w => d x z w), e, fun B' H' S1' v' o' e k dj' q => ?_⟩
        rw [List.set_cons_succ, List.set_cons_succ]
        refine .cons (S1 := T1) (S2 := fun x => S1' x ∨ S2 x) (fun x z => .inr (.inl z)) (fun x z => z.imp id .inr) (fun x z w => w.elim (fun w => dj' x w (.inl z)) fun w => dj x z (c x w)) (h0.tr e (fun _ z => z) fun x u z => k x u (.inl z)) ?_
        exact f B' H' S1' v' o' e (fun x u z => k x u (.inr z)) (fun x z w => dj' x z (.inr w)) q
/-- the things at hand: τ what is held meanwhile, σ the slots -/
structure HW (K : PySem.W.Frag) (F B0 : Hp) (τ : List V) (T : List O) (σ : L2.St) (Γ : List (Option O)) (H B : Hp) (S : Ad) : Prop where
  fr : Ex F H
  pu : Ex B H
  b0 : BLe B0 B
  ow : ∀ a, S a → F a = none ∧ B a = none ∧ H a ≠ none
  nw : ∀ a, B a ≠ none → B0 a ≠ none ∨ F a = none
  rs : RS K B H S (τ.map some ++ σ) (T.map some ++ Γ)
  lt : τ.length = T.length
abbrev En := List (Option O)
def Ho (K : PySem.W.Frag) (F B0 : Hp) (τ : List V) (T : List O) (σ : L2.St) (Γ : En) (H : Hp) : Prop := ∃ B S, HW K F B0 τ T σ Γ H B S
section
variable {K : PySem.W.Frag} {F B0 H H' B B' : Hp} {τ : List V} {T : List O} {σ : L2.St} {Γ : En} {S : Ad} {v : V} {o : O} {x : D}
/-- one thing more on the pile; the heap has grown -/
theorem HW.push (h : HW K F B0 τ T σ Γ H B S) {S' : Ad} (e : Ex H H') (eb : BLe B B') (pu : Ex B' H') (nw : ∀ a, B' a ≠ none → B a ≠ none ∨ H a = none) (ow : ∀ a, S' a → H a = none ∧ B' a = none ∧ H' a ≠ none) (r : RO K B' H' S' v o) :
    HW K F B0 (v :: τ) (o :: T) σ Γ H' B' (fun a => S' a ∨ S a) where
  fr := h.fr.trans e
  pu := pu
  b0 := h.b0.trans eb
  ow := fun a z => by
    rcases z with z | z
    · obtain ⟨h1, h2, h3⟩ := ow a z
      exact ⟨h.fr.back h1, h2, h3⟩
    · obtain ⟨h1, h2, h3⟩ := h.ow a z
      refine ⟨h1, ?_, fun q => h3 (e.back q)⟩
      cases q : B' a with
      | none => rfl
      | some u =>
        rcases nw a (by rw [q]; simp) with w | w
        · exact absurd h2 w
        · exact absurd w h3
  nw := fun a z => by
    rcases nw a z with w | w
    · exact h.nw a w
    · exact .inr (h.fr.back w)
  rs := .cons (fun _ z => .inl z) (fun _ z => .inr z) (fun a z w => (h.ow a w).2.2 (ow a z).1) r (h.rs.tr eb (fun _ z => z) fun a u _ q => e a u q)
  lt := by simp [h.lt]
/-- a pure thing, nothing new -/
theorem HW.pushd (h : HW K F B0 τ T σ Γ H B S) (r : R K B v x) : HW K F B0 (v :: τ) (.d x :: T) σ Γ H B (fun a => False ∨ S a) :=
  h.push (S' := fun _ => False) (.refl H) (.refl B) h.pu (fun _ z => .inl z) (fun _ z => z.elim) (.d r)
/-- the pile's first thing falls away -/
theorem HW.pop (h : HW K F B0 (v :: τ) (o :: T) σ Γ H B S) : ∃ S1 S2 : Ad, (∀ b, S1 b → S b) ∧ (∀ b, S2 b → S b) ∧ (∀ b, S1 b → ¬ S2 b) ∧ RO K B H S1 v o ∧ HW K F B0 τ T σ Γ H B S2 := by
  have r := h.rs
  cases r with
  | cons s1 s2 dj r rs => exact ⟨_, _, s1, s2, dj, r, h.fr, h.pu, h.b0, fun a z => h.ow a (s2 a z), h.nw, rs, by simpa using h.lt⟩
theorem HW.popd (h : HW K F B0 (v :: τ) (.d x :: T) σ Γ H B S) : R K B v x ∧ ∃ S2, (∀ b, S2 b → S b) ∧ HW K F B0 τ T σ Γ H B S2 := by
  obtain ⟨S1, S2, _, s2, _, r, w⟩ := h.pop
  cases r with
  | d r => exact ⟨r, S2, s2, w⟩
theorem HW.len (h : HW K F B0 τ T σ Γ H B S) : σ.length = Γ.length := by
  have : ∀ {σ : List (Option V)} {Γ : List (Option O)} {S : Ad}, RS K B H S σ Γ → σ.length = Γ.length := by
    intro σ Γ
    induction Γ generalizing σ with
    | nil => intro S r; cases r; rfl
    | cons g Γ ih =>
      intro S r
      cases r with
      | un r => simp [ih r]
      | cons _ _ _ _ r => simp [ih r]
  have q := this h.rs
  have l := h.lt
  simp only [List.length_append, List.length_map] at q
  omega
/-- the i-th slot -/
theorem HW.slot (h : HW K F B0 τ T σ Γ H B S) {i : Nat} (e : Γ[i]? = some (some o)) : ∃ (v : V) (S1 S2 : Ad), σ[i]? = some (some v) ∧ (∀ b, S1 b → S b) ∧ (∀ b, S2 b → S b) ∧ (∀ b, S1 b → ¬ S2 b) ∧ RO K B H S1 v o ∧
    ∀ (B' H' : Hp) (S1' : Ad) (v' : Option V) (o' : Option O), BLe B B' → (∀ b u, S2 b → H b = some u → H' b = some u) → (∀ b, S1' b → ¬ S2 b) → (∀ x, o' = some x → ∃ w, v' = some w ∧ RO K B' H' S1' w x) →
        RS K B' H' (fun b => S1' b ∨ S2 b) (τ.map some ++ σ.set i v') (T.map some ++ Γ.set i o') := by
  have e' : (T.map some ++ Γ)[τ.length + i]? = some (some o) := by
    rw [List.getElem?_append_right (by simp [h.lt]), List.length_map, ← h.lt, Nat.add_sub_cancel_left]
    exact e
  obtain ⟨v, S1, S2, a, b, c, d, r, f⟩ := h.rs.focus e'
  refine ⟨v, S1, S2, ?_, b, c, d, r, fun B' H' S1' v' o' e k dj q => ?_⟩
  · rw [List.getElem?_append_right (by simp), List.length_map, Nat.add_sub_cancel_left] at a
    exact a
  · have z := f B' H' S1' v' o' e k dj q
    rw [List.set_append_right _ _ (by simp), List.set_append_right _ _ (by simp [h.lt]), List.length_map, List.length_map, ← h.lt, Nat.add_sub_cancel_left] at z
    exact z
theorem HW.getd (h : HW K F B0 τ T σ Γ H B S) {i : Nat} (e : Γ[i]? = some (some (.d x))) : ∃ v, σ[i]? = some (some v) ∧ R K B v x := by
  obtain ⟨v, S1, S2, a, _, _, _, r, _⟩ := h.slot e
  cases r with
  | d r => exact ⟨v, a, r⟩
end
end SK
namespace SK
open PySem PySem.Spec PyProof.Rows L2
mutual
def O.fz : O → D
  | .d x => x
  | .ol xs => .lst (fzL xs)
  | .od kvs => .dic (fzK kvs)
  | .ot kvs => .dit (fzT kvs)
  | .oi _ C fs => .ins C (fzF fs)
  | .op xs => .tup (fzL xs)
  | .atA _ o => o.fz
def fzL : List O → List D
  | [] => []
  | x :: xs => x.fz :: fzL xs
def fzK : List (Key × O) → List (Key × D)
  | [] => []
  | (k, x) :: xs => (k, x.fz) :: fzK xs
def fzT : List (List Key × O) → List (List Key × D)
  | [] => []
  | (k, x) :: xs => (k, x.fz) :: fzT xs
def fzF : List (Str × O) → List (Str × D)
  | [] => []
  | (k, x) :: xs => (k, x.fz) :: fzF xs
end
theorem fzK_keys : ∀ l : List (Key × O), (fzK l).map (·.1) = l.map (·.1)
  | [] => rfl
  | (k, x) :: xs => by simp [fzK, fzK_keys xs]
theorem fzT_keys : ∀ l : List (List Key × O), (fzT l).map (·.1) = l.map (·.1)
  | [] => rfl
  | (k, x) :: xs => by simp [fzT, fzT_keys xs]
def fzE : List (Option O) → List (Option O)
  | [] => []
  | none :: r => none :: fzE r
  | some o :: r => some (.d o.fz) :: fzE r
section
variable {K : PySem.W.Frag} {B B' H H' : Hp}
mutual
theorem RO.fz (eb : BLe B B') : ∀ {S : Ad} {v : V} {o : O}, (∀ a u, S a → H a = some u → B' a = some u) → RO K B H S v o → R K B' v o.fz
  | _, _, _, _, .d r => r.mono eb
  | _, _, _, k, .ol ha hs _ h r => .lst (k _ _ ha h) (RS.fzL eb (fun b u z => k b u (hs b z)) r)
  | _, _, _, k, .od ha hs _ h nd q r => .dic (.inl (k _ _ ha h)) (by rw [fzK_keys]; exact nd) (RS.fzK eb (fun b u z => k b u (hs b z)) q r)
  | _, _, _, k, .ot ha hs _ h nd q r => .dit (.inl (k _ _ ha h)) (by rw [fzT_keys]; exact nd) (RS.fzT eb (fun b u z => k b u (hs b z)) q r)
  | _, _, _, k, .oi ha hd hs _ _ _ h _ q r => .ins (k _ _ ha h) (RS.fzF eb (fun b u z => k b u (hs b z)) q r)
  | _, _, _, k, .op h r => .tup (eb.sqT h) (RS.fzL eb k r)
  | _, _, _, k, .atA (o := o) r => (RO.fz (o := o) eb k r : R K B' _ o.fz)
theorem RS.fzL (eb : BLe B B') : ∀ {S : Ad} {vs : List V} {xs : List O}, (∀ a u, S a → H a = some u → B' a = some u) → RS K B H S (vs.map some) (xs.map some) → RL K B' vs (SK.fzL xs)
  | _, [], [], _, _ => .nil
  | _, v :: vs, x :: xs, k, .cons s1 s2 _ h r => .cons (RO.fz eb (fun b u z => k b u (s1 b z)) h) (RS.fzL eb (fun b u z => k b u (s2 b z)) r)
theorem RS.fzK (eb : BLe B B') : ∀ {S : Ad} {vs : List (Key × V)} {xs : List (Key × O)}, (∀ a u, S a → H a = some u → B' a = some u) → vs.map (·.1) = xs.map (·.1) → RS K B H S (vs.map fun p => some p.2) (xs.map fun p => some p.2) → RK K B' vs (SK.fzK xs)
  | _, [], [], _, _, _ => .nil
  | _, (kv, v) :: vs, (kx, x) :: xs, k, q, .cons s1 s2 _ h r => by
    simp only [List.map_cons, List.cons.injEq] at q
    obtain ⟨rfl, q⟩ := q
    exact .cons (RO.fz eb (fun b u z => k b u (s1 b z)) h) (RS.fzK eb (fun b u z => k b u (s2 b z)) q r)
theorem RS.fzT (eb : BLe B B') : ∀ {S : Ad} {vs : List (List Key × V)} {xs : List (List Key × O)}, (∀ a u, S a → H a = some u → B' a = some u) → vs.map (·.1) = xs.map (·.1) → RS K B H S (vs.map fun p => some p.2) (xs.map fun p => some p.2) → RT K B' vs (SK.fzT xs)
  | _, [], [], _, _, _ => .nil
  | _, (kv, v) :: vs, (kx, x) :: xs, k, q, .cons s1 s2 _ h r => by
    simp only [List.map_cons, List.cons.injEq] at q
    obtain ⟨rfl, q⟩ := q
    exact .cons (RO.fz eb (fun b u z => k b u (s1 b z)) h) (RS.fzT eb (fun b u z => k b u (s2 b z)) q r)
theorem RS.fzF (eb : BLe B B') : ∀ {S : Ad} {vs : List (Str × V)} {xs : List (Str × O)}, (∀ a u, S a → H a = some u → B' a = some u) → vs.map (·.1) = xs.map (·.1) → RS K B H S (vs.map fun p => some p.2) (xs.map fun p => some p.2) → RF K B' vs (SK.fzF xs)
  | _, [], [], _, _, _ => .nil
  | _, (kv, v) :: vs, (kx, x) :: xs, k, q, .cons s1 s2 _ h r => by
    simp only [List.map_cons, List.cons.injEq] at q
    obtain ⟨rfl, q⟩ := q
    exact .cons (RO.fz eb (fun b u z => k b u (s1 b z)) h) (RS.fzF eb (fun b u z => k b u (s2 b z)) q r)
end
end
open Classical in
/-- B with the owned cells S of H -/
noncomputable def frz (B H : Hp) (S : Ad) : Hp := fun a => if S a then H a else B a
section
variable {K : PySem.W.Frag} {F B0 H H' B B' : Hp} {τ : List V} {T : List O} {σ : L2.St} {Γ : En} {S S1 S2 : Ad} {v : V} {o : O} {x : D}
theorem frz_at {a : Addr} (h : S a) : frz B H S a = H a := if_pos h
theorem frz_no {a : Addr} (h : ¬ S a) : frz B H S a = B a := if_neg h
theorem frz_ex (h : ∀ a, S a → B a = none) : Ex B (frz B H S) := fun a o e => by
  by_cases z : S a
  · rw [h a z] at e; cases e
  · rw [frz_no z]; exact e
/-- the pile's first thing is frozen -/
theorem HW.fz (h : HW K F B0 (v :: τ) (o :: T) σ Γ H B S) : ∃ B' S', HW K F B0 (v :: τ) (.d o.fz :: T) σ Γ H B' S' ∧ BLe B B' := by
  obtain ⟨S1, S2, s1, s2, dj, r, w⟩ := h.pop
  have ex : Ex B (frz B H S1) := frz_ex fun a z => (h.ow a (s1 a z)).2.1
  refine ⟨frz B H S1, fun a => False ∨ S2 a, ⟨h.fr, fun a u e => ?_, h.b0.trans (.of_ex ex), fun a z => ?_, fun a z => ?_, .cons (S1 := fun _ => False) (fun _ z => .inl z) (fun _ z => .inr z) (fun _ z => z.elim) (.d (r.fz (.of_ex ex) fun a u z e => by rw [frz_at z]; exact e)) (w.rs.tr (.of_ex ex) (fun _ z => z) fun _ _ _ e => e), h.lt⟩, .of_ex ex⟩
  · by_cases z : S1 a
    · rw [frz_at z] at e; exact e
    · rw [frz_no z] at e; exact h.pu a u e
  · have z : S2 a := z.elim False.elim id
    obtain ⟨q1, q2, q3⟩ := h.ow a (s2 a z)
    refine ⟨q1, ?_, q3⟩
    rw [frz_no fun y => dj a y z]
    exact q2
  · by_cases y : S1 a
    · exact .inr (h.ow a (s1 a y)).1
    · rw [frz_no y] at z; exact h.nw a z
/-- pushed frozen things, all at once: the whole state as pure -/
theorem RS.fzE {S : Ad} (eb : BLe B B') : ∀ {σ : List (Option V)} {Γ : List (Option O)} {S : Ad}, (∀ a u, S a → H a = some u → B' a = some u) → RS K B H S σ Γ → RS K B' H (fun _ => False) σ (fzE Γ) := by
  intro σ Γ
  induction Γ generalizing σ with
  | nil => intro S _ r; cases r; exact .nil
  | cons g Γ ih =>
    intro S k r
    cases r with
    | un r => exact .un (ih k r)
    | cons s1 s2 dj h r => exact .cons (S1 := fun _ => False) (S2 := fun _ => False) (fun _ z => z) (fun _ z => z) (fun _ z => z.elim) (.d (h.fz eb fun a u z => k a u (s1 a z))) (ih (fun a u z => k a u (s2 a z)) r)
end
structure EG where
  nx : En → Prop
  rt : O → En → Prop
  bk : En → Prop := fun _ => False
  ct : En → Prop := fun _ => False
section
variable (K : PySem.W.Frag) (F B0 : Hp)
def Go (t : TE) (T : List O) (Γ : En) (post : O → En → Prop) : Prop := ∀ (τ : List V) (σ : L2.St) (H : Hp) (Q : VK), Ho K F B0 τ T σ Γ H →
  (∀ v o Γ' H', post o Γ' → Ho K F B0 (v :: τ) (o :: T) σ Γ' H' → Q v H') → t σ H Q
def GoT (t : TT) (T : List O) (Γ : En) (post : Bool → En → Prop) : Prop := ∀ (τ : List V) (σ : L2.St) (H : Hp) (Q : Bool → Hp → Prop), Ho K F B0 τ T σ Γ H →
  (∀ b Γ' H', post b Γ' → Ho K F B0 τ T σ Γ' H' → Q b H') → t σ H Q
/-- arguments, all pure; on the pile the last one first -/
def GoA (t : TA) (T : List O) (Γ : En) (post : List D → En → Prop) : Prop := ∀ (τ : List V) (σ : L2.St) (H : Hp) (Q : List V → Hp → Prop), Ho K F B0 τ T σ Γ H →
  (∀ vs xs Γ' H', post xs Γ' → Ho K F B0 (vs.reverse ++ τ) ((xs.map O.d).reverse ++ T) σ Γ' H' → vs.length = xs.length → Q vs H') → t σ H Q
structure Sat (τ : List V) (T : List O) (De : Ends) (D : EG) : Prop where
  nx : ∀ σ Γ H, D.nx Γ → Ho K F B0 τ T σ Γ H → De.nx σ H
  rt : ∀ v o σ Γ H, D.rt o Γ → Ho K F B0 (v :: τ) (o :: T) σ Γ H → De.rt v H
  bk : ∀ σ Γ H, D.bk Γ → Ho K F B0 τ T σ Γ H → De.bk σ H
  ct : ∀ σ Γ H, D.ct Γ → Ho K F B0 τ T σ Γ H → De.ct σ H
def GoS (t : TS) (T : List O) (Γ : En) (D : EG) : Prop := ∀ (τ : List V) (σ : L2.St) (H : Hp) (De : Ends), Ho K F B0 τ T σ Γ H → Sat K F B0 τ T De D → t De σ H
/-- an operation on two pure things -/
def Op2 (r : R2) (x1 x2 : D) (T : List O) (Γ : En) (post : O → En → Prop) : Prop := ∀ (τ : List V) (σ : L2.St) (H B : Hp) (S : Ad) (v1 v2 : V) (Q : VK), HW K F B0 τ T σ Γ H B S → R K B v1 x1 → R K B v2 x2 →
  (∀ v o Γ' H', post o Γ' → Ho K F B0 (v :: τ) (o :: T) σ Γ' H' → Q v H') → r v1 v2 H Q
def Op1 (r : V → Hp → VK → Prop) (x1 : D) (T : List O) (Γ : En) (post : O → En → Prop) : Prop := ∀ (τ : List V) (σ : L2.St) (H B : Hp) (S : Ad) (v1 : V) (Q : VK), HW K F B0 τ T σ Γ H B S → R K B v1 x1 →
  (∀ v o Γ' H', post o Γ' → Ho K F B0 (v :: τ) (o :: T) σ Γ' H' → Q v H') → r v1 H Q
/-- a call by values on pure things -/
def OpA (r : List V → Hp → VK → Prop) (xs : List D) (T : List O) (Γ : En) (post : O → En → Prop) : Prop := ∀ (τ : List V) (σ : L2.St) (H B : Hp) (S : Ad) (vs : List V) (Q : VK), HW K F B0 τ T σ Γ H B S → RL K B vs xs →
  (∀ v o Γ' H', post o Γ' → Ho K F B0 (v :: τ) (o :: T) σ Γ' H' → Q v H') → r vs H Q
/-- a store into a target -/
def GoG (g : TG) (o : O) (T : List O) (Γ : En) (post : En → Prop) : Prop := ∀ (τ : List V) (σ : L2.St) (H : Hp) (v : V) (Q : L2.St → Hp → Prop), Ho K F B0 (v :: τ) (o :: T) σ Γ H →
  (∀ σ' Γ' H', post Γ' → Ho K F B0 τ T σ' Γ' H' → Q σ' H') → g v σ H Q
end
end SK
namespace SK
open PySem PySem.Spec PyProof.Rows L2
section
variable {K : PySem.W.Frag} {F B0 H H' B B' : Hp} {τ : List V} {T : List O} {σ : L2.St} {Γ : En} {S S1 S2 : Ad} {v : V} {o o1 o2 : O} {x : D} {post : O → En → Prop} {ta tb te : TE} {tt tu : TT} {i : Nat} {r : R2} {posts : List D → En → Prop} {postt : Bool → En → Prop} {posts1 : En → Prop}
theorem RS.len : ∀ {σ : List (Option V)} {Γ : List (Option O)} {S : Ad}, RS K B H S σ Γ → σ.length = Γ.length := by
  intro σ Γ
  induction Γ generalizing σ with
  | nil => intro S r; cases r; rfl
  | cons g Γ ih =>
    intro S r
    cases r with
    | un r => simp [ih r]
    | cons _ _ _ _ r => simp [ih r]
/-- a slot is written -/
theorem RS.put {v : Option V} {o : Option O} : ∀ {σ : List (Option V)} {Γ : List (Option O)} {S S1 : Ad} {i : Nat}, RS K B H S σ Γ → i < Γ.length → (∀ b, S1 b → ¬ S b) → (∀ x, o = some x → ∃ w, v = some w ∧ RO K B H S1 w x) →
    RS K B H (fun b => S1 b ∨ S b) (σ.set i v) (Γ.set i o) := by
  intro σ Γ
  induction Γ generalizing σ with
  | nil => intro S S1 i _ h; simp at h
  | cons g Γ ih =>
    intro S S1 i r hi dj q
    have ex : ∀ {a b : Option V} {σ : List (Option V)} {Γ : List (Option O)} {S2 : Ad}, (∀ z, S2 z → S z) → RS K B H S2 σ Γ → RS K B H (fun b => S1 b ∨ S b) (v :: σ) (o :: Γ) := fun s2 r => by
      cases o with
      | none => exact .un (r.tr (.refl B) (fun a z => .inr (s2 a z)) fun _ _ _ e => e)
      | some x =>
        obtain ⟨w, rfl, q2⟩ := q x rfl
        exact .cons (fun _ z => .inl z) (fun a z => .inr (s2 a z)) (fun a z y => dj a z (s2 a y)) q2 r
    cases i with
    | zero =>
      cases r with
      | un r => exact ex (a := v) (b := v) (fun _ z => z) r
      | cons _ s2 _ _ r => exact ex (a := v) (b := v) s2 r
    | succ i =>
      have hi' : i < Γ.length := by simpa using hi
      cases r with
      | un r => exact .un (ih r hi' dj q)
      | @cons _ T1 T2 _ _ _ _ s1 s2 dj0 h0 r =>
        refine .cons (S1 := T1) (S2 := fun x => S1 x ∨ T2 x) (fun x z => .inr (s1 x z)) (fun x z => z.imp id (s2 x)) (fun x z w => w.elim (fun w => dj x w (s1 x z)) (dj0 x z)) h0 (ih r hi' (fun x z w => dj x z (s2 x w)) q)
theorem HW.put (h : HW K F B0 (v :: τ) (o :: T) σ Γ H B S) (hi : i < Γ.length) : ∃ S', HW K F B0 τ T (σ.set i (some v)) (Γ.set i (some o)) H B S' := by
  obtain ⟨S1, S2, s1, s2, dj, r, w⟩ := h.pop
  have lt := w.lt
  have q := RS.put (i := τ.length + i) (v := some v) (o := some o) (S1 := S1) w.rs (by simp [w.lt]; omega) dj fun x e => by cases e; exact ⟨v, rfl, r⟩
  rw [List.set_append_right _ _ (by simp), List.set_append_right _ _ (by simp [lt]), List.length_map, List.length_map, ← lt, Nat.add_sub_cancel_left] at q
  exact ⟨_, w.fr, w.pu, w.b0, fun a z => z.elim (fun z => h.ow a (s1 a z)) (fun z => w.ow a z), w.nw, q, w.lt⟩
/-- a slot is forgotten, its thing on the pile -/
theorem HW.take (h : HW K F B0 τ T σ Γ H B S) (e : Γ[i]? = some (some o)) : ∃ v S', σ[i]? = some (some v) ∧ HW K F B0 (v :: τ) (o :: T) σ (Γ.set i none) H B S' := by
  obtain ⟨v, S1, S2, a, b, c, d, ro, f⟩ := h.slot e
  have hl : i < σ.length := (List.getElem?_eq_some_iff.mp a).1
  have z := f B H (fun _ => False) (some v) none (.refl B) (fun _ _ _ q => q) (fun _ z => z.elim) (fun x q => by cases q)
  have e2 : σ.set i (some v) = σ := by
    apply List.ext_getElem?
    intro n
    by_cases hn : n = i
    · subst hn; rw [List.getElem?_set_self hl, a]
    · rw [List.getElem?_set_ne (Ne.symm hn)]
  rw [e2] at z
  exact ⟨v, fun b => S1 b ∨ S2 b, a, h.fr, h.pu, h.b0, fun a z => z.elim (fun z => h.ow a (b a z)) (fun z => h.ow a (c a z)), h.nw,
    .cons (fun _ z => .inl z) (fun _ z => .inr z) d ro (z.tr (.refl B) (fun a z => z.elim False.elim id) fun _ _ _ e => e), by simp [h.lt]⟩
/-- a pure name -/
theorem go_var (e : Γ[i]? = some (some (.d x))) (h : post (.d x) Γ) : Go K F B0 (tVar i) T Γ post := fun τ σ H Q ⟨B, S, w⟩ k => by
  obtain ⟨v, a, r⟩ := w.getd e
  exact ⟨v, a, k v _ Γ H h ⟨B, _, w.pushd r⟩⟩
/-- an owned thing is handed on: its name holds nothing known from then on -/
theorem go_move (e : Γ[i]? = some (some o)) (h : post o (Γ.set i none)) : Go K F B0 (tVar i) T Γ post := fun τ σ H Q ⟨B, S, w⟩ k => by
  obtain ⟨v, S', a, w⟩ := w.take e
  exact ⟨v, a, k v _ _ H h ⟨B, S', w⟩⟩
/-- an owned thing becomes pure for good -/
theorem go_fz (e : Γ[i]? = some (some o)) (h : post (.d o.fz) (Γ.set i (some (.d o.fz)))) : Go K F B0 (tVar i) T Γ post := fun τ σ H Q ⟨B, S, w⟩ k => by
  obtain ⟨v, S', a, w⟩ := w.take e
  obtain ⟨B', S'', w, _⟩ := w.fz
  obtain ⟨r, _⟩ := w.popd
  obtain ⟨S3, w3⟩ := w.put (i := i) (by simpa using (List.getElem?_eq_some_iff.mp e).1)
  have hl : i < σ.length := (List.getElem?_eq_some_iff.mp a).1
  have e2 : σ.set i (some v) = σ := by
    apply List.ext_getElem?
    intro n
    by_cases hn : n = i
    · subst hn; rw [List.getElem?_set_self hl, a]
    · rw [List.getElem?_set_ne (Ne.symm hn)]
  rw [e2, List.set_set] at w3
  exact ⟨v, a, k v _ _ H h ⟨B', _, w3.pushd r⟩⟩
theorem go_int {n : Int} (h : post (.d (.int n)) Γ) : Go K F B0 (tC (.int n)) T Γ post := fun τ σ H Q ⟨B, S, w⟩ k => k _ _ Γ H h ⟨B, _, w.pushd .int⟩
theorem go_bl {n : Bool} (h : post (.d (.bl n)) Γ) : Go K F B0 (tC (.bl n)) T Γ post := fun τ σ H Q ⟨B, S, w⟩ k => k _ _ Γ H h ⟨B, _, w.pushd .bl⟩
theorem go_str {n : Str} (h : post (.d (.str n)) Γ) : Go K F B0 (tC (.str n)) T Γ post := fun τ σ H Q ⟨B, S, w⟩ k => k _ _ Γ H h ⟨B, _, w.pushd .str⟩
theorem go_non (h : post (.d .non) Γ) : Go K F B0 (tC .non) T Γ post := fun τ σ H Q ⟨B, S, w⟩ k => k _ _ Γ H h ⟨B, _, w.pushd .non⟩
theorem go_ty {n : String} (h : post (.d (.ty n)) Γ) : Go K F B0 (tC (.ty n)) T Γ post := fun τ σ H Q ⟨B, S, w⟩ k => k _ _ Γ H h ⟨B, _, w.pushd .ty⟩
theorem go_ref {a : Addr} (h : post (.d (.ref a)) Γ) : Go K F B0 (tC (.ref a)) T Γ post := fun τ σ H Q ⟨B, S, w⟩ k => k _ _ Γ H h ⟨B, _, w.pushd .ref⟩
/-- a constant of the module that is data -/
theorem go_cst {c : V} (q : ∀ B, R K B c x) (h : post (.d x) Γ) : Go K F B0 (tC c) T Γ post := fun τ σ H Q ⟨B, S, w⟩ k => k _ _ Γ H h ⟨B, _, w.pushd (q B)⟩
theorem HW.fzd (h : HW K F B0 (v :: τ) (o :: T) σ Γ H B S) : ∃ B' S', HW K F B0 τ T σ Γ H B' S' ∧ R K B' v o.fz ∧ BLe B B' := by
  obtain ⟨B', S', w, e⟩ := h.fz
  obtain ⟨r, S2, _, w⟩ := w.popd
  exact ⟨B', S2, w, r, e⟩
theorem go_op (h : Go K F B0 ta T Γ fun o1 Γ1 => Go K F B0 tb (.d o1.fz :: T) Γ1 fun o2 Γ2 => Op2 K F B0 r o1.fz o2.fz T Γ2 post) : Go K F B0 (tOp r ta tb) T Γ post := fun τ σ H Q hw k =>
  h τ σ H _ hw fun v1 o1 Γ1 H1 h1 ⟨_, _, w1⟩ => by
    obtain ⟨_, _, w1, _⟩ := w1.fz
    refine h1 _ σ H1 _ ⟨_, _, w1⟩ fun v2 o2 Γ2 H2 h2 ⟨_, _, w2⟩ => ?_
    obtain ⟨_, _, w2, r2, _⟩ := w2.fzd
    obtain ⟨r1, _, _, w2⟩ := w2.popd
    exact h2 τ σ H2 _ _ v1 v2 Q w2 r1 r2 k
theorem go_un {r : V → Hp → VK → Prop} (h : Go K F B0 ta T Γ fun o1 Γ1 => Op1 K F B0 r o1.fz T Γ1 post) : Go K F B0 (tUn r ta) T Γ post := fun τ σ H Q hw k =>
  h τ σ H _ hw fun v1 o1 Γ1 H1 h1 ⟨_, _, w1⟩ => by
    obtain ⟨_, _, w1, r1, _⟩ := w1.fzd
    exact h1 τ σ H1 _ _ v1 Q w1 r1 k
theorem goa_nil (h : posts [] Γ) : GoA K F B0 tNil T Γ posts := fun τ σ H Q hw k => k [] [] Γ H h hw rfl
theorem goa_cons {tr : TA} (h : Go K F B0 ta T Γ fun o1 Γ1 => GoA K F B0 tr (.d o1.fz :: T) Γ1 fun xs Γ2 => posts (o1.fz :: xs) Γ2) : GoA K F B0 (tCons ta tr) T Γ posts := fun τ σ H Q hw k =>
  h τ σ H _ hw fun v1 o1 Γ1 H1 h1 ⟨_, _, w1⟩ => by
    obtain ⟨_, _, w1, _⟩ := w1.fz
    refine h1 _ σ H1 _ ⟨_, _, w1⟩ fun vs xs Γ2 H2 h2 w2 hl => ?_
    refine k (v1 :: vs) (o1.fz :: xs) Γ2 H2 h2 ?_ (by simp [hl])
    simpa using w2
/-- the held arguments, as a list -/
theorem HW.args : ∀ {xs : List D} {vs : List V} {τ : List V} {T : List O} {S : Ad}, HW K F B0 (vs.reverse ++ τ) ((xs.map O.d).reverse ++ T) σ Γ H B S → vs.length = xs.length → RL K B vs xs ∧ ∃ S', HW K F B0 τ T σ Γ H B S'
  | [], [], _, _, S, h, _ => ⟨.nil, S, h⟩
  | x :: xs, v :: vs, τ, T, S, h, hl => by
    have h' : HW K F B0 (vs.reverse ++ (v :: τ)) ((xs.map O.d).reverse ++ (.d x :: T)) σ Γ H B S := by simpa using h
    obtain ⟨r, S', w⟩ := HW.args h' (by simpa using hl)
    obtain ⟨r1, S2, _, w⟩ := w.popd
    exact ⟨.cons r1 r, S2, w⟩
theorem go_cb {r : List V → Hp → VK → Prop} {t : TA} (h : GoA K F B0 t T Γ fun xs Γ1 => OpA K F B0 r xs T Γ1 post) : Go K F B0 (tCB r t) T Γ post := fun τ σ H Q hw k =>
  h τ σ H _ hw fun vs xs Γ1 H1 h1 ⟨_, _, w1⟩ hl => by
    obtain ⟨rl, S', w⟩ := w1.args hl
    exact h1 τ σ H1 _ S' vs Q w rl k
theorem HW.newd {p : Addr} {c : HO} (h : HW K F B0 τ T σ Γ H B S) (hp : H p = none) (r : R K (upd B p c) v x) : ∃ S', HW K F B0 (v :: τ) (.d x :: T) σ Γ (upd H p c) (upd B p c) S' :=
  ⟨_, h.push (S' := fun _ => False) (.new hp) (.of_ex (.new (h.pu.back hp))) (fun a u e => by
    by_cases q : a = p
    · subst q; rw [upd_same] at e ⊢; exact e
    · rw [upd_ne q] at e ⊢; exact h.pu a u e) (fun a z => by
    by_cases q : a = p
    · subst q; exact .inr hp
    · rw [upd_ne q] at z; exact .inl z) (fun _ z => z.elim) (.d r)⟩
theorem HW.newo {p : Addr} {c : HO} (h : HW K F B0 τ T σ Γ H B S) (hp : H p = none) (r : RO K B (upd H p c) (fun a => a = p) v o) : ∃ S', HW K F B0 (v :: τ) (o :: T) σ Γ (upd H p c) B S' :=
  ⟨_, h.push (S' := fun a => a = p) (.new hp) (.refl B) (fun a u e => (Ex.new hp) a u (h.pu a u e)) (fun a z => .inl z) (fun a z => by subst z; exact ⟨hp, h.pu.back hp, by rw [upd_same]; simp⟩) r⟩
theorem fl_of {xs : List D} {vs : List V} {S : Ad} (r : RL K B vs xs) : RS K B H S (vs.map some) ((xs.map O.d).map some) := by
  induction vs generalizing xs with
  | nil => cases r; exact .nil
  | cons v vs ih => cases r with | cons a b => exact .cons (S1 := fun _ => False) (S2 := S) (fun _ z => z.elim) (fun _ z => z) (fun _ z => z.elim) (.d a) (ih b)
theorem RL.length {xs : List D} {vs : List V} (r : RL K B vs xs) : vs.length = xs.length := by
  induction vs generalizing xs with
  | nil => cases r; rfl
  | cons v vs ih => cases r with | cons a b => simp [ih b]
theorem go_tup {t : TA} (h : GoA K F B0 t T Γ fun xs Γ1 => xs.length ≤ 1000 ∧ post (.d (.tup xs)) Γ1) : Go K F B0 (tTup t) T Γ post := fun τ σ H Q hw k =>
  h τ σ H _ hw fun vs xs Γ1 H1 ⟨hz, h1⟩ ⟨_, _, w1⟩ hl => by
    obtain ⟨rl, S', w⟩ := w1.args hl
    refine ⟨Nat.le_trans (by rw [hl]; exact hz) (by decide), fun p hp => ?_⟩
    obtain ⟨S2, w⟩ := w.newd (x := .tup xs) hp (.tup (SqT.of upd_same) (rl.mono (.of_ex (.new (w.pu.back hp)))))
    exact k _ _ _ _ h1 ⟨_, _, w⟩
theorem HW.newl {p : Addr} {xs : List D} {vs : List V} (h : HW K F B0 τ T σ Γ H B S) (hp : H p = none) (rl : RL K B vs xs) : ∃ S', HW K F B0 (.ref p :: τ) (.ol (xs.map O.d) :: T) σ Γ (upd H p (.lst vs)) B S' :=
  h.newo hp (.ol (S' := fun _ => False) rfl (fun _ z => z.elim) id upd_same (fl_of rl))
theorem go_lst {t : TA} (h : GoA K F B0 t T Γ fun xs Γ1 => xs.length ≤ 1000 ∧ post (.ol (xs.map O.d)) Γ1) : Go K F B0 (tLst t) T Γ post := fun τ σ H Q hw k =>
  h τ σ H _ hw fun vs xs Γ1 H1 ⟨hz, h1⟩ ⟨_, _, w1⟩ hl => by
    obtain ⟨rl, S', w⟩ := w1.args hl
    refine ⟨Nat.le_trans (by rw [hl]; exact hz) (by decide), fun p hp => ?_⟩
    obtain ⟨S2, w⟩ := w.newl hp rl
    exact k _ _ _ _ h1 ⟨_, _, w⟩
theorem go_if (h : GoT K F B0 tt T Γ fun b Γ1 => (b = true → Go K F B0 ta T Γ1 post) ∧ (b = false → Go K F B0 tb T Γ1 post)) : Go K F B0 (tIf tt ta tb) T Γ post := fun τ σ H Q hw k =>
  h τ σ H _ hw fun b Γ1 H1 ⟨h1, h2⟩ w1 => by
    cases b with
    | true => exact iteT (h1 rfl τ σ H1 Q w1 k)
    | false => exact iteF (h2 rfl τ σ H1 Q w1 k)
theorem got_test (h : Go K F B0 te T Γ fun o Γ1 => ∃ b, o = .d (.bl b) ∧ postt b Γ1) : GoT K F B0 (tTest te) T Γ postt := fun τ σ H Q hw k =>
  h τ σ H _ hw fun v o Γ1 H1 ⟨b, e, h1⟩ ⟨_, _, w1⟩ => by
    subst e
    obtain ⟨r, _, _, w⟩ := w1.popd
    cases r
    exact ⟨b, rfl, k b Γ1 H1 h1 ⟨_, _, w⟩⟩
theorem got_B (h : Go K F B0 te T Γ fun o Γ1 => ∃ b, o = .d (.bl b) ∧ postt b Γ1) : GoT K F B0 (tB te) T Γ postt := fun τ σ H Q hw k => got_test h τ σ H Q hw k
theorem got_and (h : GoT K F B0 tt T Γ fun b Γ1 => (b = true → GoT K F B0 tu T Γ1 postt) ∧ (b = false → postt false Γ1)) : GoT K F B0 (tAnd tt tu) T Γ postt := fun τ σ H Q hw k =>
  h τ σ H _ hw fun b Γ1 H1 ⟨h1, h2⟩ w1 => by
    cases b with
    | true => exact iteT (h1 rfl τ σ H1 Q w1 k)
    | false => exact iteF (k _ _ _ (h2 rfl) w1)
theorem got_or (h : GoT K F B0 tt T Γ fun b Γ1 => (b = true → postt true Γ1) ∧ (b = false → GoT K F B0 tu T Γ1 postt)) : GoT K F B0 (tOr tt tu) T Γ postt := fun τ σ H Q hw k =>
  h τ σ H _ hw fun b Γ1 H1 ⟨h1, h2⟩ w1 => by
    cases b with
    | true => exact iteT (k _ _ _ (h1 rfl) w1)
    | false => exact iteF (h2 rfl τ σ H1 Q w1 k)
theorem got_not (h : GoT K F B0 tt T Γ fun b Γ1 => postt (!b) Γ1) : GoT K F B0 (tNot tt) T Γ postt := fun τ σ H Q hw k =>
  h τ σ H _ hw fun b Γ1 H1 h1 w1 => k _ _ _ h1 w1
theorem go_andV (h : Go K F B0 ta T Γ fun o Γ1 => ∃ b, o = .d (.bl b) ∧ (b = true → Go K F B0 tb T Γ1 post) ∧ (b = false → post (.d (.bl false)) Γ1)) : Go K F B0 (tAndV ta tb) T Γ post := fun τ σ H Q hw k =>
  h τ σ H _ hw fun v o Γ1 H1 ⟨b, e, h1, h2⟩ ⟨_, _, w1⟩ => by
    subst e
    obtain ⟨r, _, _, w⟩ := w1.popd
    cases r
    refine ⟨b, rfl, ?_⟩
    cases b with
    | true => exact iteT (h1 rfl τ σ H1 Q ⟨_, _, w⟩ k)
    | false => exact iteF (k _ _ _ _ (h2 rfl) ⟨_, _, w1⟩)
theorem go_orV (h : Go K F B0 ta T Γ fun o Γ1 => ∃ b, o = .d (.bl b) ∧ (b = true → post (.d (.bl true)) Γ1) ∧ (b = false → Go K F B0 tb T Γ1 post)) : Go K F B0 (tOrV ta tb) T Γ post := fun τ σ H Q hw k =>
  h τ σ H _ hw fun v o Γ1 H1 ⟨b, e, h1, h2⟩ ⟨_, _, w1⟩ => by
    subst e
    obtain ⟨r, _, _, w⟩ := w1.popd
    cases r
    refine ⟨b, rfl, ?_⟩
    cases b with
    | true => exact iteT (k _ _ _ _ (h1 rfl) ⟨_, _, w1⟩)
    | false => exact iteF (h2 rfl τ σ H1 Q ⟨_, _, w⟩ k)
theorem go_notV (h : Go K F B0 ta T Γ fun o Γ1 => ∃ b, o = .d (.bl b) ∧ post (.d (.bl (!b))) Γ1) : Go K F B0 (tNotV ta) T Γ post := fun τ σ H Q hw k =>
  h τ σ H _ hw fun v o Γ1 H1 ⟨b, e, h1⟩ ⟨_, _, w1⟩ => by
    subst e
    obtain ⟨r, _, _, w⟩ := w1.popd
    cases r
    exact ⟨b, rfl, k _ _ _ _ h1 ⟨_, _, w.pushd .bl⟩⟩
variable {t1 t2 : TS} {Dd : EG}
theorem gos_seq (h : GoS K F B0 t1 T Γ { Dd with nx := fun Γ1 => GoS K F B0 t2 T Γ1 Dd }) : GoS K F B0 (tSeq t1 t2) T Γ Dd := fun τ σ H De hw s =>
  h τ σ H _ hw ⟨fun σ1 Γ1 H1 q w => q τ σ1 H1 De w s, s.rt, s.bk, s.ct⟩
theorem gos_next (h : Dd.nx Γ) : GoS K F B0 tNext T Γ Dd := fun τ σ H De hw s => s.nx σ Γ H h hw
theorem gos_brk (h : Dd.bk Γ) : GoS K F B0 tBreak T Γ Dd := fun τ σ H De hw s => s.bk σ Γ H h hw
theorem gos_ret (h : Go K F B0 te T Γ Dd.rt) : GoS K F B0 (tRet te) T Γ Dd := fun τ σ H De hw s => h τ σ H _ hw fun v o Γ1 H1 h1 w1 => s.rt v o σ Γ1 H1 h1 w1
theorem gos_asg {g : TG} (h : Go K F B0 te T Γ fun o Γ1 => GoG K F B0 g o T Γ1 Dd.nx) : GoS K F B0 (tAsg te g) T Γ Dd := fun τ σ H De hw s =>
  h τ σ H _ hw fun v o Γ1 H1 h1 w1 => h1 τ σ H1 v _ w1 fun σ2 Γ2 H2 h2 w2 => s.nx σ2 Γ2 H2 h2 w2
theorem gog_name (hi : i < Γ.length) (h : posts1 (Γ.set i (some o))) : GoG K F B0 (gName i) o T Γ posts1 := fun τ σ H v Q ⟨_, _, w⟩ k => by
  obtain ⟨S', w⟩ := w.put hi
  exact k _ _ _ h ⟨_, S', w⟩
theorem gos_drop (h : Go K F B0 te T Γ fun _ Γ1 => Dd.nx Γ1) : GoS K F B0 (tDrop te) T Γ Dd := fun τ σ H De hw s =>
  h τ σ H _ hw fun v o Γ1 H1 h1 ⟨_, _, w1⟩ => by
    obtain ⟨_, _, _, _, _, _, w⟩ := w1.pop
    exact s.nx σ Γ1 H1 h1 ⟨_, _, w⟩
theorem gos_if (h : GoT K F B0 tt T Γ fun b Γ1 => (b = true → GoS K F B0 t1 T Γ1 Dd) ∧ (b = false → GoS K F B0 t2 T Γ1 Dd)) : GoS K F B0 (tIfS tt t1 t2) T Γ Dd := fun τ σ H De hw s =>
  h τ σ H _ hw fun b Γ1 H1 ⟨h1, h2⟩ w1 => by
    cases b with
    | true => exact iteT (h1 rfl τ σ H1 De w1 s)
    | false => exact iteF (h2 rfl τ σ H1 De w1 s)
/-- x op= e of a name -/
theorem gos_aug {ip : TIp} (h : ∃ x, Γ[i]? = some (some (.d x)) ∧ Go K F B0 te (.d x :: T) Γ fun o Γ1 => Op2 K F B0 ip x o.fz T Γ1 fun o2 Γ2 => i < Γ2.length ∧ Dd.nx (Γ2.set i (some o2))) : GoS K F B0 (tAug i te ip) T Γ Dd := fun τ σ H De ⟨_, _, w⟩ s => by
  obtain ⟨x, e, h⟩ := h
  obtain ⟨v, a, r⟩ := w.getd e
  refine ⟨v, a, h _ σ H _ ⟨_, _, w.pushd r⟩ fun v2 o2 Γ2 H2 h2 ⟨_, _, w2⟩ => ?_⟩
  obtain ⟨_, _, w2, r2, _⟩ := w2.fzd
  obtain ⟨r1, _, _, w2⟩ := w2.popd
  refine h2 τ σ H2 _ _ v v2 _ w2 r1 r2 fun v3 o3 Γ3 H3 ⟨hi, h3⟩ ⟨_, _, w3⟩ => ?_
  obtain ⟨S', w3⟩ := w3.put hi
  exact s.nx _ _ _ h3 ⟨_, S', w3⟩
end
end SK
namespace SK
open PySem PySem.Spec PyProof.Rows L2
section
variable {K : PySem.W.Frag} {F B0 H H' B B' : Hp} {τ τs : List V} {T os : List O} {σ : L2.St} {Γ : En} {S S1 S2 : Ad} {v : V} {o o1 o2 : O} {x : D} {post : O → En → Prop} {ta tb te : TE} {tt tu : TT} {i : Nat} {posts : List D → En → Prop} {postt : Bool → En → Prop} {posts1 : En → Prop} {Dd : EG}
/-- the pile's topmost things fall away -/
theorem HW.drop : ∀ {τs : List V} {os : List O} {S : Ad}, HW K F B0 (τs ++ τ) (os ++ T) σ Γ H B S → τs.length = os.length → ∃ S', HW K F B0 τ T σ Γ H B S'
  | [], [], S, h, _ => ⟨S, h⟩
  | v :: τs, o :: os, S, h, l => by
    obtain ⟨_, _, _, _, _, _, w⟩ := HW.pop (τ := τs ++ τ) (T := os ++ T) h
    exact w.drop (by simpa using l)
theorem RS.drop1 {a : Option V} {b : Option O} {σ : List (Option V)} {Γ : List (Option O)} {S : Ad} (h : RS K B H S (a :: σ) (b :: Γ)) : RS K B H S σ Γ := by
  cases h with
  | un r => exact r
  | cons s1 s2 dj r rs => exact rs.tr (.refl B) s2 fun _ _ _ e => e
theorem RS.drops {σ1 : List (Option V)} {Γ1 : List (Option O)} : ∀ {σ0 : List (Option V)} {Γ0 : List (Option O)} {S : Ad}, σ0.length = Γ0.length → RS K B H S (σ0 ++ σ1) (Γ0 ++ Γ1) → RS K B H S σ1 Γ1
  | [], [], _, _, h => h
  | _ :: _, _ :: _, _, l, h => RS.drops (by simpa using l) (RS.drop1 h)
/-- what lies below the first thing falls away -/
theorem HW.under (h : HW K F B0 (v :: (τs ++ τ)) (o :: (os ++ T)) σ Γ H B S) (l : τs.length = os.length) : HW K F B0 (v :: τ) (o :: T) σ Γ H B S := by
  refine ⟨h.fr, h.pu, h.b0, h.ow, h.nw, ?_, ?_⟩
  · have r := h.rs
    simp only [List.map_cons, List.map_append, List.cons_append, List.append_assoc] at r ⊢
    cases r with
    | cons s1 s2 dj a rs => exact .cons s1 s2 dj a (rs.drops (by simp [l]))
  · have := h.lt
    simp only [List.length_cons, List.length_append] at this ⊢
    omega
theorem RL.one {x : D} {vs : List V} (r : RL K B vs [x]) : ∃ v, vs = [v] ∧ R K B v x := by
  cases r with | cons r t => cases t; exact ⟨_, rfl, r⟩
theorem RL.two {x y : D} {vs : List V} (r : RL K B vs [x, y]) : ∃ v w, vs = [v, w] ∧ R K B v x ∧ R K B w y := by
  cases r with | cons r t => cases t with | cons r2 t => cases t; exact ⟨_, _, rfl, r, r2⟩
/-- J walks ds, while hs (at τs) stand -/
def Iter (K : PySem.W.Frag) (F B0 : Hp) (J : It) (τs : List V) (hs : List D) (ds : List D) : Prop :=
  ∀ (τ : List V) (T : List O) (σ : L2.St) (Γ : En) (H B : Hp) (S : Ad), HW K F B0 τ T σ Γ H B S → RL K B τs hs →
    (J.stop ds.length H) ∧ ∀ (i : Nat) (d : D), ds[i]? = some d → J.go i H ∧ ∀ x H', J.yld i H x H' → ∃ B' S', HW K F B0 (x :: τ) (.d d :: T) σ Γ H' B' S'
def GoI (K : PySem.W.Frag) (F B0 : Hp) (wi : TI) (T : List O) (Γ : En) (post : List D → List D → En → Prop) : Prop := ∀ (τ : List V) (σ : L2.St) (H : Hp) (Q : It → Hp → Prop), Ho K F B0 τ T σ Γ H →
  (∀ J τs hs ds Γ' H', post ds hs Γ' → Ho K F B0 (τs ++ τ) (hs.map O.d ++ T) σ Γ' H' → τs.length = hs.length → Iter K F B0 J τs hs ds → Q J H') → wi σ H Q
theorem HW.held : ∀ {hs : List D} {τs : List V} {S : Ad}, HW K F B0 (τs ++ τ) (hs.map O.d ++ T) σ Γ H B S → τs.length = hs.length → RL K B τs hs
  | [], [], _, _, _ => .nil
  | x :: hs, v :: τs, S, h, l => by
    obtain ⟨r, S2, _, w⟩ := HW.popd (τ := τs ++ τ) (T := hs.map O.d ++ T) h
    exact .cons r (w.held (by simpa using l))
theorem gos_for {wi : TI} {g : TG} {tb : TS} (h : GoI K F B0 wi T Γ fun ds hs Γ1 => ∃ Iv : Nat → En → Prop, Iv 0 Γ1 ∧
    (∀ i d Γ', ds[i]? = some d → Iv i Γ' → GoG K F B0 g (.d d) (hs.map O.d ++ T) Γ' fun Γ2 => GoS K F B0 tb (hs.map O.d ++ T) Γ2 { nx := Iv (i + 1), rt := Dd.rt, bk := Dd.nx, ct := Iv (i + 1) }) ∧
    ∀ Γ', Iv ds.length Γ' → Dd.nx Γ') : GoS K F B0 (tFor wi g tb) T Γ Dd := fun τ σ H De hw s =>
  h τ σ H _ hw fun J τs hs ds Γ1 H1 ⟨Iv, h0, hst, hd⟩ w1 hl it => by
    have hl' : τs.length = (hs.map O.d).length := by simp [hl]
    refine ⟨fun i m σ' H' => m = ds.length - i ∧ i ≤ ds.length ∧ ∃ Γ', Iv i Γ' ∧ Ho K F B0 (τs ++ τ) (hs.map O.d ++ T) σ' Γ' H', ⟨ds.length, by simp, Nat.zero_le _, Γ1, h0, w1⟩, ?_⟩
    rintro i m σ' H' ⟨rfl, hi, Γ', p, B', S', w⟩
    obtain ⟨q1, q2⟩ := it _ _ σ' Γ' H' B' S' w (w.held hl)
    by_cases hlt : i < ds.length
    · obtain ⟨q3, q4⟩ := q2 i ds[i] (by simp [hlt])
      refine .inr ⟨q3, fun σ2 H2 => ∃ Γ2, Iv (i + 1) Γ2 ∧ Ho K F B0 (τs ++ τ) (hs.map O.d ++ T) σ2 Γ2 H2, fun σ2 H2 z => ⟨ds.length - (i + 1), by omega, rfl, hlt, z⟩, fun x H2 y => ?_⟩
      obtain ⟨B2, S2, w2⟩ := q4 x H2 y
      refine hst i ds[i] Γ' (by simp [hlt]) p (τs ++ τ) σ' H2 x _ ⟨B2, S2, w2⟩ fun σ3 Γ3 H3 h3 w3 => h3 _ σ3 H3 _ w3 ⟨fun σ4 Γ4 H4 z w4 => ⟨Γ4, z, w4⟩, fun v o σ4 Γ4 H4 z ⟨B4, S4, w4⟩ => s.rt v o σ4 Γ4 H4 z ⟨B4, S4, w4.under hl'⟩,
        fun σ4 Γ4 H4 z ⟨B4, S4, w4⟩ => ?_, fun σ4 Γ4 H4 z w4 => ⟨Γ4, z, w4⟩⟩
      obtain ⟨S5, w5⟩ := w4.drop hl'
      exact s.nx σ4 Γ4 H4 z ⟨B4, S5, w5⟩
    · have e : i = ds.length := by omega
      subst e
      obtain ⟨S5, w5⟩ := w.drop hl'
      exact .inl ⟨q1, s.nx σ' Γ' H' (hd Γ' p) ⟨B', S5, w5⟩⟩
theorem RL.get : ∀ {vs : List V} {xs : List D} {i : Nat} {x : D}, RL K B vs xs → xs[i]? = some x → ∃ v, vs[i]? = some v ∧ R K B v x
  | _, _, _, _, .nil, h => by simp at h
  | _, _, 0, _, .cons (v := v) r _, h => by simp at h; subst h; exact ⟨v, rfl, r⟩
  | _, _, i + 1, x, .cons _ t, h => by
    obtain ⟨v, a, b⟩ := RL.get (i := i) t (by simpa using h)
    exact ⟨v, by simpa using a, b⟩
theorem Rd.inj {a : Addr} {xs ys : List V} (h : Rd H a (.lst xs)) (h' : Rd H a (.lst ys)) : xs = ys := by
  rcases h with h | ⟨o, h⟩ <;> rcases h' with h' | ⟨o', h'⟩ <;> rw [h] at h' <;> cases h' <;> rfl
theorem Ex.sqL (e : Ex H H') {a : Addr} {xs : List V} (h : SqL K H a xs) : SqL K H' a xs := h.imp e.rd id
theorem Ex.sqT (e : Ex H H') {a : Addr} {xs : List V} (h : SqT K H a xs) : SqT K H' a xs := h.imp e.rd id
/-- what a name's walk says of a list -/
def D.seq? : D → Option (List D)
  | .lst xs => some xs
  | .sq xs => some xs
  | _ => none
theorem R.seqL {xs : List D} (r : R K B v x) (q : x.seq? = some xs) : ∃ a vs, v = .ref a ∧ SqL K B a vs ∧ RL K B vs xs := by
  cases r with
  | lst h r => cases q; exact ⟨_, _, rfl, SqL.of h, r⟩
  | sq h r => cases q; exact ⟨_, _, rfl, h, r⟩
  | _ => cases q
theorem iter_list {a : Addr} {xs : List D} (q : x.seq? = some xs) : Iter K F B0 (Itl K a) [.ref a] [x] xs := by
  intro τ T σ Γ H B S h rl0
  obtain ⟨v0, e0, r⟩ := rl0.one
  cases e0
  obtain ⟨a', vs, e, sq, rl⟩ := r.seqL q
  cases e
  have sqh := h.pu.sqL sq
  refine ⟨⟨vs, sqh, by rw [rl.length]; exact Nat.le_refl _⟩, fun i d hd => ?_⟩
  obtain ⟨y, hy, ry⟩ := rl.get hd
  refine ⟨⟨vs, y, sqh, hy⟩, fun x H' ⟨e, y'⟩ => ?_⟩
  subst e
  have := y' vs sqh
  rw [hy] at this
  cases this
  exact ⟨B, _, h.pushd ry⟩
theorem iter_tup {a : Addr} {xs : List D} : Iter K F B0 (Itt K a) [.ref a] [.tup xs] xs := by
  intro τ T σ Γ H B S h rl0
  obtain ⟨v0, e0, r⟩ := rl0.one
  cases e0
  cases r with
  | @tup _ vs _ sq rl =>
  have sqh := h.pu.sqT sq
  refine ⟨⟨vs, sqh, by rw [rl.length]; exact Nat.le_refl _⟩, fun i d hd => ?_⟩
  obtain ⟨y, hy, ry⟩ := rl.get hd
  refine ⟨⟨vs, y, sqh, hy⟩, fun x H' ⟨e, y'⟩ => ?_⟩
  subst e
  have := y' vs sqh
  rw [hy] at this
  cases this
  exact ⟨B, _, h.pushd ry⟩
def rngD (lo : Int) (n : Nat) : List D := (List.range n).map fun (i : Nat) => D.int (lo + (i : Int))
theorem iter_rng {lo : Int} {n : Nat} : Iter K F B0 (Itr lo n) [] [] (rngD lo n) := by
  intro τ T σ Γ H B S h _
  refine ⟨by simp [rngD, Itr], fun i d hd => ?_⟩
  have hi : i < n := by
    have := (List.getElem?_eq_some_iff.mp hd).1
    simpa [rngD] using this
  have e : d = .int (lo + (i : Int)) := by
    simp [rngD, hi] at hd
    exact hd.symm
  refine ⟨hi, fun x H' ⟨e1, e2⟩ => ?_⟩
  subst e1 e2 e
  exact ⟨B, _, HW.pushd (τ := τ) (T := T) h .int⟩
theorem goi_rng1 {ta : TA} {posti : List D → List D → En → Prop} (h : GoA K F B0 ta T Γ fun xs Γ1 => ∃ j : Int, xs = [.int j] ∧ -(2 ^ 62) ≤ j ∧ j < 2 ^ 62 ∧ posti (rngD 0 j.toNat) [] Γ1) : GoI K F B0 (iRng1 ta) T Γ posti := fun τ σ H Q hw k =>
  h τ σ H _ hw fun vs xs Γ1 H1 ⟨j, e, q1, q2, h1⟩ ⟨_, _, w1⟩ hl => by
    subst e
    obtain ⟨rl, S', w⟩ := w1.args hl
    cases rl with | cons r rl => cases rl; cases r; exact ⟨j, rfl, q1, q2, k _ [] [] _ Γ1 H1 h1 ⟨_, _, w⟩ rfl iter_rng⟩
theorem goi_rng2 {ta : TA} {posti : List D → List D → En → Prop} (h : GoA K F B0 ta T Γ fun xs Γ1 => ∃ i j : Int, xs = [.int i, .int j] ∧ (-(2 ^ 62) ≤ i ∧ i < 2 ^ 62 ∧ -(2 ^ 62) ≤ j ∧ j < 2 ^ 62) ∧ posti (rngD i (j - i).toNat) [] Γ1) : GoI K F B0 (iRng2 ta) T Γ posti := fun τ σ H Q hw k =>
  h τ σ H _ hw fun vs xs Γ1 H1 ⟨i, j, e, q, h1⟩ ⟨_, _, w1⟩ hl => by
    subst e
    obtain ⟨rl, S', w⟩ := w1.args hl
    cases rl with | cons r rl => cases rl with | cons r2 rl => cases rl; cases r; cases r2; exact ⟨i, j, rfl, q, k _ [] [] _ Γ1 H1 h1 ⟨_, _, w⟩ rfl iter_rng⟩
def sgnD (s : Str) : List D := s.cps.toList.map fun c => D.str ⟨#[c]⟩
theorem iter_str {s : Str} : Iter K F B0 (Its s) [] [] (sgnD s) := by
  intro τ T σ Γ H B S h _
  refine ⟨by simp [sgnD, Its], fun i d hd => ?_⟩
  have hi : i < s.cps.size := by
    have := (List.getElem?_eq_some_iff.mp hd).1
    simpa [sgnD] using this
  refine ⟨hi, fun x H' ⟨e1, c, e2, e3⟩ => ?_⟩
  subst e1 e3
  have e : d = .str ⟨#[c]⟩ := by
    simp [sgnD, e2] at hd
    exact hd.symm
  subst e
  exact ⟨B, _, HW.pushd (τ := τ) (T := T) h .str⟩
def enumD (xs : List D) : List D := xs.zipIdx.map fun p => D.tup [.int (p.2 : Int), p.1]
theorem enumD_get {xs : List D} {i : Nat} : (enumD xs)[i]? = xs[i]?.map fun x => D.tup [.int (i : Int), x] := by
  simp [enumD, List.getElem?_zipIdx, Option.map_map, Function.comp_def]
theorem enumD_len {xs : List D} : (enumD xs).length = xs.length := by simp [enumD]
theorem iter_enum {a : Addr} {xs : List D} (q : x.seq? = some xs) : Iter K F B0 (Ite K a) [.ref a] [x] (enumD xs) := by
  intro τ T σ Γ H B S h rl0
  obtain ⟨v0, e0, r⟩ := rl0.one
  cases e0
  obtain ⟨a', vs, e, sq, rl⟩ := r.seqL q
  cases e
  have sqh := h.pu.sqL sq
  refine ⟨⟨vs, sqh, by rw [rl.length, enumD_len]; exact Nat.le_refl _⟩, fun i d hd => ?_⟩
  rw [enumD_get] at hd
  cases hx : xs[i]? with
  | none => rw [hx] at hd; cases hd
  | some x0 =>
  rw [hx] at hd
  cases hd
  obtain ⟨y, hy, ry⟩ := rl.get hx
  refine ⟨⟨vs, y, sqh, hy⟩, fun x H' ⟨t, x1, e1, e2, e3, y'⟩ => ?_⟩
  subst e1 e3
  have := y' vs sqh
  rw [hy] at this
  cases this
  obtain ⟨S', w'⟩ := HW.newd h e2 (x := .tup [.int (i : Int), x0]) (.tup (SqT.of upd_same) (.cons .int (.cons (ry.mono (.of_ex (.new (h.pu.back e2)))) .nil)))
  exact ⟨_, S', w'⟩
theorem goi_enum {ta : TA} {posti : List D → List D → En → Prop} (h : GoA K F B0 ta T Γ fun ys Γ1 => ∃ x xs, ys = [x] ∧ x.seq? = some xs ∧ posti (enumD xs) [x] Γ1) : GoI K F B0 (iEnum K ta) T Γ posti := fun τ σ H Q hw k =>
  h τ σ H _ hw fun vs ys Γ1 H1 ⟨x, xs, e, q, h1⟩ ⟨_, _, w1⟩ hl => by
    subst e
    obtain ⟨rl, S', w⟩ := w1.args hl
    cases rl with | cons r rl0 => cases rl0; obtain ⟨a, us, e, sq, rl2⟩ := r.seqL q; subst e; exact ⟨a, us, rfl, w.pu.sqL sq, k (Ite K a) [.ref a] [x] _ Γ1 H1 h1 ⟨_, _, w.pushd r⟩ rfl (iter_enum q)⟩
def zipD (xs ys : List D) : List D := (xs.zip ys).map fun p => D.tup [p.1, p.2]
theorem iter_zip {a b : Addr} {x y : D} {xs ys : List D} (q : x.seq? = some xs) (q2 : y.seq? = some ys) : Iter K F B0 (Itz K a b) [.ref b, .ref a] [y, x] (zipD xs ys) := by
  intro τ T σ Γ H B S h rl0
  obtain ⟨v0, v1, e0, r2, r⟩ := rl0.two
  cases e0
  obtain ⟨a', vs, e, sq, rl⟩ := r.seqL q
  cases e
  obtain ⟨b', us, e, sq2, rl2⟩ := r2.seqL q2
  cases e
  have sqh := h.pu.sqL sq
  have sqh2 := h.pu.sqL sq2
  refine ⟨⟨vs, us, sqh, sqh2, by simp only [zipD, List.length_map, List.length_zip]; have := rl.length; have := rl2.length; omega⟩, fun i d hd => ?_⟩
  have hi : i < (zipD xs ys).length := (List.getElem?_eq_some_iff.mp hd).1
  simp only [zipD, List.length_map, List.length_zip] at hi
  have hxi : i < xs.length := by omega
  have hyi : i < ys.length := by omega
  have e : d = .tup [xs[i], ys[i]] := by
    simp [zipD, hxi, hyi, List.getElem?_map, List.zip, List.getElem?_zipWith] at hd
    exact hd.symm
  subst e
  obtain ⟨x1, hx1, rx1⟩ := rl.get (i := i) (x := xs[i]) (by simp [hxi])
  obtain ⟨y1, hy1, ry1⟩ := rl2.get (i := i) (x := ys[i]) (by simp [hyi])
  refine ⟨⟨vs, us, x1, y1, sqh, sqh2, hx1, hy1⟩, fun z H' ⟨t, x2, y2, e1, e2, e3, f1, f2⟩ => ?_⟩
  subst e1 e3
  have g1 := f1 vs sqh
  rw [hx1] at g1
  cases g1
  have g2 := f2 us sqh2
  rw [hy1] at g2
  cases g2
  have ex : Ex B (upd B t (.tup [x1, y1])) := .new (h.pu.back e2)
  obtain ⟨S', w'⟩ := HW.newd h e2 (x := .tup [xs[i], ys[i]]) (.tup (SqT.of upd_same) (.cons (rx1.mono (.of_ex ex)) (.cons (ry1.mono (.of_ex ex)) .nil)))
  exact ⟨_, S', w'⟩
theorem goi_zip {ta : TA} {posti : List D → List D → En → Prop} (h : GoA K F B0 ta T Γ fun zs Γ1 => ∃ x y xs ys, zs = [x, y] ∧ x.seq? = some xs ∧ y.seq? = some ys ∧ posti (zipD xs ys) [y, x] Γ1) : GoI K F B0 (iZip K ta) T Γ posti := fun τ σ H Q hw k =>
  h τ σ H _ hw fun vs zs Γ1 H1 ⟨x, y, xs, ys, e, q, q2, h1⟩ ⟨_, _, w1⟩ hl => by
    subst e
    obtain ⟨rl, S', w⟩ := w1.args hl
    cases rl with | cons r rl0 => cases rl0 with | cons r2 rl0 => cases rl0; obtain ⟨a, us, e, sq, rl2⟩ := r.seqL q; obtain ⟨b, us2, e2, sq2, rl3⟩ := r2.seqL q2; subst e e2; exact ⟨a, b, us, us2, rfl, w.pu.sqL sq, w.pu.sqL sq2, k (Itz K a b) [.ref b, .ref a] [y, x] _ Γ1 H1 h1 ⟨_, _, (w.pushd r).pushd r2⟩ rfl (iter_zip q q2)⟩
def GoGs (K : PySem.W.Frag) (F B0 : Hp) (g : TGs) (xs : List D) (T : List O) (Γ : En) (post : En → Prop) : Prop := ∀ (τ : List V) (σ : L2.St) (H B : Hp) (S : Ad) (vs : List V) (Q : L2.St → Hp → Prop), HW K F B0 τ T σ Γ H B S → RL K B vs xs →
  (∀ σ' Γ' H', post Γ' → Ho K F B0 τ T σ' Γ' H' → Q σ' H') → g vs σ H Q
theorem gog_tup {g : TGs} {n : Nat} (h : ∃ xs, o = .d (.tup xs) ∧ xs.length = n ∧ GoGs K F B0 g xs T Γ posts1) : GoG K F B0 (gTup K n g) o T Γ posts1 := fun τ σ H v Q ⟨B, S, w⟩ k => by
  obtain ⟨xs, rfl, hn, h⟩ := h
  obtain ⟨r, S2, _, w2⟩ := w.popd
  cases r with
  | @tup a vs _ sq rl => exact ⟨a, vs, rfl, w.pu.sqT sq, by rw [rl.length, hn], h τ σ H B S2 vs Q w2 rl k⟩
theorem gogs_nil (h : posts1 Γ) : GoGs K F B0 gNil [] T Γ posts1 := fun τ σ H B S vs Q w r k => by
  cases r
  exact ⟨rfl, k σ Γ H h ⟨_, _, w⟩⟩
theorem gogs_name {xs : List D} {g : TGs} (hi : i < Γ.length) (h : GoGs K F B0 g xs T (Γ.set i (some (.d x))) posts1) : GoGs K F B0 (gCons (gName i) g) (x :: xs) T Γ posts1 := fun τ σ H B S vs Q w r k => by
  cases r with
  | cons r rl =>
    obtain ⟨S', w'⟩ := (w.pushd r).put hi
    exact ⟨_, _, rfl, h τ _ H B S' _ Q w' rl k⟩
end
end SK
namespace SK
open PySem PySem.Spec PyProof.Rows L2
/-- == of two dicts that hold the same flat things -/
def SameD (H : Hp) (x y : V) : Prop := ∃ a b ks ls, x = .ref a ∧ y = .ref b ∧ Rd H a (.dK ks) ∧ Rd H b (.dK ls) ∧ ks.length = ls.length ∧ ∀ p ∈ ks, valV ls p.1 = some p.2 ∧ flatB p.2 = true
def rEqDR : R2 := fun x y H Q => SameD H x y ∧ Q (.bl true) H
def rNeDR : R2 := fun x y H Q => SameD H x y ∧ Q (.bl false) H
theorem op_eqDR {X : Cx} (hu : X.A.units < cLine) : OpR X (compareOp .Eq) rEqDR := fun pins s σ H x y v u Q I rx ry ⟨⟨a, b, ks, ls, ex, ey, ra, rb, hl, hp⟩, q⟩ => by
  subst ex ey
  cases rx; cases ry
  obtain ⟨_, na, va, ka, da⟩ := dk_rd I.hok ra
  obtain ⟨_, nb, vb, kb, db⟩ := dk_rd I.hok rb
  have len : va.length = vb.length := (ka.length.symm.trans hl).trans kb.length
  exact PySem.W.keq_eq (knd := mixKind X.prog X.w) (r := true) na nb da db hu (fun _ => hits_all kb ka hp) (fin_bl I q (by simp [len]))
theorem op_neDR {X : Cx} (hu : X.A.units < cLine) : OpR X (compareOp .NotEq) rNeDR := fun pins s σ H x y v u Q I rx ry ⟨⟨a, b, ks, ls, ex, ey, ra, rb, hl, hp⟩, q⟩ => by
  subst ex ey
  cases rx; cases ry
  obtain ⟨_, na, va, ka, da⟩ := dk_rd I.hok ra
  obtain ⟨_, nb, vb, kb, db⟩ := dk_rd I.hok rb
  have len : va.length = vb.length := (ka.length.symm.trans hl).trans kb.length
  exact PySem.W.keq_ne (knd := mixKind X.prog X.w) (r := true) na nb da db hu (fun _ => hits_all kb ka hp) (fin_bl I q (by simp [len]))
def rAddG (K : PySem.W.Frag) : R2 := fun x y H Q => rI0 (fun i j => .int (i + j)) x y H Q ∨ ((∃ i j, x = .str i ∧ y = .str j ∧ i.length + j.length ≤ sizeLine ∧ Q (.str (i ++ j)) H) ∨ (rCat x y H Q ∨ rCatT K x y H Q))
def rSubG : R2 := rI0 fun i j => .int (i - j)
def repS (a : Str) (n : Int) : Str := ⟨(List.replicate n.toNat a.cps).foldl (· ++ ·) #[]⟩
def rMulS : R2 := fun x y H Q => ∃ a n, x = .str a ∧ y = .int n ∧ 2 ≤ n ∧ n ≤ 100000 ∧ a.length ≤ 100 ∧ 0 < a.length ∧ Q (.str (repS a n)) H
theorem repS_size (a : Str) (n : Int) : (repS a n).length = a.length * n.toNat := by
  have : ∀ (k : Nat) (z : Array Nat), ((List.replicate k a.cps).foldl (· ++ ·) z).size = z.size + a.cps.size * k := by
    intro k
    induction k with
    | zero => intro z; simp
    | succ k ih =>
      intro z
      rw [List.replicate_succ, List.foldl_cons, ih, Array.size_append, Nat.mul_succ]
      omega
  show ((List.replicate n.toNat a.cps).foldl (· ++ ·) #[]).size = _
  rw [this]
  simp [Str.length]
theorem op_mulS {X : Cx} : OpR X (binaryOp .Mult) rMulS := by
  intro pins s σ H x y v u Q I rx ry h
  obtain ⟨a, n, rfl, rfl, h1, h2, h3, h4, q⟩ := h
  obtain ⟨t, rfl⟩ := rx
  obtain ⟨t', rfl⟩ := ry
  have hn : ¬ n < 1 := by omega
  have e1 : (n == 1 || a.length == 0) = false := by
    have : n ≠ 1 := by omega
    have : a.length ≠ 0 := by omega
    simp [*]
  have hz : a.length * n.toNat ≤ sizeLine := by
    have : n.toNat ≤ 100000 := by omega
    have : a.length * n.toNat ≤ 100 * 100000 := Nat.mul_le_mul h3 this
    exact Nat.le_trans this (by decide)
  refine P.mul_str ?_ (fun _ _ => ?_) (fun _ _ => ?_) ?_
  · have q1 : ¬ n < -(2 ^ 63 : Int) := by omega
    have q2 : ¬ n ≥ 2 ^ 63 := by omega
    rw [decide_eq_false q1, decide_eq_false q2]; rfl
  · have : (100 : Int) ≤ (2 ^ 63 - 1) / n := by
      rw [Int.le_ediv_iff_mul_le (by omega)]
      omega
    omega
  · show decide (_ > sizeLine) = false
    exact decide_eq_false (by omega)
  · rw [if_neg hn, if_neg (by rw [e1]; exact Bool.false_ne_true)]
    have hs : (repS a n).length ≤ sizeLine := by rw [repS_size]; exact hz
    exact ⟨hs, ⟨.str (repS a n), H, I.tok _, ⟨_, rfl⟩, q⟩⟩
def rMulG : R2 := fun x y H Q => rI IntMulOk (fun i j => .int (i * j)) x y H Q ∨ (rRep x y H Q ∨ rMulS x y H Q)
def rDivG : R2 := rI CDivW fun i j => .int (i / j)
def rModG : R2 := rI (fun _ j => 0 < j) fun i j => .int (i % j)
def rPowG : R2 := rI CPow fun i j => .int (i ^ j.toNat)
def rEqG (K : PySem.W.Frag) : R2 := fun x y H Q => rEq x y H Q ∨ (rEqD K x y H Q ∨ rEqDR x y H Q)
def rNeG (K : PySem.W.Frag) : R2 := fun x y H Q => rNe x y H Q ∨ (rNeD K x y H Q ∨ rNeDR x y H Q)
def rLtG (K : PySem.W.Frag) : R2 := fun x y H Q => rI0 (fun i j => .bl (decide (i < j))) x y H Q ∨ rLtT K x y H Q
def rLeG : R2 := rI0 fun i j => .bl (decide (i ≤ j))
def rGtG : R2 := rI0 fun i j => .bl (decide (j < i))
def rGeG : R2 := rI0 fun i j => .bl (decide (j ≤ i))
def rIsG : R2 := fun x y H Q => y = .non ∧ Q (.bl (decide (x = .non))) H
def rNotG : R2 := fun x y H Q => y = .non ∧ Q (.bl (!decide (x = .non))) H
def rInDic : R2 := fun y x H Q => ∃ a o, x = .ref a ∧ DGet H a y o ∧ Q (.bl o.isSome) H
def rInSg : R2 := fun x y H Q => ∃ (c : Nat) (z : Str), x = .str ⟨#[c]⟩ ∧ y = .str z ∧ Q (.bl (decide (c ∈ z.cps.toList))) H
def rInG (K : PySem.W.Frag) : R2 := fun x y H Q => rIn K false x y H Q ∨ (rInDic x y H Q ∨ rInSg x y H Q)
section
variable {X : Cx}
theorem op_addG : OpR X (binaryOp .Add) (rAddG X.K) := op_add.or (op_add_str.or (op_cat.or op_catT))
theorem op_subG : OpR X (binaryOp .Sub) rSubG := op_sub
theorem op_mulI : OpR X (binaryOp .Mult) (rI IntMulOk fun i j => .int (i * j)) := opI fun i j t u s Q E hc h => mul_int h hc
theorem op_mulG : OpR X (binaryOp .Mult) rMulG := op_mulI.or (op_rep.or op_mulS)
theorem op_divG : OpR X (binaryOp .FloorDiv) rDivG := op_fdivW
theorem op_modG : OpR X (binaryOp .Mod) rModG := op_mod
theorem op_powG : OpR X (binaryOp .Pow) rPowG := op_pow
theorem op_eqG (hu : X.A.units + 64 < cLine) : OpR X (compareOp .Eq) (rEqG X.K) := op_eq.or ((op_eqD hu).or (op_eqDR (by omega)))
theorem op_neG (hu : X.A.units + 64 < cLine) : OpR X (compareOp .NotEq) (rNeG X.K) := op_ne.or ((op_neD hu).or (op_neDR (by omega)))
theorem op_ltG (hu : X.A.units < cLine) : OpR X (compareOp .Lt) (rLtG X.K) := op_lt.or (op_ltT hu)
theorem op_leG : OpR X (compareOp .LtE) rLeG := op_le
theorem op_gtG : OpR X (compareOp .Gt) rGtG := op_gt
theorem op_notG : OpR X (compareOp .IsNot) rNotG := op_notN
theorem op_inDic (hu : X.A.units + 1 < cLine) : OpR X (compareOp .In) rInDic := fun pins s σ H y x u v Q I ry rx ⟨a, o, e, g, q⟩ => by
  subst e
  cases rx
  exact d_in hu I g ry fun s' I' => ⟨.bl o.isSome, H, I', rfl, q⟩
theorem op_inG (hu : X.A.units + 1 < cLine) : OpR X (compareOp .In) (rInG X.K) := op_in_seq.or ((op_inDic hu).or op_in_sign)
end
def rIxDic : R2 := fun x y H Q => ∃ a v, x = .ref a ∧ DGet H a y (some v) ∧ Q v H
section
variable {K : PySem.W.Frag} {F B0 H H' B B' : Hp} {τ τs : List V} {T os : List O} {σ : L2.St} {Γ : En} {S S1 S2 : Ad} {v : V} {o o1 o2 : O} {x : D} {post : O → En → Prop} {ta tb te : TE} {tt tu : TT} {i : Nat} {posts : List D → En → Prop} {postt : Bool → En → Prop} {posts1 : En → Prop} {Dd : EG}
theorem o2_add {a b : Int} (h : post (.d (.int (a + b))) Γ) : Op2 K F B0 (rAddG K) (.int a) (.int b) T Γ post := fun τ σ H B S v1 v2 Q w r1 r2 k => by
  cases r1; cases r2
  exact .inl ⟨a, b, rfl, rfl, k _ _ Γ H h ⟨_, _, w.pushd .int⟩⟩
theorem RL.app : ∀ {vs us : List V} {xs ys : List D}, RL K B vs xs → RL K B us ys → RL K B (vs ++ us) (xs ++ ys)
  | _, _, _, _, .nil, s => s
  | _, _, _, _, .cons r t, s => .cons r (RL.app t s)
theorem o2_addT {xs ys : List D} (hx : xs ≠ []) (hz : xs.length + ys.length ≤ 100000) (h : post (.d (.tup (xs ++ ys))) Γ) : Op2 K F B0 (rAddG K) (.tup xs) (.tup ys) T Γ post := fun τ σ H B S v1 v2 Q w r1 r2 k => by
  cases r1 with | @tup a vs _ h1 l1 =>
  cases r2 with | @tup b us _ h2 l2 =>
  refine .inr (.inr (.inr ⟨a, b, vs, us, rfl, rfl, w.pu.sqT h1, w.pu.sqT h2, fun e => hx (List.length_eq_zero_iff.mp (by rw [← l1.length, e]; rfl)), by rw [l1.length, l2.length]; exact Nat.le_trans hz (by decide), fun e => ?_, fun e p hp => ?_⟩))
  · subst e
    cases l2
    rw [List.append_nil] at h
    exact k _ _ _ _ h ⟨_, _, w.pushd (.tup h1 l1)⟩
  · obtain ⟨S2, w⟩ := w.newd (x := .tup (xs ++ ys)) hp (.tup (SqT.of upd_same) ((l1.app l2).mono (.of_ex (.new (w.pu.back hp)))))
    exact k _ _ _ _ h ⟨_, _, w⟩
theorem o2_sub {a b : Int} (h : post (.d (.int (a - b))) Γ) : Op2 K F B0 rSubG (.int a) (.int b) T Γ post := fun τ σ H B S v1 v2 Q w r1 r2 k => by
  cases r1; cases r2
  exact ⟨a, b, rfl, rfl, k _ _ Γ H h ⟨_, _, w.pushd .int⟩⟩
theorem o2_mul {a b : Int} (hm : IntMulOk a b) (h : post (.d (.int (a * b))) Γ) : Op2 K F B0 rMulG (.int a) (.int b) T Γ post := fun τ σ H B S v1 v2 Q w r1 r2 k => by
  cases r1; cases r2
  exact .inl ⟨a, b, rfl, rfl, hm, k _ _ Γ H h ⟨_, _, w.pushd .int⟩⟩
theorem o2_div {a b : Int} (hb : 0 < b ∧ b < 2 ^ 200) (h : post (.d (.int (a / b))) Γ) : Op2 K F B0 rDivG (.int a) (.int b) T Γ post := fun τ σ H B S v1 v2 Q w r1 r2 k => by
  cases r1; cases r2
  exact ⟨a, b, rfl, rfl, wide_div (b := 200) hb.1 (by omega) (by decide) (by decide), k _ _ Γ H h ⟨_, _, w.pushd .int⟩⟩
theorem o2_mod {a b : Int} (hb : 0 < b) (h : post (.d (.int (a % b))) Γ) : Op2 K F B0 rModG (.int a) (.int b) T Γ post := fun τ σ H B S v1 v2 Q w r1 r2 k => by
  cases r1; cases r2
  exact ⟨a, b, rfl, rfl, hb, k _ _ Γ H h ⟨_, _, w.pushd .int⟩⟩
theorem o2_pow {a b : Int} (hb : 0 ≤ b ∧ b ≤ 1000000 ∧ a.natAbs < 2 ^ 64) (h : post (.d (.int (a ^ b.toNat))) Γ) : Op2 K F B0 rPowG (.int a) (.int b) T Γ post := fun τ σ H B S v1 v2 Q w r1 r2 k => by
  cases r1; cases r2
  exact ⟨a, b, rfl, rfl, hb, k _ _ Γ H h ⟨_, _, w.pushd .int⟩⟩
theorem o2_lt {a b : Int} (h : post (.d (.bl (decide (a < b)))) Γ) : Op2 K F B0 (rLtG K) (.int a) (.int b) T Γ post := fun τ σ H B S v1 v2 Q w r1 r2 k => by
  cases r1; cases r2
  exact .inl ⟨a, b, rfl, rfl, k _ _ Γ H h ⟨_, _, w.pushd .bl⟩⟩
theorem o2_le {a b : Int} (h : post (.d (.bl (decide (a ≤ b)))) Γ) : Op2 K F B0 rLeG (.int a) (.int b) T Γ post := fun τ σ H B S v1 v2 Q w r1 r2 k => by
  cases r1; cases r2
  exact ⟨a, b, rfl, rfl, k _ _ Γ H h ⟨_, _, w.pushd .bl⟩⟩
theorem o2_gt {a b : Int} (h : post (.d (.bl (decide (b < a)))) Γ) : Op2 K F B0 rGtG (.int a) (.int b) T Γ post := fun τ σ H B S v1 v2 Q w r1 r2 k => by
  cases r1; cases r2
  exact ⟨a, b, rfl, rfl, k _ _ Γ H h ⟨_, _, w.pushd .bl⟩⟩
theorem o2_ge {a b : Int} (h : post (.d (.bl (decide (b ≤ a)))) Γ) : Op2 K F B0 rGeG (.int a) (.int b) T Γ post := fun τ σ H B S v1 v2 Q w r1 r2 k => by
  cases r1; cases r2
  exact ⟨a, b, rfl, rfl, k _ _ Γ H h ⟨_, _, w.pushd .bl⟩⟩
theorem o2_eqI {a b : Int} (h : post (.d (.bl (decide (a = b)))) Γ) : Op2 K F B0 (rEqG K) (.int a) (.int b) T Γ post := fun τ σ H B S v1 v2 Q w r1 r2 k => by
  cases r1; cases r2
  refine .inl ⟨rfl, ?_⟩
  have e : decide (V.int a = V.int b) = decide (a = b) := by rw [dec_int, Bool.beq_eq_decide_eq]
  rw [e]
  exact k _ _ Γ H h ⟨_, _, w.pushd .bl⟩
theorem o2_neI {a b : Int} (h : post (.d (.bl (!decide (a = b)))) Γ) : Op2 K F B0 (rNeG K) (.int a) (.int b) T Γ post := fun τ σ H B S v1 v2 Q w r1 r2 k => by
  cases r1; cases r2
  refine .inl ⟨rfl, ?_⟩
  have e : decide (V.int a = V.int b) = decide (a = b) := by rw [dec_int, Bool.beq_eq_decide_eq]
  rw [e]
  exact k _ _ Γ H h ⟨_, _, w.pushd .bl⟩
theorem o2_eqS {a b : Str} (h : post (.d (.bl (decide (a = b)))) Γ) : Op2 K F B0 (rEqG K) (.str a) (.str b) T Γ post := fun τ σ H B S v1 v2 Q w r1 r2 k => by
  cases r1; cases r2
  refine .inl ⟨rfl, ?_⟩
  have e : decide (V.str a = V.str b) = decide (a = b) := by
    by_cases q : a = b
    · subst q; simp
    · rw [decide_eq_false q, decide_eq_false (fun z => q (V.str.inj z))]
  rw [e]
  exact k _ _ Γ H h ⟨_, _, w.pushd .bl⟩
theorem o2_neS {a b : Str} (h : post (.d (.bl (!decide (a = b)))) Γ) : Op2 K F B0 (rNeG K) (.str a) (.str b) T Γ post := fun τ σ H B S v1 v2 Q w r1 r2 k => by
  cases r1; cases r2
  refine .inl ⟨rfl, ?_⟩
  have e : decide (V.str a = V.str b) = decide (a = b) := by
    by_cases q : a = b
    · subst q; simp
    · rw [decide_eq_false q, decide_eq_false (fun z => q (V.str.inj z))]
  rw [e]
  exact k _ _ Γ H h ⟨_, _, w.pushd .bl⟩
theorem o2_eqB {a b : Bool} (h : post (.d (.bl (a == b))) Γ) : Op2 K F B0 (rEqG K) (.bl a) (.bl b) T Γ post := fun τ σ H B S v1 v2 Q w r1 r2 k => by
  cases r1; cases r2
  refine .inl ⟨rfl, ?_⟩
  rw [dec_bl]
  exact k _ _ Γ H h ⟨_, _, w.pushd .bl⟩
theorem o2_neB {a b : Bool} (h : post (.d (.bl (!(a == b)))) Γ) : Op2 K F B0 (rNeG K) (.bl a) (.bl b) T Γ post := fun τ σ H B S v1 v2 Q w r1 r2 k => by
  cases r1; cases r2
  refine .inl ⟨rfl, ?_⟩
  rw [dec_bl]
  exact k _ _ Γ H h ⟨_, _, w.pushd .bl⟩
mutual
def D.py : D → PyData
  | .non => .none
  | .bl b => .bool b
  | .int i => .int i
  | .str s => .str s
  | .tup xs => .tuple (pyL xs)
  | .lst xs => .list (pyL xs)
  | .sq xs => .list (pyL xs)
  | .ref _ => .none
  | .ty _ => .none
  | .dic _ => .none
  | .dit _ => .none
  | .ins _ _ => .none
def pyL : List D → List PyData
  | [] => []
  | x :: xs => x.py :: pyL xs
end
mutual
/-- data that == may ask -/
def D.pl : D → Bool
  | .non => true
  | .bl b => true
  | .int i => true
  | .str s => true
  | .tup xs => plL xs
  | .lst xs => plL xs
  | .sq xs => plL xs
  | .ref _ => false
  | .ty _ => false
  | .dic _ => false
  | .dit _ => false
  | .ins _ _ => false
def plL : List D → Bool
  | [] => true
  | x :: xs => x.pl && plL xs
end
mutual
theorem R.dp (pu : Ex B H) : ∀ {v : V} {x : D}, R K B v x → x.pl = true → Dp K H v x.py
  | _, _, .non, _ => .non
  | _, _, .bl, _ => .bl _
  | _, _, .int, _ => .int _
  | _, _, .str, _ => .str _
  | _, _, .tup h r, q => .tup (pu.sqT h) (RL.dp pu r q)
  | _, _, .lst h r, q => .lst (SqL.of (pu _ _ h)) (RL.dp pu r q)
  | _, _, .sq h r, q => .lst (pu.sqL h) (RL.dp pu r q)
  | _, _, .ref, q => by cases q
  | _, _, .ty, q => by cases q
  | _, _, .dic _ _ _, q => by cases q
  | _, _, .dit _ _ _, q => by cases q
  | _, _, .ins _ _, q => by cases q
theorem RL.dp (pu : Ex B H) : ∀ {v : List V} {x : List D}, RL K B v x → plL x = true → DpAll K H v (pyL x)
  | _, _, .nil, _ => .nil
  | _, _, .cons h r, q => .cons (R.dp pu h (by simp [plL] at q; exact q.1)) (RL.dp pu r (by simp [plL] at q; exact q.2))
end
/-- data that == tells -/
def D.eqs (x y : D) : Prop := x.pl = true ∧ y.pl = true ∧ SeqAt.shaped x.py = true ∧ SeqAt.shaped y.py = true
theorem o2_eqD {x y : D} (q : x.eqs y) (h : post (.d (.bl (PyData.eqv x.py y.py))) Γ) : Op2 K F B0 (rEqG K) x y T Γ post := fun τ σ H B S v1 v2 Q w r1 r2 k =>
  .inr (.inl ⟨x.py, y.py, r1.dp w.pu q.1, r2.dp w.pu q.2.1, q.2.2.1, q.2.2.2, k _ _ Γ H h ⟨_, _, w.pushd .bl⟩⟩)
theorem o2_neD {x y : D} (q : x.eqs y) (h : post (.d (.bl (!PyData.eqv x.py y.py))) Γ) : Op2 K F B0 (rNeG K) x y T Γ post := fun τ σ H B S v1 v2 Q w r1 r2 k =>
  .inr (.inl ⟨x.py, y.py, r1.dp w.pu q.1, r2.dp w.pu q.2.1, q.2.2.1, q.2.2.2, k _ _ Γ H h ⟨_, _, w.pushd .bl⟩⟩)
def D.isNon : D → Bool
  | .non => true
  | _ => false
theorem R.isNon {v : V} {x : D} (r : R K B v x) : decide (v = .non) = x.isNon := by cases r <;> rfl
theorem o2_is {x : D} (h : post (.d (.bl x.isNon)) Γ) : Op2 K F B0 rIsG x .non T Γ post := fun τ σ H B S v1 v2 Q w r1 r2 k => by
  cases r2
  refine ⟨rfl, ?_⟩
  rw [r1.isNon]
  exact k _ _ Γ H h ⟨_, _, w.pushd .bl⟩
theorem o2_not {x : D} (h : post (.d (.bl (!x.isNon))) Γ) : Op2 K F B0 rNotG x .non T Γ post := fun τ σ H B S v1 v2 Q w r1 r2 k => by
  cases r2
  refine ⟨rfl, ?_⟩
  rw [r1.isNon]
  exact k _ _ Γ H h ⟨_, _, w.pushd .bl⟩
def D.flat : D → Bool
  | .non => true
  | .bl _ => true
  | .int _ => true
  | .str _ => true
  | _ => false
def D.eq1 : D → D → Bool
  | .non, .non => true
  | .bl a, .bl b => a == b
  | .bl a, .int b => (if a then 1 else 0) == b
  | .int a, .bl b => a == (if b then 1 else 0)
  | .int a, .int b => a == b
  | .str a, .str b => a == b
  | _, _ => false
theorem R.flatV {v : V} {x : D} (r : R K B v x) (q : x.flat = true) : L2.flatV v = true := by cases r <;> first | rfl | cases q
theorem R.eqV {v u : V} {x y : D} (r : R K B v x) (s : R K B u y) (q : x.flat = true) (q2 : y.flat = true) : L2.eqV v u = x.eq1 y := by
  cases r <;> first | (cases s <;> first | rfl | cases q2) | cases q
theorem RL.flat : ∀ {vs : List V} {xs : List D}, RL K B vs xs → xs.all D.flat = true → vs.all L2.flatV = true
  | _, _, .nil, _ => rfl
  | _, _, .cons r t, q => by simp only [List.all_cons, Bool.and_eq_true] at q ⊢; exact ⟨r.flatV q.1, t.flat q.2⟩
def D.items? : D → Option (List D)
  | .lst xs => some xs
  | .sq xs => some xs
  | .tup xs => some xs
  | _ => none
theorem R.items {xs : List D} (r : R K B v x) (q : x.items? = some xs) : ∃ a vs, v = .ref a ∧ (SqL K B a vs ∨ SqT K B a vs) ∧ RL K B vs xs := by
  cases r with
  | lst h r => cases q; exact ⟨_, _, rfl, .inl (SqL.of h), r⟩
  | sq h r => cases q; exact ⟨_, _, rfl, .inl h, r⟩
  | tup h r => cases q; exact ⟨_, _, rfl, .inr h, r⟩
  | _ => cases q
def kD : Key → D
  | .inl i => .int i
  | .inr s => .str s
def dval {κ : Type} [DecidableEq κ] {α : Type} (kvs : List (κ × α)) (k : κ) : Option α := (kvs.find? fun kv => decide (kv.1 = k)).map (·.2)
theorem RK.val {k : Key} : ∀ {ws : List (Key × V)} {kvs : List (Key × D)}, RK K B ws kvs → (∃ v x, valV ws k = some v ∧ dval kvs k = some x ∧ R K B v x) ∨ (valV ws k = none ∧ dval kvs k = none)
  | _, _, .nil => .inr ⟨rfl, rfl⟩
  | _, _, .cons (k := k0) (v := v0) (x := x0) (vs := vs) (xs := xs) r t => by
    by_cases e : k0 = k
    · left
      refine ⟨v0, x0, by simp [valV, e], by simp [dval, e], r⟩
    · have e1 : valV ((k0, v0) :: vs) k = valV vs k := by simp [valV, e]
      have e2 : dval ((k0, x0) :: xs) k = dval xs k := by simp [dval, e]
      rw [e1, e2]
      exact RK.val t
theorem R.kV {k : Key} (r : R K B v (kD k)) : v = L2.kV k := by cases k <;> (cases r; rfl)
theorem o2_inD {k : Key} {kvs : List (Key × D)} (h : post (.d (.bl (dval kvs k).isSome)) Γ) : Op2 K F B0 (rInG K) (kD k) (.dic kvs) T Γ post := fun τ σ H B S v1 v2 Q w r1 r2 k' => by
  have e := r1.kV
  subst e
  cases r2 with | @dic a ws _ hd _ rk =>
  have e : (valV ws k).isSome = (dval kvs k).isSome := by rcases rk.val (k := k) with ⟨v, x, h1, h2, _⟩ | ⟨h1, h2⟩ <;> rw [h1, h2] <;> rfl
  refine .inr (.inl ⟨a, valV ws k, rfl, .inl ⟨ws, k, w.pu.rd hd, rfl, rfl⟩, ?_⟩)
  rw [e]
  exact k' _ _ Γ H h ⟨_, _, w.pushd .bl⟩
end
end SK
namespace SK
open PySem PySem.Spec PyProof.Rows L2
section
variable {K : PySem.W.Frag} {F B0 H H' B B' : Hp} {τ τs : List V} {T os : List O} {σ : L2.St} {Γ : En} {S S1 S2 : Ad} {v w : V} {o p : O} {x : D} {post : O → En → Prop} {ta tb te td ty tv : TE} {tt tu : TT} {i : Nat} {posts : List D → En → Prop} {postt : Bool → En → Prop} {posts1 : En → Prop} {Dd : EG}
theorem set_same {σ : List (Option V)} (a : σ[i]? = some (some v)) : σ.set i (some v) = σ := by
  have hl : i < σ.length := (List.getElem?_eq_some_iff.mp a).1
  apply List.ext_getElem?
  intro n
  by_cases hn : n = i
  · subst hn; rw [List.getElem?_set_self hl, a]
  · rw [List.getElem?_set_ne (Ne.symm hn)]
/-- the thing at slot i is changed, the thing held on top goes into it -/
theorem HW.mut2 (h : HW K F B0 (w :: τ) (o :: T) σ Γ H B S) (e : Γ[i]? = some (some p)) : ∃ (v : V) (S1 So : Ad), σ[i]? = some (some v) ∧ RO K B H S1 v p ∧ RO K B H So w o ∧ (∀ b, S1 b → ¬ So b) ∧ (∀ b, S1 b → H b ≠ none) ∧ (∀ b, So b → H b ≠ none) ∧
    ∀ a c p', S1 a → RO K B (upd H a c) (fun b => S1 b ∨ So b) v p' → ∃ S', HW K F B0 τ T σ (Γ.set i (some p')) (upd H a c) B S' := by
  obtain ⟨So, Sr, s1, s2, dj, ro, wr⟩ := h.pop
  obtain ⟨v, S1, S2, a1, b1, c1, d1, r1, f⟩ := wr.slot e
  refine ⟨v, S1, So, a1, r1, ro, fun b z y => dj b y (b1 b z), fun b z => (wr.ow b (b1 b z)).2.2, fun b z => (h.ow b (s1 b z)).2.2, fun a c p' ha rp => ?_⟩
  have q := f B (upd H a c) (fun b => S1 b ∨ So b) (some v) (some p') (.refl B) (fun b u z y => by
    rw [upd_ne (fun q => d1 a ha (by rw [← q]; exact z))]; exact y) (fun b z y => z.elim (fun z => d1 b z y) fun z => dj b z (c1 b y)) (fun x q => by cases q; exact ⟨v, rfl, rp⟩)
  rw [set_same a1] at q
  refine ⟨_, ⟨fun b u z => ?_, fun b u z => ?_, wr.b0, fun b z => ?_, wr.nw, q, wr.lt⟩⟩
  · have hn : b ≠ a := fun q => by rw [q, (wr.ow a (b1 a ha)).1] at z; cases z
    rw [upd_ne hn]; exact wr.fr b u z
  · have hn : b ≠ a := fun q => by rw [q, (wr.ow a (b1 a ha)).2.1] at z; cases z
    rw [upd_ne hn]; exact wr.pu b u z
  · have : F b = none ∧ B b = none ∧ H b ≠ none := by
      rcases z with (z | z) | z
      · exact wr.ow b (b1 b z)
      · exact h.ow b (s1 b z)
      · exact wr.ow b (c1 b z)
    refine ⟨this.1, this.2.1, ?_⟩
    by_cases hn : b = a
    · rw [hn, upd_same]; simp
    · rw [upd_ne hn]; exact this.2.2
/-- the thing at slot i is changed -/
theorem HW.mut1 (h : HW K F B0 τ T σ Γ H B S) (e : Γ[i]? = some (some p)) : ∃ (v : V) (S1 : Ad), σ[i]? = some (some v) ∧ RO K B H S1 v p ∧ (∀ b, S1 b → H b ≠ none) ∧
    ∀ a c p', S1 a → RO K B (upd H a c) S1 v p' → ∃ S', HW K F B0 τ T σ (Γ.set i (some p')) (upd H a c) B S' := by
  obtain ⟨v, S1, So, a1, r1, _, _, n1, _, f⟩ := HW.mut2 (h.pushd (v := .non) (x := .non) .non) e
  exact ⟨v, S1, a1, r1, n1, fun a c p' ha rp => f a c p' ha (rp.tr (.refl B) (fun _ z => .inl z) fun _ _ _ e => e)⟩
theorem RS.snoc {So : Ad} (ro : RO K B H So w o) : ∀ {σ : List (Option V)} {Γ : List (Option O)} {S : Ad}, RS K B H S σ Γ → (∀ b, S b → ¬ So b) → RS K B H (fun b => S b ∨ So b) (σ ++ [some w]) (Γ ++ [some o])
  | _, _, _, .nil, _ => .cons (S1 := So) (S2 := fun _ => False) (fun _ z => .inr z) (fun _ z => z.elim) (fun _ _ z => z) ro .nil
  | _, _, _, .un r, dj => .un (RS.snoc ro r dj)
  | _, _, _, .cons (S1 := T1) (S2 := T2) s1 s2 d r rs, dj => .cons (S1 := T1) (S2 := fun b => T2 b ∨ So b) (fun b z => .inl (s1 b z)) (fun b z => z.imp (s2 b) id) (fun b z y => y.elim (d b z) (dj b (s1 b z))) r (RS.snoc ro rs fun b z => dj b (s2 b z))
theorem RS.at (e : ∀ b u, S b → H b = some u → H' b = some u) {σ : List (Option V)} {Γ : List (Option O)} (r : RS K B H S σ Γ) : RS K B H' S σ Γ := r.tr (.refl B) (fun _ z => z) e
/-- xs.append(e), xs a name -/
theorem gos_append (h : Go K F B0 te T Γ fun o Γ1 => ∃ xs, Γ1[i]? = some (some (.ol xs)) ∧ xs.length < 100000 ∧ Dd.nx (Γ1.set i (some (.ol (xs ++ [o]))))) (h0 : ∃ xs, Γ[i]? = some (some (.ol xs))) :
    GoS K F B0 (tDrop (tBM K "list" rAppend (tVar i) (tCons te tNil))) T Γ Dd := fun τ σ H De hw s => by
  obtain ⟨B, S, w⟩ := hw
  obtain ⟨xs0, e0⟩ := h0
  obtain ⟨v, S1, a1, r1, _, _⟩ := w.mut1 e0
  cases r1 with
  | @ol _ _ a vs _ _ _ _ hc _ =>
  refine ⟨.ref a, a1, Or.inl ⟨rfl, vs, SqL.of hc⟩, h τ σ H _ ⟨B, S, w⟩ fun v2 o2 Γ2 H2 ⟨xs, e2, hz, h2⟩ ⟨B2, S2, w2⟩ => ?_⟩
  obtain ⟨v', S3, So, a2, r2, ro, dj, _, _, f⟩ := w2.mut2 e2
  rw [a1] at a2
  cases a2
  cases r2 with
  | @ol _ S4 _ us _ ha hs hn hc2 rs =>
  have len : us.length = xs.length := by simpa using rs.len
  refine ⟨a, us, v2, rfl, rfl, hc2, by rw [len]; exact Nat.lt_of_lt_of_le hz (by decide), ?_⟩
  obtain ⟨S', w3⟩ := f a (.lst (us ++ [v2])) (.ol (xs ++ [o2])) ha (.ol (S' := fun b => S4 b ∨ So b) (.inl ha) (fun b z => z.imp (hs b) id) (fun z => z.elim hn fun z => dj a ha z) upd_same (by
    rw [List.map_append, List.map_append]
    exact (rs.snoc ro fun b z => dj b (hs b z)).at fun b u z q => by
      rw [upd_ne (fun e => by subst e; exact z.elim hn fun z => dj b ha z)]; exact q))
  exact s.nx σ _ _ h2 ⟨B2, S', w3⟩
def dput {κ : Type} [DecidableEq κ] {α : Type} (kvs : List (κ × α)) (k : κ) (v : α) : List (κ × α) :=
  if (kvs.any fun kv => decide (kv.1 = k)) = true then kvs.map (fun kv => if kv.1 = k then (kv.1, v) else kv) else kvs ++ [(k, v)]
theorem any_keys {κ α β : Type} [DecidableEq κ] {k : κ} : ∀ {ws : List (κ × α)} {kvs : List (κ × β)}, ws.map (·.1) = kvs.map (·.1) → (ws.any fun kv => decide (kv.1 = k)) = kvs.any fun kv => decide (kv.1 = k)
  | [], [], _ => rfl
  | a :: ws, b :: kvs, e => by
    simp only [List.map_cons, List.cons.injEq] at e
    rw [List.any_cons, List.any_cons, any_keys e.2, e.1]
theorem repl_keys {κ α : Type} [DecidableEq κ] {k : κ} {v : α} (kvs : List (κ × α)) : (kvs.map (fun kv => if kv.1 = k then (kv.1, v) else kv)).map (·.1) = kvs.map (·.1) := by
  rw [List.map_map]
  apply List.map_congr_left
  intro a _
  show (if a.1 = k then (a.1, v) else a).1 = a.1
  split <;> rfl
theorem dput_keys {κ α β : Type} [DecidableEq κ] {k : κ} {v : α} {x : β} {ws : List (κ × α)} {kvs : List (κ × β)} (e : ws.map (·.1) = kvs.map (·.1)) : (dput ws k v).map (·.1) = (dput kvs k x).map (·.1) := by
  unfold dput
  rw [any_keys e]
  split
  · rw [repl_keys, repl_keys, e]
  · rw [List.map_append, List.map_append, e]; rfl
theorem dput_nodup {κ α : Type} [DecidableEq κ] {k : κ} {v : α} {kvs : List (κ × α)} (n : (kvs.map (·.1)).Nodup) : ((dput kvs k v).map (·.1)).Nodup := by
  unfold dput
  split
  · rw [repl_keys]; exact n
  · rename_i h
    rw [List.map_append, List.nodup_append]
    refine ⟨n, by simp, fun a ha b hb => ?_⟩
    have e : b = k := by simpa using hb
    subst e
    intro q
    subst q
    obtain ⟨kv, h1, h2⟩ := List.mem_map.mp ha
    exact h (List.any_eq_true.mpr ⟨kv, h1, by simp [h2]⟩)
theorem dput_len {κ α : Type} [DecidableEq κ] {k : κ} {v : α} {kvs : List (κ × α)} : (dput kvs k v).length ≤ kvs.length + 1 := by
  unfold dput
  split <;> simp
theorem repl_not {κ α : Type} [DecidableEq κ] {k : κ} {v : α} : ∀ {kvs : List (κ × α)}, k ∉ kvs.map (·.1) → kvs.map (fun kv => if kv.1 = k then (kv.1, v) else kv) = kvs
  | [], _ => rfl
  | a :: r, h => by
    simp only [List.map_cons, List.mem_cons, not_or] at h
    rw [List.map_cons, repl_not h.2, if_neg (fun q => h.1 q.symm)]
theorem RS.repl {κ : Type} [DecidableEq κ] {k : κ} {So : Ad} (ro : RO K B H So w o) : ∀ {ws : List (κ × V)} {kvs : List (κ × O)} {S : Ad}, (kvs.map (·.1)).Nodup → ws.map (·.1) = kvs.map (·.1) → RS K B H S (ws.map fun p => some p.2) (kvs.map fun p => some p.2) → (∀ b, S b → ¬ So b) →
    RS K B H (fun b => S b ∨ So b) ((ws.map fun kv => if kv.1 = k then (kv.1, w) else kv).map fun p => some p.2) ((kvs.map fun kv => if kv.1 = k then (kv.1, o) else kv).map fun p => some p.2)
  | [], [], _, _, _, _, _ => .nil
  | (k1, v1) :: ws, (k2, o2) :: kvs, S, nd, e, .cons (S1 := T1) (S2 := T2) s1 s2 d r rs, dj => by
    simp only [List.map_cons, List.cons.injEq] at e
    obtain ⟨e1, e2⟩ := e
    subst e1
    simp only [List.map_cons, List.nodup_cons] at nd
    by_cases q : k1 = k
    · subst q
      have n2 : k1 ∉ ws.map (·.1) := by rw [e2]; exact nd.1
      have q1 := repl_not (v := w) n2
      have q2 := repl_not (v := o) nd.1
      simp only [List.map_cons, ↓reduceIte, q1, q2]
      exact .cons (S1 := So) (S2 := T2) (fun b z => .inr z) (fun b z => .inl (s2 b z)) (fun b z y => dj b (s2 b y) z) ro rs
    · simp only [List.map_cons, if_neg q]
      exact .cons (S1 := T1) (S2 := fun b => T2 b ∨ So b) (fun b z => .inl (s1 b z)) (fun b z => z.imp (s2 b) id) (fun b z y => y.elim (d b z) (dj b (s1 b z))) r (RS.repl ro nd.2 e2 rs fun b z => dj b (s2 b z))
theorem RS.dput {κ : Type} [DecidableEq κ] {k : κ} {So : Ad} (ro : RO K B H So w o) {ws : List (κ × V)} {kvs : List (κ × O)} {S : Ad} (nd : (kvs.map (·.1)).Nodup) (e : ws.map (·.1) = kvs.map (·.1)) (rs : RS K B H S (ws.map fun p => some p.2) (kvs.map fun p => some p.2)) (dj : ∀ b, S b → ¬ So b) :
    RS K B H (fun b => S b ∨ So b) ((SK.dput ws k w).map fun p => some p.2) ((SK.dput kvs k o).map fun p => some p.2) := by
  unfold SK.dput
  rw [any_keys e]
  split
  · exact rs.repl ro nd e dj
  · rw [List.map_append, List.map_append]
    exact rs.snoc ro dj
theorem putK_dput {κ : Type} [DecidableEq κ] (kvs : List (κ × V)) (k : κ) (v : V) : putK kvs k v = dput kvs k v := rfl
theorem go_dnew (h : post (.od []) Γ) : Go K F B0 tDNewK T Γ post := fun τ σ H Q ⟨B, S, w⟩ k p hp => by
  obtain ⟨S2, w⟩ := w.newo hp (o := .od []) (c := .dK []) (v := .ref p) (.od (S' := fun _ => False) rfl (fun _ z => z.elim) id upd_same List.nodup_nil rfl .nil)
  exact k _ _ _ _ h ⟨_, _, w⟩
abbrev Ct := List D → (O → Prop) → (Addr → Option (List (Str × D)) → Prop) → Prop
theorem HW.bare (h : HW K F B0 τ T σ Γ H B S) : Ho K F B0 [] [] σ Γ H :=
  ⟨B, S, h.fr, h.pu, h.b0, h.ow, h.nw, RS.drops (σ0 := τ.map some) (Γ0 := T.map some) (by simp [h.lt]) h.rs, rfl⟩
def noX : Addr → Option (List (Str × D)) → Prop := fun _ _ => False
/-- an exception's own dict, where it has one -/
def ExB (K : PySem.W.Frag) (H B : Hp) (d : Option Addr) (fs : Option (List (Str × D))) : Prop := match d, fs with
  | none, none => True
  | some a, some fs => ∃ ws, H a = some (.xd ws) ∧ RF K B ws fs
  | _, _ => False
/-- the slots, and an exception's own dict -/
def HoX (K : PySem.W.Frag) (F B0 : Hp) (σ : L2.St) (Γ : En) (H : Hp) (d : Option Addr) (fs : Option (List (Str × D))) : Prop := ∃ B S, HW K F B0 [] [] σ Γ H B S ∧ ExB K H B d fs
theorem HW.bareB (h : HW K F B0 τ T σ Γ H B S) : HW K F B0 [] [] σ Γ H B S :=
  ⟨h.fr, h.pu, h.b0, h.ow, h.nw, RS.drops (σ0 := τ.map some) (Γ0 := T.map some) (by simp [h.lt]) h.rs, rfl⟩
theorem HoX.none {fs : Option (List (Str × D))} (h : Ho K F B0 [] [] σ Γ H) (e : fs = none) : HoX K F B0 σ Γ H none fs := by
  subst e; obtain ⟨B, S, w⟩ := h; exact ⟨B, S, w, trivial⟩
def spP (K : PySem.W.Frag) (C : Ct) : Sp := fun vs H Q E => ∃ B xs p q, Ex B H ∧ RL K B vs xs ∧ C xs p q ∧
  (∀ v o B' S' H', p o → Ex H H' → Ex B' H' → BLe B B' → (∀ a, B' a ≠ none → B a ≠ none ∨ H a = none) → (∀ a, S' a → H a = none ∧ B' a = none ∧ H' a ≠ none) → RO K B' H' S' v o → Q v H') ∧
  (∀ Cc fs d B' H', q Cc fs → Ex H H' → Ex B' H' → BLe B B' → (∀ a, B' a ≠ none → B a ≠ none ∨ H a = none) → ExB K H' B' d fs → E (.ref Cc) d H')
theorem spP_len {C : Ct} {n : Nat} (h : ∀ xs p q, C xs p q → xs.length = n) {vs : List V} {H : Hp} {Q : VK} {E : XK} (s : spP K C vs H Q E) : vs.length = n := by
  obtain ⟨B, xs, p, q, _, rl, c, _⟩ := s
  rw [rl.length]; exact h xs p q c
theorem RL.start {n : Nat} : ∀ {vs : List V} {xs : List D}, RL K B vs xs → RS K B H (fun _ => False) (vs.map some ++ List.replicate n none) ((xs.map fun x => some (O.d x)) ++ List.replicate n none)
  | _, _, .nil => by
    show RS K B H _ (List.replicate n none) (List.replicate n none)
    induction n with
    | zero => exact .nil
    | succ n ih => rw [List.replicate_succ, List.replicate_succ]; exact .un ih
  | _, _, .cons r t => .cons (S1 := fun _ => False) (S2 := fun _ => False) (fun _ z => z) (fun _ z => z) (fun _ z => z.elim) (.d r) (RL.start t)
/-- the body's reading gives the promise: wx tells what an exception's way out asks -/
theorem sp_body {C : Ct} {N : List Str} {vs : List V} {Q : VK} {E : XK} {X : Cx} {body : List Stmt} (s : spP K C vs H Q E)
    (h : ∀ B xs p q, C xs p q → xs.length = vs.length → (∀ Cc fs d σ Γ H', q Cc fs → HoX K H B σ Γ H' d fs → E (.ref Cc) d H') →
      ∃ t, PSs X body t ∧ GoS K H B t [] ((xs.map fun x => some (O.d x)) ++ List.replicate (N.length - xs.length) none) { nx := fun _ => p (.d .non), rt := fun o' _ => p o' }) :
    ∃ t, PSs X body t ∧ t { nx := fun _ H' => Q .non H', rt := Q } (L2.start N vs) H := by
  obtain ⟨B, xs, p, q, pu, rl, c, k, kx⟩ := s
  obtain ⟨t, ht, g⟩ := h B xs p q c rl.length.symm fun Cc fs d σ Γ H' hq ⟨B', S', w, hd⟩ => kx Cc fs d B' H' hq w.fr w.pu w.b0 w.nw hd
  refine ⟨t, ht, g [] (L2.start N vs) H _ ⟨B, fun _ => False, .refl H, pu, .refl B, fun _ z => z.elim, fun _ z => .inl z, ?_, rfl⟩ ⟨fun σ Γ H' e ⟨B', S', w⟩ => ?_, fun v o' σ Γ H' e ⟨B', S', w⟩ => ?_, fun _ _ _ z => z.elim, fun _ _ _ z => z.elim⟩⟩
  · show RS K B H (fun _ => False) ([] ++ L2.start N vs) _
    rw [List.nil_append, L2.start, rl.length]
    exact rl.start
  · obtain ⟨S1, S2, s1, s2, dj, r, w2⟩ := (w.pushd (v := .non) (x := .non) .non).pop
    exact k .non _ B' S1 H' e w.fr w.pu w.b0 w.nw (fun a z => ((w.pushd (v := .non) (x := .non) .non).ow a (s1 a z))) (.d .non)
  · obtain ⟨S1, S2, s1, s2, dj, r, w2⟩ := w.pop
    exact k v o' B' S1 H' e w.fr w.pu w.b0 w.nw (fun a z => w.ow a (s1 a z)) r
/-- a call of a def that keeps such a promise and lets nothing out -/
theorem go_call {C : Ct} {dvs : List V} {dxs : List D} {E : XK} {t : TA} (h : GoA K F B0 t T Γ fun xs Γ1 => ∃ p, C (xs ++ dxs) p noX ∧ ∀ o, p o → post o Γ1) (hd : ∀ B, RL K B dvs dxs) : Go K F B0 (tCall (spP K C) dvs E t) T Γ post := fun τ σ H Q hw k =>
  h τ σ H _ hw fun vs xs Γ1 H1 ⟨p, c, h1⟩ ⟨B1, S1, w1⟩ hl => by
    obtain ⟨rl, S2, w⟩ := w1.args hl
    refine ⟨B1, xs ++ dxs, p, noX, w.pu, rl.app (hd B1), c, fun v o' B' S' H' e ex pu' le nw ow ro => ?_, fun _ _ _ _ _ e => e.elim⟩
    exact k v _ Γ1 H' (h1 _ e) ⟨B', _, w.push ex le pu' nw ow ro⟩
end
end SK
namespace SK
open PySem PySem.Spec PyProof.Rows L2
section
variable {X : Cx}
theorem ix_dic (hu : X.A.units + 1 < cLine) : IxR X rIxDic := by
  intro value slice pins s σ H x y v u Q I rx ry h hs
  obtain ⟨a, z, rfl, g, q⟩ := h
  cases rx
  have hT := dict_typeIs I g
  unfold subscriptTail
  refine wpAny_bind ?_
  rw [getitemInPython_of_ne hT.not_modules]
  refine wpAny_bind (wpAny_specialOf hT PySem.F.slot_dict_getitem.lookup ?_)
  have fin : wpAny (model X.prog X.w) X.A (subscripted slice false (.ref a) u) (fun r s₃ => wpAny (model X.prog X.w) X.A (letTemporaryGo value (.ref a) r >>= fun _ => pure r) (EP X pins σ Q) X.xe s₃) X.xe s := by
    rw [hs]
    exact wpAny_operating (wpAny_mono (d_getItem hu I g ry fun w' s' I' r' => show EP X pins σ Q w' s' from ⟨z, H, I', r', q⟩) (fun r s₃ h₃ => wpAny_bind (wpAny_letTemporaryGo (wpAny_pure h₃))) fun _ _ x => x)
  first
    | exact wpAny_pure (wpAny_bind fin)
    | exact wpAny_bind (wpAny_pure (wpAny_bind fin))
    | exact wpAny_bind fin
def rIxG (K : PySem.W.Frag) : R2 := fun x y H Q => rIx K x y H Q ∨ rIxDic x y H Q
theorem ix_G (hu : X.A.units + 1 < cLine) : IxR X (rIxG X.K) := ix_seq.or (ix_dic hu)
def rSlG (K : PySem.W.Frag) : V → Option Int → Option Int → Hp → VK → Prop := fun x lo hi H Q => rSlL K x lo hi H Q ∨ (rSlS x lo hi H Q ∨ rSlT K x lo hi H Q)
theorem sl_G : SlR X (rSlG X.K) := sl_list.or (sl_str.or sl_tup)
end
section
variable {K : PySem.W.Frag} {F B0 H H' B B' : Hp} {τ τs : List V} {T os : List O} {σ : L2.St} {Γ : En} {S S1 S2 : Ad} {v w : V} {o p : O} {x : D} {post : O → En → Prop} {ta tb te td ty tv : TE} {tt tu : TT} {i : Nat} {posts : List D → En → Prop} {postt : Bool → En → Prop} {posts1 : En → Prop} {Dd : EG} {xs : List D} {vs : List V}
theorem RL.at {i : Int} {y : D} (r : RL K B vs xs) (h : atI xs i = some y) : ∃ v, atI vs i = some v ∧ R K B v y := by
  unfold atI at h ⊢
  rw [r.length]
  cases q : ixN xs.length i with
  | none => rw [q] at h; cases h
  | some j =>
    rw [q] at h
    exact r.get (i := j) h
theorem o2_ix {x : D} {xs : List D} {i : Int} {y : D} (q : x.items? = some xs) (hi : atI xs i = some y) (h : post (.d y) Γ) : Op2 K F B0 (rIxG K) x (.int i) T Γ post := fun τ σ H B S v1 v2 Q w r1 r2 k => by
  cases r2
  obtain ⟨a, vs, rfl, sq, rl⟩ := r1.items q
  obtain ⟨u, hu, ru⟩ := rl.at hi
  rcases sq with sq | sq
  · exact .inl (.inl ⟨a, vs, i, u, rfl, rfl, w.pu.sqL sq, hu, k _ _ Γ H h ⟨_, _, w.pushd ru⟩⟩)
  · exact .inl (.inr (.inl ⟨a, vs, i, u, rfl, rfl, w.pu.sqT sq, hu, k _ _ Γ H h ⟨_, _, w.pushd ru⟩⟩))
theorem o2_ixD {kvs : List (Key × D)} {k : Key} {y : D} (hi : dval kvs k = some y) (h : post (.d y) Γ) : Op2 K F B0 (rIxG K) (.dic kvs) (kD k) T Γ post := fun τ σ H B S v1 v2 Q w r1 r2 k' => by
  have e := r2.kV
  subst e
  cases r1 with | @dic a ws _ hd _ rk =>
  rcases rk.val (k := k) with ⟨u, z, h1, h2, r⟩ | ⟨h1, h2⟩
  · rw [hi] at h2
    cases h2
    exact .inr ⟨a, u, rfl, .inl ⟨ws, k, w.pu.rd hd, rfl, h1.symm⟩, k' _ _ Γ H h ⟨_, _, w.pushd r⟩⟩
  · rw [hi] at h2; cases h2
def cutD {α : Type} (xs : List α) (lo hi : Option Int) : List α := (xs.drop (HT.sIx xs.length 0 lo)).take (HT.sIx xs.length xs.length hi - HT.sIx xs.length 0 lo)
theorem RL.drop : ∀ {vs : List V} {xs : List D} (n : Nat), RL K B vs xs → RL K B (vs.drop n) (xs.drop n)
  | _, _, 0, r => r
  | _, _, _ + 1, .nil => .nil
  | _, _, n + 1, .cons _ t => RL.drop n t
theorem RL.take : ∀ {vs : List V} {xs : List D} (n : Nat), RL K B vs xs → RL K B (vs.take n) (xs.take n)
  | _, _, 0, _ => .nil
  | _, _, _ + 1, .nil => .nil
  | _, _, n + 1, .cons r t => .cons r (RL.take n t)
theorem RL.cut (r : RL K B vs xs) (lo hi : Option Int) : RL K B (cutV vs lo hi) (cutD xs lo hi) := by
  unfold cutV cutD
  rw [r.length]
  exact (r.drop _).take _
/-- a slice's part: left out, or a number -/
def GoO (K : PySem.W.Frag) (F B0 : Hp) (t : TO) (T : List O) (Γ : En) (post : Option Int → En → Prop) : Prop := ∀ (τ : List V) (σ : L2.St) (H : Hp) (Q : Option Int → Hp → Prop), Ho K F B0 τ T σ Γ H →
  (∀ o Γ' H', post o Γ' → Ho K F B0 τ T σ Γ' H' → Q o H') → t σ H Q
theorem goo_none {posto : Option Int → En → Prop} (h : posto none Γ) : GoO K F B0 tNoPart T Γ posto := fun τ σ H Q hw k => k none Γ H h hw
theorem goo_some {posto : Option Int → En → Prop} (h : Go K F B0 te T Γ fun o Γ1 => ∃ i, o = .d (.int i) ∧ posto (some i) Γ1) : GoO K F B0 (tPart te) T Γ posto := fun τ σ H Q hw k =>
  h τ σ H _ hw fun v o Γ1 H1 ⟨i, e, h1⟩ ⟨_, _, w1⟩ => by
    subst e
    obtain ⟨r, _, _, w⟩ := w1.popd
    cases r
    exact ⟨i, rfl, k _ _ _ h1 ⟨_, _, w⟩⟩
/-- a slice's value -/
inductive Sl : D → Option Int → Option Int → O → Prop
  | lst {x : D} {xs : List D} {lo hi : Option Int} : D.seq? x = some xs → Sl x lo hi (.ol ((cutD xs lo hi).map O.d))
  | str {z : Str} {lo hi : Option Int} : z.length ≤ 100000 → Sl (.str z) lo hi (.d (.str (cutS z lo hi)))
  | tup {xs : List D} {lo hi : Option Int} : ¬ (HT.sIx xs.length 0 lo = 0 ∧ HT.sIx xs.length xs.length hi = xs.length) → Sl (.tup xs) lo hi (.d (.tup (cutD xs lo hi)))
theorem go_sl {tl th : TO} (h : Go K F B0 te T Γ fun o Γ1 => GoO K F B0 tl (.d o.fz :: T) Γ1 fun lo Γ2 => GoO K F B0 th (.d o.fz :: T) Γ2 fun hi Γ3 => ∃ o2, Sl o.fz lo hi o2 ∧ post o2 Γ3) : Go K F B0 (tSl (rSlG K) te tl th) T Γ post := fun τ σ H Q hw k =>
  h τ σ H _ hw fun v o Γ1 H1 h1 ⟨_, _, w1⟩ => by
    obtain ⟨_, _, w1, _⟩ := w1.fz
    refine h1 _ σ H1 _ ⟨_, _, w1⟩ fun lo Γ2 H2 h2 w2 => h2 _ σ H2 _ w2 fun hi Γ3 H3 ⟨o2, sl, h3⟩ ⟨_, _, w3⟩ => ?_
    obtain ⟨r, _, _, w⟩ := w3.popd
    generalize o.fz = y at r sl
    cases sl with
    | lst q =>
      obtain ⟨a, vs, rfl, sq, rl⟩ := r.seqL q
      refine .inl ⟨a, vs, rfl, w.pu.sqL sq, fun p hp => ?_⟩
      obtain ⟨S2, w⟩ := w.newl hp (rl.cut lo hi)
      exact k _ _ _ _ h3 ⟨_, _, w⟩
    | str hz =>
      cases r
      exact .inr (.inl ⟨_, rfl, Nat.le_trans hz (by decide), k _ _ _ _ h3 ⟨_, _, w.pushd .str⟩⟩)
    | tup hn =>
      cases r with | @tup a vs _ sq rl =>
      refine .inr (.inr ⟨a, vs, rfl, w.pu.sqT sq, by rw [rl.length]; exact hn, fun p hp => ?_⟩)
      obtain ⟨S2, w⟩ := w.newd (x := .tup (cutD _ lo hi)) hp (.tup (SqT.of upd_same) ((rl.cut lo hi).mono (.of_ex (.new (w.pu.back hp)))))
      exact k _ _ _ _ h3 ⟨_, _, w⟩
def rLenG (K : PySem.W.Frag) : List V → Hp → VK → Prop := fun xs H Q => (∃ x n, xs = [x] ∧ LenV K x H n ∧ Q (.int n) H) ∨ ∃ a kvs, xs = [V.ref a] ∧ Rd H a (.dK kvs) ∧ Q (.int kvs.length) H
theorem call_lenG {X : Cx} : CallR X (.builtin "len") (rLenG X.K) := by
  intro pins s σ H xs us Q I r h
  rcases h with h | ⟨a, kvs, rfl, ha, q⟩
  · exact call_len pins s σ H xs us Q I r h
  · rw [r.ref1]
    exact d_len I ha fun t s' I' => ⟨.int kvs.length, H, I', ⟨t, rfl⟩, q⟩
inductive Ln : D → Nat → Prop
  | seq {x : D} {xs : List D} : D.items? x = some xs → Ln x xs.length
  | str {z : Str} : z.length ≤ 100000 → Ln (.str z) z.length
  | dic {kvs : List (Key × D)} : Ln (.dic kvs) kvs.length
theorem RK.length : ∀ {ws : List (Key × V)} {kvs : List (Key × D)}, RK K B ws kvs → ws.length = kvs.length
  | _, _, .nil => rfl
  | _, _, .cons _ t => by simp [RK.length t]
theorem oa_len {x : D} {n : Nat} (q : Ln x n) (h : post (.d (.int n)) Γ) : OpA K F B0 (rLenG K) [x] T Γ post := fun τ σ H B S vs Q w rl k => by
  obtain ⟨v1, rfl, r⟩ := rl.one
  have fin := fun (n : Nat) (h : post (.d (.int n)) Γ) => k (.int n) _ Γ H h ⟨_, _, w.pushd .int⟩
  cases q with
  | seq q =>
    obtain ⟨a, vs, rfl, sq, rl⟩ := r.items q
    rcases sq with sq | sq
    · exact .inl ⟨_, _, rfl, .inl ⟨vs, w.pu.sqL sq, rl.length.symm⟩, fin _ h⟩
    · exact .inl ⟨_, _, rfl, .inr ⟨vs, w.pu.sqT sq, rl.length.symm⟩, fin _ h⟩
  | str hz => cases r; exact .inl ⟨_, _, rfl, ⟨Nat.le_trans hz (by decide), rfl⟩, fin _ h⟩
  | dic => cases r with | @dic a ws _ hd _ rk => exact .inr ⟨a, ws, rfl, w.pu.rd hd, by rw [rk.length]; exact fin _ h⟩
def rMax2 : List V → Hp → VK → Prop := fun xs H Q => ∃ i j, xs = [.int i, .int j] ∧ Q (.int (if j > i then j else i)) H
def rMin2 : List V → Hp → VK → Prop := fun xs H Q => ∃ i j, xs = [.int i, .int j] ∧ Q (.int (if j < i then j else i)) H
theorem oa_max2 {a b : Int} (h : post (.d (.int (if b > a then b else a))) Γ) : OpA K F B0 rMax2 [.int a, .int b] T Γ post := fun τ σ H B S vs Q w rl k => by
  obtain ⟨v1, v2, rfl, r, r2⟩ := rl.two
  cases r; cases r2
  exact ⟨a, b, rfl, k _ _ Γ H h ⟨_, _, w.pushd .int⟩⟩
theorem oa_min2 {a b : Int} (h : post (.d (.int (if b < a then b else a))) Γ) : OpA K F B0 rMin2 [.int a, .int b] T Γ post := fun τ σ H B S vs Q w rl k => by
  obtain ⟨v1, v2, rfl, r, r2⟩ := rl.two
  cases r; cases r2
  exact ⟨a, b, rfl, k _ _ Γ H h ⟨_, _, w.pushd .int⟩⟩
def rListG (K : PySem.W.Frag) : List V → Hp → VK → Prop := fun xs H Q => (∃ p ys, xs = [.ref p] ∧ (SqL K H p ys ∨ SqT K H p ys) ∧ ∀ l, H l = none → Q (.ref l) (upd H l (.lst ys))) ∨
  ∃ (a : Addr) (kvs : List (Key × V)), xs = [.ref a] ∧ Rd H a (.dK kvs) ∧ ∀ p, H p = none → Q (.ref p) (upd H p (.lst (kvs.map fun kv => kV kv.1)))
theorem call_listG {X : Cx} (hc : X.calm = true) : CallR X (.type "list") (rListG X.K) := call_list_of.or (call_listD hc)
theorem RK.keys : ∀ {ws : List (Key × V)} {kvs : List (Key × D)}, RK K B ws kvs → ws.map (·.1) = kvs.map (·.1)
  | _, _, .nil => rfl
  | _, _, .cons _ t => by simp [RK.keys t]
theorem RL.keyl : ∀ (ks : List Key), RL K B (ks.map kV) (ks.map kD)
  | [] => .nil
  | .inl i :: r => .cons .int (RL.keyl r)
  | .inr i :: r => .cons .str (RL.keyl r)
theorem oa_listD {kvs : List (Key × D)} (h : post (.ol ((kvs.map fun p => kD p.1).map O.d)) Γ) : OpA K F B0 (rListG K) [.dic kvs] T Γ post := fun τ σ H B S vs Q w rl k => by
  obtain ⟨v1, rfl, r⟩ := rl.one
  cases r with | @dic a ws _ hd _ rk =>
  refine .inr ⟨a, ws, rfl, w.pu.rd hd, fun p hp => ?_⟩
  have e : (ws.map fun kv => kV kv.1) = (kvs.map (·.1)).map kV := by rw [← rk.keys, List.map_map]; rfl
  have e2 : (kvs.map fun p => kD p.1) = (kvs.map (·.1)).map kD := by rw [List.map_map]; rfl
  obtain ⟨S2, w⟩ := w.newl hp (xs := (kvs.map (·.1)).map kD) (vs := ws.map fun kv => kV kv.1) (by rw [e]; exact RL.keyl _)
  rw [e2] at h
  exact k _ _ _ _ h ⟨_, _, w⟩
/-- dict(d) -/
def rDictD : List V → Hp → VK → Prop := fun xs H Q => ∃ (a : Addr) (kvs : List (Key × V)), xs = [.ref a] ∧ Rd H a (.dK kvs) ∧ ∀ p, H p = none → Q (.ref p) (upd H p (.dK kvs))
theorem call_dictDG {X : Cx} : CallR X (.type "dict") rDictD := call_dictD
theorem RK.flK {S : Ad} : ∀ {ws : List (Key × V)} {kvs : List (Key × D)}, RK K B ws kvs → RS K B H S (ws.map fun p => some p.2) ((kvs.map fun p => (p.1, O.d p.2)).map fun p => some p.2)
  | _, _, .nil => .nil
  | _, _, .cons r t => .cons (S1 := fun _ => False) (S2 := S) (fun _ z => z.elim) (fun _ z => z) (fun _ z => z.elim) (.d r) (RK.flK t)
theorem oa_dictD {kvs : List (Key × D)} (h : post (.od (kvs.map fun p => (p.1, O.d p.2))) Γ) : OpA K F B0 rDictD [.dic kvs] T Γ post := fun τ σ H B S vs Q w rl k => by
  obtain ⟨v1, rfl, r⟩ := rl.one
  cases r with | @dic a ws _ hd nd rk =>
  refine ⟨a, ws, rfl, w.pu.rd hd, fun p hp => ?_⟩
  obtain ⟨S2, w⟩ := w.newo hp (v := .ref p) (c := .dK ws) (o := .od (kvs.map fun p => (p.1, O.d p.2))) (.od (S' := fun _ => False) rfl (fun _ z => z.elim) id upd_same (by rw [List.map_map]; exact nd) (by rw [rk.keys, List.map_map]; rfl) rk.flK)
  exact k _ _ _ _ h ⟨_, _, w⟩
inductive TyD : D → String → Prop
  | non : TyD .non "NoneType"
  | bl {b : Bool} : TyD (.bl b) "bool"
  | int {i : Int} : TyD (.int i) "int"
  | str {s : Str} : TyD (.str s) "str"
  | tup {xs : List D} : TyD (.tup xs) "tuple"
  | lst {xs : List D} : TyD (.lst xs) "list"
  | dic {kvs : List (Key × D)} : TyD (.dic kvs) "dict"
theorem TyD.at {n : String} (t : TyD x n) (r : R K B v x) (pu : Ex B H) : TyX K H v (.type n) := by
  cases t <;> cases r
  · exact .base .non
  · exact .base (.bl _)
  · exact .base (.int _)
  · exact .base (.str _)
  · rename_i a vs h _
    rcases h with h | ⟨o, its, n, h1, h2, _⟩
    · rcases pu.rd h with h | ⟨o, h⟩
      · exact .base (.tup h)
      · exact .fTuple h
    · exact .kTuple h1 h2
  · rename_i h _
    exact .base (.lst (pu _ _ h))
  · rename_i h _ _
    rcases pu.rd h with h | ⟨o, h⟩
    · exact .base (.dK h)
    · exact .fDict h
theorem oa_isi {x : D} {n c : String} {b : Bool} (t : TyD x n) (q : kitB n c = some b) (h : post (.d (.bl b)) Γ) : OpA K F B0 (rIsi K) [x, .ty c] T Γ post := fun τ σ H B S vs Q w rl k => by
  obtain ⟨v1, v2, rfl, r, r2⟩ := rl.two
  cases r2
  exact ⟨_, _, .type n, .type c, b, rfl, .ty c, t.at r w.pu, kit_ty q, k _ _ Γ H h ⟨_, _, w.pushd .bl⟩⟩
def wipeE : En → List Nat → En
  | Γ, [] => Γ
  | Γ, j :: js => (wipeE Γ js).set j none
theorem RS.unset : ∀ {σ : List (Option V)} {Γ : List (Option O)} {S : Ad} {j : Nat} {v : Option V}, RS K B H S σ Γ → RS K B H S (σ.set j v) (Γ.set j none)
  | _, _, _, _, _, .nil => .nil
  | _, _, _, 0, _, .un r => .un r
  | _, _, _, 0, _, .cons _ s2 _ _ r => .un (r.tr (.refl B) s2 fun _ _ _ e => e)
  | _, _, _, j + 1, _, .un r => .un (RS.unset r)
  | _, _, _, j + 1, _, .cons s1 s2 d r rs => .cons s1 s2 d r (RS.unset rs)
theorem HW.unset (h : HW K F B0 τ T σ Γ H B S) (j : Nat) (v : Option V) : HW K F B0 τ T (σ.set j v) (Γ.set j none) H B S := by
  refine ⟨h.fr, h.pu, h.b0, h.ow, h.nw, ?_, h.lt⟩
  have r := RS.unset (j := τ.length + j) (v := v) h.rs
  rw [List.set_append_right _ _ (by simp), List.set_append_right _ _ (by simp [h.lt]), List.length_map, List.length_map, ← h.lt, Nat.add_sub_cancel_left] at r
  exact r
theorem HW.wipe : ∀ {js : List Nat}, HW K F B0 τ T σ Γ H B S → HW K F B0 τ T (L2.wipe σ js) (wipeE Γ js) H B S
  | [], h => h
  | j :: _, h => (HW.wipe h).unset j none
/-- the slots are as they were, but for some that are forgotten -/
theorem HW.back (h : HW K F B0 τ T σ Γ H B S) {σ' : L2.St} {Γ' : En} (w : HW K F B0 τ T σ' Γ' H B S) : True := trivial
/-- a target that stores in the comprehension's own slots alone -/
def GoW (K : PySem.W.Frag) (F B0 : Hp) (js : List Nat) (g : TG) (d : D) (T : List O) (Γ : En) (post : En → Prop) : Prop := ∀ (τ : List V) (σ : L2.St) (H : Hp) (v : V) (Q : L2.St → Hp → Prop), Ho K F B0 (v :: τ) (.d d :: T) (L2.wipe σ js) Γ H →
  (∀ σ' Γ' H', post Γ' → L2.wipe σ' js = L2.wipe σ js → Ho K F B0 τ T σ' Γ' H' → Q σ' H') → g v (L2.wipe σ js) H Q
theorem wipe_set {j : Nat} : ∀ {js : List Nat} {σ : L2.St} {v : Option V}, j ∈ js → L2.wipe (σ.set j v) js = L2.wipe σ js
  | [], _, _, h => by cases h
  | k :: js, σ, v, h => by
    unfold L2.wipe
    by_cases q : j = k
    · subst q
      by_cases q2 : j ∈ js
      · rw [wipe_set q2]
      · have e : ∀ (js : List Nat) (σ : L2.St), j ∉ js → L2.wipe (σ.set j v) js = (L2.wipe σ js).set j v := by
          intro js
          induction js with
          | nil => intro σ _; rfl
          | cons k js ih =>
            intro σ h
            simp only [List.mem_cons, not_or] at h
            unfold L2.wipe
            rw [ih σ h.2, List.set_comm _ _ h.1]
        rw [e js σ q2, List.set_set]
    · have h2 : j ∈ js := (List.mem_cons.mp h).resolve_left q
      rw [wipe_set h2]
theorem wipe_wipe : ∀ {js ks : List Nat} {σ : L2.St}, (∀ k ∈ js, k ∈ ks) → L2.wipe (L2.wipe σ js) ks = L2.wipe σ ks
  | [], _, _, _ => rfl
  | j :: js, ks, σ, h => by
    show L2.wipe ((L2.wipe σ js).set j none) ks = _
    rw [wipe_set (h j (by simp)), wipe_wipe fun k hk => h k (by simp [hk])]
theorem gow_name {js : List Nat} {j : Nat} {d : D} (hj : j ∈ js) (hi : j < Γ.length) (h : posts1 (Γ.set j (some (.d d)))) : GoW K F B0 js (gName j) d T Γ posts1 := fun τ σ H v Q ⟨_, _, w⟩ k => by
  obtain ⟨S', w⟩ := w.put hi
  exact k _ _ _ h (by rw [wipe_set hj, wipe_wipe fun _ h => h]) ⟨_, S', w⟩
def GoWs (K : PySem.W.Frag) (F B0 : Hp) (js : List Nat) (g : TGs) (xs : List D) (T : List O) (Γ : En) (post : En → Prop) : Prop := ∀ (τ : List V) (σ σ0 : L2.St) (H B : Hp) (S : Ad) (vs : List V) (Q : L2.St → Hp → Prop), HW K F B0 τ T σ Γ H B S → RL K B vs xs → L2.wipe σ js = L2.wipe σ0 js →
  (∀ σ' Γ' H', post Γ' → L2.wipe σ' js = L2.wipe σ0 js → Ho K F B0 τ T σ' Γ' H' → Q σ' H') → g vs σ H Q
theorem gow_tup {js : List Nat} {g : TGs} {n : Nat} {d : D} {xs : List D} (e : d = .tup xs) (hn : xs.length = n) (h : GoWs K F B0 js g xs T Γ posts1) : GoW K F B0 js (gTup K n g) d T Γ posts1 := fun τ σ H v Q ⟨B, S, w⟩ k => by
  subst e
  obtain ⟨r, S2, _, w2⟩ := w.popd
  cases r with
  | @tup a vs _ sq rl => exact ⟨a, vs, rfl, w.pu.sqT sq, by rw [rl.length, hn], h τ _ σ H B S2 vs Q w2 rl (wipe_wipe fun _ h => h) k⟩
theorem gows_nil {js : List Nat} (h : posts1 Γ) : GoWs K F B0 js gNil [] T Γ posts1 := fun τ σ σ0 H B S vs Q w r e k => by
  cases r
  exact ⟨rfl, k σ Γ H h e ⟨_, _, w⟩⟩
theorem gows_name {js : List Nat} {xs : List D} {g : TGs} {j : Nat} (hj : j ∈ js) (hi : j < Γ.length) (h : GoWs K F B0 js g xs T (Γ.set j (some (.d x))) posts1) : GoWs K F B0 js (gCons (gName j) g) (x :: xs) T Γ posts1 := fun τ σ σ0 H B S vs Q w r e k => by
  cases r with
  | cons r rl =>
    obtain ⟨S', w'⟩ := (w.pushd r).put hi
    exact ⟨_, _, rfl, h τ _ σ0 H B S' _ Q w' rl (by rw [wipe_set hj, e]) k⟩
theorem RS.reset : ∀ {σ : List (Option V)} {Γ : List (Option O)} {S : Ad} {j : Nat}, RS K B H S (σ.set j none) Γ → Γ.set j none = Γ → RS K B H S σ Γ
  | [], _, _, _, r, _ => r
  | _ :: _, [], _, 0, r, _ => nomatch r
  | _ :: _, [], _, _ + 1, r, _ => nomatch r
  | v :: σ, g :: Γ, S, 0, r, e => by
    rw [List.set_cons_zero] at r e
    have e2 : none = g := (List.cons.inj e).1
    subst e2
    cases r with
    | un r => exact .un r
  | v :: σ, g :: Γ, S, j + 1, r, e => by
    rw [List.set_cons_succ] at r e
    have e2 := (List.cons.inj e).2
    cases r with
    | un r => exact .un (RS.reset r e2)
    | cons s1 s2 d r rs => exact .cons s1 s2 d r (RS.reset rs e2)
theorem HW.reset {j : Nat} (h : HW K F B0 τ T (σ.set j none) Γ H B S) (e : Γ.set j none = Γ) : HW K F B0 τ T σ Γ H B S := by
  refine ⟨h.fr, h.pu, h.b0, h.ow, h.nw, ?_, h.lt⟩
  refine RS.reset (j := τ.length + j) ?_ ?_
  · rw [List.set_append_right _ _ (by simp), List.length_map, Nat.add_sub_cancel_left]; exact h.rs
  · rw [List.set_append_right _ _ (by simp [h.lt]), List.length_map, ← h.lt, Nat.add_sub_cancel_left, e]
theorem HW.unwipe : ∀ {js : List Nat}, HW K F B0 τ T (L2.wipe σ js) Γ H B S → (∀ j ∈ js, Γ.set j none = Γ) → HW K F B0 τ T σ Γ H B S
  | [], h, _ => h
  | j :: js, h, e => HW.unwipe (HW.reset h (e j (by simp))) fun k hk => e k (by simp [hk])
/-- the second thing of the pile, a list, takes the first one -/
theorem HW.appTop {y : V} {D : Addr} {acc : List O} (h : HW K F B0 (y :: .ref D :: τ) (o :: .ol acc :: T) σ Γ H B S) : ∃ us S', H D = some (.lst us) ∧ us.length = acc.length ∧ HW K F B0 (.ref D :: τ) (.ol (acc ++ [o]) :: T) σ Γ (upd H D (.lst (us ++ [y]))) B S' := by
  obtain ⟨So, Sr, s1, s2, dj, ro, wr⟩ := h.pop
  obtain ⟨S1, S2, t1, t2, dj2, rl, w2⟩ := wr.pop
  cases rl with
  | @ol _ S4 _ us _ ha hs hn hc rs =>
  have len : us.length = acc.length := by simpa using rs.len
  have nb : ∀ b, S2 b → b ≠ D := fun b z e => by subst e; exact dj2 b ha z
  refine ⟨us, fun b => (S1 b ∨ So b) ∨ S2 b, hc, len, ⟨fun b u z => ?_, fun b u z => ?_, h.b0, fun b z => ?_, h.nw, .cons (S1 := fun b => S1 b ∨ So b) (S2 := S2) (fun b z => .inl z) (fun b z => .inr z) (fun b z y => z.elim (fun z => dj2 b z y) (fun z => dj b z (t2 b y)))
    (.ol (S' := fun b => S4 b ∨ So b) (.inl ha) (fun b z => z.imp (hs b) id) (fun z => z.elim hn fun z => dj D z (t1 D ha)) upd_same ?_) (w2.rs.at fun b u z q => by rw [upd_ne (nb b z)]; exact q), by have := w2.lt; simp [this]⟩⟩
  · have hn : b ≠ D := fun q => by rw [q, (wr.ow D (t1 D ha)).1] at z; cases z
    rw [upd_ne hn]; exact h.fr b u z
  · have hn : b ≠ D := fun q => by rw [q, (wr.ow D (t1 D ha)).2.1] at z; cases z
    rw [upd_ne hn]; exact h.pu b u z
  · have : F b = none ∧ B b = none ∧ H b ≠ none := by
      rcases z with (z | z) | z
      · exact wr.ow b (t1 b z)
      · exact h.ow b (s1 b z)
      · exact wr.ow b (t2 b z)
    refine ⟨this.1, this.2.1, ?_⟩
    by_cases hn : b = D
    · rw [hn, upd_same]; simp
    · rw [upd_ne hn]; exact this.2.2
  · rw [List.map_append, List.map_append]
    exact (rs.snoc ro fun b z y => dj b y (t1 b (hs b z))).at fun b u z q => by
      rw [upd_ne (fun e => by subst e; exact z.elim hn fun z => dj b z (t1 b ha))]; exact q
theorem wipeE_same : ∀ {js : List Nat}, (∀ j ∈ js, Γ.set j none = Γ) → wipeE Γ js = Γ
  | [], _ => rfl
  | j :: js, h => by
    show (wipeE Γ js).set j none = Γ
    rw [wipeE_same fun k hk => h k (by simp [hk])]
    exact h j (by simp)
/-- a comprehension: items x give f x where p x -/
theorem go_lc {α : Type} {wi : TI} {g : TG} {js : List Nat} (h : GoI K F B0 wi T Γ fun ds hs Γ1 => ∃ (xs : List α) (e : α → D) (p : α → Bool) (f : α → D), ds = xs.map e ∧ xs.length ≤ 100000 ∧ (∀ j ∈ js, Γ1.set j none = Γ1) ∧
    (∀ (k : Nat) (x : α) (acc : List O), xs[k]? = some x → GoW K F B0 js g (e x) (.ol acc :: (hs.map O.d ++ T)) Γ1 fun Γ2 => GoT K F B0 tt (.ol acc :: (hs.map O.d ++ T)) Γ2 fun b Γ3 => b = p x ∧ (p x = false → wipeE Γ3 js = Γ1) ∧
      (p x = true → Go K F B0 te (.ol acc :: (hs.map O.d ++ T)) Γ3 fun o Γ4 => o.fz = f x ∧ wipeE Γ4 js = Γ1)) ∧
    post (.ol (((xs.filter p).map f).map O.d)) Γ1) : Go K F B0 (tLc wi g tt te js) T Γ post := fun τ σ H Q hw k =>
  h τ σ H _ hw fun J τs hs ds Γ1 H1 ⟨xs, e, p, f, hds, hz, hj, hst, hp⟩ ⟨B1, S1, w1⟩ hl it D hD => by
    subst hds
    have hl' : τs.length = (hs.map O.d).length := by simp [hl]
    have hwp : wipeE Γ1 js = Γ1 := wipeE_same hj
    obtain ⟨S0, w0⟩ := w1.newl (p := D) (xs := []) (vs := []) hD .nil
    have w0' := w0.wipe (js := js)
    rw [hwp] at w0'
    let A : Nat → List O := fun i => (((xs.take i).filter p).map f).map O.d
    have A1 : ∀ (i : Nat) (x : α), xs[i]? = some x → A (i + 1) = if p x = true then A i ++ [.d (f x)] else A i := fun i x hx => by
      have e1 : xs.take (i + 1) = xs.take i ++ [x] := by rw [List.take_add_one, hx]; rfl
      show ((((xs.take (i + 1)).filter p).map f).map O.d) = _
      rw [e1, List.filter_append, List.map_append, List.map_append]
      by_cases q : p x = true
      · rw [if_pos q]; simp [q, A]
      · rw [if_neg q]; simp [q, A]
    have Al : ∀ i, (A i).length ≤ xs.length := fun i => by
      simp only [A, List.length_map]
      exact Nat.le_trans (List.length_filter_le _ _) (by simp; omega)
    refine ⟨fun i m H' => m = xs.length - i ∧ i ≤ xs.length ∧ ∃ B' S', HW K F B0 (.ref D :: (τs ++ τ)) (.ol (A i) :: (hs.map O.d ++ T)) (L2.wipe σ js) Γ1 H' B' S', ⟨xs.length, by simp, Nat.zero_le _, B1, S0, by simpa [A] using w0'⟩, ?_⟩
    rintro i m H' ⟨rfl, hi, B', S', w⟩
    obtain ⟨_, S'', _, _, _, _, wd⟩ := w.pop
    obtain ⟨q1, q2⟩ := it _ _ _ Γ1 H' B' _ w (wd.held hl)
    by_cases hlt : i < xs.length
    · obtain ⟨q3, q4⟩ := q2 i (e xs[i]) (by simp [hlt])
      refine .inr ⟨q3, fun H2 => ∃ B2 S2, HW K F B0 (.ref D :: (τs ++ τ)) (.ol (A (i + 1)) :: (hs.map O.d ++ T)) (L2.wipe σ js) Γ1 H2 B2 S2, fun H2 z => ⟨xs.length - (i + 1), by omega, rfl, hlt, z⟩, fun x H2 y => ?_⟩
      obtain ⟨B2, S2, w2⟩ := q4 x H2 y
      refine hst i xs[i] (A i) (by simp [hlt]) (.ref D :: (τs ++ τ)) σ H2 x _ ⟨B2, S2, w2⟩ fun σ3 Γ3 H3 h3 e3 w3 => ⟨e3, h3 _ σ3 H3 _ w3 fun b Γ4 H4 ⟨hb, hf, ht⟩ w4 => ?_⟩
      subst hb
      have a1 := A1 i xs[i] (by simp [hlt])
      cases hpx : p xs[i] with
      | true =>
        rw [hpx] at a1
        refine iteT (ht hpx _ σ3 H4 _ w4 fun v o Γ5 H5 ⟨eo, e5⟩ ⟨B5, S5, w5⟩ => ?_)
        obtain ⟨B6, S6, w6, _⟩ := w5.fz
        obtain ⟨us, S7, hus, hlen, w7⟩ := w6.appTop
        refine ⟨us, hus, by rw [hlen]; exact Nat.lt_of_le_of_lt (Nat.le_trans (Al i) hz) (by decide), B6, S7, ?_⟩
        have w8 := w7.wipe (js := js)
        rw [e5, e3, eo] at w8
        rw [a1]
        exact w8
      | false =>
        rw [hpx] at a1
        obtain ⟨B4, S4, w4⟩ := w4
        refine iteF ⟨B4, S4, ?_⟩
        have w8 := w4.wipe (js := js)
        rw [hf hpx, e3] at w8
        rw [a1]
        exact w8
    · have ei : i = xs.length := by omega
      subst ei
      rw [List.length_map] at q1
      refine .inl ⟨q1, k _ _ Γ1 H' hp ⟨B', S', HW.unwipe ?_ hj⟩⟩
      have e : A xs.length = ((xs.filter p).map f).map O.d := by simp [A]
      rw [e] at w
      exact w.under hl'
end
end SK
namespace SK
open PySem PySem.Spec PyProof.Rows L2
def iSeq (K : PySem.W.Frag) (tl : TE) : TI := fun σ H R => tl σ H fun x H1 => (∃ a, x = .ref a ∧ (∃ xs, SqL K H1 a xs) ∧ R (Itl K a) H1) ∨ ((∃ a, x = .ref a ∧ (∃ xs, SqT K H1 a xs) ∧ R (Itt K a) H1) ∨ ∃ s, x = .str s ∧ R (Its s) H1)
theorem pi_seq {X : Cx} {tg l : Expr} {tl : TE} (hl : PE X l tl) : PI X tg l (iSeq X.K tl) := by
  refine ⟨fun pins s σ H R I h => ?_⟩
  -- the three kinds, each by its own rule over a value that is there
  refine thn (hl.run pins s σ H _ I h) fun v s1 ⟨x, H1, I1, r1, q1⟩ => ?_
  rcases q1 with ⟨a, e, ⟨xs, hq⟩, q⟩ | ⟨a, e, ⟨xs, hq⟩, q⟩ | ⟨z, e, q⟩
  · subst e
    cases r1
    obtain ⟨its, rv, p, hz⟩ := I1.list hq
    refine wpAny_pyIter_list p.isList ?_
    refine ⟨s1.heap.objs.size, [s1.heap.objs.size], _, _, H1, rfl, I1.kept (t' := s1.toks) fun b o e => Heap.get?_push_of_some _ e, turn_list a _, ⟨_, Heap.get?_push_size _ rfl, rfl, rfl⟩, fun b hb => ?_, q⟩
    have e : b = s1.heap.objs.size := by simpa using hb
    subst e
    exact I1.fpOk (Nat.le_refl _) (I1.hok.fresh (Nat.le_refl _))
  · subst e
    cases r1
    obtain ⟨its, rv, p, hz⟩ := I1.tuple hq
    refine wpAny_pyIter_tuple (show s1.heap.IsTuple a its.toArray from p) ?_
    refine ⟨s1.heap.objs.size, [s1.heap.objs.size], _, _, H1, rfl, I1.kept (t' := s1.toks) fun b o e => Heap.get?_push_of_some _ e, turn_tuple a _, ⟨_, Heap.get?_push_size _ rfl, rfl, rfl⟩, fun b hb => ?_, q⟩
    have e : b = s1.heap.objs.size := by simpa using hb
    subst e
    exact I1.fpOk (Nat.le_refl _) (I1.hok.fresh (Nat.le_refl _))
  · subst e
    obtain ⟨t, rfl⟩ := r1
    cases ha : z.cps.all (· < 128)
    · exact wpAny_pyIter_wide ha (pi_one (tk := s1.toks) I1 _ (turn_str _ z t "str_iterator" (.inr rfl)) ⟨_, Heap.get?_push_size _ rfl, rfl, rfl⟩ q)
    · exact wpAny_pyIter_ascii ha (pi_one (tk := s1.toks) I1 _ (turn_str _ z t "str_ascii_iterator" (.inl rfl)) ⟨_, Heap.get?_push_size _ rfl, rfl, rfl⟩ q)
def rInsert : V → List V → Hp → VK → Prop := fun x vs H Q => ∃ (l : Addr) (xs : List V) (i : Int) (y : V), x = .ref l ∧ vs = [.int i, y] ∧ H l = some (.lst xs) ∧ xs.length < sizeLine ∧ 0 ≤ i ∧ i < 2 ^ 63 ∧
    Q .non (upd H l (.lst (xs.take i.toNat ++ [y] ++ xs.drop i.toNat)))
def rIsiG (K : PySem.W.Frag) : List V → Hp → VK → Prop := fun xs H Q => rIsi K xs H Q ∨ rIsiT K xs H Q
/-- o[i] = v of a list or a dict -/
def rSetG : TSet := fun o i v H Q => rSetL o i v H Q ∨ ∃ a H', o = .ref a ∧ DPut H a i v H' ∧ Q H'
theorem set_G {X : Cx} (hu : X.A.units + 1 < cLine) : PSet X rSetG := by
  intro pins s σ H o i v ov iv u Q I ro ri rv h
  rcases h with h | ⟨a, H', e, g, q⟩
  · exact set_list pins s σ H o i v ov iv u Q I ro ri rv h
  · subst e
    cases ro
    exact d_setItem hu I g ri rv fun s' I' => ⟨H', I', q⟩
def ipAddG : TIp := fun x y H Q => rI0 (fun i j => .int (i + j)) x y H Q ∨ ∃ i j, x = .str i ∧ y = .str j ∧ i.length + j.length ≤ sizeLine ∧ Q (.str (i ++ j)) H
def ipSubG : TIp := rI0 fun i j => .int (i - j)
section
variable {K : PySem.W.Frag} {F B0 H H' B B' : Hp} {τ τs : List V} {T os : List O} {σ : L2.St} {Γ : En} {S S1 S2 : Ad} {v w : V} {o p : O} {x : D} {post : O → En → Prop} {ta tb tc te td ty tv : TE} {tt tu : TT} {i : Nat} {posts : List D → En → Prop} {postt : Bool → En → Prop} {posts1 : En → Prop} {Dd : EG} {xs : List D} {vs : List V} {r r' : R2}
/-- what a walk finds in a thing -/
inductive Wk : D → List D → Prop
  | seq {x : D} {xs : List D} : D.seq? x = some xs → Wk x xs
  | tup {xs : List D} : Wk (.tup xs) xs
  | str {s : Str} : Wk (.str s) (sgnD s)
theorem goi_seq {tl : TE} {posti : List D → List D → En → Prop} (h : Go K F B0 tl T Γ fun o Γ1 => ∃ xs, Wk o.fz xs ∧ posti xs [o.fz] Γ1) : GoI K F B0 (iSeq K tl) T Γ posti := fun τ σ H Q hw k =>
  h τ σ H _ hw fun v o Γ1 H1 ⟨xs, q, h1⟩ ⟨_, _, w1⟩ => by
    obtain ⟨B2, S2, w2, _⟩ := w1.fz
    obtain ⟨r, S3, _, w3⟩ := w2.popd
    generalize o.fz = y at r q h1 w2
    cases q with
    | seq q =>
      obtain ⟨a, vs, e, sq, rl⟩ := r.seqL q
      subst e
      exact .inl ⟨a, rfl, ⟨vs, w2.pu.sqL sq⟩, k (Itl K a) [.ref a] [y] xs Γ1 H1 h1 ⟨_, _, w2⟩ rfl (iter_list q)⟩
    | tup =>
      cases r with
      | @tup a vs _ sq rl => exact .inr (.inl ⟨a, rfl, ⟨vs, w2.pu.sqT sq⟩, k (Itt K a) [.ref a] [.tup xs] xs Γ1 H1 h1 ⟨_, _, w2⟩ rfl iter_tup⟩)
    | @str s =>
      cases r
      refine .inr (.inr ⟨s, rfl, k _ [.str s] [.str s] _ Γ1 H1 h1 ⟨_, _, w2⟩ rfl ?_⟩)
      intro τ T σ Γ H B S h _
      exact iter_str τ T σ Γ H B S h .nil
/-- a < b < c -/
theorem go_chain (h : Go K F B0 ta T Γ fun o1 Γ1 => Go K F B0 tb (.d o1.fz :: T) Γ1 fun o2 Γ2 => Op2 K F B0 r o1.fz o2.fz (.d o2.fz :: T) Γ2 fun o Γ3 => ∃ b, o = .d (.bl b) ∧
    (b = true → Go K F B0 tc (.d o2.fz :: T) Γ3 fun o3 Γ4 => Op2 K F B0 r' o2.fz o3.fz T Γ4 post) ∧ (b = false → post (.d (.bl false)) Γ3)) : Go K F B0 (tChain r r' ta tb tc) T Γ post := fun τ σ H Q hw k =>
  h τ σ H _ hw fun v1 o1 Γ1 H1 h1 ⟨_, _, w1⟩ => by
    obtain ⟨_, _, w1, _⟩ := w1.fz
    refine h1 _ σ H1 _ ⟨_, _, w1⟩ fun v2 o2 Γ2 H2 h2 ⟨_, _, w2⟩ => ?_
    obtain ⟨_, _, w2, e2⟩ := w2.fz
    obtain ⟨r2, _, _, w2'⟩ := w2.popd
    obtain ⟨r1, _, _, w0⟩ := w2'.popd
    have w3 := w0.pushd r2
    refine h2 _ σ H2 _ _ v1 v2 _ w3 r1 r2 fun v o Γ3 H3 ⟨b, eo, ht, hf⟩ ⟨_, _, w4⟩ => ?_
    subst eo
    obtain ⟨rb, _, _, w5⟩ := w4.popd
    cases rb
    refine ⟨b, rfl, ?_⟩
    cases b with
    | true =>
      refine iteT (ht rfl _ σ H3 _ ⟨_, _, w5⟩ fun v3 o3 Γ4 H4 h4 ⟨_, _, w6⟩ => ?_)
      obtain ⟨_, _, w6, r3, _⟩ := w6.fzd
      obtain ⟨r2', _, _, w6⟩ := w6.popd
      exact h4 τ σ H4 _ _ v2 v3 Q w6 r2' r3 k
    | false =>
      obtain ⟨_, _, _, w6⟩ := w5.popd
      exact iteF (k _ _ Γ3 H3 (hf rfl) ⟨_, _, w6.pushd .bl⟩)
theorem oa_isiG {x : D} {n c : String} {b : Bool} (t : TyD x n) (q : kitB n c = some b) (h : post (.d (.bl b)) Γ) : OpA K F B0 (rIsiG K) [x, .ty c] T Γ post := fun τ σ H B S vs Q w rl k =>
  .inl (oa_isi t q h τ σ H B S vs Q w rl k)
theorem oi_add {a b : Int} (h : post (.d (.int (a + b))) Γ) : Op2 K F B0 ipAddG (.int a) (.int b) T Γ post := fun τ σ H B S v1 v2 Q w r1 r2 k => by
  cases r1; cases r2
  exact .inl ⟨a, b, rfl, rfl, k _ _ Γ H h ⟨_, _, w.pushd .int⟩⟩
theorem oi_sub {a b : Int} (h : post (.d (.int (a - b))) Γ) : Op2 K F B0 ipSubG (.int a) (.int b) T Γ post := fun τ σ H B S v1 v2 Q w r1 r2 k => by
  cases r1; cases r2
  exact ⟨a, b, rfl, rfl, k _ _ Γ H h ⟨_, _, w.pushd .int⟩⟩
theorem RL.ints : ∀ {vs : List V} {ns : List Int}, RL K B vs (ns.map D.int) → vs = ns.map V.int
  | [], [], _ => rfl
  | v :: vs, n :: ns, .cons r t => by cases r; rw [RL.ints t]; rfl
  | _ :: _, [], r => by cases r
  | [], _ :: _, r => by cases r
/-- d[k] = e, xs[i] = e, as a target -/
theorem gog_setD {ti : TE} (h : Go K F B0 ti (o :: T) Γ fun ok Γ2 => ∃ k kvs, ok = .d (kD k) ∧ Γ2[i]? = some (some (.od kvs)) ∧ kvs.length < 100000 ∧ posts1 (Γ2.set i (some (.od (dput kvs k o))))) (h0 : ∃ kvs0, Γ[i]? = some (some (.od kvs0))) :
    GoG K F B0 (gSub (tVar i) ti rSetG) o T Γ posts1 := fun τ σ H v1 Q ⟨B1, S1, w1⟩ k' => by
  obtain ⟨kvs0, e0⟩ := h0
  obtain ⟨v, T1, a1, r1, _, _⟩ := w1.mut1 e0
  refine ⟨v, a1, h (v1 :: τ) σ H _ ⟨B1, S1, w1⟩ fun v2 o2 Γ2 H2 ⟨k, kvs, eo, e2, hz, h2⟩ ⟨B2, S2, w2⟩ => ?_⟩
  subst eo
  obtain ⟨rk, S3, _, w3⟩ := w2.popd
  have ek := rk.kV
  subst ek
  obtain ⟨v', S5, So, a2, r2, ro, dj, _, _, f⟩ := w3.mut2 e2
  rw [a1] at a2
  cases a2
  cases r2 with
  | @od _ S4 a ws _ ha hs hn hc nd ek rs =>
  have len : ws.length = kvs.length := by have := congrArg List.length ek; simpa using this
  refine .inr ⟨a, _, rfl, .inl ⟨ws, k, hc, rfl, by rw [len]; exact Nat.lt_of_lt_of_le hz (by decide), rfl⟩, ?_⟩
  obtain ⟨S', w4⟩ := f a (.dK (putK ws k v1)) (.od (dput kvs k o)) ha (.od (S' := fun b => S4 b ∨ So b) (.inl ha) (fun b z => z.imp (hs b) id) (fun z => z.elim hn fun z => dj a ha z) upd_same (dput_nodup nd) (by rw [putK_dput]; exact dput_keys ek) (by
    rw [putK_dput]
    exact (rs.dput ro nd ek fun b z => dj b (hs b z)).at fun b u z q => by
      rw [upd_ne (fun e => by subst e; exact z.elim hn fun z => dj b ha z)]; exact q))
  exact k' σ _ _ h2 ⟨B2, S', w4⟩
theorem fl_ins {So : Ad} (ro : RO K B H So w o) {Si : Ad} : ∀ {vs : List V} {xs : List O} (n : Nat), RS K B H Si (vs.map some) (xs.map some) → (∀ b, Si b → ¬ So b) → RS K B H (fun b => Si b ∨ So b) ((vs.take n ++ [w] ++ vs.drop n).map some) ((xs.take n ++ [o] ++ xs.drop n).map some) := by
  intro vs xs n r dj
  induction n generalizing vs xs Si with
  | zero => exact .cons (S1 := So) (S2 := Si) (fun b z => .inr z) (fun b z => .inl z) (fun b z y => dj b y z) ro r
  | succ n ih =>
    cases vs with
    | nil =>
      cases xs with
      | nil => exact .cons (S1 := So) (S2 := Si) (fun b z => .inr z) (fun b z => .inl z) (fun b z y => dj b y z) ro r
      | cons x xs => cases r
    | cons v vs =>
      cases xs with
      | nil => cases r
      | cons x xs =>
        cases r with
        | @cons _ T1 T2 _ _ _ _ s1 s2 d r rs =>
          have := ih rs fun b z => dj b (s2 b z)
          simp only [List.take_succ_cons, List.drop_succ_cons, List.cons_append, List.map_cons]
          exact .cons (S1 := T1) (S2 := fun b => T2 b ∨ So b) (fun b z => .inl (s1 b z)) (fun b z => z.imp (s2 b) id) (fun b z y => y.elim (d b z) (dj b (s1 b z))) r this
/-- xs.insert(i, e), xs a name -/
theorem gos_insert {ti : TE} (h : Go K F B0 ti T Γ fun oi Γ1 => ∃ j : Int, oi = .d (.int j) ∧ 0 ≤ j ∧ j < 2 ^ 63 ∧ Go K F B0 te (.d (.int j) :: T) Γ1 fun o Γ2 => ∃ xs, Γ2[i]? = some (some (.ol xs)) ∧ xs.length < 100000 ∧ Dd.nx (Γ2.set i (some (.ol (xs.take j.toNat ++ [o] ++ xs.drop j.toNat))))) (h0 : ∃ xs, Γ[i]? = some (some (.ol xs))) :
    GoS K F B0 (tDrop (tBM K "list" rInsert (tVar i) (tCons ti (tCons te tNil)))) T Γ Dd := fun τ σ H De hw s => by
  obtain ⟨B, S, w⟩ := hw
  obtain ⟨xs0, e0⟩ := h0
  obtain ⟨v, S1, a1, r1, _, _⟩ := w.mut1 e0
  cases r1 with
  | @ol _ _ a vs _ _ _ _ hc _ =>
  refine ⟨.ref a, a1, Or.inl ⟨rfl, vs, SqL.of hc⟩, h τ σ H _ ⟨B, S, w⟩ fun v1 o1 Γ1 H1 ⟨j, ej, hj0, hj1, h1⟩ w1 => ?_⟩
  subst ej
  refine h1 _ σ H1 _ w1 fun v2 o2 Γ2 H2 ⟨xs, e2, hz, h2⟩ ⟨B2, S2, w2⟩ => ?_
  have rj : R K B2 v1 (.int j) := by
    obtain ⟨_, _, _, _, _, _, wt⟩ := w2.pop
    exact wt.popd.1
  cases rj
  have w2' := HW.under (τs := [.int j]) (os := [.d (.int j)]) w2 rfl
  obtain ⟨v', S3, So, a2, r2, ro, dj, _, _, f⟩ := w2'.mut2 e2
  rw [a1] at a2
  cases a2
  cases r2 with
  | @ol _ S4 _ us _ ha hs hn hc2 rs =>
  have len : us.length = xs.length := by simpa using rs.len
  refine ⟨a, us, j, v2, rfl, rfl, hc2, by rw [len]; exact Nat.lt_of_lt_of_le hz (by decide), hj0, hj1, ?_⟩
  obtain ⟨S', w3⟩ := f a (.lst (us.take j.toNat ++ [v2] ++ us.drop j.toNat)) (.ol (xs.take j.toNat ++ [o2] ++ xs.drop j.toNat)) ha (.ol (S' := fun b => S4 b ∨ So b) (.inl ha) (fun b z => z.imp (hs b) id) (fun z => z.elim hn fun z => dj a ha z) upd_same
    ((fl_ins ro j.toNat rs fun b z => dj b (hs b z)).at fun b u z q => by
      rw [upd_ne (fun e => by subst e; exact z.elim hn fun z => dj b ha z)]; exact q))
  exact s.nx σ _ _ h2 ⟨B2, S', w3⟩
end
section
variable (P : Program) (w : World) (K : PySem.W.Frag) (mg : Str → Option Value) (base : Heap)
/-- a def stands at a module's name -/
def Df (x : Str) (st : Stmt) : Prop := ∃ f fd, Fun K x x st f fd ∧ mg x = some (.ref f)
/-- .. and keeps a contract -/
def Cal (x : Str) (k : Nat) (ps : List Str) (C : Ct) : Prop := ∃ f fd, FnOk P w K mg base CX0 k f fd ps (spP K C) ∧ mg x = some (.ref f) ∧ PySem.W.keepIn K (.ref f) = true ∧ Binds K fd ps [] ∧ ∃ oc od sl, K.lookup f = some ⟨oc, od, .func fd, sl⟩
end
theorem df_mk {K : PySem.W.Frag} {mg : Str → Option Value} {h : Heap} (X : K.In h) (G : h.Ns mainGlobals mg) {x : Str} {st : Stmt} {f : Addr} {oc : Value} {od an : Option Addr} {sl : Array (Option Value)} {kV dc pm cd ct : Value}
    (a : PySem.W.nsIn K mainGlobals x = some (some (.ref f))) (l : K.lookup f = some ⟨oc, od, .func (PySem.W.fnOf x x (defArgs st) (defBody st) (defScope st) .none kV dc pm an cd ct), sl⟩)
    (c : PySem.W.codeIn K cd x = true) (k : PySem.W.keepIn K (.ref f) = true) : Df K mg x st := ⟨f, _, fun_mk (st := st) l c k, PySem.W.mg_of X G a⟩
theorem Fun.lk {K : PySem.W.Frag} {x : Str} {st : Stmt} {f : Addr} {fd : FuncData} (F : Fun K x x st f fd) : ∃ oc od sl, K.lookup f = some ⟨oc, od, .func fd, sl⟩ := by
  obtain ⟨oc, od, kV, doc, pm, an, cdv, ct, osl, _, l, _⟩ := F.ex
  exact ⟨oc, od, osl, l⟩
theorem fn_same {P : Program} {w : World} {K : PySem.W.Frag} {mg : Str → Option Value} {base : Heap} {CX : CXT} {k : Nat} {f : Addr} {fd fd2 : FuncData} {ps : List Str} {sp : Sp} {oc oc2 : Value} {od od2 : Option Addr} {sl sl2 : Array (Option Value)}
    (l : K.lookup f = some ⟨oc, od, .func fd, sl⟩) (l2 : K.lookup f = some ⟨oc2, od2, .func fd2, sl2⟩) (G : FnOk P w K mg base CX k f fd2 ps sp) : FnOk P w K mg base CX k f fd ps sp := by
  rw [l] at l2
  cases l2
  exact G
/-- the law's own promise -/
def lawC : Ct := fun xs p q => ∃ ns : List Int, xs = [.sq (ns.map D.int)] ∧ ns.length ≤ 63 ∧ (∀ z ∈ ns, Builtin.Int.intBits z ≤ 1048576) ∧ p = (fun o => o = .d (.bl true)) ∧ q = noX
theorem RL.ofInts {K : PySem.W.Frag} {B : Hp} : ∀ ns : List Int, RL K B (ns.map V.int) (ns.map D.int)
  | [] => .nil
  | _ :: r => .cons .int (RL.ofInts r)
theorem law_walk {l : PySem.W.OpenLaw} {q : Program} {loose : List Str} {XP : (Str → Option Value) → Heap → Prop} {YP : World → Heap → Prop} {d : DefRec} {K : Params → PySem.W.Frag} {lv : Nat} (hn : l.most = some 63) (hdf : d.params.defaults = [])
    (hr : Room lv callerA) (hY : ∀ (w : World) (h : Heap), YP w h → (K w.params).In h)
    (F : ∀ (w : World) (mg : Str → Option Value) (fa : Addr) (h : Heap), (K w.params).In h → h.Ns mainGlobals mg → mg d.name = some (.ref fa) →
      ∃ fd : FuncData, (∀ (s : Shared) (u : Value), BindsTo s fd ⟨[u], []⟩ [("_law_script", u)]) ∧ ∀ base : Heap, (K w.params).In base → base.Ns mainGlobals mg → FnOk l.prog w (K w.params) mg base CX0 lv fa fd ["_law_script"] (spP (K w.params) lawC)) :
    PySem.W.WalkO q loose XP YP l.row.toRowW d [] (fun f vs => PySem.call f vs) :=
  L2.walk_ofB (n := 63) (k := lv) (x := "_law_script") (CX := fun _ => CX0) (sp := fun w => spP (K w.params) lawC) hn (by decide) hdf hr hY F
    (fun w H a ns hl hb _ hS => ⟨H, [.sq (ns.map D.int)], _, _, .refl H, .cons (.sq hS (RL.ofInts ns)) .nil, ⟨ns, rfl, hl, hb, rfl, rfl⟩,
      (fun v o B' S' H' e _ _ _ _ _ ro => by cases e; cases ro with | d r => cases r; rfl), fun _ _ _ _ _ e => e.elim⟩) fun _ _ _ _ _ z => z
theorem fz_d {x : D} : (O.d x).fz = x := rfl
theorem fzL_fl {xs : List D} : fzL (xs.map O.d) = xs := by
  induction xs with
  | nil => rfl
  | cons x xs ih => rw [List.map_cons, fzL, ih]; rfl
theorem fz_fl {xs : List D} : (O.ol (xs.map O.d)).fz = .lst xs := by
  show D.lst (fzL (xs.map O.d)) = .lst xs
  congr 1
  induction xs with
  | nil => rfl
  | cons x xs ih => rw [List.map_cons, fzL, ih]; rfl
theorem fz_fk {xs : List (Key × D)} : (O.od (xs.map fun p => (p.1, O.d p.2))).fz = .dic xs := by
  show D.dic (fzK (xs.map fun p => (p.1, O.d p.2))) = .dic xs
  congr 1
  induction xs with
  | nil => rfl
  | cons x xs ih => rw [List.map_cons, fzK, ih]; rfl
end SK
namespace SK
open PySem PySem.Spec PyProof.Rows L2
section
variable {X : Cx} {K : PySem.W.Frag} {e l tg a b : Expr} {es : List Expr} {te tl ta tb : TE} {t : TA} {pos apos cpos tpos p : Pos}
theorem k_add (h : X.K = K) : OpR X (binaryOp .Add) (rAddG K) := by cases h; exact op_addG
theorem k_eq (h : X.K = K) (hu : X.A.units + 64 < cLine) : OpR X (compareOp .Eq) (rEqG K) := by cases h; exact op_eqG hu
theorem k_ne (h : X.K = K) (hu : X.A.units + 64 < cLine) : OpR X (compareOp .NotEq) (rNeG K) := by cases h; exact op_neG hu
theorem k_lt (h : X.K = K) (hu : X.A.units < cLine) : OpR X (compareOp .Lt) (rLtG K) := by cases h; exact op_ltG hu
theorem k_in (h : X.K = K) (hu : X.A.units + 1 < cLine) : OpR X (compareOp .In) (rInG K) := by cases h; exact op_inG hu
theorem k_ix (h : X.K = K) (hu : X.A.units + 1 < cLine) : IxR X (rIxG K) := by cases h; exact ix_G hu
theorem k_sl (h : X.K = K) : SlR X (rSlG K) := by cases h; exact sl_G
theorem k_len (h : X.K = K) : CallR X (.builtin "len") (rLenG K) := by cases h; exact call_lenG
theorem k_list (h : X.K = K) (hc : X.calm = true) : CallR X (.type "list") (rListG K) := by cases h; exact call_listG hc
theorem k_seq (h : X.K = K) (hl : PE X l tl) : PI X tg l (iSeq K tl) := by cases h; exact pi_seq hl
theorem k_tup {k n : Nat} {g : TGs} (h : X.K = K) (hc : X.calm = true) (hg : PGs X es g) (hn : (assignEach es X.env).length = n := by rfl) (hst : (assignEach es X.env).findIdx? (·.1) = none := by rfl) : PG X (.Tuple es k pos) (gTup K n g) := by cases h; exact pg_tup hc hg hn hst
theorem k_bm {to : TE} {T : String} {r : V → List V → Hp → VK → Prop} (h : X.K = K) (q : PE X e (tBM X.K T r to t)) : PE X e (tBM K T r to t) := by cases h; exact q
theorem k_bm0 {to : TE} {T : String} {r : V → List V → Hp → VK → Prop} (h : X.K = K) (q : PE X e (tBM0 X.K T r to)) : PE X e (tBM0 K T r to) := by cases h; exact q
theorem k_fld {f : Str} (h : X.K = K) (q : PE X e (tFld X.K ta f)) : PE X e (tFld K ta f) := by cases h; exact q
end
end SK
namespace SK
open PySem PySem.Spec PyProof.Rows L2
section
variable {K : PySem.W.Frag} {F B0 H H' B B' : Hp} {τ τs : List V} {T os : List O} {σ : L2.St} {Γ : En} {S S1 S2 : Ad} {v w : V} {o p : O} {x : D} {post : O → En → Prop} {ta : TA} {tb tc te td ty tv tl : TE} {tt tu : TT} {i j : Nat} {posts : List D → En → Prop} {postt : Bool → En → Prop} {posts1 : En → Prop} {Dd : EG} {xs : List D} {vs : List V} {r r' : R2}
theorem atI_map {α : Type} {xs : List α} {e : α → D} {d : α} {i : Int} (h0 : 0 ≤ i) (h1 : i < xs.length) : atI (xs.map e) i = some (e (xs.getD i.toNat d)) := by
  have h2 : i.toNat < xs.length := by omega
  unfold atI ixN
  rw [if_pos h0, List.length_map, if_pos h1]
  simp [h2]
theorem o2_ixN {α : Type} {xs : List α} {e : α → D} (d : α) {x : D} {i : Int} (q : x.items? = some (xs.map e)) (h0 : 0 ≤ i) (h1 : i < xs.length) (h : post (.d (e (xs.getD i.toNat d))) Γ) : Op2 K F B0 (rIxG K) x (.int i) T Γ post :=
  o2_ix q (atI_map h0 h1) h
theorem got_yes (h : postt true Γ) : GoT K F B0 tYes T Γ postt := fun τ σ H Q hw k => k true Γ H h hw
/-- [f(x) for x in xs if p(x)], the name alone -/
theorem go_lcS {α : Type} (e : α → D) (p : α → Bool) (f : α → D) (h : Go K F B0 tl T Γ fun o Γ1 => ∃ ys : List α, Wk o.fz (ys.map e) ∧ ys.length ≤ 100000 ∧ j < Γ1.length ∧ Γ1.set j none = Γ1 ∧
    (∀ (x : α) (acc : List O), x ∈ ys → GoT K F B0 tt (.ol acc :: .d o.fz :: T) (Γ1.set j (some (.d (e x)))) fun b Γ3 => b = p x ∧ (p x = false → wipeE Γ3 [j] = Γ1) ∧
      (p x = true → Go K F B0 te (.ol acc :: .d o.fz :: T) Γ3 fun o Γ4 => o.fz = f x ∧ wipeE Γ4 [j] = Γ1)) ∧
    post (.ol (((ys.filter p).map f).map O.d)) Γ1) : Go K F B0 (tLc (iSeq K tl) (gName j) tt te [j]) T Γ post := by
  refine go_lc (goi_seq fun τ σ H Q hw k => h τ σ H Q hw fun v o Γ1 H1 ⟨ys, wk, hz, hj, hs, hb, hp⟩ w => k v o Γ1 H1 ⟨ys.map e, wk, ys, e, p, f, rfl, hz, ?_, ?_, hp⟩ w)
  · intro j' hj'
    have e : j' = j := by simpa using hj'
    subst e
    exact hs
  · intro m y acc hy
    exact gow_name (by simp) hj (hb y acc (List.mem_of_getElem? hy))
variable {t1 t2 : TS} {g : TG} {wi : TI} {tgt : TG} {ip : TIp}
/-- a word between a statement and what follows -/
theorem gos_cut (M : En → Prop) (h : GoS K F B0 t1 T Γ { Dd with nx := M }) (h2 : ∀ Γ', M Γ' → GoS K F B0 t2 T Γ' Dd) : GoS K F B0 (tSeq t1 t2) T Γ Dd :=
  gos_seq fun τ σ H De hw s => h τ σ H De hw ⟨fun σ Γ H q w => s.nx σ Γ H (h2 Γ q) w, s.rt, s.bk, s.ct⟩
theorem gos_sA (h : GoS K F B0 (tAsg te g) T Γ { Dd with nx := fun Γ1 => GoS K F B0 t2 T Γ1 Dd }) : GoS K F B0 (tSeq (tAsg te g) t2) T Γ Dd := gos_seq h
theorem gos_sD (h : GoS K F B0 (tDrop te) T Γ { Dd with nx := fun Γ1 => GoS K F B0 t2 T Γ1 Dd }) : GoS K F B0 (tSeq (tDrop te) t2) T Γ Dd := gos_seq h
theorem gos_sN (h : GoS K F B0 t2 T Γ Dd) : GoS K F B0 (tSeq tNext t2) T Γ Dd := gos_seq (gos_next h)
theorem gos_sU (h : GoS K F B0 (tAug i te ip) T Γ { Dd with nx := fun Γ1 => GoS K F B0 t2 T Γ1 Dd }) : GoS K F B0 (tSeq (tAug i te ip) t2) T Γ Dd := gos_seq h
theorem gos_sF (h : GoS K F B0 (tFor wi g t1) T Γ { Dd with nx := fun Γ1 => GoS K F B0 t2 T Γ1 Dd }) : GoS K F B0 (tSeq (tFor wi g t1) t2) T Γ Dd := gos_seq h
theorem gos_sW (h : GoS K F B0 (tWhile tt t1) T Γ { Dd with nx := fun Γ1 => GoS K F B0 t2 T Γ1 Dd }) : GoS K F B0 (tSeq (tWhile tt t1) t2) T Γ Dd := gos_seq h
theorem gos_sIR {u : TS} (h : GoS K F B0 (tIfS tt (tRet te) u) T Γ { Dd with nx := fun Γ1 => GoS K F B0 t2 T Γ1 Dd }) : GoS K F B0 (tSeq (tIfS tt (tRet te) u) t2) T Γ Dd := gos_seq h
theorem gos_sIC {u : TS} (h : GoS K F B0 (tIfS tt tCont u) T Γ { Dd with nx := fun Γ1 => GoS K F B0 t2 T Γ1 Dd }) : GoS K F B0 (tSeq (tIfS tt tCont u) t2) T Γ Dd := gos_seq h
theorem gos_sIB {u : TS} (h : GoS K F B0 (tIfS tt tBreak u) T Γ { Dd with nx := fun Γ1 => GoS K F B0 t2 T Γ1 Dd }) : GoS K F B0 (tSeq (tIfS tt tBreak u) t2) T Γ Dd := gos_seq h
theorem rngD_get {lo : Int} {n k : Nat} {d : D} (h : (rngD lo n)[k]? = some d) : k < n ∧ d = .int (lo + (k : Int)) := by
  have hi : k < n := by
    have := (List.getElem?_eq_some_iff.mp h).1
    simpa [rngD] using this
  refine ⟨hi, ?_⟩
  simp [rngD, hi] at h
  exact h.symm
theorem mapD_get {α : Type} {xs : List α} {e : α → D} {k : Nat} {d : D} (h : (xs.map e)[k]? = some d) : ∃ x, xs[k]? = some x ∧ d = e x := by
  rw [List.getElem?_map] at h
  cases q : xs[k]? with
  | none => rw [q] at h; cases h
  | some x => rw [q] at h; exact ⟨x, rfl, (Option.some.inj h).symm⟩
theorem o2_ixDI {kvs : List (Key × D)} {n : Int} {y : D} (hi : dval kvs (.inl n) = some y) (h : post (.d y) Γ) : Op2 K F B0 (rIxG K) (.dic kvs) (.int n) T Γ post := o2_ixD (k := .inl n) hi h
theorem o2_inDI {kvs : List (Key × D)} {n : Int} (h : post (.d (.bl (dval kvs (.inl n)).isSome)) Γ) : Op2 K F B0 (rInG K) (.int n) (.dic kvs) T Γ post := o2_inD (k := .inl n) h
/-- d[n] = e, d a name, n a number -/
theorem gog_setDI {ti : TE} (h : Go K F B0 ti (o :: T) Γ fun ok Γ2 => ∃ n kvs, ok = .d (.int n) ∧ Γ2[i]? = some (some (.od kvs)) ∧ kvs.length < 100000 ∧ posts1 (Γ2.set i (some (.od (dput kvs (.inl n) o))))) (h0 : ∃ kvs0, Γ[i]? = some (some (.od kvs0))) :
    GoG K F B0 (gSub (tVar i) ti rSetG) o T Γ posts1 :=
  gog_setD (fun τ σ H Q hw k => h τ σ H Q hw fun v ok Γ2 H2 ⟨n, kvs, e, q⟩ w => k v ok Γ2 H2 ⟨.inl n, kvs, e, q⟩ w) h0
/-- data of nesting n at most that == tells -/
def Shp (n : Nat) (x : D) : Prop := x.pl = true ∧ x.py.canLay0 = true ∧ x.py.depth ≤ n
theorem Shp.mono {n m : Nat} {x : D} (h : Shp n x) (l : n ≤ m) : Shp m x := ⟨h.1, h.2.1, Nat.le_trans h.2.2 l⟩
theorem Shp.int {n : Nat} {i : Int} : Shp n (.int i) := ⟨rfl, by simp [D.py, PyData.canLay0], by simp [D.py, PyData.depth]⟩
theorem Shp.bl {n : Nat} {i : Bool} : Shp n (.bl i) := ⟨rfl, by simp [D.py, PyData.canLay0], by simp [D.py, PyData.depth]⟩
theorem Shp.non {n : Nat} : Shp n .non := ⟨rfl, by simp [D.py, PyData.canLay0], by simp [D.py, PyData.depth]⟩
theorem Shp.str {n : Nat} {s : Str} (h : PyData.strOk s = true) : Shp n (.str s) := ⟨rfl, by simpa [D.py, PyData.canLay0] using h, by simp [D.py, PyData.depth]⟩
theorem Shp.all {n : Nat} : ∀ {xs : List D}, (∀ x ∈ xs, Shp n x) → plL xs = true ∧ PyData.canLayAll0 (pyL xs) = true ∧ PyData.depthAll (pyL xs) ≤ n
  | [], _ => ⟨rfl, by simp [pyL, PyData.canLayAll0], by simp [pyL, PyData.depthAll]⟩
  | x :: xs, h => by
    obtain ⟨a, b, c⟩ := h x (by simp)
    obtain ⟨d, e, f⟩ := Shp.all (xs := xs) fun y hy => h y (List.mem_cons_of_mem _ hy)
    refine ⟨by simp [plL, a, d], by simp [pyL, PyData.canLayAll0, b, e], ?_⟩
    simp only [pyL, PyData.depthAll]
    omega
theorem Shp.lst {n : Nat} {xs : List D} (h : ∀ x ∈ xs, Shp n x) : Shp (n + 1) (.lst xs) := by
  obtain ⟨d, e, f⟩ := Shp.all h
  exact ⟨by simpa [D.pl] using d, by simpa [D.py, PyData.canLay0] using e, by simpa [D.py, PyData.depth] using f⟩
theorem Shp.tup {n : Nat} {xs : List D} (h : ∀ x ∈ xs, Shp n x) : Shp (n + 1) (.tup xs) := by
  obtain ⟨d, e, f⟩ := Shp.all h
  exact ⟨by simpa [D.pl] using d, by simpa [D.py, PyData.canLay0] using e, by simpa [D.py, PyData.depth] using f⟩
theorem Shp.lstM {α : Type} {n : Nat} {xs : List α} {e : α → D} (h : ∀ x, Shp n (e x)) : Shp (n + 1) (.lst (xs.map e)) := Shp.lst fun x hx => by
  obtain ⟨y, _, rfl⟩ := List.mem_map.mp hx
  exact h y
theorem Shp.ints {ns : List Int} : Shp 1 (.lst (ns.map D.int)) := Shp.lstM fun _ => Shp.int
theorem Shp.eqs {x y : D} (h : Shp 60 x) (h' : Shp 60 y) : x.eqs y := ⟨h.1, h'.1, by simp only [SeqAt.shaped, h.2.1, Bool.true_and, decide_eq_true_eq]; exact Nat.le_trans h.2.2 (by decide), by simp only [SeqAt.shaped, h'.2.1, Bool.true_and, decide_eq_true_eq]; exact Nat.le_trans h'.2.2 (by decide)⟩
theorem o2_eqSame (n : Nat) (hs : Shp n x) (hn : n ≤ 60) (h : post (.d (.bl true)) Γ) : Op2 K F B0 (rEqG K) x x T Γ post :=
  o2_eqD ((hs.mono hn).eqs (hs.mono hn)) (by rw [SeqAt.eqv_refl _ hs.2.1]; exact h)
theorem o2_neSame (n : Nat) (hs : Shp n x) (hn : n ≤ 60) (h : post (.d (.bl false)) Γ) : Op2 K F B0 (rNeG K) x x T Γ post :=
  o2_neD ((hs.mono hn).eqs (hs.mono hn)) (by rw [SeqAt.eqv_refl _ hs.2.1]; exact h)
end
end SK
namespace SK
open PySem PySem.Spec PyProof.Rows L2
section
variable {K : PySem.W.Frag} {F B0 H H' B B' : Hp} {τ τs : List V} {T os : List O} {σ : L2.St} {Γ : En} {S S1 S2 : Ad} {v w : V} {o p : O} {x : D} {post : O → En → Prop} {ta : TA} {tb tc te td ty tv tl : TE} {tt tu : TT} {i j : Nat} {posts : List D → En → Prop} {postt : Bool → En → Prop} {posts1 : En → Prop} {Dd : EG} {xs : List D} {vs : List V} {r r' : R2} {s : TS}
theorem HW.frz (w : HW K F B0 τ T σ Γ H B S) (e : Γ[i]? = some (some o)) : Ho K F B0 τ T σ (Γ.set i (some (.d o.fz))) H := by
  obtain ⟨v, S', a, w⟩ := w.take e
  obtain ⟨B', S'', w, _⟩ := w.fz
  obtain ⟨S3, w3⟩ := w.put (i := i) (by simpa using (List.getElem?_eq_some_iff.mp e).1)
  have hl : i < σ.length := (List.getElem?_eq_some_iff.mp a).1
  have e2 : σ.set i (some v) = σ := by
    apply List.ext_getElem?
    intro n
    by_cases hn : n = i
    · subst hn; rw [List.getElem?_set_self hl, a]
    · rw [List.getElem?_set_ne (Ne.symm hn)]
  rw [e2, List.set_set] at w3
  exact ⟨B', _, w3⟩
/-- from here on the slot's thing is not changed any more -/
theorem gos_frz (i : Nat) (e : Γ[i]? = some (some o)) (h : GoS K F B0 s T (Γ.set i (some (.d o.fz))) Dd) : GoS K F B0 s T Γ Dd := fun τ σ H De ⟨B, S, w⟩ q => h τ σ H De (w.frz e) q
theorem fzK_d {xs : List (Key × D)} : fzK (xs.map fun p => (p.1, O.d p.2)) = xs := by
  induction xs with
  | nil => rfl
  | cons x xs ih => rw [List.map_cons, fzK, ih]; rfl
theorem rngD_len {lo : Int} {n : Nat} : (rngD lo n).length = n := by simp [rngD]
theorem cutD_map {α : Type} (e : α → D) (xs : List α) (lo hi : Option Int) : cutD (xs.map e) lo hi = (cutD xs lo hi).map e := by
  simp [cutD]
theorem sIx_n {n d k : Nat} : HT.sIx n d (some (k : Int)) = min k n := by
  simp [HT.sIx]
  omega
theorem cutD_take {α : Type} {xs : List α} {k : Nat} : cutD xs none (some (k : Int)) = xs.take k := by
  unfold cutD
  rw [sIx_n]
  show (xs.drop 0).take (min k xs.length - 0) = _
  rcases Nat.le_total k xs.length with h | h
  · rw [Nat.min_eq_left h]; rfl
  · rw [Nat.min_eq_right h]; exact List.take_length.trans (List.take_of_length_le h).symm
theorem cutD_drop {α : Type} {xs : List α} {k : Nat} : cutD xs (some (k : Int)) none = xs.drop k := by
  unfold cutD
  rw [sIx_n]
  show (xs.drop (min k xs.length)).take (xs.length - min k xs.length) = _
  rcases Nat.le_total k xs.length with h | h
  · rw [Nat.min_eq_left h]
    apply List.take_of_length_le
    simp
  · rw [Nat.min_eq_right h]
    simp [List.drop_of_length_le h]
theorem cutD_mid {α : Type} {xs : List α} {j k : Nat} : cutD xs (some (j : Int)) (some (k : Int)) = (xs.take k).drop j := by
  unfold cutD
  rw [sIx_n, sIx_n]
  rw [List.drop_take]
  rcases Nat.le_total j xs.length with h | h
  · rw [Nat.min_eq_left h]
    rcases Nat.le_total k xs.length with h' | h'
    · rw [Nat.min_eq_left h']
    · rw [Nat.min_eq_right h']
      rw [List.take_of_length_le (by simp), List.take_of_length_le (by simp; omega)]
  · rw [Nat.min_eq_right h, List.drop_of_length_le h, List.drop_of_length_le (Nat.le_refl _)]
    simp
end
end SK
namespace SK
open PySem PySem.Spec PyProof.Rows L2
section
variable {K : PySem.W.Frag} {F B0 H H' B B' : Hp} {τ τs : List V} {T os : List O} {σ : L2.St} {Γ : En} {S S1 S2 : Ad} {v w : V} {o p : O} {x : D} {post : O → En → Prop} {ta : TA} {tb tc te td ty tv tl : TE} {tt tu : TT} {i j : Nat} {posts : List D → En → Prop} {postt : Bool → En → Prop} {posts1 : En → Prop} {Dd : EG} {xs : List D} {vs : List V} {r r' : R2} {s : TS}
/-- d.get(k, e) -/
theorem go_dget2 (h : Go K F B0 td T Γ fun o Γ1 => ∃ kvs, o.fz = .dic kvs ∧ Go K F B0 ty (.d (.dic kvs) :: T) Γ1 fun ok Γ2 => ∃ k, ok = .d (kD k) ∧ Go K F B0 te (.d (kD k) :: .d (.dic kvs) :: T) Γ2 fun oz Γ3 => post (.d ((dval kvs k).getD oz.fz)) Γ3) :
    Go K F B0 (tDGet2 td ty te) T Γ post := fun τ σ H Q hw kk =>
  h τ σ H _ hw fun v1 o1 Γ1 H1 ⟨kvs, e1, h1⟩ ⟨_, _, w1⟩ => by
    obtain ⟨B2, S2, w1, _⟩ := w1.fz
    rw [e1] at w1
    obtain ⟨r1, _⟩ := w1.popd
    cases r1 with | @dic a ws _ hd _ rk =>
    refine ⟨a, rfl, .inl ⟨ws, w1.pu.rd hd⟩, h1 _ σ H1 _ ⟨_, _, w1⟩ fun v2 o2 Γ2 H2 ⟨k, e2, h2⟩ w2 => ?_⟩
    subst e2
    refine h2 _ σ H2 _ w2 fun v3 o3 Γ3 H3 h3 ⟨_, _, w3⟩ => ?_
    obtain ⟨_, _, w3, r3, _⟩ := w3.fzd
    obtain ⟨r2, _, _, w4⟩ := w3.popd
    obtain ⟨r1, _, _, w5⟩ := w4.popd
    have ek := r2.kV
    subst ek
    cases r1 with | @dic _ ws2 _ hd2 _ rk2 =>
    refine ⟨valV ws2 k, .inl ⟨ws2, k, w5.pu.rd hd2, rfl, rfl⟩, ?_⟩
    rcases rk2.val (k := k) with ⟨u, z, q1, q2, r⟩ | ⟨q1, q2⟩
    · rw [q1]
      rw [q2] at h3
      exact kk _ _ _ _ h3 ⟨_, _, w5.pushd r⟩
    · rw [q1]
      rw [q2] at h3
      exact kk _ _ _ _ h3 ⟨_, _, w5.pushd r3⟩
theorem RS.split {σ1 : List (Option V)} {Γ1 : List (Option O)} : ∀ {σ0 : List (Option V)} {Γ0 : List (Option O)} {S : Ad}, σ0.length = Γ0.length → RS K B H S (σ0 ++ σ1) (Γ0 ++ Γ1) →
    ∃ S1 S2 : Ad, (∀ b, S1 b → S b) ∧ (∀ b, S2 b → S b) ∧ (∀ b, S1 b → ¬ S2 b) ∧ RS K B H S1 σ0 Γ0 ∧ RS K B H S2 σ1 Γ1
  | [], [], S, _, h => ⟨fun _ => False, S, fun _ z => z.elim, fun _ z => z, fun _ z => z.elim, .nil, h⟩
  | a :: σ0, b :: Γ0, S, l, h => by
    cases h with
    | un r =>
      obtain ⟨S1, S2, a1, a2, a3, a4, a5⟩ := RS.split (by simpa using l) r
      exact ⟨S1, S2, a1, a2, a3, .un a4, a5⟩
    | @cons _ T1 T2 _ _ _ _ s1 s2 dj h0 r =>
      obtain ⟨S1, S2, a1, a2, a3, a4, a5⟩ := RS.split (by simpa using l) r
      exact ⟨fun b => T1 b ∨ S1 b, S2, fun b z => z.elim (s1 b) fun z => s2 b (a1 b z), fun b z => s2 b (a2 b z), fun b z y => z.elim (fun z => dj b z (a2 b y)) fun z => a3 b z y, .cons (S1 := T1) (S2 := S1) (fun _ z => .inl z) (fun _ z => .inr z) (fun b z y => dj b z (a1 b y)) h0 a4, a5⟩
theorem RS.join {σ1 : List (Option V)} {Γ1 : List (Option O)} {S2 : Ad} (q : RS K B H S2 σ1 Γ1) : ∀ {σ0 : List (Option V)} {Γ0 : List (Option O)} {S1 : Ad}, (∀ b, S1 b → ¬ S2 b) → RS K B H S1 σ0 Γ0 → RS K B H (fun b => S1 b ∨ S2 b) (σ0 ++ σ1) (Γ0 ++ Γ1)
  | _, _, _, _, .nil => q.tr (.refl B) (fun _ z => .inr z) fun _ _ _ e => e
  | _, _, _, dj, .un r => .un (RS.join q dj r)
  | _, _, S1, dj, .cons (S1 := T1) (S2 := T2) s1 s2 d h r => .cons (S1 := T1) (S2 := fun b => T2 b ∨ S2 b) (fun b z => .inl (s1 b z)) (fun b z => z.imp (s2 b) id) (fun b z y => y.elim (d b z) (dj b (s1 b z))) h (RS.join q (fun b z => dj b (s2 b z)) r)
open Classical in
noncomputable def offH (H : Hp) (S : Ad) : Hp := fun a => if S a then none else H a
theorem offH_at {a : Addr} (h : S a) : offH H S a = none := if_pos h
theorem offH_no {a : Addr} (h : ¬ S a) : offH H S a = H a := if_neg h
/-- what stands at a cell of an owned thing -/
def Cell (H : Hp) (a : Addr) : Prop := (∃ vs, H a = some (.lst vs)) ∨ (∃ ws, H a = some (.dK ws)) ∨ (∃ ws, H a = some (.dT ws)) ∨ (∃ C dx ws, H a = some (.ins C dx ws)) ∨ ∃ b, H a = some (.own b)
mutual
theorem RO.tight : ∀ {S : Ad} {v : V} {o : O}, RO K B H S v o → ∃ S' : Ad, (∀ b, S' b → S b) ∧ RO K B H S' v o ∧ ∀ b, S' b → Cell H b
  | _, _, _, .d r => ⟨fun _ => False, fun _ z => z.elim, .d r, fun _ z => z.elim⟩
  | S, _, _, .ol (a := a) ha hs hn h r => by
    obtain ⟨S', q1, q2, q3⟩ := RS.tight r
    refine ⟨fun b => b = a ∨ S' b, fun b z => z.elim (fun e => e ▸ ha) fun z => hs b (q1 b z), .ol (.inl rfl) (fun _ z => .inr z) (fun z => hn (q1 _ z)) h q2, fun b z => z.elim (fun e => .inl ⟨_, e ▸ h⟩) (q3 b)⟩
  | S, _, _, .od (a := a) ha hs hn h nd e r => by
    obtain ⟨S', q1, q2, q3⟩ := RS.tight r
    refine ⟨fun b => b = a ∨ S' b, fun b z => z.elim (fun e => e ▸ ha) fun z => hs b (q1 b z), .od (.inl rfl) (fun _ z => .inr z) (fun z => hn (q1 _ z)) h nd e q2, fun b z => z.elim (fun e => .inr (.inl ⟨_, e ▸ h⟩)) (q3 b)⟩
  | S, _, _, .ot (a := a) ha hs hn h nd e r => by
    obtain ⟨S', q1, q2, q3⟩ := RS.tight r
    refine ⟨fun b => b = a ∨ S' b, fun b z => z.elim (fun e => e ▸ ha) fun z => hs b (q1 b z), .ot (.inl rfl) (fun _ z => .inr z) (fun z => hn (q1 _ z)) h nd e q2, fun b z => z.elim (fun e => .inr (.inr (.inl ⟨_, e ▸ h⟩))) (q3 b)⟩
  | S, _, _, .oi (a := a) (dx := dx) ha hd hs hn hn2 ne h h2 e r => by
    obtain ⟨S', q1, q2, q3⟩ := RS.tight r
    refine ⟨fun b => (b = a ∨ b = dx) ∨ S' b, fun b z => z.elim (fun e => e.elim (fun e => e ▸ ha) fun e => e ▸ hd) fun z => hs b (q1 b z), .oi (.inl (.inl rfl)) (.inl (.inr rfl)) (fun _ z => .inr z) (fun z => hn (q1 _ z)) (fun z => hn2 (q1 _ z)) ne h h2 e q2,
      fun b z => z.elim (fun e => e.elim (fun e => .inr (.inr (.inr (.inl ⟨_, _, _, e ▸ h⟩)))) fun e => .inr (.inr (.inr (.inr ⟨_, e ▸ h2⟩)))) (q3 b)⟩
  | S, _, _, .op h r => by
    obtain ⟨S', q1, q2, q3⟩ := RS.tight r
    exact ⟨S', q1, .op h q2, q3⟩
  | S, _, _, .atA r => by
    obtain ⟨S', q1, q2, q3⟩ := RO.tight r
    exact ⟨S', q1, .atA q2, q3⟩
theorem RS.tight : ∀ {S : Ad} {σ : List (Option V)} {Γ : List (Option O)}, RS K B H S σ Γ → ∃ S' : Ad, (∀ b, S' b → S b) ∧ RS K B H S' σ Γ ∧ ∀ b, S' b → Cell H b
  | _, _, _, .nil => ⟨fun _ => False, fun _ z => z.elim, .nil, fun _ z => z.elim⟩
  | _, _, _, .un r => by
    obtain ⟨S', q1, q2, q3⟩ := RS.tight r
    exact ⟨S', q1, .un q2, q3⟩
  | _, _, _, .cons s1 s2 d r t => by
    obtain ⟨S1, q1, q2, q3⟩ := RO.tight r
    obtain ⟨S2, p1, p2, p3⟩ := RS.tight t
    exact ⟨fun b => S1 b ∨ S2 b, fun b z => z.elim (fun z => s1 b (q1 b z)) fun z => s2 b (p1 b z), .cons (fun _ z => .inl z) (fun _ z => .inr z) (fun b z y => d b (q1 b z) (p1 b y)) q2 p2, fun b z => z.elim (q3 b) (p3 b)⟩
end
def tRaise (W : WX) (C : Addr) : TS := fun _ σ H => W (.ref C) none σ H
theorem gos_raise {W : WX} {X : Addr → Option (List (Str × D)) → En → Prop} {C : Addr} (wx : ∀ Cc fs d σ Γ H, X Cc fs Γ → HoX K F B0 σ Γ H d fs → W (.ref Cc) d σ H) (h : X C none Γ) : GoS K F B0 (tRaise W C) T Γ Dd :=
  fun τ σ H De ⟨B, S, w⟩ s => wx C none none σ Γ H h (.none w.bare rfl)
def tTry (K : PySem.W.Frag) (c : Value) (ts : Addr → Value → Option Addr → TS) (Wout : WX) (tb : WX → TS) : TS := fun De σ H => tb (wOnly K c ts Wout De) De σ H
def tTryAs (K : PySem.W.Frag) (c : Value) (i : Nat) (ts : Addr → Value → Option Addr → TS) (Wout : WX) (tb : WX → TS) : TS := fun De σ H => tb (wAs K c i ts Wout De) De σ H
/-- xs[i], some item of it -/
theorem o2_ixr {x : D} {xs : List D} {i : Int} (q : x.items? = some xs) (h0 : 0 ≤ i) (h1 : i < xs.length) (h : ∀ y ∈ xs, post (.d y) Γ) : Op2 K F B0 (rIxG K) x (.int i) T Γ post := by
  have h2 : i.toNat < xs.length := by omega
  have := o2_ixN (e := id) (D.non) (x := x) (xs := xs) (i := i) (K := K) (F := F) (B0 := B0) (T := T) (Γ := Γ) (post := post) (by simpa using q) h0 h1
  refine this ?_
  have e : xs.getD i.toNat D.non = xs[i.toNat] := by simp [h2]
  rw [e]
  exact h _ (List.getElem_mem h2)
theorem gog_setDS {ti : TE} (h : Go K F B0 ti (o :: T) Γ fun ok Γ2 => ∃ n kvs, ok = .d (.str n) ∧ Γ2[i]? = some (some (.od kvs)) ∧ kvs.length < 100000 ∧ posts1 (Γ2.set i (some (.od (dput kvs (.inr n) o))))) (h0 : ∃ kvs0, Γ[i]? = some (some (.od kvs0))) :
    GoG K F B0 (gSub (tVar i) ti rSetG) o T Γ posts1 :=
  gog_setD (fun τ σ H Q hw k => h τ σ H Q hw fun v ok Γ2 H2 ⟨n, kvs, e, q⟩ w => k v ok Γ2 H2 ⟨.inr n, kvs, e, q⟩ w) h0
structure Sm (n : Nat) (x : Int) : Prop where
  h : x.natAbs < 2 ^ (1048576 + n)
theorem natAbs_of {x : Int} {m : Nat} (h : Builtin.Int.intBits x ≤ m) : x.natAbs < 2 ^ m := by
  unfold Builtin.Int.intBits at h
  split at h
  · rename_i hx
    have : x = 0 := by simpa using hx
    subst this
    exact Nat.pow_pos (by decide)
  · rename_i hx
    have : x.natAbs ≠ 0 := by
      intro q
      apply hx
      have : x = 0 := by omega
      simp [this]
    exact (Nat.log2_lt this).mp h
theorem Sm.of {x : Int} (h : Builtin.Int.intBits x ≤ 1048576) : Sm 0 x := ⟨natAbs_of h⟩
theorem Sm.le {x y : Int} {n : Nat} (h : Sm n x) (l : y.natAbs ≤ x.natAbs) : Sm n y := ⟨Nat.lt_of_le_of_lt l h.h⟩
theorem Sm.mono {x : Int} {n m : Nat} (h : Sm n x) (l : n ≤ m) : Sm m x := ⟨Nat.lt_of_lt_of_le h.h (Nat.pow_le_pow_right (by decide) (by omega))⟩
theorem Sm.add {x y : Int} {n : Nat} (h : Sm n x) (h' : Sm n y) : Sm (n + 1) (x + y) := by
  have h := h.h
  have h' := h'.h
  refine ⟨?_⟩
  have e : 2 ^ (1048576 + (n + 1)) = 2 ^ (1048576 + n) + 2 ^ (1048576 + n) := by rw [← Nat.add_assoc, Nat.pow_succ, Nat.mul_two]
  rw [e]
  generalize 2 ^ (1048576 + n) = z at *
  omega
theorem Sm.neg {x : Int} {n : Nat} (h : Sm n x) : Sm n (-x) := ⟨by rw [Int.natAbs_neg]; exact h.h⟩
theorem Sm.sub {x y : Int} {n : Nat} (h : Sm n x) (h' : Sm n y) : Sm (n + 1) (x - y) := by
  rw [Int.sub_eq_add_neg]
  exact h.add h'.neg
theorem cutD_takeI {α : Type} {xs : List α} {k : Int} (h : 0 ≤ k) : cutD xs none (some k) = xs.take k.toNat := by
  obtain ⟨n, rfl⟩ := Int.eq_ofNat_of_zero_le h
  exact cutD_take
theorem cutD_dropI {α : Type} {xs : List α} {k : Int} (h : 0 ≤ k) : cutD xs (some k) none = xs.drop k.toNat := by
  obtain ⟨n, rfl⟩ := Int.eq_ofNat_of_zero_le h
  exact cutD_drop
theorem cutD_midI {α : Type} {xs : List α} {j k : Int} (h0 : 0 ≤ j) (h : 0 ≤ k) : cutD xs (some j) (some k) = (xs.take k.toNat).drop j.toNat := by
  obtain ⟨n, rfl⟩ := Int.eq_ofNat_of_zero_le h
  obtain ⟨m, rfl⟩ := Int.eq_ofNat_of_zero_le h0
  exact cutD_mid
end
end SK
namespace SK
open PySem PySem.Spec PyProof.Rows L2
def fput {α : Type} (f : Str) (v : α) : List (Str × α) → List (Str × α)
  | [] => [(f, v)]
  | (g, x) :: r => if g = f then (g, v) :: r else (g, x) :: fput f v r
theorem putF_fput (f : Str) (v : V) : ∀ fs : List (Str × V), putF f v fs = fput f v fs
  | [] => rfl
  | (g, x) :: r => by unfold putF fput; rw [putF_fput f v r]
theorem fput_keys {α β : Type} {f : Str} {v : α} {w : β} : ∀ {xs : List (Str × α)} {ys : List (Str × β)}, xs.map (·.1) = ys.map (·.1) → (fput f v xs).map (·.1) = (fput f w ys).map (·.1)
  | [], [], _ => rfl
  | (g, x) :: xs, (g', y) :: ys, e => by
    simp only [List.map_cons, List.cons.injEq] at e
    obtain ⟨rfl, e⟩ := e
    unfold fput
    split
    · simp [e]
    · simp [fput_keys (v := v) (w := w) e]
section
variable {K : PySem.W.Frag} {F B0 H H' B B' : Hp} {τ τs : List V} {T os : List O} {σ : L2.St} {Γ : En} {S S1 S2 : Ad} {v w : V} {o p : O} {x : D} {post : O → En → Prop} {ta : TA} {tb tc te td ty tv tl : TE} {tt tu : TT} {i j : Nat} {posts : List D → En → Prop} {postt : Bool → En → Prop} {posts1 : En → Prop} {Dd : EG} {xs : List D} {vs : List V} {r r' : R2} {s : TS} {C : Addr} {f : Str}
theorem RS.fput {So : Ad} (ro : RO K B H So w o) : ∀ {ws : List (Str × V)} {kvs : List (Str × O)} {S : Ad}, ws.map (·.1) = kvs.map (·.1) → RS K B H S (ws.map fun p => some p.2) (kvs.map fun p => some p.2) → (∀ b, S b → ¬ So b) →
    RS K B H (fun b => S b ∨ So b) ((SK.fput f w ws).map fun p => some p.2) ((SK.fput f o kvs).map fun p => some p.2)
  | [], [], _, _, _, _ => .cons (S1 := So) (S2 := fun _ => False) (fun b z => .inr z) (fun _ z => z.elim) (fun _ _ z => z) ro .nil
  | (g, x) :: ws, (g', y) :: kvs, S, e, .cons (S1 := T1) (S2 := T2) s1 s2 d r rs, dj => by
    simp only [List.map_cons, List.cons.injEq] at e
    obtain ⟨rfl, e⟩ := e
    unfold SK.fput
    by_cases q : g = f
    · rw [if_pos q, if_pos q]
      exact .cons (S1 := So) (S2 := T2) (fun b z => .inr z) (fun b z => .inl (s2 b z)) (fun b z y => dj b (s2 b y) z) ro rs
    · rw [if_neg q, if_neg q]
      exact .cons (S1 := T1) (S2 := fun b => T2 b ∨ So b) (fun b z => .inl (s1 b z)) (fun b z => z.imp (s2 b) id) (fun b z y => y.elim (d b z) (dj b (s1 b z))) r (RS.fput ro e rs fun b z => dj b (s2 b z))
/-- o.f = e, o a name of an owned instance -/
theorem gos_fld (h : Go K F B0 tv T Γ fun o Γ1 => ∃ a C fs, Γ1[i]? = some (some (.oi a C fs)) ∧ Cls K C ∧ NoAttr K C f ∧ fs.length < 1000 ∧ Dd.nx (Γ1.set i (some (.oi a C (SK.fput f o fs))))) : GoS K F B0 (sFld K (tVar i) tv f) T Γ Dd := fun τ σ H De hw s =>
  h τ σ H _ hw fun v1 o1 Γ1 H1 ⟨a, C, fs, e1, hc, hn, hl, h1⟩ ⟨B1, S1, w1⟩ => by
    obtain ⟨v', S3, So, a2, r2, ro, dj, _, _, fm⟩ := w1.mut2 e1
    cases r2 with
    | @oi _ S4 _ dx _ ws _ ha hd hs hn1 hn2 ne hca hcd ek rs =>
    have len : ws.length = fs.length := by have := congrArg List.length ek; simpa using this
    refine ⟨.ref a, a2, a, C, dx, ws, rfl, hca, hc, hn, by rw [len]; exact hl, ?_⟩
    obtain ⟨S', w3⟩ := fm a (.ins C dx (putF f v1 ws)) (.oi a C (SK.fput f o1 fs)) ha (by
      rw [putF_fput]
      refine .oi (S' := fun b => S4 b ∨ So b) (.inl ha) (.inl hd) (fun b z => z.imp (hs b) id) (fun z => z.elim hn1 fun z => dj a ha z) (fun z => z.elim hn2 fun z => dj dx hd z) ne upd_same (by rw [upd_ne (Ne.symm ne)]; exact hcd) (fput_keys ek) ?_
      exact (RS.fput ro ek rs fun b z => dj b (hs b z)).at fun b u z q => by
        rw [upd_ne (fun e => by subst e; exact z.elim hn1 fun z => dj b ha z)]; exact q)
    exact s.nx σ _ _ h1 ⟨B1, S', w3⟩
theorem RF.look : ∀ {ws : List (Str × V)} {fs : List (Str × D)} {y : D}, RF K B ws fs → fs.lookup f = some y → ∃ v, ws.lookup f = some v ∧ R K B v y
  | _, _, _, .nil, h => by simp at h
  | _, _, y, .cons (k := k) (v := v) r t, h => by
    rw [List.lookup_cons] at h ⊢
    cases e : f == k with
    | true => rw [e] at h; cases h; exact ⟨v, by simp, r⟩
    | false => rw [e] at h; obtain ⟨u, a, b⟩ := RF.look t h; exact ⟨u, by simpa using a, b⟩
/-- e.f of an instance -/
theorem go_fld (h : Go K F B0 te T Γ fun o Γ1 => ∃ C fs y, o.fz = .ins C fs ∧ fs.lookup f = some y ∧ Cls K C ∧ NoAttr K C f ∧ post (.d y) Γ1) : Go K F B0 (tFld K te f) T Γ post := fun τ σ H Q hw kk =>
  h τ σ H _ hw fun v1 o1 Γ1 H1 ⟨C, fs, y, e1, l, hc, hn, h1⟩ ⟨_, _, w1⟩ => by
    obtain ⟨B2, S2, w1, _⟩ := w1.fz
    rw [e1] at w1
    obtain ⟨r1, _, _, w2⟩ := w1.popd
    cases r1 with | @ins a _ dx ws _ hb rf =>
    obtain ⟨v, l2, ry⟩ := rf.look l
    exact ⟨a, C, dx, ws, v, rfl, w1.pu a _ hb, hc, hn, l2, kk _ _ _ _ h1 ⟨_, _, w2.pushd ry⟩⟩
/-- what stands behind a call: the heap H' over H, the first thing's cells S0 may have changed -/
structure Bh (K : PySem.W.Frag) (H H' B B' : Hp) (S0 S0' S1 : Ad) : Prop where
  fr : ∀ a u, ¬ S0 a → H a = some u → H' a = some u
  pu : Ex B' H'
  le : BLe B B'
  nw : ∀ a, B' a ≠ none → B a ≠ none ∨ H a = none ∨ S0 a
  o0 : ∀ a, S0' a → (S0 a ∨ H a = none) ∧ B' a = none ∧ H' a ≠ none
  o1 : ∀ a, S1 a → (S0 a ∨ H a = none) ∧ B' a = none ∧ H' a ≠ none
  dj : ∀ a, S1 a → ¬ S0' a
end
end SK
namespace SK
open PySem PySem.Spec PyProof.Rows L2
abbrev Fs := List (Str × O)
abbrev Cs := Addr → Fs → List D → (O → Fs → Prop) → (Addr → Option (List (Str × D)) → Fs → Prop) → Prop
def noS : Addr → Option (List (Str × D)) → Fs → Prop := fun _ _ _ => False
section
variable {K : PySem.W.Frag} {F B0 H H' B B' : Hp} {τ τs : List V} {T os : List O} {σ : L2.St} {Γ : En} {S S1 S2 : Ad} {v w : V} {o p : O} {x : D} {post : O → En → Prop} {ta : TA} {tb tc te td ty tv tl : TE} {tt tu : TT} {i j : Nat} {posts : List D → En → Prop} {postt : Bool → En → Prop} {posts1 : En → Prop} {Dd : EG} {xs : List D} {vs : List V} {r r' : R2} {s : TS} {Ci : Addr} {f : Str}
/-- a promise of a def whose first parameter is an instance of Ci that is changed in place -/
def spS (K : PySem.W.Frag) (Ci : Addr) (C : Cs) : Sp := fun vs H Q E => ∃ B S0 a fs ws xs p q, vs = .ref a :: ws ∧ Ex B H ∧ RO K B H S0 (.ref a) (.oi a Ci fs) ∧ (∀ b, S0 b → B b = none ∧ H b ≠ none) ∧ RL K B ws xs ∧ C a fs xs p q ∧
  (∀ v o fs' B' S1 S0' H', p o fs' → Bh K H H' B B' S0 S0' S1 → RO K B' H' S0' (.ref a) (.oi a Ci fs') → RO K B' H' S1 v o → Q v H') ∧
  (∀ Cc gs d fs' B' S0' H', q Cc gs fs' → Bh K H H' B B' S0 S0' (fun _ => False) → RO K B' H' S0' (.ref a) (.oi a Ci fs') → ExB K H' B' d gs → E (.ref Cc) d H')
theorem spS_len {C : Cs} {n : Nat} (h : ∀ a fs xs p q, C a fs xs p q → xs.length = n) {vs : List V} {H : Hp} {Q : VK} {E : XK} (s : spS K Ci C vs H Q E) : vs.length = n + 1 := by
  obtain ⟨B, S0, a, fs, ws, xs, p, q, rfl, _, _, _, rl, c, _⟩ := s
  rw [List.length_cons, rl.length, h _ _ _ _ _ c]
theorem HW.behind {S0 : Ad} {τ : List V} {T : List O} (w : HW K (offH H S0) B τ T σ Γ H' B' S) (hS : ∀ b, S0 b → B b = none ∧ H b ≠ none) {S0' S1 : Ad} (s0 : ∀ b, S0' b → S b) (s1 : ∀ b, S1 b → S b) (dj : ∀ b, S1 b → ¬ S0' b) : Bh K H H' B B' S0 S0' S1 where
  fr := fun a u n e => w.fr a u (by rw [offH_no n]; exact e)
  pu := w.pu
  le := w.b0
  nw := fun a z => by
    rcases w.nw a z with y | y
    · exact .inl y
    · by_cases q : S0 a
      · exact .inr (.inr q)
      · rw [offH_no q] at y; exact .inr (.inl y)
  o0 := fun a z => by
    obtain ⟨q1, q2, q3⟩ := w.ow a (s0 a z)
    refine ⟨?_, q2, q3⟩
    by_cases q : S0 a
    · exact .inl q
    · rw [offH_no q] at q1; exact .inr q1
  o1 := fun a z => by
    obtain ⟨q1, q2, q3⟩ := w.ow a (s1 a z)
    refine ⟨?_, q2, q3⟩
    by_cases q : S0 a
    · exact .inl q
    · rw [offH_no q] at q1; exact .inr q1
  dj := dj
theorem sps_body {C : Cs} {N : List Str} {vs : List V} {Q : VK} {E : XK} {X : Cx} {body : List Stmt} (s : spS K Ci C vs H Q E)
    (h : ∀ F B a fs xs p q, C a fs xs p q → xs.length + 1 = vs.length → (∀ Cc gs d σ Γ H', (∃ fs', Γ[0]? = some (some (O.oi a Ci fs')) ∧ q Cc gs fs') → HoX K F B σ Γ H' d gs → E (.ref Cc) d H') →
      ∃ t, PSs X body t ∧ GoS K F B t [] (some (O.oi a Ci fs) :: ((xs.map fun x => some (O.d x)) ++ List.replicate (N.length - (xs.length + 1)) none)) { nx := fun Γ' => ∃ fs', Γ'[0]? = some (some (O.oi a Ci fs')) ∧ p (.d .non) fs', rt := fun o' Γ' => ∃ fs', Γ'[0]? = some (some (O.oi a Ci fs')) ∧ p o' fs' }) :
    ∃ t, PSs X body t ∧ t { nx := fun _ H' => Q .non H', rt := Q } (L2.start N vs) H := by
  obtain ⟨B, S0, a, fs, ws, xs, p, q, rfl, pu, ro, hS, rl, c, k, kx⟩ := s
  have out : ∀ {v : V} {o : O} {σ : L2.St} {Γ : En} {H' : Hp} {fs' : Fs} {B' : Hp} {S' : Ad}, Γ[0]? = some (some (O.oi a Ci fs')) → HW K (offH H S0) B [v] [o] σ Γ H' B' S' → ∃ S1 S0', Bh K H H' B B' S0 S0' S1 ∧ RO K B' H' S0' (.ref a) (.oi a Ci fs') ∧ RO K B' H' S1 v o := by
    intro v o σ Γ H' fs' B' S' e w
    obtain ⟨S1, S2, s1, s2, dj, r, w2⟩ := w.pop
    obtain ⟨v0, T1, T2, a1, b1, c1, d1, r1, _⟩ := w2.slot e
    have e2 : v0 = .ref a := by cases r1; rfl
    subst e2
    exact ⟨S1, T1, w.behind hS (fun b z => s2 b (b1 b z)) s1 (fun b z y => dj b z (b1 b y)), r1, r⟩
  obtain ⟨t, ht, g⟩ := h (offH H S0) B a fs xs p q c (by simp [rl.length]) fun Cc gs d σ Γ H' ⟨fs', e, hq⟩ ho => by
    obtain ⟨B', S', w, hd⟩ := ho
    obtain ⟨S1, S0', bh, r0, _⟩ := out (v := .non) (o := .d .non) e (w.pushd .non)
    exact kx Cc gs d fs' B' S0' H' hq ⟨bh.fr, bh.pu, bh.le, bh.nw, bh.o0, fun _ z => z.elim, fun _ z => z.elim⟩ r0 hd
  refine ⟨t, ht, g [] (L2.start N (.ref a :: ws)) H _ ⟨B, S0, fun b u e => ?_, pu, .refl B, fun b z => ⟨offH_at z, (hS b z).1, (hS b z).2⟩, fun _ z => .inl z, ?_, rfl⟩ ⟨fun σ Γ H' ⟨fs', e, hp⟩ ⟨B', S', w⟩ => ?_, fun v o' σ Γ H' ⟨fs', e, hp⟩ how => ?_, fun _ _ _ z => z.elim, fun _ _ _ z => z.elim⟩⟩
  · by_cases z : S0 b
    · rw [offH_at z] at e; cases e
    · rw [offH_no z] at e; exact e
  · show RS K B H S0 ([] ++ L2.start N (.ref a :: ws)) _
    rw [List.nil_append, L2.start]
    have e1 : (V.ref a :: ws).length = xs.length + 1 := by simp [rl.length]
    rw [e1]
    exact .cons (S1 := S0) (S2 := fun _ => False) (fun _ z => z) (fun _ z => z.elim) (fun _ _ z => z) ro rl.start
  · obtain ⟨S1, S0', bh, r0, r1⟩ := out (v := .non) (o := .d .non) e (w.pushd .non)
    exact k .non _ fs' B' S1 S0' H' hp bh r0 r1
  · obtain ⟨B', S', w⟩ := how
    obtain ⟨S1, S0', bh, r0, r1⟩ := out e w
    exact k v o' fs' B' S1 S0' H' hp bh r0 r1
/-- C(..): a new instance -/
theorem go_make {C : Cs} {dvs : List V} {dxs : List D} {E : XK} {t : TA} (hd : ∀ B, RL K B dvs dxs) (h : GoA K F B0 t T Γ fun xs Γ1 => ∀ a, ∃ p, C a [] (xs ++ dxs) p noS ∧ ∀ o fs', p o fs' → o = .d .non ∧ post (.oi a Ci fs') Γ1) : Go K F B0 (tMake Ci (spS K Ci C) dvs E t) T Γ post := fun τ σ H Q hw k =>
  h τ σ H _ hw fun vs xs Γ1 H1 h1 ⟨B1, S1, w1⟩ hl => by
    obtain ⟨rl, S2, w⟩ := w1.args hl
    intro a dx ha hdx ne
    obtain ⟨p, c, h2⟩ := h1 a
    have ex2 : Ex H1 (upd (upd H1 dx (.own a)) a (.ins Ci dx [])) := fun b u e => by
      have n1 : b ≠ a := fun q => by rw [q, ha] at e; cases e
      have n2 : b ≠ dx := fun q => by rw [q, hdx] at e; cases e
      rw [upd_ne n1, upd_ne n2]; exact e
    have hn : ∀ b, upd (upd H1 dx (.own a)) a (.ins Ci dx []) b = none → H1 b = none := fun b e => by
      cases q : H1 b with
      | none => rfl
      | some u => rw [ex2 b u q] at e; cases e
    refine ⟨B1, fun b => b = a ∨ b = dx, a, [], vs ++ dvs, xs ++ dxs, p, noS, rfl, w.pu.trans ex2, .oi (S' := fun _ => False) (.inl rfl) (.inr rfl) (fun _ z => z.elim) id id (Ne.symm ne) upd_same (by rw [upd_ne ne, upd_same]) rfl .nil, fun b z => ?_, rl.app (hd B1), c, fun v o fs' B' T1 S0' H' hp bh r0 r1 => ?_, fun _ _ _ _ _ _ _ z => z.elim⟩
    · rcases z with rfl | rfl
      · exact ⟨w.pu.back ha, by rw [upd_same]; simp⟩
      · exact ⟨w.pu.back hdx, by rw [upd_ne ne, upd_same]; simp⟩
    · obtain ⟨rfl, h3⟩ := h2 o fs' hp
      cases r1 with | d r1 =>
      cases r1
      refine ⟨rfl, k _ _ Γ1 H' h3 ⟨B', _, w.push (S' := S0') (fun b u e => bh.fr b u (fun z => ?_) (ex2 b u e)) bh.le bh.pu (fun b z => ?_) (fun b z => ?_) r0⟩⟩
      · rcases z with rfl | rfl
        · rw [ha] at e; cases e
        · rw [hdx] at e; cases e
      · rcases bh.nw b z with y | y | y
        · exact .inl y
        · exact .inr (hn b y)
        · rcases y with rfl | rfl
          · exact .inr ha
          · exact .inr hdx
      · obtain ⟨q1, q2, q3⟩ := bh.o0 b z
        refine ⟨?_, q2, q3⟩
        rcases q1 with (rfl | rfl) | y
        · exact ha
        · exact hdx
        · exact hn b y
/-- o.m(..), o a name of an owned instance -/
theorem HW.calledB {a : Addr} {fs' : Fs} {T1 T2 S0' U : Ad} {H2 B2 : Hp} {v : V} {o : O} (w : HW K F B0 τ T σ Γ H B S) (a1 : σ[i]? = some (some (.ref a))) (b1 : ∀ b, T1 b → S b) (c1 : ∀ b, T2 b → S b) (d1 : ∀ b, T1 b → ¬ T2 b)
    (f : ∀ (B' H' : Hp) (S1' : Ad) (v' : Option V) (o' : Option O), BLe B B' → (∀ b u, T2 b → H b = some u → H' b = some u) → (∀ b, S1' b → ¬ T2 b) → (∀ x, o' = some x → ∃ w, v' = some w ∧ RO K B' H' S1' w x) → RS K B' H' (fun b => S1' b ∨ T2 b) (τ.map some ++ σ.set i v') (T.map some ++ Γ.set i o'))
    (bh : Bh K H H2 B B2 T1 S0' U) (r0 : RO K B2 H2 S0' (.ref a) (.oi a Ci fs')) (r1 : RO K B2 H2 U v o) : ∃ B3 S3, HW K F B0 (v :: τ) (o :: T) σ (Γ.set i (some (.oi a Ci fs'))) H2 B3 S3 ∧ B3 = B2 := by
  have n2 : ∀ b, S0' b → ¬ T2 b := fun b z y => by
    rcases (bh.o0 b z).1 with q | q
    · exact d1 b q y
    · exact (w.ow b (c1 b y)).2.2 q
  have n3 : ∀ b, U b → ¬ T2 b := fun b z y => by
    rcases (bh.o1 b z).1 with q | q
    · exact d1 b q y
    · exact (w.ow b (c1 b y)).2.2 q
  have fn : ∀ b, (T1 b ∨ H b = none) → F b = none := fun b z => z.elim (fun z => (w.ow b (b1 b z)).1) fun z => w.fr.back z
  have rs := f B2 H2 S0' (some (.ref a)) (some (.oi a Ci fs')) bh.le (fun b u z e => bh.fr b u (fun y => d1 b y z) e) n2 (fun x e => by cases e; exact ⟨_, rfl, r0⟩)
  rw [set_same a1] at rs
  refine ⟨B2, fun b => U b ∨ (S0' b ∨ T2 b), ⟨fun b u e => bh.fr b u (fun z => by rw [(w.ow b (b1 b z)).1] at e; cases e) (w.fr b u e), bh.pu, w.b0.trans bh.le, fun b z => ?_, fun b z => ?_, .cons (S1 := U) (S2 := fun b => S0' b ∨ T2 b) (fun _ z => .inl z) (fun _ z => .inr z) (fun b z y => y.elim (bh.dj b z) (n3 b z)) r1 rs, by simp [w.lt]⟩, rfl⟩
  · rcases z with z | z | z
    · obtain ⟨q1, q2, q3⟩ := bh.o1 b z
      exact ⟨fn b q1, q2, q3⟩
    · obtain ⟨q1, q2, q3⟩ := bh.o0 b z
      exact ⟨fn b q1, q2, q3⟩
    · obtain ⟨q1, q2, q3⟩ := w.ow b (c1 b z)
      refine ⟨q1, ?_, ?_⟩
      · cases e : B2 b with
        | none => rfl
        | some u =>
          rcases bh.nw b (by rw [e]; simp) with y | y | y
          · exact absurd q2 y
          · exact absurd y q3
          · exact absurd z (d1 b y)
      · cases e : H b with
        | none => exact absurd e q3
        | some u => rw [bh.fr b u (fun y => d1 b y z) e]; simp
  · rcases bh.nw b z with y | y | y
    · exact w.nw b y
    · exact .inr (w.fr.back y)
    · exact .inr (w.ow b (b1 b y)).1
theorem HW.called {a : Addr} {fs' : Fs} {T1 T2 S0' U : Ad} {H2 B2 : Hp} {v : V} {o : O} (w : HW K F B0 τ T σ Γ H B S) (a1 : σ[i]? = some (some (.ref a))) (b1 : ∀ b, T1 b → S b) (c1 : ∀ b, T2 b → S b) (d1 : ∀ b, T1 b → ¬ T2 b)
    (f : ∀ (B' H' : Hp) (S1' : Ad) (v' : Option V) (o' : Option O), BLe B B' → (∀ b u, T2 b → H b = some u → H' b = some u) → (∀ b, S1' b → ¬ T2 b) → (∀ x, o' = some x → ∃ w, v' = some w ∧ RO K B' H' S1' w x) → RS K B' H' (fun b => S1' b ∨ T2 b) (τ.map some ++ σ.set i v') (T.map some ++ Γ.set i o'))
    (bh : Bh K H H2 B B2 T1 S0' U) (r0 : RO K B2 H2 S0' (.ref a) (.oi a Ci fs')) (r1 : RO K B2 H2 U v o) : Ho K F B0 (v :: τ) (o :: T) σ (Γ.set i (some (.oi a Ci fs'))) H2 := by
  obtain ⟨B3, S3, w3, _⟩ := w.calledB a1 b1 c1 d1 f bh r0 r1
  exact ⟨B3, S3, w3⟩
theorem go_meth {C : Cs} {m : Str} {dvs : List V} {dxs : List D} {E : XK} {t : TA} {a : Addr} {fs : Fs} (hd : ∀ B, RL K B dvs dxs) (e0 : Γ[i]? = some (some (.oi a Ci fs))) (hm : fs.lookup m = none)
    (h : GoA K F B0 t T Γ fun xs Γ1 => ∃ fs1, Γ1[i]? = some (some (.oi a Ci fs1)) ∧ ∃ p, C a fs1 (xs ++ dxs) p noS ∧ ∀ o fs', p o fs' → post o (Γ1.set i (some (.oi a Ci fs')))) : Go K F B0 (tMeth Ci m (spS K Ci C) dvs E (tVar i) t) T Γ post := fun τ σ H Q ⟨B, S, w0⟩ k => by
  obtain ⟨v, S1, a1, r1, _, _⟩ := w0.mut1 e0
  cases r1 with
  | @oi _ S4 _ dx _ ws _ ha hdx hs hn1 hn2 ne hca hcd ek rs =>
  refine ⟨.ref a, a1, a, dx, ws, rfl, hca, ?_, h τ σ H _ ⟨B, S, w0⟩ fun vs xs Γ1 H1 ⟨fs1, e1, p, c, h1⟩ ⟨B1, S1, w1⟩ hl => ?_⟩
  · have : ∀ {ws : List (Str × V)} {fs : Fs}, ws.map (·.1) = fs.map (·.1) → fs.lookup m = none → ws.lookup m = none := by
      intro ws
      induction ws with
      | nil => intro fs _ _; rfl
      | cons p ws ih =>
        intro fs e q
        cases fs with
        | nil => simp at e
        | cons p' fs =>
          obtain ⟨g, x⟩ := p
          obtain ⟨g', y⟩ := p'
          simp only [List.map_cons, List.cons.injEq] at e
          obtain ⟨rfl, e⟩ := e
          rw [List.lookup_cons] at q ⊢
          cases q2 : m == g with
          | true => rw [q2] at q; cases q
          | false => rw [q2] at q; exact ih e q
    exact this ek hm
  · obtain ⟨rl, S2, w⟩ := w1.args hl
    obtain ⟨v0, T1, T2, a2, b1, c1, d1, r1, f⟩ := w.slot e1
    have e2 : v0 = .ref a := by cases r1; rfl
    subst e2
    refine ⟨B1, T1, a, fs1, vs ++ dvs, xs ++ dxs, p, noS, rfl, w.pu, r1, fun b z => ⟨(w.ow b (b1 b z)).2.1, (w.ow b (b1 b z)).2.2⟩, rl.app (hd B1), c, fun v o fs' B' U S0' H' hp bh r0 r1 => ?_, fun _ _ _ _ _ _ _ z => z.elim⟩
    exact k v o _ H' (h1 o fs' hp) (w.called a2 b1 c1 d1 f bh r0 r1)
end
end SK
namespace SK
open PySem PySem.Spec PyProof.Rows L2
section
variable {K : PySem.W.Frag} {F B0 H H' B B' : Hp} {τ τs : List V} {T os : List O} {σ : L2.St} {Γ : En} {S S1 S2 : Ad} {v w : V} {o p : O} {x : D} {post : O → En → Prop} {ta : TA} {tb tc te td ty tv tl : TE} {tt tu : TT} {i j : Nat} {posts : List D → En → Prop} {postt : Bool → En → Prop} {posts1 : En → Prop} {Dd : EG} {xs : List D} {vs : List V} {r r' : R2} {s : TS}
theorem and_im {M N P Q : Prop} (h1 : M → P) (h2 : N → Q) : (M → P) ∧ (N → Q) := ⟨h1, h2⟩
theorem o2_neNil (n : Nat) (hs : Shp n (.lst xs)) (hn : n ≤ 60) (h : post (.d (.bl (!xs.isEmpty))) Γ) : Op2 K F B0 (rNeG K) (.lst xs) (.lst []) T Γ post :=
  o2_neD ((hs.mono hn).eqs ((Shp.lst (n := 59) (xs := []) fun _ h => by cases h).mono (by decide))) (by
    have e : PyData.eqv (D.lst xs).py (D.lst []).py = xs.isEmpty := by cases xs <;> simp [D.py, pyL, PyData.eqv, PyData.eqvAll]
    rw [e]; exact h)
theorem o1_neg {n : Int} (h : post (.d (.int (-n))) Γ) : Op1 K F B0 (rU fun i => V.int (-i)) (.int n) T Γ post := fun τ σ H B S v1 Q w r1 k => by
  cases r1
  exact ⟨n, rfl, k _ _ Γ H h ⟨_, _, w.pushd .int⟩⟩
end
end SK
namespace SK
open PySem PySem.Spec PyProof.Rows L2 Builtin.Str
def rStrG : List V → Hp → VK → Prop := fun xs H Q => (∃ i, xs = [.int i] ∧ i.natAbs.log2 < 1920 ∧ Q (.str (toString i)) H) ∨ ∃ a, xs = [.str a] ∧ Q (.str a) H
def rIntG : List V → Hp → VK → Prop := fun xs H Q => ((∃ i, xs = [.int i] ∧ Q (.int i) H) ∨ ∃ k, xs = [.bl k] ∧ Q (.int (if k then 1 else 0)) H) ∨ ∃ a n, xs = [.str a] ∧ PySem.intText? a = some n ∧ a.length ≤ 640 ∧ Q (.int n) H
def rJoinG (K : PySem.W.Frag) : V → List V → Hp → VK → Prop := fun x xs H Q => ∃ a p, ∃ ys : List Str, x = .str a ∧ xs = [.ref p] ∧ (SqL K H p (ys.map V.str) ∨ SqT K H p (ys.map V.str)) ∧ (ys.map (·.length)).sum + ys.length * a.length ≤ 16777216 ∧ Q (.str (Txt.join a ys)) H
def rSplitG : V → List V → Hp → VK → Prop := fun x xs H Q => ∃ a b, x = .str a ∧ xs = [.str b] ∧ (b.length == 0) = false ∧ a.length + 2 ≤ sizeLine ∧ rNewStrs (Txt.split a b) H Q
def rPartG : V → List V → Hp → VK → Prop := fun x xs H Q => ∃ a b, x = .str a ∧ xs = [.str b] ∧ (b.length == 0) = false ∧ a.length ≤ sizeLine ∧ ∀ p, H p = none → Q (.ref p) (upd H p (.tup [.str (Txt.partition a b).1, .str (Txt.partition a b).2.1, .str (Txt.partition a b).2.2]))
def rStartsG : V → List V → Hp → VK → Prop := fun x xs H Q => ∃ a b, x = .str a ∧ xs = [.str b] ∧ Q (.bl (Txt.startswith a b)) H
section
variable {K : PySem.W.Frag} {F B0 H H' B B' : Hp} {τ τs : List V} {T os : List O} {σ : L2.St} {Γ : En} {S S1 S2 : Ad} {v w : V} {o p : O} {x : D} {post : O → En → Prop} {ta : TA} {tb tc te td ty tv tl : TE} {tt tu : TT} {i j : Nat} {posts : List D → En → Prop} {postt : Bool → En → Prop} {posts1 : En → Prop} {Dd : EG} {xs : List D} {vs : List V} {s : TS}
theorem oa_strS {n : Str} (h : post (.d (.str n)) Γ) : OpA K F B0 rStrG [.str n] T Γ post := fun τ σ H B S vs Q w rl k => by
  obtain ⟨v1, rfl, r⟩ := rl.one
  cases r
  exact .inr ⟨n, rfl, k _ _ Γ H h ⟨_, _, w.pushd .str⟩⟩
theorem oa_intB {b : Bool} (h : post (.d (.int (if b then 1 else 0))) Γ) : OpA K F B0 rIntG [.bl b] T Γ post := fun τ σ H B S vs Q w rl k => by
  obtain ⟨v1, rfl, r⟩ := rl.one
  cases r
  exact .inl (.inr ⟨b, rfl, k _ _ Γ H h ⟨_, _, w.pushd .int⟩⟩)
theorem RL.strs : ∀ {vs : List V} {ys : List Str}, RL K B vs (ys.map D.str) → vs = ys.map V.str
  | [], [], _ => rfl
  | _ :: _, y :: ys, .cons r t => by cases r; rw [List.map_cons, RL.strs t]
theorem RL.ofStrs : ∀ ys : List Str, RL K B (ys.map V.str) (ys.map D.str)
  | [] => .nil
  | _ :: r => .cons .str (RL.ofStrs r)
/-- a.join(ys) -/
theorem go_join (h : Go K F B0 te T Γ fun o Γ1 => ∃ a, o = .d (.str a) ∧ GoA K F B0 ta (.d (.str a) :: T) Γ1 fun xs Γ2 => ∃ l ys, xs = [l] ∧ l.items? = some (List.map D.str ys) ∧ (ys.map (·.length)).sum + ys.length * a.length ≤ 16777216 ∧ post (.d (.str (Txt.join a ys))) Γ2) :
    Go K F B0 (tBM K "str" (rJoinG K) te ta) T Γ post := fun τ σ H Q hw k =>
  h τ σ H _ hw fun v1 o1 Γ1 H1 ⟨a, e, h1⟩ ⟨_, _, w1⟩ => by
    subst e
    obtain ⟨r1, _⟩ := w1.popd
    cases r1
    refine ⟨rfl, h1 _ σ H1 _ ⟨_, _, w1⟩ fun vs xs Γ2 H2 ⟨l, ys, e, q, hz, h2⟩ ⟨_, _, w2⟩ hl => ?_⟩
    subst e
    obtain ⟨rl, S2, w3⟩ := w2.args hl
    obtain ⟨_, _, _, w4⟩ := w3.popd
    obtain ⟨u, rfl, r⟩ := rl.one
    obtain ⟨p, us, rfl, sq, rl2⟩ := r.items q
    have e2 := rl2.strs
    subst e2
    exact ⟨a, p, ys, rfl, rfl, sq.imp w4.pu.sqL w4.pu.sqT, hz, k _ _ _ _ h2 ⟨_, _, w4.pushd .str⟩⟩
/-- a.split(b) -/
theorem go_split (h : Go K F B0 te T Γ fun o Γ1 => ∃ a, o = .d (.str a) ∧ GoA K F B0 ta (.d (.str a) :: T) Γ1 fun xs Γ2 => ∃ b, xs = [.str b] ∧ (b.length == 0) = false ∧ a.length ≤ 1000000 ∧ post (.ol (((Txt.split a b).map D.str).map O.d)) Γ2) :
    Go K F B0 (tBM K "str" rSplitG te ta) T Γ post := fun τ σ H Q hw k =>
  h τ σ H _ hw fun v1 o1 Γ1 H1 ⟨a, e, h1⟩ ⟨_, _, w1⟩ => by
    subst e
    obtain ⟨r1, _⟩ := w1.popd
    cases r1
    refine ⟨rfl, h1 _ σ H1 _ ⟨_, _, w1⟩ fun vs xs Γ2 H2 ⟨b, e, hb, hz, h2⟩ ⟨_, _, w2⟩ hl => ?_⟩
    subst e
    obtain ⟨rl, S2, w3⟩ := w2.args hl
    obtain ⟨_, _, _, w4⟩ := w3.popd
    obtain ⟨u, rfl, r⟩ := rl.one
    cases r
    refine ⟨a, b, rfl, rfl, hb, ?_, fun p hp => ?_⟩
    · rw [sizeLine_eq]; omega
    · obtain ⟨S5, w5⟩ := w4.newl hp (RL.ofStrs (Txt.split a b))
      exact k _ _ _ _ h2 ⟨_, _, w5⟩
/-- a.partition(b) -/
theorem go_part (h : Go K F B0 te T Γ fun o Γ1 => ∃ a, o = .d (.str a) ∧ GoA K F B0 ta (.d (.str a) :: T) Γ1 fun xs Γ2 => ∃ b, xs = [.str b] ∧ (b.length == 0) = false ∧ a.length ≤ 1000000 ∧ post (.d (.tup [.str (Txt.partition a b).1, .str (Txt.partition a b).2.1, .str (Txt.partition a b).2.2])) Γ2) :
    Go K F B0 (tBM K "str" rPartG te ta) T Γ post := fun τ σ H Q hw k =>
  h τ σ H _ hw fun v1 o1 Γ1 H1 ⟨a, e, h1⟩ ⟨_, _, w1⟩ => by
    subst e
    obtain ⟨r1, _⟩ := w1.popd
    cases r1
    refine ⟨rfl, h1 _ σ H1 _ ⟨_, _, w1⟩ fun vs xs Γ2 H2 ⟨b, e, hb, hz, h2⟩ ⟨_, _, w2⟩ hl => ?_⟩
    subst e
    obtain ⟨rl, S2, w3⟩ := w2.args hl
    obtain ⟨_, _, _, w4⟩ := w3.popd
    obtain ⟨u, rfl, r⟩ := rl.one
    cases r
    refine ⟨a, b, rfl, rfl, hb, ?_, fun p hp => ?_⟩
    · rw [sizeLine_eq]; omega
    · obtain ⟨S5, w5⟩ := w4.newd (v := .ref p) (x := .tup [.str (Txt.partition a b).1, .str (Txt.partition a b).2.1, .str (Txt.partition a b).2.2]) hp (.tup (SqT.of upd_same) (.cons .str (.cons .str (.cons .str .nil))))
      exact k _ _ _ _ h2 ⟨_, _, w5⟩
/-- a.startswith(b) -/
theorem go_starts (h : Go K F B0 te T Γ fun o Γ1 => ∃ a, o = .d (.str a) ∧ GoA K F B0 ta (.d (.str a) :: T) Γ1 fun xs Γ2 => ∃ b, xs = [.str b] ∧ post (.d (.bl (Txt.startswith a b))) Γ2) :
    Go K F B0 (tBM K "str" rStartsG te ta) T Γ post := fun τ σ H Q hw k =>
  h τ σ H _ hw fun v1 o1 Γ1 H1 ⟨a, e, h1⟩ ⟨_, _, w1⟩ => by
    subst e
    obtain ⟨r1, _⟩ := w1.popd
    cases r1
    refine ⟨rfl, h1 _ σ H1 _ ⟨_, _, w1⟩ fun vs xs Γ2 H2 ⟨b, e, h2⟩ ⟨_, _, w2⟩ hl => ?_⟩
    subst e
    obtain ⟨rl, S2, w3⟩ := w2.args hl
    obtain ⟨_, _, _, w4⟩ := w3.popd
    obtain ⟨u, rfl, r⟩ := rl.one
    cases r
    exact ⟨a, b, rfl, rfl, k _ _ _ _ h2 ⟨_, _, w4.pushd .bl⟩⟩
end
end SK
namespace SK
open PySem PySem.Spec PyProof.Rows L2
def rTupG (K : PySem.W.Frag) : List V → Hp → VK → Prop := fun xs H Q => ∃ p ys, xs = [.ref p] ∧ ((SqL K H p ys ∧ ∀ l, H l = none → Q (.ref l) (upd H l (.tup ys))) ∨ (SqT K H p ys ∧ Q (.ref p) H))
section
variable {K : PySem.W.Frag} {F B0 H H' B B' : Hp} {τ τs : List V} {T os : List O} {σ : L2.St} {Γ : En} {S S1 S2 : Ad} {v w : V} {o p : O} {x : D} {post : O → En → Prop} {ta : TA} {tb tc te td ty tv tl : TE} {tt tu : TT} {i j : Nat} {posts : List D → En → Prop} {postt : Bool → En → Prop} {posts1 : En → Prop} {Dd : EG} {xs : List D} {vs : List V} {r r' : R2} {s : TS}
theorem oa_tupL (q : x.seq? = some xs) (h : post (.d (.tup xs)) Γ) : OpA K F B0 (rTupG K) [x] T Γ post := fun τ σ H B S vs Q w rl k => by
  obtain ⟨v1, rfl, r⟩ := rl.one
  obtain ⟨a, us, rfl, sq, rl2⟩ := r.seqL q
  refine ⟨a, us, rfl, .inl ⟨w.pu.sqL sq, fun p hp => ?_⟩⟩
  obtain ⟨S2, w⟩ := w.newd (v := .ref p) (x := .tup xs) hp (.tup (SqT.of upd_same) (rl2.mono (.of_ex (.new (w.pu.back hp)))))
  exact k _ _ _ _ h ⟨_, _, w⟩
theorem oa_tupT (h : post (.d (.tup xs)) Γ) : OpA K F B0 (rTupG K) [.tup xs] T Γ post := fun τ σ H B S vs Q w rl k => by
  obtain ⟨v1, rfl, r⟩ := rl.one
  cases r with | @tup a vs _ sq rl2 =>
  exact ⟨a, vs, rfl, .inr ⟨w.pu.sqT sq, k _ _ _ _ h ⟨_, _, w.pushd (.tup sq rl2)⟩⟩⟩
theorem Sl.tupM {xs : List D} {lo : Int} {hi : Option Int} (h0 : 0 < lo) (h1 : xs ≠ []) : Sl (.tup xs) (some lo) hi (.d (.tup (cutD xs (some lo) hi))) := by
  refine .tup fun ⟨h, _⟩ => ?_
  obtain ⟨n, rfl⟩ := Int.eq_ofNat_of_zero_le (Int.le_of_lt h0)
  rw [sIx_n] at h
  have : 0 < xs.length := List.length_pos_iff.mpr h1
  omega
theorem atI_ofN {α : Type} {xs : List α} {k : Nat} : atI xs (Int.ofNat k) = xs[k]? := by
  show atI xs (k : Int) = xs[k]?
  unfold atI ixN
  rw [if_pos (Int.natCast_nonneg k)]
  by_cases h : k < xs.length
  · rw [if_pos (by omega)]
    rfl
  · rw [if_neg (by omega)]
    exact (List.getElem?_eq_none (by omega)).symm
end
end SK
namespace SK
open PySem PySem.Spec PyProof.Rows L2
/-- its own dict, if it has one, is told -/
def XdAt (H : Hp) (d : Option Addr) : Prop := match d with | none => True | some dd => ∃ fs, H dd = some (.xd fs)
def rIsX (K : PySem.W.Frag) (a : Addr) (cls : Value) (d : Option Addr) : List V → Hp → VK → Prop := fun xs H Q => ∃ D c b, cls = .ref D ∧ XdAt H d ∧ L2.ExcC K D ∧ xs = [.ref a, c] ∧
  ((∃ cv, ClsV c cv ∧ PySem.W.kitOne K (.ref D) cv = some b) ∨ (∃ tp cs us, c = .ref tp ∧ SqT K H tp cs ∧ Paired ClsV cs us ∧ PySem.W.kitAny K (.ref D) us = some b)) ∧ Q (.bl b) H
section
variable {K : PySem.W.Frag} {F B0 H H' B B' : Hp} {τ τs : List V} {T os : List O} {σ : L2.St} {Γ : En} {S S1 S2 : Ad} {v w : V} {o p : O} {x : D} {post : O → En → Prop} {ta : TA} {tb tc te td ty tv tl : TE} {tt tu : TT} {i j : Nat} {posts : List D → En → Prop} {postt : Bool → En → Prop} {posts1 : En → Prop} {Dd : EG} {xs : List D} {vs : List V} {r r' : R2} {s : TS}
/-- isinstance(e, C) -/
theorem oa_isX {a D C : Addr} {b : Bool} (E : L2.ExcC K D) (q : PySem.W.kitOne K (.ref D) (.ref C) = some b) (h : post (.d (.bl b)) Γ) : OpA K F B0 (rIsX K a (.ref D) none) [.ref a, .ref C] T Γ post := fun τ σ H B S vs Q w rl k => by
  obtain ⟨v1, v2, rfl, r, r2⟩ := rl.two
  cases r
  cases r2
  exact ⟨D, _, b, rfl, trivial, E, rfl, .inl ⟨_, .own C, q⟩, k _ _ Γ H h ⟨_, _, w.pushd .bl⟩⟩
theorem oa_isXt {a D : Addr} {n : String} {b : Bool} (E : L2.ExcC K D) (q : PySem.W.kitOne K (.ref D) (.type n) = some b) (h : post (.d (.bl b)) Γ) : OpA K F B0 (rIsX K a (.ref D) none) [.ref a, .ty n] T Γ post := fun τ σ H B S vs Q w rl k => by
  obtain ⟨v1, v2, rfl, r, r2⟩ := rl.two
  cases r
  cases r2
  exact ⟨D, _, b, rfl, trivial, E, rfl, .inl ⟨_, .ty n, q⟩, k _ _ Γ H h ⟨_, _, w.pushd .bl⟩⟩
theorem RL.cls : ∀ {vs : List V} {Cs : List Addr}, RL K B vs (Cs.map SK.D.ref) → Paired ClsV vs (Cs.map Value.ref)
  | [], [], _ => .nil
  | _ :: _, C :: Cs, .cons r t => by cases r; exact .cons (.own C) (RL.cls t)
end
end SK
namespace SK
open PySem PySem.Spec PyProof.Rows L2
end SK
namespace SK
open PySem PySem.Spec PyProof.Rows L2
section
variable {K : PySem.W.Frag} {F B0 : Hp} {T : List O} {Γ : En} {Dd : EG} {c : Value} {ts : Addr → Value → Option Addr → TS} {Wout : WX} {tw : WX → TS} {u : TS} {i : Nat}
def tTryE (K : PySem.W.Frag) (c : Value) (ts : Addr → Value → Option Addr → TS) (Wout : WX) (tb : WX → TS) (u : TS) : TS := fun De σ H => tb (wOnly K c ts Wout De) { De with nx := u De } σ H
end
end SK
namespace SK
open PySem PySem.Spec PyProof.Rows L2
theorem gos_sIW {K : PySem.W.Frag} {F B0 : Hp} {T : List O} {Γ : En} {Dd : EG} {tt : TT} {u t2 : TS} {W : WX} {C : Addr} (h : GoS K F B0 (tIfS tt (tRaise W C) u) T Γ { Dd with nx := fun Γ1 => GoS K F B0 t2 T Γ1 Dd }) : GoS K F B0 (tSeq (tIfS tt (tRaise W C) u) t2) T Γ Dd := gos_seq h
end SK
namespace SK
open PySem PySem.Spec PyProof.Rows L2
section
variable {K : PySem.W.Frag} {F B0 : Hp} {T : List O} {Γ : En} {Dd : EG} {c : Value} {ts : Addr → Value → Option Addr → TS} {Wout : WX} {tw : WX → TS} {u t2 : TS} {i : Nat}
theorem gos_sTA (h : GoS K F B0 (tTryAs K c i ts Wout tw) T Γ { Dd with nx := fun Γ1 => GoS K F B0 t2 T Γ1 Dd }) : GoS K F B0 (tSeq (tTryAs K c i ts Wout tw) t2) T Γ Dd := gos_seq h
theorem gos_sTO (h : GoS K F B0 (tTry K c ts Wout tw) T Γ { Dd with nx := fun Γ1 => GoS K F B0 t2 T Γ1 Dd }) : GoS K F B0 (tSeq (tTry K c ts Wout tw) t2) T Γ Dd := gos_seq h
theorem gos_sTE (h : GoS K F B0 (tTryE K c ts Wout tw u) T Γ { Dd with nx := fun Γ1 => GoS K F B0 t2 T Γ1 Dd }) : GoS K F B0 (tSeq (tTryE K c ts Wout tw u) t2) T Γ Dd := gos_seq h
end
end SK
namespace SK
open PySem PySem.Spec PyProof.Rows L2
end SK
namespace SK
open PySem PySem.Spec PyProof.Rows L2 TL
def rSIndexG : V → List V → Hp → VK → Prop := fun x xs H Q => ∃ a b i rest, x = .str a ∧ xs = [.str b] ∧ Builtin.Str.occurrences a b 0 a.length 1 = i :: rest ∧ Q (.int (i : Nat)) H
def rFindG : V → List V → Hp → VK → Prop := fun x xs H Q => ∃ a b, x = .str a ∧ xs = [.str b] ∧ Q (.int (Txt.find a b)) H
section
variable {K : PySem.W.Frag} {F B0 H H' B B' : Hp} {τ τs : List V} {T os : List O} {σ : L2.St} {Γ : En} {S S1 S2 : Ad} {v w : V} {post : O → En → Prop} {ta : TA} {te : TE}
/-- a.index(b) of a text that has it -/
theorem go_sindex (h : Go K F B0 te T Γ fun o Γ1 => ∃ a, o = .d (.str a) ∧ GoA K F B0 ta (.d (.str a) :: T) Γ1 fun xs Γ2 => ∃ b i rest, xs = [.str b] ∧ Builtin.Str.occurrences a b 0 a.length 1 = i :: rest ∧ post (.d (.int (i : Nat))) Γ2) :
    Go K F B0 (tBM K "str" rSIndexG te ta) T Γ post := fun τ σ H Q hw k =>
  h τ σ H _ hw fun v1 o1 Γ1 H1 ⟨a, e, h1⟩ ⟨_, _, w1⟩ => by
    subst e
    obtain ⟨r1, _⟩ := w1.popd
    cases r1
    refine ⟨rfl, h1 _ σ H1 _ ⟨_, _, w1⟩ fun vs xs Γ2 H2 ⟨b, i, rest, e, oc, h2⟩ ⟨_, _, w2⟩ hl => ?_⟩
    subst e
    obtain ⟨rl, S2, w3⟩ := w2.args hl
    obtain ⟨_, _, _, w4⟩ := w3.popd
    obtain ⟨u, rfl, r⟩ := rl.one
    cases r
    exact ⟨a, b, i, rest, rfl, rfl, oc, k _ _ _ _ h2 ⟨_, _, w4.pushd .int⟩⟩
theorem go_find (h : Go K F B0 te T Γ fun o Γ1 => ∃ a, o = .d (.str a) ∧ GoA K F B0 ta (.d (.str a) :: T) Γ1 fun xs Γ2 => ∃ b, xs = [.str b] ∧ post (.d (.int (Txt.find a b))) Γ2) :
    Go K F B0 (tBM K "str" rFindG te ta) T Γ post := fun τ σ H Q hw k =>
  h τ σ H _ hw fun v1 o1 Γ1 H1 ⟨a, e, h1⟩ ⟨_, _, w1⟩ => by
    subst e
    obtain ⟨r1, _⟩ := w1.popd
    cases r1
    refine ⟨rfl, h1 _ σ H1 _ ⟨_, _, w1⟩ fun vs xs Γ2 H2 ⟨b, e, h2⟩ ⟨_, _, w2⟩ hl => ?_⟩
    subst e
    obtain ⟨rl, S2, w3⟩ := w2.args hl
    obtain ⟨_, _, _, w4⟩ := w3.popd
    obtain ⟨u, rfl, r⟩ := rl.one
    cases r
    exact ⟨a, b, rfl, rfl, k _ _ _ _ h2 ⟨_, _, w4.pushd .int⟩⟩
end
end SK
namespace SK
open PySem PySem.Spec PyProof.Rows L2
/-- an exception of the body is always one that the clause names -/
def wAll (K : PySem.W.Frag) (c : Value) (ts : Addr → Value → Option Addr → TS) (De : Ends) : WX := fun cls d σ H => PySem.W.exmOne K cls c = some true ∧ ∀ a, H a = none → ts a cls d De σ H
def tTryXE (K : PySem.W.Frag) (c : Value) (ts : Addr → Value → Option Addr → TS) (tb : WX → TS) (u : TS) : TS := fun De σ H => tb (wAll K c ts De) { De with nx := u De } σ H
section
variable {K : PySem.W.Frag} {F B0 : Hp} {T : List O} {Γ : En} {Dd : EG} {c : Value} {ts : Addr → Value → Option Addr → TS} {Wout : WX} {tw : WX → TS} {u t2 : TS}
theorem gos_sTX (h : GoS K F B0 (tTryXE K c ts tw u) T Γ { Dd with nx := fun Γ1 => GoS K F B0 t2 T Γ1 Dd }) : GoS K F B0 (tSeq (tTryXE K c ts tw u) t2) T Γ Dd := gos_seq h
end
end SK
namespace SK
open PySem PySem.Spec PyProof.Rows L2 TL
end SK
namespace SK
open PySem PySem.Spec PyProof.Rows L2
end SK
namespace SK
open PySem PySem.Spec PyProof.Rows L2 TL
def rUpperG : V → List V → Hp → VK → Prop := fun x xs H Q => ∃ a, x = .str a ∧ xs = [] ∧ a.length ≤ 5592405 ∧ Q (.str (Txt.upper a)) H
section
variable {K : PySem.W.Frag} {F B0 H H' B B' : Hp} {τ τs : List V} {T os : List O} {σ : L2.St} {Γ : En} {S S1 S2 : Ad} {v w : V} {post : O → En → Prop} {ta : TA} {te : TE} {i : Nat} {Dd : EG}
theorem go_upper (h : Go K F B0 te T Γ fun o Γ1 => ∃ a, o = .d (.str a) ∧ a.length ≤ 100000 ∧ post (.d (.str (Txt.upper a))) Γ1) :
    Go K F B0 (tBM0 K "str" rUpperG te) T Γ post := fun τ σ H Q hw k =>
  h τ σ H _ hw fun v1 o1 Γ1 H1 ⟨a, e, hz, h1⟩ ⟨_, _, w1⟩ => by
    subst e
    obtain ⟨r1, _, _, w2⟩ := w1.popd
    cases r1
    exact ⟨rfl, a, rfl, rfl, Nat.le_trans hz (by decide), k _ _ _ _ h1 ⟨_, _, w2.pushd .str⟩⟩
/-- xs.clear(), xs a name -/
theorem gos_clear (h : ∃ xs, Γ[i]? = some (some (.ol xs)) ∧ Dd.nx (Γ.set i (some (.ol [])))) :
    GoS K F B0 (tDrop (tBM0 K "list" rClear (tVar i))) T Γ Dd := fun τ σ H De hw s => by
  obtain ⟨B, S, w⟩ := hw
  obtain ⟨xs, e0, h⟩ := h
  obtain ⟨v, S1, a1, r1, _, f⟩ := w.mut1 e0
  cases r1 with
  | @ol _ S4 a vs _ ha hs hn hc rs =>
  refine ⟨.ref a, a1, Or.inl ⟨rfl, vs, SqL.of hc⟩, a, vs, rfl, rfl, hc, ?_⟩
  obtain ⟨S', w3⟩ := f a (.lst []) (.ol []) ha (.ol (S' := fun _ => False) ha (fun b z => False.elim z) id upd_same .nil)
  exact s.nx σ _ _ h ⟨B, S', w3⟩
theorem RS.app0 : ∀ {σ : List (Option V)} {Γ : List (Option O)} {S : Ad} {vs : List V} {xs : List D}, RS K B H S σ Γ → RL K B vs xs → RS K B H S (σ ++ vs.map some) (Γ ++ (xs.map O.d).map some)
  | _, _, _, _, _, .nil, rl => by simpa using fl_of rl
  | _, _, _, _, _, .un r, rl => .un (RS.app0 r rl)
  | _, _, _, _, _, .cons s1 s2 d r rs, rl => .cons s1 s2 d r (RS.app0 rs rl)
/-- xs.extend(e), xs a name -/
theorem gos_extend (h : Go K F B0 te T Γ fun o Γ1 => ∃ xs zs, o.fz = .lst zs ∧ Γ1[i]? = some (some (.ol xs)) ∧ xs.length + zs.length ≤ 100000 ∧ Dd.nx (Γ1.set i (some (.ol (xs ++ zs.map O.d))))) (h0 : ∃ xs, Γ[i]? = some (some (.ol xs))) :
    GoS K F B0 (tDrop (tBM K "list" rExtend (tVar i) (tCons te tNil))) T Γ Dd := fun τ σ H De hw s => by
  obtain ⟨B, S, w⟩ := hw
  obtain ⟨xs0, e0⟩ := h0
  obtain ⟨v, S1, a1, r1, _, _⟩ := w.mut1 e0
  cases r1 with
  | @ol _ _ a vs _ _ _ _ hc _ =>
  refine ⟨.ref a, a1, Or.inl ⟨rfl, vs, SqL.of hc⟩, h τ σ H _ ⟨B, S, w⟩ fun v2 o2 Γ2 H2 ⟨xs, zs, ez, e2, hz, h2⟩ ⟨B2, S2, w2⟩ => ?_⟩
  obtain ⟨B3, S3, w3, r3, _⟩ := w2.fzd
  rw [ez] at r3
  cases r3 with
  | @lst b us _ hb rl =>
  obtain ⟨v', S5, a2, r2, _, f⟩ := w3.mut1 e2
  rw [a1] at a2
  cases a2
  cases r2 with
  | @ol _ S4 _ ws _ ha hs hn hc2 rs =>
  have len : ws.length = xs.length := by simpa using rs.len
  have len2 : us.length = zs.length := rl.length
  refine ⟨a, b, ws, us, rfl, rfl, hc2, w3.pu _ _ hb, by rw [len, len2]; exact Nat.le_trans hz (by decide), ?_⟩
  obtain ⟨S', w4⟩ := f a (.lst (ws ++ us)) (.ol (xs ++ zs.map O.d)) ha (.ol (S' := S4) ha hs hn upd_same (by
    rw [List.map_append, List.map_append]
    exact (rs.app0 rl).at fun b u z q => by
      rw [upd_ne (fun e => by subst e; exact hn z)]; exact q))
  exact s.nx σ _ _ h2 ⟨_, S', w4⟩
end
end SK
namespace SK
open PySem PySem.Spec PyProof.Rows L2
section
variable {K : PySem.W.Frag} {F B0 H H' B B' : Hp} {τ τs : List V} {T os : List O} {σ : L2.St} {Γ : En} {S S1 S2 : Ad} {v w : V}
theorem iter_zipT {a b : Addr} {xs ys : List D} : Iter K F B0 (RZ.ItzT K a b) [.ref b, .ref a] [.tup ys, .tup xs] (zipD xs ys) := by
  intro τ T σ Γ H B S h rl0
  obtain ⟨v0, v1, e0, r2, r⟩ := rl0.two
  cases e0
  cases r with | @tup _ vs _ sq rl =>
  cases r2 with | @tup _ us _ sq2 rl2 =>
  have sqh := h.pu.sqT sq
  have sqh2 := h.pu.sqT sq2
  refine ⟨⟨vs, us, sqh, sqh2, by simp only [zipD, List.length_map, List.length_zip]; have := rl.length; have := rl2.length; omega⟩, fun i d hd => ?_⟩
  have hi : i < (zipD xs ys).length := (List.getElem?_eq_some_iff.mp hd).1
  simp only [zipD, List.length_map, List.length_zip] at hi
  have hxi : i < xs.length := by omega
  have hyi : i < ys.length := by omega
  have e : d = .tup [xs[i], ys[i]] := by
    simp [zipD, hxi, hyi, List.getElem?_map, List.zip, List.getElem?_zipWith] at hd
    exact hd.symm
  subst e
  obtain ⟨x1, hx1, rx1⟩ := rl.get (i := i) (x := xs[i]) (by simp [hxi])
  obtain ⟨y1, hy1, ry1⟩ := rl2.get (i := i) (x := ys[i]) (by simp [hyi])
  refine ⟨⟨vs, us, x1, y1, sqh, sqh2, hx1, hy1⟩, fun z H' ⟨t, x2, y2, e1, e2, e3, f1, f2⟩ => ?_⟩
  subst e1 e3
  have g1 := f1 vs sqh
  rw [hx1] at g1
  cases g1
  have g2 := f2 us sqh2
  rw [hy1] at g2
  cases g2
  have ex : Ex B (upd B t (.tup [x1, y1])) := .new (h.pu.back e2)
  obtain ⟨S', w'⟩ := HW.newd h e2 (x := .tup [xs[i], ys[i]]) (.tup (SqT.of upd_same) (.cons (rx1.mono (.of_ex ex)) (.cons (ry1.mono (.of_ex ex)) .nil)))
  exact ⟨_, S', w'⟩
theorem goi_zipT {ta : TA} {posti : List D → List D → En → Prop} (h : GoA K F B0 ta T Γ fun zs Γ1 => ∃ xs ys, zs = [.tup xs, .tup ys] ∧ posti (zipD xs ys) [.tup ys, .tup xs] Γ1) : GoI K F B0 (RZ.iZipA K ta) T Γ posti := fun τ σ H Q hw k =>
  h τ σ H _ hw fun vs zs Γ1 H1 ⟨xs, ys, e, h1⟩ ⟨_, _, w1⟩ hl => by
    subst e
    obtain ⟨rl, S', w⟩ := w1.args hl
    cases rl with | cons r rl0 => cases rl0 with | cons r2 rl0 =>
      cases rl0
      have r' := r
      have r2' := r2
      cases r with | @tup a us _ sq rl2 =>
      cases r2 with | @tup b us2 _ sq2 rl3 =>
      exact ⟨a, b, us, us2, rfl, .inr ⟨w.pu.sqT sq, w.pu.sqT sq2, k (RZ.ItzT K a b) [.ref b, .ref a] [.tup ys, .tup xs] _ Γ1 H1 h1 ⟨_, _, (w.pushd r').pushd r2'⟩ rfl iter_zipT⟩⟩
end
end SK
set_option maxHeartbeats 1000000
namespace SK
open PySem PySem.Spec PyProof.Rows L2
mutual
/-- no list, dict or instance is in it -/
def D.lf : D → Bool
  | .non => true
  | .bl _ => true
  | .int _ => true
  | .str _ => true
  | .ref _ => true
  | .ty _ => true
  | .tup xs => lfL xs
  | _ => false
def lfL : List D → Bool
  | [] => true
  | x :: xs => x.lf && lfL xs
end
mutual
def O.lf : O → Bool
  | .d x => x.lf
  | .ol xs => lfOL xs
  | .od kvs => lfOK kvs
  | .oi _ _ fs => lfOF fs
  | .op xs => lfOL xs
  | .atA _ o => o.lf
  | _ => false
def lfOL : List O → Bool
  | [] => true
  | x :: xs => x.lf && lfOL xs
def lfOK : List (Key × O) → Bool
  | [] => true
  | (_, x) :: xs => x.lf && lfOK xs
def lfOF : List (Str × O) → Bool
  | [] => true
  | (_, x) :: xs => x.lf && lfOF xs
end
section
variable {K : PySem.W.Frag} {B B2 H : Hp}
mutual
theorem R.lfD (hB : ∀ a xs, SqT K B a xs → SqT K B2 a xs) : ∀ (x : D) {v : V}, R K B v x → x.lf = true → R K B2 v x
  | .non, _, r, _ => by cases r; exact .non
  | .bl _, _, r, _ => by cases r; exact .bl
  | .int _, _, r, _ => by cases r; exact .int
  | .str _, _, r, _ => by cases r; exact .str
  | .ref _, _, r, _ => by cases r; exact .ref
  | .ty _, _, r, _ => by cases r; exact .ty
  | .tup xs, _, r, q => by
    cases r with
    | tup h rl => exact .tup (hB _ _ h) (RL.lfD hB xs rl (by simpa [D.lf] using q))
  | .lst _, _, _, q => by simp [D.lf] at q
  | .sq _, _, _, q => by simp [D.lf] at q
  | .dic _, _, _, q => by simp [D.lf] at q
  | .dit _, _, _, q => by simp [D.lf] at q
  | .ins _ _, _, _, q => by simp [D.lf] at q
theorem RL.lfD (hB : ∀ a xs, SqT K B a xs → SqT K B2 a xs) : ∀ (xs : List D) {vs : List V}, RL K B vs xs → lfL xs = true → RL K B2 vs xs
  | [], _, r, _ => by cases r; exact .nil
  | x :: xs, _, r, q => by
    simp only [lfL, Bool.and_eq_true] at q
    cases r with
    | cons r t => exact .cons (R.lfD hB x r q.1) (RL.lfD hB xs t q.2)
end
theorem R.lf (hB : ∀ a xs, SqT K B a xs → SqT K B2 a xs) {v : V} {x : D} (r : R K B v x) (q : x.lf = true) : R K B2 v x := R.lfD hB x r q
theorem lfOL_map : ∀ {xs : List O}, lfOL xs = true → ∀ o ∈ xs, o.lf = true
  | x :: xs, q, o, h => by
    simp only [lfOL, Bool.and_eq_true] at q
    rcases List.mem_cons.mp h with rfl | h
    · exact q.1
    · exact lfOL_map q.2 o h
theorem lfOK_map : ∀ {xs : List (Key × O)}, lfOK xs = true → ∀ p ∈ xs, p.2.lf = true
  | (k, x) :: xs, q, p, h => by
    simp only [lfOK, Bool.and_eq_true] at q
    rcases List.mem_cons.mp h with rfl | h
    · exact q.1
    · exact lfOK_map q.2 p h
theorem lfOF_map : ∀ {xs : List (Str × O)}, lfOF xs = true → ∀ p ∈ xs, p.2.lf = true
  | (k, x) :: xs, q, p, h => by
    simp only [lfOF, Bool.and_eq_true] at q
    rcases List.mem_cons.mp h with rfl | h
    · exact q.1
    · exact lfOF_map q.2 p h
mutual
theorem RO.lf (hB : ∀ a xs, SqT K B a xs → SqT K B2 a xs) : ∀ {S : Ad} {v : V} {o : O}, RO K B H S v o → o.lf = true → RO K B2 H S v o
  | _, _, _, .d r, q => .d (r.lf hB (by simpa [O.lf] using q))
  | _, _, _, .ol (xs := xs) ha hs hn h r, q => .ol ha hs hn h (RS.lf hB r fun o ho => by
      obtain ⟨y, hy, e⟩ := List.mem_map.mp ho
      cases e
      exact lfOL_map (by simpa [O.lf] using q) o hy)
  | _, _, _, .od (kvs := kvs) ha hs hn h nd e r, q => .od ha hs hn h nd e (RS.lf hB r fun o ho => by
      obtain ⟨y, hy, e⟩ := List.mem_map.mp ho
      cases e
      exact lfOK_map (by simpa [O.lf] using q) y hy)
  | _, _, _, .oi (kvs := kvs) ha hd hs hn hn2 ne h h2 e r, q => .oi ha hd hs hn hn2 ne h h2 e (RS.lf hB r fun o ho => by
      obtain ⟨y, hy, e⟩ := List.mem_map.mp ho
      cases e
      exact lfOF_map (by simpa [O.lf] using q) y hy)
  | _, _, _, .op (xs := xs) h r, q => .op (hB _ _ h) (RS.lf hB r fun o ho => by
      obtain ⟨y, hy, e⟩ := List.mem_map.mp ho
      cases e
      exact lfOL_map (by simpa [O.lf] using q) o hy)
  | _, _, _, .atA r, q => .atA (RO.lf hB r (by simpa [O.lf] using q))
theorem RS.lf (hB : ∀ a xs, SqT K B a xs → SqT K B2 a xs) : ∀ {S : Ad} {σ : List (Option V)} {Γ : List (Option O)}, RS K B H S σ Γ → (∀ o, some o ∈ Γ → o.lf = true) → RS K B2 H S σ Γ
  | _, _, _, .nil, _ => .nil
  | _, _, _, .un r, q => .un (RS.lf hB r fun o h => q o (List.mem_cons_of_mem _ h))
  | _, _, _, .cons s1 s2 d r t, q => .cons s1 s2 d (RO.lf hB r (q _ List.mem_cons_self)) (RS.lf hB t fun o h => q o (List.mem_cons_of_mem _ h))
end
end
end SK
namespace SK
open PySem PySem.Spec PyProof.Rows L2
def rMinD (K : PySem.W.Frag) : List V → List V → Hp → VK → Prop := fun vs zs H Q => ∃ (a : Addr) (ns : List Int) (d : V), vs = [V.ref a] ∧ zs = [d] ∧ SqL K H a (ns.map V.int) ∧ (ns = [] → Q d H) ∧ ∀ m, m ∈ ns → (∀ y, y ∈ ns → m ≤ y) → Q (.int m) H
section
variable {K : PySem.W.Frag} {F B0 H H' B B' : Hp} {τ : List V} {T : List O} {σ : L2.St} {Γ : En} {post : O → En → Prop} {t tk : TA}
theorem go_minD (h : GoA K F B0 t T Γ fun xs Γ1 => ∃ x ns, xs = [x] ∧ x.seq? = some (ns.map D.int) ∧ GoA K F B0 tk (.d x :: T) Γ1 fun zs Γ2 => ∃ y, zs = [y] ∧ (ns = [] → post (.d y) Γ2) ∧ ∀ m, m ∈ ns → (∀ y, y ∈ ns → m ≤ y) → post (.d (.int m)) Γ2) :
    Go K F B0 (tCKw (rMinD K) t tk) T Γ post := fun τ σ H Q hw k =>
  h τ σ H _ hw fun vs xs Γ1 H1 ⟨x, ns, e, q, h1⟩ w1 hl => by
    subst e
    obtain ⟨v, rfl⟩ : ∃ v, vs = [v] := List.length_eq_one_iff.mp hl
    refine h1 _ σ H1 _ w1 fun zs ys Γ2 H2 ⟨y, e2, h0, h2⟩ ⟨B2, S2, w2⟩ hl2 => ?_
    subst e2
    obtain ⟨z, rfl⟩ : ∃ z, zs = [z] := List.length_eq_one_iff.mp hl2
    obtain ⟨ry, _, _, w3⟩ := w2.popd
    obtain ⟨rx, _, _, w4⟩ := w3.popd
    obtain ⟨a, us, rfl, sq, rl⟩ := rx.seqL q
    have eu : us = ns.map V.int := by
      have : ∀ {us : List V} {ns : List Int}, RL K B2 us (ns.map D.int) → us = ns.map V.int := by
        intro us ns r
        induction ns generalizing us with
        | nil => cases r; rfl
        | cons n ns ih =>
          cases r with
          | cons r t => cases r; rw [ih t]; rfl
      exact this rl
    subst eu
    exact ⟨a, ns, z, rfl, rfl, w4.pu.sqL sq, fun hz => k _ _ _ _ (h0 hz) ⟨_, _, w4.pushd ry⟩, fun m hm hall => k _ _ _ _ (h2 m hm hall) ⟨_, _, w4.pushd .int⟩⟩
end
end SK
namespace SK
open PySem PySem.Spec PyProof.Rows L2
/-- the j-th statement of a class -/
def inCls (st : Stmt) (j : Nat) : Stmt := match st with
  | .ClassDef (body := b) .. => b.getD j (.Pass ⟨0, 0, 0, 0⟩)
  | _ => .Pass ⟨0, 0, 0, 0⟩
/-- a class at Ci is made by an __init__ that keeps a contract -/
def CalI (P : Program) (w : World) (K : PySem.W.Frag) (mg : Str → Option Value) (base : Heap) (x : Str) (Ci : Addr) (k : Nat) (ps : List Str) (C : Cs) : Prop :=
  ∃ f fd, FnOk P w K mg base CX0 k f fd ps (spS K Ci C) ∧ mg x = some (.ref Ci) ∧ Mk K Ci f ∧ Binds K fd ps []
def DfM (K : PySem.W.Frag) (m q : Str) (st : Stmt) (f : Addr) : Prop := ∃ fd, Fun K m q st f fd
theorem dfm_mk {K : PySem.W.Frag} {m q : Str} {st : Stmt} {f : Addr} {oc : Value} {od an : Option Addr} {sl : Array (Option Value)} {kV dc pm cd ct : Value}
    (l : K.lookup f = some ⟨oc, od, .func (PySem.W.fnOf m q (defArgs st) (defBody st) (defScope st) .none kV dc pm an cd ct), sl⟩)
    (c : PySem.W.codeIn K cd q = true) (k : PySem.W.keepIn K (.ref f) = true) : DfM K m q st f := ⟨_, fun_mk (st := st) l c k⟩
/-- the class facts of a record: its fields are its own -/
structure Rec (K : PySem.W.Frag) (Ci : Addr) (fs : List Str) : Prop where
  cls : Cls K Ci
  no : ∀ f, fs.contains f = true → NoAttr K Ci f
section
variable {K : PySem.W.Frag} {F B0 H H' B B' : Hp} {τ : List V} {T : List O} {σ : L2.St} {Γ : En} {post : O → En → Prop} {te tv : TE} {Ci : Addr} {fl : List Str} {f : Str} {Dd : EG} {i : Nat}
/-- e.f of a frozen record -/
theorem go_fldR (R : Rec K Ci fl) (h : Go K F B0 te T Γ fun o Γ1 => ∃ fs y, o.fz = .ins Ci fs ∧ fs.lookup f = some y ∧ fl.contains f = true ∧ post (.d y) Γ1) : Go K F B0 (tFld K te f) T Γ post :=
  go_fld fun τ σ H Q hw k => h τ σ H Q hw fun v o Γ1 H1 ⟨fs, y, e1, e2, e3, e4⟩ w => k v o Γ1 H1 ⟨Ci, fs, y, e1, e2, R.cls, R.no f e3, e4⟩ w
/-- self.f = e in __init__ -/
theorem gos_fldR (R : Rec K Ci fl) (h : Go K F B0 tv T Γ fun o Γ1 => ∃ a fs, Γ1[i]? = some (some (.oi a Ci fs)) ∧ fl.contains f = true ∧ fs.length < 1000 ∧ Dd.nx (Γ1.set i (some (.oi a Ci (SK.fput f o fs))))) : GoS K F B0 (sFld K (tVar i) tv f) T Γ Dd :=
  gos_fld fun τ σ H Q hw k => h τ σ H Q hw fun v o Γ1 H1 ⟨a, fs, e1, e2, e3, e4⟩ w => k v o Γ1 H1 ⟨a, Ci, fs, e1, R.cls, R.no f e2, e3, e4⟩ w
end
theorem k_sfld {K : PySem.W.Frag} {X : Cx} {st : Stmt} {ta tv : TE} {f : Str} (h : X.K = K) (q : PS X st (sFld X.K ta tv f)) : PS X st (sFld K ta tv f) := by cases h; exact q
end SK
namespace SK
open PySem PySem.Spec PyProof.Rows L2
end SK
namespace SK
open PySem PySem.Spec PyProof.Rows L2
end SK
namespace SK
open PySem PySem.Spec PyProof.Rows L2 RT
def tListRev (K : PySem.W.Frag) (te : TE) : TE := fun σ H Q => te σ H fun v H1 => ∃ (a : Addr) (xs : List V), v = .ref a ∧ SqL K H1 a xs ∧ ∀ q, H1 q = none → Q (.ref q) (upd H1 q (.lst xs.reverse))
section
variable {K : PySem.W.Frag} {F B0 H H' B B' : Hp} {τ : List V} {T : List O} {σ : L2.St} {Γ : En} {post : O → En → Prop} {te : TE}
theorem RL.rev {vs : List V} {xs : List D} (r : RL K B vs xs) : RL K B vs.reverse xs.reverse := by
  induction vs generalizing xs with
  | nil => cases r; exact .nil
  | cons v vs ih =>
    cases r with
    | cons r t =>
      rw [List.reverse_cons, List.reverse_cons]
      exact (ih t).app (.cons r .nil)
/-- list(reversed(xs)) -/
theorem go_listRev (h : Go K F B0 te T Γ fun o Γ1 => ∃ xs, o.fz.seq? = some xs ∧ post (.ol (xs.reverse.map O.d)) Γ1) : Go K F B0 (tListRev K te) T Γ post := fun τ σ H Q hw k =>
  h τ σ H _ hw fun v1 o1 Γ1 H1 ⟨xs, e1, h1⟩ ⟨_, _, w1⟩ => by
    obtain ⟨B2, S2, w2, r, _⟩ := w1.fzd
    obtain ⟨a, vs, rfl, sq, rl⟩ := r.seqL e1
    refine ⟨a, vs, rfl, w2.pu.sqL sq, fun p hp => ?_⟩
    obtain ⟨S3, w3⟩ := w2.newl hp rl.rev
    exact k _ _ _ _ h1 ⟨_, _, w3⟩
end
end SK
namespace SK
open PySem PySem.Spec PyProof.Rows L2
section
variable {K : PySem.W.Frag} {F B0 H B : Hp} {τ : List V} {T : List O} {σ : L2.St} {Γ : En} {S : Ad} {o : O} {i : Nat} {te : TE} {tt : TT} {post : O → En → Prop} {postt : Bool → En → Prop}
theorem HW.lendA (w : HW K F B0 τ T σ Γ H B S) : ∃ Bf, Ho K H Bf [] [] σ (fzE Γ) H ∧
    (∀ Γ1 H1, Ho K H Bf [] [] σ Γ1 H1 → Ho K F B0 τ T σ Γ H1) ∧
    ∀ v' o' Γ1 H1, Ho K H Bf [v'] [o'] σ Γ1 H1 → o'.lf = true → Ho K F B0 (v' :: τ) (o' :: T) σ Γ H1 := by
  obtain ⟨Sp, Ss, p1, p2, p3, rp, rsl⟩ := RS.split (σ0 := τ.map some) (Γ0 := T.map some) (by simp [w.lt]) w.rs
  obtain ⟨L, l1, r2, l3⟩ := rsl.tight
  have bn : ∀ a, L a → B a = none ∧ H a ≠ none := fun a z => (w.ow a (p2 a (l1 a z))).2
  have ex : Ex B (SK.frz B H L) := frz_ex fun a z => (bn a z).1
  have le0 : BLe B (SK.frz B H L) := .of_ex ex
  have main : ∀ v' o' Γ1 H1, Ho K H (SK.frz B H L) [v'] [o'] σ Γ1 H1 → o'.lf = true → Ho K F B0 (v' :: τ) (o' :: T) σ Γ H1 := by
    intro v' o' Γ1 H1 ⟨B1, Sr, w1⟩ lf
    obtain ⟨T1, T2, t1, t2, dj, ro, _⟩ := w1.pop
    have hB : ∀ a u, B a = some u → ¬ L a := fun a u q z => by rw [(bn a z).1] at q; cases q
    have off : ∀ a u, ¬ L a → B1 a = some u → offH B1 L a = some u := fun a u z q => by rw [offH_no z]; exact q
    have offR : ∀ a u, ¬ L a → Rd B1 a u → Rd (offH B1 L) a u := fun a u z q => q.elim (fun q => .inl (off a _ z q)) fun ⟨o, q⟩ => .inr ⟨o, off a _ z q⟩
    have nL : ∀ a u, Rd B a u → ¬ L a := fun a u q => q.elim (hB a _) fun ⟨o, q⟩ => hB a _ q
    have le : BLe B (offH B1 L) := by
      have l := le0.trans w1.b0
      exact ⟨fun a xs q => offR a _ (nL a _ q) (l.tup a xs q), fun a xs q => offR a _ (nL a _ q) (l.lst a xs q), fun a xs q => off a _ (hB a _ q) (l.ls a xs q), fun a xs q => offR a _ (nL a _ q) (l.dK a xs q), fun a xs q => offR a _ (nL a _ q) (l.dT a xs q), fun a C dx fs q => off a _ (hB a _ q) (l.ins a C dx fs q)⟩
    have pu : Ex (offH B1 L) H1 := fun a u q => by
      by_cases z : L a
      · rw [offH_at z] at q; cases q
      · rw [offH_no z] at q; exact w1.pu a u q
    have sq : ∀ a xs, SqT K B1 a xs → SqT K (offH B1 L) a xs := fun a xs q => q.imp (fun q => by
      refine offR a _ (fun z => ?_) q
      have q2 : ∃ u, B1 a = some u ∧ (u = .tup xs ∨ ∃ o, u = .frz o (.tup xs)) := q.elim (fun q => ⟨_, q, .inl rfl⟩) fun ⟨o, q⟩ => ⟨_, q, .inr ⟨o, rfl⟩⟩
      obtain ⟨u, q3, q4⟩ := q2
      have q5 := w1.pu a u q3
      rcases l3 a z with ⟨_, y⟩ | ⟨_, y⟩ | ⟨_, y⟩ | ⟨_, _, _, y⟩ | ⟨_, y⟩ <;>
        (rw [w1.fr a _ y] at q5
         cases q5
         rcases q4 with q4 | ⟨_, q4⟩ <;> cases q4)) id
    refine ⟨offH B1 L, fun a => T1 a ∨ S a, w.fr.trans w1.fr, pu, w.b0.trans le, fun a z => ?_, fun a z => ?_, .cons (S1 := T1) (S2 := S) (fun _ z => .inl z) (fun _ z => .inr z) (fun a z y => ?_) (ro.lf sq lf) (w.rs.tr le (fun _ z => z) fun a u _ q => w1.fr a u q), by simp [w.lt]⟩
    · rcases z with z | z
      · obtain ⟨q1, q2, q3⟩ := w1.ow a (t1 a z)
        refine ⟨w.fr.back q1, ?_, q3⟩
        by_cases y : L a
        · exact offH_at y
        · rw [offH_no y]; exact q2
      · obtain ⟨q1, q2, q3⟩ := w.ow a z
        refine ⟨q1, ?_, fun q => q3 (w1.fr.back q)⟩
        by_cases y : L a
        · exact offH_at y
        · rw [offH_no y]
          cases q : B1 a with
          | none => rfl
          | some u =>
            rcases w1.nw a (by rw [q]; simp) with x | x
            · rw [frz_no y] at x; exact absurd q2 x
            · exact absurd x q3
    · by_cases y : L a
      · exact absurd (offH_at y) z
      · rw [offH_no y] at z
        rcases w1.nw a z with x | x
        · rw [frz_no y] at x; exact w.nw a x
        · exact .inr (w.fr.back x)
    · exact (w.ow a y).2.2 (w1.ow a (t1 a z)).1
  refine ⟨SK.frz B H L, ⟨SK.frz B H L, fun _ => False, .refl H, fun a u q => ?_, .refl _, fun _ z => z.elim, fun _ z => .inl z, ?_, rfl⟩, fun Γ1 H1 ⟨B1, S1, w1⟩ => ?_, main⟩
  · by_cases z : L a
    · rw [frz_at z] at q; exact q
    · rw [frz_no z] at q; exact w.pu a u q
  · exact RS.fzE (S := L) le0 (fun a u z q => by rw [frz_at z]; exact q) r2
  · obtain ⟨B2, S2, w2⟩ := main .non (.d .non) Γ1 H1 ⟨_, _, w1.pushd .non⟩ rfl
    obtain ⟨_, _, _, _, _, _, w3⟩ := w2.pop
    exact ⟨_, _, w3⟩
/-- all slots are read as data in an expression whose value has no part of them -/
theorem go_lendA (h : ∀ F' B', Go K F' B' te [] (fzE Γ) fun o' _ => o'.lf = true ∧ post o' Γ) : Go K F B0 te T Γ post := fun τ σ H Q ⟨B, S, w⟩ k => by
  obtain ⟨Bf, w0, _, back⟩ := w.lendA
  exact h H Bf [] σ H _ w0 fun v o' Γ1 H1 ⟨lf, hp⟩ how => k v o' Γ H1 hp (back v o' Γ1 H1 how lf)
theorem got_lendA (h : ∀ F' B', GoT K F' B' tt [] (fzE Γ) fun b _ => postt b Γ) : GoT K F B0 tt T Γ postt := fun τ σ H Q ⟨B, S, w⟩ k => by
  obtain ⟨Bf, w0, back, _⟩ := w.lendA
  exact h H Bf [] σ H _ w0 fun b Γ1 H1 hp how => k b Γ H1 hp (back Γ1 H1 how)
end
def frO : Option O → Option O
  | none => none
  | some o => some (.d o.fz)
theorem fzE_cons {x : Option O} {r : En} : fzE (x :: r) = frO x :: fzE r := by cases x <;> rfl
theorem fzE_nil : fzE [] = [] := rfl
theorem frO_none : frO none = none := rfl
theorem frO_some {o : O} : frO (some o) = some (.d o.fz) := rfl
def tLendE (t : TE) : TE := t
def tLendT (t : TT) : TT := t
theorem pe_lend {X : Cx} {e : Expr} {t : TE} (h : PE X e t) : PE X e (tLendE t) := h
theorem pt_lend {X : Cx} {e : Expr} {t : TT} (h : PT X e t) : PT X e (tLendT t) := h
section
variable {K : PySem.W.Frag} {F B0 : Hp} {T : List O} {Γ : En} {te : TE} {tt : TT} {post : O → En → Prop} {postt : Bool → En → Prop}
theorem go_lend' (h : ∀ F' B', Go K F' B' te [] (fzE Γ) fun o' _ => o'.lf = true ∧ post o' Γ) : Go K F B0 (tLendE te) T Γ post := go_lendA h
theorem got_lend' (h : ∀ F' B', GoT K F' B' tt [] (fzE Γ) fun b _ => postt b Γ) : GoT K F B0 (tLendT tt) T Γ postt := got_lendA h
end
section
variable {K : PySem.W.Frag} {F B0 H B : Hp} {τ : List V} {T : List O} {σ : L2.St} {Γ : En} {S : Ad} {o : O} {i : Nat} {te : TE} {ta : TA} {post : O → En → Prop} {posts : List O → En → Prop} {Dd : EG}
/-- arguments that stay what they are -/
def GoAO (K : PySem.W.Frag) (F B0 : Hp) (t : TA) (T : List O) (Γ : En) (post : List O → En → Prop) : Prop := ∀ (τ : List V) (σ : L2.St) (H : Hp) (Q : List V → Hp → Prop), Ho K F B0 τ T σ Γ H →
  (∀ vs xs Γ' H', post xs Γ' → Ho K F B0 (vs.reverse ++ τ) (xs.reverse ++ T) σ Γ' H' → vs.length = xs.length → Q vs H') → t σ H Q
theorem goao_nil (h : posts [] Γ) : GoAO K F B0 tNil T Γ posts := fun τ σ H Q hw k => k [] [] Γ H h hw rfl
theorem goao_cons {tr : TA} (h : Go K F B0 te T Γ fun o1 Γ1 => GoAO K F B0 tr (o1 :: T) Γ1 fun xs Γ2 => posts (o1 :: xs) Γ2) : GoAO K F B0 (tCons te tr) T Γ posts := fun τ σ H Q hw k =>
  h τ σ H _ hw fun v1 o1 Γ1 H1 h1 w1 => by
    refine h1 _ σ H1 _ w1 fun vs xs Γ2 H2 h2 w2 hl => ?_
    refine k (v1 :: vs) (o1 :: xs) Γ2 H2 h2 ?_ (by simp [hl])
    simpa using w2
theorem RS.rev : ∀ {σ : List V} {Γ : List O} {S : Ad}, RS K B H S (σ.map some) (Γ.map some) → RS K B H S (σ.reverse.map some) (Γ.reverse.map some)
  | [], [], _, _ => .nil
  | v :: σ, o :: Γ, S, .cons (S1 := T1) (S2 := T2) s1 s2 d r t => by
    rw [List.reverse_cons, List.reverse_cons, List.map_append, List.map_append]
    exact (RS.snoc r t.rev fun b z y => d b y z).tr (.refl B) (fun b z => z.elim (s2 b) (s1 b)) fun _ _ _ e => e
theorem HW.pack {vs : List V} {xs : List O} {p : Addr} {c : HO} (w : HW K F B0 (vs.reverse ++ τ) (xs.reverse ++ T) σ Γ H B S) (hl : vs.length = xs.length) (hp : H p = none) :
    (∃ S', HW K F B0 (.ref p :: τ) (.ol xs :: T) σ Γ (upd H p (.lst vs)) B S') ∧ ∃ S', HW K F B0 (.ref p :: τ) (.op xs :: T) σ Γ (upd H p (.tup vs)) (upd B p (.tup vs)) S' := by
  have rs0 := w.rs
  rw [List.map_append, List.map_append, List.append_assoc, List.append_assoc] at rs0
  obtain ⟨S1, S2, a1, a2, a3, r1, r2⟩ := RS.split (σ0 := vs.reverse.map some) (Γ0 := xs.reverse.map some) (by simp [hl]) rs0
  have r1 := r1.rev
  rw [List.reverse_reverse, List.reverse_reverse] at r1
  have nq : ∀ b, S b → b ≠ p := fun b z e => (w.ow b z).2.2 (e ▸ hp)
  have bp : B p = none := w.pu.back hp
  have lt2 : τ.length = T.length := by have := w.lt; simp [hl] at this; exact this
  constructor
  · have ex : Ex H (upd H p (.lst vs)) := .new hp
    refine ⟨fun b => b = p ∨ S b, w.fr.trans ex, fun a u e => ex a u (w.pu a u e), w.b0, fun b z => ?_, w.nw,
      .cons (S1 := fun b => b = p ∨ S1 b) (S2 := S2) (fun b z => z.imp id (a1 b)) (fun b z => .inr (a2 b z)) (fun b z y => ?_)
        (.ol (S' := S1) (.inl rfl) (fun b z => .inr z) (fun z => nq p (a1 p z) rfl) upd_same (r1.tr (.refl B) (fun _ z => z) fun b u _ e => ex b u e))
        (r2.tr (.refl B) (fun _ z => z) fun b u _ e => ex b u e), by simp [lt2]⟩
    · rcases z with rfl | z
      · exact ⟨w.fr.back hp, bp, by rw [upd_same]; simp⟩
      · obtain ⟨q1, q2, q3⟩ := w.ow b z
        exact ⟨q1, q2, fun q => q3 (ex.back q)⟩
    · rcases z with rfl | z
      · exact nq b (a2 b y) rfl
      · exact a3 b z y
  · have ex : Ex H (upd H p (.tup vs)) := .new hp
    have exB : Ex B (upd B p (.tup vs)) := .new bp
    refine ⟨S, w.fr.trans ex, fun a u e => ?_, w.b0.trans (.of_ex exB), fun b z => ?_, fun b z => ?_,
      .cons (S1 := S1) (S2 := S2) a1 a2 a3
        (.op (SqT.of upd_same) (r1.tr (.of_ex exB) (fun _ z => z) fun b u _ e => ex b u e))
        (r2.tr (.of_ex exB) (fun _ z => z) fun b u _ e => ex b u e), by simp [lt2]⟩
    · by_cases q : a = p
      · subst q; rw [upd_same] at e ⊢; exact e
      · rw [upd_ne q] at e ⊢; exact w.pu a u e
    · obtain ⟨q1, q2, q3⟩ := w.ow b z
      exact ⟨q1, by rw [upd_ne (nq b z)]; exact q2, fun q => q3 (ex.back q)⟩
    · by_cases q : b = p
      · subst q; exact .inr (w.fr.back hp)
      · rw [upd_ne q] at z; exact w.nw b z
/-- (e, ..), its parts its own -/
theorem go_tupO (h : GoAO K F B0 ta T Γ fun xs Γ1 => xs.length ≤ 1000 ∧ post (.op xs) Γ1) : Go K F B0 (tTup ta) T Γ post := fun τ σ H Q hw k =>
  h τ σ H _ hw fun vs xs Γ1 H1 ⟨hz, h1⟩ ⟨_, _, w1⟩ hl => by
    refine ⟨Nat.le_trans (by rw [hl]; exact hz) (by decide), fun p hp => ?_⟩
    obtain ⟨_, S2, w⟩ := w1.pack (c := .lst []) hl hp
    exact k _ _ _ _ h1 ⟨_, _, w⟩
/-- [e, ..], its parts its own -/
theorem go_lstO (h : GoAO K F B0 ta T Γ fun xs Γ1 => xs.length ≤ 1000 ∧ post (.ol xs) Γ1) : Go K F B0 (tLst ta) T Γ post := fun τ σ H Q hw k =>
  h τ σ H _ hw fun vs xs Γ1 H1 ⟨hz, h1⟩ ⟨_, _, w1⟩ hl => by
    refine ⟨Nat.le_trans (by rw [hl]; exact hz) (by decide), fun p hp => ?_⟩
    obtain ⟨⟨S2, w⟩, _⟩ := w1.pack (c := .lst []) hl hp
    exact k _ _ _ _ h1 ⟨_, _, w⟩
/-- a raise that is never reached -/
theorem gos_raise0 {C : Addr} (h : False) : GoS K F B0 (tRaise (fun _ _ _ _ => False) C) T Γ Dd := h.elim
def tTupO (t : TA) : TE := tTup t
def tLstO (t : TA) : TE := tLst t
theorem go_tupO' (h : GoAO K F B0 ta T Γ fun xs Γ1 => xs.length ≤ 1000 ∧ post (.op xs) Γ1) : Go K F B0 (tTupO ta) T Γ post := go_tupO h
theorem go_lstO' (h : GoAO K F B0 ta T Γ fun xs Γ1 => xs.length ≤ 1000 ∧ post (.ol xs) Γ1) : Go K F B0 (tLstO ta) T Γ post := go_lstO h
/-- t[k].clear(), t a name of a tuple whose list is its own -/
theorem gos_clearT {n : Int} (k : Nat) {xs : List O} {ys : List O} (e0 : Γ[i]? = some (some (.op xs))) (hk : xs[k]? = some (.ol ys)) (hn : n = (k : Int))
    (h : Dd.nx (Γ.set i (some (.op (xs.set k (.ol [])))))) :
    GoS K F B0 (tDrop (tBM0 K "list" rClear (tOp (rIxG K) (tVar i) (tC (.int n))))) T Γ Dd := fun τ σ H De hw s => by
  obtain ⟨B, S, w⟩ := hw
  obtain ⟨v, S1, a1, r1, _, f⟩ := w.mut1 e0
  cases r1 with
  | @op _ a vs _ hc rs =>
  have hk2 : (xs.map some)[k]? = some (some (.ol ys)) := by rw [List.getElem?_map, hk]; rfl
  obtain ⟨u, U1, U2, c1, c2, c3, c4, ru, g⟩ := rs.focus hk2
  cases ru with
  | @ol _ U4 b us _ hb hbs hbn hbc brs =>
  have hvk : vs[k]? = some (.ref b) := by
    rw [List.getElem?_map] at c1
    cases q : vs[k]? with
    | none => rw [q] at c1; cases c1
    | some x => rw [q] at c1; cases c1; rfl
  subst hn
  have hat : atI vs (k : Int) = some (.ref b) := by
    unfold atI ixN
    have hlt := (List.getElem?_eq_some_iff.mp hvk).1
    rw [if_pos (by omega), if_pos (by omega)]
    exact hvk
  have rs2 := g B (upd H b (.lst [])) U1 (some (.ref b)) (some (.ol [])) (.refl B) (fun c u z e => by
    have hne : c ≠ b := fun q => by
      rw [q] at z
      exact c4 b hb z
    rw [upd_ne hne]; exact e) c4 (fun x q => by
    cases q
    exact ⟨.ref b, rfl, .ol (S' := fun _ => False) hb (fun _ z => z.elim) id upd_same .nil⟩)
  rw [set_same c1, ← List.map_set] at rs2
  obtain ⟨S', w3⟩ := f b (.lst []) (.op (xs.set k (.ol []))) (c2 b hb) (.op hc (rs2.tr (.refl B) (fun c z => z.elim (c2 c) (c3 c)) fun _ _ _ e => e))
  have hcH : SqT K H a vs := w.pu.sqT hc
  exact ⟨.ref a, a1, .inl (.inr (.inl ⟨a, vs, (k : Int), .ref b, rfl, rfl, hcH, hat, Or.inl ⟨rfl, us, SqL.of hbc⟩, b, us, rfl, rfl, hbc, s.nx σ _ _ h ⟨B, S', w3⟩⟩))⟩
end
end SK
namespace SK
open PySem PySem.Spec PyProof.Rows L2
def Dk (u : HO) : Prop := (∃ ws, u = .dK ws) ∨ ∃ ws, u = .dT ws
section
variable {K : PySem.W.Frag} {F B0 H B : Hp} {τ : List V} {T : List O} {σ : L2.St} {Γ : En} {S : Ad} {d : Addr} {od : Obj} {u : HO}
theorem Rd.of_plain {B : Hp} {a : Addr} {u y : HO} (e : B a = some u) (nf : ∀ o z, u ≠ .frz o z) (h : Rd B a y) : u = y := by
  rcases h with h | ⟨o, h⟩
  · rw [e] at h; cases h; rfl
  · rw [e] at h; cases h; exact absurd rfl (nf _ _)
theorem Rd.of_frz {B : Hp} {a : Addr} {u y : HO} {od : Obj} (e : B a = some (.frz od u)) (nf : ∀ o z, y ≠ .frz o z) (h : Rd B a y) : u = y := by
  rcases h with h | ⟨o, h⟩
  · rw [e] at h; cases h; exact absurd rfl (nf _ _)
  · rw [e] at h; cases h; rfl
theorem Dk.nf (h : Dk u) : ∀ o z, u ≠ .frz o z := fun o z e => by
  subst e
  rcases h with ⟨_, h⟩ | ⟨_, h⟩ <;> cases h
theorem BLe.lock (hb : B d = some u) (hu : Dk u) : BLe B (upd B d (.frz od u)) := by
  have oth : ∀ {a : Addr} {y : HO}, a ≠ d → Rd B a y → Rd (upd B d (.frz od u)) a y := fun n h => by
    rcases h with h | ⟨o, h⟩
    · exact .inl (by rw [upd_ne n]; exact h)
    · exact .inr ⟨o, by rw [upd_ne n]; exact h⟩
  have same : ∀ {y : HO}, Rd B d y → Rd (upd B d (.frz od u)) d y := fun h => by
    obtain rfl := Rd.of_plain hb hu.nf h
    exact .inr ⟨od, upd_same⟩
  have rd : ∀ {a : Addr} {y : HO}, Rd B a y → Rd (upd B d (.frz od u)) a y := fun {a y} h => by
    by_cases q : a = d
    · subst q; exact same h
    · exact oth q h
  refine ⟨fun a xs h => rd h, fun a xs h => rd h, fun a xs h => ?_, fun a xs h => rd h, fun a xs h => rd h, fun a C dx fs h => ?_⟩
  · by_cases q : a = d
    · subst q; rw [hb] at h; cases h; rcases hu with ⟨_, e⟩ | ⟨_, e⟩ <;> cases e
    · rw [upd_ne q]; exact h
  · by_cases q : a = d
    · subst q; rw [hb] at h; cases h; rcases hu with ⟨_, e⟩ | ⟨_, e⟩ <;> cases e
    · rw [upd_ne q]; exact h
theorem BLe.unlock (hb : B d = some (.frz od u)) (hu : Dk u) : BLe B (upd B d u) := by
  have oth : ∀ {a : Addr} {y : HO}, a ≠ d → Rd B a y → Rd (upd B d u) a y := fun n h => by
    rcases h with h | ⟨o, h⟩
    · exact .inl (by rw [upd_ne n]; exact h)
    · exact .inr ⟨o, by rw [upd_ne n]; exact h⟩
  have rd : ∀ {a : Addr} {y : HO}, (∀ o z, y ≠ .frz o z) → Rd B a y → Rd (upd B d u) a y := fun {a y} nf h => by
    by_cases q : a = d
    · subst q
      obtain rfl := Rd.of_frz hb nf h
      exact .inl upd_same
    · exact oth q h
  refine ⟨fun a xs h => rd (fun _ _ e => by cases e) h, fun a xs h => rd (fun _ _ e => by cases e) h, fun a xs h => ?_, fun a xs h => rd (fun _ _ e => by cases e) h, fun a xs h => rd (fun _ _ e => by cases e) h, fun a C dx fs h => ?_⟩
  · by_cases q : a = d
    · subst q; rw [hb] at h; cases h
    · rw [upd_ne q]; exact h
  · by_cases q : a = d
    · subst q; rw [hb] at h; cases h
    · rw [upd_ne q]; exact h
/-- a pure dict is locked for a while -/
theorem HW.lock (w : HW K F B0 τ T σ Γ H B S) (hb : B d = some u) (hu : Dk u) (od : Obj) :
    HW K (upd F d (.frz od u)) (upd B d (.frz od u)) τ T σ Γ (upd H d (.frz od u)) (upd B d (.frz od u)) S ∧
    ∀ τ1 T1 σ1 Γ1 H1, Ho K (upd F d (.frz od u)) (upd B d (.frz od u)) τ1 T1 σ1 Γ1 H1 → H1 d = some (.frz od u) ∧ Ho K F B0 τ1 T1 σ1 Γ1 (upd H1 d u) := by
  have nd : ¬ S d := fun z => by have := (w.ow d z).2.1; rw [hb] at this; cases this
  have hne : ∀ a, S a → a ≠ d := fun a z e => nd (e ▸ z)
  constructor
  · refine ⟨fun a x e => ?_, fun a x e => ?_, .refl _, fun a z => ?_, fun a z => .inl z, w.rs.tr (.lock hb hu) (fun _ z => z) fun a x z e => by rw [upd_ne (hne a z)]; exact e, w.lt⟩
    · by_cases q : a = d
      · subst q; rw [upd_same] at e ⊢; exact e
      · rw [upd_ne q] at e ⊢; exact w.fr a x e
    · by_cases q : a = d
      · subst q; rw [upd_same] at e ⊢; exact e
      · rw [upd_ne q] at e ⊢; exact w.pu a x e
    · rw [upd_ne (hne a z), upd_ne (hne a z), upd_ne (hne a z)]; exact w.ow a z
  · intro τ1 T1 σ1 Γ1 H1 ⟨B1, S1, w1⟩
    have e1 : H1 d = some (.frz od u) := w1.fr d _ upd_same
    have rb : ∃ y, B1 d = some y := by
      rcases hu with ⟨ws, rfl⟩ | ⟨ws, rfl⟩
      · rcases w1.b0.dK d ws (.inr ⟨od, upd_same⟩) with h | ⟨o, h⟩ <;> exact ⟨_, h⟩
      · rcases w1.b0.dT d ws (.inr ⟨od, upd_same⟩) with h | ⟨o, h⟩ <;> exact ⟨_, h⟩
    have eB : B1 d = some (.frz od u) := by
      obtain ⟨y, hy⟩ := rb
      have := w1.pu d y hy
      rw [e1] at this
      cases this; exact hy
    have nd1 : ∀ a, S1 a → a ≠ d := fun a z e => by
      have := (w1.ow a z).2.1
      rw [e, eB] at this; cases this
    refine ⟨e1, upd B1 d u, S1, fun a x e => ?_, fun a x e => ?_, w.b0.trans ((BLe.lock hb hu).trans (w1.b0.trans (.unlock eB hu))), fun a z => ?_, fun a z => ?_, w1.rs.tr (.unlock eB hu) (fun _ z => z) fun a x z e => by rw [upd_ne (nd1 a z)]; exact e, w1.lt⟩
    · by_cases q : a = d
      · subst q
        have h1 := w.fr a x e
        have h2 := w.pu a u hb
        rw [h1] at h2; cases h2
        exact upd_same
      · rw [upd_ne q]; exact w1.fr a x (by rw [upd_ne q]; exact e)
    · by_cases q : a = d
      · subst q; rw [upd_same] at e ⊢; exact e
      · rw [upd_ne q] at e ⊢; exact w1.pu a x e
    · obtain ⟨q1, q2, q3⟩ := w1.ow a z
      have n := nd1 a z
      rw [upd_ne n] at q1
      rw [upd_ne n, upd_ne n]
      exact ⟨q1, q2, q3⟩
    · by_cases q : a = d
      · subst q; exact w.nw a (by rw [hb]; simp)
      · rw [upd_ne q] at z
        rcases w1.nw a z with h | h
        · rw [upd_ne q] at h; exact w.nw a h
        · rw [upd_ne q] at h; exact .inr h
/-- .. that is locked already -/
theorem HW.locked (w : HW K F B0 τ T σ Γ H B S) (hb : B d = some (.frz od u)) :
    HW K (upd F d (.frz od u)) B τ T σ Γ H B S ∧
    ∀ τ1 T1 σ1 Γ1 H1, Ho K (upd F d (.frz od u)) B τ1 T1 σ1 Γ1 H1 → Ho K F B0 τ1 T1 σ1 Γ1 H1 := by
  have nd : ¬ S d := fun z => by have := (w.ow d z).2.1; rw [hb] at this; cases this
  have hne : ∀ a, S a → a ≠ d := fun a z e => nd (e ▸ z)
  have hH := w.pu d _ hb
  constructor
  · refine ⟨fun a x e => ?_, w.pu, .refl _, fun a z => ?_, fun a z => .inl z, w.rs, w.lt⟩
    · by_cases q : a = d
      · subst q; rw [upd_same] at e; cases e; exact hH
      · rw [upd_ne q] at e; exact w.fr a x e
    · rw [upd_ne (hne a z)]; exact w.ow a z
  · intro τ1 T1 σ1 Γ1 H1 ⟨B1, S1, w1⟩
    refine ⟨B1, S1, fun a x e => ?_, w1.pu, w.b0.trans w1.b0, fun a z => ?_, fun a z => ?_, w1.rs, w1.lt⟩
    · by_cases q : a = d
      · subst q
        have h1 := w.fr a x e
        rw [hH] at h1; cases h1
        exact w1.fr a _ upd_same
      · exact w1.fr a x (by rw [upd_ne q]; exact e)
    · obtain ⟨q1, q2, q3⟩ := w1.ow a z
      refine ⟨?_, q2, q3⟩
      by_cases q : a = d
      · subst q; rw [upd_same] at q1; cases q1
      · rw [upd_ne q] at q1; exact q1
    · rcases w1.nw a z with h | h
      · exact w.nw a h
      · by_cases q : a = d
        · subst q; rw [upd_same] at h; cases h
        · rw [upd_ne q] at h; exact .inr h
end
section
variable {K : PySem.W.Frag} {F B0 H B : Hp} {τ τs : List V} {T : List O} {σ : L2.St} {Γ Γ1 : En} {S : Ad} {i : Nat} {Dd : EG} {g : TG} {tb : TS} {De : Ends}
theorem for_core {J : It} {hs ds : List D} (Iv : Nat → En → Prop) (h0 : Iv 0 Γ1)
    (hst : ∀ i d Γ', ds[i]? = some d → Iv i Γ' → GoG K F B0 g (.d d) (hs.map O.d ++ T) Γ' fun Γ2 => GoS K F B0 tb (hs.map O.d ++ T) Γ2 { nx := Iv (i + 1), rt := Dd.rt, bk := Dd.nx, ct := Iv (i + 1) })
    (hd : ∀ Γ', Iv ds.length Γ' → Dd.nx Γ') (w1 : Ho K F B0 (τs ++ τ) (hs.map O.d ++ T) σ Γ1 H) (hl : τs.length = hs.length) (it : Iter K F B0 J τs hs ds) (s : Sat K F B0 τ T De Dd) :
    ∃ W : Nat → Nat → L2.St → Hp → Prop, (∃ m, W 0 m σ H) ∧ ∀ i m σ H, W i m σ H →
      (J.stop i H ∧ De.nx σ H) ∨ (J.go i H ∧ ∃ N : L2.St → Hp → Prop, (∀ σ' H', N σ' H' → ∃ m', m' < m ∧ W (i + 1) m' σ' H') ∧ ∀ x H', J.yld i H x H' → g x σ H' fun σ2 H2 => tb { De with nx := N, ct := N, bk := De.nx } σ2 H2) := by
  have hl' : τs.length = (hs.map O.d).length := by simp [hl]
  refine ⟨fun i m σ' H' => m = ds.length - i ∧ i ≤ ds.length ∧ ∃ Γ', Iv i Γ' ∧ Ho K F B0 (τs ++ τ) (hs.map O.d ++ T) σ' Γ' H', ⟨ds.length, by simp, Nat.zero_le _, Γ1, h0, w1⟩, ?_⟩
  rintro i m σ' H' ⟨rfl, hi, Γ', p, B', S', w⟩
  obtain ⟨q1, q2⟩ := it _ _ σ' Γ' H' B' S' w (w.held hl)
  by_cases hlt : i < ds.length
  · obtain ⟨q3, q4⟩ := q2 i ds[i] (by simp [hlt])
    refine .inr ⟨q3, fun σ2 H2 => ∃ Γ2, Iv (i + 1) Γ2 ∧ Ho K F B0 (τs ++ τ) (hs.map O.d ++ T) σ2 Γ2 H2, fun σ2 H2 z => ⟨ds.length - (i + 1), by omega, rfl, hlt, z⟩, fun x H2 y => ?_⟩
    obtain ⟨B2, S2, w2⟩ := q4 x H2 y
    refine hst i ds[i] Γ' (by simp [hlt]) p (τs ++ τ) σ' H2 x _ ⟨B2, S2, w2⟩ fun σ3 Γ3 H3 h3 w3 => h3 _ σ3 H3 _ w3 ⟨fun σ4 Γ4 H4 z w4 => ⟨Γ4, z, w4⟩, fun v o σ4 Γ4 H4 z ⟨B4, S4, w4⟩ => s.rt v o σ4 Γ4 H4 z ⟨B4, S4, w4.under hl'⟩,
      fun σ4 Γ4 H4 z ⟨B4, S4, w4⟩ => ?_, fun σ4 Γ4 H4 z w4 => ⟨Γ4, z, w4⟩⟩
    obtain ⟨S5, w5⟩ := w4.drop hl'
    exact s.nx σ4 Γ4 H4 z ⟨B4, S5, w5⟩
  · have e : i = ds.length := by omega
    subst e
    obtain ⟨S5, w5⟩ := w.drop hl'
    exact .inl ⟨q1, s.nx σ' Γ' H' (hd Γ' p) ⟨B', S5, w5⟩⟩
def tLockG (t : TS) : TS := fun D σ H => tLock t D σ H ∨ t D σ H
theorem ps_lockG {X : Cx} {st : Stmt} {t : TS} (h : PS X st t) : PS X st (tLockG t) := by
  refine ⟨fun pins s σ H D I hw => ?_⟩
  rcases hw with hw | hw
  · exact (ps_lock h).run pins s σ H D I hw
  · exact h.run pins s σ H D I hw
/-- td tells the pure dict kvs, wherever the heap is kept but at it -/
def PlD (K : PySem.W.Frag) (td : TE) (Γ : En) (kvs : List (Key × D)) : Prop := ∀ {F B0 : Hp} {τ : List V} {T : List O} {σ : L2.St} {H B : Hp} {S : Ad}, HW K F B0 τ T σ Γ H B S →
  ∃ d ws, Rd B d (.dK ws) ∧ RK K B ws kvs ∧ (kvs.map (·.1)).Nodup ∧ ∀ (H' : Hp) (Q : VK), (∀ a u, a ≠ d → B a = some u → H' a = some u) → Q (.ref d) H' → td σ H' Q
theorem pld_var {kvs : List (Key × D)} (e : Γ[i]? = some (some (.d (.dic kvs)))) : PlD K (tVar i) Γ kvs := fun w => by
  obtain ⟨v, a, r⟩ := w.getd e
  cases r with
  | @dic a' ws _ hd nd rk => exact ⟨a', ws, hd, rk, nd, fun H' Q _ q => ⟨_, a, q⟩⟩
theorem pld_fld {kvs : List (Key × D)} {f : Str} {C : Addr} {fs : List (Str × D)} (e : Γ[i]? = some (some (.d (.ins C fs)))) (l : fs.lookup f = some (.dic kvs)) (hc : Cls K C) (hn : NoAttr K C f) : PlD K (tFld K (tVar i) f) Γ kvs := fun {F B0 τ T σ H B S} w => by
  obtain ⟨v, a, r⟩ := w.getd e
  cases r with
  | @ins p _ dx ws _ hb rf =>
    obtain ⟨u, l2, ry⟩ := rf.look l
    cases ry with
    | @dic d vs _ hd nd rk =>
      refine ⟨d, vs, hd, rk, nd, fun H' Q k q => ⟨_, a, p, C, dx, ws, _, rfl, k p _ (fun z => ?_) hb, hc, hn, l2, q⟩⟩
      subst z
      rcases hd with hd | ⟨_, hd⟩ <;> (rw [hb] at hd; cases hd)
def itemsD (kvs : List (Key × D)) : List D := kvs.map fun p => D.tup [kD p.1, p.2]
def keysD (kvs : List (Key × D)) : List D := kvs.map fun p => kD p.1
theorem RK.at {B : Hp} {i : Nat} : ∀ {ws : List (Key × V)} {kvs : List (Key × D)} {k : Key} {x : D}, RK K B ws kvs → kvs[i]? = some (k, x) → ∃ v, ws[i]? = some (k, v) ∧ R K B v x := by
  induction i with
  | zero =>
    intro ws kvs k x r h
    cases r with
    | nil => simp at h
    | cons r t => simp at h; obtain ⟨rfl, rfl⟩ := h; exact ⟨_, rfl, r⟩
  | succ i ih =>
    intro ws kvs k x r h
    cases r with
    | nil => simp at h
    | cons r t =>
      obtain ⟨v, a, b⟩ := ih t (by simpa using h)
      exact ⟨v, by simpa using a, b⟩
theorem R.ofKey {B : Hp} : ∀ k : Key, R K B (L2.kV k) (kD k)
  | .inl _ => .int
  | .inr _ => .str
theorem iter_items {od : Obj} {d : Addr} {ws : List (Key × V)} {kvs : List (Key × D)} (hF : F d = some (.frz od (.dK ws))) (rk : RK K B0 ws kvs) : Iter K F B0 (Iti d od ws) [] [] (itemsD kvs) := by
  intro τ T σ Γ H B S w _
  have hH := w.fr d _ hF
  refine ⟨⟨hH, by rw [rk.length, itemsD, List.length_map]; exact Nat.le_refl _⟩, fun j e he => ?_⟩
  obtain ⟨⟨k, x⟩, hk, rfl⟩ : ∃ p, kvs[j]? = some p ∧ e = .tup [kD p.1, p.2] := by
    rw [itemsD, List.getElem?_map] at he
    cases q : kvs[j]? with
    | none => rw [q] at he; cases he
    | some p => rw [q] at he; cases he; exact ⟨p, rfl, rfl⟩
  obtain ⟨v, hv, rv⟩ := rk.at hk
  refine ⟨⟨hH, (List.getElem?_eq_some_iff.mp hv).1⟩, fun y H' ⟨t, k', v', e1, e2, e3, e4⟩ => ?_⟩
  rw [hv] at e1
  cases e1
  subst e2 e4
  have exB : Ex B (upd B t (.tup [kV k, v])) := .new (w.pu.back e3)
  obtain ⟨S', w'⟩ := HW.newd w e3 (x := .tup [kD k, x]) (.tup (SqT.of upd_same) (.cons (R.ofKey k) (.cons ((rv.mono w.b0).mono (.of_ex exB)) .nil)))
  exact ⟨_, S', w'⟩
theorem iter_keysD {od : Obj} {d : Addr} {ws : List (Key × V)} {kvs : List (Key × D)} (hF : F d = some (.frz od (.dK ws))) (rk : RK K B0 ws kvs) : Iter K F B0 (Itk d od ws) [] [] (keysD kvs) := by
  intro τ T σ Γ H B S w _
  have hH := w.fr d _ hF
  refine ⟨⟨hH, by rw [rk.length, keysD, List.length_map]; exact Nat.le_refl _⟩, fun j e he => ?_⟩
  obtain ⟨⟨k, x⟩, hk, rfl⟩ : ∃ p, kvs[j]? = some p ∧ e = kD p.1 := by
    rw [keysD, List.getElem?_map] at he
    cases q : kvs[j]? with
    | none => rw [q] at he; cases he
    | some p => rw [q] at he; cases he; exact ⟨p, rfl, rfl⟩
  obtain ⟨v, hv, rv⟩ := rk.at hk
  refine ⟨⟨hH, (List.getElem?_eq_some_iff.mp hv).1⟩, fun y H' ⟨e4, k', v', e1, e2⟩ => ?_⟩
  rw [hv] at e1
  cases e1
  subst e2 e4
  exact ⟨B, _, HW.pushd (τ := τ) (T := T) w (R.ofKey k)⟩
theorem gos_forDI {td : TE} {kvs : List (Key × D)} (hp : PlD K td Γ kvs) (Iv : Nat → En → Prop) (h0 : Iv 0 Γ)
    (hst : ∀ F B0 i d Γ', (itemsD kvs)[i]? = some d → Iv i Γ' → GoG K F B0 g (.d d) T Γ' fun Γ2 => GoS K F B0 tb T Γ2 { nx := Iv (i + 1), rt := Dd.rt, bk := Dd.nx, ct := Iv (i + 1) })
    (hd : ∀ Γ', Iv kvs.length Γ' → Dd.nx Γ') : GoS K F B0 (tLockG (tFor (iItems td) g tb)) T Γ Dd := fun τ σ H De ⟨B, S, w⟩ s => by
  obtain ⟨d, ws, rd, rk, nd, ev⟩ := hp w
  rcases rd with hb | ⟨od, hb⟩
  · refine .inl ⟨d, .dK ws, w.pu d _ hb, trivial, fun od => ?_⟩
    obtain ⟨w1, back⟩ := w.lock hb (.inl ⟨ws, rfl⟩) od
    have rk1 : RK K (upd B d (.frz od (.dK ws))) ws kvs := rk.mono (.lock hb (.inl ⟨ws, rfl⟩))
    refine ev _ _ (fun a u n e => by rw [upd_ne n]; exact w.pu a u e) ⟨d, od, ws, rfl, upd_same, ?_⟩
    exact for_core (J := Iti d od ws) (hs := []) (ds := itemsD kvs) (τs := []) Iv h0 (fun i d Γ' => hst _ _ i d Γ') (by rw [itemsD, List.length_map]; exact hd) ⟨_, _, w1⟩ rfl (iter_items upd_same rk1)
      ⟨fun σ1 Γ1 H1 n h => ⟨(back _ _ _ _ _ h).1, s.nx _ _ _ n (back _ _ _ _ _ h).2⟩, fun v o σ1 Γ1 H1 n h => ⟨(back _ _ _ _ _ h).1, s.rt v o _ _ _ n (back _ _ _ _ _ h).2⟩, fun σ1 Γ1 H1 n h => ⟨(back _ _ _ _ _ h).1, s.bk _ _ _ n (back _ _ _ _ _ h).2⟩, fun σ1 Γ1 H1 n h => ⟨(back _ _ _ _ _ h).1, s.ct _ _ _ n (back _ _ _ _ _ h).2⟩⟩
  · refine .inr (ev _ _ (fun a u n e => w.pu a u e) ⟨d, od, ws, rfl, w.pu d _ hb, ?_⟩)
    obtain ⟨w1, back⟩ := w.locked hb
    exact for_core (J := Iti d od ws) (hs := []) (ds := itemsD kvs) (τs := []) Iv h0 (fun i d Γ' => hst _ _ i d Γ') (by rw [itemsD, List.length_map]; exact hd) ⟨_, _, w1⟩ rfl (iter_items upd_same rk)
      ⟨fun σ1 Γ1 H1 n h => s.nx _ _ _ n (back _ _ _ _ _ h), fun v o σ1 Γ1 H1 n h => s.rt v o _ _ _ n (back _ _ _ _ _ h), fun σ1 Γ1 H1 n h => s.bk _ _ _ n (back _ _ _ _ _ h), fun σ1 Γ1 H1 n h => s.ct _ _ _ n (back _ _ _ _ _ h)⟩
theorem gos_forDK {td : TE} {kvs : List (Key × D)} (hp : PlD K td Γ kvs) (Iv : Nat → En → Prop) (h0 : Iv 0 Γ)
    (hst : ∀ F B0 i d Γ', (keysD kvs)[i]? = some d → Iv i Γ' → GoG K F B0 g (.d d) T Γ' fun Γ2 => GoS K F B0 tb T Γ2 { nx := Iv (i + 1), rt := Dd.rt, bk := Dd.nx, ct := Iv (i + 1) })
    (hd : ∀ Γ', Iv kvs.length Γ' → Dd.nx Γ') : GoS K F B0 (tLockG (tFor (iKeys td) g tb)) T Γ Dd := fun τ σ H De ⟨B, S, w⟩ s => by
  obtain ⟨d, ws, rd, rk, nd, ev⟩ := hp w
  rcases rd with hb | ⟨od, hb⟩
  · refine .inl ⟨d, .dK ws, w.pu d _ hb, trivial, fun od => ?_⟩
    obtain ⟨w1, back⟩ := w.lock hb (.inl ⟨ws, rfl⟩) od
    have rk1 : RK K (upd B d (.frz od (.dK ws))) ws kvs := rk.mono (.lock hb (.inl ⟨ws, rfl⟩))
    refine ev _ _ (fun a u n e => by rw [upd_ne n]; exact w.pu a u e) ⟨d, od, rfl, .inl ⟨ws, upd_same, ?_⟩⟩
    exact for_core (J := Itk d od ws) (hs := []) (ds := keysD kvs) (τs := []) Iv h0 (fun i d Γ' => hst _ _ i d Γ') (by rw [keysD, List.length_map]; exact hd) ⟨_, _, w1⟩ rfl (iter_keysD upd_same rk1)
      ⟨fun σ1 Γ1 H1 n h => ⟨(back _ _ _ _ _ h).1, s.nx _ _ _ n (back _ _ _ _ _ h).2⟩, fun v o σ1 Γ1 H1 n h => ⟨(back _ _ _ _ _ h).1, s.rt v o _ _ _ n (back _ _ _ _ _ h).2⟩, fun σ1 Γ1 H1 n h => ⟨(back _ _ _ _ _ h).1, s.bk _ _ _ n (back _ _ _ _ _ h).2⟩, fun σ1 Γ1 H1 n h => ⟨(back _ _ _ _ _ h).1, s.ct _ _ _ n (back _ _ _ _ _ h).2⟩⟩
  · refine .inr (ev _ _ (fun a u n e => w.pu a u e) ⟨d, od, rfl, .inl ⟨ws, w.pu d _ hb, ?_⟩⟩)
    obtain ⟨w1, back⟩ := w.locked hb
    exact for_core (J := Itk d od ws) (hs := []) (ds := keysD kvs) (τs := []) Iv h0 (fun i d Γ' => hst _ _ i d Γ') (by rw [keysD, List.length_map]; exact hd) ⟨_, _, w1⟩ rfl (iter_keysD upd_same rk)
      ⟨fun σ1 Γ1 H1 n h => s.nx _ _ _ n (back _ _ _ _ _ h), fun v o σ1 Γ1 H1 n h => s.rt v o _ _ _ n (back _ _ _ _ _ h), fun σ1 Γ1 H1 n h => s.bk _ _ _ n (back _ _ _ _ _ h), fun σ1 Γ1 H1 n h => s.ct _ _ _ n (back _ _ _ _ _ h)⟩
theorem gos_sLG {t1 t2 : TS} (h : GoS K F B0 (tLockG t1) T Γ { Dd with nx := fun Γ1 => GoS K F B0 t2 T Γ1 Dd }) : GoS K F B0 (tSeq (tLockG t1) t2) T Γ Dd := gos_seq h
end
end SK
namespace SK
theorem lf_mapI : ∀ ns : List Int, lfL (ns.map D.int) = true
  | [] => rfl
  | n :: ns => lf_mapI ns
end SK
namespace SK
open PySem PySem.Spec PyProof.Rows L2
inductive Sel where
  | fld (f : Str) | key (k : Key) | idx (n : Nat) | un
def kval {α : Type} (kvs : List (Key × α)) (k : Key) : Option α := (kvs.find? fun kv => decide (kv.1 = k)).map (·.2)
def O.get1 : O → Sel → Option O
  | .oi _ _ fs, .fld f => fs.lookup f
  | .od kvs, .key k => kval kvs k
  | .ol xs, .idx n => xs[n]?
  | .op xs, .idx n => xs[n]?
  | .atA _ o, .un => some o
  | .atA _ o, s => o.get1 s
  | _, _ => none
def O.set1 : O → O → Sel → O
  | .oi a C fs, y, .fld f => .oi a C (SK.fput f y fs)
  | .od kvs, y, .key k => .od (SK.dput kvs k y)
  | .ol xs, y, .idx n => .ol (xs.set n y)
  | .op xs, y, .idx n => .op (xs.set n y)
  | .atA a _, y, .un => .atA a y
  | .atA a o, y, s => .atA a (o.set1 y s)
  | o, _, _ => o
def O.getP : O → List Sel → Option O
  | o, [] => some o
  | o, s :: p => match o.get1 s with
    | some u => u.getP p
    | none => none
def O.setP : O → O → List Sel → O
  | _, y, [] => y
  | o, y, s :: p => match o.get1 s with
    | some u => o.set1 (u.setP y p) s
    | none => o
def okS (K : PySem.W.Frag) : O → Sel → Prop
  | .oi _ C _, .fld f => Cls K C ∧ NoAttr K C f
  | .atA _ _, .un => True
  | .atA _ o, s => okS K o s
  | .op _, _ => False
  | _, .fld _ => False
  | _, _ => True
def okPth (K : PySem.W.Frag) : O → List Sel → Prop
  | _, [] => True
  | o, s :: p => okS K o s ∧ match o.get1 s with
    | some u => okPth K u p
    | none => False
def Stp (K : PySem.W.Frag) (H : Hp) (v : V) (s : Sel) (v' : V) : Prop := match s with
  | .fld f => ∃ a C dx ws, v = .ref a ∧ H a = some (.ins C dx ws) ∧ Cls K C ∧ NoAttr K C f ∧ ws.lookup f = some v'
  | .key k => ∃ a ws, v = .ref a ∧ Rd H a (.dK ws) ∧ valV ws k = some v'
  | .idx n => ∃ a vs, v = .ref a ∧ H a = some (.lst vs) ∧ vs[n]? = some v'
  | .un => v' = v
def Wlk (K : PySem.W.Frag) (H : Hp) : V → List Sel → V → Prop
  | v, [], w => v = w
  | v, s :: p, w => ∃ u, Stp K H v s u ∧ Wlk K H u p w
section
variable {K : PySem.W.Frag} {B H H' : Hp} {S : Ad} {v w : V} {o o1 : O}
theorem Stp.ex (e : Ex H H') {s : Sel} (h : Stp K H v s w) : Stp K H' v s w := by
  cases s with
  | fld f => obtain ⟨a, C, dx, ws, q1, q2, q3⟩ := h; exact ⟨a, C, dx, ws, q1, e _ _ q2, q3⟩
  | key k => obtain ⟨a, ws, q1, q2, q3⟩ := h; exact ⟨a, ws, q1, e.rd q2, q3⟩
  | idx n => obtain ⟨a, vs, q1, q2, q3⟩ := h; exact ⟨a, vs, q1, e _ _ q2, q3⟩
  | un => exact h
theorem Wlk.ex (e : Ex H H') : ∀ {p : List Sel} {v w : V}, Wlk K H v p w → Wlk K H' v p w
  | [], _, _, h => h
  | _ :: _, _, _, ⟨u, h1, h2⟩ => ⟨u, h1.ex e, Wlk.ex e h2⟩
theorem Wlk.snoc : ∀ {p : List Sel} {v u w : V} {s : Sel}, Wlk K H v p u → Stp K H u s w → Wlk K H v (p ++ [s]) w
  | [], v, u, w, s, h, h2 => by cases h; exact ⟨w, h2, rfl⟩
  | _ :: _, _, _, _, _, ⟨x, h1, h3⟩, h2 => ⟨x, h1, Wlk.snoc h3 h2⟩
theorem look2 : ∀ {ws : List (Str × V)} {fs : List (Str × O)} {f : Str} {o : O}, ws.map (·.1) = fs.map (·.1) → fs.lookup f = some o → ∃ (i : Nat) (u : V), fs[i]? = some (f, o) ∧ ws[i]? = some (f, u) ∧ ws.lookup f = some u ∧ ∀ y, SK.fput f y fs = fs.set i (f, y)
  | [], [], _, _, _, h => by simp at h
  | (g, x) :: ws, (g', y) :: fs, f, o, e, h => by
    simp only [List.map_cons, List.cons.injEq] at e
    obtain ⟨rfl, e⟩ := e
    rw [List.lookup_cons] at h
    cases q : f == g with
    | true =>
      rw [q] at h
      cases h
      have : f = g := by simpa using q
      subst this
      exact ⟨0, x, rfl, rfl, by rw [List.lookup_cons, q], fun z => by unfold SK.fput; rw [if_pos rfl]; rfl⟩
    | false =>
      rw [q] at h
      have n : ¬ g = f := fun z => by subst z; simp at q
      obtain ⟨i, u, h1, h2, h3, h4⟩ := look2 e h
      exact ⟨i + 1, u, by simpa using h1, by simpa using h2, by rw [List.lookup_cons, q]; exact h3, fun z => by unfold SK.fput; rw [if_neg n, h4 z]; rfl⟩
theorem kval_mem {α : Type} {k : Key} {x : α} {kvs : List (Key × α)} (h : kval kvs k = some x) : ∃ i : Nat, kvs[i]? = some (k, x) := by
  induction kvs with
  | nil => cases h
  | cons p r ih =>
    unfold kval at h
    rw [List.find?_cons] at h
    by_cases e : p.1 = k
    · rw [decide_eq_true e] at h
      cases h
      exact ⟨0, by rw [← e]; rfl⟩
    · rw [decide_eq_false e] at h
      obtain ⟨i, hi⟩ := ih h
      exact ⟨i + 1, by simpa using hi⟩
theorem kval2 : ∀ {ws : List (Key × V)} {kvs : List (Key × O)} {k : Key} {o : O}, (kvs.map (·.1)).Nodup → ws.map (·.1) = kvs.map (·.1) → kval kvs k = some o → ∃ (i : Nat) (u : V), kvs[i]? = some (k, o) ∧ ws[i]? = some (k, u) ∧ valV ws k = some u ∧ ∀ y, SK.dput kvs k y = kvs.set i (k, y)
  | [], [], _, _, _, _, h => by cases h
  | (g, x) :: ws, (g', y) :: kvs, k, o, nd, e, h => by
    simp only [List.map_cons, List.cons.injEq] at e
    obtain ⟨rfl, e⟩ := e
    simp only [List.map_cons, List.nodup_cons] at nd
    by_cases q : g = k
    · subst q
      have : y = o := by simpa [kval] using h
      subst this
      refine ⟨0, x, rfl, rfl, valV_pos rfl, fun z => ?_⟩
      unfold SK.dput
      rw [if_pos (by simp), List.map_cons, if_pos rfl, repl_not nd.1]
      rfl
    · have h' : kval kvs k = some o := by simpa [kval, q] using h
      obtain ⟨i, u, h1, h2, h3, h4⟩ := kval2 nd.2 e h'
      refine ⟨i + 1, u, by simpa using h1, by simpa using h2, by rw [valV_neg q]; exact h3, fun z => ?_⟩
      have h5 := h4 z
      have ha : (kvs.any fun kv => decide (kv.1 = k)) = true := List.any_eq_true.mpr ⟨(k, o), List.mem_of_getElem? h1, by simp⟩
      unfold SK.dput at h5 ⊢
      rw [if_pos ha] at h5
      rw [if_pos (by rw [List.any_cons, ha, Bool.or_true]), List.map_cons, if_neg q, h5]
      rfl
theorem set_same' {α : Type} {l : List α} {i : Nat} {x : α} (h : l[i]? = some x) : l.set i x = l := by
  have hl := (List.getElem?_eq_some_iff.mp h).1
  apply List.ext_getElem?
  intro n
  by_cases hn : n = i
  · subst hn; rw [List.getElem?_set_self hl, h]
  · rw [List.getElem?_set_ne (Ne.symm hn)]
theorem RO.focus0 {s : Sel} (nat : ∀ a u, o ≠ .atA a u) (pu : Ex B H) (r : RO K B H S v o) (g : o.get1 s = some o1) (ok : okS K o s) : ∃ (v1 : V) (S1 S2 : Ad), Stp K H v s v1 ∧ (∀ b, S1 b → S b) ∧ (∀ b, S2 b → S b) ∧ (∀ b, S1 b → ¬ S2 b) ∧ RO K B H S1 v1 o1 ∧
    ∀ B' H' S1' y, BLe B B' → (∀ b u, S2 b → H b = some u → H' b = some u) → (∀ b, S1' b → ¬ S2 b) → RO K B' H' S1' v1 y → RO K B' H' (fun b => S1' b ∨ S2 b) v (o.set1 y s) ∧ Stp K H' v s v1 := by
  cases r with
  | d r => cases s <;> cases g
  | ot => cases s <;> cases g
  | @ol _ S4 a vs xs ha hs hn hc rs =>
    cases s with
    | fld f => cases g
    | key k => cases g
    | un => cases g
    | idx n =>
      have g : xs[n]? = some o1 := g
      obtain ⟨u, U1, U2, c1, c2, c3, c4, ru, f⟩ := rs.focus (i := n) (o := o1) (by rw [List.getElem?_map, g]; rfl)
      have hv : vs[n]? = some u := by
        rw [List.getElem?_map] at c1
        cases q : vs[n]? with
        | none => rw [q] at c1; cases c1
        | some x => rw [q] at c1; cases c1; rfl
      refine ⟨u, U1, fun b => b = a ∨ U2 b, ⟨a, vs, rfl, hc, hv⟩, fun b z => hs b (c2 b z), fun b z => z.elim (fun e => e ▸ ha) fun z => hs b (c3 b z), fun b z y => y.elim (fun e => hn (e ▸ c2 b z)) (c4 b z), ru, fun B' H' S1' y eb k dj ry => ?_⟩
      have q := f B' H' S1' (some u) (some y) eb (fun b x z => k b x (.inr z)) (fun b z w => dj b z (.inr w)) (fun x e => by cases e; exact ⟨u, rfl, ry⟩)
      rw [set_same c1, ← List.map_set] at q
      exact ⟨.ol (S' := fun b => S1' b ∨ U2 b) (.inr (.inl rfl)) (fun b z => z.imp id .inr) (fun z => z.elim (fun z => dj a z (.inl rfl)) fun z => hn (c3 a z)) (k a _ (.inl rfl) hc) q, a, vs, rfl, k a _ (.inl rfl) hc, hv⟩
  | @od _ S4 a ws kvs ha hs hn hc nd ek rs =>
    cases s with
    | fld f => cases g
    | idx k => cases g
    | un => cases g
    | key k =>
      have g : kval kvs k = some o1 := g
      obtain ⟨n, u, g1, g2, g3, g4⟩ := kval2 nd ek g
      obtain ⟨u', U1, U2, c1, c2, c3, c4, ru, f⟩ := rs.focus (i := n) (o := o1) (by rw [List.getElem?_map, g1]; rfl)
      have hv : u' = u := by
        rw [List.getElem?_map, g2] at c1
        cases c1; rfl
      subst hv
      refine ⟨u', U1, fun b => b = a ∨ U2 b, ⟨a, ws, rfl, .inl hc, g3⟩, fun b z => hs b (c2 b z), fun b z => z.elim (fun e => e ▸ ha) fun z => hs b (c3 b z), fun b z y => y.elim (fun e => hn (e ▸ c2 b z)) (c4 b z), ru, fun B' H' S1' y eb k' dj ry => ?_⟩
      have q := f B' H' S1' (some u') (some y) eb (fun b x z => k' b x (.inr z)) (fun b z w => dj b z (.inr w)) (fun x e => by cases e; exact ⟨u', rfl, ry⟩)
      have e2 : (kvs.map fun p => some p.2).set n (some y) = (SK.dput kvs k y).map fun p => some p.2 := by rw [g4 y, List.map_set]
      rw [set_same c1, e2] at q
      have e3 : (SK.dput kvs k y).map (·.1) = kvs.map (·.1) := by
        rw [g4 y, List.map_set]
        exact set_same' (by rw [List.getElem?_map, g1]; rfl)
      exact ⟨.od (S' := fun b => S1' b ∨ U2 b) (.inr (.inl rfl)) (fun b z => z.imp id .inr) (fun z => z.elim (fun z => dj a z (.inl rfl)) fun z => hn (c3 a z)) (k' a _ (.inl rfl) hc) (by rw [e3]; exact nd) (by rw [e3]; exact ek) q, a, ws, rfl, .inl (k' a _ (.inl rfl) hc), g3⟩
  | @oi _ S4 a dx C ws kvs ha hd hs hn hn2 ne hc hcd ek rs =>
    cases s with
    | key k => cases g
    | idx k => cases g
    | un => cases g
    | fld fl =>
      have g : kvs.lookup fl = some o1 := g
      obtain ⟨n, u, g1, g2, g3, g4⟩ := look2 ek g
      obtain ⟨u', U1, U2, c1, c2, c3, c4, ru, f⟩ := rs.focus (i := n) (o := o1) (by rw [List.getElem?_map, g1]; rfl)
      have hv : u' = u := by
        rw [List.getElem?_map, g2] at c1
        cases c1; rfl
      subst hv
      refine ⟨u', U1, fun b => (b = a ∨ b = dx) ∨ U2 b, ⟨a, C, dx, ws, rfl, hc, ok.1, ok.2, g3⟩, fun b z => hs b (c2 b z), fun b z => z.elim (fun e => e.elim (fun e => e ▸ ha) fun e => e ▸ hd) fun z => hs b (c3 b z),
        fun b z y => y.elim (fun e => e.elim (fun e => hn (e ▸ c2 b z)) fun e => hn2 (e ▸ c2 b z)) (c4 b z), ru, fun B' H' S1' y eb k' dj ry => ?_⟩
      have q := f B' H' S1' (some u') (some y) eb (fun b x z => k' b x (.inr z)) (fun b z w => dj b z (.inr w)) (fun x e => by cases e; exact ⟨u', rfl, ry⟩)
      have e2 : (kvs.map fun p => some p.2).set n (some y) = (SK.fput fl y kvs).map fun p => some p.2 := by rw [g4 y, List.map_set]
      rw [set_same c1, e2] at q
      have e3 : (SK.fput fl y kvs).map (·.1) = kvs.map (·.1) := by
        rw [g4 y, List.map_set]
        exact set_same' (by rw [List.getElem?_map, g1]; rfl)
      exact ⟨.oi (S' := fun b => S1' b ∨ U2 b) (.inr (.inl (.inl rfl))) (.inr (.inl (.inr rfl))) (fun b z => z.imp id .inr) (fun z => z.elim (fun z => dj a z (.inl (.inl rfl))) fun z => hn (c3 a z)) (fun z => z.elim (fun z => dj dx z (.inl (.inr rfl))) fun z => hn2 (c3 dx z)) ne
        (k' a _ (.inl (.inl rfl)) hc) (k' dx _ (.inl (.inr rfl)) hcd) (by rw [e3]; exact ek) q, a, C, dx, ws, rfl, k' a _ (.inl (.inl rfl)) hc, ok.1, ok.2, g3⟩
  | op => exact ok.elim
  | atA => exact absurd rfl (nat _ _)
theorem RO.focus1 {s : Sel} (pu : Ex B H) : ∀ {o : O} {S : Ad} {v : V}, RO K B H S v o → o.get1 s = some o1 → okS K o s → ∃ (v1 : V) (S1 S2 : Ad), Stp K H v s v1 ∧ (∀ b, S1 b → S b) ∧ (∀ b, S2 b → S b) ∧ (∀ b, S1 b → ¬ S2 b) ∧ RO K B H S1 v1 o1 ∧
    ∀ B' H' S1' y, BLe B B' → (∀ b u, S2 b → H b = some u → H' b = some u) → (∀ b, S1' b → ¬ S2 b) → RO K B' H' S1' v1 y → RO K B' H' (fun b => S1' b ∨ S2 b) v (o.set1 y s) ∧ Stp K H' v s v1
  | .atA a o, S, v, r, g, ok => by
    cases r with
    | atA r =>
      by_cases hs : s = .un
      · subst hs
        cases (show some o = some o1 from g)
        exact ⟨.ref a, S, fun _ => False, rfl, fun _ z => z, fun _ z => z.elim, fun _ _ z => z, r, fun B' H' S1' y eb k dj ry => ⟨.atA (ry.tr (.refl B') (fun _ z => .inl z) fun _ _ _ e => e), rfl⟩⟩
      have g' : o.get1 s = some o1 := by cases s <;> first | exact g | exact absurd rfl hs
      have ok' : okS K o s := by cases s <;> first | exact ok | exact absurd rfl hs
      obtain ⟨v1, S1, S2, h1, h2, h3, h4, h5, h6⟩ := RO.focus1 pu (o := o) r g' ok'
      refine ⟨v1, S1, S2, h1, h2, h3, h4, h5, fun B' H' S1' y eb k dj ry => ?_⟩
      obtain ⟨q1, q2⟩ := h6 B' H' S1' y eb k dj ry
      have e : (O.atA a o).set1 y s = .atA a (o.set1 y s) := by cases s <;> first | rfl | exact absurd rfl hs
      rw [e]
      exact ⟨.atA q1, q2⟩
  | .d _, _, _, r, g, ok => RO.focus0 (fun _ _ z => by cases z) pu r g ok
  | .ol _, _, _, r, g, ok => RO.focus0 (fun _ _ z => by cases z) pu r g ok
  | .od _, _, _, r, g, ok => RO.focus0 (fun _ _ z => by cases z) pu r g ok
  | .ot _, _, _, r, g, ok => RO.focus0 (fun _ _ z => by cases z) pu r g ok
  | .oi _ _ _, _, _, r, g, ok => RO.focus0 (fun _ _ z => by cases z) pu r g ok
  | .op _, _, _, r, g, ok => RO.focus0 (fun _ _ z => by cases z) pu r g ok
theorem RO.focusP (pu : Ex B H) : ∀ {p : List Sel} {S : Ad} {v : V} {o : O}, RO K B H S v o → o.getP p = some o1 → okPth K o p → ∃ (v1 : V) (S1 S2 : Ad), Wlk K H v p v1 ∧ (∀ b, S1 b → S b) ∧ (∀ b, S2 b → S b) ∧ (∀ b, S1 b → ¬ S2 b) ∧ RO K B H S1 v1 o1 ∧
    ∀ B' H' S1' y, BLe B B' → (∀ b u, S2 b → H b = some u → H' b = some u) → (∀ b, S1' b → ¬ S2 b) → RO K B' H' S1' v1 y → RO K B' H' (fun b => S1' b ∨ S2 b) v (o.setP y p) ∧ Wlk K H' v p v1
  | [], S, v, o, r, g, _ => by
    cases g
    exact ⟨v, S, fun _ => False, rfl, fun _ z => z, fun _ z => z.elim, fun _ _ z => z, r, fun B' H' S1' y _ _ _ ry => ⟨ry.tr (.refl B') (fun _ z => .inl z) fun _ _ _ e => e, rfl⟩⟩
  | s :: p, S, v, o, r, g, ok => by
    unfold O.getP at g
    unfold okPth at ok
    cases e : o.get1 s with
    | none => rw [e] at g; cases g
    | some u =>
      rw [e] at g ok
      obtain ⟨v1, S1, S2, h1, h2, h3, h4, h5, h6⟩ := r.focus1 pu e ok.1
      obtain ⟨v2, T1, T2, k1, k2, k3, k4, k5, k6⟩ := RO.focusP pu h5 g ok.2
      refine ⟨v2, T1, fun b => T2 b ∨ S2 b, ⟨v1, h1, k1⟩, fun b z => h2 b (k2 b z), fun b z => z.elim (fun z => h2 b (k3 b z)) (h3 b), fun b z y => y.elim (k4 b z) (h4 b (k2 b z)), k5, fun B' H' S1' y eb k dj ry => ?_⟩
      obtain ⟨q1, wq⟩ := k6 B' H' S1' y eb (fun b x z => k b x (.inl z)) (fun b z w => dj b z (.inl w)) ry
      obtain ⟨q2, sq⟩ := h6 B' H' _ _ eb (fun b x z => k b x (.inr z)) (fun b z w => z.elim (fun z => dj b z (.inr w)) fun z => h4 b (k3 b z) w) q1
      unfold O.setP
      rw [e]
      exact ⟨q2.tr (.refl B') (fun b z => z.elim (fun z => z.imp id .inl) fun z => .inr (.inr z)) fun _ _ _ e => e, v1, sq, wq⟩
end
section
variable {K : PySem.W.Frag} {F B0 H B : Hp} {τ : List V} {T : List O} {σ : L2.St} {Γ : En} {S : Ad} {v w : V} {o oe o1 : O} {i : Nat} {te ti ty tv : TE} {p : List Sel} {posts1 : En → Prop} {Dd : EG} {post : O → En → Prop}
/-- the thing at a place of slot i is changed, the thing held on top goes into it -/
theorem HW.mutP (h : HW K F B0 (w :: τ) (oe :: T) σ Γ H B S) (e : Γ[i]? = some (some o)) (g : o.getP p = some o1) (ok : okPth K o p) : ∃ (v v1 : V) (S1 So : Ad), σ[i]? = some (some v) ∧ Wlk K H v p v1 ∧ RO K B H S1 v1 o1 ∧ RO K B H So w oe ∧ (∀ b, S1 b → ¬ So b) ∧ (∀ b, S1 b → H b ≠ none) ∧ (∀ b, So b → H b ≠ none) ∧
    ∀ a c y, S1 a → RO K B (upd H a c) (fun b => S1 b ∨ So b) v1 y → ∃ S', HW K F B0 τ T σ (Γ.set i (some (o.setP y p))) (upd H a c) B S' ∧ Wlk K (upd H a c) v p v1 := by
  obtain ⟨v, S1, So, a1, r1, ro, dj, n1, n2, f⟩ := h.mut2 e
  obtain ⟨v1, T1, T2, k1, k2, k3, k4, k5, k6⟩ := RO.focusP h.pu r1 g ok
  refine ⟨v, v1, T1, So, a1, k1, k5, ro, fun b z => dj b (k2 b z), fun b z => n1 b (k2 b z), n2, fun a c y ha ry => ?_⟩
  obtain ⟨q, wq⟩ := k6 B (upd H a c) _ y (.refl B) (fun b u z e => by rw [upd_ne (fun q => k4 a ha (by rw [← q]; exact z))]; exact e) (fun b z y => z.elim (fun z => k4 b z y) fun z => dj b (k3 b y) z) ry
  obtain ⟨S', wf⟩ := f a c _ (k2 a ha) (q.tr (.refl B) (fun b z => z.elim (fun z => z.imp (k2 b) id) fun z => .inl (k3 b z)) fun _ _ _ e => e)
  exact ⟨S', wf, wq⟩
theorem HW.mutP1 (h : HW K F B0 τ T σ Γ H B S) (e : Γ[i]? = some (some o)) (g : o.getP p = some o1) (ok : okPth K o p) : ∃ (v v1 : V) (S1 : Ad), σ[i]? = some (some v) ∧ Wlk K H v p v1 ∧ RO K B H S1 v1 o1 ∧ (∀ b, S1 b → H b ≠ none) ∧
    ∀ a c y, S1 a → RO K B (upd H a c) S1 v1 y → ∃ S', HW K F B0 τ T σ (Γ.set i (some (o.setP y p))) (upd H a c) B S' ∧ Wlk K (upd H a c) v p v1 := by
  obtain ⟨v, v1, S1, So, a1, wk, r1, _, _, n1, _, f⟩ := HW.mutP (h.pushd (v := .non) (x := .non) .non) e g ok
  exact ⟨v, v1, S1, a1, wk, r1, n1, fun a c y ha ry => f a c y ha (ry.tr (.refl B) (fun _ z => .inl z) fun _ _ _ e => e)⟩
/-- te tells the thing at a place of slot i -/
def EvP (K : PySem.W.Frag) (te : TE) (i : Nat) (p : List Sel) : Prop := ∀ (σ : L2.St) (H : Hp) (v v1 : V) (Q : VK), σ[i]? = some (some v) → Wlk K H v p v1 → Q v1 H → te σ H Q
theorem evp_var : EvP K (tVar i) i [] := fun σ H v v1 Q a e q => by cases e; exact ⟨v, a, q⟩
theorem Wlk.split : ∀ {p : List Sel} {v w : V} {s : Sel}, Wlk K H v (p ++ [s]) w → ∃ u, Wlk K H v p u ∧ Stp K H u s w
  | [], v, w, s, ⟨u, h1, h2⟩ => by cases h2; exact ⟨v, rfl, h1⟩
  | _ :: _, _, _, _, ⟨x, h1, h2⟩ => by
    obtain ⟨u, a, b⟩ := Wlk.split h2
    exact ⟨u, ⟨x, h1, a⟩, b⟩
theorem evp_fld {f : Str} (h : EvP K te i p) : EvP K (tFld K te f) i (p ++ [.fld f]) := fun σ H v v1 Q a e q => by
  obtain ⟨u, h1, h2⟩ := e.split
  obtain ⟨a', C, dx, ws, rfl, q2, q3, q4, q5⟩ := h2
  exact h σ H v _ _ a h1 ⟨a', C, dx, ws, v1, rfl, q2, q3, q4, q5, q⟩
/-- all slots are read as data for an expression; the heap has only grown -/
theorem HW.lendX (w : HW K F B0 τ T σ Γ H B S) : ∃ Bf, Ho K H Bf [] [] σ (fzE Γ) H ∧ ∀ v' o' Γ1 H1, Ho K H Bf [v'] [o'] σ Γ1 H1 → Ex H H1 ∧ (o'.lf = true → Ho K F B0 (v' :: τ) (o' :: T) σ Γ H1) := by
  obtain ⟨Bf, w0, _, back⟩ := w.lendA
  exact ⟨Bf, w0, fun v' o' Γ1 H1 h => ⟨h.choose_spec.choose_spec.fr, fun l => back v' o' Γ1 H1 h l⟩⟩
theorem Wlk.det {H : Hp} : ∀ {p : List Sel} {v w w' : V}, Wlk K H v p w → Wlk K H v p w' → w' = w
  | [], v, w, w', h, h' => by cases h; cases h'; rfl
  | s :: p, v, w, w', ⟨u, h1, h2⟩, ⟨u', h1', h2'⟩ => by
    have : u' = u := by
      cases s with
      | fld f =>
        obtain ⟨a, C, dx, ws, q1, q2, _, _, q3⟩ := h1
        obtain ⟨a', C', dx', ws', q1', q2', _, _, q3'⟩ := h1'
        subst q1; cases q1'
        rw [q2] at q2'; cases q2'
        rw [q3] at q3'; cases q3'; rfl
      | key k =>
        obtain ⟨a, ws, q1, q2, q3⟩ := h1
        obtain ⟨a', ws', q1', q2', q3'⟩ := h1'
        subst q1; cases q1'
        have : ws = ws' := by
          rcases q2 with q2 | ⟨_, q2⟩ <;> rcases q2' with q2' | ⟨_, q2'⟩ <;> rw [q2] at q2' <;> cases q2' <;> rfl
        subst this
        rw [q3] at q3'; cases q3'; rfl
      | idx n =>
        obtain ⟨a, vs, q1, q2, q3⟩ := h1
        obtain ⟨a', vs', q1', q2', q3'⟩ := h1'
        subst q1; cases q1'
        rw [q2] at q2'; cases q2'
        rw [q3] at q3'; cases q3'; rfl
      | un => cases h1; cases h1'; rfl
    subst this
    exact Wlk.det h2 h2'
/-- te[k] = e, a dict at a place -/
theorem gog_setDP (ev : EvP K te i p) {kvs : List (Key × O)} (e0 : Γ[i]? = some (some o1)) (g : o1.getP p = some (.od kvs)) (ok : okPth K o1 p) (hz : kvs.length < 100000)
    (h : ∀ F' B', Go K F' B' ti [] (fzE Γ) fun ok _ => ∃ k, ok = .d (kD k) ∧ posts1 (Γ.set i (some (o1.setP (.od (dput kvs k o)) p)))) : GoG K F B0 (gSub te ti rSetG) o T Γ posts1 := fun τ σ H v1 Q ⟨B1, S1, w1⟩ k' => by
  obtain ⟨v, u, T1, To, a1, wk, r1, _, _, _, _, _⟩ := w1.mutP e0 g ok
  obtain ⟨Bf, w0, back⟩ := w1.lendX
  refine ev σ H v u _ a1 wk (h H Bf [] σ H _ w0 fun v2 o2 Γ2 H2 ⟨k, eo, h2⟩ how => ?_)
  subst eo
  obtain ⟨ex, hb⟩ := back v2 _ Γ2 H2 how
  obtain ⟨B2, S2, w2⟩ := hb (by cases k <;> rfl)
  obtain ⟨rk, S3, _, w3⟩ := w2.popd
  have ek := rk.kV
  subst ek
  obtain ⟨v', u', S5, So, a2, wk2, r2, ro, dj, _, _, f⟩ := w3.mutP e0 g ok
  rw [a1] at a2
  cases a2
  have eu : u' = u := Wlk.det (wk.ex ex) wk2
  subst eu
  cases r2 with
  | @od _ S4 a ws _ ha hs hn hc nd ek rs =>
  have len : ws.length = kvs.length := by have := congrArg List.length ek; simpa using this
  refine .inr ⟨a, _, rfl, .inl ⟨ws, k, hc, rfl, by rw [len]; exact Nat.lt_of_lt_of_le hz (by decide), rfl⟩, ?_⟩
  obtain ⟨S', w4, _⟩ := f a (.dK (putK ws k v1)) (.od (dput kvs k o)) ha (.od (S' := fun b => S4 b ∨ So b) (.inl ha) (fun b z => z.imp (hs b) id) (fun z => z.elim hn fun z => dj a ha z) upd_same (dput_nodup nd) (by rw [putK_dput]; exact dput_keys ek) (by
    rw [putK_dput]
    exact (rs.dput ro nd ek fun b z => dj b (hs b z)).at fun b u z q => by
      rw [upd_ne (fun e => by subst e; exact z.elim hn fun z => dj b ha z)]; exact q))
  exact k' σ _ _ h2 ⟨B2, S', w4⟩
end
end SK
namespace SK
open PySem PySem.Spec PyProof.Rows L2
section
variable {K : PySem.W.Frag} {F B0 H B : Hp} {τ : List V} {T : List O} {σ : L2.St} {Γ : En} {S : Ad} {v w : V} {o oe o1 : O} {i : Nat} {te ti ty tv : TE} {p : List Sel} {posts1 : En → Prop} {Dd : EG} {post : O → En → Prop} {Ci : Addr}
theorem RF.none {f : Str} : ∀ {ws : List (Str × V)} {fs : List (Str × D)}, RF K B ws fs → fs.lookup f = none → ws.lookup f = none
  | _, _, .nil, _ => rfl
  | _, _, .cons (k := k) r t, h => by
    rw [List.lookup_cons] at h ⊢
    cases e : f == k with
    | true => rw [e] at h; cases h
    | false => rw [e] at h; exact RF.none t h
/-- o.m(..) of an instance that is data -/
theorem go_methP {C : Ct} {m : Str} {dvs : List V} {dxs : List D} {E : XK} {t : TA} (hd : ∀ B, RL K B dvs dxs)
    (h : Go K F B0 te T Γ fun o Γ1 => ∃ fs, o.fz = .ins Ci fs ∧ fs.lookup m = none ∧ GoA K F B0 t (.d (.ins Ci fs) :: T) Γ1 fun xs Γ2 => ∃ p, C (.ins Ci fs :: (xs ++ dxs)) p noX ∧ ∀ o, p o → post o Γ2) :
    Go K F B0 (tMeth Ci m (spP K C) dvs E te t) T Γ post := fun τ σ H Q hw k =>
  h τ σ H _ hw fun v o Γ1 H1 ⟨fs, e, hm, h1⟩ ⟨_, _, w1⟩ => by
    obtain ⟨B1, S1, w1, _⟩ := w1.fz
    rw [e] at w1
    obtain ⟨r1, _, _, _⟩ := w1.popd
    cases r1 with
    | @ins a _ dx ws _ hb rf =>
    refine ⟨a, dx, ws, rfl, w1.pu _ _ hb, rf.none hm, h1 (.ref a :: τ) σ H1 _ ⟨_, _, w1⟩ fun vs xs Γ2 H2 ⟨p, c, h2⟩ ⟨B2, S2, w2⟩ hl => ?_⟩
    obtain ⟨rl, S3, w3⟩ := w2.args hl
    obtain ⟨r2, S4, _, w4⟩ := w3.popd
    refine ⟨B2, .ins Ci fs :: (xs ++ dxs), p, noX, w4.pu, .cons r2 (rl.app (hd B2)), c, fun v o' B' S' H' e ex pu' le nw ow ro => ?_, fun _ _ _ _ _ e => e.elim⟩
    exact k v _ Γ2 H' (h2 _ e) ⟨B', _, w4.push ex le pu' nw ow ro⟩
theorem HW.unsets (h : HW K F B0 τ T σ Γ H B S) (j : Nat) : HW K F B0 τ T σ (Γ.set j none) H B S := by
  by_cases hl : j < σ.length
  · have q := h.unset j (σ[j])
    have e : σ.set j (σ[j]) = σ := by
      apply List.ext_getElem?
      intro n
      by_cases hn : n = j
      · subst hn; rw [List.getElem?_set_self hl]; simp [hl]
      · rw [List.getElem?_set_ne (Ne.symm hn)]
    rw [e] at q; exact q
  · have : Γ.set j none = Γ := by
      rw [List.set_eq_of_length_le]
      rw [← h.len]; omega
    rw [this]; exact h
theorem fzE_set {x : Option O} : ∀ {Γ : En} {i : Nat}, fzE (Γ.set i x) = (fzE Γ).set i (frO x)
  | [], _ => rfl
  | y :: r, 0 => by rw [List.set_cons_zero, fzE_cons, fzE_cons, List.set_cons_zero]
  | y :: r, i + 1 => by rw [List.set_cons_succ, fzE_cons, fzE_cons, List.set_cons_succ, fzE_set]
/-- the value that is in the dict, or the empty list that is put in -/
def lstAt (kvs : List (Key × O)) (k : Key) (ys : List O) : Prop := kval kvs k = some (.ol ys) ∨ (kval kvs k = none ∧ ys = [])
theorem kval_keys {k : Key} : ∀ {ws : List (Key × V)} {kvs : List (Key × O)}, ws.map (·.1) = kvs.map (·.1) → ((kval kvs k).isSome = (valV ws k).isSome)
  | [], [], _ => rfl
  | (g, x) :: ws, (g', y) :: kvs, e => by
    simp only [List.map_cons, List.cons.injEq] at e
    obtain ⟨rfl, e⟩ := e
    by_cases q : g = k
    · subst q; rw [valV_pos rfl]; simp [kval]
    · rw [valV_neg q, ← kval_keys e]; simp [kval, q]
theorem dput_new {κ α : Type} [DecidableEq κ] {k : κ} {x : α} {kvs : List (κ × α)} (h : ∀ p ∈ kvs, p.1 ≠ k) : SK.dput kvs k x = kvs ++ [(k, x)] := by
  unfold SK.dput
  rw [if_neg]
  simp only [List.any_eq_true, decide_eq_true_eq, not_exists, not_and]
  exact fun p hp => h p hp
theorem kval_none {α : Type} {k : Key} : ∀ {kvs : List (Key × α)}, kval kvs k = none → ∀ p ∈ kvs, p.1 ≠ k
  | q :: kvs, h, p, hp => by
    by_cases e : q.1 = k
    · simp [kval, e] at h
    · have h' : kval kvs k = none := by simpa [kval, e] using h
      rcases List.mem_cons.mp hp with rfl | hp
      · exact e
      · exact kval_none h' p hp
theorem kval_snoc {α : Type} {k : Key} {x : α} : ∀ {kvs : List (Key × α)}, (∀ p ∈ kvs, p.1 ≠ k) → kval (kvs ++ [(k, x)]) k = some x
  | [], _ => by simp [kval]
  | q :: kvs, h => by
    have e := h q List.mem_cons_self
    have := kval_snoc (x := x) fun p hp => h p (List.mem_cons_of_mem _ hp)
    simpa [kval, e] using this
theorem dput_put {κ α : Type} [DecidableEq κ] {k : κ} {x y : α} {kvs : List (κ × α)} : SK.dput (SK.dput kvs k x) k y = SK.dput kvs k y := by
  by_cases h : (kvs.any fun kv => decide (kv.1 = k)) = true
  · have h2 : ((SK.dput kvs k x).any fun kv => decide (kv.1 = k)) = true := by
      unfold SK.dput
      rw [if_pos h]
      obtain ⟨p, hp, e⟩ := List.any_eq_true.mp h
      have e : p.1 = k := by simpa using e
      exact List.any_eq_true.mpr ⟨(p.1, x), List.mem_map.mpr ⟨p, hp, by rw [if_pos e]⟩, by simpa using e⟩
    have e1 : SK.dput (SK.dput kvs k x) k y = (SK.dput kvs k x).map fun kv => if kv.1 = k then (kv.1, y) else kv := by
      rw [SK.dput, if_pos h2]
    rw [e1]
    unfold SK.dput
    rw [if_pos h, if_pos h, List.map_map]
    apply List.map_congr_left
    intro p _
    by_cases q : p.1 = k
    · simp [q]
    · simp [q]
  · have hn : ∀ p ∈ kvs, p.1 ≠ k := fun p hp q => h (List.any_eq_true.mpr ⟨p, hp, by simpa using q⟩)
    rw [dput_new hn, dput_new hn]
    have h2 : ((kvs ++ [(k, x)]).any fun kv => decide (kv.1 = k)) = true := by simp
    unfold SK.dput
    rw [if_pos h2, List.map_append, repl_not]
    · simp only [List.map_cons, List.map_nil, if_true]
    · intro hm
      obtain ⟨p, hp, e⟩ := List.mem_map.mp hm
      exact hn p hp e
theorem getP_snoc {s : Sel} : ∀ {p : List Sel} {o u : O}, o.getP p = some u → o.getP (p ++ [s]) = match u.get1 s with | some x => some x | none => none
  | [], o, u, h => by
    cases h
    show (match o.get1 s with | some u => u.getP [] | none => none) = _
    cases o.get1 s <;> rfl
  | q :: p, o, u, h => by
    unfold O.getP at h
    rw [List.cons_append]
    unfold O.getP
    cases e : o.get1 q with
    | none => rw [e] at h; cases h
    | some x => rw [e] at h; exact getP_snoc h
theorem okPth_snoc {s : Sel} : ∀ {p : List Sel} {o u x : O}, o.getP p = some u → okPth K o p → okS K u s → u.get1 s = some x → okPth K o (p ++ [s])
  | [], o, u, x, h, _, h2, h3 => by
    cases h
    show okS K o s ∧ match o.get1 s with | some u => okPth K u [] | none => False
    rw [h3]
    exact ⟨h2, trivial⟩
  | q :: p, o, u, x, h, h1, h2, h3 => by
    unfold O.getP at h
    unfold okPth at h1
    rw [List.cons_append]
    unfold okPth
    cases e : o.get1 q with
    | none => rw [e] at h; cases h
    | some z => rw [e] at h h1; exact ⟨h1.1, okPth_snoc h h1.2 h2 h3⟩
theorem setP_snoc {s : Sel} {y : O} : ∀ {p : List Sel} {o u : O}, o.getP p = some u → (∃ x, u.get1 s = some x) → o.setP y (p ++ [s]) = o.setP (u.set1 y s) p
  | [], o, u, h, ⟨x, hx⟩ => by
    cases h
    show (match o.get1 s with | some u => o.set1 (u.setP y []) s | none => o) = _
    rw [hx]; rfl
  | q :: p, o, u, h, hx => by
    unfold O.getP at h
    rw [List.cons_append]
    unfold O.setP
    cases e : o.get1 q with
    | none => (rw [e] at h; try cases h)
    | some z =>
      rw [e] at h
      show o.set1 (z.setP y (p ++ [s])) q = o.set1 (z.setP (u.set1 y s) p) q
      rw [setP_snoc h hx]
theorem get_set0 {s : Sel} {y x : O} {o : O} (nat : ∀ a u, o ≠ .atA a u) (h : o.get1 s = some x) : (o.set1 y s).get1 s = some y := by
  cases o <;> cases s <;> try first | (cases h; done) | (exact absurd rfl (nat _ _))
  · rename_i xs n
    have h : xs[n]? = some x := h
    show (xs.set n y)[n]? = some y
    rw [List.getElem?_set_self (List.getElem?_eq_some_iff.mp h).1]
  · rename_i kvs k
    have h : kval kvs k = some x := h
    show kval (SK.dput kvs k y) k = some y
    have : ∀ {kvs : List (Key × O)}, kval kvs k = some x → kval (kvs.map fun kv => if kv.1 = k then (kv.1, y) else kv) k = some y := by
      intro kvs
      induction kvs with
      | nil => intro h; cases h
      | cons p r ih =>
        intro h
        by_cases e : p.1 = k
        · simp [kval, e]
        · have h' : kval r k = some x := by simpa [kval, e] using h
          have := ih h'
          simpa [kval, e] using this
    unfold SK.dput
    rw [if_pos]
    · exact this h
    · obtain ⟨i, hi⟩ := kval_mem h
      exact List.any_eq_true.mpr ⟨_, List.mem_of_getElem? hi, by simp⟩
  · rename_i a C fs f
    have h : fs.lookup f = some x := h
    show (SK.fput f y fs).lookup f = some y
    clear nat
    induction fs with
    | nil => cases h
    | cons p r ih =>
      obtain ⟨g, z⟩ := p
      unfold SK.fput
      by_cases e : g = f
      · subst e; simp
      · rw [if_neg e]
        have e2 : (f == g) = false := by simpa using fun q => e q.symm
        rw [List.lookup_cons, e2] at h
        rw [List.lookup_cons, e2]
        exact ih h h
  · rename_i xs n
    have h : xs[n]? = some x := h
    show (xs.set n y)[n]? = some y
    rw [List.getElem?_set_self (List.getElem?_eq_some_iff.mp h).1]
theorem get_set1 {s : Sel} {y x : O} : ∀ {o : O}, o.get1 s = some x → (o.set1 y s).get1 s = some y
  | .atA a o, h => by
    by_cases hs : s = .un
    · subst hs; rfl
    have h' : o.get1 s = some x := by cases s <;> first | exact h | exact absurd rfl hs
    have e := get_set1 (y := y) (o := o) h'
    cases s <;> first | exact e | exact absurd rfl hs
  | .d _, h => get_set0 (fun _ _ z => by cases z) h
  | .ol _, h => get_set0 (fun _ _ z => by cases z) h
  | .od _, h => get_set0 (fun _ _ z => by cases z) h
  | .ot _, h => get_set0 (fun _ _ z => by cases z) h
  | .oi _ _ _, h => get_set0 (fun _ _ z => by cases z) h
  | .op _, h => get_set0 (fun _ _ z => by cases z) h
theorem getP_setP {y : O} : ∀ {p : List Sel} {o u : O}, o.getP p = some u → (o.setP y p).getP p = some y
  | [], o, u, _ => rfl
  | s :: p, o, u, h => by
    unfold O.getP at h
    cases e : o.get1 s with
    | none => rw [e] at h; cases h
    | some z =>
      rw [e] at h
      unfold O.setP
      rw [e]
      show (o.set1 (z.setP y p) s).getP (s :: p) = some y
      unfold O.getP
      rw [get_set1 e]
      exact getP_setP h
theorem set1_set0 {s : Sel} {x y z : O} {o : O} (nat : ∀ a u, o ≠ .atA a u) (h : o.get1 s = some z) : (o.set1 x s).set1 y s = o.set1 y s := by
  cases o <;> cases s <;> try first | (cases h; done) | (exact absurd rfl (nat _ _))
  · rename_i xs n
    show O.ol ((xs.set n x).set n y) = O.ol (xs.set n y)
    rw [List.set_set]
  · show O.od _ = O.od _
    rw [dput_put]
  · rename_i a C fs f
    show O.oi a C _ = O.oi a C _
    congr 1
    clear h nat
    induction fs with
    | nil => simp [SK.fput]
    | cons p r ih =>
      obtain ⟨g, z⟩ := p
      by_cases e : g = f
      · subst e; simp [SK.fput]
      · simp [SK.fput, e, ih]
  · rename_i xs n
    show O.op ((xs.set n x).set n y) = O.op (xs.set n y)
    rw [List.set_set]
theorem set1_set1 {s : Sel} {x y z : O} : ∀ {o : O}, o.get1 s = some z → (o.set1 x s).set1 y s = o.set1 y s
  | .atA a o, h => by
    by_cases hs : s = .un
    · subst hs; rfl
    have h' : o.get1 s = some z := by cases s <;> first | exact h | exact absurd rfl hs
    have e := set1_set1 (x := x) (y := y) (o := o) h'
    cases s <;> first | exact congrArg (O.atA a) e | exact absurd rfl hs
  | .d _, h => set1_set0 (fun _ _ z => by cases z) h
  | .ol _, h => set1_set0 (fun _ _ z => by cases z) h
  | .od _, h => set1_set0 (fun _ _ z => by cases z) h
  | .ot _, h => set1_set0 (fun _ _ z => by cases z) h
  | .oi _ _ _, h => set1_set0 (fun _ _ z => by cases z) h
  | .op _, h => set1_set0 (fun _ _ z => by cases z) h
theorem setP_setP {x y : O} : ∀ {p : List Sel} {o u : O}, o.getP p = some u → (o.setP x p).setP y p = o.setP y p
  | [], o, u, _ => rfl
  | s :: p, o, u, h => by
    unfold O.getP at h
    cases e : o.get1 s with
    | none => rw [e] at h; cases h
    | some z =>
      rw [e] at h
      have e1 : o.setP x (s :: p) = o.set1 (z.setP x p) s := by rw [O.setP, e]
      have e2 : o.setP y (s :: p) = o.set1 (z.setP y p) s := by rw [O.setP, e]
      rw [e1, e2, O.setP, get_set1 e]
      show (o.set1 (z.setP x p) s).set1 ((z.setP x p).setP y p) s = _
      rw [setP_setP h, set1_set1 e]
theorem okS_set0 {s : Sel} {y : O} {o : O} (nat : ∀ a u, o ≠ .atA a u) (h : okS K o s) : okS K (o.set1 y s) s := by
  cases o <;> cases s <;> first | exact h | exact trivial | exact absurd rfl (nat _ _) | exact h.elim
theorem okS_set1 {s : Sel} {y : O} : ∀ {o : O}, okS K o s → okS K (o.set1 y s) s
  | .atA a o, h => by
    by_cases hs : s = .un
    · subst hs; exact trivial
    have h' : okS K o s := by cases s <;> first | exact h | exact absurd rfl hs
    have e := okS_set1 (y := y) (o := o) h'
    cases s <;> first | exact e | exact absurd rfl hs
  | .d _, h => okS_set0 (fun _ _ z => by cases z) h
  | .ol _, h => okS_set0 (fun _ _ z => by cases z) h
  | .od _, h => okS_set0 (fun _ _ z => by cases z) h
  | .ot _, h => okS_set0 (fun _ _ z => by cases z) h
  | .oi _ _ _, h => okS_set0 (fun _ _ z => by cases z) h
  | .op _, h => okS_set0 (fun _ _ z => by cases z) h
theorem okPth_setP {y : O} : ∀ {p : List Sel} {o u : O}, o.getP p = some u → okPth K o p → okPth K (o.setP y p) p
  | [], o, u, _, _ => trivial
  | s :: p, o, u, h, h1 => by
    unfold O.getP at h
    unfold okPth at h1
    cases e : o.get1 s with
    | none => rw [e] at h; cases h
    | some z =>
      rw [e] at h h1
      have e1 : o.setP y (s :: p) = o.set1 (z.setP y p) s := by rw [O.setP, e]
      rw [e1]
      unfold okPth
      rw [get_set1 e]
      exact ⟨okS_set1 h1.1, okPth_setP h h1.2⟩
/-- the cell of a dict at a place -/
theorem HW.cellD (h : HW K F B0 τ T σ Γ H B S) {kvs : List (Key × O)} (e0 : Γ[i]? = some (some o1)) (g : o1.getP p = some (.od kvs)) (ok : okPth K o1 p) :
    ∃ v d ws, σ[i]? = some (some v) ∧ Wlk K H v p (.ref d) ∧ H d = some (.dK ws) ∧ ws.map (·.1) = kvs.map (·.1) := by
  obtain ⟨v, u, T1, a1, wk, r1, _, _⟩ := h.mutP1 e0 g ok
  cases r1 with
  | @od _ S4 a ws _ ha hs hn hc nd ek rs => exact ⟨v, a, ws, a1, wk, hc, ek⟩
/-- te.setdefault(k, []).append(e), a dict of lists at a place -/
theorem gos_setdApp (ev : EvP K te i p) {kvs : List (Key × O)} (e0 : Γ[i]? = some (some o1)) (g : o1.getP p = some (.od kvs)) (ok : okPth K o1 p) (hz : kvs.length < 100000)
    (h : ∀ F' B', Go K F' B' ty [] (fzE Γ) fun okk _ => ∃ k ys, okk = .d (kD k) ∧ lstAt kvs k ys ∧ ys.length < 100000 ∧
      ∀ F' B', Go K F' B' tv [] (fzE (Γ.set i none)) fun oe _ => oe.lf = true ∧ Dd.nx (Γ.set i (some (o1.setP (.od (dput kvs k (.ol (ys ++ [oe])))) p)))) :
    GoS K F B0 (tDrop (tBM K "list" rAppend (tDSetd te ty (tLst tNil)) (tCons tv tNil))) T Γ Dd := fun τ σ H De ⟨B, S, w⟩ s => by
  obtain ⟨v, d, ws, a1, wk, hc, ek⟩ := w.cellD e0 g ok
  obtain ⟨Bf, w0, back⟩ := w.lendX
  refine ev σ H v _ _ a1 wk ⟨d, rfl, .inl ⟨ws, .inl hc⟩, h H Bf [] σ H _ w0 fun v2 o2 Γ2 H2 ⟨k, ys, eo, hy, hyl, h2⟩ how => ⟨by decide, fun q hq => ?_⟩⟩
  subst eo
  obtain ⟨ex, hb⟩ := back v2 _ Γ2 H2 how
  obtain ⟨B2, S2, w2⟩ := hb (by cases k <;> rfl)
  obtain ⟨rk, S3, _, w3⟩ := w2.popd
  have ekk := rk.kV
  subst ekk
  have hc2 := ex _ _ hc
  have ndq : d ≠ q := fun z => by rw [← z, hc2] at hq; cases hq
  have len : ws.length = kvs.length := by have := congrArg List.length ek; simpa using this
  -- what follows: the list's cell is at the place, the element is made, the list grows
  have tail : ∀ (o' : O) (kvs1 : List (Key × O)) (u : Addr) (H4 : Hp), Ho K F B0 τ T σ (Γ.set i (some o')) H4 → o'.getP p = some (.od kvs1) → okPth K o' p → kval kvs1 k = some (.ol ys) → (∀ y, o'.setP (.od (dput kvs1 k y)) p = o1.setP (.od (dput kvs k y)) p) →
      Wlk K H4 v p (.ref d) → (∃ ws1, H4 d = some (.dK ws1) ∧ valV ws1 k = some (.ref u)) →
      (tyV K "list" (.ref u) H4 ∧ tCons tv tNil σ H4 fun xs H5 => rAppend (.ref u) xs H5 fun _ H6 => De.nx σ H6) := by
    intro o' kvs1 u H4 ⟨B4, S4, w4⟩ g' ok' hk' heq wk4 ⟨ws1, hd4, hv4⟩
    have hi : i < Γ.length := by
      have := (List.getElem?_eq_some_iff.mp e0).1
      exact this
    have e4 : (Γ.set i (some o'))[i]? = some (some o') := List.getElem?_set_self hi
    have g5 : o'.getP (p ++ [.key k]) = some (.ol ys) := by rw [getP_snoc g']; show (match kval kvs1 k with | some x => some x | none => none) = _; rw [hk']
    have ok5 : okPth K o' (p ++ [.key k]) := okPth_snoc g' ok' trivial hk'
    have wk5 : Wlk K H4 v (p ++ [.key k]) (.ref u) := wk4.snoc ⟨d, ws1, rfl, .inl hd4, hv4⟩
    obtain ⟨v', u', T1, a2, wk6, r6, _, _⟩ := w4.mutP1 e4 g5 ok5
    rw [a1] at a2
    cases a2
    have eu := Wlk.det wk5 wk6
    subst eu
    cases r6 with
    | @ol _ S6 _ us _ ha6 hs6 hn6 hc6 rs6 =>
    refine ⟨.inl ⟨rfl, us, SqL.of hc6⟩, ?_⟩
    obtain ⟨Bh, ⟨B8, S8, w8⟩, back8⟩ := w4.lendX
    refine h2 H4 Bh [] σ H4 _ ⟨B8, S8, by have := w8.unsets i; rw [fzE_set, List.set_set] at this; rw [fzE_set]; exact this⟩ fun v7 o7 Γ7 H7 ⟨lf, hn⟩ how7 => ?_
    obtain ⟨ex7, hb7⟩ := back8 v7 o7 Γ7 H7 how7
    obtain ⟨B9, S9, w9⟩ := hb7 lf
    obtain ⟨v'', u'', T2, So, a3, wk7, r7, ro, dj, _, _, f7⟩ := w9.mutP e4 g5 ok5
    rw [a1] at a3
    cases a3
    have eu2 := Wlk.det (wk5.ex ex7) wk7
    subst eu2
    cases r7 with
    | @ol _ S10 _ us2 _ ha7 hs7 hn7 hc7 rs7 =>
    have len7 : us2.length = ys.length := by simpa using rs7.len
    refine ⟨u, us2, v7, rfl, rfl, hc7, by rw [len7]; exact Nat.lt_of_lt_of_le hyl (by decide), ?_⟩
    obtain ⟨S', w10, _⟩ := f7 u (.lst (us2 ++ [v7])) (.ol (ys ++ [o7])) ha7 (.ol (S' := fun b => S10 b ∨ So b) (.inl ha7) (fun b z => z.imp (hs7 b) id) (fun z => z.elim hn7 fun z => dj u ha7 z) upd_same (by
      rw [List.map_append, List.map_append]
      exact (rs7.snoc ro fun b z => dj b (hs7 b z)).at fun b x z q => by
        rw [upd_ne (fun e => by subst e; exact z.elim hn7 fun z => dj b ha7 z)]; exact q))
    rw [List.set_set, setP_snoc (s := .key k) g' ⟨_, (show (O.od kvs1).get1 (.key k) = _ from hk')⟩] at w10
    have e11 : o'.setP (O.set1 (.od kvs1) (.ol (ys ++ [o7])) (.key k)) p = o1.setP (.od (dput kvs k (.ol (ys ++ [o7])))) p := heq _
    rw [e11] at w10
    exact s.nx σ _ _ hn ⟨_, _, w10⟩
  have exq : Ex H2 (upd H2 q (.lst [])) := .new hq
  refine ⟨ws, k, by rw [upd_ne ndq]; exact hc2, rfl, by rw [len]; exact Nat.lt_of_lt_of_le hz (by decide), fun u hu => ?_, fun hn0 => ?_⟩
  · -- it is there
    have hy' : kval kvs k = some (.ol ys) := by
      rcases hy with hy | ⟨hy, _⟩
      · exact hy
      · have := kval_keys (k := k) ek
        rw [hy, hu] at this; cases this
    have wq := (w3.push (v := .non) (o := .d .non) (S' := fun _ => False) exq (.refl B2) (fun a x e => exq a x (w3.pu a x e)) (fun _ z => .inl z) (fun _ z => z.elim) (.d .non))
    obtain ⟨_, S4, _, w4⟩ := wq.popd
    obtain ⟨n, u2, k1, k2, k3, k4⟩ : ∃ (n : Nat) (u2 : V), kvs[n]? = some (k, .ol ys) ∧ True ∧ True ∧ True := by
      obtain ⟨n, hn⟩ := kval_mem hy'
      exact ⟨n, .non, hn, trivial, trivial, trivial⟩
    have g5 : o1.getP (p ++ [.key k]) = some (.ol ys) := by rw [getP_snoc g]; show (match kval kvs k with | some x => some x | none => none) = _; rw [hy']
    have ok5 : okPth K o1 (p ++ [.key k]) := okPth_snoc g ok trivial hy'
    obtain ⟨v', u', T1, a2, wk6, r6, _, _⟩ := w4.mutP1 e0 g5 ok5
    rw [a1] at a2
    cases a2
    have wk5 : Wlk K (upd H2 q (.lst [])) v (p ++ [.key k]) u := ((wk.ex ex).ex exq).snoc ⟨d, ws, rfl, .inl (by rw [upd_ne ndq]; exact hc2), hu⟩
    have eu := Wlk.det wk5 wk6
    subst eu
    cases r6 with
    | @ol _ S6 ua us _ ha6 hs6 hn6 hc6 rs6 =>
    have same : Γ.set i (some o1) = Γ := by
      apply List.ext_getElem?
      intro n
      by_cases hn : n = i
      · subst hn; rw [List.getElem?_set_self (List.getElem?_eq_some_iff.mp e0).1, e0]
      · rw [List.getElem?_set_ne (Ne.symm hn)]
    exact tail o1 kvs ua _ ⟨B2, S4, by rw [same]; exact w4⟩ g ok hy' (fun _ => rfl) ((wk.ex ex).ex exq) ⟨ws, by rw [upd_ne ndq]; exact hc2, hu⟩
  · -- it is put in
    have hy' : kval kvs k = none ∧ ys = [] := by
      rcases hy with hy | hy
      · have := kval_keys (k := k) ek
        rw [hy, hn0] at this; cases this
      · exact hy
    obtain ⟨hy1, rfl⟩ := hy'
    obtain ⟨S4, w4⟩ := w3.newl hq (xs := []) (vs := []) .nil
    obtain ⟨v', u', T1, So, a2, wk6, r6, ro, dj, _, _, f6⟩ := w4.mutP e0 g ok
    rw [a1] at a2
    cases a2
    have eu := Wlk.det ((wk.ex ex).ex exq) wk6
    subst eu
    cases r6 with
    | @od _ S6 _ ws2 _ ha hs hn hc6 nd ek2 rs =>
    have ews : ws2 = ws := by
      rw [upd_ne ndq, hc2] at hc6
      cases hc6; rfl
    subst ews
    obtain ⟨S', w5, wk7⟩ := f6 d (.dK (putK ws2 k (.ref q))) (.od (dput kvs k (.ol []))) ha (.od (S' := fun b => S6 b ∨ So b) (.inl ha) (fun b z => z.imp (hs b) id) (fun z => z.elim hn fun z => dj d ha z) upd_same (dput_nodup nd) (by rw [putK_dput]; exact dput_keys ek2) (by
      rw [putK_dput]
      exact (rs.dput ro nd ek2 fun b z => dj b (hs b z)).at fun b x z q => by
        rw [upd_ne (fun e => by subst e; exact z.elim hn fun z => dj b ha z)]; exact q))
    have hn1 := kval_none hy1
    have g' := getP_setP (y := .od (dput kvs k (.ol []))) g
    refine tail _ (dput kvs k (.ol [])) q _ ⟨B2, S', w5⟩ g' (okPth_setP g ok) (by rw [dput_new hn1]; exact kval_snoc hn1) (fun y => ?_) wk7 ⟨_, upd_same, ?_⟩
    · rw [setP_setP g, dput_put]
    · rw [putK_dput, dput_new]
      · have : valV ws2 k = none := hn0
        unfold valV at this ⊢
        rw [List.find?_append]
        have h0 : ws2.find? (fun kv => decide (kv.1 = k)) = none := by
          cases q9 : ws2.find? (fun kv => decide (kv.1 = k)) with
          | none => rfl
          | some x => rw [q9] at this; cases this
        rw [h0]; simp
      · intro p1 hp1
        have : p1.1 ∈ kvs.map (·.1) := by rw [← ek2]; exact List.mem_map_of_mem hp1
        obtain ⟨p2, hp2, e2⟩ := List.mem_map.mp this
        rw [← e2]; exact hn1 p2 hp2
end
end SK
namespace SK
open PySem PySem.Spec PyProof.Rows L2
def CalM (P : Program) (w : World) (K : PySem.W.Frag) (mg : Str → Option Value) (base : Heap) (Ci : Addr) (m : Str) (k : Nat) (ps : List Str) (C : Ct) : Prop :=
  ∃ f fd, FnOk P w K mg base CX0 k f fd ps (spP K C) ∧ Meth K Ci m f ∧ Binds K fd ps []
def CalMS (P : Program) (w : World) (K : PySem.W.Frag) (mg : Str → Option Value) (base : Heap) (Ci : Addr) (m : Str) (k : Nat) (ps : List Str) (C : Cs) : Prop :=
  ∃ f fd, FnOk P w K mg base CX0 k f fd ps (spS K Ci C) ∧ Meth K Ci m f ∧ Binds K fd ps []
end SK
namespace SK
open PySem PySem.Spec PyProof.Rows L2
theorem sorted_unique : ∀ {xs ys : List Int}, xs.Perm ys → xs.Pairwise (· ≤ ·) → ys.Pairwise (· ≤ ·) → xs = ys
  | [], ys, p, _, _ => by rw [List.nil_perm] at p; exact p.symm
  | x :: xs, [], p, _, _ => by have := p.length_eq; simp at this
  | x :: xs, y :: ys, p, a, b => by
    obtain ⟨a1, a2⟩ := List.pairwise_cons.mp a
    obtain ⟨b1, b2⟩ := List.pairwise_cons.mp b
    have e : x = y := by
      have h1 : y ∈ x :: xs := p.symm.mem_iff.mp List.mem_cons_self
      have h2 : x ∈ y :: ys := p.mem_iff.mp List.mem_cons_self
      rcases List.mem_cons.mp h1 with h1 | h1
      · exact h1.symm
      · rcases List.mem_cons.mp h2 with h2 | h2
        · exact h2
        · have := a1 y h1
          have := b1 x h2
          omega
    subst e
    rw [sorted_unique ((List.perm_cons x).mp p) a2 b2]
def srt (ns : List Int) : List Int := ns.mergeSort fun a b => decide (a ≤ b)
theorem srt_perm (ns : List Int) : (srt ns).Perm ns := List.mergeSort_perm ns _
theorem srt_le (ns : List Int) : (srt ns).Pairwise (· ≤ ·) := by
  have := List.pairwise_mergeSort (le := fun a b : Int => decide (a ≤ b)) (fun a b c h1 h2 => by simp at *; omega) (fun a b => by simp; omega) ns
  exact this.imp fun h => by simpa using h
theorem srt_eq {ns ys : List Int} (p : ys.Perm ns) (h : ys.Pairwise (· ≤ ·)) : ys = srt ns := sorted_unique (p.trans (srt_perm ns).symm) h (srt_le ns)
theorem srt_mem {ns : List Int} {x : Int} : x ∈ srt ns ↔ x ∈ ns := (srt_perm ns).mem_iff
theorem srt_len (ns : List Int) : (srt ns).length = ns.length := (srt_perm ns).length_eq
section
variable {X : Cx}
/-- sorted(d) of a dict whose keys are ints, any number of them -/
theorem call_sortedDO (hcalm : X.calm = true) : CallR X (.builtin "sorted") (fun xs H Q => ∃ (a : Addr) (kvs : List (Key × V)) (ks : List Int), xs = [.ref a] ∧ Rd H a (.dK kvs) ∧ kvs.map (·.1) = ks.map Sum.inl ∧ ks.length ≤ 100000 ∧
    ∀ (ys : List Int) (p : Addr), ys.Perm ks → ys.Pairwise (· ≤ ·) → H p = none → Q (.ref p) (upd H p (.lst (ys.map V.int)))) := by
  intro pins s σ H xs us Q I r q; obtain ⟨a, kvs, ks, ex, hd, hks, h64, q⟩ := q; subst ex
  obtain ⟨u, eu, rx⟩ := vals1 r; subst eu; cases rx
  obtain ⟨z, lo, vs, rel, dd⟩ := dk_rd I.hok hd; obtain ⟨ep, hat⟩ := dd.dictAt
  have hkeys : vs.map (·.1) = ks.map Sum.inl := rel.keys.symm.trans hks
  have hl : vs.length = ks.length := by
    have e := congrArg List.length hkeys; rw [List.length_map, List.length_map] at e; exact e
  have h16 : vs.length ≤ sizeLine := by rw [hl, sizeLine_eq]; omega
  refine Calls.call_function_entry PyProof.Rows.kind_sorted PyProof.Rows.plain_sorted PyProof.Rows.entry_sorted (PyProof.Rows.args_sorted1 _) ?_; unfold Builtin.«sorted»
  refine wpAny_bind (m := checkCount "sorted" 1 1 _) (wpAny_pure ?_); refine wpAny_bind (PySem.W.kdu_collect (A := X.A.in1) (PySem.W.kdl_dict (knd := mixKind X.prog X.w) (kvs := vs) (ep := ep) lo) (I.ok.hd hcalm) hat h16 fun h' tk acc hk hacc => ?_)
  have hal : acc.toList.length = ks.length := by rw [Array.length_toList, hacc.1, hl]
  have hS : IntsAre acc.toList ks := ints_each hal fun j v e => by
    obtain ⟨k, x, e1, e2⟩ := hacc.2 j v (by rw [← Array.getElem?_toList]; exact e)
    have e3 : (vs.map (·.1))[j]? = some k := by rw [List.getElem?_map, e1]; rfl
    rw [hkeys, List.getElem?_map] at e3
    cases e4 : ks[j]? with
    | none => rw [e4] at e3; cases e3
    | some y =>
      rw [e4] at e3
      have e5 : Sum.inl y = k := Option.some.inj e3
      subst e5
      rcases keyIs_shape (show keyIs (Sum.inl y) v = true from e2) with ⟨i, t, ek, ev⟩ | ⟨z, t, ek, ev⟩
      · cases ek; exact ⟨y, t, rfl, ev⟩
      · cases ek
  have hz : acc.toList.length ≤ sizeLine := by rw [hal, sizeLine_eq]; omega
  have I1 : Inv X pins σ H { s with heap := h', toks := tk } := I.kept hk
  refine wpAny_bind (wpAny_newList ?_ hz)
  have hoL : (h'.push (seqObj "list" acc.toList.toArray 0)).get? h'.objs.size = some (seqObj "list" acc.toList.toArray 0) := Heap.get?_push_size _ rfl
  show wpAny _ _ _ _ _ { s with heap := h'.push (seqObj "list" acc.toList.toArray 0), toks := tk }
  refine wpAny_bind (wpAny_holding (wpAny_call_entry PyProof.Rows.slot_list_sort ⟨_, hoL, rfl⟩ PyProof.Rows.entry_list_sort
    (SrtO.list_sort_ord (s := { s with heap := h'.push (seqObj "list" acc.toList.toArray 0), toks := tk }) SrtO.swo_int hoL hz (fun h2 => SrtO.ints_sortable hS h2) fun out g1 g2 => ⟨.none, rfl, ?_⟩) (PyProof.Rows.args_list_sort _)))
  obtain ⟨k1, k2, k3⟩ := SrtO.ints_out hS g1 g2
  obtain ⟨e', he'⟩ := PyProof.Rows.sortedHeap_at (vs := acc.toList) (out := out.toArray) hoL
  have hlen : ((out.map SrtO.iv).map V.int).length ≤ sizeLine := by rw [List.length_map, k2.length_eq, ← hal]; exact hz
  refine wpAny_pure ⟨_, rfl, .ref h'.objs.size, upd H h'.objs.size (.lst ((out.map SrtO.iv).map V.int)), I1.laid (t' := tk) (fun b u e => ?_) (Nat.le_refl _)
    (show ObjOk X.prog X.w _ _ _ (.lst ((out.map SrtO.iv).map V.int)) from ⟨hlen, out, e', vals_of_ints k1, he'⟩), rfl, q _ _ k2 k3 (I1.hok.fresh (Nat.le_refl _))⟩
  have hb : b < h'.objs.size := Heap.lt_size e
  rw [PyProof.Rows.sortedHeap_old (Nat.ne_of_lt hb) (by rw [size_push']; exact Nat.lt_succ_of_lt hb)]; exact Heap.get?_push_of_some _ e
end
def rSortG (K : PySem.W.Frag) : List V → Hp → VK → Prop := fun vs H Q => rSortedI K vs H Q ∨ ∃ (a : Addr) (kvs : List (Key × V)) (ks : List Int), vs = [.ref a] ∧ Rd H a (.dK kvs) ∧ kvs.map (·.1) = ks.map Sum.inl ∧ ks.length ≤ 100000 ∧ ∀ (ys : List Int) (p : Addr), ys.Perm ks → ys.Pairwise (· ≤ ·) → H p = none → Q (.ref p) (upd H p (.lst (ys.map V.int)))
theorem k_sort {K : PySem.W.Frag} {X : Cx} (h : X.K = K) (hc : X.calm = true) : CallR X (.builtin "sorted") (rSortG K) := by cases h; exact cr_sortedI.or (call_sortedDO hc)
section
variable {K : PySem.W.Frag} {F B0 H B : Hp} {τ : List V} {T : List O} {σ : L2.St} {Γ : En} {S : Ad} {v w : V} {o oe o1 : O} {i : Nat} {te ti ty tv : TE} {p : List Sel} {posts1 : En → Prop} {Dd : EG} {post : O → En → Prop} {x : D}
theorem oa_sortD {kvs : List (Key × D)} {ks : List Int} (q : kvs.map (·.1) = ks.map Sum.inl) (hl : ks.length ≤ 100000) (h : post (.ol (((srt ks).map D.int).map O.d)) Γ) : OpA K F B0 (rSortG K) [.dic kvs] T Γ post := fun τ σ H B S vs Q w rl k => by
  obtain ⟨v1, rfl, r⟩ := rl.one
  cases r with | @dic a ws _ hd _ rk =>
  refine .inr ⟨a, ws, ks, rfl, w.pu.rd hd, by rw [rk.keys, q], hl, fun ys p hp hs hn => ?_⟩
  have e := srt_eq hp hs
  subst e
  obtain ⟨S2, w⟩ := w.newl hn (RL.ofInts (srt ks))
  exact k _ _ _ _ h ⟨_, _, w⟩
/-- code that is never come to -/
theorem gos_never (h : False) : GoS K F B0 tNever T Γ Dd := h.elim
theorem RS.setAt {So : Ad} {n : Nat} {vs : List V} {xs : List O} (r : RS K B H S (vs.map some) (xs.map some)) (hn : n < xs.length) (ro : RO K B H So w oe) (dj : ∀ b, S b → ¬ So b) : RS K B H (fun b => S b ∨ So b) ((vs.set n w).map some) ((xs.set n oe).map some) := by
  obtain ⟨u, U1, U2, c1, c2, c3, c4, ru, f⟩ := r.focus (i := n) (o := xs[n]) (by rw [List.getElem?_map, List.getElem?_eq_getElem hn]; rfl)
  have q := f B H So (some w) (some oe) (.refl B) (fun _ _ _ e => e) (fun b z y => dj b (c3 b y) z) (fun x e => by cases e; exact ⟨w, rfl, ro⟩)
  rw [← List.map_set, ← List.map_set] at q
  exact q.tr (.refl B) (fun b z => z.elim .inr fun z => .inl (c3 b z)) fun _ _ _ e => e
/-- te[n] = e, a list at a place -/
theorem gog_setLP (ev : EvP K te i p) {xs : List O} (e0 : Γ[i]? = some (some o1)) (g : o1.getP p = some (.ol xs)) (ok : okPth K o1 p)
    (h : ∀ F' B', Go K F' B' ti [] (fzE Γ) fun okk _ => ∃ n : Int, okk = .d (.int n) ∧ 0 ≤ n ∧ n < xs.length ∧ posts1 (Γ.set i (some (o1.setP (.ol (xs.set n.toNat o)) p)))) : GoG K F B0 (gSub te ti rSetG) o T Γ posts1 := fun τ σ H v1 Q ⟨B1, S1, w1⟩ k' => by
  obtain ⟨v, u, T1, To, a1, wk, r1, _, _, _, _, _⟩ := w1.mutP e0 g ok
  obtain ⟨Bf, w0, back⟩ := w1.lendX
  refine ev σ H v u _ a1 wk (h H Bf [] σ H _ w0 fun v2 o2 Γ2 H2 ⟨n, eo, n0, n1, h2⟩ how => ?_)
  subst eo
  obtain ⟨ex, hb⟩ := back v2 _ Γ2 H2 how
  obtain ⟨B2, S2, w2⟩ := hb rfl
  obtain ⟨rk, S3, _, w3⟩ := w2.popd
  cases rk
  obtain ⟨v', u', S5, So, a2, wk2, r2, ro, dj, _, _, f⟩ := w3.mutP e0 g ok
  rw [a1] at a2
  cases a2
  have eu : u' = u := Wlk.det (wk.ex ex) wk2
  subst eu
  cases r2 with
  | @ol _ S4 a ws _ ha hs hn hc rs =>
  have len : ws.length = xs.length := by simpa using rs.len
  refine .inl ⟨a, ws, n, n.toNat, rfl, rfl, hc, by unfold ixN; rw [if_pos n0, len, if_pos n1], ?_⟩
  obtain ⟨S', w4, _⟩ := f a (.lst (ws.set n.toNat v1)) (.ol (xs.set n.toNat o)) ha (.ol (S' := fun b => S4 b ∨ So b) (.inl ha) (fun b z => z.imp (hs b) id) (fun z => z.elim hn fun z => dj a ha z) upd_same
    ((rs.setAt (by omega) ro fun b z => dj b (hs b z)).at fun b u z q => by
      rw [upd_ne (fun e => by subst e; exact z.elim hn fun z => dj b ha z)]; exact q))
  exact k' σ _ _ h2 ⟨B2, S', w4⟩
theorem RS.filt {κ : Type} {q : κ → Bool} : ∀ {ws : List (κ × V)} {kvs : List (κ × O)} {S : Ad}, ws.map (·.1) = kvs.map (·.1) → RS K B H S (ws.map fun p => some p.2) (kvs.map fun p => some p.2) →
    RS K B H S ((ws.filter fun p => q p.1).map fun p => some p.2) ((kvs.filter fun p => q p.1).map fun p => some p.2)
  | [], [], _, _, r => r
  | (k, v) :: ws, (k', y) :: kvs, S, e, .cons (S1 := T1) (S2 := T2) s1 s2 d r rs => by
    simp only [List.map_cons, List.cons.injEq] at e
    obtain ⟨rfl, e⟩ := e
    have ih := RS.filt (q := q) e rs
    by_cases h : q k = true
    · rw [List.filter_cons_of_pos (by exact h), List.filter_cons_of_pos (by exact h)]
      exact .cons s1 s2 d r ih
    · rw [List.filter_cons_of_neg (by exact h), List.filter_cons_of_neg (by exact h)]
      exact ih.tr (.refl B) s2 fun _ _ _ e => e
theorem filt_keys {κ α β : Type} {q : κ → Bool} : ∀ {ws : List (κ × α)} {kvs : List (κ × β)}, ws.map (·.1) = kvs.map (·.1) → (ws.filter fun p => q p.1).map (·.1) = (kvs.filter fun p => q p.1).map (·.1)
  | [], [], _ => rfl
  | (k, v) :: ws, (k', y) :: kvs, e => by
    simp only [List.map_cons, List.cons.injEq] at e
    obtain ⟨rfl, e⟩ := e
    have ih := filt_keys (q := q) e
    by_cases h : q k = true
    · rw [List.filter_cons_of_pos (by exact h), List.filter_cons_of_pos (by exact h), List.map_cons, List.map_cons, ih]
    · rw [List.filter_cons_of_neg (by exact h), List.filter_cons_of_neg (by exact h), ih]
/-- te.pop(k), a dict at a place that has it -/
theorem gos_popP (ev : EvP K te i p) {kvs : List (Key × O)} (e0 : Γ[i]? = some (some o1)) (g : o1.getP p = some (.od kvs)) (ok : okPth K o1 p)
    (h : ∀ F' B', Go K F' B' ty [] (fzE Γ) fun okk _ => ∃ k, okk = .d (kD k) ∧ (kval kvs k).isSome = true ∧ Dd.nx (Γ.set i (some (o1.setP (.od (kvs.filter fun kv => decide (kv.1 ≠ k))) p)))) :
    GoS K F B0 (tDrop (tDPop1 te ty)) T Γ Dd := fun τ σ H De ⟨B, S, w⟩ s => by
  obtain ⟨v, d, ws, a1, wk, hc, ek⟩ := w.cellD e0 g ok
  obtain ⟨Bf, w0, back⟩ := w.lendX
  refine ev σ H v _ _ a1 wk ⟨d, rfl, .inl ⟨ws, .inl hc⟩, h H Bf [] σ H _ w0 fun v2 o2 Γ2 H2 ⟨k, eo, hk, h2⟩ how => ?_⟩
  subst eo
  obtain ⟨ex, hb⟩ := back v2 _ Γ2 H2 how
  obtain ⟨B2, S2, w2⟩ := hb (by cases k <;> rfl)
  obtain ⟨rk, S3, _, w3⟩ := w2.popd
  have ekk := rk.kV
  subst ekk
  have hc2 := ex _ _ hc
  rw [kval_keys ek] at hk
  obtain ⟨u, hu⟩ := Option.isSome_iff_exists.mp hk
  obtain ⟨v', u', T1, a2, wk6, r6, _, f6⟩ := w3.mutP1 e0 g ok
  rw [a1] at a2
  cases a2
  have eu := Wlk.det (wk.ex ex) wk6
  subst eu
  cases r6 with
  | @od _ S6 _ ws2 _ ha hs hn hc6 nd ek2 rs =>
  have ews : ws2 = ws := by
    rw [hc2] at hc6
    cases hc6; rfl
  subst ews
  refine ⟨ws2, k, u, hc2, rfl, hu, ?_⟩
  obtain ⟨S', w5, _⟩ := f6 d (.dK (dropK ws2 k)) (.od (kvs.filter fun kv => decide (kv.1 ≠ k))) ha (.od (S' := S6) ha hs hn upd_same (nd.sublist (List.filter_sublist.map _)) (filt_keys (q := fun z => decide (z ≠ k)) ek2) ((RS.filt (q := fun z => decide (z ≠ k)) ek2 rs).at fun b x z q => by
    rw [upd_ne (fun e => by subst e; exact hn z)]; exact q))
  exact s.nx σ _ _ h2 ⟨_, _, w5⟩
end
end SK
namespace SK
open PySem PySem.Spec PyProof.Rows L2
section
variable {K : PySem.W.Frag} {F B0 H B : Hp} {τ : List V} {T : List O} {σ : L2.St} {Γ : En} {S : Ad} {v w : V} {o oe o1 : O} {i : Nat} {te ti ty tv : TE} {posts1 : En → Prop} {Dd : EG} {post : O → En → Prop} {Ci a : Addr} {fl : List Str} {f : Str} {fs : Fs} {kvs : List (Key × O)}
theorem evp_f1 : EvP K (tFld K (tVar i) f) i [.fld f] := evp_fld (p := []) evp_var
theorem getP_f1 (hl : fs.lookup f = some o) : (O.oi a Ci fs).getP [.fld f] = some o := by
  show (match fs.lookup f with | some u => u.getP [] | none => none) = _
  rw [hl]; rfl
theorem okP_f1 (R : Rec K Ci fl) (hl : fs.lookup f = some o) (hf : fl.contains f = true) : okPth K (O.oi a Ci fs) [.fld f] := by
  refine ⟨⟨R.cls, R.no f hf⟩, ?_⟩
  show (match fs.lookup f with | some u => okPth K u [] | none => False)
  rw [hl]; trivial
theorem setP_f1 (hl : fs.lookup f = some o) : (O.oi a Ci fs).setP oe [.fld f] = .oi a Ci (SK.fput f oe fs) := by
  show (match fs.lookup f with | some u => O.set1 (O.oi a Ci fs) (u.setP oe []) (.fld f) | none => _) = _
  rw [hl]; rfl
/-- x.f.setdefault(k, []).append(e) -/
theorem gos_setdAppF (R : Rec K Ci fl) (e0 : Γ[i]? = some (some (.oi a Ci fs))) (hl : fs.lookup f = some (.od kvs)) (hf : fl.contains f = true) (hz : kvs.length < 100000)
    (h : ∀ F' B', Go K F' B' ty [] (fzE Γ) fun okk _ => ∃ k ys, okk = .d (kD k) ∧ lstAt kvs k ys ∧ ys.length < 100000 ∧
      ∀ F' B', Go K F' B' tv [] (fzE (Γ.set i none)) fun oe _ => oe.lf = true ∧ Dd.nx (Γ.set i (some (.oi a Ci (SK.fput f (.od (dput kvs k (.ol (ys ++ [oe])))) fs))))) :
    GoS K F B0 (tDrop (tBM K "list" rAppend (tDSetd (tFld K (tVar i) f) ty (tLst tNil)) (tCons tv tNil))) T Γ Dd := by
  refine gos_setdApp evp_f1 e0 (getP_f1 hl) (okP_f1 R hl hf) hz ?_
  simp only [setP_f1 hl]
  exact h
/-- x.f.pop(k) -/
theorem gos_popF (R : Rec K Ci fl) (e0 : Γ[i]? = some (some (.oi a Ci fs))) (hl : fs.lookup f = some (.od kvs)) (hf : fl.contains f = true)
    (h : ∀ F' B', Go K F' B' ty [] (fzE Γ) fun okk _ => ∃ k, okk = .d (kD k) ∧ (kval kvs k).isSome = true ∧ Dd.nx (Γ.set i (some (.oi a Ci (SK.fput f (.od (kvs.filter fun kv => decide (kv.1 ≠ k))) fs))))) :
    GoS K F B0 (tDrop (tDPop1 (tFld K (tVar i) f) ty)) T Γ Dd := by
  refine gos_popP evp_f1 e0 (getP_f1 hl) (okP_f1 R hl hf) ?_
  simp only [setP_f1 hl]
  exact h
/-- x.f[k] = e -/
theorem gog_setDF (R : Rec K Ci fl) (e0 : Γ[i]? = some (some (.oi a Ci fs))) (hl : fs.lookup f = some (.od kvs)) (hf : fl.contains f = true) (hz : kvs.length < 100000)
    (h : ∀ F' B', Go K F' B' ti [] (fzE Γ) fun okk _ => ∃ k, okk = .d (kD k) ∧ posts1 (Γ.set i (some (.oi a Ci (SK.fput f (.od (dput kvs k o)) fs))))) : GoG K F B0 (gSub (tFld K (tVar i) f) ti rSetG) o T Γ posts1 := by
  refine gog_setDP evp_f1 e0 (getP_f1 hl) (okP_f1 R hl hf) hz ?_
  simp only [setP_f1 hl]
  exact h
/-- xs[n] = e -/
theorem gog_setL {xs : List O} (e0 : Γ[i]? = some (some (.ol xs)))
    (h : ∀ F' B', Go K F' B' ti [] (fzE Γ) fun okk _ => ∃ n : Int, okk = .d (.int n) ∧ 0 ≤ n ∧ n < xs.length ∧ posts1 (Γ.set i (some (.ol (xs.set n.toNat o))))) : GoG K F B0 (gSub (tVar i) ti rSetG) o T Γ posts1 :=
  gog_setLP (p := []) evp_var e0 rfl trivial h
end
end SK
namespace SK
open PySem PySem.Spec PyProof.Rows L2
def rIsBl : R2 := fun x y H Q => ∃ a b, x = .bl a ∧ y = .bl b ∧ Q (.bl (decide (a = b))) H
def rNotBl : R2 := fun x y H Q => ∃ a b, x = .bl a ∧ y = .bl b ∧ Q (.bl (!decide (a = b))) H
section
variable {K : PySem.W.Frag} {F B0 : Hp} {T : List O} {Γ : En} {post : O → En → Prop}
theorem o2_isBl {a b : Bool} (h : post (.d (.bl (decide (a = b)))) Γ) : Op2 K F B0 rIsBl (.bl a) (.bl b) T Γ post := fun τ σ H B S v1 v2 Q w r1 r2 k => by
  cases r1; cases r2
  exact ⟨a, b, rfl, rfl, k _ _ Γ H h ⟨_, _, w.pushd .bl⟩⟩
theorem o2_notBl {a b : Bool} (h : post (.d (.bl (!decide (a = b)))) Γ) : Op2 K F B0 rNotBl (.bl a) (.bl b) T Γ post := fun τ σ H B S v1 v2 Q w r1 r2 k => by
  cases r1; cases r2
  exact ⟨a, b, rfl, rfl, k _ _ Γ H h ⟨_, _, w.pushd .bl⟩⟩
end
end SK
namespace SK
open PySem PySem.Spec PyProof.Rows L2
def tVarM (i : Nat) : TE := tVar i
theorem pe_mv {X : Cx} {e : Expr} {i : Nat} (h : PE X e (tVar i)) : PE X e (tVarM i) := h
section
variable {K : PySem.W.Frag} {F B0 : Hp} {T : List O} {Γ : En} {post : O → En → Prop} {i : Nat} {o : O}
theorem go_varM (e : Γ[i]? = some (some o)) (h : post o (Γ.set i none)) : Go K F B0 (tVarM i) T Γ post := go_move e h
end
theorem lfOLm {α : Type} {e : α → D} (h : ∀ x, (e x).lf = true) : ∀ {xs : List α}, (O.ol ((xs.map e).map O.d)).lf = true
  | [] => rfl
  | x :: xs => by
    have := lfOLm h (xs := xs)
    simp only [O.lf, List.map_cons, lfOL, h x, Bool.true_and] at this ⊢
    exact this
end SK
namespace SK
open PySem PySem.Spec PyProof.Rows L2
theorem gos_sIN {K : PySem.W.Frag} {F B0 : Hp} {T : List O} {Γ : En} {Dd : EG} {tt : TT} {u t2 : TS} (h : GoS K F B0 (tIfS tt tNever u) T Γ { Dd with nx := fun Γ1 => GoS K F B0 t2 T Γ1 Dd }) : GoS K F B0 (tSeq (tIfS tt tNever u) t2) T Γ Dd := gos_seq h
end SK
namespace SK
open PySem PySem.Spec PyProof.Rows L2
/-- dicts whose keys are numbers -/
abbrev IM (β : Type) := List (Int × β)
section
variable {β γ : Type} {f : β → D} {fo : β → O} {l : IM β} {k e : Int} {x : β}
def imK (f : β → D) (l : IM β) : List (Key × D) := l.map fun p => (Sum.inl p.1, f p.2)
def imO (f : β → O) (l : IM β) : List (Key × O) := l.map fun p => (Sum.inl p.1, f p.2)
theorem dval_cons {κ α : Type} [DecidableEq κ] {p : κ × α} {l : List (κ × α)} {k : κ} : dval (p :: l) k = if p.1 = k then some p.2 else dval l k := by
  by_cases h : p.1 = k <;> simp [dval, h]
theorem dval_im : ∀ {l : IM β}, dval (imK f l) (.inl k) = (dval l k).map f
  | [] => rfl
  | p :: l => by
    show dval ((Sum.inl p.1, f p.2) :: imK f l) (.inl k) = _
    rw [dval_cons, dval_cons, dval_im (l := l)]
    by_cases h : p.1 = k
    · simp [h]
    · have q : ¬ (Sum.inl p.1 : Key) = Sum.inl k := fun z => h (Sum.inl.inj z)
      simp [h, q]
theorem dval_imG {g : β → γ} : ∀ {l : IM β}, dval (l.map fun p => ((Sum.inl p.1 : Key), g p.2)) (.inl k) = (dval l k).map g
  | [] => rfl
  | p :: l => by
    rw [List.map_cons, dval_cons, dval_cons, dval_imG (l := l)]
    by_cases h : p.1 = k
    · simp [h]
    · have q : ¬ (Sum.inl p.1 : Key) = Sum.inl k := fun z => h (Sum.inl.inj z)
      simp [h, q]
theorem kval_im : kval (imO fo l) (.inl k) = (dval l k).map fo := dval_imG
theorem imO_put : SK.dput (imO fo l) (.inl k) (fo x) = imO fo (SK.dput l k x) := by
  have e : ((imO fo l).any fun kv => decide (kv.1 = (.inl k : Key))) = l.any fun kv => decide (kv.1 = k) := by
    simp [imO, List.any_map, Function.comp_def]
  unfold SK.dput
  rw [e]
  split
  · simp only [imO, List.map_map]
    apply List.map_congr_left
    intro p _
    by_cases q : p.1 = k
    · simp [q]
    · have : ¬ (Sum.inl p.1 : Key) = Sum.inl k := fun z => q (Sum.inl.inj z)
      simp [q]
  · simp [imO]
theorem dval_put {κ α : Type} [DecidableEq κ] {k e : κ} {x : α} : ∀ {l : List (κ × α)}, dval (SK.dput l k x) e = if e = k then some x else dval l e := by
  have miss : ∀ l : List (κ × α), e ≠ k → dval (l.map fun kv => if kv.1 = k then (kv.1, x) else kv) e = dval l e := by
    intro l ne
    induction l with
    | nil => rfl
    | cons p l ih =>
      rw [List.map_cons, dval_cons, dval_cons, ih]
      by_cases z : p.1 = k
      · have : ¬ p.1 = e := fun w => ne (w.symm.trans z)
        have q : ¬ k = e := fun w => ne w.symm
        simp [z, q]
      · simp [z]
  have hit : ∀ l : List (κ × α), (l.any fun kv => decide (kv.1 = k)) = true → dval (l.map fun kv => if kv.1 = k then (kv.1, x) else kv) k = some x := by
    intro l
    induction l with
    | nil => intro h; simp at h
    | cons p l ih =>
      intro h
      rw [List.map_cons, dval_cons]
      by_cases z : p.1 = k
      · simp [z]
      · have h' : (l.any fun kv => decide (kv.1 = k)) = true := by simpa [z] using h
        rw [ih h']; simp [z]
  intro l
  unfold SK.dput
  by_cases q : (l.any fun kv => decide (kv.1 = k)) = true
  · rw [if_pos q]
    by_cases ne : e = k
    · rw [if_pos ne]; subst ne; exact hit l q
    · rw [if_neg ne]; exact miss l ne
  · rw [if_neg q]
    have h0 : l.find? (fun p => decide (p.1 = k)) = none := by
      rw [List.find?_eq_none]
      intro p hp z
      exact q (List.any_eq_true.mpr ⟨p, hp, z⟩)
    unfold dval
    rw [List.find?_append]
    by_cases ne : e = k
    · subst ne; rw [if_pos rfl, h0]; simp
    · rw [if_neg ne]
      have : ¬ k = e := fun q => ne q.symm
      simp [this]
theorem imO_fz (h : ∀ x, (fo x).fz = f x) : ∀ {l : IM β}, fzK (imO fo l) = imK f l
  | [] => rfl
  | p :: l => by
    show (_, (fo p.2).fz) :: fzK (imO fo l) = (_, _) :: imK f l
    rw [imO_fz h (l := l), h]
theorem imK_keys : (imK f l).map (·.1) = (l.map (·.1)).map Sum.inl := by simp [imK]
theorem imK_len : (imK f l).length = l.length := by simp [imK]
theorem imO_len : (imO fo l).length = l.length := by simp [imO]
theorem imK_od : (imK f l).map (fun p => (p.1, O.d p.2)) = imO (fun x => O.d (f x)) l := by simp [imK, imO]
theorem dput_mem {κ α : Type} [DecidableEq κ] {k e : κ} {x : α} {l : List (κ × α)} (q : e ∈ (SK.dput l k x).map (·.1)) : e = k ∨ e ∈ l.map (·.1) := by
  unfold SK.dput at q
  split at q
  · rw [repl_keys] at q; exact .inr q
  · rw [List.map_append] at q
    rcases List.mem_append.mp q with q | q
    · exact .inr q
    · exact .inl (by simpa using q)
theorem dval_mem {κ α : Type} [DecidableEq κ] {k : κ} {l : List (κ × α)} : (dval l k).isSome = true ↔ k ∈ l.map (·.1) := by
  unfold dval
  rw [Option.isSome_map, List.find?_isSome]
  simp
theorem dval_none {κ α : Type} [DecidableEq κ] {k : κ} {l : List (κ × α)} : dval l k = none ↔ k ∉ l.map (·.1) := by
  rw [← dval_mem]; cases dval l k <;> simp
theorem itemsD_im : itemsD (imK f l) = l.map fun p => D.tup [.int p.1, f p.2] := by
  simp [itemsD, imK, kD]
theorem keysD_im : keysD (imK f l) = l.map fun p => D.int p.1 := by
  simp [keysD, imK, kD]
theorem lstAt_im {g : β → List O} (hg : ∀ x, fo x = .ol (g x)) (h0 : dval l k = none → True) : lstAt (imO fo l) (.inl k) (((dval l k).map g).getD []) := by
  unfold lstAt
  rw [kval_im]
  cases dval l k with
  | none => exact .inr ⟨rfl, rfl⟩
  | some p => exact .inl (by simp [hg])
end
end SK
namespace SK
open PySem PySem.Spec PyProof.Rows L2
section
variable {K : PySem.W.Frag} {F B0 : Hp} {T : List O} {Γ : En} {post : O → En → Prop} {te tl : TE} {tt : TT} {j1 j2 j3 : Nat}
/-- [f(x, y, z) for x, y, z in ps if p(x, y, z)] -/
theorem go_lc3 {α : Type} (e g1 g2 g3 : α → D) (he : ∀ x, e x = .tup [g1 x, g2 x, g3 x]) (p : α → Bool) (f : α → D) (h : Go K F B0 tl T Γ fun o Γ1 => ∃ ys : List α, Wk o.fz (ys.map e) ∧ ys.length ≤ 100000 ∧ (j1 < Γ1.length ∧ j2 < Γ1.length ∧ j3 < Γ1.length ∧ Γ1.set j1 none = Γ1 ∧ Γ1.set j2 none = Γ1 ∧ Γ1.set j3 none = Γ1) ∧
    (∀ (x : α) (acc : List O), x ∈ ys → GoT K F B0 tt (.ol acc :: .d o.fz :: T) (((Γ1.set j1 (some (.d (g1 x)))).set j2 (some (.d (g2 x)))).set j3 (some (.d (g3 x)))) fun b Γ3 => b = p x ∧ (p x = false → wipeE Γ3 [j1, j2, j3] = Γ1) ∧ (p x = true → Go K F B0 te (.ol acc :: .d o.fz :: T) Γ3 fun o Γ4 => o.fz = f x ∧ wipeE Γ4 [j1, j2, j3] = Γ1)) ∧
    post (.ol (((ys.filter p).map f).map O.d)) Γ1) : Go K F B0 (tLc (iSeq K tl) (gTup K 3 (gCons (gName j1) (gCons (gName j2) (gCons (gName j3) gNil)))) tt te [j1, j2, j3]) T Γ post := by
  refine go_lc (goi_seq fun τ σ H Q hw k => h τ σ H Q hw fun v o Γ1 H1 ⟨ys, q1, q2, ⟨l1, l2, l3, s1, s2, s3⟩, q5, q6⟩ w => k v o Γ1 H1 ⟨ys.map e, q1, ys, e, p, f, rfl, q2, ?_, ?_, q6⟩ w)
  · intro j hj
    simp only [List.mem_cons, List.not_mem_nil, or_false] at hj
    rcases hj with rfl | rfl | rfl
    · exact s1
    · exact s2
    · exact s3
  · intro m x acc hx
    exact gow_tup (he x) rfl (gows_name (by simp) l1 (gows_name (by simp) (by simpa using l2) (gows_name (by simp) (by simpa using l3) (gows_nil (q5 x acc (List.mem_of_getElem? hx))))))
/-- dict(d), keys numbers -/
theorem oa_dictI {β : Type} {f : β → D} {l : IM β} (h : post (.od (imO (fun x => O.d (f x)) l)) Γ) : OpA K F B0 rDictD [.dic (imK f l)] T Γ post := oa_dictD (by rw [imK_od]; exact h)
end
end SK
namespace SK
open PySem PySem.Spec PyProof.Rows L2
/-- a set that has just been made -/
abbrev nwS (w : World) : Obj := { cls := .type "set", dict := none, data := .set #[] 0 (.fresh 0 0 (!w.params.followText "set-order")) }
section
variable {P : Program} {w : World} {A : Around} {E : Value → Shared → Prop} {s : Shared}
set_option maxRecDepth 100000 in
set_option maxHeartbeats 8000000 in
/-- set(xs), xs a list of ints -/
theorem call_setL {l : Addr} {its : Array Value} (ns : List Int) {Q : Value → Shared → Prop} (hh : A.handled = none) (hl : s.heap.IsList l its) (hit : IntsAre its.toList ns) (hb : ns.length + 1 < scanBound)
    (k : ∀ (h' : Heap) (tk c : Nat), SetR w h' s.heap.objs.size (fun j => decide (j ∈ ns)) c → c ≤ ns.length → (∀ b o, s.heap.get? b = some o → h'.get? b = some o) → Q (.ref s.heap.objs.size) { s with heap := h', toks := tk }) :
    wpAny (model P w) A (call (.type "set") [.ref l]) Q E s := by
  have zs : its.size = ns.length := by have q := IntsAre.length hit; rw [Array.length_toList] at q; exact q
  obtain ⟨c0, tl0, mro0⟩ := F.called_set.mro
  have made0 := F.called_set.made; have sub0 := F.called_set.sub
  refine wpAny_call (codeAny_of_tree ?_)
  show wpAny _ _ (callAny (.type "set") _) _ _ _
  refine wpAny_pure ⟨Code.quiet_builtin _ (by decide +kernel), codeAny_builtin F.entry_type_call ?_⟩; rw [Around.under_plain (weight_type_call_type "set" [.ref l] []) rfl]
  have n1 := F.called_set.notType; have n2 := F.called_set.canCreate; have n3 := F.typeCall_set_1 (.ref l)
  repeat (any_goals (first | assumption | wp_step))
  refine codeAny_mono (code_set_led1 (.ref l) (E := E) (Q₁ := fun ob s1 => ob = .ref s.heap.objs.size ∧ s1 = { s with heap := s.heap.push (nwS w) }) ⟨rfl, rfl⟩) fun r s1 hr => ?_
  cases r with
  | error e => exact hr
  | ok fl =>
    cases fl with
    | ret ob =>
      obtain ⟨rfl, rfl⟩ := hr
      have gS : (s.heap.push (nwS w)).get? s.heap.objs.size = some (nwS w) := Heap.get?_push_size _ rfl
      have tS : Shared.TypeIs { s with heap := s.heap.push (nwS w) } (.ref s.heap.objs.size) "set" := ⟨_, gS, rfl⟩
      have li0 := F.called_set.init.lookup; have bi0 := F.called_set.init.bind (.ref s.heap.objs.size)
      repeat (any_goals (first | assumption | wp_step))
      refine codeAny_mono (codeAny_call_builtin (R := wants (fun r s2 => r = .none ∧ ∃ h' tk c, s2 = { s with heap := h', toks := tk } ∧ SetR w h' s.heap.objs.size (fun j => decide (j ∈ ns)) c ∧ c ≤ ns.length ∧ (∀ b o, s.heap.get? b = some o → h'.get? b = some o)) E) F.called_set.init.plain F.entry_set_init (check_set_init_1 tS ?_)) fun r2 s2 hr2 => ?_
      · obtain ⟨ol, hol, hcl, nl, hdl⟩ := hl
        obtain ⟨oc, od, oda, osl⟩ := ol
        simp only at hcl hdl
        subst hcl hdl
        have gl : (s.heap.push (nwS w)).get? l = some { cls := .type "list", dict := od, data := .seq its nl, slots := osl } := Heap.get?_push_of_some _ hol
        have sl1 := F.sub_list_set; have sl2 := F.sub_list_frozenset
        have ne0 : (Value.type "list" == Value.type "dict") = false := by decide
        have l1 : (s.heap.push (nwS w)).IsList l its := ⟨_, gl, rfl, nl, rfl⟩
        unfold Builtin.«set.__init__» noKeywords Builtin.Frozenset.updateFrom
        generalize hPI : pyIter = PI
        wp_walk
        subst hPI
        refine wpAny_pyIter_list l1 (wpAny_bind (wpAny_runValue ?_))
        have ll : l < s.heap.objs.size := Heap.lt_size hol
        have hh3 : A.in1.in1.in1.handled = none := by simp [hh]
        have sz1 : (s.heap.push (nwS w)).objs.size = s.heap.objs.size + 1 := Heap.size_push ..
        have neI : l ≠ (s.heap.push (nwS w)).objs.size := by rw [sz1]; exact Nat.ne_of_lt (Nat.lt_succ_of_lt ll)
        have nfp : s.heap.objs.size ∉ [(s.heap.push (nwS w)).objs.size, l] := by
          rw [sz1]; simp only [List.mem_cons, List.not_mem_nil, or_false, not_or]; exact ⟨Nat.ne_of_lt (Nat.lt_succ_self _), Nat.ne_of_gt ll⟩
        have val : ∀ (i : Nat) (v : Value), its[i]? = some v → ∃ k t, ns[i]? = some k ∧ v = .int k t := fun i v hv => by
          have hi : i < ns.length := by rw [← zs]; exact (Array.getElem?_eq_some_iff.mp hv).1
          obtain ⟨t, e⟩ := IntsAre.int_at hit i v (by rw [Array.getElem?_toList]; exact hv)
          exact ⟨ns[i], t, List.getElem?_eq_getElem hi, by rw [e, List.getD_eq_getElem?_getD, List.getElem?_eq_getElem hi]; rfl⟩
        refine set_update_ints ((Walks.list hh3 _ l neI its).toS) s.heap.objs.size nfp ns zs hb val (its.size - 0) 0 _ (by omega) (Nat.zero_le _) ⟨⟨_, Heap.get?_push_size _ rfl, rfl, rfl⟩, (l1.push _)⟩ ?h0 ?hR
        case h0 =>
          have g2 : ((s.heap.push (nwS w)).push { cls := .type "list_iterator", data := .fields #[.ref l, .int 0 0] }).get? s.heap.objs.size = some (nwS w) := Heap.get?_push_of_some _ gS
          exact ⟨0, Nat.le_refl 0, setR_new_at g2⟩
        case hR =>
          intro s' c' hm hc' hS'
          obtain ⟨h', g2, d', tk', os'⟩ := s'
          obtain rfl : g2 = s.gens := hm.gens
          obtain rfl : d' = s.drawn := hm.drawn
          obtain rfl : os' = s.os := hm.os
          show wpAny _ _ _ _ _ _
          refine wpAny_pure ?_
          show wpAny _ _ (ret Value.none) _ _ _
          rw [zs] at hc'
          refine wpAny_pure ⟨rfl, h', tk', c', rfl, hS', hc', fun b o e => ?_⟩
          have b0 : b < s.heap.objs.size := Heap.lt_size e
          have b1 : b ≠ s.heap.objs.size := Nat.ne_of_lt b0
          have b2 : b ≠ (s.heap.push (nwS w)).objs.size := by rw [sz1]; exact Nat.ne_of_lt (Nat.lt_succ_of_lt b0)
          exact hm.heap b o (by simp only [List.mem_cons, List.not_mem_nil, or_false, not_or]; exact ⟨b1, b2⟩) (Heap.get?_push_of_some _ (Heap.get?_push_of_some _ e))
      · cases r2 with
        | error e => exact hr2
        | ok fl2 =>
          cases fl2 with
          | ret r =>
            obtain ⟨rfl, h', tk, c', rfl, hS', hc', hk'⟩ := hr2
            repeat (any_goals (first | assumption | wp_step))
            exact k _ _ _ hS' hc' hk'
          | _ => exact hr2.elim
    | _ => exact hr.elim
end
section
variable {P : Program} {w : World} {A : Around} {E : Value → Shared → Prop} {s : Shared} {a : Addr}
/-- sorted(a set of ints), any number of them -/
theorem sorted_setO {S : Int → Bool} {n : Nat} {Q : Value → Shared → Prop} (R : SetR w s.heap a S n) (hh : A.handled = none)
    (hQ : ∀ s' p (out : Array Value) (c : Nat) (ns : List Int), (∀ b o, s.heap.get? b = some o → s'.heap.get? b = some o) → s'.gens = s.gens → s'.os = s.os → s.heap.objs.size ≤ p →
      s'.heap.get? p = some (seqObj "list" out c) → IntsAre out.toList ns → ns.Pairwise (· < ·) → (∀ k, k ∈ ns ↔ S k = true) → ns.length = n → Q (.ref p) s') : wpAny (model P w) A (call (.builtin "sorted") [.ref a]) Q E s := by
  obtain ⟨o, es, ep, t, ho, hex, hd, g, nd, hm, hb, hf, hn, hr, hl⟩ := R; refine Calls.call_function_entry kind_sorted plain_sorted entry_sorted (args_sorted1 _) ?_
  unfold Builtin.«sorted»; refine wpAny_bind (m := checkCount "sorted" 1 1 _) (wpAny_pure ?_)
  refine wpAny_bind (collect_set (A := A.in1) hh ⟨o, ho, hex.1, hd⟩ hf hb hr hl fun s1 vs k1 hz g1 o1 pm => ?_); have hvl : vs.length = n := by rw [pm.length_eq, List.length_map, Array.length_toList]; exact hn
  have hI : IntsAre vs (vs.map Builtin.Re.reRawOf) := ints_of vs fun v hv => by
    obtain ⟨e, he, q⟩ := List.mem_map.mp (pm.mem_iff.mp hv); obtain ⟨k, tk, h1, _⟩ := g e he; exact ⟨k, tk, by rw [← q]; exact h1⟩
  have pk : (vs.map Builtin.Re.reRawOf).Perm (es.toList.map keyOf) := by
    have q := pm.map Builtin.Re.reRawOf; rw [List.map_map] at q; exact q
  have hz2 : vs.length ≤ sizeLine := by rw [hvl, ← hn, sizeLine_eq]; unfold scanBound at hb; omega
  refine wpAny_bind (wpAny_newList ?_ hz2); have hoL : (s1.heap.push (seqObj "list" vs.toArray 0)).get? s1.heap.objs.size = some (seqObj "list" vs.toArray 0) := Heap.get?_push_size _ rfl
  refine wpAny_bind (wpAny_holding (wpAny_call_entry slot_list_sort ⟨_, hoL, rfl⟩ entry_list_sort (SrtO.list_sort_ord SrtO.swo_int hoL hz2 (fun h2 => SrtO.ints_sortable hI h2) fun out b1 b2 => ⟨.none, rfl, ?_⟩) (args_list_sort _)))
  obtain ⟨a1, a2, a3⟩ := SrtO.ints_out hI b1 b2
  obtain ⟨c, hc⟩ := sortedHeap_at (vs := vs) (out := out.toArray) hoL; have pn : (out.map SrtO.iv).Perm (es.toList.map keyOf) := a2.trans pk
  refine wpAny_pure ⟨_, rfl, hQ _ s1.heap.objs.size out.toArray c (out.map SrtO.iv) (fun b u e => ?_) g1 o1 hz hc a1 (lt_of_le_nodup _ a3 (pn.nodup_iff.mpr nd)) (fun k => by rw [pn.mem_iff, ← hm k]) ?_⟩
  · have q := k1 b u e; have hlt := Heap.lt_size q; show (sortedHeap (s1.heap.push (seqObj "list" vs.toArray 0)) s1.heap.objs.size vs out.toArray).get? b = some u
    rw [sortedHeap_old (Nat.ne_of_lt hlt) (by rw [size_push']; exact Nat.lt_succ_of_lt hlt)]; exact Heap.get?_push_of_some _ q
  · rw [pn.length_eq, List.length_map, Array.length_toList]; exact hn
end
/-- sorted(set(e)), e a list of ints -/
def tSortSet (K : PySem.W.Frag) (te : TE) : TE := fun σ H Q => te σ H fun v H1 => ∃ (a : Addr) (ns : List Int), v = .ref a ∧ SqL K H1 a (ns.map V.int) ∧ ns.length ≤ 4000 ∧
  ∀ (ms : List Int) (q : Addr), ms.Pairwise (· < ·) → (∀ k, k ∈ ms ↔ k ∈ ns) → H1 q = none → Q (.ref q) (upd H1 q (.lst (ms.map V.int)))
theorem pe_sortSet {X : Cx} {K : PySem.W.Frag} {e : Expr} {te : TE} {p p2 pos pos2 : Pos} (hK : X.K = K) (hc : X.calm = true) (hg : Gl X "sorted") (hm : X.mg "sorted" = none) (hg2 : Gl X "set") (hm2 : X.mg "set" = none) (he : PE X e te)
    (hs : starEach [e] X.env = (false, eval e X.env) :: starEach [] X.env := by rfl)
    (hs2 : starEach [.Call (.Name "set" p2) [e] [] pos2] X.env = (false, eval (.Call (.Name "set" p2) [e] [] pos2) X.env) :: starEach [] X.env := by rfl) :
    PE X (.Call (.Name "sorted" p) [.Call (.Name "set" p2) [e] [] pos2] [] pos) (tSortSet K te) := by
  subst hK
  refine ⟨fun pins s σ H Q I h => ?_⟩
  refine Call_ (ld_blt I hg hm PyProof.Rows.boot_sorted ?_)
  refine PyProof.Rows.callWith_builtin1 (PyProof.Rows.args_cons (Call_ (ld_blt I hg2 hm2 PyProof.Rows.boot_set ?_)) hs2) hs2 rfl
  refine PyProof.Rows.callWith_type1 (PyProof.Rows.args_cons (thn (he.run pins s σ H _ I h) fun u s1 ⟨v, H1, I1, r1, q1⟩ => PyProof.Rows.args_nil ?_) hs) hs rfl
  obtain ⟨a, ns, rfl, hq, h64, q⟩ := q1
  cases r1
  obtain ⟨its, rv, pl, hz⟩ := I1.list hq
  refine call_setL (A := _) ns (I1.ok.hd hc) pl.isList (by simpa using rv.ints) (by unfold scanBound; omega) fun h' tk c hS hcn hk => PyProof.Rows.args_nil ?_
  have I2 : Inv X pins σ H1 { s1 with heap := h', toks := tk } := I1.kept fun b o z => hk b o z
  refine sorted_setO hS (I2.ok.hd hc) fun s' p out c' ms kp g o hp hgt hi hs' hmem hlen => ?_
  have hlen2 : (ms.map V.int).length ≤ sizeLine := by rw [List.length_map, hlen, sizeLine_eq]; omega
  have hp1 : s1.heap.objs.size ≤ p := Nat.le_trans (Nat.le_of_lt hS.lt) hp
  have hn : H1 p = none := I1.hok.fresh hp1
  have kq : ∀ b u, s1.heap.get? b = some u → s'.heap.get? b = some u := fun b u z => kp b u (hk b u z)
  have J : Inv X pins σ (upd H1 p (.lst (ms.map V.int))) { s1 with heap := s'.heap, gens := s'.gens, drawn := s'.drawn, toks := s'.toks } :=
    I1.call (ch := []) (Un.laid kq hp1 hn) (I1.hok.laid kq hp1 ⟨hlen2, out.toList, c', vals_of_ints hi, hgt⟩) (by rw [g]; exact I1.bare) (fun _ z => nomatch z)
  have es : s' = { s1 with heap := s'.heap, gens := s'.gens, drawn := s'.drawn, toks := s'.toks } := by
    cases s'; cases s1; cases o; rfl
  rw [es]
  exact ⟨.ref p, _, J, rfl, q ms p hs' (fun k => by rw [hmem]; simp) hn⟩
section
variable {K : PySem.W.Frag} {F B0 : Hp} {T : List O} {Γ : En} {post : O → En → Prop} {te : TE}
theorem go_sortSet (h : Go K F B0 te T Γ fun o Γ1 => ∃ ns : List Int, o.fz.seq? = some (ns.map D.int) ∧ ns.length ≤ 4000 ∧ ∀ ms : List Int, ms.Pairwise (· < ·) → (∀ k, k ∈ ms ↔ k ∈ ns) → post (.ol ((ms.map D.int).map O.d)) Γ1) :
    Go K F B0 (tSortSet K te) T Γ post := fun τ σ H Q hw k =>
  h τ σ H _ hw fun v o Γ1 H1 ⟨ns, q1, q2, q3⟩ ⟨_, _, w1⟩ => by
    obtain ⟨_, _, w2, ex⟩ := w1.fz
    obtain ⟨r, _, _, w3⟩ := w2.popd
    generalize o.fz = y at r q1
    obtain ⟨a, us, rfl, sq, rl⟩ := r.seqL q1
    have eu := RL.ints rl
    subst eu
    refine ⟨a, ns, rfl, w3.pu.sqL sq, q2, fun ms q hp hm hn => ?_⟩
    obtain ⟨S2, w4⟩ := w3.newl hn (RL.ofInts ms)
    exact k _ _ _ _ (q3 ms hp hm) ⟨_, _, w4⟩
/-- lists that rise and have the same members are the same -/
theorem rise_same : ∀ {xs ys : List Int}, xs.Pairwise (· < ·) → ys.Pairwise (· < ·) → (∀ k, k ∈ xs ↔ k ∈ ys) → xs = ys
  | [], [], _, _, _ => rfl
  | [], y :: ys, _, _, h => absurd ((h y).mpr (by simp)) (by simp)
  | x :: xs, [], _, _, h => absurd ((h x).mp (by simp)) (by simp)
  | x :: xs, y :: ys, hx, hy, h => by
    rw [List.pairwise_cons] at hx hy
    have e : x = y := by
      rcases List.mem_cons.mp ((h x).mp (by simp)) with e | e
      · exact e
      · rcases List.mem_cons.mp ((h y).mpr (by simp)) with e2 | e2
        · exact e2.symm
        · have a := hy.1 x e; have b := hx.1 y e2; omega
    subst e
    congr 1
    refine rise_same hx.2 hy.2 fun k => ⟨fun hk => ?_, fun hk => ?_⟩
    · rcases List.mem_cons.mp ((h k).mp (by simp [hk])) with e | e
      · have := hx.1 k hk; omega
      · exact e
    · rcases List.mem_cons.mp ((h k).mpr (by simp [hk])) with e | e
      · have := hy.1 k hk; omega
      · exact e
end
end SK
namespace SK
open PySem PySem.Spec PyProof.Rows L2
end SK
namespace SK
open PySem PySem.Spec PyProof.Rows L2
section
variable {K : PySem.W.Frag} {F B0 H B : Hp} {T : List O} {Γ : En} {post : O → En → Prop}
/-- sorted(d) of a dict of ours -/
theorem oa_sortI {β : Type} {f : β → D} {l : IM β} (hl : l.length ≤ 100000) (h : post (.ol (((srt (l.map (·.1))).map D.int).map O.d)) Γ) : OpA K F B0 (rSortG K) [.dic (imK f l)] T Γ post := oa_sortD imK_keys (by simpa using hl) h
end
def gLst (K : PySem.W.Frag) (n : Nat) (t : TGs) : TG := fun v σ H Q => ∃ a xs, v = .ref a ∧ SqL K H a xs ∧ xs.length = n ∧ t xs σ H Q
section
variable {K : PySem.W.Frag} {F B0 H B : Hp} {τ : List V} {T : List O} {σ : L2.St} {Γ : En} {S : Ad} {o : O} {a : Addr} {i : Nat} {posts1 : En → Prop}
def GoGsO (K : PySem.W.Frag) (F B0 : Hp) (g : TGs) (os : List O) (T : List O) (Γ : En) (post : En → Prop) : Prop := ∀ (τ : List V) (σ : L2.St) (H : Hp) (vs : List V) (Q : L2.St → Hp → Prop), Ho K F B0 (vs ++ τ) (os ++ T) σ Γ H → vs.length = os.length →
  (∀ σ' Γ' H', post Γ' → Ho K F B0 τ T σ' Γ' H' → Q σ' H') → g vs σ H Q
/-- a list's parts, each by itself -/
theorem HW.spill {os : List O} {v : V} (h : HW K F B0 (v :: τ) (.ol os :: T) σ Γ H B S) : ∃ a vs S', v = .ref a ∧ H a = some (.lst vs) ∧ vs.length = os.length ∧ HW K F B0 (vs ++ τ) (os ++ T) σ Γ H B S' := by
  obtain ⟨S1, S2, c1, c2, c3, ro, w2⟩ := h.pop
  cases ro with
  | @ol _ S3 a vs _ ha hs hn hc rs =>
  have hl : vs.length = os.length := by have := RS.len rs; simpa using this
  refine ⟨a, vs, fun b => S3 b ∨ S2 b, rfl, hc, hl, w2.fr, w2.pu, w2.b0, fun b z => z.elim (fun z => h.ow b (c1 b (hs b z))) (fun z => h.ow b (c2 b z)), w2.nw, ?_, by simp [w2.lt, hl]⟩
  rw [List.map_append, List.map_append, List.append_assoc, List.append_assoc]
  exact RS.join w2.rs (fun b z => c3 b (hs b z)) rs
theorem gog_lunO {g : TGs} {n : Nat} (h : ∃ os, o = .ol os ∧ os.length = n ∧ GoGsO K F B0 g os T Γ posts1) : GoG K F B0 (gLst K n g) o T Γ posts1 := fun τ σ H v Q ⟨B, S, w⟩ k => by
  obtain ⟨os, rfl, hn, h⟩ := h
  obtain ⟨a, vs, S', rfl, hc, hl, w2⟩ := w.spill
  exact ⟨a, vs, rfl, SqL.of hc, by rw [hl, hn], h τ σ H vs Q ⟨_, _, w2⟩ hl k⟩
theorem gogso_nil (h : posts1 Γ) : GoGsO K F B0 gNil [] T Γ posts1 := fun τ σ H vs Q w hl k => by
  obtain rfl : vs = [] := List.length_eq_zero_iff.mp hl
  exact ⟨rfl, k σ Γ H h w⟩
theorem gogso_name {os : List O} {g : TGs} (hi : i < Γ.length) (h : GoGsO K F B0 g os T (Γ.set i (some o)) posts1) : GoGsO K F B0 (gCons (gName i) g) (o :: os) T Γ posts1 := fun τ σ H vs Q ⟨B, S, w⟩ hl k => by
  match vs, hl with
  | v :: vs, hl =>
    obtain ⟨S', w2⟩ := w.put hi
    exact ⟨v, vs, rfl, h τ _ H vs Q ⟨_, _, w2⟩ (by simpa using hl) k⟩
end
end SK
namespace SK
open PySem PySem.Spec PyProof.Rows L2
section
variable {K : PySem.W.Frag} {F B0 H B : Hp} {τ : List V} {T : List O} {σ : L2.St} {Γ : En} {S : Ad} {o : O} {i : Nat} {post : O → En → Prop} {td ty te : TE}
/-- d.get(k) -/
theorem go_dget1 (h : Go K F B0 td T Γ fun o Γ1 => ∃ kvs, o.fz = .dic kvs ∧ Go K F B0 ty (.d (.dic kvs) :: T) Γ1 fun ok Γ2 => ∃ k, ok = .d (kD k) ∧ post (.d ((dval kvs k).getD .non)) Γ2) :
    Go K F B0 (tDGet1 td ty) T Γ post := fun τ σ H Q hw kk =>
  h τ σ H _ hw fun v1 o1 Γ1 H1 ⟨kvs, e1, h1⟩ ⟨_, _, w1⟩ => by
    obtain ⟨B2, S2, w1, _⟩ := w1.fz
    rw [e1] at w1
    obtain ⟨r1, _⟩ := w1.popd
    cases r1 with | @dic a ws _ hd _ rk =>
    refine ⟨a, rfl, .inl ⟨ws, w1.pu.rd hd⟩, h1 _ σ H1 _ ⟨_, _, w1⟩ fun v2 o2 Γ2 H2 ⟨k, e2, h2⟩ ⟨_, _, w2⟩ => ?_⟩
    subst e2
    obtain ⟨r2, _, _, w4⟩ := w2.popd
    obtain ⟨r1, _, _, w5⟩ := w4.popd
    have ek := r2.kV
    subst ek
    cases r1 with | @dic _ ws2 _ hd2 _ rk2 =>
    refine ⟨valV ws2 k, .inl ⟨ws2, k, w5.pu.rd hd2, rfl, rfl⟩, ?_⟩
    rcases rk2.val (k := k) with ⟨u, z, q1, q2, r⟩ | ⟨q1, q2⟩
    · rw [q1]; rw [q2] at h2; exact kk _ _ _ _ h2 ⟨_, _, w5.pushd r⟩
    · rw [q1]; rw [q2] at h2; exact kk _ _ _ _ h2 ⟨_, _, w5.pushd .non⟩
end
end SK
namespace SK
open PySem PySem.Spec PyProof.Rows L2
/-- __init__ of two fields -/
def spX2 (K : PySem.W.Frag) (C : Addr) (f1 f2 : Str) : Sp := fun vs H Q _ => ∃ a y1 y2, vs = [.ref a, y1, y2] ∧ H a = some (exo a C none) ∧
  ∀ dx H', H dx = none → dx ≠ a → H' a = some (exo a C (some dx)) → H' dx = some (exd dx [(f2, y2), (f1, y1)]) → (∀ b, b ≠ a → b ≠ dx → H' b = H b) → Q .non H'
def tRaiseF (W : WX) (C : Addr) (sp : Sp) (ta : TA) : TS := fun _ σ H => tMkO C sp [] ta σ H fun cls d H' => W cls d σ H'
section
variable {K : PySem.W.Frag} {F B0 H B H' : Hp} {τ : List V} {T : List O} {σ : L2.St} {Γ : En} {S : Ad} {Dd : EG} {ta : TA} {te : TE} {post : O → En → Prop}
theorem HW.grow (w : HW K F B0 τ T σ Γ H B S) (e : Ex H H') : HW K F B0 τ T σ Γ H' B S :=
  ⟨w.fr.trans e, w.pu.trans e, w.b0, fun a z => ⟨(w.ow a z).1, (w.ow a z).2.1, fun q => (w.ow a z).2.2 (e.back q)⟩, w.nw, w.rs.tr (.refl B) (fun _ z => z) fun a u _ q => e a u q, w.lt⟩
/-- raise C(x1, x2) -/
theorem gos_raiseF {W : WX} {XX : Addr → Option (List (Str × D)) → En → Prop} {C : Addr} {f1 f2 : Str} (wx : ∀ Cc fs d σ Γ H, XX Cc fs Γ → HoX K F B0 σ Γ H d fs → W (.ref Cc) d σ H)
    (h : GoA K F B0 ta T Γ fun xs Γ1 => ∃ x1 x2, xs = [x1, x2] ∧ XX C (some [(f2, x2), (f1, x1)]) Γ1) : GoS K F B0 (tRaiseF W C (spX2 K C f1 f2) ta) T Γ Dd := fun τ σ H De hw s =>
  h τ σ H _ hw fun vs xs Γ1 H1 ⟨x1, x2, exs, hX⟩ ⟨B1, S1, w1⟩ hl => by
    subst exs
    obtain ⟨rl, S2, w⟩ := w1.args hl
    obtain ⟨v1, v2, rfl, r1, r2⟩ := rl.two
    refine ⟨Nat.le_of_ble_eq_true rfl, fun a ha => ⟨a, v1, v2, rfl, upd_same, fun dx H' hd ne e1 e2 e3 => ⟨rfl, dx, _, e1, e2, ?_, ?_⟩⟩⟩
    · rw [upd_ne ne] at hd; exact hd
    · rw [upd_ne ne] at hd
      have eH : upd (del H' a) dx (.xd [(f2, v2), (f1, v1)]) = upd H1 dx (.xd [(f2, v2), (f1, v1)]) := by
        funext b
        by_cases q1 : b = dx
        · subst q1; rw [upd_same, upd_same]
        · rw [upd_ne q1, upd_ne q1]
          by_cases q2 : b = a
          · subst q2; rw [del_same, ha]
          · rw [del_ne q2, e3 b q2 q1, upd_ne q2]
      rw [eH]
      exact wx C _ (some dx) σ Γ1 _ hX ⟨B1, _, (w.grow (Ex.new hd)).bareB, _, upd_same, .cons r2 (.cons r1 .nil)⟩
end
end SK
namespace SK
open PySem PySem.Spec PyProof.Rows L2
end SK
namespace SK
open PySem PySem.Spec PyProof.Rows L2
def tDUpd (td te : TE) : TE := fun σ H Q => td σ H fun x H1 => ∃ a, x = .ref a ∧ IsD H1 a ∧ te σ H1 fun y H2 => ∃ b kvs more, H2 a = some (.dK kvs) ∧ y = .ref b ∧ a ≠ b ∧ Rd H2 b (.dK more) ∧ kvs.length + more.length ≤ 100000 ∧ Q .non (upd H2 a (.dK (mergeK kvs more)))
section
variable {X : Cx} {pins : List (Addr × Obj)} {σ : L2.St} {H : Hp} {s : Shared} {a b : Addr} {kvs more : List (Key × V)} {A : Around} {E : Value → Shared → Prop}
theorem d_upd {Q : Value → Shared → Prop} (I : Inv X pins σ H s) (ea : H a = some (.dK kvs)) (eb : Rd H b (.dK more)) (ne : a ≠ b) (hl : kvs.length + more.length ≤ 100000) (h : ∀ s', Inv X pins σ (upd H a (.dK (mergeK kvs more))) s' → Q .none s') :
    wpAny (model X.prog X.w) A (call (.builtin "dict.update") [.ref a, .ref b]) Q E s := by
  obtain ⟨z, hd, vs, rel, dd⟩ := dk_of I.hok ea
  obtain ⟨z2, hd2, ws, rel2, dd2⟩ := dk_rd I.hok eb
  have hz : (mergeK kvs more).length ≤ sizeLine := by have := length_mergeK more kvs; rw [sizeLine_eq]; omega
  refine call_meetsIn PySem.F.slot_dict_update dd.typeIs PySem.F.entry_dict_update (PySem.F.args_dict_update_2 _ _) (meets_dict_update (mixKind X.prog X.w) a b ne hd2) ⟨vs, ws, dd, dd2, (by rw [← rel.length, ← rel2.length, sizeLine_eq]; omega), fun h' q1 q2 hs => h _ ?_⟩
  have he : ∃ q, h'.get? a = some q := let ⟨q, _, _, hq, _⟩ := q1; ⟨q, hq⟩
  exact d_write I (by rw [ea]; exact True.intro) hs he (dk_new hz hd (KV.merge rel2 rel) q1)
end
theorem pe_dupd {X : Cx} {o e : Expr} {td te : TE} {apos cpos : Pos} (ho : PE X o td) (he : PE X e te) (m : M1 X o "update" apos e cpos) : PE X (.Call (.Attribute o "update" apos) [e] [] cpos) (tDUpd td te) := by
  refine ⟨fun pins s σ H Q I h => ?_⟩
  refine wpAny_Call_method m.base m.few m.line PySem.F.plainAttrs_dict PySem.F.slot_dict_update PySem.F.type_dict_update (thn (ho.run pins s σ H _ I h) fun u s1 ⟨x, H1, I1, rx, a, ex, d, q1⟩ => ?_)
  subst ex; obtain rfl : u = Value.ref a := rx
  obtain ⟨t1, t2, _⟩ := isD_at I1 d
  refine ⟨t1, t2, ?_⟩
  rw [m.trees]; refine Calls.callWith_builtin rfl (Calls.evalArgs_plain (Calls.spliced_cons (thn (he.run pins s1 σ H1 _ I1 q1) fun iv s2 ⟨y, H2, I2, ry, b, kvs, more, ea, ey, ne, eb, hl, q2⟩ => Calls.spliced_nil ?_)))
  subst ey; obtain rfl : iv = Value.ref b := ry
  exact d_upd I2 ea eb ne hl fun s3 I3 => ⟨.non, _, I3, rfl, q2⟩
section
variable {K : PySem.W.Frag} {F B0 H B : Hp} {τ : List V} {T : List O} {σ : L2.St} {Γ : En} {S : Ad} {i : Nat} {te : TE} {Dd : EG}
theorem RS.merge : ∀ {us : List (Key × V)} {more : List (Key × D)} {ws : List (Key × V)} {kvs : List (Key × O)}, RK K B us more → (kvs.map (·.1)).Nodup → ws.map (·.1) = kvs.map (·.1) → RS K B H S (ws.map fun p => some p.2) (kvs.map fun p => some p.2) →
    ((more.foldl (fun acc p => SK.dput acc p.1 (O.d p.2)) kvs).map (·.1)).Nodup ∧ (mergeK ws us).map (·.1) = (more.foldl (fun acc p => SK.dput acc p.1 (O.d p.2)) kvs).map (·.1) ∧ RS K B H S ((mergeK ws us).map fun p => some p.2) ((more.foldl (fun acc p => SK.dput acc p.1 (O.d p.2)) kvs).map fun p => some p.2)
  | [], _, ws, kvs, .nil, nd, e, rs => ⟨nd, e, rs⟩
  | (k, u) :: us, _, ws, kvs, .cons (x := x) (xs := xs) r t, nd, e, rs => by
    have r1 := RS.dput (k := k) (So := fun _ => False) (RO.d r : RO K B H (fun _ => False) u (.d x)) nd e rs (fun _ _ z => z)
    have r2 : RS K B H S ((SK.dput ws k u).map fun p => some p.2) ((SK.dput kvs k (O.d x)).map fun p => some p.2) := r1.tr (.refl B) (fun _ z => z.elim id False.elim) fun _ _ _ e => e
    have q := RS.merge t (SK.dput_nodup (k := k) (v := O.d x) nd) (SK.dput_keys (k := k) (v := u) (x := O.d x) e) r2
    rw [List.foldl_cons]
    have em : mergeK ws ((k, u) :: us) = mergeK (SK.dput ws k u) us := by
      show List.foldl _ (putK ws k u) us = _
      rw [putK_dput]; rfl
    rw [em]
    exact q
theorem gos_dupd (h : Go K F B0 te T Γ fun o Γ1 => ∃ more kvs, o.fz = .dic more ∧ Γ1[i]? = some (some (.od kvs)) ∧ kvs.length + more.length ≤ 100000 ∧ Dd.nx (Γ1.set i (some (.od (more.foldl (fun acc p => SK.dput acc p.1 (O.d p.2)) kvs))))) (h0 : ∃ kvs, Γ[i]? = some (some (.od kvs))) :
    GoS K F B0 (tDrop (tDUpd (tVar i) te)) T Γ Dd := fun τ σ H De hw s => by
  obtain ⟨B, S, w⟩ := hw
  obtain ⟨kvs0, e0⟩ := h0
  obtain ⟨v, S1, a1, r1, _, _⟩ := w.mut1 e0
  cases r1 with
  | @od _ _ a vs _ _ _ _ hc _ _ _ =>
  refine ⟨.ref a, a1, a, rfl, .inl ⟨_, .inl hc⟩, h τ σ H _ ⟨B, S, w⟩ fun v2 o2 Γ2 H2 ⟨more, kvs, ez, e2, hz, h2⟩ ⟨B2, S2, w2⟩ => ?_⟩
  obtain ⟨B3, S3, w3, r3, _⟩ := w2.fzd
  rw [ez] at r3
  cases r3 with
  | @dic b us _ hb nd2 rk =>
  obtain ⟨v', S5, a2, r2, _, f⟩ := w3.mut1 e2
  rw [a1] at a2
  cases a2
  cases r2 with
  | @od _ S4 _ ws _ ha hs hn hc2 nd ek rs =>
  have ne : a ≠ b := fun e => by
    subst e
    obtain ⟨v0, T1, T2, b1, b2, b3, b4, b5, _⟩ := w3.slot e2
    rw [a1] at b1
    cases b1
    cases b5 with
    | @od _ _ _ _ _ ha5 _ _ _ _ _ _ =>
    have q := (w3.ow _ (b2 _ ha5)).2.1
    rcases hb with hb | ⟨_, hb⟩ <;> · rw [q] at hb; cases hb
  have hl1 : ws.length = kvs.length := by have := congrArg List.length ek; simpa using this
  have hl2 : us.length = more.length := rk.length
  refine ⟨b, ws, us, hc2, rfl, ne, w3.pu.rd hb, by omega, ?_⟩
  obtain ⟨q1, q2, q3⟩ := RS.merge rk nd ek rs
  obtain ⟨S6, w6⟩ := f a (.dK (mergeK ws us)) (.od (more.foldl (fun acc p => SK.dput acc p.1 (O.d p.2)) kvs)) ha (.od (S' := S4) ha hs hn upd_same q1 q2 (q3.tr (.refl _) (fun _ z => z) fun c u hcc e => by rw [upd_ne (fun z : c = a => hn (z ▸ hcc))]; exact e))
  exact s.nx _ _ _ h2 ⟨_, _, w6⟩
end
end SK
namespace SK
open PySem PySem.Spec PyProof.Rows L2
def tIxO (K : PySem.W.Frag) (i : Nat) (ti : TE) : TE := tOp (rIxG K) (tVar i) ti
section
variable {K : PySem.W.Frag} {F B0 H B : Hp} {τ : List V} {T : List O} {σ : L2.St} {Γ : En} {S : Ad} {i : Nat} {ti : TE} {post : O → En → Prop}
theorem RS.getAt {n : Nat} {y : D} : ∀ {vs : List V} {xs : List O} {S : Ad}, RS K B H S (vs.map some) (xs.map some) → xs[n]? = some (.d y) → ∃ u, vs[n]? = some u ∧ R K B u y := fun {vs xs S} r h => by
  have h2 : (xs.map some)[n]? = some (some (O.d y)) := by rw [List.getElem?_map, h]; rfl
  obtain ⟨v, S1, S2, a, _, _, _, ro, _⟩ := r.focus h2
  rw [List.getElem?_map] at a
  cases e : vs[n]? with
  | none => rw [e] at a; cases a
  | some u => rw [e] at a; cases a; cases ro with | d r => exact ⟨_, rfl, r⟩
theorem go_ixO (e0 : ∃ xs, Γ[i]? = some (some (.ol xs))) (h : Go K F B0 ti T Γ fun o Γ1 => ∃ (n : Int) (xs : List O) (y : D), o = .d (.int n) ∧ Γ1[i]? = some (some (.ol xs)) ∧ atI xs n = some (.d y) ∧ post (.d y) Γ1) : Go K F B0 (tIxO K i ti) T Γ post := fun τ σ H Q ⟨B, S, w⟩ k => by
  obtain ⟨xs0, e0⟩ := e0
  obtain ⟨v, S1, a1, r1, _, _⟩ := w.mut1 e0
  cases r1 with
  | @ol _ _ a vs _ _ _ _ hc _ =>
  refine ⟨.ref a, a1, h τ σ H _ ⟨B, S, w⟩ fun v2 o2 Γ2 H2 ⟨n, xs, y, eo, e2, ex, hp⟩ ⟨B2, S2, w2⟩ => ?_⟩
  subst eo
  obtain ⟨r2, S3, _, w3⟩ := w2.popd
  cases r2
  obtain ⟨v', S5, a2, r3, _, f⟩ := w3.mut1 e2
  rw [a1] at a2
  cases a2
  cases r3 with
  | @ol _ S4 _ us _ ha hs hn hc2 rs =>
  have len : us.length = xs.length := by have := RS.len rs; simpa using this
  unfold atI at ex
  cases q : ixN xs.length n with
  | none => rw [q] at ex; cases ex
  | some j =>
    rw [q] at ex
    obtain ⟨u, hu, ru⟩ := RS.getAt rs ex
    have hu2 : atI us n = some u := by unfold atI; rw [len, q]; exact hu
    exact .inl (.inl ⟨a, us, n, u, rfl, rfl, SqL.of hc2, hu2, k _ _ _ _ hp ⟨_, _, w3.pushd ru⟩⟩)
end
end SK
namespace SK
open PySem PySem.Spec PyProof.Rows L2
def rEqN (K : PySem.W.Frag) : R2 := fun x y H Q => ∃ a b xs, x = .ref a ∧ y = .ref b ∧ SqL K H a xs ∧ SqL K H b [] ∧ Q (.bl xs.isEmpty) H
def rNeN (K : PySem.W.Frag) : R2 := fun x y H Q => ∃ a b xs, x = .ref a ∧ y = .ref b ∧ SqL K H a xs ∧ SqL K H b [] ∧ Q (.bl (!xs.isEmpty)) H
section
variable {X : Cx} {K : PySem.W.Frag}
theorem k_neN (h : X.K = K) (hu : X.A.units + 64 < cLine) : OpR X (compareOp .NotEq) (rNeN K) := by
  subst h
  intro pins s σ H x y v u Q I rx ry hq
  obtain ⟨a, b, xs, rfl, rfl, ha, hb, q⟩ := hq
  cases rx; cases ry
  obtain ⟨its, rv, pl, _⟩ := I.list ha
  obtain ⟨it2, rv2, pl2, _⟩ := I.list hb
  cases rv2
  have hu' : X.A.units < cLine := by omega
  cases rv with
  | nil => exact PySem.SeqAt.RcNeAt.lists (e := fun _ => true) pl.isList pl2.isList rfl hu' (fun j h1 _ => absurd h1 (by simp)) X.prog X.w _ _ ⟨.bl false, H, I, rfl, q⟩
  | cons r t => exact PySem.SeqAt.RcNeAt.lists_lengths pl.isList pl2.isList (by simp) hu' X.prog X.w _ _ ⟨.bl true, H, I, rfl, q⟩
end
section
variable {K : PySem.W.Frag} {F B0 : Hp} {T : List O} {Γ : En} {post : O → En → Prop} {x : D} {xs : List D}
theorem RL.emp {B : Hp} {vs : List V} {xs : List D} (r : RL K B vs xs) : vs.isEmpty = xs.isEmpty := by cases r <;> rfl
theorem o2_eqN (q : x.seq? = some xs) (h : post (.d (.bl xs.isEmpty)) Γ) : Op2 K F B0 (rEqN K) x (.lst []) T Γ post := fun τ σ H B S v1 v2 Q w r1 r2 k => by
  obtain ⟨a, us, rfl, sq, rl⟩ := r1.seqL q
  obtain ⟨b, ws, rfl, sq2, rl2⟩ := r2.seqL rfl
  cases rl2
  exact ⟨a, b, us, rfl, rfl, w.pu.sqL sq, w.pu.sqL sq2, k _ _ _ _ h ⟨_, _, w.pushd (by rw [rl.emp]; exact .bl)⟩⟩
theorem o2_neN (q : x.seq? = some xs) (h : post (.d (.bl (!xs.isEmpty))) Γ) : Op2 K F B0 (rNeN K) x (.lst []) T Γ post := fun τ σ H B S v1 v2 Q w r1 r2 k => by
  obtain ⟨a, us, rfl, sq, rl⟩ := r1.seqL q
  obtain ⟨b, ws, rfl, sq2, rl2⟩ := r2.seqL rfl
  cases rl2
  exact ⟨a, b, us, rfl, rfl, w.pu.sqL sq, w.pu.sqL sq2, k _ _ _ _ h ⟨_, _, w.pushd (by rw [rl.emp]; exact .bl)⟩⟩
end
theorem emp_map {α β : Type} {f : α → β} {xs : List α} : (xs.map f).isEmpty = xs.isEmpty := by cases xs <;> rfl
end SK
namespace SK
open PySem PySem.Spec PyProof.Rows L2
theorem gos_sIF {K : PySem.W.Frag} {F B0 : Hp} {T : List O} {Γ : En} {Dd : EG} {tt : TT} {u t2 : TS} {W : WX} {C : Addr} {sp : Sp} {ta : TA} (h : GoS K F B0 (tIfS tt (tRaiseF W C sp ta) u) T Γ { Dd with nx := fun Γ1 => GoS K F B0 t2 T Γ1 Dd }) : GoS K F B0 (tSeq (tIfS tt (tRaiseF W C sp ta) u) t2) T Γ Dd := gos_seq h
end SK
namespace SK
open PySem PySem.Spec PyProof.Rows L2
def tTryAsE (K : PySem.W.Frag) (c : Value) (i : Nat) (ts : Addr → Value → Option Addr → TS) (Wout : WX) (tb : WX → TS) (u : TS) : TS := fun De σ H => tb (wAs K c i ts Wout De) { De with nx := u De } σ H
section
variable {K : PySem.W.Frag} {F B0 : Hp} {T : List O} {Γ : En} {Dd : EG} {c : Value} {ts : Addr → Value → Option Addr → TS} {Wout : WX} {tw : WX → TS} {u t2 : TS} {i : Nat}
theorem gos_sTAE (h : GoS K F B0 (tTryAsE K c i ts Wout tw u) T Γ { Dd with nx := fun Γ1 => GoS K F B0 t2 T Γ1 Dd }) : GoS K F B0 (tSeq (tTryAsE K c i ts Wout tw u) t2) T Γ Dd := gos_seq h
end
end SK
namespace SK
open PySem PySem.Spec PyProof.Rows L2
end SK
namespace SK
open PySem PySem.Spec PyProof.Rows L2
def tMake0 (C : Addr) : TE := fun σ H Q => ∀ x dx, H x = none → H dx = none → dx ≠ x → Q (.ref x) (upd (upd H dx (.own x)) x (.ins C dx []))
section
variable {K : PySem.W.Frag} {F B0 H H' B B' : Hp} {τ : List V} {T : List O} {σ : L2.St} {Γ : En} {post : O → En → Prop} {te tv : TE} {Ci Di : Addr} {S : Ad} {v : V} {x : D} {fs : List (Str × D)}
theorem go_make00 (h : post (.d (.ins Ci [])) Γ) : Go K F B0 (tMake0 Ci) T Γ post := fun τ σ H Q ⟨B, S, w⟩ k => by
  intro a dx ha hdx ne
  have ex : Ex H (upd (upd H dx (.own a)) a (.ins Ci dx [])) := fun b u e => by
    have n1 : b ≠ a := fun q => by rw [q, ha] at e; cases e
    have n2 : b ≠ dx := fun q => by rw [q, hdx] at e; cases e
    rw [upd_ne n1, upd_ne n2]; exact e
  refine k _ _ Γ _ h ⟨upd B a (.ins Ci dx []), _, w.push (S' := fun _ => False) ex (.of_ex (.new (w.pu.back ha))) (fun b u e => ?_) (fun b z => ?_) (fun _ z => z.elim) (.d (.ins upd_same .nil))⟩
  · by_cases q : b = a
    · subst q; rw [upd_same] at e ⊢; exact e
    · rw [upd_ne q] at e; exact ex b u (w.pu b u e)
  · by_cases q : b = a
    · subst q; exact .inr ha
    · rw [upd_ne q] at z; exact .inl z
structure InsX (K : PySem.W.Frag) (C : Addr) : Prop where
  cl : Cls K C
  ha : PySem.W.findIn K (.ref C) "__class__" = some (some (.builtin "object.__class__"))
  hn : PySem.W.specialIn K (.builtin "object.__class__") "__get__" = some (some (.builtin "getset_descriptor.__get__"))
  htk : PySem.W.takesIn K (.builtin "object.__class__") = some true
  hm : PySem.W.mroIn K C (.type "object") = some true
theorem oa_isiO {b : Bool} (c : InsX K Ci) (q : PySem.W.kitOne K (.ref Ci) (.ref Di) = some b) (h : post (.d (.bl b)) Γ) : OpA K F B0 (rIsiG K) [.ins Ci fs, .ref Di] T Γ post := fun τ σ H B S vs Q w rl k => by
  refine .inl ?_
  obtain ⟨v1, v2, rfl, r, r2⟩ := rl.two
  cases r2
  cases r with
  | ins hb rf => exact ⟨_, _, .ref Ci, .ref Di, b, rfl, .own Di, .base (.ins (w.pu _ _ hb) c.cl c.ha c.hn c.htk c.hm), q, k _ _ Γ H h ⟨_, _, w.pushd .bl⟩⟩
end
end SK
namespace SK
open PySem PySem.Spec PyProof.Rows L2
end SK
namespace SK
open PySem PySem.Spec PyProof.Rows L2
end SK
namespace SK
open PySem PySem.Spec PyProof.Rows L2
def tFrz (i : Nat) (s : TS) : TS := s
theorem gos_frzA {K : PySem.W.Frag} {F B0 : Hp} {T : List O} {Γ : En} {i : Nat} {s : TS} {o : O} {Dd : EG} (e : Γ[i]? = some (some o)) (h : GoS K F B0 s T (Γ.set i (some (.d o.fz))) Dd) : GoS K F B0 (tFrz i s) T Γ Dd := gos_frz i e h
end SK
namespace SK
open PySem PySem.Spec PyProof.Rows L2
section
variable {K : PySem.W.Frag} {F B0 H H' B B' : Hp} {τ : List V} {T : List O} {σ : L2.St} {Γ Γv : En} {S S1 : Ad} {v w : V} {o o' o1 u : O} {i j : Nat} {a : Addr} {p : List Sel}
/-- whatever tells o tells o' -/
def Wkn (o o' : O) : Prop := ∀ (K : PySem.W.Frag) (B H : Hp) (S : Ad) (v : V), RO K B H S v o → RO K B H S v o'
theorem Wkn.refl (o : O) : Wkn o o := fun _ _ _ _ _ r => r
theorem Wkn.trans {o1 o2 o3 : O} (a : Wkn o1 o2) (b : Wkn o2 o3) : Wkn o1 o3 := fun K B H S v r => b K B H S v (a K B H S v r)
/-- a slot told weaker -/
theorem RS.wk1 (h : Wkn o o') : ∀ {σ : List (Option V)} {Γ : List (Option O)} {S : Ad} {i : Nat}, RS K B H S σ Γ → Γ[i]? = some (some o) → RS K B H S σ (Γ.set i (some o'))
  | _, some g :: Γ, _, 0, .cons s1 s2 d r t, e => by
    cases e
    exact .cons s1 s2 d (h _ _ _ _ _ r) t
  | _, some _ :: Γ, _, i + 1, .cons s1 s2 d r t, e => .cons s1 s2 d r (t.wk1 h (by simpa using e))
  | _, none :: Γ, _, i + 1, .un r, e => .un (r.wk1 h (by simpa using e))
  | _, none :: _, _, 0, .un _, e => by cases e
theorem RS.items {xs : List O} (h : xs[i]? = some o) (w : Wkn o o') {σ : List (Option V)} (r : RS K B H S σ (xs.map some)) : RS K B H S σ ((xs.set i o').map some) := by
  rw [List.map_set]
  exact r.wk1 w (by rw [List.getElem?_map, h]; rfl)
/-- data that the slots may be taken for while all owned things are read alone -/
def Views (Γ Γv : En) : Prop := ∀ (K : PySem.W.Frag) (B H Bf : Hp) (S : Ad) (σ : List (Option V)), RS K B H S σ Γ → BLe B Bf → (∀ a u, S a → H a = some u → Bf a = some u) → RS K Bf H (fun _ => False) σ Γv
end
end SK
namespace SK
open PySem PySem.Spec PyProof.Rows L2
section
variable {K : PySem.W.Frag} {F B0 H B H' B' : Hp} {τ : List V} {T : List O} {σ : L2.St} {Γ Γv Γw : En} {S S1 : Ad} {v w : V} {o oe o1 o' u : O} {i j : Nat} {a : Addr} {p : List Sel} {te tv ti : TE} {tt : TT} {post : O → En → Prop} {postt : Bool → En → Prop} {posts1 : En → Prop} {Dd : EG} {P : O → Prop}
theorem HW.lendV (hv : Views Γ Γv) (w : HW K F B0 τ T σ Γ H B S) : ∃ Bf, Ho K H Bf [] [] σ Γv H ∧
    (∀ Γ1 H1, Ho K H Bf [] [] σ Γ1 H1 → Ho K F B0 τ T σ Γ H1) ∧
    ∀ v' o' Γ1 H1, Ho K H Bf [v'] [o'] σ Γ1 H1 → o'.lf = true → Ho K F B0 (v' :: τ) (o' :: T) σ Γ H1 := by
  obtain ⟨Sp, Ss, p1, p2, p3, rp, rsl⟩ := RS.split (σ0 := τ.map some) (Γ0 := T.map some) (by simp [w.lt]) w.rs
  obtain ⟨L, l1, r2, l3⟩ := rsl.tight
  have bn : ∀ a, L a → B a = none ∧ H a ≠ none := fun a z => (w.ow a (p2 a (l1 a z))).2
  have ex : Ex B (SK.frz B H L) := frz_ex fun a z => (bn a z).1
  have le0 : BLe B (SK.frz B H L) := .of_ex ex
  have main : ∀ v' o' Γ1 H1, Ho K H (SK.frz B H L) [v'] [o'] σ Γ1 H1 → o'.lf = true → Ho K F B0 (v' :: τ) (o' :: T) σ Γ H1 := by
    intro v' o' Γ1 H1 ⟨B1, Sr, w1⟩ lf
    obtain ⟨T1, T2, t1, t2, dj, ro, _⟩ := w1.pop
    have hB : ∀ a u, B a = some u → ¬ L a := fun a u q z => by rw [(bn a z).1] at q; cases q
    have off : ∀ a u, ¬ L a → B1 a = some u → offH B1 L a = some u := fun a u z q => by rw [offH_no z]; exact q
    have offR : ∀ a u, ¬ L a → Rd B1 a u → Rd (offH B1 L) a u := fun a u z q => q.elim (fun q => .inl (off a _ z q)) fun ⟨o, q⟩ => .inr ⟨o, off a _ z q⟩
    have nL : ∀ a u, Rd B a u → ¬ L a := fun a u q => q.elim (hB a _) fun ⟨o, q⟩ => hB a _ q
    have le : BLe B (offH B1 L) := by
      have l := le0.trans w1.b0
      exact ⟨fun a xs q => offR a _ (nL a _ q) (l.tup a xs q), fun a xs q => offR a _ (nL a _ q) (l.lst a xs q), fun a xs q => off a _ (hB a _ q) (l.ls a xs q), fun a xs q => offR a _ (nL a _ q) (l.dK a xs q), fun a xs q => offR a _ (nL a _ q) (l.dT a xs q), fun a C dx fs q => off a _ (hB a _ q) (l.ins a C dx fs q)⟩
    have pu : Ex (offH B1 L) H1 := fun a u q => by
      by_cases z : L a
      · rw [offH_at z] at q; cases q
      · rw [offH_no z] at q; exact w1.pu a u q
    have sq : ∀ a xs, SqT K B1 a xs → SqT K (offH B1 L) a xs := fun a xs q => q.imp (fun q => by
      refine offR a _ (fun z => ?_) q
      have q2 : ∃ u, B1 a = some u ∧ (u = .tup xs ∨ ∃ o, u = .frz o (.tup xs)) := q.elim (fun q => ⟨_, q, .inl rfl⟩) fun ⟨o, q⟩ => ⟨_, q, .inr ⟨o, rfl⟩⟩
      obtain ⟨u, q3, q4⟩ := q2
      have q5 := w1.pu a u q3
      rcases l3 a z with ⟨_, y⟩ | ⟨_, y⟩ | ⟨_, y⟩ | ⟨_, _, _, y⟩ | ⟨_, y⟩ <;>
        (rw [w1.fr a _ y] at q5
         cases q5
         rcases q4 with q4 | ⟨_, q4⟩ <;> cases q4)) id
    refine ⟨offH B1 L, fun a => T1 a ∨ S a, w.fr.trans w1.fr, pu, w.b0.trans le, fun a z => ?_, fun a z => ?_, .cons (S1 := T1) (S2 := S) (fun _ z => .inl z) (fun _ z => .inr z) (fun a z y => ?_) (ro.lf sq lf) (w.rs.tr le (fun _ z => z) fun a u _ q => w1.fr a u q), by simp [w.lt]⟩
    · rcases z with z | z
      · obtain ⟨q1, q2, q3⟩ := w1.ow a (t1 a z)
        refine ⟨w.fr.back q1, ?_, q3⟩
        by_cases y : L a
        · exact offH_at y
        · rw [offH_no y]; exact q2
      · obtain ⟨q1, q2, q3⟩ := w.ow a z
        refine ⟨q1, ?_, fun q => q3 (w1.fr.back q)⟩
        by_cases y : L a
        · exact offH_at y
        · rw [offH_no y]
          cases q : B1 a with
          | none => rfl
          | some u =>
            rcases w1.nw a (by rw [q]; simp) with x | x
            · rw [frz_no y] at x; exact absurd q2 x
            · exact absurd x q3
    · by_cases y : L a
      · exact absurd (offH_at y) z
      · rw [offH_no y] at z
        rcases w1.nw a z with x | x
        · rw [frz_no y] at x; exact w.nw a x
        · exact .inr (w.fr.back x)
    · exact (w.ow a y).2.2 (w1.ow a (t1 a z)).1
  refine ⟨SK.frz B H L, ⟨SK.frz B H L, fun _ => False, .refl H, fun a u q => ?_, .refl _, fun _ z => z.elim, fun _ z => .inl z, ?_, rfl⟩, fun Γ1 H1 ⟨B1, S1, w1⟩ => ?_, main⟩
  · by_cases z : L a
    · rw [frz_at z] at q; exact q
    · rw [frz_no z] at q; exact w.pu a u q
  · exact hv K B H _ L σ r2 le0 (fun a u z q => by rw [frz_at z]; exact q)
  · obtain ⟨B2, S2, w2⟩ := main .non (.d .non) Γ1 H1 ⟨_, _, w1.pushd .non⟩ rfl
    obtain ⟨_, _, _, _, _, _, w3⟩ := w2.pop
    exact ⟨_, _, w3⟩
theorem go_lendV (hv : Views Γ Γv) (h : ∀ F' B', Go K F' B' te [] Γv fun o' _ => o'.lf = true ∧ post o' Γ) : Go K F B0 te T Γ post := fun τ σ H Q ⟨B, S, w⟩ k => by
  obtain ⟨Bf, w0, _, back⟩ := w.lendV hv
  exact h H Bf [] σ H _ w0 fun v o' Γ1 H1 ⟨lf, hp⟩ how => k v o' Γ H1 hp (back v o' Γ1 H1 how lf)
theorem got_lendV (hv : Views Γ Γv) (h : ∀ F' B', GoT K F' B' tt [] Γv fun b _ => postt b Γ) : GoT K F B0 tt T Γ postt := fun τ σ H Q ⟨B, S, w⟩ k => by
  obtain ⟨Bf, w0, back, _⟩ := w.lendV hv
  exact h H Bf [] σ H _ w0 fun b Γ1 H1 hp how => k b Γ H1 hp (back Γ1 H1 how)
end
end SK
namespace SK
open PySem PySem.Spec PyProof.Rows L2
end SK
namespace SK
open PySem PySem.Spec PyProof.Rows L2
section
variable {K : PySem.W.Frag} {F B0 H B H' B' : Hp} {τ : List V} {T : List O} {σ : L2.St} {Γ Γv Γh : En} {S S1 Si : Ad} {v w : V} {o oe o1 o' u : O} {i j : Nat} {a : Addr} {p : List Sel} {te tv ti : TE} {post : O → En → Prop} {vs : List V} {os os' : List O} {xs : List D}
/-- arguments: data as they are, an address for the thing itself -/
inductive SubO : List D → List O → List (Addr × O) → Prop
  | nil : SubO [] [] []
  | dat {x xs os us} : SubO xs os us → SubO (x :: xs) (.d x :: os) us
  | own {a u xs os us} : SubO xs os us → SubO (.ref a :: xs) (u :: os) ((a, u) :: us)
abbrev uV (us : List (Addr × O)) : List V := us.map fun q => .ref q.1
abbrev uO (us : List (Addr × O)) : List O := us.map (·.2)
theorem SubO.pack : ∀ {xs : List D} {os : List O} {us : List (Addr × O)} {vs : List V} {S : Ad}, SubO xs os us → RL K B vs xs → RS K B H S ((uV us).map some) ((uO us).map some) → RS K B H S (vs.map some) (os.map some)
  | _, _, _, _, _, .nil, .nil, r => r
  | _, _, _, _, S, .dat h, .cons r t, q => .cons (S1 := fun _ => False) (S2 := S) (fun _ z => z.elim) (fun _ z => z) (fun _ z => z.elim) (.d r) (h.pack t q)
  | _, _, _, _, _, .own h, .cons r t, .cons s1 s2 d ro q => by
    cases r
    exact .cons s1 s2 d ro (h.pack t q)
end
end SK
namespace SK
open PySem PySem.Spec PyProof.Rows L2
def rEqK : R2 := fun x y H Q => ∃ a b ks, x = .ref a ∧ y = .ref b ∧ Rd H a (.dK ks) ∧ Rd H b (.dK []) ∧ Q (.bl ks.isEmpty) H
def rNeK : R2 := fun x y H Q => ∃ a b ks, x = .ref a ∧ y = .ref b ∧ Rd H a (.dK ks) ∧ Rd H b (.dK []) ∧ Q (.bl (!ks.isEmpty)) H
section
variable {K : PySem.W.Frag} {F B0 H B : Hp} {τ : List V} {T : List O} {σ : L2.St} {Γ Γv : En} {S : Ad} {o o1 u : O} {i : Nat} {a : Addr} {p : List Sel} {te : TE} {post : O → En → Prop} {Dd : EG} {g : TG} {tb : TS} {kvs : List (Key × D)}
theorem RK.emp {ws : List (Key × V)} (r : RK K B ws kvs) : ws.isEmpty = kvs.isEmpty := by cases r <;> rfl
theorem o2_eqK (h : post (.d (.bl kvs.isEmpty)) Γ) : Op2 K F B0 rEqK (.dic kvs) (.dic []) T Γ post := fun τ σ H B S v1 v2 Q w r1 r2 k => by
  cases r1 with | @dic a ws _ hd nd rk =>
  cases r2 with | @dic b ws2 _ hd2 nd2 rk2 =>
  cases rk2
  exact ⟨a, b, ws, rfl, rfl, w.pu.rd hd, w.pu.rd hd2, k _ _ _ _ h ⟨_, _, w.pushd (by rw [rk.emp]; exact .bl)⟩⟩
theorem o2_neK (h : post (.d (.bl (!kvs.isEmpty))) Γ) : Op2 K F B0 rNeK (.dic kvs) (.dic []) T Γ post := fun τ σ H B S v1 v2 Q w r1 r2 k => by
  cases r1 with | @dic a ws _ hd nd rk =>
  cases r2 with | @dic b ws2 _ hd2 nd2 rk2 =>
  cases rk2
  exact ⟨a, b, ws, rfl, rfl, w.pu.rd hd, w.pu.rd hd2, k _ _ _ _ h ⟨_, _, w.pushd (by rw [rk.emp]; exact .bl)⟩⟩
end
end SK
namespace SK
open PySem PySem.Spec PyProof.Rows L2
section
variable {K : PySem.W.Frag} {F B0 H B : Hp} {τ : List V} {T : List O} {σ : L2.St} {Γ : En} {S : Ad} {post : O → En → Prop} {x : D}
def tI (ns : List Int) : D := .tup (ns.map D.int)
theorem TupI.inj {v : V} {ns ms : List Int} (pu : Ex B H) (r : R K B v (tI ns)) (h : TupI K H v ms) : True := trivial
end
def tLendVE (t : TE) : TE := t
def tLendVT (t : TT) : TT := t
section
variable {K : PySem.W.Frag} {F B0 : Hp} {T : List O} {Γ Γv : En} {te : TE} {tt : TT} {post : O → En → Prop} {postt : Bool → En → Prop}
theorem go_lendV' (hv : Views Γ Γv) (h : ∀ F' B', Go K F' B' te [] Γv fun o' _ => o'.lf = true ∧ post o' Γ) : Go K F B0 (tLendVE te) T Γ post := go_lendV hv h
theorem got_lendV' (hv : Views Γ Γv) (h : ∀ F' B', GoT K F' B' tt [] Γv fun b _ => postt b Γ) : GoT K F B0 (tLendVT tt) T Γ postt := got_lendV hv h
end
end SK
namespace SK
open PySem PySem.Spec PyProof.Rows L2
def rDClr : V → List V → Hp → VK → Prop := fun x vs H Q => ∃ (a : Addr) (kvs : List (Key × V)), x = .ref a ∧ vs = [] ∧ H a = some (.dK kvs) ∧ Q .non (upd H a (.dK []))
theorem mt_dclr {X : Cx} : MtR X "dict.clear" rDClr := by
  intro pins s σ H x vs v us Q I rx rv h
  obtain ⟨a, kvs, ex, ev, e, q⟩ := h
  subst ex
  subst ev
  obtain rfl : v = Value.ref a := rx
  have hus := rv.zero
  subst hus
  exact d_clear I e fun s' I' => ⟨.non, _, I', rfl, q⟩
def pickG {α : Type} (xs : List α) (lo hi st : Option Int) : List α := (sliceRange (sliceBounds lo hi st xs.length).1 (sliceBounds lo hi st xs.length).2.1 (sliceBounds lo hi st xs.length).2.2).filterMap (xs[·]?)
theorem pickG_map {α β : Type} (f : α → β) (xs : List α) (lo hi st : Option Int) : pickG (xs.map f) lo hi st = (pickG xs lo hi st).map f := by
  unfold pickG
  rw [List.length_map, List.map_filterMap]
  congr 1
  funext i
  rw [List.getElem?_map]
theorem slicePick_G (its : List Value) (lo hi st : Option Int) : slicePick its.toArray lo hi st = (pickG its lo hi st).toArray := by
  unfold slicePick pickG
  simp only [List.size_toArray, List.getElem?_toArray]
def rSl3 (K : PySem.W.Frag) : V → Option Int → Option Int → Option Int → Hp → VK → Prop := fun x lo hi st H Q => ∃ a xs, x = .ref a ∧ SqL K H a xs ∧ st ≠ some 0 ∧ (pickG xs lo hi st).length ≤ xs.length ∧ ∀ p, H p = none → Q (.ref p) (upd H p (.lst (pickG xs lo hi st)))
def tSl3 (K : PySem.W.Frag) (te : TE) (tl th tk : TO) : TE := fun σ H Q => te σ H fun x H1 => tl σ H1 fun l H2 => th σ H2 fun u H3 => tk σ H3 fun k H4 => rSl3 K x l u k H4 Q
section
variable {X : Cx} {K : PySem.W.Frag} {e : Expr} {lo hi st : Option Expr} {te : TE} {tl th tk : TO} {p2 pos : Pos}
theorem pickR {xs : List V} {its : List Value} (r : Vals xs its) (a b c : Option Int) : Vals (pickG xs a b c) (pickG its a b c) := by
  unfold pickG
  rw [r.length]
  generalize sliceRange _ _ _ = l
  induction l with
  | nil => exact .nil
  | cons i l ih =>
    have g : ∀ {xs : List V} {its : List Value} {i : Nat}, Vals xs its → (xs[i]? = none ∧ its[i]? = none) ∨ ∃ x v, xs[i]? = some x ∧ its[i]? = some v ∧ RelV x v := by
      intro xs its i r
      induction r generalizing i with
      | nil => exact .inl ⟨rfl, rfl⟩
      | cons h t ih =>
        cases i with
        | zero => exact .inr ⟨_, _, rfl, rfl, h⟩
        | succ i => exact ih
    rcases g (i := i) r with ⟨h1, h2⟩ | ⟨x, v, h1, h2, h3⟩
    · rw [List.filterMap_cons_none h1, List.filterMap_cons_none h2]; exact ih
    · rw [List.filterMap_cons_some h1, List.filterMap_cons_some h2]; exact .cons h3 ih
theorem pe_slice3 {se : Expr} (he : PE X e te) (hl : PO X lo tl) (hu : PO X hi th) (hk : PO X (some se) tk) (hs : ∀ v sl, ∃ ops, subscripted (.Slice lo hi (some se) p2) false v sl = operate ops (getItem v sl) := by intro v sl; exact ⟨_, by with_unfolding_all rfl⟩) : PE X (.Subscript e (.Slice lo hi (some se) p2) pos) (tSl3 X.K te tl th tk) := by
  refine ⟨fun pins s σ H Q I h => ?_⟩
  refine Subscript_ (thn (he.run pins s σ H _ I h) fun v s1 ⟨x, H1, I1, r1, q1⟩ => ?_)
  refine wpAny_Slice (thn (hl.run pins s1 σ H1 _ I1 q1) fun vl s2 ⟨l, H2, I2, pl, q2⟩ => thn (hu.run pins s2 σ H2 _ I2 q2) fun vu s3 ⟨u, H3, I3, pu, q3⟩ => thn (hk.run pins s3 σ H3 _ I3 q3) fun vk s4 ⟨k, H4, I4, pk, q4⟩ => ?_)
  have I5 : Inv X pins σ H4 { s4 with heap := s4.heap.push { cls := .type "slice", data := .fields #[vl, vu, vk] } } := I4.kept (t' := s4.toks) fun b ob q => Heap.get?_push_of_some _ q
  obtain ⟨a, xs, rfl, hx, h0, hle, q⟩ := q4
  cases r1
  obtain ⟨its, r, ht, hz⟩ := I5.list hx
  have hlen := r.length
  show wpAny (model X.prog X.w) X.A (subscriptTail e (.Slice lo hi (some se) p2) (.ref a) (.ref s4.heap.objs.size)) (EP X pins σ Q) X.xe { s4 with heap := s4.heap.push { cls := .type "slice", data := .fields #[vl, vu, vk] } }
  obtain ⟨ops, hs⟩ := hs (.ref a) (.ref s4.heap.objs.size)
  refine tail_any (ops := ops) ht.isList.typeIs slot_list_getitem.lookup ?_ hs
  refine wpAny_getItem_list_slice ht.isList (Heap.IsSliceOf.new ..) pl pu pk h0 ?_ (by rw [List.size_toArray] <;> omega)
  rw [slicePick_G]
  refine ⟨.ref _, _, I5.laid (t' := s4.toks) (o := .lst (pickG xs l u k)) (fun b ob q => Heap.get?_push_of_some _ q) (Nat.le_refl _) ?_, rfl, q _ (I5.hok.fresh (Nat.le_refl _))⟩
  exact ⟨Nat.le_trans hle hz, _, 0, pickR r l u k, Heap.get?_push_size _ rfl⟩
theorem k_sl3 (h : X.K = K) (q : PE X e (tSl3 X.K te tl th tk)) : PE X e (tSl3 K te tl th tk) := by cases h; exact q
end
section
variable {K : PySem.W.Frag} {F B0 H B : Hp} {τ : List V} {T : List O} {σ : L2.St} {Γ : En} {S : Ad} {post : O → En → Prop} {i : Nat} {te : TE} {Dd : EG}
theorem RL.pick {vs : List V} {xs : List D} (r : RL K B vs xs) (lo hi st : Option Int) : RL K B (pickG vs lo hi st) (pickG xs lo hi st) := by
  unfold pickG
  rw [r.length]
  generalize sliceRange _ _ _ = l
  induction l with
  | nil => exact .nil
  | cons i l ih =>
    have g : ∀ {vs : List V} {xs : List D} {i : Nat}, RL K B vs xs → (vs[i]? = none ∧ xs[i]? = none) ∨ ∃ x v, vs[i]? = some x ∧ xs[i]? = some v ∧ R K B x v := by
      intro vs
      induction vs with
      | nil => intro xs i r; cases r; exact .inl ⟨rfl, rfl⟩
      | cons v vs ih =>
        intro xs i r
        cases r with | cons h t =>
        cases i with
        | zero => exact .inr ⟨_, _, rfl, rfl, h⟩
        | succ i => exact ih (i := i) t
    rcases g (i := i) r with ⟨h1, h2⟩ | ⟨x, v, h1, h2, h3⟩
    · rw [List.filterMap_cons_none h1, List.filterMap_cons_none h2]; exact ih
    · rw [List.filterMap_cons_some h1, List.filterMap_cons_some h2]; exact .cons h3 ih
theorem go_sl3 {tl th tk : TO} (h : Go K F B0 te T Γ fun o Γ1 => GoO K F B0 tl (.d o.fz :: T) Γ1 fun lo Γ2 => GoO K F B0 th (.d o.fz :: T) Γ2 fun hi Γ3 => GoO K F B0 tk (.d o.fz :: T) Γ3 fun st Γ4 =>
      ∃ xs, D.seq? o.fz = some xs ∧ st ≠ some 0 ∧ (pickG xs lo hi st).length ≤ xs.length ∧ post (.ol ((pickG xs lo hi st).map O.d)) Γ4) : Go K F B0 (tSl3 K te tl th tk) T Γ post := fun τ σ H Q hw k =>
  h τ σ H _ hw fun v o Γ1 H1 h1 ⟨_, _, w1⟩ => by
    obtain ⟨_, _, w1, _⟩ := w1.fz
    refine h1 _ σ H1 _ ⟨_, _, w1⟩ fun lo Γ2 H2 h2 w2 => h2 _ σ H2 _ w2 fun hi Γ3 H3 h3 w3 => h3 _ σ H3 _ w3 fun st Γ4 H4 ⟨xs, q, h0, hle, h4⟩ ⟨_, _, w4⟩ => ?_
    obtain ⟨r, _, _, w⟩ := w4.popd
    obtain ⟨a, vs, rfl, sq, rl⟩ := r.seqL q
    have hp := rl.pick lo hi st
    refine ⟨a, vs, rfl, w.pu.sqL sq, h0, by rw [hp.length, rl.length]; exact hle, fun p hp0 => ?_⟩
    obtain ⟨S2, w⟩ := w.newl hp0 hp
    exact k _ _ _ _ h4 ⟨_, _, w⟩
theorem oa_lenD {kvs : List (Key × D)} (h : post (.d (.int kvs.length)) Γ) : OpA K F B0 (rLenG K) [.dic kvs] T Γ post := fun τ σ H B S vs Q w rl k => by
  obtain ⟨v1, rfl, r⟩ := rl.one
  cases r with | @dic a ws _ hd _ rk =>
  refine .inr ⟨a, ws, rfl, w.pu.rd hd, k _ _ _ _ h ⟨_, _, w.pushd ?_⟩⟩
  have e : ws.length = kvs.length := by
    have := congrArg List.length rk.keys
    simpa using this
  rw [e]
  exact .int
/-- xs.index(n), xs a list of numbers that has it -/
theorem go_lindex {ta : TA} (h : Go K F B0 te T Γ fun o Γ1 => ∃ ns : List Int, o.fz = .lst (ns.map D.int) ∧ GoA K F B0 ta (.d o.fz :: T) Γ1 fun xs Γ2 => ∃ (n : Int) (j : Nat), xs = [.int n] ∧ ns[j]? = some n ∧ (∀ m, m < j → ns[m]? ≠ some n) ∧ post (.d (.int (j : Nat))) Γ2) :
    Go K F B0 (tBM K "list" (rIndex K) te ta) T Γ post := fun τ σ H Q hw k =>
  h τ σ H _ hw fun v1 o1 Γ1 H1 ⟨ns, e1, h1⟩ ⟨_, _, w1⟩ => by
    obtain ⟨B2, S2, w2, _⟩ := w1.fz
    rw [e1] at h1 w2
    obtain ⟨r, _, _, _⟩ := w2.popd
    cases r with
    | @lst a vs _ hd rl =>
    have ev := RL.ints rl
    subst ev
    refine ⟨.inl ⟨rfl, _, w2.pu.sqL (SqL.of hd)⟩, h1 _ σ H1 _ ⟨_, _, w2⟩ fun us xs Γ2 H2 ⟨n, j, e, hj, hm, h2⟩ ⟨_, _, w3⟩ hl => ?_⟩
    subst e
    obtain ⟨rl2, S3, w4⟩ := w3.args hl
    obtain ⟨r4, _, _, w5⟩ := w4.popd
    obtain ⟨u, rfl, r⟩ := rl2.one
    cases r
    have sq : SqL K H2 a (ns.map V.int) := by
      cases r4 with
      | @lst _ vs2 _ hd2 rl3 =>
        have := RL.ints rl3
        subst this
        exact w5.pu.sqL (SqL.of hd2)
    refine ⟨a, ns.map V.int, .int n, j, .int n, rfl, rfl, sq, rfl, by simp [flatV], by rw [List.getElem?_map, hj]; rfl, by simp [L2.eqV], fun m z' hmj hz => ?_, k _ _ _ _ h2 ⟨_, _, w5.pushd .int⟩⟩
    rw [List.getElem?_map] at hz
    cases e : ns[m]? with
    | none => rw [e] at hz; cases hz
    | some y =>
      rw [e] at hz
      cases hz
      have : y ≠ n := fun q => hm m hmj (by rw [e, q])
      simp [L2.eqV, this]
/-- d.setdefault(k, []).append(e), d a name -/
theorem gos_setdAppV {kvs : List (Key × O)} {ty tv : TE} (e0 : Γ[i]? = some (some (.od kvs))) (hz : kvs.length < 100000)
    (h : ∀ F' B', Go K F' B' ty [] (fzE Γ) fun okk _ => ∃ k ys, okk = .d (kD k) ∧ lstAt kvs k ys ∧ ys.length < 100000 ∧
      ∀ F' B', Go K F' B' tv [] (fzE (Γ.set i none)) fun oe _ => oe.lf = true ∧ Dd.nx (Γ.set i (some (.od (dput kvs k (.ol (ys ++ [oe])))))) ) :
    GoS K F B0 (tDrop (tBM K "list" rAppend (tDSetd (tVar i) ty (tLst tNil)) (tCons tv tNil))) T Γ Dd :=
  gos_setdApp (p := []) evp_var e0 rfl trivial hz h
/-- d.clear(), d a name -/
theorem gos_dclear {kvs : List (Key × O)} (e0 : Γ[i]? = some (some (.od kvs))) (h : Dd.nx (Γ.set i (some (.od [])))) :
    GoS K F B0 (tDrop (tBM0 K "dict" rDClr (tVar i))) T Γ Dd := fun τ σ H De hw s => by
  obtain ⟨B, S, w⟩ := hw
  obtain ⟨v, S1, a1, r1, _, f⟩ := w.mut1 e0
  cases r1 with
  | @od _ S4 a ws _ ha hs hn hc nd ek rs =>
  refine ⟨.ref a, a1, .inr (.inr (.inl ⟨rfl, .inl ⟨_, hc⟩⟩)), ?_⟩
  refine ⟨a, ws, rfl, rfl, hc, ?_⟩
  obtain ⟨S', w3⟩ := f a (.dK []) (.od []) ha (.od (S' := fun _ => False) ha (fun b z => False.elim z) id upd_same List.nodup_nil rfl .nil)
  exact s.nx σ _ _ h ⟨B, S', w3⟩
end
end SK
namespace SK
open PySem PySem.Spec PyProof.Rows L2 PySem.W
end SK
namespace SK
open PySem PySem.Spec PyProof.Rows L2
open PySem.W (AllAlike Sortable dataLe)
end SK
namespace SK
open PySem PySem.Spec PyProof.Rows L2 PySem.W
mutual
theorem Dp.at {K : PySem.W.Frag} {H H' : Hp} (hT : ∀ a xs, SqT K H a xs → SqT K H' a xs) (hL : ∀ a xs, SqL K H a xs → SqL K H' a xs) : ∀ (d : PyData) {v : V}, Dp K H v d → Dp K H' v d
  | .none, _, h => by cases h; exact .non
  | .bool _, _, h => by cases h; exact .bl _
  | .int _, _, h => by cases h; exact .int _
  | .str _, _, h => by cases h; exact .str _
  | .list ds, _, h => by cases h with | lst a b => exact .lst (hL _ _ a) (DpAll.at hT hL ds b)
  | .tuple ds, _, h => by cases h with | tup a b => exact .tup (hT _ _ a) (DpAll.at hT hL ds b)
  | .dict _, _, h => by cases h
theorem DpAll.at {K : PySem.W.Frag} {H H' : Hp} (hT : ∀ a xs, SqT K H a xs → SqT K H' a xs) (hL : ∀ a xs, SqL K H a xs → SqL K H' a xs) : ∀ (ds : List PyData) {vs : List V}, DpAll K H vs ds → DpAll K H' vs ds
  | [], _, h => by cases h; exact .nil
  | d :: ds, _, h => by cases h with | cons a b => exact .cons (Dp.at hT hL d a) (DpAll.at hT hL ds b)
end
theorem Dp.ex {K : PySem.W.Frag} {H H' : Hp} (e : Ex H H') {d : PyData} {v : V} (h : Dp K H v d) : Dp K H' v d := Dp.at (fun _ _ q => e.sqT q) (fun _ _ q => e.sqL q) d h
end SK
namespace SK
open PySem PySem.Spec PyProof.Rows L2
open PySem.W (AllAlike Sortable dataLe)
end SK
namespace SK
open PySem PySem.Spec PyProof.Rows L2
/-- lo + n - 1, .., lo -/
def rvV (lo : Int) (n : Nat) : List V := (List.range n).map fun i => V.int (lo + (n : Int) - 1 - (i : Nat))
def tListRgR (te : L2.St → Hp → (Int → Int → Hp → Prop) → Prop) : TE := fun σ H Q => te σ H fun a b H1 => RgOk a b ∧ ∀ q, H1 q = none → Q (.ref q) (upd H1 q (.lst (rvV a (b - a).toNat)))
section
variable {K : PySem.W.Frag} {F B0 : Hp} {T : List O} {Γ : En} {post : O → En → Prop} {te : TE}
/-- list(reversed(range(n))) -/
theorem go_listRgR (h : Go K F B0 te T Γ fun o Γ1 => ∃ n : Int, o = .d (.int n) ∧ 0 ≤ n ∧ n ≤ 100000 ∧ post (.ol ((((List.range n.toNat).map fun (i : Nat) => n - 1 - (i : Int)).map D.int).map O.d)) Γ1) : Go K F B0 (tListRgR (tRg1 te)) T Γ post := fun τ σ H Q hw k =>
  h τ σ H _ hw fun v1 o1 Γ1 H1 ⟨n, e1, h0, h1, hp⟩ ⟨B1, S1, w1⟩ => by
    subst e1
    obtain ⟨r, S2, _, w2⟩ := w1.popd
    cases r
    refine ⟨n, rfl, ⟨by omega, by omega, by omega, by omega, by omega⟩, fun q hq => ?_⟩
    have ev : rvV 0 (n - 0).toNat = ((List.range n.toNat).map fun (i : Nat) => n - 1 - (i : Int)).map V.int := by
      unfold rvV
      rw [List.map_map, Int.sub_zero]
      refine List.map_congr_left fun i _ => ?_
      show V.int (0 + (((n.toNat : Nat)) : Int) - 1 - (i : Int)) = V.int (n - 1 - (i : Int))
      congr 1
      omega
    rw [ev]
    obtain ⟨S3, w3⟩ := w2.newl hq (RL.ofInts ((List.range n.toNat).map fun (i : Nat) => n - 1 - (i : Int)))
    exact k _ _ _ _ hp ⟨_, _, w3⟩
end
end SK
namespace SK
open PySem PySem.Spec PyProof.Rows L2
structure FunT (K : PySem.W.Frag) (x : Str) (st : Stmt) (f : Addr) (fd : FuncData) (u : Value) : Prop where
  ex : ∃ (oc : Value) (od : Option Addr) (T : Addr) (oT : Obj) (n : Nat) (kV doc pm : Value) (an : Option Addr) (cdv ct : Value) (osl : Array (Option Value)),
    fd = PySem.W.fnOf x x (defArgs st) (defBody st) (defScope st) (.ref T) kV doc pm an cdv ct ∧ K.lookup f = some ⟨oc, od, .func fd, osl⟩ ∧ PySem.W.codeIn K cdv x = true ∧ K.lookup T = some oT ∧ oT.data = .seq #[u] n
  kp : PySem.W.keepIn K (.ref f) = true
section
variable {P : Program} {w : World} {K : PySem.W.Frag} {mg : Str → Option Value} {base : Heap} {x : Str} {st : Stmt} {f : Addr} {fd : FuncData} {u : Value} {N ps : List Str} {k : Nat} {sp : Sp}
theorem FunT.ok (F : FunT K x st f fd u) (S : FnScope N ps (defScope st)) (len : ∀ vs H Q E, sp vs H Q E → vs.length = ps.length)
    (hbody : ∀ (cdv : Value) (A : Around) (outer : List Env) (s : Shared) (H : Hp) (vs : List V) (Q : VK) (E : XK), Room k (A.deeper (envOfC x (defScope st) s.heap.objs.size f cdv)) → sp vs H Q E →
      ∃ t, PSs (cxOf CX0 P w K mg base N x (defScope st) f cdv A outer s H E).nox (defBody st) t ∧ t { nx := fun _ H' => Q .non H', rt := Q } (start N vs) H) : FnOk P w K mg base CX0 (k + 1) f fd ps sp := by
  obtain ⟨oc, od, T, oT, n, kV, doc, pm, an, cdv, ct, osl, rfl, lk, hcd, _, _⟩ := F.ex
  refine fn_of lk hcd S len fun A outer s H vs Q E hr hsp => ?_
  obtain ⟨t, h, q⟩ := hbody cdv A outer s H vs Q E hr hsp
  exact ⟨t, h.nox, q⟩
theorem FunT.binds (F : FunT K x st f fd u) (n : Nat) (hn : n = ps.length) (h : ∀ (T : Addr) (kV doc pm : Value) (an : Option Addr) (cdv ct : Value) (us : List Value), us.length = n →
      ∃ k, bindArgs (PySem.W.fnOf x x (defArgs st) (defBody st) (defScope st) (.ref T) kV doc pm an cdv ct) ⟨us, []⟩ = seqItems? (.ref T) >>= k ∧ k (some #[u]) = pure (ps.zip us)) : Binds K fd ps [] := by
  obtain ⟨oc, od, T, oT, m, kV, doc, pm, an, cdv, ct, osl, rfl, lk, hcd, lT, eT⟩ := F.ex
  intro s us X hl
  rw [List.append_nil] at hl ⊢
  obtain ⟨k, e1, e2⟩ := h T kV doc pm an cdv ct us (by omega)
  refine BindsTo.of_looks fun M => ?_
  rw [e1]
  exact looks_items X lT eT (.of_pure e2)
theorem FunT.lk (F : FunT K x st f fd u) : ∃ oc od sl, K.lookup f = some ⟨oc, od, .func fd, sl⟩ := by
  obtain ⟨oc, od, T, oT, n, kV, doc, pm, an, cdv, ct, osl, _, l, _⟩ := F.ex
  exact ⟨oc, od, osl, l⟩
end
end SK
namespace SK
open PySem PySem.Spec PyProof.Rows L2
section
variable {K : PySem.W.Frag} {F B0 H B : Hp} {T : List O} {Γ : En} {post : O → En → Prop} {te : TE} {v v' : V}
/-- list(range(n)) -/
theorem go_listRg (h : Go K F B0 te T Γ fun o Γ1 => ∃ n : Int, o = .d (.int n) ∧ 0 ≤ n ∧ n ≤ 100000 ∧ post (.ol ((((List.range n.toNat).map fun (i : Nat) => (i : Int)).map D.int).map O.d)) Γ1) : Go K F B0 (tLstRg (tRg1 te)) T Γ post := fun τ σ H Q hw k =>
  h τ σ H _ hw fun v1 o1 Γ1 H1 ⟨n, e1, h0, h1, hp⟩ ⟨B1, S1, w1⟩ => by
    subst e1
    obtain ⟨r, S2, _, w2⟩ := w1.popd
    cases r
    refine ⟨n, rfl, ⟨by omega, by omega, by omega, by omega, by omega⟩, fun q hq => ?_⟩
    have ev : rgV 0 n = ((List.range n.toNat).map fun (i : Nat) => (i : Int)).map V.int := by
      unfold rgV
      rw [List.map_map, Int.sub_zero]
      refine List.map_congr_left fun i _ => ?_
      show V.int (0 + (i : Int)) = V.int (i : Int)
      rw [Int.zero_add]
    rw [ev]
    obtain ⟨S3, w3⟩ := w2.newl hq (RL.ofInts ((List.range n.toNat).map fun (i : Nat) => (i : Int)))
    exact k _ _ _ _ hp ⟨_, _, w3⟩
end
end SK
namespace SK
open PySem PySem.Spec PyProof.Rows L2
section
variable {K : PySem.W.Frag} {F B0 H B : Hp} {τ : List V} {T : List O} {σ : L2.St} {Γ : En} {S : Ad} {o : O} {i j : Nat} {te : TE} {tt : TT} {post : O → En → Prop} {postt : Bool → En → Prop} {Ci : Addr}
theorem HW.lendB (w : HW K F B0 τ T σ Γ H B S) : ∃ (Bf : Hp) (L : Ad), (∀ a, L a → S a) ∧ (∀ a, L a → Cell H a) ∧ BLe B Bf ∧ Ho K H Bf [] [] σ (fzE Γ) H ∧
    ∀ Γ1 H1 B1 S1, HW K H Bf [] [] σ Γ1 H1 B1 S1 → HW K F B0 τ T σ Γ H1 (offH B1 L) S ∧ BLe B (offH B1 L) ∧ ∀ a, B1 a ≠ none → B a ≠ none ∨ L a ∨ H a = none := by
  obtain ⟨Sp, Ss, p1, p2, p3, rp, rsl⟩ := RS.split (σ0 := τ.map some) (Γ0 := T.map some) (by simp [w.lt]) w.rs
  obtain ⟨L, l1, r2, l3⟩ := rsl.tight
  have bn : ∀ a, L a → B a = none ∧ H a ≠ none := fun a z => (w.ow a (p2 a (l1 a z))).2
  have ex : Ex B (SK.frz B H L) := frz_ex fun a z => (bn a z).1
  have le0 : BLe B (SK.frz B H L) := .of_ex ex
  refine ⟨SK.frz B H L, L, fun a z => p2 a (l1 a z), l3, le0, ⟨SK.frz B H L, fun _ => False, .refl H, fun a u q => ?_, .refl _, fun _ z => z.elim, fun _ z => .inl z, ?_, rfl⟩, fun Γ1 H1 B1 Sr w1 => ?_⟩
  · by_cases z : L a
    · rw [frz_at z] at q; exact q
    · rw [frz_no z] at q; exact w.pu a u q
  · exact RS.fzE (S := L) le0 (fun a u z q => by rw [frz_at z]; exact q) r2
  · have hB : ∀ a u, B a = some u → ¬ L a := fun a u q z => by rw [(bn a z).1] at q; cases q
    have off : ∀ a u, ¬ L a → B1 a = some u → offH B1 L a = some u := fun a u z q => by rw [offH_no z]; exact q
    have offR : ∀ a u, ¬ L a → Rd B1 a u → Rd (offH B1 L) a u := fun a u z q => q.elim (fun q => .inl (off a _ z q)) fun ⟨o, q⟩ => .inr ⟨o, off a _ z q⟩
    have nL : ∀ a u, Rd B a u → ¬ L a := fun a u q => q.elim (hB a _) fun ⟨o, q⟩ => hB a _ q
    have le : BLe B (offH B1 L) := by
      have l := le0.trans w1.b0
      exact ⟨fun a xs q => offR a _ (nL a _ q) (l.tup a xs q), fun a xs q => offR a _ (nL a _ q) (l.lst a xs q), fun a xs q => off a _ (hB a _ q) (l.ls a xs q), fun a xs q => offR a _ (nL a _ q) (l.dK a xs q), fun a xs q => offR a _ (nL a _ q) (l.dT a xs q), fun a C dx fs q => off a _ (hB a _ q) (l.ins a C dx fs q)⟩
    have nw1 : ∀ a, B1 a ≠ none → B a ≠ none ∨ L a ∨ H a = none := fun a z => by
      by_cases y : L a
      · exact .inr (.inl y)
      · rcases w1.nw a z with x | x
        · rw [frz_no y] at x; exact .inl x
        · exact .inr (.inr x)
    refine ⟨⟨w.fr.trans w1.fr, fun a u q => ?_, w.b0.trans le, fun a z => ?_, fun a z => ?_, w.rs.tr le (fun _ z => z) fun a u _ q => w1.fr a u q, w.lt⟩, le, nw1⟩
    · by_cases z : L a
      · rw [offH_at z] at q; cases q
      · rw [offH_no z] at q; exact w1.pu a u q
    · obtain ⟨q1, q2, q3⟩ := w.ow a z
      refine ⟨q1, ?_, fun q => q3 (w1.fr.back q)⟩
      by_cases y : L a
      · exact offH_at y
      · rw [offH_no y]
        cases q : B1 a with
        | none => rfl
        | some u =>
          rcases nw1 a (by rw [q]; simp) with x | x | x
          · exact absurd q2 x
          · exact absurd x y
          · exact absurd x q3
    · by_cases y : L a
      · exact absurd (offH_at y) z
      · rw [offH_no y] at z
        rcases nw1 a z with x | x | x
        · exact w.nw a x
        · exact absurd x y
        · exact .inr (w.fr.back x)
def tMethL (C : Addr) (m : Str) (sp : Sp) (dvs : List V) (E : XK) (te : TE) (t : TA) : TE := tMeth C m sp dvs E te t
theorem k_methL {X : Cx} {e : Expr} {C : Addr} {m : Str} {sp : Sp} {dvs : List V} {E : XK} {te : TE} {t : TA} (h : PE X e (tMeth C m sp dvs E te t)) : PE X e (tMethL C m sp dvs E te t) := h
theorem go_methL {C : Cs} {m : Str} {dvs : List V} {dxs : List D} {E : XK} {t : TA} {a : Addr} {fs : Fs} (hd : ∀ B, RL K B dvs dxs) (e0 : Γ[i]? = some (some (.oi a Ci fs))) (hm : fs.lookup m = none)
    (h : ∀ F' B', GoA K F' B' t [] (fzE (Γ.set i none)) fun xs _ => ∃ p, C a fs (xs ++ dxs) p noS ∧ ∀ o fs', p o fs' → o.lf = true ∧ (O.oi a Ci fs').lf = true ∧ post o (Γ.set i (some (.oi a Ci fs')))) : Go K F B0 (tMethL Ci m (spS K Ci C) dvs E (tVar i) t) T Γ post := fun τ σ H Q ⟨B, S, w0⟩ k => by
  obtain ⟨v, S1, S2, a1, b1, c1, d1, r1, f⟩ := w0.slot e0
  have hv : v = .ref a := by cases r1; rfl
  subst hv
  have wN : HW K F B0 τ T σ (Γ.set i none) H B S2 := by
    have z := f B H (fun _ => False) (some (.ref a)) none (.refl B) (fun _ _ _ q => q) (fun _ z => z.elim) (fun x q => by cases q)
    rw [set_same a1] at z
    exact ⟨w0.fr, w0.pu, w0.b0, fun b y => w0.ow b (c1 b y), w0.nw, z.tr (.refl B) (fun b y => y.elim False.elim id) fun _ _ _ q => q, w0.lt⟩
  obtain ⟨Bf, L, l1, l3, le0, w00, back⟩ := wN.lendB
  have look : ∃ dx ws, H a = some (.ins Ci dx ws) ∧ ws.lookup m = none := by
    cases r1 with
    | @oi _ S4 _ dx _ ws _ ha hdx hs hn1 hn2 ne hca hcd ek rs =>
    refine ⟨dx, ws, hca, ?_⟩
    have : ∀ {ws : List (Str × V)} {fs : Fs}, ws.map (·.1) = fs.map (·.1) → fs.lookup m = none → ws.lookup m = none := by
      intro ws
      induction ws with
      | nil => intro fs _ _; rfl
      | cons p ws ih =>
        intro fs e q
        cases fs with
        | nil => simp at e
        | cons p' fs =>
          obtain ⟨g, x⟩ := p
          obtain ⟨g', y⟩ := p'
          simp only [List.map_cons, List.cons.injEq] at e
          obtain ⟨rfl, e⟩ := e
          rw [List.lookup_cons] at q ⊢
          cases q2 : m == g with
          | true => rw [q2] at q; cases q
          | false => rw [q2] at q; exact ih e q
    exact this ek hm
  obtain ⟨dx, ws, hca, hlk⟩ := look
  refine ⟨.ref a, a1, a, dx, ws, rfl, hca, hlk, h H Bf [] σ H _ w00 fun vs xs Γ1 H1 ⟨p, c, h1⟩ ⟨B1, Sx, w1⟩ hl => ?_⟩
  obtain ⟨rl, S3, w⟩ := w1.args hl
  obtain ⟨wB, leB, hnw⟩ := back _ _ _ _ w
  have r1' : RO K B1 H1 S1 (.ref a) (.oi a Ci fs) := r1.tr (le0.trans w.b0) (fun _ z => z) fun b u _ q => w.fr b u q
  refine ⟨B1, S1, a, fs, vs ++ dvs, xs ++ dxs, p, noS, rfl, w.pu, r1', fun b z => ?_, rl.app (hd B1), c, fun v o fs' B' U S0' H' hp bh r0 r1 => ?_, fun _ _ _ _ _ _ _ z => z.elim⟩
  · obtain ⟨q1, q2, q3⟩ := w0.ow b (b1 b z)
    refine ⟨?_, fun q => q3 (w.fr.back q)⟩
    cases q : B1 b with
    | none => rfl
    | some u =>
      rcases hnw b (by rw [q]; simp) with x | x | x
      · exact absurd q2 x
      · exact absurd (l1 b x) (d1 b z)
      · exact absurd x q3
  · obtain ⟨ol, fl, hpost⟩ := h1 o fs' hp
    have nS : ∀ b, L b → ¬ S1 b := fun b z y => d1 b y (l1 b z)
    have off : ∀ b u, ¬ L b → B' b = some u → offH B' L b = some u := fun b u z q => by rw [offH_no z]; exact q
    have offR : ∀ b u, ¬ L b → Rd B' b u → Rd (offH B' L) b u := fun b u z q => q.elim (fun q => .inl (off b _ z q)) fun ⟨o, q⟩ => .inr ⟨o, off b _ z q⟩
    have hB : ∀ b u, offH B1 L b = some u → ¬ L b ∧ B1 b = some u := fun b u q => by
      by_cases z : L b
      · rw [offH_at z] at q; cases q
      · rw [offH_no z] at q; exact ⟨z, q⟩
    have hR : ∀ b u, Rd (offH B1 L) b u → ¬ L b ∧ Rd B1 b u := fun b u q => q.elim (fun q => ⟨(hB b _ q).1, .inl (hB b _ q).2⟩) fun ⟨o, q⟩ => ⟨(hB b _ q).1, .inr ⟨o, (hB b _ q).2⟩⟩
    have le2 : BLe (offH B1 L) (offH B' L) := ⟨fun b xs q => offR b _ (hR b _ q).1 (bh.le.tup b xs (hR b _ q).2), fun b xs q => offR b _ (hR b _ q).1 (bh.le.lst b xs (hR b _ q).2), fun b xs q => off b _ (hB b _ q).1 (bh.le.ls b xs (hB b _ q).2), fun b xs q => offR b _ (hR b _ q).1 (bh.le.dK b xs (hR b _ q).2), fun b xs q => offR b _ (hR b _ q).1 (bh.le.dT b xs (hR b _ q).2), fun b C dx fs q => off b _ (hB b _ q).1 (bh.le.ins b C dx fs (hB b _ q).2)⟩
    have offN : ∀ b, B' b = none → offH B' L b = none := fun b q => by
      by_cases z : L b
      · exact offH_at z
      · rw [offH_no z]; exact q
    have bh2 : Bh K H1 H' (offH B1 L) (offH B' L) S1 S0' U := ⟨bh.fr, fun b u q => by
        by_cases z : L b
        · rw [offH_at z] at q; cases q
        · rw [offH_no z] at q; exact bh.pu b u q, le2, fun b q => by
        by_cases z : L b
        · exact absurd (offH_at z) q
        · rw [offH_no z] at q ⊢; exact bh.nw b q, fun b z => ⟨(bh.o0 b z).1, offN b (bh.o0 b z).2.1, (bh.o0 b z).2.2⟩, fun b z => ⟨(bh.o1 b z).1, offN b (bh.o1 b z).2.1, (bh.o1 b z).2.2⟩, bh.dj⟩
    have sq : ∀ b xs, SqT K B' b xs → SqT K (offH B' L) b xs := fun b xs q => q.imp (fun q => by
      refine offR b _ (fun z => ?_) q
      have q2 : ∃ u, B' b = some u ∧ (u = .tup xs ∨ ∃ o, u = .frz o (.tup xs)) := q.elim (fun q => ⟨_, q, .inl rfl⟩) fun ⟨o, q⟩ => ⟨_, q, .inr ⟨o, rfl⟩⟩
      obtain ⟨u, q3, q4⟩ := q2
      have q5 := bh.pu b u q3
      rcases l3 b z with ⟨_, y⟩ | ⟨_, y⟩ | ⟨_, y⟩ | ⟨_, _, _, y⟩ | ⟨_, y⟩ <;>
        (rw [bh.fr b _ (nS b z) (w.fr b _ y)] at q5
         cases q5
         rcases q4 with q4 | ⟨_, q4⟩ <;> cases q4)) id
    have hi : i < Γ.length := (List.getElem?_eq_some_iff.mp e0).1
    have ff : ∀ (B2 H2 : Hp) (S1' : Ad) (v' : Option V) (o' : Option O), BLe (offH B1 L) B2 → (∀ b u, S2 b → H1 b = some u → H2 b = some u) → (∀ b, S1' b → ¬ S2 b) → (∀ x, o' = some x → ∃ w, v' = some w ∧ RO K B2 H2 S1' w x) →
        RS K B2 H2 (fun b => S1' b ∨ S2 b) (τ.map some ++ σ.set i v') (T.map some ++ Γ.set i o') := fun B2 H2 S1' v' o' le k dj q => by
      have z := RS.put (i := τ.length + i) (v := v') (o := o') (S1 := S1') (wB.rs.tr le (fun _ z => z) k) (by simp [wB.lt]; omega) dj q
      rw [List.set_append_right _ _ (by simp), List.set_append_right _ _ (by simp [wB.lt]), List.length_map, List.length_map, ← wB.lt, Nat.add_sub_cancel_left, List.set_set] at z
      exact z
    have r1o : RO K (offH B1 L) H1 S1 (.ref a) (.oi a Ci fs) := by
      have r1B : RO K B H S1 (.ref a) (.oi a Ci fs) := by assumption
      exact r1B.tr leB (fun _ z => z) fun b u _ q => w.fr b u q
    have w5 : HW K F B0 τ T σ Γ H1 (offH B1 L) (fun b => S1 b ∨ S2 b) := by
      have z := ff (offH B1 L) H1 S1 (some (.ref a)) (some (.oi a Ci fs)) (.refl _) (fun _ _ _ q => q) d1 fun x q => by cases q; exact ⟨_, rfl, r1o⟩
      have eΓ : Γ.set i (some (.oi a Ci fs)) = Γ := by rw [← (List.getElem?_eq_some_iff.mp e0).2]; exact List.set_getElem_self hi
      rw [set_same a1, eΓ] at z
      refine ⟨wB.fr, wB.pu, wB.b0, fun b y => y.elim (fun y => ?_) (wB.ow b), wB.nw, z, wB.lt⟩
      obtain ⟨q1, q2, q3⟩ := w0.ow b (b1 b y)
      refine ⟨q1, ?_, fun q => q3 (w.fr.back q)⟩
      by_cases yl : L b
      · exact offH_at yl
      · rw [offH_no yl]
        cases q : B1 b with
        | none => rfl
        | some u =>
          rcases hnw b (by rw [q]; simp) with x | x | x
          · exact absurd q2 x
          · exact absurd x yl
          · exact absurd x q3
    exact k v o _ H' hpost (w5.called a1 (fun _ z => .inl z) (fun _ z => .inr z) d1 ff bh2 (r0.lf sq fl) (r1.lf sq ol))
end
end SK
set_option maxHeartbeats 8000000
namespace Lw
open PySem PySem.Spec PyProof.Rows L2 SK TL
local macro_rules | `(tactic| walk_at "ixx") => `(tactic| fail)
local macro_rules | `(tactic| walk_at "lenx") => `(tactic| fail)
local macro_rules | `(tactic| walk_at "lendx") => `(tactic| fail)
local macro_rules | `(tactic| walk_at "vw") => `(tactic| fail)
local macro_rules | `(tactic| walk_at "vwx") => `(tactic| fail)
local macro_rules | `(tactic| walk_at "sk1") => `(tactic| first
  | ((with_reducible refine' gos_setdAppF ?hR ?he ?hl ?hf ?hz ?hk); (case hR => assumption); (case he => exact rfl); (case hl => exact rfl); (case hf => exact rfl); (case hz => first | (simp only [List.length_map]; omega) | walk_at "lenx" | skip); (intro F' B'); (try walk_at "lendx"); (try (simp only [fzE_cons, fzE_nil, frO_none, frO_some, fz_fl, fz_fk, fz_d, fzL_fl, fzK_d, O.fz, fzL, List.set])))
  | ((with_reducible refine' gos_setdAppV ?he ?hz ?hk); (case he => exact rfl); (case hz => first | (simp only [List.length_map]; omega) | walk_at "lenx" | skip); (intro F' B'); (try walk_at "lendx"); (try (simp only [fzE_cons, fzE_nil, frO_none, frO_some, fz_fl, fz_fk, fz_d, fzL_fl, fzK_d, O.fz, fzL, List.set])))
  | ((with_reducible refine' gos_popF ?hR ?he ?hl ?hf ?hk); (case hR => assumption); (case he => exact rfl); (case hl => exact rfl); (case hf => exact rfl); (intro F' B'); (try walk_at "lendx"); (try (simp only [fzE_cons, fzE_nil, frO_none, frO_some, fz_fl, fz_fk, fz_d, fzL_fl, fzK_d, O.fz, fzL, List.set])))
  | ((with_reducible refine' gog_setDF ?hR ?he ?hl ?hf ?hz ?hk); (case hR => assumption); (case he => exact rfl); (case hl => exact rfl); (case hf => exact rfl); (case hz => first | (simp only [List.length_map]; omega) | walk_at "lenx" | skip); (intro F' B'); (try walk_at "lendx"); (try (simp only [fzE_cons, fzE_nil, frO_none, frO_some, fz_fl, fz_fk, fz_d, fzL_fl, fzK_d, O.fz, fzL, List.set])))
  | ((with_reducible refine' gog_setL ?he ?hk); (case he => exact rfl); (intro F' B'); (try walk_at "lendx"); (try (simp only [fzE_cons, fzE_nil, frO_none, frO_some, fz_fl, fz_fk, fz_d, fzL_fl, fzK_d, O.fz, fzL, List.set])))
  | ((with_reducible refine gos_never ?_); first | (exact absurd (by assumption) (by assumption)) | omega | (simp_all; done) | skip) | with_reducible refine gos_sLG ?_
  | ((with_reducible refine' gos_frzA ?he ?hk); (case he => exact rfl); (try walk_at "lendx"); (try simp only [fz_fl, fz_fk, fz_d, fzL_fl, fzK_d, O.fz, fzL, List.set]))
  | with_reducible refine gos_sA ?_ | with_reducible refine gos_sD ?_ | with_reducible refine gos_sN ?_ | with_reducible refine gos_sU ?_ | with_reducible refine gos_sF ?_ | with_reducible refine gos_sW ?_ | with_reducible refine gos_sIR ?_ | with_reducible refine gos_sIC ?_ | with_reducible refine gos_sIW ?_ | with_reducible refine gos_sIN ?_ | with_reducible refine gos_sIF ?_ | ((with_reducible refine' gos_raiseF ?hw ?_); (case hw => assumption)) | with_reducible refine gos_sTA ?_ | with_reducible refine gos_sTAE ?_ | with_reducible refine gos_sTO ?_ | with_reducible refine gos_sTE ?_ | with_reducible refine gos_sTX ?_ | with_reducible refine gos_sIB ?_ | with_reducible refine gos_asg ?_ | with_reducible refine gos_ret ?_ | with_reducible refine gos_if ?_ | with_reducible refine gos_next ?_ | with_reducible refine gos_brk ?_ | ((with_reducible refine' gos_append ?ha ?h0); (case h0 => exact ⟨_, rfl⟩)) | ((with_reducible refine' gos_insert ?ha ?h0); (case h0 => exact ⟨_, rfl⟩)) | ((with_reducible refine' gos_extend ?ha ?h0); (case h0 => exact ⟨_, rfl⟩)) | ((with_reducible refine' gos_dupd ?ha ?h0); (case h0 => exact ⟨_, rfl⟩)) | ((with_reducible refine gos_clear ?_); (refine ⟨_, rfl, ?_⟩); dsimp only [List.set]) | ((with_reducible refine' gos_dclear ?he ?_); (case he => exact rfl); dsimp only [List.set]) | ((with_reducible refine' gos_clearT 0 ?he ?hk ?hn ?_); (case hn => exact rfl); (case he => exact rfl); (case hk => exact rfl); dsimp only [List.set]) | ((with_reducible refine' gos_clearT 1 ?he ?hk ?hn ?_); (case hn => exact rfl); (case he => exact rfl); (case hk => exact rfl); dsimp only [List.set]) | with_reducible refine gos_drop ?_
  | ((with_reducible refine' go_var ?hv ?_); (case hv => exact rfl))
  | ((with_reducible refine' go_fz ?hv ?_); (case hv => exact rfl); (try walk_at "lendx"); (try simp only [fz_fl, fz_fk, fz_d, fzL_fl, fzK_d, O.fz, fzL, List.set])) | with_reducible refine go_int ?_ | with_reducible refine go_bl ?_ | with_reducible refine go_str ?_ | with_reducible refine go_non ?_ | with_reducible refine go_ty ?_ | ((with_reducible refine' go_cst ?hq ?_); (case hq => assumption)) | with_reducible refine go_ref ?_ | ((with_reducible refine' gos_raise ?hw ?_); (case hw => assumption)) | ((with_reducible refine' oa_isX ?hE ?hq ?_); (case hE => assumption); (case hq => assumption)) | ((with_reducible refine' oa_isXt ?hE ?hq ?_); (case hE => assumption); (case hq => assumption))
  | ((with_reducible refine gos_raise0 ?_); first | (exact absurd (by assumption) (by assumption)) | omega | (simp_all; done) | skip)
  | with_reducible refine go_lindex ?_ | with_reducible refine go_sindex ?_ | with_reducible refine go_upper ?_ | with_reducible refine go_find ?_
  | ((with_reducible refine' go_fldR ?hR ?_); (case hR => assumption)) | ((with_reducible refine' gos_fldR ?hR ?_); (case hR => assumption)) | with_reducible refine go_minD ?_ | with_reducible refine go_listRev ?_ | with_reducible refine go_listRgR ?_ | with_reducible refine go_listRg ?_ | with_reducible refine go_sortSet ?_
  | ((with_reducible refine go_lend' fun F' B' => ?_); (try walk_at "lendx"); (try (simp only [fzE_cons, fzE_nil, frO_none, frO_some, fz_fl, fz_fk, fz_d, fzL_fl, fzK_d, O.fz, fzL, List.set]))) | ((with_reducible refine got_lend' fun F' B' => ?_); (try walk_at "lendx"); (try (simp only [fzE_cons, fzE_nil, frO_none, frO_some, fz_fl, fz_fk, fz_d, fzL_fl, fzK_d, O.fz, fzL, List.set])))
  | ((with_reducible refine' go_lendV' ?hv ?_); (case hv => walk_at "vw"); (intro F' B'); (try walk_at "vwx"); (try (simp only [fzE_cons, fzE_nil, frO_none, frO_some, fz_fl, fz_fk, fz_d, fzL_fl, fzK_d, O.fz, fzL, List.set]))) | ((with_reducible refine' got_lendV' ?hv ?_); (case hv => walk_at "vw"); (intro F' B'); (try walk_at "vwx"); (try (simp only [fzE_cons, fzE_nil, frO_none, frO_some, fz_fl, fz_fk, fz_d, fzL_fl, fzK_d, O.fz, fzL, List.set])))
  | with_reducible refine go_tupO' ?_ | with_reducible refine go_lstO' ?_ | with_reducible refine goao_nil ?_
  | ((with_reducible refine goao_cons ?_); first | ((with_reducible refine' go_var ?hv ?_); (case hv => exact rfl)) | ((with_reducible refine' go_move ?hv ?_); (case hv => exact rfl); dsimp only [List.set]) | skip)
  | ((with_reducible refine' go_varM ?hv ?_); (case hv => exact rfl); (try dsimp only [List.set]))
  | ((with_reducible refine' go_ixO ?he ?_); (case he => exact ⟨_, rfl⟩))
  | with_reducible refine go_op ?_ | with_reducible refine go_un ?_ | with_reducible refine go_cb ?_ | with_reducible refine go_tup ?_ | with_reducible refine go_lst ?_ | with_reducible refine go_chain ?_ | with_reducible refine go_dnew ?_
  | with_reducible refine goa_cons ?_ | with_reducible refine goa_nil ?_ | with_reducible refine go_andV ?_ | with_reducible refine go_orV ?_ | with_reducible refine go_notV ?_ | with_reducible refine go_if ?_
  | with_reducible refine got_test ?_ | with_reducible refine got_B ?_ | with_reducible refine got_and ?_ | with_reducible refine got_or ?_ | with_reducible refine got_not ?_ | with_reducible refine got_yes ?_
  | ((with_reducible refine' gog_name ?hi ?_); (case hi => exact Nat.le_of_ble_eq_true rfl); dsimp only [List.set])
  | ((with_reducible refine' gos_aug ⟨_, ?hx, ?_⟩); (case hx => exact rfl)) | with_reducible refine oi_add ?_ | with_reducible refine oi_sub ?_
  | ((with_reducible refine' gog_setDI ?ha ?h0); (case h0 => exact ⟨_, rfl⟩)) | ((with_reducible refine' gog_setDS ?ha ?h0); (case h0 => exact ⟨_, rfl⟩))
  | with_reducible refine gog_tup ?_ | with_reducible refine gogs_nil ?_
  | ((with_reducible refine' gogs_name ?hi ?_); (case hi => exact Nat.le_of_ble_eq_true rfl); dsimp only [List.set])
  | ((with_reducible refine' gow_name ?hj ?hi ?_); (case hj => simp); (case hi => exact Nat.le_of_ble_eq_true rfl); dsimp only [List.set])
  | ((with_reducible refine' gow_tup ?he ?hn ?_); (case he => exact rfl); (case hn => exact rfl)) | with_reducible refine gows_nil ?_
  | ((with_reducible refine' gows_name ?hj ?hi ?_); (case hj => simp); (case hi => exact Nat.le_of_ble_eq_true rfl); dsimp only [List.set])
  | (with_reducible refine ⟨_, rfl, ?_⟩)
  | ((with_reducible refine' o2_addT ?hx ?hz ?_); (case hx => exact List.cons_ne_nil _ _); (case hz => (simp only [List.length_cons, List.length_nil, List.length_map]; omega)); (try simp only [List.cons_append, List.nil_append]))
  | with_reducible refine o2_add ?_ | with_reducible refine o2_sub ?_ | with_reducible refine o1_neg ?_ | (with_reducible refine o2_is ?_; (try simp only [D.isNon])) | (with_reducible refine o2_not ?_; (try simp only [D.isNon, Bool.not_true, Bool.not_false])) | ((with_reducible refine' o2_mul ?hm ?_); (case hm => first | exact IntMulOk.of_left (by decide) | exact IntMulOk.of_right (by decide) | assumption | exact IntMulOk.of_right (intBits_le_64 (by omega) (by omega)) | exact IntMulOk.of_left (intBits_le_64 (by omega) (by omega)))) | ((with_reducible refine' o2_div ?hb ?_); (case hb => omega)) | ((with_reducible refine' o2_mod ?hb ?_); (case hb => omega))
  | ((with_reducible refine o2_pow (by decide) ?_); dsimp only [Int.reduceToNat, Int.reducePow])
  | with_reducible refine o2_lt ?_ | with_reducible refine o2_le ?_ | with_reducible refine o2_gt ?_ | with_reducible refine o2_ge ?_ | with_reducible refine o2_eqI ?_ | with_reducible refine o2_neI ?_ | with_reducible refine o2_eqB ?_ | with_reducible refine o2_neB ?_ | with_reducible refine o2_eqS ?_ | with_reducible refine o2_neS ?_
  | ((with_reducible refine' o2_eqN ?hq ?_); (case hq => exact rfl); (try simp only [emp_map])) | ((with_reducible refine' o2_neN ?hq ?_); (case hq => exact rfl); (try simp only [emp_map]))
  | with_reducible refine o2_eqK ?_ | with_reducible refine o2_neK ?_
  | with_reducible refine o2_isBl ?_ | with_reducible refine o2_notBl ?_
  | with_reducible refine oa_dictI ?_ | with_reducible refine oa_max2 ?_ | with_reducible refine oa_min2 ?_
  | with_reducible refine oa_lenD ?_ | with_reducible refine oa_len (.seq rfl) ?_ | ((with_reducible refine' oa_len (.str ?hz) ?_); (case hz => omega)) | with_reducible refine oa_tupL rfl ?_ | with_reducible refine oa_tupT ?_
  | ((with_reducible refine' oa_isiG (b := true) ?ht ?hk ?_); (case ht => constructor); (case hk => decide +kernel)) | ((with_reducible refine' oa_isiG (b := false) ?ht ?hk ?_); (case ht => constructor); (case hk => decide +kernel))
  | with_reducible refine go_join ?_ | with_reducible refine go_split ?_ | with_reducible refine go_part ?_ | with_reducible refine go_starts ?_ | with_reducible refine oa_strS ?_ | with_reducible refine oa_intB ?_
  | with_reducible refine go_dget2 ?_ | with_reducible refine go_dget1 ?_ | with_reducible refine gog_lunO ?_ | with_reducible refine gogso_nil ?_ | ((with_reducible refine' gogso_name ?hi ?_); (case hi => exact Nat.le_of_ble_eq_true rfl); dsimp only [List.set]) | (refine ⟨Sum.inl _, by exact rfl, ?_⟩) | (refine ⟨Sum.inr _, by exact rfl, ?_⟩)
  | ((with_reducible refine' o2_ix (x := _) rfl ?hi ?_); (case hi => first | walk_at "ixx" | exact rfl | exact atI_ofN.trans rfl))
  | with_reducible refine go_sl3 ?_ | with_reducible refine go_sl ?_ | with_reducible refine goo_none ?_ | with_reducible refine goo_some ?_
  | with_reducible refine goi_rng1 ?_ | with_reducible refine goi_rng2 ?_ | with_reducible refine goi_seq ?_ | with_reducible refine goi_enum ?_ | with_reducible refine goi_zip ?_ | with_reducible refine goi_zipT ?_
  | with_reducible refine gos_for ?_
  | walk_at "lendx"
  | (simp only [fz_fl, fz_fk, fz_d, fzL_fl, fzK_d, O.fz, fzL])
  | ((with_reducible refine and_im (fun hc => ?_) (fun hc => ?_)) <;> try simp only [decide_eq_true_eq, decide_eq_false_iff_not, Bool.true_eq_false, Bool.false_eq_true, Bool.not_eq_true', Bool.not_eq_false', reduceCtorEq] at hc <;> try first | exact absurd hc (by decide) | exact absurd hc (by assumption) | exact absurd (by assumption) hc | exact absurd rfl hc)
  | walk_at "skc"
  | (refine ⟨_, _, _, _, rfl, by exact rfl, by exact rfl, ?_⟩) | (with_reducible refine ⟨_, _, rfl, ?_⟩) | (with_reducible refine ⟨_, _, _, rfl, ?_⟩) | (with_reducible refine ⟨_, _, _, _, rfl, ?_⟩) | (with_reducible refine ⟨_, _, _, _, _, rfl, ?_⟩) | (with_reducible refine ⟨_, _, _, _, _, _, rfl, ?_⟩)
  | ((with_reducible refine' And.intro ?hp ?_); (case hp => first | omega | assumption | exact rfl | exact Nat.le_of_ble_eq_true rfl | exact lfOLm (fun _ => rfl) | (show O.lf _ = true; simp only [O.lf, D.lf, lfL, lfOL, lf_mapI, Bool.and_true, Bool.and_self]; done)); (try dsimp only [List.set]))
  | ((refine' ⟨_, Sl.str ?hz, ?_⟩); (case hz => omega))
  | ((refine ⟨_, Sl.tupM (by decide) (List.cons_ne_nil _ _), ?_⟩); (try simp only [cutD_takeI, cutD_dropI, cutD_midI, Int.reduceToNat, Int.reduceLE, List.take_succ_cons, List.drop_succ_cons, List.take_zero, List.drop_zero]))
  | ((refine ⟨_, Sl.lst (by exact rfl), ?_⟩); (try simp only [SK.cutD_map, cutD_takeI, cutD_dropI, cutD_midI, ← List.map_take, ← List.map_drop, Int.reduceToNat, Int.reduceLE])) | (refine ⟨_, by exact rfl, ?_⟩) | (refine ⟨_, _, by exact rfl, by exact rfl, ?_⟩)
  | fail)
/-- all steps that no choice is asked of -/
local macro_rules | `(tactic| walk_at "sk") => `(tactic| (repeat' (walk_at "sk1")))
/-- .. and ifs that go on behind, each way by itself -/
local macro_rules | `(tactic| walk_at "skb") => `(tactic| (repeat' (first | walk_at "sk1" | with_reducible refine gos_seq ?_ | fail)))
/-- slots are as told -/
local macro_rules | `(tactic| walk_at "envq") => `(tactic| ((try simp only [List.map_append, List.map_cons, List.map_nil]); rfl))
/-- .. and what is plainly true falls away -/
local macro_rules | `(tactic| walk_at "wk") => `(tactic| (repeat' (first | walk_at "sk1" | (with_reducible refine ⟨trivial, ?_⟩) | fail)))
local macro_rules | `(tactic| walk_at "wkb") => `(tactic| (repeat' (first | walk_at "sk1" | (with_reducible refine ⟨trivial, ?_⟩) | with_reducible refine gos_seq ?_ | fail)))
def topS (i : Nat) : Stmt := PySem.Challenge.pw_skewhouse_k16_the_askers_own.main.body.getD i (.Pass ⟨0, 0, 0, 0⟩)
abbrev s_Shelf__put : Stmt := inCls (topS 6) 1
abbrev N_Shelf__put : List Str := ["self", "stamp", "dealing", "drafts", "key", "value"]
theorem sc_Shelf__put : FnScope N_Shelf__put ["self", "stamp", "dealing", "drafts"] (defScope s_Shelf__put) := ⟨rfl, rfl, rfl, by decide +kernel, rfl, by decide +kernel, by decide +kernel⟩
abbrev s__law_stream : Stmt := topS 9
abbrev N__law_stream : List Str := ["_law_cell", "_law_many", "_law_found", "_law_number", "_law_k"]
theorem sc__law_stream : FnScope N__law_stream ["_law_cell", "_law_many"] (defScope s__law_stream) := ⟨rfl, rfl, rfl, by decide +kernel, rfl, by decide +kernel, by decide +kernel⟩
abbrev s__law_great : Stmt := topS 10
abbrev N__law_great : List Str := ["_law_number"]
theorem sc__law_great : FnScope N__law_great ["_law_number"] (defScope s__law_great) := ⟨rfl, rfl, rfl, by decide +kernel, rfl, by decide +kernel, by decide +kernel⟩
abbrev s__law_value : Stmt := topS 12
abbrev N__law_value : List Str := ["_law_number"]
theorem sc__law_value : FnScope N__law_value ["_law_number"] (defScope s__law_value) := ⟨rfl, rfl, rfl, by decide +kernel, rfl, by decide +kernel, by decide +kernel⟩
abbrev s__law_key : Stmt := topS 11
abbrev N__law_key : List Str := ["_law_number", "_law_base"]
theorem sc__law_key : FnScope N__law_key ["_law_number", "_law_base"] (defScope s__law_key) := ⟨rfl, rfl, rfl, by decide +kernel, rfl, by decide +kernel, by decide +kernel⟩
abbrev s__law_first : Stmt := topS 14
abbrev N__law_first : List Str := ["_law_cell", "_law_base", "_law_xs", "_law_rows", "_law_j"]
theorem sc__law_first : FnScope N__law_first ["_law_cell", "_law_base"] (defScope s__law_first) := ⟨rfl, rfl, rfl, by decide +kernel, rfl, by decide +kernel, by decide +kernel⟩
abbrev s_Shelf__init : Stmt := inCls (topS 6) 0
abbrev N_Shelf__init : List Str := ["self", "rows", "key", "value"]
theorem sc_Shelf__init : FnScope N_Shelf__init ["self", "rows"] (defScope s_Shelf__init) := ⟨rfl, rfl, rfl, by decide +kernel, rfl, by decide +kernel, by decide +kernel⟩
abbrev s__law_draft : Stmt := topS 13
abbrev N__law_draft : List Str := ["_law_number"]
theorem sc__law_draft : FnScope N__law_draft ["_law_number"] (defScope s__law_draft) := ⟨rfl, rfl, rfl, by decide +kernel, rfl, by decide +kernel, by decide +kernel⟩
abbrev s__law_puts : Stmt := topS 15
abbrev N__law_puts : List Str := ["_law_cells", "_law_base", "_law_puts_here", "_law_stamp", "_law_cell", "_law_xs", "_law_drafts", "_law_j"]
theorem sc__law_puts : FnScope N__law_puts ["_law_cells", "_law_base"] (defScope s__law_puts) := ⟨rfl, rfl, rfl, by decide +kernel, rfl, by decide +kernel, by decide +kernel⟩
abbrev s__law_cell_at : Stmt := topS 8
abbrev N__law_cell_at : List Str := ["_law_script", "_law_k"]
theorem sc__law_cell_at : FnScope N__law_cell_at ["_law_script", "_law_k"] (defScope s__law_cell_at) := ⟨rfl, rfl, rfl, by decide +kernel, rfl, by decide +kernel, by decide +kernel⟩
abbrev s_Shelf__makers : Stmt := inCls (topS 6) 7
abbrev N_Shelf__makers : List Str := ["self", "key", "one"]
theorem sc_Shelf__makers : FnScope N_Shelf__makers ["self", "key"] (defScope s_Shelf__makers) := ⟨rfl, rfl, rfl, by decide +kernel, rfl, by decide +kernel, by decide +kernel⟩
abbrev s_inside : Stmt := topS 2
abbrev N_inside : List Str := ["key", "low", "high"]
theorem sc_inside : FnScope N_inside ["key", "low", "high"] (defScope s_inside) := ⟨rfl, rfl, rfl, by decide +kernel, rfl, by decide +kernel, by decide +kernel⟩
abbrev s_Shelf__touched : Stmt := inCls (topS 6) 6
abbrev N_Shelf__touched : List Str := ["self", "low", "high", "key"]
theorem sc_Shelf__touched : FnScope N_Shelf__touched ["self", "low", "high"] (defScope s_Shelf__touched) := ⟨rfl, rfl, rfl, by decide +kernel, rfl, by decide +kernel, by decide +kernel⟩
abbrev s_Shelf__make : Stmt := inCls (topS 6) 2
abbrev N_Shelf__make : List Str := ["self", "key", "stamp", "found", "one"]
theorem sc_Shelf__make : FnScope N_Shelf__make ["self", "key", "stamp"] (defScope s_Shelf__make) := ⟨rfl, rfl, rfl, by decide +kernel, rfl, by decide +kernel, by decide +kernel⟩
abbrev s_rows_of : Stmt := topS 3
abbrev N_rows_of : List Str := ["held", "key"]
theorem sc_rows_of : FnScope N_rows_of ["held"] (defScope s_rows_of) := ⟨rfl, rfl, rfl, by decide +kernel, rfl, by decide +kernel, by decide +kernel⟩
abbrev s_Shelf__there : Stmt := inCls (topS 6) 5
abbrev N_Shelf__there : List Str := ["self", "stamp", "held", "key"]
theorem sc_Shelf__there : FnScope N_Shelf__there ["self", "stamp"] (defScope s_Shelf__there) := ⟨rfl, rfl, rfl, by decide +kernel, rfl, by decide +kernel, by decide +kernel⟩
abbrev s_Shelf__rows : Stmt := inCls (topS 6) 4
abbrev N_Shelf__rows : List Str := ["self", "low", "high", "stamp", "held", "key"]
theorem sc_Shelf__rows : FnScope N_Shelf__rows ["self", "low", "high", "stamp"] (defScope s_Shelf__rows) := ⟨rfl, rfl, rfl, by decide +kernel, rfl, by decide +kernel, by decide +kernel⟩
abbrev s__law_there : Stmt := topS 16
abbrev N__law_there : List Str := ["_law_first_here", "_law_puts_here", "_law_stamp", "_law_held", "_law_when", "_law_dealing", "_law_drafts", "_law_key_here"]
theorem sc__law_there : FnScope N__law_there ["_law_first_here", "_law_puts_here", "_law_stamp"] (defScope s__law_there) := ⟨rfl, rfl, rfl, by decide +kernel, rfl, by decide +kernel, by decide +kernel⟩
abbrev s__law_spoiled : Stmt := topS 19
abbrev N__law_spoiled : List Str := ["_law_shelf", "_law_stamp", "_law_key_here", "_law_rows", "_law_there_here", "_law_makers_here", "_law_keys"]
theorem sc__law_spoiled : FnScope N__law_spoiled ["_law_shelf", "_law_stamp", "_law_key_here"] (defScope s__law_spoiled) := ⟨rfl, rfl, rfl, by decide +kernel, rfl, by decide +kernel, by decide +kernel⟩
abbrev s__law_touched : Stmt := topS 18
abbrev N__law_touched : List Str := ["_law_puts_here", "_law_keys", "_law_stamp", "_law_dealing", "_law_drafts"]
theorem sc__law_touched : FnScope N__law_touched ["_law_puts_here"] (defScope s__law_touched) := ⟨rfl, rfl, rfl, by decide +kernel, rfl, by decide +kernel, by decide +kernel⟩
abbrev s__law_makers : Stmt := topS 17
abbrev N__law_makers : List Str := ["_law_puts_here", "_law_key_here", "_law_stamp", "_law_dealing", "_law_drafts"]
theorem sc__law_makers : FnScope N__law_makers ["_law_puts_here", "_law_key_here"] (defScope s__law_makers) := ⟨rfl, rfl, rfl, by decide +kernel, rfl, by decide +kernel, by decide +kernel⟩
abbrev s__law_stands : Stmt := topS 20
abbrev N__law_stands : List Str := ["_law_shelf", "_law_first_here", "_law_puts_here", "_law_stamp", "_law_key_here", "_law_due"]
theorem sc__law_stands : FnScope N__law_stands ["_law_shelf", "_law_first_here", "_law_puts_here", "_law_stamp", "_law_key_here"] (defScope s__law_stands) := ⟨rfl, rfl, rfl, by decide +kernel, rfl, by decide +kernel, by decide +kernel⟩
abbrev s_law : Stmt := topS 21
abbrev N_law : List Str := ["_law_script", "_law_base", "_law_first_here", "_law_handed", "_law_one", "_law_other", "_law_puts_here", "_law_k", "_law_xs", "_law_far", "_law_key_here", "_law_stamp", "_law_dealing", "_law_drafts"]
theorem sc_law : FnScope N_law ["_law_script"] (defScope s_law) := ⟨rfl, rfl, rfl, by decide +kernel, rfl, by decide +kernel, by decide +kernel⟩
structure XF (K : PySem.W.Frag) (mg : Str → Option Value) (a_NO_MAKE a_Shelf : Addr) : Prop where
  g_NO_MAKE : mg "NO_MAKE" = some (.ref a_NO_MAKE)
  r_NO_MAKE : ∀ B, R K B (.ref a_NO_MAKE) (.tup [(.int 0), (.int 0), .non])
  R_Shelf : Rec K a_Shelf ["chains"]
  g_Shelf : mg "Shelf" = some (.ref a_Shelf)
def oiD : Option Int → SK.D
  | none => .non
  | some n => .int n
structure Mke where
  s : Int
  d : Int
  v : Option Int
abbrev mkD (m : Mke) : SK.D := .tup [.int m.s, .int m.d, oiD m.v]
abbrev chD (c : List Mke) : SK.D := .lst (c.map mkD)
abbrev chO (c : List Mke) : O := .ol ((c.map mkD).map O.d)
abbrev Shl := IM (List Mke)
def shF (l : Shl) : Fs := [("chains", .od (imO chO l))]
def shD (C : Addr) (l : Shl) : SK.D := .ins C [("chains", .dic (imK chD l))]
theorem shF_fz {a C : Addr} {l : Shl} : (O.oi a C (shF l)).fz = shD C l := by
  show D.ins C (fzF (shF l)) = _
  have : fzK (imO chO l) = imK chD l := imO_fz (f := chD) (fo := chO) (fun c => congrArg D.lst fzL_fl)
  simp only [shF, fzF, O.fz, this, shD]
theorem imI_fz {rows : IM Int} : (O.od (imO (fun x => O.d (.int x)) rows)).fz = .dic (imK D.int rows) := congrArg D.dic (imO_fz (f := D.int) (fo := fun x => O.d (.int x)) fun _ => rfl)
theorem imV_fz {rows : IM (Option Int)} : (O.od (imO (fun x => O.d (oiD x)) rows)).fz = .dic (imK oiD rows) := congrArg D.dic (imO_fz (f := oiD) (fo := fun x => O.d (oiD x)) fun _ => rfl)
local macro_rules | `(tactic| walk_at "lenx") => `(tactic| (rw [imO_len]; omega))
local macro_rules | `(tactic| walk_at "lendx") => `(tactic| simp only [fzE_cons, fzE_nil, frO_none, frO_some, shF_fz, imI_fz, imV_fz, List.set])
local macro_rules | `(tactic| walk_at "ixx") => `(tactic| assumption)
def noMk : Mke := ⟨0, 0, none⟩
def chn (l : Shl) (k : Int) : List Mke := (dval l k).getD []
def mkAt (c : List Mke) (s : Int) : Mke := (c.takeWhile fun m => decide (m.s ≤ s)).getLastD noMk
def put1 (l : Shl) (s d : Int) (p : Int × Option Int) : Shl := SK.dput l p.1 (chn l p.1 ++ [⟨s, d, p.2⟩])
def putS (l : Shl) (s d : Int) (dr : IM (Option Int)) : Shl := dr.foldl (fun l p => put1 l s d p) l
def initS (rows : IM Int) : Shl := rows.foldl (fun l p => SK.dput l p.1 [⟨0, 0, some p.2⟩]) []
theorem dval_ch {l : Shl} {k : Int} : (dval (imK chD l) (.inl k)).getD (.lst []) = chD (chn l k) := by
  rw [dval_im, chn]; cases dval l k <;> rfl
theorem lst_ch {l : Shl} {k : Int} : lstAt (imO chO l) (.inl k) (((chn l k).map mkD).map O.d) := by
  have := lstAt_im (l := l) (k := k) (fo := chO) (g := fun c => (c.map mkD).map O.d) (fun _ => rfl) (fun _ => trivial)
  rw [chn]; cases h : dval l k <;> rw [h] at this <;> exact this
theorem put_ch {l : Shl} {k s d : Int} {v : Option Int} : SK.fput "chains" (.od (SK.dput (imO chO l) (.inl k) (.ol (((chn l k).map mkD).map O.d ++ [O.d (mkD ⟨s, d, v⟩)])))) (shF l) = shF (put1 l s d (k, v)) := by
  have e : O.ol (((chn l k).map mkD).map O.d ++ [O.d (mkD ⟨s, d, v⟩)]) = chO (chn l k ++ [⟨s, d, v⟩]) := by simp [chO]
  rw [e, imO_put]; rfl
theorem ini_ch {l : Shl} {k v : Int} : SK.fput "chains" (.od (SK.dput (imO chO l) (.inl k) (.ol [O.d (.tup [.int 0, .int 0, .int v])]))) (shF l) = shF (SK.dput l k [⟨0, 0, some v⟩]) := by
  rw [show O.ol [O.d (.tup [.int 0, .int 0, .int v])] = chO [⟨0, 0, some v⟩] from rfl, imO_put]; rfl
theorem chn_put1 {l : Shl} {s d e : Int} {p : Int × Option Int} : chn (put1 l s d p) e = if e = p.1 then chn l e ++ [⟨s, d, p.2⟩] else chn l e := by
  unfold put1
  show ((dval (SK.dput l p.1 _) e).getD []) = _
  rw [dval_put]
  by_cases h : e = p.1
  · subst h; simp [chn]
  · simp [h, chn]
theorem put1_len {l : Shl} {s d : Int} {p : Int × Option Int} : (put1 l s d p).length ≤ l.length + 1 := dput_len
theorem foldl_at {α β : Type} (f : β → α → β) (z : β) (c : List α) (i : Nat) (x : α) (h : c[i]? = some x) : (c.take (i + 1)).foldl f z = f ((c.take i).foldl f z) x := by
  rw [List.take_add_one, h]
  simp [List.foldl_append]
theorem putS_len {s d : Int} : ∀ {dr : IM (Option Int)} {l : Shl}, (putS l s d dr).length ≤ l.length + dr.length
  | [], _ => Nat.le_refl _
  | p :: dr, l => by
    show (putS (put1 l s d p) s d dr).length ≤ _
    have h1 := putS_len (s := s) (d := d) (dr := dr) (l := put1 l s d p)
    have h2 := put1_len (l := l) (s := s) (d := d) (p := p)
    simp only [List.length_cons]; omega
theorem putS_ch {s d e : Int} : ∀ {dr : IM (Option Int)} {l : Shl}, (chn (putS l s d dr) e).length ≤ (chn l e).length + dr.length
  | [], _ => Nat.le_refl _
  | p :: dr, l => by
    show (chn (putS (put1 l s d p) s d dr) e).length ≤ _
    have h1 := putS_ch (s := s) (d := d) (e := e) (dr := dr) (l := put1 l s d p)
    rw [chn_put1] at h1
    simp only [List.length_cons]
    split at h1 <;> (try simp only [List.length_append, List.length_singleton] at h1) <;> omega
theorem chn_putS {s d e : Int} : ∀ {dr : IM (Option Int)} {l : Shl}, (dr.map (·.1)).Nodup → chn (putS l s d dr) e = chn l e ++ (match dval dr e with | some v => [⟨s, d, v⟩] | none => [])
  | [], l, _ => by show chn l e = _; simp [dval]
  | p :: dr, l, nd => by
    simp only [List.map_cons, List.nodup_cons] at nd
    show chn (putS (put1 l s d p) s d dr) e = _
    rw [chn_putS nd.2, chn_put1, dval_cons]
    by_cases h : e = p.1
    · subst h
      rw [dval_none.mpr nd.1]; simp
    · have : ¬ p.1 = e := fun z => h z.symm
      simp [h, this]
theorem chn_initS {e : Int} : ∀ {rows : IM Int}, (rows.map (·.1)).Nodup → chn (initS rows) e = match dval rows e with | some v => [⟨0, 0, some v⟩] | none => [] := by
  have go : ∀ (rows : IM Int) (l : Shl), (rows.map (·.1)).Nodup → chn (rows.foldl (fun l p => SK.dput l p.1 [⟨0, 0, some p.2⟩]) l) e = match dval rows e with | some v => [⟨0, 0, some v⟩] | none => chn l e := by
    intro rows
    induction rows with
    | nil => intro l _; rfl
    | cons p rows ih =>
      intro l nd
      simp only [List.map_cons, List.nodup_cons] at nd
      rw [List.foldl_cons, ih _ nd.2, dval_cons]
      by_cases h : p.1 = e
      · rw [if_pos h, ← h, dval_none.mpr nd.1]
        simp [chn, dval_put]
      · rw [if_neg h]
        have : ¬ e = p.1 := fun z => h z.symm
        cases dval rows e with
        | some v => rfl
        | none => simp [chn, dval_put, this]
  intro rows nd
  exact go rows [] nd
theorem initS_len {rows : IM Int} : (initS rows).length ≤ rows.length := by
  have go : ∀ (rows : IM Int) (l : Shl), (rows.foldl (fun l p => SK.dput l p.1 [⟨0, 0, some p.2⟩]) l).length ≤ l.length + rows.length := by
    intro rows
    induction rows with
    | nil => intro l; exact Nat.le_refl _
    | cons p rows ih =>
      intro l
      have h1 := ih (SK.dput l p.1 [⟨0, 0, some p.2⟩])
      have h2 := dput_len (kvs := l) (k := p.1) (v := [(⟨0, 0, some p.2⟩ : Mke)])
      simp only [List.foldl_cons, List.length_cons]; omega
  have := go rows []
  simpa [initS] using this
theorem getLastD_app {α : Type} {n : α} : ∀ {a b : List α}, (a ++ b).getLastD n = b.getLastD (a.getLastD n)
  | [], b => rfl
  | x :: a, b => by
    rw [List.cons_append, List.getLastD_cons, List.getLastD_cons, getLastD_app]
theorem mk_lf (m : Mke) : (O.d (mkD m)).lf = true := by
  obtain ⟨s, d, v⟩ := m
  cases v <;> rfl
theorem takeWhile_at {α : Type} {p : α → Bool} : ∀ {c : List α} {i : Nat} {x : α}, c[i]? = some x → (∀ z ∈ c.take i, p z = true) → p x = false → c.takeWhile p = c.take i
  | [], _, _, h, _, _ => by simp at h
  | y :: c, 0, x, h, _, hf => by simp at h; subst h; simp [hf]
  | y :: c, i + 1, x, h, ha, hf => by
    rw [List.take_succ_cons, List.takeWhile_cons, if_pos (ha y (by simp)), takeWhile_at (c := c) (by simpa using h) (fun z hz => ha z (by simp [hz])) hf]
theorem takeWhile_all {α : Type} {p : α → Bool} : ∀ {c : List α}, (∀ z ∈ c, p z = true) → c.takeWhile p = c
  | [], _ => rfl
  | y :: c, ha => by rw [List.takeWhile_cons, if_pos (ha y (by simp)), takeWhile_all fun z hz => ha z (by simp [hz])]
theorem getLastD_take {α : Type} {c : List α} {i : Nat} {x n : α} (h : c[i]? = some x) : (c.take (i + 1)).getLastD n = x := by
  rw [List.take_add_one, h]; simp
abbrev prD (p : Int × Int) : SK.D := .tup [.int p.1, .int p.2]
def inB (k lo hi : Int) : Bool := decide (lo ≤ k) && decide (k ≤ hi)
def jnv (h : IM (Option Int)) (k : Int) : Option Int := (dval h k).join
def rowsG (ks : List Int) (g : Int → Option Int) : List (Int × Int) := ks.filterMap fun k => (g k).map fun v => (k, v)
def rowsOf (h : IM (Option Int)) : List (Int × Int) := rowsG (srt (h.map (·.1))) (jnv h)
def layP (lo hi : Int) (h : IM (Option Int)) (p : Int × Option Int) : IM (Option Int) := if inB p.1 lo hi then SK.dput h p.1 p.2 else h
theorem shp_pr (p : Int × Int) : Shp 1 (prD p) := Shp.tup fun x hx => by
  simp only [List.mem_cons, List.not_mem_nil, or_false] at hx
  rcases hx with rfl | rfl <;> exact Shp.int
theorem rows_eq {h : IM (Option Int)} : ∀ {ks : List Int}, ((ks.filter fun k => (jnv h k).isSome).map fun k => SK.D.tup [.int k, oiD (jnv h k)]) = (rowsG ks (jnv h)).map prD
  | [] => rfl
  | k :: ks => by
    have ih := rows_eq (h := h) (ks := ks)
    unfold rowsG at ih ⊢
    cases e : jnv h k with
    | none => simp only [List.filter_cons, e, Option.isSome_none, Bool.false_eq_true, if_false, List.filterMap_cons, Option.map_none]; exact ih
    | some v =>
      simp only [List.filter_cons, e, Option.isSome_some, if_true, List.filterMap_cons, Option.map_some, List.map_cons]
      exact congrArg _ ih
theorem layP_len {lo hi : Int} {h : IM (Option Int)} {p : Int × Option Int} : (layP lo hi h p).length ≤ h.length + 1 := by
  unfold layP; split
  · exact dput_len
  · omega
theorem layP_nd {lo hi : Int} {h : IM (Option Int)} {p : Int × Option Int} (n : (h.map (·.1)).Nodup) : ((layP lo hi h p).map (·.1)).Nodup := by
  unfold layP; split
  · exact dput_nodup n
  · exact n
theorem layF_len {lo hi : Int} : ∀ {l : IM (Option Int)} {h : IM (Option Int)}, (l.foldl (layP lo hi) h).length ≤ h.length + l.length
  | [], _ => Nat.le_refl _
  | p :: l, h => by
    rw [List.foldl_cons, List.length_cons]
    have h1 := layF_len (lo := lo) (hi := hi) (l := l) (h := layP lo hi h p)
    have h2 := layP_len (lo := lo) (hi := hi) (h := h) (p := p)
    omega
theorem layF_nd {lo hi : Int} : ∀ {l : IM (Option Int)} {h : IM (Option Int)}, (h.map (·.1)).Nodup → ((l.foldl (layP lo hi) h).map (·.1)).Nodup
  | [], _, n => n
  | p :: l, h, n => by rw [List.foldl_cons]; exact layF_nd (layP_nd n)
theorem layF_val {lo hi k : Int} : ∀ {l : IM (Option Int)} {h : IM (Option Int)}, (l.map (·.1)).Nodup → dval (l.foldl (layP lo hi) h) k = if inB k lo hi then (match dval l k with | some v => some v | none => dval h k) else dval h k
  | [], h, _ => by
    show dval h k = _
    cases inB k lo hi <;> rfl
  | p :: l, h, n => by
    simp only [List.map_cons, List.nodup_cons] at n
    rw [List.foldl_cons, layF_val n.2, dval_cons]
    unfold layP
    by_cases e : p.1 = k
    · subst e
      rw [if_pos rfl, dval_none.mpr n.1]
      by_cases q : inB p.1 lo hi = true
      · rw [if_pos q, if_pos q, if_pos q, dval_put, if_pos rfl]
      · rw [if_neg q, if_neg q, if_neg q]
    · rw [if_neg e]
      have e' : ¬ k = p.1 := fun z => e z.symm
      by_cases q : inB p.1 lo hi = true
      · rw [if_pos q, dval_put, if_neg e']
      · rw [if_neg q]
theorem rise_of {l : List Int} (h : l.Pairwise (· ≤ ·)) (n : l.Nodup) : l.Pairwise (· < ·) := by
  have := h.and n
  exact this.imp fun ⟨a, b⟩ => by have : _ ≠ _ := b; omega
theorem srt_rise {l : List Int} (n : l.Nodup) : (srt l).Pairwise (· < ·) := rise_of (srt_le l) ((srt_perm l).nodup_iff.mpr n)
theorem rowsG_supp {g : Int → Option Int} : ∀ {ks : List Int}, rowsG ks g = rowsG (ks.filter fun k => (g k).isSome) g
  | [] => rfl
  | k :: ks => by
    have ih := rowsG_supp (g := g) (ks := ks)
    unfold rowsG at ih ⊢
    cases e : g k with
    | none => simp only [List.filter_cons, e, Option.isSome_none, Bool.false_eq_true, if_false, List.filterMap_cons, Option.map_none]; exact ih
    | some v => simp only [List.filter_cons, e, Option.isSome_some, if_true, List.filterMap_cons, Option.map_some]; rw [ih]
theorem rowsG_same {g : Int → Option Int} {ks js : List Int} (h1 : ks.Pairwise (· < ·)) (h2 : js.Pairwise (· < ·)) (h : ∀ k, (g k).isSome = true → (k ∈ ks ↔ k ∈ js)) : rowsG ks g = rowsG js g := by
  rw [rowsG_supp (ks := ks), rowsG_supp (ks := js)]
  congr 1
  refine rise_same (h1.filter _) (h2.filter _) fun k => ?_
  rw [List.mem_filter, List.mem_filter]
  exact ⟨fun ⟨a, b⟩ => ⟨(h k b).mp a, b⟩, fun ⟨a, b⟩ => ⟨(h k b).mpr a, b⟩⟩
theorem rowsG_cong {g f : Int → Option Int} {ks : List Int} (h : ∀ k, g k = f k) : rowsG ks g = rowsG ks f := by rw [show g = f from funext h]
theorem jnv_mem {h : IM (Option Int)} {k : Int} (q : (jnv h k).isSome = true) : k ∈ h.map (·.1) := by
  rw [← dval_mem]; unfold jnv at q
  cases e : dval h k with
  | none => rw [e] at q; cases q
  | some v => rfl
theorem rowsOf_G {h : IM (Option Int)} {g : Int → Option Int} {ks : List Int} (n : (h.map (·.1)).Nodup) (hg : ∀ k, jnv h k = g k) (hk : ks.Pairwise (· < ·)) (hs : ∀ k, (g k).isSome = true → k ∈ ks) : rowsOf h = rowsG ks g := by
  unfold rowsOf
  rw [rowsG_cong hg]
  refine rowsG_same (srt_rise n) hk fun k q => ⟨fun _ => hs k q, fun _ => ?_⟩
  rw [srt_mem]; exact jnv_mem (by rw [hg]; exact q)
theorem rowsG_len {g : Int → Option Int} {ks : List Int} : (rowsG ks g).length ≤ ks.length := List.length_filterMap_le _ _
theorem rowsOf_len {h : IM (Option Int)} : (rowsOf h).length ≤ h.length := by
  have := rowsG_len (ks := srt (h.map (·.1))) (g := jnv h)
  rw [srt_len, List.length_map] at this
  exact this
theorem foldl_at' {α β : Type} (f : β → α → β) (z : β) (c : List α) (i : Nat) (x : α) (h : c[i]? = some x) : (c.take (i + 1)).foldl f z = f ((c.take i).foldl f z) x := by
  rw [List.take_add_one, h]
  simp [List.foldl_append]
structure Pt where
  s : Int
  d : Int
  dr : IM (Option Int)
abbrev ptD (p : Pt) : SK.D := .tup [.int p.s, .int p.d, .dic (imK oiD p.dr)]
def kOk (k : Int) : Prop := 1 - 10 ^ 30 ≤ k ∧ k ≤ 10 ^ 30 - 1
structure PsOk (ps : List Pt) : Prop where
  up : ps.Pairwise fun a b => a.s < b.s
  lo : ∀ p ∈ ps, 1 ≤ p.s
  hi : ∀ p ∈ ps, p.s ≤ 10 ^ 30 - 1
  nd : ∀ p ∈ ps, (p.dr.map (·.1)).Nodup
  ln : ∀ p ∈ ps, p.dr.length ≤ 60
  kb : ∀ p ∈ ps, ∀ k ∈ p.dr.map (·.1), kOk k
  len : ps.length ≤ 40
  dp : ∀ p ∈ ps, 1 ≤ p.d
def fst1 (rows : IM Int) (k : Int) : List Mke := match dval rows k with | some v => [⟨0, 0, some v⟩] | none => []
def mkOf (k : Int) (p : Pt) : Option Mke := (dval p.dr k).map fun v => ⟨p.s, p.d, v⟩
def mks (rows : IM Int) (ps : List Pt) (k : Int) : List Mke := fst1 rows k ++ ps.filterMap (mkOf k)
structure Hld (l : Shl) (rows : IM Int) (ps : List Pt) : Prop where
  ch : ∀ k, chn l k = mks rows ps k
  ln : l.length ≤ 100 + 60 * ps.length
def dstep (k s : Int) (m : Mke) (p : Pt) : Mke := if p.s ≤ s then (mkOf k p).getD m else m
def due (rows : IM Int) (ps : List Pt) (k s : Int) : Mke := ps.foldl (dstep k s) ((fst1 rows k).getLastD noMk)
theorem fold_tw (s : Int) : ∀ (c : List Mke) (n : Mke), c.Pairwise (fun a b => a.s ≤ b.s) → c.foldl (fun m x => if x.s ≤ s then x else m) n = (c.takeWhile fun m => decide (m.s ≤ s)).getLastD n
  | [], n, _ => rfl
  | x :: c, n, h => by
    rw [List.pairwise_cons] at h
    rw [List.foldl_cons, List.takeWhile_cons]
    by_cases q : x.s ≤ s
    · rw [if_pos q, if_pos (by simpa using q), fold_tw s c x h.2]
      cases c.takeWhile fun m => decide (m.s ≤ s) <;> rfl
    · rw [if_neg q, if_neg (by simpa using q)]
      have : ∀ (c : List Mke), (∀ y ∈ c, x.s ≤ y.s) → c.foldl (fun m x => if x.s ≤ s then x else m) n = n := by
        intro c
        induction c with
        | nil => intro _; rfl
        | cons y c ih =>
          intro hc
          have := hc y (by simp)
          rw [List.foldl_cons, if_neg (by omega)]
          exact ih fun z hz => hc z (by simp [hz])
      exact this c h.1
theorem due_fold {rows : IM Int} {ps : List Pt} {k s : Int} : due rows ps k s = (ps.filterMap (mkOf k)).foldl (fun m x => if x.s ≤ s then x else m) ((fst1 rows k).getLastD noMk) := by
  rw [List.foldl_filterMap, due]
  congr 1
  funext m p
  unfold dstep mkOf
  cases dval p.dr k <;> simp
theorem mks_up {ps : List Pt} {k : Int} (h : PsOk ps) : (ps.filterMap (mkOf k)).Pairwise fun a b => a.s ≤ b.s := by
  rw [List.pairwise_filterMap]
  refine h.up.imp ?_
  intro a b hab x hx y hy
  unfold mkOf at hx hy
  cases q : dval a.dr k with
  | none => rw [q] at hx; cases hx
  | some v =>
    cases r : dval b.dr k with
    | none => rw [r] at hy; cases hy
    | some u => rw [q] at hx; rw [r] at hy; cases hx; cases hy; show a.s ≤ b.s; omega
theorem fst1_0 {rows : IM Int} {k : Int} : ∀ m ∈ fst1 rows k, m.s = 0 := by
  intro m hm
  unfold fst1 at hm
  split at hm
  · rw [List.mem_singleton.mp hm]
  · cases hm
theorem due_at {rows : IM Int} {ps : List Pt} {k s : Int} (h : PsOk ps) (h0 : 0 ≤ s) : mkAt (mks rows ps k) s = due rows ps k s := by
  rw [due_fold, fold_tw s _ _ (mks_up h), mkAt, mks, List.takeWhile_append_of_pos (fun m hm => by rw [fst1_0 m hm]; simpa using h0), getLastD_app]
theorem mks_put {rows : IM Int} {ps : List Pt} {p : Pt} {k : Int} : mks rows (ps ++ [p]) k = mks rows ps k ++ (match dval p.dr k with | some v => [⟨p.s, p.d, v⟩] | none => []) := by
  rw [mks, List.filterMap_append, ← List.append_assoc, ← mks]
  congr 1
  cases h : dval p.dr k <;> simp [mkOf, h]
theorem mks_len {rows : IM Int} {ps : List Pt} {k : Int} : (mks rows ps k).length ≤ 1 + ps.length := by
  rw [mks, List.length_append]
  have h1 := List.length_filterMap_le (mkOf k) ps
  have h2 : (fst1 rows k).length ≤ 1 := by unfold fst1; split <;> simp
  omega
theorem Hld.put {l : Shl} {rows : IM Int} {ps : List Pt} {p : Pt} (h : Hld l rows ps) (nd : (p.dr.map (·.1)).Nodup) (hl : p.dr.length ≤ 60) : Hld (putS l p.s p.d p.dr) rows (ps ++ [p]) where
  ch := fun k => by rw [chn_putS nd, h.ch, mks_put]
  ln := by
    have h1 := putS_len (s := p.s) (d := p.d) (dr := p.dr) (l := l)
    have h2 := h.ln
    rw [List.length_append, List.length_singleton]; omega
theorem Hld.ini {rows : IM Int} (nd : (rows.map (·.1)).Nodup) (hl : rows.length ≤ 100) : Hld (initS rows) rows [] where
  ch := fun k => by rw [chn_initS nd, mks, List.filterMap_nil, List.append_nil, fst1]
  ln := Nat.le_trans initS_len hl
theorem PsOk.nil : PsOk [] := ⟨.nil, by simp, by simp, by simp, by simp, by simp, by simp, by simp⟩
theorem PsOk.take {ps : List Pt} (h : PsOk ps) (i : Nat) : PsOk (ps.take i) := ⟨h.up.sublist (List.take_sublist i ps), fun p hp => h.lo p (List.mem_of_mem_take hp), fun p hp => h.hi p (List.mem_of_mem_take hp), fun p hp => h.nd p (List.mem_of_mem_take hp), fun p hp => h.ln p (List.mem_of_mem_take hp), fun p hp => h.kb p (List.mem_of_mem_take hp), by rw [List.length_take]; have := h.len; omega, fun p hp => h.dp p (List.mem_of_mem_take hp)⟩
theorem PsOk.snoc {ps : List Pt} {p : Pt} (h : PsOk ps) (h1 : ∀ q ∈ ps, q.s < p.s) (h2 : 1 ≤ p.s) (h3 : p.s ≤ 10 ^ 30 - 1) (h4 : (p.dr.map (·.1)).Nodup) (h5 : p.dr.length ≤ 60) (h5' : ∀ k ∈ p.dr.map (·.1), kOk k) (h6 : ps.length < 40) (h7 : 1 ≤ p.d) : PsOk (ps ++ [p]) := by
  have mm : ∀ (Q : Pt → Prop), (∀ q ∈ ps, Q q) → Q p → ∀ q ∈ ps ++ [p], Q q := fun Q a b q hq => by
    rcases List.mem_append.mp hq with h | h
    · exact a q h
    · rw [List.mem_singleton.mp h]; exact b
  refine ⟨?_, mm _ h.lo h2, mm _ h.hi h3, mm _ h.nd h4, mm _ h.ln h5, mm _ h.kb h5', by rw [List.length_append, List.length_singleton]; omega, mm _ h.dp h7⟩
  rw [List.pairwise_append]
  exact ⟨h.up, List.pairwise_singleton _ _, fun a ha b hb => by rw [List.mem_singleton.mp hb]; exact h1 a ha⟩
theorem initS_nd {rows : IM Int} : ((initS rows).map (·.1)).Nodup := by
  have go : ∀ (rows : IM Int) (l : Shl), (l.map (·.1)).Nodup → ((rows.foldl (fun l p => SK.dput l p.1 [⟨0, 0, some p.2⟩]) l).map (·.1)).Nodup := by
    intro rows
    induction rows with
    | nil => intro l h; exact h
    | cons p rows ih => intro l h; exact ih _ (dput_nodup h)
  exact go rows [] List.nodup_nil
theorem putS_nd {s d : Int} : ∀ {dr : IM (Option Int)} {l : Shl}, (l.map (·.1)).Nodup → ((putS l s d dr).map (·.1)).Nodup
  | [], _, h => h
  | p :: dr, l, h => by
    show ((putS (put1 l s d p) s d dr).map (·.1)).Nodup
    exact putS_nd (dput_nodup h)
theorem PsOk.set {ps : List Pt} (h : PsOk ps) {j : Nat} {p q : Pt} (hp : ps[j]? = some p) (e1 : q.s = p.s) (e2 : q.d = p.d) (h3 : (q.dr.map (·.1)).Nodup) (h4 : q.dr.length ≤ 60) (h5 : ∀ k ∈ q.dr.map (·.1), kOk k) : PsOk (ps.set j q) := by
  have hpm := List.mem_of_getElem? hp
  have mm : ∀ (Q : Pt → Prop), (∀ x ∈ ps, Q x) → Q q → ∀ x ∈ ps.set j q, Q x := fun Q a b x hx => by
    rcases List.mem_or_eq_of_mem_set hx with z | z
    · exact a x z
    · rw [z]; exact b
  have es : (ps.set j q).map (·.s) = ps.map (·.s) := by
    rw [List.map_set, e1]
    refine List.ext_getElem? fun i => ?_
    rw [List.getElem?_set]
    split
    · rename_i z
      subst z
      split
      · rw [List.getElem?_map, hp]; rfl
      · rename_i z; exact absurd (by simpa using (List.getElem?_eq_some_iff.mp hp).1) z
    · rfl
  refine ⟨?_, mm _ h.lo (by rw [e1]; exact h.lo p hpm), mm _ h.hi (by rw [e1]; exact h.hi p hpm), mm _ h.nd h3, mm _ h.ln h4, mm _ h.kb h5, by rw [List.length_set]; exact h.len, mm _ h.dp (by rw [e2]; exact h.dp p hpm)⟩
  have := h.up
  rw [← List.pairwise_map (f := fun p : Pt => p.s) (R := fun a b => a < b)] at this ⊢
  rw [es]; exact this
def mkrs (c : List Mke) : List Int := (c.filter fun m => decide (m.d > 0)).map (·.d)
def tchd (l : Shl) (lo hi : Int) : List Int := (srt (l.map (·.1))).filter fun k => inB k lo hi && !(mkrs (chn l k)).isEmpty
theorem chn_ne {l : Shl} {k : Int} (h : chn l k ≠ []) : k ∈ l.map (·.1) := by
  rw [← dval_mem]
  unfold chn at h
  cases e : dval l k with
  | none => rw [e] at h; exact absurd rfl h
  | some c => rfl
def dmk (ps : List Pt) (k : Int) : List Int := (ps.filter fun p => (dval p.dr k).isSome).map (·.d)
theorem mkrs_mks {rows : IM Int} {ps : List Pt} {k : Int} (h : ∀ p ∈ ps, 1 ≤ p.d) : mkrs (mks rows ps k) = dmk ps k := by
  have h1 : (fst1 rows k).filter (fun m => decide (m.d > 0)) = [] := by
    unfold fst1; split <;> rfl
  unfold mkrs mks
  rw [List.filter_append, h1, List.nil_append]
  induction ps with
  | nil => rfl
  | cons p ps ih =>
    have hp := h p (by simp)
    have ih := ih fun q hq => h q (by simp [hq])
    unfold dmk at ih ⊢
    cases e : dval p.dr k with
    | none =>
      rw [List.filterMap_cons_none (by unfold mkOf; rw [e]; rfl), List.filter_cons_of_neg (by rw [e]; decide)]; exact ih
    | some v =>
      rw [List.filterMap_cons_some (b := ⟨p.s, p.d, v⟩) (by unfold mkOf; rw [e]; rfl), List.filter_cons_of_pos (by show decide (p.d > 0) = true; exact decide_eq_true (by omega)), List.filter_cons_of_pos (by rw [e]; rfl), List.map_cons, List.map_cons, ih]
theorem dmk_ne {ps : List Pt} {k : Int} : (dmk ps k).isEmpty = false ↔ ∃ p ∈ ps, k ∈ p.dr.map (·.1) := by
  rw [List.isEmpty_eq_false_iff_exists_mem]
  unfold dmk
  constructor
  · rintro ⟨x, hx⟩
    obtain ⟨p, hp, _⟩ := List.mem_map.mp hx
    obtain ⟨h1, h2⟩ := List.mem_filter.mp hp
    exact ⟨p, h1, dval_mem.mp h2⟩
  · rintro ⟨p, hp, hk⟩
    exact ⟨p.d, List.mem_map.mpr ⟨p, List.mem_filter.mpr ⟨hp, dval_mem.mpr hk⟩, rfl⟩⟩
theorem tchd_eq {l : Shl} {rows : IM Int} {ps : List Pt} {lo hi : Int} {ms : List Int} (hn : (l.map (·.1)).Nodup) (hc : ∀ k, chn l k = mks rows ps k) (h : ∀ p ∈ ps, 1 ≤ p.d) (hr : ms.Pairwise (· < ·)) (hm : ∀ k, k ∈ ms ↔ inB k lo hi = true ∧ ∃ p ∈ ps, k ∈ p.dr.map (·.1)) : tchd l lo hi = ms := by
  refine rise_same ((srt_rise hn).filter _) hr fun k => ?_
  unfold tchd
  rw [hm, List.mem_filter, Bool.and_eq_true, Bool.not_eq_true', hc, mkrs_mks h, dmk_ne, srt_mem]
  refine ⟨fun ⟨a, b, c⟩ => ⟨b, c⟩, fun ⟨b, c⟩ => ⟨?_, b, c⟩⟩
  refine chn_ne fun e => ?_
  have := dmk_ne.mpr c
  rw [← mkrs_mks (rows := rows) h, ← hc, e] at this
  cases this
def vals (l : Shl) (s : Int) : IM (Option Int) := l.map fun p => (p.1, (mkAt (chn l p.1) s).v)
def rowsH (l : Shl) (lo hi s : Int) : IM (Option Int) := (vals l s).foldl (layP lo hi) []
def thereH (l : Shl) (s : Int) : IM (Option Int) := (vals l s).foldl (fun h p => SK.dput h p.1 p.2) []
theorem vals_keys {l : Shl} {s : Int} : (vals l s).map (·.1) = l.map (·.1) := by unfold vals; rw [List.map_map]; rfl
theorem vals_val {l : Shl} {s k : Int} : dval (vals l s) k = (dval l k).map fun _ => (mkAt (chn l k) s).v := by
  have go : ∀ (r : Shl), dval (r.map fun p => (p.1, (mkAt (chn l p.1) s).v)) k = (dval r k).map fun _ => (mkAt (chn l k) s).v := by
    intro r
    induction r with
    | nil => rfl
    | cons p r ih =>
      rw [List.map_cons, dval_cons, dval_cons, ih]
      by_cases e : p.1 = k
      · subst e; rw [if_pos rfl, if_pos rfl]; rfl
      · rw [if_neg e, if_neg e]
  exact go l
theorem vals_j {l : Shl} {s k : Int} : jnv (vals l s) k = (mkAt (chn l k) s).v := by
  unfold jnv
  rw [vals_val]
  unfold chn
  cases dval l k <;> rfl
theorem fold_put_val {k : Int} : ∀ {l : IM (Option Int)} {h : IM (Option Int)}, (l.map (·.1)).Nodup → dval (l.foldl (fun h p => SK.dput h p.1 p.2) h) k = match dval l k with | some v => some v | none => dval h k
  | [], h, _ => rfl
  | p :: l, h, n => by
    simp only [List.map_cons, List.nodup_cons] at n
    rw [List.foldl_cons, fold_put_val n.2, dval_cons]
    by_cases e : p.1 = k
    · subst e; rw [if_pos rfl, dval_none.mpr n.1, dval_put, if_pos rfl]
    · rw [if_neg e, dval_put, if_neg (fun z => e z.symm)]
theorem fold_put_nd : ∀ {l : IM (Option Int)} {h : IM (Option Int)}, (h.map (·.1)).Nodup → ((l.foldl (fun h p => SK.dput h p.1 p.2) h).map (·.1)).Nodup
  | [], _, n => n
  | p :: l, h, n => by rw [List.foldl_cons]; exact fold_put_nd (dput_nodup n)
theorem fold_put_len : ∀ {l : IM (Option Int)} {h : IM (Option Int)}, (l.foldl (fun h p => SK.dput h p.1 p.2) h).length ≤ h.length + l.length
  | [], _ => Nat.le_refl _
  | p :: l, h => by
    rw [List.foldl_cons, List.length_cons]
    have h1 := fold_put_len (l := l) (h := SK.dput h p.1 p.2)
    have h2 := dput_len (kvs := h) (k := p.1) (v := p.2)
    omega
theorem vals_len {l : Shl} {s : Int} : (vals l s).length = l.length := by unfold vals; rw [List.length_map]
theorem rowsH_j {l : Shl} {lo hi s k : Int} (hn : (l.map (·.1)).Nodup) : jnv (rowsH l lo hi s) k = if inB k lo hi then (mkAt (chn l k) s).v else none := by
  unfold jnv rowsH
  rw [layF_val (by rw [vals_keys]; exact hn)]
  have e := vals_j (l := l) (s := s) (k := k)
  unfold jnv at e
  cases inB k lo hi with
  | false => rfl
  | true =>
    simp only [if_true]
    rw [← e]
    cases dval (vals l s) k <;> rfl
theorem thereH_j {l : Shl} {s k : Int} (hn : (l.map (·.1)).Nodup) : jnv (thereH l s) k = (mkAt (chn l k) s).v := by
  unfold jnv thereH
  rw [fold_put_val (by rw [vals_keys]; exact hn)]
  have e := vals_j (l := l) (s := s) (k := k)
  unfold jnv at e
  rw [← e]
  cases dval (vals l s) k <;> rfl
theorem rowsH_nd {l : Shl} {lo hi s : Int} : ((rowsH l lo hi s).map (·.1)).Nodup := layF_nd List.nodup_nil
theorem thereH_nd {l : Shl} {s : Int} : ((thereH l s).map (·.1)).Nodup := fold_put_nd List.nodup_nil
theorem rowsH_len {l : Shl} {lo hi s : Int} : (rowsH l lo hi s).length ≤ l.length := by
  have := layF_len (lo := lo) (hi := hi) (l := vals l s) (h := [])
  rw [vals_len] at this; simpa [rowsH] using this
theorem thereH_len {l : Shl} {s : Int} : (thereH l s).length ≤ l.length := by
  have := fold_put_len (l := vals l s) (h := [])
  rw [vals_len] at this; simpa [thereH] using this
/-- what stands, as a dict: the last value of each key that a put gave, else the first row's -/
abbrev HM := IM (Option Int)
def upH (h dr : HM) : HM := dr.foldl (fun h p => SK.dput h p.1 p.2) h
def so1 (rows : IM Int) : HM := rows.map fun p => (p.1, some p.2)
structure St where
  s : Int
  h : HM
theorem imO_so {rows : IM Int} : imO (fun x => O.d (SK.D.int x)) rows = imO (fun x => O.d (oiD x)) (so1 rows) := by
  unfold imO so1; rw [List.map_map]; rfl
theorem so1_keys {rows : IM Int} : (so1 rows).map (·.1) = rows.map (·.1) := by unfold so1; rw [List.map_map]; rfl
theorem so1_val {rows : IM Int} {k : Int} : jnv (so1 rows) k = dval rows k := by
  have : ∀ r : IM Int, dval (so1 r) k = (dval r k).map some := by
    intro r
    induction r with
    | nil => rfl
    | cons p r ih =>
      show dval ((p.1, some p.2) :: so1 r) k = _
      rw [dval_cons, dval_cons, ih]
      by_cases e : p.1 = k
      · rw [if_pos e, if_pos e]; rfl
      · rw [if_neg e, if_neg e]
  unfold jnv; rw [this]; cases dval rows k <;> rfl
theorem upH_nd {h dr : HM} (n : (h.map (·.1)).Nodup) : ((upH h dr).map (·.1)).Nodup := fold_put_nd n
theorem upH_j {h dr : HM} {k : Int} (n : (dr.map (·.1)).Nodup) : jnv (upH h dr) k = match dval dr k with | some v => v | none => jnv h k := by
  unfold jnv upH
  rw [fold_put_val n]
  cases dval dr k <;> rfl
theorem upH_len {h dr : HM} : (upH h dr).length ≤ h.length + dr.length := fold_put_len
theorem imO_upd {dr : HM} : ∀ {h : HM}, (imK oiD dr).foldl (fun acc p => SK.dput acc p.1 (O.d p.2)) (imO (fun x => O.d (oiD x)) h) = imO (fun x => O.d (oiD x)) (upH h dr) := by
  induction dr with
  | nil => intro h; rfl
  | cons p dr ih =>
    intro h
    show (imK oiD dr).foldl _ (SK.dput (imO (fun x => O.d (oiD x)) h) (.inl p.1) (O.d (oiD p.2))) = _
    rw [imO_put (fo := fun x => O.d (oiD x)), ih]; rfl
theorem rowsOf_eq {h g : HM} (n1 : (h.map (·.1)).Nodup) (n2 : (g.map (·.1)).Nodup) (hj : ∀ k, jnv h k = jnv g k) : rowsOf h = rowsOf g :=
  rowsOf_G n1 hj (srt_rise n2) fun k q => srt_mem.mpr (jnv_mem q)
theorem so1_nd {rs : IM Int} (n : (rs.map (·.1)).Nodup) : ((so1 rs).map (·.1)).Nodup := by rw [so1_keys]; exact n
theorem there_eq {l : Shl} {rows : IM Int} {ps : List Pt} {s : Int} {h : HM} (hn : (l.map (·.1)).Nodup) (hc : ∀ k, chn l k = mks rows ps k) (hh : (h.map (·.1)).Nodup) (hj : ∀ k, jnv h k = (mkAt (mks rows ps k) s).v) : rowsOf (thereH l s) = rowsOf h :=
  rowsOf_eq thereH_nd hh fun k => by rw [thereH_j hn, hc, hj]
def thr (rows : IM Int) (ps : List Pt) (s : Int) : HM := ps.foldl (fun h p => if p.s ≤ s then upH h p.dr else h) (so1 rows)
theorem thr_g {s k : Int} : ∀ {ps : List Pt} {h : HM} {m : Mke}, (∀ p ∈ ps, (p.dr.map (·.1)).Nodup) → jnv h k = m.v → jnv (ps.foldl (fun h p => if p.s ≤ s then upH h p.dr else h) h) k = (ps.foldl (dstep k s) m).v
  | [], _, _, _, e => e
  | p :: ps, h, m, n, e => by
    rw [List.foldl_cons, List.foldl_cons]
    refine thr_g (fun q hq => n q (List.mem_cons_of_mem _ hq)) ?_
    unfold dstep
    split
    · rw [upH_j (n p List.mem_cons_self), mkOf]
      cases dval p.dr k with
      | some v => rfl
      | none => exact e
    · exact e
theorem thr_j {rows : IM Int} {ps : List Pt} {s k : Int} (ok : PsOk ps) (h0 : 0 ≤ s) : jnv (thr rows ps s) k = (mkAt (mks rows ps k) s).v := by
  rw [due_at ok h0]
  refine thr_g ok.nd ?_
  rw [so1_val]
  unfold fst1
  cases dval rows k <;> rfl
theorem thr_gnd {s : Int} : ∀ {ps : List Pt} {h : HM}, (h.map (·.1)).Nodup → ((ps.foldl (fun h p => if p.s ≤ s then upH h p.dr else h) h).map (·.1)).Nodup
  | [], _, n => n
  | p :: ps, h, n => by
    rw [List.foldl_cons]
    refine thr_gnd ?_
    split
    · exact upH_nd n
    · exact n
theorem thr_nd {rows : IM Int} {ps : List Pt} {s : Int} (n : (rows.map (·.1)).Nodup) : ((thr rows ps s).map (·.1)).Nodup := thr_gnd (so1_nd n)
theorem thr_glen {s : Int} : ∀ {ps : List Pt} {h : HM}, (∀ p ∈ ps, p.dr.length ≤ 60) → (ps.foldl (fun h p => if p.s ≤ s then upH h p.dr else h) h).length ≤ h.length + 60 * ps.length
  | [], h, _ => by simp
  | p :: ps, h, q => by
    rw [List.foldl_cons, List.length_cons]
    have h3 := q p List.mem_cons_self
    have h2 := upH_len (h := h) (dr := p.dr)
    by_cases c : p.s ≤ s
    · rw [if_pos c]
      have h1 := thr_glen (s := s) (ps := ps) (h := upH h p.dr) fun x hx => q x (List.mem_cons_of_mem _ hx)
      omega
    · rw [if_neg c]
      have h1 := thr_glen (s := s) (ps := ps) (h := h) fun x hx => q x (List.mem_cons_of_mem _ hx)
      omega
theorem thr_len {rows : IM Int} {ps : List Pt} {s : Int} (ok : PsOk ps) (n : rows.length ≤ 4) : (thr rows ps s).length ≤ 4 + 60 * ps.length := by
  have := thr_glen (s := s) (ps := ps) (h := so1 rows) ok.ln
  have e : (so1 rows).length = rows.length := by unfold so1; rw [List.length_map]
  unfold thr; omega
theorem PsOk.sub {qs ps : List Pt} (h : PsOk ps) (s : List.Sublist qs ps) : PsOk qs :=
  ⟨h.up.sublist s, fun p hp => h.lo p (s.subset hp), fun p hp => h.hi p (s.subset hp), fun p hp => h.nd p (s.subset hp), fun p hp => h.ln p (s.subset hp), fun p hp => h.kb p (s.subset hp), Nat.le_trans s.length_le h.len, fun p hp => h.dp p (s.subset hp)⟩
/-- every second one, the second first -/
def odp (ps : List Pt) (n : Nat) : List Pt := (List.range n).filterMap fun j => ps[1 + 2 * j]?
theorem odp_succ {ps : List Pt} {n : Nat} : odp ps (n + 1) = odp ps n ++ (ps[1 + 2 * n]?).toList := by
  unfold odp
  rw [List.range_succ, List.filterMap_append]
  cases h : ps[1 + 2 * n]? <;> simp [h]
theorem odp_sub {ps : List Pt} : ∀ n, List.Sublist (odp ps n) (ps.take (2 * n))
  | 0 => by simp [odp]
  | n + 1 => by
    rw [odp_succ, show 2 * (n + 1) = 2 * n + 1 + 1 by omega, List.take_add_one, List.take_add_one, show 1 + 2 * n = 2 * n + 1 by omega]
    exact List.Sublist.append ((odp_sub n).trans (List.sublist_append_left _ _)) (List.Sublist.refl _)
theorem ev_od {ps : List Pt} {k : Nat} (h : k < ps.length) : pickG ps (some 1) (some ((k : Int) + 1)) (some 2) = odp ps ((k + 1) / 2) := by
  have hb : sliceBounds (some 1) (some ((k : Int) + 1)) (some 2) ps.length = (1, (k : Int) + 1, 2) := by
    simp only [sliceBounds, Option.getD_some]
    repeat' split
    all_goals first | (exfalso; omega) | (rw [Prod.mk.injEq, Prod.mk.injEq]; exact ⟨by omega, by omega, rfl⟩)
  unfold pickG odp
  rw [hb]
  have hr : sliceRange 1 ((k : Int) + 1) 2 = (List.range ((k + 1) / 2)).map fun j => 1 + 2 * j := by
    unfold sliceRange
    dsimp only
    have : (if (2 : Int) > 0 then (if (1 : Int) < (k : Int) + 1 then ((k : Int) + 1 - 1 + 2 - 1) / 2 else 0) else (if (1 : Int) > (k : Int) + 1 then (1 - ((k : Int) + 1) - 2 - 1) / (-2) else 0)).toNat = (k + 1) / 2 := by
      rw [if_pos (by decide)]
      split <;> omega
    rw [this]
    refine List.map_congr_left fun j _ => ?_
    omega
  rw [hr, List.filterMap_map]
  rfl
theorem lfOK_im : ∀ l : Shl, lfOK (imO chO l) = true
  | [] => rfl
  | p :: l => by
    show ((chO p.2).lf && lfOK (imO chO l)) = true
    rw [lfOK_im l, Bool.and_true]
    exact lfOLm fun m => by obtain ⟨s, d, v⟩ := m; cases v <;> rfl
theorem shF_lf {a C : Addr} {l : Shl} : (O.oi a C (shF l)).lf = true := by
  unfold shF
  simp only [O.lf, lfOF, lfOK_im, Bool.and_true]
theorem out_v {rows : IM Int} {ps : List Pt} {s k : Int} (h1 : ∀ k ∈ rows.map (·.1), kOk k) (ok : PsOk ps) (hk : ¬ kOk k) : (mkAt (mks rows ps k) s).v = none := by
  have e1 : dval rows k = none := dval_none.mpr fun z => hk (h1 k z)
  have e2 : mks rows ps k = [] := by
    unfold mks fst1
    rw [e1, List.nil_append, List.filterMap_eq_nil_iff]
    intro p hp
    unfold mkOf
    rw [dval_none.mpr fun z => hk (ok.kb p hp k z)]; rfl
  rw [e2]; rfl
theorem rows_eqA {l : Shl} {rows : IM Int} {ps : List Pt} {s : Int} {h : HM} (hn : (l.map (·.1)).Nodup) (hc : ∀ k, chn l k = mks rows ps k) (hh : (h.map (·.1)).Nodup) (hj : ∀ k, jnv h k = (mkAt (mks rows ps k) s).v) (h1 : ∀ k ∈ rows.map (·.1), kOk k) (ok : PsOk ps) : rowsOf (rowsH l (1 - 10 ^ 30) (10 ^ 30 - 1) s) = rowsOf h :=
  rowsOf_eq rowsH_nd hh fun k => by
    rw [rowsH_j hn, hc, hj]
    split
    · rfl
    · rename_i q
      rw [out_v h1 ok fun z => q (by unfold inB; simp only [Bool.and_eq_true, decide_eq_true_eq]; exact z)]
def C_Shelf__put (mg : Str → Option Value) (Ci : Addr) : Cs := fun za zf zxs zp zq => ∃ (l : Shl) (s d : Int) (dr : IM (Option Int)), zf = shF l ∧ zxs = [.int s, .int d, .dic (imK oiD dr)] ∧ (l.length + dr.length < 100000) ∧ (∀ k, (chn l k).length + dr.length < 100000) ∧ zp = (fun zo zg => zo = .d .non ∧ zg = shF (putS l s d dr)) ∧ zq = noS
theorem call_Shelf__put {K : PySem.W.Frag} {mg : Str → Option Value} {F B0 : Hp} {T : List O} {Γ : En} {zpost : O → En → Prop} {zE : XK} {zt : TA} {Ci za : Addr} {zi : Nat} {zf0 : Fs} (ze0 : Γ[zi]? = some (some (.oi za Ci zf0))) (zm : zf0.lookup (Str.ofString "put") = none) (zh : GoA K F B0 zt T Γ fun zxs Γ1 => ∃ zf1, Γ1[zi]? = some (some (.oi za Ci zf1)) ∧ ∃ (l : Shl) (s d : Int) (dr : IM (Option Int)), zf1 = shF l ∧ zxs = [.int s, .int d, .dic (imK oiD dr)] ∧ (l.length + dr.length < 100000) ∧ (∀ k, (chn l k).length + dr.length < 100000) ∧ zpost (.d .non) (Γ1.set zi (some (.oi za Ci (shF (putS l s d dr)))))) : Go K F B0 (tMeth Ci (Str.ofString "put") (spS K Ci (C_Shelf__put mg Ci)) [] zE (tVar zi) zt) T Γ zpost := by
  refine go_meth (dxs := []) (fun _ => .nil) ze0 zm (fun z0 z1 z2 z3 z4 z5 => zh z0 z1 z2 z3 z4 fun z6 z7 z8 z9 ⟨zf1, zg1, l, s, d, dr, zs, ze, hp0, hp1, h1⟩ => z5 z6 z7 z8 z9 ⟨zf1, zg1, _, ⟨l, s, d, dr, zs, (List.append_nil _).trans ze, hp0, hp1, rfl, rfl⟩, fun zo zg ⟨e1, e2⟩ => e1 ▸ e2 ▸ h1 ⟩)
theorem callL_Shelf__put {K : PySem.W.Frag} {mg : Str → Option Value} {F B0 : Hp} {T : List O} {Γ : En} {zpost : O → En → Prop} {zE : XK} {zt : TA} {Ci za : Addr} {zi : Nat} {zf0 : Fs} (ze0 : Γ[zi]? = some (some (.oi za Ci zf0))) (zm : zf0.lookup (Str.ofString "put") = none) (zh : ∀ F1 B1, GoA K F1 B1 zt [] (fzE (Γ.set zi none)) fun zxs _ => ∃ (l : Shl) (s d : Int) (dr : IM (Option Int)), zf0 = shF l ∧ zxs = [.int s, .int d, .dic (imK oiD dr)] ∧ (l.length + dr.length < 100000) ∧ (∀ k, (chn l k).length + dr.length < 100000) ∧ ((.d .non : O).lf = true ∧ (O.oi za Ci (shF (putS l s d dr))).lf = true ∧ zpost (.d .non) (Γ.set zi (some (.oi za Ci (shF (putS l s d dr))))))) : Go K F B0 (tMethL Ci (Str.ofString "put") (spS K Ci (C_Shelf__put mg Ci)) [] zE (tVar zi) zt) T Γ zpost := by
  refine go_methL (dxs := []) (fun _ => .nil) ze0 zm (fun F1 B1 z0 z1 z2 z3 z4 z5 => zh F1 B1 z0 z1 z2 z3 z4 fun z6 z7 z8 z9 ⟨l, s, d, dr, zs, ze, hp0, hp1, h1⟩ => z5 z6 z7 z8 z9 ⟨_, ⟨l, s, d, dr, zs, (List.append_nil _).trans ze, hp0, hp1, rfl, rfl⟩, fun zo zg ⟨e1, e2⟩ => by subst e1 e2; exact h1 ⟩)
def C__law_stream (mg : Str → Option Value) : Ct := fun zxs zp zq => ∃ (c k : Int), zxs = [.int c, .int k] ∧ (0 ≤ k) ∧ (k < 100) ∧ zp = (fun zo => ∃ (xs : List Int), ((xs.length : Int) = k) ∧ (∀ x ∈ xs, 0 ≤ x ∧ x < 2147483647) ∧ zo = .d (.lst (xs.map D.int))) ∧ zq = noX
theorem call__law_stream {K : PySem.W.Frag} {mg : Str → Option Value} {F B0 : Hp} {T : List O} {Γ : En} {zpost : O → En → Prop} {zE : XK} {zt : TA} (zh : GoA K F B0 zt T Γ fun zxs Γ1 => ∃ (c k : Int), zxs = [.int c, .int k] ∧ (0 ≤ k) ∧ (k < 100) ∧ (∀ (xs : List Int), ((xs.length : Int) = k) → (∀ x ∈ xs, 0 ≤ x ∧ x < 2147483647) → zpost (.d (.lst (xs.map D.int))) Γ1)) : Go K F B0 (tCall (spP K (C__law_stream mg)) [] zE zt) T Γ zpost := by
  refine go_call (dxs := []) (fun z0 z1 z2 z3 z4 z5 => zh z0 z1 z2 z3 z4 fun z6 z7 z8 z9 ⟨c, k, ze, hp0, hp1, h1⟩ => z5 z6 z7 z8 z9 ⟨_, ⟨c, k, (List.append_nil _).trans ze, hp0, hp1, rfl, rfl⟩, (fun zo ⟨xs, w0, w1, ze⟩ => ze ▸ h1 xs w0 w1)⟩) (fun _ => .nil)
def C__law_great (mg : Str → Option Value) : Ct := fun zxs zp zq => ∃ (n : Int), zxs = [.int n] ∧ (0 ≤ n) ∧ (n < 2 ^ 40) ∧ zp = (fun zo => ∃ (x : Int), (kOk x) ∧ zo = .d (.int x)) ∧ zq = noX
theorem call__law_great {K : PySem.W.Frag} {mg : Str → Option Value} {F B0 : Hp} {T : List O} {Γ : En} {zpost : O → En → Prop} {zE : XK} {zt : TA} (zh : GoA K F B0 zt T Γ fun zxs Γ1 => ∃ (n : Int), zxs = [.int n] ∧ (0 ≤ n) ∧ (n < 2 ^ 40) ∧ (∀ (x : Int), (kOk x) → zpost (.d (.int x)) Γ1)) : Go K F B0 (tCall (spP K (C__law_great mg)) [] zE zt) T Γ zpost := by
  refine go_call (dxs := []) (fun z0 z1 z2 z3 z4 z5 => zh z0 z1 z2 z3 z4 fun z6 z7 z8 z9 ⟨n, ze, hp0, hp1, h1⟩ => z5 z6 z7 z8 z9 ⟨_, ⟨n, (List.append_nil _).trans ze, hp0, hp1, rfl, rfl⟩, (fun zo ⟨x, w0, ze⟩ => ze ▸ h1 x w0)⟩) (fun _ => .nil)
def C__law_value (mg : Str → Option Value) : Ct := fun zxs zp zq => ∃ (n : Int), zxs = [.int n] ∧ (0 ≤ n) ∧ (n < 2 ^ 31) ∧ zp = (fun zo => ∃ (x : Int), zo = .d (.int x)) ∧ zq = noX
theorem call__law_value {K : PySem.W.Frag} {mg : Str → Option Value} {F B0 : Hp} {T : List O} {Γ : En} {zpost : O → En → Prop} {zE : XK} {zt : TA} (zh : GoA K F B0 zt T Γ fun zxs Γ1 => ∃ (n : Int), zxs = [.int n] ∧ (0 ≤ n) ∧ (n < 2 ^ 31) ∧ (∀ (x : Int), zpost (.d (.int x)) Γ1)) : Go K F B0 (tCall (spP K (C__law_value mg)) [] zE zt) T Γ zpost := by
  refine go_call (dxs := []) (fun z0 z1 z2 z3 z4 z5 => zh z0 z1 z2 z3 z4 fun z6 z7 z8 z9 ⟨n, ze, hp0, hp1, h1⟩ => z5 z6 z7 z8 z9 ⟨_, ⟨n, (List.append_nil _).trans ze, hp0, hp1, rfl, rfl⟩, (fun zo ⟨x, ze⟩ => ze ▸ h1 x)⟩) (fun _ => .nil)
def C__law_key (mg : Str → Option Value) : Ct := fun zxs zp zq => ∃ (n b : Int), zxs = [.int n, .int b] ∧ (0 ≤ n) ∧ (n < 2 ^ 31) ∧ (0 ≤ b) ∧ (b < 2 ^ 31) ∧ zp = (fun zo => ∃ (x : Int), (kOk x) ∧ zo = .d (.int x)) ∧ zq = noX
theorem call__law_key {K : PySem.W.Frag} {mg : Str → Option Value} {F B0 : Hp} {T : List O} {Γ : En} {zpost : O → En → Prop} {zE : XK} {zt : TA} (zh : GoA K F B0 zt T Γ fun zxs Γ1 => ∃ (n b : Int), zxs = [.int n, .int b] ∧ (0 ≤ n) ∧ (n < 2 ^ 31) ∧ (0 ≤ b) ∧ (b < 2 ^ 31) ∧ (∀ (x : Int), (kOk x) → zpost (.d (.int x)) Γ1)) : Go K F B0 (tCall (spP K (C__law_key mg)) [] zE zt) T Γ zpost := by
  refine go_call (dxs := []) (fun z0 z1 z2 z3 z4 z5 => zh z0 z1 z2 z3 z4 fun z6 z7 z8 z9 ⟨n, b, ze, hp0, hp1, hp2, hp3, h1⟩ => z5 z6 z7 z8 z9 ⟨_, ⟨n, b, (List.append_nil _).trans ze, hp0, hp1, hp2, hp3, rfl, rfl⟩, (fun zo ⟨x, w0, ze⟩ => ze ▸ h1 x w0)⟩) (fun _ => .nil)
def C__law_first (mg : Str → Option Value) : Ct := fun zxs zp zq => ∃ (c b : Int), zxs = [.int c, .int b] ∧ (0 ≤ b) ∧ (b < 2 ^ 31) ∧ zp = (fun zo => ∃ (rows : IM Int), ((rows.map (·.1)).Nodup) ∧ (rows.length ≤ 4) ∧ (∀ k ∈ rows.map (·.1), kOk k) ∧ zo = .od (imO (fun x => O.d (.int x)) rows)) ∧ zq = noX
theorem call__law_first {K : PySem.W.Frag} {mg : Str → Option Value} {F B0 : Hp} {T : List O} {Γ : En} {zpost : O → En → Prop} {zE : XK} {zt : TA} (zh : GoA K F B0 zt T Γ fun zxs Γ1 => ∃ (c b : Int), zxs = [.int c, .int b] ∧ (0 ≤ b) ∧ (b < 2 ^ 31) ∧ (∀ (rows : IM Int), ((rows.map (·.1)).Nodup) → (rows.length ≤ 4) → (∀ k ∈ rows.map (·.1), kOk k) → zpost (.od (imO (fun x => O.d (.int x)) rows)) Γ1)) : Go K F B0 (tCall (spP K (C__law_first mg)) [] zE zt) T Γ zpost := by
  refine go_call (dxs := []) (fun z0 z1 z2 z3 z4 z5 => zh z0 z1 z2 z3 z4 fun z6 z7 z8 z9 ⟨c, b, ze, hp0, hp1, h1⟩ => z5 z6 z7 z8 z9 ⟨_, ⟨c, b, (List.append_nil _).trans ze, hp0, hp1, rfl, rfl⟩, (fun zo ⟨rows, w0, w1, w2, ze⟩ => ze ▸ h1 rows w0 w1 w2)⟩) (fun _ => .nil)
def C_Shelf__init (mg : Str → Option Value) : Cs := fun za zf zxs zp zq => ∃ (rows : IM Int), zf = [] ∧ zxs = [.dic (imK D.int rows)] ∧ (rows.length < 1000) ∧ zp = (fun zo zg => zo = .d .non ∧ zg = (shF (initS rows))) ∧ zq = noS
theorem call_Shelf__init {K : PySem.W.Frag} {mg : Str → Option Value} {F B0 : Hp} {T : List O} {Γ : En} {zpost : O → En → Prop} {zE : XK} {zt : TA} {Ci : Addr} (zh : GoA K F B0 zt T Γ fun zxs Γ1 => ∃ (rows : IM Int), zxs = [.dic (imK D.int rows)] ∧ (rows.length < 1000) ∧ ∀ za, zpost (.oi za Ci (shF (initS rows))) Γ1) : Go K F B0 (tMake Ci (spS K Ci (C_Shelf__init mg)) [] zE zt) T Γ zpost := by
  refine go_make (dxs := []) (fun _ => .nil) (fun z0 z1 z2 z3 z4 z5 => zh z0 z1 z2 z3 z4 fun z6 z7 z8 z9 ⟨rows, ze, hp0, h1⟩ => z5 z6 z7 z8 z9 (fun za => ⟨_, ⟨rows, rfl, (List.append_nil _).trans ze, hp0, rfl, rfl⟩, fun zo zg ⟨e1, e2⟩ => ⟨e1, e2 ▸ h1 za⟩⟩))
def C__law_draft (mg : Str → Option Value) : Ct := fun zxs zp zq => ∃ (n : Int), zxs = [.int n] ∧ (0 ≤ n) ∧ (n < 2 ^ 31) ∧ zp = (fun zo => ∃ (v : Option Int), zo = .d (oiD v)) ∧ zq = noX
theorem call__law_draft {K : PySem.W.Frag} {mg : Str → Option Value} {F B0 : Hp} {T : List O} {Γ : En} {zpost : O → En → Prop} {zE : XK} {zt : TA} (zh : GoA K F B0 zt T Γ fun zxs Γ1 => ∃ (n : Int), zxs = [.int n] ∧ (0 ≤ n) ∧ (n < 2 ^ 31) ∧ (∀ (v : Option Int), zpost (.d (oiD v)) Γ1)) : Go K F B0 (tCall (spP K (C__law_draft mg)) [] zE zt) T Γ zpost := by
  refine go_call (dxs := []) (fun z0 z1 z2 z3 z4 z5 => zh z0 z1 z2 z3 z4 fun z6 z7 z8 z9 ⟨n, ze, hp0, hp1, h1⟩ => z5 z6 z7 z8 z9 ⟨_, ⟨n, (List.append_nil _).trans ze, hp0, hp1, rfl, rfl⟩, (fun zo ⟨v, ze⟩ => ze ▸ h1 v)⟩) (fun _ => .nil)
def C__law_puts (mg : Str → Option Value) : Ct := fun zxs zp zq => ∃ (cs : List Int) (b : Int), zxs = [.lst (cs.map D.int), .int b] ∧ (cs.length ≤ 40) ∧ (0 ≤ b) ∧ (b < 2 ^ 31) ∧ zp = (fun zo => ∃ (ps : List Pt), (ps.length = cs.length) ∧ (PsOk ps) ∧ (∀ p ∈ ps, p.dr.length ≤ 3) ∧ zo = .ol ((ps.map ptD).map O.d)) ∧ zq = noX
theorem call__law_puts {K : PySem.W.Frag} {mg : Str → Option Value} {F B0 : Hp} {T : List O} {Γ : En} {zpost : O → En → Prop} {zE : XK} {zt : TA} (zh : GoA K F B0 zt T Γ fun zxs Γ1 => ∃ (cs : List Int) (b : Int), zxs = [.lst (cs.map D.int), .int b] ∧ (cs.length ≤ 40) ∧ (0 ≤ b) ∧ (b < 2 ^ 31) ∧ (∀ (ps : List Pt), (ps.length = cs.length) → (PsOk ps) → (∀ p ∈ ps, p.dr.length ≤ 3) → zpost (.ol ((ps.map ptD).map O.d)) Γ1)) : Go K F B0 (tCall (spP K (C__law_puts mg)) [] zE zt) T Γ zpost := by
  refine go_call (dxs := []) (fun z0 z1 z2 z3 z4 z5 => zh z0 z1 z2 z3 z4 fun z6 z7 z8 z9 ⟨cs, b, ze, hp0, hp1, hp2, h1⟩ => z5 z6 z7 z8 z9 ⟨_, ⟨cs, b, (List.append_nil _).trans ze, hp0, hp1, hp2, rfl, rfl⟩, (fun zo ⟨ps, w0, w1, w2, ze⟩ => ze ▸ h1 ps w0 w1 w2)⟩) (fun _ => .nil)
def C__law_cell_at (mg : Str → Option Value) : Ct := fun zxs zp zq => ∃ (ns : List Int) (k : Int), zxs = [.sq (ns.map D.int), .int k] ∧ (0 ≤ k) ∧ zp = (fun zo => ∃ (x : Int), zo = .d (.int x)) ∧ zq = noX
theorem call__law_cell_at {K : PySem.W.Frag} {mg : Str → Option Value} {F B0 : Hp} {T : List O} {Γ : En} {zpost : O → En → Prop} {zE : XK} {zt : TA} (zh : GoA K F B0 zt T Γ fun zxs Γ1 => ∃ (ns : List Int) (k : Int), zxs = [.sq (ns.map D.int), .int k] ∧ (0 ≤ k) ∧ (∀ (x : Int), zpost (.d (.int x)) Γ1)) : Go K F B0 (tCall (spP K (C__law_cell_at mg)) [] zE zt) T Γ zpost := by
  refine go_call (dxs := []) (fun z0 z1 z2 z3 z4 z5 => zh z0 z1 z2 z3 z4 fun z6 z7 z8 z9 ⟨ns, k, ze, hp0, h1⟩ => z5 z6 z7 z8 z9 ⟨_, ⟨ns, k, (List.append_nil _).trans ze, hp0, rfl, rfl⟩, (fun zo ⟨x, ze⟩ => ze ▸ h1 x)⟩) (fun _ => .nil)
def C_Shelf__makers (mg : Str → Option Value) (Ci : Addr) : Ct := fun zxs zp zq => ∃ (l : Shl) (k : Int), zxs = [shD Ci l, .int k] ∧ ((chn l k).length ≤ 100000) ∧ zp = (fun zo => zo = .ol (((mkrs (chn l k)).map D.int).map O.d)) ∧ zq = noX
theorem call_Shelf__makers {K : PySem.W.Frag} {mg : Str → Option Value} {F B0 : Hp} {T : List O} {Γ : En} {zpost : O → En → Prop} {zE : XK} {zt : TA} {te : TE} {Ci : Addr} (zh : Go K F B0 te T Γ fun zo Γ0 => ∃ zfs, zo.fz = .ins Ci zfs ∧ zfs.lookup (Str.ofString "makers") = none ∧ GoA K F B0 zt (.d (.ins Ci zfs) :: T) Γ0 fun zxs Γ1 => ∃ (l : Shl) (k : Int), .ins Ci zfs :: zxs = [shD Ci l, .int k] ∧ ((chn l k).length ≤ 100000) ∧ (zpost (.ol (((mkrs (chn l k)).map D.int).map O.d)) Γ1)) : Go K F B0 (tMeth Ci (Str.ofString "makers") (spP K (C_Shelf__makers mg Ci)) [] zE te zt) T Γ zpost := by
  refine go_methP (dxs := []) (fun _ => .nil) (fun y0 y1 y2 y3 y4 y5 => zh y0 y1 y2 y3 y4 fun y6 y7 y8 y9 ⟨zfs, za1, za2, zh2⟩ => y5 y6 y7 y8 y9 ⟨zfs, za1, za2, fun z0 z1 z2 z3 z4 z5 => zh2 z0 z1 z2 z3 z4 fun z6 z7 z8 z9 ⟨l, k, ze, hp0, h1⟩ => z5 z6 z7 z8 z9 ⟨_, ⟨l, k, ((congrArg (List.cons _) (List.append_nil _)).trans ze), hp0, rfl, rfl⟩, (fun zo ze => ze ▸ h1)⟩⟩)
def C_inside (mg : Str → Option Value) : Ct := fun zxs zp zq => ∃ (k l h : Int), zxs = [.int k, .int l, .int h] ∧ zp = (fun zo => zo = .d (.bl (inB k l h))) ∧ zq = noX
theorem call_inside {K : PySem.W.Frag} {mg : Str → Option Value} {F B0 : Hp} {T : List O} {Γ : En} {zpost : O → En → Prop} {zE : XK} {zt : TA} (zh : GoA K F B0 zt T Γ fun zxs Γ1 => ∃ (k l h : Int), zxs = [.int k, .int l, .int h] ∧ (zpost (.d (.bl (inB k l h))) Γ1)) : Go K F B0 (tCall (spP K (C_inside mg)) [] zE zt) T Γ zpost := by
  refine go_call (dxs := []) (fun z0 z1 z2 z3 z4 z5 => zh z0 z1 z2 z3 z4 fun z6 z7 z8 z9 ⟨k, l, h, ze, h1⟩ => z5 z6 z7 z8 z9 ⟨_, ⟨k, l, h, (List.append_nil _).trans ze, rfl, rfl⟩, (fun zo ze => ze ▸ h1)⟩) (fun _ => .nil)
def C_Shelf__touched (mg : Str → Option Value) (Ci : Addr) : Ct := fun zxs zp zq => ∃ (l : Shl) (lo hi : Int), zxs = [shD Ci l, .int lo, .int hi] ∧ (l.length ≤ 100000) ∧ (∀ k, (chn l k).length ≤ 100000) ∧ zp = (fun zo => zo = .ol (((tchd l lo hi).map D.int).map O.d)) ∧ zq = noX
theorem call_Shelf__touched {K : PySem.W.Frag} {mg : Str → Option Value} {F B0 : Hp} {T : List O} {Γ : En} {zpost : O → En → Prop} {zE : XK} {zt : TA} {te : TE} {Ci : Addr} (zh : Go K F B0 te T Γ fun zo Γ0 => ∃ zfs, zo.fz = .ins Ci zfs ∧ zfs.lookup (Str.ofString "touched") = none ∧ GoA K F B0 zt (.d (.ins Ci zfs) :: T) Γ0 fun zxs Γ1 => ∃ (l : Shl) (lo hi : Int), .ins Ci zfs :: zxs = [shD Ci l, .int lo, .int hi] ∧ (l.length ≤ 100000) ∧ (∀ k, (chn l k).length ≤ 100000) ∧ (zpost (.ol (((tchd l lo hi).map D.int).map O.d)) Γ1)) : Go K F B0 (tMeth Ci (Str.ofString "touched") (spP K (C_Shelf__touched mg Ci)) [] zE te zt) T Γ zpost := by
  refine go_methP (dxs := []) (fun _ => .nil) (fun y0 y1 y2 y3 y4 y5 => zh y0 y1 y2 y3 y4 fun y6 y7 y8 y9 ⟨zfs, za1, za2, zh2⟩ => y5 y6 y7 y8 y9 ⟨zfs, za1, za2, fun z0 z1 z2 z3 z4 z5 => zh2 z0 z1 z2 z3 z4 fun z6 z7 z8 z9 ⟨l, lo, hi, ze, hp0, hp1, h1⟩ => z5 z6 z7 z8 z9 ⟨_, ⟨l, lo, hi, ((congrArg (List.cons _) (List.append_nil _)).trans ze), hp0, hp1, rfl, rfl⟩, (fun zo ze => ze ▸ h1)⟩⟩)
def C_Shelf__make (mg : Str → Option Value) (Ci : Addr) : Ct := fun zxs zp zq => ∃ (l : Shl) (k s : Int), zxs = [shD Ci l, .int k, .int s] ∧ zp = (fun zo => zo = .d (mkD (mkAt (chn l k) s))) ∧ zq = noX
theorem call_Shelf__make {K : PySem.W.Frag} {mg : Str → Option Value} {F B0 : Hp} {T : List O} {Γ : En} {zpost : O → En → Prop} {zE : XK} {zt : TA} {te : TE} {Ci : Addr} (zh : Go K F B0 te T Γ fun zo Γ0 => ∃ zfs, zo.fz = .ins Ci zfs ∧ zfs.lookup (Str.ofString "make") = none ∧ GoA K F B0 zt (.d (.ins Ci zfs) :: T) Γ0 fun zxs Γ1 => ∃ (l : Shl) (k s : Int), .ins Ci zfs :: zxs = [shD Ci l, .int k, .int s] ∧ (zpost (.d (mkD (mkAt (chn l k) s))) Γ1)) : Go K F B0 (tMeth Ci (Str.ofString "make") (spP K (C_Shelf__make mg Ci)) [] zE te zt) T Γ zpost := by
  refine go_methP (dxs := []) (fun _ => .nil) (fun y0 y1 y2 y3 y4 y5 => zh y0 y1 y2 y3 y4 fun y6 y7 y8 y9 ⟨zfs, za1, za2, zh2⟩ => y5 y6 y7 y8 y9 ⟨zfs, za1, za2, fun z0 z1 z2 z3 z4 z5 => zh2 z0 z1 z2 z3 z4 fun z6 z7 z8 z9 ⟨l, k, s, ze, h1⟩ => z5 z6 z7 z8 z9 ⟨_, ⟨l, k, s, ((congrArg (List.cons _) (List.append_nil _)).trans ze), rfl, rfl⟩, (fun zo ze => ze ▸ h1)⟩⟩)
def C_rows_of (mg : Str → Option Value) : Ct := fun zxs zp zq => ∃ (h : IM (Option Int)), zxs = [.dic (imK oiD h)] ∧ (h.length ≤ 100000) ∧ zp = (fun zo => zo = .ol (((rowsOf h).map prD).map O.d)) ∧ zq = noX
theorem call_rows_of {K : PySem.W.Frag} {mg : Str → Option Value} {F B0 : Hp} {T : List O} {Γ : En} {zpost : O → En → Prop} {zE : XK} {zt : TA} (zh : GoA K F B0 zt T Γ fun zxs Γ1 => ∃ (h : IM (Option Int)), zxs = [.dic (imK oiD h)] ∧ (h.length ≤ 100000) ∧ (zpost (.ol (((rowsOf h).map prD).map O.d)) Γ1)) : Go K F B0 (tCall (spP K (C_rows_of mg)) [] zE zt) T Γ zpost := by
  refine go_call (dxs := []) (fun z0 z1 z2 z3 z4 z5 => zh z0 z1 z2 z3 z4 fun z6 z7 z8 z9 ⟨h, ze, hp0, h1⟩ => z5 z6 z7 z8 z9 ⟨_, ⟨h, (List.append_nil _).trans ze, hp0, rfl, rfl⟩, (fun zo ze => ze ▸ h1)⟩) (fun _ => .nil)
def C_Shelf__there (mg : Str → Option Value) (Ci : Addr) : Ct := fun zxs zp zq => ∃ (l : Shl) (s : Int), zxs = [shD Ci l, .int s] ∧ (l.length < 100000) ∧ zp = (fun zo => zo = .ol (((rowsOf (thereH l s)).map prD).map O.d)) ∧ zq = noX
theorem call_Shelf__there {K : PySem.W.Frag} {mg : Str → Option Value} {F B0 : Hp} {T : List O} {Γ : En} {zpost : O → En → Prop} {zE : XK} {zt : TA} {te : TE} {Ci : Addr} (zh : Go K F B0 te T Γ fun zo Γ0 => ∃ zfs, zo.fz = .ins Ci zfs ∧ zfs.lookup (Str.ofString "there") = none ∧ GoA K F B0 zt (.d (.ins Ci zfs) :: T) Γ0 fun zxs Γ1 => ∃ (l : Shl) (s : Int), .ins Ci zfs :: zxs = [shD Ci l, .int s] ∧ (l.length < 100000) ∧ (zpost (.ol (((rowsOf (thereH l s)).map prD).map O.d)) Γ1)) : Go K F B0 (tMeth Ci (Str.ofString "there") (spP K (C_Shelf__there mg Ci)) [] zE te zt) T Γ zpost := by
  refine go_methP (dxs := []) (fun _ => .nil) (fun y0 y1 y2 y3 y4 y5 => zh y0 y1 y2 y3 y4 fun y6 y7 y8 y9 ⟨zfs, za1, za2, zh2⟩ => y5 y6 y7 y8 y9 ⟨zfs, za1, za2, fun z0 z1 z2 z3 z4 z5 => zh2 z0 z1 z2 z3 z4 fun z6 z7 z8 z9 ⟨l, s, ze, hp0, h1⟩ => z5 z6 z7 z8 z9 ⟨_, ⟨l, s, ((congrArg (List.cons _) (List.append_nil _)).trans ze), hp0, rfl, rfl⟩, (fun zo ze => ze ▸ h1)⟩⟩)
def C_Shelf__rows (mg : Str → Option Value) (Ci : Addr) : Ct := fun zxs zp zq => ∃ (l : Shl) (lo hi s : Int), zxs = [shD Ci l, .int lo, .int hi, .int s] ∧ (l.length < 100000) ∧ zp = (fun zo => zo = .ol (((rowsOf (rowsH l lo hi s)).map prD).map O.d)) ∧ zq = noX
theorem call_Shelf__rows {K : PySem.W.Frag} {mg : Str → Option Value} {F B0 : Hp} {T : List O} {Γ : En} {zpost : O → En → Prop} {zE : XK} {zt : TA} {te : TE} {Ci : Addr} (zh : Go K F B0 te T Γ fun zo Γ0 => ∃ zfs, zo.fz = .ins Ci zfs ∧ zfs.lookup (Str.ofString "rows") = none ∧ GoA K F B0 zt (.d (.ins Ci zfs) :: T) Γ0 fun zxs Γ1 => ∃ (l : Shl) (lo hi s : Int), .ins Ci zfs :: zxs = [shD Ci l, .int lo, .int hi, .int s] ∧ (l.length < 100000) ∧ (zpost (.ol (((rowsOf (rowsH l lo hi s)).map prD).map O.d)) Γ1)) : Go K F B0 (tMeth Ci (Str.ofString "rows") (spP K (C_Shelf__rows mg Ci)) [] zE te zt) T Γ zpost := by
  refine go_methP (dxs := []) (fun _ => .nil) (fun y0 y1 y2 y3 y4 y5 => zh y0 y1 y2 y3 y4 fun y6 y7 y8 y9 ⟨zfs, za1, za2, zh2⟩ => y5 y6 y7 y8 y9 ⟨zfs, za1, za2, fun z0 z1 z2 z3 z4 z5 => zh2 z0 z1 z2 z3 z4 fun z6 z7 z8 z9 ⟨l, lo, hi, s, ze, hp0, h1⟩ => z5 z6 z7 z8 z9 ⟨_, ⟨l, lo, hi, s, ((congrArg (List.cons _) (List.append_nil _)).trans ze), hp0, rfl, rfl⟩, (fun zo ze => ze ▸ h1)⟩⟩)
def C__law_there (mg : Str → Option Value) : Ct := fun zxs zp zq => ∃ (rows : IM Int) (ps : List Pt) (s : Int), zxs = [.dic (imK D.int rows), .lst (ps.map ptD), .int s] ∧ (PsOk ps) ∧ (rows.length ≤ 4) ∧ zp = (fun zo => zo = .ol (((rowsOf (thr rows ps s)).map prD).map O.d)) ∧ zq = noX
theorem call__law_there {K : PySem.W.Frag} {mg : Str → Option Value} {F B0 : Hp} {T : List O} {Γ : En} {zpost : O → En → Prop} {zE : XK} {zt : TA} (zh : GoA K F B0 zt T Γ fun zxs Γ1 => ∃ (rows : IM Int) (ps : List Pt) (s : Int), zxs = [.dic (imK D.int rows), .lst (ps.map ptD), .int s] ∧ (PsOk ps) ∧ (rows.length ≤ 4) ∧ (zpost (.ol (((rowsOf (thr rows ps s)).map prD).map O.d)) Γ1)) : Go K F B0 (tCall (spP K (C__law_there mg)) [] zE zt) T Γ zpost := by
  refine go_call (dxs := []) (fun z0 z1 z2 z3 z4 z5 => zh z0 z1 z2 z3 z4 fun z6 z7 z8 z9 ⟨rows, ps, s, ze, hp0, hp1, h1⟩ => z5 z6 z7 z8 z9 ⟨_, ⟨rows, ps, s, (List.append_nil _).trans ze, hp0, hp1, rfl, rfl⟩, (fun zo ze => ze ▸ h1)⟩) (fun _ => .nil)
def C__law_spoiled (mg : Str → Option Value) : Ct := fun zxs zp zq => ∃ (Ci : Addr) (l : Shl) (s k : Int), zxs = [shD Ci l, .int s, .int k] ∧ (mg "Shelf" = some (.ref Ci)) ∧ (l.length < 90000) ∧ (∀ k, (chn l k).length < 90000) ∧ zp = (fun zo => zo = .d .non) ∧ zq = noX
theorem call__law_spoiled {K : PySem.W.Frag} {mg : Str → Option Value} {F B0 : Hp} {T : List O} {Γ : En} {zpost : O → En → Prop} {zE : XK} {zt : TA} (zh : GoA K F B0 zt T Γ fun zxs Γ1 => ∃ (Ci : Addr) (l : Shl) (s k : Int), zxs = [shD Ci l, .int s, .int k] ∧ (mg "Shelf" = some (.ref Ci)) ∧ (l.length < 90000) ∧ (∀ k, (chn l k).length < 90000) ∧ (zpost (.d .non) Γ1)) : Go K F B0 (tCall (spP K (C__law_spoiled mg)) [] zE zt) T Γ zpost := by
  refine go_call (dxs := []) (fun z0 z1 z2 z3 z4 z5 => zh z0 z1 z2 z3 z4 fun z6 z7 z8 z9 ⟨Ci, l, s, k, ze, hp0, hp1, hp2, h1⟩ => z5 z6 z7 z8 z9 ⟨_, ⟨Ci, l, s, k, (List.append_nil _).trans ze, hp0, hp1, hp2, rfl, rfl⟩, (fun zo ze => ze ▸ h1)⟩) (fun _ => .nil)
def C__law_touched (mg : Str → Option Value) : Ct := fun zxs zp zq => ∃ (ps : List Pt), zxs = [.lst (ps.map ptD)] ∧ (PsOk ps) ∧ zp = (fun zo => ∃ (ms : List Int), (ms.Pairwise (· < ·)) ∧ (∀ k, k ∈ ms ↔ ∃ p ∈ ps, k ∈ p.dr.map (·.1)) ∧ zo = .ol ((ms.map D.int).map O.d)) ∧ zq = noX
theorem call__law_touched {K : PySem.W.Frag} {mg : Str → Option Value} {F B0 : Hp} {T : List O} {Γ : En} {zpost : O → En → Prop} {zE : XK} {zt : TA} (zh : GoA K F B0 zt T Γ fun zxs Γ1 => ∃ (ps : List Pt), zxs = [.lst (ps.map ptD)] ∧ (PsOk ps) ∧ (∀ (ms : List Int), (ms.Pairwise (· < ·)) → (∀ k, k ∈ ms ↔ ∃ p ∈ ps, k ∈ p.dr.map (·.1)) → zpost (.ol ((ms.map D.int).map O.d)) Γ1)) : Go K F B0 (tCall (spP K (C__law_touched mg)) [] zE zt) T Γ zpost := by
  refine go_call (dxs := []) (fun z0 z1 z2 z3 z4 z5 => zh z0 z1 z2 z3 z4 fun z6 z7 z8 z9 ⟨ps, ze, hp0, h1⟩ => z5 z6 z7 z8 z9 ⟨_, ⟨ps, (List.append_nil _).trans ze, hp0, rfl, rfl⟩, (fun zo ⟨ms, w0, w1, ze⟩ => ze ▸ h1 ms w0 w1)⟩) (fun _ => .nil)
def C__law_makers (mg : Str → Option Value) : Ct := fun zxs zp zq => ∃ (ps : List Pt) (k : Int), zxs = [.lst (ps.map ptD), .int k] ∧ (ps.length ≤ 40) ∧ zp = (fun zo => zo = .ol (((dmk ps k).map D.int).map O.d)) ∧ zq = noX
theorem call__law_makers {K : PySem.W.Frag} {mg : Str → Option Value} {F B0 : Hp} {T : List O} {Γ : En} {zpost : O → En → Prop} {zE : XK} {zt : TA} (zh : GoA K F B0 zt T Γ fun zxs Γ1 => ∃ (ps : List Pt) (k : Int), zxs = [.lst (ps.map ptD), .int k] ∧ (ps.length ≤ 40) ∧ (zpost (.ol (((dmk ps k).map D.int).map O.d)) Γ1)) : Go K F B0 (tCall (spP K (C__law_makers mg)) [] zE zt) T Γ zpost := by
  refine go_call (dxs := []) (fun z0 z1 z2 z3 z4 z5 => zh z0 z1 z2 z3 z4 fun z6 z7 z8 z9 ⟨ps, k, ze, hp0, h1⟩ => z5 z6 z7 z8 z9 ⟨_, ⟨ps, k, (List.append_nil _).trans ze, hp0, rfl, rfl⟩, (fun zo ze => ze ▸ h1)⟩) (fun _ => .nil)
def C__law_stands (mg : Str → Option Value) : Ct := fun zxs zp zq => ∃ (Ci : Addr) (l : Shl) (rows : IM Int) (ps : List Pt) (s k : Int), zxs = [shD Ci l, .dic (imK D.int rows), .lst (ps.map ptD), .int s, .int k] ∧ (mg "Shelf" = some (.ref Ci)) ∧ (PsOk ps) ∧ ((rows.map (·.1)).Nodup) ∧ (rows.length ≤ 4) ∧ (∀ k ∈ rows.map (·.1), kOk k) ∧ ((l.map (·.1)).Nodup) ∧ (Hld l rows ps) ∧ (0 ≤ s) ∧ zp = (fun zo => zo = .d (.bl true)) ∧ zq = noX
theorem call__law_stands {K : PySem.W.Frag} {mg : Str → Option Value} {F B0 : Hp} {T : List O} {Γ : En} {zpost : O → En → Prop} {zE : XK} {zt : TA} (zh : GoA K F B0 zt T Γ fun zxs Γ1 => ∃ (Ci : Addr) (l : Shl) (rows : IM Int) (ps : List Pt) (s k : Int), zxs = [shD Ci l, .dic (imK D.int rows), .lst (ps.map ptD), .int s, .int k] ∧ (mg "Shelf" = some (.ref Ci)) ∧ (PsOk ps) ∧ ((rows.map (·.1)).Nodup) ∧ (rows.length ≤ 4) ∧ (∀ k ∈ rows.map (·.1), kOk k) ∧ ((l.map (·.1)).Nodup) ∧ (Hld l rows ps) ∧ (0 ≤ s) ∧ (zpost (.d (.bl true)) Γ1)) : Go K F B0 (tCall (spP K (C__law_stands mg)) [] zE zt) T Γ zpost := by
  refine go_call (dxs := []) (fun z0 z1 z2 z3 z4 z5 => zh z0 z1 z2 z3 z4 fun z6 z7 z8 z9 ⟨Ci, l, rows, ps, s, k, ze, hp0, hp1, hp2, hp3, hp4, hp5, hp6, hp7, h1⟩ => z5 z6 z7 z8 z9 ⟨_, ⟨Ci, l, rows, ps, s, k, (List.append_nil _).trans ze, hp0, hp1, hp2, hp3, hp4, hp5, hp6, hp7, rfl, rfl⟩, (fun zo ze => ze ▸ h1)⟩) (fun _ => .nil)
local macro_rules | `(tactic| walk_at "skc") => `(tactic| first
  | ((with_reducible refine' call_Shelf__put ?he ?hm ?_); (case he => exact rfl); (case hm => exact rfl))
  | with_reducible refine call__law_stream ?_
  | with_reducible refine call__law_great ?_
  | with_reducible refine call__law_value ?_
  | with_reducible refine call__law_key ?_
  | with_reducible refine call__law_first ?_
  | with_reducible refine call_Shelf__init ?_
  | with_reducible refine call__law_draft ?_
  | with_reducible refine call__law_puts ?_
  | with_reducible refine call__law_cell_at ?_
  | with_reducible refine call_Shelf__makers ?_
  | with_reducible refine call_inside ?_
  | with_reducible refine call_Shelf__touched ?_
  | with_reducible refine call_Shelf__make ?_
  | with_reducible refine call_rows_of ?_
  | with_reducible refine call_Shelf__there ?_
  | with_reducible refine call_Shelf__rows ?_
  | with_reducible refine call__law_there ?_
  | with_reducible refine call__law_spoiled ?_
  | with_reducible refine call__law_touched ?_
  | with_reducible refine call__law_makers ?_
  | with_reducible refine call__law_stands ?_
  | ((with_reducible refine' callL_Shelf__put ?he ?hm ?_); (case he => exact rfl); (case hm => exact rfl); (intro F1 B1); (try walk_at "lendx"); (try (simp only [fzE_cons, fzE_nil, frO_none, frO_some, fz_fl, fz_fk, fz_d, fzL_fl, fzK_d, O.fz, fzL, List.set])))
  | with_reducible refine go_make00 ?_ | ((with_reducible refine' oa_isiO ?hc ?hq ?_); (case hc => assumption); (case hq => assumption)))
abbrev C_law := lawC
local macro_rules | `(tactic| walk_at "x0") => `(tactic| focus ((with_reducible refine ⟨_, rfl, ?_⟩)))
local macro_rules | `(tactic| walk_at "x1") => `(tactic| focus (walk_at "lendx"))
local macro_rules | `(tactic| walk_at "x2") => `(tactic| focus (((with_reducible refine' And.intro ?hp ?_); (case hp => first | omega | assumption | exact rfl | exact Nat.le_of_ble_eq_true rfl | exact lfOLm (fun _ => rfl) | (show O.lf _ = true; simp only [O.lf, D.lf, lfL, lfOL, lf_mapI, Bool.and_true, Bool.and_self]; done)); (try dsimp only [List.set]))))
local macro_rules | `(tactic| walk_at "x3") => `(tactic| focus (((with_reducible refine' gogs_name ?hi ?_); (case hi => exact Nat.le_of_ble_eq_true rfl); dsimp only [List.set])))
local macro_rules | `(tactic| walk_at "x4") => `(tactic| focus (((with_reducible refine' gos_setdAppF ?hR ?he ?hl ?hf ?hz ?hk); (case hR => assumption); (case he => exact rfl); (case hl => exact rfl); (case hf => exact rfl); (case hz => first | (simp only [List.length_map]; omega) | walk_at "lenx" | skip); (intro F' B'); (try walk_at "lendx"); (try (simp only [fzE_cons, fzE_nil, frO_none, frO_some, fz_fl, fz_fk, fz_d, fzL_fl, fzK_d, O.fz, fzL, List.set])))))
local macro_rules | `(tactic| walk_at "x5") => `(tactic| focus (((with_reducible refine' go_var ?hv ?_); (case hv => exact rfl))))
local macro_rules | `(tactic| walk_at "x6") => `(tactic| focus ((simp only [fz_fl, fz_fk, fz_d, fzL_fl, fzK_d, O.fz, fzL])))
local macro_rules | `(tactic| walk_at "x7") => `(tactic| focus (((with_reducible refine' gog_name ?hi ?_); (case hi => exact Nat.le_of_ble_eq_true rfl); dsimp only [List.set])))
local macro_rules | `(tactic| walk_at "x8") => `(tactic| focus (((with_reducible refine' o2_mod ?hb ?_); (case hb => omega))))
local macro_rules | `(tactic| walk_at "x9") => `(tactic| focus (((with_reducible refine' o2_mul ?hm ?_); (case hm => first | exact IntMulOk.of_left (by decide) | exact IntMulOk.of_right (by decide) | assumption | exact IntMulOk.of_right (intBits_le_64 (by omega) (by omega)) | exact IntMulOk.of_left (intBits_le_64 (by omega) (by omega))))))
local macro_rules | `(tactic| walk_at "x10") => `(tactic| focus (((with_reducible refine' gos_append ?ha ?h0); (case h0 => exact ⟨_, rfl⟩))))
local macro_rules | `(tactic| walk_at "x11") => `(tactic| focus (((with_reducible refine' go_fz ?hv ?_); (case hv => exact rfl); (try walk_at "lendx"); (try simp only [fz_fl, fz_fk, fz_d, fzL_fl, fzK_d, O.fz, fzL, List.set]))))
local macro_rules | `(tactic| walk_at "x12") => `(tactic| focus (((with_reducible refine o2_pow (by decide) ?_); dsimp only [Int.reduceToNat, Int.reducePow])))
local macro_rules | `(tactic| walk_at "x13") => `(tactic| focus (((with_reducible refine and_im (fun hc => ?_) (fun hc => ?_)) <;> try simp only [decide_eq_true_eq, decide_eq_false_iff_not, Bool.true_eq_false, Bool.false_eq_true, Bool.not_eq_true', Bool.not_eq_false', reduceCtorEq] at hc <;> try first | exact absurd hc (by decide) | exact absurd hc (by assumption) | exact absurd (by assumption) hc | exact absurd rfl hc)))
local macro_rules | `(tactic| walk_at "x14") => `(tactic| focus (((with_reducible refine' o2_div ?hb ?_); (case hb => omega))))
local macro_rules | `(tactic| walk_at "x15") => `(tactic| focus ((with_reducible refine ⟨_, _, rfl, ?_⟩)))
local macro_rules | `(tactic| walk_at "x16") => `(tactic| focus (((with_reducible refine' gog_setDI ?ha ?h0); (case h0 => exact ⟨_, rfl⟩))))
local macro_rules | `(tactic| walk_at "x17") => `(tactic| focus ((refine ⟨_, _, by exact rfl, by exact rfl, ?_⟩)))
local macro_rules | `(tactic| walk_at "x18") => `(tactic| focus (((with_reducible refine' go_varM ?hv ?_); (case hv => exact rfl); (try dsimp only [List.set]))))
local macro_rules | `(tactic| walk_at "x19") => `(tactic| focus (((with_reducible refine' gos_fldR ?hR ?_); (case hR => assumption))))
local macro_rules | `(tactic| walk_at "x20") => `(tactic| focus (((with_reducible refine' gog_setDF ?hR ?he ?hl ?hf ?hz ?hk); (case hR => assumption); (case he => exact rfl); (case hl => exact rfl); (case hf => exact rfl); (case hz => first | (simp only [List.length_map]; omega) | walk_at "lenx" | skip); (intro F' B'); (try walk_at "lendx"); (try (simp only [fzE_cons, fzE_nil, frO_none, frO_some, fz_fl, fz_fk, fz_d, fzL_fl, fzK_d, O.fz, fzL, List.set])))))
local macro_rules | `(tactic| walk_at "x21") => `(tactic| focus ((refine ⟨Sum.inl _, by exact rfl, ?_⟩)))
local macro_rules | `(tactic| walk_at "x22") => `(tactic| focus (with_reducible refine oa_len (.seq rfl) ?_))
local macro_rules | `(tactic| walk_at "x23") => `(tactic| focus (((with_reducible refine' go_fldR ?hR ?_); (case hR => assumption))))
local macro_rules | `(tactic| walk_at "x24") => `(tactic| focus (((with_reducible refine' o2_ix (x := _) rfl ?hi ?_); (case hi => first | walk_at "ixx" | exact rfl | exact atI_ofN.trans rfl))))
local macro_rules | `(tactic| walk_at "x25") => `(tactic| focus ((with_reducible refine ⟨_, _, _, rfl, ?_⟩)))
local macro_rules | `(tactic| walk_at "x26") => `(tactic| focus (((with_reducible refine' o2_neN ?hq ?_); (case hq => exact rfl); (try simp only [emp_map]))))
local macro_rules | `(tactic| walk_at "x27") => `(tactic| focus (((with_reducible refine' go_cst ?hq ?_); (case hq => assumption))))
local macro_rules | `(tactic| walk_at "x28") => `(tactic| focus ((with_reducible refine o2_not ?_; (try simp only [D.isNon, Bool.not_true, Bool.not_false]))))
local macro_rules | `(tactic| walk_at "x29") => `(tactic| focus (((with_reducible refine' gos_dupd ?ha ?h0); (case h0 => exact ⟨_, rfl⟩))))
local macro_rules | `(tactic| walk_at "x30") => `(tactic| focus (((with_reducible refine go_lend' fun F' B' => ?_); (try walk_at "lendx"); (try (simp only [fzE_cons, fzE_nil, frO_none, frO_some, fz_fl, fz_fk, fz_d, fzL_fl, fzK_d, O.fz, fzL, List.set])))))
local macro_rules | `(tactic| walk_at "x31") => `(tactic| focus ((with_reducible refine ⟨_, _, _, _, rfl, ?_⟩)))
local macro_rules | `(tactic| walk_at "x32") => `(tactic| focus (((with_reducible refine gos_clear ?_); (refine ⟨_, rfl, ?_⟩); dsimp only [List.set])))
local macro_rules | `(tactic| walk_at "x33") => `(tactic| focus (((with_reducible refine' gos_extend ?ha ?h0); (case h0 => exact ⟨_, rfl⟩))))
local macro_rules | `(tactic| walk_at "x34") => `(tactic| focus (((with_reducible refine' gos_dclear ?he ?_); (case he => exact rfl); dsimp only [List.set])))
local macro_rules | `(tactic| walk_at "x35") => `(tactic| focus (((refine ⟨_, Sl.lst (by exact rfl), ?_⟩); (try simp only [SK.cutD_map, cutD_takeI, cutD_dropI, cutD_midI, ← List.map_take, ← List.map_drop, Int.reduceToNat, Int.reduceLE]))))
local macro_rules | `(tactic| walk_at "x36") => `(tactic| focus (((with_reducible refine got_lend' fun F' B' => ?_); (try walk_at "lendx"); (try (simp only [fzE_cons, fzE_nil, frO_none, frO_some, fz_fl, fz_fk, fz_d, fzL_fl, fzK_d, O.fz, fzL, List.set])))))
local macro_rules | `(tactic| walk_at "x37") => `(tactic| focus (((with_reducible refine' callL_Shelf__put ?he ?hm ?_); (case he => exact rfl); (case hm => exact rfl); (intro F1 B1); (try walk_at "lendx"); (try (simp only [fzE_cons, fzE_nil, frO_none, frO_some, fz_fl, fz_fk, fz_d, fzL_fl, fzK_d, O.fz, fzL, List.set])))))
local macro_rules | `(tactic| walk_at "x38") => `(tactic| focus ((with_reducible refine ⟨_, _, _, _, _, _, rfl, ?_⟩)))
section
variable {P : Program} {w : World} {K : PySem.W.Frag} {mg : Str → Option Value} {base : Heap}
theorem cal_Shelf__put {zf : Addr} (D : DfM K "put" "Shelf.put" s_Shelf__put zf) {a_NO_MAKE a_Shelf : Addr} (XX : XF K mg a_NO_MAKE a_Shelf) (ME : Meth K a_Shelf "put" zf) : CalMS P w K mg base a_Shelf "put" 1 ["self", "stamp", "dealing", "drafts"] (C_Shelf__put mg a_Shelf) := by
  obtain ⟨fd, F⟩ := D
  refine ⟨zf, fd, ?_, ME, F.binds (ps := ["self", "stamp", "dealing", "drafts"]) fun _ _ _ _ _ _ us hl => match us, hl with | [_, _, _, _], _ => rfl⟩
  refine F.ok sc_Shelf__put (fun vs H Q E hS0 => spS_len (n := 3) (fun a fs xs p q c0 => by unfold C_Shelf__put at c0; obtain ⟨_, _, _, _, rfl, rfl, _⟩ := c0; rfl) hS0) (fun cdv A outer s H vs Q E hr hS0 => ?_)
  have hu := hu_of hr
  refine sps_body hS0 (fun F B za fs xs p q c0 hl0 wx => ?_)
  obtain ⟨l, s, d, dr, rfl, rfl, hp0, hp1, rfl, rfl⟩ := c0
  refine ⟨_, (pss_one (ps_lockG (ps_for PassesOwn.never rfl (pi_items (pv 3)) (k_tup (K := K) (n := 2) rfl (by rfl) (pgs_cons (pg_name (i := 4) sc_Shelf__put.nd rfl (by first | exact Or.inl rfl | exact Or.inr rfl)) (pgs_cons (pg_name (i := 5) sc_Shelf__put.nd rfl (by first | exact Or.inl rfl | exact Or.inr rfl)) pgs_nil)))
        (pss_one (ps_expr (k_bm (K := K) rfl (pe_bm PySem.F.plainAttrs_list PySem.F.slot_list_append PySem.F.type_list_append mt_append (pe_dsetd (k_fld (K := K) rfl (pe_fld (pv 0) rfl)) (pv 4) (pe_lst pa_nil) ⟨by rfl, by rfl, by rfl, by rfl⟩) (pa_cons (pe_tup (pa_cons (pv 1) (pa_cons (pv 2) (pa_cons (pv 5) pa_nil)))) pa_nil)))))))), ?_⟩
  clear hS0 hl0 hr hu wx
  have X_r_NO_MAKE := XX.r_NO_MAKE
  have X_R_Shelf := XX.R_Shelf
  have X_g_Shelf := XX.g_Shelf
  simp only [List.map_cons, List.map_nil, List.length_cons, List.length_nil, List.cons_append, List.nil_append, Nat.reduceAdd, Nat.reduceSub, List.replicate_succ, List.replicate_zero, N_Shelf__put]
  skip
  refine gos_forDI (kvs := imK oiD dr) (pld_var rfl) (fun i Γ' => ∃ a4 a5, Γ' = [some (.oi za a_Shelf (shF (putS l s d (dr.take i)))), some (O.d (.int s)), some (O.d (.int d)), some (O.d (.dic (imK oiD dr))), a4, a5]) ⟨_, _, rfl⟩ ?_ ?_
  · rintro F' B' i e _ hd ⟨a4, a5, rfl⟩
    rw [itemsD_im] at hd
    obtain ⟨p, hp, rfl⟩ := mapD_get hd
    have hlt : (dr.take i).length ≤ dr.length := by rw [List.length_take]; omega
    have hlen : (putS l s d (dr.take i)).length < 100000 := by
      have h1 := putS_len (s := s) (d := d) (dr := dr.take i) (l := l)
      omega
    have hch : (chn (putS l s d (dr.take i)) p.1).length < 100000 := by
      have h1 := putS_ch (s := s) (d := d) (e := p.1) (dr := dr.take i) (l := l)
      have := hp1 p.1
      omega
    ((with_reducible refine gog_tup ?_); walk_at "x0"; walk_at "x1"; walk_at "x2"; walk_at "x3"; walk_at "x3"; (with_reducible refine gogs_nil ?_); walk_at "x4"; walk_at "x5"; (focus skip); rotate_left)
    refine ⟨.inl p.1, _, rfl, lst_ch, by simp only [List.length_map]; exact hch, ?_⟩
    intro F' B'
    ((with_reducible refine go_tup ?_); (with_reducible refine goa_cons ?_); walk_at "x5"; (with_reducible refine goa_cons ?_); walk_at "x5"; (with_reducible refine goa_cons ?_); walk_at "x5"; (with_reducible refine goa_nil ?_); walk_at "x6"; walk_at "x2"; (focus skip); rotate_left)
    exact ⟨mk_lf ⟨s, d, p.2⟩, _, _, by
      rw [show putS l s d (dr.take (i + 1)) = put1 (putS l s d (dr.take i)) s d p from foldl_at _ _ _ _ _ hp]
      rw [← put_ch]⟩
  · rintro _ ⟨a4, a5, rfl⟩
    rw [imK_len, List.take_length]
    exact ⟨_, rfl, trivial, rfl⟩
theorem cal__law_stream (D : Df K mg "_law_stream" s__law_stream) {a_NO_MAKE a_Shelf : Addr} (XX : XF K mg a_NO_MAKE a_Shelf) (b_range : mg "range" = none) : Cal P w K mg base "_law_stream" 1 ["_law_cell", "_law_many"] (C__law_stream mg) := by
  obtain ⟨f, fd, F, mf⟩ := D
  refine ⟨f, fd, ?_, mf, F.kp, F.binds (ps := ["_law_cell", "_law_many"]) fun _ _ _ _ _ _ us hl => match us, hl with | [_, _], _ => rfl, Fun.lk F⟩
  refine F.ok sc__law_stream (fun vs H Q E hS0 => spP_len (n := 2) (fun xs p q c0 => by unfold C__law_stream at c0; obtain ⟨_, _, rfl, _⟩ := c0; rfl) hS0) (fun cdv A outer s H vs Q E hr hS0 => ?_)
  have hu := hu_of hr
  refine sp_body hS0 (fun B xs p q c0 hl0 wx => ?_)
  obtain ⟨c, k, rfl, hp0, hp1, rfl, rfl⟩ := c0
  refine ⟨_, (pss_cons (ps_asg (pe_lst pa_nil) (pg_name (i := 2) sc__law_stream.nd rfl (by first | exact Or.inl rfl | exact Or.inr rfl)))
      (pss_cons (ps_asg (pe_op op_modG (pv 0) pe_int) (pg_name (i := 3) sc__law_stream.nd rfl (by first | exact Or.inl rfl | exact Or.inr rfl)))
      (pss_cons (ps_for PassesOwn.never rfl (pi_range1 (by rfl) b_range (pa_cons (pv 1) pa_nil)) (pg_name (i := 4) sc__law_stream.nd rfl (by first | exact Or.inl rfl | exact Or.inr rfl))
        (pss_cons (ps_asg (pe_op op_modG (pe_op (k_add (K := K) rfl) (pe_op (k_add (K := K) rfl) (pe_op op_mulG (pv 3) pe_int) pe_int) (pv 4)) pe_int) (pg_name (i := 3) sc__law_stream.nd rfl (by first | exact Or.inl rfl | exact Or.inr rfl)))
        (pss_one (ps_expr (k_bm (K := K) rfl (pe_bm PySem.F.plainAttrs_list PySem.F.slot_list_append PySem.F.type_list_append mt_append (pv 2) (pa_cons (pv 3) pa_nil)))))))
      (pss_one (ps_ret (pv 2)))))), ?_⟩
  clear hS0 hl0 hr hu wx b_range
  have X_r_NO_MAKE := XX.r_NO_MAKE
  have X_R_Shelf := XX.R_Shelf
  have X_g_Shelf := XX.g_Shelf
  simp only [List.map_cons, List.map_nil, List.length_cons, List.length_nil, List.cons_append, List.nil_append, Nat.reduceAdd, Nat.reduceSub, List.replicate_succ, List.replicate_zero, N__law_stream]
  ((with_reducible refine gos_sA ?_); (with_reducible refine gos_asg ?_); (with_reducible refine go_lst ?_); (with_reducible refine goa_nil ?_); walk_at "x1"; walk_at "x2"; walk_at "x7"; (with_reducible refine gos_sA ?_); (with_reducible refine gos_asg ?_); (with_reducible refine go_op ?_); walk_at "x5"; (with_reducible refine go_int ?_); walk_at "x1"; walk_at "x6"; walk_at "x8"; walk_at "x7"; (with_reducible refine gos_sF ?_); (with_reducible refine gos_for ?_); (with_reducible refine goi_rng1 ?_); (with_reducible refine goa_cons ?_); walk_at "x5"; (with_reducible refine goa_nil ?_); walk_at "x0"; walk_at "x1"; walk_at "x2"; walk_at "x2"; (focus skip); rotate_left)
  refine ⟨fun i Γ' => ∃ (xs : List Int) (n : Int) (a4 : Option O), xs.length = i ∧ (∀ x ∈ xs, 0 ≤ x ∧ x < 2147483647) ∧ Γ' = [some (O.d (.int c)), some (O.d (.int k)), some (O.ol ((xs.map D.int).map O.d)), some (O.d (.int n)), a4], ⟨[], _, _, rfl, by simp, rfl⟩, ?_, ?_⟩
  · rintro i d _ hd ⟨xs, n, a4, h1, h2, rfl⟩
    obtain ⟨hi, rfl⟩ := rngD_get hd
    (walk_at "x7"; (with_reducible refine gos_sA ?_); (with_reducible refine gos_asg ?_); (with_reducible refine go_op ?_); (with_reducible refine go_op ?_); (with_reducible refine go_op ?_); (with_reducible refine go_op ?_); walk_at "x5"; (with_reducible refine go_int ?_); walk_at "x1"; walk_at "x6"; walk_at "x9"; (with_reducible refine go_int ?_); walk_at "x6"; (with_reducible refine o2_add ?_); walk_at "x5"; walk_at "x6"; (with_reducible refine o2_add ?_); (with_reducible refine go_int ?_); walk_at "x6"; walk_at "x8"; walk_at "x7"; walk_at "x10"; walk_at "x5"; walk_at "x0"; walk_at "x1"; (focus skip); rotate_left)
    refine ⟨by simp; omega, xs ++ [_], _, _, by simp [h1], fun x hx => ?_, by simp only [List.map_append, List.map_cons, List.map_nil]; rfl⟩
    · rcases List.mem_append.mp hx with h | h
      · exact h2 x h
      · rw [List.mem_singleton.mp h]; omega
  · rintro _ ⟨xs, n, a4, h1, h2, rfl⟩
    ((with_reducible refine gos_ret ?_); walk_at "x11"; (focus skip); rotate_left)
    exact ⟨xs, by rw [h1, rngD_len]; omega, h2, rfl⟩
theorem cal__law_great (D : Df K mg "_law_great" s__law_great) {a_NO_MAKE a_Shelf : Addr} (XX : XF K mg a_NO_MAKE a_Shelf) : Cal P w K mg base "_law_great" 1 ["_law_number"] (C__law_great mg) := by
  obtain ⟨f, fd, F, mf⟩ := D
  refine ⟨f, fd, ?_, mf, F.kp, F.binds (ps := ["_law_number"]) fun _ _ _ _ _ _ us hl => match us, hl with | [_], _ => rfl, Fun.lk F⟩
  refine F.ok sc__law_great (fun vs H Q E hS0 => spP_len (n := 1) (fun xs p q c0 => by unfold C__law_great at c0; obtain ⟨_, rfl, _⟩ := c0; rfl) hS0) (fun cdv A outer s H vs Q E hr hS0 => ?_)
  have hu := hu_of hr
  refine sp_body hS0 (fun B xs p q c0 hl0 wx => ?_)
  obtain ⟨n, rfl, hp0, hp1, rfl, rfl⟩ := c0
  refine ⟨_, (pss_one (ps_ret (pe_op op_subG (pe_op op_modG (pe_op op_mulG (pe_op op_powG (pv 0) pe_int) pe_int) (pe_op op_subG (pe_op op_mulG pe_int (pe_op op_powG pe_int pe_int)) pe_int)) (pe_op op_subG (pe_op op_powG pe_int pe_int) pe_int)))), ?_⟩
  clear hS0 hl0 hr hu wx
  have X_r_NO_MAKE := XX.r_NO_MAKE
  have X_R_Shelf := XX.R_Shelf
  have X_g_Shelf := XX.g_Shelf
  simp only [List.map_cons, List.map_nil, List.length_cons, List.length_nil, List.cons_append, List.nil_append, Nat.reduceAdd, Nat.reduceSub, List.replicate_succ, List.replicate_zero, N__law_great]
  ((with_reducible refine gos_ret ?_); (with_reducible refine go_op ?_); (with_reducible refine go_op ?_); (with_reducible refine go_op ?_); (with_reducible refine go_op ?_); walk_at "x5"; (with_reducible refine go_int ?_); walk_at "x1"; walk_at "x6"; (focus skip); rotate_left)
  refine o2_pow ⟨by decide, by decide, by omega⟩ ?_
  ((with_reducible refine go_int ?_); walk_at "x6"; walk_at "x9"; (with_reducible refine go_op ?_); (with_reducible refine go_op ?_); (with_reducible refine go_int ?_); (with_reducible refine go_op ?_); (with_reducible refine go_int ?_); (with_reducible refine go_int ?_); walk_at "x6"; walk_at "x12"; walk_at "x6"; walk_at "x9"; (with_reducible refine go_int ?_); walk_at "x6"; (with_reducible refine o2_sub ?_); walk_at "x6"; walk_at "x8"; (with_reducible refine go_op ?_); (with_reducible refine go_op ?_); (with_reducible refine go_int ?_); (with_reducible refine go_int ?_); walk_at "x6"; walk_at "x12"; (with_reducible refine go_int ?_); walk_at "x6"; (with_reducible refine o2_sub ?_); walk_at "x6"; (with_reducible refine o2_sub ?_); (focus skip); rotate_left)
  exact ⟨_, ⟨by omega, by omega⟩, rfl⟩
theorem cal__law_value (D : Df K mg "_law_value" s__law_value) {a_NO_MAKE a_Shelf : Addr} (XX : XF K mg a_NO_MAKE a_Shelf) (c__law_great : Cal P w K mg base "_law_great" 1 ["_law_number"] (C__law_great mg)) : Cal P w K mg base "_law_value" 2 ["_law_number"] (C__law_value mg) := by
  obtain ⟨f, fd, F, mf⟩ := D
  obtain ⟨f__law_great, fd__law_great, G__law_great, g__law_great, k__law_great, bn__law_great, _⟩ := c__law_great
  refine ⟨f, fd, ?_, mf, F.kp, F.binds (ps := ["_law_number"]) fun _ _ _ _ _ _ us hl => match us, hl with | [_], _ => rfl, Fun.lk F⟩
  refine F.ok sc__law_value (fun vs H Q E hS0 => spP_len (n := 1) (fun xs p q c0 => by unfold C__law_value at c0; obtain ⟨_, rfl, _⟩ := c0; rfl) hS0) (fun cdv A outer s H vs Q E hr hS0 => ?_)
  have hu := hu_of hr
  refine sp_body hS0 (fun B xs p q c0 hl0 wx => ?_)
  obtain ⟨n, rfl, hp0, hp1, rfl, rfl⟩ := c0
  refine ⟨_, (pss_cons (ps_if (pt_cmpR (k_eq (K := K) rfl hr.units) (pe_op op_modG (pv 0) pe_int) pe_int (nomark _))
        (pss_one (ps_ret (pe_call G__law_great hr rfl g__law_great k__law_great bn__law_great .nil pass0 (pa_cons (pv 0) pa_nil))))
        pss_nil)
      (pss_cons (ps_if (pt_cmpR (k_eq (K := K) rfl hr.units) (pe_op op_modG (pv 0) pe_int) pe_int (nomark _))
        (pss_one (ps_ret (pe_op op_subG (pe_op op_modG (pe_op op_divG (pv 0) pe_int) pe_int) pe_int)))
        pss_nil)
      (pss_one (ps_ret (pe_op op_subG (pe_op op_modG (pe_op op_divG (pv 0) pe_int) pe_int) pe_int))))), ?_⟩
  clear hS0 hl0 hr hu wx G__law_great g__law_great k__law_great bn__law_great
  have X_r_NO_MAKE := XX.r_NO_MAKE
  have X_R_Shelf := XX.R_Shelf
  have X_g_Shelf := XX.g_Shelf
  simp only [List.map_cons, List.map_nil, List.length_cons, List.length_nil, List.cons_append, List.nil_append, Nat.reduceAdd, Nat.reduceSub, List.replicate_succ, List.replicate_zero, N__law_value]
  ((with_reducible refine gos_sIR ?_); (with_reducible refine gos_if ?_); (with_reducible refine got_test ?_); (with_reducible refine go_op ?_); (with_reducible refine go_op ?_); walk_at "x5"; (with_reducible refine go_int ?_); walk_at "x1"; walk_at "x6"; walk_at "x8"; (with_reducible refine go_int ?_); walk_at "x6"; (with_reducible refine o2_eqI ?_); walk_at "x0"; walk_at "x13"; (with_reducible refine gos_ret ?_); walk_at "x1"; (with_reducible refine call__law_great ?_); (with_reducible refine goa_cons ?_); walk_at "x5"; (with_reducible refine goa_nil ?_); walk_at "x0"; walk_at "x2"; walk_at "x2"; (focus skip); rotate_left; (with_reducible refine gos_next ?_); (with_reducible refine gos_sIR ?_); (with_reducible refine gos_if ?_); (with_reducible refine got_test ?_); (with_reducible refine go_op ?_); (with_reducible refine go_op ?_); walk_at "x5"; (with_reducible refine go_int ?_); walk_at "x1"; walk_at "x6"; walk_at "x8"; (with_reducible refine go_int ?_); walk_at "x6"; (with_reducible refine o2_eqI ?_); walk_at "x0"; walk_at "x13"; (with_reducible refine gos_ret ?_); (with_reducible refine go_op ?_); (with_reducible refine go_op ?_); (with_reducible refine go_op ?_); walk_at "x5"; (with_reducible refine go_int ?_); walk_at "x1"; walk_at "x6"; walk_at "x14"; (with_reducible refine go_int ?_); walk_at "x6"; walk_at "x8"; (with_reducible refine go_int ?_); walk_at "x6"; (with_reducible refine o2_sub ?_); (focus skip); rotate_left; (with_reducible refine gos_next ?_); (with_reducible refine gos_ret ?_); (with_reducible refine go_op ?_); (with_reducible refine go_op ?_); (with_reducible refine go_op ?_); walk_at "x5"; (with_reducible refine go_int ?_); walk_at "x1"; walk_at "x6"; walk_at "x14"; (with_reducible refine go_int ?_); walk_at "x6"; walk_at "x8"; (with_reducible refine go_int ?_); walk_at "x6"; (with_reducible refine o2_sub ?_); (focus skip); rotate_left)
  · intro x _
    exact ⟨_, rfl⟩
  all_goals exact ⟨_, rfl⟩
theorem cal__law_key (D : Df K mg "_law_key" s__law_key) {a_NO_MAKE a_Shelf : Addr} (XX : XF K mg a_NO_MAKE a_Shelf) (c__law_great : Cal P w K mg base "_law_great" 1 ["_law_number"] (C__law_great mg)) : Cal P w K mg base "_law_key" 2 ["_law_number", "_law_base"] (C__law_key mg) := by
  obtain ⟨f, fd, F, mf⟩ := D
  obtain ⟨f__law_great, fd__law_great, G__law_great, g__law_great, k__law_great, bn__law_great, _⟩ := c__law_great
  refine ⟨f, fd, ?_, mf, F.kp, F.binds (ps := ["_law_number", "_law_base"]) fun _ _ _ _ _ _ us hl => match us, hl with | [_, _], _ => rfl, Fun.lk F⟩
  refine F.ok sc__law_key (fun vs H Q E hS0 => spP_len (n := 2) (fun xs p q c0 => by unfold C__law_key at c0; obtain ⟨_, _, rfl, _⟩ := c0; rfl) hS0) (fun cdv A outer s H vs Q E hr hS0 => ?_)
  have hu := hu_of hr
  refine sp_body hS0 (fun B xs p q c0 hl0 wx => ?_)
  obtain ⟨n, b, rfl, hp0, hp1, hp2, hp3, rfl, rfl⟩ := c0
  refine ⟨_, (pss_cons (ps_if (pt_cmpR (k_eq (K := K) rfl hr.units) (pe_op op_modG (pv 0) pe_int) pe_int (nomark _))
        (pss_one (ps_ret (pe_call G__law_great hr rfl g__law_great k__law_great bn__law_great .nil pass0 (pa_cons (pe_op (k_add (K := K) rfl) (pv 1) (pe_op op_modG (pe_op op_divG (pv 0) pe_int) pe_int)) pa_nil))))
        pss_nil)
      (pss_one (ps_ret (pe_op op_subG (pe_op op_modG (pe_op op_divG (pv 0) pe_int) pe_int) pe_int)))), ?_⟩
  clear hS0 hl0 hr hu wx G__law_great g__law_great k__law_great bn__law_great
  have X_r_NO_MAKE := XX.r_NO_MAKE
  have X_R_Shelf := XX.R_Shelf
  have X_g_Shelf := XX.g_Shelf
  simp only [List.map_cons, List.map_nil, List.length_cons, List.length_nil, List.cons_append, List.nil_append, Nat.reduceAdd, Nat.reduceSub, List.replicate_succ, List.replicate_zero, N__law_key]
  ((with_reducible refine gos_sIR ?_); (with_reducible refine gos_if ?_); (with_reducible refine got_test ?_); (with_reducible refine go_op ?_); (with_reducible refine go_op ?_); walk_at "x5"; (with_reducible refine go_int ?_); walk_at "x1"; walk_at "x6"; walk_at "x8"; (with_reducible refine go_int ?_); walk_at "x6"; (with_reducible refine o2_eqI ?_); walk_at "x0"; walk_at "x13"; (with_reducible refine gos_ret ?_); walk_at "x1"; (with_reducible refine call__law_great ?_); (with_reducible refine goa_cons ?_); (with_reducible refine go_op ?_); walk_at "x5"; (with_reducible refine go_op ?_); (with_reducible refine go_op ?_); walk_at "x5"; (with_reducible refine go_int ?_); walk_at "x6"; walk_at "x14"; (with_reducible refine go_int ?_); walk_at "x6"; walk_at "x8"; walk_at "x6"; (with_reducible refine o2_add ?_); (with_reducible refine goa_nil ?_); walk_at "x0"; walk_at "x2"; walk_at "x2"; (focus skip); rotate_left; (with_reducible refine gos_next ?_); (with_reducible refine gos_ret ?_); (with_reducible refine go_op ?_); (with_reducible refine go_op ?_); (with_reducible refine go_op ?_); walk_at "x5"; (with_reducible refine go_int ?_); walk_at "x1"; walk_at "x6"; walk_at "x14"; (with_reducible refine go_int ?_); walk_at "x6"; walk_at "x8"; (with_reducible refine go_int ?_); walk_at "x6"; (with_reducible refine o2_sub ?_); (focus skip); rotate_left)
  · intro x hx
    exact ⟨_, hx, rfl⟩
  · exact ⟨_, ⟨by omega, by omega⟩, rfl⟩
theorem cal__law_first (D : Df K mg "_law_first" s__law_first) {a_NO_MAKE a_Shelf : Addr} (XX : XF K mg a_NO_MAKE a_Shelf) (c__law_stream : Cal P w K mg base "_law_stream" 1 ["_law_cell", "_law_many"] (C__law_stream mg)) (c__law_value : Cal P w K mg base "_law_value" 2 ["_law_number"] (C__law_value mg)) (c__law_key : Cal P w K mg base "_law_key" 2 ["_law_number", "_law_base"] (C__law_key mg)) (b_range : mg "range" = none) : Cal P w K mg base "_law_first" 3 ["_law_cell", "_law_base"] (C__law_first mg) := by
  obtain ⟨f, fd, F, mf⟩ := D
  obtain ⟨f__law_stream, fd__law_stream, G__law_stream, g__law_stream, k__law_stream, bn__law_stream, _⟩ := c__law_stream
  obtain ⟨f__law_value, fd__law_value, G__law_value, g__law_value, k__law_value, bn__law_value, _⟩ := c__law_value
  obtain ⟨f__law_key, fd__law_key, G__law_key, g__law_key, k__law_key, bn__law_key, _⟩ := c__law_key
  refine ⟨f, fd, ?_, mf, F.kp, F.binds (ps := ["_law_cell", "_law_base"]) fun _ _ _ _ _ _ us hl => match us, hl with | [_, _], _ => rfl, Fun.lk F⟩
  refine F.ok sc__law_first (fun vs H Q E hS0 => spP_len (n := 2) (fun xs p q c0 => by unfold C__law_first at c0; obtain ⟨_, _, rfl, _⟩ := c0; rfl) hS0) (fun cdv A outer s H vs Q E hr hS0 => ?_)
  have hu := hu_of hr
  refine sp_body hS0 (fun B xs p q c0 hl0 wx => ?_)
  obtain ⟨c, b, rfl, hp0, hp1, rfl, rfl⟩ := c0
  refine ⟨_, (pss_cons (ps_asg (pe_call G__law_stream (hr.mono (by decide)) rfl g__law_stream k__law_stream bn__law_stream .nil pass0 (pa_cons (pv 0) (pa_cons pe_int pa_nil))) (pg_name (i := 2) sc__law_first.nd rfl (by first | exact Or.inl rfl | exact Or.inr rfl)))
      (pss_cons (ps_asg pe_dnewK (pg_name (i := 3) sc__law_first.nd rfl (by first | exact Or.inl rfl | exact Or.inr rfl)))
      (pss_cons (ps_for PassesOwn.never rfl (pi_range1 (by rfl) b_range (pa_cons (pe_op op_modG (pe_ix (k_ix (K := K) rfl hu) (pv 2) pe_int (fun _ _ => rfl)) pe_int) pa_nil)) (pg_name (i := 4) sc__law_first.nd rfl (by first | exact Or.inl rfl | exact Or.inr rfl))
        (pss_one (ps_asg (pe_call G__law_value hr rfl g__law_value k__law_value bn__law_value .nil pass0 (pa_cons (pe_ix (k_ix (K := K) rfl hu) (pv 2) (pe_op (k_add (K := K) rfl) pe_int (pv 4)) (fun _ _ => rfl)) pa_nil)) (pg_sub (pv 3) (pe_call G__law_key hr rfl g__law_key k__law_key bn__law_key .nil pass0 (pa_cons (pe_ix (k_ix (K := K) rfl hu) (pv 2) (pe_op (k_add (K := K) rfl) pe_int (pv 4)) (fun _ _ => rfl)) (pa_cons (pv 1) pa_nil))) (set_G hu)))))
      (pss_one (ps_ret (pe_mv (pv 3))))))), ?_⟩
  clear hS0 hl0 hr hu wx G__law_stream g__law_stream k__law_stream bn__law_stream G__law_value g__law_value k__law_value bn__law_value G__law_key g__law_key k__law_key bn__law_key b_range
  have X_r_NO_MAKE := XX.r_NO_MAKE
  have X_R_Shelf := XX.R_Shelf
  have X_g_Shelf := XX.g_Shelf
  simp only [List.map_cons, List.map_nil, List.length_cons, List.length_nil, List.cons_append, List.nil_append, Nat.reduceAdd, Nat.reduceSub, List.replicate_succ, List.replicate_zero, N__law_first]
  ((with_reducible refine gos_sA ?_); (with_reducible refine gos_asg ?_); walk_at "x1"; (with_reducible refine call__law_stream ?_); (with_reducible refine goa_cons ?_); walk_at "x5"; (with_reducible refine goa_cons ?_); (with_reducible refine go_int ?_); (with_reducible refine goa_nil ?_); walk_at "x6"; walk_at "x15"; walk_at "x2"; walk_at "x2"; (focus skip); rotate_left)
  intro xs hl hx
  have hx0 : ∀ y ∈ xs.map D.int, ∃ x : Int, y = .int x ∧ 0 ≤ x ∧ x < 2147483647 := fun y hy => by
    obtain ⟨x, h, rfl⟩ := List.mem_map.mp hy
    exact ⟨x, rfl, hx x h⟩
  (walk_at "x7"; (with_reducible refine gos_sA ?_); (with_reducible refine gos_asg ?_); (with_reducible refine go_dnew ?_); walk_at "x7"; (with_reducible refine gos_sF ?_); (with_reducible refine gos_for ?_); (with_reducible refine goi_rng1 ?_); (with_reducible refine goa_cons ?_); (with_reducible refine go_op ?_); (with_reducible refine go_op ?_); walk_at "x5"; (with_reducible refine go_int ?_); walk_at "x1"; walk_at "x6"; (focus skip); rotate_left)
  refine o2_ixr rfl (by decide) (by simp only [List.length_map]; omega) fun y hy => ?_
  obtain ⟨x0, rfl, _, _⟩ := hx0 y hy
  ((with_reducible refine go_int ?_); walk_at "x6"; walk_at "x8"; (with_reducible refine goa_nil ?_); walk_at "x0"; walk_at "x2"; walk_at "x2"; (focus skip); rotate_left)
  refine ⟨fun i Γ' => ∃ (rows : IM Int) (a4 : Option O), (rows.map (·.1)).Nodup ∧ rows.length ≤ i ∧ i ≤ 4 ∧ (∀ k ∈ rows.map (·.1), kOk k) ∧ Γ' = [some (O.d (.int c)), some (O.d (.int b)), some (O.d (.lst (xs.map D.int))), some (.od (imO (fun x => O.d (.int x)) rows)), a4], ⟨[], _, by simp, Nat.zero_le _, Nat.zero_le _, by simp, rfl⟩, ?_, ?_⟩
  · rintro i d _ hd ⟨rows, a4, h1, h2, h3, h4, rfl⟩
    obtain ⟨hi, rfl⟩ := rngD_get hd
    have hi4 : i < 4 := by omega
    (walk_at "x7"; (with_reducible refine gos_asg ?_); walk_at "x1"; (with_reducible refine call__law_value ?_); (with_reducible refine goa_cons ?_); (with_reducible refine go_op ?_); walk_at "x5"; (with_reducible refine go_op ?_); (with_reducible refine go_int ?_); walk_at "x5"; walk_at "x6"; (with_reducible refine o2_add ?_); walk_at "x6"; (focus skip); rotate_left)
    refine o2_ixr rfl (by omega) (by simp only [List.length_map]; omega) fun y hy => ?_
    obtain ⟨x1, rfl, _, _⟩ := hx0 y hy
    ((with_reducible refine goa_nil ?_); walk_at "x0"; walk_at "x2"; walk_at "x2"; (focus skip); rotate_left)
    intro v
    (walk_at "x16"; (with_reducible refine call__law_key ?_); (with_reducible refine goa_cons ?_); (with_reducible refine go_op ?_); walk_at "x5"; (with_reducible refine go_op ?_); (with_reducible refine go_int ?_); walk_at "x5"; walk_at "x6"; (with_reducible refine o2_add ?_); walk_at "x6"; (focus skip); rotate_left)
    refine o2_ixr rfl (by omega) (by simp only [List.length_map]; omega) fun y hy => ?_
    obtain ⟨x2, rfl, _, _⟩ := hx0 y hy
    ((with_reducible refine goa_cons ?_); walk_at "x5"; (with_reducible refine goa_nil ?_); walk_at "x1"; walk_at "x6"; walk_at "x15"; walk_at "x2"; walk_at "x2"; walk_at "x2"; walk_at "x2"; (focus skip); rotate_left)
    intro k hk
    (walk_at "x17"; (focus skip); rotate_left)
    exact ⟨by rw [imO_len]; omega, SK.dput rows k v, _, dput_nodup h1, Nat.le_trans dput_len (by omega), by omega, fun e he => by
      rcases dput_mem he with q | q
      · rw [q]; exact hk
      · exact h4 e q, by rw [← imO_put (fo := fun x => O.d (.int x))]⟩
  · rintro _ ⟨rows, a4, h1, h2, h3, h4, rfl⟩
    ((with_reducible refine gos_ret ?_); walk_at "x18"; (focus skip); rotate_left)
    exact ⟨rows, h1, by omega, h4, rfl⟩
theorem cal_Shelf__init {zf : Addr} (D : DfM K "__init__" "Shelf.__init__" s_Shelf__init zf) {a_NO_MAKE a_Shelf : Addr} (XX : XF K mg a_NO_MAKE a_Shelf) (MK : Mk K a_Shelf zf) : CalI P w K mg base "Shelf" a_Shelf 1 ["self", "rows"] (C_Shelf__init mg) := by
  obtain ⟨fd, F⟩ := D
  refine ⟨zf, fd, ?_, XX.g_Shelf, MK, F.binds (ps := ["self", "rows"]) fun _ _ _ _ _ _ us hl => match us, hl with | [_, _], _ => rfl⟩
  refine F.ok sc_Shelf__init (fun vs H Q E hS0 => spS_len (n := 1) (fun a fs xs p q c0 => by unfold C_Shelf__init at c0; obtain ⟨_, rfl, rfl, _⟩ := c0; rfl) hS0) (fun cdv A outer s H vs Q E hr hS0 => ?_)
  have hu := hu_of hr
  refine sps_body hS0 (fun F B a fs xs p q c0 hl0 wx => ?_)
  obtain ⟨rows, rfl, rfl, hp0, rfl, rfl⟩ := c0
  refine ⟨_, (pss_cons (k_sfld (K := K) rfl (ps_fld (pv 0) pe_dnewK rfl))
      (pss_one (ps_lockG (ps_for PassesOwn.never rfl (pi_items (pv 1)) (k_tup (K := K) (n := 2) rfl (by rfl) (pgs_cons (pg_name (i := 2) sc_Shelf__init.nd rfl (by first | exact Or.inl rfl | exact Or.inr rfl)) (pgs_cons (pg_name (i := 3) sc_Shelf__init.nd rfl (by first | exact Or.inl rfl | exact Or.inr rfl)) pgs_nil)))
        (pss_one (ps_asg (pe_lst (pa_cons (pe_tup (pa_cons pe_int (pa_cons pe_int (pa_cons (pv 3) pa_nil)))) pa_nil)) (pg_sub (k_fld (K := K) rfl (pe_fld (pv 0) rfl)) (pv 2) (set_G hu)))))))), ?_⟩
  clear hS0 hl0 hr hu wx
  have X_r_NO_MAKE := XX.r_NO_MAKE
  have X_R_Shelf := XX.R_Shelf
  simp only [List.map_cons, List.map_nil, List.length_cons, List.length_nil, List.cons_append, List.nil_append, Nat.reduceAdd, Nat.reduceSub, List.replicate_succ, List.replicate_zero, N_Shelf__init]
  ((with_reducible refine gos_seq ?_); walk_at "x19"; (with_reducible refine go_dnew ?_); walk_at "x1"; walk_at "x15"; walk_at "x2"; walk_at "x2"; (focus skip); rotate_left)
  refine gos_forDI (kvs := imK D.int rows) (pld_var rfl) (fun i Γ' => ∃ a2 a3, Γ' = [some (.oi a a_Shelf (shF (initS (rows.take i)))), some (O.d (.dic (imK D.int rows))), a2, a3]) ⟨_, _, rfl⟩ ?_ ?_
  · rintro F' B' i e _ hd ⟨a2, a3, rfl⟩
    rw [itemsD_im] at hd
    obtain ⟨p, hp, rfl⟩ := mapD_get hd
    have hlen : (initS (rows.take i)).length < 100000 := by
      have h1 := initS_len (rows := rows.take i)
      rw [List.length_take] at h1; omega
    ((with_reducible refine gog_tup ?_); walk_at "x0"; walk_at "x1"; walk_at "x2"; walk_at "x3"; walk_at "x3"; (with_reducible refine gogs_nil ?_); (with_reducible refine gos_asg ?_); (with_reducible refine go_lst ?_); (with_reducible refine goa_cons ?_); (with_reducible refine go_tup ?_); (with_reducible refine goa_cons ?_); (with_reducible refine go_int ?_); (with_reducible refine goa_cons ?_); (with_reducible refine go_int ?_); (with_reducible refine goa_cons ?_); walk_at "x5"; (with_reducible refine goa_nil ?_); walk_at "x1"; walk_at "x6"; walk_at "x2"; (with_reducible refine goa_nil ?_); walk_at "x2"; walk_at "x20"; walk_at "x5"; walk_at "x21"; (focus skip); rotate_left)
    exact ⟨_, _, by
      rw [show initS (rows.take (i + 1)) = SK.dput (initS (rows.take i)) p.1 [⟨0, 0, some p.2⟩] from foldl_at _ _ _ _ _ hp]
      rw [← ini_ch]; rfl⟩
  · rintro _ ⟨a2, a3, rfl⟩
    rw [imK_len, List.take_length]
    exact ⟨_, rfl, trivial, rfl⟩
theorem cal__law_draft (D : Df K mg "_law_draft" s__law_draft) {a_NO_MAKE a_Shelf : Addr} (XX : XF K mg a_NO_MAKE a_Shelf) (c__law_value : Cal P w K mg base "_law_value" 2 ["_law_number"] (C__law_value mg)) : Cal P w K mg base "_law_draft" 3 ["_law_number"] (C__law_draft mg) := by
  obtain ⟨f, fd, F, mf⟩ := D
  obtain ⟨f__law_value, fd__law_value, G__law_value, g__law_value, k__law_value, bn__law_value, _⟩ := c__law_value
  refine ⟨f, fd, ?_, mf, F.kp, F.binds (ps := ["_law_number"]) fun _ _ _ _ _ _ us hl => match us, hl with | [_], _ => rfl, Fun.lk F⟩
  refine F.ok sc__law_draft (fun vs H Q E hS0 => spP_len (n := 1) (fun xs p q c0 => by unfold C__law_draft at c0; obtain ⟨_, rfl, _⟩ := c0; rfl) hS0) (fun cdv A outer s H vs Q E hr hS0 => ?_)
  have hu := hu_of hr
  refine sp_body hS0 (fun B xs p q c0 hl0 wx => ?_)
  obtain ⟨n, rfl, hp0, hp1, rfl, rfl⟩ := c0
  refine ⟨_, (pss_cons (ps_if (pt_cmpR (k_eq (K := K) rfl hr.units) (pe_op op_modG (pv 0) pe_int) pe_int (nomark _))
        (pss_one (ps_ret pe_non))
        pss_nil)
      (pss_one (ps_ret (pe_call G__law_value hr rfl g__law_value k__law_value bn__law_value .nil pass0 (pa_cons (pe_op op_divG (pv 0) pe_int) pa_nil))))), ?_⟩
  clear hS0 hl0 hr hu wx G__law_value g__law_value k__law_value bn__law_value
  have X_r_NO_MAKE := XX.r_NO_MAKE
  have X_R_Shelf := XX.R_Shelf
  have X_g_Shelf := XX.g_Shelf
  simp only [List.map_cons, List.map_nil, List.length_cons, List.length_nil, List.cons_append, List.nil_append, Nat.reduceAdd, Nat.reduceSub, List.replicate_succ, List.replicate_zero, N__law_draft]
  ((with_reducible refine gos_sIR ?_); (with_reducible refine gos_if ?_); (with_reducible refine got_test ?_); (with_reducible refine go_op ?_); (with_reducible refine go_op ?_); walk_at "x5"; (with_reducible refine go_int ?_); walk_at "x1"; walk_at "x6"; walk_at "x8"; (with_reducible refine go_int ?_); walk_at "x6"; (with_reducible refine o2_eqI ?_); walk_at "x0"; walk_at "x13"; (with_reducible refine gos_ret ?_); (with_reducible refine go_non ?_); walk_at "x1"; (focus skip); rotate_left; (with_reducible refine gos_next ?_); (with_reducible refine gos_ret ?_); walk_at "x1"; (with_reducible refine call__law_value ?_); (with_reducible refine goa_cons ?_); (with_reducible refine go_op ?_); walk_at "x5"; (with_reducible refine go_int ?_); walk_at "x6"; walk_at "x14"; (with_reducible refine goa_nil ?_); walk_at "x0"; walk_at "x2"; walk_at "x2"; (focus skip); rotate_left)
  · exact ⟨none, rfl⟩
  · intro x
    exact ⟨some x, rfl⟩
theorem cal__law_puts (D : Df K mg "_law_puts" s__law_puts) {a_NO_MAKE a_Shelf : Addr} (XX : XF K mg a_NO_MAKE a_Shelf) (c__law_stream : Cal P w K mg base "_law_stream" 1 ["_law_cell", "_law_many"] (C__law_stream mg)) (c__law_draft : Cal P w K mg base "_law_draft" 3 ["_law_number"] (C__law_draft mg)) (c__law_key : Cal P w K mg base "_law_key" 2 ["_law_number", "_law_base"] (C__law_key mg)) (b_range : mg "range" = none) : Cal P w K mg base "_law_puts" 4 ["_law_cells", "_law_base"] (C__law_puts mg) := by
  obtain ⟨f, fd, F, mf⟩ := D
  obtain ⟨f__law_stream, fd__law_stream, G__law_stream, g__law_stream, k__law_stream, bn__law_stream, _⟩ := c__law_stream
  obtain ⟨f__law_draft, fd__law_draft, G__law_draft, g__law_draft, k__law_draft, bn__law_draft, _⟩ := c__law_draft
  obtain ⟨f__law_key, fd__law_key, G__law_key, g__law_key, k__law_key, bn__law_key, _⟩ := c__law_key
  refine ⟨f, fd, ?_, mf, F.kp, F.binds (ps := ["_law_cells", "_law_base"]) fun _ _ _ _ _ _ us hl => match us, hl with | [_, _], _ => rfl, Fun.lk F⟩
  refine F.ok sc__law_puts (fun vs H Q E hS0 => spP_len (n := 2) (fun xs p q c0 => by unfold C__law_puts at c0; obtain ⟨_, _, rfl, _⟩ := c0; rfl) hS0) (fun cdv A outer s H vs Q E hr hS0 => ?_)
  have hu := hu_of hr
  refine sp_body hS0 (fun B xs p q c0 hl0 wx => ?_)
  obtain ⟨cs, b, rfl, hp0, hp1, hp2, rfl, rfl⟩ := c0
  refine ⟨_, (pss_cons (ps_asg (pe_lst pa_nil) (pg_name (i := 2) sc__law_puts.nd rfl (by first | exact Or.inl rfl | exact Or.inr rfl)))
      (pss_cons (ps_asg pe_int (pg_name (i := 3) sc__law_puts.nd rfl (by first | exact Or.inl rfl | exact Or.inr rfl)))
      (pss_cons (ps_for PassesOwn.never rfl (k_seq (K := K) rfl (pv 0)) (pg_name (i := 4) sc__law_puts.nd rfl (by first | exact Or.inl rfl | exact Or.inr rfl))
        (pss_cons (ps_asg (pe_call G__law_stream (hr.mono (by decide)) rfl g__law_stream k__law_stream bn__law_stream .nil pass0 (pa_cons (pv 4) (pa_cons pe_int pa_nil))) (pg_name (i := 5) sc__law_puts.nd rfl (by first | exact Or.inl rfl | exact Or.inr rfl)))
        (pss_cons (ps_asg (pe_op (k_add (K := K) rfl) (pe_op (k_add (K := K) rfl) (pv 3) pe_int) (pe_op op_modG (pe_ix (k_ix (K := K) rfl hu) (pv 5) pe_int (fun _ _ => rfl)) pe_int)) (pg_name (i := 3) sc__law_puts.nd rfl (by first | exact Or.inl rfl | exact Or.inr rfl)))
        (pss_cons (ps_if (pt_cmpR (k_eq (K := K) rfl hr.units) (pe_op op_modG (pe_ix (k_ix (K := K) rfl hu) (pv 5) pe_int (fun _ _ => rfl)) pe_int) pe_int (nomark _))
          (pss_one (ps_asg (pe_op (k_add (K := K) rfl) (pv 3) (pe_op op_powG pe_int pe_int)) (pg_name (i := 3) sc__law_puts.nd rfl (by first | exact Or.inl rfl | exact Or.inr rfl))))
          pss_nil)
        (pss_cons (ps_asg pe_dnewK (pg_name (i := 6) sc__law_puts.nd rfl (by first | exact Or.inl rfl | exact Or.inr rfl)))
        (pss_cons (ps_for PassesOwn.never rfl (pi_range1 (by rfl) b_range (pa_cons (pe_op op_modG (pe_ix (k_ix (K := K) rfl hu) (pv 5) pe_int (fun _ _ => rfl)) pe_int) pa_nil)) (pg_name (i := 7) sc__law_puts.nd rfl (by first | exact Or.inl rfl | exact Or.inr rfl))
          (pss_one (ps_asg (pe_call G__law_draft hr rfl g__law_draft k__law_draft bn__law_draft .nil pass0 (pa_cons (pe_ix (k_ix (K := K) rfl hu) (pv 5) (pe_op (k_add (K := K) rfl) pe_int (pv 7)) (fun _ _ => rfl)) pa_nil)) (pg_sub (pv 6) (pe_call G__law_key (hr.mono (by decide)) rfl g__law_key k__law_key bn__law_key .nil pass0 (pa_cons (pe_ix (k_ix (K := K) rfl hu) (pv 5) (pe_op (k_add (K := K) rfl) pe_int (pv 7)) (fun _ _ => rfl)) (pa_cons (pv 1) pa_nil))) (set_G hu)))))
        (pss_one (ps_expr (k_bm (K := K) rfl (pe_bm PySem.F.plainAttrs_list PySem.F.slot_list_append PySem.F.type_list_append mt_append (pv 2) (pa_cons (pe_tup (pa_cons (pv 3) (pa_cons (pe_op (k_add (K := K) rfl) pe_int (pe_op op_modG (pe_ix (k_ix (K := K) rfl hu) (pv 5) pe_int (fun _ _ => rfl)) pe_int)) (pa_cons (pv 6) pa_nil)))) pa_nil)))))))))))
      (pss_one (ps_ret (pe_mv (pv 2))))))), ?_⟩
  clear hS0 hl0 hr hu wx G__law_stream g__law_stream k__law_stream bn__law_stream G__law_draft g__law_draft k__law_draft bn__law_draft G__law_key g__law_key k__law_key bn__law_key b_range
  have X_r_NO_MAKE := XX.r_NO_MAKE
  have X_R_Shelf := XX.R_Shelf
  have X_g_Shelf := XX.g_Shelf
  simp only [List.map_cons, List.map_nil, List.length_cons, List.length_nil, List.cons_append, List.nil_append, Nat.reduceAdd, Nat.reduceSub, List.replicate_succ, List.replicate_zero, N__law_puts]
  ((with_reducible refine gos_sA ?_); (with_reducible refine gos_asg ?_); (with_reducible refine go_lst ?_); (with_reducible refine goa_nil ?_); walk_at "x1"; walk_at "x2"; walk_at "x7"; (with_reducible refine gos_sA ?_); (with_reducible refine gos_asg ?_); (with_reducible refine go_int ?_); walk_at "x7"; (with_reducible refine gos_sF ?_); (with_reducible refine gos_for ?_); (with_reducible refine goi_seq ?_); walk_at "x5"; walk_at "x1"; walk_at "x6"; (focus skip); rotate_left)
  refine ⟨_, .seq rfl, fun i Γ' => ∃ (ps : List Pt) (st : Int) (a4 a5 a6 a7 : Option O), ps.length = i ∧ PsOk ps ∧ i ≤ 40 ∧ 0 ≤ st ∧ st ≤ (i : Int) * (10 ^ 28 + 3) ∧ (∀ p ∈ ps, p.s ≤ st ∧ p.dr.length ≤ 3) ∧ Γ' = [some (O.d (.lst (cs.map D.int))), some (O.d (.int b)), some (.ol ((ps.map ptD).map O.d)), some (O.d (.int st)), a4, a5, a6, a7], ⟨[], 0, _, _, _, _, rfl, PsOk.nil, Nat.zero_le _, by decide, by decide, by simp, rfl⟩, ?_, ?_⟩
  · rintro i d _ hd ⟨ps, st, a4, a5, a6, a7, h1, h2, h3, h4, h5, h6, rfl⟩
    obtain ⟨c, hc, rfl⟩ := mapD_get hd
    have hi : i < cs.length := (List.getElem?_eq_some_iff.mp hc).1
    (walk_at "x7"; (with_reducible refine gos_sA ?_); (with_reducible refine gos_asg ?_); walk_at "x1"; (with_reducible refine call__law_stream ?_); (with_reducible refine goa_cons ?_); walk_at "x5"; (with_reducible refine goa_cons ?_); (with_reducible refine go_int ?_); (with_reducible refine goa_nil ?_); walk_at "x6"; walk_at "x15"; walk_at "x2"; walk_at "x2"; (focus skip); rotate_left)
    intro xs hl hx
    have hx0 : ∀ y ∈ xs.map D.int, ∃ x : Int, y = .int x ∧ 0 ≤ x ∧ x < 2147483647 := fun y hy => by
      obtain ⟨x, h, rfl⟩ := List.mem_map.mp hy
      exact ⟨x, rfl, hx x h⟩
    (walk_at "x7"; (with_reducible refine gos_sA ?_); (with_reducible refine gos_asg ?_); (with_reducible refine go_op ?_); (with_reducible refine go_op ?_); walk_at "x5"; (with_reducible refine go_int ?_); walk_at "x1"; walk_at "x6"; (with_reducible refine o2_add ?_); (with_reducible refine go_op ?_); (with_reducible refine go_op ?_); walk_at "x5"; (with_reducible refine go_int ?_); walk_at "x6"; (focus skip); rotate_left)
    refine o2_ixr rfl (by decide) (by simp only [List.length_map]; omega) fun y hy => ?_
    obtain ⟨x0, rfl, _, _⟩ := hx0 y hy
    ((with_reducible refine go_int ?_); walk_at "x6"; walk_at "x8"; walk_at "x6"; (with_reducible refine o2_add ?_); walk_at "x7"; (focus skip); rotate_left)
    refine gos_cut (fun Γ' => ∃ st' : Int, st < st' ∧ st' ≤ st + (10 ^ 28 + 3) ∧ Γ' = [some (O.d (.lst (cs.map D.int))), some (O.d (.int b)), some (.ol ((ps.map ptD).map O.d)), some (O.d (.int st')), some (O.d (.int c)), some (O.d (.lst (xs.map D.int))), a6, a7]) ?_ ?_
    · ((with_reducible refine gos_if ?_); (with_reducible refine got_test ?_); (with_reducible refine go_op ?_); (with_reducible refine go_op ?_); (with_reducible refine go_op ?_); walk_at "x5"; (with_reducible refine go_int ?_); walk_at "x1"; walk_at "x6"; (focus skip); rotate_left)
      refine o2_ixr rfl (by decide) (by simp only [List.length_map]; omega) fun y hy => ?_
      obtain ⟨x0', rfl, _, _⟩ := hx0 y hy
      ((with_reducible refine go_int ?_); walk_at "x6"; walk_at "x8"; (with_reducible refine go_int ?_); walk_at "x6"; (with_reducible refine o2_eqI ?_); walk_at "x0"; walk_at "x13"; (with_reducible refine gos_asg ?_); (with_reducible refine go_op ?_); walk_at "x5"; (with_reducible refine go_op ?_); (with_reducible refine go_int ?_); (with_reducible refine go_int ?_); walk_at "x1"; walk_at "x6"; walk_at "x12"; walk_at "x6"; (with_reducible refine o2_add ?_); walk_at "x7"; (focus skip); rotate_left; (with_reducible refine gos_next ?_); walk_at "x1"; (focus skip); rotate_left)
      all_goals exact ⟨_, by omega, by omega, rfl⟩
    rintro _ ⟨st', g1, g2, rfl⟩
    ((with_reducible refine gos_sA ?_); (with_reducible refine gos_asg ?_); (with_reducible refine go_dnew ?_); walk_at "x7"; (with_reducible refine gos_sF ?_); (with_reducible refine gos_for ?_); (with_reducible refine goi_rng1 ?_); (with_reducible refine goa_cons ?_); (with_reducible refine go_op ?_); (with_reducible refine go_op ?_); walk_at "x5"; (with_reducible refine go_int ?_); walk_at "x1"; walk_at "x6"; (focus skip); rotate_left)
    refine o2_ixr rfl (by decide) (by simp only [List.length_map]; omega) fun y hy => ?_
    obtain ⟨x1, rfl, _, _⟩ := hx0 y hy
    ((with_reducible refine go_int ?_); walk_at "x6"; walk_at "x8"; (with_reducible refine goa_nil ?_); walk_at "x0"; walk_at "x2"; walk_at "x2"; (focus skip); rotate_left)
    refine ⟨fun j Γ' => ∃ (dr : IM (Option Int)) (a7 : Option O), (dr.map (·.1)).Nodup ∧ dr.length ≤ j ∧ j ≤ 3 ∧ (∀ k ∈ dr.map (·.1), kOk k) ∧ Γ' = [some (O.d (.lst (cs.map D.int))), some (O.d (.int b)), some (.ol ((ps.map ptD).map O.d)), some (O.d (.int st')), some (O.d (.int c)), some (O.d (.lst (xs.map D.int))), some (.od (imO (fun x => O.d (oiD x)) dr)), a7], ⟨[], _, by simp, Nat.zero_le _, Nat.zero_le _, by simp, rfl⟩, ?_, ?_⟩
    · rintro j d _ hd ⟨dr, a7, k1, k2, k3, k4, rfl⟩
      obtain ⟨hj, rfl⟩ := rngD_get hd
      have hj3 : j < 3 := by omega
      (walk_at "x7"; (with_reducible refine gos_asg ?_); walk_at "x1"; (with_reducible refine call__law_draft ?_); (with_reducible refine goa_cons ?_); (with_reducible refine go_op ?_); walk_at "x5"; (with_reducible refine go_op ?_); (with_reducible refine go_int ?_); walk_at "x5"; walk_at "x6"; (with_reducible refine o2_add ?_); walk_at "x6"; (focus skip); rotate_left)
      refine o2_ixr rfl (by omega) (by simp only [List.length_map]; omega) fun y hy => ?_
      obtain ⟨x2, rfl, _, _⟩ := hx0 y hy
      ((with_reducible refine goa_nil ?_); walk_at "x0"; walk_at "x2"; walk_at "x2"; (focus skip); rotate_left)
      intro v
      (walk_at "x16"; (with_reducible refine call__law_key ?_); (with_reducible refine goa_cons ?_); (with_reducible refine go_op ?_); walk_at "x5"; (with_reducible refine go_op ?_); (with_reducible refine go_int ?_); walk_at "x5"; walk_at "x6"; (with_reducible refine o2_add ?_); walk_at "x6"; (focus skip); rotate_left)
      refine o2_ixr rfl (by omega) (by simp only [List.length_map]; omega) fun y hy => ?_
      obtain ⟨x3, rfl, _, _⟩ := hx0 y hy
      ((with_reducible refine goa_cons ?_); walk_at "x5"; (with_reducible refine goa_nil ?_); walk_at "x1"; walk_at "x6"; walk_at "x15"; walk_at "x2"; walk_at "x2"; walk_at "x2"; walk_at "x2"; (focus skip); rotate_left)
      intro k hk
      (walk_at "x17"; (focus skip); rotate_left)
      exact ⟨by rw [imO_len]; omega, SK.dput dr k v, _, dput_nodup k1, Nat.le_trans dput_len (by omega), by omega, fun e he => by
        rcases dput_mem he with q | q
        · rw [q]; exact hk
        · exact k4 e q, by rw [← imO_put (fo := fun x => O.d (oiD x))]⟩
    rintro _ ⟨dr, a7, k1, k2, k3, k4, rfl⟩
    (walk_at "x10"; (with_reducible refine go_tup ?_); (with_reducible refine goa_cons ?_); walk_at "x5"; (with_reducible refine goa_cons ?_); (with_reducible refine go_op ?_); (with_reducible refine go_int ?_); (with_reducible refine go_op ?_); (with_reducible refine go_op ?_); walk_at "x5"; (with_reducible refine go_int ?_); walk_at "x1"; walk_at "x6"; (focus skip); rotate_left)
    refine o2_ixr rfl (by decide) (by simp only [List.length_map]; omega) fun y hy => ?_
    obtain ⟨x4, rfl, _, _⟩ := hx0 y hy
    ((with_reducible refine go_int ?_); walk_at "x6"; walk_at "x8"; walk_at "x6"; (with_reducible refine o2_add ?_); (with_reducible refine goa_cons ?_); walk_at "x11"; (with_reducible refine goa_nil ?_); walk_at "x1"; walk_at "x2"; walk_at "x0"; (focus skip); rotate_left)
    have hdr : dr.length ≤ 60 := by omega
    have hps : PsOk (ps ++ [⟨st', 1 + x4 % 8, dr⟩]) := h2.snoc (fun q hq => by have := h6 q hq; show q.s < st'; omega) (by show 1 ≤ st'; omega) (by show st' ≤ 10 ^ 30 - 1; omega) k1 hdr k4 (by omega) (by show 1 ≤ 1 + x4 % 8; omega)
    exact ⟨by simp only [List.length_map]; omega, ps ++ [⟨st', 1 + x4 % 8, dr⟩], st', _, _, _, _, by rw [List.length_append, List.length_singleton, h1], hps, by omega, by omega, by push_cast; omega, fun q hq => by
      rcases List.mem_append.mp hq with h | h
      · have := h6 q h; omega
      · rw [List.mem_singleton.mp h]; exact ⟨Int.le_refl _, by show dr.length ≤ 3; omega⟩, by rw [List.map_append, List.map_append]; rfl⟩
  · rintro _ ⟨ps, st, a4, a5, a6, a7, h1, h2, h3, h4, h5, h6, rfl⟩
    ((with_reducible refine gos_ret ?_); walk_at "x18"; (focus skip); rotate_left)
    exact ⟨ps, by rw [h1, List.length_map], h2, fun p hp => (h6 p hp).2, rfl⟩
theorem cal__law_cell_at (D : Df K mg "_law_cell_at" s__law_cell_at) {a_NO_MAKE a_Shelf : Addr} (XX : XF K mg a_NO_MAKE a_Shelf) (b_len : mg "len" = none) : Cal P w K mg base "_law_cell_at" 1 ["_law_script", "_law_k"] (C__law_cell_at mg) := by
  obtain ⟨f, fd, F, mf⟩ := D
  refine ⟨f, fd, ?_, mf, F.kp, F.binds (ps := ["_law_script", "_law_k"]) fun _ _ _ _ _ _ us hl => match us, hl with | [_, _], _ => rfl, Fun.lk F⟩
  refine F.ok sc__law_cell_at (fun vs H Q E hS0 => spP_len (n := 2) (fun xs p q c0 => by unfold C__law_cell_at at c0; obtain ⟨_, _, rfl, _⟩ := c0; rfl) hS0) (fun cdv A outer s H vs Q E hr hS0 => ?_)
  have hu := hu_of hr
  refine sp_body hS0 (fun B xs p q c0 hl0 wx => ?_)
  obtain ⟨ns, k, rfl, hp0, rfl, rfl⟩ := c0
  refine ⟨_, (pss_cons (ps_if (pt_cmpR (k_lt (K := K) rfl hr.units0) (pv 1) (pe_callB (k_len (K := K) rfl) (by rfl) b_len (by decide +kernel) (pa_cons (pv 0) pa_nil)) (nomark _))
        (pss_one (ps_ret (pe_ix (k_ix (K := K) rfl hu) (pv 0) (pv 1) (fun _ _ => rfl))))
        pss_nil)
      (pss_one (ps_ret pe_int))), ?_⟩
  clear hS0 hl0 hr hu wx b_len
  have X_r_NO_MAKE := XX.r_NO_MAKE
  have X_R_Shelf := XX.R_Shelf
  have X_g_Shelf := XX.g_Shelf
  simp only [List.map_cons, List.map_nil, List.length_cons, List.length_nil, List.cons_append, List.nil_append, Nat.reduceAdd, Nat.reduceSub, List.replicate_succ, List.replicate_zero, N__law_cell_at]
  ((with_reducible refine gos_sIR ?_); (with_reducible refine gos_if ?_); (with_reducible refine got_test ?_); (with_reducible refine go_op ?_); walk_at "x5"; (with_reducible refine go_cb ?_); (with_reducible refine goa_cons ?_); walk_at "x5"; (with_reducible refine goa_nil ?_); walk_at "x22"; walk_at "x1"; walk_at "x6"; (with_reducible refine o2_lt ?_); walk_at "x0"; walk_at "x13"; (with_reducible refine gos_ret ?_); (with_reducible refine go_op ?_); walk_at "x5"; walk_at "x5"; walk_at "x1"; walk_at "x6"; (focus skip); rotate_left; (with_reducible refine gos_next ?_); (with_reducible refine gos_ret ?_); (with_reducible refine go_int ?_); walk_at "x1"; (focus skip); rotate_left)
  · rename_i hc
    refine o2_ixr rfl hp0 (by simpa using hc) fun y hy => ?_
    obtain ⟨x, hx, rfl⟩ := List.mem_map.mp hy
    exact ⟨_, rfl⟩
  · exact ⟨_, rfl⟩
theorem cal_Shelf__makers {zf : Addr} (D : DfM K "makers" "Shelf.makers" s_Shelf__makers zf) {a_NO_MAKE a_Shelf : Addr} (XX : XF K mg a_NO_MAKE a_Shelf) (ME : Meth K a_Shelf "makers" zf) : CalM P w K mg base a_Shelf "makers" 1 ["self", "key"] (C_Shelf__makers mg a_Shelf) := by
  obtain ⟨fd, F⟩ := D
  refine ⟨zf, fd, ?_, ME, F.binds (ps := ["self", "key"]) fun _ _ _ _ _ _ us hl => match us, hl with | [_, _], _ => rfl⟩
  refine F.ok sc_Shelf__makers (fun vs H Q E hS0 => spP_len (n := 2) (fun xs p q c0 => by unfold C_Shelf__makers at c0; obtain ⟨_, _, rfl, _⟩ := c0; rfl) hS0) (fun cdv A outer s H vs Q E hr hS0 => ?_)
  have hu := hu_of hr
  refine sp_body hS0 (fun B xs p q c0 hl0 wx => ?_)
  obtain ⟨l, k, rfl, hp0, rfl, rfl⟩ := c0
  refine ⟨_, (pss_one (ps_ret (pe_lc (own := [("one", 2)]) rfl sc_Shelf__makers.nd (k_seq (K := K) rfl (pe_dget2 hu (k_fld (K := K) rfl (pe_fld (pv 0) rfl)) (pv 1) (pe_lst pa_nil) ⟨by rfl, by rfl, by rfl, by rfl⟩)) (blkOk_by (N := N_Shelf__makers) (sc := defScope s_Shelf__makers) (by decide +kernel)) (fun _ _ _ _ _ => (pg_name (i := 2) sc_Shelf__makers.nd rfl (by first | exact Or.inl rfl | exact Or.inr rfl))) (fun _ _ _ _ _ => (pts_one (pt_cmpR op_gtG (pe_ix (k_ix (K := K) rfl hu) (pv 2) pe_int (fun _ _ => rfl)) pe_int (nomark _)))) (fun _ _ _ _ _ => (pe_ix (k_ix (K := K) rfl hu) (pv 2) pe_int (fun _ _ => rfl)))))), ?_⟩
  clear hS0 hl0 hr hu wx
  have X_r_NO_MAKE := XX.r_NO_MAKE
  have X_R_Shelf := XX.R_Shelf
  have X_g_Shelf := XX.g_Shelf
  simp only [List.map_cons, List.map_nil, List.length_cons, List.length_nil, List.cons_append, List.nil_append, Nat.reduceAdd, Nat.reduceSub, List.replicate_succ, List.replicate_zero, N_Shelf__makers]
  ((with_reducible refine gos_ret ?_); walk_at "x1"; (focus skip); rotate_left)
  refine go_lcS mkD (fun m => decide (m.d > 0)) (fun m => .int m.d) ?_
  ((with_reducible refine go_dget2 ?_); walk_at "x23"; walk_at "x5"; walk_at "x6"; walk_at "x17"; walk_at "x2"; walk_at "x0"; walk_at "x5"; walk_at "x21"; (with_reducible refine go_lst ?_); (with_reducible refine goa_nil ?_); walk_at "x1"; walk_at "x6"; walk_at "x2"; (focus skip); rotate_left)
  simp only [dval_ch]
  refine ⟨chn l k, .seq rfl, hp0, Nat.le_of_ble_eq_true rfl, by first | trivial | rfl, fun m acc hm => ?_, ?_⟩
  · try dsimp only [List.set]
    ((with_reducible refine got_test ?_); (with_reducible refine go_op ?_); (with_reducible refine go_op ?_); walk_at "x5"; (with_reducible refine go_int ?_); walk_at "x6"; walk_at "x24"; (with_reducible refine go_int ?_); walk_at "x6"; (with_reducible refine o2_gt ?_); walk_at "x0"; walk_at "x1"; (focus skip); rotate_left)
    refine ⟨by first | trivial | rfl, fun _ => rfl, fun _ => ?_⟩
    ((with_reducible refine go_op ?_); walk_at "x5"; (with_reducible refine go_int ?_); walk_at "x6"; walk_at "x24"; walk_at "x6"; (focus skip); rotate_left)
    exact ⟨by first | trivial | rfl, rfl⟩
  · unfold mkrs; simp only [List.map_map]; rfl
theorem cal_inside (D : Df K mg "inside" s_inside) {a_NO_MAKE a_Shelf : Addr} (XX : XF K mg a_NO_MAKE a_Shelf) : Cal P w K mg base "inside" 1 ["key", "low", "high"] (C_inside mg) := by
  obtain ⟨f, fd, F, mf⟩ := D
  refine ⟨f, fd, ?_, mf, F.kp, F.binds (ps := ["key", "low", "high"]) fun _ _ _ _ _ _ us hl => match us, hl with | [_, _, _], _ => rfl, Fun.lk F⟩
  refine F.ok sc_inside (fun vs H Q E hS0 => spP_len (n := 3) (fun xs p q c0 => by unfold C_inside at c0; obtain ⟨_, _, _, rfl, _⟩ := c0; rfl) hS0) (fun cdv A outer s H vs Q E hr hS0 => ?_)
  have hu := hu_of hr
  refine sp_body hS0 (fun B xs p q c0 hl0 wx => ?_)
  obtain ⟨k, l, h, rfl, rfl, rfl⟩ := c0
  refine ⟨_, (pss_one (ps_ret (pe_chain op_leG op_leG (pv 1) (pv 0) (pv 2)))), ?_⟩
  clear hS0 hl0 hr hu wx
  have X_r_NO_MAKE := XX.r_NO_MAKE
  have X_R_Shelf := XX.R_Shelf
  have X_g_Shelf := XX.g_Shelf
  simp only [List.map_cons, List.map_nil, List.length_cons, List.length_nil, List.cons_append, List.nil_append, Nat.reduceAdd, Nat.reduceSub, List.replicate_succ, List.replicate_zero, N_inside]
  ((with_reducible refine gos_ret ?_); (with_reducible refine go_chain ?_); walk_at "x5"; walk_at "x5"; walk_at "x1"; walk_at "x6"; (with_reducible refine o2_le ?_); walk_at "x0"; walk_at "x13"; walk_at "x5"; walk_at "x6"; (with_reducible refine o2_le ?_); (focus skip); rotate_left; (focus skip); rotate_left)
  · rename_i hc
    rw [inB, decide_eq_true (p := l ≤ k) (by simpa using hc), Bool.true_and]
  · rename_i hc
    rw [inB, decide_eq_false (p := l ≤ k) (by simpa using hc), Bool.false_and]
theorem cal_Shelf__touched {zf : Addr} (D : DfM K "touched" "Shelf.touched" s_Shelf__touched zf) {a_NO_MAKE a_Shelf : Addr} (XX : XF K mg a_NO_MAKE a_Shelf) (ME : Meth K a_Shelf "touched" zf) (c_Shelf__makers : CalM P w K mg base a_Shelf "makers" 1 ["self", "key"] (C_Shelf__makers mg a_Shelf)) (c_inside : Cal P w K mg base "inside" 1 ["key", "low", "high"] (C_inside mg)) (b_sorted : mg "sorted" = none) : CalM P w K mg base a_Shelf "touched" 2 ["self", "low", "high"] (C_Shelf__touched mg a_Shelf) := by
  obtain ⟨fd, F⟩ := D
  obtain ⟨f_Shelf__makers, fd_Shelf__makers, G_Shelf__makers, k_Shelf__makers, bn_Shelf__makers⟩ := c_Shelf__makers
  obtain ⟨f_inside, fd_inside, G_inside, g_inside, k_inside, bn_inside, _⟩ := c_inside
  refine ⟨zf, fd, ?_, ME, F.binds (ps := ["self", "low", "high"]) fun _ _ _ _ _ _ us hl => match us, hl with | [_, _, _], _ => rfl⟩
  refine F.ok sc_Shelf__touched (fun vs H Q E hS0 => spP_len (n := 3) (fun xs p q c0 => by unfold C_Shelf__touched at c0; obtain ⟨_, _, _, rfl, _⟩ := c0; rfl) hS0) (fun cdv A outer s H vs Q E hr hS0 => ?_)
  have hu := hu_of hr
  refine sp_body hS0 (fun B xs p q c0 hl0 wx => ?_)
  obtain ⟨l, lo, hi, rfl, hp0, hp1, rfl, rfl⟩ := c0
  refine ⟨_, (pss_one (ps_ret (pe_lc (own := [("key", 3)]) rfl sc_Shelf__touched.nd (k_seq (K := K) rfl (pe_callB (k_sort (K := K) rfl rfl) (by rfl) b_sorted (by decide +kernel) (pa_cons (k_fld (K := K) rfl (pe_fld (pv 0) rfl)) pa_nil))) (blkOk_by (N := N_Shelf__touched) (sc := defScope s_Shelf__touched) (by decide +kernel)) (fun _ _ _ _ _ => (pg_name (i := 3) sc_Shelf__touched.nd rfl (by first | exact Or.inl rfl | exact Or.inr rfl))) (fun _ _ _ _ _ => (pts_one (PW.pt (pw_and (pt_val (pe_call G_inside hr rfl g_inside k_inside bn_inside .nil pass0 (pa_cons (pv 3) (pa_cons (pv 1) (pa_cons (pv 2) pa_nil))))) (pw_and1 (pt_cmpR (k_neN (K := K) rfl hr.units) (pe_meth (pv 0) XX.R_Shelf.cls k_Shelf__makers G_Shelf__makers hr bn_Shelf__makers .nil pass0 (pa_cons (pv 3) pa_nil)) (pe_lst pa_nil) (nomark _))))))) (fun _ _ _ _ _ => (pv 3))))), ?_⟩
  clear hS0 hl0 hr hu wx G_Shelf__makers k_Shelf__makers bn_Shelf__makers G_inside g_inside k_inside bn_inside b_sorted
  have X_r_NO_MAKE := XX.r_NO_MAKE
  have X_R_Shelf := XX.R_Shelf
  have X_g_Shelf := XX.g_Shelf
  simp only [List.map_cons, List.map_nil, List.length_cons, List.length_nil, List.cons_append, List.nil_append, Nat.reduceAdd, Nat.reduceSub, List.replicate_succ, List.replicate_zero, N_Shelf__touched]
  ((with_reducible refine gos_ret ?_); walk_at "x1"; (focus skip); rotate_left)
  refine go_lcS D.int (fun k => inB k lo hi && !(mkrs (chn l k)).isEmpty) D.int ?_
  ((with_reducible refine go_cb ?_); (with_reducible refine goa_cons ?_); walk_at "x23"; walk_at "x5"; walk_at "x6"; walk_at "x17"; walk_at "x2"; (with_reducible refine goa_nil ?_); (focus skip); rotate_left)
  refine oa_sortI hp0 ?_
  refine ⟨srt (l.map (·.1)), .seq (by exact congrArg some fzL_fl), by rw [srt_len, List.length_map]; exact hp0, Nat.le_of_ble_eq_true rfl, rfl, fun k acc hk => ?_, ?_⟩
  · dsimp only [List.set]
    ((with_reducible refine got_and ?_); (with_reducible refine got_B ?_); walk_at "x6"; (with_reducible refine call_inside ?_); (with_reducible refine goa_cons ?_); walk_at "x5"; (with_reducible refine goa_cons ?_); walk_at "x5"; (with_reducible refine goa_cons ?_); walk_at "x5"; (with_reducible refine goa_nil ?_); walk_at "x6"; walk_at "x25"; walk_at "x0"; walk_at "x13"; (with_reducible refine got_test ?_); (with_reducible refine go_op ?_); (with_reducible refine call_Shelf__makers ?_); walk_at "x5"; walk_at "x0"; walk_at "x6"; walk_at "x2"; (with_reducible refine goa_cons ?_); walk_at "x5"; (with_reducible refine goa_nil ?_); walk_at "x6"; walk_at "x15"; (focus skip); rotate_left; (focus skip); rotate_left)
    · rename_i hc
      refine ⟨hp1 k, ?_⟩
      ((with_reducible refine go_lst ?_); (with_reducible refine goa_nil ?_); walk_at "x6"; walk_at "x2"; walk_at "x26"; walk_at "x0"; (focus skip); rotate_left)
      try (refine o2_neNil 1 Shp.ints (by decide) ?_; refine ⟨_, rfl, ?_⟩)
      refine ⟨by rw [hc, Bool.true_and]; try simp, fun _ => rfl, fun _ => ?_⟩
      (walk_at "x5"; walk_at "x6"; (focus skip); rotate_left)
      exact ⟨by first | trivial | rfl, rfl⟩
    · rename_i hc
      exact ⟨by rw [hc, Bool.false_and], fun _ => rfl, fun z => by rw [hc, Bool.false_and] at z; cases z⟩
  · rfl
theorem cal_Shelf__make {zf : Addr} (D : DfM K "make" "Shelf.make" s_Shelf__make zf) {a_NO_MAKE a_Shelf : Addr} (XX : XF K mg a_NO_MAKE a_Shelf) (ME : Meth K a_Shelf "make" zf) : CalM P w K mg base a_Shelf "make" 1 ["self", "key", "stamp"] (C_Shelf__make mg a_Shelf) := by
  obtain ⟨fd, F⟩ := D
  refine ⟨zf, fd, ?_, ME, F.binds (ps := ["self", "key", "stamp"]) fun _ _ _ _ _ _ us hl => match us, hl with | [_, _, _], _ => rfl⟩
  refine F.ok sc_Shelf__make (fun vs H Q E hS0 => spP_len (n := 3) (fun xs p q c0 => by unfold C_Shelf__make at c0; obtain ⟨_, _, _, rfl, _⟩ := c0; rfl) hS0) (fun cdv A outer s H vs Q E hr hS0 => ?_)
  have hu := hu_of hr
  refine sp_body hS0 (fun B xs p q c0 hl0 wx => ?_)
  obtain ⟨l, k, s, rfl, rfl, rfl⟩ := c0
  refine ⟨_, (pss_cons (ps_asg (pe_glob (v := .ref a_NO_MAKE) (by rfl) XX.g_NO_MAKE rfl) (pg_name (i := 3) sc_Shelf__make.nd rfl (by first | exact Or.inl rfl | exact Or.inr rfl)))
      (pss_cons (ps_for PassesOwn.never rfl (k_seq (K := K) rfl (pe_dget2 hu (k_fld (K := K) rfl (pe_fld (pv 0) rfl)) (pv 1) (pe_lst pa_nil) ⟨by rfl, by rfl, by rfl, by rfl⟩)) (pg_name (i := 4) sc_Shelf__make.nd rfl (by first | exact Or.inl rfl | exact Or.inr rfl))
        (pss_cons (ps_if (pt_cmpR op_gtG (pe_ix (k_ix (K := K) rfl hu) (pv 4) pe_int (fun _ _ => rfl)) (pv 2) (nomark _))
          (pss_one ps_break)
          pss_nil)
        (pss_one (ps_asg (pv 4) (pg_name (i := 3) sc_Shelf__make.nd rfl (by first | exact Or.inl rfl | exact Or.inr rfl))))))
      (pss_one (ps_ret (pv 3))))), ?_⟩
  clear hS0 hl0 hr hu wx
  have X_r_NO_MAKE := XX.r_NO_MAKE
  have X_R_Shelf := XX.R_Shelf
  have X_g_Shelf := XX.g_Shelf
  simp only [List.map_cons, List.map_nil, List.length_cons, List.length_nil, List.cons_append, List.nil_append, Nat.reduceAdd, Nat.reduceSub, List.replicate_succ, List.replicate_zero, N_Shelf__make]
  ((with_reducible refine gos_sA ?_); (with_reducible refine gos_asg ?_); walk_at "x27"; walk_at "x7"; (with_reducible refine gos_sF ?_); (with_reducible refine gos_for ?_); (with_reducible refine goi_seq ?_); (with_reducible refine go_dget2 ?_); walk_at "x23"; walk_at "x5"; walk_at "x1"; walk_at "x6"; walk_at "x17"; walk_at "x2"; walk_at "x0"; walk_at "x5"; walk_at "x21"; (with_reducible refine go_lst ?_); (with_reducible refine goa_nil ?_); walk_at "x6"; walk_at "x2"; (focus skip); rotate_left)
  simp only [dval_ch]
  refine ⟨_, .seq rfl, fun i Γ' => (∀ z ∈ (chn l k).take i, decide (z.s ≤ s) = true) ∧ ∃ a4, Γ' = [some (O.d (shD a_Shelf l)), some (O.d (.int k)), some (O.d (.int s)), some (O.d (mkD (((chn l k).take i).getLastD noMk))), a4], ⟨by simp, _, rfl⟩, ?_, ?_⟩
  · rintro i d _ hd ⟨ha, a4, rfl⟩
    obtain ⟨m, hm, rfl⟩ := mapD_get hd
    (walk_at "x7"; (with_reducible refine gos_sIB ?_); (with_reducible refine gos_if ?_); (with_reducible refine got_test ?_); (with_reducible refine go_op ?_); (with_reducible refine go_op ?_); walk_at "x5"; (with_reducible refine go_int ?_); walk_at "x1"; walk_at "x6"; walk_at "x24"; walk_at "x5"; walk_at "x6"; (with_reducible refine o2_gt ?_); walk_at "x0"; walk_at "x13"; (with_reducible refine gos_brk ?_); (with_reducible refine gos_ret ?_); walk_at "x5"; walk_at "x1"; (focus skip); rotate_left; (with_reducible refine gos_next ?_); (with_reducible refine gos_asg ?_); walk_at "x5"; walk_at "x7"; (focus skip); rotate_left)
    · rename_i hc
      have e : mkAt (chn l k) s = ((chn l k).take i).getLastD noMk := by
        rw [mkAt, takeWhile_at hm ha (by simpa using hc)]
      rw [e]
    · rename_i hc
      refine ⟨fun z hz => ?_, _, by rw [getLastD_take hm]⟩
      rw [List.take_add_one, hm] at hz
      rcases List.mem_append.mp hz with h | h
      · exact ha z h
      · rw [List.mem_singleton.mp h]; simpa using hc
  · rintro _ ⟨ha, a4, rfl⟩
    rw [List.length_map, List.take_length] at *
    ((with_reducible refine gos_ret ?_); walk_at "x5"; walk_at "x1"; (focus skip); rotate_left)
    rw [mkAt, takeWhile_all ha]
theorem cal_rows_of (D : Df K mg "rows_of" s_rows_of) {a_NO_MAKE a_Shelf : Addr} (XX : XF K mg a_NO_MAKE a_Shelf) (b_sorted : mg "sorted" = none) : Cal P w K mg base "rows_of" 1 ["held"] (C_rows_of mg) := by
  obtain ⟨f, fd, F, mf⟩ := D
  refine ⟨f, fd, ?_, mf, F.kp, F.binds (ps := ["held"]) fun _ _ _ _ _ _ us hl => match us, hl with | [_], _ => rfl, Fun.lk F⟩
  refine F.ok sc_rows_of (fun vs H Q E hS0 => spP_len (n := 1) (fun xs p q c0 => by unfold C_rows_of at c0; obtain ⟨_, rfl, _⟩ := c0; rfl) hS0) (fun cdv A outer s H vs Q E hr hS0 => ?_)
  have hu := hu_of hr
  refine sp_body hS0 (fun B xs p q c0 hl0 wx => ?_)
  obtain ⟨h, rfl, hp0, rfl, rfl⟩ := c0
  refine ⟨_, (pss_one (ps_ret (pe_lc (own := [("key", 1)]) rfl sc_rows_of.nd (k_seq (K := K) rfl (pe_callB (k_sort (K := K) rfl rfl) (by rfl) b_sorted (by decide +kernel) (pa_cons (pv 0) pa_nil))) (blkOk_by (N := N_rows_of) (sc := defScope s_rows_of) (by decide +kernel)) (fun _ _ _ _ _ => (pg_name (i := 1) sc_rows_of.nd rfl (by first | exact Or.inl rfl | exact Or.inr rfl))) (fun _ _ _ _ _ => (pts_one (pt_cmpR op_notG (pe_ix (k_ix (K := K) rfl hu) (pv 0) (pv 1) (fun _ _ => rfl)) pe_non (nomark _)))) (fun _ _ _ _ _ => (pe_tup (pa_cons (pv 1) (pa_cons (pe_ix (k_ix (K := K) rfl hu) (pv 0) (pv 1) (fun _ _ => rfl)) pa_nil))))))), ?_⟩
  clear hS0 hl0 hr hu wx b_sorted
  have X_r_NO_MAKE := XX.r_NO_MAKE
  have X_R_Shelf := XX.R_Shelf
  have X_g_Shelf := XX.g_Shelf
  simp only [List.map_cons, List.map_nil, List.length_cons, List.length_nil, List.cons_append, List.nil_append, Nat.reduceAdd, Nat.reduceSub, List.replicate_succ, List.replicate_zero, N_rows_of]
  ((with_reducible refine gos_ret ?_); walk_at "x1"; (focus skip); rotate_left)
  refine go_lcS D.int (fun k => (jnv h k).isSome) (fun k => .tup [.int k, oiD (jnv h k)]) ?_
  ((with_reducible refine go_cb ?_); (with_reducible refine goa_cons ?_); walk_at "x5"; (with_reducible refine goa_nil ?_); walk_at "x6"; (focus skip); rotate_left)
  refine oa_sortI hp0 ?_
  refine ⟨srt (h.map (·.1)), .seq (by exact congrArg some fzL_fl), by rw [srt_len, List.length_map]; exact hp0, Nat.le_of_ble_eq_true rfl, rfl, fun k acc hk => ?_, ?_⟩
  · have hk2 : (dval h k).isSome = true := dval_mem.mpr (srt_mem.mp hk)
    obtain ⟨v, hv⟩ := Option.isSome_iff_exists.mp hk2
    have e1 : dval (imK oiD h) (.inl k) = some (oiD v) := by rw [dval_im, hv]; rfl
    have e2 : jnv h k = v := by rw [jnv, hv]; rfl
    dsimp only [List.set]
    ((with_reducible refine got_test ?_); (with_reducible refine go_op ?_); (with_reducible refine go_op ?_); walk_at "x5"; walk_at "x5"; walk_at "x6"; (focus skip); rotate_left)
    refine o2_ixDI e1 ?_
    ((with_reducible refine go_non ?_); walk_at "x6"; walk_at "x28"; walk_at "x0"; (focus skip); rotate_left)
    refine ⟨by rw [e2]; cases v <;> rfl, fun _ => rfl, fun _ => ?_⟩
    ((with_reducible refine go_tup ?_); (with_reducible refine goa_cons ?_); walk_at "x5"; (with_reducible refine goa_cons ?_); (with_reducible refine go_op ?_); walk_at "x5"; walk_at "x5"; walk_at "x6"; (focus skip); rotate_left)
    refine o2_ixDI e1 ?_
    ((with_reducible refine goa_nil ?_); walk_at "x6"; walk_at "x2"; (focus skip); rotate_left)
    exact ⟨by rw [e2], rfl⟩
  · rw [rows_eq]; rfl
theorem cal_Shelf__there {zf : Addr} (D : DfM K "there" "Shelf.there" s_Shelf__there zf) {a_NO_MAKE a_Shelf : Addr} (XX : XF K mg a_NO_MAKE a_Shelf) (ME : Meth K a_Shelf "there" zf) (c_Shelf__make : CalM P w K mg base a_Shelf "make" 1 ["self", "key", "stamp"] (C_Shelf__make mg a_Shelf)) (c_rows_of : Cal P w K mg base "rows_of" 1 ["held"] (C_rows_of mg)) : CalM P w K mg base a_Shelf "there" 2 ["self", "stamp"] (C_Shelf__there mg a_Shelf) := by
  obtain ⟨fd, F⟩ := D
  obtain ⟨f_Shelf__make, fd_Shelf__make, G_Shelf__make, k_Shelf__make, bn_Shelf__make⟩ := c_Shelf__make
  obtain ⟨f_rows_of, fd_rows_of, G_rows_of, g_rows_of, k_rows_of, bn_rows_of, _⟩ := c_rows_of
  refine ⟨zf, fd, ?_, ME, F.binds (ps := ["self", "stamp"]) fun _ _ _ _ _ _ us hl => match us, hl with | [_, _], _ => rfl⟩
  refine F.ok sc_Shelf__there (fun vs H Q E hS0 => spP_len (n := 2) (fun xs p q c0 => by unfold C_Shelf__there at c0; obtain ⟨_, _, rfl, _⟩ := c0; rfl) hS0) (fun cdv A outer s H vs Q E hr hS0 => ?_)
  have hu := hu_of hr
  refine sp_body hS0 (fun B xs p q c0 hl0 wx => ?_)
  obtain ⟨l, s, rfl, hp0, rfl, rfl⟩ := c0
  refine ⟨_, (pss_cons (ps_asg pe_dnewK (pg_name (i := 2) sc_Shelf__there.nd rfl (by first | exact Or.inl rfl | exact Or.inr rfl)))
      (pss_cons (ps_lockG (ps_for PassesOwn.never rfl (pi_keys (k_fld (K := K) rfl (pe_fld (pv 0) rfl))) (pg_name (i := 3) sc_Shelf__there.nd rfl (by first | exact Or.inl rfl | exact Or.inr rfl))
        (pss_one (ps_asg (pe_ix (k_ix (K := K) rfl hu) (pe_meth (pv 0) XX.R_Shelf.cls k_Shelf__make G_Shelf__make hr bn_Shelf__make .nil pass0 (pa_cons (pv 3) (pa_cons (pv 1) pa_nil))) pe_int (fun _ _ => rfl)) (pg_sub (pv 2) (pv 3) (set_G hu))))))
      (pss_one (ps_ret (pe_call G_rows_of hr rfl g_rows_of k_rows_of bn_rows_of .nil pass0 (pa_cons (pv 2) pa_nil)))))), ?_⟩
  clear hS0 hl0 hr hu wx G_Shelf__make k_Shelf__make bn_Shelf__make G_rows_of g_rows_of k_rows_of bn_rows_of
  have X_r_NO_MAKE := XX.r_NO_MAKE
  have X_R_Shelf := XX.R_Shelf
  have X_g_Shelf := XX.g_Shelf
  simp only [List.map_cons, List.map_nil, List.length_cons, List.length_nil, List.cons_append, List.nil_append, Nat.reduceAdd, Nat.reduceSub, List.replicate_succ, List.replicate_zero, N_Shelf__there]
  ((with_reducible refine gos_sA ?_); (with_reducible refine gos_asg ?_); (with_reducible refine go_dnew ?_); walk_at "x7"; (with_reducible refine gos_sLG ?_); walk_at "x1"; (focus skip); rotate_left)
  refine gos_forDK (kvs := imK chD l) (pld_fld rfl rfl X_R_Shelf.cls (X_R_Shelf.no _ rfl)) (fun i Γ' => ∃ a5, Γ' = [some (O.d (shD a_Shelf l)), some (O.d (.int s)), some (.od (imO (fun x => O.d (oiD x)) (((vals l s).take i).foldl (fun h p => SK.dput h p.1 p.2) []))), a5]) ⟨_, rfl⟩ ?_ ?_
  · rintro F' B' i d _ hd ⟨a5, rfl⟩
    rw [keysD_im] at hd
    obtain ⟨p, hp, rfl⟩ := mapD_get hd
    have hv : (vals l s)[i]? = some (p.1, (mkAt (chn l p.1) s).v) := by unfold vals; rw [List.getElem?_map, hp]; rfl
    have es : ((vals l s).take (i + 1)).foldl (fun h p => SK.dput h p.1 p.2) [] = (fun h p => SK.dput h p.1 p.2) (((vals l s).take i).foldl (fun h p => SK.dput h p.1 p.2) []) (p.1, (mkAt (chn l p.1) s).v) := foldl_at' _ _ _ _ _ hv
    have hlen : (imO (fun x => O.d (oiD x)) (((vals l s).take i).foldl (fun h p => SK.dput h p.1 p.2) [])).length < 100000 := by
      rw [imO_len]
      refine Nat.lt_of_le_of_lt (fold_put_len (l := (vals l s).take i) (h := [])) ?_
      rw [List.length_take, vals_len]
      simp only [List.length_nil]; omega
    rw [es]
    (walk_at "x7"; (with_reducible refine gos_asg ?_); (with_reducible refine go_op ?_); walk_at "x1"; (with_reducible refine call_Shelf__make ?_); walk_at "x5"; walk_at "x0"; walk_at "x6"; walk_at "x2"; (with_reducible refine goa_cons ?_); walk_at "x5"; (with_reducible refine goa_cons ?_); walk_at "x5"; (with_reducible refine goa_nil ?_); walk_at "x6"; walk_at "x25"; (with_reducible refine go_int ?_); walk_at "x6"; walk_at "x24"; walk_at "x16"; walk_at "x5"; walk_at "x1"; walk_at "x17"; walk_at "x2"; (focus skip); rotate_left)
    exact ⟨_, by rw [← imO_put (fo := fun x => O.d (oiD x))]⟩
  rintro _ ⟨a5, rfl⟩
  rw [imK_len, ← vals_len (s := s), List.take_length]
  refine gos_frz 2 rfl ?_
  rw [imV_fz]
  dsimp only [List.set]
  have hfl : (thereH l s).length ≤ 100000 := Nat.le_trans thereH_len (by omega)
  unfold thereH at hfl
  ((with_reducible refine gos_ret ?_); walk_at "x1"; (with_reducible refine call_rows_of ?_); (with_reducible refine goa_cons ?_); walk_at "x5"; (with_reducible refine goa_nil ?_); walk_at "x0"; walk_at "x2"; (focus skip); rotate_left)
  rfl
theorem cal_Shelf__rows {zf : Addr} (D : DfM K "rows" "Shelf.rows" s_Shelf__rows zf) {a_NO_MAKE a_Shelf : Addr} (XX : XF K mg a_NO_MAKE a_Shelf) (ME : Meth K a_Shelf "rows" zf) (c_Shelf__make : CalM P w K mg base a_Shelf "make" 1 ["self", "key", "stamp"] (C_Shelf__make mg a_Shelf)) (c_rows_of : Cal P w K mg base "rows_of" 1 ["held"] (C_rows_of mg)) (c_inside : Cal P w K mg base "inside" 1 ["key", "low", "high"] (C_inside mg)) : CalM P w K mg base a_Shelf "rows" 2 ["self", "low", "high", "stamp"] (C_Shelf__rows mg a_Shelf) := by
  obtain ⟨fd, F⟩ := D
  obtain ⟨f_Shelf__make, fd_Shelf__make, G_Shelf__make, k_Shelf__make, bn_Shelf__make⟩ := c_Shelf__make
  obtain ⟨f_rows_of, fd_rows_of, G_rows_of, g_rows_of, k_rows_of, bn_rows_of, _⟩ := c_rows_of
  obtain ⟨f_inside, fd_inside, G_inside, g_inside, k_inside, bn_inside, _⟩ := c_inside
  refine ⟨zf, fd, ?_, ME, F.binds (ps := ["self", "low", "high", "stamp"]) fun _ _ _ _ _ _ us hl => match us, hl with | [_, _, _, _], _ => rfl⟩
  refine F.ok sc_Shelf__rows (fun vs H Q E hS0 => spP_len (n := 4) (fun xs p q c0 => by unfold C_Shelf__rows at c0; obtain ⟨_, _, _, _, rfl, _⟩ := c0; rfl) hS0) (fun cdv A outer s H vs Q E hr hS0 => ?_)
  have hu := hu_of hr
  refine sp_body hS0 (fun B xs p q c0 hl0 wx => ?_)
  obtain ⟨l, lo, hi, s, rfl, hp0, rfl, rfl⟩ := c0
  refine ⟨_, (pss_cons (ps_asg pe_dnewK (pg_name (i := 4) sc_Shelf__rows.nd rfl (by first | exact Or.inl rfl | exact Or.inr rfl)))
      (pss_cons (ps_lockG (ps_for PassesOwn.never rfl (pi_keys (k_fld (K := K) rfl (pe_fld (pv 0) rfl))) (pg_name (i := 5) sc_Shelf__rows.nd rfl (by first | exact Or.inl rfl | exact Or.inr rfl))
        (pss_one (ps_if (pt_val (pe_call G_inside hr rfl g_inside k_inside bn_inside .nil pass0 (pa_cons (pv 5) (pa_cons (pv 1) (pa_cons (pv 2) pa_nil)))))
          (pss_one (ps_asg (pe_ix (k_ix (K := K) rfl hu) (pe_meth (pv 0) XX.R_Shelf.cls k_Shelf__make G_Shelf__make hr bn_Shelf__make .nil pass0 (pa_cons (pv 5) (pa_cons (pv 3) pa_nil))) pe_int (fun _ _ => rfl)) (pg_sub (pv 4) (pv 5) (set_G hu))))
          pss_nil))))
      (pss_one (ps_ret (pe_call G_rows_of hr rfl g_rows_of k_rows_of bn_rows_of .nil pass0 (pa_cons (pv 4) pa_nil)))))), ?_⟩
  clear hS0 hl0 hr hu wx G_Shelf__make k_Shelf__make bn_Shelf__make G_rows_of g_rows_of k_rows_of bn_rows_of G_inside g_inside k_inside bn_inside
  have X_r_NO_MAKE := XX.r_NO_MAKE
  have X_R_Shelf := XX.R_Shelf
  have X_g_Shelf := XX.g_Shelf
  simp only [List.map_cons, List.map_nil, List.length_cons, List.length_nil, List.cons_append, List.nil_append, Nat.reduceAdd, Nat.reduceSub, List.replicate_succ, List.replicate_zero, N_Shelf__rows]
  ((with_reducible refine gos_sA ?_); (with_reducible refine gos_asg ?_); (with_reducible refine go_dnew ?_); walk_at "x7"; (with_reducible refine gos_sLG ?_); walk_at "x1"; (focus skip); rotate_left)
  refine gos_forDK (kvs := imK chD l) (pld_fld rfl rfl X_R_Shelf.cls (X_R_Shelf.no _ rfl)) (fun i Γ' => ∃ a5, Γ' = [some (O.d (shD a_Shelf l)), some (O.d (.int lo)), some (O.d (.int hi)), some (O.d (.int s)), some (.od (imO (fun x => O.d (oiD x)) (((vals l s).take i).foldl (layP lo hi) []))), a5]) ⟨_, rfl⟩ ?_ ?_
  · rintro F' B' i d _ hd ⟨a5, rfl⟩
    rw [keysD_im] at hd
    obtain ⟨p, hp, rfl⟩ := mapD_get hd
    have hv : (vals l s)[i]? = some (p.1, (mkAt (chn l p.1) s).v) := by unfold vals; rw [List.getElem?_map, hp]; rfl
    have es : ((vals l s).take (i + 1)).foldl (layP lo hi) [] = (layP lo hi) (((vals l s).take i).foldl (layP lo hi) []) (p.1, (mkAt (chn l p.1) s).v) := foldl_at' _ _ _ _ _ hv
    have hlen : (imO (fun x => O.d (oiD x)) (((vals l s).take i).foldl (layP lo hi) [])).length < 100000 := by
      rw [imO_len]
      refine Nat.lt_of_le_of_lt (layF_len (lo := lo) (hi := hi) (l := (vals l s).take i) (h := [])) ?_
      rw [List.length_take, vals_len]
      simp only [List.length_nil]; omega
    rw [es]
    (walk_at "x7"; (with_reducible refine gos_if ?_); (with_reducible refine got_B ?_); (with_reducible refine call_inside ?_); (with_reducible refine goa_cons ?_); walk_at "x5"; (with_reducible refine goa_cons ?_); walk_at "x5"; (with_reducible refine goa_cons ?_); walk_at "x5"; (with_reducible refine goa_nil ?_); walk_at "x6"; walk_at "x25"; walk_at "x0"; walk_at "x13"; (with_reducible refine gos_asg ?_); (with_reducible refine go_op ?_); walk_at "x1"; (with_reducible refine call_Shelf__make ?_); walk_at "x5"; walk_at "x0"; walk_at "x6"; walk_at "x2"; (with_reducible refine goa_cons ?_); walk_at "x5"; (with_reducible refine goa_cons ?_); walk_at "x5"; (with_reducible refine goa_nil ?_); walk_at "x6"; walk_at "x25"; (with_reducible refine go_int ?_); walk_at "x6"; walk_at "x24"; walk_at "x16"; walk_at "x5"; walk_at "x1"; walk_at "x17"; walk_at "x2"; (focus skip); rotate_left; (with_reducible refine gos_next ?_); walk_at "x1"; (focus skip); rotate_left)
    · rename_i hc
      exact ⟨_, by rw [layP, if_pos (show inB p.1 lo hi = true from hc), ← imO_put (fo := fun x => O.d (oiD x))]⟩
    · rename_i hc
      exact ⟨_, by rw [layP, if_neg (show ¬ inB p.1 lo hi = true by rw [show inB p.1 lo hi = false from hc]; decide)]⟩
  rintro _ ⟨a5, rfl⟩
  rw [imK_len, ← vals_len (s := s), List.take_length]
  refine gos_frz 4 rfl ?_
  rw [imV_fz]
  dsimp only [List.set]
  have hfl : (rowsH l lo hi s).length ≤ 100000 := Nat.le_trans rowsH_len (by omega)
  unfold rowsH at hfl
  ((with_reducible refine gos_ret ?_); walk_at "x1"; (with_reducible refine call_rows_of ?_); (with_reducible refine goa_cons ?_); walk_at "x5"; (with_reducible refine goa_nil ?_); walk_at "x0"; walk_at "x2"; (focus skip); rotate_left)
  rfl
theorem cal__law_there (D : Df K mg "_law_there" s__law_there) {a_NO_MAKE a_Shelf : Addr} (XX : XF K mg a_NO_MAKE a_Shelf) (b_dict : mg "dict" = none) (b_sorted : mg "sorted" = none) : Cal P w K mg base "_law_there" 1 ["_law_first_here", "_law_puts_here", "_law_stamp"] (C__law_there mg) := by
  obtain ⟨f, fd, F, mf⟩ := D
  refine ⟨f, fd, ?_, mf, F.kp, F.binds (ps := ["_law_first_here", "_law_puts_here", "_law_stamp"]) fun _ _ _ _ _ _ us hl => match us, hl with | [_, _, _], _ => rfl, Fun.lk F⟩
  refine F.ok sc__law_there (fun vs H Q E hS0 => spP_len (n := 3) (fun xs p q c0 => by unfold C__law_there at c0; obtain ⟨_, _, _, rfl, _⟩ := c0; rfl) hS0) (fun cdv A outer s H vs Q E hr hS0 => ?_)
  have hu := hu_of hr
  refine sp_body hS0 (fun B xs p q c0 hl0 wx => ?_)
  obtain ⟨rows, ps, s, rfl, hp0, hp1, rfl, rfl⟩ := c0
  refine ⟨_, (pss_cons (ps_asg (pe_callTy call_dictDG (by rfl) b_dict (by decide +kernel) (pa_cons (pv 0) pa_nil)) (pg_name (i := 3) sc__law_there.nd rfl (by first | exact Or.inl rfl | exact Or.inr rfl)))
      (pss_cons (ps_for PassesOwn.never rfl (k_seq (K := K) rfl (pv 1)) (k_tup (K := K) (n := 3) rfl (by rfl) (pgs_cons (pg_name (i := 4) sc__law_there.nd rfl (by first | exact Or.inl rfl | exact Or.inr rfl)) (pgs_cons (pg_name (i := 5) sc__law_there.nd rfl (by first | exact Or.inl rfl | exact Or.inr rfl)) (pgs_cons (pg_name (i := 6) sc__law_there.nd rfl (by first | exact Or.inl rfl | exact Or.inr rfl)) pgs_nil))))
        (pss_one (ps_if (pt_cmpR op_leG (pv 4) (pv 2) (nomark _))
          (pss_one (ps_expr (pe_dupd (pv 3) (pv 6) ⟨by rfl, by rfl, by rfl, by rfl⟩)))
          pss_nil)))
      (pss_one (ps_ret (pe_lend (pe_lc (own := [("_law_key_here", 7)]) rfl sc__law_there.nd (k_seq (K := K) rfl (pe_lend (pe_callB (k_sort (K := K) rfl rfl) (by rfl) b_sorted (by decide +kernel) (pa_cons (pv 3) pa_nil)))) (blkOk_by (N := N__law_there) (sc := defScope s__law_there) (by decide +kernel)) (fun _ _ _ _ _ => (pg_name (i := 7) sc__law_there.nd rfl (by first | exact Or.inl rfl | exact Or.inr rfl))) (fun _ _ _ _ _ => (pts_one (pt_cmpR op_notG (pe_ix (k_ix (K := K) rfl hu) (pv 3) (pv 7) (fun _ _ => rfl)) pe_non (nomark _)))) (fun _ _ _ _ _ => (pe_tup (pa_cons (pv 7) (pa_cons (pe_ix (k_ix (K := K) rfl hu) (pv 3) (pv 7) (fun _ _ => rfl)) pa_nil)))))))))), ?_⟩
  clear hS0 hl0 hr hu wx b_dict b_sorted
  have X_r_NO_MAKE := XX.r_NO_MAKE
  have X_R_Shelf := XX.R_Shelf
  have X_g_Shelf := XX.g_Shelf
  simp only [List.map_cons, List.map_nil, List.length_cons, List.length_nil, List.cons_append, List.nil_append, Nat.reduceAdd, Nat.reduceSub, List.replicate_succ, List.replicate_zero, N__law_there]
  have hlen := hp0.len
  ((with_reducible refine gos_sA ?_); (with_reducible refine gos_asg ?_); (with_reducible refine go_cb ?_); (with_reducible refine goa_cons ?_); walk_at "x5"; (with_reducible refine goa_nil ?_); walk_at "x1"; walk_at "x6"; (with_reducible refine oa_dictI ?_); walk_at "x7"; (with_reducible refine gos_sF ?_); (with_reducible refine gos_for ?_); (with_reducible refine goi_seq ?_); walk_at "x5"; walk_at "x1"; walk_at "x6"; (focus skip); rotate_left)
  rw [imO_so]
  refine ⟨_, .seq rfl, fun i Γ' => ∃ (a4 a5 a6 : Option O), Γ' = [some (O.d (.dic (imK D.int rows))), some (O.d (.lst (ps.map ptD))), some (O.d (.int s)), some (.od (imO (fun x => O.d (oiD x)) (thr rows (ps.take i) s))), a4, a5, a6, none], ⟨_, _, _, rfl⟩, ?_, ?_⟩
  · rintro i d _ hd ⟨a4, a5, a6, rfl⟩
    obtain ⟨p, hp, rfl⟩ := mapD_get hd
    have hpl := hp0.ln p (List.mem_of_getElem? hp)
    have hil : i < ps.length := (List.getElem?_eq_some_iff.mp hp).1
    have htl := thr_len (s := s) (hp0.take i) hp1
    have hti : (ps.take i).length = i := by rw [List.length_take]; omega
    have hs : thr rows (ps.take (i + 1)) s = if p.s ≤ s then upH (thr rows (ps.take i) s) p.dr else thr rows (ps.take i) s := by
      unfold thr
      rw [List.take_add_one, hp]
      exact List.foldl_append
    ((with_reducible refine gog_tup ?_); walk_at "x0"; walk_at "x1"; walk_at "x2"; walk_at "x3"; walk_at "x3"; walk_at "x3"; (with_reducible refine gogs_nil ?_); (with_reducible refine gos_if ?_); (with_reducible refine got_test ?_); (with_reducible refine go_op ?_); walk_at "x5"; walk_at "x5"; walk_at "x6"; (with_reducible refine o2_le ?_); walk_at "x0"; walk_at "x13"; walk_at "x29"; walk_at "x5"; walk_at "x1"; walk_at "x6"; walk_at "x17"; (focus skip); rotate_left; (with_reducible refine gos_next ?_); walk_at "x1"; (focus skip); rotate_left)
    · rename_i hc
      refine ⟨by rw [imO_len, imK_len]; omega, ?_⟩
      rw [imO_upd]
      exact ⟨_, _, _, by rw [hs, if_pos hc]⟩
    · rename_i hc
      exact ⟨_, _, _, by rw [hs, if_neg hc]⟩
  rintro _ ⟨a4, a5, a6, rfl⟩
  rw [List.length_map, List.take_length]
  have htl := thr_len (s := s) hp0 hp1
  generalize thr rows ps s = h at *
  refine gos_frz 3 rfl ?_
  rw [imV_fz]
  dsimp only [List.set]
  ((with_reducible refine gos_ret ?_); walk_at "x30"; (focus skip); rotate_left)
  refine go_lcS D.int (fun k => (jnv h k).isSome) (fun k => .tup [.int k, oiD (jnv h k)]) ?_
  (walk_at "x30"; (with_reducible refine go_cb ?_); (with_reducible refine goa_cons ?_); walk_at "x5"; (with_reducible refine goa_nil ?_); walk_at "x6"; (focus skip); rotate_left)
  refine oa_sortI (by omega) ?_
  refine ⟨lfOLm fun _ => rfl, srt (h.map (·.1)), .seq (by exact congrArg some fzL_fl), by rw [srt_len, List.length_map]; omega, by first | trivial | exact Nat.le_of_ble_eq_true rfl, by first | trivial | rfl, fun k acc hk => ?_, ?_⟩
  · have hk2 : (dval h k).isSome = true := dval_mem.mpr (srt_mem.mp hk)
    obtain ⟨v, hv⟩ := Option.isSome_iff_exists.mp hk2
    have e1 : dval (imK oiD h) (.inl k) = some (oiD v) := by rw [dval_im, hv]; rfl
    have e2 : jnv h k = v := by rw [jnv, hv]; rfl
    try dsimp only [List.set]
    ((with_reducible refine got_test ?_); (with_reducible refine go_op ?_); (with_reducible refine go_op ?_); walk_at "x5"; walk_at "x5"; walk_at "x6"; (focus skip); rotate_left)
    refine o2_ixDI e1 ?_
    ((with_reducible refine go_non ?_); walk_at "x6"; walk_at "x28"; walk_at "x0"; (focus skip); rotate_left)
    refine ⟨by rw [e2]; cases v <;> rfl, fun _ => rfl, fun _ => ?_⟩
    ((with_reducible refine go_tup ?_); (with_reducible refine goa_cons ?_); walk_at "x5"; (with_reducible refine goa_cons ?_); (with_reducible refine go_op ?_); walk_at "x5"; walk_at "x5"; walk_at "x6"; (focus skip); rotate_left)
    refine o2_ixDI e1 ?_
    ((with_reducible refine goa_nil ?_); walk_at "x6"; walk_at "x2"; (focus skip); rotate_left)
    exact ⟨by rw [e2], rfl⟩
  · rw [rows_eq]; exact ⟨lfOLm fun _ => rfl, rfl⟩
theorem cal__law_spoiled (D : Df K mg "_law_spoiled" s__law_spoiled) {a_NO_MAKE a_Shelf : Addr} (XX : XF K mg a_NO_MAKE a_Shelf) (c_Shelf__rows : CalM P w K mg base a_Shelf "rows" 2 ["self", "low", "high", "stamp"] (C_Shelf__rows mg a_Shelf)) (c_Shelf__there : CalM P w K mg base a_Shelf "there" 2 ["self", "stamp"] (C_Shelf__there mg a_Shelf)) (c_Shelf__makers : CalM P w K mg base a_Shelf "makers" 1 ["self", "key"] (C_Shelf__makers mg a_Shelf)) (c_Shelf__touched : CalM P w K mg base a_Shelf "touched" 2 ["self", "low", "high"] (C_Shelf__touched mg a_Shelf)) : Cal P w K mg base "_law_spoiled" 3 ["_law_shelf", "_law_stamp", "_law_key_here"] (C__law_spoiled mg) := by
  obtain ⟨f, fd, F, mf⟩ := D
  obtain ⟨f_Shelf__rows, fd_Shelf__rows, G_Shelf__rows, k_Shelf__rows, bn_Shelf__rows⟩ := c_Shelf__rows
  obtain ⟨f_Shelf__there, fd_Shelf__there, G_Shelf__there, k_Shelf__there, bn_Shelf__there⟩ := c_Shelf__there
  obtain ⟨f_Shelf__makers, fd_Shelf__makers, G_Shelf__makers, k_Shelf__makers, bn_Shelf__makers⟩ := c_Shelf__makers
  obtain ⟨f_Shelf__touched, fd_Shelf__touched, G_Shelf__touched, k_Shelf__touched, bn_Shelf__touched⟩ := c_Shelf__touched
  refine ⟨f, fd, ?_, mf, F.kp, F.binds (ps := ["_law_shelf", "_law_stamp", "_law_key_here"]) fun _ _ _ _ _ _ us hl => match us, hl with | [_, _, _], _ => rfl, Fun.lk F⟩
  refine F.ok sc__law_spoiled (fun vs H Q E hS0 => spP_len (n := 3) (fun xs p q c0 => by unfold C__law_spoiled at c0; obtain ⟨_, _, _, _, rfl, _⟩ := c0; rfl) hS0) (fun cdv A outer s H vs Q E hr hS0 => ?_)
  have hu := hu_of hr
  refine sp_body hS0 (fun B xs p q c0 hl0 wx => ?_)
  obtain ⟨Ci, l, s, k, rfl, hp0, hp1, hp2, rfl, rfl⟩ := c0
  refine ⟨_, (pss_cons (ps_asg (pe_meth (pv 0) XX.R_Shelf.cls k_Shelf__rows G_Shelf__rows hr bn_Shelf__rows .nil pass0 (pa_cons (pe_op op_subG pe_int (pe_op op_powG pe_int pe_int)) (pa_cons (pe_op op_subG (pe_op op_powG pe_int pe_int) pe_int) (pa_cons (pv 1) pa_nil)))) (pg_name (i := 3) sc__law_spoiled.nd rfl (by first | exact Or.inl rfl | exact Or.inr rfl)))
      (pss_cons (ps_expr (k_bm (K := K) rfl (pe_bm PySem.F.plainAttrs_list PySem.F.slot_list_append PySem.F.type_list_append mt_append (pv 3) (pa_cons (pe_tup (pa_cons pe_int (pa_cons pe_int pa_nil))) pa_nil))))
      (pss_cons (ps_asg (pe_meth (pv 0) XX.R_Shelf.cls k_Shelf__there G_Shelf__there hr bn_Shelf__there .nil pass0 (pa_cons (pv 1) pa_nil)) (pg_name (i := 4) sc__law_spoiled.nd rfl (by first | exact Or.inl rfl | exact Or.inr rfl)))
      (pss_cons (ps_expr (k_bm0 (K := K) rfl (pe_bm0 PySem.F.plainAttrs_list PySem.F.slot_list_clear PySem.F.type_list_clear mt_clear (pv 4))))
      (pss_cons (ps_asg (pe_meth (pv 0) XX.R_Shelf.cls k_Shelf__makers G_Shelf__makers (hr.mono (by decide)) bn_Shelf__makers .nil pass0 (pa_cons (pv 2) pa_nil)) (pg_name (i := 5) sc__law_spoiled.nd rfl (by first | exact Or.inl rfl | exact Or.inr rfl)))
      (pss_cons (ps_expr (k_bm (K := K) rfl (pe_bm PySem.F.plainAttrs_list PySem.F.slot_list_append PySem.F.type_list_append mt_append (pv 5) (pa_cons pe_int pa_nil))))
      (pss_cons (ps_asg (pe_meth (pv 0) XX.R_Shelf.cls k_Shelf__touched G_Shelf__touched hr bn_Shelf__touched .nil pass0 (pa_cons (pe_op op_subG pe_int (pe_op op_powG pe_int pe_int)) (pa_cons (pe_op op_subG (pe_op op_powG pe_int pe_int) pe_int) pa_nil))) (pg_name (i := 6) sc__law_spoiled.nd rfl (by first | exact Or.inl rfl | exact Or.inr rfl)))
      (pss_one (ps_expr (k_bm0 (K := K) rfl (pe_bm0 PySem.F.plainAttrs_list PySem.F.slot_list_clear PySem.F.type_list_clear mt_clear (pv 6)))))))))))), ?_⟩
  clear hS0 hl0 hr hu wx G_Shelf__rows k_Shelf__rows bn_Shelf__rows G_Shelf__there k_Shelf__there bn_Shelf__there G_Shelf__makers k_Shelf__makers bn_Shelf__makers G_Shelf__touched k_Shelf__touched bn_Shelf__touched
  have X_r_NO_MAKE := XX.r_NO_MAKE
  have X_R_Shelf := XX.R_Shelf
  have X_g_Shelf := XX.g_Shelf
  simp only [List.map_cons, List.map_nil, List.length_cons, List.length_nil, List.cons_append, List.nil_append, Nat.reduceAdd, Nat.reduceSub, List.replicate_succ, List.replicate_zero, N__law_spoiled]
  have e : Ci = a_Shelf := by
    have := hp0.symm.trans XX.g_Shelf
    cases this; rfl
  subst e
  have hr1 := rowsOf_len (h := rowsH l (1 - 1000000000000000000000000000000) (1000000000000000000000000000000 - 1) s)
  have hr2 := rowsH_len (l := l) (lo := 1 - 1000000000000000000000000000000) (hi := 1000000000000000000000000000000 - 1) (s := s)
  have hr3 : (mkrs (chn l k)).length ≤ (chn l k).length := by
    unfold mkrs; rw [List.length_map]; exact List.length_filter_le _ _
  have hr4 := hp2 k
  have hr5 : ∀ k, (chn l k).length ≤ 100000 := fun k => by have := hp2 k; omega
  ((with_reducible refine gos_sA ?_); (with_reducible refine gos_asg ?_); walk_at "x1"; (with_reducible refine call_Shelf__rows ?_); walk_at "x5"; walk_at "x0"; walk_at "x2"; (with_reducible refine goa_cons ?_); (with_reducible refine go_op ?_); (with_reducible refine go_int ?_); (with_reducible refine go_op ?_); (with_reducible refine go_int ?_); (with_reducible refine go_int ?_); walk_at "x6"; walk_at "x12"; walk_at "x6"; (with_reducible refine o2_sub ?_); (with_reducible refine goa_cons ?_); (with_reducible refine go_op ?_); (with_reducible refine go_op ?_); (with_reducible refine go_int ?_); (with_reducible refine go_int ?_); walk_at "x6"; walk_at "x12"; (with_reducible refine go_int ?_); walk_at "x6"; (with_reducible refine o2_sub ?_); (with_reducible refine goa_cons ?_); walk_at "x5"; (with_reducible refine goa_nil ?_); walk_at "x6"; walk_at "x31"; walk_at "x2"; walk_at "x7"; (with_reducible refine gos_sD ?_); walk_at "x10"; (with_reducible refine go_tup ?_); (with_reducible refine goa_cons ?_); (with_reducible refine go_int ?_); (with_reducible refine goa_cons ?_); (with_reducible refine go_int ?_); (with_reducible refine goa_nil ?_); walk_at "x1"; walk_at "x6"; walk_at "x2"; walk_at "x0"; (focus skip); rotate_left)
  refine ⟨by simp only [List.length_map]; omega, ?_⟩
  ((with_reducible refine gos_sA ?_); (with_reducible refine gos_asg ?_); walk_at "x1"; (with_reducible refine call_Shelf__there ?_); walk_at "x5"; walk_at "x0"; walk_at "x2"; (with_reducible refine goa_cons ?_); walk_at "x5"; (with_reducible refine goa_nil ?_); walk_at "x6"; walk_at "x15"; walk_at "x2"; walk_at "x7"; (with_reducible refine gos_sD ?_); walk_at "x32"; (with_reducible refine gos_sA ?_); (with_reducible refine gos_asg ?_); walk_at "x1"; (with_reducible refine call_Shelf__makers ?_); walk_at "x5"; walk_at "x0"; walk_at "x2"; (with_reducible refine goa_cons ?_); walk_at "x5"; (with_reducible refine goa_nil ?_); walk_at "x6"; walk_at "x15"; walk_at "x2"; walk_at "x7"; (with_reducible refine gos_sD ?_); walk_at "x10"; (with_reducible refine go_int ?_); walk_at "x0"; walk_at "x1"; (focus skip); rotate_left)
  refine ⟨by simp only [List.length_map]; omega, ?_⟩
  ((with_reducible refine gos_sA ?_); (with_reducible refine gos_asg ?_); walk_at "x1"; (with_reducible refine call_Shelf__touched ?_); walk_at "x5"; walk_at "x0"; walk_at "x2"; (with_reducible refine goa_cons ?_); (with_reducible refine go_op ?_); (with_reducible refine go_int ?_); (with_reducible refine go_op ?_); (with_reducible refine go_int ?_); (with_reducible refine go_int ?_); walk_at "x6"; walk_at "x12"; walk_at "x6"; (with_reducible refine o2_sub ?_); (with_reducible refine goa_cons ?_); (with_reducible refine go_op ?_); (with_reducible refine go_op ?_); (with_reducible refine go_int ?_); (with_reducible refine go_int ?_); walk_at "x6"; walk_at "x12"; (with_reducible refine go_int ?_); walk_at "x6"; (with_reducible refine o2_sub ?_); (with_reducible refine goa_nil ?_); walk_at "x6"; walk_at "x25"; walk_at "x2"; walk_at "x2"; walk_at "x7"; walk_at "x32")
  all_goals trace_state
theorem cal__law_touched (D : Df K mg "_law_touched" s__law_touched) {a_NO_MAKE a_Shelf : Addr} (XX : XF K mg a_NO_MAKE a_Shelf) (b_list : mg "list" = none) (b_set : mg "set" = none) (b_sorted : mg "sorted" = none) : Cal P w K mg base "_law_touched" 1 ["_law_puts_here"] (C__law_touched mg) := by
  obtain ⟨f, fd, F, mf⟩ := D
  refine ⟨f, fd, ?_, mf, F.kp, F.binds (ps := ["_law_puts_here"]) fun _ _ _ _ _ _ us hl => match us, hl with | [_], _ => rfl, Fun.lk F⟩
  refine F.ok sc__law_touched (fun vs H Q E hS0 => spP_len (n := 1) (fun xs p q c0 => by unfold C__law_touched at c0; obtain ⟨_, rfl, _⟩ := c0; rfl) hS0) (fun cdv A outer s H vs Q E hr hS0 => ?_)
  have hu := hu_of hr
  refine sp_body hS0 (fun B xs p q c0 hl0 wx => ?_)
  obtain ⟨ps, rfl, hp0, rfl, rfl⟩ := c0
  refine ⟨_, (pss_cons (ps_asg (pe_lst pa_nil) (pg_name (i := 1) sc__law_touched.nd rfl (by first | exact Or.inl rfl | exact Or.inr rfl)))
      (pss_cons (ps_for PassesOwn.never rfl (k_seq (K := K) rfl (pv 0)) (k_tup (K := K) (n := 3) rfl (by rfl) (pgs_cons (pg_name (i := 2) sc__law_touched.nd rfl (by first | exact Or.inl rfl | exact Or.inr rfl)) (pgs_cons (pg_name (i := 3) sc__law_touched.nd rfl (by first | exact Or.inl rfl | exact Or.inr rfl)) (pgs_cons (pg_name (i := 4) sc__law_touched.nd rfl (by first | exact Or.inl rfl | exact Or.inr rfl)) pgs_nil))))
        (pss_one (ps_expr (k_bm (K := K) rfl (pe_bm PySem.F.plainAttrs_list PySem.F.slot_list_extend PySem.F.type_list_extend mt_extend (pv 1) (pa_cons (pe_callTy (k_list (K := K) rfl rfl) (by rfl) b_list (by decide +kernel) (pa_cons (pv 4) pa_nil)) pa_nil))))))
      (pss_one (ps_ret (pe_lend (pe_sortSet (K := K) rfl rfl (by rfl) b_sorted (by rfl) b_set (pv 1))))))), ?_⟩
  clear hS0 hl0 hr hu wx b_list b_set b_sorted
  have X_r_NO_MAKE := XX.r_NO_MAKE
  have X_R_Shelf := XX.R_Shelf
  have X_g_Shelf := XX.g_Shelf
  simp only [List.map_cons, List.map_nil, List.length_cons, List.length_nil, List.cons_append, List.nil_append, Nat.reduceAdd, Nat.reduceSub, List.replicate_succ, List.replicate_zero, N__law_touched]
  have hlen := hp0.len
  ((with_reducible refine gos_sA ?_); (with_reducible refine gos_asg ?_); (with_reducible refine go_lst ?_); (with_reducible refine goa_nil ?_); walk_at "x1"; walk_at "x2"; walk_at "x7"; (with_reducible refine gos_sF ?_); (with_reducible refine gos_for ?_); (with_reducible refine goi_seq ?_); walk_at "x5"; walk_at "x1"; walk_at "x6"; (focus skip); rotate_left)
  refine ⟨_, .seq rfl, fun i Γ' => ∃ (xs : List Int) (a2 a3 a4 : Option O), xs.length ≤ 60 * i ∧ (∀ k, k ∈ xs ↔ ∃ p ∈ ps.take i, k ∈ p.dr.map (·.1)) ∧ Γ' = [some (O.d (.lst (ps.map ptD))), some (.ol ((xs.map D.int).map O.d)), a2, a3, a4], ⟨[], _, _, _, Nat.zero_le _, by simp, rfl⟩, ?_, ?_⟩
  · rintro i d _ hd ⟨xs, a2, a3, a4, h1, h2, rfl⟩
    obtain ⟨p, hp, rfl⟩ := mapD_get hd
    have hpl := hp0.ln p (List.mem_of_getElem? hp)
    have hil : i < ps.length := (List.getElem?_eq_some_iff.mp hp).1
    ((with_reducible refine gog_tup ?_); walk_at "x0"; walk_at "x1"; walk_at "x2"; walk_at "x3"; walk_at "x3"; walk_at "x3"; (with_reducible refine gogs_nil ?_); walk_at "x33"; (with_reducible refine go_cb ?_); (with_reducible refine goa_cons ?_); walk_at "x5"; (with_reducible refine goa_nil ?_); walk_at "x1"; walk_at "x6"; (focus skip); rotate_left)
    refine oa_listD ?_
    (walk_at "x1"; walk_at "x6"; walk_at "x17"; (focus skip); rotate_left)
    have ek : ((imK oiD p.dr).map fun p => kD p.1) = (p.dr.map (·.1)).map SK.D.int := by unfold imK; rw [List.map_map, List.map_map]; rfl
    rw [ek]
    refine ⟨by simp only [List.length_map]; omega, xs ++ p.dr.map (·.1), _, _, _, by rw [List.length_append, List.length_map]; omega, fun k => ?_, by simp only [List.map_append]; rfl⟩
    rw [List.mem_append, h2, List.take_add_one, hp]
    constructor
    · rintro (⟨q, q2, q3⟩ | q2)
      · exact ⟨q, List.mem_append_left _ q2, q3⟩
      · exact ⟨p, List.mem_append_right _ (by simp), q2⟩
    · rintro ⟨q, q2, q3⟩
      rcases List.mem_append.mp q2 with q2 | q2
      · exact .inl ⟨q, q2, q3⟩
      · have e : q = p := by simpa using q2
        subst e
        exact .inr q3
  · rintro _ ⟨xs, a2, a3, a4, h1, h2, rfl⟩
    rw [List.length_map] at h1 h2
    rw [List.take_length] at h2
    ((with_reducible refine gos_ret ?_); walk_at "x30"; (with_reducible refine go_sortSet ?_); walk_at "x5"; walk_at "x0"; walk_at "x2"; (focus skip); rotate_left)
    exact fun ms hr hm => ⟨lfOLm fun _ => rfl, ms, hr, fun k => by rw [hm, h2], rfl⟩
theorem cal__law_makers (D : Df K mg "_law_makers" s__law_makers) {a_NO_MAKE a_Shelf : Addr} (XX : XF K mg a_NO_MAKE a_Shelf) : Cal P w K mg base "_law_makers" 1 ["_law_puts_here", "_law_key_here"] (C__law_makers mg) := by
  obtain ⟨f, fd, F, mf⟩ := D
  refine ⟨f, fd, ?_, mf, F.kp, F.binds (ps := ["_law_puts_here", "_law_key_here"]) fun _ _ _ _ _ _ us hl => match us, hl with | [_, _], _ => rfl, Fun.lk F⟩
  refine F.ok sc__law_makers (fun vs H Q E hS0 => spP_len (n := 2) (fun xs p q c0 => by unfold C__law_makers at c0; obtain ⟨_, _, rfl, _⟩ := c0; rfl) hS0) (fun cdv A outer s H vs Q E hr hS0 => ?_)
  have hu := hu_of hr
  refine sp_body hS0 (fun B xs p q c0 hl0 wx => ?_)
  obtain ⟨ps, k, rfl, hp0, rfl, rfl⟩ := c0
  refine ⟨_, (pss_one (ps_ret (pe_lc (own := [("_law_stamp", 2), ("_law_dealing", 3), ("_law_drafts", 4)]) rfl sc__law_makers.nd (k_seq (K := K) rfl (pv 0)) (blkOk_by (N := N__law_makers) (sc := defScope s__law_makers) (by decide +kernel)) (fun _ _ _ _ _ => (k_tup (K := K) (n := 3) rfl (by rfl) (pgs_cons (pg_name (i := 2) sc__law_makers.nd rfl (by first | exact Or.inl rfl | exact Or.inr rfl)) (pgs_cons (pg_name (i := 3) sc__law_makers.nd rfl (by first | exact Or.inl rfl | exact Or.inr rfl)) (pgs_cons (pg_name (i := 4) sc__law_makers.nd rfl (by first | exact Or.inl rfl | exact Or.inr rfl)) pgs_nil))))) (fun _ _ _ _ _ => (pts_one (pt_cmpR (k_in (K := K) rfl hu) (pv 1) (pv 4) (by rfl)))) (fun _ _ _ _ _ => (pv 3))))), ?_⟩
  clear hS0 hl0 hr hu wx
  have X_r_NO_MAKE := XX.r_NO_MAKE
  have X_R_Shelf := XX.R_Shelf
  have X_g_Shelf := XX.g_Shelf
  simp only [List.map_cons, List.map_nil, List.length_cons, List.length_nil, List.cons_append, List.nil_append, Nat.reduceAdd, Nat.reduceSub, List.replicate_succ, List.replicate_zero, N__law_makers]
  ((with_reducible refine gos_ret ?_); walk_at "x1"; (focus skip); rotate_left)
  refine go_lc3 ptD (fun p => .int p.s) (fun p => .int p.d) (fun p => .dic (imK oiD p.dr)) (fun _ => rfl) (fun p => (dval p.dr k).isSome) (fun p => .int p.d) ?_
  (walk_at "x5"; walk_at "x1"; walk_at "x6"; (focus skip); rotate_left)
  refine ⟨ps, .seq rfl, by omega, ⟨by first | trivial | exact Nat.le_of_ble_eq_true rfl, by first | trivial | exact Nat.le_of_ble_eq_true rfl, by first | trivial | exact Nat.le_of_ble_eq_true rfl, by first | trivial | rfl, by first | trivial | rfl, by first | trivial | rfl⟩, fun p acc hp => ?_, ?_⟩
  · try dsimp only [List.set]
    ((with_reducible refine got_test ?_); (with_reducible refine go_op ?_); walk_at "x5"; walk_at "x5"; walk_at "x6"; (focus skip); rotate_left)
    refine o2_inDI ?_
    rw [dval_im, Option.isSome_map]
    (walk_at "x0"; walk_at "x1"; (focus skip); rotate_left)
    refine ⟨by first | trivial | rfl, fun _ => rfl, fun _ => ?_⟩
    (walk_at "x5"; walk_at "x6"; (focus skip); rotate_left)
    exact ⟨by first | trivial | rfl, rfl⟩
  · unfold dmk; simp only [List.map_map]; rfl
theorem cal__law_stands (D : Df K mg "_law_stands" s__law_stands) {a_NO_MAKE a_Shelf : Addr} (XX : XF K mg a_NO_MAKE a_Shelf) (c_Shelf__touched : CalM P w K mg base a_Shelf "touched" 2 ["self", "low", "high"] (C_Shelf__touched mg a_Shelf)) (c_Shelf__there : CalM P w K mg base a_Shelf "there" 2 ["self", "stamp"] (C_Shelf__there mg a_Shelf)) (c_Shelf__rows : CalM P w K mg base a_Shelf "rows" 2 ["self", "low", "high", "stamp"] (C_Shelf__rows mg a_Shelf)) (c_Shelf__makers : CalM P w K mg base a_Shelf "makers" 1 ["self", "key"] (C_Shelf__makers mg a_Shelf)) (c__law_there : Cal P w K mg base "_law_there" 1 ["_law_first_here", "_law_puts_here", "_law_stamp"] (C__law_there mg)) (c__law_spoiled : Cal P w K mg base "_law_spoiled" 3 ["_law_shelf", "_law_stamp", "_law_key_here"] (C__law_spoiled mg)) (c__law_touched : Cal P w K mg base "_law_touched" 1 ["_law_puts_here"] (C__law_touched mg)) (c__law_makers : Cal P w K mg base "_law_makers" 1 ["_law_puts_here", "_law_key_here"] (C__law_makers mg)) : Cal P w K mg base "_law_stands" 4 ["_law_shelf", "_law_first_here", "_law_puts_here", "_law_stamp", "_law_key_here"] (C__law_stands mg) := by
  obtain ⟨f, fd, F, mf⟩ := D
  obtain ⟨f_Shelf__touched, fd_Shelf__touched, G_Shelf__touched, k_Shelf__touched, bn_Shelf__touched⟩ := c_Shelf__touched
  obtain ⟨f_Shelf__there, fd_Shelf__there, G_Shelf__there, k_Shelf__there, bn_Shelf__there⟩ := c_Shelf__there
  obtain ⟨f_Shelf__rows, fd_Shelf__rows, G_Shelf__rows, k_Shelf__rows, bn_Shelf__rows⟩ := c_Shelf__rows
  obtain ⟨f_Shelf__makers, fd_Shelf__makers, G_Shelf__makers, k_Shelf__makers, bn_Shelf__makers⟩ := c_Shelf__makers
  obtain ⟨f__law_there, fd__law_there, G__law_there, g__law_there, k__law_there, bn__law_there, _⟩ := c__law_there
  obtain ⟨f__law_spoiled, fd__law_spoiled, G__law_spoiled, g__law_spoiled, k__law_spoiled, bn__law_spoiled, _⟩ := c__law_spoiled
  obtain ⟨f__law_touched, fd__law_touched, G__law_touched, g__law_touched, k__law_touched, bn__law_touched, _⟩ := c__law_touched
  obtain ⟨f__law_makers, fd__law_makers, G__law_makers, g__law_makers, k__law_makers, bn__law_makers, _⟩ := c__law_makers
  refine ⟨f, fd, ?_, mf, F.kp, F.binds (ps := ["_law_shelf", "_law_first_here", "_law_puts_here", "_law_stamp", "_law_key_here"]) fun _ _ _ _ _ _ us hl => match us, hl with | [_, _, _, _, _], _ => rfl, Fun.lk F⟩
  refine F.ok sc__law_stands (fun vs H Q E hS0 => spP_len (n := 5) (fun xs p q c0 => by unfold C__law_stands at c0; obtain ⟨_, _, _, _, _, _, rfl, _⟩ := c0; rfl) hS0) (fun cdv A outer s H vs Q E hr hS0 => ?_)
  have hu := hu_of hr
  refine sp_body hS0 (fun B xs p q c0 hl0 wx => ?_)
  obtain ⟨Ci, l, rows, ps, s, k, rfl, hp0, hp1, hp2, hp3, hp4, hp5, hp6, hp7, rfl, rfl⟩ := c0
  refine ⟨_, (pss_cons (ps_asg (pe_call G__law_there (hr.mono (by decide)) rfl g__law_there k__law_there bn__law_there .nil pass0 (pa_cons (pv 1) (pa_cons (pv 2) (pa_cons (pv 3) pa_nil)))) (pg_name (i := 5) sc__law_stands.nd rfl (by first | exact Or.inl rfl | exact Or.inr rfl)))
      (pss_cons (ps_expr (pe_call G__law_spoiled hr rfl g__law_spoiled k__law_spoiled bn__law_spoiled .nil pass0 (pa_cons (pv 0) (pa_cons (pv 3) (pa_cons (pv 4) pa_nil)))))
      (pss_cons (ps_if (PW.pt (pw_or (pt_cmpR (k_ne (K := K) rfl hr.units) (pe_meth (pv 0) XX.R_Shelf.cls k_Shelf__there G_Shelf__there (hr.mono (by decide)) bn_Shelf__there .nil pass0 (pa_cons (pv 3) pa_nil)) (pv 5) (nomark _)) (pw_or1 (pt_cmpR (k_ne (K := K) rfl hr.units) (pe_meth (pv 0) XX.R_Shelf.cls k_Shelf__rows G_Shelf__rows (hr.mono (by decide)) bn_Shelf__rows .nil pass0 (pa_cons (pe_op op_subG pe_int (pe_op op_powG pe_int pe_int)) (pa_cons (pe_op op_subG (pe_op op_powG pe_int pe_int) pe_int) (pa_cons (pv 3) pa_nil)))) (pv 5) (nomark _)))))
        (pss_one (ps_ret pe_bl))
        pss_nil)
      (pss_cons (ps_expr (pe_call G__law_spoiled hr rfl g__law_spoiled k__law_spoiled bn__law_spoiled .nil pass0 (pa_cons (pv 0) (pa_cons (pv 3) (pa_cons (pv 4) pa_nil)))))
      (pss_cons (ps_if (PW.pt (pw_or (pt_cmpR (k_ne (K := K) rfl hr.units) (pe_meth (pv 0) XX.R_Shelf.cls k_Shelf__makers G_Shelf__makers (hr.mono (by decide)) bn_Shelf__makers .nil pass0 (pa_cons (pv 4) pa_nil)) (pe_call G__law_makers (hr.mono (by decide)) rfl g__law_makers k__law_makers bn__law_makers .nil pass0 (pa_cons (pv 2) (pa_cons (pv 4) pa_nil))) (nomark _)) (pw_or1 (pt_cmpR (k_ne (K := K) rfl hr.units) (pe_meth (pv 0) XX.R_Shelf.cls k_Shelf__there G_Shelf__there (hr.mono (by decide)) bn_Shelf__there .nil pass0 (pa_cons (pv 3) pa_nil)) (pv 5) (nomark _)))))
        (pss_one (ps_ret pe_bl))
        pss_nil)
      (pss_one (ps_ret (pe_cmpR (k_eq (K := K) rfl hr.units) (pe_meth (pv 0) XX.R_Shelf.cls k_Shelf__touched G_Shelf__touched (hr.mono (by decide)) bn_Shelf__touched .nil pass0 (pa_cons (pe_op op_subG pe_int (pe_op op_powG pe_int pe_int)) (pa_cons (pe_op op_subG (pe_op op_powG pe_int pe_int) pe_int) pa_nil))) (pe_call G__law_touched (hr.mono (by decide)) rfl g__law_touched k__law_touched bn__law_touched .nil pass0 (pa_cons (pv 2) pa_nil)) (nomark _))))))))), ?_⟩
  clear hS0 hl0 hr hu wx G_Shelf__touched k_Shelf__touched bn_Shelf__touched G_Shelf__there k_Shelf__there bn_Shelf__there G_Shelf__rows k_Shelf__rows bn_Shelf__rows G_Shelf__makers k_Shelf__makers bn_Shelf__makers G__law_there g__law_there k__law_there bn__law_there G__law_spoiled g__law_spoiled k__law_spoiled bn__law_spoiled G__law_touched g__law_touched k__law_touched bn__law_touched G__law_makers g__law_makers k__law_makers bn__law_makers
  have X_r_NO_MAKE := XX.r_NO_MAKE
  have X_R_Shelf := XX.R_Shelf
  have X_g_Shelf := XX.g_Shelf
  simp only [List.map_cons, List.map_nil, List.length_cons, List.length_nil, List.cons_append, List.nil_append, Nat.reduceAdd, Nat.reduceSub, List.replicate_succ, List.replicate_zero, N__law_stands]
  have e : Ci = a_Shelf := by
    have := hp0.symm.trans XX.g_Shelf
    cases this; rfl
  subst e
  have hlen := hp1.len
  have hln := hp6.ln
  have hch : ∀ k, (chn l k).length ≤ 41 := fun k => by rw [hp6.ch]; have := mks_len (rows := rows) (ps := ps) (k := k); omega
  have hch2 : ∀ k, (chn l k).length < 90000 := fun k => by have := hch k; omega
  have e1 : rowsOf (thereH l s) = rowsOf (thr rows ps s) := there_eq hp5 hp6.ch (thr_nd hp2) fun k => thr_j hp1 hp7
  have e2 : rowsOf (rowsH l (1 - 1000000000000000000000000000000) (1000000000000000000000000000000 - 1) s) = rowsOf (thr rows ps s) := rows_eqA hp5 hp6.ch (thr_nd hp2) (fun k => thr_j hp1 hp7) hp4 hp1
  have e3 : mkrs (chn l k) = dmk ps k := by rw [hp6.ch, mkrs_mks hp1.dp]
  ((with_reducible refine gos_sA ?_); (with_reducible refine gos_asg ?_); walk_at "x1"; (with_reducible refine call__law_there ?_); (with_reducible refine goa_cons ?_); walk_at "x5"; (with_reducible refine goa_cons ?_); walk_at "x5"; (with_reducible refine goa_cons ?_); walk_at "x5"; (with_reducible refine goa_nil ?_); walk_at "x6"; walk_at "x25"; walk_at "x2"; walk_at "x2"; walk_at "x7"; (with_reducible refine gos_sD ?_); (with_reducible refine gos_drop ?_); walk_at "x1"; (with_reducible refine call__law_spoiled ?_); (with_reducible refine goa_cons ?_); walk_at "x5"; (with_reducible refine goa_cons ?_); walk_at "x5"; (with_reducible refine goa_cons ?_); walk_at "x5"; (with_reducible refine goa_nil ?_); walk_at "x6"; walk_at "x31"; walk_at "x2"; walk_at "x2"; walk_at "x2"; (with_reducible refine gos_sIR ?_); (with_reducible refine gos_if ?_); (with_reducible refine got_or ?_); (with_reducible refine got_test ?_); (with_reducible refine go_op ?_); walk_at "x1"; (with_reducible refine call_Shelf__there ?_); walk_at "x5"; walk_at "x0"; walk_at "x6"; walk_at "x2"; (with_reducible refine goa_cons ?_); walk_at "x5"; (with_reducible refine goa_nil ?_); walk_at "x6"; walk_at "x15"; walk_at "x2"; walk_at "x11"; (focus skip); rotate_left)
  rw [e1]
  refine o2_neSame 2 (Shp.lstM shp_pr) (by decide) ?_
  (walk_at "x0"; walk_at "x1"; walk_at "x13"; (with_reducible refine got_test ?_); (with_reducible refine go_op ?_); (with_reducible refine call_Shelf__rows ?_); walk_at "x5"; walk_at "x0"; walk_at "x6"; walk_at "x2"; (with_reducible refine goa_cons ?_); (with_reducible refine go_op ?_); (with_reducible refine go_int ?_); (with_reducible refine go_op ?_); (with_reducible refine go_int ?_); (with_reducible refine go_int ?_); walk_at "x6"; walk_at "x12"; walk_at "x6"; (with_reducible refine o2_sub ?_); (with_reducible refine goa_cons ?_); (with_reducible refine go_op ?_); (with_reducible refine go_op ?_); (with_reducible refine go_int ?_); (with_reducible refine go_int ?_); walk_at "x6"; walk_at "x12"; (with_reducible refine go_int ?_); walk_at "x6"; (with_reducible refine o2_sub ?_); (with_reducible refine goa_cons ?_); walk_at "x5"; (with_reducible refine goa_nil ?_); walk_at "x6"; walk_at "x31"; walk_at "x2"; walk_at "x5"; walk_at "x6"; (focus skip); rotate_left)
  rw [e2]
  refine o2_neSame 2 (Shp.lstM shp_pr) (by decide) ?_
  (walk_at "x0"; walk_at "x1"; walk_at "x13"; (with_reducible refine gos_next ?_); (with_reducible refine gos_sD ?_); (with_reducible refine gos_drop ?_); walk_at "x1"; (with_reducible refine call__law_spoiled ?_); (with_reducible refine goa_cons ?_); walk_at "x5"; (with_reducible refine goa_cons ?_); walk_at "x5"; (with_reducible refine goa_cons ?_); walk_at "x5"; (with_reducible refine goa_nil ?_); walk_at "x6"; walk_at "x31"; walk_at "x2"; walk_at "x2"; walk_at "x2"; (with_reducible refine gos_sIR ?_); (with_reducible refine gos_if ?_); (with_reducible refine got_or ?_); (with_reducible refine got_test ?_); (with_reducible refine go_op ?_); walk_at "x1"; (with_reducible refine call_Shelf__makers ?_); walk_at "x5"; walk_at "x0"; walk_at "x6"; walk_at "x2"; (with_reducible refine goa_cons ?_); walk_at "x5"; (with_reducible refine goa_nil ?_); walk_at "x6"; walk_at "x15"; (focus skip); rotate_left)
  rw [e3]
  refine ⟨by have := hch k; omega, ?_⟩
  ((with_reducible refine call__law_makers ?_); (with_reducible refine goa_cons ?_); walk_at "x5"; (with_reducible refine goa_cons ?_); walk_at "x5"; (with_reducible refine goa_nil ?_); walk_at "x6"; walk_at "x15"; walk_at "x2"; (focus skip); rotate_left)
  refine o2_neSame 1 Shp.ints (by decide) ?_
  (walk_at "x0"; walk_at "x1"; walk_at "x13"; (with_reducible refine got_test ?_); (with_reducible refine go_op ?_); (with_reducible refine call_Shelf__there ?_); walk_at "x5"; walk_at "x0"; walk_at "x6"; walk_at "x2"; (with_reducible refine goa_cons ?_); walk_at "x5"; (with_reducible refine goa_nil ?_); walk_at "x6"; walk_at "x15"; walk_at "x2"; walk_at "x5"; walk_at "x6"; (focus skip); rotate_left)
  rw [e1]
  refine o2_neSame 2 (Shp.lstM shp_pr) (by decide) ?_
  (walk_at "x0"; walk_at "x1"; walk_at "x13"; (with_reducible refine gos_next ?_); (with_reducible refine gos_ret ?_); (with_reducible refine go_op ?_); walk_at "x1"; (with_reducible refine call_Shelf__touched ?_); walk_at "x5"; walk_at "x0"; walk_at "x6"; walk_at "x2"; (with_reducible refine goa_cons ?_); (with_reducible refine go_op ?_); (with_reducible refine go_int ?_); (with_reducible refine go_op ?_); (with_reducible refine go_int ?_); (with_reducible refine go_int ?_); walk_at "x6"; walk_at "x12"; walk_at "x6"; (with_reducible refine o2_sub ?_); (with_reducible refine goa_cons ?_); (with_reducible refine go_op ?_); (with_reducible refine go_op ?_); (with_reducible refine go_int ?_); (with_reducible refine go_int ?_); walk_at "x6"; walk_at "x12"; (with_reducible refine go_int ?_); walk_at "x6"; (with_reducible refine o2_sub ?_); (with_reducible refine goa_nil ?_); walk_at "x6"; walk_at "x25"; walk_at "x2"; (focus skip); rotate_left)
  refine ⟨fun k => by have := hch k; omega, ?_⟩
  ((with_reducible refine call__law_touched ?_); (with_reducible refine goa_cons ?_); walk_at "x5"; (with_reducible refine goa_nil ?_); walk_at "x0"; walk_at "x6"; walk_at "x2"; (focus skip); rotate_left)
  intro ms hr hm
  rw [tchd_eq (rows := rows) (ps := ps) (ms := ms) hp5 hp6.ch hp1.dp hr fun k => by
    rw [hm]
    refine ⟨fun ⟨p, a1, a2⟩ => ⟨by unfold inB; simp only [Bool.and_eq_true, decide_eq_true_eq]; exact hp1.kb p a1 k a2, p, a1, a2⟩, fun ⟨_, h⟩ => h⟩]
  skip
  refine o2_eqSame 1 Shp.ints (by decide) ?_
  (walk_at "x1")
  all_goals trace_state
theorem cal_law (D : Df K mg "law" s_law) {a_NO_MAKE a_Shelf : Addr} (XX : XF K mg a_NO_MAKE a_Shelf) (c_Shelf__put : CalMS P w K mg base a_Shelf "put" 1 ["self", "stamp", "dealing", "drafts"] (C_Shelf__put mg a_Shelf)) (c__law_first : Cal P w K mg base "_law_first" 3 ["_law_cell", "_law_base"] (C__law_first mg)) (c_Shelf__init : CalI P w K mg base "Shelf" a_Shelf 1 ["self", "rows"] (C_Shelf__init mg)) (c__law_puts : Cal P w K mg base "_law_puts" 4 ["_law_cells", "_law_base"] (C__law_puts mg)) (c__law_cell_at : Cal P w K mg base "_law_cell_at" 1 ["_law_script", "_law_k"] (C__law_cell_at mg)) (c__law_stream : Cal P w K mg base "_law_stream" 1 ["_law_cell", "_law_many"] (C__law_stream mg)) (c__law_key : Cal P w K mg base "_law_key" 2 ["_law_number", "_law_base"] (C__law_key mg)) (c__law_stands : Cal P w K mg base "_law_stands" 4 ["_law_shelf", "_law_first_here", "_law_puts_here", "_law_stamp", "_law_key_here"] (C__law_stands mg)) (b_dict : mg "dict" = none) (b_len : mg "len" = none) (b_range : mg "range" = none) : Cal P w K mg base "law" 5 ["_law_script"] C_law := by
  obtain ⟨f, fd, F, mf⟩ := D
  obtain ⟨f_Shelf__put, fd_Shelf__put, G_Shelf__put, k_Shelf__put, bn_Shelf__put⟩ := c_Shelf__put
  obtain ⟨f__law_first, fd__law_first, G__law_first, g__law_first, k__law_first, bn__law_first, _⟩ := c__law_first
  obtain ⟨f_Shelf__init, fd_Shelf__init, G_Shelf__init, g_Shelf__init, k_Shelf__init, bn_Shelf__init⟩ := c_Shelf__init
  obtain ⟨f__law_puts, fd__law_puts, G__law_puts, g__law_puts, k__law_puts, bn__law_puts, _⟩ := c__law_puts
  obtain ⟨f__law_cell_at, fd__law_cell_at, G__law_cell_at, g__law_cell_at, k__law_cell_at, bn__law_cell_at, _⟩ := c__law_cell_at
  obtain ⟨f__law_stream, fd__law_stream, G__law_stream, g__law_stream, k__law_stream, bn__law_stream, _⟩ := c__law_stream
  obtain ⟨f__law_key, fd__law_key, G__law_key, g__law_key, k__law_key, bn__law_key, _⟩ := c__law_key
  obtain ⟨f__law_stands, fd__law_stands, G__law_stands, g__law_stands, k__law_stands, bn__law_stands, _⟩ := c__law_stands
  refine ⟨f, fd, ?_, mf, F.kp, F.binds (ps := ["_law_script"]) fun _ _ _ _ _ _ us hl => match us, hl with | [_], _ => rfl, Fun.lk F⟩
  refine F.ok sc_law (fun vs H Q E hS0 => spP_len (n := 1) (fun xs p q c0 => by obtain ⟨ns, rfl, _⟩ := c0; rfl) hS0) (fun cdv A outer s H vs Q E hr hS0 => ?_)
  have hu := hu_of hr
  refine sp_body hS0 (fun B xs p q c0 hl0 wx => ?_)
  obtain ⟨ns, rfl, hlen, hbits, rfl, rfl⟩ := c0
  refine ⟨_, (pss_cons (ps_asg (pe_op op_modG (pe_call G__law_cell_at (hr.mono (by decide)) rfl g__law_cell_at k__law_cell_at bn__law_cell_at .nil pass0 (pa_cons (pv 0) (pa_cons pe_int pa_nil))) pe_int) (pg_name (i := 1) sc_law.nd rfl (by first | exact Or.inl rfl | exact Or.inr rfl)))
      (pss_cons (ps_asg (pe_call G__law_first (hr.mono (by decide)) rfl g__law_first k__law_first bn__law_first .nil pass0 (pa_cons (pe_call G__law_cell_at (hr.mono (by decide)) rfl g__law_cell_at k__law_cell_at bn__law_cell_at .nil pass0 (pa_cons (pv 0) (pa_cons pe_int pa_nil))) (pa_cons (pv 1) pa_nil))) (pg_name (i := 2) sc_law.nd rfl (by first | exact Or.inl rfl | exact Or.inr rfl)))
      (pss_cons (ps_asg (pe_callTy call_dictDG (by rfl) b_dict (by decide +kernel) (pa_cons (pv 2) pa_nil)) (pg_name (i := 3) sc_law.nd rfl (by first | exact Or.inl rfl | exact Or.inr rfl)))
      (pss_cons (ps_asg (pe_lend (pe_make k_Shelf__init G_Shelf__init (hr.mono (by decide)) rfl g_Shelf__init bn_Shelf__init .nil pass0 (pa_cons (pv 3) pa_nil))) (pg_name (i := 4) sc_law.nd rfl (by first | exact Or.inl rfl | exact Or.inr rfl)))
      (pss_cons (ps_asg (pe_lend (pe_make k_Shelf__init G_Shelf__init (hr.mono (by decide)) rfl g_Shelf__init bn_Shelf__init .nil pass0 (pa_cons (pv 3) pa_nil))) (pg_name (i := 5) sc_law.nd rfl (by first | exact Or.inl rfl | exact Or.inr rfl)))
      (pss_cons (ps_expr (k_bm0 (K := K) rfl (pe_bm0 PySem.F.plainAttrs_dict PySem.F.slot_dict_clear PySem.F.type_dict_clear mt_dclr (pv 3))))
      (pss_cons (ps_asg pe_int (pg_sub (pv 3) pe_int (set_G hu)))
      (pss_cons (ps_asg (pe_call G__law_puts hr rfl g__law_puts k__law_puts bn__law_puts .nil pass0 (pa_cons (pe_slice (k_sl (K := K) rfl) (pv 0) (po_some pe_int) (po_some pe_int)) (pa_cons (pv 1) pa_nil))) (pg_name (i := 6) sc_law.nd rfl (by first | exact Or.inl rfl | exact Or.inr rfl)))
      (pss_cons (ps_if (pt_lend (PW.pt (pw_or (pt_not (pt_val (pe_call G__law_stands hr rfl g__law_stands k__law_stands bn__law_stands .nil pass0 (pa_cons (pv 4) (pa_cons (pv 2) (pa_cons (pe_lst pa_nil) (pa_cons pe_int (pa_cons pe_int pa_nil)))))))) (pw_or1 (pt_not (pt_val (pe_call G__law_stands hr rfl g__law_stands k__law_stands bn__law_stands .nil pass0 (pa_cons (pv 5) (pa_cons (pv 2) (pa_cons (pe_lst pa_nil) (pa_cons pe_int (pa_cons pe_int pa_nil))))))))))))
        (pss_one (ps_ret pe_bl))
        pss_nil)
      (pss_cons (ps_for PassesOwn.never rfl (pi_range1 (by rfl) b_range (pa_cons (pe_callB (k_len (K := K) rfl) (by rfl) b_len (by decide +kernel) (pa_cons (pv 6) pa_nil)) pa_nil)) (pg_name (i := 7) sc_law.nd rfl (by first | exact Or.inl rfl | exact Or.inr rfl))
        (pss_cons (ps_asg (pe_ix (k_ix (K := K) rfl hu) (pv 6) (pv 7) (fun _ _ => rfl)) (k_tup (K := K) (n := 3) rfl (by rfl) (pgs_cons (pg_name (i := 11) sc_law.nd rfl (by first | exact Or.inl rfl | exact Or.inr rfl)) (pgs_cons (pg_name (i := 12) sc_law.nd rfl (by first | exact Or.inl rfl | exact Or.inr rfl)) (pgs_cons (pg_name (i := 13) sc_law.nd rfl (by first | exact Or.inl rfl | exact Or.inr rfl)) pgs_nil)))))
        (pss_cons (ps_asg (pe_callTy call_dictDG (by rfl) b_dict (by decide +kernel) (pa_cons (pv 13) pa_nil)) (pg_name (i := 3) sc_law.nd rfl (by first | exact Or.inl rfl | exact Or.inr rfl)))
        (pss_cons (ps_expr (k_methL (pe_meth (pv 4) XX.R_Shelf.cls k_Shelf__put G_Shelf__put (hr.mono (by decide)) bn_Shelf__put .nil pass0 (pa_cons (pv 11) (pa_cons (pv 12) (pa_cons (pv 3) pa_nil))))))
        (pss_cons (ps_if (pt_cmpR (k_eq (K := K) rfl hr.units) (pe_op op_modG (pv 7) pe_int) pe_int (nomark _))
          (pss_one (ps_expr (k_methL (pe_meth (pv 5) XX.R_Shelf.cls k_Shelf__put G_Shelf__put (hr.mono (by decide)) bn_Shelf__put .nil pass0 (pa_cons (pv 11) (pa_cons (pv 12) (pa_cons (pv 3) pa_nil)))))))
          pss_nil)
        (pss_cons (ps_expr (k_bm0 (K := K) rfl (pe_bm0 PySem.F.plainAttrs_dict PySem.F.slot_dict_clear PySem.F.type_dict_clear mt_dclr (pv 3))))
        (pss_cons (ps_asg pe_int (pg_sub (pv 3) (pe_op op_subG (pv 7) pe_int) (set_G hu)))
        (pss_cons (ps_asg (pe_call G__law_stream (hr.mono (by decide)) rfl g__law_stream k__law_stream bn__law_stream .nil pass0 (pa_cons (pe_op (k_add (K := K) rfl) (pe_op op_divG (pe_call G__law_cell_at (hr.mono (by decide)) rfl g__law_cell_at k__law_cell_at bn__law_cell_at .nil pass0 (pa_cons (pv 0) (pa_cons (pe_op (k_add (K := K) rfl) pe_int (pv 7)) pa_nil))) pe_int) (pv 7)) (pa_cons pe_int pa_nil))) (pg_name (i := 8) sc_law.nd rfl (by first | exact Or.inl rfl | exact Or.inr rfl)))
        (pss_cons (ps_asg (pe_op op_subG (pe_ix (k_ix (K := K) rfl hu) (pe_ix (k_ix (K := K) rfl hu) (pv 6) (pe_op op_modG (pe_ix (k_ix (K := K) rfl hu) (pv 8) pe_int (fun _ _ => rfl)) (pe_op (k_add (K := K) rfl) (pv 7) pe_int)) (fun _ _ => rfl)) pe_int (fun _ _ => rfl)) (pe_op op_modG (pe_op op_divG (pe_ix (k_ix (K := K) rfl hu) (pv 8) pe_int (fun _ _ => rfl)) pe_int) pe_int)) (pg_name (i := 9) sc_law.nd rfl (by first | exact Or.inl rfl | exact Or.inr rfl)))
        (pss_cons (ps_asg (pe_call G__law_key (hr.mono (by decide)) rfl g__law_key k__law_key bn__law_key .nil pass0 (pa_cons (pe_ix (k_ix (K := K) rfl hu) (pv 8) pe_int (fun _ _ => rfl)) (pa_cons (pv 1) pa_nil))) (pg_name (i := 10) sc_law.nd rfl (by first | exact Or.inl rfl | exact Or.inr rfl)))
        (pss_cons (ps_if (pt_lend (pt_not (pt_val (pe_call G__law_stands hr rfl g__law_stands k__law_stands bn__law_stands .nil pass0 (pa_cons (pv 4) (pa_cons (pv 2) (pa_cons (pe_slice (k_sl (K := K) rfl) (pv 6) po_none (po_some (pe_op (k_add (K := K) rfl) (pv 7) pe_int))) (pa_cons (pv 9) (pa_cons (pv 10) pa_nil)))))))))
          (pss_one (ps_ret pe_bl))
          pss_nil)
        (pss_one (ps_if (pt_lend (pt_not (pt_val (pe_call G__law_stands hr rfl g__law_stands k__law_stands bn__law_stands .nil pass0 (pa_cons (pv 5) (pa_cons (pv 2) (pa_cons (k_sl3 (K := K) rfl (pe_slice3 (pv 6) (po_some pe_int) (po_some (pe_op (k_add (K := K) rfl) (pv 7) pe_int)) (po_some pe_int))) (pa_cons (pv 9) (pa_cons (pv 10) pa_nil)))))))))
          (pss_one (ps_ret pe_bl))
          pss_nil)))))))))))))
      (pss_one (ps_ret pe_bl)))))))))))), ?_⟩
  clear hS0 hl0 hr hu wx G_Shelf__put k_Shelf__put bn_Shelf__put G__law_first g__law_first k__law_first bn__law_first G_Shelf__init g_Shelf__init k_Shelf__init bn_Shelf__init G__law_puts g__law_puts k__law_puts bn__law_puts G__law_cell_at g__law_cell_at k__law_cell_at bn__law_cell_at G__law_stream g__law_stream k__law_stream bn__law_stream G__law_key g__law_key k__law_key bn__law_key G__law_stands g__law_stands k__law_stands bn__law_stands b_dict b_len b_range
  have X_r_NO_MAKE := XX.r_NO_MAKE
  have X_R_Shelf := XX.R_Shelf
  have X_g_Shelf := XX.g_Shelf
  simp only [List.map_cons, List.map_nil, List.length_cons, List.length_nil, List.cons_append, List.nil_append, Nat.reduceAdd, Nat.reduceSub, List.replicate_succ, List.replicate_zero, N_law]
  ((with_reducible refine gos_sA ?_); (with_reducible refine gos_asg ?_); (with_reducible refine go_op ?_); walk_at "x1"; (with_reducible refine call__law_cell_at ?_); (with_reducible refine goa_cons ?_); walk_at "x5"; (with_reducible refine goa_cons ?_); (with_reducible refine go_int ?_); (with_reducible refine goa_nil ?_); walk_at "x6"; walk_at "x15"; walk_at "x2"; (focus skip); rotate_left)
  intro c0
  ((with_reducible refine go_int ?_); walk_at "x6"; walk_at "x8"; walk_at "x7"; (with_reducible refine gos_sA ?_); (with_reducible refine gos_asg ?_); walk_at "x1"; (with_reducible refine call__law_first ?_); (with_reducible refine goa_cons ?_); (with_reducible refine call__law_cell_at ?_); (with_reducible refine goa_cons ?_); walk_at "x5"; (with_reducible refine goa_cons ?_); (with_reducible refine go_int ?_); (with_reducible refine goa_nil ?_); walk_at "x6"; walk_at "x15"; walk_at "x2"; (focus skip); rotate_left)
  have hb0 : 0 ≤ c0 % 2147483647 := by omega
  have hb1 : c0 % 2147483647 < 2 ^ 31 := by omega
  generalize c0 % 2147483647 = b at *
  intro c1
  ((with_reducible refine goa_cons ?_); walk_at "x5"; (with_reducible refine goa_nil ?_); walk_at "x6"; walk_at "x15"; walk_at "x2"; walk_at "x2"; (focus skip); rotate_left)
  intro rows hr1 hr2 hr3
  refine gog_name (Nat.le_of_ble_eq_true rfl) ?_
  dsimp only [List.set]
  refine gos_frz 2 rfl ?_
  rw [imI_fz]
  dsimp only [List.set]
  ((with_reducible refine gos_sA ?_); (with_reducible refine gos_asg ?_); (with_reducible refine go_cb ?_); (with_reducible refine goa_cons ?_); walk_at "x5"; (with_reducible refine goa_nil ?_); walk_at "x1"; walk_at "x6"; (with_reducible refine oa_dictI ?_); walk_at "x7"; (with_reducible refine gos_sA ?_); (with_reducible refine gos_asg ?_); walk_at "x30"; (with_reducible refine call_Shelf__init ?_); (with_reducible refine goa_cons ?_); walk_at "x5"; (with_reducible refine goa_nil ?_); walk_at "x0"; walk_at "x2"; (focus skip); rotate_left)
  intro za
  refine ⟨shF_lf, ?_⟩
  (walk_at "x7"; (with_reducible refine gos_sA ?_); (with_reducible refine gos_asg ?_); walk_at "x30"; (with_reducible refine call_Shelf__init ?_); (with_reducible refine goa_cons ?_); walk_at "x5"; (with_reducible refine goa_nil ?_); walk_at "x0"; walk_at "x2"; (focus skip); rotate_left)
  intro zb
  refine ⟨shF_lf, ?_⟩
  (walk_at "x7"; (with_reducible refine gos_sD ?_); walk_at "x34"; (with_reducible refine gos_sA ?_); (with_reducible refine gos_asg ?_); (with_reducible refine go_int ?_); walk_at "x16"; (with_reducible refine go_int ?_); walk_at "x1"; walk_at "x17"; walk_at "x2"; (with_reducible refine gos_sA ?_); (with_reducible refine gos_asg ?_); walk_at "x1"; (with_reducible refine call__law_puts ?_); (with_reducible refine goa_cons ?_); (with_reducible refine go_sl ?_); walk_at "x5"; (with_reducible refine goo_some ?_); (with_reducible refine go_int ?_); walk_at "x0"; (with_reducible refine goo_some ?_); (with_reducible refine go_int ?_); walk_at "x0"; walk_at "x6"; walk_at "x35"; (with_reducible refine goa_cons ?_); walk_at "x5"; (with_reducible refine goa_nil ?_); walk_at "x6"; walk_at "x15"; (focus skip); rotate_left)
  refine ⟨by rw [List.length_drop, List.length_take]; omega, hb0, hb1, fun ps hpl hps hp3 => ?_⟩
  have hql := hps.len
  have hql2 : ((ps.map ptD).length : Int) ≤ 40 := by rw [List.length_map]; omega
  have h0 : Hld (initS rows) rows [] := Hld.ini hr1 (by omega)
  have h0i : Hld (initS rows) rows (odp ps (0 / 2)) := h0
  have hn0 : ((initS rows).map (·.1)).Nodup := initS_nd
  refine gog_name (Nat.le_of_ble_eq_true rfl) ?_
  dsimp only [List.set]
  refine gos_frz 6 rfl ?_
  rw [fz_fl]
  dsimp only [List.set]
  ((with_reducible refine gos_sIR ?_); (with_reducible refine gos_if ?_); walk_at "x36"; (with_reducible refine got_or ?_); (with_reducible refine got_not ?_); (with_reducible refine got_B ?_); walk_at "x1"; (with_reducible refine call__law_stands ?_); (with_reducible refine goa_cons ?_); walk_at "x5"; (with_reducible refine goa_cons ?_); walk_at "x5"; (with_reducible refine goa_cons ?_); (with_reducible refine go_lst ?_); (with_reducible refine goa_nil ?_); walk_at "x6"; walk_at "x2"; (with_reducible refine goa_cons ?_); (with_reducible refine go_int ?_); (with_reducible refine goa_cons ?_); (with_reducible refine go_int ?_); (with_reducible refine goa_nil ?_); walk_at "x6"; (focus skip); rotate_left)
  refine ⟨a_Shelf, initS rows, rows, [], 0, 2, rfl, XX.g_Shelf, PsOk.nil, hr1, hr2, hr3, hn0, h0, by decide, ?_⟩
  (walk_at "x0"; walk_at "x13"; (with_reducible refine got_not ?_); (with_reducible refine got_B ?_); (with_reducible refine call__law_stands ?_); (with_reducible refine goa_cons ?_); walk_at "x5"; (with_reducible refine goa_cons ?_); walk_at "x5"; (with_reducible refine goa_cons ?_); (with_reducible refine go_lst ?_); (with_reducible refine goa_nil ?_); walk_at "x6"; walk_at "x2"; (with_reducible refine goa_cons ?_); (with_reducible refine go_int ?_); (with_reducible refine goa_cons ?_); (with_reducible refine go_int ?_); (with_reducible refine goa_nil ?_); walk_at "x6"; (focus skip); rotate_left)
  refine ⟨a_Shelf, initS rows, rows, [], 1, 2, rfl, XX.g_Shelf, PsOk.nil, hr1, hr2, hr3, hn0, h0, by decide, ?_⟩
  (walk_at "x0"; walk_at "x13"; (with_reducible refine gos_next ?_); (with_reducible refine gos_sF ?_); (with_reducible refine gos_for ?_); (with_reducible refine goi_rng1 ?_); (with_reducible refine goa_cons ?_); (with_reducible refine go_cb ?_); (with_reducible refine goa_cons ?_); walk_at "x5"; (with_reducible refine goa_nil ?_); walk_at "x22"; (with_reducible refine goa_nil ?_); walk_at "x0"; walk_at "x1"; walk_at "x2"; walk_at "x2"; (focus skip); rotate_left)
  refine ⟨fun i Γ' => ∃ (l m : Shl) (a3 a7 a8 a9 a10 a11 a12 a13 : Option O), Hld l rows (ps.take i) ∧ (l.map (·.1)).Nodup ∧ Hld m rows (odp ps (i / 2)) ∧ (m.map (·.1)).Nodup ∧ Γ' = [some (O.d (.sq (ns.map D.int))), some (O.d (.int b)), some (O.d (.dic (imK D.int rows))), a3, some (.oi za a_Shelf (shF l)), some (.oi zb a_Shelf (shF m)), some (O.d (.lst (ps.map ptD))), a7, a8, a9, a10, a11, a12, a13], ?_, ?_, ?_⟩
  · exact ⟨initS rows, initS rows, _, _, _, _, _, _, _, _, h0, hn0, h0i, hn0, rfl⟩
  · rintro i d _ hd ⟨l, m, a3, a7, a8, a9, a10, a11, a12, a13, hh, hn, hm, hmn, rfl⟩
    obtain ⟨hi, rfl⟩ := rngD_get hd
    have hil : i < ps.length := by simpa using hi
    obtain ⟨p, hp⟩ : ∃ p, ps[i]? = some p := ⟨_, List.getElem?_eq_getElem hil⟩
    have hpm := List.mem_of_getElem? hp
    have hat : atI (ps.map ptD) (i : Int) = some (ptD p) := atI_ofN.trans (by rw [List.getElem?_map, hp]; rfl)
    rw [show (0 : Int) + (i : Int) = (i : Int) by omega]
    have hln := hh.ln
    have hmln := hm.ln
    have hpl := hps.ln p hpm
    have hti : (ps.take i).length = i := by rw [List.length_take]; omega
    have hod : (odp ps (i / 2)).length ≤ 40 := by have h1 := (odp_sub (ps := ps) (i / 2)).length_le; rw [List.length_take] at h1; omega
    have hchl : ∀ k, (chn l k).length + p.dr.length < 100000 := fun k => by
      rw [hh.ch]
      have := mks_len (rows := rows) (ps := ps.take i) (k := k)
      omega
    have hchm : ∀ k, (chn m k).length + p.dr.length < 100000 := fun k => by
      rw [hm.ch]
      have := mks_len (rows := rows) (ps := odp ps (i / 2)) (k := k)
      omega
    have hh2 : Hld (putS l p.s p.d p.dr) rows (ps.take (i + 1)) := by
      rw [List.take_add_one, hp]
      exact hh.put (hps.nd p hpm) hpl
    have hn2 : ((putS l p.s p.d p.dr).map (·.1)).Nodup := putS_nd hn
    have hqt := hps.take (i + 1)
    (walk_at "x7"; (with_reducible refine gos_sA ?_); (with_reducible refine gos_asg ?_); (with_reducible refine go_op ?_); walk_at "x5"; walk_at "x5"; walk_at "x1"; walk_at "x6"; walk_at "x24"; (with_reducible refine gog_tup ?_); walk_at "x0"; walk_at "x2"; walk_at "x3"; walk_at "x3"; walk_at "x3"; (with_reducible refine gogs_nil ?_); (with_reducible refine gos_sA ?_); (with_reducible refine gos_asg ?_); (with_reducible refine go_cb ?_); (with_reducible refine goa_cons ?_); walk_at "x5"; (with_reducible refine goa_nil ?_); walk_at "x1"; walk_at "x6"; (with_reducible refine oa_dictI ?_); walk_at "x7"; (with_reducible refine gos_sD ?_); (with_reducible refine gos_drop ?_); walk_at "x1"; walk_at "x37"; (with_reducible refine goa_cons ?_); walk_at "x5"; (with_reducible refine goa_cons ?_); walk_at "x5"; (with_reducible refine goa_cons ?_); walk_at "x5"; (with_reducible refine goa_nil ?_); walk_at "x6"; (focus skip); rotate_left)
    refine ⟨l, p.s, p.d, p.dr, rfl, rfl, by omega, hchl, rfl, shF_lf, ?_⟩
    have hodd : odp ps ((i + 1) / 2) = if i % 2 = 1 then odp ps (i / 2) ++ [p] else odp ps (i / 2) := by
      split
      · rename_i h
        rw [show (i + 1) / 2 = i / 2 + 1 by omega, odp_succ, show 1 + 2 * (i / 2) = i by omega, hp]; rfl
      · rename_i h
        rw [show (i + 1) / 2 = i / 2 by omega]
    refine gos_cut (fun Γ' => ∃ m' : Shl, Hld m' rows (odp ps ((i + 1) / 2)) ∧ (m'.map (·.1)).Nodup ∧ Γ' = [some (O.d (.sq (ns.map D.int))), some (O.d (.int b)), some (O.d (.dic (imK D.int rows))), some (.od (imO (fun x => O.d (oiD x)) p.dr)), some (.oi za a_Shelf (shF (putS l p.s p.d p.dr))), some (.oi zb a_Shelf (shF m')), some (O.d (.lst (ps.map ptD))), some (O.d (.int (i : Int))), a8, a9, a10, some (O.d (.int p.s)), some (O.d (.int p.d)), some (O.d (.dic (imK oiD p.dr)))]) ?_ ?_
    · ((with_reducible refine gos_if ?_); (with_reducible refine got_test ?_); (with_reducible refine go_op ?_); (with_reducible refine go_op ?_); walk_at "x5"; (with_reducible refine go_int ?_); walk_at "x1"; walk_at "x6"; walk_at "x8"; (with_reducible refine go_int ?_); walk_at "x6"; (with_reducible refine o2_eqI ?_); walk_at "x0"; walk_at "x13"; (with_reducible refine gos_drop ?_); walk_at "x1"; walk_at "x37"; (with_reducible refine goa_cons ?_); walk_at "x5"; (with_reducible refine goa_cons ?_); walk_at "x5"; (with_reducible refine goa_cons ?_); walk_at "x5"; (with_reducible refine goa_nil ?_); walk_at "x6"; (focus skip); rotate_left; (with_reducible refine gos_next ?_); walk_at "x1"; (focus skip); rotate_left)
      · rename_i hc
        refine ⟨m, p.s, p.d, p.dr, rfl, rfl, by omega, hchm, rfl, shF_lf, ?_⟩
        refine ⟨_, ?_, putS_nd hmn, rfl⟩
        rw [hodd, if_pos (by omega)]
        exact hm.put (hps.nd p hpm) hpl
      · rename_i hc
        refine ⟨_, ?_, hmn, rfl⟩
        rw [hodd, if_neg (by omega)]
        exact hm
    rintro _ ⟨m', hm', hmn', rfl⟩
    have hlo := hps.lo
    have hqe := hps.sub ((odp_sub (ps := ps) ((i + 1) / 2)).trans (List.take_sublist _ _))
    ((with_reducible refine gos_sD ?_); walk_at "x34"; (with_reducible refine gos_sA ?_); (with_reducible refine gos_asg ?_); (with_reducible refine go_int ?_); walk_at "x16"; (with_reducible refine go_op ?_); walk_at "x5"; (with_reducible refine go_int ?_); walk_at "x1"; walk_at "x6"; (with_reducible refine o2_sub ?_); walk_at "x1"; walk_at "x17"; walk_at "x2"; (with_reducible refine gos_sA ?_); (with_reducible refine gos_asg ?_); walk_at "x1"; (with_reducible refine call__law_stream ?_); (with_reducible refine goa_cons ?_); (with_reducible refine go_op ?_); (with_reducible refine go_op ?_); (with_reducible refine call__law_cell_at ?_); (with_reducible refine goa_cons ?_); walk_at "x5"; (with_reducible refine goa_cons ?_); (with_reducible refine go_op ?_); (with_reducible refine go_int ?_); walk_at "x5"; walk_at "x6"; (with_reducible refine o2_add ?_); (with_reducible refine goa_nil ?_); walk_at "x6"; walk_at "x15"; walk_at "x2"; (focus skip); rotate_left)
    intro c3
    ((with_reducible refine go_int ?_); walk_at "x6"; walk_at "x14"; walk_at "x5"; walk_at "x6"; (with_reducible refine o2_add ?_); (with_reducible refine goa_cons ?_); (with_reducible refine go_int ?_); (with_reducible refine goa_nil ?_); walk_at "x6"; walk_at "x15"; walk_at "x2"; walk_at "x2"; (focus skip); rotate_left)
    intro xs hxl hx
    have hx0 : ∀ y ∈ xs.map D.int, ∃ x : Int, y = .int x ∧ 0 ≤ x ∧ x < 2147483647 := fun y hy => by
      obtain ⟨x, h, rfl⟩ := List.mem_map.mp hy
      exact ⟨x, rfl, hx x h⟩
    (walk_at "x7"; (with_reducible refine gos_sA ?_); (with_reducible refine gos_asg ?_); (with_reducible refine go_op ?_); (with_reducible refine go_op ?_); (with_reducible refine go_op ?_); walk_at "x5"; (with_reducible refine go_op ?_); (with_reducible refine go_op ?_); walk_at "x5"; (with_reducible refine go_int ?_); walk_at "x1"; walk_at "x6"; (focus skip); rotate_left)
    refine o2_ixr rfl (by decide) (by simp only [List.length_map]; omega) fun y hy => ?_
    obtain ⟨x0, rfl, hx1, hx2⟩ := hx0 y hy
    ((with_reducible refine go_op ?_); walk_at "x5"; (with_reducible refine go_int ?_); walk_at "x6"; (with_reducible refine o2_add ?_); walk_at "x6"; walk_at "x8"; walk_at "x6"; (focus skip); rotate_left)
    have hz0 := Int.emod_nonneg x0 (show ((i : Int) + 1) ≠ 0 by omega)
    have hz1 := Int.emod_lt_of_pos x0 (show 0 < ((i : Int) + 1) by omega)
    refine o2_ixr rfl hz0 (by rw [List.length_map]; omega) fun y hy => ?_
    obtain ⟨q, hq, rfl⟩ := List.mem_map.mp hy
    have hqs := hlo q hq
    ((with_reducible refine go_int ?_); walk_at "x6"; walk_at "x24"; (with_reducible refine go_op ?_); (with_reducible refine go_op ?_); (with_reducible refine go_op ?_); walk_at "x5"; (with_reducible refine go_int ?_); walk_at "x6"; (focus skip); rotate_left)
    refine o2_ixr rfl (by decide) (by simp only [List.length_map]; omega) fun y hy => ?_
    obtain ⟨x1, rfl, hx3, hx4⟩ := hx0 y hy
    ((with_reducible refine go_int ?_); walk_at "x6"; walk_at "x14"; (with_reducible refine go_int ?_); walk_at "x6"; walk_at "x8"; walk_at "x6"; (with_reducible refine o2_sub ?_); walk_at "x7"; (with_reducible refine gos_sA ?_); (with_reducible refine gos_asg ?_); walk_at "x1"; (with_reducible refine call__law_key ?_); (with_reducible refine goa_cons ?_); (with_reducible refine go_op ?_); walk_at "x5"; (with_reducible refine go_int ?_); walk_at "x6"; (focus skip); rotate_left)
    refine o2_ixr rfl (by decide) (by simp only [List.length_map]; omega) fun y hy => ?_
    obtain ⟨x2, rfl, hx5, hx6⟩ := hx0 y hy
    ((with_reducible refine goa_cons ?_); walk_at "x5"; (with_reducible refine goa_nil ?_); walk_at "x6"; walk_at "x15"; walk_at "x2"; walk_at "x2"; walk_at "x2"; walk_at "x2"; (focus skip); rotate_left)
    intro key hkey
    have hfar : 0 ≤ q.s - x1 / 64 % 2 := by omega
    generalize q.s - x1 / 64 % 2 = far at *
    (walk_at "x7"; (with_reducible refine gos_sIR ?_); (with_reducible refine gos_if ?_); walk_at "x36"; (with_reducible refine got_not ?_); (with_reducible refine got_B ?_); (with_reducible refine call__law_stands ?_); (with_reducible refine goa_cons ?_); walk_at "x5"; (with_reducible refine goa_cons ?_); walk_at "x5"; (with_reducible refine goa_cons ?_); (with_reducible refine go_sl ?_); walk_at "x5"; (with_reducible refine goo_none ?_); (with_reducible refine goo_some ?_); (with_reducible refine go_op ?_); walk_at "x5"; (with_reducible refine go_int ?_); walk_at "x6"; (with_reducible refine o2_add ?_); walk_at "x0"; walk_at "x35"; (with_reducible refine goa_cons ?_); walk_at "x5"; (with_reducible refine goa_cons ?_); walk_at "x5"; (with_reducible refine goa_nil ?_); walk_at "x6"; walk_at "x38"; walk_at "x2"; (focus skip); rotate_left)
    rw [show SK.cutD ps none (some ((i : Int) + 1)) = ps.take (i + 1) from cutD_takeI (by omega)]
    refine ⟨hqt, hr1, hr2, hr3, hn2, hh2, hfar, ?_⟩
    (walk_at "x0"; walk_at "x13"; (with_reducible refine gos_next ?_); (with_reducible refine gos_if ?_); walk_at "x36"; (with_reducible refine got_not ?_); (with_reducible refine got_B ?_); (with_reducible refine call__law_stands ?_); (with_reducible refine goa_cons ?_); walk_at "x5"; (with_reducible refine goa_cons ?_); walk_at "x5"; (with_reducible refine goa_cons ?_); (with_reducible refine go_sl3 ?_); walk_at "x5"; (with_reducible refine goo_some ?_); (with_reducible refine go_int ?_); walk_at "x0"; (with_reducible refine goo_some ?_); (with_reducible refine go_op ?_); walk_at "x5"; (with_reducible refine go_int ?_); walk_at "x6"; (with_reducible refine o2_add ?_); walk_at "x0"; (with_reducible refine goo_some ?_); (with_reducible refine go_int ?_); walk_at "x0"; walk_at "x0"; (focus skip); rotate_left)
    have hsl : (pickG (ps.map ptD) (some 1) (some ((i : Int) + 1)) (some 2)).length ≤ (ps.map ptD).length := by
      rw [pickG_map, List.length_map, List.length_map, ev_od hil]
      have h1 := (odp_sub (ps := ps) ((i + 1) / 2)).length_le
      rw [List.length_take] at h1; omega
    refine ⟨by decide, hsl, ?_⟩
    rw [pickG_map, ev_od hil]
    ((with_reducible refine goa_cons ?_); walk_at "x5"; (with_reducible refine goa_cons ?_); walk_at "x5"; (with_reducible refine goa_nil ?_); walk_at "x6"; walk_at "x38"; walk_at "x2"; walk_at "x2"; walk_at "x2"; walk_at "x2"; walk_at "x2"; walk_at "x2"; walk_at "x2"; walk_at "x2"; walk_at "x0"; walk_at "x13"; (with_reducible refine gos_next ?_); walk_at "x1"; (focus skip); rotate_left)
    exact ⟨_, _, _, _, _, _, _, _, _, _, hh2, hn2, hm', hmn', rfl⟩
  · rintro _ ⟨l, m, a3, a7, a8, a9, a10, a11, a12, a13, hh, hn, hm, hmn, rfl⟩
    ((with_reducible refine gos_ret ?_); (with_reducible refine go_bl ?_); walk_at "x1")
    all_goals trace_state
end
theorem all_mk {P : Program} {w : World} {K : PySem.W.Frag} {h : Heap} {mg : Str → Option Value} {fa : Addr} (X : K.In h) (G : h.Ns mainGlobals mg) (hfa : mg "law" = some (.ref fa))
    {f0 : Addr} {oc0 kV0 dc0 pm0 cd0 ct0 : Value} {od0 an0 : Option Addr} {sl0 : Array (Option Value)}
    {f1 : Addr} {oc1 kV1 dc1 pm1 cd1 ct1 : Value} {od1 an1 : Option Addr} {sl1 : Array (Option Value)}
    {f2 : Addr} {oc2 kV2 dc2 pm2 cd2 ct2 : Value} {od2 an2 : Option Addr} {sl2 : Array (Option Value)}
    {f3 : Addr} {oc3 kV3 dc3 pm3 cd3 ct3 : Value} {od3 an3 : Option Addr} {sl3 : Array (Option Value)}
    {f4 : Addr} {oc4 kV4 dc4 pm4 cd4 ct4 : Value} {od4 an4 : Option Addr} {sl4 : Array (Option Value)}
    {f5 : Addr} {oc5 kV5 dc5 pm5 cd5 ct5 : Value} {od5 an5 : Option Addr} {sl5 : Array (Option Value)}
    {f6 : Addr} {oc6 kV6 dc6 pm6 cd6 ct6 : Value} {od6 an6 : Option Addr} {sl6 : Array (Option Value)}
    {f7 : Addr} {oc7 kV7 dc7 pm7 cd7 ct7 : Value} {od7 an7 : Option Addr} {sl7 : Array (Option Value)}
    {f8 : Addr} {oc8 kV8 dc8 pm8 cd8 ct8 : Value} {od8 an8 : Option Addr} {sl8 : Array (Option Value)}
    {f9 : Addr} {oc9 kV9 dc9 pm9 cd9 ct9 : Value} {od9 an9 : Option Addr} {sl9 : Array (Option Value)}
    {f10 : Addr} {oc10 kV10 dc10 pm10 cd10 ct10 : Value} {od10 an10 : Option Addr} {sl10 : Array (Option Value)}
    {f11 : Addr} {oc11 kV11 dc11 pm11 cd11 ct11 : Value} {od11 an11 : Option Addr} {sl11 : Array (Option Value)}
    {f12 : Addr} {oc12 kV12 dc12 pm12 cd12 ct12 : Value} {od12 an12 : Option Addr} {sl12 : Array (Option Value)}
    {f13 : Addr} {oc13 kV13 dc13 pm13 cd13 ct13 : Value} {od13 an13 : Option Addr} {sl13 : Array (Option Value)}
    {f14 : Addr} {oc14 kV14 dc14 pm14 cd14 ct14 : Value} {od14 an14 : Option Addr} {sl14 : Array (Option Value)}
    {f15 : Addr} {oc15 kV15 dc15 pm15 cd15 ct15 : Value} {od15 an15 : Option Addr} {sl15 : Array (Option Value)}
    {f16 : Addr} {oc16 kV16 dc16 pm16 cd16 ct16 : Value} {od16 an16 : Option Addr} {sl16 : Array (Option Value)}
    {f17 : Addr} {oc17 kV17 dc17 pm17 cd17 ct17 : Value} {od17 an17 : Option Addr} {sl17 : Array (Option Value)}
    {f18 : Addr} {oc18 kV18 dc18 pm18 cd18 ct18 : Value} {od18 an18 : Option Addr} {sl18 : Array (Option Value)}
    {f19 : Addr} {oc19 kV19 dc19 pm19 cd19 ct19 : Value} {od19 an19 : Option Addr} {sl19 : Array (Option Value)}
    {f20 : Addr} {oc20 kV20 dc20 pm20 cd20 ct20 : Value} {od20 an20 : Option Addr} {sl20 : Array (Option Value)}
    {f21 : Addr} {oc21 kV21 dc21 pm21 cd21 ct21 : Value} {od21 an21 : Option Addr} {sl21 : Array (Option Value)}
    {f22 : Addr} {oc22 kV22 dc22 pm22 cd22 ct22 : Value} {od22 an22 : Option Addr} {sl22 : Array (Option Value)}
    {a_NO_MAKE a_Shelf : Addr}
    {u_NO_MAKE_0 u_NO_MAKE_1 : Tok}
    {o_NO_MAKE : Nat}
    {s_NO_MAKE : Array (Option Value)}
    {d_NO_MAKE : Option Addr}
    (l0 : K.lookup f0 = some ⟨oc0, od0, .func (PySem.W.fnOf "put" "Shelf.put" (defArgs s_Shelf__put) (defBody s_Shelf__put) (defScope s_Shelf__put) .none kV0 dc0 pm0 an0 cd0 ct0), sl0⟩) (c0 : PySem.W.codeIn K cd0 "Shelf.put" = true) (k0 : PySem.W.keepIn K (.ref f0) = true) (i0 : PySem.W.findIn K (.ref a_Shelf) "put" = some (some (.ref f0))) (m0 : PySem.W.isFn K (.ref f0) = true)
    (a1 : PySem.W.nsIn K mainGlobals "_law_stream" = some (some (.ref f1))) (l1 : K.lookup f1 = some ⟨oc1, od1, .func (PySem.W.fnOf "_law_stream" "_law_stream" (defArgs s__law_stream) (defBody s__law_stream) (defScope s__law_stream) .none kV1 dc1 pm1 an1 cd1 ct1), sl1⟩) (c1 : PySem.W.codeIn K cd1 "_law_stream" = true) (k1 : PySem.W.keepIn K (.ref f1) = true)
    (a2 : PySem.W.nsIn K mainGlobals "_law_great" = some (some (.ref f2))) (l2 : K.lookup f2 = some ⟨oc2, od2, .func (PySem.W.fnOf "_law_great" "_law_great" (defArgs s__law_great) (defBody s__law_great) (defScope s__law_great) .none kV2 dc2 pm2 an2 cd2 ct2), sl2⟩) (c2 : PySem.W.codeIn K cd2 "_law_great" = true) (k2 : PySem.W.keepIn K (.ref f2) = true)
    (a3 : PySem.W.nsIn K mainGlobals "_law_value" = some (some (.ref f3))) (l3 : K.lookup f3 = some ⟨oc3, od3, .func (PySem.W.fnOf "_law_value" "_law_value" (defArgs s__law_value) (defBody s__law_value) (defScope s__law_value) .none kV3 dc3 pm3 an3 cd3 ct3), sl3⟩) (c3 : PySem.W.codeIn K cd3 "_law_value" = true) (k3 : PySem.W.keepIn K (.ref f3) = true)
    (a4 : PySem.W.nsIn K mainGlobals "_law_key" = some (some (.ref f4))) (l4 : K.lookup f4 = some ⟨oc4, od4, .func (PySem.W.fnOf "_law_key" "_law_key" (defArgs s__law_key) (defBody s__law_key) (defScope s__law_key) .none kV4 dc4 pm4 an4 cd4 ct4), sl4⟩) (c4 : PySem.W.codeIn K cd4 "_law_key" = true) (k4 : PySem.W.keepIn K (.ref f4) = true)
    (a5 : PySem.W.nsIn K mainGlobals "_law_first" = some (some (.ref f5))) (l5 : K.lookup f5 = some ⟨oc5, od5, .func (PySem.W.fnOf "_law_first" "_law_first" (defArgs s__law_first) (defBody s__law_first) (defScope s__law_first) .none kV5 dc5 pm5 an5 cd5 ct5), sl5⟩) (c5 : PySem.W.codeIn K cd5 "_law_first" = true) (k5 : PySem.W.keepIn K (.ref f5) = true)
    (l6 : K.lookup f6 = some ⟨oc6, od6, .func (PySem.W.fnOf "__init__" "Shelf.__init__" (defArgs s_Shelf__init) (defBody s_Shelf__init) (defScope s_Shelf__init) .none kV6 dc6 pm6 an6 cd6 ct6), sl6⟩) (c6 : PySem.W.codeIn K cd6 "Shelf.__init__" = true) (k6 : PySem.W.keepIn K (.ref f6) = true) (i6 : PySem.W.findIn K (.ref a_Shelf) "__init__" = some (some (.ref f6))) (m6 : PySem.W.isFn K (.ref f6) = true)
    (a7 : PySem.W.nsIn K mainGlobals "_law_draft" = some (some (.ref f7))) (l7 : K.lookup f7 = some ⟨oc7, od7, .func (PySem.W.fnOf "_law_draft" "_law_draft" (defArgs s__law_draft) (defBody s__law_draft) (defScope s__law_draft) .none kV7 dc7 pm7 an7 cd7 ct7), sl7⟩) (c7 : PySem.W.codeIn K cd7 "_law_draft" = true) (k7 : PySem.W.keepIn K (.ref f7) = true)
    (a8 : PySem.W.nsIn K mainGlobals "_law_puts" = some (some (.ref f8))) (l8 : K.lookup f8 = some ⟨oc8, od8, .func (PySem.W.fnOf "_law_puts" "_law_puts" (defArgs s__law_puts) (defBody s__law_puts) (defScope s__law_puts) .none kV8 dc8 pm8 an8 cd8 ct8), sl8⟩) (c8 : PySem.W.codeIn K cd8 "_law_puts" = true) (k8 : PySem.W.keepIn K (.ref f8) = true)
    (a9 : PySem.W.nsIn K mainGlobals "_law_cell_at" = some (some (.ref f9))) (l9 : K.lookup f9 = some ⟨oc9, od9, .func (PySem.W.fnOf "_law_cell_at" "_law_cell_at" (defArgs s__law_cell_at) (defBody s__law_cell_at) (defScope s__law_cell_at) .none kV9 dc9 pm9 an9 cd9 ct9), sl9⟩) (c9 : PySem.W.codeIn K cd9 "_law_cell_at" = true) (k9 : PySem.W.keepIn K (.ref f9) = true)
    (l10 : K.lookup f10 = some ⟨oc10, od10, .func (PySem.W.fnOf "makers" "Shelf.makers" (defArgs s_Shelf__makers) (defBody s_Shelf__makers) (defScope s_Shelf__makers) .none kV10 dc10 pm10 an10 cd10 ct10), sl10⟩) (c10 : PySem.W.codeIn K cd10 "Shelf.makers" = true) (k10 : PySem.W.keepIn K (.ref f10) = true) (i10 : PySem.W.findIn K (.ref a_Shelf) "makers" = some (some (.ref f10))) (m10 : PySem.W.isFn K (.ref f10) = true)
    (a11 : PySem.W.nsIn K mainGlobals "inside" = some (some (.ref f11))) (l11 : K.lookup f11 = some ⟨oc11, od11, .func (PySem.W.fnOf "inside" "inside" (defArgs s_inside) (defBody s_inside) (defScope s_inside) .none kV11 dc11 pm11 an11 cd11 ct11), sl11⟩) (c11 : PySem.W.codeIn K cd11 "inside" = true) (k11 : PySem.W.keepIn K (.ref f11) = true)
    (l12 : K.lookup f12 = some ⟨oc12, od12, .func (PySem.W.fnOf "touched" "Shelf.touched" (defArgs s_Shelf__touched) (defBody s_Shelf__touched) (defScope s_Shelf__touched) .none kV12 dc12 pm12 an12 cd12 ct12), sl12⟩) (c12 : PySem.W.codeIn K cd12 "Shelf.touched" = true) (k12 : PySem.W.keepIn K (.ref f12) = true) (i12 : PySem.W.findIn K (.ref a_Shelf) "touched" = some (some (.ref f12))) (m12 : PySem.W.isFn K (.ref f12) = true)
    (l13 : K.lookup f13 = some ⟨oc13, od13, .func (PySem.W.fnOf "make" "Shelf.make" (defArgs s_Shelf__make) (defBody s_Shelf__make) (defScope s_Shelf__make) .none kV13 dc13 pm13 an13 cd13 ct13), sl13⟩) (c13 : PySem.W.codeIn K cd13 "Shelf.make" = true) (k13 : PySem.W.keepIn K (.ref f13) = true) (i13 : PySem.W.findIn K (.ref a_Shelf) "make" = some (some (.ref f13))) (m13 : PySem.W.isFn K (.ref f13) = true)
    (a14 : PySem.W.nsIn K mainGlobals "rows_of" = some (some (.ref f14))) (l14 : K.lookup f14 = some ⟨oc14, od14, .func (PySem.W.fnOf "rows_of" "rows_of" (defArgs s_rows_of) (defBody s_rows_of) (defScope s_rows_of) .none kV14 dc14 pm14 an14 cd14 ct14), sl14⟩) (c14 : PySem.W.codeIn K cd14 "rows_of" = true) (k14 : PySem.W.keepIn K (.ref f14) = true)
    (l15 : K.lookup f15 = some ⟨oc15, od15, .func (PySem.W.fnOf "there" "Shelf.there" (defArgs s_Shelf__there) (defBody s_Shelf__there) (defScope s_Shelf__there) .none kV15 dc15 pm15 an15 cd15 ct15), sl15⟩) (c15 : PySem.W.codeIn K cd15 "Shelf.there" = true) (k15 : PySem.W.keepIn K (.ref f15) = true) (i15 : PySem.W.findIn K (.ref a_Shelf) "there" = some (some (.ref f15))) (m15 : PySem.W.isFn K (.ref f15) = true)
    (l16 : K.lookup f16 = some ⟨oc16, od16, .func (PySem.W.fnOf "rows" "Shelf.rows" (defArgs s_Shelf__rows) (defBody s_Shelf__rows) (defScope s_Shelf__rows) .none kV16 dc16 pm16 an16 cd16 ct16), sl16⟩) (c16 : PySem.W.codeIn K cd16 "Shelf.rows" = true) (k16 : PySem.W.keepIn K (.ref f16) = true) (i16 : PySem.W.findIn K (.ref a_Shelf) "rows" = some (some (.ref f16))) (m16 : PySem.W.isFn K (.ref f16) = true)
    (a17 : PySem.W.nsIn K mainGlobals "_law_there" = some (some (.ref f17))) (l17 : K.lookup f17 = some ⟨oc17, od17, .func (PySem.W.fnOf "_law_there" "_law_there" (defArgs s__law_there) (defBody s__law_there) (defScope s__law_there) .none kV17 dc17 pm17 an17 cd17 ct17), sl17⟩) (c17 : PySem.W.codeIn K cd17 "_law_there" = true) (k17 : PySem.W.keepIn K (.ref f17) = true)
    (a18 : PySem.W.nsIn K mainGlobals "_law_spoiled" = some (some (.ref f18))) (l18 : K.lookup f18 = some ⟨oc18, od18, .func (PySem.W.fnOf "_law_spoiled" "_law_spoiled" (defArgs s__law_spoiled) (defBody s__law_spoiled) (defScope s__law_spoiled) .none kV18 dc18 pm18 an18 cd18 ct18), sl18⟩) (c18 : PySem.W.codeIn K cd18 "_law_spoiled" = true) (k18 : PySem.W.keepIn K (.ref f18) = true)
    (a19 : PySem.W.nsIn K mainGlobals "_law_touched" = some (some (.ref f19))) (l19 : K.lookup f19 = some ⟨oc19, od19, .func (PySem.W.fnOf "_law_touched" "_law_touched" (defArgs s__law_touched) (defBody s__law_touched) (defScope s__law_touched) .none kV19 dc19 pm19 an19 cd19 ct19), sl19⟩) (c19 : PySem.W.codeIn K cd19 "_law_touched" = true) (k19 : PySem.W.keepIn K (.ref f19) = true)
    (a20 : PySem.W.nsIn K mainGlobals "_law_makers" = some (some (.ref f20))) (l20 : K.lookup f20 = some ⟨oc20, od20, .func (PySem.W.fnOf "_law_makers" "_law_makers" (defArgs s__law_makers) (defBody s__law_makers) (defScope s__law_makers) .none kV20 dc20 pm20 an20 cd20 ct20), sl20⟩) (c20 : PySem.W.codeIn K cd20 "_law_makers" = true) (k20 : PySem.W.keepIn K (.ref f20) = true)
    (a21 : PySem.W.nsIn K mainGlobals "_law_stands" = some (some (.ref f21))) (l21 : K.lookup f21 = some ⟨oc21, od21, .func (PySem.W.fnOf "_law_stands" "_law_stands" (defArgs s__law_stands) (defBody s__law_stands) (defScope s__law_stands) .none kV21 dc21 pm21 an21 cd21 ct21), sl21⟩) (c21 : PySem.W.codeIn K cd21 "_law_stands" = true) (k21 : PySem.W.keepIn K (.ref f21) = true)
    (a22 : PySem.W.nsIn K mainGlobals "law" = some (some (.ref f22))) (l22 : K.lookup f22 = some ⟨oc22, od22, .func (PySem.W.fnOf "law" "law" (defArgs s_law) (defBody s_law) (defScope s_law) .none kV22 dc22 pm22 an22 cd22 ct22), sl22⟩) (c22 : PySem.W.codeIn K cd22 "law" = true) (k22 : PySem.W.keepIn K (.ref f22) = true)
    (z0 : PySem.W.nsIn K mainGlobals "range" = some none)
    (z1 : PySem.W.nsIn K mainGlobals "len" = some none)
    (z2 : PySem.W.nsIn K mainGlobals "sorted" = some none)
    (z3 : PySem.W.nsIn K mainGlobals "dict" = some none)
    (z4 : PySem.W.nsIn K mainGlobals "list" = some none)
    (z5 : PySem.W.nsIn K mainGlobals "set" = some none)
    (n_NO_MAKE : PySem.W.nsIn K mainGlobals "NO_MAKE" = some (some (.ref a_NO_MAKE)))
    (l_NO_MAKE : K.lookup a_NO_MAKE = some ⟨.type "tuple", d_NO_MAKE, .seq #[.int 0 u_NO_MAKE_0, .int 0 u_NO_MAKE_1, .none] o_NO_MAKE, s_NO_MAKE⟩)
    (n_Shelf : PySem.W.nsIn K mainGlobals "Shelf" = some (some (.ref a_Shelf)))
    (rp_Shelf : PySem.W.plainGet K a_Shelf Str.empty = true)
    (rd_Shelf : PySem.W.hasDictIn K a_Shelf = true)
    (ro_Shelf : PySem.W.plainOver K a_Shelf = true)
    (rs_Shelf : PySem.W.findIn K (.ref a_Shelf) "__setattr__" = some (some (.builtin "object.__setattr__")))
    (rm_Shelf : PySem.W.makesIn K a_Shelf = true)
    (rk_Shelf : PySem.W.keepIn K (.ref a_Shelf) = true)
    (rf0_Shelf : PySem.W.findIn K (.ref a_Shelf) "chains" = some none) :
    ∃ fd : FuncData, (∀ (s : Shared) (v : Value), BindsTo s fd ⟨[v], []⟩ [("_law_script", v)]) ∧ ∀ base : Heap, K.In base → base.Ns mainGlobals mg → FnOk P w K mg base CX0 5 fa fd ["_law_script"] (spP K lawC) := by
  have D0 : DfM K "put" "Shelf.put" s_Shelf__put f0 := dfm_mk (st := s_Shelf__put) l0 c0 k0
  have D1 : Df K mg "_law_stream" s__law_stream := df_mk X G (st := s__law_stream) a1 l1 c1 k1
  have D2 : Df K mg "_law_great" s__law_great := df_mk X G (st := s__law_great) a2 l2 c2 k2
  have D3 : Df K mg "_law_value" s__law_value := df_mk X G (st := s__law_value) a3 l3 c3 k3
  have D4 : Df K mg "_law_key" s__law_key := df_mk X G (st := s__law_key) a4 l4 c4 k4
  have D5 : Df K mg "_law_first" s__law_first := df_mk X G (st := s__law_first) a5 l5 c5 k5
  have D6 : DfM K "__init__" "Shelf.__init__" s_Shelf__init f6 := dfm_mk (st := s_Shelf__init) l6 c6 k6
  have D7 : Df K mg "_law_draft" s__law_draft := df_mk X G (st := s__law_draft) a7 l7 c7 k7
  have D8 : Df K mg "_law_puts" s__law_puts := df_mk X G (st := s__law_puts) a8 l8 c8 k8
  have D9 : Df K mg "_law_cell_at" s__law_cell_at := df_mk X G (st := s__law_cell_at) a9 l9 c9 k9
  have D10 : DfM K "makers" "Shelf.makers" s_Shelf__makers f10 := dfm_mk (st := s_Shelf__makers) l10 c10 k10
  have D11 : Df K mg "inside" s_inside := df_mk X G (st := s_inside) a11 l11 c11 k11
  have D12 : DfM K "touched" "Shelf.touched" s_Shelf__touched f12 := dfm_mk (st := s_Shelf__touched) l12 c12 k12
  have D13 : DfM K "make" "Shelf.make" s_Shelf__make f13 := dfm_mk (st := s_Shelf__make) l13 c13 k13
  have D14 : Df K mg "rows_of" s_rows_of := df_mk X G (st := s_rows_of) a14 l14 c14 k14
  have D15 : DfM K "there" "Shelf.there" s_Shelf__there f15 := dfm_mk (st := s_Shelf__there) l15 c15 k15
  have D16 : DfM K "rows" "Shelf.rows" s_Shelf__rows f16 := dfm_mk (st := s_Shelf__rows) l16 c16 k16
  have D17 : Df K mg "_law_there" s__law_there := df_mk X G (st := s__law_there) a17 l17 c17 k17
  have D18 : Df K mg "_law_spoiled" s__law_spoiled := df_mk X G (st := s__law_spoiled) a18 l18 c18 k18
  have D19 : Df K mg "_law_touched" s__law_touched := df_mk X G (st := s__law_touched) a19 l19 c19 k19
  have D20 : Df K mg "_law_makers" s__law_makers := df_mk X G (st := s__law_makers) a20 l20 c20 k20
  have D21 : Df K mg "_law_stands" s__law_stands := df_mk X G (st := s__law_stands) a21 l21 c21 k21
  have D22 : Df K mg "law" s_law := df_mk X G (st := s_law) a22 l22 c22 k22
  have XX : XF K mg a_NO_MAKE a_Shelf := ⟨(PySem.W.mg_of X G n_NO_MAKE), (fun B => R.tup (vs := [(.int 0), (.int 0), .non]) (Or.inr ⟨_, _, _, l_NO_MAKE, rfl, rfl, Nat.le_of_ble_eq_true rfl, (.cons ⟨_, rfl⟩ (.cons ⟨_, rfl⟩ (.cons rfl .nil)))⟩) (RL.cons .int (RL.cons .int (RL.cons .non RL.nil)))), ⟨⟨rp_Shelf, rd_Shelf, ro_Shelf, rs_Shelf⟩, fun f hf => by
      simp only [List.contains_eq_mem, List.mem_cons, List.not_mem_nil, or_false, decide_eq_true_eq] at hf
      rcases hf with rfl
      · exact rf0_Shelf⟩, (PySem.W.mg_of X G n_Shelf)⟩
  have y0 := PySem.W.mg_none_of X G z0
  have y1 := PySem.W.mg_none_of X G z1
  have y2 := PySem.W.mg_none_of X G z2
  have y3 := PySem.W.mg_none_of X G z3
  have y4 := PySem.W.mg_none_of X G z4
  have y5 := PySem.W.mg_none_of X G z5
  have e := hfa.symm.trans (PySem.W.mg_of X G a22)
  cases e
  refine ⟨PySem.W.fnOf "law" "law" (defArgs s_law) (defBody s_law) (defScope s_law) .none kV22 dc22 pm22 an22 cd22 ct22, fun s v => .of_eq rfl, fun base _ _ => ?_⟩
  have Q0 : CalMS P w K mg base a_Shelf "put" 1 ["self", "stamp", "dealing", "drafts"] (C_Shelf__put mg a_Shelf) := cal_Shelf__put D0 XX ⟨i0, m0, k0⟩  
  have Q1 : Cal P w K mg base "_law_stream" 1 ["_law_cell", "_law_many"] (C__law_stream mg) := cal__law_stream D1 XX  y0
  have Q2 : Cal P w K mg base "_law_great" 1 ["_law_number"] (C__law_great mg) := cal__law_great D2 XX  
  have Q3 : Cal P w K mg base "_law_value" 2 ["_law_number"] (C__law_value mg) := cal__law_value D3 XX Q2 
  have Q4 : Cal P w K mg base "_law_key" 2 ["_law_number", "_law_base"] (C__law_key mg) := cal__law_key D4 XX Q2 
  have Q5 : Cal P w K mg base "_law_first" 3 ["_law_cell", "_law_base"] (C__law_first mg) := cal__law_first D5 XX Q1 Q3 Q4 y0
  have Q6 : CalI P w K mg base "Shelf" a_Shelf 1 ["self", "rows"] (C_Shelf__init mg) := cal_Shelf__init D6 XX ⟨rm_Shelf, i6, m6, rk_Shelf⟩  
  have Q7 : Cal P w K mg base "_law_draft" 3 ["_law_number"] (C__law_draft mg) := cal__law_draft D7 XX Q3 
  have Q8 : Cal P w K mg base "_law_puts" 4 ["_law_cells", "_law_base"] (C__law_puts mg) := cal__law_puts D8 XX Q1 Q7 Q4 y0
  have Q9 : Cal P w K mg base "_law_cell_at" 1 ["_law_script", "_law_k"] (C__law_cell_at mg) := cal__law_cell_at D9 XX  y1
  have Q10 : CalM P w K mg base a_Shelf "makers" 1 ["self", "key"] (C_Shelf__makers mg a_Shelf) := cal_Shelf__makers D10 XX ⟨i10, m10, k10⟩  
  have Q11 : Cal P w K mg base "inside" 1 ["key", "low", "high"] (C_inside mg) := cal_inside D11 XX  
  have Q12 : CalM P w K mg base a_Shelf "touched" 2 ["self", "low", "high"] (C_Shelf__touched mg a_Shelf) := cal_Shelf__touched D12 XX ⟨i12, m12, k12⟩ Q10 Q11 y2
  have Q13 : CalM P w K mg base a_Shelf "make" 1 ["self", "key", "stamp"] (C_Shelf__make mg a_Shelf) := cal_Shelf__make D13 XX ⟨i13, m13, k13⟩  
  have Q14 : Cal P w K mg base "rows_of" 1 ["held"] (C_rows_of mg) := cal_rows_of D14 XX  y2
  have Q15 : CalM P w K mg base a_Shelf "there" 2 ["self", "stamp"] (C_Shelf__there mg a_Shelf) := cal_Shelf__there D15 XX ⟨i15, m15, k15⟩ Q13 Q14 
  have Q16 : CalM P w K mg base a_Shelf "rows" 2 ["self", "low", "high", "stamp"] (C_Shelf__rows mg a_Shelf) := cal_Shelf__rows D16 XX ⟨i16, m16, k16⟩ Q13 Q14 Q11 
  have Q17 : Cal P w K mg base "_law_there" 1 ["_law_first_here", "_law_puts_here", "_law_stamp"] (C__law_there mg) := cal__law_there D17 XX  y3 y2
  have Q18 : Cal P w K mg base "_law_spoiled" 3 ["_law_shelf", "_law_stamp", "_law_key_here"] (C__law_spoiled mg) := cal__law_spoiled D18 XX Q16 Q15 Q10 Q12 
  have Q19 : Cal P w K mg base "_law_touched" 1 ["_law_puts_here"] (C__law_touched mg) := cal__law_touched D19 XX  y4 y5 y2
  have Q20 : Cal P w K mg base "_law_makers" 1 ["_law_puts_here", "_law_key_here"] (C__law_makers mg) := cal__law_makers D20 XX  
  have Q21 : Cal P w K mg base "_law_stands" 4 ["_law_shelf", "_law_first_here", "_law_puts_here", "_law_stamp", "_law_key_here"] (C__law_stands mg) := cal__law_stands D21 XX Q12 Q15 Q16 Q10 Q17 Q18 Q19 Q20 
  have Q22 : Cal P w K mg base "law" 5 ["_law_script"] C_law := cal_law D22 XX Q0 Q5 Q6 Q8 Q9 Q1 Q4 Q21 y3 y1 y0
  obtain ⟨f, fd, G1, m1, _, _, _, _, _, lk⟩ := Q22
  have e2 := m1.symm.trans (PySem.W.mg_of X G a22)
  cases e2
  exact fn_same l22 lk G1
end Lw
open PySem PySem.W PyProof.Rows
set_option maxRecDepth 100000 in
set_option maxHeartbeats 0 in
theorem PySem.Challenge.cw_skewhouse_k16_the_askers_own_holds : PySem.Challenge.rw_skewhouse_k16_the_askers_own.Holds := by
  w_on; o_law; k_head; (case hw => w_witness2)
  k_fill
  refine SK.law_walk (l := PySem.Challenge.rw_skewhouse_k16_the_askers_own) (lv := 5) rfl rfl ⟨rfl, by decide, by decide⟩ (fun w h Y => PySem.W.kIn_of Y) ?F
  case F =>
    intro w mg fa h KX G hmg
    refine' Lw.all_mk KX G hmg ?l0 ?c0 ?k0 ?i0 ?m0 ?a1 ?l1 ?c1 ?k1 ?a2 ?l2 ?c2 ?k2 ?a3 ?l3 ?c3 ?k3 ?a4 ?l4 ?c4 ?k4 ?a5 ?l5 ?c5 ?k5 ?l6 ?c6 ?k6 ?i6 ?m6 ?a7 ?l7 ?c7 ?k7 ?a8 ?l8 ?c8 ?k8 ?a9 ?l9 ?c9 ?k9 ?l10 ?c10 ?k10 ?i10 ?m10 ?a11 ?l11 ?c11 ?k11 ?l12 ?c12 ?k12 ?i12 ?m12 ?l13 ?c13 ?k13 ?i13 ?m13 ?a14 ?l14 ?c14 ?k14 ?l15 ?c15 ?k15 ?i15 ?m15 ?l16 ?c16 ?k16 ?i16 ?m16 ?a17 ?l17 ?c17 ?k17 ?a18 ?l18 ?c18 ?k18 ?a19 ?l19 ?c19 ?k19 ?a20 ?l20 ?c20 ?k20 ?a21 ?l21 ?c21 ?k21 ?a22 ?l22 ?c22 ?k22 ?z0 ?z1 ?z2 ?z3 ?z4 ?z5 ?n_NO_MAKE ?l_NO_MAKE ?n_Shelf ?rp_Shelf ?rd_Shelf ?ro_Shelf ?rs_Shelf ?rm_Shelf ?rk_Shelf ?rf0_Shelf
    (case n_Shelf => k_is)
    (case i0 => k_is)
    (case i6 => k_is)
    (case i10 => k_is)
    (case i12 => k_is)
    (case i13 => k_is)
    (case i15 => k_is)
    (case i16 => k_is)
    (case l0 => k_is)
    (case c0 => k_is)
    (case k0 => k_is)
    (case m0 => k_is)
    (case a1 => k_is)
    (case l1 => k_is)
    (case c1 => k_is)
    (case k1 => k_is)
    (case a2 => k_is)
    (case l2 => k_is)
    (case c2 => k_is)
    (case k2 => k_is)
    (case a3 => k_is)
    (case l3 => k_is)
    (case c3 => k_is)
    (case k3 => k_is)
    (case a4 => k_is)
    (case l4 => k_is)
    (case c4 => k_is)
    (case k4 => k_is)
    (case a5 => k_is)
    (case l5 => k_is)
    (case c5 => k_is)
    (case k5 => k_is)
    (case l6 => k_is)
    (case c6 => k_is)
    (case k6 => k_is)
    (case m6 => k_is)
    (case a7 => k_is)
    (case l7 => k_is)
    (case c7 => k_is)
    (case k7 => k_is)
    (case a8 => k_is)
    (case l8 => k_is)
    (case c8 => k_is)
    (case k8 => k_is)
    (case a9 => k_is)
    (case l9 => k_is)
    (case c9 => k_is)
    (case k9 => k_is)
    (case l10 => k_is)
    (case c10 => k_is)
    (case k10 => k_is)
    (case m10 => k_is)
    (case a11 => k_is)
    (case l11 => k_is)
    (case c11 => k_is)
    (case k11 => k_is)
    (case l12 => k_is)
    (case c12 => k_is)
    (case k12 => k_is)
    (case m12 => k_is)
    (case l13 => k_is)
    (case c13 => k_is)
    (case k13 => k_is)
    (case m13 => k_is)
    (case a14 => k_is)
    (case l14 => k_is)
    (case c14 => k_is)
    (case k14 => k_is)
    (case l15 => k_is)
    (case c15 => k_is)
    (case k15 => k_is)
    (case m15 => k_is)
    (case l16 => k_is)
    (case c16 => k_is)
    (case k16 => k_is)
    (case m16 => k_is)
    (case a17 => k_is)
    (case l17 => k_is)
    (case c17 => k_is)
    (case k17 => k_is)
    (case a18 => k_is)
    (case l18 => k_is)
    (case c18 => k_is)
    (case k18 => k_is)
    (case a19 => k_is)
    (case l19 => k_is)
    (case c19 => k_is)
    (case k19 => k_is)
    (case a20 => k_is)
    (case l20 => k_is)
    (case c20 => k_is)
    (case k20 => k_is)
    (case a21 => k_is)
    (case l21 => k_is)
    (case c21 => k_is)
    (case k21 => k_is)
    (case a22 => k_is)
    (case l22 => k_is)
    (case c22 => k_is)
    (case k22 => k_is)
    (case z0 => k_is)
    (case z1 => k_is)
    (case z2 => k_is)
    (case z3 => k_is)
    (case z4 => k_is)
    (case z5 => k_is)
    (case n_NO_MAKE => k_is)
    (case l_NO_MAKE => k_is)
    (case rp_Shelf => k_is)
    (case rd_Shelf => k_is)
    (case ro_Shelf => k_is)
    (case rs_Shelf => k_is)
    (case rm_Shelf => k_is)
    (case rk_Shelf => k_is)
    (case rf0_Shelf => k_is)
