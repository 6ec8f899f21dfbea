import PyProof.Rows.All
import Wide.All
import OpenK.AllK
import Wide.FinOn
import HandS.ForMost
import HandS.ForExc
import HandS.ExcIs
import HandS.ExcField
import HandS.ExcInit
import HandS.TryMany
import HandS.TryElse
import HandS.SuiteRaise
import HandS.RaiseMore
import HandS.Wide
import HandS.DictComp
import HandS.IsInst
import HandS.EndBits
import KE.KExcIs
import KE.IntTextLaws
import HandS.Replace
import HandS.Zip
import HandS.SortKw
import KE.DataMinMax
import KE.KRevIter
import KE.KDictList
import HandS.Rev
import HandS.Iter
import HandS.SetKeys
import HandS.SortInts
import HandS.TupLe
import HandS.SetFor
import HandS.Strs
import KE.KUnpack
import HandS.TupSets
import KE.SortKeyHeap
import HandS.RevRange
import HandS.CallSlots
import HandS.Defaults
import PySem.Challenge.RW_skewhouse_k61_spots
set_option Elab.async false
set_option linter.all false
set_option maxRecDepth 100000
set_option maxHeartbeats 4000000
namespace SK
open PySem PySem.Spec PyProof.Rows L2
inductive D where
  | non | bl (b : Bool) | int (i : Int) | str (s : Str) | ref (a : Addr) | ty (n : String)
  | tup (xs : List D) | lst (xs : List D) | sq (xs : List D) | dic (kvs : List (Key × D)) | dit (kvs : List (List Key × D)) | ins (C : Addr) (fs : List (Str × D))
inductive O where
  | d (x : D) | ol (xs : List O) | od (kvs : List (Key × O)) | ot (kvs : List (List Key × O)) | oi (a C : Addr) (fs : List (Str × O)) | op (xs : List O) | atA (a : Addr) (o : O)
mutual
inductive R (K : PySem.W.Frag) (B : Hp) : V → D → Prop
  | non : R K B .non .non
  | bl {b} : R K B (.bl b) (.bl b)
  | int {i} : R K B (.int i) (.int i)
  | str {s} : R K B (.str s) (.str s)
  | ref {a} : R K B (.ref a) (.ref a)
  | ty {n} : R K B (.ty n) (.ty n)
  | tup {a vs xs} : SqT K B a vs → RL K B vs xs → R K B (.ref a) (.tup xs)
  | lst {a vs xs} : B a = some (.lst vs) → RL K B vs xs → R K B (.ref a) (.lst xs)
  | sq {a vs xs} : SqL K B a vs → RL K B vs xs → R K B (.ref a) (.sq xs)
  | dic {a ws kvs} : Rd B a (.dK ws) → (kvs.map (·.1)).Nodup → RK K B ws kvs → R K B (.ref a) (.dic kvs)
  | dit {a ws kvs} : Rd B a (.dT ws) → (kvs.map (·.1)).Nodup → RT K B ws kvs → R K B (.ref a) (.dit kvs)
  | ins {a C dx ws fs} : B a = some (.ins C dx ws) → RF K B ws fs → R K B (.ref a) (.ins C fs)
inductive RL (K : PySem.W.Frag) (B : Hp) : List V → List D → Prop
  | nil : RL K B [] []
  | cons {v x vs xs} : R K B v x → RL K B vs xs → RL K B (v :: vs) (x :: xs)
inductive RK (K : PySem.W.Frag) (B : Hp) : List (Key × V) → List (Key × D) → Prop
  | nil : RK K B [] []
  | cons {k v x vs xs} : R K B v x → RK K B vs xs → RK K B ((k, v) :: vs) ((k, x) :: xs)
inductive RT (K : PySem.W.Frag) (B : Hp) : List (List Key × V) → List (List Key × D) → Prop
  | nil : RT K B [] []
  | cons {k v x vs xs} : R K B v x → RT K B vs xs → RT K B ((k, v) :: vs) ((k, x) :: xs)
inductive RF (K : PySem.W.Frag) (B : Hp) : List (Str × V) → List (Str × D) → Prop
  | nil : RF K B [] []
  | cons {k v x vs xs} : R K B v x → RF K B vs xs → RF K B ((k, v) :: vs) ((k, x) :: xs)
end
/-- what pure data lean on stays -/
structure BLe (B B' : Hp) : Prop where
  tup : ∀ a xs, Rd B a (.tup xs) → Rd B' a (.tup xs)
  lst : ∀ a xs, Rd B a (.lst xs) → Rd B' a (.lst xs)
  ls : ∀ a xs, B a = some (.lst xs) → B' a = some (.lst xs)
  dK : ∀ a xs, Rd B a (.dK xs) → Rd B' a (.dK xs)
  dT : ∀ a xs, Rd B a (.dT xs) → Rd B' a (.dT xs)
  ins : ∀ a C dx fs, B a = some (.ins C dx fs) → B' a = some (.ins C dx fs)
def Ex (H H' : Hp) : Prop := ∀ a o, H a = some o → H' a = some o
theorem Ex.refl (H : Hp) : Ex H H := fun _ _ h => h
theorem Ex.trans {H H1 H2 : Hp} (a : Ex H H1) (b : Ex H1 H2) : Ex H H2 := fun x o h => b x o (a x o h)
theorem Ex.rd {H H' : Hp} (e : Ex H H') {a : Addr} {u : HO} (h : Rd H a u) : Rd H' a u := by
  rcases h with h | ⟨o, h⟩
  · exact .inl (e _ _ h)
  · exact .inr ⟨o, e _ _ h⟩
theorem Ex.back {H H' : Hp} (e : Ex H H') {a : Addr} (h : H' a = none) : H a = none := by
  cases q : H a with
  | none => rfl
  | some o => rw [e a o q] at h; cases h
theorem Ex.new {H : Hp} {p : Addr} {o : HO} (h : H p = none) : Ex H (upd H p o) := fun a u e => by
  rw [upd_ne (ne_of_none e h)]; exact e
theorem BLe.of_ex {B B' : Hp} (e : Ex B B') : BLe B B' := ⟨fun _ _ h => e.rd h, fun _ _ h => e.rd h, fun _ _ h => e _ _ h, fun _ _ h => e.rd h, fun _ _ h => e.rd h, fun _ _ _ _ h => e _ _ h⟩
theorem BLe.refl (B : Hp) : BLe B B := .of_ex (.refl B)
theorem BLe.trans {B B1 B2 : Hp} (a : BLe B B1) (b : BLe B1 B2) : BLe B B2 :=
  ⟨fun _ _ h => b.tup _ _ (a.tup _ _ h), fun _ _ h => b.lst _ _ (a.lst _ _ h), fun _ _ h => b.ls _ _ (a.ls _ _ h), fun _ _ h => b.dK _ _ (a.dK _ _ h), fun _ _ h => b.dT _ _ (a.dT _ _ h), fun _ _ _ _ h => b.ins _ _ _ _ (a.ins _ _ _ _ h)⟩
theorem BLe.sqT {K : PySem.W.Frag} {B B' : Hp} (e : BLe B B') {a : Addr} {xs : List V} (h : SqT K B a xs) : SqT K B' a xs := h.imp (e.tup _ _) id
theorem BLe.sqL {K : PySem.W.Frag} {B B' : Hp} (e : BLe B B') {a : Addr} {xs : List V} (h : SqL K B a xs) : SqL K B' a xs := h.imp (e.lst _ _) id
section
variable {K : PySem.W.Frag} {B B' : Hp}
mutual
theorem R.mono (e : BLe B B') : ∀ {v : V} {x : D}, R K B v x → R K B' v x
  | _, _, .non => .non
  | _, _, .bl => .bl
  | _, _, .int => .int
  | _, _, .str => .str
  | _, _, .ref => .ref
  | _, _, .ty => .ty
  | _, _, .tup h r => .tup (e.sqT h) (RL.mono e r)
  | _, _, .lst h r => .lst (e.ls _ _ h) (RL.mono e r)
  | _, _, .sq h r => .sq (e.sqL h) (RL.mono e r)
  | _, _, .dic h n r => .dic (e.dK _ _ h) n (RK.mono e r)
  | _, _, .dit h n r => .dit (e.dT _ _ h) n (RT.mono e r)
  | _, _, .ins h r => .ins (e.ins _ _ _ _ h) (RF.mono e r)
theorem RL.mono (e : BLe B B') : ∀ {v : List V} {x : List D}, RL K B v x → RL K B' v x
  | _, _, .nil => .nil
  | _, _, .cons h r => .cons (R.mono e h) (RL.mono e r)
theorem RK.mono (e : BLe B B') : ∀ {v : List (Key × V)} {x : List (Key × D)}, RK K B v x → RK K B' v x
  | _, _, .nil => .nil
  | _, _, .cons h r => .cons (R.mono e h) (RK.mono e r)
theorem RT.mono (e : BLe B B') : ∀ {v : List (List Key × V)} {x : List (List Key × D)}, RT K B v x → RT K B' v x
  | _, _, .nil => .nil
  | _, _, .cons h r => .cons (R.mono e h) (RT.mono e r)
theorem RF.mono (e : BLe B B') : ∀ {v : List (Str × V)} {x : List (Str × D)}, RF K B v x → RF K B' v x
  | _, _, .nil => .nil
  | _, _, .cons h r => .cons (R.mono e h) (RF.mono e r)
end
end
end SK
namespace SK
open PySem PySem.Spec PyProof.Rows L2
abbrev Ad := Addr → Prop
mutual
inductive RO (K : PySem.W.Frag) (B H : Hp) : Ad → V → O → Prop
  | d {S : Ad} {v x} : R K B v x → RO K B H S v (.d x)
  | ol {S S' : Ad} {a vs xs} : S a → (∀ b, S' b → S b) → ¬ S' a → H a = some (.lst vs) → RS K B H S' (vs.map some) (xs.map some) → RO K B H S (.ref a) (.ol xs)
  | od {S S' : Ad} {a ws kvs} : S a → (∀ b, S' b → S b) → ¬ S' a → H a = some (.dK ws) → (kvs.map (·.1)).Nodup → ws.map (·.1) = kvs.map (·.1) → RS K B H S' (ws.map fun p => some p.2) (kvs.map fun p => some p.2) → RO K B H S (.ref a) (.od kvs)
  | ot {S S' : Ad} {a ws kvs} : S a → (∀ b, S' b → S b) → ¬ S' a → H a = some (.dT ws) → (kvs.map (·.1)).Nodup → ws.map (·.1) = kvs.map (·.1) → RS K B H S' (ws.map fun p => some p.2) (kvs.map fun p => some p.2) → RO K B H S (.ref a) (.ot kvs)
  | oi {S S' : Ad} {a dx C ws kvs} : S a → S dx → (∀ b, S' b → S b) → ¬ S' a → ¬ S' dx → a ≠ dx → H a = some (.ins C dx ws) → H dx = some (.own a) → ws.map (·.1) = kvs.map (·.1) → RS K B H S' (ws.map fun p => some p.2) (kvs.map fun p => some p.2) → RO K B H S (.ref a) (.oi a C kvs)
  | op {S : Ad} {a vs xs} : SqT K B a vs → RS K B H S (vs.map some) (xs.map some) → RO K B H S (.ref a) (.op xs)
  | atA {S : Ad} {a o} : RO K B H S (.ref a) o → RO K B H S (.ref a) (.atA a o)
inductive RS (K : PySem.W.Frag) (B H : Hp) : Ad → List (Option V) → List (Option O) → Prop
  | nil {S : Ad} : RS K B H S [] []
  | un {S : Ad} {v σ Γ} : RS K B H S σ Γ → RS K B H S (v :: σ) (none :: Γ)
  | cons {S S1 S2 : Ad} {v o σ Γ} : (∀ b, S1 b → S b) → (∀ b, S2 b → S b) → (∀ b, S1 b → ¬ S2 b) → RO K B H S1 v o → RS K B H S2 σ Γ → RS K B H S (some v :: σ) (some o :: Γ)
end
section
variable {K : PySem.W.Frag} {B B' H H' : Hp}
mutual
theorem RO.tr (e : BLe B B') : ∀ {S S' : Ad} {v : V} {o : O}, (∀ a, S a → S' a) → (∀ a u, S a → H a = some u → H' a = some u) → RO K B H S v o → RO K B' H' S' v o
  | _, _, _, _, _, _, .d r => .d (r.mono e)
  | _, _, _, _, s, k, .ol ha hs hn h r => .ol (s _ ha) (fun b z => s b (hs b z)) hn (k _ _ ha h) (RS.tr e (fun _ z => z) (fun b u z => k b u (hs b z)) r)
  | _, _, _, _, s, k, .od ha hs hn h nd q r => .od (s _ ha) (fun b z => s b (hs b z)) hn (k _ _ ha h) nd q (RS.tr e (fun _ z => z) (fun b u z => k b u (hs b z)) r)
  | _, _, _, _, s, k, .ot ha hs hn h nd q r => .ot (s _ ha) (fun b z => s b (hs b z)) hn (k _ _ ha h) nd q (RS.tr e (fun _ z => z) (fun b u z => k b u (hs b z)) r)
  | _, _, _, _, s, k, .oi ha hd hs hn hn2 ne h h2 q r => .oi (s _ ha) (s _ hd) (fun b z => s b (hs b z)) hn hn2 ne (k _ _ ha h) (k _ _ hd h2) q (RS.tr e (fun _ z => z) (fun b u z => k b u (hs b z)) r)
  | _, _, _, _, s, k, .op h r => .op (e.sqT h) (RS.tr e s k r)
  | _, _, _, _, s, k, .atA r => .atA (RO.tr e s k r)
theorem RS.tr (e : BLe B B') : ∀ {S S' : Ad} {σ : List (Option V)} {Γ : List (Option O)}, (∀ a, S a → S' a) → (∀ a u, S a → H a = some u → H' a = some u) → RS K B H S σ Γ → RS K B' H' S' σ Γ
  | _, _, _, _, _, _, .nil => .nil
  | _, _, _, _, s, k, .un r => .un (RS.tr e s k r)
  | _, _, _, _, s, k, .cons s1 s2 dj h r => .cons (fun b z => s b (s1 b z)) (fun b z => s b (s2 b z)) dj (RO.tr e (fun _ z => z) (fun b u z => k b u (s1 b z)) h) (RS.tr e (fun _ z => z) (fun b u z => k b u (s2 b z)) r)
end
end
/-- the i-th thing, and the others for any other thing in its place -/
theorem RS.focus {K : PySem.W.Frag} {B H : Hp} {o : O} : ∀ {σ : List (Option V)} {Γ : List (Option O)} {S : Ad} {i : Nat}, RS K B H S σ Γ → Γ[i]? = some (some o) →
    ∃ (v : V) (S1 S2 : Ad), σ[i]? = some (some v) ∧ (∀ b, S1 b → S b) ∧ (∀ b, S2 b → S b) ∧ (∀ b, S1 b → ¬ S2 b) ∧ RO K B H S1 v o ∧
      ∀ (B' H' : Hp) (S1' : Ad) (v' : Option V) (o' : Option O), BLe B B' → (∀ b u, S2 b → H b = some u → H' b = some u) → (∀ b, S1' b → ¬ S2 b) → (∀ x, o' = some x → ∃ w, v' = some w ∧ RO K B' H' S1' w x) →
        RS K B' H' (fun b => S1' b ∨ S2 b) (σ.set i v') (Γ.set i o') := by
  intro σ Γ
  induction Γ generalizing σ with
  | nil => intro S i _ h; simp at h
  | cons g Γ ih =>
    intro S i r h
    cases i with
    | zero =>
      rw [List.getElem?_cons_zero] at h
      cases h
      cases r with
      | cons s1 s2 dj h r =>
        refine ⟨_, _, _, rfl, s1, s2, dj, h, fun B' H' S1' v' o' e k dj' q => ?_⟩
        rw [List.set_cons_zero, List.set_cons_zero]
        cases o' with
        | none => exact .un (r.tr e (fun _ z => .inr z) k)
        | some x =>
          obtain ⟨w, rfl, q2⟩ := q x rfl
          exact .cons (fun _ z => .inl z) (fun _ z => .inr z) dj' q2 (r.tr e (fun _ z => z) k)
    | succ i =>
      rw [List.getElem?_cons_succ] at h
      cases r with
      | un r =>
        obtain ⟨v, S1, S2, a, b, c, d, e, f⟩ := ih r h
        refine ⟨v, S1, S2, by rw [List.getElem?_cons_succ]; exact a, b, c, d, e, fun B' H' S1' v' o' e k dj' q => ?_⟩
        rw [List.set_cons_succ, List.set_cons_succ]
        exact .un (f B' H' S1' v' o' e k dj' q)
      | @cons _ T1 T2 _ _ _ _ s1 s2 dj h0 r =>
        obtain ⟨v, S1, S2, a, b, c, d, e, f⟩ := ih r h
        refine ⟨v, S1, fun x => T1 x ∨ S2 x, by rw [List.getElem?_cons_succ]; exact a, fun x z => s2 x (b x z), fun x z => z.elim (s1 x) (fun z => s2 x (c x z)), fun x z w => w.elim (fun w => dj x w (b x z)) (fun w => d x z w), e, fun B' H' S1' v' o' e k dj' q => ?_⟩
        rw [List.set_cons_succ, List.set_cons_succ]
        refine .cons (S1 := T1) (S2 := fun x => S1' x ∨ S2 x) (fun x z => .inr (.inl z)) (fun x z => z.imp id .inr) (fun x z w => w.elim (fun w => dj' x w (.inl z)) fun w => dj x z (c x w)) (h0.tr e (fun _ z => z) fun x u z => k x u (.inl z)) ?_
        exact f B' H' S1' v' o' e (fun x u z => k x u (.inr z)) (fun x z w => dj' x z (.inr w)) q
/-- the things at hand: τ what is held meanwhile, σ the slots -/
structure HW (K : PySem.W.Frag) (F B0 : Hp) (τ : List V) (T : List O) (σ : L2.St) (Γ : List (Option O)) (H B : Hp) (S : Ad) : Prop where
  fr : Ex F H
  pu : Ex B H
  b0 : BLe B0 B
  ow : ∀ a, S a → F a = none ∧ B a = none ∧ H a ≠ none
  nw : ∀ a, B a ≠ none → B0 a ≠ none ∨ F a = none
  rs : RS K B H S (τ.map some ++ σ) (T.map some ++ Γ)
  lt : τ.length = T.length
abbrev En := List (Option O)
def Ho (K : PySem.W.Frag) (F B0 : Hp) (τ : List V) (T : List O) (σ : L2.St) (Γ : En) (H : Hp) : Prop := ∃ B S, HW K F B0 τ T σ Γ H B S
section
variable {K : PySem.W.Frag} {F B0 H H' B B' : Hp} {τ : List V} {T : List O} {σ : L2.St} {Γ : En} {S : Ad} {v : V} {o : O} {x : D}
/-- one thing more on the pile; the heap has grown -/
theorem HW.push (h : HW K F B0 τ T σ Γ H B S) {S' : Ad} (e : Ex H H') (eb : BLe B B') (pu : Ex B' H') (nw : ∀ a, B' a ≠ none → B a ≠ none ∨ H a = none) (ow : ∀ a, S' a → H a = none ∧ B' a = none ∧ H' a ≠ none) (r : RO K B' H' S' v o) :
    HW K F B0 (v :: τ) (o :: T) σ Γ H' B' (fun a => S' a ∨ S a) where
  fr := h.fr.trans e
  pu := pu
  b0 := h.b0.trans eb
  ow := fun a z => by
    rcases z with z | z
    · obtain ⟨h1, h2, h3⟩ := ow a z
      exact ⟨h.fr.back h1, h2, h3⟩
    · obtain ⟨h1, h2, h3⟩ := h.ow a z
      refine ⟨h1, ?_, fun q => h3 (e.back q)⟩
      cases q : B' a with
      | none => rfl
      | some u =>
        rcases nw a (by rw [q]; simp) with w | w
        · exact absurd h2 w
        · exact absurd w h3
  nw := fun a z => by
    rcases nw a z with w | w
    · exact h.nw a w
    · exact .inr (h.fr.back w)
  rs := .cons (fun _ z => .inl z) (fun _ z => .inr z) (fun a z w => (h.ow a w).2.2 (ow a z).1) r (h.rs.tr eb (fun _ z => z) fun a u _ q => e a u q)
  lt := by simp [h.lt]
/-- a pure thing, nothing new -/
theorem HW.pushd (h : HW K F B0 τ T σ Γ H B S) (r : R K B v x) : HW K F B0 (v :: τ) (.d x :: T) σ Γ H B (fun a => False ∨ S a) :=
  h.push (S' := fun _ => False) (.refl H) (.refl B) h.pu (fun _ z => .inl z) (fun _ z => z.elim) (.d r)
/-- the pile's first thing falls away -/
theorem HW.pop (h : HW K F B0 (v :: τ) (o :: T) σ Γ H B S) : ∃ S1 S2 : Ad, (∀ b, S1 b → S b) ∧ (∀ b, S2 b → S b) ∧ (∀ b, S1 b → ¬ S2 b) ∧ RO K B H S1 v o ∧ HW K F B0 τ T σ Γ H B S2 := by
  have r := h.rs
  cases r with
  | cons s1 s2 dj r rs => exact ⟨_, _, s1, s2, dj, r, h.fr, h.pu, h.b0, fun a z => h.ow a (s2 a z), h.nw, rs, by simpa using h.lt⟩
theorem HW.popd (h : HW K F B0 (v :: τ) (.d x :: T) σ Γ H B S) : R K B v x ∧ ∃ S2, (∀ b, S2 b → S b) ∧ HW K F B0 τ T σ Γ H B S2 := by
  obtain ⟨S1, S2, _, s2, _, r, w⟩ := h.pop
  cases r with
  | d r => exact ⟨r, S2, s2, w⟩
theorem HW.len (h : HW K F B0 τ T σ Γ H B S) : σ.length = Γ.length := by
  have : ∀ {σ : List (Option V)} {Γ : List (Option O)} {S : Ad}, RS K B H S σ Γ → σ.length = Γ.length := by
    intro σ Γ
    induction Γ generalizing σ with
    | nil => intro S r; cases r; rfl
    | cons g Γ ih =>
      intro S r
      cases r with
      | un r => simp [ih r]
      | cons _ _ _ _ r => simp [ih r]
  have q := this h.rs
  have l := h.lt
  simp only [List.length_append, List.length_map] at q
  omega
/-- the i-th slot -/
theorem HW.slot (h : HW K F B0 τ T σ Γ H B S) {i : Nat} (e : Γ[i]? = some (some o)) : ∃ (v : V) (S1 S2 : Ad), σ[i]? = some (some v) ∧ (∀ b, S1 b → S b) ∧ (∀ b, S2 b → S b) ∧ (∀ b, S1 b → ¬ S2 b) ∧ RO K B H S1 v o ∧
    ∀ (B' H' : Hp) (S1' : Ad) (v' : Option V) (o' : Option O), BLe B B' → (∀ b u, S2 b → H b = some u → H' b = some u) → (∀ b, S1' b → ¬ S2 b) → (∀ x, o' = some x → ∃ w, v' = some w ∧ RO K B' H' S1' w x) →
        RS K B' H' (fun b => S1' b ∨ S2 b) (τ.map some ++ σ.set i v') (T.map some ++ Γ.set i o') := by
  have e' : (T.map some ++ Γ)[τ.length + i]? = some (some o) := by
    rw [List.getElem?_append_right (by simp [h.lt]), List.length_map, ← h.lt, Nat.add_sub_cancel_left]
    exact e
  obtain ⟨v, S1, S2, a, b, c, d, r, f⟩ := h.rs.focus e'
  refine ⟨v, S1, S2, ?_, b, c, d, r, fun B' H' S1' v' o' e k dj q => ?_⟩
  · rw [List.getElem?_append_right (by simp), List.length_map, Nat.add_sub_cancel_left] at a
    exact a
  · have z := f B' H' S1' v' o' e k dj q
    rw [List.set_append_right _ _ (by simp), List.set_append_right _ _ (by simp [h.lt]), List.length_map, List.length_map, ← h.lt, Nat.add_sub_cancel_left] at z
    exact z
theorem HW.getd (h : HW K F B0 τ T σ Γ H B S) {i : Nat} (e : Γ[i]? = some (some (.d x))) : ∃ v, σ[i]? = some (some v) ∧ R K B v x := by
  obtain ⟨v, S1, S2, a, _, _, _, r, _⟩ := h.slot e
  cases r with
  | d r => exact ⟨v, a, r⟩
end
end SK
namespace SK
open PySem PySem.Spec PyProof.Rows L2
mutual
def O.fz : O → D
  | .d x => x
  | .ol xs => .lst (fzL xs)
  | .od kvs => .dic (fzK kvs)
  | .ot kvs => .dit (fzT kvs)
  | .oi _ C fs => .ins C (fzF fs)
  | .op xs => .tup (fzL xs)
  | .atA _ o => o.fz
def fzL : List O → List D
  | [] => []
  | x :: xs => x.fz :: fzL xs
def fzK : List (Key × O) → List (Key × D)
  | [] => []
  | (k, x) :: xs => (k, x.fz) :: fzK xs
def fzT : List (List Key × O) → List (List Key × D)
  | [] => []
  | (k, x) :: xs => (k, x.fz) :: fzT xs
def fzF : List (Str × O) → List (Str × D)
  | [] => []
  | (k, x) :: xs => (k, x.fz) :: fzF xs
end
theorem fzK_keys : ∀ l : List (Key × O), (fzK l).map (·.1) = l.map (·.1)
  | [] => rfl
  | (k, x) :: xs => by simp [fzK, fzK_keys xs]
theorem fzT_keys : ∀ l : List (List Key × O), (fzT l).map (·.1) = l.map (·.1)
  | [] => rfl
  | (k, x) :: xs => by simp [fzT, fzT_keys xs]
def fzE : List (Option O) → List (Option O)
  | [] => []
  | none :: r => none :: fzE r
  | some o :: r => some (.d o.fz) :: fzE r
section
variable {K : PySem.W.Frag} {B B' H H' : Hp}
mutual
theorem RO.fz (eb : BLe B B') : ∀ {S : Ad} {v : V} {o : O}, (∀ a u, S a → H a = some u → B' a = some u) → RO K B H S v o → R K B' v o.fz
  | _, _, _, _, .d r => r.mono eb
  | _, _, _, k, .ol ha hs _ h r => .lst (k _ _ ha h) (RS.fzL eb (fun b u z => k b u (hs b z)) r)
  | _, _, _, k, .od ha hs _ h nd q r => .dic (.inl (k _ _ ha h)) (by rw [fzK_keys]; exact nd) (RS.fzK eb (fun b u z => k b u (hs b z)) q r)
  | _, _, _, k, .ot ha hs _ h nd q r => .dit (.inl (k _ _ ha h)) (by rw [fzT_keys]; exact nd) (RS.fzT eb (fun b u z => k b u (hs b z)) q r)
  | _, _, _, k, .oi ha hd hs _ _ _ h _ q r => .ins (k _ _ ha h) (RS.fzF eb (fun b u z => k b u (hs b z)) q r)
  | _, _, _, k, .op h r => .tup (eb.sqT h) (RS.fzL eb k r)
  | _, _, _, k, .atA (o := o) r => (RO.fz (o := o) eb k r : R K B' _ o.fz)
theorem RS.fzL (eb : BLe B B') : ∀ {S : Ad} {vs : List V} {xs : List O}, (∀ a u, S a → H a = some u → B' a = some u) → RS K B H S (vs.map some) (xs.map some) → RL K B' vs (SK.fzL xs)
  | _, [], [], _, _ => .nil
  | _, v :: vs, x :: xs, k, .cons s1 s2 _ h r => .cons (RO.fz eb (fun b u z => k b u (s1 b z)) h) (RS.fzL eb (fun b u z => k b u (s2 b z)) r)
theorem RS.fzK (eb : BLe B B') : ∀ {S : Ad} {vs : List (Key × V)} {xs : List (Key × O)}, (∀ a u, S a → H a = some u → B' a = some u) → vs.map (·.1) = xs.map (·.1) → RS K B H S (vs.map fun p => some p.2) (xs.map fun p => some p.2) → RK K B' vs (SK.fzK xs)
  | _, [], [], _, _, _ => .nil
  | _, (kv, v) :: vs, (kx, x) :: xs, k, q, .cons s1 s2 _ h r => by
    simp only [List.map_cons, List.cons.injEq] at q
    obtain ⟨rfl, q⟩ := q
    exact .cons (RO.fz eb (fun b u z => k b u (s1 b z)) h) (RS.fzK eb (fun b u z => k b u (s2 b z)) q r)
theorem RS.fzT (eb : BLe B B') : ∀ {S : Ad} {vs : List (List Key × V)} {xs : List (List Key × O)}, (∀ a u, S a → H a = some u → B' a = some u) → vs.map (·.1) = xs.map (·.1) → RS K B H S (vs.map fun p => some p.2) (xs.map fun p => some p.2) → RT K B' vs (SK.fzT xs)
  | _, [], [], _, _, _ => .nil
  | _, (kv, v) :: vs, (kx, x) :: xs, k, q, .cons s1 s2 _ h r => by
    simp only [List.map_cons, List.cons.injEq] at q
    obtain ⟨rfl, q⟩ := q
    exact .cons (RO.fz eb (fun b u z => k b u (s1 b z)) h) (RS.fzT eb (fun b u z => k b u (s2 b z)) q r)
theorem RS.fzF (eb : BLe B B') : ∀ {S : Ad} {vs : List (Str × V)} {xs : List (Str × O)}, (∀ a u, S a → H a = some u → B' a = some u) → vs.map (·.1) = xs.map (·.1) → RS K B H S (vs.map fun p => some p.2) (xs.map fun p => some p.2) → RF K B' vs (SK.fzF xs)
  | _, [], [], _, _, _ => .nil
  | _, (kv, v) :: vs, (kx, x) :: xs, k, q, .cons s1 s2 _ h r => by
    simp only [List.map_cons, List.cons.injEq] at q
    obtain ⟨rfl, q⟩ := q
    exact .cons (RO.fz eb (fun b u z => k b u (s1 b z)) h) (RS.fzF eb (fun b u z => k b u (s2 b z)) q r)
end
end
open Classical in
/-- B with the owned cells S of H -/
noncomputable def frz (B H : Hp) (S : Ad) : Hp := fun a => if S a then H a else B a
section
variable {K : PySem.W.Frag} {F B0 H H' B B' : Hp} {τ : List V} {T : List O} {σ : L2.St} {Γ : En} {S S1 S2 : Ad} {v : V} {o : O} {x : D}
theorem frz_at {a : Addr} (h : S a) : frz B H S a = H a := if_pos h
theorem frz_no {a : Addr} (h : ¬ S a) : frz B H S a = B a := if_neg h
theorem frz_ex (h : ∀ a, S a → B a = none) : Ex B (frz B H S) := fun a o e => by
  by_cases z : S a
  · rw [h a z] at e; cases e
  · rw [frz_no z]; exact e
/-- the pile's first thing is frozen -/
theorem HW.fz (h : HW K F B0 (v :: τ) (o :: T) σ Γ H B S) : ∃ B' S', HW K F B0 (v :: τ) (.d o.fz :: T) σ Γ H B' S' ∧ BLe B B' := by
  obtain ⟨S1, S2, s1, s2, dj, r, w⟩ := h.pop
  have ex : Ex B (frz B H S1) := frz_ex fun a z => (h.ow a (s1 a z)).2.1
  refine ⟨frz B H S1, fun a => False ∨ S2 a, ⟨h.fr, fun a u e => ?_, h.b0.trans (.of_ex ex), fun a z => ?_, fun a z => ?_, .cons (S1 := fun _ => False) (fun _ z => .inl z) (fun _ z => .inr z) (fun _ z => z.elim) (.d (r.fz (.of_ex ex) fun a u z e => by rw [frz_at z]; exact e)) (w.rs.tr (.of_ex ex) (fun _ z => z) fun _ _ _ e => e), h.lt⟩, .of_ex ex⟩
  · by_cases z : S1 a
    · rw [frz_at z] at e; exact e
    · rw [frz_no z] at e; exact h.pu a u e
  · have z : S2 a := z.elim False.elim id
    obtain ⟨q1, q2, q3⟩ := h.ow a (s2 a z)
    refine ⟨q1, ?_, q3⟩
    rw [frz_no fun y => dj a y z]
    exact q2
  · by_cases y : S1 a
    · exact .inr (h.ow a (s1 a y)).1
    · rw [frz_no y] at z; exact h.nw a z
/-- pushed frozen things, all at once: the whole state as pure -/
theorem RS.fzE {S : Ad} (eb : BLe B B') : ∀ {σ : List (Option V)} {Γ : List (Option O)} {S : Ad}, (∀ a u, S a → H a = some u → B' a = some u) → RS K B H S σ Γ → RS K B' H (fun _ => False) σ (fzE Γ) := by
  intro σ Γ
  induction Γ generalizing σ with
  | nil => intro S _ r; cases r; exact .nil
  | cons g Γ ih =>
    intro S k r
    cases r with
    | un r => exact .un (ih k r)
    | cons s1 s2 dj h r => exact .cons (S1 := fun _ => False) (S2 := fun _ => False) (fun _ z => z) (fun _ z => z) (fun _ z => z.elim) (.d (h.fz eb fun a u z => k a u (s1 a z))) (ih (fun a u z => k a u (s2 a z)) r)
end
structure EG where
  nx : En → Prop
  rt : O → En → Prop
  bk : En → Prop := fun _ => False
  ct : En → Prop := fun _ => False
section
variable (K : PySem.W.Frag) (F B0 : Hp)
def Go (t : TE) (T : List O) (Γ : En) (post : O → En → Prop) : Prop := ∀ (τ : List V) (σ : L2.St) (H : Hp) (Q : VK), Ho K F B0 τ T σ Γ H →
  (∀ v o Γ' H', post o Γ' → Ho K F B0 (v :: τ) (o :: T) σ Γ' H' → Q v H') → t σ H Q
def GoT (t : TT) (T : List O) (Γ : En) (post : Bool → En → Prop) : Prop := ∀ (τ : List V) (σ : L2.St) (H : Hp) (Q : Bool → Hp → Prop), Ho K F B0 τ T σ Γ H →
  (∀ b Γ' H', post b Γ' → Ho K F B0 τ T σ Γ' H' → Q b H') → t σ H Q
/-- arguments, all pure; on the pile the last one first -/
def GoA (t : TA) (T : List O) (Γ : En) (post : List D → En → Prop) : Prop := ∀ (τ : List V) (σ : L2.St) (H : Hp) (Q : List V → Hp → Prop), Ho K F B0 τ T σ Γ H →
  (∀ vs xs Γ' H', post xs Γ' → Ho K F B0 (vs.reverse ++ τ) ((xs.map O.d).reverse ++ T) σ Γ' H' → vs.length = xs.length → Q vs H') → t σ H Q
structure Sat (τ : List V) (T : List O) (De : Ends) (D : EG) : Prop where
  nx : ∀ σ Γ H, D.nx Γ → Ho K F B0 τ T σ Γ H → De.nx σ H
  rt : ∀ v o σ Γ H, D.rt o Γ → Ho K F B0 (v :: τ) (o :: T) σ Γ H → De.rt v H
  bk : ∀ σ Γ H, D.bk Γ → Ho K F B0 τ T σ Γ H → De.bk σ H
  ct : ∀ σ Γ H, D.ct Γ → Ho K F B0 τ T σ Γ H → De.ct σ H
def GoS (t : TS) (T : List O) (Γ : En) (D : EG) : Prop := ∀ (τ : List V) (σ : L2.St) (H : Hp) (De : Ends), Ho K F B0 τ T σ Γ H → Sat K F B0 τ T De D → t De σ H
/-- an operation on two pure things -/
def Op2 (r : R2) (x1 x2 : D) (T : List O) (Γ : En) (post : O → En → Prop) : Prop := ∀ (τ : List V) (σ : L2.St) (H B : Hp) (S : Ad) (v1 v2 : V) (Q : VK), HW K F B0 τ T σ Γ H B S → R K B v1 x1 → R K B v2 x2 →
  (∀ v o Γ' H', post o Γ' → Ho K F B0 (v :: τ) (o :: T) σ Γ' H' → Q v H') → r v1 v2 H Q
def Op1 (r : V → Hp → VK → Prop) (x1 : D) (T : List O) (Γ : En) (post : O → En → Prop) : Prop := ∀ (τ : List V) (σ : L2.St) (H B : Hp) (S : Ad) (v1 : V) (Q : VK), HW K F B0 τ T σ Γ H B S → R K B v1 x1 →
  (∀ v o Γ' H', post o Γ' → Ho K F B0 (v :: τ) (o :: T) σ Γ' H' → Q v H') → r v1 H Q
/-- a call by values on pure things -/
def OpA (r : List V → Hp → VK → Prop) (xs : List D) (T : List O) (Γ : En) (post : O → En → Prop) : Prop := ∀ (τ : List V) (σ : L2.St) (H B : Hp) (S : Ad) (vs : List V) (Q : VK), HW K F B0 τ T σ Γ H B S → RL K B vs xs →
  (∀ v o Γ' H', post o Γ' → Ho K F B0 (v :: τ) (o :: T) σ Γ' H' → Q v H') → r vs H Q
/-- a store into a target -/
def GoG (g : TG) (o : O) (T : List O) (Γ : En) (post : En → Prop) : Prop := ∀ (τ : List V) (σ : L2.St) (H : Hp) (v : V) (Q : L2.St → Hp → Prop), Ho K F B0 (v :: τ) (o :: T) σ Γ H →
  (∀ σ' Γ' H', post Γ' → Ho K F B0 τ T σ' Γ' H' → Q σ' H') → g v σ H Q
end
end SK
namespace SK
open PySem PySem.Spec PyProof.Rows L2
section
variable {K : PySem.W.Frag} {F B0 H H' B B' : Hp} {τ : List V} {T : List O} {σ : L2.St} {Γ : En} {S S1 S2 : Ad} {v : V} {o o1 o2 : O} {x : D} {post : O → En → Prop} {ta tb te : TE} {tt tu : TT} {i : Nat} {r : R2} {posts : List D → En → Prop} {postt : Bool → En → Prop} {posts1 : En → Prop}
theorem RS.len : ∀ {σ : List (Option V)} {Γ : List (Option O)} {S : Ad}, RS K B H S σ Γ → σ.length = Γ.length := by
  intro σ Γ
  induction Γ generalizing σ with
  | nil => intro S r; cases r; rfl
  | cons g Γ ih =>
    intro S r
    cases r with
    | un r => simp [ih r]
    | cons _ _ _ _ r => simp [ih r]
/-- a slot is written -/
theorem RS.put {v : Option V} {o : Option O} : ∀ {σ : List (Option V)} {Γ : List (Option O)} {S S1 : Ad} {i : Nat}, RS K B H S σ Γ → i < Γ.length → (∀ b, S1 b → ¬ S b) → (∀ x, o = some x → ∃ w, v = some w ∧ RO K B H S1 w x) →
    RS K B H (fun b => S1 b ∨ S b) (σ.set i v) (Γ.set i o) := by
  intro σ Γ
  induction Γ generalizing σ with
  | nil => intro S S1 i _ h; simp at h
  | cons g Γ ih =>
    intro S S1 i r hi dj q
    have ex : ∀ {a b : Option V} {σ : List (Option V)} {Γ : List (Option O)} {S2 : Ad}, (∀ z, S2 z → S z) → RS K B H S2 σ Γ → RS K B H (fun b => S1 b ∨ S b) (v :: σ) (o :: Γ) := fun s2 r => by
      cases o with
      | none => exact .un (r.tr (.refl B) (fun a z => .inr (s2 a z)) fun _ _ _ e => e)
      | some x =>
        obtain ⟨w, rfl, q2⟩ := q x rfl
        exact .cons (fun _ z => .inl z) (fun a z => .inr (s2 a z)) (fun a z y => dj a z (s2 a y)) q2 r
    cases i with
    | zero =>
      cases r with
      | un r => exact ex (a := v) (b := v) (fun _ z => z) r
      | cons _ s2 _ _ r => exact ex (a := v) (b := v) s2 r
    | succ i =>
      have hi' : i < Γ.length := by simpa using hi
      cases r with
      | un r => exact .un (ih r hi' dj q)
      | @cons _ T1 T2 _ _ _ _ s1 s2 dj0 h0 r =>
        refine .cons (S1 := T1) (S2 := fun x => S1 x ∨ T2 x) (fun x z => .inr (s1 x z)) (fun x z => z.imp id (s2 x)) (fun x z w => w.elim (fun w => dj x w (s1 x z)) (dj0 x z)) h0 (ih r hi' (fun x z w => dj x z (s2 x w)) q)
theorem HW.put (h : HW K F B0 (v :: τ) (o :: T) σ Γ H B S) (hi : i < Γ.length) : ∃ S', HW K F B0 τ T (σ.set i (some v)) (Γ.set i (some o)) H B S' := by
  obtain ⟨S1, S2, s1, s2, dj, r, w⟩ := h.pop
  have lt := w.lt
  have q := RS.put (i := τ.length + i) (v := some v) (o := some o) (S1 := S1) w.rs (by simp [w.lt]; omega) dj fun x e => by cases e; exact ⟨v, rfl, r⟩
  rw [List.set_append_right _ _ (by simp), List.set_append_right _ _ (by simp [lt]), List.length_map, List.length_map, ← lt, Nat.add_sub_cancel_left] at q
  exact ⟨_, w.fr, w.pu, w.b0, fun a z => z.elim (fun z => h.ow a (s1 a z)) (fun z => w.ow a z), w.nw, q, w.lt⟩
/-- a slot is forgotten, its thing on the pile -/
theorem HW.take (h : HW K F B0 τ T σ Γ H B S) (e : Γ[i]? = some (some o)) : ∃ v S', σ[i]? = some (some v) ∧ HW K F B0 (v :: τ) (o :: T) σ (Γ.set i none) H B S' := by
  obtain ⟨v, S1, S2, a, b, c, d, ro, f⟩ := h.slot e
  have hl : i < σ.length := (List.getElem?_eq_some_iff.mp a).1
  have z := f B H (fun _ => False) (some v) none (.refl B) (fun _ _ _ q => q) (fun _ z => z.elim) (fun x q => by cases q)
  have e2 : σ.set i (some v) = σ := by
    apply List.ext_getElem?
    intro n
    by_cases hn : n = i
    · subst hn; rw [List.getElem?_set_self hl, a]
    · rw [List.getElem?_set_ne (Ne.symm hn)]
  rw [e2] at z
  exact ⟨v, fun b => S1 b ∨ S2 b, a, h.fr, h.pu, h.b0, fun a z => z.elim (fun z => h.ow a (b a z)) (fun z => h.ow a (c a z)), h.nw,
    .cons (fun _ z => .inl z) (fun _ z => .inr z) d ro (z.tr (.refl B) (fun a z => z.elim False.elim id) fun _ _ _ e => e), by simp [h.lt]⟩
/-- a pure name -/
theorem go_var (e : Γ[i]? = some (some (.d x))) (h : post (.d x) Γ) : Go K F B0 (tVar i) T Γ post := fun τ σ H Q ⟨B, S, w⟩ k => by
  obtain ⟨v, a, r⟩ := w.getd e
  exact ⟨v, a, k v _ Γ H h ⟨B, _, w.pushd r⟩⟩
/-- an owned thing is handed on: its name holds nothing known from then on -/
theorem go_move (e : Γ[i]? = some (some o)) (h : post o (Γ.set i none)) : Go K F B0 (tVar i) T Γ post := fun τ σ H Q ⟨B, S, w⟩ k => by
  obtain ⟨v, S', a, w⟩ := w.take e
  exact ⟨v, a, k v _ _ H h ⟨B, S', w⟩⟩
/-- an owned thing becomes pure for good -/
theorem go_fz (e : Γ[i]? = some (some o)) (h : post (.d o.fz) (Γ.set i (some (.d o.fz)))) : Go K F B0 (tVar i) T Γ post := fun τ σ H Q ⟨B, S, w⟩ k => by
  obtain ⟨v, S', a, w⟩ := w.take e
  obtain ⟨B', S'', w, _⟩ := w.fz
  obtain ⟨r, _⟩ := w.popd
  obtain ⟨S3, w3⟩ := w.put (i := i) (by simpa using (List.getElem?_eq_some_iff.mp e).1)
  have hl : i < σ.length := (List.getElem?_eq_some_iff.mp a).1
  have e2 : σ.set i (some v) = σ := by
    apply List.ext_getElem?
    intro n
    by_cases hn : n = i
    · subst hn; rw [List.getElem?_set_self hl, a]
    · rw [List.getElem?_set_ne (Ne.symm hn)]
  rw [e2, List.set_set] at w3
  exact ⟨v, a, k v _ _ H h ⟨B', _, w3.pushd r⟩⟩
theorem go_int {n : Int} (h : post (.d (.int n)) Γ) : Go K F B0 (tC (.int n)) T Γ post := fun τ σ H Q ⟨B, S, w⟩ k => k _ _ Γ H h ⟨B, _, w.pushd .int⟩
theorem go_bl {n : Bool} (h : post (.d (.bl n)) Γ) : Go K F B0 (tC (.bl n)) T Γ post := fun τ σ H Q ⟨B, S, w⟩ k => k _ _ Γ H h ⟨B, _, w.pushd .bl⟩
theorem go_str {n : Str} (h : post (.d (.str n)) Γ) : Go K F B0 (tC (.str n)) T Γ post := fun τ σ H Q ⟨B, S, w⟩ k => k _ _ Γ H h ⟨B, _, w.pushd .str⟩
theorem go_non (h : post (.d .non) Γ) : Go K F B0 (tC .non) T Γ post := fun τ σ H Q ⟨B, S, w⟩ k => k _ _ Γ H h ⟨B, _, w.pushd .non⟩
theorem go_ty {n : String} (h : post (.d (.ty n)) Γ) : Go K F B0 (tC (.ty n)) T Γ post := fun τ σ H Q ⟨B, S, w⟩ k => k _ _ Γ H h ⟨B, _, w.pushd .ty⟩
theorem go_ref {a : Addr} (h : post (.d (.ref a)) Γ) : Go K F B0 (tC (.ref a)) T Γ post := fun τ σ H Q ⟨B, S, w⟩ k => k _ _ Γ H h ⟨B, _, w.pushd .ref⟩
/-- a constant of the module that is data -/
theorem go_cst {c : V} (q : ∀ B, R K B c x) (h : post (.d x) Γ) : Go K F B0 (tC c) T Γ post := fun τ σ H Q ⟨B, S, w⟩ k => k _ _ Γ H h ⟨B, _, w.pushd (q B)⟩
theorem HW.fzd (h : HW K F B0 (v :: τ) (o :: T) σ Γ H B S) : ∃ B' S', HW K F B0 τ T σ Γ H B' S' ∧ R K B' v o.fz ∧ BLe B B' := by
  obtain ⟨B', S', w, e⟩ := h.fz
  obtain ⟨r, S2, _, w⟩ := w.popd
  exact ⟨B', S2, w, r, e⟩
theorem go_op (h : Go K F B0 ta T Γ fun o1 Γ1 => Go K F B0 tb (.d o1.fz :: T) Γ1 fun o2 Γ2 => Op2 K F B0 r o1.fz o2.fz T Γ2 post) : Go K F B0 (tOp r ta tb) T Γ post := fun τ σ H Q hw k =>
  h τ σ H _ hw fun v1 o1 Γ1 H1 h1 ⟨_, _, w1⟩ => by
    obtain ⟨_, _, w1, _⟩ := w1.fz
    refine h1 _ σ H1 _ ⟨_, _, w1⟩ fun v2 o2 Γ2 H2 h2 ⟨_, _, w2⟩ => ?_
    obtain ⟨_, _, w2, r2, _⟩ := w2.fzd
    obtain ⟨r1, _, _, w2⟩ := w2.popd
    exact h2 τ σ H2 _ _ v1 v2 Q w2 r1 r2 k
theorem go_un {r : V → Hp → VK → Prop} (h : Go K F B0 ta T Γ fun o1 Γ1 => Op1 K F B0 r o1.fz T Γ1 post) : Go K F B0 (tUn r ta) T Γ post := fun τ σ H Q hw k =>
  h τ σ H _ hw fun v1 o1 Γ1 H1 h1 ⟨_, _, w1⟩ => by
    obtain ⟨_, _, w1, r1, _⟩ := w1.fzd
    exact h1 τ σ H1 _ _ v1 Q w1 r1 k
theorem goa_nil (h : posts [] Γ) : GoA K F B0 tNil T Γ posts := fun τ σ H Q hw k => k [] [] Γ H h hw rfl
theorem goa_cons {tr : TA} (h : Go K F B0 ta T Γ fun o1 Γ1 => GoA K F B0 tr (.d o1.fz :: T) Γ1 fun xs Γ2 => posts (o1.fz :: xs) Γ2) : GoA K F B0 (tCons ta tr) T Γ posts := fun τ σ H Q hw k =>
  h τ σ H _ hw fun v1 o1 Γ1 H1 h1 ⟨_, _, w1⟩ => by
    obtain ⟨_, _, w1, _⟩ := w1.fz
    refine h1 _ σ H1 _ ⟨_, _, w1⟩ fun vs xs Γ2 H2 h2 w2 hl => ?_
    refine k (v1 :: vs) (o1.fz :: xs) Γ2 H2 h2 ?_ (by simp [hl])
    simpa using w2
/-- the held arguments, as a list -/
theorem HW.args : ∀ {xs : List D} {vs : List V} {τ : List V} {T : List O} {S : Ad}, HW K F B0 (vs.reverse ++ τ) ((xs.map O.d).reverse ++ T) σ Γ H B S → vs.length = xs.length → RL K B vs xs ∧ ∃ S', HW K F B0 τ T σ Γ H B S'
  | [], [], _, _, S, h, _ => ⟨.nil, S, h⟩
  | x :: xs, v :: vs, τ, T, S, h, hl => by
    have h' : HW K F B0 (vs.reverse ++ (v :: τ)) ((xs.map O.d).reverse ++ (.d x :: T)) σ Γ H B S := by simpa using h
    obtain ⟨r, S', w⟩ := HW.args h' (by simpa using hl)
    obtain ⟨r1, S2, _, w⟩ := w.popd
    exact ⟨.cons r1 r, S2, w⟩
theorem go_cb {r : List V → Hp → VK → Prop} {t : TA} (h : GoA K F B0 t T Γ fun xs Γ1 => OpA K F B0 r xs T Γ1 post) : Go K F B0 (tCB r t) T Γ post := fun τ σ H Q hw k =>
  h τ σ H _ hw fun vs xs Γ1 H1 h1 ⟨_, _, w1⟩ hl => by
    obtain ⟨rl, S', w⟩ := w1.args hl
    exact h1 τ σ H1 _ S' vs Q w rl k
theorem HW.newd {p : Addr} {c : HO} (h : HW K F B0 τ T σ Γ H B S) (hp : H p = none) (r : R K (upd B p c) v x) : ∃ S', HW K F B0 (v :: τ) (.d x :: T) σ Γ (upd H p c) (upd B p c) S' :=
  ⟨_, h.push (S' := fun _ => False) (.new hp) (.of_ex (.new (h.pu.back hp))) (fun a u e => by
    by_cases q : a = p
    · subst q; rw [upd_same] at e ⊢; exact e
    · rw [upd_ne q] at e ⊢; exact h.pu a u e) (fun a z => by
    by_cases q : a = p
    · subst q; exact .inr hp
    · rw [upd_ne q] at z; exact .inl z) (fun _ z => z.elim) (.d r)⟩
theorem HW.newo {p : Addr} {c : HO} (h : HW K F B0 τ T σ Γ H B S) (hp : H p = none) (r : RO K B (upd H p c) (fun a => a = p) v o) : ∃ S', HW K F B0 (v :: τ) (o :: T) σ Γ (upd H p c) B S' :=
  ⟨_, h.push (S' := fun a => a = p) (.new hp) (.refl B) (fun a u e => (Ex.new hp) a u (h.pu a u e)) (fun a z => .inl z) (fun a z => by subst z; exact ⟨hp, h.pu.back hp, by rw [upd_same]; simp⟩) r⟩
theorem fl_of {xs : List D} {vs : List V} {S : Ad} (r : RL K B vs xs) : RS K B H S (vs.map some) ((xs.map O.d).map some) := by
  induction vs generalizing xs with
  | nil => cases r; exact .nil
  | cons v vs ih => cases r with | cons a b => exact .cons (S1 := fun _ => False) (S2 := S) (fun _ z => z.elim) (fun _ z => z) (fun _ z => z.elim) (.d a) (ih b)
theorem RL.length {xs : List D} {vs : List V} (r : RL K B vs xs) : vs.length = xs.length := by
  induction vs generalizing xs with
  | nil => cases r; rfl
  | cons v vs ih => cases r with | cons a b => simp [ih b]
theorem go_tup {t : TA} (h : GoA K F B0 t T Γ fun xs Γ1 => xs.length ≤ 1000 ∧ post (.d (.tup xs)) Γ1) : Go K F B0 (tTup t) T Γ post := fun τ σ H Q hw k =>
  h τ σ H _ hw fun vs xs Γ1 H1 ⟨hz, h1⟩ ⟨_, _, w1⟩ hl => by
    obtain ⟨rl, S', w⟩ := w1.args hl
    refine ⟨Nat.le_trans (by rw [hl]; exact hz) (by decide), fun p hp => ?_⟩
    obtain ⟨S2, w⟩ := w.newd (x := .tup xs) hp (.tup (SqT.of upd_same) (rl.mono (.of_ex (.new (w.pu.back hp)))))
    exact k _ _ _ _ h1 ⟨_, _, w⟩
theorem HW.newl {p : Addr} {xs : List D} {vs : List V} (h : HW K F B0 τ T σ Γ H B S) (hp : H p = none) (rl : RL K B vs xs) : ∃ S', HW K F B0 (.ref p :: τ) (.ol (xs.map O.d) :: T) σ Γ (upd H p (.lst vs)) B S' :=
  h.newo hp (.ol (S' := fun _ => False) rfl (fun _ z => z.elim) id upd_same (fl_of rl))
theorem go_lst {t : TA} (h : GoA K F B0 t T Γ fun xs Γ1 => xs.length ≤ 1000 ∧ post (.ol (xs.map O.d)) Γ1) : Go K F B0 (tLst t) T Γ post := fun τ σ H Q hw k =>
  h τ σ H _ hw fun vs xs Γ1 H1 ⟨hz, h1⟩ ⟨_, _, w1⟩ hl => by
    obtain ⟨rl, S', w⟩ := w1.args hl
    refine ⟨Nat.le_trans (by rw [hl]; exact hz) (by decide), fun p hp => ?_⟩
    obtain ⟨S2, w⟩ := w.newl hp rl
    exact k _ _ _ _ h1 ⟨_, _, w⟩
theorem go_if (h : GoT K F B0 tt T Γ fun b Γ1 => (b = true → Go K F B0 ta T Γ1 post) ∧ (b = false → Go K F B0 tb T Γ1 post)) : Go K F B0 (tIf tt ta tb) T Γ post := fun τ σ H Q hw k =>
  h τ σ H _ hw fun b Γ1 H1 ⟨h1, h2⟩ w1 => by
    cases b with
    | true => exact iteT (h1 rfl τ σ H1 Q w1 k)
    | false => exact iteF (h2 rfl τ σ H1 Q w1 k)
theorem got_test (h : Go K F B0 te T Γ fun o Γ1 => ∃ b, o = .d (.bl b) ∧ postt b Γ1) : GoT K F B0 (tTest te) T Γ postt := fun τ σ H Q hw k =>
  h τ σ H _ hw fun v o Γ1 H1 ⟨b, e, h1⟩ ⟨_, _, w1⟩ => by
    subst e
    obtain ⟨r, _, _, w⟩ := w1.popd
    cases r
    exact ⟨b, rfl, k b Γ1 H1 h1 ⟨_, _, w⟩⟩
theorem got_B (h : Go K F B0 te T Γ fun o Γ1 => ∃ b, o = .d (.bl b) ∧ postt b Γ1) : GoT K F B0 (tB te) T Γ postt := fun τ σ H Q hw k => got_test h τ σ H Q hw k
theorem got_and (h : GoT K F B0 tt T Γ fun b Γ1 => (b = true → GoT K F B0 tu T Γ1 postt) ∧ (b = false → postt false Γ1)) : GoT K F B0 (tAnd tt tu) T Γ postt := fun τ σ H Q hw k =>
  h τ σ H _ hw fun b Γ1 H1 ⟨h1, h2⟩ w1 => by
    cases b with
    | true => exact iteT (h1 rfl τ σ H1 Q w1 k)
    | false => exact iteF (k _ _ _ (h2 rfl) w1)
theorem got_or (h : GoT K F B0 tt T Γ fun b Γ1 => (b = true → postt true Γ1) ∧ (b = false → GoT K F B0 tu T Γ1 postt)) : GoT K F B0 (tOr tt tu) T Γ postt := fun τ σ H Q hw k =>
  h τ σ H _ hw fun b Γ1 H1 ⟨h1, h2⟩ w1 => by
    cases b with
    | true => exact iteT (k _ _ _ (h1 rfl) w1)
    | false => exact iteF (h2 rfl τ σ H1 Q w1 k)
theorem got_not (h : GoT K F B0 tt T Γ fun b Γ1 => postt (!b) Γ1) : GoT K F B0 (tNot tt) T Γ postt := fun τ σ H Q hw k =>
  h τ σ H _ hw fun b Γ1 H1 h1 w1 => k _ _ _ h1 w1
theorem go_andV (h : Go K F B0 ta T Γ fun o Γ1 => ∃ b, o = .d (.bl b) ∧ (b = true → Go K F B0 tb T Γ1 post) ∧ (b = false → post (.d (.bl false)) Γ1)) : Go K F B0 (tAndV ta tb) T Γ post := fun τ σ H Q hw k =>
  h τ σ H _ hw fun v o Γ1 H1 ⟨b, e, h1, h2⟩ ⟨_, _, w1⟩ => by
    subst e
    obtain ⟨r, _, _, w⟩ := w1.popd
    cases r
    refine ⟨b, rfl, ?_⟩
    cases b with
    | true => exact iteT (h1 rfl τ σ H1 Q ⟨_, _, w⟩ k)
    | false => exact iteF (k _ _ _ _ (h2 rfl) ⟨_, _, w1⟩)
theorem go_orV (h : Go K F B0 ta T Γ fun o Γ1 => ∃ b, o = .d (.bl b) ∧ (b = true → post (.d (.bl true)) Γ1) ∧ (b = false → Go K F B0 tb T Γ1 post)) : Go K F B0 (tOrV ta tb) T Γ post := fun τ σ H Q hw k =>
  h τ σ H _ hw fun v o Γ1 H1 ⟨b, e, h1, h2⟩ ⟨_, _, w1⟩ => by
    subst e
    obtain ⟨r, _, _, w⟩ := w1.popd
    cases r
    refine ⟨b, rfl, ?_⟩
    cases b with
    | true => exact iteT (k _ _ _ _ (h1 rfl) ⟨_, _, w1⟩)
    | false => exact iteF (h2 rfl τ σ H1 Q ⟨_, _, w⟩ k)
theorem go_notV (h : Go K F B0 ta T Γ fun o Γ1 => ∃ b, o = .d (.bl b) ∧ post (.d (.bl (!b))) Γ1) : Go K F B0 (tNotV ta) T Γ post := fun τ σ H Q hw k =>
  h τ σ H _ hw fun v o Γ1 H1 ⟨b, e, h1⟩ ⟨_, _, w1⟩ => by
    subst e
    obtain ⟨r, _, _, w⟩ := w1.popd
    cases r
    exact ⟨b, rfl, k _ _ _ _ h1 ⟨_, _, w.pushd .bl⟩⟩
variable {t1 t2 : TS} {Dd : EG}
theorem gos_seq (h : GoS K F B0 t1 T Γ { Dd with nx := fun Γ1 => GoS K F B0 t2 T Γ1 Dd }) : GoS K F B0 (tSeq t1 t2) T Γ Dd := fun τ σ H De hw s =>
  h τ σ H _ hw ⟨fun σ1 Γ1 H1 q w => q τ σ1 H1 De w s, s.rt, s.bk, s.ct⟩
theorem gos_next (h : Dd.nx Γ) : GoS K F B0 tNext T Γ Dd := fun τ σ H De hw s => s.nx σ Γ H h hw
theorem gos_brk (h : Dd.bk Γ) : GoS K F B0 tBreak T Γ Dd := fun τ σ H De hw s => s.bk σ Γ H h hw
theorem gos_ret (h : Go K F B0 te T Γ Dd.rt) : GoS K F B0 (tRet te) T Γ Dd := fun τ σ H De hw s => h τ σ H _ hw fun v o Γ1 H1 h1 w1 => s.rt v o σ Γ1 H1 h1 w1
theorem gos_asg {g : TG} (h : Go K F B0 te T Γ fun o Γ1 => GoG K F B0 g o T Γ1 Dd.nx) : GoS K F B0 (tAsg te g) T Γ Dd := fun τ σ H De hw s =>
  h τ σ H _ hw fun v o Γ1 H1 h1 w1 => h1 τ σ H1 v _ w1 fun σ2 Γ2 H2 h2 w2 => s.nx σ2 Γ2 H2 h2 w2
theorem gog_name (hi : i < Γ.length) (h : posts1 (Γ.set i (some o))) : GoG K F B0 (gName i) o T Γ posts1 := fun τ σ H v Q ⟨_, _, w⟩ k => by
  obtain ⟨S', w⟩ := w.put hi
  exact k _ _ _ h ⟨_, S', w⟩
theorem gos_drop (h : Go K F B0 te T Γ fun _ Γ1 => Dd.nx Γ1) : GoS K F B0 (tDrop te) T Γ Dd := fun τ σ H De hw s =>
  h τ σ H _ hw fun v o Γ1 H1 h1 ⟨_, _, w1⟩ => by
    obtain ⟨_, _, _, _, _, _, w⟩ := w1.pop
    exact s.nx σ Γ1 H1 h1 ⟨_, _, w⟩
theorem gos_if (h : GoT K F B0 tt T Γ fun b Γ1 => (b = true → GoS K F B0 t1 T Γ1 Dd) ∧ (b = false → GoS K F B0 t2 T Γ1 Dd)) : GoS K F B0 (tIfS tt t1 t2) T Γ Dd := fun τ σ H De hw s =>
  h τ σ H _ hw fun b Γ1 H1 ⟨h1, h2⟩ w1 => by
    cases b with
    | true => exact iteT (h1 rfl τ σ H1 De w1 s)
    | false => exact iteF (h2 rfl τ σ H1 De w1 s)
/-- x op= e of a name -/
theorem gos_aug {ip : TIp} (h : ∃ x, Γ[i]? = some (some (.d x)) ∧ Go K F B0 te (.d x :: T) Γ fun o Γ1 => Op2 K F B0 ip x o.fz T Γ1 fun o2 Γ2 => i < Γ2.length ∧ Dd.nx (Γ2.set i (some o2))) : GoS K F B0 (tAug i te ip) T Γ Dd := fun τ σ H De ⟨_, _, w⟩ s => by
  obtain ⟨x, e, h⟩ := h
  obtain ⟨v, a, r⟩ := w.getd e
  refine ⟨v, a, h _ σ H _ ⟨_, _, w.pushd r⟩ fun v2 o2 Γ2 H2 h2 ⟨_, _, w2⟩ => ?_⟩
  obtain ⟨_, _, w2, r2, _⟩ := w2.fzd
  obtain ⟨r1, _, _, w2⟩ := w2.popd
  refine h2 τ σ H2 _ _ v v2 _ w2 r1 r2 fun v3 o3 Γ3 H3 ⟨hi, h3⟩ ⟨_, _, w3⟩ => ?_
  obtain ⟨S', w3⟩ := w3.put hi
  exact s.nx _ _ _ h3 ⟨_, S', w3⟩
end
end SK
namespace SK
open PySem PySem.Spec PyProof.Rows L2
section
variable {K : PySem.W.Frag} {F B0 H H' B B' : Hp} {τ τs : List V} {T os : List O} {σ : L2.St} {Γ : En} {S S1 S2 : Ad} {v : V} {o o1 o2 : O} {x : D} {post : O → En → Prop} {ta tb te : TE} {tt tu : TT} {i : Nat} {posts : List D → En → Prop} {postt : Bool → En → Prop} {posts1 : En → Prop} {Dd : EG}
/-- the pile's topmost things fall away -/
theorem HW.drop : ∀ {τs : List V} {os : List O} {S : Ad}, HW K F B0 (τs ++ τ) (os ++ T) σ Γ H B S → τs.length = os.length → ∃ S', HW K F B0 τ T σ Γ H B S'
  | [], [], S, h, _ => ⟨S, h⟩
  | v :: τs, o :: os, S, h, l => by
    obtain ⟨_, _, _, _, _, _, w⟩ := HW.pop (τ := τs ++ τ) (T := os ++ T) h
    exact w.drop (by simpa using l)
theorem RS.drop1 {a : Option V} {b : Option O} {σ : List (Option V)} {Γ : List (Option O)} {S : Ad} (h : RS K B H S (a :: σ) (b :: Γ)) : RS K B H S σ Γ := by
  cases h with
  | un r => exact r
  | cons s1 s2 dj r rs => exact rs.tr (.refl B) s2 fun _ _ _ e => e
theorem RS.drops {σ1 : List (Option V)} {Γ1 : List (Option O)} : ∀ {σ0 : List (Option V)} {Γ0 : List (Option O)} {S : Ad}, σ0.length = Γ0.length → RS K B H S (σ0 ++ σ1) (Γ0 ++ Γ1) → RS K B H S σ1 Γ1
  | [], [], _, _, h => h
  | _ :: _, _ :: _, _, l, h => RS.drops (by simpa using l) (RS.drop1 h)
/-- what lies below the first thing falls away -/
theorem HW.under (h : HW K F B0 (v :: (τs ++ τ)) (o :: (os ++ T)) σ Γ H B S) (l : τs.length = os.length) : HW K F B0 (v :: τ) (o :: T) σ Γ H B S := by
  refine ⟨h.fr, h.pu, h.b0, h.ow, h.nw, ?_, ?_⟩
  · have r := h.rs
    simp only [List.map_cons, List.map_append, List.cons_append, List.append_assoc] at r ⊢
    cases r with
    | cons s1 s2 dj a rs => exact .cons s1 s2 dj a (rs.drops (by simp [l]))
  · have := h.lt
    simp only [List.length_cons, List.length_append] at this ⊢
    omega
theorem RL.one {x : D} {vs : List V} (r : RL K B vs [x]) : ∃ v, vs = [v] ∧ R K B v x := by
  cases r with | cons r t => cases t; exact ⟨_, rfl, r⟩
theorem RL.two {x y : D} {vs : List V} (r : RL K B vs [x, y]) : ∃ v w, vs = [v, w] ∧ R K B v x ∧ R K B w y := by
  cases r with | cons r t => cases t with | cons r2 t => cases t; exact ⟨_, _, rfl, r, r2⟩
/-- J walks ds, while hs (at τs) stand -/
def Iter (K : PySem.W.Frag) (F B0 : Hp) (J : It) (τs : List V) (hs : List D) (ds : List D) : Prop :=
  ∀ (τ : List V) (T : List O) (σ : L2.St) (Γ : En) (H B : Hp) (S : Ad), HW K F B0 τ T σ Γ H B S → RL K B τs hs →
    (J.stop ds.length H) ∧ ∀ (i : Nat) (d : D), ds[i]? = some d → J.go i H ∧ ∀ x H', J.yld i H x H' → ∃ B' S', HW K F B0 (x :: τ) (.d d :: T) σ Γ H' B' S'
def GoI (K : PySem.W.Frag) (F B0 : Hp) (wi : TI) (T : List O) (Γ : En) (post : List D → List D → En → Prop) : Prop := ∀ (τ : List V) (σ : L2.St) (H : Hp) (Q : It → Hp → Prop), Ho K F B0 τ T σ Γ H →
  (∀ J τs hs ds Γ' H', post ds hs Γ' → Ho K F B0 (τs ++ τ) (hs.map O.d ++ T) σ Γ' H' → τs.length = hs.length → Iter K F B0 J τs hs ds → Q J H') → wi σ H Q
theorem HW.held : ∀ {hs : List D} {τs : List V} {S : Ad}, HW K F B0 (τs ++ τ) (hs.map O.d ++ T) σ Γ H B S → τs.length = hs.length → RL K B τs hs
  | [], [], _, _, _ => .nil
  | x :: hs, v :: τs, S, h, l => by
    obtain ⟨r, S2, _, w⟩ := HW.popd (τ := τs ++ τ) (T := hs.map O.d ++ T) h
    exact .cons r (w.held (by simpa using l))
theorem gos_for {wi : TI} {g : TG} {tb : TS} (h : GoI K F B0 wi T Γ fun ds hs Γ1 => ∃ Iv : Nat → En → Prop, Iv 0 Γ1 ∧
    (∀ i d Γ', ds[i]? = some d → Iv i Γ' → GoG K F B0 g (.d d) (hs.map O.d ++ T) Γ' fun Γ2 => GoS K F B0 tb (hs.map O.d ++ T) Γ2 { nx := Iv (i + 1), rt := Dd.rt, bk := Dd.nx, ct := Iv (i + 1) }) ∧
    ∀ Γ', Iv ds.length Γ' → Dd.nx Γ') : GoS K F B0 (tFor wi g tb) T Γ Dd := fun τ σ H De hw s =>
  h τ σ H _ hw fun J τs hs ds Γ1 H1 ⟨Iv, h0, hst, hd⟩ w1 hl it => by
    have hl' : τs.length = (hs.map O.d).length := by simp [hl]
    refine ⟨fun i m σ' H' => m = ds.length - i ∧ i ≤ ds.length ∧ ∃ Γ', Iv i Γ' ∧ Ho K F B0 (τs ++ τ) (hs.map O.d ++ T) σ' Γ' H', ⟨ds.length, by simp, Nat.zero_le _, Γ1, h0, w1⟩, ?_⟩
    rintro i m σ' H' ⟨rfl, hi, Γ', p, B', S', w⟩
    obtain ⟨q1, q2⟩ := it _ _ σ' Γ' H' B' S' w (w.held hl)
    by_cases hlt : i < ds.length
    · obtain ⟨q3, q4⟩ := q2 i ds[i] (by simp [hlt])
      refine .inr ⟨q3, fun σ2 H2 => ∃ Γ2, Iv (i + 1) Γ2 ∧ Ho K F B0 (τs ++ τ) (hs.map O.d ++ T) σ2 Γ2 H2, fun σ2 H2 z => ⟨ds.length - (i + 1), by omega, rfl, hlt, z⟩, fun x H2 y => ?_⟩
      obtain ⟨B2, S2, w2⟩ := q4 x H2 y
      refine hst i ds[i] Γ' (by simp [hlt]) p (τs ++ τ) σ' H2 x _ ⟨B2, S2, w2⟩ fun σ3 Γ3 H3 h3 w3 => h3 _ σ3 H3 _ w3 ⟨fun σ4 Γ4 H4 z w4 => ⟨Γ4, z, w4⟩, fun v o σ4 Γ4 H4 z ⟨B4, S4, w4⟩ => s.rt v o σ4 Γ4 H4 z ⟨B4, S4, w4.under hl'⟩,
        fun σ4 Γ4 H4 z ⟨B4, S4, w4⟩ => ?_, fun σ4 Γ4 H4 z w4 => ⟨Γ4, z, w4⟩⟩
      obtain ⟨S5, w5⟩ := w4.drop hl'
      exact s.nx σ4 Γ4 H4 z ⟨B4, S5, w5⟩
    · have e : i = ds.length := by omega
      subst e
      obtain ⟨S5, w5⟩ := w.drop hl'
      exact .inl ⟨q1, s.nx σ' Γ' H' (hd Γ' p) ⟨B', S5, w5⟩⟩
theorem RL.get : ∀ {vs : List V} {xs : List D} {i : Nat} {x : D}, RL K B vs xs → xs[i]? = some x → ∃ v, vs[i]? = some v ∧ R K B v x
  | _, _, _, _, .nil, h => by simp at h
  | _, _, 0, _, .cons (v := v) r _, h => by simp at h; subst h; exact ⟨v, rfl, r⟩
  | _, _, i + 1, x, .cons _ t, h => by
    obtain ⟨v, a, b⟩ := RL.get (i := i) t (by simpa using h)
    exact ⟨v, by simpa using a, b⟩
theorem Rd.inj {a : Addr} {xs ys : List V} (h : Rd H a (.lst xs)) (h' : Rd H a (.lst ys)) : xs = ys := by
  rcases h with h | ⟨o, h⟩ <;> rcases h' with h' | ⟨o', h'⟩ <;> rw [h] at h' <;> cases h' <;> rfl
theorem Ex.sqL (e : Ex H H') {a : Addr} {xs : List V} (h : SqL K H a xs) : SqL K H' a xs := h.imp e.rd id
theorem Ex.sqT (e : Ex H H') {a : Addr} {xs : List V} (h : SqT K H a xs) : SqT K H' a xs := h.imp e.rd id
/-- what a name's walk says of a list -/
def D.seq? : D → Option (List D)
  | .lst xs => some xs
  | .sq xs => some xs
  | _ => none
theorem R.seqL {xs : List D} (r : R K B v x) (q : x.seq? = some xs) : ∃ a vs, v = .ref a ∧ SqL K B a vs ∧ RL K B vs xs := by
  cases r with
  | lst h r => cases q; exact ⟨_, _, rfl, SqL.of h, r⟩
  | sq h r => cases q; exact ⟨_, _, rfl, h, r⟩
  | _ => cases q
theorem iter_list {a : Addr} {xs : List D} (q : x.seq? = some xs) : Iter K F B0 (Itl K a) [.ref a] [x] xs := by
  intro τ T σ Γ H B S h rl0
  obtain ⟨v0, e0, r⟩ := rl0.one
  cases e0
  obtain ⟨a', vs, e, sq, rl⟩ := r.seqL q
  cases e
  have sqh := h.pu.sqL sq
  refine ⟨⟨vs, sqh, by rw [rl.length]; exact Nat.le_refl _⟩, fun i d hd => ?_⟩
  obtain ⟨y, hy, ry⟩ := rl.get hd
  refine ⟨⟨vs, y, sqh, hy⟩, fun x H' ⟨e, y'⟩ => ?_⟩
  subst e
  have := y' vs sqh
  rw [hy] at this
  cases this
  exact ⟨B, _, h.pushd ry⟩
theorem iter_tup {a : Addr} {xs : List D} : Iter K F B0 (Itt K a) [.ref a] [.tup xs] xs := by
  intro τ T σ Γ H B S h rl0
  obtain ⟨v0, e0, r⟩ := rl0.one
  cases e0
  cases r with
  | @tup _ vs _ sq rl =>
  have sqh := h.pu.sqT sq
  refine ⟨⟨vs, sqh, by rw [rl.length]; exact Nat.le_refl _⟩, fun i d hd => ?_⟩
  obtain ⟨y, hy, ry⟩ := rl.get hd
  refine ⟨⟨vs, y, sqh, hy⟩, fun x H' ⟨e, y'⟩ => ?_⟩
  subst e
  have := y' vs sqh
  rw [hy] at this
  cases this
  exact ⟨B, _, h.pushd ry⟩
def rngD (lo : Int) (n : Nat) : List D := (List.range n).map fun (i : Nat) => D.int (lo + (i : Int))
theorem iter_rng {lo : Int} {n : Nat} : Iter K F B0 (Itr lo n) [] [] (rngD lo n) := by
  intro τ T σ Γ H B S h _
  refine ⟨by simp [rngD, Itr], fun i d hd => ?_⟩
  have hi : i < n := by
    have := (List.getElem?_eq_some_iff.mp hd).1
    simpa [rngD] using this
  have e : d = .int (lo + (i : Int)) := by
    simp [rngD, hi] at hd
    exact hd.symm
  refine ⟨hi, fun x H' ⟨e1, e2⟩ => ?_⟩
  subst e1 e2 e
  exact ⟨B, _, HW.pushd (τ := τ) (T := T) h .int⟩
theorem goi_rng1 {ta : TA} {posti : List D → List D → En → Prop} (h : GoA K F B0 ta T Γ fun xs Γ1 => ∃ j : Int, xs = [.int j] ∧ -(2 ^ 62) ≤ j ∧ j < 2 ^ 62 ∧ posti (rngD 0 j.toNat) [] Γ1) : GoI K F B0 (iRng1 ta) T Γ posti := fun τ σ H Q hw k =>
  h τ σ H _ hw fun vs xs Γ1 H1 ⟨j, e, q1, q2, h1⟩ ⟨_, _, w1⟩ hl => by
    subst e
    obtain ⟨rl, S', w⟩ := w1.args hl
    cases rl with | cons r rl => cases rl; cases r; exact ⟨j, rfl, q1, q2, k _ [] [] _ Γ1 H1 h1 ⟨_, _, w⟩ rfl iter_rng⟩
theorem goi_rng2 {ta : TA} {posti : List D → List D → En → Prop} (h : GoA K F B0 ta T Γ fun xs Γ1 => ∃ i j : Int, xs = [.int i, .int j] ∧ (-(2 ^ 62) ≤ i ∧ i < 2 ^ 62 ∧ -(2 ^ 62) ≤ j ∧ j < 2 ^ 62) ∧ posti (rngD i (j - i).toNat) [] Γ1) : GoI K F B0 (iRng2 ta) T Γ posti := fun τ σ H Q hw k =>
  h τ σ H _ hw fun vs xs Γ1 H1 ⟨i, j, e, q, h1⟩ ⟨_, _, w1⟩ hl => by
    subst e
    obtain ⟨rl, S', w⟩ := w1.args hl
    cases rl with | cons r rl => cases rl with | cons r2 rl => cases rl; cases r; cases r2; exact ⟨i, j, rfl, q, k _ [] [] _ Γ1 H1 h1 ⟨_, _, w⟩ rfl iter_rng⟩
def sgnD (s : Str) : List D := s.cps.toList.map fun c => D.str ⟨#[c]⟩
theorem iter_str {s : Str} : Iter K F B0 (Its s) [] [] (sgnD s) := by
  intro τ T σ Γ H B S h _
  refine ⟨by simp [sgnD, Its], fun i d hd => ?_⟩
  have hi : i < s.cps.size := by
    have := (List.getElem?_eq_some_iff.mp hd).1
    simpa [sgnD] using this
  refine ⟨hi, fun x H' ⟨e1, c, e2, e3⟩ => ?_⟩
  subst e1 e3
  have e : d = .str ⟨#[c]⟩ := by
    simp [sgnD, e2] at hd
    exact hd.symm
  subst e
  exact ⟨B, _, HW.pushd (τ := τ) (T := T) h .str⟩
def enumD (xs : List D) : List D := xs.zipIdx.map fun p => D.tup [.int (p.2 : Int), p.1]
theorem enumD_get {xs : List D} {i : Nat} : (enumD xs)[i]? = xs[i]?.map fun x => D.tup [.int (i : Int), x] := by
  simp [enumD, List.getElem?_zipIdx, Option.map_map, Function.comp_def]
theorem enumD_len {xs : List D} : (enumD xs).length = xs.length := by simp [enumD]
theorem iter_enum {a : Addr} {xs : List D} (q : x.seq? = some xs) : Iter K F B0 (Ite K a) [.ref a] [x] (enumD xs) := by
  intro τ T σ Γ H B S h rl0
  obtain ⟨v0, e0, r⟩ := rl0.one
  cases e0
  obtain ⟨a', vs, e, sq, rl⟩ := r.seqL q
  cases e
  have sqh := h.pu.sqL sq
  refine ⟨⟨vs, sqh, by rw [rl.length, enumD_len]; exact Nat.le_refl _⟩, fun i d hd => ?_⟩
  rw [enumD_get] at hd
  cases hx : xs[i]? with
  | none => rw [hx] at hd; cases hd
  | some x0 =>
  rw [hx] at hd
  cases hd
  obtain ⟨y, hy, ry⟩ := rl.get hx
  refine ⟨⟨vs, y, sqh, hy⟩, fun x H' ⟨t, x1, e1, e2, e3, y'⟩ => ?_⟩
  subst e1 e3
  have := y' vs sqh
  rw [hy] at this
  cases this
  obtain ⟨S', w'⟩ := HW.newd h e2 (x := .tup [.int (i : Int), x0]) (.tup (SqT.of upd_same) (.cons .int (.cons (ry.mono (.of_ex (.new (h.pu.back e2)))) .nil)))
  exact ⟨_, S', w'⟩
theorem goi_enum {ta : TA} {posti : List D → List D → En → Prop} (h : GoA K F B0 ta T Γ fun ys Γ1 => ∃ x xs, ys = [x] ∧ x.seq? = some xs ∧ posti (enumD xs) [x] Γ1) : GoI K F B0 (iEnum K ta) T Γ posti := fun τ σ H Q hw k =>
  h τ σ H _ hw fun vs ys Γ1 H1 ⟨x, xs, e, q, h1⟩ ⟨_, _, w1⟩ hl => by
    subst e
    obtain ⟨rl, S', w⟩ := w1.args hl
    cases rl with | cons r rl0 => cases rl0; obtain ⟨a, us, e, sq, rl2⟩ := r.seqL q; subst e; exact ⟨a, us, rfl, w.pu.sqL sq, k (Ite K a) [.ref a] [x] _ Γ1 H1 h1 ⟨_, _, w.pushd r⟩ rfl (iter_enum q)⟩
def zipD (xs ys : List D) : List D := (xs.zip ys).map fun p => D.tup [p.1, p.2]
theorem iter_zip {a b : Addr} {x y : D} {xs ys : List D} (q : x.seq? = some xs) (q2 : y.seq? = some ys) : Iter K F B0 (Itz K a b) [.ref b, .ref a] [y, x] (zipD xs ys) := by
  intro τ T σ Γ H B S h rl0
  obtain ⟨v0, v1, e0, r2, r⟩ := rl0.two
  cases e0
  obtain ⟨a', vs, e, sq, rl⟩ := r.seqL q
  cases e
  obtain ⟨b', us, e, sq2, rl2⟩ := r2.seqL q2
  cases e
  have sqh := h.pu.sqL sq
  have sqh2 := h.pu.sqL sq2
  refine ⟨⟨vs, us, sqh, sqh2, by simp only [zipD, List.length_map, List.length_zip]; have := rl.length; have := rl2.length; omega⟩, fun i d hd => ?_⟩
  have hi : i < (zipD xs ys).length := (List.getElem?_eq_some_iff.mp hd).1
  simp only [zipD, List.length_map, List.length_zip] at hi
  have hxi : i < xs.length := by omega
  have hyi : i < ys.length := by omega
  have e : d = .tup [xs[i], ys[i]] := by
    simp [zipD, hxi, hyi, List.getElem?_map, List.zip, List.getElem?_zipWith] at hd
    exact hd.symm
  subst e
  obtain ⟨x1, hx1, rx1⟩ := rl.get (i := i) (x := xs[i]) (by simp [hxi])
  obtain ⟨y1, hy1, ry1⟩ := rl2.get (i := i) (x := ys[i]) (by simp [hyi])
  refine ⟨⟨vs, us, x1, y1, sqh, sqh2, hx1, hy1⟩, fun z H' ⟨t, x2, y2, e1, e2, e3, f1, f2⟩ => ?_⟩
  subst e1 e3
  have g1 := f1 vs sqh
  rw [hx1] at g1
  cases g1
  have g2 := f2 us sqh2
  rw [hy1] at g2
  cases g2
  have ex : Ex B (upd B t (.tup [x1, y1])) := .new (h.pu.back e2)
  obtain ⟨S', w'⟩ := HW.newd h e2 (x := .tup [xs[i], ys[i]]) (.tup (SqT.of upd_same) (.cons (rx1.mono (.of_ex ex)) (.cons (ry1.mono (.of_ex ex)) .nil)))
  exact ⟨_, S', w'⟩
theorem goi_zip {ta : TA} {posti : List D → List D → En → Prop} (h : GoA K F B0 ta T Γ fun zs Γ1 => ∃ x y xs ys, zs = [x, y] ∧ x.seq? = some xs ∧ y.seq? = some ys ∧ posti (zipD xs ys) [y, x] Γ1) : GoI K F B0 (iZip K ta) T Γ posti := fun τ σ H Q hw k =>
  h τ σ H _ hw fun vs zs Γ1 H1 ⟨x, y, xs, ys, e, q, q2, h1⟩ ⟨_, _, w1⟩ hl => by
    subst e
    obtain ⟨rl, S', w⟩ := w1.args hl
    cases rl with | cons r rl0 => cases rl0 with | cons r2 rl0 => cases rl0; obtain ⟨a, us, e, sq, rl2⟩ := r.seqL q; obtain ⟨b, us2, e2, sq2, rl3⟩ := r2.seqL q2; subst e e2; exact ⟨a, b, us, us2, rfl, w.pu.sqL sq, w.pu.sqL sq2, k (Itz K a b) [.ref b, .ref a] [y, x] _ Γ1 H1 h1 ⟨_, _, (w.pushd r).pushd r2⟩ rfl (iter_zip q q2)⟩
def GoGs (K : PySem.W.Frag) (F B0 : Hp) (g : TGs) (xs : List D) (T : List O) (Γ : En) (post : En → Prop) : Prop := ∀ (τ : List V) (σ : L2.St) (H B : Hp) (S : Ad) (vs : List V) (Q : L2.St → Hp → Prop), HW K F B0 τ T σ Γ H B S → RL K B vs xs →
  (∀ σ' Γ' H', post Γ' → Ho K F B0 τ T σ' Γ' H' → Q σ' H') → g vs σ H Q
theorem gog_tup {g : TGs} {n : Nat} (h : ∃ xs, o = .d (.tup xs) ∧ xs.length = n ∧ GoGs K F B0 g xs T Γ posts1) : GoG K F B0 (gTup K n g) o T Γ posts1 := fun τ σ H v Q ⟨B, S, w⟩ k => by
  obtain ⟨xs, rfl, hn, h⟩ := h
  obtain ⟨r, S2, _, w2⟩ := w.popd
  cases r with
  | @tup a vs _ sq rl => exact ⟨a, vs, rfl, w.pu.sqT sq, by rw [rl.length, hn], h τ σ H B S2 vs Q w2 rl k⟩
theorem gogs_nil (h : posts1 Γ) : GoGs K F B0 gNil [] T Γ posts1 := fun τ σ H B S vs Q w r k => by
  cases r
  exact ⟨rfl, k σ Γ H h ⟨_, _, w⟩⟩
theorem gogs_name {xs : List D} {g : TGs} (hi : i < Γ.length) (h : GoGs K F B0 g xs T (Γ.set i (some (.d x))) posts1) : GoGs K F B0 (gCons (gName i) g) (x :: xs) T Γ posts1 := fun τ σ H B S vs Q w r k => by
  cases r with
  | cons r rl =>
    obtain ⟨S', w'⟩ := (w.pushd r).put hi
    exact ⟨_, _, rfl, h τ _ H B S' _ Q w' rl k⟩
end
end SK
namespace SK
open PySem PySem.Spec PyProof.Rows L2
/-- == of two dicts that hold the same flat things -/
def SameD (H : Hp) (x y : V) : Prop := ∃ a b ks ls, x = .ref a ∧ y = .ref b ∧ Rd H a (.dK ks) ∧ Rd H b (.dK ls) ∧ ks.length = ls.length ∧ ∀ p ∈ ks, valV ls p.1 = some p.2 ∧ flatB p.2 = true
def rEqDR : R2 := fun x y H Q => SameD H x y ∧ Q (.bl true) H
def rNeDR : R2 := fun x y H Q => SameD H x y ∧ Q (.bl false) H
theorem op_eqDR {X : Cx} (hu : X.A.units < cLine) : OpR X (compareOp .Eq) rEqDR := fun pins s σ H x y v u Q I rx ry ⟨⟨a, b, ks, ls, ex, ey, ra, rb, hl, hp⟩, q⟩ => by
  subst ex ey
  cases rx; cases ry
  obtain ⟨_, na, va, ka, da⟩ := dk_rd I.hok ra
  obtain ⟨_, nb, vb, kb, db⟩ := dk_rd I.hok rb
  have len : va.length = vb.length := (ka.length.symm.trans hl).trans kb.length
  exact PySem.W.keq_eq (knd := mixKind X.prog X.w) (r := true) na nb da db hu (fun _ => hits_all kb ka hp) (fin_bl I q (by simp [len]))
theorem op_neDR {X : Cx} (hu : X.A.units < cLine) : OpR X (compareOp .NotEq) rNeDR := fun pins s σ H x y v u Q I rx ry ⟨⟨a, b, ks, ls, ex, ey, ra, rb, hl, hp⟩, q⟩ => by
  subst ex ey
  cases rx; cases ry
  obtain ⟨_, na, va, ka, da⟩ := dk_rd I.hok ra
  obtain ⟨_, nb, vb, kb, db⟩ := dk_rd I.hok rb
  have len : va.length = vb.length := (ka.length.symm.trans hl).trans kb.length
  exact PySem.W.keq_ne (knd := mixKind X.prog X.w) (r := true) na nb da db hu (fun _ => hits_all kb ka hp) (fin_bl I q (by simp [len]))
def rAddG (K : PySem.W.Frag) : R2 := fun x y H Q => rI0 (fun i j => .int (i + j)) x y H Q ∨ ((∃ i j, x = .str i ∧ y = .str j ∧ i.length + j.length ≤ sizeLine ∧ Q (.str (i ++ j)) H) ∨ (rCat x y H Q ∨ rCatT K x y H Q))
def rSubG : R2 := rI0 fun i j => .int (i - j)
def repS (a : Str) (n : Int) : Str := ⟨(List.replicate n.toNat a.cps).foldl (· ++ ·) #[]⟩
def rMulS : R2 := fun x y H Q => ∃ a n, x = .str a ∧ y = .int n ∧ 2 ≤ n ∧ n ≤ 100000 ∧ a.length ≤ 100 ∧ 0 < a.length ∧ Q (.str (repS a n)) H
theorem repS_size (a : Str) (n : Int) : (repS a n).length = a.length * n.toNat := by
  have : ∀ (k : Nat) (z : Array Nat), ((List.replicate k a.cps).foldl (· ++ ·) z).size = z.size + a.cps.size * k := by
    intro k
    induction k with
    | zero => intro z; simp
    | succ k ih =>
      intro z
      rw [List.replicate_succ, List.foldl_cons, ih, Array.size_append, Nat.mul_succ]
      omega
  show ((List.replicate n.toNat a.cps).foldl (· ++ ·) #[]).size = _
  rw [this]
  simp [Str.length]
theorem op_mulS {X : Cx} : OpR X (binaryOp .Mult) rMulS := by
  intro pins s σ H x y v u Q I rx ry h
  obtain ⟨a, n, rfl, rfl, h1, h2, h3, h4, q⟩ := h
  obtain ⟨t, rfl⟩ := rx
  obtain ⟨t', rfl⟩ := ry
  have hn : ¬ n < 1 := by omega
  have e1 : (n == 1 || a.length == 0) = false := by
    have : n ≠ 1 := by omega
    have : a.length ≠ 0 := by omega
    simp [*]
  have hz : a.length * n.toNat ≤ sizeLine := by
    have : n.toNat ≤ 100000 := by omega
    have : a.length * n.toNat ≤ 100 * 100000 := Nat.mul_le_mul h3 this
    exact Nat.le_trans this (by decide)
  refine P.mul_str ?_ (fun _ _ => ?_) (fun _ _ => ?_) ?_
  · have q1 : ¬ n < -(2 ^ 63 : Int) := by omega
    have q2 : ¬ n ≥ 2 ^ 63 := by omega
    rw [decide_eq_false q1, decide_eq_false q2]; rfl
  · have : (100 : Int) ≤ (2 ^ 63 - 1) / n := by
      rw [Int.le_ediv_iff_mul_le (by omega)]
      omega
    omega
  · show decide (_ > sizeLine) = false
    exact decide_eq_false (by omega)
  · rw [if_neg hn, if_neg (by rw [e1]; exact Bool.false_ne_true)]
    have hs : (repS a n).length ≤ sizeLine := by rw [repS_size]; exact hz
    exact ⟨hs, ⟨.str (repS a n), H, I.tok _, ⟨_, rfl⟩, q⟩⟩
def rMulG : R2 := fun x y H Q => rI IntMulOk (fun i j => .int (i * j)) x y H Q ∨ (rRep x y H Q ∨ rMulS x y H Q)
def rDivG : R2 := rI CDivW fun i j => .int (i / j)
def rModG : R2 := rI (fun _ j => 0 < j) fun i j => .int (i % j)
def rPowG : R2 := rI CPow fun i j => .int (i ^ j.toNat)
def rShrG : R2 := rI (fun _ j => 0 ≤ j) fun i j => .int (i / 2 ^ j.toNat)
def rAndG : R2 := rI0 fun i j => .int (Builtin.bitAnd i j)
def rEqG (K : PySem.W.Frag) : R2 := fun x y H Q => rEq x y H Q ∨ (rEqD K x y H Q ∨ rEqDR x y H Q)
def rNeG (K : PySem.W.Frag) : R2 := fun x y H Q => rNe x y H Q ∨ (rNeD K x y H Q ∨ rNeDR x y H Q)
def rLtG (K : PySem.W.Frag) : R2 := fun x y H Q => rI0 (fun i j => .bl (decide (i < j))) x y H Q ∨ rLtT K x y H Q
def rLeG : R2 := rI0 fun i j => .bl (decide (i ≤ j))
def rGtG : R2 := rI0 fun i j => .bl (decide (j < i))
def rGeG : R2 := rI0 fun i j => .bl (decide (j ≤ i))
def rIsG : R2 := fun x y H Q => y = .non ∧ Q (.bl (decide (x = .non))) H
def rNotG : R2 := fun x y H Q => y = .non ∧ Q (.bl (!decide (x = .non))) H
def rInDic : R2 := fun y x H Q => ∃ a o, x = .ref a ∧ DGet H a y o ∧ Q (.bl o.isSome) H
def rInSg : R2 := fun x y H Q => ∃ (c : Nat) (z : Str), x = .str ⟨#[c]⟩ ∧ y = .str z ∧ Q (.bl (decide (c ∈ z.cps.toList))) H
def rInG (K : PySem.W.Frag) : R2 := fun x y H Q => rIn K false x y H Q ∨ (rInDic x y H Q ∨ rInSg x y H Q)
section
variable {X : Cx}
theorem op_addG : OpR X (binaryOp .Add) (rAddG X.K) := op_add.or (op_add_str.or (op_cat.or op_catT))
theorem op_subG : OpR X (binaryOp .Sub) rSubG := op_sub
theorem op_mulI : OpR X (binaryOp .Mult) (rI IntMulOk fun i j => .int (i * j)) := opI fun i j t u s Q E hc h => mul_int h hc
theorem op_mulG : OpR X (binaryOp .Mult) rMulG := op_mulI.or (op_rep.or op_mulS)
theorem op_divG : OpR X (binaryOp .FloorDiv) rDivG := op_fdivW
theorem op_modG : OpR X (binaryOp .Mod) rModG := op_mod
theorem op_powG : OpR X (binaryOp .Pow) rPowG := op_pow
theorem op_shrG : OpR X (binaryOp .RShift) rShrG := op_shr
theorem op_andG : OpR X (binaryOp .BitAnd) rAndG := op_and
theorem op_eqG (hu : X.A.units + 64 < cLine) : OpR X (compareOp .Eq) (rEqG X.K) := op_eq.or ((op_eqD hu).or (op_eqDR (by omega)))
theorem op_neG (hu : X.A.units + 64 < cLine) : OpR X (compareOp .NotEq) (rNeG X.K) := op_ne.or ((op_neD hu).or (op_neDR (by omega)))
theorem op_ltG (hu : X.A.units < cLine) : OpR X (compareOp .Lt) (rLtG X.K) := op_lt.or (op_ltT hu)
theorem op_gtG : OpR X (compareOp .Gt) rGtG := op_gt
theorem op_isG : OpR X (compareOp .Is) rIsG := op_isN
theorem op_notG : OpR X (compareOp .IsNot) rNotG := op_notN
theorem op_inDic (hu : X.A.units + 1 < cLine) : OpR X (compareOp .In) rInDic := fun pins s σ H y x u v Q I ry rx ⟨a, o, e, g, q⟩ => by
  subst e
  cases rx
  exact d_in hu I g ry fun s' I' => ⟨.bl o.isSome, H, I', rfl, q⟩
theorem op_inG (hu : X.A.units + 1 < cLine) : OpR X (compareOp .In) (rInG X.K) := op_in_seq.or ((op_inDic hu).or op_in_sign)
end
def rIxDic : R2 := fun x y H Q => ∃ a v, x = .ref a ∧ DGet H a y (some v) ∧ Q v H
section
variable {K : PySem.W.Frag} {F B0 H H' B B' : Hp} {τ τs : List V} {T os : List O} {σ : L2.St} {Γ : En} {S S1 S2 : Ad} {v : V} {o o1 o2 : O} {x : D} {post : O → En → Prop} {ta tb te : TE} {tt tu : TT} {i : Nat} {posts : List D → En → Prop} {postt : Bool → En → Prop} {posts1 : En → Prop} {Dd : EG}
theorem o2_add {a b : Int} (h : post (.d (.int (a + b))) Γ) : Op2 K F B0 (rAddG K) (.int a) (.int b) T Γ post := fun τ σ H B S v1 v2 Q w r1 r2 k => by
  cases r1; cases r2
  exact .inl ⟨a, b, rfl, rfl, k _ _ Γ H h ⟨_, _, w.pushd .int⟩⟩
theorem o2_addS {a b : Str} (hz : a.length + b.length ≤ 100000) (h : post (.d (.str (a ++ b))) Γ) : Op2 K F B0 (rAddG K) (.str a) (.str b) T Γ post := fun τ σ H B S v1 v2 Q w r1 r2 k => by
  cases r1; cases r2
  exact .inr (.inl ⟨a, b, rfl, rfl, Nat.le_trans hz (by decide), k _ _ Γ H h ⟨_, _, w.pushd .str⟩⟩)
theorem RL.app : ∀ {vs us : List V} {xs ys : List D}, RL K B vs xs → RL K B us ys → RL K B (vs ++ us) (xs ++ ys)
  | _, _, _, _, .nil, s => s
  | _, _, _, _, .cons r t, s => .cons r (RL.app t s)
theorem o2_addL {xs ys : List D} (hz : xs.length + ys.length ≤ 100000) (h : post (.ol ((xs ++ ys).map O.d)) Γ) : Op2 K F B0 (rAddG K) (.lst xs) (.lst ys) T Γ post := fun τ σ H B S v1 v2 Q w r1 r2 k => by
  cases r1 with | @lst a vs _ h1 l1 =>
  cases r2 with | @lst b us _ h2 l2 =>
  refine .inr (.inr (.inl ⟨a, b, vs, us, rfl, rfl, w.pu _ _ h1, w.pu _ _ h2, by rw [l1.length, l2.length]; exact Nat.le_trans hz (by decide), fun p hp => ?_⟩))
  obtain ⟨S2, w⟩ := w.newl hp (l1.app l2)
  exact k _ _ _ _ h ⟨_, _, w⟩
theorem o2_addT {xs ys : List D} (hx : xs ≠ []) (hz : xs.length + ys.length ≤ 100000) (h : post (.d (.tup (xs ++ ys))) Γ) : Op2 K F B0 (rAddG K) (.tup xs) (.tup ys) T Γ post := fun τ σ H B S v1 v2 Q w r1 r2 k => by
  cases r1 with | @tup a vs _ h1 l1 =>
  cases r2 with | @tup b us _ h2 l2 =>
  refine .inr (.inr (.inr ⟨a, b, vs, us, rfl, rfl, w.pu.sqT h1, w.pu.sqT h2, fun e => hx (List.length_eq_zero_iff.mp (by rw [← l1.length, e]; rfl)), by rw [l1.length, l2.length]; exact Nat.le_trans hz (by decide), fun e => ?_, fun e p hp => ?_⟩))
  · subst e
    cases l2
    rw [List.append_nil] at h
    exact k _ _ _ _ h ⟨_, _, w.pushd (.tup h1 l1)⟩
  · obtain ⟨S2, w⟩ := w.newd (x := .tup (xs ++ ys)) hp (.tup (SqT.of upd_same) ((l1.app l2).mono (.of_ex (.new (w.pu.back hp)))))
    exact k _ _ _ _ h ⟨_, _, w⟩
theorem o2_sub {a b : Int} (h : post (.d (.int (a - b))) Γ) : Op2 K F B0 rSubG (.int a) (.int b) T Γ post := fun τ σ H B S v1 v2 Q w r1 r2 k => by
  cases r1; cases r2
  exact ⟨a, b, rfl, rfl, k _ _ Γ H h ⟨_, _, w.pushd .int⟩⟩
theorem o2_mul {a b : Int} (hm : IntMulOk a b) (h : post (.d (.int (a * b))) Γ) : Op2 K F B0 rMulG (.int a) (.int b) T Γ post := fun τ σ H B S v1 v2 Q w r1 r2 k => by
  cases r1; cases r2
  exact .inl ⟨a, b, rfl, rfl, hm, k _ _ Γ H h ⟨_, _, w.pushd .int⟩⟩
theorem RL.rep {vs : List V} {xs : List D} (r : RL K B vs xs) : ∀ n : Nat, RL K B (List.replicate n vs).flatten (List.replicate n xs).flatten
  | 0 => .nil
  | n + 1 => by rw [List.replicate_succ, List.replicate_succ, List.flatten_cons, List.flatten_cons]; exact r.app (RL.rep r n)
theorem o2_rep {xs : List D} {n : Int} (h1 : -(2 ^ 63) ≤ n) (h2 : n < 2 ^ 63) (hz : xs.length * n.toNat ≤ 100000) (h : post (.ol ((List.replicate n.toNat xs).flatten.map O.d)) Γ) : Op2 K F B0 rMulG (.lst xs) (.int n) T Γ post := fun τ σ H B S v1 v2 Q w r1 r2 k => by
  cases r2
  cases r1 with | @lst a vs _ e l1 =>
  refine .inr (.inl ⟨a, n, vs, rfl, rfl, w.pu _ _ e, h1, h2, by rw [l1.length]; exact Nat.le_trans hz (by decide), fun p hp => ?_⟩)
  obtain ⟨S2, w⟩ := w.newl hp (l1.rep n.toNat)
  exact k _ _ _ _ h ⟨_, _, w⟩
theorem o2_div {a b : Int} (hb : 0 < b ∧ b < 2 ^ 200) (h : post (.d (.int (a / b))) Γ) : Op2 K F B0 rDivG (.int a) (.int b) T Γ post := fun τ σ H B S v1 v2 Q w r1 r2 k => by
  cases r1; cases r2
  exact ⟨a, b, rfl, rfl, wide_div (b := 200) hb.1 (by omega) (by decide) (by decide), k _ _ Γ H h ⟨_, _, w.pushd .int⟩⟩
theorem o2_mod {a b : Int} (hb : 0 < b) (h : post (.d (.int (a % b))) Γ) : Op2 K F B0 rModG (.int a) (.int b) T Γ post := fun τ σ H B S v1 v2 Q w r1 r2 k => by
  cases r1; cases r2
  exact ⟨a, b, rfl, rfl, hb, k _ _ Γ H h ⟨_, _, w.pushd .int⟩⟩
theorem o2_pow {a b : Int} (hb : 0 ≤ b ∧ b ≤ 1000000 ∧ a.natAbs < 2 ^ 64) (h : post (.d (.int (a ^ b.toNat))) Γ) : Op2 K F B0 rPowG (.int a) (.int b) T Γ post := fun τ σ H B S v1 v2 Q w r1 r2 k => by
  cases r1; cases r2
  exact ⟨a, b, rfl, rfl, hb, k _ _ Γ H h ⟨_, _, w.pushd .int⟩⟩
theorem o2_shr {a b : Int} (hb : 0 ≤ b) (h : post (.d (.int (a / 2 ^ b.toNat))) Γ) : Op2 K F B0 rShrG (.int a) (.int b) T Γ post := fun τ σ H B S v1 v2 Q w r1 r2 k => by
  cases r1; cases r2
  exact ⟨a, b, rfl, rfl, hb, k _ _ Γ H h ⟨_, _, w.pushd .int⟩⟩
theorem o2_and {a b : Int} (h : post (.d (.int (Builtin.bitAnd a b))) Γ) : Op2 K F B0 rAndG (.int a) (.int b) T Γ post := fun τ σ H B S v1 v2 Q w r1 r2 k => by
  cases r1; cases r2
  exact ⟨a, b, rfl, rfl, k _ _ Γ H h ⟨_, _, w.pushd .int⟩⟩
theorem o2_lt {a b : Int} (h : post (.d (.bl (decide (a < b)))) Γ) : Op2 K F B0 (rLtG K) (.int a) (.int b) T Γ post := fun τ σ H B S v1 v2 Q w r1 r2 k => by
  cases r1; cases r2
  exact .inl ⟨a, b, rfl, rfl, k _ _ Γ H h ⟨_, _, w.pushd .bl⟩⟩
theorem o2_le {a b : Int} (h : post (.d (.bl (decide (a ≤ b)))) Γ) : Op2 K F B0 rLeG (.int a) (.int b) T Γ post := fun τ σ H B S v1 v2 Q w r1 r2 k => by
  cases r1; cases r2
  exact ⟨a, b, rfl, rfl, k _ _ Γ H h ⟨_, _, w.pushd .bl⟩⟩
theorem o2_gt {a b : Int} (h : post (.d (.bl (decide (b < a)))) Γ) : Op2 K F B0 rGtG (.int a) (.int b) T Γ post := fun τ σ H B S v1 v2 Q w r1 r2 k => by
  cases r1; cases r2
  exact ⟨a, b, rfl, rfl, k _ _ Γ H h ⟨_, _, w.pushd .bl⟩⟩
theorem o2_ge {a b : Int} (h : post (.d (.bl (decide (b ≤ a)))) Γ) : Op2 K F B0 rGeG (.int a) (.int b) T Γ post := fun τ σ H B S v1 v2 Q w r1 r2 k => by
  cases r1; cases r2
  exact ⟨a, b, rfl, rfl, k _ _ Γ H h ⟨_, _, w.pushd .bl⟩⟩
theorem o2_eqI {a b : Int} (h : post (.d (.bl (decide (a = b)))) Γ) : Op2 K F B0 (rEqG K) (.int a) (.int b) T Γ post := fun τ σ H B S v1 v2 Q w r1 r2 k => by
  cases r1; cases r2
  refine .inl ⟨rfl, ?_⟩
  have e : decide (V.int a = V.int b) = decide (a = b) := by rw [dec_int, Bool.beq_eq_decide_eq]
  rw [e]
  exact k _ _ Γ H h ⟨_, _, w.pushd .bl⟩
theorem o2_neI {a b : Int} (h : post (.d (.bl (!decide (a = b)))) Γ) : Op2 K F B0 (rNeG K) (.int a) (.int b) T Γ post := fun τ σ H B S v1 v2 Q w r1 r2 k => by
  cases r1; cases r2
  refine .inl ⟨rfl, ?_⟩
  have e : decide (V.int a = V.int b) = decide (a = b) := by rw [dec_int, Bool.beq_eq_decide_eq]
  rw [e]
  exact k _ _ Γ H h ⟨_, _, w.pushd .bl⟩
theorem o2_eqS {a b : Str} (h : post (.d (.bl (decide (a = b)))) Γ) : Op2 K F B0 (rEqG K) (.str a) (.str b) T Γ post := fun τ σ H B S v1 v2 Q w r1 r2 k => by
  cases r1; cases r2
  refine .inl ⟨rfl, ?_⟩
  have e : decide (V.str a = V.str b) = decide (a = b) := by
    by_cases q : a = b
    · subst q; simp
    · rw [decide_eq_false q, decide_eq_false (fun z => q (V.str.inj z))]
  rw [e]
  exact k _ _ Γ H h ⟨_, _, w.pushd .bl⟩
theorem o2_neS {a b : Str} (h : post (.d (.bl (!decide (a = b)))) Γ) : Op2 K F B0 (rNeG K) (.str a) (.str b) T Γ post := fun τ σ H B S v1 v2 Q w r1 r2 k => by
  cases r1; cases r2
  refine .inl ⟨rfl, ?_⟩
  have e : decide (V.str a = V.str b) = decide (a = b) := by
    by_cases q : a = b
    · subst q; simp
    · rw [decide_eq_false q, decide_eq_false (fun z => q (V.str.inj z))]
  rw [e]
  exact k _ _ Γ H h ⟨_, _, w.pushd .bl⟩
theorem o2_eqB {a b : Bool} (h : post (.d (.bl (a == b))) Γ) : Op2 K F B0 (rEqG K) (.bl a) (.bl b) T Γ post := fun τ σ H B S v1 v2 Q w r1 r2 k => by
  cases r1; cases r2
  refine .inl ⟨rfl, ?_⟩
  rw [dec_bl]
  exact k _ _ Γ H h ⟨_, _, w.pushd .bl⟩
theorem o2_neB {a b : Bool} (h : post (.d (.bl (!(a == b)))) Γ) : Op2 K F B0 (rNeG K) (.bl a) (.bl b) T Γ post := fun τ σ H B S v1 v2 Q w r1 r2 k => by
  cases r1; cases r2
  refine .inl ⟨rfl, ?_⟩
  rw [dec_bl]
  exact k _ _ Γ H h ⟨_, _, w.pushd .bl⟩
mutual
def D.py : D → PyData
  | .non => .none
  | .bl b => .bool b
  | .int i => .int i
  | .str s => .str s
  | .tup xs => .tuple (pyL xs)
  | .lst xs => .list (pyL xs)
  | .sq xs => .list (pyL xs)
  | .ref _ => .none
  | .ty _ => .none
  | .dic _ => .none
  | .dit _ => .none
  | .ins _ _ => .none
def pyL : List D → List PyData
  | [] => []
  | x :: xs => x.py :: pyL xs
end
mutual
/-- data that == may ask -/
def D.pl : D → Bool
  | .non => true
  | .bl b => true
  | .int i => true
  | .str s => true
  | .tup xs => plL xs
  | .lst xs => plL xs
  | .sq xs => plL xs
  | .ref _ => false
  | .ty _ => false
  | .dic _ => false
  | .dit _ => false
  | .ins _ _ => false
def plL : List D → Bool
  | [] => true
  | x :: xs => x.pl && plL xs
end
mutual
theorem R.dp (pu : Ex B H) : ∀ {v : V} {x : D}, R K B v x → x.pl = true → Dp K H v x.py
  | _, _, .non, _ => .non
  | _, _, .bl, _ => .bl _
  | _, _, .int, _ => .int _
  | _, _, .str, _ => .str _
  | _, _, .tup h r, q => .tup (pu.sqT h) (RL.dp pu r q)
  | _, _, .lst h r, q => .lst (SqL.of (pu _ _ h)) (RL.dp pu r q)
  | _, _, .sq h r, q => .lst (pu.sqL h) (RL.dp pu r q)
  | _, _, .ref, q => by cases q
  | _, _, .ty, q => by cases q
  | _, _, .dic _ _ _, q => by cases q
  | _, _, .dit _ _ _, q => by cases q
  | _, _, .ins _ _, q => by cases q
theorem RL.dp (pu : Ex B H) : ∀ {v : List V} {x : List D}, RL K B v x → plL x = true → DpAll K H v (pyL x)
  | _, _, .nil, _ => .nil
  | _, _, .cons h r, q => .cons (R.dp pu h (by simp [plL] at q; exact q.1)) (RL.dp pu r (by simp [plL] at q; exact q.2))
end
/-- data that == tells -/
def D.eqs (x y : D) : Prop := x.pl = true ∧ y.pl = true ∧ SeqAt.shaped x.py = true ∧ SeqAt.shaped y.py = true
theorem o2_eqD {x y : D} (q : x.eqs y) (h : post (.d (.bl (PyData.eqv x.py y.py))) Γ) : Op2 K F B0 (rEqG K) x y T Γ post := fun τ σ H B S v1 v2 Q w r1 r2 k =>
  .inr (.inl ⟨x.py, y.py, r1.dp w.pu q.1, r2.dp w.pu q.2.1, q.2.2.1, q.2.2.2, k _ _ Γ H h ⟨_, _, w.pushd .bl⟩⟩)
theorem o2_neD {x y : D} (q : x.eqs y) (h : post (.d (.bl (!PyData.eqv x.py y.py))) Γ) : Op2 K F B0 (rNeG K) x y T Γ post := fun τ σ H B S v1 v2 Q w r1 r2 k =>
  .inr (.inl ⟨x.py, y.py, r1.dp w.pu q.1, r2.dp w.pu q.2.1, q.2.2.1, q.2.2.2, k _ _ Γ H h ⟨_, _, w.pushd .bl⟩⟩)
def D.isNon : D → Bool
  | .non => true
  | _ => false
theorem R.isNon {v : V} {x : D} (r : R K B v x) : decide (v = .non) = x.isNon := by cases r <;> rfl
theorem o2_is {x : D} (h : post (.d (.bl x.isNon)) Γ) : Op2 K F B0 rIsG x .non T Γ post := fun τ σ H B S v1 v2 Q w r1 r2 k => by
  cases r2
  refine ⟨rfl, ?_⟩
  rw [r1.isNon]
  exact k _ _ Γ H h ⟨_, _, w.pushd .bl⟩
theorem o2_not {x : D} (h : post (.d (.bl (!x.isNon))) Γ) : Op2 K F B0 rNotG x .non T Γ post := fun τ σ H B S v1 v2 Q w r1 r2 k => by
  cases r2
  refine ⟨rfl, ?_⟩
  rw [r1.isNon]
  exact k _ _ Γ H h ⟨_, _, w.pushd .bl⟩
def D.flat : D → Bool
  | .non => true
  | .bl _ => true
  | .int _ => true
  | .str _ => true
  | _ => false
def D.eq1 : D → D → Bool
  | .non, .non => true
  | .bl a, .bl b => a == b
  | .bl a, .int b => (if a then 1 else 0) == b
  | .int a, .bl b => a == (if b then 1 else 0)
  | .int a, .int b => a == b
  | .str a, .str b => a == b
  | _, _ => false
theorem R.flatV {v : V} {x : D} (r : R K B v x) (q : x.flat = true) : L2.flatV v = true := by cases r <;> first | rfl | cases q
theorem R.eqV {v u : V} {x y : D} (r : R K B v x) (s : R K B u y) (q : x.flat = true) (q2 : y.flat = true) : L2.eqV v u = x.eq1 y := by
  cases r <;> first | (cases s <;> first | rfl | cases q2) | cases q
theorem RL.flat : ∀ {vs : List V} {xs : List D}, RL K B vs xs → xs.all D.flat = true → vs.all L2.flatV = true
  | _, _, .nil, _ => rfl
  | _, _, .cons r t, q => by simp only [List.all_cons, Bool.and_eq_true] at q ⊢; exact ⟨r.flatV q.1, t.flat q.2⟩
theorem RL.inV {v : V} {x : D} (r : R K B v x) (q : x.flat = true) : ∀ {vs : List V} {xs : List D}, RL K B vs xs → xs.all D.flat = true → L2.inV v vs = xs.any fun y => y.eq1 x
  | _, _, .nil, _ => rfl
  | _, _, .cons r2 t, q2 => by
    simp only [List.all_cons, Bool.and_eq_true] at q2
    have ih := RL.inV r q t q2.2
    unfold L2.inV at ih ⊢
    rw [List.any_cons, List.any_cons, ih, r2.eqV r q2.1 q]
def D.items? : D → Option (List D)
  | .lst xs => some xs
  | .sq xs => some xs
  | .tup xs => some xs
  | _ => none
theorem R.items {xs : List D} (r : R K B v x) (q : x.items? = some xs) : ∃ a vs, v = .ref a ∧ (SqL K B a vs ∨ SqT K B a vs) ∧ RL K B vs xs := by
  cases r with
  | lst h r => cases q; exact ⟨_, _, rfl, .inl (SqL.of h), r⟩
  | sq h r => cases q; exact ⟨_, _, rfl, .inl h, r⟩
  | tup h r => cases q; exact ⟨_, _, rfl, .inr h, r⟩
  | _ => cases q
theorem o2_in {x y : D} {xs : List D} (q : y.items? = some xs) (hx : x.flat = true) (ha : xs.all D.flat = true) (h : post (.d (.bl (xs.any fun y => y.eq1 x))) Γ) : Op2 K F B0 (rInG K) x y T Γ post := fun τ σ H B S v1 v2 Q w r1 r2 k => by
  obtain ⟨a, vs, rfl, sq, rl⟩ := r2.items q
  refine .inl ⟨a, vs, rfl, sq.imp w.pu.sqL w.pu.sqT, r1.flatV hx, rl.flat ha, ?_⟩
  show Q (.bl (inV v1 vs)) H
  rw [RL.inV r1 hx rl ha]
  exact k _ _ Γ H h ⟨_, _, w.pushd .bl⟩
def kD : Key → D
  | .inl i => .int i
  | .inr s => .str s
def dval {κ : Type} [DecidableEq κ] {α : Type} (kvs : List (κ × α)) (k : κ) : Option α := (kvs.find? fun kv => decide (kv.1 = k)).map (·.2)
theorem RK.val {k : Key} : ∀ {ws : List (Key × V)} {kvs : List (Key × D)}, RK K B ws kvs → (∃ v x, valV ws k = some v ∧ dval kvs k = some x ∧ R K B v x) ∨ (valV ws k = none ∧ dval kvs k = none)
  | _, _, .nil => .inr ⟨rfl, rfl⟩
  | _, _, .cons (k := k0) (v := v0) (x := x0) (vs := vs) (xs := xs) r t => by
    by_cases e : k0 = k
    · left
      refine ⟨v0, x0, by simp [valV, e], by simp [dval, e], r⟩
    · have e1 : valV ((k0, v0) :: vs) k = valV vs k := by simp [valV, e]
      have e2 : dval ((k0, x0) :: xs) k = dval xs k := by simp [dval, e]
      rw [e1, e2]
      exact RK.val t
theorem R.kV {k : Key} (r : R K B v (kD k)) : v = L2.kV k := by cases k <;> (cases r; rfl)
end
end SK
namespace SK
open PySem PySem.Spec PyProof.Rows L2
section
variable {K : PySem.W.Frag} {F B0 H H' B B' : Hp} {τ τs : List V} {T os : List O} {σ : L2.St} {Γ : En} {S S1 S2 : Ad} {v w : V} {o p : O} {x : D} {post : O → En → Prop} {ta tb te td ty tv : TE} {tt tu : TT} {i : Nat} {posts : List D → En → Prop} {postt : Bool → En → Prop} {posts1 : En → Prop} {Dd : EG}
theorem set_same {σ : List (Option V)} (a : σ[i]? = some (some v)) : σ.set i (some v) = σ := by
  have hl : i < σ.length := (List.getElem?_eq_some_iff.mp a).1
  apply List.ext_getElem?
  intro n
  by_cases hn : n = i
  · subst hn; rw [List.getElem?_set_self hl, a]
  · rw [List.getElem?_set_ne (Ne.symm hn)]
/-- the thing at slot i is changed, the thing held on top goes into it -/
theorem HW.mut2 (h : HW K F B0 (w :: τ) (o :: T) σ Γ H B S) (e : Γ[i]? = some (some p)) : ∃ (v : V) (S1 So : Ad), σ[i]? = some (some v) ∧ RO K B H S1 v p ∧ RO K B H So w o ∧ (∀ b, S1 b → ¬ So b) ∧ (∀ b, S1 b → H b ≠ none) ∧ (∀ b, So b → H b ≠ none) ∧
    ∀ a c p', S1 a → RO K B (upd H a c) (fun b => S1 b ∨ So b) v p' → ∃ S', HW K F B0 τ T σ (Γ.set i (some p')) (upd H a c) B S' := by
  obtain ⟨So, Sr, s1, s2, dj, ro, wr⟩ := h.pop
  obtain ⟨v, S1, S2, a1, b1, c1, d1, r1, f⟩ := wr.slot e
  refine ⟨v, S1, So, a1, r1, ro, fun b z y => dj b y (b1 b z), fun b z => (wr.ow b (b1 b z)).2.2, fun b z => (h.ow b (s1 b z)).2.2, fun a c p' ha rp => ?_⟩
  have q := f B (upd H a c) (fun b => S1 b ∨ So b) (some v) (some p') (.refl B) (fun b u z y => by
    rw [upd_ne (fun q => d1 a ha (by rw [← q]; exact z))]; exact y) (fun b z y => z.elim (fun z => d1 b z y) fun z => dj b z (c1 b y)) (fun x q => by cases q; exact ⟨v, rfl, rp⟩)
  rw [set_same a1] at q
  refine ⟨_, ⟨fun b u z => ?_, fun b u z => ?_, wr.b0, fun b z => ?_, wr.nw, q, wr.lt⟩⟩
  · have hn : b ≠ a := fun q => by rw [q, (wr.ow a (b1 a ha)).1] at z; cases z
    rw [upd_ne hn]; exact wr.fr b u z
  · have hn : b ≠ a := fun q => by rw [q, (wr.ow a (b1 a ha)).2.1] at z; cases z
    rw [upd_ne hn]; exact wr.pu b u z
  · have : F b = none ∧ B b = none ∧ H b ≠ none := by
      rcases z with (z | z) | z
      · exact wr.ow b (b1 b z)
      · exact h.ow b (s1 b z)
      · exact wr.ow b (c1 b z)
    refine ⟨this.1, this.2.1, ?_⟩
    by_cases hn : b = a
    · rw [hn, upd_same]; simp
    · rw [upd_ne hn]; exact this.2.2
/-- the thing at slot i is changed -/
theorem HW.mut1 (h : HW K F B0 τ T σ Γ H B S) (e : Γ[i]? = some (some p)) : ∃ (v : V) (S1 : Ad), σ[i]? = some (some v) ∧ RO K B H S1 v p ∧ (∀ b, S1 b → H b ≠ none) ∧
    ∀ a c p', S1 a → RO K B (upd H a c) S1 v p' → ∃ S', HW K F B0 τ T σ (Γ.set i (some p')) (upd H a c) B S' := by
  obtain ⟨v, S1, So, a1, r1, _, _, n1, _, f⟩ := HW.mut2 (h.pushd (v := .non) (x := .non) .non) e
  exact ⟨v, S1, a1, r1, n1, fun a c p' ha rp => f a c p' ha (rp.tr (.refl B) (fun _ z => .inl z) fun _ _ _ e => e)⟩
theorem RS.snoc {So : Ad} (ro : RO K B H So w o) : ∀ {σ : List (Option V)} {Γ : List (Option O)} {S : Ad}, RS K B H S σ Γ → (∀ b, S b → ¬ So b) → RS K B H (fun b => S b ∨ So b) (σ ++ [some w]) (Γ ++ [some o])
  | _, _, _, .nil, _ => .cons (S1 := So) (S2 := fun _ => False) (fun _ z => .inr z) (fun _ z => z.elim) (fun _ _ z => z) ro .nil
  | _, _, _, .un r, dj => .un (RS.snoc ro r dj)
  | _, _, _, .cons (S1 := T1) (S2 := T2) s1 s2 d r rs, dj => .cons (S1 := T1) (S2 := fun b => T2 b ∨ So b) (fun b z => .inl (s1 b z)) (fun b z => z.imp (s2 b) id) (fun b z y => y.elim (d b z) (dj b (s1 b z))) r (RS.snoc ro rs fun b z => dj b (s2 b z))
theorem RS.at (e : ∀ b u, S b → H b = some u → H' b = some u) {σ : List (Option V)} {Γ : List (Option O)} (r : RS K B H S σ Γ) : RS K B H' S σ Γ := r.tr (.refl B) (fun _ z => z) e
/-- xs.append(e), xs a name -/
theorem gos_append (h : Go K F B0 te T Γ fun o Γ1 => ∃ xs, Γ1[i]? = some (some (.ol xs)) ∧ xs.length < 100000 ∧ Dd.nx (Γ1.set i (some (.ol (xs ++ [o]))))) (h0 : ∃ xs, Γ[i]? = some (some (.ol xs))) :
    GoS K F B0 (tDrop (tBM K "list" rAppend (tVar i) (tCons te tNil))) T Γ Dd := fun τ σ H De hw s => by
  obtain ⟨B, S, w⟩ := hw
  obtain ⟨xs0, e0⟩ := h0
  obtain ⟨v, S1, a1, r1, _, _⟩ := w.mut1 e0
  cases r1 with
  | @ol _ _ a vs _ _ _ _ hc _ =>
  refine ⟨.ref a, a1, Or.inl ⟨rfl, vs, SqL.of hc⟩, h τ σ H _ ⟨B, S, w⟩ fun v2 o2 Γ2 H2 ⟨xs, e2, hz, h2⟩ ⟨B2, S2, w2⟩ => ?_⟩
  obtain ⟨v', S3, So, a2, r2, ro, dj, _, _, f⟩ := w2.mut2 e2
  rw [a1] at a2
  cases a2
  cases r2 with
  | @ol _ S4 _ us _ ha hs hn hc2 rs =>
  have len : us.length = xs.length := by simpa using rs.len
  refine ⟨a, us, v2, rfl, rfl, hc2, by rw [len]; exact Nat.lt_of_lt_of_le hz (by decide), ?_⟩
  obtain ⟨S', w3⟩ := f a (.lst (us ++ [v2])) (.ol (xs ++ [o2])) ha (.ol (S' := fun b => S4 b ∨ So b) (.inl ha) (fun b z => z.imp (hs b) id) (fun z => z.elim hn fun z => dj a ha z) upd_same (by
    rw [List.map_append, List.map_append]
    exact (rs.snoc ro fun b z => dj b (hs b z)).at fun b u z q => by
      rw [upd_ne (fun e => by subst e; exact z.elim hn fun z => dj b ha z)]; exact q))
  exact s.nx σ _ _ h2 ⟨B2, S', w3⟩
def dput {κ : Type} [DecidableEq κ] {α : Type} (kvs : List (κ × α)) (k : κ) (v : α) : List (κ × α) :=
  if (kvs.any fun kv => decide (kv.1 = k)) = true then kvs.map (fun kv => if kv.1 = k then (kv.1, v) else kv) else kvs ++ [(k, v)]
theorem any_keys {κ α β : Type} [DecidableEq κ] {k : κ} : ∀ {ws : List (κ × α)} {kvs : List (κ × β)}, ws.map (·.1) = kvs.map (·.1) → (ws.any fun kv => decide (kv.1 = k)) = kvs.any fun kv => decide (kv.1 = k)
  | [], [], _ => rfl
  | a :: ws, b :: kvs, e => by
    simp only [List.map_cons, List.cons.injEq] at e
    rw [List.any_cons, List.any_cons, any_keys e.2, e.1]
theorem repl_keys {κ α : Type} [DecidableEq κ] {k : κ} {v : α} (kvs : List (κ × α)) : (kvs.map (fun kv => if kv.1 = k then (kv.1, v) else kv)).map (·.1) = kvs.map (·.1) := by
  rw [List.map_map]
  apply List.map_congr_left
  intro a _
  show (if a.1 = k then (a.1, v) else a).1 = a.1
  split <;> rfl
theorem dput_keys {κ α β : Type} [DecidableEq κ] {k : κ} {v : α} {x : β} {ws : List (κ × α)} {kvs : List (κ × β)} (e : ws.map (·.1) = kvs.map (·.1)) : (dput ws k v).map (·.1) = (dput kvs k x).map (·.1) := by
  unfold dput
  rw [any_keys e]
  split
  · rw [repl_keys, repl_keys, e]
  · rw [List.map_append, List.map_append, e]; rfl
theorem dput_nodup {κ α : Type} [DecidableEq κ] {k : κ} {v : α} {kvs : List (κ × α)} (n : (kvs.map (·.1)).Nodup) : ((dput kvs k v).map (·.1)).Nodup := by
  unfold dput
  split
  · rw [repl_keys]; exact n
  · rename_i h
    rw [List.map_append, List.nodup_append]
    refine ⟨n, by simp, fun a ha b hb => ?_⟩
    have e : b = k := by simpa using hb
    subst e
    intro q
    subst q
    obtain ⟨kv, h1, h2⟩ := List.mem_map.mp ha
    exact h (List.any_eq_true.mpr ⟨kv, h1, by simp [h2]⟩)
theorem dput_len {κ α : Type} [DecidableEq κ] {k : κ} {v : α} {kvs : List (κ × α)} : (dput kvs k v).length ≤ kvs.length + 1 := by
  unfold dput
  split <;> simp
theorem repl_not {κ α : Type} [DecidableEq κ] {k : κ} {v : α} : ∀ {kvs : List (κ × α)}, k ∉ kvs.map (·.1) → kvs.map (fun kv => if kv.1 = k then (kv.1, v) else kv) = kvs
  | [], _ => rfl
  | a :: r, h => by
    simp only [List.map_cons, List.mem_cons, not_or] at h
    rw [List.map_cons, repl_not h.2, if_neg (fun q => h.1 q.symm)]
theorem RS.repl {κ : Type} [DecidableEq κ] {k : κ} {So : Ad} (ro : RO K B H So w o) : ∀ {ws : List (κ × V)} {kvs : List (κ × O)} {S : Ad}, (kvs.map (·.1)).Nodup → ws.map (·.1) = kvs.map (·.1) → RS K B H S (ws.map fun p => some p.2) (kvs.map fun p => some p.2) → (∀ b, S b → ¬ So b) →
    RS K B H (fun b => S b ∨ So b) ((ws.map fun kv => if kv.1 = k then (kv.1, w) else kv).map fun p => some p.2) ((kvs.map fun kv => if kv.1 = k then (kv.1, o) else kv).map fun p => some p.2)
  | [], [], _, _, _, _, _ => .nil
  | (k1, v1) :: ws, (k2, o2) :: kvs, S, nd, e, .cons (S1 := T1) (S2 := T2) s1 s2 d r rs, dj => by
    simp only [List.map_cons, List.cons.injEq] at e
    obtain ⟨e1, e2⟩ := e
    subst e1
    simp only [List.map_cons, List.nodup_cons] at nd
    by_cases q : k1 = k
    · subst q
      have n2 : k1 ∉ ws.map (·.1) := by rw [e2]; exact nd.1
      have q1 := repl_not (v := w) n2
      have q2 := repl_not (v := o) nd.1
      simp only [List.map_cons, ↓reduceIte, q1, q2]
      exact .cons (S1 := So) (S2 := T2) (fun b z => .inr z) (fun b z => .inl (s2 b z)) (fun b z y => dj b (s2 b y) z) ro rs
    · simp only [List.map_cons, if_neg q]
      exact .cons (S1 := T1) (S2 := fun b => T2 b ∨ So b) (fun b z => .inl (s1 b z)) (fun b z => z.imp (s2 b) id) (fun b z y => y.elim (d b z) (dj b (s1 b z))) r (RS.repl ro nd.2 e2 rs fun b z => dj b (s2 b z))
theorem RS.dput {κ : Type} [DecidableEq κ] {k : κ} {So : Ad} (ro : RO K B H So w o) {ws : List (κ × V)} {kvs : List (κ × O)} {S : Ad} (nd : (kvs.map (·.1)).Nodup) (e : ws.map (·.1) = kvs.map (·.1)) (rs : RS K B H S (ws.map fun p => some p.2) (kvs.map fun p => some p.2)) (dj : ∀ b, S b → ¬ So b) :
    RS K B H (fun b => S b ∨ So b) ((SK.dput ws k w).map fun p => some p.2) ((SK.dput kvs k o).map fun p => some p.2) := by
  unfold SK.dput
  rw [any_keys e]
  split
  · exact rs.repl ro nd e dj
  · rw [List.map_append, List.map_append]
    exact rs.snoc ro dj
theorem putK_dput {κ : Type} [DecidableEq κ] (kvs : List (κ × V)) (k : κ) (v : V) : putK kvs k v = dput kvs k v := rfl
theorem go_dnew (h : post (.od []) Γ) : Go K F B0 tDNewK T Γ post := fun τ σ H Q ⟨B, S, w⟩ k p hp => by
  obtain ⟨S2, w⟩ := w.newo hp (o := .od []) (c := .dK []) (v := .ref p) (.od (S' := fun _ => False) rfl (fun _ z => z.elim) id upd_same List.nodup_nil rfl .nil)
  exact k _ _ _ _ h ⟨_, _, w⟩
abbrev Ct := List D → (O → Prop) → (Addr → Option (List (Str × D)) → Prop) → Prop
theorem HW.bare (h : HW K F B0 τ T σ Γ H B S) : Ho K F B0 [] [] σ Γ H :=
  ⟨B, S, h.fr, h.pu, h.b0, h.ow, h.nw, RS.drops (σ0 := τ.map some) (Γ0 := T.map some) (by simp [h.lt]) h.rs, rfl⟩
def noX : Addr → Option (List (Str × D)) → Prop := fun _ _ => False
/-- an exception's own dict, where it has one -/
def ExB (K : PySem.W.Frag) (H B : Hp) (d : Option Addr) (fs : Option (List (Str × D))) : Prop := match d, fs with
  | none, none => True
  | some a, some fs => ∃ ws, H a = some (.xd ws) ∧ RF K B ws fs
  | _, _ => False
/-- the slots, and an exception's own dict -/
def HoX (K : PySem.W.Frag) (F B0 : Hp) (σ : L2.St) (Γ : En) (H : Hp) (d : Option Addr) (fs : Option (List (Str × D))) : Prop := ∃ B S, HW K F B0 [] [] σ Γ H B S ∧ ExB K H B d fs
theorem HW.bareB (h : HW K F B0 τ T σ Γ H B S) : HW K F B0 [] [] σ Γ H B S :=
  ⟨h.fr, h.pu, h.b0, h.ow, h.nw, RS.drops (σ0 := τ.map some) (Γ0 := T.map some) (by simp [h.lt]) h.rs, rfl⟩
theorem HoX.none {fs : Option (List (Str × D))} (h : Ho K F B0 [] [] σ Γ H) (e : fs = none) : HoX K F B0 σ Γ H none fs := by
  subst e; obtain ⟨B, S, w⟩ := h; exact ⟨B, S, w, trivial⟩
def spP (K : PySem.W.Frag) (C : Ct) : Sp := fun vs H Q E => ∃ B xs p q, Ex B H ∧ RL K B vs xs ∧ C xs p q ∧
  (∀ v o B' S' H', p o → Ex H H' → Ex B' H' → BLe B B' → (∀ a, B' a ≠ none → B a ≠ none ∨ H a = none) → (∀ a, S' a → H a = none ∧ B' a = none ∧ H' a ≠ none) → RO K B' H' S' v o → Q v H') ∧
  (∀ Cc fs d B' H', q Cc fs → Ex H H' → Ex B' H' → BLe B B' → (∀ a, B' a ≠ none → B a ≠ none ∨ H a = none) → ExB K H' B' d fs → E (.ref Cc) d H')
theorem spP_len {C : Ct} {n : Nat} (h : ∀ xs p q, C xs p q → xs.length = n) {vs : List V} {H : Hp} {Q : VK} {E : XK} (s : spP K C vs H Q E) : vs.length = n := by
  obtain ⟨B, xs, p, q, _, rl, c, _⟩ := s
  rw [rl.length]; exact h xs p q c
theorem RL.start {n : Nat} : ∀ {vs : List V} {xs : List D}, RL K B vs xs → RS K B H (fun _ => False) (vs.map some ++ List.replicate n none) ((xs.map fun x => some (O.d x)) ++ List.replicate n none)
  | _, _, .nil => by
    show RS K B H _ (List.replicate n none) (List.replicate n none)
    induction n with
    | zero => exact .nil
    | succ n ih => rw [List.replicate_succ, List.replicate_succ]; exact .un ih
  | _, _, .cons r t => .cons (S1 := fun _ => False) (S2 := fun _ => False) (fun _ z => z) (fun _ z => z) (fun _ z => z.elim) (.d r) (RL.start t)
/-- the body's reading gives the promise: wx tells what an exception's way out asks -/
theorem sp_body {C : Ct} {N : List Str} {vs : List V} {Q : VK} {E : XK} {X : Cx} {body : List Stmt} (s : spP K C vs H Q E)
    (h : ∀ B xs p q, C xs p q → xs.length = vs.length → (∀ Cc fs d σ Γ H', q Cc fs → HoX K H B σ Γ H' d fs → E (.ref Cc) d H') →
      ∃ t, PSs X body t ∧ GoS K H B t [] ((xs.map fun x => some (O.d x)) ++ List.replicate (N.length - xs.length) none) { nx := fun _ => p (.d .non), rt := fun o' _ => p o' }) :
    ∃ t, PSs X body t ∧ t { nx := fun _ H' => Q .non H', rt := Q } (L2.start N vs) H := by
  obtain ⟨B, xs, p, q, pu, rl, c, k, kx⟩ := s
  obtain ⟨t, ht, g⟩ := h B xs p q c rl.length.symm fun Cc fs d σ Γ H' hq ⟨B', S', w, hd⟩ => kx Cc fs d B' H' hq w.fr w.pu w.b0 w.nw hd
  refine ⟨t, ht, g [] (L2.start N vs) H _ ⟨B, fun _ => False, .refl H, pu, .refl B, fun _ z => z.elim, fun _ z => .inl z, ?_, rfl⟩ ⟨fun σ Γ H' e ⟨B', S', w⟩ => ?_, fun v o' σ Γ H' e ⟨B', S', w⟩ => ?_, fun _ _ _ z => z.elim, fun _ _ _ z => z.elim⟩⟩
  · show RS K B H (fun _ => False) ([] ++ L2.start N vs) _
    rw [List.nil_append, L2.start, rl.length]
    exact rl.start
  · obtain ⟨S1, S2, s1, s2, dj, r, w2⟩ := (w.pushd (v := .non) (x := .non) .non).pop
    exact k .non _ B' S1 H' e w.fr w.pu w.b0 w.nw (fun a z => ((w.pushd (v := .non) (x := .non) .non).ow a (s1 a z))) (.d .non)
  · obtain ⟨S1, S2, s1, s2, dj, r, w2⟩ := w.pop
    exact k v o' B' S1 H' e w.fr w.pu w.b0 w.nw (fun a z => w.ow a (s1 a z)) r
/-- a call of a def that keeps such a promise and lets nothing out -/
theorem go_call {C : Ct} {dvs : List V} {dxs : List D} {E : XK} {t : TA} (h : GoA K F B0 t T Γ fun xs Γ1 => ∃ p, C (xs ++ dxs) p noX ∧ ∀ o, p o → post o Γ1) (hd : ∀ B, RL K B dvs dxs) : Go K F B0 (tCall (spP K C) dvs E t) T Γ post := fun τ σ H Q hw k =>
  h τ σ H _ hw fun vs xs Γ1 H1 ⟨p, c, h1⟩ ⟨B1, S1, w1⟩ hl => by
    obtain ⟨rl, S2, w⟩ := w1.args hl
    refine ⟨B1, xs ++ dxs, p, noX, w.pu, rl.app (hd B1), c, fun v o' B' S' H' e ex pu' le nw ow ro => ?_, fun _ _ _ _ _ e => e.elim⟩
    exact k v _ Γ1 H' (h1 _ e) ⟨B', _, w.push ex le pu' nw ow ro⟩
/-- a call of a def that may let an exception out: W is where it goes -/
theorem go_callX {C : Ct} {W : WX} {X : Addr → Option (List (Str × D)) → En → Prop} {t : TA} (wx : ∀ Cc fs d σ Γ H, X Cc fs Γ → HoX K F B0 σ Γ H d fs → W (.ref Cc) d σ H)
    (h : GoA K F B0 t T Γ fun xs Γ1 => ∃ p q, C xs p q ∧ (∀ o, p o → post o Γ1) ∧ ∀ Cc fs, q Cc fs → X Cc fs Γ1) : Go K F B0 (tCallS (spP K C) (WE W) t) T Γ post := fun τ σ H Q hw k =>
  h τ σ H _ hw fun vs xs Γ1 H1 ⟨p, q, c, h1, h2⟩ ⟨B1, S1, w1⟩ hl => by
    obtain ⟨rl, S2, w⟩ := w1.args hl
    refine ⟨B1, xs, p, q, w.pu, rl, c, fun v o' B' S' H' e ex pu' le nw ow ro => ?_, fun Cc fs d B' H' e ex pu' le nw hd => ?_⟩
    · exact k v _ Γ1 H' (h1 _ e) ⟨B', _, w.push ex le pu' nw ow ro⟩
    · exact wx Cc fs d σ Γ1 H' (h2 Cc fs e) ⟨B', _, (w.push (v := .non) (o := .d .non) (S' := fun _ => False) ex le pu' nw (fun _ z => z.elim) (.d .non)).bareB, hd⟩
end
end SK
namespace SK
open PySem PySem.Spec PyProof.Rows L2
section
variable {X : Cx}
theorem ix_dic (hu : X.A.units + 1 < cLine) : IxR X rIxDic := by
  intro value slice pins s σ H x y v u Q I rx ry h hs
  obtain ⟨a, z, rfl, g, q⟩ := h
  cases rx
  have hT := dict_typeIs I g
  unfold subscriptTail
  refine wpAny_bind ?_
  rw [getitemInPython_of_ne hT.not_modules]
  refine wpAny_bind (wpAny_specialOf hT PySem.F.slot_dict_getitem.lookup ?_)
  have fin : wpAny (model X.prog X.w) X.A (subscripted slice false (.ref a) u) (fun r s₃ => wpAny (model X.prog X.w) X.A (letTemporaryGo value (.ref a) r >>= fun _ => pure r) (EP X pins σ Q) X.xe s₃) X.xe s := by
    rw [hs]
    exact wpAny_operating (wpAny_mono (d_getItem hu I g ry fun w' s' I' r' => show EP X pins σ Q w' s' from ⟨z, H, I', r', q⟩) (fun r s₃ h₃ => wpAny_bind (wpAny_letTemporaryGo (wpAny_pure h₃))) fun _ _ x => x)
  first
    | exact wpAny_pure (wpAny_bind fin)
    | exact wpAny_bind (wpAny_pure (wpAny_bind fin))
    | exact wpAny_bind fin
def rIxG (K : PySem.W.Frag) : R2 := fun x y H Q => rIx K x y H Q ∨ rIxDic x y H Q
theorem ix_G (hu : X.A.units + 1 < cLine) : IxR X (rIxG X.K) := ix_seq.or (ix_dic hu)
def rSlG (K : PySem.W.Frag) : V → Option Int → Option Int → Hp → VK → Prop := fun x lo hi H Q => rSlL K x lo hi H Q ∨ (rSlS x lo hi H Q ∨ rSlT K x lo hi H Q)
theorem sl_G : SlR X (rSlG X.K) := sl_list.or (sl_str.or sl_tup)
end
section
variable {K : PySem.W.Frag} {F B0 H H' B B' : Hp} {τ τs : List V} {T os : List O} {σ : L2.St} {Γ : En} {S S1 S2 : Ad} {v w : V} {o p : O} {x : D} {post : O → En → Prop} {ta tb te td ty tv : TE} {tt tu : TT} {i : Nat} {posts : List D → En → Prop} {postt : Bool → En → Prop} {posts1 : En → Prop} {Dd : EG} {xs : List D} {vs : List V}
theorem RL.at {i : Int} {y : D} (r : RL K B vs xs) (h : atI xs i = some y) : ∃ v, atI vs i = some v ∧ R K B v y := by
  unfold atI at h ⊢
  rw [r.length]
  cases q : ixN xs.length i with
  | none => rw [q] at h; cases h
  | some j =>
    rw [q] at h
    exact r.get (i := j) h
theorem o2_ix {x : D} {xs : List D} {i : Int} {y : D} (q : x.items? = some xs) (hi : atI xs i = some y) (h : post (.d y) Γ) : Op2 K F B0 (rIxG K) x (.int i) T Γ post := fun τ σ H B S v1 v2 Q w r1 r2 k => by
  cases r2
  obtain ⟨a, vs, rfl, sq, rl⟩ := r1.items q
  obtain ⟨u, hu, ru⟩ := rl.at hi
  rcases sq with sq | sq
  · exact .inl (.inl ⟨a, vs, i, u, rfl, rfl, w.pu.sqL sq, hu, k _ _ Γ H h ⟨_, _, w.pushd ru⟩⟩)
  · exact .inl (.inr (.inl ⟨a, vs, i, u, rfl, rfl, w.pu.sqT sq, hu, k _ _ Γ H h ⟨_, _, w.pushd ru⟩⟩))
theorem o2_ixS {z : Str} {i : Int} {c : Nat} (hz : z.length ≤ 100000) (hi : atI z.cps.toList i = some c) (h : post (.d (.str ⟨#[c]⟩)) Γ) : Op2 K F B0 (rIxG K) (.str z) (.int i) T Γ post := fun τ σ H B S v1 v2 Q w r1 r2 k => by
  cases r1; cases r2
  exact .inl (.inr (.inr ⟨z, i, c, rfl, rfl, Nat.le_trans hz (by decide), hi, k _ _ Γ H h ⟨_, _, w.pushd .str⟩⟩))
theorem o2_ixD {kvs : List (Key × D)} {k : Key} {y : D} (hi : dval kvs k = some y) (h : post (.d y) Γ) : Op2 K F B0 (rIxG K) (.dic kvs) (kD k) T Γ post := fun τ σ H B S v1 v2 Q w r1 r2 k' => by
  have e := r2.kV
  subst e
  cases r1 with | @dic a ws _ hd _ rk =>
  rcases rk.val (k := k) with ⟨u, z, h1, h2, r⟩ | ⟨h1, h2⟩
  · rw [hi] at h2
    cases h2
    exact .inr ⟨a, u, rfl, .inl ⟨ws, k, w.pu.rd hd, rfl, h1.symm⟩, k' _ _ Γ H h ⟨_, _, w.pushd r⟩⟩
  · rw [hi] at h2; cases h2
def cutD {α : Type} (xs : List α) (lo hi : Option Int) : List α := (xs.drop (HT.sIx xs.length 0 lo)).take (HT.sIx xs.length xs.length hi - HT.sIx xs.length 0 lo)
theorem RL.drop : ∀ {vs : List V} {xs : List D} (n : Nat), RL K B vs xs → RL K B (vs.drop n) (xs.drop n)
  | _, _, 0, r => r
  | _, _, _ + 1, .nil => .nil
  | _, _, n + 1, .cons _ t => RL.drop n t
theorem RL.take : ∀ {vs : List V} {xs : List D} (n : Nat), RL K B vs xs → RL K B (vs.take n) (xs.take n)
  | _, _, 0, _ => .nil
  | _, _, _ + 1, .nil => .nil
  | _, _, n + 1, .cons r t => .cons r (RL.take n t)
theorem RL.cut (r : RL K B vs xs) (lo hi : Option Int) : RL K B (cutV vs lo hi) (cutD xs lo hi) := by
  unfold cutV cutD
  rw [r.length]
  exact (r.drop _).take _
/-- a slice's part: left out, or a number -/
def GoO (K : PySem.W.Frag) (F B0 : Hp) (t : TO) (T : List O) (Γ : En) (post : Option Int → En → Prop) : Prop := ∀ (τ : List V) (σ : L2.St) (H : Hp) (Q : Option Int → Hp → Prop), Ho K F B0 τ T σ Γ H →
  (∀ o Γ' H', post o Γ' → Ho K F B0 τ T σ Γ' H' → Q o H') → t σ H Q
theorem goo_none {posto : Option Int → En → Prop} (h : posto none Γ) : GoO K F B0 tNoPart T Γ posto := fun τ σ H Q hw k => k none Γ H h hw
theorem goo_some {posto : Option Int → En → Prop} (h : Go K F B0 te T Γ fun o Γ1 => ∃ i, o = .d (.int i) ∧ posto (some i) Γ1) : GoO K F B0 (tPart te) T Γ posto := fun τ σ H Q hw k =>
  h τ σ H _ hw fun v o Γ1 H1 ⟨i, e, h1⟩ ⟨_, _, w1⟩ => by
    subst e
    obtain ⟨r, _, _, w⟩ := w1.popd
    cases r
    exact ⟨i, rfl, k _ _ _ h1 ⟨_, _, w⟩⟩
/-- a slice's value -/
inductive Sl : D → Option Int → Option Int → O → Prop
  | lst {x : D} {xs : List D} {lo hi : Option Int} : D.seq? x = some xs → Sl x lo hi (.ol ((cutD xs lo hi).map O.d))
  | str {z : Str} {lo hi : Option Int} : z.length ≤ 100000 → Sl (.str z) lo hi (.d (.str (cutS z lo hi)))
  | tup {xs : List D} {lo hi : Option Int} : ¬ (HT.sIx xs.length 0 lo = 0 ∧ HT.sIx xs.length xs.length hi = xs.length) → Sl (.tup xs) lo hi (.d (.tup (cutD xs lo hi)))
theorem go_sl {tl th : TO} (h : Go K F B0 te T Γ fun o Γ1 => GoO K F B0 tl (.d o.fz :: T) Γ1 fun lo Γ2 => GoO K F B0 th (.d o.fz :: T) Γ2 fun hi Γ3 => ∃ o2, Sl o.fz lo hi o2 ∧ post o2 Γ3) : Go K F B0 (tSl (rSlG K) te tl th) T Γ post := fun τ σ H Q hw k =>
  h τ σ H _ hw fun v o Γ1 H1 h1 ⟨_, _, w1⟩ => by
    obtain ⟨_, _, w1, _⟩ := w1.fz
    refine h1 _ σ H1 _ ⟨_, _, w1⟩ fun lo Γ2 H2 h2 w2 => h2 _ σ H2 _ w2 fun hi Γ3 H3 ⟨o2, sl, h3⟩ ⟨_, _, w3⟩ => ?_
    obtain ⟨r, _, _, w⟩ := w3.popd
    generalize o.fz = y at r sl
    cases sl with
    | lst q =>
      obtain ⟨a, vs, rfl, sq, rl⟩ := r.seqL q
      refine .inl ⟨a, vs, rfl, w.pu.sqL sq, fun p hp => ?_⟩
      obtain ⟨S2, w⟩ := w.newl hp (rl.cut lo hi)
      exact k _ _ _ _ h3 ⟨_, _, w⟩
    | str hz =>
      cases r
      exact .inr (.inl ⟨_, rfl, Nat.le_trans hz (by decide), k _ _ _ _ h3 ⟨_, _, w.pushd .str⟩⟩)
    | tup hn =>
      cases r with | @tup a vs _ sq rl =>
      refine .inr (.inr ⟨a, vs, rfl, w.pu.sqT sq, by rw [rl.length]; exact hn, fun p hp => ?_⟩)
      obtain ⟨S2, w⟩ := w.newd (x := .tup (cutD _ lo hi)) hp (.tup (SqT.of upd_same) ((rl.cut lo hi).mono (.of_ex (.new (w.pu.back hp)))))
      exact k _ _ _ _ h3 ⟨_, _, w⟩
def rLenG (K : PySem.W.Frag) : List V → Hp → VK → Prop := fun xs H Q => (∃ x n, xs = [x] ∧ LenV K x H n ∧ Q (.int n) H) ∨ ∃ a kvs, xs = [V.ref a] ∧ Rd H a (.dK kvs) ∧ Q (.int kvs.length) H
theorem call_lenG {X : Cx} : CallR X (.builtin "len") (rLenG X.K) := by
  intro pins s σ H xs us Q I r h
  rcases h with h | ⟨a, kvs, rfl, ha, q⟩
  · exact call_len pins s σ H xs us Q I r h
  · rw [r.ref1]
    exact d_len I ha fun t s' I' => ⟨.int kvs.length, H, I', ⟨t, rfl⟩, q⟩
inductive Ln : D → Nat → Prop
  | seq {x : D} {xs : List D} : D.items? x = some xs → Ln x xs.length
  | str {z : Str} : z.length ≤ 100000 → Ln (.str z) z.length
  | dic {kvs : List (Key × D)} : Ln (.dic kvs) kvs.length
theorem RK.length : ∀ {ws : List (Key × V)} {kvs : List (Key × D)}, RK K B ws kvs → ws.length = kvs.length
  | _, _, .nil => rfl
  | _, _, .cons _ t => by simp [RK.length t]
theorem oa_len {x : D} {n : Nat} (q : Ln x n) (h : post (.d (.int n)) Γ) : OpA K F B0 (rLenG K) [x] T Γ post := fun τ σ H B S vs Q w rl k => by
  obtain ⟨v1, rfl, r⟩ := rl.one
  have fin := fun (n : Nat) (h : post (.d (.int n)) Γ) => k (.int n) _ Γ H h ⟨_, _, w.pushd .int⟩
  cases q with
  | seq q =>
    obtain ⟨a, vs, rfl, sq, rl⟩ := r.items q
    rcases sq with sq | sq
    · exact .inl ⟨_, _, rfl, .inl ⟨vs, w.pu.sqL sq, rl.length.symm⟩, fin _ h⟩
    · exact .inl ⟨_, _, rfl, .inr ⟨vs, w.pu.sqT sq, rl.length.symm⟩, fin _ h⟩
  | str hz => cases r; exact .inl ⟨_, _, rfl, ⟨Nat.le_trans hz (by decide), rfl⟩, fin _ h⟩
  | dic => cases r with | @dic a ws _ hd _ rk => exact .inr ⟨a, ws, rfl, w.pu.rd hd, by rw [rk.length]; exact fin _ h⟩
def rMax2 : List V → Hp → VK → Prop := fun xs H Q => ∃ i j, xs = [.int i, .int j] ∧ Q (.int (if j > i then j else i)) H
def rMin2 : List V → Hp → VK → Prop := fun xs H Q => ∃ i j, xs = [.int i, .int j] ∧ Q (.int (if j < i then j else i)) H
theorem oa_max2 {a b : Int} (h : post (.d (.int (if b > a then b else a))) Γ) : OpA K F B0 rMax2 [.int a, .int b] T Γ post := fun τ σ H B S vs Q w rl k => by
  obtain ⟨v1, v2, rfl, r, r2⟩ := rl.two
  cases r; cases r2
  exact ⟨a, b, rfl, k _ _ Γ H h ⟨_, _, w.pushd .int⟩⟩
theorem oa_min2 {a b : Int} (h : post (.d (.int (if b < a then b else a))) Γ) : OpA K F B0 rMin2 [.int a, .int b] T Γ post := fun τ σ H B S vs Q w rl k => by
  obtain ⟨v1, v2, rfl, r, r2⟩ := rl.two
  cases r; cases r2
  exact ⟨a, b, rfl, k _ _ Γ H h ⟨_, _, w.pushd .int⟩⟩
theorem RK.keys : ∀ {ws : List (Key × V)} {kvs : List (Key × D)}, RK K B ws kvs → ws.map (·.1) = kvs.map (·.1)
  | _, _, .nil => rfl
  | _, _, .cons _ t => by simp [RK.keys t]
/-- dict(d) -/
def rDictD : List V → Hp → VK → Prop := fun xs H Q => ∃ (a : Addr) (kvs : List (Key × V)), xs = [.ref a] ∧ Rd H a (.dK kvs) ∧ ∀ p, H p = none → Q (.ref p) (upd H p (.dK kvs))
theorem RK.flK {S : Ad} : ∀ {ws : List (Key × V)} {kvs : List (Key × D)}, RK K B ws kvs → RS K B H S (ws.map fun p => some p.2) ((kvs.map fun p => (p.1, O.d p.2)).map fun p => some p.2)
  | _, _, .nil => .nil
  | _, _, .cons r t => .cons (S1 := fun _ => False) (S2 := S) (fun _ z => z.elim) (fun _ z => z) (fun _ z => z.elim) (.d r) (RK.flK t)
theorem oa_dictD {kvs : List (Key × D)} (h : post (.od (kvs.map fun p => (p.1, O.d p.2))) Γ) : OpA K F B0 rDictD [.dic kvs] T Γ post := fun τ σ H B S vs Q w rl k => by
  obtain ⟨v1, rfl, r⟩ := rl.one
  cases r with | @dic a ws _ hd nd rk =>
  refine ⟨a, ws, rfl, w.pu.rd hd, fun p hp => ?_⟩
  obtain ⟨S2, w⟩ := w.newo hp (v := .ref p) (c := .dK ws) (o := .od (kvs.map fun p => (p.1, O.d p.2))) (.od (S' := fun _ => False) rfl (fun _ z => z.elim) id upd_same (by rw [List.map_map]; exact nd) (by rw [rk.keys, List.map_map]; rfl) rk.flK)
  exact k _ _ _ _ h ⟨_, _, w⟩
inductive TyD : D → String → Prop
  | non : TyD .non "NoneType"
  | bl {b : Bool} : TyD (.bl b) "bool"
  | int {i : Int} : TyD (.int i) "int"
  | str {s : Str} : TyD (.str s) "str"
  | tup {xs : List D} : TyD (.tup xs) "tuple"
  | lst {xs : List D} : TyD (.lst xs) "list"
  | dic {kvs : List (Key × D)} : TyD (.dic kvs) "dict"
theorem TyD.at {n : String} (t : TyD x n) (r : R K B v x) (pu : Ex B H) : TyX K H v (.type n) := by
  cases t <;> cases r
  · exact .base .non
  · exact .base (.bl _)
  · exact .base (.int _)
  · exact .base (.str _)
  · rename_i a vs h _
    rcases h with h | ⟨o, its, n, h1, h2, _⟩
    · rcases pu.rd h with h | ⟨o, h⟩
      · exact .base (.tup h)
      · exact .fTuple h
    · exact .kTuple h1 h2
  · rename_i h _
    exact .base (.lst (pu _ _ h))
  · rename_i h _ _
    rcases pu.rd h with h | ⟨o, h⟩
    · exact .base (.dK h)
    · exact .fDict h
theorem oa_isi {x : D} {n c : String} {b : Bool} (t : TyD x n) (q : kitB n c = some b) (h : post (.d (.bl b)) Γ) : OpA K F B0 (rIsi K) [x, .ty c] T Γ post := fun τ σ H B S vs Q w rl k => by
  obtain ⟨v1, v2, rfl, r, r2⟩ := rl.two
  cases r2
  exact ⟨_, _, .type n, .type c, b, rfl, .ty c, t.at r w.pu, kit_ty q, k _ _ Γ H h ⟨_, _, w.pushd .bl⟩⟩
def wipeE : En → List Nat → En
  | Γ, [] => Γ
  | Γ, j :: js => (wipeE Γ js).set j none
theorem RS.unset : ∀ {σ : List (Option V)} {Γ : List (Option O)} {S : Ad} {j : Nat} {v : Option V}, RS K B H S σ Γ → RS K B H S (σ.set j v) (Γ.set j none)
  | _, _, _, _, _, .nil => .nil
  | _, _, _, 0, _, .un r => .un r
  | _, _, _, 0, _, .cons _ s2 _ _ r => .un (r.tr (.refl B) s2 fun _ _ _ e => e)
  | _, _, _, j + 1, _, .un r => .un (RS.unset r)
  | _, _, _, j + 1, _, .cons s1 s2 d r rs => .cons s1 s2 d r (RS.unset rs)
theorem HW.unset (h : HW K F B0 τ T σ Γ H B S) (j : Nat) (v : Option V) : HW K F B0 τ T (σ.set j v) (Γ.set j none) H B S := by
  refine ⟨h.fr, h.pu, h.b0, h.ow, h.nw, ?_, h.lt⟩
  have r := RS.unset (j := τ.length + j) (v := v) h.rs
  rw [List.set_append_right _ _ (by simp), List.set_append_right _ _ (by simp [h.lt]), List.length_map, List.length_map, ← h.lt, Nat.add_sub_cancel_left] at r
  exact r
theorem HW.wipe : ∀ {js : List Nat}, HW K F B0 τ T σ Γ H B S → HW K F B0 τ T (L2.wipe σ js) (wipeE Γ js) H B S
  | [], h => h
  | j :: _, h => (HW.wipe h).unset j none
/-- the slots are as they were, but for some that are forgotten -/
theorem HW.back (h : HW K F B0 τ T σ Γ H B S) {σ' : L2.St} {Γ' : En} (w : HW K F B0 τ T σ' Γ' H B S) : True := trivial
/-- a target that stores in the comprehension's own slots alone -/
def GoW (K : PySem.W.Frag) (F B0 : Hp) (js : List Nat) (g : TG) (d : D) (T : List O) (Γ : En) (post : En → Prop) : Prop := ∀ (τ : List V) (σ : L2.St) (H : Hp) (v : V) (Q : L2.St → Hp → Prop), Ho K F B0 (v :: τ) (.d d :: T) (L2.wipe σ js) Γ H →
  (∀ σ' Γ' H', post Γ' → L2.wipe σ' js = L2.wipe σ js → Ho K F B0 τ T σ' Γ' H' → Q σ' H') → g v (L2.wipe σ js) H Q
theorem wipe_set {j : Nat} : ∀ {js : List Nat} {σ : L2.St} {v : Option V}, j ∈ js → L2.wipe (σ.set j v) js = L2.wipe σ js
  | [], _, _, h => by cases h
  | k :: js, σ, v, h => by
    unfold L2.wipe
    by_cases q : j = k
    · subst q
      by_cases q2 : j ∈ js
      · rw [wipe_set q2]
      · have e : ∀ (js : List Nat) (σ : L2.St), j ∉ js → L2.wipe (σ.set j v) js = (L2.wipe σ js).set j v := by
          intro js
          induction js with
          | nil => intro σ _; rfl
          | cons k js ih =>
            intro σ h
            simp only [List.mem_cons, not_or] at h
            unfold L2.wipe
            rw [ih σ h.2, List.set_comm _ _ h.1]
        rw [e js σ q2, List.set_set]
    · have h2 : j ∈ js := (List.mem_cons.mp h).resolve_left q
      rw [wipe_set h2]
theorem wipe_wipe : ∀ {js ks : List Nat} {σ : L2.St}, (∀ k ∈ js, k ∈ ks) → L2.wipe (L2.wipe σ js) ks = L2.wipe σ ks
  | [], _, _, _ => rfl
  | j :: js, ks, σ, h => by
    show L2.wipe ((L2.wipe σ js).set j none) ks = _
    rw [wipe_set (h j (by simp)), wipe_wipe fun k hk => h k (by simp [hk])]
theorem gow_name {js : List Nat} {j : Nat} {d : D} (hj : j ∈ js) (hi : j < Γ.length) (h : posts1 (Γ.set j (some (.d d)))) : GoW K F B0 js (gName j) d T Γ posts1 := fun τ σ H v Q ⟨_, _, w⟩ k => by
  obtain ⟨S', w⟩ := w.put hi
  exact k _ _ _ h (by rw [wipe_set hj, wipe_wipe fun _ h => h]) ⟨_, S', w⟩
def GoWs (K : PySem.W.Frag) (F B0 : Hp) (js : List Nat) (g : TGs) (xs : List D) (T : List O) (Γ : En) (post : En → Prop) : Prop := ∀ (τ : List V) (σ σ0 : L2.St) (H B : Hp) (S : Ad) (vs : List V) (Q : L2.St → Hp → Prop), HW K F B0 τ T σ Γ H B S → RL K B vs xs → L2.wipe σ js = L2.wipe σ0 js →
  (∀ σ' Γ' H', post Γ' → L2.wipe σ' js = L2.wipe σ0 js → Ho K F B0 τ T σ' Γ' H' → Q σ' H') → g vs σ H Q
theorem gow_tup {js : List Nat} {g : TGs} {n : Nat} {d : D} {xs : List D} (e : d = .tup xs) (hn : xs.length = n) (h : GoWs K F B0 js g xs T Γ posts1) : GoW K F B0 js (gTup K n g) d T Γ posts1 := fun τ σ H v Q ⟨B, S, w⟩ k => by
  subst e
  obtain ⟨r, S2, _, w2⟩ := w.popd
  cases r with
  | @tup a vs _ sq rl => exact ⟨a, vs, rfl, w.pu.sqT sq, by rw [rl.length, hn], h τ _ σ H B S2 vs Q w2 rl (wipe_wipe fun _ h => h) k⟩
theorem gows_nil {js : List Nat} (h : posts1 Γ) : GoWs K F B0 js gNil [] T Γ posts1 := fun τ σ σ0 H B S vs Q w r e k => by
  cases r
  exact ⟨rfl, k σ Γ H h e ⟨_, _, w⟩⟩
theorem gows_name {js : List Nat} {xs : List D} {g : TGs} {j : Nat} (hj : j ∈ js) (hi : j < Γ.length) (h : GoWs K F B0 js g xs T (Γ.set j (some (.d x))) posts1) : GoWs K F B0 js (gCons (gName j) g) (x :: xs) T Γ posts1 := fun τ σ σ0 H B S vs Q w r e k => by
  cases r with
  | cons r rl =>
    obtain ⟨S', w'⟩ := (w.pushd r).put hi
    exact ⟨_, _, rfl, h τ _ σ0 H B S' _ Q w' rl (by rw [wipe_set hj, e]) k⟩
theorem RS.reset : ∀ {σ : List (Option V)} {Γ : List (Option O)} {S : Ad} {j : Nat}, RS K B H S (σ.set j none) Γ → Γ.set j none = Γ → RS K B H S σ Γ
  | [], _, _, _, r, _ => r
  | _ :: _, [], _, 0, r, _ => nomatch r
  | _ :: _, [], _, _ + 1, r, _ => nomatch r
  | v :: σ, g :: Γ, S, 0, r, e => by
    rw [List.set_cons_zero] at r e
    have e2 : none = g := (List.cons.inj e).1
    subst e2
    cases r with
    | un r => exact .un r
  | v :: σ, g :: Γ, S, j + 1, r, e => by
    rw [List.set_cons_succ] at r e
    have e2 := (List.cons.inj e).2
    cases r with
    | un r => exact .un (RS.reset r e2)
    | cons s1 s2 d r rs => exact .cons s1 s2 d r (RS.reset rs e2)
theorem HW.reset {j : Nat} (h : HW K F B0 τ T (σ.set j none) Γ H B S) (e : Γ.set j none = Γ) : HW K F B0 τ T σ Γ H B S := by
  refine ⟨h.fr, h.pu, h.b0, h.ow, h.nw, ?_, h.lt⟩
  refine RS.reset (j := τ.length + j) ?_ ?_
  · rw [List.set_append_right _ _ (by simp), List.length_map, Nat.add_sub_cancel_left]; exact h.rs
  · rw [List.set_append_right _ _ (by simp [h.lt]), List.length_map, ← h.lt, Nat.add_sub_cancel_left, e]
theorem HW.unwipe : ∀ {js : List Nat}, HW K F B0 τ T (L2.wipe σ js) Γ H B S → (∀ j ∈ js, Γ.set j none = Γ) → HW K F B0 τ T σ Γ H B S
  | [], h, _ => h
  | j :: js, h, e => HW.unwipe (HW.reset h (e j (by simp))) fun k hk => e k (by simp [hk])
/-- the second thing of the pile, a list, takes the first one -/
theorem HW.appTop {y : V} {D : Addr} {acc : List O} (h : HW K F B0 (y :: .ref D :: τ) (o :: .ol acc :: T) σ Γ H B S) : ∃ us S', H D = some (.lst us) ∧ us.length = acc.length ∧ HW K F B0 (.ref D :: τ) (.ol (acc ++ [o]) :: T) σ Γ (upd H D (.lst (us ++ [y]))) B S' := by
  obtain ⟨So, Sr, s1, s2, dj, ro, wr⟩ := h.pop
  obtain ⟨S1, S2, t1, t2, dj2, rl, w2⟩ := wr.pop
  cases rl with
  | @ol _ S4 _ us _ ha hs hn hc rs =>
  have len : us.length = acc.length := by simpa using rs.len
  have nb : ∀ b, S2 b → b ≠ D := fun b z e => by subst e; exact dj2 b ha z
  refine ⟨us, fun b => (S1 b ∨ So b) ∨ S2 b, hc, len, ⟨fun b u z => ?_, fun b u z => ?_, h.b0, fun b z => ?_, h.nw, .cons (S1 := fun b => S1 b ∨ So b) (S2 := S2) (fun b z => .inl z) (fun b z => .inr z) (fun b z y => z.elim (fun z => dj2 b z y) (fun z => dj b z (t2 b y)))
    (.ol (S' := fun b => S4 b ∨ So b) (.inl ha) (fun b z => z.imp (hs b) id) (fun z => z.elim hn fun z => dj D z (t1 D ha)) upd_same ?_) (w2.rs.at fun b u z q => by rw [upd_ne (nb b z)]; exact q), by have := w2.lt; simp [this]⟩⟩
  · have hn : b ≠ D := fun q => by rw [q, (wr.ow D (t1 D ha)).1] at z; cases z
    rw [upd_ne hn]; exact h.fr b u z
  · have hn : b ≠ D := fun q => by rw [q, (wr.ow D (t1 D ha)).2.1] at z; cases z
    rw [upd_ne hn]; exact h.pu b u z
  · have : F b = none ∧ B b = none ∧ H b ≠ none := by
      rcases z with (z | z) | z
      · exact wr.ow b (t1 b z)
      · exact h.ow b (s1 b z)
      · exact wr.ow b (t2 b z)
    refine ⟨this.1, this.2.1, ?_⟩
    by_cases hn : b = D
    · rw [hn, upd_same]; simp
    · rw [upd_ne hn]; exact this.2.2
  · rw [List.map_append, List.map_append]
    exact (rs.snoc ro fun b z y => dj b y (t1 b (hs b z))).at fun b u z q => by
      rw [upd_ne (fun e => by subst e; exact z.elim hn fun z => dj b z (t1 b ha))]; exact q
theorem wipeE_same : ∀ {js : List Nat}, (∀ j ∈ js, Γ.set j none = Γ) → wipeE Γ js = Γ
  | [], _ => rfl
  | j :: js, h => by
    show (wipeE Γ js).set j none = Γ
    rw [wipeE_same fun k hk => h k (by simp [hk])]
    exact h j (by simp)
/-- a comprehension: items x give f x where p x -/
theorem go_lc {α : Type} {wi : TI} {g : TG} {js : List Nat} (h : GoI K F B0 wi T Γ fun ds hs Γ1 => ∃ (xs : List α) (e : α → D) (p : α → Bool) (f : α → D), ds = xs.map e ∧ xs.length ≤ 100000 ∧ (∀ j ∈ js, Γ1.set j none = Γ1) ∧
    (∀ (k : Nat) (x : α) (acc : List O), xs[k]? = some x → GoW K F B0 js g (e x) (.ol acc :: (hs.map O.d ++ T)) Γ1 fun Γ2 => GoT K F B0 tt (.ol acc :: (hs.map O.d ++ T)) Γ2 fun b Γ3 => b = p x ∧ (p x = false → wipeE Γ3 js = Γ1) ∧
      (p x = true → Go K F B0 te (.ol acc :: (hs.map O.d ++ T)) Γ3 fun o Γ4 => o.fz = f x ∧ wipeE Γ4 js = Γ1)) ∧
    post (.ol (((xs.filter p).map f).map O.d)) Γ1) : Go K F B0 (tLc wi g tt te js) T Γ post := fun τ σ H Q hw k =>
  h τ σ H _ hw fun J τs hs ds Γ1 H1 ⟨xs, e, p, f, hds, hz, hj, hst, hp⟩ ⟨B1, S1, w1⟩ hl it D hD => by
    subst hds
    have hl' : τs.length = (hs.map O.d).length := by simp [hl]
    have hwp : wipeE Γ1 js = Γ1 := wipeE_same hj
    obtain ⟨S0, w0⟩ := w1.newl (p := D) (xs := []) (vs := []) hD .nil
    have w0' := w0.wipe (js := js)
    rw [hwp] at w0'
    let A : Nat → List O := fun i => (((xs.take i).filter p).map f).map O.d
    have A1 : ∀ (i : Nat) (x : α), xs[i]? = some x → A (i + 1) = if p x = true then A i ++ [.d (f x)] else A i := fun i x hx => by
      have e1 : xs.take (i + 1) = xs.take i ++ [x] := by rw [List.take_add_one, hx]; rfl
      show ((((xs.take (i + 1)).filter p).map f).map O.d) = _
      rw [e1, List.filter_append, List.map_append, List.map_append]
      by_cases q : p x = true
      · rw [if_pos q]; simp [q, A]
      · rw [if_neg q]; simp [q, A]
    have Al : ∀ i, (A i).length ≤ xs.length := fun i => by
      simp only [A, List.length_map]
      exact Nat.le_trans (List.length_filter_le _ _) (by simp; omega)
    refine ⟨fun i m H' => m = xs.length - i ∧ i ≤ xs.length ∧ ∃ B' S', HW K F B0 (.ref D :: (τs ++ τ)) (.ol (A i) :: (hs.map O.d ++ T)) (L2.wipe σ js) Γ1 H' B' S', ⟨xs.length, by simp, Nat.zero_le _, B1, S0, by simpa [A] using w0'⟩, ?_⟩
    rintro i m H' ⟨rfl, hi, B', S', w⟩
    obtain ⟨_, S'', _, _, _, _, wd⟩ := w.pop
    obtain ⟨q1, q2⟩ := it _ _ _ Γ1 H' B' _ w (wd.held hl)
    by_cases hlt : i < xs.length
    · obtain ⟨q3, q4⟩ := q2 i (e xs[i]) (by simp [hlt])
      refine .inr ⟨q3, fun H2 => ∃ B2 S2, HW K F B0 (.ref D :: (τs ++ τ)) (.ol (A (i + 1)) :: (hs.map O.d ++ T)) (L2.wipe σ js) Γ1 H2 B2 S2, fun H2 z => ⟨xs.length - (i + 1), by omega, rfl, hlt, z⟩, fun x H2 y => ?_⟩
      obtain ⟨B2, S2, w2⟩ := q4 x H2 y
      refine hst i xs[i] (A i) (by simp [hlt]) (.ref D :: (τs ++ τ)) σ H2 x _ ⟨B2, S2, w2⟩ fun σ3 Γ3 H3 h3 e3 w3 => ⟨e3, h3 _ σ3 H3 _ w3 fun b Γ4 H4 ⟨hb, hf, ht⟩ w4 => ?_⟩
      subst hb
      have a1 := A1 i xs[i] (by simp [hlt])
      cases hpx : p xs[i] with
      | true =>
        rw [hpx] at a1
        refine iteT (ht hpx _ σ3 H4 _ w4 fun v o Γ5 H5 ⟨eo, e5⟩ ⟨B5, S5, w5⟩ => ?_)
        obtain ⟨B6, S6, w6, _⟩ := w5.fz
        obtain ⟨us, S7, hus, hlen, w7⟩ := w6.appTop
        refine ⟨us, hus, by rw [hlen]; exact Nat.lt_of_le_of_lt (Nat.le_trans (Al i) hz) (by decide), B6, S7, ?_⟩
        have w8 := w7.wipe (js := js)
        rw [e5, e3, eo] at w8
        rw [a1]
        exact w8
      | false =>
        rw [hpx] at a1
        obtain ⟨B4, S4, w4⟩ := w4
        refine iteF ⟨B4, S4, ?_⟩
        have w8 := w4.wipe (js := js)
        rw [hf hpx, e3] at w8
        rw [a1]
        exact w8
    · have ei : i = xs.length := by omega
      subst ei
      rw [List.length_map] at q1
      refine .inl ⟨q1, k _ _ Γ1 H' hp ⟨B', S', HW.unwipe ?_ hj⟩⟩
      have e : A xs.length = ((xs.filter p).map f).map O.d := by simp [A]
      rw [e] at w
      exact w.under hl'
end
end SK
namespace SK
open PySem PySem.Spec PyProof.Rows L2
def iSeq (K : PySem.W.Frag) (tl : TE) : TI := fun σ H R => tl σ H fun x H1 => (∃ a, x = .ref a ∧ (∃ xs, SqL K H1 a xs) ∧ R (Itl K a) H1) ∨ ((∃ a, x = .ref a ∧ (∃ xs, SqT K H1 a xs) ∧ R (Itt K a) H1) ∨ ∃ s, x = .str s ∧ R (Its s) H1)
theorem pi_seq {X : Cx} {tg l : Expr} {tl : TE} (hl : PE X l tl) : PI X tg l (iSeq X.K tl) := by
  refine ⟨fun pins s σ H R I h => ?_⟩
  -- the three kinds, each by its own rule over a value that is there
  refine thn (hl.run pins s σ H _ I h) fun v s1 ⟨x, H1, I1, r1, q1⟩ => ?_
  rcases q1 with ⟨a, e, ⟨xs, hq⟩, q⟩ | ⟨a, e, ⟨xs, hq⟩, q⟩ | ⟨z, e, q⟩
  · subst e
    cases r1
    obtain ⟨its, rv, p, hz⟩ := I1.list hq
    refine wpAny_pyIter_list p.isList ?_
    refine ⟨s1.heap.objs.size, [s1.heap.objs.size], _, _, H1, rfl, I1.kept (t' := s1.toks) fun b o e => Heap.get?_push_of_some _ e, turn_list a _, ⟨_, Heap.get?_push_size _ rfl, rfl, rfl⟩, fun b hb => ?_, q⟩
    have e : b = s1.heap.objs.size := by simpa using hb
    subst e
    exact I1.fpOk (Nat.le_refl _) (I1.hok.fresh (Nat.le_refl _))
  · subst e
    cases r1
    obtain ⟨its, rv, p, hz⟩ := I1.tuple hq
    refine wpAny_pyIter_tuple (show s1.heap.IsTuple a its.toArray from p) ?_
    refine ⟨s1.heap.objs.size, [s1.heap.objs.size], _, _, H1, rfl, I1.kept (t' := s1.toks) fun b o e => Heap.get?_push_of_some _ e, turn_tuple a _, ⟨_, Heap.get?_push_size _ rfl, rfl, rfl⟩, fun b hb => ?_, q⟩
    have e : b = s1.heap.objs.size := by simpa using hb
    subst e
    exact I1.fpOk (Nat.le_refl _) (I1.hok.fresh (Nat.le_refl _))
  · subst e
    obtain ⟨t, rfl⟩ := r1
    cases ha : z.cps.all (· < 128)
    · exact wpAny_pyIter_wide ha (pi_one (tk := s1.toks) I1 _ (turn_str _ z t "str_iterator" (.inr rfl)) ⟨_, Heap.get?_push_size _ rfl, rfl, rfl⟩ q)
    · exact wpAny_pyIter_ascii ha (pi_one (tk := s1.toks) I1 _ (turn_str _ z t "str_ascii_iterator" (.inl rfl)) ⟨_, Heap.get?_push_size _ rfl, rfl, rfl⟩ q)
def rInsert : V → List V → Hp → VK → Prop := fun x vs H Q => ∃ (l : Addr) (xs : List V) (i : Int) (y : V), x = .ref l ∧ vs = [.int i, y] ∧ H l = some (.lst xs) ∧ xs.length < sizeLine ∧ 0 ≤ i ∧ i < 2 ^ 63 ∧
    Q .non (upd H l (.lst (xs.take i.toNat ++ [y] ++ xs.drop i.toNat)))
theorem mt_insertG {X : Cx} : MtR X "list.insert" rInsert := mt_insert
def rIsiG (K : PySem.W.Frag) : List V → Hp → VK → Prop := fun xs H Q => rIsi K xs H Q ∨ rIsiT K xs H Q
theorem call_isiG {X : Cx} : CallR X (.builtin "isinstance") (rIsiG X.K) := call_isi.or call_isiT
/-- o[i] = v of a list or a dict -/
def rSetG : TSet := fun o i v H Q => rSetL o i v H Q ∨ ∃ a H', o = .ref a ∧ DPut H a i v H' ∧ Q H'
theorem set_G {X : Cx} (hu : X.A.units + 1 < cLine) : PSet X rSetG := by
  intro pins s σ H o i v ov iv u Q I ro ri rv h
  rcases h with h | ⟨a, H', e, g, q⟩
  · exact set_list pins s σ H o i v ov iv u Q I ro ri rv h
  · subst e
    cases ro
    exact d_setItem hu I g ri rv fun s' I' => ⟨H', I', q⟩
def ipAddG : TIp := fun x y H Q => rI0 (fun i j => .int (i + j)) x y H Q ∨ ∃ i j, x = .str i ∧ y = .str j ∧ i.length + j.length ≤ sizeLine ∧ Q (.str (i ++ j)) H
def ipSubG : TIp := rI0 fun i j => .int (i - j)
section
variable {K : PySem.W.Frag} {F B0 H H' B B' : Hp} {τ τs : List V} {T os : List O} {σ : L2.St} {Γ : En} {S S1 S2 : Ad} {v w : V} {o p : O} {x : D} {post : O → En → Prop} {ta tb tc te td ty tv : TE} {tt tu : TT} {i : Nat} {posts : List D → En → Prop} {postt : Bool → En → Prop} {posts1 : En → Prop} {Dd : EG} {xs : List D} {vs : List V} {r r' : R2}
/-- what a walk finds in a thing -/
inductive Wk : D → List D → Prop
  | seq {x : D} {xs : List D} : D.seq? x = some xs → Wk x xs
  | tup {xs : List D} : Wk (.tup xs) xs
  | str {s : Str} : Wk (.str s) (sgnD s)
theorem goi_seq {tl : TE} {posti : List D → List D → En → Prop} (h : Go K F B0 tl T Γ fun o Γ1 => ∃ xs, Wk o.fz xs ∧ posti xs [o.fz] Γ1) : GoI K F B0 (iSeq K tl) T Γ posti := fun τ σ H Q hw k =>
  h τ σ H _ hw fun v o Γ1 H1 ⟨xs, q, h1⟩ ⟨_, _, w1⟩ => by
    obtain ⟨B2, S2, w2, _⟩ := w1.fz
    obtain ⟨r, S3, _, w3⟩ := w2.popd
    generalize o.fz = y at r q h1 w2
    cases q with
    | seq q =>
      obtain ⟨a, vs, e, sq, rl⟩ := r.seqL q
      subst e
      exact .inl ⟨a, rfl, ⟨vs, w2.pu.sqL sq⟩, k (Itl K a) [.ref a] [y] xs Γ1 H1 h1 ⟨_, _, w2⟩ rfl (iter_list q)⟩
    | tup =>
      cases r with
      | @tup a vs _ sq rl => exact .inr (.inl ⟨a, rfl, ⟨vs, w2.pu.sqT sq⟩, k (Itt K a) [.ref a] [.tup xs] xs Γ1 H1 h1 ⟨_, _, w2⟩ rfl iter_tup⟩)
    | @str s =>
      cases r
      refine .inr (.inr ⟨s, rfl, k _ [.str s] [.str s] _ Γ1 H1 h1 ⟨_, _, w2⟩ rfl ?_⟩)
      intro τ T σ Γ H B S h _
      exact iter_str τ T σ Γ H B S h .nil
/-- a < b < c -/
theorem go_chain (h : Go K F B0 ta T Γ fun o1 Γ1 => Go K F B0 tb (.d o1.fz :: T) Γ1 fun o2 Γ2 => Op2 K F B0 r o1.fz o2.fz (.d o2.fz :: T) Γ2 fun o Γ3 => ∃ b, o = .d (.bl b) ∧
    (b = true → Go K F B0 tc (.d o2.fz :: T) Γ3 fun o3 Γ4 => Op2 K F B0 r' o2.fz o3.fz T Γ4 post) ∧ (b = false → post (.d (.bl false)) Γ3)) : Go K F B0 (tChain r r' ta tb tc) T Γ post := fun τ σ H Q hw k =>
  h τ σ H _ hw fun v1 o1 Γ1 H1 h1 ⟨_, _, w1⟩ => by
    obtain ⟨_, _, w1, _⟩ := w1.fz
    refine h1 _ σ H1 _ ⟨_, _, w1⟩ fun v2 o2 Γ2 H2 h2 ⟨_, _, w2⟩ => ?_
    obtain ⟨_, _, w2, e2⟩ := w2.fz
    obtain ⟨r2, _, _, w2'⟩ := w2.popd
    obtain ⟨r1, _, _, w0⟩ := w2'.popd
    have w3 := w0.pushd r2
    refine h2 _ σ H2 _ _ v1 v2 _ w3 r1 r2 fun v o Γ3 H3 ⟨b, eo, ht, hf⟩ ⟨_, _, w4⟩ => ?_
    subst eo
    obtain ⟨rb, _, _, w5⟩ := w4.popd
    cases rb
    refine ⟨b, rfl, ?_⟩
    cases b with
    | true =>
      refine iteT (ht rfl _ σ H3 _ ⟨_, _, w5⟩ fun v3 o3 Γ4 H4 h4 ⟨_, _, w6⟩ => ?_)
      obtain ⟨_, _, w6, r3, _⟩ := w6.fzd
      obtain ⟨r2', _, _, w6⟩ := w6.popd
      exact h4 τ σ H4 _ _ v2 v3 Q w6 r2' r3 k
    | false =>
      obtain ⟨_, _, _, w6⟩ := w5.popd
      exact iteF (k _ _ Γ3 H3 (hf rfl) ⟨_, _, w6.pushd .bl⟩)
theorem oa_isiG {x : D} {n c : String} {b : Bool} (t : TyD x n) (q : kitB n c = some b) (h : post (.d (.bl b)) Γ) : OpA K F B0 (rIsiG K) [x, .ty c] T Γ post := fun τ σ H B S vs Q w rl k =>
  .inl (oa_isi t q h τ σ H B S vs Q w rl k)
theorem oi_add {a b : Int} (h : post (.d (.int (a + b))) Γ) : Op2 K F B0 ipAddG (.int a) (.int b) T Γ post := fun τ σ H B S v1 v2 Q w r1 r2 k => by
  cases r1; cases r2
  exact .inl ⟨a, b, rfl, rfl, k _ _ Γ H h ⟨_, _, w.pushd .int⟩⟩
theorem oi_sub {a b : Int} (h : post (.d (.int (a - b))) Γ) : Op2 K F B0 ipSubG (.int a) (.int b) T Γ post := fun τ σ H B S v1 v2 Q w r1 r2 k => by
  cases r1; cases r2
  exact ⟨a, b, rfl, rfl, k _ _ Γ H h ⟨_, _, w.pushd .int⟩⟩
theorem RL.ints : ∀ {vs : List V} {ns : List Int}, RL K B vs (ns.map D.int) → vs = ns.map V.int
  | [], [], _ => rfl
  | v :: vs, n :: ns, .cons r t => by cases r; rw [RL.ints t]; rfl
  | _ :: _, [], r => by cases r
  | [], _ :: _, r => by cases r
/-- d[k] = e, xs[i] = e, as a target -/
theorem gog_setD {ti : TE} (h : Go K F B0 ti (o :: T) Γ fun ok Γ2 => ∃ k kvs, ok = .d (kD k) ∧ Γ2[i]? = some (some (.od kvs)) ∧ kvs.length < 100000 ∧ posts1 (Γ2.set i (some (.od (dput kvs k o))))) (h0 : ∃ kvs0, Γ[i]? = some (some (.od kvs0))) :
    GoG K F B0 (gSub (tVar i) ti rSetG) o T Γ posts1 := fun τ σ H v1 Q ⟨B1, S1, w1⟩ k' => by
  obtain ⟨kvs0, e0⟩ := h0
  obtain ⟨v, T1, a1, r1, _, _⟩ := w1.mut1 e0
  refine ⟨v, a1, h (v1 :: τ) σ H _ ⟨B1, S1, w1⟩ fun v2 o2 Γ2 H2 ⟨k, kvs, eo, e2, hz, h2⟩ ⟨B2, S2, w2⟩ => ?_⟩
  subst eo
  obtain ⟨rk, S3, _, w3⟩ := w2.popd
  have ek := rk.kV
  subst ek
  obtain ⟨v', S5, So, a2, r2, ro, dj, _, _, f⟩ := w3.mut2 e2
  rw [a1] at a2
  cases a2
  cases r2 with
  | @od _ S4 a ws _ ha hs hn hc nd ek rs =>
  have len : ws.length = kvs.length := by have := congrArg List.length ek; simpa using this
  refine .inr ⟨a, _, rfl, .inl ⟨ws, k, hc, rfl, by rw [len]; exact Nat.lt_of_lt_of_le hz (by decide), rfl⟩, ?_⟩
  obtain ⟨S', w4⟩ := f a (.dK (putK ws k v1)) (.od (dput kvs k o)) ha (.od (S' := fun b => S4 b ∨ So b) (.inl ha) (fun b z => z.imp (hs b) id) (fun z => z.elim hn fun z => dj a ha z) upd_same (dput_nodup nd) (by rw [putK_dput]; exact dput_keys ek) (by
    rw [putK_dput]
    exact (rs.dput ro nd ek fun b z => dj b (hs b z)).at fun b u z q => by
      rw [upd_ne (fun e => by subst e; exact z.elim hn fun z => dj b ha z)]; exact q))
  exact k' σ _ _ h2 ⟨B2, S', w4⟩
theorem fl_ins {So : Ad} (ro : RO K B H So w o) {Si : Ad} : ∀ {vs : List V} {xs : List O} (n : Nat), RS K B H Si (vs.map some) (xs.map some) → (∀ b, Si b → ¬ So b) → RS K B H (fun b => Si b ∨ So b) ((vs.take n ++ [w] ++ vs.drop n).map some) ((xs.take n ++ [o] ++ xs.drop n).map some) := by
  intro vs xs n r dj
  induction n generalizing vs xs Si with
  | zero => exact .cons (S1 := So) (S2 := Si) (fun b z => .inr z) (fun b z => .inl z) (fun b z y => dj b y z) ro r
  | succ n ih =>
    cases vs with
    | nil =>
      cases xs with
      | nil => exact .cons (S1 := So) (S2 := Si) (fun b z => .inr z) (fun b z => .inl z) (fun b z y => dj b y z) ro r
      | cons x xs => cases r
    | cons v vs =>
      cases xs with
      | nil => cases r
      | cons x xs =>
        cases r with
        | @cons _ T1 T2 _ _ _ _ s1 s2 d r rs =>
          have := ih rs fun b z => dj b (s2 b z)
          simp only [List.take_succ_cons, List.drop_succ_cons, List.cons_append, List.map_cons]
          exact .cons (S1 := T1) (S2 := fun b => T2 b ∨ So b) (fun b z => .inl (s1 b z)) (fun b z => z.imp (s2 b) id) (fun b z y => y.elim (d b z) (dj b (s1 b z))) r this
/-- xs.insert(i, e), xs a name -/
theorem gos_insert {ti : TE} (h : Go K F B0 ti T Γ fun oi Γ1 => ∃ j : Int, oi = .d (.int j) ∧ 0 ≤ j ∧ j < 2 ^ 63 ∧ Go K F B0 te (.d (.int j) :: T) Γ1 fun o Γ2 => ∃ xs, Γ2[i]? = some (some (.ol xs)) ∧ xs.length < 100000 ∧ Dd.nx (Γ2.set i (some (.ol (xs.take j.toNat ++ [o] ++ xs.drop j.toNat))))) (h0 : ∃ xs, Γ[i]? = some (some (.ol xs))) :
    GoS K F B0 (tDrop (tBM K "list" rInsert (tVar i) (tCons ti (tCons te tNil)))) T Γ Dd := fun τ σ H De hw s => by
  obtain ⟨B, S, w⟩ := hw
  obtain ⟨xs0, e0⟩ := h0
  obtain ⟨v, S1, a1, r1, _, _⟩ := w.mut1 e0
  cases r1 with
  | @ol _ _ a vs _ _ _ _ hc _ =>
  refine ⟨.ref a, a1, Or.inl ⟨rfl, vs, SqL.of hc⟩, h τ σ H _ ⟨B, S, w⟩ fun v1 o1 Γ1 H1 ⟨j, ej, hj0, hj1, h1⟩ w1 => ?_⟩
  subst ej
  refine h1 _ σ H1 _ w1 fun v2 o2 Γ2 H2 ⟨xs, e2, hz, h2⟩ ⟨B2, S2, w2⟩ => ?_
  have rj : R K B2 v1 (.int j) := by
    obtain ⟨_, _, _, _, _, _, wt⟩ := w2.pop
    exact wt.popd.1
  cases rj
  have w2' := HW.under (τs := [.int j]) (os := [.d (.int j)]) w2 rfl
  obtain ⟨v', S3, So, a2, r2, ro, dj, _, _, f⟩ := w2'.mut2 e2
  rw [a1] at a2
  cases a2
  cases r2 with
  | @ol _ S4 _ us _ ha hs hn hc2 rs =>
  have len : us.length = xs.length := by simpa using rs.len
  refine ⟨a, us, j, v2, rfl, rfl, hc2, by rw [len]; exact Nat.lt_of_lt_of_le hz (by decide), hj0, hj1, ?_⟩
  obtain ⟨S', w3⟩ := f a (.lst (us.take j.toNat ++ [v2] ++ us.drop j.toNat)) (.ol (xs.take j.toNat ++ [o2] ++ xs.drop j.toNat)) ha (.ol (S' := fun b => S4 b ∨ So b) (.inl ha) (fun b z => z.imp (hs b) id) (fun z => z.elim hn fun z => dj a ha z) upd_same
    ((fl_ins ro j.toNat rs fun b z => dj b (hs b z)).at fun b u z q => by
      rw [upd_ne (fun e => by subst e; exact z.elim hn fun z => dj b ha z)]; exact q))
  exact s.nx σ _ _ h2 ⟨B2, S', w3⟩
end
section
variable (P : Program) (w : World) (K : PySem.W.Frag) (mg : Str → Option Value) (base : Heap)
/-- a def stands at a module's name -/
def Df (x : Str) (st : Stmt) : Prop := ∃ f fd, Fun K x x st f fd ∧ mg x = some (.ref f)
/-- .. and keeps a contract -/
def Cal (x : Str) (k : Nat) (ps : List Str) (C : Ct) : Prop := ∃ f fd, FnOk P w K mg base CX0 k f fd ps (spP K C) ∧ mg x = some (.ref f) ∧ PySem.W.keepIn K (.ref f) = true ∧ Binds K fd ps [] ∧ ∃ oc od sl, K.lookup f = some ⟨oc, od, .func fd, sl⟩
/-- .. one that may let an exception out -/
def CalX (x : Str) (k : Nat) (ps : List Str) (C : Ct) : Prop := ∃ f fd, FnOk P w K mg base (L2.CX P w) k f fd ps (spP K C) ∧ mg x = some (.ref f) ∧ PySem.W.keepIn K (.ref f) = true ∧ Binds K fd ps [] ∧ ∃ oc od sl, K.lookup f = some ⟨oc, od, .func fd, sl⟩
end
theorem df_mk {K : PySem.W.Frag} {mg : Str → Option Value} {h : Heap} (X : K.In h) (G : h.Ns mainGlobals mg) {x : Str} {st : Stmt} {f : Addr} {oc : Value} {od an : Option Addr} {sl : Array (Option Value)} {kV dc pm cd ct : Value}
    (a : PySem.W.nsIn K mainGlobals x = some (some (.ref f))) (l : K.lookup f = some ⟨oc, od, .func (PySem.W.fnOf x x (defArgs st) (defBody st) (defScope st) .none kV dc pm an cd ct), sl⟩)
    (c : PySem.W.codeIn K cd x = true) (k : PySem.W.keepIn K (.ref f) = true) : Df K mg x st := ⟨f, _, fun_mk (st := st) l c k, PySem.W.mg_of X G a⟩
theorem Fun.lk {K : PySem.W.Frag} {x : Str} {st : Stmt} {f : Addr} {fd : FuncData} (F : Fun K x x st f fd) : ∃ oc od sl, K.lookup f = some ⟨oc, od, .func fd, sl⟩ := by
  obtain ⟨oc, od, kV, doc, pm, an, cdv, ct, osl, _, l, _⟩ := F.ex
  exact ⟨oc, od, osl, l⟩
theorem fn_same {P : Program} {w : World} {K : PySem.W.Frag} {mg : Str → Option Value} {base : Heap} {CX : CXT} {k : Nat} {f : Addr} {fd fd2 : FuncData} {ps : List Str} {sp : Sp} {oc oc2 : Value} {od od2 : Option Addr} {sl sl2 : Array (Option Value)}
    (l : K.lookup f = some ⟨oc, od, .func fd, sl⟩) (l2 : K.lookup f = some ⟨oc2, od2, .func fd2, sl2⟩) (G : FnOk P w K mg base CX k f fd2 ps sp) : FnOk P w K mg base CX k f fd ps sp := by
  rw [l] at l2
  cases l2
  exact G
/-- the law's own promise -/
def lawC : Ct := fun xs p q => ∃ ns : List Int, xs = [.sq (ns.map D.int)] ∧ ns.length ≤ 63 ∧ (∀ z ∈ ns, Builtin.Int.intBits z ≤ 1048576) ∧ p = (fun o => o = .d (.bl true)) ∧ q = noX
theorem RL.ofInts {K : PySem.W.Frag} {B : Hp} : ∀ ns : List Int, RL K B (ns.map V.int) (ns.map D.int)
  | [] => .nil
  | _ :: r => .cons .int (RL.ofInts r)
theorem law_walk {l : PySem.W.OpenLaw} {q : Program} {loose : List Str} {XP : (Str → Option Value) → Heap → Prop} {YP : World → Heap → Prop} {d : DefRec} {K : Params → PySem.W.Frag} {lv : Nat} (hn : l.most = some 63) (hdf : d.params.defaults = [])
    (hr : Room lv callerA) (hY : ∀ (w : World) (h : Heap), YP w h → (K w.params).In h)
    (F : ∀ (w : World) (mg : Str → Option Value) (fa : Addr) (h : Heap), (K w.params).In h → h.Ns mainGlobals mg → mg d.name = some (.ref fa) →
      ∃ fd : FuncData, (∀ (s : Shared) (u : Value), BindsTo s fd ⟨[u], []⟩ [("_law_script", u)]) ∧ ∀ base : Heap, (K w.params).In base → base.Ns mainGlobals mg → FnOk l.prog w (K w.params) mg base CX0 lv fa fd ["_law_script"] (spP (K w.params) lawC)) :
    PySem.W.WalkO q loose XP YP l.row.toRowW d [] (fun f vs => PySem.call f vs) :=
  L2.walk_ofB (n := 63) (k := lv) (x := "_law_script") (CX := fun _ => CX0) (sp := fun w => spP (K w.params) lawC) hn (by decide) hdf hr hY F
    (fun w H a ns hl hb _ hS => ⟨H, [.sq (ns.map D.int)], _, _, .refl H, .cons (.sq hS (RL.ofInts ns)) .nil, ⟨ns, rfl, hl, hb, rfl, rfl⟩,
      (fun v o B' S' H' e _ _ _ _ _ ro => by cases e; cases ro with | d r => cases r; rfl), fun _ _ _ _ _ e => e.elim⟩) fun _ _ _ _ _ z => z
theorem fz_d {x : D} : (O.d x).fz = x := rfl
theorem fzL_fl {xs : List D} : fzL (xs.map O.d) = xs := by
  induction xs with
  | nil => rfl
  | cons x xs ih => rw [List.map_cons, fzL, ih]; rfl
theorem fz_fl {xs : List D} : (O.ol (xs.map O.d)).fz = .lst xs := by
  show D.lst (fzL (xs.map O.d)) = .lst xs
  congr 1
  induction xs with
  | nil => rfl
  | cons x xs ih => rw [List.map_cons, fzL, ih]; rfl
theorem fz_fk {xs : List (Key × D)} : (O.od (xs.map fun p => (p.1, O.d p.2))).fz = .dic xs := by
  show D.dic (fzK (xs.map fun p => (p.1, O.d p.2))) = .dic xs
  congr 1
  induction xs with
  | nil => rfl
  | cons x xs ih => rw [List.map_cons, fzK, ih]; rfl
end SK
namespace SK
open PySem PySem.Spec PyProof.Rows L2
section
variable {X : Cx} {K : PySem.W.Frag} {e l tg a b : Expr} {es : List Expr} {te tl ta tb : TE} {t : TA} {pos apos cpos tpos p : Pos}
theorem k_add (h : X.K = K) : OpR X (binaryOp .Add) (rAddG K) := by cases h; exact op_addG
theorem k_eq (h : X.K = K) (hu : X.A.units + 64 < cLine) : OpR X (compareOp .Eq) (rEqG K) := by cases h; exact op_eqG hu
theorem k_ne (h : X.K = K) (hu : X.A.units + 64 < cLine) : OpR X (compareOp .NotEq) (rNeG K) := by cases h; exact op_neG hu
theorem k_lt (h : X.K = K) (hu : X.A.units < cLine) : OpR X (compareOp .Lt) (rLtG K) := by cases h; exact op_ltG hu
theorem k_in (h : X.K = K) (hu : X.A.units + 1 < cLine) : OpR X (compareOp .In) (rInG K) := by cases h; exact op_inG hu
theorem k_ix (h : X.K = K) (hu : X.A.units + 1 < cLine) : IxR X (rIxG K) := by cases h; exact ix_G hu
theorem k_sl (h : X.K = K) : SlR X (rSlG K) := by cases h; exact sl_G
theorem k_len (h : X.K = K) : CallR X (.builtin "len") (rLenG K) := by cases h; exact call_lenG
theorem k_isi (h : X.K = K) : CallR X (.builtin "isinstance") (rIsiG K) := by cases h; exact call_isiG
theorem k_seq (h : X.K = K) (hl : PE X l tl) : PI X tg l (iSeq K tl) := by cases h; exact pi_seq hl
theorem k_tup {k n : Nat} {g : TGs} (h : X.K = K) (hc : X.calm = true) (hg : PGs X es g) (hn : (assignEach es X.env).length = n := by rfl) (hst : (assignEach es X.env).findIdx? (·.1) = none := by rfl) : PG X (.Tuple es k pos) (gTup K n g) := by cases h; exact pg_tup hc hg hn hst
theorem k_bm {to : TE} {T : String} {r : V → List V → Hp → VK → Prop} (h : X.K = K) (q : PE X e (tBM X.K T r to t)) : PE X e (tBM K T r to t) := by cases h; exact q
end
end SK
namespace SK
open PySem PySem.Spec PyProof.Rows L2
section
variable {K : PySem.W.Frag} {F B0 H H' B B' : Hp} {τ τs : List V} {T os : List O} {σ : L2.St} {Γ : En} {S S1 S2 : Ad} {v w : V} {o p : O} {x : D} {post : O → En → Prop} {ta : TA} {tb tc te td ty tv tl : TE} {tt tu : TT} {i j : Nat} {posts : List D → En → Prop} {postt : Bool → En → Prop} {posts1 : En → Prop} {Dd : EG} {xs : List D} {vs : List V} {r r' : R2}
theorem atI_map {α : Type} {xs : List α} {e : α → D} {d : α} {i : Int} (h0 : 0 ≤ i) (h1 : i < xs.length) : atI (xs.map e) i = some (e (xs.getD i.toNat d)) := by
  have h2 : i.toNat < xs.length := by omega
  unfold atI ixN
  rw [if_pos h0, List.length_map, if_pos h1]
  simp [h2]
theorem o2_ixN {α : Type} {xs : List α} {e : α → D} (d : α) {x : D} {i : Int} (q : x.items? = some (xs.map e)) (h0 : 0 ≤ i) (h1 : i < xs.length) (h : post (.d (e (xs.getD i.toNat d))) Γ) : Op2 K F B0 (rIxG K) x (.int i) T Γ post :=
  o2_ix q (atI_map h0 h1) h
theorem got_yes (h : postt true Γ) : GoT K F B0 tYes T Γ postt := fun τ σ H Q hw k => k true Γ H h hw
/-- [f(i) for i in range(n)] -/
theorem go_lcR1 (f : Int → D) (h : GoA K F B0 ta T Γ fun xs Γ1 => ∃ n : Int, xs = [.int n] ∧ 0 ≤ n ∧ n ≤ 100000 ∧ j < Γ1.length ∧ Γ1.set j none = Γ1 ∧
    (∀ (i : Int) (acc : List O), 0 ≤ i → i < n → Go K F B0 te (.ol acc :: T) (Γ1.set j (some (.d (.int i)))) fun o Γ4 => o.fz = f i ∧ wipeE Γ4 [j] = Γ1) ∧
    post (.ol (((List.range n.toNat).map fun (i : Nat) => f (i : Int)).map O.d)) Γ1) : Go K F B0 (tLc (iRng1 ta) (gName j) tYes te [j]) T Γ post := by
  refine go_lc (goi_rng1 fun τ σ H Q hw k => h τ σ H Q hw fun vs xs Γ1 H1 ⟨n, e, h0, h1, hj, hs, hb, hp⟩ w l => k vs xs Γ1 H1 ⟨n, e, by omega, by omega, List.range n.toNat, fun (i : Nat) => D.int (0 + (i : Int)), fun _ => true, fun (i : Nat) => f (i : Int), rfl, by simp; omega, ?_, ?_, ?_⟩ w l)
  · intro j' hj'
    have e : j' = j := by simpa using hj'
    subst e
    exact hs
  · intro m y acc hy
    have hm : m < n.toNat := by
      have := (List.getElem?_eq_some_iff.mp hy).1
      simpa using this
    have e : y = m := by
      rw [List.getElem?_range hm] at hy
      exact (Option.some.inj hy).symm
    subst e
    refine gow_name (by simp) hj (got_yes ⟨rfl, fun z => by simp at z, fun _ => ?_⟩)
    have := hb (y : Int) acc (by omega) (by omega)
    simpa using this
  · have e : ((List.range n.toNat).filter fun _ => true) = List.range n.toNat := List.filter_eq_self.mpr fun _ _ => rfl
    rw [e]
    exact hp
/-- [f(x) for x in xs if p(x)], the name alone -/
theorem go_lcS {α : Type} (e : α → D) (p : α → Bool) (f : α → D) (h : Go K F B0 tl T Γ fun o Γ1 => ∃ ys : List α, Wk o.fz (ys.map e) ∧ ys.length ≤ 100000 ∧ j < Γ1.length ∧ Γ1.set j none = Γ1 ∧
    (∀ (x : α) (acc : List O), x ∈ ys → GoT K F B0 tt (.ol acc :: .d o.fz :: T) (Γ1.set j (some (.d (e x)))) fun b Γ3 => b = p x ∧ (p x = false → wipeE Γ3 [j] = Γ1) ∧
      (p x = true → Go K F B0 te (.ol acc :: .d o.fz :: T) Γ3 fun o Γ4 => o.fz = f x ∧ wipeE Γ4 [j] = Γ1)) ∧
    post (.ol (((ys.filter p).map f).map O.d)) Γ1) : Go K F B0 (tLc (iSeq K tl) (gName j) tt te [j]) T Γ post := by
  refine go_lc (goi_seq fun τ σ H Q hw k => h τ σ H Q hw fun v o Γ1 H1 ⟨ys, wk, hz, hj, hs, hb, hp⟩ w => k v o Γ1 H1 ⟨ys.map e, wk, ys, e, p, f, rfl, hz, ?_, ?_, hp⟩ w)
  · intro j' hj'
    have e : j' = j := by simpa using hj'
    subst e
    exact hs
  · intro m y acc hy
    exact gow_name (by simp) hj (hb y acc (List.mem_of_getElem? hy))
variable {t1 t2 : TS} {g : TG} {wi : TI} {tgt : TG} {ip : TIp}
/-- a word between a statement and what follows -/
theorem gos_cut (M : En → Prop) (h : GoS K F B0 t1 T Γ { Dd with nx := M }) (h2 : ∀ Γ', M Γ' → GoS K F B0 t2 T Γ' Dd) : GoS K F B0 (tSeq t1 t2) T Γ Dd :=
  gos_seq fun τ σ H De hw s => h τ σ H De hw ⟨fun σ Γ H q w => s.nx σ Γ H (h2 Γ q) w, s.rt, s.bk, s.ct⟩
theorem gos_sA (h : GoS K F B0 (tAsg te g) T Γ { Dd with nx := fun Γ1 => GoS K F B0 t2 T Γ1 Dd }) : GoS K F B0 (tSeq (tAsg te g) t2) T Γ Dd := gos_seq h
theorem gos_sD (h : GoS K F B0 (tDrop te) T Γ { Dd with nx := fun Γ1 => GoS K F B0 t2 T Γ1 Dd }) : GoS K F B0 (tSeq (tDrop te) t2) T Γ Dd := gos_seq h
theorem gos_sN (h : GoS K F B0 t2 T Γ Dd) : GoS K F B0 (tSeq tNext t2) T Γ Dd := gos_seq (gos_next h)
theorem gos_sU (h : GoS K F B0 (tAug i te ip) T Γ { Dd with nx := fun Γ1 => GoS K F B0 t2 T Γ1 Dd }) : GoS K F B0 (tSeq (tAug i te ip) t2) T Γ Dd := gos_seq h
theorem gos_sF (h : GoS K F B0 (tFor wi g t1) T Γ { Dd with nx := fun Γ1 => GoS K F B0 t2 T Γ1 Dd }) : GoS K F B0 (tSeq (tFor wi g t1) t2) T Γ Dd := gos_seq h
theorem gos_sW (h : GoS K F B0 (tWhile tt t1) T Γ { Dd with nx := fun Γ1 => GoS K F B0 t2 T Γ1 Dd }) : GoS K F B0 (tSeq (tWhile tt t1) t2) T Γ Dd := gos_seq h
theorem gos_sIR {u : TS} (h : GoS K F B0 (tIfS tt (tRet te) u) T Γ { Dd with nx := fun Γ1 => GoS K F B0 t2 T Γ1 Dd }) : GoS K F B0 (tSeq (tIfS tt (tRet te) u) t2) T Γ Dd := gos_seq h
theorem gos_sIC {u : TS} (h : GoS K F B0 (tIfS tt tCont u) T Γ { Dd with nx := fun Γ1 => GoS K F B0 t2 T Γ1 Dd }) : GoS K F B0 (tSeq (tIfS tt tCont u) t2) T Γ Dd := gos_seq h
theorem gos_sIB {u : TS} (h : GoS K F B0 (tIfS tt tBreak u) T Γ { Dd with nx := fun Γ1 => GoS K F B0 t2 T Γ1 Dd }) : GoS K F B0 (tSeq (tIfS tt tBreak u) t2) T Γ Dd := gos_seq h
theorem rngD_get {lo : Int} {n k : Nat} {d : D} (h : (rngD lo n)[k]? = some d) : k < n ∧ d = .int (lo + (k : Int)) := by
  have hi : k < n := by
    have := (List.getElem?_eq_some_iff.mp h).1
    simpa [rngD] using this
  refine ⟨hi, ?_⟩
  simp [rngD, hi] at h
  exact h.symm
theorem mapD_get {α : Type} {xs : List α} {e : α → D} {k : Nat} {d : D} (h : (xs.map e)[k]? = some d) : ∃ x, xs[k]? = some x ∧ d = e x := by
  rw [List.getElem?_map] at h
  cases q : xs[k]? with
  | none => rw [q] at h; cases h
  | some x => rw [q] at h; exact ⟨x, rfl, (Option.some.inj h).symm⟩
theorem o2_ixDI {kvs : List (Key × D)} {n : Int} {y : D} (hi : dval kvs (.inl n) = some y) (h : post (.d y) Γ) : Op2 K F B0 (rIxG K) (.dic kvs) (.int n) T Γ post := o2_ixD (k := .inl n) hi h
/-- d[n] = e, d a name, n a number -/
theorem gog_setDI {ti : TE} (h : Go K F B0 ti (o :: T) Γ fun ok Γ2 => ∃ n kvs, ok = .d (.int n) ∧ Γ2[i]? = some (some (.od kvs)) ∧ kvs.length < 100000 ∧ posts1 (Γ2.set i (some (.od (dput kvs (.inl n) o))))) (h0 : ∃ kvs0, Γ[i]? = some (some (.od kvs0))) :
    GoG K F B0 (gSub (tVar i) ti rSetG) o T Γ posts1 :=
  gog_setD (fun τ σ H Q hw k => h τ σ H Q hw fun v ok Γ2 H2 ⟨n, kvs, e, q⟩ w => k v ok Γ2 H2 ⟨.inl n, kvs, e, q⟩ w) h0
/-- data of nesting n at most that == tells -/
def Shp (n : Nat) (x : D) : Prop := x.pl = true ∧ x.py.canLay0 = true ∧ x.py.depth ≤ n
theorem Shp.mono {n m : Nat} {x : D} (h : Shp n x) (l : n ≤ m) : Shp m x := ⟨h.1, h.2.1, Nat.le_trans h.2.2 l⟩
theorem Shp.int {n : Nat} {i : Int} : Shp n (.int i) := ⟨rfl, by simp [D.py, PyData.canLay0], by simp [D.py, PyData.depth]⟩
theorem Shp.bl {n : Nat} {i : Bool} : Shp n (.bl i) := ⟨rfl, by simp [D.py, PyData.canLay0], by simp [D.py, PyData.depth]⟩
theorem Shp.non {n : Nat} : Shp n .non := ⟨rfl, by simp [D.py, PyData.canLay0], by simp [D.py, PyData.depth]⟩
theorem Shp.str {n : Nat} {s : Str} (h : PyData.strOk s = true) : Shp n (.str s) := ⟨rfl, by simpa [D.py, PyData.canLay0] using h, by simp [D.py, PyData.depth]⟩
theorem Shp.all {n : Nat} : ∀ {xs : List D}, (∀ x ∈ xs, Shp n x) → plL xs = true ∧ PyData.canLayAll0 (pyL xs) = true ∧ PyData.depthAll (pyL xs) ≤ n
  | [], _ => ⟨rfl, by simp [pyL, PyData.canLayAll0], by simp [pyL, PyData.depthAll]⟩
  | x :: xs, h => by
    obtain ⟨a, b, c⟩ := h x (by simp)
    obtain ⟨d, e, f⟩ := Shp.all (xs := xs) fun y hy => h y (List.mem_cons_of_mem _ hy)
    refine ⟨by simp [plL, a, d], by simp [pyL, PyData.canLayAll0, b, e], ?_⟩
    simp only [pyL, PyData.depthAll]
    omega
theorem Shp.lst {n : Nat} {xs : List D} (h : ∀ x ∈ xs, Shp n x) : Shp (n + 1) (.lst xs) := by
  obtain ⟨d, e, f⟩ := Shp.all h
  exact ⟨by simpa [D.pl] using d, by simpa [D.py, PyData.canLay0] using e, by simpa [D.py, PyData.depth] using f⟩
theorem Shp.tup {n : Nat} {xs : List D} (h : ∀ x ∈ xs, Shp n x) : Shp (n + 1) (.tup xs) := by
  obtain ⟨d, e, f⟩ := Shp.all h
  exact ⟨by simpa [D.pl] using d, by simpa [D.py, PyData.canLay0] using e, by simpa [D.py, PyData.depth] using f⟩
theorem Shp.lstM {α : Type} {n : Nat} {xs : List α} {e : α → D} (h : ∀ x, Shp n (e x)) : Shp (n + 1) (.lst (xs.map e)) := Shp.lst fun x hx => by
  obtain ⟨y, _, rfl⟩ := List.mem_map.mp hx
  exact h y
theorem Shp.ints {ns : List Int} : Shp 1 (.lst (ns.map D.int)) := Shp.lstM fun _ => Shp.int
theorem Shp.eqs {x y : D} (h : Shp 60 x) (h' : Shp 60 y) : x.eqs y := ⟨h.1, h'.1, by simp only [SeqAt.shaped, h.2.1, Bool.true_and, decide_eq_true_eq]; exact Nat.le_trans h.2.2 (by decide), by simp only [SeqAt.shaped, h'.2.1, Bool.true_and, decide_eq_true_eq]; exact Nat.le_trans h'.2.2 (by decide)⟩
theorem o2_eqSame (n : Nat) (hs : Shp n x) (hn : n ≤ 60) (h : post (.d (.bl true)) Γ) : Op2 K F B0 (rEqG K) x x T Γ post :=
  o2_eqD ((hs.mono hn).eqs (hs.mono hn)) (by rw [SeqAt.eqv_refl _ hs.2.1]; exact h)
theorem o2_neSame (n : Nat) (hs : Shp n x) (hn : n ≤ 60) (h : post (.d (.bl false)) Γ) : Op2 K F B0 (rNeG K) x x T Γ post :=
  o2_neD ((hs.mono hn).eqs (hs.mono hn)) (by rw [SeqAt.eqv_refl _ hs.2.1]; exact h)
end
end SK
namespace SK
open PySem PySem.Spec PyProof.Rows L2
section
variable {K : PySem.W.Frag} {F B0 H H' B B' : Hp} {τ τs : List V} {T os : List O} {σ : L2.St} {Γ : En} {S S1 S2 : Ad} {v w : V} {o p : O} {x : D} {post : O → En → Prop} {ta : TA} {tb tc te td ty tv tl : TE} {tt tu : TT} {i j : Nat} {posts : List D → En → Prop} {postt : Bool → En → Prop} {posts1 : En → Prop} {Dd : EG} {xs : List D} {vs : List V} {r r' : R2} {s : TS}
theorem HW.frz (w : HW K F B0 τ T σ Γ H B S) (e : Γ[i]? = some (some o)) : Ho K F B0 τ T σ (Γ.set i (some (.d o.fz))) H := by
  obtain ⟨v, S', a, w⟩ := w.take e
  obtain ⟨B', S'', w, _⟩ := w.fz
  obtain ⟨S3, w3⟩ := w.put (i := i) (by simpa using (List.getElem?_eq_some_iff.mp e).1)
  have hl : i < σ.length := (List.getElem?_eq_some_iff.mp a).1
  have e2 : σ.set i (some v) = σ := by
    apply List.ext_getElem?
    intro n
    by_cases hn : n = i
    · subst hn; rw [List.getElem?_set_self hl, a]
    · rw [List.getElem?_set_ne (Ne.symm hn)]
  rw [e2, List.set_set] at w3
  exact ⟨B', _, w3⟩
/-- from here on the slot's thing is not changed any more -/
theorem gos_frz (i : Nat) (e : Γ[i]? = some (some o)) (h : GoS K F B0 s T (Γ.set i (some (.d o.fz))) Dd) : GoS K F B0 s T Γ Dd := fun τ σ H De ⟨B, S, w⟩ q => h τ σ H De (w.frz e) q
theorem fzK_d {xs : List (Key × D)} : fzK (xs.map fun p => (p.1, O.d p.2)) = xs := by
  induction xs with
  | nil => rfl
  | cons x xs ih => rw [List.map_cons, fzK, ih]; rfl
theorem rngD_len {lo : Int} {n : Nat} : (rngD lo n).length = n := by simp [rngD]
theorem cutD_map {α : Type} (e : α → D) (xs : List α) (lo hi : Option Int) : cutD (xs.map e) lo hi = (cutD xs lo hi).map e := by
  simp [cutD]
theorem sIx_n {n d k : Nat} : HT.sIx n d (some (k : Int)) = min k n := by
  simp [HT.sIx]
  omega
theorem cutD_take {α : Type} {xs : List α} {k : Nat} : cutD xs none (some (k : Int)) = xs.take k := by
  unfold cutD
  rw [sIx_n]
  show (xs.drop 0).take (min k xs.length - 0) = _
  rcases Nat.le_total k xs.length with h | h
  · rw [Nat.min_eq_left h]; rfl
  · rw [Nat.min_eq_right h]; exact List.take_length.trans (List.take_of_length_le h).symm
theorem cutD_drop {α : Type} {xs : List α} {k : Nat} : cutD xs (some (k : Int)) none = xs.drop k := by
  unfold cutD
  rw [sIx_n]
  show (xs.drop (min k xs.length)).take (xs.length - min k xs.length) = _
  rcases Nat.le_total k xs.length with h | h
  · rw [Nat.min_eq_left h]
    apply List.take_of_length_le
    simp
  · rw [Nat.min_eq_right h]
    simp [List.drop_of_length_le h]
theorem cutD_mid {α : Type} {xs : List α} {j k : Nat} : cutD xs (some (j : Int)) (some (k : Int)) = (xs.take k).drop j := by
  unfold cutD
  rw [sIx_n, sIx_n]
  rw [List.drop_take]
  rcases Nat.le_total j xs.length with h | h
  · rw [Nat.min_eq_left h]
    rcases Nat.le_total k xs.length with h' | h'
    · rw [Nat.min_eq_left h']
    · rw [Nat.min_eq_right h']
      rw [List.take_of_length_le (by simp), List.take_of_length_le (by simp; omega)]
  · rw [Nat.min_eq_right h, List.drop_of_length_le h, List.drop_of_length_le (Nat.le_refl _)]
    simp
/-- [f(x) for x in xs] -/
theorem go_lcY {α : Type} (e : α → D) (f : α → D) (h : Go K F B0 tl T Γ fun o Γ1 => ∃ ys : List α, Wk o.fz (ys.map e) ∧ ys.length ≤ 100000 ∧ j < Γ1.length ∧ Γ1.set j none = Γ1 ∧
    (∀ (x : α) (acc : List O), x ∈ ys → Go K F B0 te (.ol acc :: .d o.fz :: T) (Γ1.set j (some (.d (e x)))) fun o Γ4 => o.fz = f x ∧ wipeE Γ4 [j] = Γ1) ∧
    post (.ol ((ys.map f).map O.d)) Γ1) : Go K F B0 (tLc (iSeq K tl) (gName j) tYes te [j]) T Γ post :=
  go_lcS e (fun _ => true) f fun τ σ H Q hw k => h τ σ H Q hw fun v o Γ1 H1 ⟨ys, q1, q2, q3, q4, q5, q6⟩ w => k v o Γ1 H1 ⟨ys, q1, q2, q3, q4, fun x acc hx => got_yes ⟨rfl, (fun z => Bool.noConfusion z), fun _ => q5 x acc hx⟩, by
    have e1 : (ys.filter fun _ => true) = ys := List.filter_eq_self.mpr fun _ _ => rfl
    rw [e1]
    exact q6⟩ w
end
end SK
namespace SK
open PySem PySem.Spec PyProof.Rows L2
section
variable {K : PySem.W.Frag} {F B0 H H' B B' : Hp} {τ τs : List V} {T os : List O} {σ : L2.St} {Γ : En} {S S1 S2 : Ad} {v w : V} {o p : O} {x : D} {post : O → En → Prop} {ta : TA} {tb tc te td ty tv tl : TE} {tt tu : TT} {i j : Nat} {posts : List D → En → Prop} {postt : Bool → En → Prop} {posts1 : En → Prop} {Dd : EG} {xs : List D} {vs : List V} {r r' : R2} {s : TS}
/-- d.get(k, e) -/
theorem go_dget2 (h : Go K F B0 td T Γ fun o Γ1 => ∃ kvs, o.fz = .dic kvs ∧ Go K F B0 ty (.d (.dic kvs) :: T) Γ1 fun ok Γ2 => ∃ k, ok = .d (kD k) ∧ Go K F B0 te (.d (kD k) :: .d (.dic kvs) :: T) Γ2 fun oz Γ3 => post (.d ((dval kvs k).getD oz.fz)) Γ3) :
    Go K F B0 (tDGet2 td ty te) T Γ post := fun τ σ H Q hw kk =>
  h τ σ H _ hw fun v1 o1 Γ1 H1 ⟨kvs, e1, h1⟩ ⟨_, _, w1⟩ => by
    obtain ⟨B2, S2, w1, _⟩ := w1.fz
    rw [e1] at w1
    obtain ⟨r1, _⟩ := w1.popd
    cases r1 with | @dic a ws _ hd _ rk =>
    refine ⟨a, rfl, .inl ⟨ws, w1.pu.rd hd⟩, h1 _ σ H1 _ ⟨_, _, w1⟩ fun v2 o2 Γ2 H2 ⟨k, e2, h2⟩ w2 => ?_⟩
    subst e2
    refine h2 _ σ H2 _ w2 fun v3 o3 Γ3 H3 h3 ⟨_, _, w3⟩ => ?_
    obtain ⟨_, _, w3, r3, _⟩ := w3.fzd
    obtain ⟨r2, _, _, w4⟩ := w3.popd
    obtain ⟨r1, _, _, w5⟩ := w4.popd
    have ek := r2.kV
    subst ek
    cases r1 with | @dic _ ws2 _ hd2 _ rk2 =>
    refine ⟨valV ws2 k, .inl ⟨ws2, k, w5.pu.rd hd2, rfl, rfl⟩, ?_⟩
    rcases rk2.val (k := k) with ⟨u, z, q1, q2, r⟩ | ⟨q1, q2⟩
    · rw [q1]
      rw [q2] at h3
      exact kk _ _ _ _ h3 ⟨_, _, w5.pushd r⟩
    · rw [q1]
      rw [q2] at h3
      exact kk _ _ _ _ h3 ⟨_, _, w5.pushd r3⟩
theorem RS.split {σ1 : List (Option V)} {Γ1 : List (Option O)} : ∀ {σ0 : List (Option V)} {Γ0 : List (Option O)} {S : Ad}, σ0.length = Γ0.length → RS K B H S (σ0 ++ σ1) (Γ0 ++ Γ1) →
    ∃ S1 S2 : Ad, (∀ b, S1 b → S b) ∧ (∀ b, S2 b → S b) ∧ (∀ b, S1 b → ¬ S2 b) ∧ RS K B H S1 σ0 Γ0 ∧ RS K B H S2 σ1 Γ1
  | [], [], S, _, h => ⟨fun _ => False, S, fun _ z => z.elim, fun _ z => z, fun _ z => z.elim, .nil, h⟩
  | a :: σ0, b :: Γ0, S, l, h => by
    cases h with
    | un r =>
      obtain ⟨S1, S2, a1, a2, a3, a4, a5⟩ := RS.split (by simpa using l) r
      exact ⟨S1, S2, a1, a2, a3, .un a4, a5⟩
    | @cons _ T1 T2 _ _ _ _ s1 s2 dj h0 r =>
      obtain ⟨S1, S2, a1, a2, a3, a4, a5⟩ := RS.split (by simpa using l) r
      exact ⟨fun b => T1 b ∨ S1 b, S2, fun b z => z.elim (s1 b) fun z => s2 b (a1 b z), fun b z => s2 b (a2 b z), fun b z y => z.elim (fun z => dj b z (a2 b y)) fun z => a3 b z y, .cons (S1 := T1) (S2 := S1) (fun _ z => .inl z) (fun _ z => .inr z) (fun b z y => dj b z (a1 b y)) h0 a4, a5⟩
theorem RS.join {σ1 : List (Option V)} {Γ1 : List (Option O)} {S2 : Ad} (q : RS K B H S2 σ1 Γ1) : ∀ {σ0 : List (Option V)} {Γ0 : List (Option O)} {S1 : Ad}, (∀ b, S1 b → ¬ S2 b) → RS K B H S1 σ0 Γ0 → RS K B H (fun b => S1 b ∨ S2 b) (σ0 ++ σ1) (Γ0 ++ Γ1)
  | _, _, _, _, .nil => q.tr (.refl B) (fun _ z => .inr z) fun _ _ _ e => e
  | _, _, _, dj, .un r => .un (RS.join q dj r)
  | _, _, S1, dj, .cons (S1 := T1) (S2 := T2) s1 s2 d h r => .cons (S1 := T1) (S2 := fun b => T2 b ∨ S2 b) (fun b z => .inl (s1 b z)) (fun b z => z.imp (s2 b) id) (fun b z y => y.elim (d b z) (dj b (s1 b z))) h (RS.join q (fun b z => dj b (s2 b z)) r)
open Classical in
noncomputable def offH (H : Hp) (S : Ad) : Hp := fun a => if S a then none else H a
theorem offH_at {a : Addr} (h : S a) : offH H S a = none := if_pos h
theorem offH_no {a : Addr} (h : ¬ S a) : offH H S a = H a := if_neg h
/-- what stands at a cell of an owned thing -/
def Cell (H : Hp) (a : Addr) : Prop := (∃ vs, H a = some (.lst vs)) ∨ (∃ ws, H a = some (.dK ws)) ∨ (∃ ws, H a = some (.dT ws)) ∨ (∃ C dx ws, H a = some (.ins C dx ws)) ∨ ∃ b, H a = some (.own b)
mutual
theorem RO.tight : ∀ {S : Ad} {v : V} {o : O}, RO K B H S v o → ∃ S' : Ad, (∀ b, S' b → S b) ∧ RO K B H S' v o ∧ ∀ b, S' b → Cell H b
  | _, _, _, .d r => ⟨fun _ => False, fun _ z => z.elim, .d r, fun _ z => z.elim⟩
  | S, _, _, .ol (a := a) ha hs hn h r => by
    obtain ⟨S', q1, q2, q3⟩ := RS.tight r
    refine ⟨fun b => b = a ∨ S' b, fun b z => z.elim (fun e => e ▸ ha) fun z => hs b (q1 b z), .ol (.inl rfl) (fun _ z => .inr z) (fun z => hn (q1 _ z)) h q2, fun b z => z.elim (fun e => .inl ⟨_, e ▸ h⟩) (q3 b)⟩
  | S, _, _, .od (a := a) ha hs hn h nd e r => by
    obtain ⟨S', q1, q2, q3⟩ := RS.tight r
    refine ⟨fun b => b = a ∨ S' b, fun b z => z.elim (fun e => e ▸ ha) fun z => hs b (q1 b z), .od (.inl rfl) (fun _ z => .inr z) (fun z => hn (q1 _ z)) h nd e q2, fun b z => z.elim (fun e => .inr (.inl ⟨_, e ▸ h⟩)) (q3 b)⟩
  | S, _, _, .ot (a := a) ha hs hn h nd e r => by
    obtain ⟨S', q1, q2, q3⟩ := RS.tight r
    refine ⟨fun b => b = a ∨ S' b, fun b z => z.elim (fun e => e ▸ ha) fun z => hs b (q1 b z), .ot (.inl rfl) (fun _ z => .inr z) (fun z => hn (q1 _ z)) h nd e q2, fun b z => z.elim (fun e => .inr (.inr (.inl ⟨_, e ▸ h⟩))) (q3 b)⟩
  | S, _, _, .oi (a := a) (dx := dx) ha hd hs hn hn2 ne h h2 e r => by
    obtain ⟨S', q1, q2, q3⟩ := RS.tight r
    refine ⟨fun b => (b = a ∨ b = dx) ∨ S' b, fun b z => z.elim (fun e => e.elim (fun e => e ▸ ha) fun e => e ▸ hd) fun z => hs b (q1 b z), .oi (.inl (.inl rfl)) (.inl (.inr rfl)) (fun _ z => .inr z) (fun z => hn (q1 _ z)) (fun z => hn2 (q1 _ z)) ne h h2 e q2,
      fun b z => z.elim (fun e => e.elim (fun e => .inr (.inr (.inr (.inl ⟨_, _, _, e ▸ h⟩)))) fun e => .inr (.inr (.inr (.inr ⟨_, e ▸ h2⟩)))) (q3 b)⟩
  | S, _, _, .op h r => by
    obtain ⟨S', q1, q2, q3⟩ := RS.tight r
    exact ⟨S', q1, .op h q2, q3⟩
  | S, _, _, .atA r => by
    obtain ⟨S', q1, q2, q3⟩ := RO.tight r
    exact ⟨S', q1, .atA q2, q3⟩
theorem RS.tight : ∀ {S : Ad} {σ : List (Option V)} {Γ : List (Option O)}, RS K B H S σ Γ → ∃ S' : Ad, (∀ b, S' b → S b) ∧ RS K B H S' σ Γ ∧ ∀ b, S' b → Cell H b
  | _, _, _, .nil => ⟨fun _ => False, fun _ z => z.elim, .nil, fun _ z => z.elim⟩
  | _, _, _, .un r => by
    obtain ⟨S', q1, q2, q3⟩ := RS.tight r
    exact ⟨S', q1, .un q2, q3⟩
  | _, _, _, .cons s1 s2 d r t => by
    obtain ⟨S1, q1, q2, q3⟩ := RO.tight r
    obtain ⟨S2, p1, p2, p3⟩ := RS.tight t
    exact ⟨fun b => S1 b ∨ S2 b, fun b z => z.elim (fun z => s1 b (q1 b z)) fun z => s2 b (p1 b z), .cons (fun _ z => .inl z) (fun _ z => .inr z) (fun b z y => d b (q1 b z) (p1 b y)) q2 p2, fun b z => z.elim (q3 b) (p3 b)⟩
end
theorem HW.tightB (h : HW K F B0 τ T σ Γ H B S) : ∃ S', HW K F B0 τ T σ Γ H B S' ∧ ∀ b, S' b → Cell H b := by
  obtain ⟨S', s1, r, c⟩ := RS.tight h.rs
  exact ⟨S', ⟨h.fr, h.pu, h.b0, fun a z => h.ow a (s1 a z), h.nw, r, h.lt⟩, c⟩
theorem HW.frameB (h : HW K F B0 τ T σ Γ H B S) : ∃ F' S', HW K F' B [] [] σ Γ H B S' ∧ (∀ a, ¬ S' a → F' a = H a) ∧ (∀ a, S' a → S a) ∧ ∀ τs Ts σ' Γ' H' B' S'', HW K F' B τs Ts σ' Γ' H' B' S'' → ∃ S3, HW K F B0 (τs ++ τ) (Ts ++ T) σ' Γ' H' B' S3 := by
  obtain ⟨S1, S2, a1, a2, a3, a4, a5⟩ := RS.split (σ0 := τ.map some) (Γ0 := T.map some) (by simp [h.lt]) h.rs
  refine ⟨offH H S2, S2, ⟨fun a u e => ?_, h.pu, .refl B, fun a z => ⟨offH_at z, (h.ow a (a2 a z)).2⟩, fun a z => .inl z, a5, rfl⟩, fun a z => offH_no z, a2, fun τs Ts σ' Γ' H' B' S' w => ?_⟩
  · by_cases z : S2 a
    · rw [offH_at z] at e; cases e
    · rw [offH_no z] at e; exact e
  have f1 : ∀ a, F a ≠ none → offH H S2 a = F a := fun a q => by
    have z : ¬ S2 a := fun z => q (h.ow a (a2 a z)).1
    rw [offH_no z]
    cases e : F a with
    | none => exact absurd e q
    | some u => exact h.fr a u e
  have s1 : ∀ a, S1 a → offH H S2 a = H a := fun a z => offH_no (a3 a z)
  have d1 : ∀ a, S1 a → ¬ S' a := fun a z y => by
    have q := (w.ow a y).1
    rw [s1 a z] at q
    exact (h.ow a (a1 a z)).2.2 q
  refine ⟨fun a => S1 a ∨ S' a, fun a u e => w.fr a u (by rw [f1 a (by rw [e]; simp)]; exact e), w.pu, h.b0.trans w.b0, fun a z => ?_, fun a z => ?_, ?_, by simp [w.lt, h.lt]⟩
  · rcases z with z | z
    · obtain ⟨q1, q2, q3⟩ := h.ow a (a1 a z)
      refine ⟨q1, ?_, ?_⟩
      · cases e : B' a with
        | none => rfl
        | some u =>
          rcases w.nw a (by rw [e]; simp) with y | y
          · exact absurd q2 y
          · rw [s1 a z] at y; exact absurd y q3
      · cases e : H a with
        | none => exact absurd e q3
        | some u => rw [w.fr a u (by rw [s1 a z]; exact e)]; simp
    · obtain ⟨q1, q2, q3⟩ := w.ow a z
      refine ⟨?_, q2, q3⟩
      cases e : F a with
      | none => rfl
      | some u =>
        have := f1 a (by rw [e]; simp)
        rw [q1, e] at this
        cases this
  · rcases w.nw a z with y | y
    · exact h.nw a y
    · right
      cases e : F a with
      | none => rfl
      | some u =>
        have := f1 a (by rw [e]; simp)
        rw [y, e] at this
        cases this
  · have r1 : RS K B' H' S1 (τ.map some) (T.map some) := a4.tr w.b0 (fun _ z => z) fun a u z e => w.fr a u (by rw [s1 a z]; exact e)
    obtain ⟨T1, T2, b1, b2, b3, b4, b5⟩ := RS.split (σ0 := τs.map some) (Γ0 := Ts.map some) (by simp [w.lt]) w.rs
    have r2 := RS.join b5 (S1 := S1) (fun b z y => d1 b z (b2 b y)) r1
    have r3 := RS.join r2 (S1 := T1) (fun b z y => y.elim (fun y => d1 b y (b1 b z)) (b3 b z)) b4
    rw [← List.append_assoc, ← List.append_assoc, ← List.map_append, ← List.map_append] at r3
    exact r3.tr (.refl B') (fun b z => z.elim (fun z => .inr (b1 b z)) fun z => z.imp id (b2 b)) fun _ _ _ e => e
theorem HW.frame (h : HW K F B0 τ T σ Γ H B S) : ∃ F' S', HW K F' B [] [] σ Γ H B S' ∧ ∀ τs Ts σ' Γ' H', Ho K F' B τs Ts σ' Γ' H' → Ho K F B0 (τs ++ τ) (Ts ++ T) σ' Γ' H' := by
  obtain ⟨F', S', w, _, _, k⟩ := h.frameB
  exact ⟨F', S', w, fun τs Ts σ' Γ' H' ⟨B', S2, w2⟩ => by obtain ⟨S3, w3⟩ := k τs Ts σ' Γ' H' B' S2 w2; exact ⟨B', S3, w3⟩⟩
theorem Sat.frame {De : Ends} {F' : Hp} (s : Sat K F B0 τ T De Dd) (back : ∀ τs Ts σ' Γ' H', Ho K F' B τs Ts σ' Γ' H' → Ho K F B0 (τs ++ τ) (Ts ++ T) σ' Γ' H') : Sat K F' B [] [] De Dd :=
  ⟨fun σ Γ H n w => s.nx σ Γ H n (back [] [] σ Γ H w), fun v o σ Γ H n w => s.rt v o σ Γ H n (back [v] [o] σ Γ H w), fun σ Γ H n w => s.bk σ Γ H n (back [] [] σ Γ H w), fun σ Γ H n w => s.ct σ Γ H n (back [] [] σ Γ H w)⟩
def tRaise (W : WX) (C : Addr) : TS := fun _ σ H => W (.ref C) none σ H
theorem gos_raise {W : WX} {X : Addr → Option (List (Str × D)) → En → Prop} {C : Addr} (wx : ∀ Cc fs d σ Γ H, X Cc fs Γ → HoX K F B0 σ Γ H d fs → W (.ref Cc) d σ H) (h : X C none Γ) : GoS K F B0 (tRaise W C) T Γ Dd :=
  fun τ σ H De ⟨B, S, w⟩ s => wx C none none σ Γ H h (.none w.bare rfl)
def tTry (K : PySem.W.Frag) (c : Value) (ts : Addr → Value → Option Addr → TS) (Wout : WX) (tb : WX → TS) : TS := fun De σ H => tb (wOnly K c ts Wout De) De σ H
def tTryAs (K : PySem.W.Frag) (c : Value) (i : Nat) (ts : Addr → Value → Option Addr → TS) (Wout : WX) (tb : WX → TS) : TS := fun De σ H => tb (wAs K c i ts Wout De) De σ H
/-- try .. except X as n, n in slot i -/
theorem gos_tryAs {c : Value} {ts : Addr → Value → Option Addr → TS} {Wout : WX} {tw : WX → TS} (X : Addr → Option (List (Str × D)) → En → Prop)
    (hb : ∀ F' B' W, (∀ Cc fs d σ Γ H, X Cc fs Γ → HoX K F' B' σ Γ H d fs → W (.ref Cc) d σ H) → GoS K F' B' (tw W) [] Γ Dd)
    (hx : ∀ F' B' Cc fs Γ', X Cc fs Γ' → PySem.W.exmOne K (.ref Cc) c = some true ∧ i < Γ'.length ∧ ∀ a d, ExB K F' B' d fs → GoS K F' B' (ts a (.ref Cc) d) [] (Γ'.set i (some (.d (.ref a)))) { nx := fun Γ2 => Dd.nx (Γ2.set i none), rt := Dd.rt, bk := fun Γ2 => Dd.bk (Γ2.set i none), ct := fun Γ2 => Dd.ct (Γ2.set i none) }) :
    GoS K F B0 (tTryAs K c i ts Wout tw) T Γ Dd := fun τ σ H De ⟨B, S, w⟩ s => by
  obtain ⟨F', S', w', back⟩ := w.frame
  have s' := s.frame back
  refine hb F' B _ (fun Cc fs d σ2 Γ2 H2 hX ⟨B2, S2, w2, hd⟩ => ?_) [] σ H De ⟨B, S', w'⟩ s'
  obtain ⟨S2', w2, cell⟩ := w2.tightB
  obtain ⟨F3, S3, w3, f3, sub3, back3⟩ := w2.frameB
  have back3' : ∀ τs Ts σ' Γ' H', Ho K F3 B2 τs Ts σ' Γ' H' → Ho K F' B (τs ++ []) (Ts ++ []) σ' Γ' H' := fun τs Ts σ' Γ' H' ⟨B', S4, w4⟩ => by obtain ⟨S5, w5⟩ := back3 τs Ts σ' Γ' H' B' S4 w4; exact ⟨B', S5, w5⟩
  have s3 := s'.frame back3'
  obtain ⟨e, hi, q⟩ := hx F3 B2 Cc fs Γ2 hX
  refine ⟨true, e, fun _ a ha => ?_, fun z => Bool.noConfusion z⟩
  obtain ⟨S6, w6⟩ := (w3.pushd (v := .ref a) (x := .ref a) .ref).put hi
  refine q a d ?_ [] _ H2 _ ⟨B2, S6, w6⟩ ⟨fun σ Γ H n ⟨B4, S4, w4⟩ => s3.nx _ _ _ n ⟨B4, S4, w4.unset i none⟩, s3.rt, fun σ Γ H n ⟨B4, S4, w4⟩ => s3.bk _ _ _ n ⟨B4, S4, w4.unset i none⟩, fun σ Γ H n ⟨B4, S4, w4⟩ => s3.ct _ _ _ n ⟨B4, S4, w4.unset i none⟩⟩
  cases d with
  | none => cases fs with | none => trivial | some _ => exact hd.elim
  | some dd =>
    cases fs with
    | none => exact hd.elim
    | some fs =>
      obtain ⟨ws, h1, h2⟩ := hd
      refine ⟨ws, ?_, h2⟩
      rw [f3 dd fun z => by
        rcases cell dd (sub3 dd z) with ⟨_, e⟩ | ⟨_, e⟩ | ⟨_, e⟩ | ⟨_, _, _, e⟩ | ⟨_, e⟩ <;> · rw [h1] at e; cases e]
      exact h1
/-- s[i], some sign of it -/
theorem o2_ixSr {z : Str} {i : Int} (hz : z.length ≤ 100000) (h0 : 0 ≤ i) (h1 : i < z.length) (h : ∀ c ∈ z.cps.toList, post (.d (.str ⟨#[c]⟩)) Γ) : Op2 K F B0 (rIxG K) (.str z) (.int i) T Γ post := by
  have hl : z.cps.toList.length = z.length := by simp [Str.length]
  have h2 : i.toNat < z.cps.toList.length := by rw [hl]; omega
  refine o2_ixS hz (c := z.cps.toList[i.toNat]) ?_ (h _ (List.getElem_mem h2))
  unfold atI ixN
  rw [if_pos h0, if_pos (by rw [hl]; exact h1)]
  simp [h2]
/-- xs[i], some item of it -/
theorem o2_ixr {x : D} {xs : List D} {i : Int} (q : x.items? = some xs) (h0 : 0 ≤ i) (h1 : i < xs.length) (h : ∀ y ∈ xs, post (.d y) Γ) : Op2 K F B0 (rIxG K) x (.int i) T Γ post := by
  have h2 : i.toNat < xs.length := by omega
  have := o2_ixN (e := id) (D.non) (x := x) (xs := xs) (i := i) (K := K) (F := F) (B0 := B0) (T := T) (Γ := Γ) (post := post) (by simpa using q) h0 h1
  refine this ?_
  have e : xs.getD i.toNat D.non = xs[i.toNat] := by simp [h2]
  rw [e]
  exact h _ (List.getElem_mem h2)
theorem gog_setDS {ti : TE} (h : Go K F B0 ti (o :: T) Γ fun ok Γ2 => ∃ n kvs, ok = .d (.str n) ∧ Γ2[i]? = some (some (.od kvs)) ∧ kvs.length < 100000 ∧ posts1 (Γ2.set i (some (.od (dput kvs (.inr n) o))))) (h0 : ∃ kvs0, Γ[i]? = some (some (.od kvs0))) :
    GoG K F B0 (gSub (tVar i) ti rSetG) o T Γ posts1 :=
  gog_setD (fun τ σ H Q hw k => h τ σ H Q hw fun v ok Γ2 H2 ⟨n, kvs, e, q⟩ w => k v ok Γ2 H2 ⟨.inr n, kvs, e, q⟩ w) h0
structure Sm (n : Nat) (x : Int) : Prop where
  h : x.natAbs < 2 ^ (1048576 + n)
theorem natAbs_of {x : Int} {m : Nat} (h : Builtin.Int.intBits x ≤ m) : x.natAbs < 2 ^ m := by
  unfold Builtin.Int.intBits at h
  split at h
  · rename_i hx
    have : x = 0 := by simpa using hx
    subst this
    exact Nat.pow_pos (by decide)
  · rename_i hx
    have : x.natAbs ≠ 0 := by
      intro q
      apply hx
      have : x = 0 := by omega
      simp [this]
    exact (Nat.log2_lt this).mp h
theorem Sm.of {x : Int} (h : Builtin.Int.intBits x ≤ 1048576) : Sm 0 x := ⟨natAbs_of h⟩
theorem Sm.le {x y : Int} {n : Nat} (h : Sm n x) (l : y.natAbs ≤ x.natAbs) : Sm n y := ⟨Nat.lt_of_le_of_lt l h.h⟩
theorem Sm.mono {x : Int} {n m : Nat} (h : Sm n x) (l : n ≤ m) : Sm m x := ⟨Nat.lt_of_lt_of_le h.h (Nat.pow_le_pow_right (by decide) (by omega))⟩
theorem Sm.add {x y : Int} {n : Nat} (h : Sm n x) (h' : Sm n y) : Sm (n + 1) (x + y) := by
  have h := h.h
  have h' := h'.h
  refine ⟨?_⟩
  have e : 2 ^ (1048576 + (n + 1)) = 2 ^ (1048576 + n) + 2 ^ (1048576 + n) := by rw [← Nat.add_assoc, Nat.pow_succ, Nat.mul_two]
  rw [e]
  generalize 2 ^ (1048576 + n) = z at *
  omega
theorem Sm.neg {x : Int} {n : Nat} (h : Sm n x) : Sm n (-x) := ⟨by rw [Int.natAbs_neg]; exact h.h⟩
theorem Sm.sub {x y : Int} {n : Nat} (h : Sm n x) (h' : Sm n y) : Sm (n + 1) (x - y) := by
  rw [Int.sub_eq_add_neg]
  exact h.add h'.neg
theorem cutD_takeI {α : Type} {xs : List α} {k : Int} (h : 0 ≤ k) : cutD xs none (some k) = xs.take k.toNat := by
  obtain ⟨n, rfl⟩ := Int.eq_ofNat_of_zero_le h
  exact cutD_take
theorem cutD_dropI {α : Type} {xs : List α} {k : Int} (h : 0 ≤ k) : cutD xs (some k) none = xs.drop k.toNat := by
  obtain ⟨n, rfl⟩ := Int.eq_ofNat_of_zero_le h
  exact cutD_drop
theorem cutD_midI {α : Type} {xs : List α} {j k : Int} (h0 : 0 ≤ j) (h : 0 ≤ k) : cutD xs (some j) (some k) = (xs.take k.toNat).drop j.toNat := by
  obtain ⟨n, rfl⟩ := Int.eq_ofNat_of_zero_le h
  obtain ⟨m, rfl⟩ := Int.eq_ofNat_of_zero_le h0
  exact cutD_mid
end
end SK
namespace SK
open PySem PySem.Spec PyProof.Rows L2
def fput {α : Type} (f : Str) (v : α) : List (Str × α) → List (Str × α)
  | [] => [(f, v)]
  | (g, x) :: r => if g = f then (g, v) :: r else (g, x) :: fput f v r
theorem putF_fput (f : Str) (v : V) : ∀ fs : List (Str × V), putF f v fs = fput f v fs
  | [] => rfl
  | (g, x) :: r => by unfold putF fput; rw [putF_fput f v r]
theorem fput_keys {α β : Type} {f : Str} {v : α} {w : β} : ∀ {xs : List (Str × α)} {ys : List (Str × β)}, xs.map (·.1) = ys.map (·.1) → (fput f v xs).map (·.1) = (fput f w ys).map (·.1)
  | [], [], _ => rfl
  | (g, x) :: xs, (g', y) :: ys, e => by
    simp only [List.map_cons, List.cons.injEq] at e
    obtain ⟨rfl, e⟩ := e
    unfold fput
    split
    · simp [e]
    · simp [fput_keys (v := v) (w := w) e]
section
variable {K : PySem.W.Frag} {F B0 H H' B B' : Hp} {τ τs : List V} {T os : List O} {σ : L2.St} {Γ : En} {S S1 S2 : Ad} {v w : V} {o p : O} {x : D} {post : O → En → Prop} {ta : TA} {tb tc te td ty tv tl : TE} {tt tu : TT} {i j : Nat} {posts : List D → En → Prop} {postt : Bool → En → Prop} {posts1 : En → Prop} {Dd : EG} {xs : List D} {vs : List V} {r r' : R2} {s : TS} {C : Addr} {f : Str}
theorem RS.fput {So : Ad} (ro : RO K B H So w o) : ∀ {ws : List (Str × V)} {kvs : List (Str × O)} {S : Ad}, ws.map (·.1) = kvs.map (·.1) → RS K B H S (ws.map fun p => some p.2) (kvs.map fun p => some p.2) → (∀ b, S b → ¬ So b) →
    RS K B H (fun b => S b ∨ So b) ((SK.fput f w ws).map fun p => some p.2) ((SK.fput f o kvs).map fun p => some p.2)
  | [], [], _, _, _, _ => .cons (S1 := So) (S2 := fun _ => False) (fun b z => .inr z) (fun _ z => z.elim) (fun _ _ z => z) ro .nil
  | (g, x) :: ws, (g', y) :: kvs, S, e, .cons (S1 := T1) (S2 := T2) s1 s2 d r rs, dj => by
    simp only [List.map_cons, List.cons.injEq] at e
    obtain ⟨rfl, e⟩ := e
    unfold SK.fput
    by_cases q : g = f
    · rw [if_pos q, if_pos q]
      exact .cons (S1 := So) (S2 := T2) (fun b z => .inr z) (fun b z => .inl (s2 b z)) (fun b z y => dj b (s2 b y) z) ro rs
    · rw [if_neg q, if_neg q]
      exact .cons (S1 := T1) (S2 := fun b => T2 b ∨ So b) (fun b z => .inl (s1 b z)) (fun b z => z.imp (s2 b) id) (fun b z y => y.elim (d b z) (dj b (s1 b z))) r (RS.fput ro e rs fun b z => dj b (s2 b z))
/-- o.f = e, o a name of an owned instance -/
theorem gos_fld (h : Go K F B0 tv T Γ fun o Γ1 => ∃ a C fs, Γ1[i]? = some (some (.oi a C fs)) ∧ Cls K C ∧ NoAttr K C f ∧ fs.length < 1000 ∧ Dd.nx (Γ1.set i (some (.oi a C (SK.fput f o fs))))) : GoS K F B0 (sFld K (tVar i) tv f) T Γ Dd := fun τ σ H De hw s =>
  h τ σ H _ hw fun v1 o1 Γ1 H1 ⟨a, C, fs, e1, hc, hn, hl, h1⟩ ⟨B1, S1, w1⟩ => by
    obtain ⟨v', S3, So, a2, r2, ro, dj, _, _, fm⟩ := w1.mut2 e1
    cases r2 with
    | @oi _ S4 _ dx _ ws _ ha hd hs hn1 hn2 ne hca hcd ek rs =>
    have len : ws.length = fs.length := by have := congrArg List.length ek; simpa using this
    refine ⟨.ref a, a2, a, C, dx, ws, rfl, hca, hc, hn, by rw [len]; exact hl, ?_⟩
    obtain ⟨S', w3⟩ := fm a (.ins C dx (putF f v1 ws)) (.oi a C (SK.fput f o1 fs)) ha (by
      rw [putF_fput]
      refine .oi (S' := fun b => S4 b ∨ So b) (.inl ha) (.inl hd) (fun b z => z.imp (hs b) id) (fun z => z.elim hn1 fun z => dj a ha z) (fun z => z.elim hn2 fun z => dj dx hd z) ne upd_same (by rw [upd_ne (Ne.symm ne)]; exact hcd) (fput_keys ek) ?_
      exact (RS.fput ro ek rs fun b z => dj b (hs b z)).at fun b u z q => by
        rw [upd_ne (fun e => by subst e; exact z.elim hn1 fun z => dj b ha z)]; exact q)
    exact s.nx σ _ _ h1 ⟨B1, S', w3⟩
theorem RF.look : ∀ {ws : List (Str × V)} {fs : List (Str × D)} {y : D}, RF K B ws fs → fs.lookup f = some y → ∃ v, ws.lookup f = some v ∧ R K B v y
  | _, _, _, .nil, h => by simp at h
  | _, _, y, .cons (k := k) (v := v) r t, h => by
    rw [List.lookup_cons] at h ⊢
    cases e : f == k with
    | true => rw [e] at h; cases h; exact ⟨v, by simp, r⟩
    | false => rw [e] at h; obtain ⟨u, a, b⟩ := RF.look t h; exact ⟨u, by simpa using a, b⟩
/-- e.f of an instance -/
theorem go_fld (h : Go K F B0 te T Γ fun o Γ1 => ∃ C fs y, o.fz = .ins C fs ∧ fs.lookup f = some y ∧ Cls K C ∧ NoAttr K C f ∧ post (.d y) Γ1) : Go K F B0 (tFld K te f) T Γ post := fun τ σ H Q hw kk =>
  h τ σ H _ hw fun v1 o1 Γ1 H1 ⟨C, fs, y, e1, l, hc, hn, h1⟩ ⟨_, _, w1⟩ => by
    obtain ⟨B2, S2, w1, _⟩ := w1.fz
    rw [e1] at w1
    obtain ⟨r1, _, _, w2⟩ := w1.popd
    cases r1 with | @ins a _ dx ws _ hb rf =>
    obtain ⟨v, l2, ry⟩ := rf.look l
    exact ⟨a, C, dx, ws, v, rfl, w1.pu a _ hb, hc, hn, l2, kk _ _ _ _ h1 ⟨_, _, w2.pushd ry⟩⟩
/-- what stands behind a call: the heap H' over H, the first thing's cells S0 may have changed -/
structure Bh (K : PySem.W.Frag) (H H' B B' : Hp) (S0 S0' S1 : Ad) : Prop where
  fr : ∀ a u, ¬ S0 a → H a = some u → H' a = some u
  pu : Ex B' H'
  le : BLe B B'
  nw : ∀ a, B' a ≠ none → B a ≠ none ∨ H a = none ∨ S0 a
  o0 : ∀ a, S0' a → (S0 a ∨ H a = none) ∧ B' a = none ∧ H' a ≠ none
  o1 : ∀ a, S1 a → (S0 a ∨ H a = none) ∧ B' a = none ∧ H' a ≠ none
  dj : ∀ a, S1 a → ¬ S0' a
end
end SK
namespace SK
open PySem PySem.Spec PyProof.Rows L2
abbrev Fs := List (Str × O)
abbrev Cs := Addr → Fs → List D → (O → Fs → Prop) → (Addr → Option (List (Str × D)) → Fs → Prop) → Prop
end SK
namespace SK
open PySem PySem.Spec PyProof.Rows L2
section
variable {K : PySem.W.Frag} {F B0 H H' B B' : Hp} {τ τs : List V} {T os : List O} {σ : L2.St} {Γ : En} {S S1 S2 : Ad} {v w : V} {o p : O} {x : D} {post : O → En → Prop} {ta : TA} {tb tc te td ty tv tl : TE} {tt tu : TT} {i j : Nat} {posts : List D → En → Prop} {postt : Bool → En → Prop} {posts1 : En → Prop} {Dd : EG} {xs : List D} {vs : List V} {r r' : R2} {s : TS}
theorem and_im {M N P Q : Prop} (h1 : M → P) (h2 : N → Q) : (M → P) ∧ (N → Q) := ⟨h1, h2⟩
theorem cutD_le {α : Type} {xs : List α} {lo hi : Option Int} : (cutD xs lo hi).length ≤ xs.length := by
  unfold cutD
  simp only [List.length_take, List.length_drop]
  omega
/-- xs == [] -/
theorem o2_eqNil (n : Nat) (hs : Shp n (.lst xs)) (hn : n ≤ 60) (h : post (.d (.bl xs.isEmpty)) Γ) : Op2 K F B0 (rEqG K) (.lst xs) (.lst []) T Γ post :=
  o2_eqD ((hs.mono hn).eqs ((Shp.lst (n := 59) (xs := []) fun _ h => by cases h).mono (by decide))) (by
    have e : PyData.eqv (D.lst xs).py (D.lst []).py = xs.isEmpty := by cases xs <;> simp [D.py, pyL, PyData.eqv, PyData.eqvAll]
    rw [e]; exact h)
theorem o2_neNil (n : Nat) (hs : Shp n (.lst xs)) (hn : n ≤ 60) (h : post (.d (.bl (!xs.isEmpty))) Γ) : Op2 K F B0 (rNeG K) (.lst xs) (.lst []) T Γ post :=
  o2_neD ((hs.mono hn).eqs ((Shp.lst (n := 59) (xs := []) fun _ h => by cases h).mono (by decide))) (by
    have e : PyData.eqv (D.lst xs).py (D.lst []).py = xs.isEmpty := by cases xs <;> simp [D.py, pyL, PyData.eqv, PyData.eqvAll]
    rw [e]; exact h)
theorem o1_neg {n : Int} (h : post (.d (.int (-n))) Γ) : Op1 K F B0 (rU fun i => V.int (-i)) (.int n) T Γ post := fun τ σ H B S v1 Q w r1 k => by
  cases r1
  exact ⟨n, rfl, k _ _ Γ H h ⟨_, _, w.pushd .int⟩⟩
end
end SK
namespace SK
open PySem PySem.Spec PyProof.Rows L2 Builtin.Str
def rStrG : List V → Hp → VK → Prop := fun xs H Q => (∃ i, xs = [.int i] ∧ i.natAbs.log2 < 1920 ∧ Q (.str (toString i)) H) ∨ ∃ a, xs = [.str a] ∧ Q (.str a) H
def rIntG : List V → Hp → VK → Prop := fun xs H Q => ((∃ i, xs = [.int i] ∧ Q (.int i) H) ∨ ∃ k, xs = [.bl k] ∧ Q (.int (if k then 1 else 0)) H) ∨ ∃ a n, xs = [.str a] ∧ PySem.intText? a = some n ∧ a.length ≤ 640 ∧ Q (.int n) H
def rJoinG (K : PySem.W.Frag) : V → List V → Hp → VK → Prop := fun x xs H Q => ∃ a p, ∃ ys : List Str, x = .str a ∧ xs = [.ref p] ∧ (SqL K H p (ys.map V.str) ∨ SqT K H p (ys.map V.str)) ∧ (ys.map (·.length)).sum + ys.length * a.length ≤ 16777216 ∧ Q (.str (Txt.join a ys)) H
def rSplitG : V → List V → Hp → VK → Prop := fun x xs H Q => ∃ a b, x = .str a ∧ xs = [.str b] ∧ (b.length == 0) = false ∧ a.length + 2 ≤ sizeLine ∧ rNewStrs (Txt.split a b) H Q
def rPartG : V → List V → Hp → VK → Prop := fun x xs H Q => ∃ a b, x = .str a ∧ xs = [.str b] ∧ (b.length == 0) = false ∧ a.length ≤ sizeLine ∧ ∀ p, H p = none → Q (.ref p) (upd H p (.tup [.str (Txt.partition a b).1, .str (Txt.partition a b).2.1, .str (Txt.partition a b).2.2]))
def rStartsG : V → List V → Hp → VK → Prop := fun x xs H Q => ∃ a b, x = .str a ∧ xs = [.str b] ∧ Q (.bl (Txt.startswith a b)) H
section
variable {K : PySem.W.Frag} {F B0 H H' B B' : Hp} {τ τs : List V} {T os : List O} {σ : L2.St} {Γ : En} {S S1 S2 : Ad} {v w : V} {o p : O} {x : D} {post : O → En → Prop} {ta : TA} {tb tc te td ty tv tl : TE} {tt tu : TT} {i j : Nat} {posts : List D → En → Prop} {postt : Bool → En → Prop} {posts1 : En → Prop} {Dd : EG} {xs : List D} {vs : List V} {s : TS}
theorem oa_strS {n : Str} (h : post (.d (.str n)) Γ) : OpA K F B0 rStrG [.str n] T Γ post := fun τ σ H B S vs Q w rl k => by
  obtain ⟨v1, rfl, r⟩ := rl.one
  cases r
  exact .inr ⟨n, rfl, k _ _ Γ H h ⟨_, _, w.pushd .str⟩⟩
theorem oa_intB {b : Bool} (h : post (.d (.int (if b then 1 else 0))) Γ) : OpA K F B0 rIntG [.bl b] T Γ post := fun τ σ H B S vs Q w rl k => by
  obtain ⟨v1, rfl, r⟩ := rl.one
  cases r
  exact .inl (.inr ⟨b, rfl, k _ _ Γ H h ⟨_, _, w.pushd .int⟩⟩)
theorem RL.strs : ∀ {vs : List V} {ys : List Str}, RL K B vs (ys.map D.str) → vs = ys.map V.str
  | [], [], _ => rfl
  | _ :: _, y :: ys, .cons r t => by cases r; rw [List.map_cons, RL.strs t]
theorem RL.ofStrs : ∀ ys : List Str, RL K B (ys.map V.str) (ys.map D.str)
  | [] => .nil
  | _ :: r => .cons .str (RL.ofStrs r)
/-- a.join(ys) -/
theorem go_join (h : Go K F B0 te T Γ fun o Γ1 => ∃ a, o = .d (.str a) ∧ GoA K F B0 ta (.d (.str a) :: T) Γ1 fun xs Γ2 => ∃ l ys, xs = [l] ∧ l.items? = some (List.map D.str ys) ∧ (ys.map (·.length)).sum + ys.length * a.length ≤ 16777216 ∧ post (.d (.str (Txt.join a ys))) Γ2) :
    Go K F B0 (tBM K "str" (rJoinG K) te ta) T Γ post := fun τ σ H Q hw k =>
  h τ σ H _ hw fun v1 o1 Γ1 H1 ⟨a, e, h1⟩ ⟨_, _, w1⟩ => by
    subst e
    obtain ⟨r1, _⟩ := w1.popd
    cases r1
    refine ⟨rfl, h1 _ σ H1 _ ⟨_, _, w1⟩ fun vs xs Γ2 H2 ⟨l, ys, e, q, hz, h2⟩ ⟨_, _, w2⟩ hl => ?_⟩
    subst e
    obtain ⟨rl, S2, w3⟩ := w2.args hl
    obtain ⟨_, _, _, w4⟩ := w3.popd
    obtain ⟨u, rfl, r⟩ := rl.one
    obtain ⟨p, us, rfl, sq, rl2⟩ := r.items q
    have e2 := rl2.strs
    subst e2
    exact ⟨a, p, ys, rfl, rfl, sq.imp w4.pu.sqL w4.pu.sqT, hz, k _ _ _ _ h2 ⟨_, _, w4.pushd .str⟩⟩
/-- a.split(b) -/
theorem go_split (h : Go K F B0 te T Γ fun o Γ1 => ∃ a, o = .d (.str a) ∧ GoA K F B0 ta (.d (.str a) :: T) Γ1 fun xs Γ2 => ∃ b, xs = [.str b] ∧ (b.length == 0) = false ∧ a.length ≤ 1000000 ∧ post (.ol (((Txt.split a b).map D.str).map O.d)) Γ2) :
    Go K F B0 (tBM K "str" rSplitG te ta) T Γ post := fun τ σ H Q hw k =>
  h τ σ H _ hw fun v1 o1 Γ1 H1 ⟨a, e, h1⟩ ⟨_, _, w1⟩ => by
    subst e
    obtain ⟨r1, _⟩ := w1.popd
    cases r1
    refine ⟨rfl, h1 _ σ H1 _ ⟨_, _, w1⟩ fun vs xs Γ2 H2 ⟨b, e, hb, hz, h2⟩ ⟨_, _, w2⟩ hl => ?_⟩
    subst e
    obtain ⟨rl, S2, w3⟩ := w2.args hl
    obtain ⟨_, _, _, w4⟩ := w3.popd
    obtain ⟨u, rfl, r⟩ := rl.one
    cases r
    refine ⟨a, b, rfl, rfl, hb, ?_, fun p hp => ?_⟩
    · rw [sizeLine_eq]; omega
    · obtain ⟨S5, w5⟩ := w4.newl hp (RL.ofStrs (Txt.split a b))
      exact k _ _ _ _ h2 ⟨_, _, w5⟩
/-- a.partition(b) -/
theorem go_part (h : Go K F B0 te T Γ fun o Γ1 => ∃ a, o = .d (.str a) ∧ GoA K F B0 ta (.d (.str a) :: T) Γ1 fun xs Γ2 => ∃ b, xs = [.str b] ∧ (b.length == 0) = false ∧ a.length ≤ 1000000 ∧ post (.d (.tup [.str (Txt.partition a b).1, .str (Txt.partition a b).2.1, .str (Txt.partition a b).2.2])) Γ2) :
    Go K F B0 (tBM K "str" rPartG te ta) T Γ post := fun τ σ H Q hw k =>
  h τ σ H _ hw fun v1 o1 Γ1 H1 ⟨a, e, h1⟩ ⟨_, _, w1⟩ => by
    subst e
    obtain ⟨r1, _⟩ := w1.popd
    cases r1
    refine ⟨rfl, h1 _ σ H1 _ ⟨_, _, w1⟩ fun vs xs Γ2 H2 ⟨b, e, hb, hz, h2⟩ ⟨_, _, w2⟩ hl => ?_⟩
    subst e
    obtain ⟨rl, S2, w3⟩ := w2.args hl
    obtain ⟨_, _, _, w4⟩ := w3.popd
    obtain ⟨u, rfl, r⟩ := rl.one
    cases r
    refine ⟨a, b, rfl, rfl, hb, ?_, fun p hp => ?_⟩
    · rw [sizeLine_eq]; omega
    · obtain ⟨S5, w5⟩ := w4.newd (v := .ref p) (x := .tup [.str (Txt.partition a b).1, .str (Txt.partition a b).2.1, .str (Txt.partition a b).2.2]) hp (.tup (SqT.of upd_same) (.cons .str (.cons .str (.cons .str .nil))))
      exact k _ _ _ _ h2 ⟨_, _, w5⟩
/-- a.startswith(b) -/
theorem go_starts (h : Go K F B0 te T Γ fun o Γ1 => ∃ a, o = .d (.str a) ∧ GoA K F B0 ta (.d (.str a) :: T) Γ1 fun xs Γ2 => ∃ b, xs = [.str b] ∧ post (.d (.bl (Txt.startswith a b))) Γ2) :
    Go K F B0 (tBM K "str" rStartsG te ta) T Γ post := fun τ σ H Q hw k =>
  h τ σ H _ hw fun v1 o1 Γ1 H1 ⟨a, e, h1⟩ ⟨_, _, w1⟩ => by
    subst e
    obtain ⟨r1, _⟩ := w1.popd
    cases r1
    refine ⟨rfl, h1 _ σ H1 _ ⟨_, _, w1⟩ fun vs xs Γ2 H2 ⟨b, e, h2⟩ ⟨_, _, w2⟩ hl => ?_⟩
    subst e
    obtain ⟨rl, S2, w3⟩ := w2.args hl
    obtain ⟨_, _, _, w4⟩ := w3.popd
    obtain ⟨u, rfl, r⟩ := rl.one
    cases r
    exact ⟨a, b, rfl, rfl, k _ _ _ _ h2 ⟨_, _, w4.pushd .bl⟩⟩
end
end SK
namespace SK
open PySem PySem.Spec PyProof.Rows L2
def rTupG (K : PySem.W.Frag) : List V → Hp → VK → Prop := fun xs H Q => ∃ p ys, xs = [.ref p] ∧ ((SqL K H p ys ∧ ∀ l, H l = none → Q (.ref l) (upd H l (.tup ys))) ∨ (SqT K H p ys ∧ Q (.ref p) H))
section
variable {K : PySem.W.Frag} {F B0 H H' B B' : Hp} {τ τs : List V} {T os : List O} {σ : L2.St} {Γ : En} {S S1 S2 : Ad} {v w : V} {o p : O} {x : D} {post : O → En → Prop} {ta : TA} {tb tc te td ty tv tl : TE} {tt tu : TT} {i j : Nat} {posts : List D → En → Prop} {postt : Bool → En → Prop} {posts1 : En → Prop} {Dd : EG} {xs : List D} {vs : List V} {r r' : R2} {s : TS}
theorem oa_tupL (q : x.seq? = some xs) (h : post (.d (.tup xs)) Γ) : OpA K F B0 (rTupG K) [x] T Γ post := fun τ σ H B S vs Q w rl k => by
  obtain ⟨v1, rfl, r⟩ := rl.one
  obtain ⟨a, us, rfl, sq, rl2⟩ := r.seqL q
  refine ⟨a, us, rfl, .inl ⟨w.pu.sqL sq, fun p hp => ?_⟩⟩
  obtain ⟨S2, w⟩ := w.newd (v := .ref p) (x := .tup xs) hp (.tup (SqT.of upd_same) (rl2.mono (.of_ex (.new (w.pu.back hp)))))
  exact k _ _ _ _ h ⟨_, _, w⟩
theorem oa_tupT (h : post (.d (.tup xs)) Γ) : OpA K F B0 (rTupG K) [.tup xs] T Γ post := fun τ σ H B S vs Q w rl k => by
  obtain ⟨v1, rfl, r⟩ := rl.one
  cases r with | @tup a vs _ sq rl2 =>
  exact ⟨a, vs, rfl, .inr ⟨w.pu.sqT sq, k _ _ _ _ h ⟨_, _, w.pushd (.tup sq rl2)⟩⟩⟩
theorem Sl.tupM {xs : List D} {lo : Int} {hi : Option Int} (h0 : 0 < lo) (h1 : xs ≠ []) : Sl (.tup xs) (some lo) hi (.d (.tup (cutD xs (some lo) hi))) := by
  refine .tup fun ⟨h, _⟩ => ?_
  obtain ⟨n, rfl⟩ := Int.eq_ofNat_of_zero_le (Int.le_of_lt h0)
  rw [sIx_n] at h
  have : 0 < xs.length := List.length_pos_iff.mpr h1
  omega
theorem atI_ofN {α : Type} {xs : List α} {k : Nat} : atI xs (Int.ofNat k) = xs[k]? := by
  show atI xs (k : Int) = xs[k]?
  unfold atI ixN
  rw [if_pos (Int.natCast_nonneg k)]
  by_cases h : k < xs.length
  · rw [if_pos (by omega)]
    rfl
  · rw [if_neg (by omega)]
    exact (List.getElem?_eq_none (by omega)).symm
end
end SK
namespace SK
open PySem PySem.Spec PyProof.Rows L2
/-- its own dict, if it has one, is told -/
def XdAt (H : Hp) (d : Option Addr) : Prop := match d with | none => True | some dd => ∃ fs, H dd = some (.xd fs)
def rIsX (K : PySem.W.Frag) (a : Addr) (cls : Value) (d : Option Addr) : List V → Hp → VK → Prop := fun xs H Q => ∃ D c b, cls = .ref D ∧ XdAt H d ∧ L2.ExcC K D ∧ xs = [.ref a, c] ∧
  ((∃ cv, ClsV c cv ∧ PySem.W.kitOne K (.ref D) cv = some b) ∨ (∃ tp cs us, c = .ref tp ∧ SqT K H tp cs ∧ Paired ClsV cs us ∧ PySem.W.kitAny K (.ref D) us = some b)) ∧ Q (.bl b) H
section
variable {X : Cx}
theorem call_isX {a : Addr} {oe : Obj} {cls : Value} {d : Option Addr} {pn : List (Addr × Obj)} (hz : Zc cls d oe) (hf : ∃ vs, oe.data = .fields vs) : CallR (X.suite a ((a, oe) :: pn)) (.builtin "isinstance") (rIsX X.K a cls d) := by
  intro pins s σ H xs us Q I r h
  obtain ⟨D, c, b, rfl, hx, C, rfl, way, q⟩ := h
  obtain ⟨u1, u2, rfl, r1, r2⟩ := vals2 r
  cases (show u1 = Value.ref a from r1)
  obtain ⟨hget, _⟩ := I.pin (a, oe) (List.mem_append_left _ List.mem_cons_self)
  obtain ⟨vs, hv⟩ := hf
  have J : ∃ od, PySem.W.InstAt s.heap a oe D od := by
    cases d with
    | none =>
      obtain ⟨oc, odd, oda, osl⟩ := oe
      obtain ⟨h1, h2⟩ := hz
      dsimp only at h1 h2 hv
      subst h1 h2 hv
      exact ⟨none, hget, rfl, rfl, trivial⟩
    | some dd =>
      obtain ⟨fs, hd⟩ := hx
      obtain ⟨mA, hns, _⟩ := (show ObjOk X.prog X.w H s.heap dd (.xd fs) from I.hok dd _ hd)
      obtain ⟨od, ho, _⟩ := lookIn_ns hns
      exact ⟨some od, hget, hz.1, by unfold PySem.W.notCls; rw [hv] <;> rfl, by rw [hz.2]; exact ho⟩
  obtain ⟨od, J⟩ := J
  obtain ⟨cd, hc, _⟩ := PySem.W.any_some C.hd
  have Z := PySem.W.kitx_exc (x := a) (od := od) (ox := oe) (by rw [hc]; rfl) C.hg C.hk C.hs C.ha C.hn C.ht C.hm
  rcases way with ⟨cv, k, e⟩ | ⟨tp, cs, ws, rfl, hT, k, e⟩
  · have e2 := k.eq r2
    subst e2
    exact PySem.W.kia_one Z I.kIn J e (fun z => nomatch z) fun tk => ⟨.bl b, H, I.kept (t' := tk) fun _ _ z => z, rfl, q⟩
  · cases (show u2 = Value.ref tp from r2)
    obtain ⟨its, rv, p, _⟩ := I.tuple hT
    obtain ⟨o, h1, h2, n, h3⟩ := p
    have e3 := ClsV.all k rv
    subst e3
    obtain ⟨oc, od2, dt, sl⟩ := o
    simp only at h2 h3
    subst h2 h3
    exact PySem.W.kia_tup Z I.kIn J h1 e (fun z => nomatch z) fun tk => ⟨.bl b, H, I.kept (t' := tk) fun _ _ z => z, rfl, q⟩
theorem k_isX {K : PySem.W.Frag} {a : Addr} {oe : Obj} {cls : Value} {d : Option Addr} {pn : List (Addr × Obj)} (h : X.K = K) (hz : Zc cls d oe) (hf : ∃ vs, oe.data = .fields vs) : CallR (X.suite a ((a, oe) :: pn)) (.builtin "isinstance") (rIsX K a cls d) := by cases h; exact call_isX hz hf
end
section
variable {K : PySem.W.Frag} {F B0 H H' B B' : Hp} {τ τs : List V} {T os : List O} {σ : L2.St} {Γ : En} {S S1 S2 : Ad} {v w : V} {o p : O} {x : D} {post : O → En → Prop} {ta : TA} {tb tc te td ty tv tl : TE} {tt tu : TT} {i j : Nat} {posts : List D → En → Prop} {postt : Bool → En → Prop} {posts1 : En → Prop} {Dd : EG} {xs : List D} {vs : List V} {r r' : R2} {s : TS}
/-- isinstance(e, C) -/
theorem oa_isX {a D C : Addr} {b : Bool} (E : L2.ExcC K D) (q : PySem.W.kitOne K (.ref D) (.ref C) = some b) (h : post (.d (.bl b)) Γ) : OpA K F B0 (rIsX K a (.ref D) none) [.ref a, .ref C] T Γ post := fun τ σ H B S vs Q w rl k => by
  obtain ⟨v1, v2, rfl, r, r2⟩ := rl.two
  cases r
  cases r2
  exact ⟨D, _, b, rfl, trivial, E, rfl, .inl ⟨_, .own C, q⟩, k _ _ Γ H h ⟨_, _, w.pushd .bl⟩⟩
theorem oa_isXt {a D : Addr} {n : String} {b : Bool} (E : L2.ExcC K D) (q : PySem.W.kitOne K (.ref D) (.type n) = some b) (h : post (.d (.bl b)) Γ) : OpA K F B0 (rIsX K a (.ref D) none) [.ref a, .ty n] T Γ post := fun τ σ H B S vs Q w rl k => by
  obtain ⟨v1, v2, rfl, r, r2⟩ := rl.two
  cases r
  cases r2
  exact ⟨D, _, b, rfl, trivial, E, rfl, .inl ⟨_, .ty n, q⟩, k _ _ Γ H h ⟨_, _, w.pushd .bl⟩⟩
theorem RL.cls : ∀ {vs : List V} {Cs : List Addr}, RL K B vs (Cs.map SK.D.ref) → Paired ClsV vs (Cs.map Value.ref)
  | [], [], _ => .nil
  | _ :: _, C :: Cs, .cons r t => by cases r; exact .cons (.own C) (RL.cls t)
end
end SK
namespace SK
open PySem PySem.Spec PyProof.Rows L2
end SK
namespace SK
open PySem PySem.Spec PyProof.Rows L2
structure XCls (K : PySem.W.Frag) (mg : Str → Option Value) (x : Str) (C : Addr) : Prop where
  g : mg x = some (.ref C)
  q : PySem.W.excIn K C [.type "ValueError", .type "Exception", .type "BaseException", .type "object"] "ValueError.__new__" = true
  k : PySem.W.keepIn K (.ref C) = true
  b : PySem.W.subIn K (.ref C) (.type "BaseException") = some true
  t : PySem.W.typeIn K (.ref C) = some (.type "type")
section
variable {X : Cx} {W : WX} {K : PySem.W.Frag} {mg : Str → Option Value} {x m : Str} {C : Addr} {j : Nat} {p p2 pos pos2 : Pos}
theorem k_raise (hc : X.calm = true) (tk : L2.Takes X W) (T : XCls K mg x C) (hK : X.K = K := by rfl) (hm : X.mg = mg := by rfl) (hg : Gl X x := by rfl) (hd : (x == ("__debug__" : Str)) = false := by decide) :
    PS X (.Raise (some (.Call (.Name x p) [.Constant (.str m) j p2] [] pos)) none pos2) (tRaise W C) := by
  subst hK hm
  exact L2.ps_raise hc tk (L2.pmk_own PySem.F.excBase_ValueError T.q T.g T.k (raises_own T.b T.t) hg hd)
end
section
variable {K : PySem.W.Frag} {F B0 : Hp} {T : List O} {Γ : En} {Dd : EG} {c : Value} {ts : Addr → Value → Option Addr → TS} {Wout : WX} {tw : WX → TS} {u : TS} {i : Nat}
def tTryE (K : PySem.W.Frag) (c : Value) (ts : Addr → Value → Option Addr → TS) (Wout : WX) (tb : WX → TS) (u : TS) : TS := fun De σ H => tb (wOnly K c ts Wout De) { De with nx := u De } σ H
end
end SK
namespace SK
open PySem PySem.Spec PyProof.Rows L2
theorem gos_sIW {K : PySem.W.Frag} {F B0 : Hp} {T : List O} {Γ : En} {Dd : EG} {tt : TT} {u t2 : TS} {W : WX} {C : Addr} (h : GoS K F B0 (tIfS tt (tRaise W C) u) T Γ { Dd with nx := fun Γ1 => GoS K F B0 t2 T Γ1 Dd }) : GoS K F B0 (tSeq (tIfS tt (tRaise W C) u) t2) T Γ Dd := gos_seq h
end SK
namespace SK
open PySem PySem.Spec PyProof.Rows L2
section
variable {X : Cx} {K : PySem.W.Frag} {x n : Str} {c : Value} {i : Nat} {body suite orelse : List Stmt} {b₀ : Stmt} {np pos pos' : Pos} {tb : WX → TS} {ts : Addr → Value → Option Addr → TS} {Wout : WX} {u : TS}
theorem k_tryAs (hN : X.N.Nodup) (hc : Names X x c) (tk : L2.Takes X Wout)
    (hb : ∀ (W : WX) (pn : List (Addr × Obj)) (xe : Value → Shared → Prop), L2.Takes (X.tr pn xe) W → PassesOwn (model X.prog X.w) X.A X.env xe → PSs (X.tr pn xe) body (tb W))
    (hsu : ∀ (a : Addr) (oe : Obj) (cls : Value) (d : Option Addr) (pn : List (Addr × Obj)), Zc cls d oe → (∃ vs, oe.data = .fields vs) → PSs (X.suite a ((a, oe) :: pn)) (b₀ :: suite) (ts a cls d))
    (hK : X.K = K := by rfl) (hs : X.stack = X.env :: X.outer := by rfl) (hf : X.env.frame = some X.env.locals := by rfl) (hi : X.N[i]? = some n := by rfl) (hln : X.env.kindOf n = some .local := by rfl) :
    PS X (.Try body [.ExceptHandler (some (.Name x np)) (some n) (b₀ :: suite) pos'] [] [] pos) (tTryAs K c i ts Wout tb) := by
  subst hK
  exact L2.ps_try_as hs hf hN hi hln hc tk hb hsu
end
section
variable {K : PySem.W.Frag} {F B0 : Hp} {T : List O} {Γ : En} {Dd : EG} {c : Value} {ts : Addr → Value → Option Addr → TS} {Wout : WX} {tw : WX → TS} {u t2 : TS} {i : Nat}
theorem gos_sTA (h : GoS K F B0 (tTryAs K c i ts Wout tw) T Γ { Dd with nx := fun Γ1 => GoS K F B0 t2 T Γ1 Dd }) : GoS K F B0 (tSeq (tTryAs K c i ts Wout tw) t2) T Γ Dd := gos_seq h
theorem gos_sTO (h : GoS K F B0 (tTry K c ts Wout tw) T Γ { Dd with nx := fun Γ1 => GoS K F B0 t2 T Γ1 Dd }) : GoS K F B0 (tSeq (tTry K c ts Wout tw) t2) T Γ Dd := gos_seq h
theorem gos_sTE (h : GoS K F B0 (tTryE K c ts Wout tw u) T Γ { Dd with nx := fun Γ1 => GoS K F B0 t2 T Γ1 Dd }) : GoS K F B0 (tSeq (tTryE K c ts Wout tw u) t2) T Γ Dd := gos_seq h
end
end SK
namespace SK
open PySem PySem.Spec PyProof.Rows L2
end SK
namespace SK
open PySem PySem.Spec PyProof.Rows L2 TL
theorem tl_cut (z : Str) (lo hi : Option Int) : tl (cutS z lo hi) = cutD (tl z) lo hi := by
  unfold cutS cutD
  rw [len_tl z]
def rSIndexG : V → List V → Hp → VK → Prop := fun x xs H Q => ∃ a b i rest, x = .str a ∧ xs = [.str b] ∧ Builtin.Str.occurrences a b 0 a.length 1 = i :: rest ∧ Q (.int (i : Nat)) H
def rFindG : V → List V → Hp → VK → Prop := fun x xs H Q => ∃ a b, x = .str a ∧ xs = [.str b] ∧ Q (.int (Txt.find a b)) H
section
variable {K : PySem.W.Frag} {F B0 H H' B B' : Hp} {τ τs : List V} {T os : List O} {σ : L2.St} {Γ : En} {S S1 S2 : Ad} {v w : V} {post : O → En → Prop} {ta : TA} {te : TE}
/-- a.index(b) of a text that has it -/
theorem go_sindex (h : Go K F B0 te T Γ fun o Γ1 => ∃ a, o = .d (.str a) ∧ GoA K F B0 ta (.d (.str a) :: T) Γ1 fun xs Γ2 => ∃ b i rest, xs = [.str b] ∧ Builtin.Str.occurrences a b 0 a.length 1 = i :: rest ∧ post (.d (.int (i : Nat))) Γ2) :
    Go K F B0 (tBM K "str" rSIndexG te ta) T Γ post := fun τ σ H Q hw k =>
  h τ σ H _ hw fun v1 o1 Γ1 H1 ⟨a, e, h1⟩ ⟨_, _, w1⟩ => by
    subst e
    obtain ⟨r1, _⟩ := w1.popd
    cases r1
    refine ⟨rfl, h1 _ σ H1 _ ⟨_, _, w1⟩ fun vs xs Γ2 H2 ⟨b, i, rest, e, oc, h2⟩ ⟨_, _, w2⟩ hl => ?_⟩
    subst e
    obtain ⟨rl, S2, w3⟩ := w2.args hl
    obtain ⟨_, _, _, w4⟩ := w3.popd
    obtain ⟨u, rfl, r⟩ := rl.one
    cases r
    exact ⟨a, b, i, rest, rfl, rfl, oc, k _ _ _ _ h2 ⟨_, _, w4.pushd .int⟩⟩
theorem go_find (h : Go K F B0 te T Γ fun o Γ1 => ∃ a, o = .d (.str a) ∧ GoA K F B0 ta (.d (.str a) :: T) Γ1 fun xs Γ2 => ∃ b, xs = [.str b] ∧ post (.d (.int (Txt.find a b))) Γ2) :
    Go K F B0 (tBM K "str" rFindG te ta) T Γ post := fun τ σ H Q hw k =>
  h τ σ H _ hw fun v1 o1 Γ1 H1 ⟨a, e, h1⟩ ⟨_, _, w1⟩ => by
    subst e
    obtain ⟨r1, _⟩ := w1.popd
    cases r1
    refine ⟨rfl, h1 _ σ H1 _ ⟨_, _, w1⟩ fun vs xs Γ2 H2 ⟨b, e, h2⟩ ⟨_, _, w2⟩ hl => ?_⟩
    subst e
    obtain ⟨rl, S2, w3⟩ := w2.args hl
    obtain ⟨_, _, _, w4⟩ := w3.popd
    obtain ⟨u, rfl, r⟩ := rl.one
    cases r
    exact ⟨a, b, rfl, rfl, k _ _ _ _ h2 ⟨_, _, w4.pushd .int⟩⟩
end
end SK
namespace SK
open PySem PySem.Spec PyProof.Rows L2
/-- an exception of the body is always one that the clause names -/
def wAll (K : PySem.W.Frag) (c : Value) (ts : Addr → Value → Option Addr → TS) (De : Ends) : WX := fun cls d σ H => PySem.W.exmOne K cls c = some true ∧ ∀ a, H a = none → ts a cls d De σ H
def tTryXE (K : PySem.W.Frag) (c : Value) (ts : Addr → Value → Option Addr → TS) (tb : WX → TS) (u : TS) : TS := fun De σ H => tb (wAll K c ts De) { De with nx := u De } σ H
section
variable {K : PySem.W.Frag} {F B0 : Hp} {T : List O} {Γ : En} {Dd : EG} {c : Value} {ts : Addr → Value → Option Addr → TS} {Wout : WX} {tw : WX → TS} {u t2 : TS}
theorem gos_sTX (h : GoS K F B0 (tTryXE K c ts tw u) T Γ { Dd with nx := fun Γ1 => GoS K F B0 t2 T Γ1 Dd }) : GoS K F B0 (tSeq (tTryXE K c ts tw u) t2) T Γ Dd := gos_seq h
end
end SK
namespace SK
open PySem PySem.Spec PyProof.Rows L2 TL
end SK
namespace SK
open PySem PySem.Spec PyProof.Rows L2
end SK
namespace SK
open PySem PySem.Spec PyProof.Rows L2 TL
def rUpperG : V → List V → Hp → VK → Prop := fun x xs H Q => ∃ a, x = .str a ∧ xs = [] ∧ a.length ≤ 5592405 ∧ Q (.str (Txt.upper a)) H
section
variable {K : PySem.W.Frag} {F B0 H H' B B' : Hp} {τ τs : List V} {T os : List O} {σ : L2.St} {Γ : En} {S S1 S2 : Ad} {v w : V} {post : O → En → Prop} {ta : TA} {te : TE} {i : Nat} {Dd : EG}
theorem go_upper (h : Go K F B0 te T Γ fun o Γ1 => ∃ a, o = .d (.str a) ∧ a.length ≤ 100000 ∧ post (.d (.str (Txt.upper a))) Γ1) :
    Go K F B0 (tBM0 K "str" rUpperG te) T Γ post := fun τ σ H Q hw k =>
  h τ σ H _ hw fun v1 o1 Γ1 H1 ⟨a, e, hz, h1⟩ ⟨_, _, w1⟩ => by
    subst e
    obtain ⟨r1, _, _, w2⟩ := w1.popd
    cases r1
    exact ⟨rfl, a, rfl, rfl, Nat.le_trans hz (by decide), k _ _ _ _ h1 ⟨_, _, w2.pushd .str⟩⟩
/-- xs.clear(), xs a name -/
theorem gos_clear (h : ∃ xs, Γ[i]? = some (some (.ol xs)) ∧ Dd.nx (Γ.set i (some (.ol [])))) :
    GoS K F B0 (tDrop (tBM0 K "list" rClear (tVar i))) T Γ Dd := fun τ σ H De hw s => by
  obtain ⟨B, S, w⟩ := hw
  obtain ⟨xs, e0, h⟩ := h
  obtain ⟨v, S1, a1, r1, _, f⟩ := w.mut1 e0
  cases r1 with
  | @ol _ S4 a vs _ ha hs hn hc rs =>
  refine ⟨.ref a, a1, Or.inl ⟨rfl, vs, SqL.of hc⟩, a, vs, rfl, rfl, hc, ?_⟩
  obtain ⟨S', w3⟩ := f a (.lst []) (.ol []) ha (.ol (S' := fun _ => False) ha (fun b z => False.elim z) id upd_same .nil)
  exact s.nx σ _ _ h ⟨B, S', w3⟩
theorem RS.app0 : ∀ {σ : List (Option V)} {Γ : List (Option O)} {S : Ad} {vs : List V} {xs : List D}, RS K B H S σ Γ → RL K B vs xs → RS K B H S (σ ++ vs.map some) (Γ ++ (xs.map O.d).map some)
  | _, _, _, _, _, .nil, rl => by simpa using fl_of rl
  | _, _, _, _, _, .un r, rl => .un (RS.app0 r rl)
  | _, _, _, _, _, .cons s1 s2 d r rs, rl => .cons s1 s2 d r (RS.app0 rs rl)
/-- xs.extend(e), xs a name -/
theorem gos_extend (h : Go K F B0 te T Γ fun o Γ1 => ∃ xs zs, o.fz = .lst zs ∧ Γ1[i]? = some (some (.ol xs)) ∧ xs.length + zs.length ≤ 100000 ∧ Dd.nx (Γ1.set i (some (.ol (xs ++ zs.map O.d))))) (h0 : ∃ xs, Γ[i]? = some (some (.ol xs))) :
    GoS K F B0 (tDrop (tBM K "list" rExtend (tVar i) (tCons te tNil))) T Γ Dd := fun τ σ H De hw s => by
  obtain ⟨B, S, w⟩ := hw
  obtain ⟨xs0, e0⟩ := h0
  obtain ⟨v, S1, a1, r1, _, _⟩ := w.mut1 e0
  cases r1 with
  | @ol _ _ a vs _ _ _ _ hc _ =>
  refine ⟨.ref a, a1, Or.inl ⟨rfl, vs, SqL.of hc⟩, h τ σ H _ ⟨B, S, w⟩ fun v2 o2 Γ2 H2 ⟨xs, zs, ez, e2, hz, h2⟩ ⟨B2, S2, w2⟩ => ?_⟩
  obtain ⟨B3, S3, w3, r3, _⟩ := w2.fzd
  rw [ez] at r3
  cases r3 with
  | @lst b us _ hb rl =>
  obtain ⟨v', S5, a2, r2, _, f⟩ := w3.mut1 e2
  rw [a1] at a2
  cases a2
  cases r2 with
  | @ol _ S4 _ ws _ ha hs hn hc2 rs =>
  have len : ws.length = xs.length := by simpa using rs.len
  have len2 : us.length = zs.length := rl.length
  refine ⟨a, b, ws, us, rfl, rfl, hc2, w3.pu _ _ hb, by rw [len, len2]; exact Nat.le_trans hz (by decide), ?_⟩
  obtain ⟨S', w4⟩ := f a (.lst (ws ++ us)) (.ol (xs ++ zs.map O.d)) ha (.ol (S' := S4) ha hs hn upd_same (by
    rw [List.map_append, List.map_append]
    exact (rs.app0 rl).at fun b u z q => by
      rw [upd_ne (fun e => by subst e; exact hn z)]; exact q))
  exact s.nx σ _ _ h2 ⟨_, S', w4⟩
end
end SK
namespace SK
open PySem PySem.Spec PyProof.Rows L2
section
variable {K : PySem.W.Frag} {F B0 H H' B B' : Hp} {τ τs : List V} {T os : List O} {σ : L2.St} {Γ : En} {S S1 S2 : Ad} {v w : V}
theorem iter_zipT {a b : Addr} {xs ys : List D} : Iter K F B0 (RZ.ItzT K a b) [.ref b, .ref a] [.tup ys, .tup xs] (zipD xs ys) := by
  intro τ T σ Γ H B S h rl0
  obtain ⟨v0, v1, e0, r2, r⟩ := rl0.two
  cases e0
  cases r with | @tup _ vs _ sq rl =>
  cases r2 with | @tup _ us _ sq2 rl2 =>
  have sqh := h.pu.sqT sq
  have sqh2 := h.pu.sqT sq2
  refine ⟨⟨vs, us, sqh, sqh2, by simp only [zipD, List.length_map, List.length_zip]; have := rl.length; have := rl2.length; omega⟩, fun i d hd => ?_⟩
  have hi : i < (zipD xs ys).length := (List.getElem?_eq_some_iff.mp hd).1
  simp only [zipD, List.length_map, List.length_zip] at hi
  have hxi : i < xs.length := by omega
  have hyi : i < ys.length := by omega
  have e : d = .tup [xs[i], ys[i]] := by
    simp [zipD, hxi, hyi, List.getElem?_map, List.zip, List.getElem?_zipWith] at hd
    exact hd.symm
  subst e
  obtain ⟨x1, hx1, rx1⟩ := rl.get (i := i) (x := xs[i]) (by simp [hxi])
  obtain ⟨y1, hy1, ry1⟩ := rl2.get (i := i) (x := ys[i]) (by simp [hyi])
  refine ⟨⟨vs, us, x1, y1, sqh, sqh2, hx1, hy1⟩, fun z H' ⟨t, x2, y2, e1, e2, e3, f1, f2⟩ => ?_⟩
  subst e1 e3
  have g1 := f1 vs sqh
  rw [hx1] at g1
  cases g1
  have g2 := f2 us sqh2
  rw [hy1] at g2
  cases g2
  have ex : Ex B (upd B t (.tup [x1, y1])) := .new (h.pu.back e2)
  obtain ⟨S', w'⟩ := HW.newd h e2 (x := .tup [xs[i], ys[i]]) (.tup (SqT.of upd_same) (.cons (rx1.mono (.of_ex ex)) (.cons (ry1.mono (.of_ex ex)) .nil)))
  exact ⟨_, S', w'⟩
theorem goi_zipT {ta : TA} {posti : List D → List D → En → Prop} (h : GoA K F B0 ta T Γ fun zs Γ1 => ∃ xs ys, zs = [.tup xs, .tup ys] ∧ posti (zipD xs ys) [.tup ys, .tup xs] Γ1) : GoI K F B0 (RZ.iZipA K ta) T Γ posti := fun τ σ H Q hw k =>
  h τ σ H _ hw fun vs zs Γ1 H1 ⟨xs, ys, e, h1⟩ ⟨_, _, w1⟩ hl => by
    subst e
    obtain ⟨rl, S', w⟩ := w1.args hl
    cases rl with | cons r rl0 => cases rl0 with | cons r2 rl0 =>
      cases rl0
      have r' := r
      have r2' := r2
      cases r with | @tup a us _ sq rl2 =>
      cases r2 with | @tup b us2 _ sq2 rl3 =>
      exact ⟨a, b, us, us2, rfl, .inr ⟨w.pu.sqT sq, w.pu.sqT sq2, k (RZ.ItzT K a b) [.ref b, .ref a] [.tup ys, .tup xs] _ Γ1 H1 h1 ⟨_, _, (w.pushd r').pushd r2'⟩ rfl iter_zipT⟩⟩
end
end SK
set_option maxHeartbeats 1000000
namespace SK
open PySem PySem.Spec PyProof.Rows L2
mutual
/-- no list, dict or instance is in it -/
def D.lf : D → Bool
  | .non => true
  | .bl _ => true
  | .int _ => true
  | .str _ => true
  | .ref _ => true
  | .ty _ => true
  | .tup xs => lfL xs
  | _ => false
def lfL : List D → Bool
  | [] => true
  | x :: xs => x.lf && lfL xs
end
mutual
def O.lf : O → Bool
  | .d x => x.lf
  | .ol xs => lfOL xs
  | .od kvs => lfOK kvs
  | .oi _ _ fs => lfOF fs
  | .op xs => lfOL xs
  | .atA _ o => o.lf
  | _ => false
def lfOL : List O → Bool
  | [] => true
  | x :: xs => x.lf && lfOL xs
def lfOK : List (Key × O) → Bool
  | [] => true
  | (_, x) :: xs => x.lf && lfOK xs
def lfOF : List (Str × O) → Bool
  | [] => true
  | (_, x) :: xs => x.lf && lfOF xs
end
section
variable {K : PySem.W.Frag} {B B2 H : Hp}
mutual
theorem R.lfD (hB : ∀ a xs, SqT K B a xs → SqT K B2 a xs) : ∀ (x : D) {v : V}, R K B v x → x.lf = true → R K B2 v x
  | .non, _, r, _ => by cases r; exact .non
  | .bl _, _, r, _ => by cases r; exact .bl
  | .int _, _, r, _ => by cases r; exact .int
  | .str _, _, r, _ => by cases r; exact .str
  | .ref _, _, r, _ => by cases r; exact .ref
  | .ty _, _, r, _ => by cases r; exact .ty
  | .tup xs, _, r, q => by
    cases r with
    | tup h rl => exact .tup (hB _ _ h) (RL.lfD hB xs rl (by simpa [D.lf] using q))
  | .lst _, _, _, q => by simp [D.lf] at q
  | .sq _, _, _, q => by simp [D.lf] at q
  | .dic _, _, _, q => by simp [D.lf] at q
  | .dit _, _, _, q => by simp [D.lf] at q
  | .ins _ _, _, _, q => by simp [D.lf] at q
theorem RL.lfD (hB : ∀ a xs, SqT K B a xs → SqT K B2 a xs) : ∀ (xs : List D) {vs : List V}, RL K B vs xs → lfL xs = true → RL K B2 vs xs
  | [], _, r, _ => by cases r; exact .nil
  | x :: xs, _, r, q => by
    simp only [lfL, Bool.and_eq_true] at q
    cases r with
    | cons r t => exact .cons (R.lfD hB x r q.1) (RL.lfD hB xs t q.2)
end
theorem R.lf (hB : ∀ a xs, SqT K B a xs → SqT K B2 a xs) {v : V} {x : D} (r : R K B v x) (q : x.lf = true) : R K B2 v x := R.lfD hB x r q
theorem lfOL_map : ∀ {xs : List O}, lfOL xs = true → ∀ o ∈ xs, o.lf = true
  | x :: xs, q, o, h => by
    simp only [lfOL, Bool.and_eq_true] at q
    rcases List.mem_cons.mp h with rfl | h
    · exact q.1
    · exact lfOL_map q.2 o h
theorem lfOK_map : ∀ {xs : List (Key × O)}, lfOK xs = true → ∀ p ∈ xs, p.2.lf = true
  | (k, x) :: xs, q, p, h => by
    simp only [lfOK, Bool.and_eq_true] at q
    rcases List.mem_cons.mp h with rfl | h
    · exact q.1
    · exact lfOK_map q.2 p h
theorem lfOF_map : ∀ {xs : List (Str × O)}, lfOF xs = true → ∀ p ∈ xs, p.2.lf = true
  | (k, x) :: xs, q, p, h => by
    simp only [lfOF, Bool.and_eq_true] at q
    rcases List.mem_cons.mp h with rfl | h
    · exact q.1
    · exact lfOF_map q.2 p h
mutual
theorem RO.lf (hB : ∀ a xs, SqT K B a xs → SqT K B2 a xs) : ∀ {S : Ad} {v : V} {o : O}, RO K B H S v o → o.lf = true → RO K B2 H S v o
  | _, _, _, .d r, q => .d (r.lf hB (by simpa [O.lf] using q))
  | _, _, _, .ol (xs := xs) ha hs hn h r, q => .ol ha hs hn h (RS.lf hB r fun o ho => by
      obtain ⟨y, hy, e⟩ := List.mem_map.mp ho
      cases e
      exact lfOL_map (by simpa [O.lf] using q) o hy)
  | _, _, _, .od (kvs := kvs) ha hs hn h nd e r, q => .od ha hs hn h nd e (RS.lf hB r fun o ho => by
      obtain ⟨y, hy, e⟩ := List.mem_map.mp ho
      cases e
      exact lfOK_map (by simpa [O.lf] using q) y hy)
  | _, _, _, .oi (kvs := kvs) ha hd hs hn hn2 ne h h2 e r, q => .oi ha hd hs hn hn2 ne h h2 e (RS.lf hB r fun o ho => by
      obtain ⟨y, hy, e⟩ := List.mem_map.mp ho
      cases e
      exact lfOF_map (by simpa [O.lf] using q) y hy)
  | _, _, _, .op (xs := xs) h r, q => .op (hB _ _ h) (RS.lf hB r fun o ho => by
      obtain ⟨y, hy, e⟩ := List.mem_map.mp ho
      cases e
      exact lfOL_map (by simpa [O.lf] using q) o hy)
  | _, _, _, .atA r, q => .atA (RO.lf hB r (by simpa [O.lf] using q))
theorem RS.lf (hB : ∀ a xs, SqT K B a xs → SqT K B2 a xs) : ∀ {S : Ad} {σ : List (Option V)} {Γ : List (Option O)}, RS K B H S σ Γ → (∀ o, some o ∈ Γ → o.lf = true) → RS K B2 H S σ Γ
  | _, _, _, .nil, _ => .nil
  | _, _, _, .un r, q => .un (RS.lf hB r fun o h => q o (List.mem_cons_of_mem _ h))
  | _, _, _, .cons s1 s2 d r t, q => .cons s1 s2 d (RO.lf hB r (q _ List.mem_cons_self)) (RS.lf hB t fun o h => q o (List.mem_cons_of_mem _ h))
end
end
end SK
namespace SK
open PySem PySem.Spec PyProof.Rows L2
def rMinD (K : PySem.W.Frag) : List V → List V → Hp → VK → Prop := fun vs zs H Q => ∃ (a : Addr) (ns : List Int) (d : V), vs = [V.ref a] ∧ zs = [d] ∧ SqL K H a (ns.map V.int) ∧ (ns = [] → Q d H) ∧ ∀ m, m ∈ ns → (∀ y, y ∈ ns → m ≤ y) → Q (.int m) H
section
variable {K : PySem.W.Frag} {F B0 H H' B B' : Hp} {τ : List V} {T : List O} {σ : L2.St} {Γ : En} {post : O → En → Prop} {t tk : TA}
theorem go_minD (h : GoA K F B0 t T Γ fun xs Γ1 => ∃ x ns, xs = [x] ∧ x.seq? = some (ns.map D.int) ∧ GoA K F B0 tk (.d x :: T) Γ1 fun zs Γ2 => ∃ y, zs = [y] ∧ (ns = [] → post (.d y) Γ2) ∧ ∀ m, m ∈ ns → (∀ y, y ∈ ns → m ≤ y) → post (.d (.int m)) Γ2) :
    Go K F B0 (tCKw (rMinD K) t tk) T Γ post := fun τ σ H Q hw k =>
  h τ σ H _ hw fun vs xs Γ1 H1 ⟨x, ns, e, q, h1⟩ w1 hl => by
    subst e
    obtain ⟨v, rfl⟩ : ∃ v, vs = [v] := List.length_eq_one_iff.mp hl
    refine h1 _ σ H1 _ w1 fun zs ys Γ2 H2 ⟨y, e2, h0, h2⟩ ⟨B2, S2, w2⟩ hl2 => ?_
    subst e2
    obtain ⟨z, rfl⟩ : ∃ z, zs = [z] := List.length_eq_one_iff.mp hl2
    obtain ⟨ry, _, _, w3⟩ := w2.popd
    obtain ⟨rx, _, _, w4⟩ := w3.popd
    obtain ⟨a, us, rfl, sq, rl⟩ := rx.seqL q
    have eu : us = ns.map V.int := by
      have : ∀ {us : List V} {ns : List Int}, RL K B2 us (ns.map D.int) → us = ns.map V.int := by
        intro us ns r
        induction ns generalizing us with
        | nil => cases r; rfl
        | cons n ns ih =>
          cases r with
          | cons r t => cases r; rw [ih t]; rfl
      exact this rl
    subst eu
    exact ⟨a, ns, z, rfl, rfl, w4.pu.sqL sq, fun hz => k _ _ _ _ (h0 hz) ⟨_, _, w4.pushd ry⟩, fun m hm hall => k _ _ _ _ (h2 m hm hall) ⟨_, _, w4.pushd .int⟩⟩
end
end SK
namespace SK
open PySem PySem.Spec PyProof.Rows L2
/-- the j-th statement of a class -/
def inCls (st : Stmt) (j : Nat) : Stmt := match st with
  | .ClassDef (body := b) .. => b.getD j (.Pass ⟨0, 0, 0, 0⟩)
  | _ => .Pass ⟨0, 0, 0, 0⟩
def DfM (K : PySem.W.Frag) (m q : Str) (st : Stmt) (f : Addr) : Prop := ∃ fd, Fun K m q st f fd
theorem dfm_mk {K : PySem.W.Frag} {m q : Str} {st : Stmt} {f : Addr} {oc : Value} {od an : Option Addr} {sl : Array (Option Value)} {kV dc pm cd ct : Value}
    (l : K.lookup f = some ⟨oc, od, .func (PySem.W.fnOf m q (defArgs st) (defBody st) (defScope st) .none kV dc pm an cd ct), sl⟩)
    (c : PySem.W.codeIn K cd q = true) (k : PySem.W.keepIn K (.ref f) = true) : DfM K m q st f := ⟨_, fun_mk (st := st) l c k⟩
/-- the class facts of a record: its fields are its own -/
structure Rec (K : PySem.W.Frag) (Ci : Addr) (fs : List Str) : Prop where
  cls : Cls K Ci
  no : ∀ f, fs.contains f = true → NoAttr K Ci f
section
variable {K : PySem.W.Frag} {F B0 H H' B B' : Hp} {τ : List V} {T : List O} {σ : L2.St} {Γ : En} {post : O → En → Prop} {te tv : TE} {Ci : Addr} {fl : List Str} {f : Str} {Dd : EG} {i : Nat}
/-- e.f of a frozen record -/
theorem go_fldR (R : Rec K Ci fl) (h : Go K F B0 te T Γ fun o Γ1 => ∃ fs y, o.fz = .ins Ci fs ∧ fs.lookup f = some y ∧ fl.contains f = true ∧ post (.d y) Γ1) : Go K F B0 (tFld K te f) T Γ post :=
  go_fld fun τ σ H Q hw k => h τ σ H Q hw fun v o Γ1 H1 ⟨fs, y, e1, e2, e3, e4⟩ w => k v o Γ1 H1 ⟨Ci, fs, y, e1, e2, R.cls, R.no f e3, e4⟩ w
/-- self.f = e in __init__ -/
theorem gos_fldR (R : Rec K Ci fl) (h : Go K F B0 tv T Γ fun o Γ1 => ∃ a fs, Γ1[i]? = some (some (.oi a Ci fs)) ∧ fl.contains f = true ∧ fs.length < 1000 ∧ Dd.nx (Γ1.set i (some (.oi a Ci (SK.fput f o fs))))) : GoS K F B0 (sFld K (tVar i) tv f) T Γ Dd :=
  gos_fld fun τ σ H Q hw k => h τ σ H Q hw fun v o Γ1 H1 ⟨a, fs, e1, e2, e3, e4⟩ w => k v o Γ1 H1 ⟨a, Ci, fs, e1, R.cls, R.no f e2, e3, e4⟩ w
end
end SK
namespace SK
open PySem PySem.Spec PyProof.Rows L2
end SK
namespace SK
open PySem PySem.Spec PyProof.Rows L2
end SK
namespace SK
open PySem PySem.Spec PyProof.Rows L2 RT
def tListRev (K : PySem.W.Frag) (te : TE) : TE := fun σ H Q => te σ H fun v H1 => ∃ (a : Addr) (xs : List V), v = .ref a ∧ SqL K H1 a xs ∧ ∀ q, H1 q = none → Q (.ref q) (upd H1 q (.lst xs.reverse))
section
variable {K : PySem.W.Frag} {F B0 H H' B B' : Hp} {τ : List V} {T : List O} {σ : L2.St} {Γ : En} {post : O → En → Prop} {te : TE}
theorem RL.rev {vs : List V} {xs : List D} (r : RL K B vs xs) : RL K B vs.reverse xs.reverse := by
  induction vs generalizing xs with
  | nil => cases r; exact .nil
  | cons v vs ih =>
    cases r with
    | cons r t =>
      rw [List.reverse_cons, List.reverse_cons]
      exact (ih t).app (.cons r .nil)
/-- list(reversed(xs)) -/
theorem go_listRev (h : Go K F B0 te T Γ fun o Γ1 => ∃ xs, o.fz.seq? = some xs ∧ post (.ol (xs.reverse.map O.d)) Γ1) : Go K F B0 (tListRev K te) T Γ post := fun τ σ H Q hw k =>
  h τ σ H _ hw fun v1 o1 Γ1 H1 ⟨xs, e1, h1⟩ ⟨_, _, w1⟩ => by
    obtain ⟨B2, S2, w2, r, _⟩ := w1.fzd
    obtain ⟨a, vs, rfl, sq, rl⟩ := r.seqL e1
    refine ⟨a, vs, rfl, w2.pu.sqL sq, fun p hp => ?_⟩
    obtain ⟨S3, w3⟩ := w2.newl hp rl.rev
    exact k _ _ _ _ h1 ⟨_, _, w3⟩
end
end SK
namespace SK
open PySem PySem.Spec PyProof.Rows L2
section
variable {K : PySem.W.Frag} {F B0 H B : Hp} {τ : List V} {T : List O} {σ : L2.St} {Γ : En} {S : Ad} {o : O} {i : Nat} {te : TE} {tt : TT} {post : O → En → Prop} {postt : Bool → En → Prop}
theorem HW.lendA (w : HW K F B0 τ T σ Γ H B S) : ∃ Bf, Ho K H Bf [] [] σ (fzE Γ) H ∧
    (∀ Γ1 H1, Ho K H Bf [] [] σ Γ1 H1 → Ho K F B0 τ T σ Γ H1) ∧
    ∀ v' o' Γ1 H1, Ho K H Bf [v'] [o'] σ Γ1 H1 → o'.lf = true → Ho K F B0 (v' :: τ) (o' :: T) σ Γ H1 := by
  obtain ⟨Sp, Ss, p1, p2, p3, rp, rsl⟩ := RS.split (σ0 := τ.map some) (Γ0 := T.map some) (by simp [w.lt]) w.rs
  obtain ⟨L, l1, r2, l3⟩ := rsl.tight
  have bn : ∀ a, L a → B a = none ∧ H a ≠ none := fun a z => (w.ow a (p2 a (l1 a z))).2
  have ex : Ex B (SK.frz B H L) := frz_ex fun a z => (bn a z).1
  have le0 : BLe B (SK.frz B H L) := .of_ex ex
  have main : ∀ v' o' Γ1 H1, Ho K H (SK.frz B H L) [v'] [o'] σ Γ1 H1 → o'.lf = true → Ho K F B0 (v' :: τ) (o' :: T) σ Γ H1 := by
    intro v' o' Γ1 H1 ⟨B1, Sr, w1⟩ lf
    obtain ⟨T1, T2, t1, t2, dj, ro, _⟩ := w1.pop
    have hB : ∀ a u, B a = some u → ¬ L a := fun a u q z => by rw [(bn a z).1] at q; cases q
    have off : ∀ a u, ¬ L a → B1 a = some u → offH B1 L a = some u := fun a u z q => by rw [offH_no z]; exact q
    have offR : ∀ a u, ¬ L a → Rd B1 a u → Rd (offH B1 L) a u := fun a u z q => q.elim (fun q => .inl (off a _ z q)) fun ⟨o, q⟩ => .inr ⟨o, off a _ z q⟩
    have nL : ∀ a u, Rd B a u → ¬ L a := fun a u q => q.elim (hB a _) fun ⟨o, q⟩ => hB a _ q
    have le : BLe B (offH B1 L) := by
      have l := le0.trans w1.b0
      exact ⟨fun a xs q => offR a _ (nL a _ q) (l.tup a xs q), fun a xs q => offR a _ (nL a _ q) (l.lst a xs q), fun a xs q => off a _ (hB a _ q) (l.ls a xs q), fun a xs q => offR a _ (nL a _ q) (l.dK a xs q), fun a xs q => offR a _ (nL a _ q) (l.dT a xs q), fun a C dx fs q => off a _ (hB a _ q) (l.ins a C dx fs q)⟩
    have pu : Ex (offH B1 L) H1 := fun a u q => by
      by_cases z : L a
      · rw [offH_at z] at q; cases q
      · rw [offH_no z] at q; exact w1.pu a u q
    have sq : ∀ a xs, SqT K B1 a xs → SqT K (offH B1 L) a xs := fun a xs q => q.imp (fun q => by
      refine offR a _ (fun z => ?_) q
      have q2 : ∃ u, B1 a = some u ∧ (u = .tup xs ∨ ∃ o, u = .frz o (.tup xs)) := q.elim (fun q => ⟨_, q, .inl rfl⟩) fun ⟨o, q⟩ => ⟨_, q, .inr ⟨o, rfl⟩⟩
      obtain ⟨u, q3, q4⟩ := q2
      have q5 := w1.pu a u q3
      rcases l3 a z with ⟨_, y⟩ | ⟨_, y⟩ | ⟨_, y⟩ | ⟨_, _, _, y⟩ | ⟨_, y⟩ <;>
        (rw [w1.fr a _ y] at q5
         cases q5
         rcases q4 with q4 | ⟨_, q4⟩ <;> cases q4)) id
    refine ⟨offH B1 L, fun a => T1 a ∨ S a, w.fr.trans w1.fr, pu, w.b0.trans le, fun a z => ?_, fun a z => ?_, .cons (S1 := T1) (S2 := S) (fun _ z => .inl z) (fun _ z => .inr z) (fun a z y => ?_) (ro.lf sq lf) (w.rs.tr le (fun _ z => z) fun a u _ q => w1.fr a u q), by simp [w.lt]⟩
    · rcases z with z | z
      · obtain ⟨q1, q2, q3⟩ := w1.ow a (t1 a z)
        refine ⟨w.fr.back q1, ?_, q3⟩
        by_cases y : L a
        · exact offH_at y
        · rw [offH_no y]; exact q2
      · obtain ⟨q1, q2, q3⟩ := w.ow a z
        refine ⟨q1, ?_, fun q => q3 (w1.fr.back q)⟩
        by_cases y : L a
        · exact offH_at y
        · rw [offH_no y]
          cases q : B1 a with
          | none => rfl
          | some u =>
            rcases w1.nw a (by rw [q]; simp) with x | x
            · rw [frz_no y] at x; exact absurd q2 x
            · exact absurd x q3
    · by_cases y : L a
      · exact absurd (offH_at y) z
      · rw [offH_no y] at z
        rcases w1.nw a z with x | x
        · rw [frz_no y] at x; exact w.nw a x
        · exact .inr (w.fr.back x)
    · exact (w.ow a y).2.2 (w1.ow a (t1 a z)).1
  refine ⟨SK.frz B H L, ⟨SK.frz B H L, fun _ => False, .refl H, fun a u q => ?_, .refl _, fun _ z => z.elim, fun _ z => .inl z, ?_, rfl⟩, fun Γ1 H1 ⟨B1, S1, w1⟩ => ?_, main⟩
  · by_cases z : L a
    · rw [frz_at z] at q; exact q
    · rw [frz_no z] at q; exact w.pu a u q
  · exact RS.fzE (S := L) le0 (fun a u z q => by rw [frz_at z]; exact q) r2
  · obtain ⟨B2, S2, w2⟩ := main .non (.d .non) Γ1 H1 ⟨_, _, w1.pushd .non⟩ rfl
    obtain ⟨_, _, _, _, _, _, w3⟩ := w2.pop
    exact ⟨_, _, w3⟩
/-- all slots are read as data in an expression whose value has no part of them -/
theorem go_lendA (h : ∀ F' B', Go K F' B' te [] (fzE Γ) fun o' _ => o'.lf = true ∧ post o' Γ) : Go K F B0 te T Γ post := fun τ σ H Q ⟨B, S, w⟩ k => by
  obtain ⟨Bf, w0, _, back⟩ := w.lendA
  exact h H Bf [] σ H _ w0 fun v o' Γ1 H1 ⟨lf, hp⟩ how => k v o' Γ H1 hp (back v o' Γ1 H1 how lf)
theorem got_lendA (h : ∀ F' B', GoT K F' B' tt [] (fzE Γ) fun b _ => postt b Γ) : GoT K F B0 tt T Γ postt := fun τ σ H Q ⟨B, S, w⟩ k => by
  obtain ⟨Bf, w0, back, _⟩ := w.lendA
  exact h H Bf [] σ H _ w0 fun b Γ1 H1 hp how => k b Γ H1 hp (back Γ1 H1 how)
end
def frO : Option O → Option O
  | none => none
  | some o => some (.d o.fz)
theorem fzE_cons {x : Option O} {r : En} : fzE (x :: r) = frO x :: fzE r := by cases x <;> rfl
theorem fzE_nil : fzE [] = [] := rfl
theorem frO_none : frO none = none := rfl
theorem frO_some {o : O} : frO (some o) = some (.d o.fz) := rfl
def tLendE (t : TE) : TE := t
def tLendT (t : TT) : TT := t
section
variable {K : PySem.W.Frag} {F B0 : Hp} {T : List O} {Γ : En} {te : TE} {tt : TT} {post : O → En → Prop} {postt : Bool → En → Prop}
theorem go_lend' (h : ∀ F' B', Go K F' B' te [] (fzE Γ) fun o' _ => o'.lf = true ∧ post o' Γ) : Go K F B0 (tLendE te) T Γ post := go_lendA h
theorem got_lend' (h : ∀ F' B', GoT K F' B' tt [] (fzE Γ) fun b _ => postt b Γ) : GoT K F B0 (tLendT tt) T Γ postt := got_lendA h
end
section
variable {K : PySem.W.Frag} {F B0 H B : Hp} {τ : List V} {T : List O} {σ : L2.St} {Γ : En} {S : Ad} {o : O} {i : Nat} {te : TE} {ta : TA} {post : O → En → Prop} {posts : List O → En → Prop} {Dd : EG}
/-- arguments that stay what they are -/
def GoAO (K : PySem.W.Frag) (F B0 : Hp) (t : TA) (T : List O) (Γ : En) (post : List O → En → Prop) : Prop := ∀ (τ : List V) (σ : L2.St) (H : Hp) (Q : List V → Hp → Prop), Ho K F B0 τ T σ Γ H →
  (∀ vs xs Γ' H', post xs Γ' → Ho K F B0 (vs.reverse ++ τ) (xs.reverse ++ T) σ Γ' H' → vs.length = xs.length → Q vs H') → t σ H Q
theorem goao_nil (h : posts [] Γ) : GoAO K F B0 tNil T Γ posts := fun τ σ H Q hw k => k [] [] Γ H h hw rfl
theorem goao_cons {tr : TA} (h : Go K F B0 te T Γ fun o1 Γ1 => GoAO K F B0 tr (o1 :: T) Γ1 fun xs Γ2 => posts (o1 :: xs) Γ2) : GoAO K F B0 (tCons te tr) T Γ posts := fun τ σ H Q hw k =>
  h τ σ H _ hw fun v1 o1 Γ1 H1 h1 w1 => by
    refine h1 _ σ H1 _ w1 fun vs xs Γ2 H2 h2 w2 hl => ?_
    refine k (v1 :: vs) (o1 :: xs) Γ2 H2 h2 ?_ (by simp [hl])
    simpa using w2
theorem RS.rev : ∀ {σ : List V} {Γ : List O} {S : Ad}, RS K B H S (σ.map some) (Γ.map some) → RS K B H S (σ.reverse.map some) (Γ.reverse.map some)
  | [], [], _, _ => .nil
  | v :: σ, o :: Γ, S, .cons (S1 := T1) (S2 := T2) s1 s2 d r t => by
    rw [List.reverse_cons, List.reverse_cons, List.map_append, List.map_append]
    exact (RS.snoc r t.rev fun b z y => d b y z).tr (.refl B) (fun b z => z.elim (s2 b) (s1 b)) fun _ _ _ e => e
theorem HW.pack {vs : List V} {xs : List O} {p : Addr} {c : HO} (w : HW K F B0 (vs.reverse ++ τ) (xs.reverse ++ T) σ Γ H B S) (hl : vs.length = xs.length) (hp : H p = none) :
    (∃ S', HW K F B0 (.ref p :: τ) (.ol xs :: T) σ Γ (upd H p (.lst vs)) B S') ∧ ∃ S', HW K F B0 (.ref p :: τ) (.op xs :: T) σ Γ (upd H p (.tup vs)) (upd B p (.tup vs)) S' := by
  have rs0 := w.rs
  rw [List.map_append, List.map_append, List.append_assoc, List.append_assoc] at rs0
  obtain ⟨S1, S2, a1, a2, a3, r1, r2⟩ := RS.split (σ0 := vs.reverse.map some) (Γ0 := xs.reverse.map some) (by simp [hl]) rs0
  have r1 := r1.rev
  rw [List.reverse_reverse, List.reverse_reverse] at r1
  have nq : ∀ b, S b → b ≠ p := fun b z e => (w.ow b z).2.2 (e ▸ hp)
  have bp : B p = none := w.pu.back hp
  have lt2 : τ.length = T.length := by have := w.lt; simp [hl] at this; exact this
  constructor
  · have ex : Ex H (upd H p (.lst vs)) := .new hp
    refine ⟨fun b => b = p ∨ S b, w.fr.trans ex, fun a u e => ex a u (w.pu a u e), w.b0, fun b z => ?_, w.nw,
      .cons (S1 := fun b => b = p ∨ S1 b) (S2 := S2) (fun b z => z.imp id (a1 b)) (fun b z => .inr (a2 b z)) (fun b z y => ?_)
        (.ol (S' := S1) (.inl rfl) (fun b z => .inr z) (fun z => nq p (a1 p z) rfl) upd_same (r1.tr (.refl B) (fun _ z => z) fun b u _ e => ex b u e))
        (r2.tr (.refl B) (fun _ z => z) fun b u _ e => ex b u e), by simp [lt2]⟩
    · rcases z with rfl | z
      · exact ⟨w.fr.back hp, bp, by rw [upd_same]; simp⟩
      · obtain ⟨q1, q2, q3⟩ := w.ow b z
        exact ⟨q1, q2, fun q => q3 (ex.back q)⟩
    · rcases z with rfl | z
      · exact nq b (a2 b y) rfl
      · exact a3 b z y
  · have ex : Ex H (upd H p (.tup vs)) := .new hp
    have exB : Ex B (upd B p (.tup vs)) := .new bp
    refine ⟨S, w.fr.trans ex, fun a u e => ?_, w.b0.trans (.of_ex exB), fun b z => ?_, fun b z => ?_,
      .cons (S1 := S1) (S2 := S2) a1 a2 a3
        (.op (SqT.of upd_same) (r1.tr (.of_ex exB) (fun _ z => z) fun b u _ e => ex b u e))
        (r2.tr (.of_ex exB) (fun _ z => z) fun b u _ e => ex b u e), by simp [lt2]⟩
    · by_cases q : a = p
      · subst q; rw [upd_same] at e ⊢; exact e
      · rw [upd_ne q] at e ⊢; exact w.pu a u e
    · obtain ⟨q1, q2, q3⟩ := w.ow b z
      exact ⟨q1, by rw [upd_ne (nq b z)]; exact q2, fun q => q3 (ex.back q)⟩
    · by_cases q : b = p
      · subst q; exact .inr (w.fr.back hp)
      · rw [upd_ne q] at z; exact w.nw b z
/-- (e, ..), its parts its own -/
theorem go_tupO (h : GoAO K F B0 ta T Γ fun xs Γ1 => xs.length ≤ 1000 ∧ post (.op xs) Γ1) : Go K F B0 (tTup ta) T Γ post := fun τ σ H Q hw k =>
  h τ σ H _ hw fun vs xs Γ1 H1 ⟨hz, h1⟩ ⟨_, _, w1⟩ hl => by
    refine ⟨Nat.le_trans (by rw [hl]; exact hz) (by decide), fun p hp => ?_⟩
    obtain ⟨_, S2, w⟩ := w1.pack (c := .lst []) hl hp
    exact k _ _ _ _ h1 ⟨_, _, w⟩
/-- [e, ..], its parts its own -/
theorem go_lstO (h : GoAO K F B0 ta T Γ fun xs Γ1 => xs.length ≤ 1000 ∧ post (.ol xs) Γ1) : Go K F B0 (tLst ta) T Γ post := fun τ σ H Q hw k =>
  h τ σ H _ hw fun vs xs Γ1 H1 ⟨hz, h1⟩ ⟨_, _, w1⟩ hl => by
    refine ⟨Nat.le_trans (by rw [hl]; exact hz) (by decide), fun p hp => ?_⟩
    obtain ⟨⟨S2, w⟩, _⟩ := w1.pack (c := .lst []) hl hp
    exact k _ _ _ _ h1 ⟨_, _, w⟩
/-- a raise that is never reached -/
theorem gos_raise0 {C : Addr} (h : False) : GoS K F B0 (tRaise (fun _ _ _ _ => False) C) T Γ Dd := h.elim
def tTupO (t : TA) : TE := tTup t
def tLstO (t : TA) : TE := tLst t
theorem pe_tupO {X : Cx} {ta : TA} {e : Expr} (h : PE X e (tTup ta)) : PE X e (tTupO ta) := h
theorem go_tupO' (h : GoAO K F B0 ta T Γ fun xs Γ1 => xs.length ≤ 1000 ∧ post (.op xs) Γ1) : Go K F B0 (tTupO ta) T Γ post := go_tupO h
theorem go_lstO' (h : GoAO K F B0 ta T Γ fun xs Γ1 => xs.length ≤ 1000 ∧ post (.ol xs) Γ1) : Go K F B0 (tLstO ta) T Γ post := go_lstO h
/-- t[k].clear(), t a name of a tuple whose list is its own -/
theorem gos_clearT {n : Int} (k : Nat) {xs : List O} {ys : List O} (e0 : Γ[i]? = some (some (.op xs))) (hk : xs[k]? = some (.ol ys)) (hn : n = (k : Int))
    (h : Dd.nx (Γ.set i (some (.op (xs.set k (.ol [])))))) :
    GoS K F B0 (tDrop (tBM0 K "list" rClear (tOp (rIxG K) (tVar i) (tC (.int n))))) T Γ Dd := fun τ σ H De hw s => by
  obtain ⟨B, S, w⟩ := hw
  obtain ⟨v, S1, a1, r1, _, f⟩ := w.mut1 e0
  cases r1 with
  | @op _ a vs _ hc rs =>
  have hk2 : (xs.map some)[k]? = some (some (.ol ys)) := by rw [List.getElem?_map, hk]; rfl
  obtain ⟨u, U1, U2, c1, c2, c3, c4, ru, g⟩ := rs.focus hk2
  cases ru with
  | @ol _ U4 b us _ hb hbs hbn hbc brs =>
  have hvk : vs[k]? = some (.ref b) := by
    rw [List.getElem?_map] at c1
    cases q : vs[k]? with
    | none => rw [q] at c1; cases c1
    | some x => rw [q] at c1; cases c1; rfl
  subst hn
  have hat : atI vs (k : Int) = some (.ref b) := by
    unfold atI ixN
    have hlt := (List.getElem?_eq_some_iff.mp hvk).1
    rw [if_pos (by omega), if_pos (by omega)]
    exact hvk
  have rs2 := g B (upd H b (.lst [])) U1 (some (.ref b)) (some (.ol [])) (.refl B) (fun c u z e => by
    have hne : c ≠ b := fun q => by
      rw [q] at z
      exact c4 b hb z
    rw [upd_ne hne]; exact e) c4 (fun x q => by
    cases q
    exact ⟨.ref b, rfl, .ol (S' := fun _ => False) hb (fun _ z => z.elim) id upd_same .nil⟩)
  rw [set_same c1, ← List.map_set] at rs2
  obtain ⟨S', w3⟩ := f b (.lst []) (.op (xs.set k (.ol []))) (c2 b hb) (.op hc (rs2.tr (.refl B) (fun c z => z.elim (c2 c) (c3 c)) fun _ _ _ e => e))
  have hcH : SqT K H a vs := w.pu.sqT hc
  exact ⟨.ref a, a1, .inl (.inr (.inl ⟨a, vs, (k : Int), .ref b, rfl, rfl, hcH, hat, Or.inl ⟨rfl, us, SqL.of hbc⟩, b, us, rfl, rfl, hbc, s.nx σ _ _ h ⟨B, S', w3⟩⟩))⟩
end
end SK
namespace SK
open PySem PySem.Spec PyProof.Rows L2
section
variable {K : PySem.W.Frag} {F B0 H B : Hp} {τ τs : List V} {T : List O} {σ : L2.St} {Γ Γ1 : En} {S : Ad} {i : Nat} {Dd : EG} {g : TG} {tb : TS} {De : Ends}
def tLockG (t : TS) : TS := fun D σ H => tLock t D σ H ∨ t D σ H
theorem RK.at {B : Hp} {i : Nat} : ∀ {ws : List (Key × V)} {kvs : List (Key × D)} {k : Key} {x : D}, RK K B ws kvs → kvs[i]? = some (k, x) → ∃ v, ws[i]? = some (k, v) ∧ R K B v x := by
  induction i with
  | zero =>
    intro ws kvs k x r h
    cases r with
    | nil => simp at h
    | cons r t => simp at h; obtain ⟨rfl, rfl⟩ := h; exact ⟨_, rfl, r⟩
  | succ i ih =>
    intro ws kvs k x r h
    cases r with
    | nil => simp at h
    | cons r t =>
      obtain ⟨v, a, b⟩ := ih t (by simpa using h)
      exact ⟨v, by simpa using a, b⟩
theorem gos_sLG {t1 t2 : TS} (h : GoS K F B0 (tLockG t1) T Γ { Dd with nx := fun Γ1 => GoS K F B0 t2 T Γ1 Dd }) : GoS K F B0 (tSeq (tLockG t1) t2) T Γ Dd := gos_seq h
end
end SK
namespace SK
theorem lf_mapI : ∀ ns : List Int, lfL (ns.map D.int) = true
  | [] => rfl
  | n :: ns => lf_mapI ns
end SK
namespace SK
open PySem PySem.Spec PyProof.Rows L2
inductive Sel where
  | fld (f : Str) | key (k : Key) | idx (n : Nat) | un
def kval {α : Type} (kvs : List (Key × α)) (k : Key) : Option α := (kvs.find? fun kv => decide (kv.1 = k)).map (·.2)
def O.get1 : O → Sel → Option O
  | .oi _ _ fs, .fld f => fs.lookup f
  | .od kvs, .key k => kval kvs k
  | .ol xs, .idx n => xs[n]?
  | .op xs, .idx n => xs[n]?
  | .atA _ o, .un => some o
  | .atA _ o, s => o.get1 s
  | _, _ => none
def O.set1 : O → O → Sel → O
  | .oi a C fs, y, .fld f => .oi a C (SK.fput f y fs)
  | .od kvs, y, .key k => .od (SK.dput kvs k y)
  | .ol xs, y, .idx n => .ol (xs.set n y)
  | .op xs, y, .idx n => .op (xs.set n y)
  | .atA a _, y, .un => .atA a y
  | .atA a o, y, s => .atA a (o.set1 y s)
  | o, _, _ => o
def O.getP : O → List Sel → Option O
  | o, [] => some o
  | o, s :: p => match o.get1 s with
    | some u => u.getP p
    | none => none
def O.setP : O → O → List Sel → O
  | _, y, [] => y
  | o, y, s :: p => match o.get1 s with
    | some u => o.set1 (u.setP y p) s
    | none => o
def okS (K : PySem.W.Frag) : O → Sel → Prop
  | .oi _ C _, .fld f => Cls K C ∧ NoAttr K C f
  | .atA _ _, .un => True
  | .atA _ o, s => okS K o s
  | .op _, _ => False
  | _, .fld _ => False
  | _, _ => True
def okPth (K : PySem.W.Frag) : O → List Sel → Prop
  | _, [] => True
  | o, s :: p => okS K o s ∧ match o.get1 s with
    | some u => okPth K u p
    | none => False
def Stp (K : PySem.W.Frag) (H : Hp) (v : V) (s : Sel) (v' : V) : Prop := match s with
  | .fld f => ∃ a C dx ws, v = .ref a ∧ H a = some (.ins C dx ws) ∧ Cls K C ∧ NoAttr K C f ∧ ws.lookup f = some v'
  | .key k => ∃ a ws, v = .ref a ∧ Rd H a (.dK ws) ∧ valV ws k = some v'
  | .idx n => ∃ a vs, v = .ref a ∧ H a = some (.lst vs) ∧ vs[n]? = some v'
  | .un => v' = v
def Wlk (K : PySem.W.Frag) (H : Hp) : V → List Sel → V → Prop
  | v, [], w => v = w
  | v, s :: p, w => ∃ u, Stp K H v s u ∧ Wlk K H u p w
section
variable {K : PySem.W.Frag} {B H H' : Hp} {S : Ad} {v w : V} {o o1 : O}
theorem Stp.ex (e : Ex H H') {s : Sel} (h : Stp K H v s w) : Stp K H' v s w := by
  cases s with
  | fld f => obtain ⟨a, C, dx, ws, q1, q2, q3⟩ := h; exact ⟨a, C, dx, ws, q1, e _ _ q2, q3⟩
  | key k => obtain ⟨a, ws, q1, q2, q3⟩ := h; exact ⟨a, ws, q1, e.rd q2, q3⟩
  | idx n => obtain ⟨a, vs, q1, q2, q3⟩ := h; exact ⟨a, vs, q1, e _ _ q2, q3⟩
  | un => exact h
theorem Wlk.ex (e : Ex H H') : ∀ {p : List Sel} {v w : V}, Wlk K H v p w → Wlk K H' v p w
  | [], _, _, h => h
  | _ :: _, _, _, ⟨u, h1, h2⟩ => ⟨u, h1.ex e, Wlk.ex e h2⟩
theorem Wlk.snoc : ∀ {p : List Sel} {v u w : V} {s : Sel}, Wlk K H v p u → Stp K H u s w → Wlk K H v (p ++ [s]) w
  | [], v, u, w, s, h, h2 => by cases h; exact ⟨w, h2, rfl⟩
  | _ :: _, _, _, _, _, ⟨x, h1, h3⟩, h2 => ⟨x, h1, Wlk.snoc h3 h2⟩
theorem look2 : ∀ {ws : List (Str × V)} {fs : List (Str × O)} {f : Str} {o : O}, ws.map (·.1) = fs.map (·.1) → fs.lookup f = some o → ∃ (i : Nat) (u : V), fs[i]? = some (f, o) ∧ ws[i]? = some (f, u) ∧ ws.lookup f = some u ∧ ∀ y, SK.fput f y fs = fs.set i (f, y)
  | [], [], _, _, _, h => by simp at h
  | (g, x) :: ws, (g', y) :: fs, f, o, e, h => by
    simp only [List.map_cons, List.cons.injEq] at e
    obtain ⟨rfl, e⟩ := e
    rw [List.lookup_cons] at h
    cases q : f == g with
    | true =>
      rw [q] at h
      cases h
      have : f = g := by simpa using q
      subst this
      exact ⟨0, x, rfl, rfl, by rw [List.lookup_cons, q], fun z => by unfold SK.fput; rw [if_pos rfl]; rfl⟩
    | false =>
      rw [q] at h
      have n : ¬ g = f := fun z => by subst z; simp at q
      obtain ⟨i, u, h1, h2, h3, h4⟩ := look2 e h
      exact ⟨i + 1, u, by simpa using h1, by simpa using h2, by rw [List.lookup_cons, q]; exact h3, fun z => by unfold SK.fput; rw [if_neg n, h4 z]; rfl⟩
theorem kval_mem {α : Type} {k : Key} {x : α} {kvs : List (Key × α)} (h : kval kvs k = some x) : ∃ i : Nat, kvs[i]? = some (k, x) := by
  induction kvs with
  | nil => cases h
  | cons p r ih =>
    unfold kval at h
    rw [List.find?_cons] at h
    by_cases e : p.1 = k
    · rw [decide_eq_true e] at h
      cases h
      exact ⟨0, by rw [← e]; rfl⟩
    · rw [decide_eq_false e] at h
      obtain ⟨i, hi⟩ := ih h
      exact ⟨i + 1, by simpa using hi⟩
theorem kval2 : ∀ {ws : List (Key × V)} {kvs : List (Key × O)} {k : Key} {o : O}, (kvs.map (·.1)).Nodup → ws.map (·.1) = kvs.map (·.1) → kval kvs k = some o → ∃ (i : Nat) (u : V), kvs[i]? = some (k, o) ∧ ws[i]? = some (k, u) ∧ valV ws k = some u ∧ ∀ y, SK.dput kvs k y = kvs.set i (k, y)
  | [], [], _, _, _, _, h => by cases h
  | (g, x) :: ws, (g', y) :: kvs, k, o, nd, e, h => by
    simp only [List.map_cons, List.cons.injEq] at e
    obtain ⟨rfl, e⟩ := e
    simp only [List.map_cons, List.nodup_cons] at nd
    by_cases q : g = k
    · subst q
      have : y = o := by simpa [kval] using h
      subst this
      refine ⟨0, x, rfl, rfl, valV_pos rfl, fun z => ?_⟩
      unfold SK.dput
      rw [if_pos (by simp), List.map_cons, if_pos rfl, repl_not nd.1]
      rfl
    · have h' : kval kvs k = some o := by simpa [kval, q] using h
      obtain ⟨i, u, h1, h2, h3, h4⟩ := kval2 nd.2 e h'
      refine ⟨i + 1, u, by simpa using h1, by simpa using h2, by rw [valV_neg q]; exact h3, fun z => ?_⟩
      have h5 := h4 z
      have ha : (kvs.any fun kv => decide (kv.1 = k)) = true := List.any_eq_true.mpr ⟨(k, o), List.mem_of_getElem? h1, by simp⟩
      unfold SK.dput at h5 ⊢
      rw [if_pos ha] at h5
      rw [if_pos (by rw [List.any_cons, ha, Bool.or_true]), List.map_cons, if_neg q, h5]
      rfl
theorem set_same' {α : Type} {l : List α} {i : Nat} {x : α} (h : l[i]? = some x) : l.set i x = l := by
  have hl := (List.getElem?_eq_some_iff.mp h).1
  apply List.ext_getElem?
  intro n
  by_cases hn : n = i
  · subst hn; rw [List.getElem?_set_self hl, h]
  · rw [List.getElem?_set_ne (Ne.symm hn)]
theorem RO.focus0 {s : Sel} (nat : ∀ a u, o ≠ .atA a u) (pu : Ex B H) (r : RO K B H S v o) (g : o.get1 s = some o1) (ok : okS K o s) : ∃ (v1 : V) (S1 S2 : Ad), Stp K H v s v1 ∧ (∀ b, S1 b → S b) ∧ (∀ b, S2 b → S b) ∧ (∀ b, S1 b → ¬ S2 b) ∧ RO K B H S1 v1 o1 ∧
    ∀ B' H' S1' y, BLe B B' → (∀ b u, S2 b → H b = some u → H' b = some u) → (∀ b, S1' b → ¬ S2 b) → RO K B' H' S1' v1 y → RO K B' H' (fun b => S1' b ∨ S2 b) v (o.set1 y s) ∧ Stp K H' v s v1 := by
  cases r with
  | d r => cases s <;> cases g
  | ot => cases s <;> cases g
  | @ol _ S4 a vs xs ha hs hn hc rs =>
    cases s with
    | fld f => cases g
    | key k => cases g
    | un => cases g
    | idx n =>
      have g : xs[n]? = some o1 := g
      obtain ⟨u, U1, U2, c1, c2, c3, c4, ru, f⟩ := rs.focus (i := n) (o := o1) (by rw [List.getElem?_map, g]; rfl)
      have hv : vs[n]? = some u := by
        rw [List.getElem?_map] at c1
        cases q : vs[n]? with
        | none => rw [q] at c1; cases c1
        | some x => rw [q] at c1; cases c1; rfl
      refine ⟨u, U1, fun b => b = a ∨ U2 b, ⟨a, vs, rfl, hc, hv⟩, fun b z => hs b (c2 b z), fun b z => z.elim (fun e => e ▸ ha) fun z => hs b (c3 b z), fun b z y => y.elim (fun e => hn (e ▸ c2 b z)) (c4 b z), ru, fun B' H' S1' y eb k dj ry => ?_⟩
      have q := f B' H' S1' (some u) (some y) eb (fun b x z => k b x (.inr z)) (fun b z w => dj b z (.inr w)) (fun x e => by cases e; exact ⟨u, rfl, ry⟩)
      rw [set_same c1, ← List.map_set] at q
      exact ⟨.ol (S' := fun b => S1' b ∨ U2 b) (.inr (.inl rfl)) (fun b z => z.imp id .inr) (fun z => z.elim (fun z => dj a z (.inl rfl)) fun z => hn (c3 a z)) (k a _ (.inl rfl) hc) q, a, vs, rfl, k a _ (.inl rfl) hc, hv⟩
  | @od _ S4 a ws kvs ha hs hn hc nd ek rs =>
    cases s with
    | fld f => cases g
    | idx k => cases g
    | un => cases g
    | key k =>
      have g : kval kvs k = some o1 := g
      obtain ⟨n, u, g1, g2, g3, g4⟩ := kval2 nd ek g
      obtain ⟨u', U1, U2, c1, c2, c3, c4, ru, f⟩ := rs.focus (i := n) (o := o1) (by rw [List.getElem?_map, g1]; rfl)
      have hv : u' = u := by
        rw [List.getElem?_map, g2] at c1
        cases c1; rfl
      subst hv
      refine ⟨u', U1, fun b => b = a ∨ U2 b, ⟨a, ws, rfl, .inl hc, g3⟩, fun b z => hs b (c2 b z), fun b z => z.elim (fun e => e ▸ ha) fun z => hs b (c3 b z), fun b z y => y.elim (fun e => hn (e ▸ c2 b z)) (c4 b z), ru, fun B' H' S1' y eb k' dj ry => ?_⟩
      have q := f B' H' S1' (some u') (some y) eb (fun b x z => k' b x (.inr z)) (fun b z w => dj b z (.inr w)) (fun x e => by cases e; exact ⟨u', rfl, ry⟩)
      have e2 : (kvs.map fun p => some p.2).set n (some y) = (SK.dput kvs k y).map fun p => some p.2 := by rw [g4 y, List.map_set]
      rw [set_same c1, e2] at q
      have e3 : (SK.dput kvs k y).map (·.1) = kvs.map (·.1) := by
        rw [g4 y, List.map_set]
        exact set_same' (by rw [List.getElem?_map, g1]; rfl)
      exact ⟨.od (S' := fun b => S1' b ∨ U2 b) (.inr (.inl rfl)) (fun b z => z.imp id .inr) (fun z => z.elim (fun z => dj a z (.inl rfl)) fun z => hn (c3 a z)) (k' a _ (.inl rfl) hc) (by rw [e3]; exact nd) (by rw [e3]; exact ek) q, a, ws, rfl, .inl (k' a _ (.inl rfl) hc), g3⟩
  | @oi _ S4 a dx C ws kvs ha hd hs hn hn2 ne hc hcd ek rs =>
    cases s with
    | key k => cases g
    | idx k => cases g
    | un => cases g
    | fld fl =>
      have g : kvs.lookup fl = some o1 := g
      obtain ⟨n, u, g1, g2, g3, g4⟩ := look2 ek g
      obtain ⟨u', U1, U2, c1, c2, c3, c4, ru, f⟩ := rs.focus (i := n) (o := o1) (by rw [List.getElem?_map, g1]; rfl)
      have hv : u' = u := by
        rw [List.getElem?_map, g2] at c1
        cases c1; rfl
      subst hv
      refine ⟨u', U1, fun b => (b = a ∨ b = dx) ∨ U2 b, ⟨a, C, dx, ws, rfl, hc, ok.1, ok.2, g3⟩, fun b z => hs b (c2 b z), fun b z => z.elim (fun e => e.elim (fun e => e ▸ ha) fun e => e ▸ hd) fun z => hs b (c3 b z),
        fun b z y => y.elim (fun e => e.elim (fun e => hn (e ▸ c2 b z)) fun e => hn2 (e ▸ c2 b z)) (c4 b z), ru, fun B' H' S1' y eb k' dj ry => ?_⟩
      have q := f B' H' S1' (some u') (some y) eb (fun b x z => k' b x (.inr z)) (fun b z w => dj b z (.inr w)) (fun x e => by cases e; exact ⟨u', rfl, ry⟩)
      have e2 : (kvs.map fun p => some p.2).set n (some y) = (SK.fput fl y kvs).map fun p => some p.2 := by rw [g4 y, List.map_set]
      rw [set_same c1, e2] at q
      have e3 : (SK.fput fl y kvs).map (·.1) = kvs.map (·.1) := by
        rw [g4 y, List.map_set]
        exact set_same' (by rw [List.getElem?_map, g1]; rfl)
      exact ⟨.oi (S' := fun b => S1' b ∨ U2 b) (.inr (.inl (.inl rfl))) (.inr (.inl (.inr rfl))) (fun b z => z.imp id .inr) (fun z => z.elim (fun z => dj a z (.inl (.inl rfl))) fun z => hn (c3 a z)) (fun z => z.elim (fun z => dj dx z (.inl (.inr rfl))) fun z => hn2 (c3 dx z)) ne
        (k' a _ (.inl (.inl rfl)) hc) (k' dx _ (.inl (.inr rfl)) hcd) (by rw [e3]; exact ek) q, a, C, dx, ws, rfl, k' a _ (.inl (.inl rfl)) hc, ok.1, ok.2, g3⟩
  | op => exact ok.elim
  | atA => exact absurd rfl (nat _ _)
theorem RO.focus1 {s : Sel} (pu : Ex B H) : ∀ {o : O} {S : Ad} {v : V}, RO K B H S v o → o.get1 s = some o1 → okS K o s → ∃ (v1 : V) (S1 S2 : Ad), Stp K H v s v1 ∧ (∀ b, S1 b → S b) ∧ (∀ b, S2 b → S b) ∧ (∀ b, S1 b → ¬ S2 b) ∧ RO K B H S1 v1 o1 ∧
    ∀ B' H' S1' y, BLe B B' → (∀ b u, S2 b → H b = some u → H' b = some u) → (∀ b, S1' b → ¬ S2 b) → RO K B' H' S1' v1 y → RO K B' H' (fun b => S1' b ∨ S2 b) v (o.set1 y s) ∧ Stp K H' v s v1
  | .atA a o, S, v, r, g, ok => by
    cases r with
    | atA r =>
      by_cases hs : s = .un
      · subst hs
        cases (show some o = some o1 from g)
        exact ⟨.ref a, S, fun _ => False, rfl, fun _ z => z, fun _ z => z.elim, fun _ _ z => z, r, fun B' H' S1' y eb k dj ry => ⟨.atA (ry.tr (.refl B') (fun _ z => .inl z) fun _ _ _ e => e), rfl⟩⟩
      have g' : o.get1 s = some o1 := by cases s <;> first | exact g | exact absurd rfl hs
      have ok' : okS K o s := by cases s <;> first | exact ok | exact absurd rfl hs
      obtain ⟨v1, S1, S2, h1, h2, h3, h4, h5, h6⟩ := RO.focus1 pu (o := o) r g' ok'
      refine ⟨v1, S1, S2, h1, h2, h3, h4, h5, fun B' H' S1' y eb k dj ry => ?_⟩
      obtain ⟨q1, q2⟩ := h6 B' H' S1' y eb k dj ry
      have e : (O.atA a o).set1 y s = .atA a (o.set1 y s) := by cases s <;> first | rfl | exact absurd rfl hs
      rw [e]
      exact ⟨.atA q1, q2⟩
  | .d _, _, _, r, g, ok => RO.focus0 (fun _ _ z => by cases z) pu r g ok
  | .ol _, _, _, r, g, ok => RO.focus0 (fun _ _ z => by cases z) pu r g ok
  | .od _, _, _, r, g, ok => RO.focus0 (fun _ _ z => by cases z) pu r g ok
  | .ot _, _, _, r, g, ok => RO.focus0 (fun _ _ z => by cases z) pu r g ok
  | .oi _ _ _, _, _, r, g, ok => RO.focus0 (fun _ _ z => by cases z) pu r g ok
  | .op _, _, _, r, g, ok => RO.focus0 (fun _ _ z => by cases z) pu r g ok
theorem RO.focusP (pu : Ex B H) : ∀ {p : List Sel} {S : Ad} {v : V} {o : O}, RO K B H S v o → o.getP p = some o1 → okPth K o p → ∃ (v1 : V) (S1 S2 : Ad), Wlk K H v p v1 ∧ (∀ b, S1 b → S b) ∧ (∀ b, S2 b → S b) ∧ (∀ b, S1 b → ¬ S2 b) ∧ RO K B H S1 v1 o1 ∧
    ∀ B' H' S1' y, BLe B B' → (∀ b u, S2 b → H b = some u → H' b = some u) → (∀ b, S1' b → ¬ S2 b) → RO K B' H' S1' v1 y → RO K B' H' (fun b => S1' b ∨ S2 b) v (o.setP y p) ∧ Wlk K H' v p v1
  | [], S, v, o, r, g, _ => by
    cases g
    exact ⟨v, S, fun _ => False, rfl, fun _ z => z, fun _ z => z.elim, fun _ _ z => z, r, fun B' H' S1' y _ _ _ ry => ⟨ry.tr (.refl B') (fun _ z => .inl z) fun _ _ _ e => e, rfl⟩⟩
  | s :: p, S, v, o, r, g, ok => by
    unfold O.getP at g
    unfold okPth at ok
    cases e : o.get1 s with
    | none => rw [e] at g; cases g
    | some u =>
      rw [e] at g ok
      obtain ⟨v1, S1, S2, h1, h2, h3, h4, h5, h6⟩ := r.focus1 pu e ok.1
      obtain ⟨v2, T1, T2, k1, k2, k3, k4, k5, k6⟩ := RO.focusP pu h5 g ok.2
      refine ⟨v2, T1, fun b => T2 b ∨ S2 b, ⟨v1, h1, k1⟩, fun b z => h2 b (k2 b z), fun b z => z.elim (fun z => h2 b (k3 b z)) (h3 b), fun b z y => y.elim (k4 b z) (h4 b (k2 b z)), k5, fun B' H' S1' y eb k dj ry => ?_⟩
      obtain ⟨q1, wq⟩ := k6 B' H' S1' y eb (fun b x z => k b x (.inl z)) (fun b z w => dj b z (.inl w)) ry
      obtain ⟨q2, sq⟩ := h6 B' H' _ _ eb (fun b x z => k b x (.inr z)) (fun b z w => z.elim (fun z => dj b z (.inr w)) fun z => h4 b (k3 b z) w) q1
      unfold O.setP
      rw [e]
      exact ⟨q2.tr (.refl B') (fun b z => z.elim (fun z => z.imp id .inl) fun z => .inr (.inr z)) fun _ _ _ e => e, v1, sq, wq⟩
end
section
variable {K : PySem.W.Frag} {F B0 H B : Hp} {τ : List V} {T : List O} {σ : L2.St} {Γ : En} {S : Ad} {v w : V} {o oe o1 : O} {i : Nat} {te ti ty tv : TE} {p : List Sel} {posts1 : En → Prop} {Dd : EG} {post : O → En → Prop}
/-- the thing at a place of slot i is changed, the thing held on top goes into it -/
theorem HW.mutP (h : HW K F B0 (w :: τ) (oe :: T) σ Γ H B S) (e : Γ[i]? = some (some o)) (g : o.getP p = some o1) (ok : okPth K o p) : ∃ (v v1 : V) (S1 So : Ad), σ[i]? = some (some v) ∧ Wlk K H v p v1 ∧ RO K B H S1 v1 o1 ∧ RO K B H So w oe ∧ (∀ b, S1 b → ¬ So b) ∧ (∀ b, S1 b → H b ≠ none) ∧ (∀ b, So b → H b ≠ none) ∧
    ∀ a c y, S1 a → RO K B (upd H a c) (fun b => S1 b ∨ So b) v1 y → ∃ S', HW K F B0 τ T σ (Γ.set i (some (o.setP y p))) (upd H a c) B S' ∧ Wlk K (upd H a c) v p v1 := by
  obtain ⟨v, S1, So, a1, r1, ro, dj, n1, n2, f⟩ := h.mut2 e
  obtain ⟨v1, T1, T2, k1, k2, k3, k4, k5, k6⟩ := RO.focusP h.pu r1 g ok
  refine ⟨v, v1, T1, So, a1, k1, k5, ro, fun b z => dj b (k2 b z), fun b z => n1 b (k2 b z), n2, fun a c y ha ry => ?_⟩
  obtain ⟨q, wq⟩ := k6 B (upd H a c) _ y (.refl B) (fun b u z e => by rw [upd_ne (fun q => k4 a ha (by rw [← q]; exact z))]; exact e) (fun b z y => z.elim (fun z => k4 b z y) fun z => dj b (k3 b y) z) ry
  obtain ⟨S', wf⟩ := f a c _ (k2 a ha) (q.tr (.refl B) (fun b z => z.elim (fun z => z.imp (k2 b) id) fun z => .inl (k3 b z)) fun _ _ _ e => e)
  exact ⟨S', wf, wq⟩
theorem HW.mutP1 (h : HW K F B0 τ T σ Γ H B S) (e : Γ[i]? = some (some o)) (g : o.getP p = some o1) (ok : okPth K o p) : ∃ (v v1 : V) (S1 : Ad), σ[i]? = some (some v) ∧ Wlk K H v p v1 ∧ RO K B H S1 v1 o1 ∧ (∀ b, S1 b → H b ≠ none) ∧
    ∀ a c y, S1 a → RO K B (upd H a c) S1 v1 y → ∃ S', HW K F B0 τ T σ (Γ.set i (some (o.setP y p))) (upd H a c) B S' ∧ Wlk K (upd H a c) v p v1 := by
  obtain ⟨v, v1, S1, So, a1, wk, r1, _, _, n1, _, f⟩ := HW.mutP (h.pushd (v := .non) (x := .non) .non) e g ok
  exact ⟨v, v1, S1, a1, wk, r1, n1, fun a c y ha ry => f a c y ha (ry.tr (.refl B) (fun _ z => .inl z) fun _ _ _ e => e)⟩
/-- te tells the thing at a place of slot i -/
def EvP (K : PySem.W.Frag) (te : TE) (i : Nat) (p : List Sel) : Prop := ∀ (σ : L2.St) (H : Hp) (v v1 : V) (Q : VK), σ[i]? = some (some v) → Wlk K H v p v1 → Q v1 H → te σ H Q
theorem evp_var : EvP K (tVar i) i [] := fun σ H v v1 Q a e q => by cases e; exact ⟨v, a, q⟩
theorem Wlk.split : ∀ {p : List Sel} {v w : V} {s : Sel}, Wlk K H v (p ++ [s]) w → ∃ u, Wlk K H v p u ∧ Stp K H u s w
  | [], v, w, s, ⟨u, h1, h2⟩ => by cases h2; exact ⟨v, rfl, h1⟩
  | _ :: _, _, _, _, ⟨x, h1, h2⟩ => by
    obtain ⟨u, a, b⟩ := Wlk.split h2
    exact ⟨u, ⟨x, h1, a⟩, b⟩
theorem evp_fld {f : Str} (h : EvP K te i p) : EvP K (tFld K te f) i (p ++ [.fld f]) := fun σ H v v1 Q a e q => by
  obtain ⟨u, h1, h2⟩ := e.split
  obtain ⟨a', C, dx, ws, rfl, q2, q3, q4, q5⟩ := h2
  exact h σ H v _ _ a h1 ⟨a', C, dx, ws, v1, rfl, q2, q3, q4, q5, q⟩
/-- all slots are read as data for an expression; the heap has only grown -/
theorem HW.lendX (w : HW K F B0 τ T σ Γ H B S) : ∃ Bf, Ho K H Bf [] [] σ (fzE Γ) H ∧ ∀ v' o' Γ1 H1, Ho K H Bf [v'] [o'] σ Γ1 H1 → Ex H H1 ∧ (o'.lf = true → Ho K F B0 (v' :: τ) (o' :: T) σ Γ H1) := by
  obtain ⟨Bf, w0, _, back⟩ := w.lendA
  exact ⟨Bf, w0, fun v' o' Γ1 H1 h => ⟨h.choose_spec.choose_spec.fr, fun l => back v' o' Γ1 H1 h l⟩⟩
theorem Wlk.det {H : Hp} : ∀ {p : List Sel} {v w w' : V}, Wlk K H v p w → Wlk K H v p w' → w' = w
  | [], v, w, w', h, h' => by cases h; cases h'; rfl
  | s :: p, v, w, w', ⟨u, h1, h2⟩, ⟨u', h1', h2'⟩ => by
    have : u' = u := by
      cases s with
      | fld f =>
        obtain ⟨a, C, dx, ws, q1, q2, _, _, q3⟩ := h1
        obtain ⟨a', C', dx', ws', q1', q2', _, _, q3'⟩ := h1'
        subst q1; cases q1'
        rw [q2] at q2'; cases q2'
        rw [q3] at q3'; cases q3'; rfl
      | key k =>
        obtain ⟨a, ws, q1, q2, q3⟩ := h1
        obtain ⟨a', ws', q1', q2', q3'⟩ := h1'
        subst q1; cases q1'
        have : ws = ws' := by
          rcases q2 with q2 | ⟨_, q2⟩ <;> rcases q2' with q2' | ⟨_, q2'⟩ <;> rw [q2] at q2' <;> cases q2' <;> rfl
        subst this
        rw [q3] at q3'; cases q3'; rfl
      | idx n =>
        obtain ⟨a, vs, q1, q2, q3⟩ := h1
        obtain ⟨a', vs', q1', q2', q3'⟩ := h1'
        subst q1; cases q1'
        rw [q2] at q2'; cases q2'
        rw [q3] at q3'; cases q3'; rfl
      | un => cases h1; cases h1'; rfl
    subst this
    exact Wlk.det h2 h2'
/-- te[k] = e, a dict at a place -/
theorem gog_setDP (ev : EvP K te i p) {kvs : List (Key × O)} (e0 : Γ[i]? = some (some o1)) (g : o1.getP p = some (.od kvs)) (ok : okPth K o1 p) (hz : kvs.length < 100000)
    (h : ∀ F' B', Go K F' B' ti [] (fzE Γ) fun ok _ => ∃ k, ok = .d (kD k) ∧ posts1 (Γ.set i (some (o1.setP (.od (dput kvs k o)) p)))) : GoG K F B0 (gSub te ti rSetG) o T Γ posts1 := fun τ σ H v1 Q ⟨B1, S1, w1⟩ k' => by
  obtain ⟨v, u, T1, To, a1, wk, r1, _, _, _, _, _⟩ := w1.mutP e0 g ok
  obtain ⟨Bf, w0, back⟩ := w1.lendX
  refine ev σ H v u _ a1 wk (h H Bf [] σ H _ w0 fun v2 o2 Γ2 H2 ⟨k, eo, h2⟩ how => ?_)
  subst eo
  obtain ⟨ex, hb⟩ := back v2 _ Γ2 H2 how
  obtain ⟨B2, S2, w2⟩ := hb (by cases k <;> rfl)
  obtain ⟨rk, S3, _, w3⟩ := w2.popd
  have ek := rk.kV
  subst ek
  obtain ⟨v', u', S5, So, a2, wk2, r2, ro, dj, _, _, f⟩ := w3.mutP e0 g ok
  rw [a1] at a2
  cases a2
  have eu : u' = u := Wlk.det (wk.ex ex) wk2
  subst eu
  cases r2 with
  | @od _ S4 a ws _ ha hs hn hc nd ek rs =>
  have len : ws.length = kvs.length := by have := congrArg List.length ek; simpa using this
  refine .inr ⟨a, _, rfl, .inl ⟨ws, k, hc, rfl, by rw [len]; exact Nat.lt_of_lt_of_le hz (by decide), rfl⟩, ?_⟩
  obtain ⟨S', w4, _⟩ := f a (.dK (putK ws k v1)) (.od (dput kvs k o)) ha (.od (S' := fun b => S4 b ∨ So b) (.inl ha) (fun b z => z.imp (hs b) id) (fun z => z.elim hn fun z => dj a ha z) upd_same (dput_nodup nd) (by rw [putK_dput]; exact dput_keys ek) (by
    rw [putK_dput]
    exact (rs.dput ro nd ek fun b z => dj b (hs b z)).at fun b u z q => by
      rw [upd_ne (fun e => by subst e; exact z.elim hn fun z => dj b ha z)]; exact q))
  exact k' σ _ _ h2 ⟨B2, S', w4⟩
end
end SK
namespace SK
open PySem PySem.Spec PyProof.Rows L2
section
variable {K : PySem.W.Frag} {F B0 H B : Hp} {τ : List V} {T : List O} {σ : L2.St} {Γ : En} {S : Ad} {v w : V} {o oe o1 : O} {i : Nat} {te ti ty tv : TE} {p : List Sel} {posts1 : En → Prop} {Dd : EG} {post : O → En → Prop} {Ci : Addr}
theorem RF.none {f : Str} : ∀ {ws : List (Str × V)} {fs : List (Str × D)}, RF K B ws fs → fs.lookup f = none → ws.lookup f = none
  | _, _, .nil, _ => rfl
  | _, _, .cons (k := k) r t, h => by
    rw [List.lookup_cons] at h ⊢
    cases e : f == k with
    | true => rw [e] at h; cases h
    | false => rw [e] at h; exact RF.none t h
/-- o.m(..) of an instance that is data -/
theorem go_methP {C : Ct} {m : Str} {dvs : List V} {dxs : List D} {E : XK} {t : TA} (hd : ∀ B, RL K B dvs dxs)
    (h : Go K F B0 te T Γ fun o Γ1 => ∃ fs, o.fz = .ins Ci fs ∧ fs.lookup m = none ∧ GoA K F B0 t (.d (.ins Ci fs) :: T) Γ1 fun xs Γ2 => ∃ p, C (.ins Ci fs :: (xs ++ dxs)) p noX ∧ ∀ o, p o → post o Γ2) :
    Go K F B0 (tMeth Ci m (spP K C) dvs E te t) T Γ post := fun τ σ H Q hw k =>
  h τ σ H _ hw fun v o Γ1 H1 ⟨fs, e, hm, h1⟩ ⟨_, _, w1⟩ => by
    obtain ⟨B1, S1, w1, _⟩ := w1.fz
    rw [e] at w1
    obtain ⟨r1, _, _, _⟩ := w1.popd
    cases r1 with
    | @ins a _ dx ws _ hb rf =>
    refine ⟨a, dx, ws, rfl, w1.pu _ _ hb, rf.none hm, h1 (.ref a :: τ) σ H1 _ ⟨_, _, w1⟩ fun vs xs Γ2 H2 ⟨p, c, h2⟩ ⟨B2, S2, w2⟩ hl => ?_⟩
    obtain ⟨rl, S3, w3⟩ := w2.args hl
    obtain ⟨r2, S4, _, w4⟩ := w3.popd
    refine ⟨B2, .ins Ci fs :: (xs ++ dxs), p, noX, w4.pu, .cons r2 (rl.app (hd B2)), c, fun v o' B' S' H' e ex pu' le nw ow ro => ?_, fun _ _ _ _ _ e => e.elim⟩
    exact k v _ Γ2 H' (h2 _ e) ⟨B', _, w4.push ex le pu' nw ow ro⟩
theorem HW.unsets (h : HW K F B0 τ T σ Γ H B S) (j : Nat) : HW K F B0 τ T σ (Γ.set j none) H B S := by
  by_cases hl : j < σ.length
  · have q := h.unset j (σ[j])
    have e : σ.set j (σ[j]) = σ := by
      apply List.ext_getElem?
      intro n
      by_cases hn : n = j
      · subst hn; rw [List.getElem?_set_self hl]; simp [hl]
      · rw [List.getElem?_set_ne (Ne.symm hn)]
    rw [e] at q; exact q
  · have : Γ.set j none = Γ := by
      rw [List.set_eq_of_length_le]
      rw [← h.len]; omega
    rw [this]; exact h
theorem fzE_set {x : Option O} : ∀ {Γ : En} {i : Nat}, fzE (Γ.set i x) = (fzE Γ).set i (frO x)
  | [], _ => rfl
  | y :: r, 0 => by rw [List.set_cons_zero, fzE_cons, fzE_cons, List.set_cons_zero]
  | y :: r, i + 1 => by rw [List.set_cons_succ, fzE_cons, fzE_cons, List.set_cons_succ, fzE_set]
/-- the value that is in the dict, or the empty list that is put in -/
def lstAt (kvs : List (Key × O)) (k : Key) (ys : List O) : Prop := kval kvs k = some (.ol ys) ∨ (kval kvs k = none ∧ ys = [])
theorem kval_keys {k : Key} : ∀ {ws : List (Key × V)} {kvs : List (Key × O)}, ws.map (·.1) = kvs.map (·.1) → ((kval kvs k).isSome = (valV ws k).isSome)
  | [], [], _ => rfl
  | (g, x) :: ws, (g', y) :: kvs, e => by
    simp only [List.map_cons, List.cons.injEq] at e
    obtain ⟨rfl, e⟩ := e
    by_cases q : g = k
    · subst q; rw [valV_pos rfl]; simp [kval]
    · rw [valV_neg q, ← kval_keys e]; simp [kval, q]
theorem dput_new {κ α : Type} [DecidableEq κ] {k : κ} {x : α} {kvs : List (κ × α)} (h : ∀ p ∈ kvs, p.1 ≠ k) : SK.dput kvs k x = kvs ++ [(k, x)] := by
  unfold SK.dput
  rw [if_neg]
  simp only [List.any_eq_true, decide_eq_true_eq, not_exists, not_and]
  exact fun p hp => h p hp
theorem kval_none {α : Type} {k : Key} : ∀ {kvs : List (Key × α)}, kval kvs k = none → ∀ p ∈ kvs, p.1 ≠ k
  | q :: kvs, h, p, hp => by
    by_cases e : q.1 = k
    · simp [kval, e] at h
    · have h' : kval kvs k = none := by simpa [kval, e] using h
      rcases List.mem_cons.mp hp with rfl | hp
      · exact e
      · exact kval_none h' p hp
theorem kval_snoc {α : Type} {k : Key} {x : α} : ∀ {kvs : List (Key × α)}, (∀ p ∈ kvs, p.1 ≠ k) → kval (kvs ++ [(k, x)]) k = some x
  | [], _ => by simp [kval]
  | q :: kvs, h => by
    have e := h q List.mem_cons_self
    have := kval_snoc (x := x) fun p hp => h p (List.mem_cons_of_mem _ hp)
    simpa [kval, e] using this
theorem dput_put {κ α : Type} [DecidableEq κ] {k : κ} {x y : α} {kvs : List (κ × α)} : SK.dput (SK.dput kvs k x) k y = SK.dput kvs k y := by
  by_cases h : (kvs.any fun kv => decide (kv.1 = k)) = true
  · have h2 : ((SK.dput kvs k x).any fun kv => decide (kv.1 = k)) = true := by
      unfold SK.dput
      rw [if_pos h]
      obtain ⟨p, hp, e⟩ := List.any_eq_true.mp h
      have e : p.1 = k := by simpa using e
      exact List.any_eq_true.mpr ⟨(p.1, x), List.mem_map.mpr ⟨p, hp, by rw [if_pos e]⟩, by simpa using e⟩
    have e1 : SK.dput (SK.dput kvs k x) k y = (SK.dput kvs k x).map fun kv => if kv.1 = k then (kv.1, y) else kv := by
      rw [SK.dput, if_pos h2]
    rw [e1]
    unfold SK.dput
    rw [if_pos h, if_pos h, List.map_map]
    apply List.map_congr_left
    intro p _
    by_cases q : p.1 = k
    · simp [q]
    · simp [q]
  · have hn : ∀ p ∈ kvs, p.1 ≠ k := fun p hp q => h (List.any_eq_true.mpr ⟨p, hp, by simpa using q⟩)
    rw [dput_new hn, dput_new hn]
    have h2 : ((kvs ++ [(k, x)]).any fun kv => decide (kv.1 = k)) = true := by simp
    unfold SK.dput
    rw [if_pos h2, List.map_append, repl_not]
    · simp only [List.map_cons, List.map_nil, if_true]
    · intro hm
      obtain ⟨p, hp, e⟩ := List.mem_map.mp hm
      exact hn p hp e
theorem getP_snoc {s : Sel} : ∀ {p : List Sel} {o u : O}, o.getP p = some u → o.getP (p ++ [s]) = match u.get1 s with | some x => some x | none => none
  | [], o, u, h => by
    cases h
    show (match o.get1 s with | some u => u.getP [] | none => none) = _
    cases o.get1 s <;> rfl
  | q :: p, o, u, h => by
    unfold O.getP at h
    rw [List.cons_append]
    unfold O.getP
    cases e : o.get1 q with
    | none => rw [e] at h; cases h
    | some x => rw [e] at h; exact getP_snoc h
theorem okPth_snoc {s : Sel} : ∀ {p : List Sel} {o u x : O}, o.getP p = some u → okPth K o p → okS K u s → u.get1 s = some x → okPth K o (p ++ [s])
  | [], o, u, x, h, _, h2, h3 => by
    cases h
    show okS K o s ∧ match o.get1 s with | some u => okPth K u [] | none => False
    rw [h3]
    exact ⟨h2, trivial⟩
  | q :: p, o, u, x, h, h1, h2, h3 => by
    unfold O.getP at h
    unfold okPth at h1
    rw [List.cons_append]
    unfold okPth
    cases e : o.get1 q with
    | none => rw [e] at h; cases h
    | some z => rw [e] at h h1; exact ⟨h1.1, okPth_snoc h h1.2 h2 h3⟩
theorem setP_snoc {s : Sel} {y : O} : ∀ {p : List Sel} {o u : O}, o.getP p = some u → (∃ x, u.get1 s = some x) → o.setP y (p ++ [s]) = o.setP (u.set1 y s) p
  | [], o, u, h, ⟨x, hx⟩ => by
    cases h
    show (match o.get1 s with | some u => o.set1 (u.setP y []) s | none => o) = _
    rw [hx]; rfl
  | q :: p, o, u, h, hx => by
    unfold O.getP at h
    rw [List.cons_append]
    unfold O.setP
    cases e : o.get1 q with
    | none => (rw [e] at h; try cases h)
    | some z =>
      rw [e] at h
      show o.set1 (z.setP y (p ++ [s])) q = o.set1 (z.setP (u.set1 y s) p) q
      rw [setP_snoc h hx]
theorem get_set0 {s : Sel} {y x : O} {o : O} (nat : ∀ a u, o ≠ .atA a u) (h : o.get1 s = some x) : (o.set1 y s).get1 s = some y := by
  cases o <;> cases s <;> try first | (cases h; done) | (exact absurd rfl (nat _ _))
  · rename_i xs n
    have h : xs[n]? = some x := h
    show (xs.set n y)[n]? = some y
    rw [List.getElem?_set_self (List.getElem?_eq_some_iff.mp h).1]
  · rename_i kvs k
    have h : kval kvs k = some x := h
    show kval (SK.dput kvs k y) k = some y
    have : ∀ {kvs : List (Key × O)}, kval kvs k = some x → kval (kvs.map fun kv => if kv.1 = k then (kv.1, y) else kv) k = some y := by
      intro kvs
      induction kvs with
      | nil => intro h; cases h
      | cons p r ih =>
        intro h
        by_cases e : p.1 = k
        · simp [kval, e]
        · have h' : kval r k = some x := by simpa [kval, e] using h
          have := ih h'
          simpa [kval, e] using this
    unfold SK.dput
    rw [if_pos]
    · exact this h
    · obtain ⟨i, hi⟩ := kval_mem h
      exact List.any_eq_true.mpr ⟨_, List.mem_of_getElem? hi, by simp⟩
  · rename_i a C fs f
    have h : fs.lookup f = some x := h
    show (SK.fput f y fs).lookup f = some y
    clear nat
    induction fs with
    | nil => cases h
    | cons p r ih =>
      obtain ⟨g, z⟩ := p
      unfold SK.fput
      by_cases e : g = f
      · subst e; simp
      · rw [if_neg e]
        have e2 : (f == g) = false := by simpa using fun q => e q.symm
        rw [List.lookup_cons, e2] at h
        rw [List.lookup_cons, e2]
        exact ih h h
  · rename_i xs n
    have h : xs[n]? = some x := h
    show (xs.set n y)[n]? = some y
    rw [List.getElem?_set_self (List.getElem?_eq_some_iff.mp h).1]
theorem get_set1 {s : Sel} {y x : O} : ∀ {o : O}, o.get1 s = some x → (o.set1 y s).get1 s = some y
  | .atA a o, h => by
    by_cases hs : s = .un
    · subst hs; rfl
    have h' : o.get1 s = some x := by cases s <;> first | exact h | exact absurd rfl hs
    have e := get_set1 (y := y) (o := o) h'
    cases s <;> first | exact e | exact absurd rfl hs
  | .d _, h => get_set0 (fun _ _ z => by cases z) h
  | .ol _, h => get_set0 (fun _ _ z => by cases z) h
  | .od _, h => get_set0 (fun _ _ z => by cases z) h
  | .ot _, h => get_set0 (fun _ _ z => by cases z) h
  | .oi _ _ _, h => get_set0 (fun _ _ z => by cases z) h
  | .op _, h => get_set0 (fun _ _ z => by cases z) h
theorem getP_setP {y : O} : ∀ {p : List Sel} {o u : O}, o.getP p = some u → (o.setP y p).getP p = some y
  | [], o, u, _ => rfl
  | s :: p, o, u, h => by
    unfold O.getP at h
    cases e : o.get1 s with
    | none => rw [e] at h; cases h
    | some z =>
      rw [e] at h
      unfold O.setP
      rw [e]
      show (o.set1 (z.setP y p) s).getP (s :: p) = some y
      unfold O.getP
      rw [get_set1 e]
      exact getP_setP h
theorem set1_set0 {s : Sel} {x y z : O} {o : O} (nat : ∀ a u, o ≠ .atA a u) (h : o.get1 s = some z) : (o.set1 x s).set1 y s = o.set1 y s := by
  cases o <;> cases s <;> try first | (cases h; done) | (exact absurd rfl (nat _ _))
  · rename_i xs n
    show O.ol ((xs.set n x).set n y) = O.ol (xs.set n y)
    rw [List.set_set]
  · show O.od _ = O.od _
    rw [dput_put]
  · rename_i a C fs f
    show O.oi a C _ = O.oi a C _
    congr 1
    clear h nat
    induction fs with
    | nil => simp [SK.fput]
    | cons p r ih =>
      obtain ⟨g, z⟩ := p
      by_cases e : g = f
      · subst e; simp [SK.fput]
      · simp [SK.fput, e, ih]
  · rename_i xs n
    show O.op ((xs.set n x).set n y) = O.op (xs.set n y)
    rw [List.set_set]
theorem set1_set1 {s : Sel} {x y z : O} : ∀ {o : O}, o.get1 s = some z → (o.set1 x s).set1 y s = o.set1 y s
  | .atA a o, h => by
    by_cases hs : s = .un
    · subst hs; rfl
    have h' : o.get1 s = some z := by cases s <;> first | exact h | exact absurd rfl hs
    have e := set1_set1 (x := x) (y := y) (o := o) h'
    cases s <;> first | exact congrArg (O.atA a) e | exact absurd rfl hs
  | .d _, h => set1_set0 (fun _ _ z => by cases z) h
  | .ol _, h => set1_set0 (fun _ _ z => by cases z) h
  | .od _, h => set1_set0 (fun _ _ z => by cases z) h
  | .ot _, h => set1_set0 (fun _ _ z => by cases z) h
  | .oi _ _ _, h => set1_set0 (fun _ _ z => by cases z) h
  | .op _, h => set1_set0 (fun _ _ z => by cases z) h
theorem setP_setP {x y : O} : ∀ {p : List Sel} {o u : O}, o.getP p = some u → (o.setP x p).setP y p = o.setP y p
  | [], o, u, _ => rfl
  | s :: p, o, u, h => by
    unfold O.getP at h
    cases e : o.get1 s with
    | none => rw [e] at h; cases h
    | some z =>
      rw [e] at h
      have e1 : o.setP x (s :: p) = o.set1 (z.setP x p) s := by rw [O.setP, e]
      have e2 : o.setP y (s :: p) = o.set1 (z.setP y p) s := by rw [O.setP, e]
      rw [e1, e2, O.setP, get_set1 e]
      show (o.set1 (z.setP x p) s).set1 ((z.setP x p).setP y p) s = _
      rw [setP_setP h, set1_set1 e]
theorem okS_set0 {s : Sel} {y : O} {o : O} (nat : ∀ a u, o ≠ .atA a u) (h : okS K o s) : okS K (o.set1 y s) s := by
  cases o <;> cases s <;> first | exact h | exact trivial | exact absurd rfl (nat _ _) | exact h.elim
theorem okS_set1 {s : Sel} {y : O} : ∀ {o : O}, okS K o s → okS K (o.set1 y s) s
  | .atA a o, h => by
    by_cases hs : s = .un
    · subst hs; exact trivial
    have h' : okS K o s := by cases s <;> first | exact h | exact absurd rfl hs
    have e := okS_set1 (y := y) (o := o) h'
    cases s <;> first | exact e | exact absurd rfl hs
  | .d _, h => okS_set0 (fun _ _ z => by cases z) h
  | .ol _, h => okS_set0 (fun _ _ z => by cases z) h
  | .od _, h => okS_set0 (fun _ _ z => by cases z) h
  | .ot _, h => okS_set0 (fun _ _ z => by cases z) h
  | .oi _ _ _, h => okS_set0 (fun _ _ z => by cases z) h
  | .op _, h => okS_set0 (fun _ _ z => by cases z) h
theorem okPth_setP {y : O} : ∀ {p : List Sel} {o u : O}, o.getP p = some u → okPth K o p → okPth K (o.setP y p) p
  | [], o, u, _, _ => trivial
  | s :: p, o, u, h, h1 => by
    unfold O.getP at h
    unfold okPth at h1
    cases e : o.get1 s with
    | none => rw [e] at h; cases h
    | some z =>
      rw [e] at h h1
      have e1 : o.setP y (s :: p) = o.set1 (z.setP y p) s := by rw [O.setP, e]
      rw [e1]
      unfold okPth
      rw [get_set1 e]
      exact ⟨okS_set1 h1.1, okPth_setP h h1.2⟩
/-- the cell of a dict at a place -/
theorem HW.cellD (h : HW K F B0 τ T σ Γ H B S) {kvs : List (Key × O)} (e0 : Γ[i]? = some (some o1)) (g : o1.getP p = some (.od kvs)) (ok : okPth K o1 p) :
    ∃ v d ws, σ[i]? = some (some v) ∧ Wlk K H v p (.ref d) ∧ H d = some (.dK ws) ∧ ws.map (·.1) = kvs.map (·.1) := by
  obtain ⟨v, u, T1, a1, wk, r1, _, _⟩ := h.mutP1 e0 g ok
  cases r1 with
  | @od _ S4 a ws _ ha hs hn hc nd ek rs => exact ⟨v, a, ws, a1, wk, hc, ek⟩
/-- te.setdefault(k, []).append(e), a dict of lists at a place -/
theorem gos_setdApp (ev : EvP K te i p) {kvs : List (Key × O)} (e0 : Γ[i]? = some (some o1)) (g : o1.getP p = some (.od kvs)) (ok : okPth K o1 p) (hz : kvs.length < 100000)
    (h : ∀ F' B', Go K F' B' ty [] (fzE Γ) fun okk _ => ∃ k ys, okk = .d (kD k) ∧ lstAt kvs k ys ∧ ys.length < 100000 ∧
      ∀ F' B', Go K F' B' tv [] (fzE (Γ.set i none)) fun oe _ => oe.lf = true ∧ Dd.nx (Γ.set i (some (o1.setP (.od (dput kvs k (.ol (ys ++ [oe])))) p)))) :
    GoS K F B0 (tDrop (tBM K "list" rAppend (tDSetd te ty (tLst tNil)) (tCons tv tNil))) T Γ Dd := fun τ σ H De ⟨B, S, w⟩ s => by
  obtain ⟨v, d, ws, a1, wk, hc, ek⟩ := w.cellD e0 g ok
  obtain ⟨Bf, w0, back⟩ := w.lendX
  refine ev σ H v _ _ a1 wk ⟨d, rfl, .inl ⟨ws, .inl hc⟩, h H Bf [] σ H _ w0 fun v2 o2 Γ2 H2 ⟨k, ys, eo, hy, hyl, h2⟩ how => ⟨by decide, fun q hq => ?_⟩⟩
  subst eo
  obtain ⟨ex, hb⟩ := back v2 _ Γ2 H2 how
  obtain ⟨B2, S2, w2⟩ := hb (by cases k <;> rfl)
  obtain ⟨rk, S3, _, w3⟩ := w2.popd
  have ekk := rk.kV
  subst ekk
  have hc2 := ex _ _ hc
  have ndq : d ≠ q := fun z => by rw [← z, hc2] at hq; cases hq
  have len : ws.length = kvs.length := by have := congrArg List.length ek; simpa using this
  -- what follows: the list's cell is at the place, the element is made, the list grows
  have tail : ∀ (o' : O) (kvs1 : List (Key × O)) (u : Addr) (H4 : Hp), Ho K F B0 τ T σ (Γ.set i (some o')) H4 → o'.getP p = some (.od kvs1) → okPth K o' p → kval kvs1 k = some (.ol ys) → (∀ y, o'.setP (.od (dput kvs1 k y)) p = o1.setP (.od (dput kvs k y)) p) →
      Wlk K H4 v p (.ref d) → (∃ ws1, H4 d = some (.dK ws1) ∧ valV ws1 k = some (.ref u)) →
      (tyV K "list" (.ref u) H4 ∧ tCons tv tNil σ H4 fun xs H5 => rAppend (.ref u) xs H5 fun _ H6 => De.nx σ H6) := by
    intro o' kvs1 u H4 ⟨B4, S4, w4⟩ g' ok' hk' heq wk4 ⟨ws1, hd4, hv4⟩
    have hi : i < Γ.length := by
      have := (List.getElem?_eq_some_iff.mp e0).1
      exact this
    have e4 : (Γ.set i (some o'))[i]? = some (some o') := List.getElem?_set_self hi
    have g5 : o'.getP (p ++ [.key k]) = some (.ol ys) := by rw [getP_snoc g']; show (match kval kvs1 k with | some x => some x | none => none) = _; rw [hk']
    have ok5 : okPth K o' (p ++ [.key k]) := okPth_snoc g' ok' trivial hk'
    have wk5 : Wlk K H4 v (p ++ [.key k]) (.ref u) := wk4.snoc ⟨d, ws1, rfl, .inl hd4, hv4⟩
    obtain ⟨v', u', T1, a2, wk6, r6, _, _⟩ := w4.mutP1 e4 g5 ok5
    rw [a1] at a2
    cases a2
    have eu := Wlk.det wk5 wk6
    subst eu
    cases r6 with
    | @ol _ S6 _ us _ ha6 hs6 hn6 hc6 rs6 =>
    refine ⟨.inl ⟨rfl, us, SqL.of hc6⟩, ?_⟩
    obtain ⟨Bh, ⟨B8, S8, w8⟩, back8⟩ := w4.lendX
    refine h2 H4 Bh [] σ H4 _ ⟨B8, S8, by have := w8.unsets i; rw [fzE_set, List.set_set] at this; rw [fzE_set]; exact this⟩ fun v7 o7 Γ7 H7 ⟨lf, hn⟩ how7 => ?_
    obtain ⟨ex7, hb7⟩ := back8 v7 o7 Γ7 H7 how7
    obtain ⟨B9, S9, w9⟩ := hb7 lf
    obtain ⟨v'', u'', T2, So, a3, wk7, r7, ro, dj, _, _, f7⟩ := w9.mutP e4 g5 ok5
    rw [a1] at a3
    cases a3
    have eu2 := Wlk.det (wk5.ex ex7) wk7
    subst eu2
    cases r7 with
    | @ol _ S10 _ us2 _ ha7 hs7 hn7 hc7 rs7 =>
    have len7 : us2.length = ys.length := by simpa using rs7.len
    refine ⟨u, us2, v7, rfl, rfl, hc7, by rw [len7]; exact Nat.lt_of_lt_of_le hyl (by decide), ?_⟩
    obtain ⟨S', w10, _⟩ := f7 u (.lst (us2 ++ [v7])) (.ol (ys ++ [o7])) ha7 (.ol (S' := fun b => S10 b ∨ So b) (.inl ha7) (fun b z => z.imp (hs7 b) id) (fun z => z.elim hn7 fun z => dj u ha7 z) upd_same (by
      rw [List.map_append, List.map_append]
      exact (rs7.snoc ro fun b z => dj b (hs7 b z)).at fun b x z q => by
        rw [upd_ne (fun e => by subst e; exact z.elim hn7 fun z => dj b ha7 z)]; exact q))
    rw [List.set_set, setP_snoc (s := .key k) g' ⟨_, (show (O.od kvs1).get1 (.key k) = _ from hk')⟩] at w10
    have e11 : o'.setP (O.set1 (.od kvs1) (.ol (ys ++ [o7])) (.key k)) p = o1.setP (.od (dput kvs k (.ol (ys ++ [o7])))) p := heq _
    rw [e11] at w10
    exact s.nx σ _ _ hn ⟨_, _, w10⟩
  have exq : Ex H2 (upd H2 q (.lst [])) := .new hq
  refine ⟨ws, k, by rw [upd_ne ndq]; exact hc2, rfl, by rw [len]; exact Nat.lt_of_lt_of_le hz (by decide), fun u hu => ?_, fun hn0 => ?_⟩
  · -- it is there
    have hy' : kval kvs k = some (.ol ys) := by
      rcases hy with hy | ⟨hy, _⟩
      · exact hy
      · have := kval_keys (k := k) ek
        rw [hy, hu] at this; cases this
    have wq := (w3.push (v := .non) (o := .d .non) (S' := fun _ => False) exq (.refl B2) (fun a x e => exq a x (w3.pu a x e)) (fun _ z => .inl z) (fun _ z => z.elim) (.d .non))
    obtain ⟨_, S4, _, w4⟩ := wq.popd
    obtain ⟨n, u2, k1, k2, k3, k4⟩ : ∃ (n : Nat) (u2 : V), kvs[n]? = some (k, .ol ys) ∧ True ∧ True ∧ True := by
      obtain ⟨n, hn⟩ := kval_mem hy'
      exact ⟨n, .non, hn, trivial, trivial, trivial⟩
    have g5 : o1.getP (p ++ [.key k]) = some (.ol ys) := by rw [getP_snoc g]; show (match kval kvs k with | some x => some x | none => none) = _; rw [hy']
    have ok5 : okPth K o1 (p ++ [.key k]) := okPth_snoc g ok trivial hy'
    obtain ⟨v', u', T1, a2, wk6, r6, _, _⟩ := w4.mutP1 e0 g5 ok5
    rw [a1] at a2
    cases a2
    have wk5 : Wlk K (upd H2 q (.lst [])) v (p ++ [.key k]) u := ((wk.ex ex).ex exq).snoc ⟨d, ws, rfl, .inl (by rw [upd_ne ndq]; exact hc2), hu⟩
    have eu := Wlk.det wk5 wk6
    subst eu
    cases r6 with
    | @ol _ S6 ua us _ ha6 hs6 hn6 hc6 rs6 =>
    have same : Γ.set i (some o1) = Γ := by
      apply List.ext_getElem?
      intro n
      by_cases hn : n = i
      · subst hn; rw [List.getElem?_set_self (List.getElem?_eq_some_iff.mp e0).1, e0]
      · rw [List.getElem?_set_ne (Ne.symm hn)]
    exact tail o1 kvs ua _ ⟨B2, S4, by rw [same]; exact w4⟩ g ok hy' (fun _ => rfl) ((wk.ex ex).ex exq) ⟨ws, by rw [upd_ne ndq]; exact hc2, hu⟩
  · -- it is put in
    have hy' : kval kvs k = none ∧ ys = [] := by
      rcases hy with hy | hy
      · have := kval_keys (k := k) ek
        rw [hy, hn0] at this; cases this
      · exact hy
    obtain ⟨hy1, rfl⟩ := hy'
    obtain ⟨S4, w4⟩ := w3.newl hq (xs := []) (vs := []) .nil
    obtain ⟨v', u', T1, So, a2, wk6, r6, ro, dj, _, _, f6⟩ := w4.mutP e0 g ok
    rw [a1] at a2
    cases a2
    have eu := Wlk.det ((wk.ex ex).ex exq) wk6
    subst eu
    cases r6 with
    | @od _ S6 _ ws2 _ ha hs hn hc6 nd ek2 rs =>
    have ews : ws2 = ws := by
      rw [upd_ne ndq, hc2] at hc6
      cases hc6; rfl
    subst ews
    obtain ⟨S', w5, wk7⟩ := f6 d (.dK (putK ws2 k (.ref q))) (.od (dput kvs k (.ol []))) ha (.od (S' := fun b => S6 b ∨ So b) (.inl ha) (fun b z => z.imp (hs b) id) (fun z => z.elim hn fun z => dj d ha z) upd_same (dput_nodup nd) (by rw [putK_dput]; exact dput_keys ek2) (by
      rw [putK_dput]
      exact (rs.dput ro nd ek2 fun b z => dj b (hs b z)).at fun b x z q => by
        rw [upd_ne (fun e => by subst e; exact z.elim hn fun z => dj b ha z)]; exact q))
    have hn1 := kval_none hy1
    have g' := getP_setP (y := .od (dput kvs k (.ol []))) g
    refine tail _ (dput kvs k (.ol [])) q _ ⟨B2, S', w5⟩ g' (okPth_setP g ok) (by rw [dput_new hn1]; exact kval_snoc hn1) (fun y => ?_) wk7 ⟨_, upd_same, ?_⟩
    · rw [setP_setP g, dput_put]
    · rw [putK_dput, dput_new]
      · have : valV ws2 k = none := hn0
        unfold valV at this ⊢
        rw [List.find?_append]
        have h0 : ws2.find? (fun kv => decide (kv.1 = k)) = none := by
          cases q9 : ws2.find? (fun kv => decide (kv.1 = k)) with
          | none => rfl
          | some x => rw [q9] at this; cases this
        rw [h0]; simp
      · intro p1 hp1
        have : p1.1 ∈ kvs.map (·.1) := by rw [← ek2]; exact List.mem_map_of_mem hp1
        obtain ⟨p2, hp2, e2⟩ := List.mem_map.mp this
        rw [← e2]; exact hn1 p2 hp2
end
end SK
namespace SK
open PySem PySem.Spec PyProof.Rows L2
def CalM (P : Program) (w : World) (K : PySem.W.Frag) (mg : Str → Option Value) (base : Heap) (Ci : Addr) (m : Str) (k : Nat) (ps : List Str) (C : Ct) : Prop :=
  ∃ f fd, FnOk P w K mg base CX0 k f fd ps (spP K C) ∧ Meth K Ci m f ∧ Binds K fd ps []
end SK
namespace SK
open PySem PySem.Spec PyProof.Rows L2
theorem sorted_unique : ∀ {xs ys : List Int}, xs.Perm ys → xs.Pairwise (· ≤ ·) → ys.Pairwise (· ≤ ·) → xs = ys
  | [], ys, p, _, _ => by rw [List.nil_perm] at p; exact p.symm
  | x :: xs, [], p, _, _ => by have := p.length_eq; simp at this
  | x :: xs, y :: ys, p, a, b => by
    obtain ⟨a1, a2⟩ := List.pairwise_cons.mp a
    obtain ⟨b1, b2⟩ := List.pairwise_cons.mp b
    have e : x = y := by
      have h1 : y ∈ x :: xs := p.symm.mem_iff.mp List.mem_cons_self
      have h2 : x ∈ y :: ys := p.mem_iff.mp List.mem_cons_self
      rcases List.mem_cons.mp h1 with h1 | h1
      · exact h1.symm
      · rcases List.mem_cons.mp h2 with h2 | h2
        · exact h2
        · have := a1 y h1
          have := b1 x h2
          omega
    subst e
    rw [sorted_unique ((List.perm_cons x).mp p) a2 b2]
def srt (ns : List Int) : List Int := ns.mergeSort fun a b => decide (a ≤ b)
theorem srt_perm (ns : List Int) : (srt ns).Perm ns := List.mergeSort_perm ns _
theorem srt_le (ns : List Int) : (srt ns).Pairwise (· ≤ ·) := by
  have := List.pairwise_mergeSort (le := fun a b : Int => decide (a ≤ b)) (fun a b c h1 h2 => by simp at *; omega) (fun a b => by simp; omega) ns
  exact this.imp fun h => by simpa using h
theorem srt_eq {ns ys : List Int} (p : ys.Perm ns) (h : ys.Pairwise (· ≤ ·)) : ys = srt ns := sorted_unique (p.trans (srt_perm ns).symm) h (srt_le ns)
theorem srt_mem {ns : List Int} {x : Int} : x ∈ srt ns ↔ x ∈ ns := (srt_perm ns).mem_iff
theorem srt_len (ns : List Int) : (srt ns).length = ns.length := (srt_perm ns).length_eq
section
variable {X : Cx}
/-- sorted(d) of a dict whose keys are ints, any number of them -/
theorem call_sortedDO (hcalm : X.calm = true) : CallR X (.builtin "sorted") (fun xs H Q => ∃ (a : Addr) (kvs : List (Key × V)) (ks : List Int), xs = [.ref a] ∧ Rd H a (.dK kvs) ∧ kvs.map (·.1) = ks.map Sum.inl ∧ ks.length ≤ 100000 ∧
    ∀ (ys : List Int) (p : Addr), ys.Perm ks → ys.Pairwise (· ≤ ·) → H p = none → Q (.ref p) (upd H p (.lst (ys.map V.int)))) := by
  intro pins s σ H xs us Q I r q; obtain ⟨a, kvs, ks, ex, hd, hks, h64, q⟩ := q; subst ex
  obtain ⟨u, eu, rx⟩ := vals1 r; subst eu; cases rx
  obtain ⟨z, lo, vs, rel, dd⟩ := dk_rd I.hok hd; obtain ⟨ep, hat⟩ := dd.dictAt
  have hkeys : vs.map (·.1) = ks.map Sum.inl := rel.keys.symm.trans hks
  have hl : vs.length = ks.length := by
    have e := congrArg List.length hkeys; rw [List.length_map, List.length_map] at e; exact e
  have h16 : vs.length ≤ sizeLine := by rw [hl, sizeLine_eq]; omega
  refine Calls.call_function_entry PyProof.Rows.kind_sorted PyProof.Rows.plain_sorted PyProof.Rows.entry_sorted (PyProof.Rows.args_sorted1 _) ?_; unfold Builtin.«sorted»
  refine wpAny_bind (m := checkCount "sorted" 1 1 _) (wpAny_pure ?_); refine wpAny_bind (PySem.W.kdu_collect (A := X.A.in1) (PySem.W.kdl_dict (knd := mixKind X.prog X.w) (kvs := vs) (ep := ep) lo) (I.ok.hd hcalm) hat h16 fun h' tk acc hk hacc => ?_)
  have hal : acc.toList.length = ks.length := by rw [Array.length_toList, hacc.1, hl]
  have hS : IntsAre acc.toList ks := ints_each hal fun j v e => by
    obtain ⟨k, x, e1, e2⟩ := hacc.2 j v (by rw [← Array.getElem?_toList]; exact e)
    have e3 : (vs.map (·.1))[j]? = some k := by rw [List.getElem?_map, e1]; rfl
    rw [hkeys, List.getElem?_map] at e3
    cases e4 : ks[j]? with
    | none => rw [e4] at e3; cases e3
    | some y =>
      rw [e4] at e3
      have e5 : Sum.inl y = k := Option.some.inj e3
      subst e5
      rcases keyIs_shape (show keyIs (Sum.inl y) v = true from e2) with ⟨i, t, ek, ev⟩ | ⟨z, t, ek, ev⟩
      · cases ek; exact ⟨y, t, rfl, ev⟩
      · cases ek
  have hz : acc.toList.length ≤ sizeLine := by rw [hal, sizeLine_eq]; omega
  have I1 : Inv X pins σ H { s with heap := h', toks := tk } := I.kept hk
  refine wpAny_bind (wpAny_newList ?_ hz)
  have hoL : (h'.push (seqObj "list" acc.toList.toArray 0)).get? h'.objs.size = some (seqObj "list" acc.toList.toArray 0) := Heap.get?_push_size _ rfl
  show wpAny _ _ _ _ _ { s with heap := h'.push (seqObj "list" acc.toList.toArray 0), toks := tk }
  refine wpAny_bind (wpAny_holding (wpAny_call_entry PyProof.Rows.slot_list_sort ⟨_, hoL, rfl⟩ PyProof.Rows.entry_list_sort
    (SrtO.list_sort_ord (s := { s with heap := h'.push (seqObj "list" acc.toList.toArray 0), toks := tk }) SrtO.swo_int hoL hz (fun h2 => SrtO.ints_sortable hS h2) fun out g1 g2 => ⟨.none, rfl, ?_⟩) (PyProof.Rows.args_list_sort _)))
  obtain ⟨k1, k2, k3⟩ := SrtO.ints_out hS g1 g2
  obtain ⟨e', he'⟩ := PyProof.Rows.sortedHeap_at (vs := acc.toList) (out := out.toArray) hoL
  have hlen : ((out.map SrtO.iv).map V.int).length ≤ sizeLine := by rw [List.length_map, k2.length_eq, ← hal]; exact hz
  refine wpAny_pure ⟨_, rfl, .ref h'.objs.size, upd H h'.objs.size (.lst ((out.map SrtO.iv).map V.int)), I1.laid (t' := tk) (fun b u e => ?_) (Nat.le_refl _)
    (show ObjOk X.prog X.w _ _ _ (.lst ((out.map SrtO.iv).map V.int)) from ⟨hlen, out, e', vals_of_ints k1, he'⟩), rfl, q _ _ k2 k3 (I1.hok.fresh (Nat.le_refl _))⟩
  have hb : b < h'.objs.size := Heap.lt_size e
  rw [PyProof.Rows.sortedHeap_old (Nat.ne_of_lt hb) (by rw [size_push']; exact Nat.lt_succ_of_lt hb)]; exact Heap.get?_push_of_some _ e
end
def rSortG (K : PySem.W.Frag) : List V → Hp → VK → Prop := fun vs H Q => rSortedI K vs H Q ∨ ∃ (a : Addr) (kvs : List (Key × V)) (ks : List Int), vs = [.ref a] ∧ Rd H a (.dK kvs) ∧ kvs.map (·.1) = ks.map Sum.inl ∧ ks.length ≤ 100000 ∧ ∀ (ys : List Int) (p : Addr), ys.Perm ks → ys.Pairwise (· ≤ ·) → H p = none → Q (.ref p) (upd H p (.lst (ys.map V.int)))
theorem k_sort {K : PySem.W.Frag} {X : Cx} (h : X.K = K) (hc : X.calm = true) : CallR X (.builtin "sorted") (rSortG K) := by cases h; exact cr_sortedI.or (call_sortedDO hc)
section
variable {K : PySem.W.Frag} {F B0 H B : Hp} {τ : List V} {T : List O} {σ : L2.St} {Γ : En} {S : Ad} {v w : V} {o oe o1 : O} {i : Nat} {te ti ty tv : TE} {p : List Sel} {posts1 : En → Prop} {Dd : EG} {post : O → En → Prop} {x : D}
theorem oa_sortD {kvs : List (Key × D)} {ks : List Int} (q : kvs.map (·.1) = ks.map Sum.inl) (hl : ks.length ≤ 100000) (h : post (.ol (((srt ks).map D.int).map O.d)) Γ) : OpA K F B0 (rSortG K) [.dic kvs] T Γ post := fun τ σ H B S vs Q w rl k => by
  obtain ⟨v1, rfl, r⟩ := rl.one
  cases r with | @dic a ws _ hd _ rk =>
  refine .inr ⟨a, ws, ks, rfl, w.pu.rd hd, by rw [rk.keys, q], hl, fun ys p hp hs hn => ?_⟩
  have e := srt_eq hp hs
  subst e
  obtain ⟨S2, w⟩ := w.newl hn (RL.ofInts (srt ks))
  exact k _ _ _ _ h ⟨_, _, w⟩
/-- code that is never come to -/
theorem gos_never (h : False) : GoS K F B0 tNever T Γ Dd := h.elim
theorem RS.setAt {So : Ad} {n : Nat} {vs : List V} {xs : List O} (r : RS K B H S (vs.map some) (xs.map some)) (hn : n < xs.length) (ro : RO K B H So w oe) (dj : ∀ b, S b → ¬ So b) : RS K B H (fun b => S b ∨ So b) ((vs.set n w).map some) ((xs.set n oe).map some) := by
  obtain ⟨u, U1, U2, c1, c2, c3, c4, ru, f⟩ := r.focus (i := n) (o := xs[n]) (by rw [List.getElem?_map, List.getElem?_eq_getElem hn]; rfl)
  have q := f B H So (some w) (some oe) (.refl B) (fun _ _ _ e => e) (fun b z y => dj b (c3 b y) z) (fun x e => by cases e; exact ⟨w, rfl, ro⟩)
  rw [← List.map_set, ← List.map_set] at q
  exact q.tr (.refl B) (fun b z => z.elim .inr fun z => .inl (c3 b z)) fun _ _ _ e => e
/-- te[n] = e, a list at a place -/
theorem gog_setLP (ev : EvP K te i p) {xs : List O} (e0 : Γ[i]? = some (some o1)) (g : o1.getP p = some (.ol xs)) (ok : okPth K o1 p)
    (h : ∀ F' B', Go K F' B' ti [] (fzE Γ) fun okk _ => ∃ n : Int, okk = .d (.int n) ∧ 0 ≤ n ∧ n < xs.length ∧ posts1 (Γ.set i (some (o1.setP (.ol (xs.set n.toNat o)) p)))) : GoG K F B0 (gSub te ti rSetG) o T Γ posts1 := fun τ σ H v1 Q ⟨B1, S1, w1⟩ k' => by
  obtain ⟨v, u, T1, To, a1, wk, r1, _, _, _, _, _⟩ := w1.mutP e0 g ok
  obtain ⟨Bf, w0, back⟩ := w1.lendX
  refine ev σ H v u _ a1 wk (h H Bf [] σ H _ w0 fun v2 o2 Γ2 H2 ⟨n, eo, n0, n1, h2⟩ how => ?_)
  subst eo
  obtain ⟨ex, hb⟩ := back v2 _ Γ2 H2 how
  obtain ⟨B2, S2, w2⟩ := hb rfl
  obtain ⟨rk, S3, _, w3⟩ := w2.popd
  cases rk
  obtain ⟨v', u', S5, So, a2, wk2, r2, ro, dj, _, _, f⟩ := w3.mutP e0 g ok
  rw [a1] at a2
  cases a2
  have eu : u' = u := Wlk.det (wk.ex ex) wk2
  subst eu
  cases r2 with
  | @ol _ S4 a ws _ ha hs hn hc rs =>
  have len : ws.length = xs.length := by simpa using rs.len
  refine .inl ⟨a, ws, n, n.toNat, rfl, rfl, hc, by unfold ixN; rw [if_pos n0, len, if_pos n1], ?_⟩
  obtain ⟨S', w4, _⟩ := f a (.lst (ws.set n.toNat v1)) (.ol (xs.set n.toNat o)) ha (.ol (S' := fun b => S4 b ∨ So b) (.inl ha) (fun b z => z.imp (hs b) id) (fun z => z.elim hn fun z => dj a ha z) upd_same
    ((rs.setAt (by omega) ro fun b z => dj b (hs b z)).at fun b u z q => by
      rw [upd_ne (fun e => by subst e; exact z.elim hn fun z => dj b ha z)]; exact q))
  exact k' σ _ _ h2 ⟨B2, S', w4⟩
theorem RS.filt {κ : Type} {q : κ → Bool} : ∀ {ws : List (κ × V)} {kvs : List (κ × O)} {S : Ad}, ws.map (·.1) = kvs.map (·.1) → RS K B H S (ws.map fun p => some p.2) (kvs.map fun p => some p.2) →
    RS K B H S ((ws.filter fun p => q p.1).map fun p => some p.2) ((kvs.filter fun p => q p.1).map fun p => some p.2)
  | [], [], _, _, r => r
  | (k, v) :: ws, (k', y) :: kvs, S, e, .cons (S1 := T1) (S2 := T2) s1 s2 d r rs => by
    simp only [List.map_cons, List.cons.injEq] at e
    obtain ⟨rfl, e⟩ := e
    have ih := RS.filt (q := q) e rs
    by_cases h : q k = true
    · rw [List.filter_cons_of_pos (by exact h), List.filter_cons_of_pos (by exact h)]
      exact .cons s1 s2 d r ih
    · rw [List.filter_cons_of_neg (by exact h), List.filter_cons_of_neg (by exact h)]
      exact ih.tr (.refl B) s2 fun _ _ _ e => e
theorem filt_keys {κ α β : Type} {q : κ → Bool} : ∀ {ws : List (κ × α)} {kvs : List (κ × β)}, ws.map (·.1) = kvs.map (·.1) → (ws.filter fun p => q p.1).map (·.1) = (kvs.filter fun p => q p.1).map (·.1)
  | [], [], _ => rfl
  | (k, v) :: ws, (k', y) :: kvs, e => by
    simp only [List.map_cons, List.cons.injEq] at e
    obtain ⟨rfl, e⟩ := e
    have ih := filt_keys (q := q) e
    by_cases h : q k = true
    · rw [List.filter_cons_of_pos (by exact h), List.filter_cons_of_pos (by exact h), List.map_cons, List.map_cons, ih]
    · rw [List.filter_cons_of_neg (by exact h), List.filter_cons_of_neg (by exact h), ih]
/-- te.pop(k), a dict at a place that has it -/
theorem gos_popP (ev : EvP K te i p) {kvs : List (Key × O)} (e0 : Γ[i]? = some (some o1)) (g : o1.getP p = some (.od kvs)) (ok : okPth K o1 p)
    (h : ∀ F' B', Go K F' B' ty [] (fzE Γ) fun okk _ => ∃ k, okk = .d (kD k) ∧ (kval kvs k).isSome = true ∧ Dd.nx (Γ.set i (some (o1.setP (.od (kvs.filter fun kv => decide (kv.1 ≠ k))) p)))) :
    GoS K F B0 (tDrop (tDPop1 te ty)) T Γ Dd := fun τ σ H De ⟨B, S, w⟩ s => by
  obtain ⟨v, d, ws, a1, wk, hc, ek⟩ := w.cellD e0 g ok
  obtain ⟨Bf, w0, back⟩ := w.lendX
  refine ev σ H v _ _ a1 wk ⟨d, rfl, .inl ⟨ws, .inl hc⟩, h H Bf [] σ H _ w0 fun v2 o2 Γ2 H2 ⟨k, eo, hk, h2⟩ how => ?_⟩
  subst eo
  obtain ⟨ex, hb⟩ := back v2 _ Γ2 H2 how
  obtain ⟨B2, S2, w2⟩ := hb (by cases k <;> rfl)
  obtain ⟨rk, S3, _, w3⟩ := w2.popd
  have ekk := rk.kV
  subst ekk
  have hc2 := ex _ _ hc
  rw [kval_keys ek] at hk
  obtain ⟨u, hu⟩ := Option.isSome_iff_exists.mp hk
  obtain ⟨v', u', T1, a2, wk6, r6, _, f6⟩ := w3.mutP1 e0 g ok
  rw [a1] at a2
  cases a2
  have eu := Wlk.det (wk.ex ex) wk6
  subst eu
  cases r6 with
  | @od _ S6 _ ws2 _ ha hs hn hc6 nd ek2 rs =>
  have ews : ws2 = ws := by
    rw [hc2] at hc6
    cases hc6; rfl
  subst ews
  refine ⟨ws2, k, u, hc2, rfl, hu, ?_⟩
  obtain ⟨S', w5, _⟩ := f6 d (.dK (dropK ws2 k)) (.od (kvs.filter fun kv => decide (kv.1 ≠ k))) ha (.od (S' := S6) ha hs hn upd_same (nd.sublist (List.filter_sublist.map _)) (filt_keys (q := fun z => decide (z ≠ k)) ek2) ((RS.filt (q := fun z => decide (z ≠ k)) ek2 rs).at fun b x z q => by
    rw [upd_ne (fun e => by subst e; exact hn z)]; exact q))
  exact s.nx σ _ _ h2 ⟨_, _, w5⟩
end
end SK
namespace SK
open PySem PySem.Spec PyProof.Rows L2
section
variable {K : PySem.W.Frag} {F B0 H B : Hp} {τ : List V} {T : List O} {σ : L2.St} {Γ : En} {S : Ad} {v w : V} {o oe o1 : O} {i : Nat} {te ti ty tv : TE} {posts1 : En → Prop} {Dd : EG} {post : O → En → Prop} {Ci a : Addr} {fl : List Str} {f : Str} {fs : Fs} {kvs : List (Key × O)}
theorem evp_f1 : EvP K (tFld K (tVar i) f) i [.fld f] := evp_fld (p := []) evp_var
theorem getP_f1 (hl : fs.lookup f = some o) : (O.oi a Ci fs).getP [.fld f] = some o := by
  show (match fs.lookup f with | some u => u.getP [] | none => none) = _
  rw [hl]; rfl
theorem okP_f1 (R : Rec K Ci fl) (hl : fs.lookup f = some o) (hf : fl.contains f = true) : okPth K (O.oi a Ci fs) [.fld f] := by
  refine ⟨⟨R.cls, R.no f hf⟩, ?_⟩
  show (match fs.lookup f with | some u => okPth K u [] | none => False)
  rw [hl]; trivial
theorem setP_f1 (hl : fs.lookup f = some o) : (O.oi a Ci fs).setP oe [.fld f] = .oi a Ci (SK.fput f oe fs) := by
  show (match fs.lookup f with | some u => O.set1 (O.oi a Ci fs) (u.setP oe []) (.fld f) | none => _) = _
  rw [hl]; rfl
/-- x.f.setdefault(k, []).append(e) -/
theorem gos_setdAppF (R : Rec K Ci fl) (e0 : Γ[i]? = some (some (.oi a Ci fs))) (hl : fs.lookup f = some (.od kvs)) (hf : fl.contains f = true) (hz : kvs.length < 100000)
    (h : ∀ F' B', Go K F' B' ty [] (fzE Γ) fun okk _ => ∃ k ys, okk = .d (kD k) ∧ lstAt kvs k ys ∧ ys.length < 100000 ∧
      ∀ F' B', Go K F' B' tv [] (fzE (Γ.set i none)) fun oe _ => oe.lf = true ∧ Dd.nx (Γ.set i (some (.oi a Ci (SK.fput f (.od (dput kvs k (.ol (ys ++ [oe])))) fs))))) :
    GoS K F B0 (tDrop (tBM K "list" rAppend (tDSetd (tFld K (tVar i) f) ty (tLst tNil)) (tCons tv tNil))) T Γ Dd := by
  refine gos_setdApp evp_f1 e0 (getP_f1 hl) (okP_f1 R hl hf) hz ?_
  simp only [setP_f1 hl]
  exact h
/-- x.f.pop(k) -/
theorem gos_popF (R : Rec K Ci fl) (e0 : Γ[i]? = some (some (.oi a Ci fs))) (hl : fs.lookup f = some (.od kvs)) (hf : fl.contains f = true)
    (h : ∀ F' B', Go K F' B' ty [] (fzE Γ) fun okk _ => ∃ k, okk = .d (kD k) ∧ (kval kvs k).isSome = true ∧ Dd.nx (Γ.set i (some (.oi a Ci (SK.fput f (.od (kvs.filter fun kv => decide (kv.1 ≠ k))) fs))))) :
    GoS K F B0 (tDrop (tDPop1 (tFld K (tVar i) f) ty)) T Γ Dd := by
  refine gos_popP evp_f1 e0 (getP_f1 hl) (okP_f1 R hl hf) ?_
  simp only [setP_f1 hl]
  exact h
/-- x.f[k] = e -/
theorem gog_setDF (R : Rec K Ci fl) (e0 : Γ[i]? = some (some (.oi a Ci fs))) (hl : fs.lookup f = some (.od kvs)) (hf : fl.contains f = true) (hz : kvs.length < 100000)
    (h : ∀ F' B', Go K F' B' ti [] (fzE Γ) fun okk _ => ∃ k, okk = .d (kD k) ∧ posts1 (Γ.set i (some (.oi a Ci (SK.fput f (.od (dput kvs k o)) fs))))) : GoG K F B0 (gSub (tFld K (tVar i) f) ti rSetG) o T Γ posts1 := by
  refine gog_setDP evp_f1 e0 (getP_f1 hl) (okP_f1 R hl hf) hz ?_
  simp only [setP_f1 hl]
  exact h
/-- xs[n] = e -/
theorem gog_setL {xs : List O} (e0 : Γ[i]? = some (some (.ol xs)))
    (h : ∀ F' B', Go K F' B' ti [] (fzE Γ) fun okk _ => ∃ n : Int, okk = .d (.int n) ∧ 0 ≤ n ∧ n < xs.length ∧ posts1 (Γ.set i (some (.ol (xs.set n.toNat o))))) : GoG K F B0 (gSub (tVar i) ti rSetG) o T Γ posts1 :=
  gog_setLP (p := []) evp_var e0 rfl trivial h
end
end SK
namespace SK
open PySem PySem.Spec PyProof.Rows L2
def rIsBl : R2 := fun x y H Q => ∃ a b, x = .bl a ∧ y = .bl b ∧ Q (.bl (decide (a = b))) H
def rNotBl : R2 := fun x y H Q => ∃ a b, x = .bl a ∧ y = .bl b ∧ Q (.bl (!decide (a = b))) H
section
variable {K : PySem.W.Frag} {F B0 : Hp} {T : List O} {Γ : En} {post : O → En → Prop}
theorem o2_isBl {a b : Bool} (h : post (.d (.bl (decide (a = b)))) Γ) : Op2 K F B0 rIsBl (.bl a) (.bl b) T Γ post := fun τ σ H B S v1 v2 Q w r1 r2 k => by
  cases r1; cases r2
  exact ⟨a, b, rfl, rfl, k _ _ Γ H h ⟨_, _, w.pushd .bl⟩⟩
theorem o2_notBl {a b : Bool} (h : post (.d (.bl (!decide (a = b)))) Γ) : Op2 K F B0 rNotBl (.bl a) (.bl b) T Γ post := fun τ σ H B S v1 v2 Q w r1 r2 k => by
  cases r1; cases r2
  exact ⟨a, b, rfl, rfl, k _ _ Γ H h ⟨_, _, w.pushd .bl⟩⟩
end
end SK
namespace SK
open PySem PySem.Spec PyProof.Rows L2
def tVarM (i : Nat) : TE := tVar i
theorem pe_mv {X : Cx} {e : Expr} {i : Nat} (h : PE X e (tVar i)) : PE X e (tVarM i) := h
section
variable {K : PySem.W.Frag} {F B0 : Hp} {T : List O} {Γ : En} {post : O → En → Prop} {i : Nat} {o : O}
theorem go_varM (e : Γ[i]? = some (some o)) (h : post o (Γ.set i none)) : Go K F B0 (tVarM i) T Γ post := go_move e h
end
theorem lfOLm {α : Type} {e : α → D} (h : ∀ x, (e x).lf = true) : ∀ {xs : List α}, (O.ol ((xs.map e).map O.d)).lf = true
  | [] => rfl
  | x :: xs => by
    have := lfOLm h (xs := xs)
    simp only [O.lf, List.map_cons, lfOL, h x, Bool.true_and] at this ⊢
    exact this
end SK
namespace SK
open PySem PySem.Spec PyProof.Rows L2
theorem gos_sIN {K : PySem.W.Frag} {F B0 : Hp} {T : List O} {Γ : En} {Dd : EG} {tt : TT} {u t2 : TS} (h : GoS K F B0 (tIfS tt tNever u) T Γ { Dd with nx := fun Γ1 => GoS K F B0 t2 T Γ1 Dd }) : GoS K F B0 (tSeq (tIfS tt tNever u) t2) T Γ Dd := gos_seq h
end SK
namespace SK
open PySem PySem.Spec PyProof.Rows L2
/-- dicts whose keys are numbers -/
abbrev IM (β : Type) := List (Int × β)
section
variable {β γ : Type} {f : β → D} {fo : β → O} {l : IM β} {k e : Int} {x : β}
def imK (f : β → D) (l : IM β) : List (Key × D) := l.map fun p => (Sum.inl p.1, f p.2)
def imO (f : β → O) (l : IM β) : List (Key × O) := l.map fun p => (Sum.inl p.1, f p.2)
theorem dval_cons {κ α : Type} [DecidableEq κ] {p : κ × α} {l : List (κ × α)} {k : κ} : dval (p :: l) k = if p.1 = k then some p.2 else dval l k := by
  by_cases h : p.1 = k <;> simp [dval, h]
theorem dval_im : ∀ {l : IM β}, dval (imK f l) (.inl k) = (dval l k).map f
  | [] => rfl
  | p :: l => by
    show dval ((Sum.inl p.1, f p.2) :: imK f l) (.inl k) = _
    rw [dval_cons, dval_cons, dval_im (l := l)]
    by_cases h : p.1 = k
    · simp [h]
    · have q : ¬ (Sum.inl p.1 : Key) = Sum.inl k := fun z => h (Sum.inl.inj z)
      simp [h, q]
theorem dval_imG {g : β → γ} : ∀ {l : IM β}, dval (l.map fun p => ((Sum.inl p.1 : Key), g p.2)) (.inl k) = (dval l k).map g
  | [] => rfl
  | p :: l => by
    rw [List.map_cons, dval_cons, dval_cons, dval_imG (l := l)]
    by_cases h : p.1 = k
    · simp [h]
    · have q : ¬ (Sum.inl p.1 : Key) = Sum.inl k := fun z => h (Sum.inl.inj z)
      simp [h, q]
theorem kval_im : kval (imO fo l) (.inl k) = (dval l k).map fo := dval_imG
theorem imO_put : SK.dput (imO fo l) (.inl k) (fo x) = imO fo (SK.dput l k x) := by
  have e : ((imO fo l).any fun kv => decide (kv.1 = (.inl k : Key))) = l.any fun kv => decide (kv.1 = k) := by
    simp [imO, List.any_map, Function.comp_def]
  unfold SK.dput
  rw [e]
  split
  · simp only [imO, List.map_map]
    apply List.map_congr_left
    intro p _
    by_cases q : p.1 = k
    · simp [q]
    · have : ¬ (Sum.inl p.1 : Key) = Sum.inl k := fun z => q (Sum.inl.inj z)
      simp [q]
  · simp [imO]
theorem dval_put {κ α : Type} [DecidableEq κ] {k e : κ} {x : α} : ∀ {l : List (κ × α)}, dval (SK.dput l k x) e = if e = k then some x else dval l e := by
  have miss : ∀ l : List (κ × α), e ≠ k → dval (l.map fun kv => if kv.1 = k then (kv.1, x) else kv) e = dval l e := by
    intro l ne
    induction l with
    | nil => rfl
    | cons p l ih =>
      rw [List.map_cons, dval_cons, dval_cons, ih]
      by_cases z : p.1 = k
      · have : ¬ p.1 = e := fun w => ne (w.symm.trans z)
        have q : ¬ k = e := fun w => ne w.symm
        simp [z, q]
      · simp [z]
  have hit : ∀ l : List (κ × α), (l.any fun kv => decide (kv.1 = k)) = true → dval (l.map fun kv => if kv.1 = k then (kv.1, x) else kv) k = some x := by
    intro l
    induction l with
    | nil => intro h; simp at h
    | cons p l ih =>
      intro h
      rw [List.map_cons, dval_cons]
      by_cases z : p.1 = k
      · simp [z]
      · have h' : (l.any fun kv => decide (kv.1 = k)) = true := by simpa [z] using h
        rw [ih h']; simp [z]
  intro l
  unfold SK.dput
  by_cases q : (l.any fun kv => decide (kv.1 = k)) = true
  · rw [if_pos q]
    by_cases ne : e = k
    · rw [if_pos ne]; subst ne; exact hit l q
    · rw [if_neg ne]; exact miss l ne
  · rw [if_neg q]
    have h0 : l.find? (fun p => decide (p.1 = k)) = none := by
      rw [List.find?_eq_none]
      intro p hp z
      exact q (List.any_eq_true.mpr ⟨p, hp, z⟩)
    unfold dval
    rw [List.find?_append]
    by_cases ne : e = k
    · subst ne; rw [if_pos rfl, h0]; simp
    · rw [if_neg ne]
      have : ¬ k = e := fun q => ne q.symm
      simp [this]
theorem imO_fz (h : ∀ x, (fo x).fz = f x) : ∀ {l : IM β}, fzK (imO fo l) = imK f l
  | [] => rfl
  | p :: l => by
    show (_, (fo p.2).fz) :: fzK (imO fo l) = (_, _) :: imK f l
    rw [imO_fz h (l := l), h]
theorem imK_keys : (imK f l).map (·.1) = (l.map (·.1)).map Sum.inl := by simp [imK]
theorem imK_len : (imK f l).length = l.length := by simp [imK]
theorem imO_len : (imO fo l).length = l.length := by simp [imO]
theorem imK_od : (imK f l).map (fun p => (p.1, O.d p.2)) = imO (fun x => O.d (f x)) l := by simp [imK, imO]
theorem dval_mem {κ α : Type} [DecidableEq κ] {k : κ} {l : List (κ × α)} : (dval l k).isSome = true ↔ k ∈ l.map (·.1) := by
  unfold dval
  rw [Option.isSome_map, List.find?_isSome]
  simp
end
end SK
namespace SK
open PySem PySem.Spec PyProof.Rows L2
section
variable {K : PySem.W.Frag} {F B0 : Hp} {T : List O} {Γ : En} {post : O → En → Prop} {te tl : TE} {tt : TT} {j1 j2 j3 : Nat}
/-- dict(d), keys numbers -/
theorem oa_dictI {β : Type} {f : β → D} {l : IM β} (h : post (.od (imO (fun x => O.d (f x)) l)) Γ) : OpA K F B0 rDictD [.dic (imK f l)] T Γ post := oa_dictD (by rw [imK_od]; exact h)
end
end SK
namespace SK
open PySem PySem.Spec PyProof.Rows L2
/-- a set that has just been made -/
abbrev nwS (w : World) : Obj := { cls := .type "set", dict := none, data := .set #[] 0 (.fresh 0 0 (!w.params.followText "set-order")) }
section
variable {P : Program} {w : World} {A : Around} {E : Value → Shared → Prop} {s : Shared}
set_option maxRecDepth 100000 in
set_option maxHeartbeats 8000000 in
/-- set(xs), xs a list of ints -/
theorem call_setL {l : Addr} {its : Array Value} (ns : List Int) {Q : Value → Shared → Prop} (hh : A.handled = none) (hl : s.heap.IsList l its) (hit : IntsAre its.toList ns) (hb : ns.length + 1 < scanBound)
    (k : ∀ (h' : Heap) (tk c : Nat), SetR w h' s.heap.objs.size (fun j => decide (j ∈ ns)) c → c ≤ ns.length → (∀ b o, s.heap.get? b = some o → h'.get? b = some o) → Q (.ref s.heap.objs.size) { s with heap := h', toks := tk }) :
    wpAny (model P w) A (call (.type "set") [.ref l]) Q E s := by
  have zs : its.size = ns.length := by have q := IntsAre.length hit; rw [Array.length_toList] at q; exact q
  obtain ⟨c0, tl0, mro0⟩ := F.called_set.mro
  have made0 := F.called_set.made; have sub0 := F.called_set.sub
  refine wpAny_call (codeAny_of_tree ?_)
  show wpAny _ _ (callAny (.type "set") _) _ _ _
  refine wpAny_pure ⟨Code.quiet_builtin _ (by decide +kernel), codeAny_builtin F.entry_type_call ?_⟩; rw [Around.under_plain (weight_type_call_type "set" [.ref l] []) rfl]
  have n1 := F.called_set.notType; have n2 := F.called_set.canCreate; have n3 := F.typeCall_set_1 (.ref l)
  repeat (any_goals (first | assumption | wp_step))
  refine codeAny_mono (code_set_led1 (.ref l) (E := E) (Q₁ := fun ob s1 => ob = .ref s.heap.objs.size ∧ s1 = { s with heap := s.heap.push (nwS w) }) ⟨rfl, rfl⟩) fun r s1 hr => ?_
  cases r with
  | error e => exact hr
  | ok fl =>
    cases fl with
    | ret ob =>
      obtain ⟨rfl, rfl⟩ := hr
      have gS : (s.heap.push (nwS w)).get? s.heap.objs.size = some (nwS w) := Heap.get?_push_size _ rfl
      have tS : Shared.TypeIs { s with heap := s.heap.push (nwS w) } (.ref s.heap.objs.size) "set" := ⟨_, gS, rfl⟩
      have li0 := F.called_set.init.lookup; have bi0 := F.called_set.init.bind (.ref s.heap.objs.size)
      repeat (any_goals (first | assumption | wp_step))
      refine codeAny_mono (codeAny_call_builtin (R := wants (fun r s2 => r = .none ∧ ∃ h' tk c, s2 = { s with heap := h', toks := tk } ∧ SetR w h' s.heap.objs.size (fun j => decide (j ∈ ns)) c ∧ c ≤ ns.length ∧ (∀ b o, s.heap.get? b = some o → h'.get? b = some o)) E) F.called_set.init.plain F.entry_set_init (check_set_init_1 tS ?_)) fun r2 s2 hr2 => ?_
      · obtain ⟨ol, hol, hcl, nl, hdl⟩ := hl
        obtain ⟨oc, od, oda, osl⟩ := ol
        simp only at hcl hdl
        subst hcl hdl
        have gl : (s.heap.push (nwS w)).get? l = some { cls := .type "list", dict := od, data := .seq its nl, slots := osl } := Heap.get?_push_of_some _ hol
        have sl1 := F.sub_list_set; have sl2 := F.sub_list_frozenset
        have ne0 : (Value.type "list" == Value.type "dict") = false := by decide
        have l1 : (s.heap.push (nwS w)).IsList l its := ⟨_, gl, rfl, nl, rfl⟩
        unfold Builtin.«set.__init__» noKeywords Builtin.Frozenset.updateFrom
        generalize hPI : pyIter = PI
        wp_walk
        subst hPI
        refine wpAny_pyIter_list l1 (wpAny_bind (wpAny_runValue ?_))
        have ll : l < s.heap.objs.size := Heap.lt_size hol
        have hh3 : A.in1.in1.in1.handled = none := by simp [hh]
        have sz1 : (s.heap.push (nwS w)).objs.size = s.heap.objs.size + 1 := Heap.size_push ..
        have neI : l ≠ (s.heap.push (nwS w)).objs.size := by rw [sz1]; exact Nat.ne_of_lt (Nat.lt_succ_of_lt ll)
        have nfp : s.heap.objs.size ∉ [(s.heap.push (nwS w)).objs.size, l] := by
          rw [sz1]; simp only [List.mem_cons, List.not_mem_nil, or_false, not_or]; exact ⟨Nat.ne_of_lt (Nat.lt_succ_self _), Nat.ne_of_gt ll⟩
        have val : ∀ (i : Nat) (v : Value), its[i]? = some v → ∃ k t, ns[i]? = some k ∧ v = .int k t := fun i v hv => by
          have hi : i < ns.length := by rw [← zs]; exact (Array.getElem?_eq_some_iff.mp hv).1
          obtain ⟨t, e⟩ := IntsAre.int_at hit i v (by rw [Array.getElem?_toList]; exact hv)
          exact ⟨ns[i], t, List.getElem?_eq_getElem hi, by rw [e, List.getD_eq_getElem?_getD, List.getElem?_eq_getElem hi]; rfl⟩
        refine set_update_ints ((Walks.list hh3 _ l neI its).toS) s.heap.objs.size nfp ns zs hb val (its.size - 0) 0 _ (by omega) (Nat.zero_le _) ⟨⟨_, Heap.get?_push_size _ rfl, rfl, rfl⟩, (l1.push _)⟩ ?h0 ?hR
        case h0 =>
          have g2 : ((s.heap.push (nwS w)).push { cls := .type "list_iterator", data := .fields #[.ref l, .int 0 0] }).get? s.heap.objs.size = some (nwS w) := Heap.get?_push_of_some _ gS
          exact ⟨0, Nat.le_refl 0, setR_new_at g2⟩
        case hR =>
          intro s' c' hm hc' hS'
          obtain ⟨h', g2, d', tk', os'⟩ := s'
          obtain rfl : g2 = s.gens := hm.gens
          obtain rfl : d' = s.drawn := hm.drawn
          obtain rfl : os' = s.os := hm.os
          show wpAny _ _ _ _ _ _
          refine wpAny_pure ?_
          show wpAny _ _ (ret Value.none) _ _ _
          rw [zs] at hc'
          refine wpAny_pure ⟨rfl, h', tk', c', rfl, hS', hc', fun b o e => ?_⟩
          have b0 : b < s.heap.objs.size := Heap.lt_size e
          have b1 : b ≠ s.heap.objs.size := Nat.ne_of_lt b0
          have b2 : b ≠ (s.heap.push (nwS w)).objs.size := by rw [sz1]; exact Nat.ne_of_lt (Nat.lt_succ_of_lt b0)
          exact hm.heap b o (by simp only [List.mem_cons, List.not_mem_nil, or_false, not_or]; exact ⟨b1, b2⟩) (Heap.get?_push_of_some _ (Heap.get?_push_of_some _ e))
      · cases r2 with
        | error e => exact hr2
        | ok fl2 =>
          cases fl2 with
          | ret r =>
            obtain ⟨rfl, h', tk, c', rfl, hS', hc', hk'⟩ := hr2
            repeat (any_goals (first | assumption | wp_step))
            exact k _ _ _ hS' hc' hk'
          | _ => exact hr2.elim
    | _ => exact hr.elim
end
section
variable {P : Program} {w : World} {A : Around} {E : Value → Shared → Prop} {s : Shared} {a : Addr}
/-- sorted(a set of ints), any number of them -/
theorem sorted_setO {S : Int → Bool} {n : Nat} {Q : Value → Shared → Prop} (R : SetR w s.heap a S n) (hh : A.handled = none)
    (hQ : ∀ s' p (out : Array Value) (c : Nat) (ns : List Int), (∀ b o, s.heap.get? b = some o → s'.heap.get? b = some o) → s'.gens = s.gens → s'.os = s.os → s.heap.objs.size ≤ p →
      s'.heap.get? p = some (seqObj "list" out c) → IntsAre out.toList ns → ns.Pairwise (· < ·) → (∀ k, k ∈ ns ↔ S k = true) → ns.length = n → Q (.ref p) s') : wpAny (model P w) A (call (.builtin "sorted") [.ref a]) Q E s := by
  obtain ⟨o, es, ep, t, ho, hex, hd, g, nd, hm, hb, hf, hn, hr, hl⟩ := R; refine Calls.call_function_entry kind_sorted plain_sorted entry_sorted (args_sorted1 _) ?_
  unfold Builtin.«sorted»; refine wpAny_bind (m := checkCount "sorted" 1 1 _) (wpAny_pure ?_)
  refine wpAny_bind (collect_set (A := A.in1) hh ⟨o, ho, hex.1, hd⟩ hf hb hr hl fun s1 vs k1 hz g1 o1 pm => ?_); have hvl : vs.length = n := by rw [pm.length_eq, List.length_map, Array.length_toList]; exact hn
  have hI : IntsAre vs (vs.map Builtin.Re.reRawOf) := ints_of vs fun v hv => by
    obtain ⟨e, he, q⟩ := List.mem_map.mp (pm.mem_iff.mp hv); obtain ⟨k, tk, h1, _⟩ := g e he; exact ⟨k, tk, by rw [← q]; exact h1⟩
  have pk : (vs.map Builtin.Re.reRawOf).Perm (es.toList.map keyOf) := by
    have q := pm.map Builtin.Re.reRawOf; rw [List.map_map] at q; exact q
  have hz2 : vs.length ≤ sizeLine := by rw [hvl, ← hn, sizeLine_eq]; unfold scanBound at hb; omega
  refine wpAny_bind (wpAny_newList ?_ hz2); have hoL : (s1.heap.push (seqObj "list" vs.toArray 0)).get? s1.heap.objs.size = some (seqObj "list" vs.toArray 0) := Heap.get?_push_size _ rfl
  refine wpAny_bind (wpAny_holding (wpAny_call_entry slot_list_sort ⟨_, hoL, rfl⟩ entry_list_sort (SrtO.list_sort_ord SrtO.swo_int hoL hz2 (fun h2 => SrtO.ints_sortable hI h2) fun out b1 b2 => ⟨.none, rfl, ?_⟩) (args_list_sort _)))
  obtain ⟨a1, a2, a3⟩ := SrtO.ints_out hI b1 b2
  obtain ⟨c, hc⟩ := sortedHeap_at (vs := vs) (out := out.toArray) hoL; have pn : (out.map SrtO.iv).Perm (es.toList.map keyOf) := a2.trans pk
  refine wpAny_pure ⟨_, rfl, hQ _ s1.heap.objs.size out.toArray c (out.map SrtO.iv) (fun b u e => ?_) g1 o1 hz hc a1 (lt_of_le_nodup _ a3 (pn.nodup_iff.mpr nd)) (fun k => by rw [pn.mem_iff, ← hm k]) ?_⟩
  · have q := k1 b u e; have hlt := Heap.lt_size q; show (sortedHeap (s1.heap.push (seqObj "list" vs.toArray 0)) s1.heap.objs.size vs out.toArray).get? b = some u
    rw [sortedHeap_old (Nat.ne_of_lt hlt) (by rw [size_push']; exact Nat.lt_succ_of_lt hlt)]; exact Heap.get?_push_of_some _ q
  · rw [pn.length_eq, List.length_map, Array.length_toList]; exact hn
end
/-- sorted(set(e)), e a list of ints -/
def tSortSet (K : PySem.W.Frag) (te : TE) : TE := fun σ H Q => te σ H fun v H1 => ∃ (a : Addr) (ns : List Int), v = .ref a ∧ SqL K H1 a (ns.map V.int) ∧ ns.length ≤ 4000 ∧
  ∀ (ms : List Int) (q : Addr), ms.Pairwise (· < ·) → (∀ k, k ∈ ms ↔ k ∈ ns) → H1 q = none → Q (.ref q) (upd H1 q (.lst (ms.map V.int)))
theorem pe_sortSet {X : Cx} {K : PySem.W.Frag} {e : Expr} {te : TE} {p p2 pos pos2 : Pos} (hK : X.K = K) (hc : X.calm = true) (hg : Gl X "sorted") (hm : X.mg "sorted" = none) (hg2 : Gl X "set") (hm2 : X.mg "set" = none) (he : PE X e te)
    (hs : starEach [e] X.env = (false, eval e X.env) :: starEach [] X.env := by rfl)
    (hs2 : starEach [.Call (.Name "set" p2) [e] [] pos2] X.env = (false, eval (.Call (.Name "set" p2) [e] [] pos2) X.env) :: starEach [] X.env := by rfl) :
    PE X (.Call (.Name "sorted" p) [.Call (.Name "set" p2) [e] [] pos2] [] pos) (tSortSet K te) := by
  subst hK
  refine ⟨fun pins s σ H Q I h => ?_⟩
  refine Call_ (ld_blt I hg hm PyProof.Rows.boot_sorted ?_)
  refine PyProof.Rows.callWith_builtin1 (PyProof.Rows.args_cons (Call_ (ld_blt I hg2 hm2 PyProof.Rows.boot_set ?_)) hs2) hs2 rfl
  refine PyProof.Rows.callWith_type1 (PyProof.Rows.args_cons (thn (he.run pins s σ H _ I h) fun u s1 ⟨v, H1, I1, r1, q1⟩ => PyProof.Rows.args_nil ?_) hs) hs rfl
  obtain ⟨a, ns, rfl, hq, h64, q⟩ := q1
  cases r1
  obtain ⟨its, rv, pl, hz⟩ := I1.list hq
  refine call_setL (A := _) ns (I1.ok.hd hc) pl.isList (by simpa using rv.ints) (by unfold scanBound; omega) fun h' tk c hS hcn hk => PyProof.Rows.args_nil ?_
  have I2 : Inv X pins σ H1 { s1 with heap := h', toks := tk } := I1.kept fun b o z => hk b o z
  refine sorted_setO hS (I2.ok.hd hc) fun s' p out c' ms kp g o hp hgt hi hs' hmem hlen => ?_
  have hlen2 : (ms.map V.int).length ≤ sizeLine := by rw [List.length_map, hlen, sizeLine_eq]; omega
  have hp1 : s1.heap.objs.size ≤ p := Nat.le_trans (Nat.le_of_lt hS.lt) hp
  have hn : H1 p = none := I1.hok.fresh hp1
  have kq : ∀ b u, s1.heap.get? b = some u → s'.heap.get? b = some u := fun b u z => kp b u (hk b u z)
  have J : Inv X pins σ (upd H1 p (.lst (ms.map V.int))) { s1 with heap := s'.heap, gens := s'.gens, drawn := s'.drawn, toks := s'.toks } :=
    I1.call (ch := []) (Un.laid kq hp1 hn) (I1.hok.laid kq hp1 ⟨hlen2, out.toList, c', vals_of_ints hi, hgt⟩) (by rw [g]; exact I1.bare) (fun _ z => nomatch z)
  have es : s' = { s1 with heap := s'.heap, gens := s'.gens, drawn := s'.drawn, toks := s'.toks } := by
    cases s'; cases s1; cases o; rfl
  rw [es]
  exact ⟨.ref p, _, J, rfl, q ms p hs' (fun k => by rw [hmem]; simp) hn⟩
section
variable {K : PySem.W.Frag} {F B0 : Hp} {T : List O} {Γ : En} {post : O → En → Prop} {te : TE}
theorem go_sortSet (h : Go K F B0 te T Γ fun o Γ1 => ∃ ns : List Int, o.fz.seq? = some (ns.map D.int) ∧ ns.length ≤ 4000 ∧ ∀ ms : List Int, ms.Pairwise (· < ·) → (∀ k, k ∈ ms ↔ k ∈ ns) → post (.ol ((ms.map D.int).map O.d)) Γ1) :
    Go K F B0 (tSortSet K te) T Γ post := fun τ σ H Q hw k =>
  h τ σ H _ hw fun v o Γ1 H1 ⟨ns, q1, q2, q3⟩ ⟨_, _, w1⟩ => by
    obtain ⟨_, _, w2, ex⟩ := w1.fz
    obtain ⟨r, _, _, w3⟩ := w2.popd
    generalize o.fz = y at r q1
    obtain ⟨a, us, rfl, sq, rl⟩ := r.seqL q1
    have eu := RL.ints rl
    subst eu
    refine ⟨a, ns, rfl, w3.pu.sqL sq, q2, fun ms q hp hm hn => ?_⟩
    obtain ⟨S2, w4⟩ := w3.newl hn (RL.ofInts ms)
    exact k _ _ _ _ (q3 ms hp hm) ⟨_, _, w4⟩
/-- lists that rise and have the same members are the same -/
theorem rise_same : ∀ {xs ys : List Int}, xs.Pairwise (· < ·) → ys.Pairwise (· < ·) → (∀ k, k ∈ xs ↔ k ∈ ys) → xs = ys
  | [], [], _, _, _ => rfl
  | [], y :: ys, _, _, h => absurd ((h y).mpr (by simp)) (by simp)
  | x :: xs, [], _, _, h => absurd ((h x).mp (by simp)) (by simp)
  | x :: xs, y :: ys, hx, hy, h => by
    rw [List.pairwise_cons] at hx hy
    have e : x = y := by
      rcases List.mem_cons.mp ((h x).mp (by simp)) with e | e
      · exact e
      · rcases List.mem_cons.mp ((h y).mpr (by simp)) with e2 | e2
        · exact e2.symm
        · have a := hy.1 x e; have b := hx.1 y e2; omega
    subst e
    congr 1
    refine rise_same hx.2 hy.2 fun k => ⟨fun hk => ?_, fun hk => ?_⟩
    · rcases List.mem_cons.mp ((h k).mp (by simp [hk])) with e | e
      · have := hx.1 k hk; omega
      · exact e
    · rcases List.mem_cons.mp ((h k).mpr (by simp [hk])) with e | e
      · have := hy.1 k hk; omega
      · exact e
end
end SK
namespace SK
open PySem PySem.Spec PyProof.Rows L2
end SK
namespace SK
open PySem PySem.Spec PyProof.Rows L2
section
variable {K : PySem.W.Frag} {F B0 H B : Hp} {T : List O} {Γ : En} {post : O → En → Prop}
/-- sorted(d) of a dict of ours -/
theorem oa_sortI {β : Type} {f : β → D} {l : IM β} (hl : l.length ≤ 100000) (h : post (.ol (((srt (l.map (·.1))).map D.int).map O.d)) Γ) : OpA K F B0 (rSortG K) [.dic (imK f l)] T Γ post := oa_sortD imK_keys (by simpa using hl) h
end
def gLst (K : PySem.W.Frag) (n : Nat) (t : TGs) : TG := fun v σ H Q => ∃ a xs, v = .ref a ∧ SqL K H a xs ∧ xs.length = n ∧ t xs σ H Q
section
variable {K : PySem.W.Frag} {F B0 H B : Hp} {τ : List V} {T : List O} {σ : L2.St} {Γ : En} {S : Ad} {o : O} {a : Addr} {i : Nat} {posts1 : En → Prop}
def GoGsO (K : PySem.W.Frag) (F B0 : Hp) (g : TGs) (os : List O) (T : List O) (Γ : En) (post : En → Prop) : Prop := ∀ (τ : List V) (σ : L2.St) (H : Hp) (vs : List V) (Q : L2.St → Hp → Prop), Ho K F B0 (vs ++ τ) (os ++ T) σ Γ H → vs.length = os.length →
  (∀ σ' Γ' H', post Γ' → Ho K F B0 τ T σ' Γ' H' → Q σ' H') → g vs σ H Q
/-- a list's parts, each by itself -/
theorem HW.spill {os : List O} {v : V} (h : HW K F B0 (v :: τ) (.ol os :: T) σ Γ H B S) : ∃ a vs S', v = .ref a ∧ H a = some (.lst vs) ∧ vs.length = os.length ∧ HW K F B0 (vs ++ τ) (os ++ T) σ Γ H B S' := by
  obtain ⟨S1, S2, c1, c2, c3, ro, w2⟩ := h.pop
  cases ro with
  | @ol _ S3 a vs _ ha hs hn hc rs =>
  have hl : vs.length = os.length := by have := RS.len rs; simpa using this
  refine ⟨a, vs, fun b => S3 b ∨ S2 b, rfl, hc, hl, w2.fr, w2.pu, w2.b0, fun b z => z.elim (fun z => h.ow b (c1 b (hs b z))) (fun z => h.ow b (c2 b z)), w2.nw, ?_, by simp [w2.lt, hl]⟩
  rw [List.map_append, List.map_append, List.append_assoc, List.append_assoc]
  exact RS.join w2.rs (fun b z => c3 b (hs b z)) rs
theorem gog_lunO {g : TGs} {n : Nat} (h : ∃ os, o = .ol os ∧ os.length = n ∧ GoGsO K F B0 g os T Γ posts1) : GoG K F B0 (gLst K n g) o T Γ posts1 := fun τ σ H v Q ⟨B, S, w⟩ k => by
  obtain ⟨os, rfl, hn, h⟩ := h
  obtain ⟨a, vs, S', rfl, hc, hl, w2⟩ := w.spill
  exact ⟨a, vs, rfl, SqL.of hc, by rw [hl, hn], h τ σ H vs Q ⟨_, _, w2⟩ hl k⟩
theorem gogso_nil (h : posts1 Γ) : GoGsO K F B0 gNil [] T Γ posts1 := fun τ σ H vs Q w hl k => by
  obtain rfl : vs = [] := List.length_eq_zero_iff.mp hl
  exact ⟨rfl, k σ Γ H h w⟩
theorem gogso_name {os : List O} {g : TGs} (hi : i < Γ.length) (h : GoGsO K F B0 g os T (Γ.set i (some o)) posts1) : GoGsO K F B0 (gCons (gName i) g) (o :: os) T Γ posts1 := fun τ σ H vs Q ⟨B, S, w⟩ hl k => by
  match vs, hl with
  | v :: vs, hl =>
    obtain ⟨S', w2⟩ := w.put hi
    exact ⟨v, vs, rfl, h τ _ H vs Q ⟨_, _, w2⟩ (by simpa using hl) k⟩
end
end SK
namespace SK
open PySem PySem.Spec PyProof.Rows L2
section
variable {K : PySem.W.Frag} {F B0 H B : Hp} {τ : List V} {T : List O} {σ : L2.St} {Γ : En} {S : Ad} {o : O} {i : Nat} {post : O → En → Prop} {td ty te : TE}
/-- d.get(k) -/
theorem go_dget1 (h : Go K F B0 td T Γ fun o Γ1 => ∃ kvs, o.fz = .dic kvs ∧ Go K F B0 ty (.d (.dic kvs) :: T) Γ1 fun ok Γ2 => ∃ k, ok = .d (kD k) ∧ post (.d ((dval kvs k).getD .non)) Γ2) :
    Go K F B0 (tDGet1 td ty) T Γ post := fun τ σ H Q hw kk =>
  h τ σ H _ hw fun v1 o1 Γ1 H1 ⟨kvs, e1, h1⟩ ⟨_, _, w1⟩ => by
    obtain ⟨B2, S2, w1, _⟩ := w1.fz
    rw [e1] at w1
    obtain ⟨r1, _⟩ := w1.popd
    cases r1 with | @dic a ws _ hd _ rk =>
    refine ⟨a, rfl, .inl ⟨ws, w1.pu.rd hd⟩, h1 _ σ H1 _ ⟨_, _, w1⟩ fun v2 o2 Γ2 H2 ⟨k, e2, h2⟩ ⟨_, _, w2⟩ => ?_⟩
    subst e2
    obtain ⟨r2, _, _, w4⟩ := w2.popd
    obtain ⟨r1, _, _, w5⟩ := w4.popd
    have ek := r2.kV
    subst ek
    cases r1 with | @dic _ ws2 _ hd2 _ rk2 =>
    refine ⟨valV ws2 k, .inl ⟨ws2, k, w5.pu.rd hd2, rfl, rfl⟩, ?_⟩
    rcases rk2.val (k := k) with ⟨u, z, q1, q2, r⟩ | ⟨q1, q2⟩
    · rw [q1]; rw [q2] at h2; exact kk _ _ _ _ h2 ⟨_, _, w5.pushd r⟩
    · rw [q1]; rw [q2] at h2; exact kk _ _ _ _ h2 ⟨_, _, w5.pushd .non⟩
end
end SK
namespace SK
open PySem PySem.Spec PyProof.Rows L2
/-- __init__ of two fields -/
def spX2 (K : PySem.W.Frag) (C : Addr) (f1 f2 : Str) : Sp := fun vs H Q _ => ∃ a y1 y2, vs = [.ref a, y1, y2] ∧ H a = some (exo a C none) ∧
  ∀ dx H', H dx = none → dx ≠ a → H' a = some (exo a C (some dx)) → H' dx = some (exd dx [(f2, y2), (f1, y1)]) → (∀ b, b ≠ a → b ≠ dx → H' b = H b) → Q .non H'
def tRaiseF (W : WX) (C : Addr) (sp : Sp) (ta : TA) : TS := fun _ σ H => tMkO C sp [] ta σ H fun cls d H' => W cls d σ H'
section
variable {K : PySem.W.Frag} {F B0 H B H' : Hp} {τ : List V} {T : List O} {σ : L2.St} {Γ : En} {S : Ad} {Dd : EG} {ta : TA} {te : TE} {post : O → En → Prop}
theorem HW.grow (w : HW K F B0 τ T σ Γ H B S) (e : Ex H H') : HW K F B0 τ T σ Γ H' B S :=
  ⟨w.fr.trans e, w.pu.trans e, w.b0, fun a z => ⟨(w.ow a z).1, (w.ow a z).2.1, fun q => (w.ow a z).2.2 (e.back q)⟩, w.nw, w.rs.tr (.refl B) (fun _ z => z) fun a u _ q => e a u q, w.lt⟩
/-- raise C(x1, x2) -/
theorem gos_raiseF {W : WX} {XX : Addr → Option (List (Str × D)) → En → Prop} {C : Addr} {f1 f2 : Str} (wx : ∀ Cc fs d σ Γ H, XX Cc fs Γ → HoX K F B0 σ Γ H d fs → W (.ref Cc) d σ H)
    (h : GoA K F B0 ta T Γ fun xs Γ1 => ∃ x1 x2, xs = [x1, x2] ∧ XX C (some [(f2, x2), (f1, x1)]) Γ1) : GoS K F B0 (tRaiseF W C (spX2 K C f1 f2) ta) T Γ Dd := fun τ σ H De hw s =>
  h τ σ H _ hw fun vs xs Γ1 H1 ⟨x1, x2, exs, hX⟩ ⟨B1, S1, w1⟩ hl => by
    subst exs
    obtain ⟨rl, S2, w⟩ := w1.args hl
    obtain ⟨v1, v2, rfl, r1, r2⟩ := rl.two
    refine ⟨Nat.le_of_ble_eq_true rfl, fun a ha => ⟨a, v1, v2, rfl, upd_same, fun dx H' hd ne e1 e2 e3 => ⟨rfl, dx, _, e1, e2, ?_, ?_⟩⟩⟩
    · rw [upd_ne ne] at hd; exact hd
    · rw [upd_ne ne] at hd
      have eH : upd (del H' a) dx (.xd [(f2, v2), (f1, v1)]) = upd H1 dx (.xd [(f2, v2), (f1, v1)]) := by
        funext b
        by_cases q1 : b = dx
        · subst q1; rw [upd_same, upd_same]
        · rw [upd_ne q1, upd_ne q1]
          by_cases q2 : b = a
          · subst q2; rw [del_same, ha]
          · rw [del_ne q2, e3 b q2 q1, upd_ne q2]
      rw [eH]
      exact wx C _ (some dx) σ Γ1 _ hX ⟨B1, _, (w.grow (Ex.new hd)).bareB, _, upd_same, .cons r2 (.cons r1 .nil)⟩
end
end SK
namespace SK
open PySem PySem.Spec PyProof.Rows L2
end SK
namespace SK
open PySem PySem.Spec PyProof.Rows L2
def tDUpd (td te : TE) : TE := fun σ H Q => td σ H fun x H1 => ∃ a, x = .ref a ∧ IsD H1 a ∧ te σ H1 fun y H2 => ∃ b kvs more, H2 a = some (.dK kvs) ∧ y = .ref b ∧ a ≠ b ∧ Rd H2 b (.dK more) ∧ kvs.length + more.length ≤ 100000 ∧ Q .non (upd H2 a (.dK (mergeK kvs more)))
section
variable {K : PySem.W.Frag} {F B0 H B : Hp} {τ : List V} {T : List O} {σ : L2.St} {Γ : En} {S : Ad} {i : Nat} {te : TE} {Dd : EG}
theorem RS.merge : ∀ {us : List (Key × V)} {more : List (Key × D)} {ws : List (Key × V)} {kvs : List (Key × O)}, RK K B us more → (kvs.map (·.1)).Nodup → ws.map (·.1) = kvs.map (·.1) → RS K B H S (ws.map fun p => some p.2) (kvs.map fun p => some p.2) →
    ((more.foldl (fun acc p => SK.dput acc p.1 (O.d p.2)) kvs).map (·.1)).Nodup ∧ (mergeK ws us).map (·.1) = (more.foldl (fun acc p => SK.dput acc p.1 (O.d p.2)) kvs).map (·.1) ∧ RS K B H S ((mergeK ws us).map fun p => some p.2) ((more.foldl (fun acc p => SK.dput acc p.1 (O.d p.2)) kvs).map fun p => some p.2)
  | [], _, ws, kvs, .nil, nd, e, rs => ⟨nd, e, rs⟩
  | (k, u) :: us, _, ws, kvs, .cons (x := x) (xs := xs) r t, nd, e, rs => by
    have r1 := RS.dput (k := k) (So := fun _ => False) (RO.d r : RO K B H (fun _ => False) u (.d x)) nd e rs (fun _ _ z => z)
    have r2 : RS K B H S ((SK.dput ws k u).map fun p => some p.2) ((SK.dput kvs k (O.d x)).map fun p => some p.2) := r1.tr (.refl B) (fun _ z => z.elim id False.elim) fun _ _ _ e => e
    have q := RS.merge t (SK.dput_nodup (k := k) (v := O.d x) nd) (SK.dput_keys (k := k) (v := u) (x := O.d x) e) r2
    rw [List.foldl_cons]
    have em : mergeK ws ((k, u) :: us) = mergeK (SK.dput ws k u) us := by
      show List.foldl _ (putK ws k u) us = _
      rw [putK_dput]; rfl
    rw [em]
    exact q
theorem gos_dupd (h : Go K F B0 te T Γ fun o Γ1 => ∃ more kvs, o.fz = .dic more ∧ Γ1[i]? = some (some (.od kvs)) ∧ kvs.length + more.length ≤ 100000 ∧ Dd.nx (Γ1.set i (some (.od (more.foldl (fun acc p => SK.dput acc p.1 (O.d p.2)) kvs))))) (h0 : ∃ kvs, Γ[i]? = some (some (.od kvs))) :
    GoS K F B0 (tDrop (tDUpd (tVar i) te)) T Γ Dd := fun τ σ H De hw s => by
  obtain ⟨B, S, w⟩ := hw
  obtain ⟨kvs0, e0⟩ := h0
  obtain ⟨v, S1, a1, r1, _, _⟩ := w.mut1 e0
  cases r1 with
  | @od _ _ a vs _ _ _ _ hc _ _ _ =>
  refine ⟨.ref a, a1, a, rfl, .inl ⟨_, .inl hc⟩, h τ σ H _ ⟨B, S, w⟩ fun v2 o2 Γ2 H2 ⟨more, kvs, ez, e2, hz, h2⟩ ⟨B2, S2, w2⟩ => ?_⟩
  obtain ⟨B3, S3, w3, r3, _⟩ := w2.fzd
  rw [ez] at r3
  cases r3 with
  | @dic b us _ hb nd2 rk =>
  obtain ⟨v', S5, a2, r2, _, f⟩ := w3.mut1 e2
  rw [a1] at a2
  cases a2
  cases r2 with
  | @od _ S4 _ ws _ ha hs hn hc2 nd ek rs =>
  have ne : a ≠ b := fun e => by
    subst e
    obtain ⟨v0, T1, T2, b1, b2, b3, b4, b5, _⟩ := w3.slot e2
    rw [a1] at b1
    cases b1
    cases b5 with
    | @od _ _ _ _ _ ha5 _ _ _ _ _ _ =>
    have q := (w3.ow _ (b2 _ ha5)).2.1
    rcases hb with hb | ⟨_, hb⟩ <;> · rw [q] at hb; cases hb
  have hl1 : ws.length = kvs.length := by have := congrArg List.length ek; simpa using this
  have hl2 : us.length = more.length := rk.length
  refine ⟨b, ws, us, hc2, rfl, ne, w3.pu.rd hb, by omega, ?_⟩
  obtain ⟨q1, q2, q3⟩ := RS.merge rk nd ek rs
  obtain ⟨S6, w6⟩ := f a (.dK (mergeK ws us)) (.od (more.foldl (fun acc p => SK.dput acc p.1 (O.d p.2)) kvs)) ha (.od (S' := S4) ha hs hn upd_same q1 q2 (q3.tr (.refl _) (fun _ z => z) fun c u hcc e => by rw [upd_ne (fun z : c = a => hn (z ▸ hcc))]; exact e))
  exact s.nx _ _ _ h2 ⟨_, _, w6⟩
end
end SK
namespace SK
open PySem PySem.Spec PyProof.Rows L2
def tIxO (K : PySem.W.Frag) (i : Nat) (ti : TE) : TE := tOp (rIxG K) (tVar i) ti
section
variable {K : PySem.W.Frag} {F B0 H B : Hp} {τ : List V} {T : List O} {σ : L2.St} {Γ : En} {S : Ad} {i : Nat} {ti : TE} {post : O → En → Prop}
theorem RS.getAt {n : Nat} {y : D} : ∀ {vs : List V} {xs : List O} {S : Ad}, RS K B H S (vs.map some) (xs.map some) → xs[n]? = some (.d y) → ∃ u, vs[n]? = some u ∧ R K B u y := fun {vs xs S} r h => by
  have h2 : (xs.map some)[n]? = some (some (O.d y)) := by rw [List.getElem?_map, h]; rfl
  obtain ⟨v, S1, S2, a, _, _, _, ro, _⟩ := r.focus h2
  rw [List.getElem?_map] at a
  cases e : vs[n]? with
  | none => rw [e] at a; cases a
  | some u => rw [e] at a; cases a; cases ro with | d r => exact ⟨_, rfl, r⟩
theorem go_ixO (e0 : ∃ xs, Γ[i]? = some (some (.ol xs))) (h : Go K F B0 ti T Γ fun o Γ1 => ∃ (n : Int) (xs : List O) (y : D), o = .d (.int n) ∧ Γ1[i]? = some (some (.ol xs)) ∧ atI xs n = some (.d y) ∧ post (.d y) Γ1) : Go K F B0 (tIxO K i ti) T Γ post := fun τ σ H Q ⟨B, S, w⟩ k => by
  obtain ⟨xs0, e0⟩ := e0
  obtain ⟨v, S1, a1, r1, _, _⟩ := w.mut1 e0
  cases r1 with
  | @ol _ _ a vs _ _ _ _ hc _ =>
  refine ⟨.ref a, a1, h τ σ H _ ⟨B, S, w⟩ fun v2 o2 Γ2 H2 ⟨n, xs, y, eo, e2, ex, hp⟩ ⟨B2, S2, w2⟩ => ?_⟩
  subst eo
  obtain ⟨r2, S3, _, w3⟩ := w2.popd
  cases r2
  obtain ⟨v', S5, a2, r3, _, f⟩ := w3.mut1 e2
  rw [a1] at a2
  cases a2
  cases r3 with
  | @ol _ S4 _ us _ ha hs hn hc2 rs =>
  have len : us.length = xs.length := by have := RS.len rs; simpa using this
  unfold atI at ex
  cases q : ixN xs.length n with
  | none => rw [q] at ex; cases ex
  | some j =>
    rw [q] at ex
    obtain ⟨u, hu, ru⟩ := RS.getAt rs ex
    have hu2 : atI us n = some u := by unfold atI; rw [len, q]; exact hu
    exact .inl (.inl ⟨a, us, n, u, rfl, rfl, SqL.of hc2, hu2, k _ _ _ _ hp ⟨_, _, w3.pushd ru⟩⟩)
end
end SK
namespace SK
open PySem PySem.Spec PyProof.Rows L2
def rEqN (K : PySem.W.Frag) : R2 := fun x y H Q => ∃ a b xs, x = .ref a ∧ y = .ref b ∧ SqL K H a xs ∧ SqL K H b [] ∧ Q (.bl xs.isEmpty) H
def rNeN (K : PySem.W.Frag) : R2 := fun x y H Q => ∃ a b xs, x = .ref a ∧ y = .ref b ∧ SqL K H a xs ∧ SqL K H b [] ∧ Q (.bl (!xs.isEmpty)) H
section
variable {K : PySem.W.Frag} {F B0 : Hp} {T : List O} {Γ : En} {post : O → En → Prop} {x : D} {xs : List D}
theorem RL.emp {B : Hp} {vs : List V} {xs : List D} (r : RL K B vs xs) : vs.isEmpty = xs.isEmpty := by cases r <;> rfl
theorem o2_eqN (q : x.seq? = some xs) (h : post (.d (.bl xs.isEmpty)) Γ) : Op2 K F B0 (rEqN K) x (.lst []) T Γ post := fun τ σ H B S v1 v2 Q w r1 r2 k => by
  obtain ⟨a, us, rfl, sq, rl⟩ := r1.seqL q
  obtain ⟨b, ws, rfl, sq2, rl2⟩ := r2.seqL rfl
  cases rl2
  exact ⟨a, b, us, rfl, rfl, w.pu.sqL sq, w.pu.sqL sq2, k _ _ _ _ h ⟨_, _, w.pushd (by rw [rl.emp]; exact .bl)⟩⟩
theorem o2_neN (q : x.seq? = some xs) (h : post (.d (.bl (!xs.isEmpty))) Γ) : Op2 K F B0 (rNeN K) x (.lst []) T Γ post := fun τ σ H B S v1 v2 Q w r1 r2 k => by
  obtain ⟨a, us, rfl, sq, rl⟩ := r1.seqL q
  obtain ⟨b, ws, rfl, sq2, rl2⟩ := r2.seqL rfl
  cases rl2
  exact ⟨a, b, us, rfl, rfl, w.pu.sqL sq, w.pu.sqL sq2, k _ _ _ _ h ⟨_, _, w.pushd (by rw [rl.emp]; exact .bl)⟩⟩
end
theorem emp_map {α β : Type} {f : α → β} {xs : List α} : (xs.map f).isEmpty = xs.isEmpty := by cases xs <;> rfl
end SK
namespace SK
open PySem PySem.Spec PyProof.Rows L2
theorem gos_sIF {K : PySem.W.Frag} {F B0 : Hp} {T : List O} {Γ : En} {Dd : EG} {tt : TT} {u t2 : TS} {W : WX} {C : Addr} {sp : Sp} {ta : TA} (h : GoS K F B0 (tIfS tt (tRaiseF W C sp ta) u) T Γ { Dd with nx := fun Γ1 => GoS K F B0 t2 T Γ1 Dd }) : GoS K F B0 (tSeq (tIfS tt (tRaiseF W C sp ta) u) t2) T Γ Dd := gos_seq h
end SK
namespace SK
open PySem PySem.Spec PyProof.Rows L2
def tTryAsE (K : PySem.W.Frag) (c : Value) (i : Nat) (ts : Addr → Value → Option Addr → TS) (Wout : WX) (tb : WX → TS) (u : TS) : TS := fun De σ H => tb (wAs K c i ts Wout De) { De with nx := u De } σ H
section
variable {K : PySem.W.Frag} {F B0 : Hp} {T : List O} {Γ : En} {Dd : EG} {c : Value} {ts : Addr → Value → Option Addr → TS} {Wout : WX} {tw : WX → TS} {u t2 : TS} {i : Nat}
theorem gos_sTAE (h : GoS K F B0 (tTryAsE K c i ts Wout tw u) T Γ { Dd with nx := fun Γ1 => GoS K F B0 t2 T Γ1 Dd }) : GoS K F B0 (tSeq (tTryAsE K c i ts Wout tw u) t2) T Γ Dd := gos_seq h
end
end SK
namespace SK
open PySem PySem.Spec PyProof.Rows L2
end SK
namespace SK
open PySem PySem.Spec PyProof.Rows L2
structure Mk00 (K : PySem.W.Frag) (C : Addr) : Prop where
  makes : PySem.W.makesIn K C = true
  init : PySem.W.findIn K (.ref C) "__init__" = some (some (.builtin "object.__init__"))
  kp : PySem.W.keepIn K (.ref C) = true
def tMake0 (C : Addr) : TE := fun σ H Q => ∀ x dx, H x = none → H dx = none → dx ≠ x → Q (.ref x) (upd (upd H dx (.own x)) x (.ins C dx []))
theorem pe_make00 {X : Cx} {C : Addr} {x : Str} {p pos : Pos} (M : Mk00 X.K C) (hg : Gl X x) (hm : X.mg x = some (.ref C)) (hdb : (x == ("__debug__" : Str)) = false := by decide) : PE X (.Call (.Name x p) [] [] pos) (tMake0 C) := by
  refine ⟨fun pins s σ H Q I h => ?_⟩
  refine wpAny_Call_Name_kw (ld_glob I hg hm ?_ hdb)
  refine PySem.W.callWith_K0 I.kIn M.kp ?_
  have hq := h (s.heap.objs.size + 1) s.heap.objs.size (I.hok.fresh (Nat.le_succ _)) (I.hok.fresh (Nat.le_refl _)) (Nat.ne_of_lt (Nat.lt_succ_self _))
  have I2 := Inv.made (C := C) I
  have Y := PySem.W.makes_of (M := model X.prog X.w) I.kIn M.makes
  refine wpAny_call (make_map0 I.kIn M.makes M.init (fun self => PySem.W.Looks.of_pure (PySem.W.oi_bind self)) ?_)
  have N' : ((s.heap.push PySem.W.emptyDict).push (PySem.W.instObj C s.heap.objs.size)).get? (s.heap.objs.size + 1) = some (PySem.W.instObj C s.heap.objs.size) := by
    apply Heap.get?_push_at
    · rw [Heap.size_push]
    · rfl
  have t1 : PySem.W.Looks (model X.prog X.w) ((s.heap.push PySem.W.emptyDict).push (PySem.W.instObj C s.heap.objs.size)) (typeOf (.ref (s.heap.objs.size + 1))) (.ref C) := (PySem.W.Looks.ld N').andThen .now
  have t2 : PySem.W.Looks (model X.prog X.w) ((s.heap.push PySem.W.emptyDict).push (PySem.W.instObj C s.heap.objs.size)) (isInstance (.ref (s.heap.objs.size + 1)) (.type "object")) true := t1.andThen (Y.top.keeps fun b o e => Heap.get?_push_of_some _ (Heap.get?_push_of_some _ e))
  refine codeAny_call_builtin PySem.W.oi_plain PySem.W.entry_oi (@PySem.W.check_slot (model X.prog X.w) _ _ _ "object.__init__" "object" "__init__" (.ref (s.heap.objs.size + 1)) [] [] _ PySem.W.oi_kind PySem.W.oi_split t2 (PySem.W.oi_args (.ref (s.heap.objs.size + 1))) ?_)
  rw [PySem.W.oi_run]
  exact wpAny_pure (And.intro rfl ⟨V.ref (s.heap.objs.size + 1), _, I2, rfl, hq⟩)
/-- what a class of the table must have -/
structure MEnt (X : Cx) (CX : CXT) (k : Nat) (m : Str) (ps : List Str) (C : Addr) (sp : Sp) : Prop where
  ex : ∃ f fd, Cls X.K C ∧ Meth X.K C m f ∧ FnOk X.prog X.w X.K X.mg X.base CX k f fd ps sp ∧ Room k X.A ∧ Binds X.K fd ps []
/-- o.m(..), o an instance of one of the classes of the table -/
def tMethD (K : PySem.W.Frag) (tb : List (Addr × Ct)) (m : Str) (E : XK) (ta : TE) (t : TA) : TE := fun σ H Q => ta σ H fun x H1 => ∃ p ∈ tb, ∃ a dx fs, x = .ref a ∧ H1 a = some (.ins p.1 dx fs) ∧ fs.lookup m = none ∧
  t σ H1 fun vs H2 => spP K p.2 (x :: vs) H2 Q E
section
variable {X : Cx} {CX : CXT} {k : Nat} {ps : List Str} {E : XK} {m : Str} {pos apos : Pos} {e o : Expr} {es : List Expr} {ta : TE} {t : TA} {tb : List (Addr × Ct)}
theorem pe_methD {pl : Sem Bool} (he : PE X o ta) (c : ∀ p ∈ tb, MEnt X CX k m ps p.1 (spP X.K p.2)) (hx : Passes CX X E) (ha : PA X (e :: es) t)
    (hst : starEach (e :: es) X.env = (false, eval e X.env) :: starEach es X.env := by rfl) (hpl : (backTo pos (starEach es X.env)).any (·.1) = false := by rfl)
    (ht : eval (.Call (.Attribute o m apos) (e :: es) [] pos) X.env = (do
      let ov ← eval o X.env
      standAt apos.atName
      let (f, first) ← holding [ov] (getMethod ov m pl)
      callWith pos f first (backTo pos (starEach (e :: es) X.env)) (backToKw pos (keywordEach [] X.env))) := by rfl) :
    PE X (.Call (.Attribute o m apos) (e :: es) [] pos) (tMethD X.K tb m E ta t) := by
  refine ⟨fun pins s σ H Q I h => ?_⟩
  refine PySem.W.methodCall_KW (pl := pl) (thn (he.run pins s σ H _ I h) fun u s1 ⟨x, H1, I1, rx, p, hp, a, dx, fs, ex, ea, l, q⟩ => ?_) ht
  obtain ⟨f, fd, c, hm, F, hr, hb⟩ := (c p hp).ex
  subst ex
  obtain rfl : u = Value.ref a := rx
  refine getmeth_ok I1 ea c hm l ?_
  refine PySem.W.callWith_K (first := [.ref a]) (h₀ := X.base) I.ok.mod.kin hm.kp (thn (ha.run pos pins s1 σ H1 _ I1 q) fun us s2 ⟨vs, H2, I2, r, q2⟩ => ⟨I2.kIn, ?_⟩) hst hpl
  exact run_fn (us := .ref a :: us) (vs := .ref a :: vs) F hr hb .nil hx I2 (.cons rfl r) (by rw [List.append_nil]; exact q2)
theorem k_methD {K : PySem.W.Frag} {X : Cx} {e : Expr} (h : X.K = K) (q : PE X e (tMethD X.K tb m E ta t)) : PE X e (tMethD K tb m E ta t) := by cases h; exact q
end
section
variable {K : PySem.W.Frag} {F B0 H H' B B' : Hp} {τ : List V} {T : List O} {σ : L2.St} {Γ : En} {post : O → En → Prop} {te tv : TE} {Ci Di : Addr} {S : Ad} {v : V} {x : D} {fs : List (Str × D)}
theorem go_make00 (h : post (.d (.ins Ci [])) Γ) : Go K F B0 (tMake0 Ci) T Γ post := fun τ σ H Q ⟨B, S, w⟩ k => by
  intro a dx ha hdx ne
  have ex : Ex H (upd (upd H dx (.own a)) a (.ins Ci dx [])) := fun b u e => by
    have n1 : b ≠ a := fun q => by rw [q, ha] at e; cases e
    have n2 : b ≠ dx := fun q => by rw [q, hdx] at e; cases e
    rw [upd_ne n1, upd_ne n2]; exact e
  refine k _ _ Γ _ h ⟨upd B a (.ins Ci dx []), _, w.push (S' := fun _ => False) ex (.of_ex (.new (w.pu.back ha))) (fun b u e => ?_) (fun b z => ?_) (fun _ z => z.elim) (.d (.ins upd_same .nil))⟩
  · by_cases q : b = a
    · subst q; rw [upd_same] at e ⊢; exact e
    · rw [upd_ne q] at e; exact ex b u (w.pu b u e)
  · by_cases q : b = a
    · subst q; exact .inr ha
    · rw [upd_ne q] at z; exact .inl z
/-- the receiver is data, its class one of the table's -/
theorem go_methD {tb : List (Addr × Ct)} {m : Str} {E : XK} {t : TA}
    (h : Go K F B0 te T Γ fun o Γ1 => ∃ C Cc fs, (C, Cc) ∈ tb ∧ o.fz = .ins C fs ∧ fs.lookup m = none ∧ GoA K F B0 t (.d (.ins C fs) :: T) Γ1 fun xs Γ2 => ∃ p, Cc (.ins C fs :: xs) p noX ∧ ∀ o, p o → post o Γ2) :
    Go K F B0 (tMethD K tb m E te t) T Γ post := fun τ σ H Q hw k =>
  h τ σ H _ hw fun v o Γ1 H1 ⟨C, Cc, fs, hmem, e, hm, h1⟩ ⟨_, _, w1⟩ => by
    obtain ⟨B1, S1, w1, _⟩ := w1.fz
    rw [e] at w1
    obtain ⟨r1, _, _, _⟩ := w1.popd
    cases r1 with
    | @ins a _ dx ws _ hb rf =>
    refine ⟨(C, Cc), hmem, a, dx, ws, rfl, w1.pu _ _ hb, rf.none hm, h1 (.ref a :: τ) σ H1 _ ⟨_, _, w1⟩ fun vs xs Γ2 H2 ⟨p, c, h2⟩ ⟨B2, S2, w2⟩ hl => ?_⟩
    obtain ⟨rl, S3, w3⟩ := w2.args hl
    obtain ⟨r2, S4, _, w4⟩ := w3.popd
    refine ⟨B2, .ins C fs :: xs, p, noX, w4.pu, .cons r2 rl, c, fun v o' B' S' H' e ex pu' le nw ow ro => ?_, fun _ _ _ _ _ e => e.elim⟩
    exact k v _ Γ2 H' (h2 _ e) ⟨B', _, w4.push ex le pu' nw ow ro⟩
structure InsX (K : PySem.W.Frag) (C : Addr) : Prop where
  cl : Cls K C
  ha : PySem.W.findIn K (.ref C) "__class__" = some (some (.builtin "object.__class__"))
  hn : PySem.W.specialIn K (.builtin "object.__class__") "__get__" = some (some (.builtin "getset_descriptor.__get__"))
  htk : PySem.W.takesIn K (.builtin "object.__class__") = some true
  hm : PySem.W.mroIn K C (.type "object") = some true
theorem oa_isiO {b : Bool} (c : InsX K Ci) (q : PySem.W.kitOne K (.ref Ci) (.ref Di) = some b) (h : post (.d (.bl b)) Γ) : OpA K F B0 (rIsiG K) [.ins Ci fs, .ref Di] T Γ post := fun τ σ H B S vs Q w rl k => by
  refine .inl ?_
  obtain ⟨v1, v2, rfl, r, r2⟩ := rl.two
  cases r2
  cases r with
  | ins hb rf => exact ⟨_, _, .ref Ci, .ref Di, b, rfl, .own Di, .base (.ins (w.pu _ _ hb) c.cl c.ha c.hn c.htk c.hm), q, k _ _ Γ H h ⟨_, _, w.pushd .bl⟩⟩
end
end SK
namespace SK
open PySem PySem.Spec PyProof.Rows L2
theorem mt_nil {X : Cx} {CX : CXT} {k : Nat} {m : Str} {ps : List Str} : ∀ p ∈ ([] : List (Addr × Ct)), MEnt X CX k m ps p.1 (spP X.K p.2) := fun p hp => by cases hp
theorem mt_cons {X : Cx} {CX : CXT} {k : Nat} {m : Str} {ps : List Str} {C : Addr} {Cc : Ct} {tb : List (Addr × Ct)} (h : ∃ f fd, Cls X.K C ∧ Meth X.K C m f ∧ FnOk X.prog X.w X.K X.mg X.base CX k f fd ps (spP X.K Cc) ∧ Room k X.A ∧ Binds X.K fd ps [])
    (t : ∀ p ∈ tb, MEnt X CX k m ps p.1 (spP X.K p.2)) : ∀ p ∈ (C, Cc) :: tb, MEnt X CX k m ps p.1 (spP X.K p.2) := fun p hp => by
  rcases List.mem_cons.mp hp with rfl | hp
  · exact ⟨h⟩
  · exact t p hp
end SK
namespace SK
open PySem PySem.Spec PyProof.Rows L2
end SK
namespace SK
open PySem PySem.Spec PyProof.Rows L2
section
variable {K : PySem.W.Frag} {F B0 H B : Hp} {τ : List V} {T : List O} {σ : L2.St} {Γ : En} {S : Ad} {o : O} {te : TE} {tt : TT} {post : O → En → Prop}
/-- a comprehension by an invariant; its items may be things of their own -/
theorem go_lcI {wi : TI} {g : TG} {js : List Nat} (h : GoI K F B0 wi T Γ fun ds hs Γ1 => ds.length ≤ 100000 ∧ (∀ j ∈ js, Γ1.set j none = Γ1) ∧ ∃ Iv : Nat → List O → Prop, Iv 0 [] ∧ (∀ n acc, Iv n acc → acc.length ≤ n) ∧
    (∀ (n : Nat) (d : D) (acc : List O), ds[n]? = some d → Iv n acc → GoW K F B0 js g d (.ol acc :: (hs.map O.d ++ T)) Γ1 fun Γ2 => GoT K F B0 tt (.ol acc :: (hs.map O.d ++ T)) Γ2 fun b Γ3 => (b = false → Iv (n + 1) acc ∧ wipeE Γ3 js = Γ1) ∧
      (b = true → Go K F B0 te (.ol acc :: (hs.map O.d ++ T)) Γ3 fun o Γ4 => Iv (n + 1) (acc ++ [o]) ∧ wipeE Γ4 js = Γ1)) ∧
    ∀ acc, Iv ds.length acc → post (.ol acc) Γ1) : Go K F B0 (tLc wi g tt te js) T Γ post := fun τ σ H Q hw k =>
  h τ σ H _ hw fun J τs hs ds Γ1 H1 ⟨hz, hj, Iv, i0, il, hst, hp⟩ ⟨B1, S1, w1⟩ hl it D hD => by
    have hl' : τs.length = (hs.map O.d).length := by simp [hl]
    have hwp : wipeE Γ1 js = Γ1 := wipeE_same hj
    obtain ⟨S0, w0⟩ := w1.newl (p := D) (xs := []) (vs := []) hD .nil
    have w0' := w0.wipe (js := js)
    rw [hwp] at w0'
    refine ⟨fun i m H' => m = ds.length - i ∧ i ≤ ds.length ∧ ∃ A, Iv i A ∧ ∃ B' S', HW K F B0 (.ref D :: (τs ++ τ)) (.ol A :: (hs.map O.d ++ T)) (L2.wipe σ js) Γ1 H' B' S', ⟨ds.length, by simp, Nat.zero_le _, [], i0, B1, S0, by simpa using w0'⟩, ?_⟩
    rintro i m H' ⟨rfl, hi, A, ia, B', S', w⟩
    obtain ⟨_, S'', _, _, _, _, wd⟩ := w.pop
    obtain ⟨q1, q2⟩ := it _ _ _ Γ1 H' B' _ w (wd.held hl)
    by_cases hlt : i < ds.length
    · obtain ⟨q3, q4⟩ := q2 i ds[i] (by simp [hlt])
      refine .inr ⟨q3, fun H2 => ∃ A2, Iv (i + 1) A2 ∧ ∃ B2 S2, HW K F B0 (.ref D :: (τs ++ τ)) (.ol A2 :: (hs.map O.d ++ T)) (L2.wipe σ js) Γ1 H2 B2 S2, fun H2 z => ⟨ds.length - (i + 1), by omega, rfl, hlt, z⟩, fun x H2 y => ?_⟩
      obtain ⟨B2, S2, w2⟩ := q4 x H2 y
      refine hst i ds[i] A (by simp [hlt]) ia (.ref D :: (τs ++ τ)) σ H2 x _ ⟨B2, S2, w2⟩ fun σ3 Γ3 H3 h3 e3 w3 => ⟨e3, h3 _ σ3 H3 _ w3 fun b Γ4 H4 ⟨hf, ht⟩ w4 => ?_⟩
      cases b with
      | true =>
        refine iteT (ht rfl _ σ3 H4 _ w4 fun v o Γ5 H5 ⟨eo, e5⟩ ⟨B5, S5, w5⟩ => ?_)
        obtain ⟨us, S7, hus, hlen, w7⟩ := w5.appTop
        refine ⟨us, hus, by rw [hlen]; exact Nat.lt_of_le_of_lt (Nat.le_trans (il _ _ ia) (Nat.le_trans hi hz)) (by decide), _, eo, B5, S7, ?_⟩
        have w8 := w7.wipe (js := js)
        rw [e5, e3] at w8
        exact w8
      | false =>
        obtain ⟨B4, S4, w4⟩ := w4
        obtain ⟨f1, f2⟩ := hf rfl
        refine iteF ⟨_, f1, B4, S4, ?_⟩
        have w8 := w4.wipe (js := js)
        rw [f2, e3] at w8
        exact w8
    · have ei : i = ds.length := by omega
      subst ei
      exact .inl ⟨q1, k _ _ Γ1 H' (hp A ia) ⟨B', S', HW.unwipe (w.under hl') hj⟩⟩
end
def tFrz (i : Nat) (s : TS) : TS := s
theorem ps_frz {X : Cx} {st : Stmt} {i : Nat} {s : TS} (h : PS X st s) : PS X st (tFrz i s) := h
theorem gos_frzA {K : PySem.W.Frag} {F B0 : Hp} {T : List O} {Γ : En} {i : Nat} {s : TS} {o : O} {Dd : EG} (e : Γ[i]? = some (some o)) (h : GoS K F B0 s T (Γ.set i (some (.d o.fz))) Dd) : GoS K F B0 (tFrz i s) T Γ Dd := gos_frz i e h
end SK
namespace SK
open PySem PySem.Spec PyProof.Rows L2
def O.addr : O → Option Addr
  | .oi a _ _ => some a
  | .atA a _ => some a
  | _ => none
section
variable {K : PySem.W.Frag} {F B0 H H' B B' : Hp} {τ : List V} {T : List O} {σ : L2.St} {Γ Γv : En} {S S1 : Ad} {v w : V} {o o' o1 u : O} {i j : Nat} {a : Addr} {p : List Sel}
theorem RO.addr (r : RO K B H S v o) (h : o.addr = some a) : v = .ref a := by
  cases r <;> first | (cases h; rfl) | cases h
/-- whatever tells o tells o' -/
def Wkn (o o' : O) : Prop := ∀ (K : PySem.W.Frag) (B H : Hp) (S : Ad) (v : V), RO K B H S v o → RO K B H S v o'
theorem Wkn.refl (o : O) : Wkn o o := fun _ _ _ _ _ r => r
theorem Wkn.trans {o1 o2 o3 : O} (a : Wkn o1 o2) (b : Wkn o2 o3) : Wkn o1 o3 := fun K B H S v r => b K B H S v (a K B H S v r)
theorem wkn_ref (h : o.addr = some a) : Wkn o (.d (.ref a)) := fun K B H S v r => by
  cases r.addr h
  exact .d .ref
theorem wkn_un : Wkn (.atA a o) o := fun K B H S v r => by cases r with | atA r => exact r
theorem wkn_at (h : Wkn o o') : Wkn (.atA a o) (.atA a o') := fun K B H S v r => by cases r with | atA r => exact .atA (h _ _ _ _ _ r)
/-- a slot told weaker -/
theorem RS.wk1 (h : Wkn o o') : ∀ {σ : List (Option V)} {Γ : List (Option O)} {S : Ad} {i : Nat}, RS K B H S σ Γ → Γ[i]? = some (some o) → RS K B H S σ (Γ.set i (some o'))
  | _, some g :: Γ, _, 0, .cons s1 s2 d r t, e => by
    cases e
    exact .cons s1 s2 d (h _ _ _ _ _ r) t
  | _, some _ :: Γ, _, i + 1, .cons s1 s2 d r t, e => .cons s1 s2 d r (t.wk1 h (by simpa using e))
  | _, none :: Γ, _, i + 1, .un r, e => .un (r.wk1 h (by simpa using e))
  | _, none :: _, _, 0, .un _, e => by cases e
theorem RS.items {xs : List O} (h : xs[i]? = some o) (w : Wkn o o') {σ : List (Option V)} (r : RS K B H S σ (xs.map some)) : RS K B H S σ ((xs.set i o').map some) := by
  rw [List.map_set]
  exact r.wk1 w (by rw [List.getElem?_map, h]; rfl)
theorem lookI {fs : List (Str × O)} {f : Str} (h : fs.lookup f = some o) : ∃ i : Nat, fs[i]? = some (f, o) ∧ ∀ y, SK.fput f y fs = fs.set i (f, y) := by
  induction fs with
  | nil => cases h
  | cons p r ih =>
    obtain ⟨g, z⟩ := p
    rw [List.lookup_cons] at h
    cases q : f == g with
    | true =>
      rw [q] at h; cases h
      have : f = g := by simpa using q
      subst this
      exact ⟨0, rfl, fun y => by unfold SK.fput; rw [if_pos rfl]; rfl⟩
    | false =>
      rw [q] at h
      have n : ¬ g = f := fun z => by subst z; simp at q
      obtain ⟨i, h1, h2⟩ := ih h
      exact ⟨i + 1, by simpa using h1, fun y => by unfold SK.fput; rw [if_neg n, h2 y]; rfl⟩
theorem kvalI {kvs : List (Key × O)} {k : Key} (nd : (kvs.map (·.1)).Nodup) (h : kval kvs k = some o) : ∃ i : Nat, kvs[i]? = some (k, o) ∧ ∀ y, SK.dput kvs k y = kvs.set i (k, y) := by
  obtain ⟨i, u, h1, _, _, h4⟩ := kval2 (ws := kvs.map fun p => (p.1, V.non)) (kvs := kvs) nd (by rw [List.map_map]; rfl) h
  exact ⟨i, h1, h4⟩
theorem wkn_set0 {s : Sel} (nat : ∀ a u, o ≠ .atA a u) (g : o.get1 s = some u) (w : Wkn u o') : Wkn o (o.set1 o' s) := fun K B H S v r => by
  cases r with
  | d r => cases s <;> cases g
  | ot => cases s <;> cases g
  | atA => exact absurd rfl (nat _ _)
  | @ol _ S4 a vs xs ha hs hn hc rs =>
    cases s with
    | idx n => exact .ol ha hs hn hc (rs.items (by exact g) w)
    | _ => cases g
  | @op _ a vs xs h rs =>
    cases s with
    | idx n => exact .op h (rs.items (by exact g) w)
    | _ => cases g
  | @od _ S4 a ws kvs ha hs hn hc nd ek rs =>
    cases s with
    | key k =>
      obtain ⟨n, h1, h2⟩ := kvalI nd (show kval kvs k = some u from g)
      show RO K B H S _ (.od (SK.dput kvs k o'))
      rw [h2]
      have e1 : (kvs.set n (k, o')).map (·.1) = kvs.map (·.1) := by
        rw [List.map_set]
        exact set_same' (by rw [List.getElem?_map, h1]; rfl)
      refine .od ha hs hn hc (by rw [e1]; exact nd) (by rw [e1]; exact ek) ?_
      rw [List.map_set]
      exact rs.wk1 w (by rw [List.getElem?_map, h1]; rfl)
    | _ => cases g
  | @oi _ S4 a dx C ws kvs ha hd hs hn hn2 ne hca hcd ek rs =>
    cases s with
    | fld f =>
      obtain ⟨n, h1, h2⟩ := lookI (show kvs.lookup f = some u from g)
      show RO K B H S _ (.oi a C (SK.fput f o' kvs))
      rw [h2]
      have e1 : (kvs.set n (f, o')).map (·.1) = kvs.map (·.1) := by
        rw [List.map_set]
        exact set_same' (by rw [List.getElem?_map, h1]; rfl)
      refine .oi ha hd hs hn hn2 ne hca hcd (by rw [e1]; exact ek) ?_
      rw [List.map_set]
      exact rs.wk1 w (by rw [List.getElem?_map, h1]; rfl)
    | _ => cases g
theorem wkn_set1 {s : Sel} (w : Wkn u o') : ∀ {o : O}, o.get1 s = some u → Wkn o (o.set1 o' s)
  | .atA a o, g => by
    by_cases hs : s = .un
    · subst hs
      cases (show some o = some u from g)
      exact wkn_at w
    have g' : o.get1 s = some u := by cases s <;> first | exact g | exact absurd rfl hs
    have e := wkn_at (a := a) (wkn_set1 (o := o) w g')
    cases s <;> first | exact e | exact absurd rfl hs
  | .d _, g => wkn_set0 (fun _ _ z => by cases z) g w
  | .ol _, g => wkn_set0 (fun _ _ z => by cases z) g w
  | .od _, g => wkn_set0 (fun _ _ z => by cases z) g w
  | .ot _, g => wkn_set0 (fun _ _ z => by cases z) g w
  | .oi _ _ _, g => wkn_set0 (fun _ _ z => by cases z) g w
  | .op _, g => wkn_set0 (fun _ _ z => by cases z) g w
/-- a part told weaker -/
theorem wkn_setP (w : Wkn u o') : ∀ {p : List Sel} {o : O}, o.getP p = some u → Wkn o (o.setP o' p)
  | [], o, g => by cases g; exact w
  | s :: p, o, g => by
    unfold O.getP at g
    cases e : o.get1 s with
    | none => rw [e] at g; cases g
    | some z =>
      rw [e] at g
      unfold O.setP
      rw [e]
      exact wkn_set1 (wkn_setP w g) e
/-- a part of a thing -/
theorem RS.part : ∀ {σ : List (Option V)} {Γ : List (Option O)} {S : Ad} {i : Nat}, RS K B H S σ Γ → Γ[i]? = some (some o) → ∃ v S1, σ[i]? = some (some v) ∧ (∀ b, S1 b → S b) ∧ RO K B H S1 v o
  | _, some g :: Γ, S, 0, .cons s1 s2 d r t, e => by cases e; exact ⟨_, _, rfl, s1, r⟩
  | _, some _ :: Γ, S, i + 1, .cons s1 s2 d r t, e => by
    obtain ⟨v, S1, a1, a2, a3⟩ := t.part (i := i) (by simpa using e)
    exact ⟨v, S1, by simpa using a1, fun b z => s2 b (a2 b z), a3⟩
  | _, none :: Γ, S, i + 1, .un r, e => by
    obtain ⟨v, S1, a1, a2, a3⟩ := r.part (i := i) (by simpa using e)
    exact ⟨v, S1, by simpa using a1, a2, a3⟩
  | _, none :: _, _, 0, .un _, e => by cases e
theorem RO.part1 {s : Sel} : ∀ {o : O} {S : Ad} {v : V}, RO K B H S v o → o.get1 s = some u → ∃ v1 S1, (∀ b, S1 b → S b) ∧ RO K B H S1 v1 u
  | .atA a o, S, v, r, g => by
    cases r with
    | atA r =>
    by_cases hs : s = .un
    · subst hs; cases (show some o = some u from g); exact ⟨_, S, fun _ z => z, r⟩
    have g' : o.get1 s = some u := by cases s <;> first | exact g | exact absurd rfl hs
    exact RO.part1 (o := o) r g'
  | .d _, _, _, r, g => by cases s <;> cases g
  | .ot _, _, _, r, g => by cases s <;> cases g
  | .ol xs, S, v, r, g => by
    cases r with
    | ol ha hs hn hc rs =>
      cases s with
      | idx n =>
        obtain ⟨v1, S1, _, a2, a3⟩ := rs.part (i := n) (by rw [List.getElem?_map, show xs[n]? = some u from g]; rfl)
        exact ⟨v1, S1, fun b z => hs b (a2 b z), a3⟩
      | _ => cases g
  | .op xs, S, v, r, g => by
    cases r with
    | op h rs =>
      cases s with
      | idx n =>
        obtain ⟨v1, S1, _, a2, a3⟩ := rs.part (i := n) (by rw [List.getElem?_map, show xs[n]? = some u from g]; rfl)
        exact ⟨v1, S1, a2, a3⟩
      | _ => cases g
  | .od kvs, S, v, r, g => by
    cases r with
    | od ha hs hn hc nd ek rs =>
      cases s with
      | key k =>
        obtain ⟨n, h1, _⟩ := kvalI nd (show kval kvs k = some u from g)
        obtain ⟨v1, S1, _, a2, a3⟩ := rs.part (i := n) (by rw [List.getElem?_map, h1]; rfl)
        exact ⟨v1, S1, fun b z => hs b (a2 b z), a3⟩
      | _ => cases g
  | .oi a C fs, S, v, r, g => by
    cases r with
    | oi ha hd hs hn hn2 ne hca hcd ek rs =>
      cases s with
      | fld f =>
        obtain ⟨n, h1, _⟩ := lookI (show fs.lookup f = some u from g)
        obtain ⟨v1, S1, _, a2, a3⟩ := rs.part (i := n) (by rw [List.getElem?_map, h1]; rfl)
        exact ⟨v1, S1, fun b z => hs b (a2 b z), a3⟩
      | _ => cases g
theorem RO.partP : ∀ {p : List Sel} {o : O} {S : Ad} {v : V}, RO K B H S v o → o.getP p = some u → ∃ v1 S1, (∀ b, S1 b → S b) ∧ RO K B H S1 v1 u
  | [], o, S, v, r, g => by cases g; exact ⟨v, S, fun _ z => z, r⟩
  | s :: p, o, S, v, r, g => by
    unfold O.getP at g
    cases e : o.get1 s with
    | none => rw [e] at g; cases g
    | some z =>
      rw [e] at g
      obtain ⟨v1, S1, h1, h2⟩ := r.part1 e
      obtain ⟨v2, S2, h3, h4⟩ := RO.partP h2 g
      exact ⟨v2, S2, fun b z => h1 b (h3 b z), h4⟩
/-- data that the slots may be taken for while all owned things are read alone -/
def Views (Γ Γv : En) : Prop := ∀ (K : PySem.W.Frag) (B H Bf : Hp) (S : Ad) (σ : List (Option V)), RS K B H S σ Γ → BLe B Bf → (∀ a u, S a → H a = some u → Bf a = some u) → RS K Bf H (fun _ => False) σ Γv
theorem views_fz : Views Γ (fzE Γ) := fun K B H Bf S σ r le k => RS.fzE (S := S) le k r
theorem views_wk (e : Γ[i]? = some (some o)) (w : Wkn o o') (h : Views (Γ.set i (some o')) Γv) : Views Γ Γv := fun K B H Bf S σ r le k => h K B H Bf S σ (r.wk1 w e) le k
theorem views_up (ej : Γ[j]? = some (some (.d (.ref a)))) (ei : Γ[i]? = some (some o)) (g : o.getP p = some o1) (ha : o1.addr = some a) (w : Wkn o1 u) (h : Views Γ Γv) : Views Γ (Γv.set j (some (.d u.fz))) := fun K B H Bf S σ r le k => by
  have rv := h K B H Bf S σ r le k
  obtain ⟨vj, _, a1, _, rj⟩ := r.part ej
  have e1 : vj = .ref a := by cases rj with | d rj => cases rj; rfl
  subst e1
  obtain ⟨v, S1, _, s1, r1⟩ := r.part ei
  obtain ⟨v1, S2, s2, r2⟩ := r1.partP g
  cases r2.addr ha
  have rz := (w _ _ _ _ _ r2).fz le fun a u z e => k a u (s1 a (s2 a z)) e
  by_cases hj : j < Γv.length
  · have q := RS.put (i := j) (v := some (.ref a)) (o := some (.d u.fz)) (S1 := fun _ => False) rv hj (fun _ z => z.elim) fun x e => by cases e; exact ⟨_, rfl, .d rz⟩
    rw [set_same a1] at q
    exact q.tr (.refl Bf) (fun b z => z.elim id id) fun _ _ _ e => e
  · rw [List.set_eq_of_length_le (by omega)]; exact rv
end
end SK
namespace SK
open PySem PySem.Spec PyProof.Rows L2
section
variable {K : PySem.W.Frag} {F B0 H B H' B' : Hp} {τ : List V} {T : List O} {σ : L2.St} {Γ Γv Γw : En} {S S1 : Ad} {v w : V} {o oe o1 o' u : O} {i j : Nat} {a : Addr} {p : List Sel} {te tv ti : TE} {tt : TT} {post : O → En → Prop} {postt : Bool → En → Prop} {posts1 : En → Prop} {Dd : EG} {P : O → Prop}
theorem HW.lendV (hv : Views Γ Γv) (w : HW K F B0 τ T σ Γ H B S) : ∃ Bf, Ho K H Bf [] [] σ Γv H ∧
    (∀ Γ1 H1, Ho K H Bf [] [] σ Γ1 H1 → Ho K F B0 τ T σ Γ H1) ∧
    ∀ v' o' Γ1 H1, Ho K H Bf [v'] [o'] σ Γ1 H1 → o'.lf = true → Ho K F B0 (v' :: τ) (o' :: T) σ Γ H1 := by
  obtain ⟨Sp, Ss, p1, p2, p3, rp, rsl⟩ := RS.split (σ0 := τ.map some) (Γ0 := T.map some) (by simp [w.lt]) w.rs
  obtain ⟨L, l1, r2, l3⟩ := rsl.tight
  have bn : ∀ a, L a → B a = none ∧ H a ≠ none := fun a z => (w.ow a (p2 a (l1 a z))).2
  have ex : Ex B (SK.frz B H L) := frz_ex fun a z => (bn a z).1
  have le0 : BLe B (SK.frz B H L) := .of_ex ex
  have main : ∀ v' o' Γ1 H1, Ho K H (SK.frz B H L) [v'] [o'] σ Γ1 H1 → o'.lf = true → Ho K F B0 (v' :: τ) (o' :: T) σ Γ H1 := by
    intro v' o' Γ1 H1 ⟨B1, Sr, w1⟩ lf
    obtain ⟨T1, T2, t1, t2, dj, ro, _⟩ := w1.pop
    have hB : ∀ a u, B a = some u → ¬ L a := fun a u q z => by rw [(bn a z).1] at q; cases q
    have off : ∀ a u, ¬ L a → B1 a = some u → offH B1 L a = some u := fun a u z q => by rw [offH_no z]; exact q
    have offR : ∀ a u, ¬ L a → Rd B1 a u → Rd (offH B1 L) a u := fun a u z q => q.elim (fun q => .inl (off a _ z q)) fun ⟨o, q⟩ => .inr ⟨o, off a _ z q⟩
    have nL : ∀ a u, Rd B a u → ¬ L a := fun a u q => q.elim (hB a _) fun ⟨o, q⟩ => hB a _ q
    have le : BLe B (offH B1 L) := by
      have l := le0.trans w1.b0
      exact ⟨fun a xs q => offR a _ (nL a _ q) (l.tup a xs q), fun a xs q => offR a _ (nL a _ q) (l.lst a xs q), fun a xs q => off a _ (hB a _ q) (l.ls a xs q), fun a xs q => offR a _ (nL a _ q) (l.dK a xs q), fun a xs q => offR a _ (nL a _ q) (l.dT a xs q), fun a C dx fs q => off a _ (hB a _ q) (l.ins a C dx fs q)⟩
    have pu : Ex (offH B1 L) H1 := fun a u q => by
      by_cases z : L a
      · rw [offH_at z] at q; cases q
      · rw [offH_no z] at q; exact w1.pu a u q
    have sq : ∀ a xs, SqT K B1 a xs → SqT K (offH B1 L) a xs := fun a xs q => q.imp (fun q => by
      refine offR a _ (fun z => ?_) q
      have q2 : ∃ u, B1 a = some u ∧ (u = .tup xs ∨ ∃ o, u = .frz o (.tup xs)) := q.elim (fun q => ⟨_, q, .inl rfl⟩) fun ⟨o, q⟩ => ⟨_, q, .inr ⟨o, rfl⟩⟩
      obtain ⟨u, q3, q4⟩ := q2
      have q5 := w1.pu a u q3
      rcases l3 a z with ⟨_, y⟩ | ⟨_, y⟩ | ⟨_, y⟩ | ⟨_, _, _, y⟩ | ⟨_, y⟩ <;>
        (rw [w1.fr a _ y] at q5
         cases q5
         rcases q4 with q4 | ⟨_, q4⟩ <;> cases q4)) id
    refine ⟨offH B1 L, fun a => T1 a ∨ S a, w.fr.trans w1.fr, pu, w.b0.trans le, fun a z => ?_, fun a z => ?_, .cons (S1 := T1) (S2 := S) (fun _ z => .inl z) (fun _ z => .inr z) (fun a z y => ?_) (ro.lf sq lf) (w.rs.tr le (fun _ z => z) fun a u _ q => w1.fr a u q), by simp [w.lt]⟩
    · rcases z with z | z
      · obtain ⟨q1, q2, q3⟩ := w1.ow a (t1 a z)
        refine ⟨w.fr.back q1, ?_, q3⟩
        by_cases y : L a
        · exact offH_at y
        · rw [offH_no y]; exact q2
      · obtain ⟨q1, q2, q3⟩ := w.ow a z
        refine ⟨q1, ?_, fun q => q3 (w1.fr.back q)⟩
        by_cases y : L a
        · exact offH_at y
        · rw [offH_no y]
          cases q : B1 a with
          | none => rfl
          | some u =>
            rcases w1.nw a (by rw [q]; simp) with x | x
            · rw [frz_no y] at x; exact absurd q2 x
            · exact absurd x q3
    · by_cases y : L a
      · exact absurd (offH_at y) z
      · rw [offH_no y] at z
        rcases w1.nw a z with x | x
        · rw [frz_no y] at x; exact w.nw a x
        · exact .inr (w.fr.back x)
    · exact (w.ow a y).2.2 (w1.ow a (t1 a z)).1
  refine ⟨SK.frz B H L, ⟨SK.frz B H L, fun _ => False, .refl H, fun a u q => ?_, .refl _, fun _ z => z.elim, fun _ z => .inl z, ?_, rfl⟩, fun Γ1 H1 ⟨B1, S1, w1⟩ => ?_, main⟩
  · by_cases z : L a
    · rw [frz_at z] at q; exact q
    · rw [frz_no z] at q; exact w.pu a u q
  · exact hv K B H _ L σ r2 le0 (fun a u z q => by rw [frz_at z]; exact q)
  · obtain ⟨B2, S2, w2⟩ := main .non (.d .non) Γ1 H1 ⟨_, _, w1.pushd .non⟩ rfl
    obtain ⟨_, _, _, _, _, _, w3⟩ := w2.pop
    exact ⟨_, _, w3⟩
theorem go_lendV (hv : Views Γ Γv) (h : ∀ F' B', Go K F' B' te [] Γv fun o' _ => o'.lf = true ∧ post o' Γ) : Go K F B0 te T Γ post := fun τ σ H Q ⟨B, S, w⟩ k => by
  obtain ⟨Bf, w0, _, back⟩ := w.lendV hv
  exact h H Bf [] σ H _ w0 fun v o' Γ1 H1 ⟨lf, hp⟩ how => k v o' Γ H1 hp (back v o' Γ1 H1 how lf)
theorem got_lendV (hv : Views Γ Γv) (h : ∀ F' B', GoT K F' B' tt [] Γv fun b _ => postt b Γ) : GoT K F B0 tt T Γ postt := fun τ σ H Q ⟨B, S, w⟩ k => by
  obtain ⟨Bf, w0, back, _⟩ := w.lendV hv
  exact h H Bf [] σ H _ w0 fun b Γ1 H1 hp how => k b Γ H1 hp (back Γ1 H1 how)
/-- a value by a view -/
theorem HW.evL {Q : VK} (hv : Views Γ Γv) (h : ∀ F' B', Go K F' B' te [] Γv fun o _ => o.lf = true ∧ P o) (w : HW K F B0 τ T σ Γ H B S)
    (k : ∀ v o H1 B1 S1, Ex H H1 → P o → HW K F B0 (v :: τ) (o :: T) σ Γ H1 B1 S1 → Q v H1) : te σ H Q := by
  obtain ⟨Bf, w0, _, back⟩ := w.lendV hv
  exact h H Bf [] σ H _ w0 fun v o' Γ1 H1 ⟨lf, hp⟩ how => by
    obtain ⟨B1, S1, w1⟩ := back v o' Γ1 H1 how lf
    exact k v o' H1 B1 S1 how.choose_spec.choose_spec.fr hp w1
/-- an address by a view -/
theorem HW.evA {Q : VK} (hv : Views Γ Γv) (h : ∀ F' B', Go K F' B' te [] Γv fun o _ => o = .d (.ref a)) (w : HW K F B0 τ T σ Γ H B S)
    (k : ∀ H1 B1 S1, Ex H H1 → HW K F B0 τ T σ Γ H1 B1 S1 → Q (.ref a) H1) : te σ H Q :=
  HW.evL (P := fun o => o = .d (.ref a)) hv (fun F' B' τ σ H Q hw k => h F' B' τ σ H Q hw fun v o Γ' H' e w => k v o Γ' H' ⟨by rw [e]; rfl, e⟩ w) w fun v o H1 B1 S1 ex e w1 => by
    subst e
    obtain ⟨r, S2, _, w2⟩ := w1.popd
    cases r
    exact k H1 B1 S2 ex w2
/-- a part of a thing, and any other one in its place -/
theorem RO.foc0 {s : Sel} (nat : ∀ a u, o ≠ .atA a u) (r : RO K B H S v o) (g : o.get1 s = some o1) : ∃ (v1 : V) (S1 S2 : Ad), (∀ b, S1 b → S b) ∧ (∀ b, S2 b → S b) ∧ (∀ b, S1 b → ¬ S2 b) ∧ RO K B H S1 v1 o1 ∧
    ∀ B' H' S1' y, BLe B B' → (∀ b u, S2 b → H b = some u → H' b = some u) → (∀ b, S1' b → ¬ S2 b) → RO K B' H' S1' v1 y → RO K B' H' (fun b => S1' b ∨ S2 b) v (o.set1 y s) := by
  cases r with
  | d r => cases s <;> cases g
  | ot => cases s <;> cases g
  | atA => exact absurd rfl (nat _ _)
  | @op _ a vs xs h rs =>
    cases s with
    | idx n =>
      have g : xs[n]? = some o1 := g
      obtain ⟨u, U1, U2, c1, c2, c3, c4, ru, f⟩ := rs.focus (i := n) (o := o1) (by rw [List.getElem?_map, g]; rfl)
      refine ⟨u, U1, U2, c2, c3, c4, ru, fun B' H' S1' y eb k' dj ry => ?_⟩
      have q := f B' H' S1' (some u) (some y) eb k' dj (fun x e => by cases e; exact ⟨u, rfl, ry⟩)
      rw [set_same c1, ← List.map_set] at q
      exact .op (eb.sqT h) q
    | _ => cases g
  | @ol _ S4 a vs xs ha hs hn hc rs =>
    cases s with
    | idx n =>
      have g : xs[n]? = some o1 := g
      obtain ⟨u, U1, U2, c1, c2, c3, c4, ru, f⟩ := rs.focus (i := n) (o := o1) (by rw [List.getElem?_map, g]; rfl)
      refine ⟨u, U1, fun b => b = a ∨ U2 b, fun b z => hs b (c2 b z), fun b z => z.elim (fun e => e ▸ ha) fun z => hs b (c3 b z), fun b z y => y.elim (fun e => hn (e ▸ c2 b z)) (c4 b z), ru, fun B' H' S1' y eb k' dj ry => ?_⟩
      have q := f B' H' S1' (some u) (some y) eb (fun b x z => k' b x (.inr z)) (fun b z w => dj b z (.inr w)) (fun x e => by cases e; exact ⟨u, rfl, ry⟩)
      rw [set_same c1, ← List.map_set] at q
      exact .ol (S' := fun b => S1' b ∨ U2 b) (.inr (.inl rfl)) (fun b z => z.imp id .inr) (fun z => z.elim (fun z => dj a z (.inl rfl)) fun z => hn (c3 a z)) (k' a _ (.inl rfl) hc) q
    | _ => cases g
  | @od _ S4 a ws kvs ha hs hn hc nd ek rs =>
    cases s with
    | key k =>
      obtain ⟨n, g1, g4⟩ := kvalI nd (show kval kvs k = some o1 from g)
      obtain ⟨u, U1, U2, c1, c2, c3, c4, ru, f⟩ := rs.focus (i := n) (o := o1) (by rw [List.getElem?_map, g1]; rfl)
      refine ⟨u, U1, fun b => b = a ∨ U2 b, fun b z => hs b (c2 b z), fun b z => z.elim (fun e => e ▸ ha) fun z => hs b (c3 b z), fun b z y => y.elim (fun e => hn (e ▸ c2 b z)) (c4 b z), ru, fun B' H' S1' y eb k' dj ry => ?_⟩
      have q := f B' H' S1' (some u) (some y) eb (fun b x z => k' b x (.inr z)) (fun b z w => dj b z (.inr w)) (fun x e => by cases e; exact ⟨u, rfl, ry⟩)
      have e2 : (kvs.map fun p => some p.2).set n (some y) = (SK.dput kvs k y).map fun p => some p.2 := by rw [g4 y, List.map_set]
      rw [set_same c1, e2] at q
      have e3 : (SK.dput kvs k y).map (·.1) = kvs.map (·.1) := by
        rw [g4 y, List.map_set]
        exact set_same' (by rw [List.getElem?_map, g1]; rfl)
      exact .od (S' := fun b => S1' b ∨ U2 b) (.inr (.inl rfl)) (fun b z => z.imp id .inr) (fun z => z.elim (fun z => dj a z (.inl rfl)) fun z => hn (c3 a z)) (k' a _ (.inl rfl) hc) (by rw [e3]; exact nd) (by rw [e3]; exact ek) q
    | _ => cases g
  | @oi _ S4 a dx C ws kvs ha hd hs hn hn2 ne hca hcd ek rs =>
    cases s with
    | fld f0 =>
      obtain ⟨n, g1, g4⟩ := lookI (show kvs.lookup f0 = some o1 from g)
      obtain ⟨u, U1, U2, c1, c2, c3, c4, ru, f⟩ := rs.focus (i := n) (o := o1) (by rw [List.getElem?_map, g1]; rfl)
      refine ⟨u, U1, fun b => (b = a ∨ b = dx) ∨ U2 b, fun b z => hs b (c2 b z), fun b z => z.elim (fun e => e.elim (fun e => e ▸ ha) fun e => e ▸ hd) fun z => hs b (c3 b z), fun b z y => y.elim (fun e => e.elim (fun e => hn (e ▸ c2 b z)) fun e => hn2 (e ▸ c2 b z)) (c4 b z), ru, fun B' H' S1' y eb k' dj ry => ?_⟩
      have q := f B' H' S1' (some u) (some y) eb (fun b x z => k' b x (.inr z)) (fun b z w => dj b z (.inr w)) (fun x e => by cases e; exact ⟨u, rfl, ry⟩)
      have e2 : (kvs.map fun p => some p.2).set n (some y) = (SK.fput f0 y kvs).map fun p => some p.2 := by rw [g4 y, List.map_set]
      rw [set_same c1, e2] at q
      have e3 : (SK.fput f0 y kvs).map (·.1) = kvs.map (·.1) := by
        rw [g4 y, List.map_set]
        exact set_same' (by rw [List.getElem?_map, g1]; rfl)
      exact .oi (S' := fun b => S1' b ∨ U2 b) (.inr (.inl (.inl rfl))) (.inr (.inl (.inr rfl))) (fun b z => z.imp id .inr) (fun z => z.elim (fun z => dj a z (.inl (.inl rfl))) fun z => hn (c3 a z)) (fun z => z.elim (fun z => dj dx z (.inl (.inr rfl))) fun z => hn2 (c3 dx z)) ne
        (k' a _ (.inl (.inl rfl)) hca) (k' dx _ (.inl (.inr rfl)) hcd) (by rw [e3]; exact ek) q
    | _ => cases g
theorem RO.foc1 {s : Sel} : ∀ {o : O} {S : Ad} {v : V}, RO K B H S v o → o.get1 s = some o1 → ∃ (v1 : V) (S1 S2 : Ad), (∀ b, S1 b → S b) ∧ (∀ b, S2 b → S b) ∧ (∀ b, S1 b → ¬ S2 b) ∧ RO K B H S1 v1 o1 ∧
    ∀ B' H' S1' y, BLe B B' → (∀ b u, S2 b → H b = some u → H' b = some u) → (∀ b, S1' b → ¬ S2 b) → RO K B' H' S1' v1 y → RO K B' H' (fun b => S1' b ∨ S2 b) v (o.set1 y s)
  | .atA a o, S, v, r, g => by
    cases r with
    | atA r =>
      by_cases hs : s = .un
      · subst hs
        cases (show some o = some o1 from g)
        exact ⟨.ref a, S, fun _ => False, fun _ z => z, fun _ z => z.elim, fun _ _ z => z, r, fun B' H' S1' y eb k dj ry => .atA (ry.tr (.refl B') (fun _ z => .inl z) fun _ _ _ e => e)⟩
      have g' : o.get1 s = some o1 := by cases s <;> first | exact g | exact absurd rfl hs
      obtain ⟨v1, S1, S2, h2, h3, h4, h5, h6⟩ := RO.foc1 (o := o) r g'
      refine ⟨v1, S1, S2, h2, h3, h4, h5, fun B' H' S1' y eb k dj ry => ?_⟩
      have e : (O.atA a o).set1 y s = .atA a (o.set1 y s) := by cases s <;> first | rfl | exact absurd rfl hs
      rw [e]
      exact .atA (h6 B' H' S1' y eb k dj ry)
  | .d _, _, _, r, g => RO.foc0 (fun _ _ z => by cases z) r g
  | .ol _, _, _, r, g => RO.foc0 (fun _ _ z => by cases z) r g
  | .od _, _, _, r, g => RO.foc0 (fun _ _ z => by cases z) r g
  | .ot _, _, _, r, g => RO.foc0 (fun _ _ z => by cases z) r g
  | .oi _ _ _, _, _, r, g => RO.foc0 (fun _ _ z => by cases z) r g
  | .op _, _, _, r, g => RO.foc0 (fun _ _ z => by cases z) r g
theorem RO.focP : ∀ {p : List Sel} {S : Ad} {v : V} {o : O}, RO K B H S v o → o.getP p = some o1 → ∃ (v1 : V) (S1 S2 : Ad), (∀ b, S1 b → S b) ∧ (∀ b, S2 b → S b) ∧ (∀ b, S1 b → ¬ S2 b) ∧ RO K B H S1 v1 o1 ∧
    ∀ B' H' S1' y, BLe B B' → (∀ b u, S2 b → H b = some u → H' b = some u) → (∀ b, S1' b → ¬ S2 b) → RO K B' H' S1' v1 y → RO K B' H' (fun b => S1' b ∨ S2 b) v (o.setP y p)
  | [], S, v, o, r, g => by
    cases g
    exact ⟨v, S, fun _ => False, fun _ z => z, fun _ z => z.elim, fun _ _ z => z, r, fun B' H' S1' y _ _ _ ry => ry.tr (.refl B') (fun _ z => .inl z) fun _ _ _ e => e⟩
  | s :: p, S, v, o, r, g => by
    unfold O.getP at g
    cases e : o.get1 s with
    | none => rw [e] at g; cases g
    | some u =>
      rw [e] at g
      obtain ⟨v1, S1, S2, h2, h3, h4, h5, h6⟩ := r.foc1 e
      obtain ⟨v2, T1, T2, k2, k3, k4, k5, k6⟩ := RO.focP h5 g
      refine ⟨v2, T1, fun b => T2 b ∨ S2 b, fun b z => h2 b (k2 b z), fun b z => z.elim (fun z => h2 b (k3 b z)) (h3 b), fun b z y => y.elim (k4 b z) (h4 b (k2 b z)), k5, fun B' H' S1' y eb k dj ry => ?_⟩
      have q1 := k6 B' H' S1' y eb (fun b x z => k b x (.inl z)) (fun b z w => dj b z (.inl w)) ry
      have q2 := h6 B' H' _ _ eb (fun b x z => k b x (.inr z)) (fun b z w => z.elim (fun z => dj b z (.inr w)) fun z => h4 b (k3 b z) w) q1
      unfold O.setP
      rw [e]
      exact q2.tr (.refl B') (fun b z => z.elim (fun z => z.imp id .inl) fun z => .inr (.inr z)) fun _ _ _ e => e
/-- the part at a place of slot i, its cell a rewritten, what is held on top gone into it -/
theorem HW.mutA (h : HW K F B0 (w :: τ) (oe :: T) σ Γ H B S) (e : Γ[i]? = some (some o)) (g : o.getP p = some o1) : ∃ (v1 : V) (S1 So : Ad), RO K B H S1 v1 o1 ∧ RO K B H So w oe ∧ (∀ b, S1 b → ¬ So b) ∧ (∀ b, S1 b → H b ≠ none) ∧ (∀ b, So b → H b ≠ none) ∧
    ∀ a c y, S1 a → RO K B (upd H a c) (fun b => S1 b ∨ So b) v1 y → ∃ S', HW K F B0 τ T σ (Γ.set i (some (o.setP y p))) (upd H a c) B S' := by
  obtain ⟨v, S1, So, a1, r1, ro, dj, n1, n2, f⟩ := h.mut2 e
  obtain ⟨v1, T1, T2, k2, k3, k4, k5, k6⟩ := r1.focP g
  refine ⟨v1, T1, So, k5, ro, fun b z => dj b (k2 b z), fun b z => n1 b (k2 b z), n2, fun a c y ha ry => ?_⟩
  have q := k6 B (upd H a c) _ y (.refl B) (fun b u z e => by rw [upd_ne (fun q => k4 a ha (by rw [← q]; exact z))]; exact e) (fun b z y => z.elim (fun z => k4 b z y) fun z => dj b (k3 b y) z) ry
  exact f a c _ (k2 a ha) (q.tr (.refl B) (fun b z => z.elim (fun z => z.imp (k2 b) id) fun z => .inl (k3 b z)) fun _ _ _ e => e)
theorem HW.mutA1 (h : HW K F B0 τ T σ Γ H B S) (e : Γ[i]? = some (some o)) (g : o.getP p = some o1) : ∃ (v1 : V) (S1 : Ad), RO K B H S1 v1 o1 ∧ (∀ b, S1 b → H b ≠ none) ∧
    ∀ a c y, S1 a → RO K B (upd H a c) S1 v1 y → ∃ S', HW K F B0 τ T σ (Γ.set i (some (o.setP y p))) (upd H a c) B S' := by
  obtain ⟨v1, S1, So, r1, _, _, n1, _, f⟩ := HW.mutA (h.pushd (v := .non) (x := .non) .non) e g
  exact ⟨v1, S1, r1, n1, fun a c y ha ry => f a c y ha (ry.tr (.refl B) (fun _ z => .inl z) fun _ _ _ e => e)⟩
/-- te[n] = e, a list -/
theorem gog_setLA {xs : List O} (hv : Views Γ Γv) (hw : Views Γ Γw) (ev : ∀ F' B', Go K F' B' te [] Γv fun o _ => o = .d (.ref a)) (e0 : Γ[i]? = some (some o1)) (g : o1.getP p = some (.atA a (.ol xs)))
    (h : ∀ F' B', Go K F' B' ti [] Γw fun okk _ => ∃ (n : Int) (k : Nat), okk = .d (.int n) ∧ ixN xs.length n = some k ∧ k < xs.length ∧ posts1 (Γ.set i (some (o1.setP (.atA a (.ol (xs.set k o))) p)))) : GoG K F B0 (gSub te ti rSetG) o T Γ posts1 := fun τ σ H v1 Q ⟨B1, S1, w1⟩ k' => by
  refine w1.evA hv ev fun H2 B2 S2 ex2 w2 => ?_
  refine w2.evL (P := fun okk => ∃ (n : Int) (k : Nat), okk = .d (.int n) ∧ ixN xs.length n = some k ∧ k < xs.length ∧ posts1 (Γ.set i (some (o1.setP (.atA a (.ol (xs.set k o))) p)))) hw (fun F' B' τ σ H Q hw' kk => h F' B' τ σ H Q hw' fun v o Γ' H' ⟨n, k, e, hp⟩ w => kk v o Γ' H' ⟨by rw [e]; rfl, n, k, e, hp⟩ w) fun v2 o2 H3 B3 S3 ex3 ⟨n, k, eo, n0, n1, h2⟩ w3 => ?_
  subst eo
  obtain ⟨rk, S4, _, w4⟩ := w3.popd
  cases rk
  obtain ⟨u', S5, So, r2, ro, dj, _, _, f⟩ := w4.mutA e0 g
  cases r2 with
  | atA r2 =>
  cases r2 with
  | @ol _ S6 _ ws _ ha hs hn hc rs =>
  have len : ws.length = xs.length := by simpa using rs.len
  refine .inl ⟨a, ws, n, k, rfl, rfl, hc, by rw [len]; exact n0, ?_⟩
  obtain ⟨S', w5⟩ := f a (.lst (ws.set k v1)) (.atA a (.ol (xs.set k o))) ha (.atA (.ol (S' := fun b => S6 b ∨ So b) (.inl ha) (fun b z => z.imp (hs b) id) (fun z => z.elim hn fun z => dj a ha z) upd_same
    ((rs.setAt n1 ro fun b z => dj b (hs b z)).at fun b u z q => by
      rw [upd_ne (fun e => by subst e; exact z.elim hn fun z => dj b ha z)]; exact q)))
  exact k' σ _ _ h2 ⟨B3, S', w5⟩
end
end SK
namespace SK
open PySem PySem.Spec PyProof.Rows L2
section
variable {K : PySem.W.Frag} {F B0 H B H' B' : Hp} {τ : List V} {T : List O} {σ : L2.St} {Γ Γv Γw : En} {S S1 : Ad} {v w : V} {o oe o1 o' u : O} {i j : Nat} {a : Addr} {p : List Sel} {te tv ti : TE} {tt : TT} {post : O → En → Prop} {postt : Bool → En → Prop} {posts1 : En → Prop} {Dd : EG} {P : O → Prop} {s : TS} {f : Str} {C : Addr} {fs : Fs}
theorem seqIdx_bd {n : Int} {l k : Nat} (h : seqIndex? n l = some k) (hl : l < 100000) : n < 2 ^ 63 ∧ -(2 ^ 63) ≤ n := by
  unfold seqIndex? at h
  dsimp only at h
  generalize hj : (if n < 0 then n + (l : Int) else n) = j at h
  split at h
  · rename_i hq
    simp only [Bool.and_eq_true, decide_eq_true_eq] at hq
    obtain ⟨q1, q2⟩ := hq
    split at hj <;> constructor <;> omega
  · cases h
theorem RS.erase : ∀ {n : Nat} {vs : List V} {xs : List O} {S : Ad}, RS K B H S ((vs.map some).set n none) ((xs.map some).set n none) → n < xs.length → RS K B H S ((vs.eraseIdx n).map some) ((xs.eraseIdx n).map some)
  | _, _, [], _, _, hl => by simp at hl
  | 0, v :: vs, x :: xs, _, r, _ => by
    rw [List.map_cons, List.map_cons, List.set_cons_zero, List.set_cons_zero] at r
    cases r with | un r => exact r
  | n + 1, v :: vs, x :: xs, _, r, hl => by
    rw [List.map_cons, List.map_cons, List.set_cons_succ, List.set_cons_succ] at r
    cases r with
    | cons s1 s2 d r t => exact .cons s1 s2 d r (RS.erase t (by simpa using hl))
  | 0, [], x :: xs, _, r, _ => by
    rw [List.map_cons, List.set_cons_zero] at r; cases r
  | n + 1, [], x :: xs, _, r, _ => by
    rw [List.map_cons, List.set_cons_succ] at r; cases r
/-- te.pop(n) -/
theorem go_popA {xs : List O} (hv : Views Γ Γv) (hw : Views Γ Γw) (ev : ∀ F' B', Go K F' B' te [] Γv fun o _ => o = .d (.ref a)) (e0 : Γ[i]? = some (some o1)) (g : o1.getP p = some (.atA a (.ol xs))) (hz : xs.length < 100000)
    (h : ∀ F' B', Go K F' B' ti [] Γw fun okk _ => ∃ (n : Int) (k : Nat) (y : O), okk = .d (.int n) ∧ seqIndex? n xs.length = some k ∧ xs[k]? = some y ∧ post y (Γ.set i (some (o1.setP (.atA a (.ol (xs.eraseIdx k))) p)))) : Go K F B0 (tBM K "list" rPopAt te (tCons ti tNil)) T Γ post := fun τ σ H Q ⟨B1, S1, w1⟩ kk => by
  refine HW.evA (te := te) hv ev w1 fun H2 B2 S2 ex2 w2 => ?_
  obtain ⟨u0, S0, r0, _, _⟩ := w2.mutA1 e0 g
  cases r0 with
  | atA r0 =>
  cases r0 with
  | @ol _ _ _ vs0 _ _ _ _ hc0 _ =>
  refine ⟨Or.inl ⟨rfl, vs0, SqL.of hc0⟩, ?_⟩
  refine HW.evL (te := ti) (P := fun okk => ∃ (n : Int) (k : Nat) (y : O), okk = .d (.int n) ∧ seqIndex? n xs.length = some k ∧ xs[k]? = some y ∧ post y (Γ.set i (some (o1.setP (.atA a (.ol (xs.eraseIdx k))) p)))) hw (fun F' B' τ σ H Q hw' kk => h F' B' τ σ H Q hw' fun v o Γ' H' ⟨n, k, y, e, hp⟩ w => kk v o Γ' H' ⟨by rw [e]; rfl, n, k, y, e, hp⟩ w) w2 fun v2 o2 H3 B3 S3 ex3 ⟨n, k, y, eo, n0, n1, h2⟩ w3 => ?_
  subst eo
  obtain ⟨rk, S4, _, w4⟩ := w3.popd
  cases rk
  obtain ⟨v, T1, T2, a1, b1, c1, d1, r1, f⟩ := w4.slot e0
  obtain ⟨u', U1, U2, k2, k3, k4, k5, k6⟩ := r1.focP g
  cases k5 with
  | atA k5 =>
  cases k5 with
  | @ol _ S6 _ us _ ha hs hn hc rs =>
  have len : us.length = xs.length := by simpa using rs.len
  have hk : k < xs.length := (List.getElem?_eq_some_iff.mp n1).1
  obtain ⟨x, X1, X2, c1', c2, c3, c4, rx, fx⟩ := rs.focus (i := k) (o := y) (by rw [List.getElem?_map, n1]; rfl)
  have hx : us[k]? = some x := by
    rw [List.getElem?_map] at c1'
    cases q : us[k]? with
    | none => rw [q] at c1'; cases c1'
    | some z => rw [q] at c1'; cases c1'; rfl
  have nk := seqIdx_bd n0 hz
  refine ⟨a, us, n, k, x, rfl, rfl, hc, nk.2, nk.1, by rw [len]; exact n0, hx, ?_⟩
  have rest : RS K B3 H3 X2 ((us.eraseIdx k).map some) ((xs.eraseIdx k).map some) := by
    have q := fx B3 H3 (fun _ => False) none none (.refl B3) (fun _ _ _ e => e) (fun _ z => z.elim) (fun x e => by cases e)
    exact (RS.erase q hk).tr (.refl B3) (fun b z => z.elim False.elim id) fun _ _ _ e => e
  have ne : ∀ b, U2 b → b ≠ a := fun b z q => k4 a ha (q ▸ z)
  have nx1 : ∀ b, X1 b → b ≠ a := fun b z q => hn (q ▸ c2 b z)
  have nt : ∀ b, T2 b → b ≠ a := fun b z q => d1 a (k2 a ha) (q ▸ z)
  have q1 := k6 B3 (upd H3 a (.lst (us.eraseIdx k))) (fun b => b = a ∨ X2 b) (.atA a (.ol (xs.eraseIdx k))) (.refl B3) (fun b u z e => by rw [upd_ne (ne b z)]; exact e) (fun b z y => z.elim (fun q => ne b y q) fun z => k4 b (hs b (c3 b z)) y)
    (.atA (.ol (S' := X2) (.inl rfl) (fun _ z => .inr z) (fun z => hn (c3 a z)) upd_same (rest.at fun b u z q => by rw [upd_ne (fun e => by subst e; exact hn (c3 _ z))]; exact q)))
  have q2 := f B3 (upd H3 a (.lst (us.eraseIdx k))) (fun b => (b = a ∨ X2 b) ∨ U2 b) (some v) (some (o1.setP (.atA a (.ol (xs.eraseIdx k))) p)) (.refl B3) (fun b u z e => by rw [upd_ne (nt b z)]; exact e)
    (fun b z y => z.elim (fun z => z.elim (fun q => nt b y q) fun z => d1 b (k2 b (hs b (c3 b z))) y) fun z => d1 b (k3 b z) y) (fun x e => by cases e; exact ⟨v, rfl, q1⟩)
  rw [set_same a1] at q2
  have ow4 := w4.ow
  have own : ∀ b, S4 b → F b = none ∧ B3 b = none ∧ upd H3 a (.lst (us.eraseIdx k)) b ≠ none := fun b z => by
    obtain ⟨z1, z2, z3⟩ := ow4 b z
    refine ⟨z1, z2, ?_⟩
    by_cases q : b = a
    · rw [q, upd_same]; simp
    · rw [upd_ne q]; exact z3
  have aS : S4 a := b1 a (k2 a ha)
  refine kk x y _ _ h2 ⟨B3, fun b => X1 b ∨ (((b = a ∨ X2 b) ∨ U2 b) ∨ T2 b), ⟨fun b u z => ?_, fun b u z => ?_, w4.b0, fun b z => own b ?_, w4.nw, .cons (S1 := X1) (S2 := fun b => ((b = a ∨ X2 b) ∨ U2 b) ∨ T2 b) (fun _ z => .inl z) (fun _ z => .inr z) (fun b z y => ?_) (rx.tr (.refl B3) (fun _ z => z) fun b u z e => by rw [upd_ne (nx1 b z)]; exact e) q2, by simp [w4.lt]⟩⟩
  · have hne : b ≠ a := fun q => by rw [q, (ow4 a aS).1] at z; cases z
    rw [upd_ne hne]; exact w4.fr b u z
  · have hne : b ≠ a := fun q => by rw [q, (ow4 a aS).2.1] at z; cases z
    rw [upd_ne hne]; exact w4.pu b u z
  · rcases z with z | ((z | z) | z) | z
    · exact b1 b (k2 b (hs b (c2 b z)))
    · exact z ▸ aS
    · exact b1 b (k2 b (hs b (c3 b z)))
    · exact b1 b (k3 b z)
    · exact c1 b z
  · rcases y with ((y | y) | y) | y
    · exact nx1 b z y
    · exact c4 b z y
    · exact k4 b (hs b (c2 b z)) y
    · exact d1 b (k2 b (hs b (c2 b z))) y
/-- te.insert(n, e) -/
theorem gos_insA {xs : List O} (hv : Views Γ Γv) (hw : Views Γ Γw) (ev : ∀ F' B', Go K F' B' te [] Γv fun o _ => o = .d (.ref a)) (e0 : Γ[i]? = some (some o1)) (g : o1.getP p = some (.atA a (.ol xs))) (hz : xs.length < 100000)
    (h : ∀ F' B', Go K F' B' ti [] Γw fun okk _ => ∃ n : Int, okk = .d (.int n) ∧ 0 ≤ n ∧ n < 2 ^ 63 ∧ ∀ F' B', Go K F' B' tv [] Γw fun oe _ => oe.lf = true ∧ Dd.nx (Γ.set i (some (o1.setP (.atA a (.ol (xs.take n.toNat ++ [oe] ++ xs.drop n.toNat))) p)))) : GoS K F B0 (tDrop (tBM K "list" rInsert te (tCons ti (tCons tv tNil)))) T Γ Dd := fun τ σ H De ⟨B1, S1, w1⟩ s => by
  refine HW.evA (te := te) hv ev w1 fun H2 B2 S2 ex2 w2 => ?_
  obtain ⟨u0, S0, r0, _, _⟩ := w2.mutA1 e0 g
  cases r0 with
  | atA r0 =>
  cases r0 with
  | @ol _ _ _ vs0 _ _ _ _ hc0 _ =>
  refine ⟨Or.inl ⟨rfl, vs0, SqL.of hc0⟩, ?_⟩
  refine HW.evL (te := ti) (P := fun okk => ∃ n : Int, okk = .d (.int n) ∧ 0 ≤ n ∧ n < 2 ^ 63 ∧ ∀ F' B', Go K F' B' tv [] Γw fun oe _ => oe.lf = true ∧ Dd.nx (Γ.set i (some (o1.setP (.atA a (.ol (xs.take n.toNat ++ [oe] ++ xs.drop n.toNat))) p)))) hw (fun F' B' τ σ H Q hw' kk => h F' B' τ σ H Q hw' fun v o Γ' H' ⟨n, e, hp⟩ w => kk v o Γ' H' ⟨by rw [e]; rfl, n, e, hp⟩ w) w2 fun v2 o2 H3 B3 S3 ex3 ⟨n, eo, n0, n1, h2⟩ w3 => ?_
  subst eo
  obtain ⟨rk, S4, _, w4⟩ := w3.popd
  cases rk
  refine HW.evL (te := tv) hw h2 w4 fun v5 oe H5 B5 S5 ex5 h5 w5 => ?_
  obtain ⟨u', S6, So, r2, ro, dj, _, _, f⟩ := w5.mutA e0 g
  cases r2 with
  | atA r2 =>
  cases r2 with
  | @ol _ S7 _ us _ ha hs hn hc rs =>
  have len : us.length = xs.length := by simpa using rs.len
  refine ⟨a, us, n, v5, rfl, rfl, hc, by rw [len]; exact Nat.lt_of_lt_of_le hz (by decide), n0, n1, ?_⟩
  obtain ⟨S', w7⟩ := f a (.lst (us.take n.toNat ++ [v5] ++ us.drop n.toNat)) (.atA a (.ol (xs.take n.toNat ++ [oe] ++ xs.drop n.toNat))) ha (.atA (.ol (S' := fun b => S7 b ∨ So b) (.inl ha) (fun b z => z.imp (hs b) id) (fun z => z.elim hn fun z => dj a ha z) upd_same (by
    refine RS.at (H := H5) (fun b u z q => by rw [upd_ne (fun e => by subst e; exact z.elim hn fun z => dj b ha z)]; exact q) ?_
    have r3 : RS K B5 H5 S7 ((us.take n.toNat).map some ++ (us.drop n.toNat).map some) ((xs.take n.toNat).map some ++ (xs.drop n.toNat).map some) := by
      rw [← List.map_append, ← List.map_append, List.take_append_drop, List.take_append_drop]; exact rs
    obtain ⟨A1, A2, x1, x2, x3, x4, x5⟩ := RS.split (by simp [len]) r3
    have y1 := RS.snoc ro x4 fun b z => dj b (hs b (x1 b z))
    have y2 := RS.join x5 (fun b z y => z.elim (fun z => x3 b z y) fun z => dj b (hs b (x2 b y)) z) y1
    rw [List.map_append, List.map_append, List.map_append, List.map_append]
    exact y2.tr (.refl B5) (fun b z => z.elim (fun z => z.imp (x1 b) id) fun z => .inl (x2 b z)) fun _ _ _ e => e)))
  exact s.nx σ _ _ h5 ⟨B5, S', w7⟩
/-- te.extend(e), e a list of data -/
theorem gos_extA {xs : List O} (hv : Views Γ Γv) (ev : ∀ F' B', Go K F' B' te [] Γv fun o _ => o = .d (.ref a)) (e0 : Γ[i]? = some (some o1)) {xs0 : List O} (g : o1.getP p = some (.atA a (.ol xs0)))
    (h : Go K F B0 tv T Γ fun oe Γ1 => ∃ i1 o2 p1 xs zs, oe = .ol zs ∧ Γ1[i1]? = some (some o2) ∧ o2.getP p1 = some (.atA a (.ol xs)) ∧ xs.length + zs.length ≤ 100000 ∧ Dd.nx (Γ1.set i1 (some (o2.setP (.atA a (.ol (xs ++ zs))) p1)))) : GoS K F B0 (tDrop (tBM K "list" rExtend te (tCons tv tNil))) T Γ Dd := fun τ σ H De ⟨B1, S1, w1⟩ s => by
  refine HW.evA (te := te) hv ev w1 fun H2 B2 S2 ex2 w2 => ?_
  obtain ⟨u0, S0, r0, _, _⟩ := w2.mutA1 e0 g
  cases r0 with
  | atA r0 =>
  cases r0 with
  | @ol _ _ _ vs0 _ _ _ _ hc0 _ =>
  refine ⟨Or.inl ⟨rfl, vs0, SqL.of hc0⟩, h τ σ H2 _ ⟨_, _, w2⟩ fun v2 oe Γ1 H3 ⟨i1, o2, p1, xs, zs, eo, e1, g1, hz, h2⟩ ⟨B3, S3, w3⟩ => ?_⟩
  subst eo
  obtain ⟨u', S5, So, r2, ro, dj, _, _, f⟩ := w3.mutA e1 g1
  cases r2 with
  | atA r2 =>
  cases r2 with
  | @ol _ S6 _ us _ ha hs hn hc rs =>
  cases ro with
  | @ol _ S7 b ws _ hb hbs hbn hbc brs =>
  have len : us.length = xs.length := by simpa using rs.len
  have len2 : ws.length = zs.length := by simpa using brs.len
  refine ⟨a, b, us, ws, rfl, rfl, hc, hbc, by rw [len, len2]; exact Nat.le_trans hz (by decide), ?_⟩
  obtain ⟨S', w5⟩ := f a (.lst (us ++ ws)) (.atA a (.ol (xs ++ zs))) ha (.atA (.ol (S' := fun b => S6 b ∨ S7 b) (.inl ha) (fun b z => z.imp (hs b) (hbs b)) (fun z => z.elim hn fun z => dj a ha (hbs a z)) upd_same (by
    rw [List.map_append, List.map_append]
    exact (RS.join brs (fun b z y => dj b (hs b z) (hbs b y)) rs).at fun b u z q => by
      rw [upd_ne (fun e => by subst e; exact z.elim hn fun z => dj b ha (hbs b z))]; exact q)))
  exact s.nx σ _ _ h2 ⟨B3, S', w5⟩
def RefO (o : O) : Prop := ∀ (K : PySem.W.Frag) (B H : Hp) (S : Ad) (v : V), RO K B H S v o → ∃ a, v = .ref a
theorem refO_ol {xs : List O} : RefO (.ol xs) := fun _ _ _ _ _ r => by cases r; exact ⟨_, rfl⟩
theorem refO_od {xs : List (Key × O)} : RefO (.od xs) := fun _ _ _ _ _ r => by cases r; exact ⟨_, rfl⟩
theorem HW.tellW (h : HW K F B0 τ T σ Γ H B S) (e : Γ[i]? = some (some o)) (w : Wkn o o') : HW K F B0 τ T σ (Γ.set i (some o')) H B S := by
  refine ⟨h.fr, h.pu, h.b0, h.ow, h.nw, ?_, h.lt⟩
  have e' : (T.map some ++ Γ)[τ.length + i]? = some (some o) := by
    rw [List.getElem?_append_right (by simp [h.lt]), List.length_map, ← h.lt, Nat.add_sub_cancel_left]
    exact e
  have q := h.rs.wk1 w e'
  rw [List.set_append_right _ _ (by simp [h.lt]), List.length_map, ← h.lt, Nat.add_sub_cancel_left] at q
  exact q
theorem gos_wkn (e : Γ[i]? = some (some o)) (w : Wkn o o') (h : GoS K F B0 s T (Γ.set i (some o')) Dd) : GoS K F B0 s T Γ Dd := fun τ σ H De ⟨B, S, hw⟩ q => h τ σ H De ⟨B, S, hw.tellW e w⟩ q
/-- there is a stronger telling, whatever the slots hold -/
theorem gos_lab (e : Γ[i]? = some (some o1)) (g : o1.getP p = some u) (hu : RefO u) (h : ∀ a, GoS K F B0 s T (Γ.set i (some (o1.setP (.atA a u) p))) Dd) : GoS K F B0 s T Γ Dd := fun τ σ H De ⟨B, S, hw⟩ q => by
  obtain ⟨v, S1, S2, a1, b1, c1, d1, r1, f⟩ := hw.slot e
  obtain ⟨v1, U1, U2, k2, k3, k4, k5, k6⟩ := r1.focP g
  obtain ⟨a, rfl⟩ := hu _ _ _ _ _ k5
  have q1 := k6 B H U1 (.atA a u) (.refl B) (fun _ _ _ e => e) k4 (.atA k5)
  have q2 := f B H (fun b => U1 b ∨ U2 b) (some v) (some (o1.setP (.atA a u) p)) (.refl B) (fun _ _ _ e => e) (fun b z y => z.elim (fun z => d1 b (k2 b z) y) fun z => d1 b (k3 b z) y) (fun x e => by cases e; exact ⟨v, rfl, q1⟩)
  rw [set_same a1] at q2
  exact h a τ σ H De ⟨B, _, hw.fr, hw.pu, hw.b0, fun b z => z.elim (fun z => z.elim (fun z => hw.ow b (b1 b (k2 b z))) fun z => hw.ow b (b1 b (k3 b z))) fun z => hw.ow b (c1 b z), hw.nw, q2, hw.lt⟩ q
end
end SK
namespace SK
open PySem PySem.Spec PyProof.Rows L2
abbrev Co := List O → (O → List O → Prop) → (Addr → Option (List (Str × D)) → List O → Prop) → Prop
def noO : Addr → Option (List (Str × D)) → List O → Prop := fun _ _ _ => False
structure BhO (K : PySem.W.Frag) (H H' B B' : Hp) (S S' : Ad) : Prop where
  fr : ∀ a u, ¬ S a → H a = some u → H' a = some u
  pu : Ex B' H'
  le : BLe B B'
  nw : ∀ a, B' a ≠ none → B a ≠ none ∨ H a = none ∨ S a
  ow : ∀ a, S' a → (S a ∨ H a = none) ∧ B' a = none ∧ H' a ≠ none
def spO (K : PySem.W.Frag) (C : Co) : Sp := fun vs H Q E => ∃ B S os p q, Ex B H ∧ RS K B H S (vs.map some) (os.map some) ∧ (∀ a, S a → B a = none ∧ H a ≠ none) ∧ C os p q ∧
  (∀ v o os' B' S' H', p o os' → BhO K H H' B B' S S' → RS K B' H' S' (some v :: vs.map some) (some o :: os'.map some) → Q v H') ∧
  (∀ Cc gs d os' B' S' H', q Cc gs os' → BhO K H H' B B' S S' → RS K B' H' S' (vs.map some) (os'.map some) → ExB K H' B' d gs → E (.ref Cc) d H')
section
variable {K : PySem.W.Frag} {F B0 H B H' B' : Hp} {τ : List V} {T : List O} {σ : L2.St} {Γ Γv Γh : En} {S S1 Si : Ad} {v w : V} {o oe o1 o' u : O} {i j : Nat} {a : Addr} {p : List Sel} {te tv ti : TE} {post : O → En → Prop} {vs : List V} {os os' : List O} {xs : List D}
theorem spO_len {C : Co} {n : Nat} (h : ∀ os p q, C os p q → os.length = n) {Q : VK} {E : XK} (s : spO K C vs H Q E) : vs.length = n := by
  obtain ⟨B, S, os, p, q, _, rs, _, c, _⟩ := s
  have := rs.len
  simp at this
  rw [this]; exact h os p q c
/-- the parameters as a body leaves them: things of their own by their addresses, data as they were -/
def ExitO : List O → List O → En → Prop
  | [], [], _ => True
  | .d x :: os, o' :: os', _ :: Γ => o' = .d x ∧ ExitO os os' Γ
  | o :: os, o' :: os', g :: Γ => (∃ a, o.addr = some a ∧ o'.addr = some a) ∧ g = some o' ∧ ExitO os os' Γ
  | _, _, _ => False
theorem exit_rs (le : BLe B B') : ∀ {os os' : List O} {Γ : En} {vs : List V} {σ : L2.St} {Si S : Ad}, RS K B H Si (vs.map some) (os.map some) → RS K B' H' S σ Γ → ExitO os os' Γ → ∃ S', (∀ b, S' b → S b) ∧ RS K B' H' S' (vs.map some) (os'.map some)
  | [], [], _, [], _, _, S, _, _, _ => ⟨fun _ => False, fun _ z => z.elim, .nil⟩
  | o :: os, o' :: os', g :: Γ, v :: vs, s :: σ, Si, S, .cons s1 s2 d r t, r2, e => by
    have tl : ∃ S2, (∀ b, S2 b → S b) ∧ RS K B' H' S2 σ Γ ∧ ∀ o2, g = some o2 → ∃ w S1, s = some w ∧ (∀ b, S1 b → S b) ∧ (∀ b, S1 b → ¬ S2 b) ∧ RO K B' H' S1 w o2 := by
      cases r2 with
      | un r => exact ⟨S, fun _ z => z, r, fun _ z => by cases z⟩
      | cons t1 t2 dd rr tt => exact ⟨_, t2, tt, fun o2 z => by cases z; exact ⟨_, _, rfl, t1, dd, rr⟩⟩
    obtain ⟨S2, q1, q2, q3⟩ := tl
    by_cases hd : ∃ x, o = .d x
    · obtain ⟨x, rfl⟩ := hd
      obtain ⟨rfl, e2⟩ := e
      obtain ⟨S3, z1, z2⟩ := exit_rs le t q2 e2
      cases r with | d r =>
      exact ⟨S3, fun b z => q1 b (z1 b z), .cons (S1 := fun _ => False) (S2 := S3) (fun _ z => z.elim) (fun _ z => z) (fun _ z => z.elim) (.d (r.mono le)) z2⟩
    · have e2 : (∃ a, o.addr = some a ∧ o'.addr = some a) ∧ g = some o' ∧ ExitO os os' Γ := by
        cases o with
        | d x => exact absurd ⟨x, rfl⟩ hd
        | _ => exact e
      obtain ⟨⟨a, a1, a2⟩, rfl, e3⟩ := e2
      obtain ⟨w, S1, rfl, k1, k2, k3⟩ := q3 _ rfl
      cases r.addr a1
      cases k3.addr a2
      obtain ⟨S3, z1, z2⟩ := exit_rs le t q2 e3
      exact ⟨fun b => S1 b ∨ S3 b, fun b z => z.elim (k1 b) fun z => q1 b (z1 b z), .cons (S1 := S1) (S2 := S3) (fun _ z => .inl z) (fun _ z => .inr z) (fun b z y => k2 b z (z1 b y)) k3 z2⟩
  | [], _ :: _, _, _, _, _, _, _, _, e => by cases e
  | _ :: _, [], _, _, _, _, _, _, _, e => by
    rename_i o os Γ _ _ _ _ _ _
    cases o <;> cases Γ <;> cases e
  | _ :: _, _ :: _, [], _, _, _, _, _, _, e => by
    rename_i o os o' os' _ _ _ _ _ _
    cases o <;> cases e
  | _ :: _, _ :: _, _ :: _, _ :: _, [], _, _, _, r2, _ => by cases r2
theorem RS.start0 {n : Nat} : ∀ {vs : List V} {os : List O} {S : Ad}, RS K B H S (vs.map some) (os.map some) → RS K B H S (vs.map some ++ List.replicate n none) (os.map some ++ List.replicate n none)
  | [], [], S, _ => by
    show RS K B H _ (List.replicate n none) (List.replicate n none)
    induction n with
    | zero => exact .nil
    | succ n ih => rw [List.replicate_succ, List.replicate_succ]; exact .un ih
  | _ :: _, _ :: _, _, .cons s1 s2 d r t => .cons s1 s2 d r (RS.start0 t)
/-- the body's reading gives the promise -/
theorem spO_body {C : Co} {N : List Str} {Q : VK} {E : XK} {X : Cx} {body : List Stmt} (s : spO K C vs H Q E)
    (h : ∀ F B os p q, C os p q → os.length = vs.length → (∀ Cc gs d σ Γ H', (∃ os', ExitO os os' Γ ∧ q Cc gs os') → HoX K F B σ Γ H' d gs → E (.ref Cc) d H') →
      ∃ t, PSs X body t ∧ GoS K F B t [] (os.map some ++ List.replicate (N.length - os.length) none) { nx := fun Γ' => ∃ os', ExitO os os' Γ' ∧ p (.d .non) os', rt := fun o' Γ' => ∃ os', ExitO os os' Γ' ∧ p o' os' }) :
    ∃ t, PSs X body t ∧ t { nx := fun _ H' => Q .non H', rt := Q } (L2.start N vs) H := by
  obtain ⟨B, S, os, p, q, pu, rs, hS, c, k, kx⟩ := s
  have hl : os.length = vs.length := by have := rs.len; simpa using this.symm
  have bh : ∀ {τ : List V} {T : List O} {σ : L2.St} {Γ : En} {H' : Hp} {B' : Hp} {S' S1 : Ad}, HW K (offH H S) B τ T σ Γ H' B' S' → (∀ b, S1 b → S' b) → BhO K H H' B B' S S1 := fun w s1 =>
    ⟨fun a u n e => w.fr a u (by rw [offH_no n]; exact e), w.pu, w.b0, fun a z => by
      rcases w.nw a z with y | y
      · exact .inl y
      · by_cases q : S a
        · exact .inr (.inr q)
        · rw [offH_no q] at y; exact .inr (.inl y), fun a z => by
      obtain ⟨q1, q2, q3⟩ := w.ow a (s1 a z)
      refine ⟨?_, q2, q3⟩
      by_cases q : S a
      · exact .inl q
      · rw [offH_no q] at q1; exact .inr q1⟩
  have out : ∀ {v : V} {o : O} {σ : L2.St} {Γ : En} {H' : Hp} {os' : List O} {B' : Hp} {S' : Ad}, ExitO os os' Γ → HW K (offH H S) B [v] [o] σ Γ H' B' S' → ∃ S1, BhO K H H' B B' S S1 ∧ RS K B' H' S1 (some v :: vs.map some) (some o :: os'.map some) := by
    intro v o σ Γ H' os' B' S' e w
    obtain ⟨S1, S2, s1, s2, dj, r, w2⟩ := w.pop
    obtain ⟨S3, z1, z2⟩ := exit_rs w.b0 rs w2.rs e
    exact ⟨fun b => S1 b ∨ S3 b, bh w fun b z => z.elim (s1 b) fun z => s2 b (z1 b z), .cons (S1 := S1) (S2 := S3) (fun _ z => .inl z) (fun _ z => .inr z) (fun b z y => dj b z (z1 b y)) r z2⟩
  obtain ⟨t, ht, g⟩ := h (offH H S) B os p q c hl fun Cc gs d σ Γ H' ⟨os', e, hq⟩ ⟨B', S', w, hd⟩ => by
    obtain ⟨S3, z1, z2⟩ := exit_rs w.b0 rs w.rs e
    exact kx Cc gs d os' B' S3 H' hq (bh w z1) z2 hd
  refine ⟨t, ht, g [] (L2.start N vs) H _ ⟨B, S, fun b u e => ?_, pu, .refl B, fun b z => ⟨offH_at z, (hS b z).1, (hS b z).2⟩, fun _ z => .inl z, ?_, rfl⟩ ⟨fun σ Γ H' ⟨os', e, hp⟩ ⟨B', S', w⟩ => ?_, fun v o' σ Γ H' ⟨os', e, hp⟩ ⟨B', S', w⟩ => ?_, fun _ _ _ z => z.elim, fun _ _ _ z => z.elim⟩⟩
  · by_cases z : S b
    · rw [offH_at z] at e; cases e
    · rw [offH_no z] at e; exact e
  · show RS K B H S ([] ++ L2.start N vs) _
    rw [List.nil_append, L2.start, hl]
    exact rs.start0
  · obtain ⟨S1, b1, r1⟩ := out (v := .non) (o := .d .non) e (w.pushd .non)
    exact k .non _ os' B' S1 H' hp b1 r1
  · obtain ⟨S1, b1, r1⟩ := out e w
    exact k v o' os' B' S1 H' hp b1 r1
theorem HW.lendL (hv : Views Γ Γv) (w : HW K F B0 τ T σ Γ H B S) : ∃ Bf, Ho K H Bf [] [] σ Γv H ∧
    (∀ Γ1 H1, Ho K H Bf [] [] σ Γ1 H1 → Ho K F B0 τ T σ Γ H1) ∧
    ∀ vs' os' Γ1 H1, Ho K H Bf vs' os' σ Γ1 H1 → (∀ o ∈ os', o.lf = true) → Ho K F B0 (vs' ++ τ) (os' ++ T) σ Γ H1 := by
  obtain ⟨Sp, Ss, p1, p2, p3, rp, rsl⟩ := RS.split (σ0 := τ.map some) (Γ0 := T.map some) (by simp [w.lt]) w.rs
  obtain ⟨L, l1, r2, l3⟩ := rsl.tight
  have bn : ∀ a, L a → B a = none ∧ H a ≠ none := fun a z => (w.ow a (p2 a (l1 a z))).2
  have ex : Ex B (SK.frz B H L) := frz_ex fun a z => (bn a z).1
  have le0 : BLe B (SK.frz B H L) := .of_ex ex
  have main : ∀ vs' os' Γ1 H1, Ho K H (SK.frz B H L) vs' os' σ Γ1 H1 → (∀ o ∈ os', o.lf = true) → Ho K F B0 (vs' ++ τ) (os' ++ T) σ Γ H1 := by
    intro vs' os' Γ1 H1 ⟨B1, Sr, w1⟩ lf
    obtain ⟨T1, T2, t1, t2, dj, ro, _⟩ := RS.split (σ0 := vs'.map some) (Γ0 := os'.map some) (by simp [w1.lt]) w1.rs
    have hB : ∀ a u, B a = some u → ¬ L a := fun a u q z => by rw [(bn a z).1] at q; cases q
    have off : ∀ a u, ¬ L a → B1 a = some u → offH B1 L a = some u := fun a u z q => by rw [offH_no z]; exact q
    have offR : ∀ a u, ¬ L a → Rd B1 a u → Rd (offH B1 L) a u := fun a u z q => q.elim (fun q => .inl (off a _ z q)) fun ⟨o, q⟩ => .inr ⟨o, off a _ z q⟩
    have nL : ∀ a u, Rd B a u → ¬ L a := fun a u q => q.elim (hB a _) fun ⟨o, q⟩ => hB a _ q
    have le : BLe B (offH B1 L) := by
      have l := le0.trans w1.b0
      exact ⟨fun a xs q => offR a _ (nL a _ q) (l.tup a xs q), fun a xs q => offR a _ (nL a _ q) (l.lst a xs q), fun a xs q => off a _ (hB a _ q) (l.ls a xs q), fun a xs q => offR a _ (nL a _ q) (l.dK a xs q), fun a xs q => offR a _ (nL a _ q) (l.dT a xs q), fun a C dx fs q => off a _ (hB a _ q) (l.ins a C dx fs q)⟩
    have pu : Ex (offH B1 L) H1 := fun a u q => by
      by_cases z : L a
      · rw [offH_at z] at q; cases q
      · rw [offH_no z] at q; exact w1.pu a u q
    have sq : ∀ a xs, SqT K B1 a xs → SqT K (offH B1 L) a xs := fun a xs q => q.imp (fun q => by
      refine offR a _ (fun z => ?_) q
      have q2 : ∃ u, B1 a = some u ∧ (u = .tup xs ∨ ∃ o, u = .frz o (.tup xs)) := q.elim (fun q => ⟨_, q, .inl rfl⟩) fun ⟨o, q⟩ => ⟨_, q, .inr ⟨o, rfl⟩⟩
      obtain ⟨u, q3, q4⟩ := q2
      have q5 := w1.pu a u q3
      rcases l3 a z with ⟨_, y⟩ | ⟨_, y⟩ | ⟨_, y⟩ | ⟨_, _, _, y⟩ | ⟨_, y⟩ <;>
        (rw [w1.fr a _ y] at q5
         cases q5
         rcases q4 with q4 | ⟨_, q4⟩ <;> cases q4)) id
    refine ⟨offH B1 L, fun a => T1 a ∨ S a, w.fr.trans w1.fr, pu, w.b0.trans le, fun a z => ?_, fun a z => ?_, by rw [List.map_append, List.map_append, List.append_assoc, List.append_assoc]; exact RS.join (S2 := S) (w.rs.tr le (fun _ z => z) fun a u _ q => w1.fr a u q) (fun a z y => (w.ow a y).2.2 (w1.ow a (t1 a z)).1) (RS.lf sq ro fun o ho => by obtain ⟨y, hy, e⟩ := List.mem_map.mp ho; cases e; exact lf o hy), by simp [w.lt, w1.lt]⟩
    · rcases z with z | z
      · obtain ⟨q1, q2, q3⟩ := w1.ow a (t1 a z)
        refine ⟨w.fr.back q1, ?_, q3⟩
        by_cases y : L a
        · exact offH_at y
        · rw [offH_no y]; exact q2
      · obtain ⟨q1, q2, q3⟩ := w.ow a z
        refine ⟨q1, ?_, fun q => q3 (w1.fr.back q)⟩
        by_cases y : L a
        · exact offH_at y
        · rw [offH_no y]
          cases q : B1 a with
          | none => rfl
          | some u =>
            rcases w1.nw a (by rw [q]; simp) with x | x
            · rw [frz_no y] at x; exact absurd q2 x
            · exact absurd x q3
    · by_cases y : L a
      · exact absurd (offH_at y) z
      · rw [offH_no y] at z
        rcases w1.nw a z with x | x
        · rw [frz_no y] at x; exact w.nw a x
        · exact .inr (w.fr.back x)
  refine ⟨SK.frz B H L, ⟨SK.frz B H L, fun _ => False, .refl H, fun a u q => ?_, .refl _, fun _ z => z.elim, fun _ z => .inl z, ?_, rfl⟩, fun Γ1 H1 ⟨B1, S1, w1⟩ => ?_, main⟩
  · by_cases z : L a
    · rw [frz_at z] at q; exact q
    · rw [frz_no z] at q; exact w.pu a u q
  · exact hv K B H _ L σ r2 le0 (fun a u z q => by rw [frz_at z]; exact q)
  · exact main [] [] Γ1 H1 ⟨_, _, w1⟩ (fun _ h => by cases h)
/-- arguments: data as they are, an address for the thing itself -/
inductive SubO : List D → List O → List (Addr × O) → Prop
  | nil : SubO [] [] []
  | dat {x xs os us} : SubO xs os us → SubO (x :: xs) (.d x :: os) us
  | own {a u xs os us} : SubO xs os us → SubO (.ref a :: xs) (u :: os) ((a, u) :: us)
abbrev uV (us : List (Addr × O)) : List V := us.map fun q => .ref q.1
abbrev uO (us : List (Addr × O)) : List O := us.map (·.2)
theorem SubO.pack : ∀ {xs : List D} {os : List O} {us : List (Addr × O)} {vs : List V} {S : Ad}, SubO xs os us → RL K B vs xs → RS K B H S ((uV us).map some) ((uO us).map some) → RS K B H S (vs.map some) (os.map some)
  | _, _, _, _, _, .nil, .nil, r => r
  | _, _, _, _, S, .dat h, .cons r t, q => .cons (S1 := fun _ => False) (S2 := S) (fun _ z => z.elim) (fun _ z => z) (fun _ z => z.elim) (.d r) (h.pack t q)
  | _, _, _, _, _, .own h, .cons r t, .cons s1 s2 d ro q => by
    cases r
    exact .cons s1 s2 d ro (h.pack t q)
theorem SubO.unpack : ∀ {xs : List D} {os : List O} {us : List (Addr × O)} {vs : List V} {S : Ad}, SubO xs os us → RL K B vs xs → RS K B' H S (vs.map some) (os.map some) → RS K B' H S ((uV us).map some) ((uO us).map some)
  | _, _, _, _, _, .nil, .nil, r => r.tr (.refl B') (fun _ z => z) fun _ _ _ e => e
  | _, _, _, _, S, .dat h, .cons r t, .cons s1 s2 d ro q => (h.unpack t q).tr (.refl B') s2 fun _ _ _ e => e
  | _, _, _, _, _, .own h, .cons r t, .cons s1 s2 d ro q => by
    cases r
    exact .cons s1 s2 d ro (h.unpack t q)
/-- what stands behind such a call -/
theorem HW.behO {us : List (Addr × O)} {vs' : List V} {os'' : List O} (w : HW K F B0 (uV us ++ τ) (uO us ++ T) σ Γ H B S) {Su Sr : Ad} (s1 : ∀ b, Su b → S b) (s2 : ∀ b, Sr b → S b) (dj : ∀ b, Su b → ¬ Sr b) (rr : RS K B H Sr (τ.map some ++ σ) (T.map some ++ Γ)) (lt : τ.length = T.length)
    (bh : BhO K H H' B B' Su S1) (r1 : RS K B' H' S1 (vs'.map some) (os''.map some)) (ll : vs'.length = os''.length) : ∃ S', HW K F B0 (vs' ++ τ) (os'' ++ T) σ Γ H' B' S' := by
  have d1 : ∀ b, S1 b → ¬ Sr b := fun b z y => by
    rcases (bh.ow b z).1 with q | q
    · exact dj b q y
    · exact (w.ow b (s2 b y)).2.2 q
  refine ⟨fun b => S1 b ∨ Sr b, fun b u e => bh.fr b u (fun z => by rw [(w.ow b (s1 b z)).1] at e; cases e) (w.fr b u e), bh.pu, w.b0.trans bh.le, fun b z => ?_, fun b z => ?_, ?_, by simp [ll, lt]⟩
  · rcases z with z | z
    · obtain ⟨q1, q2, q3⟩ := bh.ow b z
      exact ⟨q1.elim (fun q => (w.ow b (s1 b q)).1) fun q => w.fr.back q, q2, q3⟩
    · obtain ⟨q1, q2, q3⟩ := w.ow b (s2 b z)
      refine ⟨q1, ?_, ?_⟩
      · cases e : B' b with
        | none => rfl
        | some u =>
          rcases bh.nw b (by rw [e]; simp) with y | y | y
          · exact absurd q2 y
          · exact absurd y q3
          · exact absurd z (dj b y)
      · cases e : H b with
        | none => exact absurd e q3
        | some u => rw [bh.fr b u (fun y => dj b y z) e]; simp
  · rcases bh.nw b z with y | y | y
    · exact w.nw b y
    · exact .inr (w.fr.back y)
    · exact .inr (w.ow b (s1 b y)).1
  · rw [List.map_append, List.map_append, List.append_assoc, List.append_assoc]
    exact RS.join (rr.tr bh.le (fun _ z => z) fun b u z e => bh.fr b u (fun y => dj b y z) e) d1 r1
/-- the promise of a def asked where its own things lie on the pile -/
theorem spO_ask {C : Co} {us : List (Addr × O)} {Q : VK} {E : XK} {p : O → List O → Prop} {q : Addr → Option (List (Str × D)) → List O → Prop} (w : HW K F B0 (uV us ++ τ) (uO us ++ T) σ Γ H B S) (lt : τ.length = T.length) (rl : RL K B vs xs) (sub : SubO xs os us) (c : C os p q)
    (k : ∀ v o os', p o os' → ∃ us', SubO xs os' us' ∧ ∀ H', Ho K F B0 (v :: (uV us' ++ τ)) (o :: (uO us' ++ T)) σ Γ H' → Q v H')
    (kx : ∀ Cc gs os', q Cc gs os' → ∃ us', SubO xs os' us' ∧ ∀ d H' B' S', HW K F B0 (uV us' ++ τ) (uO us' ++ T) σ Γ H' B' S' → ExB K H' B' d gs → E (.ref Cc) d H') : spO K C vs H Q E := by
  have rs := w.rs
  rw [List.map_append, List.map_append, List.append_assoc, List.append_assoc] at rs
  obtain ⟨Su, Sr, s1, s2, dj, ru, rr⟩ := RS.split (σ0 := (uV us).map some) (Γ0 := (uO us).map some) (by simp) rs
  refine ⟨B, Su, os, p, q, w.pu, sub.pack rl ru, fun b z => (w.ow b (s1 b z)).2, c, fun v o os' B' S' H' hp bh r => ?_, fun Cc gs d os' B' S' H' hq bh r hd => ?_⟩
  · obtain ⟨us', sub', k⟩ := k v o os' hp
    have r2 : RS K B' H' S' ((v :: uV us').map some) ((o :: uO us').map some) := by
      cases r with
      | cons t1 t2 d ro t => exact .cons t1 t2 d ro (sub'.unpack rl t)
    obtain ⟨S3, w3⟩ := w.behO s1 s2 dj rr lt bh r2 (by simp)
    exact k H' ⟨_, _, w3⟩
  · obtain ⟨us', sub', kx⟩ := kx Cc gs os' hq
    obtain ⟨S3, w3⟩ := w.behO s1 s2 dj rr lt bh (sub'.unpack rl r) (by simp)
    exact kx d H' B' S3 w3 hd
/-- things taken out of their places -/
inductive Punch : En → List (Addr × O) → En → Prop
  | nil {Γ : En} : Punch Γ [] Γ
  | cons {Γ Γ1 : En} {us : List (Addr × O)} {i : Nat} {o : O} {p : List Sel} {u : O} {a : Addr} : Punch Γ us Γ1 → Γ1[i]? = some (some o) → o.getP p = some u → u.addr = some a → Punch Γ ((a, u) :: us) (Γ1.set i (some (o.setP (.d (.ref a)) p)))
/-- .. and put in again -/
inductive Plug : En → List (Addr × O) → En → Prop
  | nil {Γ : En} : Plug Γ [] Γ
  | cons {Γ Γ1 : En} {us : List (Addr × O)} {i : Nat} {o : O} {p : List Sel} {u : O} {a : Addr} : Γ[i]? = some (some o) → o.getP p = some (.d (.ref a)) → Plug (Γ.set i (some (o.setP u p))) us Γ1 → Plug Γ ((a, u) :: us) Γ1
theorem HW.punch1 (h : HW K F B0 τ T σ Γ H B S) (e : Γ[i]? = some (some o)) (g : o.getP p = some u) (ha : u.addr = some a) : ∃ S', HW K F B0 (.ref a :: τ) (u :: T) σ (Γ.set i (some (o.setP (.d (.ref a)) p))) H B S' := by
  obtain ⟨v, S1, S2, a1, b1, c1, d1, r1, f⟩ := h.slot e
  obtain ⟨v1, U1, U2, k2, k3, k4, k5, k6⟩ := r1.focP g
  cases k5.addr ha
  have q1 := k6 B H (fun _ => False) (.d (.ref a)) (.refl B) (fun _ _ _ e => e) (fun _ z => z.elim) (.d .ref)
  have q2 := f B H (fun b => False ∨ U2 b) (some v) (some (o.setP (.d (.ref a)) p)) (.refl B) (fun _ _ _ e => e) (fun b z y => z.elim False.elim fun z => d1 b (k3 b z) y) (fun x e => by cases e; exact ⟨v, rfl, q1⟩)
  rw [set_same a1] at q2
  exact ⟨fun b => U1 b ∨ ((False ∨ U2 b) ∨ S2 b), h.fr, h.pu, h.b0, fun b z => z.elim (fun z => h.ow b (b1 b (k2 b z))) fun z => z.elim (fun z => z.elim False.elim fun z => h.ow b (b1 b (k3 b z))) fun z => h.ow b (c1 b z), h.nw,
    .cons (S1 := U1) (S2 := fun b => (False ∨ U2 b) ∨ S2 b) (fun _ z => .inl z) (fun _ z => .inr z) (fun b z y => y.elim (fun y => y.elim False.elim (k4 b z)) fun y => d1 b (k2 b z) y) k5 q2, by simp [h.lt]⟩
theorem HW.plug1 (h : HW K F B0 (.ref a :: τ) (u :: T) σ Γ H B S) (e : Γ[i]? = some (some o)) (g : o.getP p = some (.d (.ref a))) : ∃ S', HW K F B0 τ T σ (Γ.set i (some (o.setP u p))) H B S' := by
  obtain ⟨Su, Sr, s1, s2, dj, ru, w⟩ := h.pop
  obtain ⟨v, S1, S2, a1, b1, c1, d1, r1, f⟩ := w.slot e
  obtain ⟨v1, U1, U2, k2, k3, k4, k5, k6⟩ := r1.focP g
  have : v1 = .ref a := by cases k5 with | d r => cases r; rfl
  subst this
  have q1 := k6 B H Su u (.refl B) (fun _ _ _ e => e) (fun b z y => dj b z (b1 b (k3 b y))) ru
  have q2 := f B H (fun b => Su b ∨ U2 b) (some v) (some (o.setP u p)) (.refl B) (fun _ _ _ e => e) (fun b z y => z.elim (fun z => dj b z (c1 b y)) fun z => d1 b (k3 b z) y) (fun x e => by cases e; exact ⟨v, rfl, q1⟩)
  rw [set_same a1] at q2
  exact ⟨_, h.fr, h.pu, h.b0, fun b z => z.elim (fun z => z.elim (fun z => h.ow b (s1 b z)) fun z => w.ow b (b1 b (k3 b z))) fun z => w.ow b (c1 b z), h.nw, q2, w.lt⟩
theorem HW.punch : ∀ {us : List (Addr × O)} {Γ Γh : En} {S : Ad}, Punch Γ us Γh → HW K F B0 τ T σ Γ H B S → ∃ S', HW K F B0 (uV us ++ τ) (uO us ++ T) σ Γh H B S'
  | _, _, _, S, .nil, h => ⟨S, h⟩
  | _, _, _, _, .cons hp e g ha, h => by
    obtain ⟨S1, w⟩ := HW.punch hp h
    exact w.punch1 e g ha
/-- .. below one thing more -/
theorem HW.plugU : ∀ {us : List (Addr × O)} {Γ Γh : En} {S : Ad} {v : V} {o : O}, Plug Γh us Γ → HW K F B0 (v :: (uV us ++ τ)) (o :: (uO us ++ T)) σ Γh H B S → ∃ S', HW K F B0 (v :: τ) (o :: T) σ Γ H B S'
  | _, _, _, S, _, _, .nil, h => ⟨S, h⟩
  | _, _, _, _, v, o, .cons e g hp, h => by
    -- the thing on top changes places with the next one
    have sw : ∀ {v1 v2 : V} {o1 o2 : O} {τ : List V} {T : List O} {Γ : En} {S : Ad}, HW K F B0 (v1 :: v2 :: τ) (o1 :: o2 :: T) σ Γ H B S → ∃ S', HW K F B0 (v2 :: v1 :: τ) (o2 :: o1 :: T) σ Γ H B S' := fun h => by
      obtain ⟨S1, S2, s1, s2, d1, r1, w1⟩ := h.pop
      obtain ⟨S3, S4, s3, s4, d2, r2, w2⟩ := w1.pop
      exact ⟨fun b => S3 b ∨ (S1 b ∨ S4 b), w2.fr, w2.pu, w2.b0, fun b z => z.elim (fun z => w1.ow b (s3 b z)) fun z => z.elim (fun z => h.ow b (s1 b z)) fun z => w1.ow b (s4 b z), w2.nw,
        .cons (S1 := S3) (S2 := fun b => S1 b ∨ S4 b) (fun _ z => .inl z) (fun _ z => .inr z) (fun b z y => y.elim (fun y => d1 b y (s3 b z)) (d2 b z)) r2 (.cons (S1 := S1) (S2 := S4) (fun _ z => .inl z) (fun _ z => .inr z) (fun b z y => d1 b z (s4 b y)) r1 w2.rs), by simp [w2.lt]⟩
    obtain ⟨S1, w1⟩ := sw h
    obtain ⟨S2, w2⟩ := w1.plug1 e g
    exact HW.plugU hp w2
theorem lfL_all : ∀ {xs : List D}, lfL xs = true → ∀ x ∈ xs, (O.d x).lf = true
  | x :: xs, q, y, h => by
    simp only [lfL, Bool.and_eq_true] at q
    rcases List.mem_cons.mp h with rfl | h
    · exact q.1
    · exact lfL_all q.2 y h
/-- .. that lets nothing out -/
theorem go_callV0 {C : Co} {us : List (Addr × O)} {t : TA} {E : XK} (hp : Punch Γ us Γh) (hv : Views Γh Γv)
    (h : ∀ F' B', GoA K F' B' t [] Γv fun xs _ => lfL xs = true ∧ ∃ os p, SubO xs os us ∧ C os p noO ∧ (∀ o os', p o os' → ∃ us' Γ', SubO xs os' us' ∧ Plug Γh us' Γ' ∧ post o Γ')) :
    Go K F B0 (tCall (spO K C) [] E t) T Γ post := fun τ σ H Q ⟨B, S, w0⟩ kk => by
  obtain ⟨S1, w1⟩ := w0.punch hp
  obtain ⟨Bf, wl, _, back⟩ := w1.lendL hv
  refine h H Bf [] σ H _ wl fun vs xs Γ1 H1 ⟨lf, os, p, sub, c, h1⟩ how hl => ?_
  obtain ⟨B2, S2, w2⟩ := back _ _ Γ1 H1 how (fun o ho => by
    rw [List.append_nil] at ho
    obtain ⟨x, hx, rfl⟩ := List.mem_map.mp (List.mem_reverse.mp ho)
    exact lfL_all lf x hx)
  rw [List.append_nil, List.append_nil] at w2
  obtain ⟨rl, S3, w3⟩ := w2.args hl
  rw [List.append_nil]
  refine spO_ask w3 w0.lt rl sub c (fun v o os' hpo => ?_) (fun Cc gs os' hq => hq.elim)
  obtain ⟨us', Γ', sub', pl, hpost⟩ := h1 o os' hpo
  refine ⟨us', sub', fun H' ⟨B', S', w4⟩ => ?_⟩
  obtain ⟨S5, w5⟩ := w4.plugU pl
  exact kk v o Γ' H' hpost ⟨_, _, w5⟩
end
end SK
namespace SK
open PySem PySem.Spec PyProof.Rows L2
def rEqK : R2 := fun x y H Q => ∃ a b ks, x = .ref a ∧ y = .ref b ∧ Rd H a (.dK ks) ∧ Rd H b (.dK []) ∧ Q (.bl ks.isEmpty) H
def rNeK : R2 := fun x y H Q => ∃ a b ks, x = .ref a ∧ y = .ref b ∧ Rd H a (.dK ks) ∧ Rd H b (.dK []) ∧ Q (.bl (!ks.isEmpty)) H
theorem k_neK {X : Cx} (hu : X.A.units + 64 < cLine) : OpR X (compareOp .NotEq) rNeK := fun pins s σ H x y v u Q I rx ry ⟨a, b, ks, ex, ey, ra, rb, q⟩ => by
  subst ex ey
  cases rx; cases ry
  obtain ⟨_, na, va, ka, da⟩ := dk_rd I.hok ra
  obtain ⟨_, nb, vb, kb, db⟩ := dk_rd I.hok rb
  have lb : vb.length = 0 := kb.length.symm
  have eb : vb = [] := List.length_eq_zero_iff.mp lb
  subst eb
  refine PySem.W.keq_ne (knd := mixKind X.prog X.w) (r := true) na nb da db (by omega) (fun hl => ?_) (fin_bl I q ?_)
  · have : va = [] := List.length_eq_zero_iff.mp hl
    subst this
    exact .nil
  · have := ka.length
    cases ks with
    | nil => have e : va = [] := List.length_eq_zero_iff.mp (by simpa using this.symm); subst e; rfl
    | cons p ks => cases va with | nil => simp at this | cons q va => rfl
section
variable {K : PySem.W.Frag} {F B0 H B : Hp} {τ : List V} {T : List O} {σ : L2.St} {Γ Γv : En} {S : Ad} {o o1 u : O} {i : Nat} {a : Addr} {p : List Sel} {te : TE} {post : O → En → Prop} {Dd : EG} {g : TG} {tb : TS} {kvs : List (Key × D)}
theorem RK.emp {ws : List (Key × V)} (r : RK K B ws kvs) : ws.isEmpty = kvs.isEmpty := by cases r <;> rfl
theorem o2_eqK (h : post (.d (.bl kvs.isEmpty)) Γ) : Op2 K F B0 rEqK (.dic kvs) (.dic []) T Γ post := fun τ σ H B S v1 v2 Q w r1 r2 k => by
  cases r1 with | @dic a ws _ hd nd rk =>
  cases r2 with | @dic b ws2 _ hd2 nd2 rk2 =>
  cases rk2
  exact ⟨a, b, ws, rfl, rfl, w.pu.rd hd, w.pu.rd hd2, k _ _ _ _ h ⟨_, _, w.pushd (by rw [rk.emp]; exact .bl)⟩⟩
theorem o2_neK (h : post (.d (.bl (!kvs.isEmpty))) Γ) : Op2 K F B0 rNeK (.dic kvs) (.dic []) T Γ post := fun τ σ H B S v1 v2 Q w r1 r2 k => by
  cases r1 with | @dic a ws _ hd nd rk =>
  cases r2 with | @dic b ws2 _ hd2 nd2 rk2 =>
  cases rk2
  exact ⟨a, b, ws, rfl, rfl, w.pu.rd hd, w.pu.rd hd2, k _ _ _ _ h ⟨_, _, w.pushd (by rw [rk.emp]; exact .bl)⟩⟩
end
end SK
namespace SK
open PySem PySem.Spec PyProof.Rows L2
section
variable {K : PySem.W.Frag} {F B0 H B : Hp} {τ : List V} {T : List O} {σ : L2.St} {Γ : En} {S : Ad} {post : O → En → Prop} {x : D}
theorem RL.perm {α : Type} {e : α → D} : ∀ {vs ws : List V} {xs : List α}, ws.Perm vs → RL K B vs (xs.map e) → ∃ ys : List α, ys.Perm xs ∧ RL K B ws (ys.map e) := by
  intro vs ws xs h
  induction h generalizing xs with
  | nil => intro r; cases xs with | nil => exact ⟨[], .refl _, .nil⟩ | cons y ys => cases r
  | cons v h ih =>
    intro r
    cases xs with
    | nil => cases r
    | cons y ys =>
      cases r with | cons r t =>
      obtain ⟨zs, p, q⟩ := ih t
      exact ⟨y :: zs, p.cons y, .cons r q⟩
  | swap v w l =>
    intro r
    cases xs with
    | nil => cases r
    | cons y ys =>
      cases r with | cons r t =>
      cases ys with
      | nil => cases t
      | cons z zs =>
        cases t with | cons r2 t =>
        exact ⟨z :: y :: zs, .swap _ _ _, .cons r2 (.cons r t)⟩
  | trans h1 h2 ih1 ih2 =>
    intro r
    obtain ⟨ys, p, q⟩ := ih2 r
    obtain ⟨zs, p2, q2⟩ := ih1 q
    exact ⟨zs, p2.trans p, q2⟩
def tI (ns : List Int) : D := .tup (ns.map D.int)
theorem R.tI {v : V} {ns : List Int} (pu : Ex B H) (r : R K B v (tI ns)) : TupI K H v ns := by
  cases r with
  | tup h rl =>
    have := RL.ints rl
    subst this
    exact ⟨_, rfl, pu.sqT h⟩
theorem TupI.inj {v : V} {ns ms : List Int} (pu : Ex B H) (r : R K B v (tI ns)) (h : TupI K H v ms) : True := trivial
theorem oa_sortT {α : Type} (e : α → List Int) {d : Nat} {Bb : Int} {xs : List α} (q : x.seq? = some (xs.map fun y => tI (e y))) (hl : xs.length < 64) (hd : ∀ y ∈ xs, (e y).length = d ∧ TS.Bd Bb (e y))
    (h : ∀ ys : List α, ys.Perm xs → ys.Pairwise (fun a b => TS.code Bb (e a) ≤ TS.code Bb (e b)) → post (.ol ((ys.map fun y => tI (e y)).map O.d)) Γ) : OpA K F B0 (rSortU K d Bb) [x] T Γ post := fun τ σ H B S vs Q w rl k => by
  obtain ⟨v1, rfl, r⟩ := rl.one
  obtain ⟨a, us, rfl, sq, rl⟩ := r.seqL q
  have len := rl.length
  rw [List.length_map] at len
  refine ⟨a, us, rfl, w.pu.sqL sq, by omega, fun v hv => ?_, fun ys p hp hs hn => ?_⟩
  · obtain ⟨n, hn, hv2⟩ := List.mem_iff_getElem.mp hv
    have hx : n < xs.length := by omega
    obtain ⟨v', hv', rv⟩ := rl.get (i := n) (x := tI (e xs[n])) (by rw [List.getElem?_map, List.getElem?_eq_getElem hx]; rfl)
    rw [List.getElem?_eq_getElem hn] at hv'
    cases hv'
    rw [hv2] at rv
    exact ⟨e xs[n], rv.tI w.pu, hd _ (List.getElem_mem hx)⟩
  · obtain ⟨zs, p1, q1⟩ := RL.perm (e := fun y => tI (e y)) hp rl
    obtain ⟨S2, w2⟩ := w.newl hn q1
    refine k _ _ _ _ (h zs p1 ?_) ⟨_, _, w2⟩
    have : ∀ {ys : List V} {zs : List α}, RL K B ys (zs.map fun y => tI (e y)) → ys.Pairwise (fun x y => ∀ n m, TupI K H x n → TupI K H y m → TS.code Bb n ≤ TS.code Bb m) → zs.Pairwise (fun a b => TS.code Bb (e a) ≤ TS.code Bb (e b)) := by
      intro ys
      induction ys with
      | nil => intro zs r _; cases zs with | nil => exact .nil | cons z zs => cases r
      | cons y ys ih =>
        intro zs r hp
        cases zs with
        | nil => exact .nil
        | cons z zs =>
          cases r with | cons r t =>
          rw [List.pairwise_cons] at hp ⊢
          refine ⟨fun b hb => ?_, ih t hp.2⟩
          obtain ⟨n, hn, hb2⟩ := List.mem_iff_getElem.mp hb
          obtain ⟨v', hv', rv⟩ := t.get (i := n) (x := tI (e b)) (by rw [List.getElem?_map, List.getElem?_eq_getElem hn, hb2]; rfl)
          exact hp.1 v' (List.mem_of_getElem? hv') _ _ (r.tI w.pu) (rv.tI w.pu)
    exact this q1 hs
end
theorem k_sortT {K : PySem.W.Frag} {X : Cx} {d : Nat} {Bb : Int} (hd : 1 ≤ d) (h : X.K = K) : CallR X (.builtin "sorted") (rSortU K d Bb) := by cases h; exact cr_sortT hd
def tLendVE (t : TE) : TE := t
def tLendVT (t : TT) : TT := t
theorem pe_lendV {X : Cx} {e : Expr} {t : TE} (h : PE X e t) : PE X e (tLendVE t) := h
theorem pt_lendV {X : Cx} {e : Expr} {t : TT} (h : PT X e t) : PT X e (tLendVT t) := h
section
variable {K : PySem.W.Frag} {F B0 : Hp} {T : List O} {Γ Γv : En} {te : TE} {tt : TT} {post : O → En → Prop} {postt : Bool → En → Prop}
theorem go_lendV' (hv : Views Γ Γv) (h : ∀ F' B', Go K F' B' te [] Γv fun o' _ => o'.lf = true ∧ post o' Γ) : Go K F B0 (tLendVE te) T Γ post := go_lendV hv h
theorem got_lendV' (hv : Views Γ Γv) (h : ∀ F' B', GoT K F' B' tt [] Γv fun b _ => postt b Γ) : GoT K F B0 (tLendVT tt) T Γ postt := got_lendV hv h
end
/-- a def that may change things of its own among its arguments -/
def CalO (P : Program) (w : World) (K : PySem.W.Frag) (mg : Str → Option Value) (base : Heap) (x : Str) (k : Nat) (ps : List Str) (C : Co) : Prop :=
  ∃ f fd, FnOk P w K mg base CX0 k f fd ps (spO K C) ∧ mg x = some (.ref f) ∧ PySem.W.keepIn K (.ref f) = true ∧ Binds K fd ps [] ∧ ∃ oc od sl, K.lookup f = some ⟨oc, od, .func fd, sl⟩
section
variable {K : PySem.W.Frag} {F B0 H B : Hp} {τ : List V} {T : List O} {σ : L2.St} {Γ Γ' Γ'' Γv : En} {S : Ad} {o o' o1 u y : O} {i : Nat} {a : Addr} {p : List Sel} {te : TE} {post : O → En → Prop} {Dd : EG} {s : TS} {g : TG} {posts1 : En → Prop}
theorem HW.lab (hw : HW K F B0 τ T σ Γ H B S) (e : Γ[i]? = some (some o1)) (g : o1.getP p = some u) (hu : RefO u) : ∃ a S', HW K F B0 τ T σ (Γ.set i (some (o1.setP (.atA a u) p))) H B S' := by
  obtain ⟨v, S1, S2, a1, b1, c1, d1, r1, f⟩ := hw.slot e
  obtain ⟨v1, U1, U2, k2, k3, k4, k5, k6⟩ := r1.focP g
  obtain ⟨a, rfl⟩ := hu _ _ _ _ _ k5
  have q1 := k6 B H U1 (.atA a u) (.refl B) (fun _ _ _ e => e) k4 (.atA k5)
  have q2 := f B H (fun b => U1 b ∨ U2 b) (some v) (some (o1.setP (.atA a u) p)) (.refl B) (fun _ _ _ e => e) (fun b z y => z.elim (fun z => d1 b (k2 b z) y) fun z => d1 b (k3 b z) y) (fun x e => by cases e; exact ⟨v, rfl, q1⟩)
  rw [set_same a1] at q2
  exact ⟨a, _, hw.fr, hw.pu, hw.b0, fun b z => z.elim (fun z => z.elim (fun z => hw.ow b (b1 b (k2 b z))) fun z => hw.ow b (b1 b (k3 b z))) fun z => hw.ow b (c1 b z), hw.nw, q2, hw.lt⟩
theorem go_lab (e : Γ[i]? = some (some o1)) (g : o1.getP p = some u) (hu : RefO u) (h : ∀ a, Go K F B0 te T (Γ.set i (some (o1.setP (.atA a u) p))) post) : Go K F B0 te T Γ post := fun τ σ H Q ⟨B, S, hw⟩ k => by
  obtain ⟨a, S', w⟩ := hw.lab e g hu
  exact h a τ σ H Q ⟨B, S', w⟩ k
def WkE (Γ Γ' : En) : Prop := ∀ (K : PySem.W.Frag) (B H : Hp) (S : Ad) (σ : List (Option V)), RS K B H S σ Γ → RS K B H S σ Γ'
theorem wkE_refl : WkE Γ Γ := fun _ _ _ _ _ r => r
theorem wkE_slot (e : Γ[i]? = some (some o)) (w : Wkn o o') (h : WkE (Γ.set i (some o')) Γ') : WkE Γ Γ' := fun K B H S σ r => h K B H S σ (r.wk1 w e)
theorem RS.app2 {σ1 : List (Option V)} {Γ1 Γ2 : En} (h : WkE Γ1 Γ2) : ∀ {σ0 : List (Option V)} {Γ0 : En} {S : Ad}, σ0.length = Γ0.length → RS K B H S (σ0 ++ σ1) (Γ0 ++ Γ1) → RS K B H S (σ0 ++ σ1) (Γ0 ++ Γ2)
  | [], [], _, _, r => h _ _ _ _ _ r
  | _ :: _, some _ :: _, _, l, .cons s1 s2 d r t => .cons s1 s2 d r (RS.app2 h (by simpa using l) t)
  | _ :: _, none :: _, _, l, .un t => .un (RS.app2 h (by simpa using l) t)
theorem HW.wkE (h : WkE Γ Γ') (w : HW K F B0 τ T σ Γ H B S) : HW K F B0 τ T σ Γ' H B S :=
  ⟨w.fr, w.pu, w.b0, w.ow, w.nw, RS.app2 h (by simp [w.lt]) w.rs, w.lt⟩
theorem gos_end (h : GoS K F B0 s T Γ { nx := fun Γ1 => ∃ Γ2, WkE Γ1 Γ2 ∧ Dd.nx Γ2, rt := fun o Γ1 => ∃ Γ2, WkE Γ1 Γ2 ∧ Dd.rt o Γ2, bk := Dd.bk, ct := Dd.ct }) : GoS K F B0 s T Γ Dd := fun τ σ H De hw q =>
  h τ σ H De hw ⟨fun σ1 Γ1 H1 ⟨Γ2, w, hn⟩ ⟨B1, S1, w1⟩ => q.nx σ1 _ H1 hn ⟨B1, S1, w1.wkE w⟩, fun v o σ1 Γ1 H1 ⟨Γ2, w, hn⟩ ⟨B1, S1, w1⟩ => q.rt v o σ1 _ H1 hn ⟨B1, S1, w1.wkE w⟩, q.bk, q.ct⟩
theorem fzL_set : ∀ {xs : List O} {i : Nat}, fzL (xs.set i y) = (fzL xs).set i y.fz
  | [], _ => rfl
  | x :: xs, 0 => rfl
  | x :: xs, i + 1 => by rw [List.set_cons_succ]; show _ :: fzL (xs.set i y) = _ :: (fzL xs).set i y.fz; rw [fzL_set]
theorem fzL_map {α : Type} {f : α → O} {g : α → D} (h : ∀ x, (f x).fz = g x) : ∀ {xs : List α}, fzL (xs.map f) = xs.map g
  | [] => rfl
  | x :: xs => by show (f x).fz :: fzL (xs.map f) = _; rw [h, fzL_map h]; rfl
theorem fzK_rep {k : Key} : ∀ {kvs : List (Key × O)}, fzK (kvs.map fun kv => if kv.1 = k then (kv.1, y) else kv) = (fzK kvs).map fun kv => if kv.1 = k then (kv.1, y.fz) else kv
  | [] => rfl
  | (g, x) :: r => by
    by_cases e : g = k
    · simp only [List.map_cons, fzK, e, if_true]; rw [fzK_rep]
    · simp only [List.map_cons, fzK, e, if_false]; rw [fzK_rep]
theorem fzK_app : ∀ {kvs ls : List (Key × O)}, fzK (kvs ++ ls) = fzK kvs ++ fzK ls
  | [], _ => rfl
  | (g, x) :: r, ls => by show (g, x.fz) :: fzK (r ++ ls) = _; rw [fzK_app]; rfl
theorem fzK_any {k : Key} : ∀ {kvs : List (Key × O)}, ((fzK kvs).any fun kv => decide (kv.1 = k)) = kvs.any fun kv => decide (kv.1 = k)
  | [] => rfl
  | (g, x) :: r => by show (decide (g = k) || (fzK r).any _) = (decide (g = k) || _); rw [fzK_any]
theorem fzK_put {k : Key} {kvs : List (Key × O)} : fzK (SK.dput kvs k y) = SK.dput (fzK kvs) k y.fz := by
  unfold SK.dput
  rw [fzK_any]
  split
  · rw [fzK_rep]
  · rw [fzK_app]; rfl
end
end SK
namespace SK
open PySem PySem.Spec PyProof.Rows L2
def rDClr : V → List V → Hp → VK → Prop := fun x vs H Q => ∃ (a : Addr) (kvs : List (Key × V)), x = .ref a ∧ vs = [] ∧ H a = some (.dK kvs) ∧ Q .non (upd H a (.dK []))
def pickG {α : Type} (xs : List α) (lo hi st : Option Int) : List α := (sliceRange (sliceBounds lo hi st xs.length).1 (sliceBounds lo hi st xs.length).2.1 (sliceBounds lo hi st xs.length).2.2).filterMap (xs[·]?)
def rSl3 (K : PySem.W.Frag) : V → Option Int → Option Int → Option Int → Hp → VK → Prop := fun x lo hi st H Q => ∃ a xs, x = .ref a ∧ SqL K H a xs ∧ st ≠ some 0 ∧ (pickG xs lo hi st).length ≤ xs.length ∧ ∀ p, H p = none → Q (.ref p) (upd H p (.lst (pickG xs lo hi st)))
def tSl3 (K : PySem.W.Frag) (te : TE) (tl th tk : TO) : TE := fun σ H Q => te σ H fun x H1 => tl σ H1 fun l H2 => th σ H2 fun u H3 => tk σ H3 fun k H4 => rSl3 K x l u k H4 Q
section
variable {K : PySem.W.Frag} {F B0 H B : Hp} {τ : List V} {T : List O} {σ : L2.St} {Γ : En} {S : Ad} {post : O → En → Prop} {i : Nat} {te : TE} {Dd : EG}
theorem RL.pick {vs : List V} {xs : List D} (r : RL K B vs xs) (lo hi st : Option Int) : RL K B (pickG vs lo hi st) (pickG xs lo hi st) := by
  unfold pickG
  rw [r.length]
  generalize sliceRange _ _ _ = l
  induction l with
  | nil => exact .nil
  | cons i l ih =>
    have g : ∀ {vs : List V} {xs : List D} {i : Nat}, RL K B vs xs → (vs[i]? = none ∧ xs[i]? = none) ∨ ∃ x v, vs[i]? = some x ∧ xs[i]? = some v ∧ R K B x v := by
      intro vs
      induction vs with
      | nil => intro xs i r; cases r; exact .inl ⟨rfl, rfl⟩
      | cons v vs ih =>
        intro xs i r
        cases r with | cons h t =>
        cases i with
        | zero => exact .inr ⟨_, _, rfl, rfl, h⟩
        | succ i => exact ih (i := i) t
    rcases g (i := i) r with ⟨h1, h2⟩ | ⟨x, v, h1, h2, h3⟩
    · rw [List.filterMap_cons_none h1, List.filterMap_cons_none h2]; exact ih
    · rw [List.filterMap_cons_some h1, List.filterMap_cons_some h2]; exact .cons h3 ih
theorem go_sl3 {tl th tk : TO} (h : Go K F B0 te T Γ fun o Γ1 => GoO K F B0 tl (.d o.fz :: T) Γ1 fun lo Γ2 => GoO K F B0 th (.d o.fz :: T) Γ2 fun hi Γ3 => GoO K F B0 tk (.d o.fz :: T) Γ3 fun st Γ4 =>
      ∃ xs, D.seq? o.fz = some xs ∧ st ≠ some 0 ∧ (pickG xs lo hi st).length ≤ xs.length ∧ post (.ol ((pickG xs lo hi st).map O.d)) Γ4) : Go K F B0 (tSl3 K te tl th tk) T Γ post := fun τ σ H Q hw k =>
  h τ σ H _ hw fun v o Γ1 H1 h1 ⟨_, _, w1⟩ => by
    obtain ⟨_, _, w1, _⟩ := w1.fz
    refine h1 _ σ H1 _ ⟨_, _, w1⟩ fun lo Γ2 H2 h2 w2 => h2 _ σ H2 _ w2 fun hi Γ3 H3 h3 w3 => h3 _ σ H3 _ w3 fun st Γ4 H4 ⟨xs, q, h0, hle, h4⟩ ⟨_, _, w4⟩ => ?_
    obtain ⟨r, _, _, w⟩ := w4.popd
    obtain ⟨a, vs, rfl, sq, rl⟩ := r.seqL q
    have hp := rl.pick lo hi st
    refine ⟨a, vs, rfl, w.pu.sqL sq, h0, by rw [hp.length, rl.length]; exact hle, fun p hp0 => ?_⟩
    obtain ⟨S2, w⟩ := w.newl hp0 hp
    exact k _ _ _ _ h4 ⟨_, _, w⟩
theorem oa_lenD {kvs : List (Key × D)} (h : post (.d (.int kvs.length)) Γ) : OpA K F B0 (rLenG K) [.dic kvs] T Γ post := fun τ σ H B S vs Q w rl k => by
  obtain ⟨v1, rfl, r⟩ := rl.one
  cases r with | @dic a ws _ hd _ rk =>
  refine .inr ⟨a, ws, rfl, w.pu.rd hd, k _ _ _ _ h ⟨_, _, w.pushd ?_⟩⟩
  have e : ws.length = kvs.length := by
    have := congrArg List.length rk.keys
    simpa using this
  rw [e]
  exact .int
theorem mt_indexG {X : Cx} (h : X.K = K) : MtR X "list.index" (rIndex K) := by cases h; exact mt_index
/-- xs.index(n), xs a list of numbers that has it -/
theorem go_lindex {ta : TA} (h : Go K F B0 te T Γ fun o Γ1 => ∃ ns : List Int, o.fz = .lst (ns.map D.int) ∧ GoA K F B0 ta (.d o.fz :: T) Γ1 fun xs Γ2 => ∃ (n : Int) (j : Nat), xs = [.int n] ∧ ns[j]? = some n ∧ (∀ m, m < j → ns[m]? ≠ some n) ∧ post (.d (.int (j : Nat))) Γ2) :
    Go K F B0 (tBM K "list" (rIndex K) te ta) T Γ post := fun τ σ H Q hw k =>
  h τ σ H _ hw fun v1 o1 Γ1 H1 ⟨ns, e1, h1⟩ ⟨_, _, w1⟩ => by
    obtain ⟨B2, S2, w2, _⟩ := w1.fz
    rw [e1] at h1 w2
    obtain ⟨r, _, _, _⟩ := w2.popd
    cases r with
    | @lst a vs _ hd rl =>
    have ev := RL.ints rl
    subst ev
    refine ⟨.inl ⟨rfl, _, w2.pu.sqL (SqL.of hd)⟩, h1 _ σ H1 _ ⟨_, _, w2⟩ fun us xs Γ2 H2 ⟨n, j, e, hj, hm, h2⟩ ⟨_, _, w3⟩ hl => ?_⟩
    subst e
    obtain ⟨rl2, S3, w4⟩ := w3.args hl
    obtain ⟨r4, _, _, w5⟩ := w4.popd
    obtain ⟨u, rfl, r⟩ := rl2.one
    cases r
    have sq : SqL K H2 a (ns.map V.int) := by
      cases r4 with
      | @lst _ vs2 _ hd2 rl3 =>
        have := RL.ints rl3
        subst this
        exact w5.pu.sqL (SqL.of hd2)
    refine ⟨a, ns.map V.int, .int n, j, .int n, rfl, rfl, sq, rfl, by simp [flatV], by rw [List.getElem?_map, hj]; rfl, by simp [L2.eqV], fun m z' hmj hz => ?_, k _ _ _ _ h2 ⟨_, _, w5.pushd .int⟩⟩
    rw [List.getElem?_map] at hz
    cases e : ns[m]? with
    | none => rw [e] at hz; cases hz
    | some y =>
      rw [e] at hz
      cases hz
      have : y ≠ n := fun q => hm m hmj (by rw [e, q])
      simp [L2.eqV, this]
/-- d.setdefault(k, []).append(e), d a name -/
theorem gos_setdAppV {kvs : List (Key × O)} {ty tv : TE} (e0 : Γ[i]? = some (some (.od kvs))) (hz : kvs.length < 100000)
    (h : ∀ F' B', Go K F' B' ty [] (fzE Γ) fun okk _ => ∃ k ys, okk = .d (kD k) ∧ lstAt kvs k ys ∧ ys.length < 100000 ∧
      ∀ F' B', Go K F' B' tv [] (fzE (Γ.set i none)) fun oe _ => oe.lf = true ∧ Dd.nx (Γ.set i (some (.od (dput kvs k (.ol (ys ++ [oe])))))) ) :
    GoS K F B0 (tDrop (tBM K "list" rAppend (tDSetd (tVar i) ty (tLst tNil)) (tCons tv tNil))) T Γ Dd :=
  gos_setdApp (p := []) evp_var e0 rfl trivial hz h
/-- what stands at a place goes to another place, where a reference to it stands; the reference stays behind -/
theorem gos_mvA {s : TS} {j : Nat} {o1 o2 u : O} {p q : List Sel} {a : Addr} (e : Γ[i]? = some (some o1)) (g : o1.getP p = some u) (ha : u.addr = some a)
    (e2 : (Γ.set i (some (o1.setP (.d (.ref a)) p)))[j]? = some (some o2)) (g2 : o2.getP q = some (.d (.ref a)))
    (h : GoS K F B0 s T ((Γ.set i (some (o1.setP (.d (.ref a)) p))).set j (some (o2.setP u q))) Dd) : GoS K F B0 s T Γ Dd := fun τ σ H De ⟨B, S, hw⟩ k => by
  obtain ⟨S1, w1⟩ := hw.punch1 e g ha
  obtain ⟨S2, w2⟩ := w1.plug1 e2 g2
  exact h τ σ H De ⟨B, S2, w2⟩ k
/-- d.clear(), d a name -/
theorem gos_dclear {kvs : List (Key × O)} (e0 : Γ[i]? = some (some (.od kvs))) (h : Dd.nx (Γ.set i (some (.od [])))) :
    GoS K F B0 (tDrop (tBM0 K "dict" rDClr (tVar i))) T Γ Dd := fun τ σ H De hw s => by
  obtain ⟨B, S, w⟩ := hw
  obtain ⟨v, S1, a1, r1, _, f⟩ := w.mut1 e0
  cases r1 with
  | @od _ S4 a ws _ ha hs hn hc nd ek rs =>
  refine ⟨.ref a, a1, .inr (.inr (.inl ⟨rfl, .inl ⟨_, hc⟩⟩)), ?_⟩
  refine ⟨a, ws, rfl, rfl, hc, ?_⟩
  obtain ⟨S', w3⟩ := f a (.dK []) (.od []) ha (.od (S' := fun _ => False) ha (fun b z => False.elim z) id upd_same List.nodup_nil rfl .nil)
  exact s.nx σ _ _ h ⟨B, S', w3⟩
end
end SK
namespace SK
open PySem PySem.Spec PyProof.Rows L2 PySem.W
end SK
namespace SK
open PySem PySem.Spec PyProof.Rows L2
open PySem.W (AllAlike Sortable dataLe)
end SK
namespace SK
open PySem PySem.Spec PyProof.Rows L2 PySem.W
mutual
theorem Dp.at {K : PySem.W.Frag} {H H' : Hp} (hT : ∀ a xs, SqT K H a xs → SqT K H' a xs) (hL : ∀ a xs, SqL K H a xs → SqL K H' a xs) : ∀ (d : PyData) {v : V}, Dp K H v d → Dp K H' v d
  | .none, _, h => by cases h; exact .non
  | .bool _, _, h => by cases h; exact .bl _
  | .int _, _, h => by cases h; exact .int _
  | .str _, _, h => by cases h; exact .str _
  | .list ds, _, h => by cases h with | lst a b => exact .lst (hL _ _ a) (DpAll.at hT hL ds b)
  | .tuple ds, _, h => by cases h with | tup a b => exact .tup (hT _ _ a) (DpAll.at hT hL ds b)
  | .dict _, _, h => by cases h
theorem DpAll.at {K : PySem.W.Frag} {H H' : Hp} (hT : ∀ a xs, SqT K H a xs → SqT K H' a xs) (hL : ∀ a xs, SqL K H a xs → SqL K H' a xs) : ∀ (ds : List PyData) {vs : List V}, DpAll K H vs ds → DpAll K H' vs ds
  | [], _, h => by cases h; exact .nil
  | d :: ds, _, h => by cases h with | cons a b => exact .cons (Dp.at hT hL d a) (DpAll.at hT hL ds b)
end
theorem Dp.ex {K : PySem.W.Frag} {H H' : Hp} (e : Ex H H') {d : PyData} {v : V} (h : Dp K H v d) : Dp K H' v d := Dp.at (fun _ _ q => e.sqT q) (fun _ _ q => e.sqL q) d h
end SK
namespace SK
open PySem PySem.Spec PyProof.Rows L2
open PySem.W (AllAlike Sortable dataLe)
end SK
namespace SK
open PySem PySem.Spec PyProof.Rows L2
/-- lo + n - 1, .., lo -/
def rvV (lo : Int) (n : Nat) : List V := (List.range n).map fun i => V.int (lo + (n : Int) - 1 - (i : Nat))
def tListRgR (te : L2.St → Hp → (Int → Int → Hp → Prop) → Prop) : TE := fun σ H Q => te σ H fun a b H1 => RgOk a b ∧ ∀ q, H1 q = none → Q (.ref q) (upd H1 q (.lst (rvV a (b - a).toNat)))
section
variable {K : PySem.W.Frag} {F B0 : Hp} {T : List O} {Γ : En} {post : O → En → Prop} {te : TE}
/-- list(reversed(range(n))) -/
theorem go_listRgR (h : Go K F B0 te T Γ fun o Γ1 => ∃ n : Int, o = .d (.int n) ∧ 0 ≤ n ∧ n ≤ 100000 ∧ post (.ol ((((List.range n.toNat).map fun (i : Nat) => n - 1 - (i : Int)).map D.int).map O.d)) Γ1) : Go K F B0 (tListRgR (tRg1 te)) T Γ post := fun τ σ H Q hw k =>
  h τ σ H _ hw fun v1 o1 Γ1 H1 ⟨n, e1, h0, h1, hp⟩ ⟨B1, S1, w1⟩ => by
    subst e1
    obtain ⟨r, S2, _, w2⟩ := w1.popd
    cases r
    refine ⟨n, rfl, ⟨by omega, by omega, by omega, by omega, by omega⟩, fun q hq => ?_⟩
    have ev : rvV 0 (n - 0).toNat = ((List.range n.toNat).map fun (i : Nat) => n - 1 - (i : Int)).map V.int := by
      unfold rvV
      rw [List.map_map, Int.sub_zero]
      refine List.map_congr_left fun i _ => ?_
      show V.int (0 + (((n.toNat : Nat)) : Int) - 1 - (i : Int)) = V.int (n - 1 - (i : Int))
      congr 1
      omega
    rw [ev]
    obtain ⟨S3, w3⟩ := w2.newl hq (RL.ofInts ((List.range n.toNat).map fun (i : Nat) => n - 1 - (i : Int)))
    exact k _ _ _ _ hp ⟨_, _, w3⟩
end
end SK
namespace SK
open PySem PySem.Spec PyProof.Rows L2
structure FunT (K : PySem.W.Frag) (x : Str) (st : Stmt) (f : Addr) (fd : FuncData) (u : Value) : Prop where
  ex : ∃ (oc : Value) (od : Option Addr) (T : Addr) (oT : Obj) (n : Nat) (kV doc pm : Value) (an : Option Addr) (cdv ct : Value) (osl : Array (Option Value)),
    fd = PySem.W.fnOf x x (defArgs st) (defBody st) (defScope st) (.ref T) kV doc pm an cdv ct ∧ K.lookup f = some ⟨oc, od, .func fd, osl⟩ ∧ PySem.W.codeIn K cdv x = true ∧ K.lookup T = some oT ∧ oT.data = .seq #[u] n
  kp : PySem.W.keepIn K (.ref f) = true
section
variable {P : Program} {w : World} {K : PySem.W.Frag} {mg : Str → Option Value} {base : Heap} {x : Str} {st : Stmt} {f : Addr} {fd : FuncData} {u : Value} {N ps : List Str} {k : Nat} {sp : Sp}
theorem FunT.ok (F : FunT K x st f fd u) (S : FnScope N ps (defScope st)) (len : ∀ vs H Q E, sp vs H Q E → vs.length = ps.length)
    (hbody : ∀ (cdv : Value) (A : Around) (outer : List Env) (s : Shared) (H : Hp) (vs : List V) (Q : VK) (E : XK), Room k (A.deeper (envOfC x (defScope st) s.heap.objs.size f cdv)) → sp vs H Q E →
      ∃ t, PSs (cxOf CX0 P w K mg base N x (defScope st) f cdv A outer s H E).nox (defBody st) t ∧ t { nx := fun _ H' => Q .non H', rt := Q } (start N vs) H) : FnOk P w K mg base CX0 (k + 1) f fd ps sp := by
  obtain ⟨oc, od, T, oT, n, kV, doc, pm, an, cdv, ct, osl, rfl, lk, hcd, _, _⟩ := F.ex
  refine fn_of lk hcd S len fun A outer s H vs Q E hr hsp => ?_
  obtain ⟨t, h, q⟩ := hbody cdv A outer s H vs Q E hr hsp
  exact ⟨t, h.nox, q⟩
theorem FunT.okX (F : FunT K x st f fd u) (S : FnScope N ps (defScope st)) (len : ∀ vs H Q E, sp vs H Q E → vs.length = ps.length)
    (hbody : ∀ (cdv : Value) (A : Around) (outer : List Env) (s : Shared) (H : Hp) (vs : List V) (Q : VK) (E : XK), Room k (A.deeper (envOfC x (defScope st) s.heap.objs.size f cdv)) → sp vs H Q E →
      ∃ t, PSs (cxOf (L2.CX P w) P w K mg base N x (defScope st) f cdv A outer s H E) (defBody st) t ∧ t { nx := fun _ H' => Q .non H', rt := Q } (start N vs) H) : FnOk P w K mg base (L2.CX P w) (k + 1) f fd ps sp := by
  obtain ⟨oc, od, T, oT, n, kV, doc, pm, an, cdv, ct, osl, rfl, lk, hcd, _, _⟩ := F.ex
  exact fn_of lk hcd S len fun A outer s H vs Q E hr hsp => hbody cdv A outer s H vs Q E hr hsp
theorem FunT.binds (F : FunT K x st f fd u) (n : Nat) (hn : n = ps.length) (h : ∀ (T : Addr) (kV doc pm : Value) (an : Option Addr) (cdv ct : Value) (us : List Value), us.length = n →
      ∃ k, bindArgs (PySem.W.fnOf x x (defArgs st) (defBody st) (defScope st) (.ref T) kV doc pm an cdv ct) ⟨us, []⟩ = seqItems? (.ref T) >>= k ∧ k (some #[u]) = pure (ps.zip us)) : Binds K fd ps [] := by
  obtain ⟨oc, od, T, oT, m, kV, doc, pm, an, cdv, ct, osl, rfl, lk, hcd, lT, eT⟩ := F.ex
  intro s us X hl
  rw [List.append_nil] at hl ⊢
  obtain ⟨k, e1, e2⟩ := h T kV doc pm an cdv ct us (by omega)
  refine BindsTo.of_looks fun M => ?_
  rw [e1]
  exact looks_items X lT eT (.of_pure e2)
theorem FunT.bindsD (F : FunT K x st f fd u) (n : Nat) (hn : n + 1 = ps.length) (h : ∀ (T : Addr) (kV doc pm : Value) (an : Option Addr) (cdv ct : Value) (us : List Value), us.length = n →
      ∃ k, bindArgs (PySem.W.fnOf x x (defArgs st) (defBody st) (defScope st) (.ref T) kV doc pm an cdv ct) ⟨us, []⟩ = seqItems? (.ref T) >>= k ∧ k (some #[u]) = pure (ps.zip (us ++ [u]))) : Binds K fd ps [u] := by
  obtain ⟨oc, od, T, oT, m, kV, doc, pm, an, cdv, ct, osl, rfl, lk, hcd, lT, eT⟩ := F.ex
  intro s us X hl
  rw [List.length_append, List.length_singleton] at hl
  obtain ⟨k, e1, e2⟩ := h T kV doc pm an cdv ct us (by omega)
  refine BindsTo.of_looks fun M => ?_
  rw [e1]
  exact looks_items X lT eT (.of_pure e2)
theorem FunT.lk (F : FunT K x st f fd u) : ∃ oc od sl, K.lookup f = some ⟨oc, od, .func fd, sl⟩ := by
  obtain ⟨oc, od, T, oT, n, kV, doc, pm, an, cdv, ct, osl, _, l, _⟩ := F.ex
  exact ⟨oc, od, osl, l⟩
end
section
variable (P : Program) (w : World) (K : PySem.W.Frag) (mg : Str → Option Value) (base : Heap)
def DfT (x : Str) (st : Stmt) (u : Value) : Prop := ∃ f fd, FunT K x st f fd u ∧ mg x = some (.ref f)
def CalXD (x : Str) (k : Nat) (ps : List Str) (C : Ct) (u : Value) : Prop := ∃ f fd, FnOk P w K mg base (L2.CX P w) k f fd ps (spP K C) ∧ mg x = some (.ref f) ∧ PySem.W.keepIn K (.ref f) = true ∧ Binds K fd ps [] ∧ Binds K fd ps [u] ∧ ∃ oc od sl, K.lookup f = some ⟨oc, od, .func fd, sl⟩
end
theorem dfT_mk {K : PySem.W.Frag} {mg : Str → Option Value} {h : Heap} (X : K.In h) (G : h.Ns mainGlobals mg) {x : Str} {st : Stmt} {f T : Addr} {oc : Value} {od an dT : Option Addr} {sl sT : Array (Option Value)} {kV dc pm cd ct u : Value} {n : Nat}
    (a : PySem.W.nsIn K mainGlobals x = some (some (.ref f))) (l : K.lookup f = some ⟨oc, od, .func (PySem.W.fnOf x x (defArgs st) (defBody st) (defScope st) (.ref T) kV dc pm an cd ct), sl⟩)
    (c : PySem.W.codeIn K cd x = true) (k : PySem.W.keepIn K (.ref f) = true) (lT : K.lookup T = some ⟨.type "tuple", dT, .seq #[u] n, sT⟩) : DfT K mg x st u := ⟨f, _, ⟨⟨oc, od, T, _, n, kV, dc, pm, an, cd, ct, sl, rfl, l, c, lT, rfl⟩, k⟩, PySem.W.mg_of X G a⟩
section
variable {K : PySem.W.Frag} {F B0 : Hp} {T : List O} {Γ : En} {post : O → En → Prop}
/-- a call that leaves defaults out, of a def that may let an exception out -/
theorem go_callXD {C : Ct} {dvs : List V} {dxs : List D} {W : WX} {X : Addr → Option (List (Str × D)) → En → Prop} {t : TA} (hd : ∀ B, RL K B dvs dxs) (wx : ∀ Cc fs d σ Γ H, X Cc fs Γ → HoX K F B0 σ Γ H d fs → W (.ref Cc) d σ H)
    (h : GoA K F B0 t T Γ fun xs Γ1 => ∃ p q, C (xs ++ dxs) p q ∧ (∀ o, p o → post o Γ1) ∧ ∀ Cc fs, q Cc fs → X Cc fs Γ1) : Go K F B0 (tCallSD (spP K C) dvs (WE W) t) T Γ post := fun τ σ H Q hw k =>
  h τ σ H _ hw fun vs xs Γ1 H1 ⟨p, q, c, h1, h2⟩ ⟨B1, S1, w1⟩ hl => by
    obtain ⟨rl, S2, w⟩ := w1.args hl
    refine ⟨B1, xs ++ dxs, p, q, w.pu, rl.app (hd B1), c, fun v o' B' S' H' e ex pu' le nw ow ro => ?_, fun Cc fs d B' H' e ex pu' le nw hd => ?_⟩
    · exact k v _ Γ1 H' (h1 _ e) ⟨B', _, w.push ex le pu' nw ow ro⟩
    · exact wx Cc fs d σ Γ1 H' (h2 Cc fs e) ⟨B', _, (w.push (v := .non) (o := .d .non) (S' := fun _ => False) ex le pu' nw (fun _ z => z.elim) (.d .non)).bareB, hd⟩
end
theorem rl_non {K : PySem.W.Frag} : ∀ B, RL K B [.non] [.non] := fun _ => .cons .non .nil
end SK
set_option maxHeartbeats 8000000
namespace Lw
open PySem PySem.Spec PyProof.Rows L2 SK TL
local macro_rules | `(tactic| walk_at "ixx") => `(tactic| fail)
local macro_rules | `(tactic| walk_at "lenx") => `(tactic| fail)
local macro_rules | `(tactic| walk_at "lendx") => `(tactic| fail)
local macro_rules | `(tactic| walk_at "vw") => `(tactic| fail)
local macro_rules | `(tactic| walk_at "vwx") => `(tactic| fail)
local macro_rules | `(tactic| walk_at "sk1") => `(tactic| first
  | ((with_reducible refine' gos_setdAppF ?hR ?he ?hl ?hf ?hz ?hk); (case hR => assumption); (case he => exact rfl); (case hl => exact rfl); (case hf => exact rfl); (case hz => first | (simp only [List.length_map]; omega) | walk_at "lenx" | skip); (intro F' B'); (try walk_at "lendx"); (try (simp only [fzE_cons, fzE_nil, frO_none, frO_some, fz_fl, fz_fk, fz_d, fzL_fl, fzK_d, O.fz, fzL, List.set])))
  | ((with_reducible refine' gos_setdAppV ?he ?hz ?hk); (case he => exact rfl); (case hz => first | (simp only [List.length_map]; omega) | walk_at "lenx" | skip); (intro F' B'); (try walk_at "lendx"); (try (simp only [fzE_cons, fzE_nil, frO_none, frO_some, fz_fl, fz_fk, fz_d, fzL_fl, fzK_d, O.fz, fzL, List.set])))
  | ((with_reducible refine' gos_popF ?hR ?he ?hl ?hf ?hk); (case hR => assumption); (case he => exact rfl); (case hl => exact rfl); (case hf => exact rfl); (intro F' B'); (try walk_at "lendx"); (try (simp only [fzE_cons, fzE_nil, frO_none, frO_some, fz_fl, fz_fk, fz_d, fzL_fl, fzK_d, O.fz, fzL, List.set])))
  | ((with_reducible refine' gog_setDF ?hR ?he ?hl ?hf ?hz ?hk); (case hR => assumption); (case he => exact rfl); (case hl => exact rfl); (case hf => exact rfl); (case hz => first | (simp only [List.length_map]; omega) | walk_at "lenx" | skip); (intro F' B'); (try walk_at "lendx"); (try (simp only [fzE_cons, fzE_nil, frO_none, frO_some, fz_fl, fz_fk, fz_d, fzL_fl, fzK_d, O.fz, fzL, List.set])))
  | ((with_reducible refine' gog_setL ?he ?hk); (case he => exact rfl); (intro F' B'); (try walk_at "lendx"); (try (simp only [fzE_cons, fzE_nil, frO_none, frO_some, fz_fl, fz_fk, fz_d, fzL_fl, fzK_d, O.fz, fzL, List.set])))
  | ((with_reducible refine gos_never ?_); first | (exact absurd (by assumption) (by assumption)) | omega | (simp_all; done) | skip) | with_reducible refine gos_sLG ?_
  | ((with_reducible refine' gos_frzA ?he ?hk); (case he => exact rfl); (try walk_at "lendx"); (try simp only [fz_fl, fz_fk, fz_d, fzL_fl, fzK_d, O.fz, fzL, List.set]))
  | with_reducible refine gos_sA ?_ | with_reducible refine gos_sD ?_ | with_reducible refine gos_sN ?_ | with_reducible refine gos_sU ?_ | with_reducible refine gos_sF ?_ | with_reducible refine gos_sW ?_ | with_reducible refine gos_sIR ?_ | with_reducible refine gos_sIC ?_ | with_reducible refine gos_sIW ?_ | with_reducible refine gos_sIN ?_ | with_reducible refine gos_sIF ?_ | ((with_reducible refine' gos_raiseF ?hw ?_); (case hw => assumption)) | with_reducible refine gos_sTA ?_ | with_reducible refine gos_sTAE ?_ | with_reducible refine gos_sTO ?_ | with_reducible refine gos_sTE ?_ | with_reducible refine gos_sTX ?_ | with_reducible refine gos_sIB ?_ | with_reducible refine gos_asg ?_ | with_reducible refine gos_ret ?_ | with_reducible refine gos_if ?_ | with_reducible refine gos_next ?_ | with_reducible refine gos_brk ?_ | ((with_reducible refine' gos_append ?ha ?h0); (case h0 => exact ⟨_, rfl⟩)) | ((with_reducible refine' gos_insert ?ha ?h0); (case h0 => exact ⟨_, rfl⟩)) | ((with_reducible refine' gos_extend ?ha ?h0); (case h0 => exact ⟨_, rfl⟩)) | ((with_reducible refine' gos_dupd ?ha ?h0); (case h0 => exact ⟨_, rfl⟩)) | ((with_reducible refine gos_clear ?_); (refine ⟨_, rfl, ?_⟩); dsimp only [List.set]) | ((with_reducible refine' gos_dclear ?he ?_); (case he => exact rfl); dsimp only [List.set]) | ((with_reducible refine' gos_clearT 0 ?he ?hk ?hn ?_); (case hn => exact rfl); (case he => exact rfl); (case hk => exact rfl); dsimp only [List.set]) | ((with_reducible refine' gos_clearT 1 ?he ?hk ?hn ?_); (case hn => exact rfl); (case he => exact rfl); (case hk => exact rfl); dsimp only [List.set]) | with_reducible refine gos_drop ?_
  | ((with_reducible refine' go_var ?hv ?_); (case hv => exact rfl))
  | ((with_reducible refine' go_fz ?hv ?_); (case hv => exact rfl); (try walk_at "lendx"); (try simp only [fz_fl, fz_fk, fz_d, fzL_fl, fzK_d, O.fz, fzL, List.set])) | with_reducible refine go_int ?_ | with_reducible refine go_bl ?_ | with_reducible refine go_str ?_ | with_reducible refine go_non ?_ | with_reducible refine go_ty ?_ | ((with_reducible refine' go_cst ?hq ?_); (case hq => assumption)) | with_reducible refine go_ref ?_ | ((with_reducible refine' gos_raise ?hw ?_); (case hw => assumption)) | ((with_reducible refine' oa_isX ?hE ?hq ?_); (case hE => assumption); (case hq => assumption)) | ((with_reducible refine' oa_isXt ?hE ?hq ?_); (case hE => assumption); (case hq => assumption))
  | ((with_reducible refine gos_raise0 ?_); first | (exact absurd (by assumption) (by assumption)) | omega | (simp_all; done) | skip)
  | with_reducible refine go_lindex ?_ | with_reducible refine go_sindex ?_ | with_reducible refine go_upper ?_ | with_reducible refine go_find ?_
  | ((with_reducible refine' go_fldR ?hR ?_); (case hR => assumption)) | ((with_reducible refine' gos_fldR ?hR ?_); (case hR => assumption)) | with_reducible refine go_minD ?_ | with_reducible refine go_listRev ?_ | with_reducible refine go_listRgR ?_ | with_reducible refine go_sortSet ?_
  | ((with_reducible refine go_lend' fun F' B' => ?_); (try walk_at "lendx"); (try (simp only [fzE_cons, fzE_nil, frO_none, frO_some, fz_fl, fz_fk, fz_d, fzL_fl, fzK_d, O.fz, fzL, List.set]))) | ((with_reducible refine got_lend' fun F' B' => ?_); (try walk_at "lendx"); (try (simp only [fzE_cons, fzE_nil, frO_none, frO_some, fz_fl, fz_fk, fz_d, fzL_fl, fzK_d, O.fz, fzL, List.set])))
  | ((with_reducible refine' go_lendV' ?hv ?_); (case hv => walk_at "vw"); (intro F' B'); (try walk_at "vwx"); (try (simp only [fzE_cons, fzE_nil, frO_none, frO_some, fz_fl, fz_fk, fz_d, fzL_fl, fzK_d, O.fz, fzL, List.set]))) | ((with_reducible refine' got_lendV' ?hv ?_); (case hv => walk_at "vw"); (intro F' B'); (try walk_at "vwx"); (try (simp only [fzE_cons, fzE_nil, frO_none, frO_some, fz_fl, fz_fk, fz_d, fzL_fl, fzK_d, O.fz, fzL, List.set])))
  | with_reducible refine go_tupO' ?_ | with_reducible refine go_lstO' ?_ | with_reducible refine goao_nil ?_
  | ((with_reducible refine goao_cons ?_); first | ((with_reducible refine' go_var ?hv ?_); (case hv => exact rfl)) | ((with_reducible refine' go_move ?hv ?_); (case hv => exact rfl); dsimp only [List.set]) | skip)
  | ((with_reducible refine' go_varM ?hv ?_); (case hv => exact rfl); (try dsimp only [List.set]))
  | ((with_reducible refine' go_ixO ?he ?_); (case he => exact ⟨_, rfl⟩))
  | with_reducible refine go_op ?_ | with_reducible refine go_un ?_ | with_reducible refine go_cb ?_ | with_reducible refine go_tup ?_ | with_reducible refine go_lst ?_ | with_reducible refine go_chain ?_ | with_reducible refine go_dnew ?_
  | with_reducible refine goa_cons ?_ | with_reducible refine goa_nil ?_ | with_reducible refine go_andV ?_ | with_reducible refine go_orV ?_ | with_reducible refine go_notV ?_ | with_reducible refine go_if ?_
  | with_reducible refine got_test ?_ | with_reducible refine got_B ?_ | with_reducible refine got_and ?_ | with_reducible refine got_or ?_ | with_reducible refine got_not ?_ | with_reducible refine got_yes ?_
  | ((with_reducible refine' gog_name ?hi ?_); (case hi => exact Nat.le_of_ble_eq_true rfl); dsimp only [List.set])
  | ((with_reducible refine' gos_aug ⟨_, ?hx, ?_⟩); (case hx => exact rfl)) | with_reducible refine oi_add ?_ | with_reducible refine oi_sub ?_
  | ((with_reducible refine' gog_setDI ?ha ?h0); (case h0 => exact ⟨_, rfl⟩)) | ((with_reducible refine' gog_setDS ?ha ?h0); (case h0 => exact ⟨_, rfl⟩))
  | with_reducible refine gog_tup ?_ | with_reducible refine gogs_nil ?_
  | ((with_reducible refine' gogs_name ?hi ?_); (case hi => exact Nat.le_of_ble_eq_true rfl); dsimp only [List.set])
  | ((with_reducible refine' gow_name ?hj ?hi ?_); (case hj => simp); (case hi => exact Nat.le_of_ble_eq_true rfl); dsimp only [List.set])
  | ((with_reducible refine' gow_tup ?he ?hn ?_); (case he => exact rfl); (case hn => exact rfl)) | with_reducible refine gows_nil ?_
  | ((with_reducible refine' gows_name ?hj ?hi ?_); (case hj => simp); (case hi => exact Nat.le_of_ble_eq_true rfl); dsimp only [List.set])
  | (with_reducible refine ⟨_, rfl, ?_⟩)
  | ((with_reducible refine' o2_addT ?hx ?hz ?_); (case hx => exact List.cons_ne_nil _ _); (case hz => (simp only [List.length_cons, List.length_nil, List.length_map]; omega)); (try simp only [List.cons_append, List.nil_append]))
  | with_reducible refine o2_add ?_ | with_reducible refine o2_sub ?_ | with_reducible refine o1_neg ?_ | (with_reducible refine o2_is ?_; (try simp only [D.isNon])) | (with_reducible refine o2_not ?_; (try simp only [D.isNon, Bool.not_true, Bool.not_false])) | ((with_reducible refine' o2_mul ?hm ?_); (case hm => first | exact IntMulOk.of_left (by decide) | exact IntMulOk.of_right (by decide) | assumption | exact IntMulOk.of_right (intBits_le_64 (by omega) (by omega)) | exact IntMulOk.of_left (intBits_le_64 (by omega) (by omega)))) | ((with_reducible refine' o2_div ?hb ?_); (case hb => omega)) | ((with_reducible refine' o2_mod ?hb ?_); (case hb => omega))
  | ((with_reducible refine o2_pow (by decide) ?_); dsimp only [Int.reduceToNat, Int.reducePow])
  | with_reducible refine o2_lt ?_ | with_reducible refine o2_le ?_ | with_reducible refine o2_gt ?_ | with_reducible refine o2_ge ?_ | with_reducible refine o2_eqI ?_ | with_reducible refine o2_neI ?_ | with_reducible refine o2_eqB ?_ | with_reducible refine o2_neB ?_ | with_reducible refine o2_eqS ?_ | with_reducible refine o2_neS ?_
  | ((with_reducible refine' o2_eqN ?hq ?_); (case hq => exact rfl); (try simp only [emp_map])) | ((with_reducible refine' o2_neN ?hq ?_); (case hq => exact rfl); (try simp only [emp_map]))
  | with_reducible refine o2_eqK ?_ | with_reducible refine o2_neK ?_
  | with_reducible refine o2_isBl ?_ | with_reducible refine o2_notBl ?_
  | with_reducible refine oa_dictI ?_ | with_reducible refine oa_max2 ?_ | with_reducible refine oa_min2 ?_
  | with_reducible refine oa_lenD ?_ | with_reducible refine oa_len (.seq rfl) ?_ | ((with_reducible refine' oa_len (.str ?hz) ?_); (case hz => omega)) | with_reducible refine oa_tupL rfl ?_ | with_reducible refine oa_tupT ?_
  | ((with_reducible refine' oa_isiG (b := true) ?ht ?hk ?_); (case ht => constructor); (case hk => decide +kernel)) | ((with_reducible refine' oa_isiG (b := false) ?ht ?hk ?_); (case ht => constructor); (case hk => decide +kernel))
  | with_reducible refine go_join ?_ | with_reducible refine go_split ?_ | with_reducible refine go_part ?_ | with_reducible refine go_starts ?_ | with_reducible refine oa_strS ?_ | with_reducible refine oa_intB ?_
  | with_reducible refine go_dget2 ?_ | with_reducible refine go_dget1 ?_ | with_reducible refine gog_lunO ?_ | with_reducible refine gogso_nil ?_ | ((with_reducible refine' gogso_name ?hi ?_); (case hi => exact Nat.le_of_ble_eq_true rfl); dsimp only [List.set]) | (refine ⟨Sum.inl _, by exact rfl, ?_⟩) | (refine ⟨Sum.inr _, by exact rfl, ?_⟩)
  | ((with_reducible refine' o2_ix (x := _) rfl ?hi ?_); (case hi => first | walk_at "ixx" | exact rfl | exact atI_ofN.trans rfl))
  | with_reducible refine go_sl3 ?_ | with_reducible refine go_sl ?_ | with_reducible refine goo_none ?_ | with_reducible refine goo_some ?_
  | with_reducible refine goi_rng1 ?_ | with_reducible refine goi_rng2 ?_ | with_reducible refine goi_seq ?_ | with_reducible refine goi_enum ?_ | with_reducible refine goi_zip ?_ | with_reducible refine goi_zipT ?_
  | with_reducible refine gos_for ?_
  | walk_at "lendx"
  | (simp only [fz_fl, fz_fk, fz_d, fzL_fl, fzK_d, O.fz, fzL])
  | ((with_reducible refine and_im (fun hc => ?_) (fun hc => ?_)) <;> try simp only [decide_eq_true_eq, decide_eq_false_iff_not, Bool.true_eq_false, Bool.false_eq_true, Bool.not_eq_true', Bool.not_eq_false', reduceCtorEq] at hc <;> try first | exact absurd hc (by decide) | exact absurd hc (by assumption) | exact absurd (by assumption) hc | exact absurd rfl hc)
  | walk_at "skc"
  | (refine ⟨_, _, _, _, rfl, by exact rfl, by exact rfl, ?_⟩) | (with_reducible refine ⟨_, _, rfl, ?_⟩) | (with_reducible refine ⟨_, _, _, rfl, ?_⟩) | (with_reducible refine ⟨_, _, _, _, rfl, ?_⟩) | (with_reducible refine ⟨_, _, _, _, _, rfl, ?_⟩) | (with_reducible refine ⟨_, _, _, _, _, _, rfl, ?_⟩)
  | ((with_reducible refine' And.intro ?hp ?_); (case hp => first | omega | assumption | exact rfl | exact Nat.le_of_ble_eq_true rfl | exact lfOLm (fun _ => rfl) | (show O.lf _ = true; simp only [O.lf, D.lf, lfL, lfOL, lf_mapI, Bool.and_true, Bool.and_self]; done)); (try dsimp only [List.set]))
  | ((refine' ⟨_, Sl.str ?hz, ?_⟩); (case hz => omega))
  | ((refine ⟨_, Sl.tupM (by decide) (List.cons_ne_nil _ _), ?_⟩); (try simp only [cutD_takeI, cutD_dropI, cutD_midI, Int.reduceToNat, Int.reduceLE, List.take_succ_cons, List.drop_succ_cons, List.take_zero, List.drop_zero]))
  | ((refine ⟨_, Sl.lst (by exact rfl), ?_⟩); (try simp only [SK.cutD_map, cutD_takeI, cutD_dropI, cutD_midI, ← List.map_take, ← List.map_drop, Int.reduceToNat, Int.reduceLE])) | (refine ⟨_, by exact rfl, ?_⟩) | (refine ⟨_, _, by exact rfl, by exact rfl, ?_⟩)
  | fail)
/-- all steps that no choice is asked of -/
local macro_rules | `(tactic| walk_at "sk") => `(tactic| (repeat' (walk_at "sk1")))
/-- .. and ifs that go on behind, each way by itself -/
local macro_rules | `(tactic| walk_at "skb") => `(tactic| (repeat' (first | walk_at "sk1" | with_reducible refine gos_seq ?_ | fail)))
/-- slots are as told -/
local macro_rules | `(tactic| walk_at "envq") => `(tactic| ((try simp only [List.map_append, List.map_cons, List.map_nil]); rfl))
/-- .. and what is plainly true falls away -/
local macro_rules | `(tactic| walk_at "wk") => `(tactic| (repeat' (first | walk_at "sk1" | (with_reducible refine ⟨trivial, ?_⟩) | fail)))
local macro_rules | `(tactic| walk_at "wkb") => `(tactic| (repeat' (first | walk_at "sk1" | (with_reducible refine ⟨trivial, ?_⟩) | with_reducible refine gos_seq ?_ | fail)))
def topS (i : Nat) : Stmt := PySem.Challenge.pw_skewhouse_k61_spots.main.body.getD i (.Pass ⟨0, 0, 0, 0⟩)
abbrev s__law_stream : Stmt := topS 25
abbrev N__law_stream : List Str := ["_law_cell", "_law_many_here", "_law_found", "_law_number", "_law_k"]
theorem sc__law_stream : FnScope N__law_stream ["_law_cell", "_law_many_here"] (defScope s__law_stream) := ⟨rfl, rfl, rfl, by decide +kernel, rfl, by decide +kernel, by decide +kernel⟩
abbrev s__law_keys : Stmt := topS 26
abbrev N__law_keys : List Str := ["_law_cell", "_law_xs", "_law_keys_here", "_law_j", "_law_key"]
theorem sc__law_keys : FnScope N__law_keys ["_law_cell"] (defScope s__law_keys) := ⟨rfl, rfl, rfl, by decide +kernel, rfl, by decide +kernel, by decide +kernel⟩
abbrev s__law_cell_at : Stmt := topS 23
abbrev N__law_cell_at : List Str := ["_law_script", "_law_k"]
theorem sc__law_cell_at : FnScope N__law_cell_at ["_law_script", "_law_k"] (defScope s__law_cell_at) := ⟨rfl, rfl, rfl, by decide +kernel, rfl, by decide +kernel, by decide +kernel⟩
abbrev s__law_times : Stmt := topS 27
abbrev N__law_times : List Str := ["_law_xs", "_law_end", "_law_many_here", "_law_j"]
theorem sc__law_times : FnScope N__law_times ["_law_xs", "_law_end"] (defScope s__law_times) := ⟨rfl, rfl, rfl, by decide +kernel, rfl, by decide +kernel, by decide +kernel⟩
abbrev s__law_drawn : Stmt := topS 28
abbrev N__law_drawn : List Str := ["_law_script", "_law_found", "_law_number", "_law_xs", "_law_end", "_law_word_here"]
theorem sc__law_drawn : FnScope N__law_drawn ["_law_script"] (defScope s__law_drawn) := ⟨rfl, rfl, rfl, by decide +kernel, rfl, by decide +kernel, by decide +kernel⟩
abbrev s__law_spoiled : Stmt := topS 30
abbrev N__law_spoiled : List Str := ["_law_deals", "_law_makes", "_law_cell", "_law_xs", "_law_number", "_law_word_here", "_law_looks", "_law_chain", "_law_moved", "_law_look", "_law_key", "_law_some", "_law_maker"]
theorem sc__law_spoiled : FnScope N__law_spoiled ["_law_deals", "_law_makes", "_law_cell"] (defScope s__law_spoiled) := ⟨rfl, rfl, rfl, by decide +kernel, rfl, by decide +kernel, by decide +kernel⟩
abbrev s__law_source : Stmt := topS 29
abbrev N__law_source : List Str := ["_law_makers", "_law_ends", "_law_number", "_law_time", "_law_found", "_law_maker"]
theorem sc__law_source : FnScope N__law_source ["_law_makers", "_law_ends", "_law_number", "_law_time"] (defScope s__law_source) := ⟨rfl, rfl, rfl, by decide +kernel, rfl, by decide +kernel, by decide +kernel⟩
abbrev s__law_tale : Stmt := topS 31
abbrev N__law_tale : List Str := ["_law_script", "_law_keys_here", "_law_drawn_here", "_law_ends", "_law_makes", "_law_deals", "_law_cell", "_law_end", "_law_number", "_law_made", "_law_k", "_law_word_here", "_law_times_here", "_law_bits", "_law_looks", "_law_j", "_law_there", "_law_one", "_law_key"]
theorem sc__law_tale : FnScope N__law_tale ["_law_script"] (defScope s__law_tale) := ⟨rfl, rfl, rfl, by decide +kernel, rfl, by decide +kernel, by decide +kernel⟩
abbrev s__law_longer : Stmt := topS 32
abbrev N__law_longer : List Str := ["_law_script", "_law_tale_here", "_law_cell", "_law_at", "_law_number", "_law_word_here", "_law_looks", "_law_k"]
theorem sc__law_longer : FnScope N__law_longer ["_law_script"] (defScope s__law_longer) := ⟨rfl, rfl, rfl, by decide +kernel, rfl, by decide +kernel, by decide +kernel⟩
abbrev s__law_word : Stmt := topS 34
abbrev N__law_word : List Str := ["_law_cell"]
theorem sc__law_word : FnScope N__law_word ["_law_cell"] (defScope s__law_word) := ⟨rfl, rfl, rfl, by decide +kernel, rfl, by decide +kernel, by decide +kernel⟩
abbrev s__law_odd : Stmt := topS 35
abbrev N__law_odd : List Str := ["_law_number", "_law_some", "_law_word_here", "_law_at", "_law_letter"]
theorem sc__law_odd : FnScope N__law_odd ["_law_number"] (defScope s__law_odd) := ⟨rfl, rfl, rfl, by decide +kernel, rfl, by decide +kernel, by decide +kernel⟩
abbrev s__law_whole : Stmt := topS 24
abbrev N__law_whole : List Str := ["_law_found"]
theorem sc__law_whole : FnScope N__law_whole ["_law_found"] (defScope s__law_whole) := ⟨rfl, rfl, rfl, by decide +kernel, rfl, by decide +kernel, by decide +kernel⟩
abbrev s__law_alike : Stmt := topS 37
abbrev N__law_alike : List Str := ["_law_found", "_law_due_here", "_law_spot"]
theorem sc__law_alike : FnScope N__law_alike ["_law_found", "_law_due_here"] (defScope s__law_alike) := ⟨rfl, rfl, rfl, by decide +kernel, rfl, by decide +kernel, by decide +kernel⟩
abbrev s_Loose__spots : Stmt := inCls (topS 6) 6
abbrev N_Loose__spots : List Str := ["self", "looks"]
theorem sc_Loose__spots : FnScope N_Loose__spots ["self", "looks"] (defScope s_Loose__spots) := ⟨rfl, rfl, rfl, by decide +kernel, rfl, by decide +kernel, by decide +kernel⟩
abbrev s_Kept__spots : Stmt := inCls (topS 7) 2
abbrev N_Kept__spots : List Str := ["self", "looks"]
theorem sc_Kept__spots : FnScope N_Kept__spots ["self", "looks"] (defScope s_Kept__spots) := ⟨rfl, rfl, rfl, by decide +kernel, rfl, by decide +kernel, by decide +kernel⟩
abbrev s_Make__spots : Stmt := inCls (topS 8) 3
abbrev N_Make__spots : List Str := ["self", "looks"]
theorem sc_Make__spots : FnScope N_Make__spots ["self", "looks"] (defScope s_Make__spots) := ⟨rfl, rfl, rfl, by decide +kernel, rfl, by decide +kernel, by decide +kernel⟩
abbrev s_Watch__spots : Stmt := inCls (topS 9) 2
abbrev N_Watch__spots : List Str := ["self", "looks"]
theorem sc_Watch__spots : FnScope N_Watch__spots ["self", "looks"] (defScope s_Watch__spots) := ⟨rfl, rfl, rfl, by decide +kernel, rfl, by decide +kernel, by decide +kernel⟩
abbrev s_Hold__spots : Stmt := inCls (topS 10) 2
abbrev N_Hold__spots : List Str := ["self", "looks"]
theorem sc_Hold__spots : FnScope N_Hold__spots ["self", "looks"] (defScope s_Hold__spots) := ⟨rfl, rfl, rfl, by decide +kernel, rfl, by decide +kernel, by decide +kernel⟩
abbrev s_level_of : Stmt := topS 11
abbrev N_level_of : List Str := ["word"]
theorem sc_level_of : FnScope N_level_of ["word"] (defScope s_level_of) := ⟨rfl, rfl, rfl, by decide +kernel, rfl, by decide +kernel, by decide +kernel⟩
abbrev s_levels_for : Stmt := topS 14
abbrev N_levels_for : List Str := ["history", "word", "found", "number", "own", "looks"]
theorem sc_levels_for : FnScope N_levels_for ["history", "word"] (defScope s_levels_for) := ⟨rfl, rfl, rfl, by decide +kernel, rfl, by decide +kernel, by decide +kernel⟩
abbrev s_spots : Stmt := topS 15
abbrev N_spots : List Str := ["history", "word", "levels", "found", "number", "own", "looks", "place"]
theorem sc_spots : FnScope N_spots ["history", "word"] (defScope s_spots) := ⟨rfl, rfl, rfl, by decide +kernel, rfl, by decide +kernel, by decide +kernel⟩
abbrev s__law_many : Stmt := topS 33
abbrev N__law_many : List Str := ["_law_word_here", "_law_looks"]
theorem sc__law_many : FnScope N__law_many ["_law_word_here", "_law_looks"] (defScope s__law_many) := ⟨rfl, rfl, rfl, by decide +kernel, rfl, by decide +kernel, by decide +kernel⟩
abbrev s__law_due : Stmt := topS 36
abbrev N__law_due : List Str := ["_law_tale_here", "_law_word_here", "_law_due_here", "_law_number", "_law_own", "_law_looks", "_law_level", "_law_place"]
theorem sc__law_due : FnScope N__law_due ["_law_tale_here", "_law_word_here"] (defScope s__law_due) := ⟨rfl, rfl, rfl, by decide +kernel, rfl, by decide +kernel, by decide +kernel⟩
abbrev s_edges : Stmt := topS 21
abbrev N_edges : List Str := ["history", "word", "levels", "makes", "found", "once", "edge", "keeps", "firsts", "key", "makers", "number", "own", "looks", "many", "place", "later"]
theorem sc_edges : FnScope N_edges ["history", "word"] (defScope s_edges) := ⟨rfl, rfl, rfl, by decide +kernel, rfl, by decide +kernel, by decide +kernel⟩
abbrev s__law_refused : Stmt := topS 38
abbrev N__law_refused : List Str := ["_law_tale_here", "_law_word_here", "_law_of_edges", "_law_kind", "e"]
theorem sc__law_refused : FnScope N__law_refused ["_law_tale_here", "_law_word_here", "_law_of_edges"] (defScope s__law_refused) := ⟨rfl, rfl, rfl, by decide +kernel, rfl, by decide +kernel, by decide +kernel⟩
abbrev s_law : Stmt := topS 39
abbrev N_law : List Str := ["_law_script", "_law_tale_here", "_law_word_here", "_law_odd_here"]
theorem sc_law : FnScope N_law ["_law_script"] (defScope s_law) := ⟨rfl, rfl, rfl, by decide +kernel, rfl, by decide +kernel, by decide +kernel⟩
structure XF (K : PySem.W.Frag) (mg : Str → Option Value) (a_SkewError a_NoLevel a_NoHistory a_WHYS a_Loose a_Kept a_Make a_Watch a_Hold : Addr) : Prop where
  g_SkewError : mg "SkewError" = some (.ref a_SkewError)
  g_NoLevel : mg "NoLevel" = some (.ref a_NoLevel)
  g_NoHistory : mg "NoHistory" = some (.ref a_NoHistory)
  x_NoLevel : XCls K mg "NoLevel" a_NoLevel
  e_NoLevel : L2.ExcC K a_NoLevel
  em_NoLevel_NoLevel : PySem.W.exmOne K (.ref a_NoLevel) (.ref a_NoLevel) = some true
  ki_NoLevel_SkewError : PySem.W.kitOne K (.ref a_NoLevel) (.ref a_SkewError) = some true
  ki_NoLevel_NoHistory : PySem.W.kitOne K (.ref a_NoLevel) (.ref a_NoHistory) = some false
  kt_NoLevel_ValueError : PySem.W.kitOne K (.ref a_NoLevel) (.type "ValueError") = some true
  g_WHYS : mg "WHYS" = some (.ref a_WHYS)
  r_WHYS : ∀ B, R K B (.ref a_WHYS) (.sq [(.str "own"), (.str "saw"), (.str "unseen"), (.str "over")])
  g_Loose : mg "Loose" = some (.ref a_Loose)
  R_Loose : Rec K a_Loose []
  M_Loose : Mk00 K a_Loose
  g_Kept : mg "Kept" = some (.ref a_Kept)
  R_Kept : Rec K a_Kept []
  M_Kept : Mk00 K a_Kept
  g_Make : mg "Make" = some (.ref a_Make)
  R_Make : Rec K a_Make []
  M_Make : Mk00 K a_Make
  g_Watch : mg "Watch" = some (.ref a_Watch)
  R_Watch : Rec K a_Watch []
  M_Watch : Mk00 K a_Watch
  g_Hold : mg "Hold" = some (.ref a_Hold)
  R_Hold : Rec K a_Hold []
  M_Hold : Mk00 K a_Hold
inductive Lv where | loose | kept | make | watch | hold
deriving DecidableEq
def lvS : Lv → Str | .loose => "Loose" | .kept => "Kept" | .make => "Make" | .watch => "Watch" | .hold => "Hold"
def lvW : Lv → Str | .loose => "loose" | .kept => "kept" | .make => "make" | .watch => "watch" | .hold => "hold"
def lvA (mg : Str → Option Value) (l : Lv) : Addr := match mg (lvS l) with | some (.ref a) => a | _ => 0
def lvD (mg : Str → Option Value) (l : Lv) : SK.D := .ins (lvA mg l) []
theorem lvD_of (l : Lv) {mg : Str → Option Value} {a : Addr} (h : mg (lvS l) = some (.ref a)) : lvD mg l = .ins a [] := by
  unfold lvD lvA; rw [h]
def lvAll : List Lv := [.loose, .kept, .make, .watch, .hold]
def lvOf (s : Str) : Option Lv := if s = "loose" then some .loose else if s = "kept" then some .kept else if s = "make" then some .make else if s = "watch" then some .watch else if s = "hold" then some .hold else none
theorem lvOf_W (l : Lv) : lvOf (lvW l) = some l := by cases l <;> decide
theorem lvOf_some {s : Str} {l : Lv} (h : lvOf s = some l) : s = lvW l := by
  unfold lvOf at h
  repeat' (first | (split at h; (cases h; assumption)) | cases h)
def lvSpots (l : Lv) (n : Int) : Int := match l with | .kept => n + 1 | .make => 2 | _ => 1
theorem rngD_len {lo : Int} {n : Nat} : (rngD lo n).length = n := by simp [rngD]
def cellN (ns : List Int) (k : Int) : Int := ns.getD k.toNat 0
/-- a stream: the last number and those told -/
def strS (c : Int) : Nat → Int × List Int
  | 0 => (c % 2147483647, [])
  | i + 1 => let m := ((strS c i).1 * 48271 + 11 + (i : Int)) % 2147483647; (m, (strS c i).2 ++ [m])
def strm (c : Int) (n : Nat) : List Int := (strS c n).2
theorem strm_len (c : Int) : ∀ n, (strm c n).length = n
  | 0 => rfl
  | n + 1 => by show ((strm c n) ++ [_]).length = _; rw [List.length_append, strm_len c n]; rfl
theorem strS_bd (c : Int) : ∀ n, (0 ≤ (strS c n).1 ∧ (strS c n).1 < 2147483647) ∧ ∀ x ∈ (strS c n).2, 0 ≤ x ∧ x < 2147483647
  | 0 => ⟨⟨Int.emod_nonneg _ (by decide), Int.emod_lt_of_pos _ (by decide)⟩, fun x h => by cases h⟩
  | n + 1 => by
    have b : 0 ≤ ((strS c n).1 * 48271 + 11 + (n : Int)) % 2147483647 ∧ ((strS c n).1 * 48271 + 11 + (n : Int)) % 2147483647 < 2147483647 := ⟨Int.emod_nonneg _ (by decide), Int.emod_lt_of_pos _ (by decide)⟩
    refine ⟨b, fun x h => ?_⟩
    rcases List.mem_append.mp h with h | h
    · exact (strS_bd c n).2 x h
    · rw [List.mem_singleton.mp h]; exact b
theorem strm_bd {c : Int} {n : Nat} {x : Int} (h : x ∈ strm c n) : 0 ≤ x ∧ x < 2147483647 := (strS_bd c n).2 x h
/-- x at i of a stream's numbers -/
def at0 (xs : List Int) (i : Int) : Int := xs.getD i.toNat 0
theorem at0_bd {c : Int} {n : Nat} {i : Int} : 0 ≤ at0 (strm c n) i ∧ at0 (strm c n) i < 2147483647 := by
  unfold at0
  rw [List.getD_eq_getElem?_getD]
  cases e : (strm c n)[i.toNat]? with
  | none => exact ⟨by decide, by decide⟩
  | some x => exact strm_bd (List.mem_of_getElem? e)
theorem at0_ix {xs : List Int} {i : Int} (h0 : 0 ≤ i) (h1 : i < xs.length) : atI (xs.map SK.D.int) i = some (.int (at0 xs i)) := atI_map h0 h1
def sins (x : Int) : List Int → List Int
  | [] => [x]
  | y :: r => if x < y then x :: y :: r else if x = y then y :: r else y :: sins x r
def sset (ks : List Int) : List Int := ks.foldr sins []
theorem sins_mem {x k : Int} : ∀ {l : List Int}, k ∈ sins x l ↔ k = x ∨ k ∈ l
  | [] => by simp [sins]
  | y :: r => by
    unfold sins
    split
    · simp
    · split
      · rename_i h1 h2; subst h2; simp
      · rw [List.mem_cons, sins_mem (l := r), List.mem_cons]
        constructor
        · rintro (h | h | h)
          · exact .inr (.inl h)
          · exact .inl h
          · exact .inr (.inr h)
        · rintro (h | h | h)
          · exact .inr (.inl h)
          · exact .inl h
          · exact .inr (.inr h)
theorem sins_rise {x : Int} : ∀ {l : List Int}, l.Pairwise (· < ·) → (sins x l).Pairwise (· < ·)
  | [], _ => by simp [sins]
  | y :: r, h => by
    rw [List.pairwise_cons] at h
    unfold sins
    split
    · rename_i h1
      refine List.pairwise_cons.mpr ⟨fun z hz => ?_, List.pairwise_cons.mpr h⟩
      rcases List.mem_cons.mp hz with rfl | hz
      · exact h1
      · have := h.1 z hz; omega
    · split
      · exact List.pairwise_cons.mpr h
      · rename_i h1 h2
        refine List.pairwise_cons.mpr ⟨fun z hz => ?_, sins_rise h.2⟩
        rcases sins_mem.mp hz with rfl | hz
        · omega
        · exact h.1 z hz
theorem sset_mem {k : Int} : ∀ {l : List Int}, k ∈ sset l ↔ k ∈ l
  | [] => by simp [sset]
  | y :: r => by
    show k ∈ sins y (sset r) ↔ _
    rw [sins_mem, sset_mem (l := r), List.mem_cons]
theorem sset_rise : ∀ {l : List Int}, (sset l).Pairwise (· < ·)
  | [] => by simp [sset]
  | y :: r => sins_rise (sset_rise (l := r))
theorem sset_same {ms ks : List Int} (h : ms.Pairwise (· < ·)) (m : ∀ k, k ∈ ms ↔ k ∈ ks) : ms = sset ks := rise_same h sset_rise fun k => (m k).trans sset_mem.symm
def key1 (x : Int) : Int := if x % 3 = 0 then x ^ 3 * 1009 % (2 * 10 ^ 30 - 1) - (10 ^ 30 - 1) else x / 3 % 7 - 3
def keysF (c : Int) : List Int := sset ((List.range (at0 (strm c 4) 0 % 4).toNat).map fun (j : Nat) => key1 (at0 (strm c 4) (1 + (j : Int))))
def timesF (xs : List Int) (e : Int) : List Int :=
  let n := (at0 xs 2 % 4).toNat
  if at0 xs 3 % 4 = 0 then List.replicate n e else if at0 xs 3 % 4 = 1 then List.replicate n (e - at0 xs 7 % 400)
  else if at0 xs 3 % 4 = 2 then (List.range n).map fun (j : Nat) => e - ((n : Int) - (j : Int)) * (at0 xs 7 % 150) else (List.range n).map fun (j : Nat) => at0 xs (4 + (j : Int)) / 8 % 1300
def lvI (i : Int) : Lv := lvAll.getD i.toNat .loose
structure Dr where
  n : Int
  l : Lv
  e : Int
  ts : List Int
  bs : List Int
  m : Int
def iD (xs : List Int) : SK.D := .lst (xs.map SK.D.int)
def drD (d : Dr) : SK.D := .tup [.int d.n, .str (lvW d.l), .int d.e, iD d.ts, iD d.bs, .int d.m]
def dr1 (ns : List Int) (n : Int) : Dr :=
  let xs := strm (cellN ns (1 + n) + 7919 * n) 10
  let e := 100 * (at0 xs 1 % 12) + n
  ⟨n, lvI (at0 xs 0 % 5), e, timesF xs e, [at0 xs 4, at0 xs 5, at0 xs 6], at0 xs 8⟩
def drHas (ns : List Int) (n : Int) : Bool := decide (Builtin.bitAnd ((cellN ns 0 % 256) / 2 ^ (n - 1).toNat) 1 = 1)
def drawnI (ns : List Int) (k : Nat) : List Dr := ((List.range k).filter fun (j : Nat) => drHas ns (1 + (j : Int))).map fun (j : Nat) => dr1 ns (1 + (j : Int))
def drawnF (ns : List Int) : List Dr := drawnI ns 8
theorem lvI_at {i : Int} (h0 : 0 ≤ i) (h1 : i < 5) : atI [SK.D.str "loose", .str "kept", .str "make", .str "watch", .str "hold"] i = some (.str (lvW (lvI i))) := by
  obtain ⟨n, rfl⟩ := Int.eq_ofNat_of_zero_le h0
  have hn : n < 5 := by omega
  exact (show ∀ n : Fin 5, atI [SK.D.str "loose", .str "kept", .str "make", .str "watch", .str "hold"] ((n.1 : Nat) : Int) = some (.str (lvW (lvI ((n.1 : Nat) : Int)))) by intro n; match n with | ⟨0, _⟩ => rfl | ⟨1, _⟩ => rfl | ⟨2, _⟩ => rfl | ⟨3, _⟩ => rfl | ⟨4, _⟩ => rfl) ⟨n, hn⟩
def srcF (ms : List Int) (es : IM Int) (n t : Int) : Int := ms.foldl (fun f m => if m ≠ n ∧ (dval es m).getD 0 < t then m else f) 0
abbrev Pr := Int × Int
structure De where
  n : Int
  l : Lv
  ks : List (List Pr)
def pairD (p : Pr) : SK.D := .tup [.int p.1, .int p.2]
def lookD (l : List Pr) : SK.D := .lst (l.map pairD)
def lookO (l : List Pr) : O := .ol ((l.map pairD).map O.d)
def deD (d : De) : SK.D := .tup [.int d.n, .str (lvW d.l), .lst (d.ks.map lookD)]
def deO (d : De) : O := .op [.d (.int d.n), .d (.str (lvW d.l)), .ol (d.ks.map lookO)]
def msO (ms : List Int) : O := .ol ((ms.map SK.D.int).map O.d)
abbrev Mk := IM (List Int)
def insA (ch : List Int) (k j : Nat) : List Int := (ch.eraseIdx k).take j ++ [ch.getD k 0] ++ (ch.eraseIdx k).drop j
def chainF (ch : List Int) (a b : Int) : List Int := if ch.length > 1 then insA ch (1 + a % ((ch.length : Int) - 1)).toNat (b % (((ch.length - 1 : Nat) : Int) + 1)).toNat else ch
def someF (ms : List Int) (n z : Int) : List Int := if z / 4 % 12 = 0 then [-1] else 0 :: ms.filter fun m => decide (m ≠ n)
def ixE (n : Int) (l : Nat) : Nat := (n % (l : Int)).toNat
def lookF (ds : List De) (mk : Mk) (xs : List Int) : List De :=
  let i := ixE (at0 xs 1) ds.length
  match ds[i]? with
  | none => ds
  | some d =>
    let j := ixE (at0 xs 2) d.ks.length
    match d.ks[j]? with
    | none => ds
    | some l =>
      let k := ixE (at0 xs 3) l.length
      match l[k]? with
      | none => ds
      | some p =>
        let sm := someF ((dval mk p.1).getD []) d.n (at0 xs 0)
        ds.set i { d with ks := d.ks.set j (l.set k (p.1, sm.getD (ixE (at0 xs 4) sm.length) 0)) }
def spoilF (ds : List De) (mk : Mk) (c : Int) : List De × Mk :=
  let xs := strm c 5
  if at0 xs 0 % 4 = 0 ∧ mk ≠ [] then
    let key := (srt (mk.map (·.1))).getD (ixE (at0 xs 2) mk.length) 0
    (ds, SK.dput mk key (chainF ((dval mk key).getD []) (at0 xs 3) (at0 xs 4)))
  else (lookF ds mk xs, mk)
theorem deO_fz (d : De) : (deO d).fz = deD d := by
  show D.tup [.int d.n, .str (lvW d.l), .lst (fzL (d.ks.map lookO))] = _
  rw [fzL_map (f := lookO) (g := lookD) fun l => show (lookO l).fz = lookD l from congrArg SK.D.lst fzL_fl]; rfl
theorem desO_fz {ds : List De} : fzL (ds.map deO) = ds.map deD := fzL_map deO_fz
theorem msO_fz (ms : List Int) : (msO ms).fz = iD ms := congrArg D.lst fzL_fl
theorem mkO_fz {mk : Mk} : fzK (imO msO mk) = imK iD mk := imO_fz msO_fz
theorem getP_i2 {ad : Addr} {xs : List O} {i : Nat} {a b c : O} (h : xs[i]? = some (.op [a, b, c])) : (O.atA ad (.ol xs)).getP [.idx i, .idx 2] = some c := by
  show (match xs[i]? with | some u => u.getP [.idx 2] | none => none) = _
  rw [h]; rfl
theorem setP_i2 {ad : Addr} {xs : List O} {i : Nat} {a b c y : O} (h : xs[i]? = some (.op [a, b, c])) : (O.atA ad (.ol xs)).setP y [.idx i, .idx 2] = .atA ad (.ol (xs.set i (.op [a, b, y]))) := by
  show (match xs[i]? with | some u => O.set1 (.atA ad (.ol xs)) (u.setP y [.idx 2]) (.idx i) | none => _) = _
  rw [h]; rfl
theorem getP_k {am : Addr} {kvs : List (Key × O)} {k : Key} {c : O} (h : kval kvs k = some c) : (O.atA am (.od kvs)).getP [.key k] = some c := by
  show (match kval kvs k with | some u => u.getP [] | none => none) = _
  rw [h]; rfl
theorem setP_k {am : Addr} {kvs : List (Key × O)} {k : Key} {c y : O} (h : kval kvs k = some c) : (O.atA am (.od kvs)).setP y [.key k] = .atA am (.od (SK.dput kvs k y)) := by
  show (match kval kvs k with | some u => O.set1 (.atA am (.od kvs)) (u.setP y []) (.key k) | none => _) = _
  rw [h]; rfl
theorem atI_nat' {α : Type} {xs : List α} {n : Int} {y : α} (h0 : 0 ≤ n) (h : xs[n.toNat]? = some y) : atI xs n = some y := by
  obtain ⟨k, rfl⟩ := Int.eq_ofNat_of_zero_le h0
  exact atI_ofN.trans h
theorem ixE_lt {n : Int} {l : Nat} (h : 0 < l) : ixE n l < l := by
  unfold ixE
  have := Int.emod_lt_of_pos n (show (0 : Int) < (l : Int) by omega)
  have := Int.emod_nonneg n (show (l : Int) ≠ 0 by omega)
  omega
theorem im_keep {β : Type} {k : Int} {v : β} {l : IM β} (h : k ∈ l.map (·.1)) : (SK.dput l k v).map (·.1) = l.map (·.1) := by
  unfold SK.dput
  rw [if_pos (List.any_eq_true.mpr (by obtain ⟨p, hp, e⟩ := List.mem_map.mp h; exact ⟨p, hp, by simp [e]⟩)), SK.repl_keys]
/-- the makes with one chain told by its place alone -/
def mkA (mk : Mk) (key : Int) (a : Addr) : IM SK.D := SK.dput (mk.map fun p => (p.1, iD p.2)) key (.ref a)
theorem imO_dD {l : IM SK.D} : fzK (imO O.d l) = imK id l := imO_fz fun _ => rfl
theorem mkA_fz {mk : Mk} {key : Int} {a : Addr} : fzK (SK.dput (imO msO mk) (.inl key) (.d (.ref a))) = imK id (mkA mk key a) := by
  rw [fzK_put, mkO_fz]
  have e : imK iD mk = fzK (imO O.d (mk.map fun p => (p.1, iD p.2))) := by rw [imO_dD]; simp [imK, List.map_map, Function.comp_def]
  rw [e]
  show SK.dput (fzK (imO O.d _)) (.inl key) (O.d (.ref a)).fz = _
  rw [← fzK_put, imO_put, imO_dD]; rfl
theorem mkA_keys {mk : Mk} {key : Int} {a : Addr} (h : key ∈ mk.map (·.1)) : (mkA mk key a).map (·.1) = mk.map (·.1) := by
  unfold mkA
  rw [im_keep (by rw [List.map_map]; exact h), List.map_map]; rfl
theorem mkA_len {mk : Mk} {key : Int} {a : Addr} (h : key ∈ mk.map (·.1)) : (mkA mk key a).length = mk.length := by
  have := congrArg List.length (mkA_keys (a := a) h)
  simpa using this
theorem mkA_at {mk : Mk} {key : Int} {a : Addr} : dval (imK id (mkA mk key a)) (.inl key) = some (.ref a) := by
  rw [dval_im]; unfold mkA; rw [dval_put, if_pos rfl]; rfl
theorem kval_mk {mk : Mk} {key : Int} {ch : List Int} (h : dval mk key = some ch) : kval (imO msO mk) (.inl key) = some (msO ch) := by rw [kval_im, h]; rfl
theorem kval_put {kvs : List (Key × O)} {k : Key} {y : O} : kval (SK.dput kvs k y) k = some y := by
  show dval (SK.dput kvs k y) k = _
  rw [dval_put, if_pos rfl]
theorem seq_of {n : Int} {l : Nat} (h0 : 0 ≤ n) (h1 : n < (l : Int)) : seqIndex? n l = some n.toNat := by
  have e : (if n < 0 then n + (l : Int) else n) = n := if_neg (by omega)
  unfold seqIndex?
  simp only [e]
  simp [h0, h1]
theorem lksO_fz {ks : List (List Pr)} : fzL (ks.map lookO) = ks.map lookD := fzL_map fun l => show (lookO l).fz = lookD l from congrArg SK.D.lst fzL_fl
theorem shp_pair (p : Pr) : Shp 1 (pairD p) := Shp.tup fun z hz => by
  simp only [List.mem_cons, List.not_mem_nil, or_false] at hz
  rcases hz with rfl | rfl
  · exact .int
  · exact .int
theorem shp_look (l : List Pr) : Shp 2 (lookD l) := Shp.lstM shp_pair
theorem getP_i3 {ad aL : Addr} {xs ys : List O} {i j : Nat} {a b c : O} (h : xs[i]? = some (.op [a, b, .atA aL (.ol ys)])) (h2 : ys[j]? = some c) : (O.atA ad (.ol xs)).getP [.idx i, .idx 2, .idx j] = some c := by
  show (match xs[i]? with | some u => u.getP [.idx 2, .idx j] | none => none) = _
  rw [h]
  show (match ys[j]? with | some u => u.getP [] | none => none) = _
  rw [h2]; rfl
theorem setP_i3 {ad aL : Addr} {xs ys : List O} {i j : Nat} {a b c y : O} (h : xs[i]? = some (.op [a, b, .atA aL (.ol ys)])) (h2 : ys[j]? = some c) : (O.atA ad (.ol xs)).setP y [.idx i, .idx 2, .idx j] = .atA ad (.ol (xs.set i (.op [a, b, .atA aL (.ol (ys.set j y))]))) := by
  show (match xs[i]? with | some u => O.set1 (.atA ad (.ol xs)) (u.setP y [.idx 2, .idx j]) (.idx i) | none => _) = _
  rw [h]
  show O.set1 (.atA ad (.ol xs)) (O.set1 (.op [a, b, .atA aL (.ol ys)]) (match ys[j]? with | some u => O.set1 (.atA aL (.ol ys)) (u.setP y []) (.idx j) | none => _) (.idx 2)) (.idx i) = _
  rw [h2]; rfl
theorem wk_item {ys : List O} {j : Nat} {u : O} {a : Addr} (h : ys[j]? = some u) (ha : u.addr = some a) : Wkn (.ol ys) (.ol (ys.set j (.d (.ref a)))) := by
  have g : (O.ol ys).getP [.idx j] = some u := by
    show (match ys[j]? with | some u => u.getP [] | none => none) = _
    rw [h]; rfl
  have := wkn_setP (wkn_ref ha) g
  have e : (O.ol ys).setP (.d (.ref a)) [.idx j] = .ol (ys.set j (.d (.ref a))) := by
    show (match ys[j]? with | some u => O.set1 (.ol ys) (u.setP (.d (.ref a)) []) (.idx j) | none => _) = _
    rw [h]; rfl
  rw [e] at this
  exact this
theorem gd_mk {mk : Mk} {k : Int} : (dval (imK iD mk) (.inl k)).getD (.lst []) = .lst (((dval mk k).getD []).map SK.D.int) := by
  rw [dval_im]
  cases dval mk k <;> rfl
theorem gd_len {mk : Mk} {k : Int} (h : ∀ p ∈ mk, p.2.length ≤ 100) : ((dval mk k).getD []).length ≤ 100 := by
  unfold dval
  cases hf : mk.find? fun kv => decide (kv.1 = k) with
  | none => simp
  | some p => exact h p (List.mem_of_find?_eq_some hf)
theorem msO_lf : ∀ {ms : List Int}, (msO ms).lf = true := fun {ms} => by
  show lfOL ((ms.map SK.D.int).map O.d) = true
  induction ms with
  | nil => rfl
  | cons m ms ih => exact ih
theorem lset_same {α : Type} {xs : List α} {i : Nat} {a : α} (h : xs[i]? = some a) : xs.set i a = xs := by
  obtain ⟨h1, h2⟩ := List.getElem?_eq_some_iff.mp h
  rw [← h2, List.set_getElem_self]
theorem wk_ds {ad aL : Addr} {xs : List O} {i : Nat} {a b c : O} (h : xs[i]? = some (.op [a, b, c])) : Wkn (.atA ad (.ol (xs.set i (.op [a, b, .atA aL c])))) (.atA ad (.ol xs)) := by
  have hi : i < xs.length := (List.getElem?_eq_some_iff.mp h).1
  have h2 : (xs.set i (.op [a, b, .atA aL c]))[i]? = some (.op [a, b, .atA aL c]) := List.getElem?_set_self hi
  have := wkn_setP (wkn_un (a := aL) (o := c)) (getP_i2 (ad := ad) h2)
  rw [setP_i2 h2, List.set_set, lset_same h] at this
  exact this
theorem wk_mk {am aC : Addr} {mk : Mk} {key : Int} {ch : List Int} : Wkn (.atA am (.od (SK.dput (imO msO mk) (.inl key) (.atA aC (msO ch))))) (.atA am (.od (imO msO (SK.dput mk key ch)))) := by
  have := wkn_setP (wkn_un (a := aC) (o := msO ch)) (getP_k (am := am) (kval_put (kvs := imO msO mk) (k := .inl key) (y := .atA aC (msO ch))))
  rw [setP_k kval_put, dput_put, imO_put] at this
  exact this
theorem wk_ds3 {ad aL aK : Addr} {xs ys : List O} {i j : Nat} {a b u : O} (hi : i < xs.length) (hj : j < ys.length) : Wkn (.atA ad (.ol (xs.set i (.op [a, b, .atA aL (.ol (ys.set j (.atA aK u)))])))) (.atA ad (.ol (xs.set i (.op [a, b, .ol (ys.set j u)])))) := by
  have h : (xs.set i (.op [a, b, .atA aL (.ol (ys.set j (.atA aK u)))]))[i]? = some (.op [a, b, .atA aL (.ol (ys.set j (.atA aK u)))]) := List.getElem?_set_self hi
  have h2 : (ys.set j (.atA aK u))[j]? = some (.atA aK u) := List.getElem?_set_self hj
  have w1 := wkn_setP (wkn_un (a := aK) (o := u)) (getP_i3 (ad := ad) h h2)
  rw [setP_i3 h h2, List.set_set, List.set_set] at w1
  have h3 : (xs.set i (.op [a, b, .atA aL (.ol (ys.set j u))]))[i]? = some (.op [a, b, .atA aL (.ol (ys.set j u))]) := List.getElem?_set_self hi
  have w2 := wkn_setP (wkn_un (a := aL) (o := .ol (ys.set j u))) (getP_i2 (ad := ad) h3)
  rw [setP_i2 h3, List.set_set] at w2
  exact w1.trans w2
theorem ds_set {ds : List De} {d : De} {i j k : Nat} {l : List Pr} {q : Pr} : (ds.map deO).set i (.op [.d (.int d.n), .d (.str (lvW d.l)), .ol ((d.ks.map lookO).set j (.ol (((l.map pairD).map O.d).set k (.d (pairD q)))))]) = (ds.set i { d with ks := d.ks.set j (l.set k q) }).map deO := by
  rw [List.map_set]
  congr 1
  show O.op [_, _, O.ol _] = O.op [_, _, O.ol _]
  rw [List.map_set]
  show O.op [_, _, O.ol (List.set _ _ (O.ol _))] = O.op [_, _, O.ol (List.set _ _ (O.ol _))]
  rw [List.map_set, List.map_set]
theorem msO_er {ch : List Int} {k : Nat} : ((ch.map SK.D.int).map O.d).eraseIdx k = ((ch.eraseIdx k).map SK.D.int).map O.d := by
  rw [List.map_map, List.map_map]
  induction ch generalizing k with
  | nil => cases k <;> rfl
  | cons x xs ih => cases k with
    | zero => rfl
    | succ k => show _ :: List.eraseIdx _ _ = _ :: _; rw [ih]
def bitI (m : Int) (k : Nat) : Bool := decide (Builtin.bitAnd (m / 2 ^ k) 1 = 1)
def insE (d : Dr) : List Dr → List Dr
  | [] => [d]
  | x :: r => if d.e ≤ x.e then d :: x :: r else x :: insE d r
def srtE (l : List Dr) : List Dr := l.foldr insE []
theorem insE_perm (d : Dr) : ∀ l : List Dr, (insE d l).Perm (d :: l)
  | [] => .refl _
  | x :: r => by
    unfold insE
    split
    · exact .refl _
    · exact ((insE_perm d r).cons x).trans (.swap _ _ _)
theorem srtE_perm : ∀ l : List Dr, (srtE l).Perm l
  | [] => .refl _
  | x :: r => (insE_perm x (srtE r)).trans ((srtE_perm r).cons x)
theorem insE_up (d : Dr) : ∀ {l : List Dr}, l.Pairwise (fun a b => a.e ≤ b.e) → (insE d l).Pairwise (fun a b => a.e ≤ b.e)
  | [], _ => by simp [insE]
  | x :: r, h => by
    rw [List.pairwise_cons] at h
    unfold insE
    split
    · rename_i h1
      refine List.pairwise_cons.mpr ⟨fun z hz => ?_, List.pairwise_cons.mpr h⟩
      rcases List.mem_cons.mp hz with rfl | hz
      · exact h1
      · have := h.1 z hz; omega
    · rename_i h1
      refine List.pairwise_cons.mpr ⟨fun z hz => ?_, insE_up d h.2⟩
      rcases List.mem_cons.mp ((insE_perm d r).mem_iff.mp hz) with rfl | hz
      · omega
      · exact h.1 z hz
theorem srtE_up : ∀ l : List Dr, (srtE l).Pairwise (fun a b => a.e ≤ b.e)
  | [] => .nil
  | x :: r => insE_up x (srtE_up r)
theorem up_same : ∀ {ys zs : List Dr}, ys.Perm zs → ys.Pairwise (fun a b => a.e ≤ b.e) → zs.Pairwise (fun a b => a.e ≤ b.e) → (∀ a ∈ ys, ∀ b ∈ ys, a.e = b.e → a = b) → ys = zs
  | [], zs, p, _, _, _ => (List.nil_perm.mp p).symm
  | y :: ys, [], p, _, _, _ => absurd (List.perm_nil.mp p) (by simp)
  | y :: ys, z :: zs, p, h1, h2, inj => by
    rw [List.pairwise_cons] at h1 h2
    have hz : z ∈ y :: ys := p.mem_iff.mpr List.mem_cons_self
    have hy : y ∈ z :: zs := p.mem_iff.mp List.mem_cons_self
    have e : y = z := by
      refine inj y List.mem_cons_self z hz ?_
      rcases List.mem_cons.mp hz with q | q
      · rw [q]
      · rcases List.mem_cons.mp hy with q2 | q2
        · rw [q2]
        · have := h1.1 z q; have := h2.1 y q2; omega
    subst e
    rw [up_same (List.Perm.cons_inv p) h1.2 h2.2 fun a ha b hb => inj a (List.mem_cons_of_mem _ ha) b (List.mem_cons_of_mem _ hb)]
def dE (d : Dr) : List Int := [d.e, d.n, d.m]
theorem code3 {B a b c x y z : Int} (h1 : TS.Bd B [a, b, c]) (h2 : TS.Bd B [x, y, z]) (h : TS.code B [a, b, c] ≤ TS.code B [x, y, z]) : a ≤ x := by
  refine Int.not_lt.mp fun q => ?_
  have := TS.code_lt (B := B) (d := x) (e := a) (r := [y, z]) (q := [b, c]) rfl (fun u hu => h2 u (List.mem_cons_of_mem _ hu)) (fun u hu => h1 u (List.mem_cons_of_mem _ hu)) q
  omega
structure DrOk (d : Dr) : Prop where
  n1 : 1 ≤ d.n ∧ d.n ≤ 8
  e1 : 0 ≤ d.e ∧ d.e < 10000 ∧ d.e % 100 = d.n
  m1 : 0 ≤ d.m ∧ d.m < 2147483647
  t1 : d.ts.length ≤ 3
  b1 : d.bs.length = 3
theorem timesF_len {xs : List Int} {e : Int} (h : 0 ≤ at0 xs 2) : (timesF xs e).length ≤ 3 := by
  have : (at0 xs 2 % 4).toNat ≤ 3 := by omega
  unfold timesF
  simp only []
  split
  · simpa using this
  · split
    · simpa using this
    · split <;> simpa using this
theorem dr1_ok {ns : List Int} {n : Int} (h1 : 1 ≤ n) (h2 : n ≤ 8) : DrOk (dr1 ns n) := by
  have b := fun i => at0_bd (c := cellN ns (1 + n) + 7919 * n) (n := 10) (i := i)
  have b1 := b 1
  have b8 := b 8
  have b2 := b 2
  unfold dr1
  refine ⟨⟨h1, h2⟩, ?_, ⟨b8.1, b8.2⟩, timesF_len b2.1, rfl⟩
  show 0 ≤ 100 * (at0 _ 1 % 12) + n ∧ 100 * (at0 _ 1 % 12) + n < 10000 ∧ (100 * (at0 _ 1 % 12) + n) % 100 = n
  omega
theorem drawn_ok {ns : List Int} {d : Dr} (h : d ∈ drawnF ns) : DrOk d ∧ d = dr1 ns d.n := by
  unfold drawnF drawnI at h
  obtain ⟨j, hj, rfl⟩ := List.mem_map.mp h
  have := List.mem_range.mp (List.mem_filter.mp hj).1
  exact ⟨dr1_ok (by omega) (by omega), rfl⟩
theorem drawn_len {ns : List Int} : (drawnF ns).length ≤ 8 := by
  unfold drawnF drawnI
  rw [List.length_map]
  exact Nat.le_trans (List.length_filter_le _ _) (by simp)
theorem drawn_inj {ns : List Int} : ∀ a ∈ drawnF ns, ∀ b ∈ drawnF ns, a.e = b.e → a = b := fun a ha b hb e => by
  obtain ⟨o1, e1⟩ := drawn_ok ha
  obtain ⟨o2, e2⟩ := drawn_ok hb
  have h1 := o1.e1
  have h2 := o2.e1
  have : a.n = b.n := by omega
  rw [e1, e2, this]
def fidx (k : Int) : List Int → Nat
  | [] => 0
  | x :: r => if x = k then 0 else fidx k r + 1
theorem fidx_at {k : Int} : ∀ {l : List Int}, k ∈ l → l[fidx k l]? = some k ∧ (∀ m, m < fidx k l → l[m]? ≠ some k) ∧ fidx k l < l.length
  | [], h => by cases h
  | x :: r, h => by
    unfold fidx
    split
    · rename_i e; exact ⟨by rw [e]; rfl, fun m hm => by omega, by simp⟩
    · rename_i e
      obtain ⟨h1, h2, h3⟩ := fidx_at (l := r) ((List.mem_cons.mp h).resolve_left fun q => e q.symm)
      refine ⟨h1, fun m hm => ?_, by simpa using h3⟩
      cases m with
      | zero => intro q; exact e (Option.some.inj q)
      | succ m => exact h2 m (by omega)
abbrev mkOne (ks : List Int) (d : Dr) (mk : Mk) (k : Nat) : Mk := if bitI d.m k = true then SK.dput mk (ks.getD k 0) (((dval mk (ks.getD k 0)).getD []) ++ [d.n]) else mk
def mkStep (ks : List Int) (mk : Mk) (d : Dr) (n : Nat) : Mk := (List.range n).foldl (mkOne ks d) mk
def mksF (ks : List Int) (ys : List Dr) : Mk := ys.foldl (fun mk d => mkStep ks mk d ks.length) []
def endsF (ys : List Dr) : IM Int := ys.foldl (fun h d => SK.dput h d.n d.e) []
def lk1 (ks : List Int) (mk : Mk) (es : IM Int) (n t bits : Int) : List Pr := (ks.filter fun k => bitI bits (fidx k ks)).map fun k => (k, srcF ((dval mk k).getD []) es n t)
def lksF (ks : List Int) (mk : Mk) (es : IM Int) (d : Dr) (n : Nat) : List (List Pr) := (List.range n).map fun j => lk1 ks mk es d.n (d.ts.getD j 0) (d.bs.getD j 0)
def de1 (ks : List Int) (mk : Mk) (es : IM Int) (d : Dr) : De := ⟨d.n, d.l, lksF ks mk es d d.ts.length⟩
def spStep (s : List De × Mk) (c : Int) : List De × Mk := if c % 6 = 0 ∧ s.1 ≠ [] then spoilF s.1 s.2 (c / 6) else s
def tale0 (ns : List Int) : List De × Mk :=
  let ks := keysF (cellN ns 1)
  let ys := srtE (drawnF ns)
  ((drawnF ns).map (de1 ks (mksF ks ys) (endsF ys)), mksF ks ys)
def taleI (ns : List Int) (i : Nat) : List De × Mk := ((((ns.take 30).drop 10).take i).foldl spStep (tale0 ns))
def taleF (ns : List Int) : List De × Mk := taleI ns 20
def mkPr (mk : Mk) (k : Int) : SK.D := .tup [.int k, iD ((dval mk k).getD [])]
def mkL (mk : Mk) : List SK.D := (srt (mk.map (·.1))).map (mkPr mk)
def taleO (ns : List Int) : O := .op [.ol ((taleF ns).1.map deO), .ol ((mkL (taleF ns).2).map O.d)]
structure TOk (s : List De × Mk) : Prop where
  n1 : s.1.length ≤ 8
  k1 : ∀ d ∈ s.1, d.ks.length ≤ 100 ∧ ∀ l ∈ d.ks, l.length ≤ 100
  nd : (s.2.map (·.1)).Nodup
  m1 : s.2.length ≤ 100
  c1 : ∀ p ∈ s.2, p.2.length ≤ 100
theorem insA_len {ch : List Int} {k j : Nat} (h : k < ch.length) : (insA ch k j).length = ch.length := by
  unfold insA
  have h1 := List.length_eraseIdx_of_lt h
  simp only [List.length_append, List.length_take, List.length_drop, List.length_cons, List.length_nil]
  omega
theorem chain_len {ch : List Int} {a b : Int} : (chainF ch a b).length = ch.length := by
  unfold chainF
  split
  · rename_i h
    refine insA_len ?_
    have h0 := Int.emod_nonneg a (show (ch.length : Int) - 1 ≠ 0 by omega)
    have h1 := Int.emod_lt_of_pos a (show (0 : Int) < (ch.length : Int) - 1 by omega)
    omega
  · rfl
theorem dput_all {β : Type} {P : Int × β → Prop} {l : IM β} {k : Int} {v : β} (h : ∀ p ∈ l, P p) (hv : P (k, v)) : ∀ p ∈ SK.dput l k v, P p := fun p hp => by
  unfold SK.dput at hp
  split at hp
  · obtain ⟨q, hq, rfl⟩ := List.mem_map.mp hp
    split
    · rename_i e; subst e; exact hv
    · exact h q hq
  · rcases List.mem_append.mp hp with q | q
    · exact h p q
    · rw [List.mem_singleton.mp q]; exact hv
theorem dval_in {β : Type} {l : IM β} {k : Int} {v : β} (h : dval l k = some v) : ∃ p ∈ l, p.2 = v := by
  unfold dval at h
  cases hf : l.find? fun kv => decide (kv.1 = k) with
  | none => rw [hf] at h; cases h
  | some p => rw [hf] at h; cases h; exact ⟨p, List.mem_of_find?_eq_some hf, rfl⟩
theorem gd_all {mk : Mk} {k : Int} {P : List Int → Prop} (h0 : P []) (h : ∀ p ∈ mk, P p.2) : P ((dval mk k).getD []) := by
  cases e : dval mk k with
  | none => exact h0
  | some v => obtain ⟨p, hp, rfl⟩ := dval_in e; exact h p hp
theorem TOk.spoil {s : List De × Mk} (h : TOk s) (c : Int) : TOk (spoilF s.1 s.2 c) := by
  unfold spoilF
  simp only []
  split
  · rename_i hc
    have hm0 : 0 < s.2.length := List.length_pos_iff.mpr hc.2
    have hkm : (srt (s.2.map (·.1))).getD (ixE (at0 (strm c 5) 2) s.2.length) 0 ∈ s.2.map (·.1) := by
      have hl : ixE (at0 (strm c 5) 2) s.2.length < (srt (s.2.map (·.1))).length := by rw [srt_len, List.length_map]; exact ixE_lt hm0
      rw [List.getD_eq_getElem?_getD, List.getElem?_eq_getElem hl]
      exact srt_mem.mp (List.getElem_mem hl)
    generalize (srt (s.2.map (·.1))).getD (ixE (at0 (strm c 5) 2) s.2.length) 0 = key at *
    refine ⟨h.n1, h.k1, dput_nodup h.nd, ?_, dput_all h.c1 ?_⟩
    · have := congrArg List.length (im_keep (v := chainF ((dval s.2 key).getD []) (at0 (strm c 5) 3) (at0 (strm c 5) 4)) hkm)
      simp only [List.length_map] at this
      have := h.m1
      show (SK.dput s.2 key _).length ≤ 100
      omega
    · show (chainF _ _ _).length ≤ 100
      rw [chain_len]
      exact gd_all (P := fun x => x.length ≤ 100) (by simp) h.c1
  · unfold lookF
    simp only []
    split
    · exact h
    · rename_i d hd
      split
      · exact h
      · rename_i l hl
        split
        · exact h
        · rename_i p hp
          have hdm := h.k1 d (List.mem_of_getElem? hd)
          have hlm := hdm.2 l (List.mem_of_getElem? hl)
          refine ⟨by show (List.set _ _ _).length ≤ 8; rw [List.length_set]; exact h.n1, fun x hx => ?_, h.nd, h.m1, h.c1⟩
          rcases List.mem_or_eq_of_mem_set hx with q | q
          · exact h.k1 x q
          · rw [q]
            refine ⟨by show (List.set _ _ _).length ≤ 100; rw [List.length_set]; exact hdm.1, fun y hy => ?_⟩
            rcases List.mem_or_eq_of_mem_set hy with r | r
            · exact hdm.2 y r
            · rw [r, List.length_set]; exact hlm
theorem TOk.step {s : List De × Mk} (h : TOk s) (c : Int) : TOk (spStep s c) := by
  unfold spStep
  split
  · exact h.spoil _
  · exact h
theorem esO_fz {es : IM Int} : fzK (imO (fun x => O.d (SK.D.int x)) es) = imK SK.D.int es := imO_fz fun _ => rfl
theorem lookO_lf : ∀ {l : List Pr}, (lookO l).lf = true := fun {l} => by
  show lfOL ((l.map pairD).map O.d) = true
  induction l with
  | nil => rfl
  | cons m ms ih => exact ih
theorem lksF_succ {ks : List Int} {mk : Mk} {es : IM Int} {d : Dr} {j : Nat} : lksF ks mk es d (j + 1) = lksF ks mk es d j ++ [lk1 ks mk es d.n (d.ts.getD j 0) (d.bs.getD j 0)] := by
  unfold lksF; rw [List.range_succ, List.map_append]; rfl
theorem lksF_len {ks : List Int} {mk : Mk} {es : IM Int} {d : Dr} {j : Nat} : (lksF ks mk es d j).length = j := by unfold lksF; simp
theorem shp_de (d : De) : Shp 4 (deD d) := Shp.tup fun z hz => by
  simp only [List.mem_cons, List.not_mem_nil, or_false] at hz
  rcases hz with rfl | rfl | rfl
  · exact .int
  · exact .str (by cases d.l <;> decide +kernel)
  · exact Shp.lstM shp_look
theorem taleI_succ {ns : List Int} {i : Nat} {c : Int} (h : ((ns.take 30).drop 10)[i]? = some c) : taleI ns (i + 1) = spStep (taleI ns i) c := by
  unfold taleI
  rw [List.take_add_one, h, Option.toList, List.foldl_append]; rfl
theorem taleI_end {ns : List Int} : taleI ns ((ns.take 30).drop 10).length = taleF ns := by
  have e : ((ns.take 30).drop 10).take 20 = (ns.take 30).drop 10 := List.take_of_length_le (by rw [List.length_drop, List.length_take]; omega)
  unfold taleF taleI
  rw [List.take_length, e]
theorem sins_len {x : Int} : ∀ {l : List Int}, (sins x l).length ≤ l.length + 1
  | [] => by simp [sins]
  | y :: r => by
    unfold sins
    split
    · simp
    · split
      · simp
      · have := sins_len (x := x) (l := r); simp only [List.length_cons]; omega
theorem sset_len : ∀ {l : List Int}, (sset l).length ≤ l.length
  | [] => by simp [sset]
  | y :: r => by
    show (sins y (sset r)).length ≤ _
    have := sins_len (x := y) (l := sset r)
    have := sset_len (l := r)
    simp only [List.length_cons]; omega
theorem keysF_len {c : Int} : (keysF c).length ≤ 3 := by
  unfold keysF
  refine Nat.le_trans sset_len ?_
  have b0 := at0_bd (c := c) (n := 4) (i := 0)
  simp only [List.length_map, List.length_range]
  omega
structure MOk (es : IM Int) (mk : Mk) (b : Nat) : Prop where
  nd : (mk.map (·.1)).Nodup
  ln : mk.length ≤ b
  al : ∀ p ∈ mk, p.2.length ≤ b ∧ ∀ m ∈ p.2, (dval es m).isSome = true
theorem MOk.nil {es : IM Int} : MOk es [] 0 := ⟨List.nodup_nil, by simp, fun p hp => by cases hp⟩
theorem MOk.mono {es : IM Int} {mk : Mk} {b c : Nat} (h : MOk es mk b) (q : b ≤ c) : MOk es mk c := ⟨h.nd, Nat.le_trans h.ln q, fun p hp => ⟨Nat.le_trans (h.al p hp).1 q, (h.al p hp).2⟩⟩
theorem MOk.gd {es : IM Int} {mk : Mk} {b : Nat} (h : MOk es mk b) (k : Int) : ((dval mk k).getD []).length ≤ b ∧ ∀ m ∈ (dval mk k).getD [], (dval es m).isSome = true :=
  gd_all (P := fun x => x.length ≤ b ∧ ∀ m ∈ x, (dval es m).isSome = true) ⟨Nat.zero_le _, fun m hm => by cases hm⟩ h.al
theorem MOk.put {es : IM Int} {mk : Mk} {b : Nat} (h : MOk es mk b) {k n : Int} (hn : (dval es n).isSome = true) : MOk es (SK.dput mk k (((dval mk k).getD []) ++ [n])) (b + 1) := by
  have g := h.gd k
  refine ⟨dput_nodup h.nd, Nat.le_trans dput_len (by have := h.ln; omega), dput_all (fun p hp => ⟨Nat.le_trans (h.al p hp).1 (by omega), (h.al p hp).2⟩) ⟨?_, fun m hm => ?_⟩⟩
  · show (_ ++ [n]).length ≤ _
    rw [List.length_append, List.length_singleton]; omega
  · rcases List.mem_append.mp hm with q | q
    · exact g.2 m q
    · rw [List.mem_singleton.mp q]; exact hn
theorem MOk.one {es : IM Int} {mk : Mk} {b : Nat} (h : MOk es mk b) {ks : List Int} {d : Dr} (hn : (dval es d.n).isSome = true) (k : Nat) : MOk es (mkOne ks d mk k) (b + 1) := by
  unfold mkOne
  split
  · exact h.put hn
  · exact h.mono (by omega)
theorem MOk.step {es : IM Int} {mk : Mk} {b : Nat} (h : MOk es mk b) {ks : List Int} {d : Dr} (hn : (dval es d.n).isSome = true) : ∀ n, MOk es (mkStep ks mk d n) (b + n)
  | 0 => h
  | n + 1 => by
    unfold mkStep
    rw [List.range_succ, List.foldl_append]
    exact (MOk.step h hn n).one hn n
theorem MOk.ends {es : IM Int} {mk : Mk} {b : Nat} (h : MOk es mk b) (n e : Int) : MOk (SK.dput es n e) mk b := ⟨h.nd, h.ln, fun p hp => ⟨(h.al p hp).1, fun m hm => by
  rw [dval_put]; split
  · rfl
  · exact (h.al p hp).2 m hm⟩⟩
theorem mksF_ok {ks : List Int} : ∀ {ys : List Dr}, MOk (endsF ys) (mksF ks ys) (ks.length * ys.length) := by
  intro ys
  have : ∀ (l : List Dr) (es : IM Int) (mk : Mk) (b : Nat), MOk es mk b → MOk (l.foldl (fun h d => SK.dput h d.n d.e) es) (l.foldl (fun mk d => mkStep ks mk d ks.length) mk) (b + ks.length * l.length) := by
    intro l
    induction l with
    | nil => intro es mk b h; exact h
    | cons d l ih =>
      intro es mk b h
      rw [List.foldl_cons, List.foldl_cons]
      have := ih _ _ _ ((h.ends d.n d.e).step (ks := ks) (d := d) (by rw [dval_put, if_pos rfl]; rfl) ks.length)
      refine this.mono ?_
      rw [List.length_cons, Nat.mul_succ]; omega
  have h := this ys [] [] 0 MOk.nil
  rw [Nat.zero_add] at h
  exact h
theorem lst_mk {mk : Mk} {k : Int} : lstAt (imO msO mk) (.inl k) ((((dval mk k).getD []).map SK.D.int).map O.d) := by
  unfold lstAt
  rw [kval_im]
  cases dval mk k with
  | none => exact .inr ⟨rfl, rfl⟩
  | some v => exact .inl rfl
theorem strApp_len {a b : Str} : (a ++ b).length = a.length + b.length := by
  show (a.cps ++ b.cps).size = _
  rw [Array.size_append]; rfl
theorem cutS_le {z : Str} {lo hi : Option Int} : (cutS z lo hi).length ≤ z.length := by
  have e : ∀ s : Str, s.length = (TL.tl s).length := fun s => by simp [TL.tl, Str.length]
  rw [e, e, tl_cut]
  exact cutD_le
theorem tale0_ok (ns : List Int) : TOk (tale0 ns) := by
  have kl := keysF_len (c := cellN ns 1)
  have dl := drawn_len (ns := ns)
  have dok := fun d (hd : d ∈ drawnF ns) => (drawn_ok hd).1
  have hm := mksF_ok (ks := keysF (cellN ns 1)) (ys := srtE (drawnF ns))
  have yl := (srtE_perm (drawnF ns)).length_eq
  have hb : (keysF (cellN ns 1)).length * (srtE (drawnF ns)).length ≤ 100 := Nat.le_trans (Nat.mul_le_mul kl (by rw [yl]; exact dl)) (by decide)
  unfold tale0
  refine ⟨by simp only [List.length_map]; exact dl, fun x hx => ?_, hm.nd, Nat.le_trans hm.ln hb, fun p hp2 => Nat.le_trans (hm.al p hp2).1 hb⟩
  obtain ⟨d, hd, rfl⟩ := List.mem_map.mp hx
  have ot := (dok d hd).t1
  refine ⟨by show (lksF _ _ _ d d.ts.length).length ≤ 100; rw [lksF_len]; omega, fun l hl => ?_⟩
  obtain ⟨j, _, rfl⟩ := List.mem_map.mp (show l ∈ lksF _ _ _ d d.ts.length from hl)
  show (List.map _ _).length ≤ 100
  rw [List.length_map]
  exact Nat.le_trans (List.length_filter_le _ _) (by omega)
theorem TOk.fold : ∀ {l : List Int} {s : List De × Mk}, TOk s → TOk (l.foldl spStep s)
  | [], _, h => h
  | c :: l, _, h => TOk.fold (l := l) (h.step c)
theorem taleF_ok (ns : List Int) : TOk (taleF ns) := (tale0_ok ns).fold
theorem look_n {ds : List De} {mk : Mk} {xs : List Int} : (lookF ds mk xs).map (·.n) = ds.map (·.n) := by
  unfold lookF
  simp only []
  split
  · rfl
  · rename_i d hd
    split
    · rfl
    · split
      · rfl
      · rw [List.map_set]
        exact lset_same (by rw [List.getElem?_map, hd]; rfl)
theorem step_n {s : List De × Mk} {c : Int} : (spStep s c).1.map (·.n) = s.1.map (·.n) := by
  unfold spStep
  split
  · unfold spoilF
    simp only []
    split
    · rfl
    · exact look_n
  · rfl
theorem fold_n : ∀ {l : List Int} {s : List De × Mk}, (l.foldl spStep s).1.map (·.n) = s.1.map (·.n)
  | [], _ => rfl
  | c :: l, s => by rw [List.foldl_cons, fold_n, step_n]
theorem drawn_n {ns : List Int} : ((drawnF ns).map (·.n)).Nodup := by
  unfold drawnF drawnI
  rw [List.map_map]
  have : (List.range 8).Pairwise (fun a b => a ≠ b) := List.nodup_range
  refine List.pairwise_map.mpr ((this.filter _).imp fun {a b} h => ?_)
  show (dr1 ns (1 + (a : Int))).n ≠ (dr1 ns (1 + (b : Int))).n
  show (1 + (a : Int)) ≠ 1 + (b : Int)
  omega
theorem taleF_n (ns : List Int) : ((taleF ns).1.map (·.n)).Nodup := by
  unfold taleF taleI
  rw [fold_n]
  unfold tale0
  rw [List.map_map]
  exact drawn_n
theorem getP_t {xs : List O} {i : Nat} {a b c r : O} (h : xs[i]? = some (.op [a, b, c])) : (O.op [.ol xs, r]).getP [.idx 0, .idx i, .idx 2] = some c := by
  show (match xs[i]? with | some u => u.getP [.idx 2] | none => none) = _
  rw [h]; rfl
theorem setP_t {xs : List O} {i : Nat} {a b c r y : O} (h : xs[i]? = some (.op [a, b, c])) : (O.op [.ol xs, r]).setP y [.idx 0, .idx i, .idx 2] = .op [.ol (xs.set i (.op [a, b, y])), r] := by
  show O.set1 (.op [.ol xs, r]) (match xs[i]? with | some u => O.set1 (.ol xs) (u.setP y [.idx 2]) (.idx i) | none => .ol xs) (.idx 0) = _
  rw [h]; rfl
theorem wk_t {aT aL : Addr} {xs : List O} {i : Nat} {a b c r : O} (h : i < xs.length) : Wkn (.op [.atA aT (.ol (xs.set i (.op [a, b, .atA aL c]))), r]) (.op [.ol (xs.set i (.op [a, b, c])), r]) := by
  have h2 : (xs.set i (.op [a, b, .atA aL c]))[i]? = some (.op [a, b, .atA aL c]) := List.getElem?_set_self h
  have w1 : Wkn (.op [.atA aT (.ol (xs.set i (.op [a, b, .atA aL c]))), r]) (.op [.ol (xs.set i (.op [a, b, .atA aL c])), r]) := wkn_setP (p := [.idx 0]) (o := .op [.atA aT (.ol (xs.set i (.op [a, b, .atA aL c]))), r]) (wkn_un (a := aT) (o := .ol (xs.set i (.op [a, b, .atA aL c])))) rfl
  have w2 := wkn_setP (wkn_un (a := aL) (o := c)) (getP_t (r := r) h2)
  rw [setP_t h2, List.set_set] at w2
  exact w1.trans w2
theorem atI_last {α : Type} {f : α → SK.D} {z : α} {ls : List α} (h : ls ≠ []) : atI (ls.map f) (-1) = some (f (ls.getLastD z)) := by
  have hl : 0 < ls.length := List.length_pos_iff.mpr h
  unfold atI ixN
  rw [if_neg (by decide), if_pos (by rw [List.length_map]; omega)]
  show (ls.map f)[((-1 : Int) + ((ls.map f).length : Int)).toNat]? = _
  rw [show ((-1 : Int) + ((ls.map f).length : Int)).toNat = ls.length - 1 by rw [List.length_map]; omega, List.getElem?_map]
  have e : ls[ls.length - 1]? = some (ls.getLastD z) := by
    cases ls with
    | nil => exact absurd rfl h
    | cons x r => rw [List.getLastD_cons, ← List.getLast?_eq_getElem?]; simp [List.getLast?_cons, List.getLastD_eq_getLast?]
  rw [e]; rfl
def longK (ks : List (List Pr)) (n : Nat) (kl : List Int) : List (List Pr) :=
  if (ks ++ List.replicate n []) ≠ [] ∧ (ks ++ List.replicate n []).getLastD [(0, 0)] = [] ∧ kl ≠ [] then (ks ++ List.replicate n []).set ((ks ++ List.replicate n []).length - 1) [(kl.headD 0, 0)] else ks ++ List.replicate n []
def longD (ns : List Int) : List De :=
  if cellN ns 0 / 256 % 8 = 3 ∧ (taleF ns).1 ≠ [] then
    match (taleF ns).1[ixE (cellN ns 0 / 256 / 8) (taleF ns).1.length]? with
    | none => (taleF ns).1
    | some d => (taleF ns).1.set (ixE (cellN ns 0 / 256 / 8) (taleF ns).1.length) ⟨d.n, .kept, longK d.ks (cellN ns 0 / 256 / 64 % 38).toNat (srt ((taleF ns).2.map (·.1)))⟩
  else (taleF ns).1
def longO (ns : List Int) : O := .op [.ol ((longD ns).map deO), .ol ((mkL (taleF ns).2).map O.d)]
theorem longK_len {ks : List (List Pr)} {n : Nat} {kl : List Int} : (longK ks n kl).length = ks.length + n := by
  unfold longK
  split
  · rw [List.length_set, List.length_append, List.length_replicate]
  · rw [List.length_append, List.length_replicate]
theorem longD_ok (ns : List Int) : (longD ns).length ≤ 8 ∧ (∀ d ∈ longD ns, d.ks.length ≤ 200) ∧ ((longD ns).map (·.n)).Nodup := by
  have tk := taleF_ok ns
  have tn := taleF_n ns
  have base : (taleF ns).1.length ≤ 8 ∧ (∀ d ∈ (taleF ns).1, d.ks.length ≤ 200) ∧ ((taleF ns).1.map (·.n)).Nodup := ⟨tk.n1, fun d hd => by have := (tk.k1 d hd).1; omega, tn⟩
  unfold longD
  split
  · split
    · exact base
    · rename_i d hd
      refine ⟨by rw [List.length_set]; exact base.1, fun x hx => ?_, ?_⟩
      · rcases List.mem_or_eq_of_mem_set hx with q | q
        · exact base.2.1 x q
        · rw [q]
          show (longK _ _ _).length ≤ 200
          rw [longK_len]
          have := (tk.k1 d (List.mem_of_getElem? hd)).1
          omega
      · rw [List.map_set, lset_same (by rw [List.getElem?_map, hd]; rfl)]; exact tn
  · exact base
def osD : Option Str → SK.D
  | none => .non
  | some s => .str s
def lvsF (w : Option Lv) (ds : List De) : IM Lv := ds.foldl (fun h d => SK.dput h d.n (w.getD d.l)) []
theorem lvsF_snoc {w : Option Lv} {ds : List De} {d : De} {i : Nat} (h : ds[i]? = some d) : lvsF w (ds.take (i + 1)) = SK.dput (lvsF w (ds.take i)) d.n (w.getD d.l) := by
  unfold lvsF; rw [List.take_add_one, h, Option.toList, List.foldl_append]; rfl
theorem lvsF_len {w : Option Lv} {ds : List De} : (lvsF w ds).length ≤ ds.length := by
  have : ∀ (l : List De) (h : IM Lv), (l.foldl (fun h d => SK.dput h d.n (w.getD d.l)) h).length ≤ h.length + l.length := by
    intro l
    induction l with
    | nil => intro h; simp
    | cons d l ih =>
      intro h
      rw [List.foldl_cons, List.length_cons]
      have h1 := ih (SK.dput h d.n (w.getD d.l))
      have h2 := dput_len (kvs := h) (k := d.n) (v := w.getD d.l)
      omega
  have h := this ds []
  simpa [lvsF] using h
theorem lvs_no {w : Option Lv} {n : Int} : ∀ {l : List De} {h : IM Lv}, n ∉ l.map (·.n) → dval (l.foldl (fun h d => SK.dput h d.n (w.getD d.l)) h) n = dval h n
  | [], _, _ => rfl
  | d :: l, h, q => by
    simp only [List.map_cons, List.mem_cons, not_or] at q
    rw [List.foldl_cons, lvs_no q.2, dval_put, if_neg q.1]
theorem lvs_in {w : Option Lv} {d : De} : ∀ {l : List De} {h : IM Lv}, (l.map (·.n)).Nodup → d ∈ l → dval (l.foldl (fun h d => SK.dput h d.n (w.getD d.l)) h) d.n = some (w.getD d.l)
  | x :: l, h, nd, q => by
    simp only [List.map_cons, List.nodup_cons] at nd
    rw [List.foldl_cons]
    rcases List.mem_cons.mp q with e | q
    · subst e
      rw [lvs_no nd.1, dval_put, if_pos rfl]
    · exact lvs_in nd.2 q
def wdD : Option Lv → SK.D
  | none => .non
  | some l => .str (lvW l)
def whD (ds : List De) (ps : List SK.D) : SK.D := .tup [.lst (ds.map deD), .lst ps]
abbrev sptD (p : Int × Int) : SK.D := .tup [.int p.1, .int p.2]
def spots1 (w : Option Lv) (d : De) : List (Int × Int) := (List.range (lvSpots (w.getD d.l) d.ks.length).toNat).map fun (p : Nat) => (d.n, (p : Int))
def spotsF (w : Option Lv) (ds : List De) : List (Int × Int) := ds.flatMap (spots1 w)
theorem spots_le {l : Lv} {n : Nat} (h : n ≤ 200) : 1 ≤ lvSpots l n ∧ lvSpots l n ≤ 201 := by
  cases l <;> (unfold lvSpots; simp only []; omega)
theorem spotsF_snoc {w : Option Lv} {ds : List De} {d : De} {i : Nat} (h : ds[i]? = some d) : spotsF w (ds.take (i + 1)) = spotsF w (ds.take i) ++ spots1 w d := by
  unfold spotsF
  rw [List.take_add_one, h, Option.toList, List.flatMap_append]
  simp
theorem spotsF_len {w : Option Lv} : ∀ {ds : List De}, (∀ d ∈ ds, d.ks.length ≤ 200) → (spotsF w ds).length ≤ 201 * ds.length
  | [], _ => by simp [spotsF]
  | d :: ds, h => by
    have h1 := spotsF_len (w := w) (ds := ds) fun x hx => h x (List.mem_cons_of_mem _ hx)
    have h2 := (spots_le (l := w.getD d.l) (h d List.mem_cons_self)).2
    unfold spotsF at h1 ⊢
    rw [List.flatMap_cons, List.length_append, List.length_cons]
    have : (spots1 w d).length = (lvSpots (w.getD d.l) d.ks.length).toNat := by unfold spots1; simp
    omega
inductive VWon : Prop where | on
local macro_rules | `(tactic| walk_at "vw") => `(tactic| exact (fun (_ : VWon) => views_fz) (by assumption))
local macro_rules | `(tactic| walk_at "vwx") => `(tactic| simp only [fzE_cons, fzE_nil, frO_none, frO_some, O.fz, msO_fz, fzL_set, fz_fl, List.set, List.set_set, desO_fz, fzL, fzK_put, mkO_fz, esO_fz, lksO_fz])
local macro_rules | `(tactic| walk_at "lenx") => `(tactic| (rw [imO_len]; omega))
local macro_rules | `(tactic| walk_at "ixx") => `(tactic| first | exact at0_ix (by omega) (by rw [strm_len]; omega) | exact at0_ix (by omega) (by omega) | exact lvI_at (by omega) (by omega))
theorem wd_os {w : Option Lv} : wdD w = osD (w.map lvW) := by cases w <;> rfl
theorem longO_fz {ns : List Int} : (longO ns).fz = whD (longD ns) (mkL (taleF ns).2) := by
  show D.tup [.lst (fzL ((longD ns).map deO)), .lst (fzL ((mkL (taleF ns).2).map O.d))] = _
  rw [desO_fz, fzL_fl]; rfl
theorem shp_wh {ns : List Int} : Shp 6 (whD (longD ns) (mkL (taleF ns).2)) := Shp.tup fun z hz => by
  simp only [List.mem_cons, List.not_mem_nil, or_false] at hz
  rcases hz with rfl | rfl
  · exact Shp.lstM shp_de
  · exact (Shp.lstM (n := 2) fun k => Shp.tup fun z hz => by
      simp only [List.mem_cons, List.not_mem_nil, or_false] at hz
      rcases hz with rfl | rfl
      · exact .int
      · exact Shp.ints).mono (by decide)
def C__law_stream (mg : Str → Option Value) : Ct := fun zxs zp zq => ∃ (c k : Int), zxs = [.int c, .int k] ∧ (0 ≤ k) ∧ (k < 100) ∧ zp = (fun zo => zo = .d (.lst ((strm c k.toNat).map D.int))) ∧ zq = noX
theorem call__law_stream {K : PySem.W.Frag} {mg : Str → Option Value} {F B0 : Hp} {T : List O} {Γ : En} {zpost : O → En → Prop} {zE : XK} {zt : TA} (zh : GoA K F B0 zt T Γ fun zxs Γ1 => ∃ (c k : Int), zxs = [.int c, .int k] ∧ (0 ≤ k) ∧ (k < 100) ∧ (zpost (.d (.lst ((strm c k.toNat).map D.int))) Γ1)) : Go K F B0 (tCall (spP K (C__law_stream mg)) [] zE zt) T Γ zpost := by
  refine go_call (dxs := []) (fun z0 z1 z2 z3 z4 z5 => zh z0 z1 z2 z3 z4 fun z6 z7 z8 z9 ⟨c, k, ze, hp0, hp1, h1⟩ => z5 z6 z7 z8 z9 ⟨_, ⟨c, k, (List.append_nil _).trans ze, hp0, hp1, rfl, rfl⟩, (fun zo ze => ze ▸ h1)⟩) (fun _ => .nil)
def C__law_keys (mg : Str → Option Value) : Ct := fun zxs zp zq => ∃ (c : Int), zxs = [.int c] ∧ zp = (fun zo => zo = .ol (((keysF c).map D.int).map O.d)) ∧ zq = noX
theorem call__law_keys {K : PySem.W.Frag} {mg : Str → Option Value} {F B0 : Hp} {T : List O} {Γ : En} {zpost : O → En → Prop} {zE : XK} {zt : TA} (zh : GoA K F B0 zt T Γ fun zxs Γ1 => ∃ (c : Int), zxs = [.int c] ∧ (zpost (.ol (((keysF c).map D.int).map O.d)) Γ1)) : Go K F B0 (tCall (spP K (C__law_keys mg)) [] zE zt) T Γ zpost := by
  refine go_call (dxs := []) (fun z0 z1 z2 z3 z4 z5 => zh z0 z1 z2 z3 z4 fun z6 z7 z8 z9 ⟨c, ze, h1⟩ => z5 z6 z7 z8 z9 ⟨_, ⟨c, (List.append_nil _).trans ze, rfl, rfl⟩, (fun zo ze => ze ▸ h1)⟩) (fun _ => .nil)
def C__law_cell_at (mg : Str → Option Value) : Ct := fun zxs zp zq => ∃ (ns : List Int) (k : Int), zxs = [.sq (ns.map D.int), .int k] ∧ (0 ≤ k) ∧ zp = (fun zo => zo = .d (.int (cellN ns k))) ∧ zq = noX
theorem call__law_cell_at {K : PySem.W.Frag} {mg : Str → Option Value} {F B0 : Hp} {T : List O} {Γ : En} {zpost : O → En → Prop} {zE : XK} {zt : TA} (zh : GoA K F B0 zt T Γ fun zxs Γ1 => ∃ (ns : List Int) (k : Int), zxs = [.sq (ns.map D.int), .int k] ∧ (0 ≤ k) ∧ (zpost (.d (.int (cellN ns k))) Γ1)) : Go K F B0 (tCall (spP K (C__law_cell_at mg)) [] zE zt) T Γ zpost := by
  refine go_call (dxs := []) (fun z0 z1 z2 z3 z4 z5 => zh z0 z1 z2 z3 z4 fun z6 z7 z8 z9 ⟨ns, k, ze, hp0, h1⟩ => z5 z6 z7 z8 z9 ⟨_, ⟨ns, k, (List.append_nil _).trans ze, hp0, rfl, rfl⟩, (fun zo ze => ze ▸ h1)⟩) (fun _ => .nil)
def C__law_times (mg : Str → Option Value) : Ct := fun zxs zp zq => ∃ (xs : List Int) (e : Int), zxs = [.lst (xs.map D.int), .int e] ∧ (xs.length = 10) ∧ (∀ i, 0 ≤ at0 xs i ∧ at0 xs i < 2147483647) ∧ zp = (fun zo => zo = .ol (((timesF xs e).map D.int).map O.d)) ∧ zq = noX
theorem call__law_times {K : PySem.W.Frag} {mg : Str → Option Value} {F B0 : Hp} {T : List O} {Γ : En} {zpost : O → En → Prop} {zE : XK} {zt : TA} (zh : GoA K F B0 zt T Γ fun zxs Γ1 => ∃ (xs : List Int) (e : Int), zxs = [.lst (xs.map D.int), .int e] ∧ (xs.length = 10) ∧ (∀ i, 0 ≤ at0 xs i ∧ at0 xs i < 2147483647) ∧ (zpost (.ol (((timesF xs e).map D.int).map O.d)) Γ1)) : Go K F B0 (tCall (spP K (C__law_times mg)) [] zE zt) T Γ zpost := by
  refine go_call (dxs := []) (fun z0 z1 z2 z3 z4 z5 => zh z0 z1 z2 z3 z4 fun z6 z7 z8 z9 ⟨xs, e, ze, hp0, hp1, h1⟩ => z5 z6 z7 z8 z9 ⟨_, ⟨xs, e, (List.append_nil _).trans ze, hp0, hp1, rfl, rfl⟩, (fun zo ze => ze ▸ h1)⟩) (fun _ => .nil)
def C__law_drawn (mg : Str → Option Value) : Ct := fun zxs zp zq => ∃ (ns : List Int), zxs = [.sq (ns.map D.int)] ∧ (ns.length ≤ 63) ∧ zp = (fun zo => zo = .ol (((drawnF ns).map drD).map O.d)) ∧ zq = noX
theorem call__law_drawn {K : PySem.W.Frag} {mg : Str → Option Value} {F B0 : Hp} {T : List O} {Γ : En} {zpost : O → En → Prop} {zE : XK} {zt : TA} (zh : GoA K F B0 zt T Γ fun zxs Γ1 => ∃ (ns : List Int), zxs = [.sq (ns.map D.int)] ∧ (ns.length ≤ 63) ∧ (zpost (.ol (((drawnF ns).map drD).map O.d)) Γ1)) : Go K F B0 (tCall (spP K (C__law_drawn mg)) [] zE zt) T Γ zpost := by
  refine go_call (dxs := []) (fun z0 z1 z2 z3 z4 z5 => zh z0 z1 z2 z3 z4 fun z6 z7 z8 z9 ⟨ns, ze, hp0, h1⟩ => z5 z6 z7 z8 z9 ⟨_, ⟨ns, (List.append_nil _).trans ze, hp0, rfl, rfl⟩, (fun zo ze => ze ▸ h1)⟩) (fun _ => .nil)
def C__law_spoiled (mg : Str → Option Value) : Co := fun zos zp zq => ∃ (ad am : Addr) (ds : List De) (mk : Mk) (c : Int), zos = [.atA ad (.ol (ds.map deO)), .atA am (.od (imO msO mk)), .d (.int c)] ∧ (ds ≠ []) ∧ ((mk.map (·.1)).Nodup) ∧ (mk.length ≤ 100) ∧ (∀ p ∈ mk, p.2.length ≤ 100) ∧ (ds.length ≤ 100) ∧ (∀ d ∈ ds, d.ks.length ≤ 100 ∧ ∀ l ∈ d.ks, l.length ≤ 100) ∧ zp = (fun zo zos2 => zo = .d .non ∧ zos2 = [.atA ad (.ol ((spoilF ds mk c).1.map deO)), .atA am (.od (imO msO (spoilF ds mk c).2)), .d (.int c)]) ∧ zq = noO
theorem call__law_spoiled {K : PySem.W.Frag} {mg : Str → Option Value} {F B0 : Hp} {T : List O} {Γ Γh Γv : En} {us : List (Addr × O)} {zpost : O → En → Prop} {zE : XK} {zt : TA} (zp : Punch Γ us Γh) (zv : Views Γh Γv) (zh : ∀ F1 B1, GoA K F1 B1 zt [] Γv fun zxs _ => lfL zxs = true ∧ ∃ (ad am : Addr) (ds : List De) (mk : Mk) (c : Int), SubO zxs [.atA ad (.ol (ds.map deO)), .atA am (.od (imO msO mk)), .d (.int c)] us ∧ (ds ≠ []) ∧ ((mk.map (·.1)).Nodup) ∧ (mk.length ≤ 100) ∧ (∀ p ∈ mk, p.2.length ≤ 100) ∧ (ds.length ≤ 100) ∧ (∀ d ∈ ds, d.ks.length ≤ 100 ∧ ∀ l ∈ d.ks, l.length ≤ 100) ∧ ∃ us2 Γ2, SubO zxs [.atA ad (.ol ((spoilF ds mk c).1.map deO)), .atA am (.od (imO msO (spoilF ds mk c).2)), .d (.int c)] us2 ∧ Plug Γh us2 Γ2 ∧ zpost (.d .non) Γ2) : Go K F B0 (tCall (spO K (C__law_spoiled mg)) [] zE zt) T Γ zpost := by
  refine go_callV0 zp zv (fun F1 B1 z0 z1 z2 z3 z4 z5 => zh F1 B1 z0 z1 z2 z3 z4 fun z6 z7 z8 z9 ⟨zl, ad, am, ds, mk, c, zs, hp0, hp1, hp2, hp3, hp4, hp5, h1⟩ => z5 z6 z7 z8 z9 ⟨zl, _, _, zs, ⟨ad, am, ds, mk, c, rfl, hp0, hp1, hp2, hp3, hp4, hp5, rfl, rfl⟩, fun zo zos2 ⟨e1, e2⟩ => by subst e1 e2; exact h1 ⟩)
def C__law_source (mg : Str → Option Value) : Ct := fun zxs zp zq => ∃ (ms : List Int) (es : IM Int) (n t : Int), zxs = [.lst (ms.map D.int), .dic (imK D.int es), .int n, .int t] ∧ (∀ m ∈ ms, (dval es m).isSome = true) ∧ zp = (fun zo => zo = .d (.int (srcF ms es n t))) ∧ zq = noX
theorem call__law_source {K : PySem.W.Frag} {mg : Str → Option Value} {F B0 : Hp} {T : List O} {Γ : En} {zpost : O → En → Prop} {zE : XK} {zt : TA} (zh : GoA K F B0 zt T Γ fun zxs Γ1 => ∃ (ms : List Int) (es : IM Int) (n t : Int), zxs = [.lst (ms.map D.int), .dic (imK D.int es), .int n, .int t] ∧ (∀ m ∈ ms, (dval es m).isSome = true) ∧ (zpost (.d (.int (srcF ms es n t))) Γ1)) : Go K F B0 (tCall (spP K (C__law_source mg)) [] zE zt) T Γ zpost := by
  refine go_call (dxs := []) (fun z0 z1 z2 z3 z4 z5 => zh z0 z1 z2 z3 z4 fun z6 z7 z8 z9 ⟨ms, es, n, t, ze, hp0, h1⟩ => z5 z6 z7 z8 z9 ⟨_, ⟨ms, es, n, t, (List.append_nil _).trans ze, hp0, rfl, rfl⟩, (fun zo ze => ze ▸ h1)⟩) (fun _ => .nil)
def C__law_tale (mg : Str → Option Value) : Ct := fun zxs zp zq => ∃ (ns : List Int), zxs = [.sq (ns.map D.int)] ∧ (ns.length ≤ 63) ∧ zp = (fun zo => zo = taleO ns) ∧ zq = noX
theorem call__law_tale {K : PySem.W.Frag} {mg : Str → Option Value} {F B0 : Hp} {T : List O} {Γ : En} {zpost : O → En → Prop} {zE : XK} {zt : TA} (zh : GoA K F B0 zt T Γ fun zxs Γ1 => ∃ (ns : List Int), zxs = [.sq (ns.map D.int)] ∧ (ns.length ≤ 63) ∧ (zpost (taleO ns) Γ1)) : Go K F B0 (tCall (spP K (C__law_tale mg)) [] zE zt) T Γ zpost := by
  refine go_call (dxs := []) (fun z0 z1 z2 z3 z4 z5 => zh z0 z1 z2 z3 z4 fun z6 z7 z8 z9 ⟨ns, ze, hp0, h1⟩ => z5 z6 z7 z8 z9 ⟨_, ⟨ns, (List.append_nil _).trans ze, hp0, rfl, rfl⟩, (fun zo ze => ze ▸ h1)⟩) (fun _ => .nil)
def C__law_longer (mg : Str → Option Value) : Ct := fun zxs zp zq => ∃ (ns : List Int), zxs = [.sq (ns.map D.int)] ∧ (ns.length ≤ 63) ∧ zp = (fun zo => zo = longO ns) ∧ zq = noX
theorem call__law_longer {K : PySem.W.Frag} {mg : Str → Option Value} {F B0 : Hp} {T : List O} {Γ : En} {zpost : O → En → Prop} {zE : XK} {zt : TA} (zh : GoA K F B0 zt T Γ fun zxs Γ1 => ∃ (ns : List Int), zxs = [.sq (ns.map D.int)] ∧ (ns.length ≤ 63) ∧ (zpost (longO ns) Γ1)) : Go K F B0 (tCall (spP K (C__law_longer mg)) [] zE zt) T Γ zpost := by
  refine go_call (dxs := []) (fun z0 z1 z2 z3 z4 z5 => zh z0 z1 z2 z3 z4 fun z6 z7 z8 z9 ⟨ns, ze, hp0, h1⟩ => z5 z6 z7 z8 z9 ⟨_, ⟨ns, (List.append_nil _).trans ze, hp0, rfl, rfl⟩, (fun zo ze => ze ▸ h1)⟩) (fun _ => .nil)
def C__law_word (mg : Str → Option Value) : Ct := fun zxs zp zq => ∃ (c : Int), zxs = [.int c] ∧ zp = (fun zo => ∃ (w : Option Lv), zo = .d (wdD w)) ∧ zq = noX
theorem call__law_word {K : PySem.W.Frag} {mg : Str → Option Value} {F B0 : Hp} {T : List O} {Γ : En} {zpost : O → En → Prop} {zE : XK} {zt : TA} (zh : GoA K F B0 zt T Γ fun zxs Γ1 => ∃ (c : Int), zxs = [.int c] ∧ (∀ (w : Option Lv), zpost (.d (wdD w)) Γ1)) : Go K F B0 (tCall (spP K (C__law_word mg)) [] zE zt) T Γ zpost := by
  refine go_call (dxs := []) (fun z0 z1 z2 z3 z4 z5 => zh z0 z1 z2 z3 z4 fun z6 z7 z8 z9 ⟨c, ze, h1⟩ => z5 z6 z7 z8 z9 ⟨_, ⟨c, (List.append_nil _).trans ze, rfl, rfl⟩, (fun zo ⟨w, ze⟩ => ze ▸ h1 w)⟩) (fun _ => .nil)
def C__law_odd (mg : Str → Option Value) : Ct := fun zxs zp zq => ∃ (n : Int), zxs = [.int n] ∧ (0 ≤ n) ∧ zp = (fun zo => ∃ (s : Str), (s.length ≤ 20) ∧ zo = .d (.str s)) ∧ zq = noX
theorem call__law_odd {K : PySem.W.Frag} {mg : Str → Option Value} {F B0 : Hp} {T : List O} {Γ : En} {zpost : O → En → Prop} {zE : XK} {zt : TA} (zh : GoA K F B0 zt T Γ fun zxs Γ1 => ∃ (n : Int), zxs = [.int n] ∧ (0 ≤ n) ∧ (∀ (s : Str), (s.length ≤ 20) → zpost (.d (.str s)) Γ1)) : Go K F B0 (tCall (spP K (C__law_odd mg)) [] zE zt) T Γ zpost := by
  refine go_call (dxs := []) (fun z0 z1 z2 z3 z4 z5 => zh z0 z1 z2 z3 z4 fun z6 z7 z8 z9 ⟨n, ze, hp0, h1⟩ => z5 z6 z7 z8 z9 ⟨_, ⟨n, (List.append_nil _).trans ze, hp0, rfl, rfl⟩, (fun zo ⟨s, w0, ze⟩ => ze ▸ h1 s w0)⟩) (fun _ => .nil)
def C__law_whole (mg : Str → Option Value) : Ct := fun zxs zp zq => ∃ (i : Int), zxs = [.int i] ∧ zp = (fun zo => zo = .d (.bl true)) ∧ zq = noX
theorem call__law_whole {K : PySem.W.Frag} {mg : Str → Option Value} {F B0 : Hp} {T : List O} {Γ : En} {zpost : O → En → Prop} {zE : XK} {zt : TA} (zh : GoA K F B0 zt T Γ fun zxs Γ1 => ∃ (i : Int), zxs = [.int i] ∧ (zpost (.d (.bl true)) Γ1)) : Go K F B0 (tCall (spP K (C__law_whole mg)) [] zE zt) T Γ zpost := by
  refine go_call (dxs := []) (fun z0 z1 z2 z3 z4 z5 => zh z0 z1 z2 z3 z4 fun z6 z7 z8 z9 ⟨i, ze, h1⟩ => z5 z6 z7 z8 z9 ⟨_, ⟨i, (List.append_nil _).trans ze, rfl, rfl⟩, (fun zo ze => ze ▸ h1)⟩) (fun _ => .nil)
def C__law_alike (mg : Str → Option Value) : Ct := fun zxs zp zq => ∃ (ps : List (Int × Int)), zxs = [.lst (ps.map sptD), .lst (ps.map sptD)] ∧ zp = (fun zo => zo = .d (.bl true)) ∧ zq = noX
theorem call__law_alike {K : PySem.W.Frag} {mg : Str → Option Value} {F B0 : Hp} {T : List O} {Γ : En} {zpost : O → En → Prop} {zE : XK} {zt : TA} (zh : GoA K F B0 zt T Γ fun zxs Γ1 => ∃ (ps : List (Int × Int)), zxs = [.lst (ps.map sptD), .lst (ps.map sptD)] ∧ (zpost (.d (.bl true)) Γ1)) : Go K F B0 (tCall (spP K (C__law_alike mg)) [] zE zt) T Γ zpost := by
  refine go_call (dxs := []) (fun z0 z1 z2 z3 z4 z5 => zh z0 z1 z2 z3 z4 fun z6 z7 z8 z9 ⟨ps, ze, h1⟩ => z5 z6 z7 z8 z9 ⟨_, ⟨ps, (List.append_nil _).trans ze, rfl, rfl⟩, (fun zo ze => ze ▸ h1)⟩) (fun _ => .nil)
def C_Loose__spots (mg : Str → Option Value) (Ci : Addr) : Ct := fun zxs zp zq => ∃ (Cv : Addr) (n : Int), zxs = [.ins Cv [], .int n] ∧ zp = (fun zo => zo = .d (.int (lvSpots (Lv.loose) n))) ∧ zq = noX
theorem call_Loose__spots {K : PySem.W.Frag} {mg : Str → Option Value} {F B0 : Hp} {T : List O} {Γ : En} {zpost : O → En → Prop} {zE : XK} {zt : TA} {te : TE} {Ci : Addr} (zh : Go K F B0 te T Γ fun zo Γ0 => ∃ zfs, zo.fz = .ins Ci zfs ∧ zfs.lookup (Str.ofString "spots") = none ∧ GoA K F B0 zt (.d (.ins Ci zfs) :: T) Γ0 fun zxs Γ1 => ∃ (Cv : Addr) (n : Int), .ins Ci zfs :: zxs = [.ins Cv [], .int n] ∧ (zpost (.d (.int (lvSpots (Lv.loose) n))) Γ1)) : Go K F B0 (tMeth Ci (Str.ofString "spots") (spP K (C_Loose__spots mg Ci)) [] zE te zt) T Γ zpost := by
  refine go_methP (dxs := []) (fun _ => .nil) (fun y0 y1 y2 y3 y4 y5 => zh y0 y1 y2 y3 y4 fun y6 y7 y8 y9 ⟨zfs, za1, za2, zh2⟩ => y5 y6 y7 y8 y9 ⟨zfs, za1, za2, fun z0 z1 z2 z3 z4 z5 => zh2 z0 z1 z2 z3 z4 fun z6 z7 z8 z9 ⟨Cv, n, ze, h1⟩ => z5 z6 z7 z8 z9 ⟨_, ⟨Cv, n, ((congrArg (List.cons _) (List.append_nil _)).trans ze), rfl, rfl⟩, (fun zo ze => ze ▸ h1)⟩⟩)
def C_Kept__spots (mg : Str → Option Value) (Ci : Addr) : Ct := fun zxs zp zq => ∃ (Cv : Addr) (n : Int), zxs = [.ins Cv [], .int n] ∧ zp = (fun zo => zo = .d (.int (lvSpots (Lv.kept) n))) ∧ zq = noX
theorem call_Kept__spots {K : PySem.W.Frag} {mg : Str → Option Value} {F B0 : Hp} {T : List O} {Γ : En} {zpost : O → En → Prop} {zE : XK} {zt : TA} {te : TE} {Ci : Addr} (zh : Go K F B0 te T Γ fun zo Γ0 => ∃ zfs, zo.fz = .ins Ci zfs ∧ zfs.lookup (Str.ofString "spots") = none ∧ GoA K F B0 zt (.d (.ins Ci zfs) :: T) Γ0 fun zxs Γ1 => ∃ (Cv : Addr) (n : Int), .ins Ci zfs :: zxs = [.ins Cv [], .int n] ∧ (zpost (.d (.int (lvSpots (Lv.kept) n))) Γ1)) : Go K F B0 (tMeth Ci (Str.ofString "spots") (spP K (C_Kept__spots mg Ci)) [] zE te zt) T Γ zpost := by
  refine go_methP (dxs := []) (fun _ => .nil) (fun y0 y1 y2 y3 y4 y5 => zh y0 y1 y2 y3 y4 fun y6 y7 y8 y9 ⟨zfs, za1, za2, zh2⟩ => y5 y6 y7 y8 y9 ⟨zfs, za1, za2, fun z0 z1 z2 z3 z4 z5 => zh2 z0 z1 z2 z3 z4 fun z6 z7 z8 z9 ⟨Cv, n, ze, h1⟩ => z5 z6 z7 z8 z9 ⟨_, ⟨Cv, n, ((congrArg (List.cons _) (List.append_nil _)).trans ze), rfl, rfl⟩, (fun zo ze => ze ▸ h1)⟩⟩)
def C_Make__spots (mg : Str → Option Value) (Ci : Addr) : Ct := fun zxs zp zq => ∃ (Cv : Addr) (n : Int), zxs = [.ins Cv [], .int n] ∧ zp = (fun zo => zo = .d (.int (lvSpots (Lv.make) n))) ∧ zq = noX
theorem call_Make__spots {K : PySem.W.Frag} {mg : Str → Option Value} {F B0 : Hp} {T : List O} {Γ : En} {zpost : O → En → Prop} {zE : XK} {zt : TA} {te : TE} {Ci : Addr} (zh : Go K F B0 te T Γ fun zo Γ0 => ∃ zfs, zo.fz = .ins Ci zfs ∧ zfs.lookup (Str.ofString "spots") = none ∧ GoA K F B0 zt (.d (.ins Ci zfs) :: T) Γ0 fun zxs Γ1 => ∃ (Cv : Addr) (n : Int), .ins Ci zfs :: zxs = [.ins Cv [], .int n] ∧ (zpost (.d (.int (lvSpots (Lv.make) n))) Γ1)) : Go K F B0 (tMeth Ci (Str.ofString "spots") (spP K (C_Make__spots mg Ci)) [] zE te zt) T Γ zpost := by
  refine go_methP (dxs := []) (fun _ => .nil) (fun y0 y1 y2 y3 y4 y5 => zh y0 y1 y2 y3 y4 fun y6 y7 y8 y9 ⟨zfs, za1, za2, zh2⟩ => y5 y6 y7 y8 y9 ⟨zfs, za1, za2, fun z0 z1 z2 z3 z4 z5 => zh2 z0 z1 z2 z3 z4 fun z6 z7 z8 z9 ⟨Cv, n, ze, h1⟩ => z5 z6 z7 z8 z9 ⟨_, ⟨Cv, n, ((congrArg (List.cons _) (List.append_nil _)).trans ze), rfl, rfl⟩, (fun zo ze => ze ▸ h1)⟩⟩)
def C_Watch__spots (mg : Str → Option Value) (Ci : Addr) : Ct := fun zxs zp zq => ∃ (Cv : Addr) (n : Int), zxs = [.ins Cv [], .int n] ∧ zp = (fun zo => zo = .d (.int (lvSpots (Lv.watch) n))) ∧ zq = noX
theorem call_Watch__spots {K : PySem.W.Frag} {mg : Str → Option Value} {F B0 : Hp} {T : List O} {Γ : En} {zpost : O → En → Prop} {zE : XK} {zt : TA} {te : TE} {Ci : Addr} (zh : Go K F B0 te T Γ fun zo Γ0 => ∃ zfs, zo.fz = .ins Ci zfs ∧ zfs.lookup (Str.ofString "spots") = none ∧ GoA K F B0 zt (.d (.ins Ci zfs) :: T) Γ0 fun zxs Γ1 => ∃ (Cv : Addr) (n : Int), .ins Ci zfs :: zxs = [.ins Cv [], .int n] ∧ (zpost (.d (.int (lvSpots (Lv.watch) n))) Γ1)) : Go K F B0 (tMeth Ci (Str.ofString "spots") (spP K (C_Watch__spots mg Ci)) [] zE te zt) T Γ zpost := by
  refine go_methP (dxs := []) (fun _ => .nil) (fun y0 y1 y2 y3 y4 y5 => zh y0 y1 y2 y3 y4 fun y6 y7 y8 y9 ⟨zfs, za1, za2, zh2⟩ => y5 y6 y7 y8 y9 ⟨zfs, za1, za2, fun z0 z1 z2 z3 z4 z5 => zh2 z0 z1 z2 z3 z4 fun z6 z7 z8 z9 ⟨Cv, n, ze, h1⟩ => z5 z6 z7 z8 z9 ⟨_, ⟨Cv, n, ((congrArg (List.cons _) (List.append_nil _)).trans ze), rfl, rfl⟩, (fun zo ze => ze ▸ h1)⟩⟩)
def C_Hold__spots (mg : Str → Option Value) (Ci : Addr) : Ct := fun zxs zp zq => ∃ (Cv : Addr) (n : Int), zxs = [.ins Cv [], .int n] ∧ zp = (fun zo => zo = .d (.int (lvSpots (Lv.hold) n))) ∧ zq = noX
theorem call_Hold__spots {K : PySem.W.Frag} {mg : Str → Option Value} {F B0 : Hp} {T : List O} {Γ : En} {zpost : O → En → Prop} {zE : XK} {zt : TA} {te : TE} {Ci : Addr} (zh : Go K F B0 te T Γ fun zo Γ0 => ∃ zfs, zo.fz = .ins Ci zfs ∧ zfs.lookup (Str.ofString "spots") = none ∧ GoA K F B0 zt (.d (.ins Ci zfs) :: T) Γ0 fun zxs Γ1 => ∃ (Cv : Addr) (n : Int), .ins Ci zfs :: zxs = [.ins Cv [], .int n] ∧ (zpost (.d (.int (lvSpots (Lv.hold) n))) Γ1)) : Go K F B0 (tMeth Ci (Str.ofString "spots") (spP K (C_Hold__spots mg Ci)) [] zE te zt) T Γ zpost := by
  refine go_methP (dxs := []) (fun _ => .nil) (fun y0 y1 y2 y3 y4 y5 => zh y0 y1 y2 y3 y4 fun y6 y7 y8 y9 ⟨zfs, za1, za2, zh2⟩ => y5 y6 y7 y8 y9 ⟨zfs, za1, za2, fun z0 z1 z2 z3 z4 z5 => zh2 z0 z1 z2 z3 z4 fun z6 z7 z8 z9 ⟨Cv, n, ze, h1⟩ => z5 z6 z7 z8 z9 ⟨_, ⟨Cv, n, ((congrArg (List.cons _) (List.append_nil _)).trans ze), rfl, rfl⟩, (fun zo ze => ze ▸ h1)⟩⟩)
def C_level_of (mg : Str → Option Value) : Ct := fun zxs zp zq => ∃ (s : Str), zxs = [.str s] ∧ zp = (fun zo => ∃ (l : Lv), (lvOf s = some l) ∧ zo = .d (lvD mg l)) ∧ zq = (fun Cc fs => fs = none ∧ mg "NoLevel" = some (.ref Cc) ∧ lvOf s = none)
theorem call_level_of {K : PySem.W.Frag} {mg : Str → Option Value} {F B0 : Hp} {T : List O} {Γ : En} {zpost : O → En → Prop} {W : WX} {XX : Addr → Option (List (Str × D)) → En → Prop} {zt : TA} (wx : ∀ Cc fs d σ Γ H, XX Cc fs Γ → HoX K F B0 σ Γ H d fs → W (.ref Cc) d σ H) (zh : GoA K F B0 zt T Γ fun zxs Γ1 => ∃ (s : Str), zxs = [.str s] ∧ (∀ (l : Lv), (lvOf s = some l) → zpost (.d (lvD mg l)) Γ1) ∧ ∀ Cc fs, (fun Cc fs => fs = none ∧ mg "NoLevel" = some (.ref Cc) ∧ lvOf s = none) Cc fs → XX Cc fs Γ1) : Go K F B0 (tCallS (spP K (C_level_of mg)) (WE W) zt) T Γ zpost := by
  refine go_callX wx (fun z0 z1 z2 z3 z4 z5 => zh z0 z1 z2 z3 z4 fun z6 z7 z8 z9 ⟨s, ze, h1, h2⟩ => z5 z6 z7 z8 z9 ⟨_, _, ⟨s, ze, rfl, rfl⟩, (fun zo ⟨l, w0, ze⟩ => ze ▸ h1 l w0), h2⟩)
def C_levels_for (mg : Str → Option Value) : Ct := fun zxs zp zq => ∃ (w : Option Str) (ds : List De) (ps : List SK.D), zxs = [whD ds ps, osD w] ∧ (ds.length ≤ 8) ∧ zp = (fun zo => ∃ (lw : Option Lv), (w.map lvOf = lw.map some) ∧ zo = .d (.dic (imK (lvD mg) (lvsF lw ds)))) ∧ zq = (fun Cc fs => fs = none ∧ mg "NoLevel" = some (.ref Cc) ∧ ∃ s, w = some s ∧ lvOf s = none)
theorem call_levels_for {K : PySem.W.Frag} {mg : Str → Option Value} {F B0 : Hp} {T : List O} {Γ : En} {zpost : O → En → Prop} {W : WX} {XX : Addr → Option (List (Str × D)) → En → Prop} {zt : TA} (wx : ∀ Cc fs d σ Γ H, XX Cc fs Γ → HoX K F B0 σ Γ H d fs → W (.ref Cc) d σ H) (zh : GoA K F B0 zt T Γ fun zxs Γ1 => ∃ (w : Option Str) (ds : List De) (ps : List SK.D), zxs = [whD ds ps, osD w] ∧ (ds.length ≤ 8) ∧ (∀ (lw : Option Lv), (w.map lvOf = lw.map some) → zpost (.d (.dic (imK (lvD mg) (lvsF lw ds)))) Γ1) ∧ ∀ Cc fs, (fun Cc fs => fs = none ∧ mg "NoLevel" = some (.ref Cc) ∧ ∃ s, w = some s ∧ lvOf s = none) Cc fs → XX Cc fs Γ1) : Go K F B0 (tCallS (spP K (C_levels_for mg)) (WE W) zt) T Γ zpost := by
  refine go_callX wx (fun z0 z1 z2 z3 z4 z5 => zh z0 z1 z2 z3 z4 fun z6 z7 z8 z9 ⟨w, ds, ps, ze, hp0, h1, h2⟩ => z5 z6 z7 z8 z9 ⟨_, _, ⟨w, ds, ps, ze, hp0, rfl, rfl⟩, (fun zo ⟨lw, w0, ze⟩ => ze ▸ h1 lw w0), h2⟩)
def C_spots (mg : Str → Option Value) : Ct := fun zxs zp zq => ∃ (w : Option Str) (ds : List De) (ps : List SK.D), zxs = [whD ds ps, osD w] ∧ (ds.length ≤ 8) ∧ (∀ d ∈ ds, d.ks.length ≤ 200) ∧ ((ds.map (·.n)).Nodup) ∧ zp = (fun zo => ∃ (lw : Option Lv), (w.map lvOf = lw.map some) ∧ zo = .d (.lst ((spotsF lw ds).map sptD))) ∧ zq = (fun Cc fs => fs = none ∧ mg "NoLevel" = some (.ref Cc) ∧ ∃ s, w = some s ∧ lvOf s = none)
theorem call_spots {K : PySem.W.Frag} {mg : Str → Option Value} {F B0 : Hp} {T : List O} {Γ : En} {zpost : O → En → Prop} {W : WX} {XX : Addr → Option (List (Str × D)) → En → Prop} {zt : TA} (wx : ∀ Cc fs d σ Γ H, XX Cc fs Γ → HoX K F B0 σ Γ H d fs → W (.ref Cc) d σ H) (zh : GoA K F B0 zt T Γ fun zxs Γ1 => ∃ (w : Option Str) (ds : List De) (ps : List SK.D), zxs = [whD ds ps, osD w] ∧ (ds.length ≤ 8) ∧ (∀ d ∈ ds, d.ks.length ≤ 200) ∧ ((ds.map (·.n)).Nodup) ∧ (∀ (lw : Option Lv), (w.map lvOf = lw.map some) → zpost (.d (.lst ((spotsF lw ds).map sptD))) Γ1) ∧ ∀ Cc fs, (fun Cc fs => fs = none ∧ mg "NoLevel" = some (.ref Cc) ∧ ∃ s, w = some s ∧ lvOf s = none) Cc fs → XX Cc fs Γ1) : Go K F B0 (tCallS (spP K (C_spots mg)) (WE W) zt) T Γ zpost := by
  refine go_callX wx (fun z0 z1 z2 z3 z4 z5 => zh z0 z1 z2 z3 z4 fun z6 z7 z8 z9 ⟨w, ds, ps, ze, hp0, hp1, hp2, h1, h2⟩ => z5 z6 z7 z8 z9 ⟨_, _, ⟨w, ds, ps, ze, hp0, hp1, hp2, rfl, rfl⟩, (fun zo ⟨lw, w0, ze⟩ => ze ▸ h1 lw w0), h2⟩)
theorem call0_spots {K : PySem.W.Frag} {mg : Str → Option Value} {F B0 : Hp} {T : List O} {Γ : En} {zpost : O → En → Prop} {W : WX} {XX : Addr → Option (List (Str × D)) → En → Prop} {zt : TA} (wx : ∀ Cc fs d σ Γ H, XX Cc fs Γ → HoX K F B0 σ Γ H d fs → W (.ref Cc) d σ H) (zh : GoA K F B0 zt T Γ fun zxs Γ1 => ∃ (w : Option Str) (ds : List De) (ps : List SK.D), zxs = [whD ds ps] ∧ (osD w : SK.D) = .non ∧ (ds.length ≤ 8) ∧ (∀ d ∈ ds, d.ks.length ≤ 200) ∧ ((ds.map (·.n)).Nodup) ∧ (∀ (lw : Option Lv), (w.map lvOf = lw.map some) → zpost (.d (.lst ((spotsF lw ds).map sptD))) Γ1) ∧ ∀ Cc fs, (fun Cc fs => fs = none ∧ mg "NoLevel" = some (.ref Cc) ∧ ∃ s, w = some s ∧ lvOf s = none) Cc fs → XX Cc fs Γ1) : Go K F B0 (tCallSD (spP K (C_spots mg)) [.non] (WE W) zt) T Γ zpost := by
  refine go_callXD (dxs := [.non]) rl_non wx (fun z0 z1 z2 z3 z4 z5 => zh z0 z1 z2 z3 z4 fun z6 z7 z8 z9 ⟨w, ds, ps, ze, zd, hp0, hp1, hp2, h1, h2⟩ => z5 z6 z7 z8 z9 ⟨_, _, ⟨w, ds, ps, (by rw [ze, ← zd]; rfl), hp0, hp1, hp2, rfl, rfl⟩, (fun zo ⟨lw, w0, ze⟩ => ze ▸ h1 lw w0), h2⟩)
def C__law_many (mg : Str → Option Value) : Ct := fun zxs zp zq => ∃ (l : Lv) (xs : List SK.D), zxs = [.str (lvW l), .lst xs] ∧ zp = (fun zo => zo = .d (.int (lvSpots l xs.length))) ∧ zq = noX
theorem call__law_many {K : PySem.W.Frag} {mg : Str → Option Value} {F B0 : Hp} {T : List O} {Γ : En} {zpost : O → En → Prop} {zE : XK} {zt : TA} (zh : GoA K F B0 zt T Γ fun zxs Γ1 => ∃ (l : Lv) (xs : List SK.D), zxs = [.str (lvW l), .lst xs] ∧ (zpost (.d (.int (lvSpots l xs.length))) Γ1)) : Go K F B0 (tCall (spP K (C__law_many mg)) [] zE zt) T Γ zpost := by
  refine go_call (dxs := []) (fun z0 z1 z2 z3 z4 z5 => zh z0 z1 z2 z3 z4 fun z6 z7 z8 z9 ⟨l, xs, ze, h1⟩ => z5 z6 z7 z8 z9 ⟨_, ⟨l, xs, (List.append_nil _).trans ze, rfl, rfl⟩, (fun zo ze => ze ▸ h1)⟩) (fun _ => .nil)
def C__law_due (mg : Str → Option Value) : Ct := fun zxs zp zq => ∃ (w : Option Lv) (ds : List De) (ps : List SK.D), zxs = [whD ds ps, wdD w] ∧ (ds.length ≤ 8) ∧ (∀ d ∈ ds, d.ks.length ≤ 200) ∧ zp = (fun zo => zo = .d (.lst ((spotsF w ds).map sptD))) ∧ zq = noX
theorem call__law_due {K : PySem.W.Frag} {mg : Str → Option Value} {F B0 : Hp} {T : List O} {Γ : En} {zpost : O → En → Prop} {zE : XK} {zt : TA} (zh : GoA K F B0 zt T Γ fun zxs Γ1 => ∃ (w : Option Lv) (ds : List De) (ps : List SK.D), zxs = [whD ds ps, wdD w] ∧ (ds.length ≤ 8) ∧ (∀ d ∈ ds, d.ks.length ≤ 200) ∧ (zpost (.d (.lst ((spotsF w ds).map sptD))) Γ1)) : Go K F B0 (tCall (spP K (C__law_due mg)) [] zE zt) T Γ zpost := by
  refine go_call (dxs := []) (fun z0 z1 z2 z3 z4 z5 => zh z0 z1 z2 z3 z4 fun z6 z7 z8 z9 ⟨w, ds, ps, ze, hp0, hp1, h1⟩ => z5 z6 z7 z8 z9 ⟨_, ⟨w, ds, ps, (List.append_nil _).trans ze, hp0, hp1, rfl, rfl⟩, (fun zo ze => ze ▸ h1)⟩) (fun _ => .nil)
def C_edges (mg : Str → Option Value) : Ct := fun zxs zp zq => ∃ (s : Str) (ds : List De) (ps : List SK.D), zxs = [whD ds ps, .str s] ∧ (ds.length ≤ 8) ∧ (lvOf s = none) ∧ zp = (fun zo => False) ∧ zq = (fun Cc fs => fs = none ∧ mg "NoLevel" = some (.ref Cc))
theorem call_edges {K : PySem.W.Frag} {mg : Str → Option Value} {F B0 : Hp} {T : List O} {Γ : En} {zpost : O → En → Prop} {W : WX} {XX : Addr → Option (List (Str × D)) → En → Prop} {zt : TA} (wx : ∀ Cc fs d σ Γ H, XX Cc fs Γ → HoX K F B0 σ Γ H d fs → W (.ref Cc) d σ H) (zh : GoA K F B0 zt T Γ fun zxs Γ1 => ∃ (s : Str) (ds : List De) (ps : List SK.D), zxs = [whD ds ps, .str s] ∧ (ds.length ≤ 8) ∧ (lvOf s = none) ∧ (∀ zo, (fun zo => False) zo → zpost zo Γ1) ∧ ∀ Cc fs, (fun Cc fs => fs = none ∧ mg "NoLevel" = some (.ref Cc)) Cc fs → XX Cc fs Γ1) : Go K F B0 (tCallS (spP K (C_edges mg)) (WE W) zt) T Γ zpost := by
  refine go_callX wx (fun z0 z1 z2 z3 z4 z5 => zh z0 z1 z2 z3 z4 fun z6 z7 z8 z9 ⟨s, ds, ps, ze, hp0, hp1, h1, h2⟩ => z5 z6 z7 z8 z9 ⟨_, _, ⟨s, ds, ps, ze, hp0, hp1, rfl, rfl⟩, h1, h2⟩)
theorem call0_edges {K : PySem.W.Frag} {mg : Str → Option Value} {F B0 : Hp} {T : List O} {Γ : En} {zpost : O → En → Prop} {W : WX} {XX : Addr → Option (List (Str × D)) → En → Prop} {zt : TA} (wx : ∀ Cc fs d σ Γ H, XX Cc fs Γ → HoX K F B0 σ Γ H d fs → W (.ref Cc) d σ H) (zh : GoA K F B0 zt T Γ fun zxs Γ1 => ∃ (s : Str) (ds : List De) (ps : List SK.D), zxs = [whD ds ps] ∧ (.str s : SK.D) = .non ∧ (ds.length ≤ 8) ∧ (lvOf s = none) ∧ (∀ zo, (fun zo => False) zo → zpost zo Γ1) ∧ ∀ Cc fs, (fun Cc fs => fs = none ∧ mg "NoLevel" = some (.ref Cc)) Cc fs → XX Cc fs Γ1) : Go K F B0 (tCallSD (spP K (C_edges mg)) [.non] (WE W) zt) T Γ zpost := by
  refine go_callXD (dxs := [.non]) rl_non wx (fun z0 z1 z2 z3 z4 z5 => zh z0 z1 z2 z3 z4 fun z6 z7 z8 z9 ⟨s, ds, ps, ze, zd, hp0, hp1, h1, h2⟩ => z5 z6 z7 z8 z9 ⟨_, _, ⟨s, ds, ps, (by rw [ze, ← zd]; rfl), hp0, hp1, rfl, rfl⟩, h1, h2⟩)
def C__law_refused (mg : Str → Option Value) : Ct := fun zxs zp zq => ∃ (s : Str) (ds : List De) (ps : List SK.D) (b : Bool), zxs = [whD ds ps, .str s, .bl b] ∧ (ds.length ≤ 8) ∧ (∀ d ∈ ds, d.ks.length ≤ 200) ∧ ((ds.map (·.n)).Nodup) ∧ (lvOf s = none) ∧ zp = (fun zo => zo = .d (.bl true)) ∧ zq = noX
theorem call__law_refused {K : PySem.W.Frag} {mg : Str → Option Value} {F B0 : Hp} {T : List O} {Γ : En} {zpost : O → En → Prop} {zE : XK} {zt : TA} (zh : GoA K F B0 zt T Γ fun zxs Γ1 => ∃ (s : Str) (ds : List De) (ps : List SK.D) (b : Bool), zxs = [whD ds ps, .str s, .bl b] ∧ (ds.length ≤ 8) ∧ (∀ d ∈ ds, d.ks.length ≤ 200) ∧ ((ds.map (·.n)).Nodup) ∧ (lvOf s = none) ∧ (zpost (.d (.bl true)) Γ1)) : Go K F B0 (tCall (spP K (C__law_refused mg)) [] zE zt) T Γ zpost := by
  refine go_call (dxs := []) (fun z0 z1 z2 z3 z4 z5 => zh z0 z1 z2 z3 z4 fun z6 z7 z8 z9 ⟨s, ds, ps, b, ze, hp0, hp1, hp2, hp3, h1⟩ => z5 z6 z7 z8 z9 ⟨_, ⟨s, ds, ps, b, (List.append_nil _).trans ze, hp0, hp1, hp2, hp3, rfl, rfl⟩, (fun zo ze => ze ▸ h1)⟩) (fun _ => .nil)
theorem call_dyn_spots {K : PySem.W.Frag} {mg : Str → Option Value} {F B0 : Hp} {T : List O} {Γ : En} {zpost : O → En → Prop} {zE : XK} {zt : TA} {te : TE} {a_Loose a_Kept a_Make a_Watch a_Hold : Addr} (zg0 : mg "Loose" = some (.ref a_Loose)) (zg1 : mg "Kept" = some (.ref a_Kept)) (zg2 : mg "Make" = some (.ref a_Make)) (zg3 : mg "Watch" = some (.ref a_Watch)) (zg4 : mg "Hold" = some (.ref a_Hold)) (zh : Go K F B0 te T Γ fun zo Γ0 => ∃ zl, zo.fz = lvD mg zl ∧ GoA K F B0 zt (.d (lvD mg zl) :: T) Γ0 fun zxs Γ1 => ∃ (n : Int), zxs = [.int n] ∧ (zpost (.d (.int (lvSpots zl n))) Γ1)) : Go K F B0 (tMethD K [(a_Loose, C_Loose__spots mg a_Loose), (a_Kept, C_Kept__spots mg a_Kept), (a_Make, C_Make__spots mg a_Make), (a_Watch, C_Watch__spots mg a_Watch), (a_Hold, C_Hold__spots mg a_Hold)] (Str.ofString "spots") zE te zt) T Γ zpost := by
  refine go_methD (fun z0 z1 z2 z3 z4 z5 => zh z0 z1 z2 z3 z4 fun z6 z7 z8 z9 ⟨zl, za, zh2⟩ => z5 z6 z7 z8 z9 ?_)
  cases zl with
  | loose =>
    rw [lvD_of Lv.loose zg0] at za zh2
    exact ⟨a_Loose, C_Loose__spots mg a_Loose, [], by simp, za, rfl, fun y0 y1 y2 y3 y4 y5 => zh2 y0 y1 y2 y3 y4 fun y6 y7 y8 y9 ⟨n, ze, h1⟩ => y5 y6 y7 y8 y9 ⟨_, ⟨a_Loose, n, congrArg (List.cons _) ze, rfl, rfl⟩, (fun zo ze => ze ▸ h1)⟩⟩
  | kept =>
    rw [lvD_of Lv.kept zg1] at za zh2
    exact ⟨a_Kept, C_Kept__spots mg a_Kept, [], by simp, za, rfl, fun y0 y1 y2 y3 y4 y5 => zh2 y0 y1 y2 y3 y4 fun y6 y7 y8 y9 ⟨n, ze, h1⟩ => y5 y6 y7 y8 y9 ⟨_, ⟨a_Kept, n, congrArg (List.cons _) ze, rfl, rfl⟩, (fun zo ze => ze ▸ h1)⟩⟩
  | make =>
    rw [lvD_of Lv.make zg2] at za zh2
    exact ⟨a_Make, C_Make__spots mg a_Make, [], by simp, za, rfl, fun y0 y1 y2 y3 y4 y5 => zh2 y0 y1 y2 y3 y4 fun y6 y7 y8 y9 ⟨n, ze, h1⟩ => y5 y6 y7 y8 y9 ⟨_, ⟨a_Make, n, congrArg (List.cons _) ze, rfl, rfl⟩, (fun zo ze => ze ▸ h1)⟩⟩
  | watch =>
    rw [lvD_of Lv.watch zg3] at za zh2
    exact ⟨a_Watch, C_Watch__spots mg a_Watch, [], by simp, za, rfl, fun y0 y1 y2 y3 y4 y5 => zh2 y0 y1 y2 y3 y4 fun y6 y7 y8 y9 ⟨n, ze, h1⟩ => y5 y6 y7 y8 y9 ⟨_, ⟨a_Watch, n, congrArg (List.cons _) ze, rfl, rfl⟩, (fun zo ze => ze ▸ h1)⟩⟩
  | hold =>
    rw [lvD_of Lv.hold zg4] at za zh2
    exact ⟨a_Hold, C_Hold__spots mg a_Hold, [], by simp, za, rfl, fun y0 y1 y2 y3 y4 y5 => zh2 y0 y1 y2 y3 y4 fun y6 y7 y8 y9 ⟨n, ze, h1⟩ => y5 y6 y7 y8 y9 ⟨_, ⟨a_Hold, n, congrArg (List.cons _) ze, rfl, rfl⟩, (fun zo ze => ze ▸ h1)⟩⟩
local macro_rules | `(tactic| walk_at "skc") => `(tactic| first
  | with_reducible refine call__law_stream ?_
  | with_reducible refine call__law_keys ?_
  | with_reducible refine call__law_cell_at ?_
  | with_reducible refine call__law_times ?_
  | with_reducible refine call__law_drawn ?_
  | with_reducible refine call__law_source ?_
  | with_reducible refine call__law_tale ?_
  | with_reducible refine call__law_longer ?_
  | with_reducible refine call__law_word ?_
  | with_reducible refine call__law_odd ?_
  | with_reducible refine call__law_whole ?_
  | with_reducible refine call__law_alike ?_
  | with_reducible refine call_Loose__spots ?_
  | with_reducible refine call_Kept__spots ?_
  | with_reducible refine call_Make__spots ?_
  | with_reducible refine call_Watch__spots ?_
  | with_reducible refine call_Hold__spots ?_
  | ((with_reducible refine' call_level_of ?hw ?_); (case hw => assumption)) | with_reducible refine call_level_of (XX := fun _ _ _ => False) (fun _ _ _ _ _ _ z _ => z.elim) ?_
  | ((with_reducible refine' call_levels_for ?hw ?_); (case hw => assumption)) | with_reducible refine call_levels_for (XX := fun _ _ _ => False) (fun _ _ _ _ _ _ z _ => z.elim) ?_
  | ((with_reducible refine' call_spots ?hw ?_); (case hw => assumption)) | with_reducible refine call_spots (XX := fun _ _ _ => False) (fun _ _ _ _ _ _ z _ => z.elim) ?_
  | with_reducible refine call__law_many ?_
  | with_reducible refine call__law_due ?_
  | ((with_reducible refine' call_edges ?hw ?_); (case hw => assumption)) | with_reducible refine call_edges (XX := fun _ _ _ => False) (fun _ _ _ _ _ _ z _ => z.elim) ?_
  | with_reducible refine call__law_refused ?_
  | ((with_reducible refine' call0_spots ?hw ?_); (case hw => assumption)) | with_reducible refine call0_spots (XX := fun _ _ _ => False) (fun _ _ _ _ _ _ z _ => z.elim) ?_
  | ((with_reducible refine' call0_edges ?hw ?_); (case hw => assumption)) | with_reducible refine call0_edges (XX := fun _ _ _ => False) (fun _ _ _ _ _ _ z _ => z.elim) ?_
  | ((with_reducible refine' call_dyn_spots ?g0 ?g1 ?g2 ?g3 ?g4 ?_); (case g0 => assumption); (case g1 => assumption); (case g2 => assumption); (case g3 => assumption); (case g4 => assumption))
  | with_reducible refine go_make00 ?_ | ((with_reducible refine' oa_isiO ?hc ?hq ?_); (case hc => assumption); (case hq => assumption)))
abbrev C_law := lawC
local macro_rules | `(tactic| walk_at "x0") => `(tactic| focus ((simp only [fz_fl, fz_fk, fz_d, fzL_fl, fzK_d, O.fz, fzL])))
local macro_rules | `(tactic| walk_at "x1") => `(tactic| focus (((with_reducible refine' And.intro ?hp ?_); (case hp => first | omega | assumption | exact rfl | exact Nat.le_of_ble_eq_true rfl | exact lfOLm (fun _ => rfl) | (show O.lf _ = true; simp only [O.lf, D.lf, lfL, lfOL, lf_mapI, Bool.and_true, Bool.and_self]; done)); (try dsimp only [List.set]))))
local macro_rules | `(tactic| walk_at "x2") => `(tactic| focus (((with_reducible refine' gog_name ?hi ?_); (case hi => exact Nat.le_of_ble_eq_true rfl); dsimp only [List.set])))
local macro_rules | `(tactic| walk_at "x3") => `(tactic| focus (((with_reducible refine' go_var ?hv ?_); (case hv => exact rfl))))
local macro_rules | `(tactic| walk_at "x4") => `(tactic| focus (((with_reducible refine' o2_mod ?hb ?_); (case hb => omega))))
local macro_rules | `(tactic| walk_at "x5") => `(tactic| focus ((with_reducible refine ⟨_, rfl, ?_⟩)))
local macro_rules | `(tactic| walk_at "x6") => `(tactic| focus (((with_reducible refine' o2_mul ?hm ?_); (case hm => first | exact IntMulOk.of_left (by decide) | exact IntMulOk.of_right (by decide) | assumption | exact IntMulOk.of_right (intBits_le_64 (by omega) (by omega)) | exact IntMulOk.of_left (intBits_le_64 (by omega) (by omega))))))
local macro_rules | `(tactic| walk_at "x7") => `(tactic| focus (((with_reducible refine' gos_append ?ha ?h0); (case h0 => exact ⟨_, rfl⟩))))
local macro_rules | `(tactic| walk_at "x8") => `(tactic| focus (((with_reducible refine' go_fz ?hv ?_); (case hv => exact rfl); (try walk_at "lendx"); (try simp only [fz_fl, fz_fk, fz_d, fzL_fl, fzK_d, O.fz, fzL, List.set]))))
local macro_rules | `(tactic| walk_at "x9") => `(tactic| focus ((with_reducible refine ⟨_, _, rfl, ?_⟩)))
local macro_rules | `(tactic| walk_at "x10") => `(tactic| focus (((with_reducible refine' o2_ix (x := _) rfl ?hi ?_); (case hi => first | walk_at "ixx" | exact rfl | exact atI_ofN.trans rfl))))
local macro_rules | `(tactic| walk_at "x11") => `(tactic| focus (((with_reducible refine' o2_div ?hb ?_); (case hb => omega))))
local macro_rules | `(tactic| walk_at "x12") => `(tactic| focus (((with_reducible refine and_im (fun hc => ?_) (fun hc => ?_)) <;> try simp only [decide_eq_true_eq, decide_eq_false_iff_not, Bool.true_eq_false, Bool.false_eq_true, Bool.not_eq_true', Bool.not_eq_false', reduceCtorEq] at hc <;> try first | exact absurd hc (by decide) | exact absurd hc (by assumption) | exact absurd (by assumption) hc | exact absurd rfl hc)))
local macro_rules | `(tactic| walk_at "x13") => `(tactic| focus (((with_reducible refine o2_pow (by decide) ?_); dsimp only [Int.reduceToNat, Int.reducePow])))
local macro_rules | `(tactic| walk_at "x14") => `(tactic| focus (with_reducible refine oa_len (.seq rfl) ?_))
local macro_rules | `(tactic| walk_at "x15") => `(tactic| focus (((with_reducible refine' go_varM ?hv ?_); (case hv => exact rfl); (try dsimp only [List.set]))))
local macro_rules | `(tactic| walk_at "x16") => `(tactic| focus (((with_reducible refine' gogs_name ?hi ?_); (case hi => exact Nat.le_of_ble_eq_true rfl); dsimp only [List.set])))
local macro_rules | `(tactic| walk_at "x17") => `(tactic| focus ((refine ⟨Sum.inl _, by exact rfl, ?_⟩)))
local macro_rules | `(tactic| walk_at "x18") => `(tactic| focus (((with_reducible refine' gos_frzA ?he ?hk); (case he => exact rfl); (try walk_at "lendx"); (try simp only [fz_fl, fz_fk, fz_d, fzL_fl, fzK_d, O.fz, fzL, List.set]))))
local macro_rules | `(tactic| walk_at "x19") => `(tactic| focus (((with_reducible refine goao_cons ?_); first | ((with_reducible refine' go_var ?hv ?_); (case hv => exact rfl)) | ((with_reducible refine' go_move ?hv ?_); (case hv => exact rfl); dsimp only [List.set]) | skip)))
local macro_rules | `(tactic| walk_at "x20") => `(tactic| focus (((with_reducible refine' gog_setDI ?ha ?h0); (case h0 => exact ⟨_, rfl⟩))))
local macro_rules | `(tactic| walk_at "x21") => `(tactic| focus ((refine ⟨_, _, by exact rfl, by exact rfl, ?_⟩)))
local macro_rules | `(tactic| walk_at "x22") => `(tactic| focus (((with_reducible refine' gos_setdAppV ?he ?hz ?hk); (case he => exact rfl); (case hz => first | (simp only [List.length_map]; omega) | walk_at "lenx" | skip); (intro F' B'); (try walk_at "lendx"); (try (simp only [fzE_cons, fzE_nil, frO_none, frO_some, fz_fl, fz_fk, fz_d, fzL_fl, fzK_d, O.fz, fzL, List.set])))))
local macro_rules | `(tactic| walk_at "x23") => `(tactic| focus (((with_reducible refine' go_lendV' ?hv ?_); (case hv => walk_at "vw"); (intro F' B'); (try walk_at "vwx"); (try (simp only [fzE_cons, fzE_nil, frO_none, frO_some, fz_fl, fz_fk, fz_d, fzL_fl, fzK_d, O.fz, fzL, List.set])))))
local macro_rules | `(tactic| walk_at "x24") => `(tactic| focus (((refine ⟨_, Sl.lst (by exact rfl), ?_⟩); (try simp only [SK.cutD_map, cutD_takeI, cutD_dropI, cutD_midI, ← List.map_take, ← List.map_drop, Int.reduceToNat, Int.reduceLE]))))
local macro_rules | `(tactic| walk_at "x25") => `(tactic| focus (((with_reducible refine' got_lendV' ?hv ?_); (case hv => walk_at "vw"); (intro F' B'); (try walk_at "vwx"); (try (simp only [fzE_cons, fzE_nil, frO_none, frO_some, fz_fl, fz_fk, fz_d, fzL_fl, fzK_d, O.fz, fzL, List.set])))))
local macro_rules | `(tactic| walk_at "x26") => `(tactic| focus (((with_reducible refine' gow_name ?hj ?hi ?_); (case hj => simp); (case hi => exact Nat.le_of_ble_eq_true rfl); dsimp only [List.set])))
local macro_rules | `(tactic| walk_at "x27") => `(tactic| focus (((with_reducible refine' oa_len (.str ?hz) ?_); (case hz => omega))))
local macro_rules | `(tactic| walk_at "x28") => `(tactic| focus (((refine' ⟨_, Sl.str ?hz, ?_⟩); (case hz => omega))))
local macro_rules | `(tactic| walk_at "x29") => `(tactic| focus (((with_reducible refine' oa_isiG (b := true) ?ht ?hk ?_); (case ht => constructor); (case hk => decide +kernel))))
local macro_rules | `(tactic| walk_at "x30") => `(tactic| focus (((with_reducible refine' oa_isiG (b := false) ?ht ?hk ?_); (case ht => constructor); (case hk => decide +kernel))))
local macro_rules | `(tactic| walk_at "x31") => `(tactic| focus (((with_reducible refine' gos_raise ?hw ?_); (case hw => assumption))))
local macro_rules | `(tactic| walk_at "x32") => `(tactic| focus ((with_reducible refine o2_not ?_; (try simp only [D.isNon, Bool.not_true, Bool.not_false]))))
local macro_rules | `(tactic| walk_at "x33") => `(tactic| focus ((with_reducible refine o2_is ?_; (try simp only [D.isNon]))))
local macro_rules | `(tactic| walk_at "x34") => `(tactic| focus (((with_reducible refine' call_level_of ?hw ?_); (case hw => assumption))))
local macro_rules | `(tactic| walk_at "x35") => `(tactic| focus (((with_reducible refine' call_levels_for ?hw ?_); (case hw => assumption))))
local macro_rules | `(tactic| walk_at "x36") => `(tactic| focus ((with_reducible refine ⟨_, _, _, rfl, ?_⟩)))
local macro_rules | `(tactic| walk_at "x37") => `(tactic| focus (((with_reducible refine' call_dyn_spots ?g0 ?g1 ?g2 ?g3 ?g4 ?_); (case g0 => assumption); (case g1 => assumption); (case g2 => assumption); (case g3 => assumption); (case g4 => assumption))))
local macro_rules | `(tactic| walk_at "x38") => `(tactic| focus (((with_reducible refine' gos_extend ?ha ?h0); (case h0 => exact ⟨_, rfl⟩))))
local macro_rules | `(tactic| walk_at "x39") => `(tactic| focus (((with_reducible refine' call_edges ?hw ?_); (case hw => assumption))))
local macro_rules | `(tactic| walk_at "x40") => `(tactic| focus (((with_reducible refine' call_spots ?hw ?_); (case hw => assumption))))
local macro_rules | `(tactic| walk_at "x41") => `(tactic| focus (((with_reducible refine' oa_isX ?hE ?hq ?_); (case hE => assumption); (case hq => assumption))))
local macro_rules | `(tactic| walk_at "x42") => `(tactic| focus (((with_reducible refine' oa_isXt ?hE ?hq ?_); (case hE => assumption); (case hq => assumption))))
local macro_rules | `(tactic| walk_at "x43") => `(tactic| focus (with_reducible refine call_spots (XX := fun _ _ _ => False) (fun _ _ _ _ _ _ z _ => z.elim) ?_))
local macro_rules | `(tactic| walk_at "x44") => `(tactic| focus (with_reducible refine call0_spots (XX := fun _ _ _ => False) (fun _ _ _ _ _ _ z _ => z.elim) ?_))
local macro_rules | `(tactic| walk_at "x45") => `(tactic| focus ((with_reducible refine ⟨_, _, _, _, rfl, ?_⟩)))
section
variable {P : Program} {w : World} {K : PySem.W.Frag} {mg : Str → Option Value} {base : Heap}
theorem cal__law_stream (D : Df K mg "_law_stream" s__law_stream) {a_SkewError a_NoLevel a_NoHistory a_WHYS a_Loose a_Kept a_Make a_Watch a_Hold : Addr} (XX : XF K mg a_SkewError a_NoLevel a_NoHistory a_WHYS a_Loose a_Kept a_Make a_Watch a_Hold) (b_range : mg "range" = none) : Cal P w K mg base "_law_stream" 1 ["_law_cell", "_law_many_here"] (C__law_stream mg) := by
  obtain ⟨f, fd, F, mf⟩ := D
  refine ⟨f, fd, ?_, mf, F.kp, F.binds (ps := ["_law_cell", "_law_many_here"]) fun _ _ _ _ _ _ us hl => match us, hl with | [_, _], _ => rfl, Fun.lk F⟩
  refine F.ok sc__law_stream (fun vs H Q E hS0 => spP_len (n := 2) (fun xs p q c0 => by unfold C__law_stream at c0; obtain ⟨_, _, rfl, _⟩ := c0; rfl) hS0) (fun cdv A outer s H vs Q E hr hS0 => ?_)
  have hu := hu_of hr
  refine sp_body hS0 (fun B xs p q c0 hl0 wx => ?_)
  obtain ⟨c, k, rfl, hp0, hp1, rfl, rfl⟩ := c0
  refine ⟨_, (pss_cons (ps_asg (pe_lst pa_nil) (pg_name (i := 2) sc__law_stream.nd rfl (by first | exact Or.inl rfl | exact Or.inr rfl)))
      (pss_cons (ps_asg (pe_op op_modG (pv 0) pe_int) (pg_name (i := 3) sc__law_stream.nd rfl (by first | exact Or.inl rfl | exact Or.inr rfl)))
      (pss_cons (ps_for PassesOwn.never rfl (pi_range1 (by rfl) b_range (pa_cons (pv 1) pa_nil)) (pg_name (i := 4) sc__law_stream.nd rfl (by first | exact Or.inl rfl | exact Or.inr rfl))
        (pss_cons (ps_asg (pe_op op_modG (pe_op (k_add (K := K) rfl) (pe_op (k_add (K := K) rfl) (pe_op op_mulG (pv 3) pe_int) pe_int) (pv 4)) pe_int) (pg_name (i := 3) sc__law_stream.nd rfl (by first | exact Or.inl rfl | exact Or.inr rfl)))
        (pss_one (ps_expr (k_bm (K := K) rfl (pe_bm PySem.F.plainAttrs_list PySem.F.slot_list_append PySem.F.type_list_append mt_append (pv 2) (pa_cons (pv 3) pa_nil)))))))
      (pss_one (ps_ret (pv 2)))))), ?_⟩
  clear hS0 hl0 hr hu wx b_range
  have X_r_WHYS := XX.r_WHYS
  have X_g_Loose := XX.g_Loose
  have X_R_Loose := XX.R_Loose
  have X_g_Kept := XX.g_Kept
  have X_R_Kept := XX.R_Kept
  have X_g_Make := XX.g_Make
  have X_R_Make := XX.R_Make
  have X_g_Watch := XX.g_Watch
  have X_R_Watch := XX.R_Watch
  have X_g_Hold := XX.g_Hold
  have X_R_Hold := XX.R_Hold
  simp only [List.map_cons, List.map_nil, List.length_cons, List.length_nil, List.cons_append, List.nil_append, Nat.reduceAdd, Nat.reduceSub, List.replicate_succ, List.replicate_zero, N__law_stream]
  ((with_reducible refine gos_sA ?_); (with_reducible refine gos_asg ?_); (with_reducible refine go_lst ?_); (with_reducible refine goa_nil ?_); walk_at "x0"; walk_at "x1"; walk_at "x2"; (with_reducible refine gos_sA ?_); (with_reducible refine gos_asg ?_); (with_reducible refine go_op ?_); walk_at "x3"; (with_reducible refine go_int ?_); walk_at "x0"; walk_at "x4"; walk_at "x2"; (with_reducible refine gos_sF ?_); (with_reducible refine gos_for ?_); (with_reducible refine goi_rng1 ?_); (with_reducible refine goa_cons ?_); walk_at "x3"; (with_reducible refine goa_nil ?_); walk_at "x5"; walk_at "x0"; walk_at "x1"; walk_at "x1"; (focus skip); rotate_left)
  refine ⟨fun i Γ' => ∃ (a4 : Option O), Γ' = [some (O.d (.int c)), some (O.d (.int k)), some (O.ol (((strS c i).2.map D.int).map O.d)), some (O.d (.int (strS c i).1)), a4], ⟨_, rfl⟩, ?_, ?_⟩
  · rintro i d _ hd ⟨a4, rfl⟩
    obtain ⟨hi, rfl⟩ := rngD_get hd
    have b := (strS_bd c i).1
    have hl := strm_len c i
    unfold strm at hl
    (walk_at "x2"; (with_reducible refine gos_sA ?_); (with_reducible refine gos_asg ?_); (with_reducible refine go_op ?_); (with_reducible refine go_op ?_); (with_reducible refine go_op ?_); (with_reducible refine go_op ?_); walk_at "x3"; (with_reducible refine go_int ?_); walk_at "x0"; walk_at "x6"; (with_reducible refine go_int ?_); walk_at "x0"; (with_reducible refine o2_add ?_); walk_at "x3"; walk_at "x0"; (with_reducible refine o2_add ?_); (with_reducible refine go_int ?_); walk_at "x0"; walk_at "x4"; walk_at "x2"; walk_at "x7"; walk_at "x3"; walk_at "x5"; walk_at "x0"; (focus skip); rotate_left)
    refine ⟨by simp [hl]; omega, some (O.d (.int (0 + (i : Int)))), ?_⟩
    show _ = [_, _, some (O.ol ((((strS c i).2 ++ [_]).map D.int).map O.d)), _, _]
    rw [List.map_append, List.map_append, Int.zero_add]; rfl
  · rintro _ ⟨a4, rfl⟩
    ((with_reducible refine gos_ret ?_); walk_at "x8"; (focus skip); rotate_left)
    rw [rngD_len]; rfl
theorem cal__law_keys (D : Df K mg "_law_keys" s__law_keys) {a_SkewError a_NoLevel a_NoHistory a_WHYS a_Loose a_Kept a_Make a_Watch a_Hold : Addr} (XX : XF K mg a_SkewError a_NoLevel a_NoHistory a_WHYS a_Loose a_Kept a_Make a_Watch a_Hold) (c__law_stream : Cal P w K mg base "_law_stream" 1 ["_law_cell", "_law_many_here"] (C__law_stream mg)) (b_range : mg "range" = none) (b_set : mg "set" = none) (b_sorted : mg "sorted" = none) : Cal P w K mg base "_law_keys" 2 ["_law_cell"] (C__law_keys mg) := by
  obtain ⟨f, fd, F, mf⟩ := D
  obtain ⟨f__law_stream, fd__law_stream, G__law_stream, g__law_stream, k__law_stream, bn__law_stream, _⟩ := c__law_stream
  refine ⟨f, fd, ?_, mf, F.kp, F.binds (ps := ["_law_cell"]) fun _ _ _ _ _ _ us hl => match us, hl with | [_], _ => rfl, Fun.lk F⟩
  refine F.ok sc__law_keys (fun vs H Q E hS0 => spP_len (n := 1) (fun xs p q c0 => by unfold C__law_keys at c0; obtain ⟨_, rfl, _⟩ := c0; rfl) hS0) (fun cdv A outer s H vs Q E hr hS0 => ?_)
  have hu := hu_of hr
  refine sp_body hS0 (fun B xs p q c0 hl0 wx => ?_)
  obtain ⟨c, rfl, rfl, rfl⟩ := c0
  refine ⟨_, (pss_cons (ps_asg (pe_call G__law_stream hr rfl g__law_stream k__law_stream bn__law_stream .nil pass0 (pa_cons (pv 0) (pa_cons pe_int pa_nil))) (pg_name (i := 1) sc__law_keys.nd rfl (by first | exact Or.inl rfl | exact Or.inr rfl)))
      (pss_cons (ps_asg (pe_lst pa_nil) (pg_name (i := 2) sc__law_keys.nd rfl (by first | exact Or.inl rfl | exact Or.inr rfl)))
      (pss_cons (ps_for PassesOwn.never rfl (pi_range1 (by rfl) b_range (pa_cons (pe_op op_modG (pe_ix (k_ix (K := K) rfl hu) (pv 1) pe_int (fun _ _ => rfl)) pe_int) pa_nil)) (pg_name (i := 3) sc__law_keys.nd rfl (by first | exact Or.inl rfl | exact Or.inr rfl))
        (pss_cons (ps_asg (pe_op op_subG (pe_op op_modG (pe_op op_divG (pe_ix (k_ix (K := K) rfl hu) (pv 1) (pe_op (k_add (K := K) rfl) pe_int (pv 3)) (fun _ _ => rfl)) pe_int) pe_int) pe_int) (pg_name (i := 4) sc__law_keys.nd rfl (by first | exact Or.inl rfl | exact Or.inr rfl)))
        (pss_cons (ps_if (pt_cmpR (k_eq (K := K) rfl hr.units) (pe_op op_modG (pe_ix (k_ix (K := K) rfl hu) (pv 1) (pe_op (k_add (K := K) rfl) pe_int (pv 3)) (fun _ _ => rfl)) pe_int) pe_int (nomark _))
          (pss_one (ps_asg (pe_op op_subG (pe_op op_modG (pe_op op_mulG (pe_op op_powG (pe_ix (k_ix (K := K) rfl hu) (pv 1) (pe_op (k_add (K := K) rfl) pe_int (pv 3)) (fun _ _ => rfl)) pe_int) pe_int) (pe_op op_subG (pe_op op_mulG pe_int (pe_op op_powG pe_int pe_int)) pe_int)) (pe_op op_subG (pe_op op_powG pe_int pe_int) pe_int)) (pg_name (i := 4) sc__law_keys.nd rfl (by first | exact Or.inl rfl | exact Or.inr rfl))))
          pss_nil)
        (pss_one (ps_expr (k_bm (K := K) rfl (pe_bm PySem.F.plainAttrs_list PySem.F.slot_list_append PySem.F.type_list_append mt_append (pv 2) (pa_cons (pv 4) pa_nil))))))))
      (pss_one (ps_ret (pe_sortSet (K := K) rfl rfl (by rfl) b_sorted (by rfl) b_set (pv 2))))))), ?_⟩
  clear hS0 hl0 hr hu wx G__law_stream g__law_stream k__law_stream bn__law_stream b_range b_set b_sorted
  have X_r_WHYS := XX.r_WHYS
  have X_g_Loose := XX.g_Loose
  have X_R_Loose := XX.R_Loose
  have X_g_Kept := XX.g_Kept
  have X_R_Kept := XX.R_Kept
  have X_g_Make := XX.g_Make
  have X_R_Make := XX.R_Make
  have X_g_Watch := XX.g_Watch
  have X_R_Watch := XX.R_Watch
  have X_g_Hold := XX.g_Hold
  have X_R_Hold := XX.R_Hold
  simp only [List.map_cons, List.map_nil, List.length_cons, List.length_nil, List.cons_append, List.nil_append, Nat.reduceAdd, Nat.reduceSub, List.replicate_succ, List.replicate_zero, N__law_keys]
  ((with_reducible refine gos_sA ?_); (with_reducible refine gos_asg ?_); walk_at "x0"; (with_reducible refine call__law_stream ?_); (with_reducible refine goa_cons ?_); walk_at "x3"; (with_reducible refine goa_cons ?_); (with_reducible refine go_int ?_); (with_reducible refine goa_nil ?_); walk_at "x0"; walk_at "x9"; walk_at "x1"; walk_at "x1"; walk_at "x2"; (with_reducible refine gos_sA ?_); (with_reducible refine gos_asg ?_); (with_reducible refine go_lst ?_); (with_reducible refine goa_nil ?_); walk_at "x0"; walk_at "x1"; walk_at "x2"; (with_reducible refine gos_sF ?_); (with_reducible refine gos_for ?_); (with_reducible refine goi_rng1 ?_); (with_reducible refine goa_cons ?_); (with_reducible refine go_op ?_); (with_reducible refine go_op ?_); walk_at "x3"; (with_reducible refine go_int ?_); walk_at "x0"; walk_at "x10"; (with_reducible refine go_int ?_); walk_at "x0"; walk_at "x4"; (with_reducible refine goa_nil ?_); walk_at "x5"; walk_at "x1"; walk_at "x1"; (focus skip); rotate_left)
  have b0 := at0_bd (c := c) (n := 4) (i := 0)
  have h4 : (0 : Int) ≤ at0 (strm c 4) 0 % 4 := by omega
  have e4 : Int.toNat 4 = 4 := rfl
  refine ⟨fun i Γ' => ∃ a3 a4, Γ' = [some (O.d (.int c)), some (O.d (.lst ((strm c 4).map D.int))), some (O.ol ((((List.range i).map fun (j : Nat) => key1 (at0 (strm c 4) (1 + (j : Int)))).map D.int).map O.d)), a3, a4], ⟨_, _, rfl⟩, ?_, ?_⟩
  · rintro i d _ hd ⟨a3, a4, rfl⟩
    obtain ⟨hi, rfl⟩ := rngD_get hd
    rw [e4] at hi
    have hi4 : (i : Int) < 4 := by omega
    have b1 := at0_bd (c := c) (n := 4) (i := 1 + (i : Int))
    rw [Int.zero_add]
    have ky := fun (hc : at0 (strm c 4) (1 + (i : Int)) % 3 = 0) => (show key1 (at0 (strm c 4) (1 + (i : Int))) = _ from if_pos hc)
    have kn := fun (hc : ¬ at0 (strm c 4) (1 + (i : Int)) % 3 = 0) => (show key1 (at0 (strm c 4) (1 + (i : Int))) = _ from if_neg hc)
    (walk_at "x2"; (with_reducible refine gos_sA ?_); (with_reducible refine gos_asg ?_); (with_reducible refine go_op ?_); (with_reducible refine go_op ?_); (with_reducible refine go_op ?_); (with_reducible refine go_op ?_); walk_at "x3"; (with_reducible refine go_op ?_); (with_reducible refine go_int ?_); walk_at "x3"; walk_at "x0"; (with_reducible refine o2_add ?_); walk_at "x0"; walk_at "x10"; (with_reducible refine go_int ?_); walk_at "x0"; walk_at "x11"; (with_reducible refine go_int ?_); walk_at "x0"; walk_at "x4"; (with_reducible refine go_int ?_); walk_at "x0"; (with_reducible refine o2_sub ?_); walk_at "x2"; (with_reducible refine gos_seq ?_); (with_reducible refine gos_if ?_); (with_reducible refine got_test ?_); (with_reducible refine go_op ?_); (with_reducible refine go_op ?_); (with_reducible refine go_op ?_); walk_at "x3"; (with_reducible refine go_op ?_); (with_reducible refine go_int ?_); walk_at "x3"; walk_at "x0"; (with_reducible refine o2_add ?_); walk_at "x0"; walk_at "x10"; (with_reducible refine go_int ?_); walk_at "x0"; walk_at "x4"; (with_reducible refine go_int ?_); walk_at "x0"; (with_reducible refine o2_eqI ?_); walk_at "x5"; walk_at "x12"; (with_reducible refine gos_asg ?_); (with_reducible refine go_op ?_); (with_reducible refine go_op ?_); (with_reducible refine go_op ?_); (with_reducible refine go_op ?_); (with_reducible refine go_op ?_); walk_at "x3"; (with_reducible refine go_op ?_); (with_reducible refine go_int ?_); walk_at "x3"; walk_at "x0"; (with_reducible refine o2_add ?_); walk_at "x0"; walk_at "x10"; (with_reducible refine go_int ?_); walk_at "x0"; (focus skip); rotate_left; (with_reducible refine gos_next ?_); walk_at "x7"; walk_at "x3"; walk_at "x5"; walk_at "x0"; (focus skip); rotate_left)
    · refine o2_pow ⟨by decide, by decide, by omega⟩ ?_
      ((with_reducible refine go_int ?_); walk_at "x0"; walk_at "x6"; (with_reducible refine go_op ?_); (with_reducible refine go_op ?_); (with_reducible refine go_int ?_); (with_reducible refine go_op ?_); (with_reducible refine go_int ?_); (with_reducible refine go_int ?_); walk_at "x0"; walk_at "x13"; walk_at "x0"; walk_at "x6"; (with_reducible refine go_int ?_); walk_at "x0"; (with_reducible refine o2_sub ?_); walk_at "x0"; walk_at "x4"; (with_reducible refine go_op ?_); (with_reducible refine go_op ?_); (with_reducible refine go_int ?_); (with_reducible refine go_int ?_); walk_at "x0"; walk_at "x13"; (with_reducible refine go_int ?_); walk_at "x0"; (with_reducible refine o2_sub ?_); walk_at "x0"; (with_reducible refine o2_sub ?_); walk_at "x2"; walk_at "x7"; walk_at "x3"; walk_at "x5"; walk_at "x0"; (focus skip); rotate_left)
      refine ⟨by simp; omega, ?_⟩
      rw [List.range_succ, List.map_append, List.map_append, List.map_append, List.map_cons, List.map_nil, ky (by assumption)]
      exact ⟨_, _, rfl⟩
    · refine ⟨by simp; omega, ?_⟩
      rw [List.range_succ, List.map_append, List.map_append, List.map_append, List.map_cons, List.map_nil, kn (by assumption)]
      exact ⟨_, _, rfl⟩
  · rintro _ ⟨a3, a4, rfl⟩
    rw [rngD_len]
    ((with_reducible refine gos_ret ?_); (with_reducible refine go_sortSet ?_); walk_at "x8"; walk_at "x5"; (focus skip); rotate_left)
    refine ⟨by rw [List.length_map, List.length_range]; omega, fun ms h1 h2 => ?_⟩
    rw [sset_same h1 h2]
    rfl
theorem cal__law_cell_at (D : Df K mg "_law_cell_at" s__law_cell_at) {a_SkewError a_NoLevel a_NoHistory a_WHYS a_Loose a_Kept a_Make a_Watch a_Hold : Addr} (XX : XF K mg a_SkewError a_NoLevel a_NoHistory a_WHYS a_Loose a_Kept a_Make a_Watch a_Hold) (b_len : mg "len" = none) : Cal P w K mg base "_law_cell_at" 1 ["_law_script", "_law_k"] (C__law_cell_at mg) := by
  obtain ⟨f, fd, F, mf⟩ := D
  refine ⟨f, fd, ?_, mf, F.kp, F.binds (ps := ["_law_script", "_law_k"]) fun _ _ _ _ _ _ us hl => match us, hl with | [_, _], _ => rfl, Fun.lk F⟩
  refine F.ok sc__law_cell_at (fun vs H Q E hS0 => spP_len (n := 2) (fun xs p q c0 => by unfold C__law_cell_at at c0; obtain ⟨_, _, rfl, _⟩ := c0; rfl) hS0) (fun cdv A outer s H vs Q E hr hS0 => ?_)
  have hu := hu_of hr
  refine sp_body hS0 (fun B xs p q c0 hl0 wx => ?_)
  obtain ⟨ns, k, rfl, hp0, rfl, rfl⟩ := c0
  refine ⟨_, (pss_cons (ps_if (pt_cmpR (k_lt (K := K) rfl hr.units0) (pv 1) (pe_callB (k_len (K := K) rfl) (by rfl) b_len (by decide +kernel) (pa_cons (pv 0) pa_nil)) (nomark _))
        (pss_one (ps_ret (pe_ix (k_ix (K := K) rfl hu) (pv 0) (pv 1) (fun _ _ => rfl))))
        pss_nil)
      (pss_one (ps_ret pe_int))), ?_⟩
  clear hS0 hl0 hr hu wx b_len
  have X_r_WHYS := XX.r_WHYS
  have X_g_Loose := XX.g_Loose
  have X_R_Loose := XX.R_Loose
  have X_g_Kept := XX.g_Kept
  have X_R_Kept := XX.R_Kept
  have X_g_Make := XX.g_Make
  have X_R_Make := XX.R_Make
  have X_g_Watch := XX.g_Watch
  have X_R_Watch := XX.R_Watch
  have X_g_Hold := XX.g_Hold
  have X_R_Hold := XX.R_Hold
  simp only [List.map_cons, List.map_nil, List.length_cons, List.length_nil, List.cons_append, List.nil_append, Nat.reduceAdd, Nat.reduceSub, List.replicate_succ, List.replicate_zero, N__law_cell_at]
  ((with_reducible refine gos_sIR ?_); (with_reducible refine gos_if ?_); (with_reducible refine got_test ?_); (with_reducible refine go_op ?_); walk_at "x3"; (with_reducible refine go_cb ?_); (with_reducible refine goa_cons ?_); walk_at "x3"; (with_reducible refine goa_nil ?_); walk_at "x14"; walk_at "x0"; (with_reducible refine o2_lt ?_); walk_at "x5"; walk_at "x12"; (with_reducible refine gos_ret ?_); (with_reducible refine go_op ?_); walk_at "x3"; walk_at "x3"; walk_at "x0"; (focus skip); rotate_left; (with_reducible refine gos_next ?_); (with_reducible refine gos_ret ?_); (with_reducible refine go_int ?_); walk_at "x0"; (focus skip); rotate_left)
  · rename_i hc
    have hk : k.toNat < ns.length := by simp only [List.length_map] at hc; omega
    refine o2_ixN (0 : Int) rfl hp0 (by simpa using hc) ?_
    rfl
  · rename_i hc
    have hk : ns.length ≤ k.toNat := by simp only [List.length_map] at hc; omega
    unfold cellN
    rw [List.getD_eq_getElem?_getD, List.getElem?_eq_none hk]; rfl
theorem cal__law_times (D : Df K mg "_law_times" s__law_times) {a_SkewError a_NoLevel a_NoHistory a_WHYS a_Loose a_Kept a_Make a_Watch a_Hold : Addr} (XX : XF K mg a_SkewError a_NoLevel a_NoHistory a_WHYS a_Loose a_Kept a_Make a_Watch a_Hold) (b_range : mg "range" = none) : Cal P w K mg base "_law_times" 1 ["_law_xs", "_law_end"] (C__law_times mg) := by
  obtain ⟨f, fd, F, mf⟩ := D
  refine ⟨f, fd, ?_, mf, F.kp, F.binds (ps := ["_law_xs", "_law_end"]) fun _ _ _ _ _ _ us hl => match us, hl with | [_, _], _ => rfl, Fun.lk F⟩
  refine F.ok sc__law_times (fun vs H Q E hS0 => spP_len (n := 2) (fun xs p q c0 => by unfold C__law_times at c0; obtain ⟨_, _, rfl, _⟩ := c0; rfl) hS0) (fun cdv A outer s H vs Q E hr hS0 => ?_)
  have hu := hu_of hr
  refine sp_body hS0 (fun B xs p q c0 hl0 wx => ?_)
  obtain ⟨xs, e, rfl, hp0, hp1, rfl, rfl⟩ := c0
  refine ⟨_, (pss_cons (ps_asg (pe_op op_modG (pe_ix (k_ix (K := K) rfl hu) (pv 0) pe_int (fun _ _ => rfl)) pe_int) (pg_name (i := 2) sc__law_times.nd rfl (by first | exact Or.inl rfl | exact Or.inr rfl)))
      (pss_cons (ps_if (pt_cmpR (k_eq (K := K) rfl hr.units) (pe_op op_modG (pe_ix (k_ix (K := K) rfl hu) (pv 0) pe_int (fun _ _ => rfl)) pe_int) pe_int (nomark _))
        (pss_one (ps_ret (pe_op op_mulG (pe_lst (pa_cons (pv 1) pa_nil)) (pv 2))))
        pss_nil)
      (pss_cons (ps_if (pt_cmpR (k_eq (K := K) rfl hr.units) (pe_op op_modG (pe_ix (k_ix (K := K) rfl hu) (pv 0) pe_int (fun _ _ => rfl)) pe_int) pe_int (nomark _))
        (pss_one (ps_ret (pe_op op_mulG (pe_lst (pa_cons (pe_op op_subG (pv 1) (pe_op op_modG (pe_ix (k_ix (K := K) rfl hu) (pv 0) pe_int (fun _ _ => rfl)) pe_int)) pa_nil)) (pv 2))))
        pss_nil)
      (pss_cons (ps_if (pt_cmpR (k_eq (K := K) rfl hr.units) (pe_op op_modG (pe_ix (k_ix (K := K) rfl hu) (pv 0) pe_int (fun _ _ => rfl)) pe_int) pe_int (nomark _))
        (pss_one (ps_ret (pe_lc (own := [("_law_j", 3)]) rfl sc__law_times.nd (pi_range1 (by rfl) b_range (pa_cons (pv 2) pa_nil)) (blkOk_by (N := N__law_times) (sc := defScope s__law_times) (by decide +kernel)) (fun _ _ _ _ _ => (pg_name (i := 3) sc__law_times.nd rfl (by first | exact Or.inl rfl | exact Or.inr rfl))) (fun _ _ _ _ _ => pts_nil) (fun _ _ _ _ _ => (pe_op op_subG (pv 1) (pe_op op_mulG (pe_op op_subG (pv 2) (pv 3)) (pe_op op_modG (pe_ix (k_ix (K := K) rfl hu) (pv 0) pe_int (fun _ _ => rfl)) pe_int)))))))
        pss_nil)
      (pss_one (ps_ret (pe_lc (own := [("_law_j", 3)]) rfl sc__law_times.nd (pi_range1 (by rfl) b_range (pa_cons (pv 2) pa_nil)) (blkOk_by (N := N__law_times) (sc := defScope s__law_times) (by decide +kernel)) (fun _ _ _ _ _ => (pg_name (i := 3) sc__law_times.nd rfl (by first | exact Or.inl rfl | exact Or.inr rfl))) (fun _ _ _ _ _ => pts_nil) (fun _ _ _ _ _ => (pe_op op_modG (pe_op op_divG (pe_ix (k_ix (K := K) rfl hu) (pv 0) (pe_op (k_add (K := K) rfl) pe_int (pv 3)) (fun _ _ => rfl)) pe_int) pe_int))))))))), ?_⟩
  clear hS0 hl0 hr hu wx b_range
  have X_r_WHYS := XX.r_WHYS
  have X_g_Loose := XX.g_Loose
  have X_R_Loose := XX.R_Loose
  have X_g_Kept := XX.g_Kept
  have X_R_Kept := XX.R_Kept
  have X_g_Make := XX.g_Make
  have X_R_Make := XX.R_Make
  have X_g_Watch := XX.g_Watch
  have X_R_Watch := XX.R_Watch
  have X_g_Hold := XX.g_Hold
  have X_R_Hold := XX.R_Hold
  simp only [List.map_cons, List.map_nil, List.length_cons, List.length_nil, List.cons_append, List.nil_append, Nat.reduceAdd, Nat.reduceSub, List.replicate_succ, List.replicate_zero, N__law_times]
  have hl := hp0
  have b2 := hp1 2
  have b3 := hp1 3
  have b7 := hp1 7
  have b8 := hp1 8
  have rep : ∀ (n : Nat) (x : Int), (List.replicate n [D.int x]).flatten = (List.replicate n x).map D.int := fun n x => by
    induction n with
    | zero => rfl
    | succ n ih => rw [List.replicate_succ, List.flatten_cons, ih, List.replicate_succ]; rfl
  have hm : (at0 xs 2 % 4).toNat ≤ 3 := by omega
  ((with_reducible refine gos_sA ?_); (with_reducible refine gos_asg ?_); (with_reducible refine go_op ?_); (with_reducible refine go_op ?_); walk_at "x3"; (with_reducible refine go_int ?_); walk_at "x0"; walk_at "x10"; (with_reducible refine go_int ?_); walk_at "x0"; walk_at "x4"; walk_at "x2"; (with_reducible refine gos_sIR ?_); (with_reducible refine gos_if ?_); (with_reducible refine got_test ?_); (with_reducible refine go_op ?_); (with_reducible refine go_op ?_); (with_reducible refine go_op ?_); walk_at "x3"; (with_reducible refine go_int ?_); walk_at "x0"; walk_at "x10"; (with_reducible refine go_int ?_); walk_at "x0"; walk_at "x4"; (with_reducible refine go_int ?_); walk_at "x0"; (with_reducible refine o2_eqI ?_); walk_at "x5"; walk_at "x12"; (with_reducible refine gos_ret ?_); (with_reducible refine go_op ?_); (with_reducible refine go_lst ?_); (with_reducible refine goa_cons ?_); walk_at "x3"; (with_reducible refine goa_nil ?_); walk_at "x0"; walk_at "x1"; walk_at "x3"; walk_at "x0"; (focus skip); rotate_left; (with_reducible refine gos_next ?_); (with_reducible refine gos_sIR ?_); (with_reducible refine gos_if ?_); (with_reducible refine got_test ?_); (with_reducible refine go_op ?_); (with_reducible refine go_op ?_); (with_reducible refine go_op ?_); walk_at "x3"; (with_reducible refine go_int ?_); walk_at "x0"; walk_at "x10"; (with_reducible refine go_int ?_); walk_at "x0"; walk_at "x4"; (with_reducible refine go_int ?_); walk_at "x0"; (with_reducible refine o2_eqI ?_); walk_at "x5"; walk_at "x12"; (with_reducible refine gos_ret ?_); (with_reducible refine go_op ?_); (with_reducible refine go_lst ?_); (with_reducible refine goa_cons ?_); (with_reducible refine go_op ?_); walk_at "x3"; (with_reducible refine go_op ?_); (with_reducible refine go_op ?_); walk_at "x3"; (with_reducible refine go_int ?_); walk_at "x0"; walk_at "x10"; (with_reducible refine go_int ?_); walk_at "x0"; walk_at "x4"; walk_at "x0"; (with_reducible refine o2_sub ?_); (with_reducible refine goa_nil ?_); walk_at "x0"; walk_at "x1"; walk_at "x3"; walk_at "x0"; (focus skip); rotate_left; (with_reducible refine gos_next ?_); (with_reducible refine gos_sIR ?_); (with_reducible refine gos_if ?_); (with_reducible refine got_test ?_); (with_reducible refine go_op ?_); (with_reducible refine go_op ?_); (with_reducible refine go_op ?_); walk_at "x3"; (with_reducible refine go_int ?_); walk_at "x0"; walk_at "x10"; (with_reducible refine go_int ?_); walk_at "x0"; walk_at "x4"; (with_reducible refine go_int ?_); walk_at "x0"; (with_reducible refine o2_eqI ?_); walk_at "x5"; walk_at "x12"; (with_reducible refine gos_ret ?_); walk_at "x0"; (focus skip); rotate_left; (with_reducible refine gos_next ?_); (with_reducible refine gos_ret ?_); walk_at "x0"; (focus skip); rotate_left)
  · refine o2_rep (by omega) (by omega) (by simp; omega) ?_
    rw [rep]; unfold timesF; rw [if_pos (by assumption)]
  · refine o2_rep (by omega) (by omega) (by simp; omega) ?_
    rw [rep]; unfold timesF; rw [if_neg (by assumption), if_pos (by assumption)]
  · refine go_lcR1 (fun j => .int (e - (at0 xs 2 % 4 - j) * (at0 xs 7 % 150))) ?_
    ((with_reducible refine goa_cons ?_); walk_at "x3"; (with_reducible refine goa_nil ?_); walk_at "x5"; walk_at "x1"; walk_at "x0"; walk_at "x1"; walk_at "x1"; (focus skip); rotate_left)
    refine ⟨trivial, fun j acc h0 h1 => ?_, ?_⟩
    · ((with_reducible refine go_op ?_); walk_at "x3"; (with_reducible refine go_op ?_); (with_reducible refine go_op ?_); walk_at "x3"; walk_at "x3"; walk_at "x0"; (with_reducible refine o2_sub ?_); (with_reducible refine go_op ?_); (with_reducible refine go_op ?_); walk_at "x3"; (with_reducible refine go_int ?_); walk_at "x0"; walk_at "x10"; (with_reducible refine go_int ?_); walk_at "x0"; walk_at "x4"; walk_at "x0"; walk_at "x6"; walk_at "x0"; (with_reducible refine o2_sub ?_); walk_at "x0"; (focus skip); rotate_left)
      exact ⟨trivial, rfl⟩
    · have hn : (((at0 xs 2 % 4).toNat : Nat) : Int) = at0 xs 2 % 4 := by omega
      unfold timesF; rw [if_neg (by assumption), if_neg (by assumption), if_pos (by assumption)]
      simp only [hn, List.map_map]; rfl
  · refine go_lcR1 (fun j => .int (at0 xs (4 + j) / 8 % 1300)) ?_
    ((with_reducible refine goa_cons ?_); walk_at "x3"; (with_reducible refine goa_nil ?_); walk_at "x5"; walk_at "x1"; walk_at "x0"; walk_at "x1"; walk_at "x1"; (focus skip); rotate_left)
    refine ⟨trivial, fun j acc h0 h1 => ?_, ?_⟩
    · ((with_reducible refine go_op ?_); (with_reducible refine go_op ?_); (with_reducible refine go_op ?_); walk_at "x3"; (with_reducible refine go_op ?_); (with_reducible refine go_int ?_); walk_at "x3"; walk_at "x0"; (with_reducible refine o2_add ?_); walk_at "x0"; walk_at "x10"; (with_reducible refine go_int ?_); walk_at "x0"; walk_at "x11"; (with_reducible refine go_int ?_); walk_at "x0"; walk_at "x4"; walk_at "x0"; (focus skip); rotate_left)
      exact ⟨trivial, rfl⟩
    · unfold timesF; rw [if_neg (by assumption), if_neg (by assumption), if_neg (by assumption)]
      simp only [List.map_map]; rfl
theorem cal__law_drawn (D : Df K mg "_law_drawn" s__law_drawn) {a_SkewError a_NoLevel a_NoHistory a_WHYS a_Loose a_Kept a_Make a_Watch a_Hold : Addr} (XX : XF K mg a_SkewError a_NoLevel a_NoHistory a_WHYS a_Loose a_Kept a_Make a_Watch a_Hold) (c__law_stream : Cal P w K mg base "_law_stream" 1 ["_law_cell", "_law_many_here"] (C__law_stream mg)) (c__law_cell_at : Cal P w K mg base "_law_cell_at" 1 ["_law_script", "_law_k"] (C__law_cell_at mg)) (c__law_times : Cal P w K mg base "_law_times" 1 ["_law_xs", "_law_end"] (C__law_times mg)) (b_range : mg "range" = none) : Cal P w K mg base "_law_drawn" 2 ["_law_script"] (C__law_drawn mg) := by
  obtain ⟨f, fd, F, mf⟩ := D
  obtain ⟨f__law_stream, fd__law_stream, G__law_stream, g__law_stream, k__law_stream, bn__law_stream, _⟩ := c__law_stream
  obtain ⟨f__law_cell_at, fd__law_cell_at, G__law_cell_at, g__law_cell_at, k__law_cell_at, bn__law_cell_at, _⟩ := c__law_cell_at
  obtain ⟨f__law_times, fd__law_times, G__law_times, g__law_times, k__law_times, bn__law_times, _⟩ := c__law_times
  refine ⟨f, fd, ?_, mf, F.kp, F.binds (ps := ["_law_script"]) fun _ _ _ _ _ _ us hl => match us, hl with | [_], _ => rfl, Fun.lk F⟩
  refine F.ok sc__law_drawn (fun vs H Q E hS0 => spP_len (n := 1) (fun xs p q c0 => by unfold C__law_drawn at c0; obtain ⟨_, rfl, _⟩ := c0; rfl) hS0) (fun cdv A outer s H vs Q E hr hS0 => ?_)
  have hu := hu_of hr
  refine sp_body hS0 (fun B xs p q c0 hl0 wx => ?_)
  obtain ⟨ns, rfl, hp0, rfl, rfl⟩ := c0
  refine ⟨_, (pss_cons (ps_asg (pe_lst pa_nil) (pg_name (i := 1) sc__law_drawn.nd rfl (by first | exact Or.inl rfl | exact Or.inr rfl)))
      (pss_cons (ps_for PassesOwn.never rfl (pi_range2 (by rfl) b_range (pa_cons pe_int (pa_cons pe_int pa_nil))) (pg_name (i := 2) sc__law_drawn.nd rfl (by first | exact Or.inl rfl | exact Or.inr rfl))
        (pss_one (ps_if (pt_cmpR (k_eq (K := K) rfl hr.units) (pe_op op_andG (pe_op op_shrG (pe_op op_modG (pe_call G__law_cell_at hr rfl g__law_cell_at k__law_cell_at bn__law_cell_at .nil pass0 (pa_cons (pv 0) (pa_cons pe_int pa_nil))) pe_int) (pe_op op_subG (pv 2) pe_int)) pe_int) pe_int (nomark _))
          (pss_cons (ps_asg (pe_call G__law_stream hr rfl g__law_stream k__law_stream bn__law_stream .nil pass0 (pa_cons (pe_op (k_add (K := K) rfl) (pe_call G__law_cell_at hr rfl g__law_cell_at k__law_cell_at bn__law_cell_at .nil pass0 (pa_cons (pv 0) (pa_cons (pe_op (k_add (K := K) rfl) pe_int (pv 2)) pa_nil))) (pe_op op_mulG pe_int (pv 2))) (pa_cons pe_int pa_nil))) (pg_name (i := 3) sc__law_drawn.nd rfl (by first | exact Or.inl rfl | exact Or.inr rfl)))
          (pss_cons (ps_asg (pe_op (k_add (K := K) rfl) (pe_op op_mulG pe_int (pe_op op_modG (pe_ix (k_ix (K := K) rfl hu) (pv 3) pe_int (fun _ _ => rfl)) pe_int)) (pv 2)) (pg_name (i := 4) sc__law_drawn.nd rfl (by first | exact Or.inl rfl | exact Or.inr rfl)))
          (pss_cons (ps_asg (pe_ix (k_ix (K := K) rfl hu) (pe_lst (pa_cons pe_str (pa_cons pe_str (pa_cons pe_str (pa_cons pe_str (pa_cons pe_str pa_nil)))))) (pe_op op_modG (pe_ix (k_ix (K := K) rfl hu) (pv 3) pe_int (fun _ _ => rfl)) pe_int) (fun _ _ => rfl)) (pg_name (i := 5) sc__law_drawn.nd rfl (by first | exact Or.inl rfl | exact Or.inr rfl)))
          (pss_one (ps_expr (k_bm (K := K) rfl (pe_bm PySem.F.plainAttrs_list PySem.F.slot_list_append PySem.F.type_list_append mt_append (pv 1) (pa_cons (pe_tup (pa_cons (pv 2) (pa_cons (pv 5) (pa_cons (pv 4) (pa_cons (pe_call G__law_times hr rfl g__law_times k__law_times bn__law_times .nil pass0 (pa_cons (pv 3) (pa_cons (pv 4) pa_nil))) (pa_cons (pe_lst (pa_cons (pe_ix (k_ix (K := K) rfl hu) (pv 3) pe_int (fun _ _ => rfl)) (pa_cons (pe_ix (k_ix (K := K) rfl hu) (pv 3) pe_int (fun _ _ => rfl)) (pa_cons (pe_ix (k_ix (K := K) rfl hu) (pv 3) pe_int (fun _ _ => rfl)) pa_nil)))) (pa_cons (pe_ix (k_ix (K := K) rfl hu) (pv 3) pe_int (fun _ _ => rfl)) pa_nil))))))) pa_nil))))))))
          pss_nil)))
      (pss_one (ps_ret (pe_mv (pv 1)))))), ?_⟩
  clear hS0 hl0 hr hu wx G__law_stream g__law_stream k__law_stream bn__law_stream G__law_cell_at g__law_cell_at k__law_cell_at bn__law_cell_at G__law_times g__law_times k__law_times bn__law_times b_range
  have X_r_WHYS := XX.r_WHYS
  have X_g_Loose := XX.g_Loose
  have X_R_Loose := XX.R_Loose
  have X_g_Kept := XX.g_Kept
  have X_R_Kept := XX.R_Kept
  have X_g_Make := XX.g_Make
  have X_R_Make := XX.R_Make
  have X_g_Watch := XX.g_Watch
  have X_R_Watch := XX.R_Watch
  have X_g_Hold := XX.g_Hold
  have X_R_Hold := XX.R_Hold
  simp only [List.map_cons, List.map_nil, List.length_cons, List.length_nil, List.cons_append, List.nil_append, Nat.reduceAdd, Nat.reduceSub, List.replicate_succ, List.replicate_zero, N__law_drawn]
  ((with_reducible refine gos_sA ?_); (with_reducible refine gos_asg ?_); (with_reducible refine go_lst ?_); (with_reducible refine goa_nil ?_); walk_at "x0"; walk_at "x1"; walk_at "x2"; (with_reducible refine gos_sF ?_); (with_reducible refine gos_for ?_); (with_reducible refine goi_rng2 ?_); (with_reducible refine goa_cons ?_); (with_reducible refine go_int ?_); (with_reducible refine goa_cons ?_); (with_reducible refine go_int ?_); (with_reducible refine goa_nil ?_); walk_at "x0"; walk_at "x9"; walk_at "x1"; (focus skip); rotate_left)
  refine ⟨fun i Γ' => ∃ a2 a3 a4 a5, Γ' = [some (O.d (.sq (ns.map D.int))), some (O.ol (((drawnI ns i).map drD).map O.d)), a2, a3, a4, a5], ⟨_, _, _, _, rfl⟩, ?_, ?_⟩
  · rintro i d _ hd ⟨a2, a3, a4, a5, rfl⟩
    obtain ⟨hi, rfl⟩ := rngD_get hd
    have hi8 : i < 8 := hi
    have hl : (drawnI ns i).length ≤ i := by
      unfold drawnI; rw [List.length_map]; exact Nat.le_trans (List.length_filter_le _ _) (by simp)
    have hy := fun (h : drHas ns (1 + (i : Int)) = true) => (show drawnI ns (i + 1) = drawnI ns i ++ [dr1 ns (1 + (i : Int))] by
      unfold drawnI; rw [List.range_succ, List.filter_append, List.map_append]; simp [h])
    have hn := fun (h : drHas ns (1 + (i : Int)) = false) => (show drawnI ns (i + 1) = drawnI ns i by
      unfold drawnI; rw [List.range_succ, List.filter_append, List.map_append]; simp [h])
    have bd : ∀ j, 0 ≤ at0 (strm (cellN ns (1 + (1 + (i : Int))) + 7919 * (1 + (i : Int))) 10) j ∧ at0 (strm (cellN ns (1 + (1 + (i : Int))) + 7919 * (1 + (i : Int))) 10) j < 2147483647 := fun j => at0_bd
    have bd0 := bd 0
    have bd1 := bd 1
    (walk_at "x2"; (with_reducible refine gos_if ?_); (with_reducible refine got_test ?_); (with_reducible refine go_op ?_); (with_reducible refine go_op ?_); (with_reducible refine go_op ?_); (with_reducible refine go_op ?_); (with_reducible refine call__law_cell_at ?_); (with_reducible refine goa_cons ?_); walk_at "x3"; (with_reducible refine goa_cons ?_); (with_reducible refine go_int ?_); (with_reducible refine goa_nil ?_); walk_at "x0"; walk_at "x9"; walk_at "x1"; (with_reducible refine go_int ?_); walk_at "x0"; walk_at "x4"; (with_reducible refine go_op ?_); walk_at "x3"; (with_reducible refine go_int ?_); walk_at "x0"; (with_reducible refine o2_sub ?_); walk_at "x0"; (focus skip); rotate_left)
    refine o2_shr (by omega) ?_
    ((with_reducible refine go_int ?_); walk_at "x0"; (focus skip); rotate_left)
    refine o2_and ?_
    ((with_reducible refine go_int ?_); walk_at "x0"; (with_reducible refine o2_eqI ?_); walk_at "x5"; walk_at "x12"; (with_reducible refine gos_sA ?_); (with_reducible refine gos_asg ?_); walk_at "x0"; (with_reducible refine call__law_stream ?_); (with_reducible refine goa_cons ?_); (with_reducible refine go_op ?_); (with_reducible refine call__law_cell_at ?_); (with_reducible refine goa_cons ?_); walk_at "x3"; (with_reducible refine goa_cons ?_); (with_reducible refine go_op ?_); (with_reducible refine go_int ?_); walk_at "x3"; walk_at "x0"; (with_reducible refine o2_add ?_); (with_reducible refine goa_nil ?_); walk_at "x0"; walk_at "x9"; walk_at "x1"; (with_reducible refine go_op ?_); (with_reducible refine go_int ?_); walk_at "x3"; walk_at "x0"; walk_at "x6"; walk_at "x0"; (with_reducible refine o2_add ?_); (with_reducible refine goa_cons ?_); (with_reducible refine go_int ?_); (with_reducible refine goa_nil ?_); walk_at "x0"; walk_at "x9"; walk_at "x1"; walk_at "x1"; walk_at "x2"; (with_reducible refine gos_sA ?_); (with_reducible refine gos_asg ?_); (with_reducible refine go_op ?_); (with_reducible refine go_op ?_); (with_reducible refine go_int ?_); (with_reducible refine go_op ?_); (with_reducible refine go_op ?_); walk_at "x3"; (with_reducible refine go_int ?_); walk_at "x0"; walk_at "x10"; (with_reducible refine go_int ?_); walk_at "x0"; walk_at "x4"; walk_at "x0"; walk_at "x6"; walk_at "x3"; walk_at "x0"; (with_reducible refine o2_add ?_); walk_at "x2"; (with_reducible refine gos_sA ?_); (with_reducible refine gos_asg ?_); (with_reducible refine go_op ?_); (with_reducible refine go_lst ?_); (with_reducible refine goa_cons ?_); (with_reducible refine go_str ?_); (with_reducible refine goa_cons ?_); (with_reducible refine go_str ?_); (with_reducible refine goa_cons ?_); (with_reducible refine go_str ?_); (with_reducible refine goa_cons ?_); (with_reducible refine go_str ?_); (with_reducible refine goa_cons ?_); (with_reducible refine go_str ?_); (with_reducible refine goa_nil ?_); walk_at "x0"; walk_at "x1"; (with_reducible refine go_op ?_); (with_reducible refine go_op ?_); walk_at "x3"; (with_reducible refine go_int ?_); walk_at "x0"; walk_at "x10"; (with_reducible refine go_int ?_); walk_at "x0"; walk_at "x4"; walk_at "x0"; walk_at "x10"; walk_at "x2"; walk_at "x7"; (with_reducible refine go_tup ?_); (with_reducible refine goa_cons ?_); walk_at "x3"; (with_reducible refine goa_cons ?_); walk_at "x3"; (with_reducible refine goa_cons ?_); walk_at "x3"; (with_reducible refine goa_cons ?_); walk_at "x0"; (with_reducible refine call__law_times ?_); (with_reducible refine goa_cons ?_); walk_at "x3"; (with_reducible refine goa_cons ?_); walk_at "x3"; (with_reducible refine goa_nil ?_); walk_at "x0"; walk_at "x9"; walk_at "x1"; walk_at "x1"; (with_reducible refine goa_cons ?_); (with_reducible refine go_lst ?_); (with_reducible refine goa_cons ?_); (with_reducible refine go_op ?_); walk_at "x3"; (with_reducible refine go_int ?_); walk_at "x0"; walk_at "x10"; (with_reducible refine goa_cons ?_); (with_reducible refine go_op ?_); walk_at "x3"; (with_reducible refine go_int ?_); walk_at "x0"; walk_at "x10"; (with_reducible refine goa_cons ?_); (with_reducible refine go_op ?_); walk_at "x3"; (with_reducible refine go_int ?_); walk_at "x0"; walk_at "x10"; (with_reducible refine goa_nil ?_); walk_at "x0"; walk_at "x1"; (with_reducible refine goa_cons ?_); (with_reducible refine go_op ?_); walk_at "x3"; (with_reducible refine go_int ?_); walk_at "x0"; walk_at "x10"; (with_reducible refine goa_nil ?_); walk_at "x0"; walk_at "x1"; walk_at "x5"; (focus skip); rotate_left; (with_reducible refine gos_next ?_); walk_at "x0"; (focus skip); rotate_left)
    all_goals first
      | (refine ⟨by simp; omega, ?_⟩
         rw [hy (decide_eq_true (by assumption)), List.map_append, List.map_append]
         exact ⟨_, _, _, _, rfl⟩)
      | (rw [hn (decide_eq_false (by assumption))]; exact ⟨_, _, _, _, rfl⟩)
      | trace_state
  · rintro _ ⟨a2, a3, a4, a5, rfl⟩
    ((with_reducible refine gos_ret ?_); walk_at "x15"; (focus skip); rotate_left)
    (focus (rfl))
theorem cal__law_spoiled (D : Df K mg "_law_spoiled" s__law_spoiled) {a_SkewError a_NoLevel a_NoHistory a_WHYS a_Loose a_Kept a_Make a_Watch a_Hold : Addr} (XX : XF K mg a_SkewError a_NoLevel a_NoHistory a_WHYS a_Loose a_Kept a_Make a_Watch a_Hold) (c__law_stream : Cal P w K mg base "_law_stream" 1 ["_law_cell", "_law_many_here"] (C__law_stream mg)) (b_len : mg "len" = none) (b_sorted : mg "sorted" = none) : CalO P w K mg base "_law_spoiled" 2 ["_law_deals", "_law_makes", "_law_cell"] (C__law_spoiled mg) := by
  obtain ⟨f, fd, F, mf⟩ := D
  obtain ⟨f__law_stream, fd__law_stream, G__law_stream, g__law_stream, k__law_stream, bn__law_stream, _⟩ := c__law_stream
  refine ⟨f, fd, ?_, mf, F.kp, F.binds (ps := ["_law_deals", "_law_makes", "_law_cell"]) fun _ _ _ _ _ _ us hl => match us, hl with | [_, _, _], _ => rfl, Fun.lk F⟩
  refine F.ok sc__law_spoiled (fun vs H Q E hS0 => spO_len (n := 3) (fun os p q c0 => by unfold C__law_spoiled at c0; obtain ⟨_, _, _, _, _, rfl, _⟩ := c0; rfl) hS0) (fun cdv A outer s H vs Q E hr hS0 => ?_)
  have hu := hu_of hr
  refine spO_body hS0 (fun F B os p q c0 hl0 wx => ?_)
  obtain ⟨ad, am, ds, mk, c, rfl, hp0, hp1, hp2, hp3, hp4, hp5, rfl, rfl⟩ := c0
  refine ⟨_, (pss_cons (ps_asg (pe_call G__law_stream hr rfl g__law_stream k__law_stream bn__law_stream .nil pass0 (pa_cons (pv 2) (pa_cons pe_int pa_nil))) (pg_name (i := 3) sc__law_spoiled.nd rfl (by first | exact Or.inl rfl | exact Or.inr rfl)))
      (pss_cons (ps_asg (pe_lendV (pe_ix (k_ix (K := K) rfl hu) (pv 0) (pe_op op_modG (pe_ix (k_ix (K := K) rfl hu) (pv 3) pe_int (fun _ _ => rfl)) (pe_callB (k_len (K := K) rfl) (by rfl) b_len (by decide +kernel) (pa_cons (pv 0) pa_nil))) (fun _ _ => rfl))) (k_tup (K := K) (n := 3) rfl (by rfl) (pgs_cons (pg_name (i := 4) sc__law_spoiled.nd rfl (by first | exact Or.inl rfl | exact Or.inr rfl)) (pgs_cons (pg_name (i := 5) sc__law_spoiled.nd rfl (by first | exact Or.inl rfl | exact Or.inr rfl)) (pgs_cons (pg_name (i := 6) sc__law_spoiled.nd rfl (by first | exact Or.inl rfl | exact Or.inr rfl)) pgs_nil)))))
      (pss_one (ps_if (pt_lendV (PW.pt (pw_and (pt_cmpR (k_eq (K := K) rfl hr.units) (pe_op op_modG (pe_ix (k_ix (K := K) rfl hu) (pv 3) pe_int (fun _ _ => rfl)) pe_int) pe_int (nomark _)) (pw_and1 (pt_cmpR (k_neK hr.units) (pv 1) pe_dnewK (nomark _))))))
        (pss_cons (ps_asg (pe_lendV (pe_ix (k_ix (K := K) rfl hu) (pv 1) (pe_ix (k_ix (K := K) rfl hu) (pe_callB (k_sort (K := K) rfl rfl) (by rfl) b_sorted (by decide +kernel) (pa_cons (pv 1) pa_nil)) (pe_op op_modG (pe_ix (k_ix (K := K) rfl hu) (pv 3) pe_int (fun _ _ => rfl)) (pe_callB (k_len (K := K) rfl) (by rfl) b_len (by decide +kernel) (pa_cons (pv 1) pa_nil))) (fun _ _ => rfl)) (fun _ _ => rfl))) (pg_name (i := 7) sc__law_spoiled.nd rfl (by first | exact Or.inl rfl | exact Or.inr rfl)))
        (pss_one (ps_if (pt_lendV (pt_cmpR op_gtG (pe_callB (k_len (K := K) rfl) (by rfl) b_len (by decide +kernel) (pa_cons (pv 7) pa_nil)) pe_int (nomark _)))
          (pss_cons (ps_asg (k_bm (K := K) rfl (pe_bm PySem.F.plainAttrs_list PySem.F.slot_list_pop PySem.F.type_list_pop mt_popAt (pv 7) (pa_cons (pe_op (k_add (K := K) rfl) pe_int (pe_op op_modG (pe_ix (k_ix (K := K) rfl hu) (pv 3) pe_int (fun _ _ => rfl)) (pe_op op_subG (pe_callB (k_len (K := K) rfl) (by rfl) b_len (by decide +kernel) (pa_cons (pv 7) pa_nil)) pe_int))) pa_nil))) (pg_name (i := 8) sc__law_spoiled.nd rfl (by first | exact Or.inl rfl | exact Or.inr rfl)))
          (pss_one (ps_expr (k_bm (K := K) rfl (pe_bm PySem.F.plainAttrs_list PySem.F.slot_list_insert PySem.F.type_list_insert mt_insertG (pv 7) (pa_cons (pe_op op_modG (pe_ix (k_ix (K := K) rfl hu) (pv 3) pe_int (fun _ _ => rfl)) (pe_op (k_add (K := K) rfl) (pe_callB (k_len (K := K) rfl) (by rfl) b_len (by decide +kernel) (pa_cons (pv 7) pa_nil)) pe_int)) (pa_cons (pv 8) pa_nil)))))))
          pss_nil)))
        (pss_one (ps_if (pt_lendV (PW.pt (pw_and (pt_cmpR (k_ne (K := K) rfl hr.units) (pv 6) (pe_lst pa_nil) (nomark _)) (pw_and1 (pt_cmpR (k_ne (K := K) rfl hr.units) (pe_ix (k_ix (K := K) rfl hu) (pv 6) (pe_op op_modG (pe_ix (k_ix (K := K) rfl hu) (pv 3) pe_int (fun _ _ => rfl)) (pe_callB (k_len (K := K) rfl) (by rfl) b_len (by decide +kernel) (pa_cons (pv 6) pa_nil))) (fun _ _ => rfl)) (pe_lst pa_nil) (nomark _))))))
          (pss_cons (ps_asg (pe_lendV (pe_ix (k_ix (K := K) rfl hu) (pv 6) (pe_op op_modG (pe_ix (k_ix (K := K) rfl hu) (pv 3) pe_int (fun _ _ => rfl)) (pe_callB (k_len (K := K) rfl) (by rfl) b_len (by decide +kernel) (pa_cons (pv 6) pa_nil))) (fun _ _ => rfl))) (pg_name (i := 9) sc__law_spoiled.nd rfl (by first | exact Or.inl rfl | exact Or.inr rfl)))
          (pss_cons (ps_asg (pe_lendV (pe_ix (k_ix (K := K) rfl hu) (pe_ix (k_ix (K := K) rfl hu) (pv 9) (pe_op op_modG (pe_ix (k_ix (K := K) rfl hu) (pv 3) pe_int (fun _ _ => rfl)) (pe_callB (k_len (K := K) rfl) (by rfl) b_len (by decide +kernel) (pa_cons (pv 9) pa_nil))) (fun _ _ => rfl)) pe_int (fun _ _ => rfl))) (pg_name (i := 10) sc__law_spoiled.nd rfl (by first | exact Or.inl rfl | exact Or.inr rfl)))
          (pss_cons (ps_asg (pe_lendV (pe_op (k_add (K := K) rfl) (pe_lst (pa_cons pe_int pa_nil)) (pe_lc (own := [("_law_maker", 12)]) rfl sc__law_spoiled.nd (k_seq (K := K) rfl (pe_dget2 hu (pv 1) (pv 10) (pe_lst pa_nil) ⟨by rfl, by rfl, by rfl, by rfl⟩)) (blkOk_by (N := N__law_spoiled) (sc := defScope s__law_spoiled) (by decide +kernel)) (fun _ _ _ _ _ => (pg_name (i := 12) sc__law_spoiled.nd rfl (by first | exact Or.inl rfl | exact Or.inr rfl))) (fun _ _ _ _ _ => (pts_one (pt_cmpR (k_ne (K := K) rfl hr.units) (pv 12) (pv 4) (nomark _)))) (fun _ _ _ _ _ => (pv 12))))) (pg_name (i := 11) sc__law_spoiled.nd rfl (by first | exact Or.inl rfl | exact Or.inr rfl)))
          (pss_cons (ps_if (pt_cmpR (k_eq (K := K) rfl hr.units) (pe_op op_modG (pe_op op_divG (pe_ix (k_ix (K := K) rfl hu) (pv 3) pe_int (fun _ _ => rfl)) pe_int) pe_int) pe_int (nomark _))
            (pss_one (ps_asg (pe_lst (pa_cons (pe_un un_neg pe_int) pa_nil)) (pg_name (i := 11) sc__law_spoiled.nd rfl (by first | exact Or.inl rfl | exact Or.inr rfl))))
            pss_nil)
          (pss_one (ps_asg (pe_tup (pa_cons (pv 10) (pa_cons (pe_ix (k_ix (K := K) rfl hu) (pv 11) (pe_op op_modG (pe_ix (k_ix (K := K) rfl hu) (pv 3) pe_int (fun _ _ => rfl)) (pe_callB (k_len (K := K) rfl) (by rfl) b_len (by decide +kernel) (pa_cons (pv 11) pa_nil))) (fun _ _ => rfl)) pa_nil))) (pg_sub (pv 9) (pe_op op_modG (pe_ix (k_ix (K := K) rfl hu) (pv 3) pe_int (fun _ _ => rfl)) (pe_callB (k_len (K := K) rfl) (by rfl) b_len (by decide +kernel) (pa_cons (pv 9) pa_nil))) (set_G hu))))))))
          pss_nil)))))), ?_⟩
  clear hS0 hl0 hr hu wx G__law_stream g__law_stream k__law_stream bn__law_stream b_len b_sorted
  have X_r_WHYS := XX.r_WHYS
  have X_g_Loose := XX.g_Loose
  have X_R_Loose := XX.R_Loose
  have X_g_Kept := XX.g_Kept
  have X_R_Kept := XX.R_Kept
  have X_g_Make := XX.g_Make
  have X_R_Make := XX.R_Make
  have X_g_Watch := XX.g_Watch
  have X_R_Watch := XX.R_Watch
  have X_g_Hold := XX.g_Hold
  have X_R_Hold := XX.R_Hold
  simp only [List.map_cons, List.map_nil, List.length_cons, List.length_nil, List.cons_append, List.nil_append, Nat.reduceAdd, Nat.reduceSub, List.replicate_succ, List.replicate_zero, N__law_spoiled]
  refine gos_end ?_
  ((with_reducible refine gos_sA ?_); (with_reducible refine gos_asg ?_); walk_at "x0"; (with_reducible refine call__law_stream ?_); (with_reducible refine goa_cons ?_); walk_at "x3"; (with_reducible refine goa_cons ?_); (with_reducible refine go_int ?_); (with_reducible refine goa_nil ?_); walk_at "x0"; walk_at "x9"; walk_at "x1"; walk_at "x1"; walk_at "x2"; (with_reducible refine gos_sA ?_); (with_reducible refine gos_asg ?_); walk_at "x0"; (focus skip); rotate_left)
  have b0 := at0_bd (c := c) (n := 5) (i := 0)
  have b1 := at0_bd (c := c) (n := 5) (i := 1)
  have b2 := at0_bd (c := c) (n := 5) (i := 2)
  have b3 := at0_bd (c := c) (n := 5) (i := 3)
  have b4 := at0_bd (c := c) (n := 5) (i := 4)
  have e5 : Int.toNat 5 = 5 := rfl
  rw [e5]
  have hn0 : 0 < ds.length := List.length_pos_iff.mpr hp0
  have hi := ixE_lt (n := at0 (strm c 5) 1) hn0
  generalize hxs : strm c 5 = xs at *
  have hxl : xs.length = 5 := by rw [← hxs, strm_len]
  generalize hie : ixE (at0 xs 1) ds.length = i at *
  obtain ⟨d, hd⟩ : ∃ d, ds[i]? = some d := ⟨ds[i], List.getElem?_eq_getElem hi⟩
  have hO : (ds.map deO)[i]? = some (.op [.d (.int d.n), .d (.str (lvW d.l)), .ol (d.ks.map lookO)]) := by rw [List.getElem?_map, hd]; rfl
  refine go_lab (i := 0) rfl (getP_i2 hO) refO_ol fun aL => ?_
  rw [setP_i2 hO]
  dsimp only [List.set]
  have hO2 : ((ds.map deO).set i (.op [.d (.int d.n), .d (.str (lvW d.l)), .atA aL (.ol (d.ks.map lookO))]))[i]? = some (.op [.d (.int d.n), .d (.str (lvW d.l)), .atA aL (.ol (d.ks.map lookO))]) := List.getElem?_set_self (by simpa using hi)
  refine go_lendV' (views_wk (i := 0) rfl (wkn_setP (wkn_ref rfl) (getP_i2 hO2)) views_fz) fun F' B' => ?_
  rw [setP_i2 hO2]
  simp only [fzE_cons, fzE_nil, frO_none, frO_some, O.fz, fzL_set, fz_fl, List.set, List.set_set, desO_fz, fzL, mkO_fz]
  have hidx : (at0 xs 1 % (ds.length : Int)).toNat = i := hie
  have hix0 : 0 ≤ at0 xs 1 % (ds.length : Int) := Int.emod_nonneg _ (by omega)
  ((with_reducible refine go_op ?_); walk_at "x3"; (with_reducible refine go_op ?_); (with_reducible refine go_op ?_); walk_at "x3"; (with_reducible refine go_int ?_); walk_at "x0"; walk_at "x10"; (with_reducible refine go_cb ?_); (with_reducible refine goa_cons ?_); walk_at "x3"; (with_reducible refine goa_nil ?_); walk_at "x14"; walk_at "x0"; (focus skip); rotate_left)
  rw [List.length_set, List.length_map]
  (walk_at "x4"; walk_at "x0"; (focus skip); rotate_left)
  refine o2_ix rfl (atI_nat' hix0 (by rw [hidx]; exact List.getElem?_set_self (by simpa using hi))) ?_
  refine ⟨rfl, ?_⟩
  ((with_reducible refine gog_tup ?_); walk_at "x5"; walk_at "x1"; walk_at "x16"; walk_at "x16"; walk_at "x16"; (with_reducible refine gogs_nil ?_); (with_reducible refine gos_if ?_); (focus skip); rotate_left)
  refine got_lendV' views_fz fun F' B' => ?_
  simp only [fzE_cons, fzE_nil, frO_none, frO_some, O.fz, fzL_set, fz_fl, List.set, List.set_set, desO_fz, fzL, mkO_fz]
  ((with_reducible refine got_and ?_); (with_reducible refine got_test ?_); (with_reducible refine go_op ?_); (with_reducible refine go_op ?_); (with_reducible refine go_op ?_); walk_at "x3"; (with_reducible refine go_int ?_); walk_at "x0"; walk_at "x10"; (with_reducible refine go_int ?_); walk_at "x0"; walk_at "x4"; (with_reducible refine go_int ?_); walk_at "x0"; (with_reducible refine o2_eqI ?_); walk_at "x5"; walk_at "x12"; (with_reducible refine got_test ?_); (with_reducible refine go_op ?_); walk_at "x3"; (with_reducible refine go_dnew ?_); walk_at "x0"; (focus skip); rotate_left; walk_at "x12"; (with_reducible refine gos_if ?_); (focus skip); rotate_left)
  all_goals (try (simp only [fzK]; refine o2_neK ?_; (walk_at "x5"; walk_at "x12"; (with_reducible refine gos_sA ?_); (with_reducible refine gos_asg ?_); walk_at "x0"; (focus skip); rotate_left; (with_reducible refine gos_if ?_); (focus skip); rotate_left)))
  · rename_i hc0 hc1
    have hmne : mk ≠ [] := by intro e; rw [e] at hc1; cases hc1
    have hm0 : 0 < mk.length := List.length_pos_iff.mpr hmne
    have hsl : (srt (mk.map (·.1))).length = mk.length := by rw [srt_len, List.length_map]
    have hj := ixE_lt (n := at0 xs 2) hm0
    obtain ⟨key, hkey⟩ : ∃ key, (srt (mk.map (·.1)))[ixE (at0 xs 2) mk.length]? = some key := ⟨_, List.getElem?_eq_getElem (by rw [hsl]; exact hj)⟩
    have hkm : key ∈ mk.map (·.1) := srt_mem.mp (List.mem_of_getElem? hkey)
    obtain ⟨ch, hch⟩ := Option.isSome_iff_exists.mp (dval_mem.mpr hkm)
    have hcl : ch.length ≤ 100 := by
      have : ∃ p ∈ mk, p.2 = ch := by
        unfold dval at hch
        cases hf : mk.find? fun kv => decide (kv.1 = key) with
        | none => rw [hf] at hch; cases hch
        | some p => rw [hf] at hch; cases hch; exact ⟨p, List.mem_of_find?_eq_some hf, rfl⟩
      obtain ⟨p, hp, rfl⟩ := this
      exact hp3 p hp
    have sp : spoilF ds mk c = (ds, SK.dput mk key (chainF ch (at0 xs 3) (at0 xs 4))) := by
      unfold spoilF
      rw [hxs]
      simp only []
      rw [if_pos ⟨hc0, hmne⟩, List.getD_eq_getElem?_getD, hkey]
      simp [hch]
    simp only [sp]
    refine go_lab (i := 1) rfl (getP_k (kval_mk hch)) (refO_ol (xs := _)) fun aC => ?_
    rw [setP_k (kval_mk hch)]
    dsimp only [List.set]
    refine go_lendV' (views_wk (i := 1) rfl (wkn_setP (wkn_ref rfl) (getP_k kval_put)) views_fz) fun F' B' => ?_
    rw [setP_k kval_put, dput_put]
    simp only [fzE_cons, fzE_nil, frO_none, frO_some, O.fz, fzL_set, fz_fl, List.set, List.set_set, desO_fz, fzL, mkA_fz]
    ((with_reducible refine go_op ?_); walk_at "x3"; (with_reducible refine go_op ?_); (with_reducible refine go_cb ?_); (with_reducible refine goa_cons ?_); walk_at "x3"; (with_reducible refine goa_nil ?_); walk_at "x0"; (focus skip); rotate_left)
    refine oa_sortI (by rw [mkA_len hkm]; omega) ?_
    rw [mkA_keys hkm]
    ((with_reducible refine go_op ?_); (with_reducible refine go_op ?_); walk_at "x3"; (with_reducible refine go_int ?_); walk_at "x0"; walk_at "x10"; (with_reducible refine go_cb ?_); (with_reducible refine goa_cons ?_); walk_at "x3"; (with_reducible refine goa_nil ?_); walk_at "x0"; (with_reducible refine oa_lenD ?_); walk_at "x0"; (focus skip); rotate_left)
    skip
    rw [imK_len, mkA_len hkm]
    have hm1 : (0 : Int) < (mk.length : Int) := by omega
    (walk_at "x4"; walk_at "x0"; (focus skip); rotate_left)
    refine o2_ix rfl (atI_nat' (y := D.int key) (Int.emod_nonneg _ (by omega)) (by rw [List.getElem?_map]; show Option.map _ ((srt (mk.map (·.1)))[ixE (at0 xs 2) mk.length]?) = _; rw [hkey]; rfl)) ?_
    refine o2_ixDI mkA_at ?_
    refine ⟨rfl, ?_⟩
    (walk_at "x2"; (with_reducible refine gos_if ?_); (focus skip); rotate_left)
    refine got_lendV' (views_up (j := 7) (i := 1) rfl rfl (getP_k kval_put) rfl wkn_un views_fz) fun F' B' => ?_
    simp only [fzE_cons, fzE_nil, frO_none, frO_some, O.fz, msO_fz, fzL_set, fz_fl, List.set, List.set_set, desO_fz, fzL, fzK_put, mkO_fz]
    ((with_reducible refine got_test ?_); (with_reducible refine go_op ?_); (with_reducible refine go_cb ?_); (with_reducible refine goa_cons ?_); walk_at "x3"; (with_reducible refine goa_nil ?_); walk_at "x14"; (with_reducible refine go_int ?_); walk_at "x0"; (with_reducible refine o2_gt ?_); walk_at "x5"; walk_at "x12"; (with_reducible refine gos_sA ?_); (with_reducible refine gos_asg ?_); walk_at "x0"; (focus skip); rotate_left; (with_reducible refine gos_next ?_); walk_at "x0"; (focus skip); rotate_left)
    · rename_i hlen
      have hk0 := Int.emod_nonneg (at0 xs 3) (show (ch.length : Int) - 1 ≠ 0 by simp only [List.length_map] at hlen; omega)
      have hk1 := Int.emod_lt_of_pos (at0 xs 3) (show (0 : Int) < (ch.length : Int) - 1 by simp only [List.length_map] at hlen; omega)
      have hch2 : ch.length > 1 := by simp only [List.length_map] at hlen; omega
      refine go_popA (i := 1) (p := [.key (.inl key)]) views_fz (views_up (j := 7) (i := 1) rfl rfl (getP_k kval_put) rfl wkn_un views_fz) (fun F' B' => ?_) rfl (getP_k kval_put) (by simp only [List.length_map]; omega) fun F' B' => ?_
      · simp only [fzE_cons, fzE_nil, frO_none, frO_some, O.fz, msO_fz, fzL_set, fz_fl, List.set, List.set_set, desO_fz, fzL, fzK_put, mkO_fz]
        (walk_at "x3"; walk_at "x0")
      simp only [fzE_cons, fzE_nil, frO_none, frO_some, O.fz, msO_fz, fzL_set, fz_fl, List.set, List.set_set, desO_fz, fzL, fzK_put, mkO_fz]
      ((with_reducible refine go_op ?_); (with_reducible refine go_int ?_); (with_reducible refine go_op ?_); (with_reducible refine go_op ?_); walk_at "x3"; (with_reducible refine go_int ?_); walk_at "x0"; walk_at "x10"; (with_reducible refine go_op ?_); (with_reducible refine go_cb ?_); (with_reducible refine goa_cons ?_); walk_at "x3"; (with_reducible refine goa_nil ?_); walk_at "x14"; (with_reducible refine go_int ?_); walk_at "x0"; (with_reducible refine o2_sub ?_); walk_at "x0"; walk_at "x4"; walk_at "x0"; (with_reducible refine o2_add ?_); (focus skip); rotate_left)
      have hkk : (1 + at0 xs 3 % ((ch.length : Int) - 1)).toNat < ch.length := by omega
      refine ⟨_, _, .d (.int (ch.getD (1 + at0 xs 3 % ((ch.length : Int) - 1)).toNat 0)), rfl, (show seqIndex? (1 + at0 xs 3 % (((ch.map D.int).length : Int) - 1)) ((ch.map D.int).map O.d).length = some (1 + at0 xs 3 % ((ch.length : Int) - 1)).toNat by
        simp only [List.length_map]; exact seq_of (by omega) (by omega)), ?_, ?_⟩
      · rw [List.getElem?_map, List.getElem?_map, List.getD_eq_getElem?_getD, List.getElem?_eq_getElem hkk]; rfl
      rw [setP_k kval_put, dput_put, msO_er]
      have hel : (ch.eraseIdx (1 + at0 xs 3 % ((ch.length : Int) - 1)).toNat).length = ch.length - 1 := List.length_eraseIdx_of_lt hkk
      have hcf : chainF ch (at0 xs 3) (at0 xs 4) = insA ch (1 + at0 xs 3 % ((ch.length : Int) - 1)).toNat (at0 xs 4 % (((ch.length - 1 : Nat) : Int) + 1)).toNat := if_pos hch2
      rw [hcf]
      unfold insA
      generalize ch.getD (1 + at0 xs 3 % ((ch.length : Int) - 1)).toNat 0 = mv
      generalize ch.eraseIdx (1 + at0 xs 3 % ((ch.length : Int) - 1)).toNat = ch2 at *
      refine gog_name (Nat.le_of_ble_eq_true rfl) ?_
      dsimp only [List.set]
      refine gos_insA (i := 1) (p := [.key (.inl key)]) views_fz (views_up (j := 7) (i := 1) rfl rfl (getP_k kval_put) rfl wkn_un views_fz) (fun F' B' => ?_) rfl (getP_k kval_put) (by simp only [List.length_map]; omega) fun F' B' => ?_
      · simp only [fzE_cons, fzE_nil, frO_none, frO_some, O.fz, msO_fz, fzL_set, fz_fl, List.set, List.set_set, desO_fz, fzL, fzK_put, mkO_fz]
        (walk_at "x3"; walk_at "x0")
      have hn0 := Int.emod_nonneg (at0 xs 4) (show (((ch.length - 1 : Nat) : Int) + 1) ≠ 0 by omega)
      have hn1 := Int.emod_lt_of_pos (at0 xs 4) (show (0 : Int) < (((ch.length - 1 : Nat) : Int) + 1) by omega)
      simp only [fzE_cons, fzE_nil, frO_none, frO_some, O.fz, msO_fz, fzL_set, fz_fl, List.set, List.set_set, desO_fz, fzL, fzK_put, mkO_fz]
      ((with_reducible refine go_op ?_); (with_reducible refine go_op ?_); walk_at "x3"; (with_reducible refine go_int ?_); walk_at "x0"; walk_at "x10"; (with_reducible refine go_op ?_); (with_reducible refine go_cb ?_); (with_reducible refine goa_cons ?_); walk_at "x3"; (with_reducible refine goa_nil ?_); walk_at "x14"; (with_reducible refine go_int ?_); walk_at "x0"; (with_reducible refine o2_add ?_); walk_at "x0"; walk_at "x4"; walk_at "x5"; (focus skip); rotate_left)
      simp only [List.length_map, hel]
      refine ⟨hn0, by omega, fun F' B' => ?_⟩
      (walk_at "x3"; walk_at "x1"; (focus skip); rotate_left)
      have e : ∀ n, O.ol (((ch2.map D.int).map O.d).take n ++ [O.d (.int mv)] ++ ((ch2.map D.int).map O.d).drop n) = msO (ch2.take n ++ [mv] ++ ch2.drop n) := fun n => by
        unfold msO; simp only [List.map_append, List.map_take, List.map_drop]; rfl
      rw [e, setP_k kval_put, dput_put]
      exact ⟨_, wkE_slot (i := 0) rfl (wk_ds hO) (wkE_slot (i := 1) rfl wk_mk wkE_refl), [_, _, _], ⟨⟨_, rfl, rfl⟩, rfl, ⟨_, rfl, rfl⟩, rfl, rfl, trivial⟩, trivial, rfl⟩
    · rename_i hlen
      have hcf : chainF ch (at0 xs 3) (at0 xs 4) = ch := if_neg (by simp only [List.length_map] at hlen; omega)
      rw [hcf]
      exact ⟨_, wkE_slot (i := 0) rfl (wk_ds hO) (wkE_slot (i := 1) rfl wk_mk wkE_refl), [_, _, _], ⟨⟨_, rfl, rfl⟩, rfl, ⟨_, rfl, rfl⟩, rfl, rfl, trivial⟩, trivial, rfl⟩
  all_goals
    have sp : spoilF ds mk c = (lookF ds mk xs, mk) := by
      unfold spoilF
      rw [hxs]
      simp only []
      rw [if_neg]
      rintro ⟨h1, h2⟩
      first
        | exact absurd h1 (by assumption)
        | (rename_i hcE; cases mk with | nil => exact h2 rfl | cons p r => cases hcE)
    have lf0 : d.ks[ixE (at0 xs 2) d.ks.length]? = none → lookF ds mk xs = ds := fun h => by
      unfold lookF; simp only [hie, hd, h]
    have lf1 : ∀ l, d.ks[ixE (at0 xs 2) d.ks.length]? = some l → l[ixE (at0 xs 3) l.length]? = none → lookF ds mk xs = ds := fun l h h2 => by
      unfold lookF; simp only [hie, hd, h, h2]
    have lf2 : ∀ l p, d.ks[ixE (at0 xs 2) d.ks.length]? = some l → l[ixE (at0 xs 3) l.length]? = some p → lookF ds mk xs = ds.set i { d with ks := d.ks.set (ixE (at0 xs 2) d.ks.length) (l.set (ixE (at0 xs 3) l.length) (p.1, (someF ((dval mk p.1).getD []) d.n (at0 xs 0)).getD (ixE (at0 xs 4) (someF ((dval mk p.1).getD []) d.n (at0 xs 0)).length) 0)) } := fun l p h h2 => by
      unfold lookF; simp only [hie, hd, h, h2]
    simp only [sp]
    refine got_lendV' (views_up (j := 6) (i := 0) rfl rfl (getP_i2 hO2) rfl wkn_un views_fz) fun F' B' => ?_
    simp only [fzE_cons, fzE_nil, frO_none, frO_some, O.fz, msO_fz, fzL_set, fz_fl, List.set, List.set_set, desO_fz, fzL, fzK_put, mkO_fz, lksO_fz]
    ((with_reducible refine got_and ?_); (with_reducible refine got_test ?_); (with_reducible refine go_op ?_); walk_at "x3"; (with_reducible refine go_lst ?_); (with_reducible refine goa_nil ?_); walk_at "x0"; walk_at "x1"; (focus skip); rotate_left)
    refine o2_neNil 3 (Shp.lstM shp_look) (by decide) ?_
    (walk_at "x5"; walk_at "x12"; (with_reducible refine got_test ?_); (with_reducible refine go_op ?_); (with_reducible refine go_op ?_); walk_at "x3"; (with_reducible refine go_op ?_); (with_reducible refine go_op ?_); walk_at "x3"; (with_reducible refine go_int ?_); walk_at "x0"; walk_at "x10"; (with_reducible refine go_cb ?_); (with_reducible refine goa_cons ?_); walk_at "x3"; (with_reducible refine goa_nil ?_); walk_at "x14"; walk_at "x0"; (focus skip); rotate_left; walk_at "x12"; (with_reducible refine gos_next ?_); walk_at "x0"; (focus skip); rotate_left)
    rotate_left
    · have hk0 : d.ks = [] := by
        first
          | (rename_i hE; cases e : d.ks with
             | nil => rfl
             | cons x r => rw [e] at hE; cases hE)
          | (rename_i hE hT; cases e : d.ks with
             | nil => rfl
             | cons x r => rw [e] at hE; cases hE)
      rw [lf0 (by rw [hk0]; rfl)]
      exact ⟨_, wkE_slot (i := 0) rfl (wk_ds hO) wkE_refl, [_, _, _], ⟨⟨_, rfl, rfl⟩, rfl, ⟨_, rfl, rfl⟩, rfl, rfl, trivial⟩, trivial, rfl⟩
    rename_i hE
    have hkp : 0 < d.ks.length := by
      cases e : d.ks with
      | nil => rw [e] at hE; cases hE
      | cons x r => simp
    have hjl := ixE_lt (n := at0 xs 2) hkp
    obtain ⟨l, hl⟩ : ∃ l, d.ks[ixE (at0 xs 2) d.ks.length]? = some l := ⟨_, List.getElem?_eq_getElem hjl⟩
    have hz : (0 : Int) < (d.ks.length : Int) := by omega
    simp only [List.length_map]
    (walk_at "x4"; walk_at "x0"; (focus skip); rotate_left)
    refine o2_ix rfl (atI_nat' (y := lookD l) (Int.emod_nonneg _ (by omega)) (by rw [List.getElem?_map]; show Option.map _ (d.ks[ixE (at0 xs 2) d.ks.length]?) = _; rw [hl]; rfl)) ?_
    ((with_reducible refine go_lst ?_); (with_reducible refine goa_nil ?_); walk_at "x0"; walk_at "x1"; (focus skip); rotate_left)
    refine o2_neNil 2 (Shp.lstM shp_pair) (by decide) ?_
    (walk_at "x5"; walk_at "x12"; (with_reducible refine gos_sA ?_); (with_reducible refine gos_asg ?_); walk_at "x0"; (focus skip); rotate_left; (with_reducible refine gos_next ?_); walk_at "x0"; (focus skip); rotate_left)
    rotate_left
    · have hl0 : l = [] := by
        first
          | (rename_i hE2; cases e : l with
             | nil => rfl
             | cons x r => rw [e] at hE2; cases hE2)
          | (rename_i hE2 hT; cases e : l with
             | nil => rfl
             | cons x r => rw [e] at hE2; cases hE2)
      rw [lf1 l hl (by rw [hl0]; rfl)]
      exact ⟨_, wkE_slot (i := 0) rfl (wk_ds hO) wkE_refl, [_, _, _], ⟨⟨_, rfl, rfl⟩, rfl, ⟨_, rfl, rfl⟩, rfl, rfl, trivial⟩, trivial, rfl⟩
    rename_i hE2
    have hlp : 0 < l.length := by
      cases e : l with
      | nil => rw [e] at hE2; cases hE2
      | cons x r => simp
    have hkl := ixE_lt (n := at0 xs 3) hlp
    obtain ⟨p, hp⟩ : ∃ p, l[ixE (at0 xs 3) l.length]? = some p := ⟨_, List.getElem?_eq_getElem hkl⟩
    have hzl : (0 : Int) < (l.length : Int) := by omega
    simp only [lf2 l p hl hp]
    have hjx : (at0 xs 2 % (d.ks.length : Int)).toNat = ixE (at0 xs 2) d.ks.length := rfl
    generalize ixE (at0 xs 2) d.ks.length = j at *
    have hKO : (d.ks.map lookO)[j]? = some (lookO l) := by rw [List.getElem?_map, hl]; rfl
    refine go_lab (i := 0) rfl (getP_i3 hO2 hKO) (refO_ol (xs := _)) fun aK => ?_
    rw [setP_i3 hO2 hKO, List.set_set]
    dsimp only [List.set]
    have hO3 : ((ds.map deO).set i (.op [.d (.int d.n), .d (.str (lvW d.l)), .atA aL (.ol ((d.ks.map lookO).set j (.atA aK (lookO l))))]))[i]? = some (.op [.d (.int d.n), .d (.str (lvW d.l)), .atA aL (.ol ((d.ks.map lookO).set j (.atA aK (lookO l))))]) := List.getElem?_set_self (by simpa using hi)
    have hKO3 : ((d.ks.map lookO).set j (.atA aK (lookO l)))[j]? = some (.atA aK (lookO l)) := List.getElem?_set_self (by simpa using hjl)
    refine go_lendV' (views_up (j := 6) (i := 0) rfl rfl (getP_i2 hO3) rfl (wkn_un.trans (wk_item hKO3 rfl)) views_fz) fun F' B' => ?_
    simp only [fzE_cons, fzE_nil, frO_none, frO_some, O.fz, msO_fz, fzL_set, fz_fl, List.set, List.set_set, desO_fz, fzL, fzK_put, mkO_fz, lksO_fz]
    ((with_reducible refine go_op ?_); walk_at "x3"; (with_reducible refine go_op ?_); (with_reducible refine go_op ?_); walk_at "x3"; (with_reducible refine go_int ?_); walk_at "x0"; walk_at "x10"; (with_reducible refine go_cb ?_); (with_reducible refine goa_cons ?_); walk_at "x3"; (with_reducible refine goa_nil ?_); walk_at "x14"; walk_at "x0"; (focus skip); rotate_left)
    simp only [List.length_set, List.length_map]
    (walk_at "x4"; walk_at "x0"; (focus skip); rotate_left)
    refine o2_ix rfl (atI_nat' (y := .ref aK) (Int.emod_nonneg _ (by omega)) (by rw [hjx]; exact List.getElem?_set_self (by simpa using hjl))) ?_
    refine ⟨rfl, ?_⟩
    (walk_at "x2"; (with_reducible refine gos_sA ?_); (with_reducible refine gos_asg ?_); walk_at "x0"; (focus skip); rotate_left)
    have lkz : (lookO l).fz = lookD l := congrArg SK.D.lst fzL_fl
    refine go_lendV' (views_up (j := 9) (i := 0) rfl rfl (getP_i3 hO3 hKO3) rfl wkn_un views_fz) fun F' B' => ?_
    simp only [fzE_cons, fzE_nil, frO_none, frO_some, O.fz, msO_fz, fzL_set, fz_fl, List.set, List.set_set, desO_fz, fzL, fzK_put, mkO_fz, lksO_fz, lkz]
    ((with_reducible refine go_op ?_); (with_reducible refine go_op ?_); walk_at "x3"; (with_reducible refine go_op ?_); (with_reducible refine go_op ?_); walk_at "x3"; (with_reducible refine go_int ?_); walk_at "x0"; walk_at "x10"; (with_reducible refine go_cb ?_); (with_reducible refine goa_cons ?_); walk_at "x3"; (with_reducible refine goa_nil ?_); walk_at "x14"; walk_at "x0"; (focus skip); rotate_left)
    simp only [List.length_map]
    (walk_at "x4"; walk_at "x0"; (focus skip); rotate_left)
    refine o2_ix (xs := l.map pairD) rfl (atI_nat' (y := pairD p) (Int.emod_nonneg _ (by omega)) (by rw [List.getElem?_map]; show Option.map _ (l[ixE (at0 xs 3) l.length]?) = _; rw [hp]; rfl)) ?_
    ((with_reducible refine go_int ?_); walk_at "x0"; walk_at "x10"; walk_at "x1"; walk_at "x2"; (with_reducible refine gos_sA ?_); (with_reducible refine gos_asg ?_); walk_at "x0"; (focus skip); rotate_left)
    have hgl := gd_len (k := p.1) hp3
    refine go_lendV' views_fz fun F' B' => ?_
    simp only [fzE_cons, fzE_nil, frO_none, frO_some, O.fz, msO_fz, fzL_set, fz_fl, List.set, List.set_set, desO_fz, fzL, fzK_put, mkO_fz, lksO_fz]
    ((with_reducible refine go_op ?_); (with_reducible refine go_lst ?_); (with_reducible refine goa_cons ?_); (with_reducible refine go_int ?_); (with_reducible refine goa_nil ?_); walk_at "x0"; walk_at "x1"; (focus skip); rotate_left)
    refine go_lcS D.int (fun m => decide (m ≠ d.n)) D.int ?_
    ((with_reducible refine go_dget2 ?_); walk_at "x3"; walk_at "x5"; walk_at "x3"; walk_at "x17"; (with_reducible refine go_lst ?_); (with_reducible refine goa_nil ?_); walk_at "x0"; walk_at "x1"; walk_at "x0"; (focus skip); rotate_left)
    simp only [gd_mk]
    refine ⟨(dval mk p.1).getD [], .seq rfl, by omega, Nat.le_of_ble_eq_true rfl, by first | trivial | rfl, fun m acc hm => ?_, ?_⟩
    · try dsimp only [List.set]
      ((with_reducible refine got_test ?_); (with_reducible refine go_op ?_); walk_at "x3"; walk_at "x3"; walk_at "x0"; (with_reducible refine o2_neI ?_); walk_at "x5"; (focus skip); rotate_left)
      refine ⟨by simp, fun _ => by first | trivial | rfl, fun _ => ?_⟩
      (repeat' (first | walk_at "x3" | walk_at "x0" | walk_at "x1" | fail))
      all_goals first | rfl | exact ⟨by first | trivial | rfl, by first | trivial | rfl⟩ | fail
    have hfl := List.length_filter_le (fun m => decide (m ≠ d.n)) ((dval mk p.1).getD [])
    refine o2_addL (by simp only [List.length_map, List.length_cons, List.length_nil]; omega) ?_
    have eS : (O.ol ((([D.int 0] ++ (((dval mk p.1).getD []).filter fun m => decide (m ≠ d.n)).map D.int)).map O.d)) = msO (0 :: ((dval mk p.1).getD []).filter fun m => decide (m ≠ d.n)) := rfl
    rw [eS]
    refine ⟨msO_lf, ?_⟩
    refine gog_name (Nat.le_of_ble_eq_true rfl) ?_
    dsimp only [List.set]
    have hsp : 0 < (someF ((dval mk p.1).getD []) d.n (at0 xs 0)).length := by unfold someF; split <;> simp
    have sY : at0 xs 0 / 4 % 12 = 0 → msO (someF ((dval mk p.1).getD []) d.n (at0 xs 0)) = msO [-1] := fun h => by unfold someF; rw [if_pos h]
    have sN : ¬ at0 xs 0 / 4 % 12 = 0 → msO (someF ((dval mk p.1).getD []) d.n (at0 xs 0)) = msO (0 :: ((dval mk p.1).getD []).filter fun m => decide (m ≠ d.n)) := fun h => by unfold someF; rw [if_neg h]
    generalize someF ((dval mk p.1).getD []) d.n (at0 xs 0) = sm at *
    refine gos_cut (fun Γ' => Γ' = [some (O.atA ad (O.ol ((ds.map deO).set i (O.op [O.d (D.int d.n), O.d (D.str (lvW d.l)), O.atA aL (O.ol ((d.ks.map lookO).set j (O.atA aK (lookO l))))])))), some (O.atA am (O.od (imO msO mk))), some (O.d (D.int c)), some (O.d (D.lst (xs.map D.int))), some (O.d (D.int d.n)), some (O.d (D.str (lvW d.l))), some (O.d (D.ref aL)), none, none, some (O.d (D.ref aK)), some (O.d (D.int p.1)), some (msO sm), none]) ?_ ?_
    · ((with_reducible refine gos_if ?_); (with_reducible refine got_test ?_); (with_reducible refine go_op ?_); (with_reducible refine go_op ?_); (with_reducible refine go_op ?_); (with_reducible refine go_op ?_); walk_at "x3"; (with_reducible refine go_int ?_); walk_at "x0"; walk_at "x10"; (with_reducible refine go_int ?_); walk_at "x0"; walk_at "x11"; (with_reducible refine go_int ?_); walk_at "x0"; walk_at "x4"; (with_reducible refine go_int ?_); walk_at "x0"; (with_reducible refine o2_eqI ?_); walk_at "x5"; walk_at "x12"; (with_reducible refine gos_asg ?_); (with_reducible refine go_lst ?_); (with_reducible refine goa_cons ?_); (with_reducible refine go_un ?_); (with_reducible refine go_int ?_); walk_at "x0"; (with_reducible refine o1_neg ?_); (with_reducible refine goa_nil ?_); walk_at "x0"; walk_at "x1"; walk_at "x2"; (focus skip); rotate_left; (with_reducible refine gos_next ?_); walk_at "x0"; (focus skip); rotate_left)
      · rw [sY (by assumption)]; rfl
      · rw [sN (by assumption)]
    rintro _ rfl
    refine gos_frz 11 rfl ?_
    rw [msO_fz]
    dsimp only [List.set]
    have hx4 := ixE_lt (n := at0 xs 4) hsp
    have hzs : (0 : Int) < (sm.length : Int) := by omega
    have hsx : sm[ixE (at0 xs 4) sm.length]? = some (sm.getD (ixE (at0 xs 4) sm.length) 0) := by rw [List.getD_eq_getElem?_getD, List.getElem?_eq_getElem hx4]; rfl
    have hsj : (at0 xs 4 % (sm.length : Int)).toNat = ixE (at0 xs 4) sm.length := rfl
    generalize sm.getD (ixE (at0 xs 4) sm.length) 0 = sv at *
    refine gos_asg ?_
    ((with_reducible refine go_tup ?_); (with_reducible refine goa_cons ?_); walk_at "x3"; (with_reducible refine goa_cons ?_); (with_reducible refine go_op ?_); walk_at "x3"; (with_reducible refine go_op ?_); (with_reducible refine go_op ?_); walk_at "x3"; (with_reducible refine go_int ?_); walk_at "x0"; walk_at "x10"; (with_reducible refine go_cb ?_); (with_reducible refine goa_cons ?_); walk_at "x3"; (with_reducible refine goa_nil ?_); walk_at "x14"; walk_at "x0"; (focus skip); rotate_left)
    simp only [List.length_map]
    (walk_at "x4"; walk_at "x0"; (focus skip); rotate_left)
    refine o2_ix (xs := sm.map D.int) rfl (atI_nat' (y := .int sv) (Int.emod_nonneg _ (by omega)) (by rw [List.getElem?_map, hsj, hsx]; rfl)) ?_
    ((with_reducible refine goa_nil ?_); walk_at "x0"; walk_at "x1"; (focus skip); rotate_left)
    refine gog_setLA (i := 0) (p := [.idx i, .idx 2, .idx j]) views_fz (views_up (j := 9) (i := 0) rfl rfl (getP_i3 hO3 hKO3) rfl wkn_un views_fz) (fun F' B' => ?_) rfl (getP_i3 hO3 hKO3) fun F' B' => ?_
    · simp only [fzE_cons, fzE_nil, frO_none, frO_some, O.fz, msO_fz, fzL_set, fz_fl, List.set, List.set_set, desO_fz, fzL, fzK_put, mkO_fz, lksO_fz, lkz]
      (walk_at "x3"; walk_at "x0")
    simp only [fzE_cons, fzE_nil, frO_none, frO_some, O.fz, msO_fz, fzL_set, fz_fl, List.set, List.set_set, desO_fz, fzL, fzK_put, mkO_fz, lksO_fz, lkz]
    ((with_reducible refine go_op ?_); (with_reducible refine go_op ?_); walk_at "x3"; (with_reducible refine go_int ?_); walk_at "x0"; walk_at "x10"; (with_reducible refine go_cb ?_); (with_reducible refine goa_cons ?_); walk_at "x3"; (with_reducible refine goa_nil ?_); walk_at "x14"; walk_at "x0"; (focus skip); rotate_left)
    simp only [List.length_map]
    (walk_at "x4"; (focus skip); rotate_left)
    have hk3 := Int.emod_nonneg (at0 xs 3) (show (l.length : Int) ≠ 0 by omega)
    have hk4 := Int.emod_lt_of_pos (at0 xs 3) hzl
    refine ⟨_, ixE (at0 xs 3) l.length, rfl, ?_, hkl, ?_⟩
    · unfold ixN
      rw [if_pos hk3, if_pos hk4]; rfl
    rw [setP_i3 hO3 hKO3, List.set_set, List.set_set]
    have w3 := wk_ds3 (ad := ad) (aL := aL) (aK := aK) (xs := ds.map deO) (ys := d.ks.map lookO) (i := i) (j := j) (a := .d (.int d.n)) (b := .d (.str (lvW d.l))) (u := .ol (((l.map pairD).map O.d).set (ixE (at0 xs 3) l.length) (.d (pairD (p.1, sv))))) (by simpa using hi) (by simpa using hjl)
    rw [ds_set] at w3
    exact ⟨_, wkE_slot (i := 0) rfl w3 wkE_refl, [_, _, _], ⟨⟨_, rfl, rfl⟩, rfl, ⟨_, rfl, rfl⟩, rfl, rfl, trivial⟩, trivial, rfl⟩
theorem cal__law_source (D : Df K mg "_law_source" s__law_source) {a_SkewError a_NoLevel a_NoHistory a_WHYS a_Loose a_Kept a_Make a_Watch a_Hold : Addr} (XX : XF K mg a_SkewError a_NoLevel a_NoHistory a_WHYS a_Loose a_Kept a_Make a_Watch a_Hold) : Cal P w K mg base "_law_source" 1 ["_law_makers", "_law_ends", "_law_number", "_law_time"] (C__law_source mg) := by
  obtain ⟨f, fd, F, mf⟩ := D
  refine ⟨f, fd, ?_, mf, F.kp, F.binds (ps := ["_law_makers", "_law_ends", "_law_number", "_law_time"]) fun _ _ _ _ _ _ us hl => match us, hl with | [_, _, _, _], _ => rfl, Fun.lk F⟩
  refine F.ok sc__law_source (fun vs H Q E hS0 => spP_len (n := 4) (fun xs p q c0 => by unfold C__law_source at c0; obtain ⟨_, _, _, _, rfl, _⟩ := c0; rfl) hS0) (fun cdv A outer s H vs Q E hr hS0 => ?_)
  have hu := hu_of hr
  refine sp_body hS0 (fun B xs p q c0 hl0 wx => ?_)
  obtain ⟨ms, es, n, t, rfl, hp0, rfl, rfl⟩ := c0
  refine ⟨_, (pss_cons (ps_asg pe_int (pg_name (i := 4) sc__law_source.nd rfl (by first | exact Or.inl rfl | exact Or.inr rfl)))
      (pss_cons (ps_for PassesOwn.never rfl (k_seq (K := K) rfl (pv 0)) (pg_name (i := 5) sc__law_source.nd rfl (by first | exact Or.inl rfl | exact Or.inr rfl))
        (pss_one (ps_if (PW.pt (pw_and (pt_cmpR (k_ne (K := K) rfl hr.units) (pv 5) (pv 2) (nomark _)) (pw_and1 (pt_cmpR (k_lt (K := K) rfl hr.units0) (pe_ix (k_ix (K := K) rfl hu) (pv 1) (pv 5) (fun _ _ => rfl)) (pv 3) (nomark _)))))
          (pss_one (ps_asg (pv 5) (pg_name (i := 4) sc__law_source.nd rfl (by first | exact Or.inl rfl | exact Or.inr rfl))))
          pss_nil)))
      (pss_one (ps_ret (pv 4))))), ?_⟩
  clear hS0 hl0 hr hu wx
  have X_r_WHYS := XX.r_WHYS
  have X_g_Loose := XX.g_Loose
  have X_R_Loose := XX.R_Loose
  have X_g_Kept := XX.g_Kept
  have X_R_Kept := XX.R_Kept
  have X_g_Make := XX.g_Make
  have X_R_Make := XX.R_Make
  have X_g_Watch := XX.g_Watch
  have X_R_Watch := XX.R_Watch
  have X_g_Hold := XX.g_Hold
  have X_R_Hold := XX.R_Hold
  simp only [List.map_cons, List.map_nil, List.length_cons, List.length_nil, List.cons_append, List.nil_append, Nat.reduceAdd, Nat.reduceSub, List.replicate_succ, List.replicate_zero, N__law_source]
  ((with_reducible refine gos_sA ?_); (with_reducible refine gos_asg ?_); (with_reducible refine go_int ?_); walk_at "x2"; (with_reducible refine gos_sF ?_); (with_reducible refine gos_for ?_); (with_reducible refine goi_seq ?_); walk_at "x3"; walk_at "x0"; (focus skip); rotate_left)
  refine ⟨_, .seq rfl, fun i Γ' => ∃ a5, Γ' = [some (O.d (.lst (ms.map D.int))), some (O.d (.dic (imK D.int es))), some (O.d (.int n)), some (O.d (.int t)), some (O.d (.int (srcF (ms.take i) es n t))), a5], ⟨_, rfl⟩, ?_, ?_⟩
  · rintro i d _ hd ⟨a5, rfl⟩
    obtain ⟨m, hm, rfl⟩ := mapD_get hd
    have hs := hp0 m (List.mem_of_getElem? hm)
    obtain ⟨e, he⟩ := Option.isSome_iff_exists.mp hs
    have hix : dval (imK D.int es) (.inl m) = some (.int e) := by rw [dval_im, he]; rfl
    have st : srcF (ms.take (i + 1)) es n t = if m ≠ n ∧ e < t then m else srcF (ms.take i) es n t := by
      unfold srcF; rw [List.take_add_one, hm, Option.toList, List.foldl_append, List.foldl_cons, List.foldl_nil, he]; rfl
    (walk_at "x2"; (with_reducible refine gos_if ?_); (with_reducible refine got_and ?_); (with_reducible refine got_test ?_); (with_reducible refine go_op ?_); walk_at "x3"; walk_at "x3"; walk_at "x0"; (with_reducible refine o2_neI ?_); walk_at "x5"; walk_at "x12"; (with_reducible refine got_test ?_); (with_reducible refine go_op ?_); (with_reducible refine go_op ?_); walk_at "x3"; walk_at "x3"; walk_at "x0"; (focus skip); rotate_left; walk_at "x12"; (with_reducible refine gos_next ?_); walk_at "x0"; (focus skip); rotate_left)
    · refine o2_ixDI hix ?_
      (walk_at "x3"; walk_at "x0"; (with_reducible refine o2_lt ?_); walk_at "x5"; walk_at "x12"; (with_reducible refine gos_asg ?_); walk_at "x3"; walk_at "x2"; (focus skip); rotate_left; (with_reducible refine gos_next ?_); walk_at "x0"; (focus skip); rotate_left)
      · exact ⟨_, by rw [st, if_pos ⟨by assumption, by assumption⟩]⟩
      · exact ⟨_, by rw [st, if_neg (fun z => absurd z.2 (by assumption))]⟩
    · exact ⟨_, by rw [st, if_neg (fun z => absurd (by assumption) z.1)]⟩
  · rintro _ ⟨a5, rfl⟩
    ((with_reducible refine gos_ret ?_); walk_at "x3"; walk_at "x0"; (focus skip); rotate_left)
    rw [List.length_map, List.take_length]
theorem cal__law_tale (D : Df K mg "_law_tale" s__law_tale) {a_SkewError a_NoLevel a_NoHistory a_WHYS a_Loose a_Kept a_Make a_Watch a_Hold : Addr} (XX : XF K mg a_SkewError a_NoLevel a_NoHistory a_WHYS a_Loose a_Kept a_Make a_Watch a_Hold) (c__law_keys : Cal P w K mg base "_law_keys" 2 ["_law_cell"] (C__law_keys mg)) (c__law_drawn : Cal P w K mg base "_law_drawn" 2 ["_law_script"] (C__law_drawn mg)) (c__law_cell_at : Cal P w K mg base "_law_cell_at" 1 ["_law_script", "_law_k"] (C__law_cell_at mg)) (c__law_spoiled : CalO P w K mg base "_law_spoiled" 2 ["_law_deals", "_law_makes", "_law_cell"] (C__law_spoiled mg)) (c__law_source : Cal P w K mg base "_law_source" 1 ["_law_makers", "_law_ends", "_law_number", "_law_time"] (C__law_source mg)) (b_len : mg "len" = none) (b_range : mg "range" = none) (b_sorted : mg "sorted" = none) : Cal P w K mg base "_law_tale" 3 ["_law_script"] (C__law_tale mg) := by
  obtain ⟨f, fd, F, mf⟩ := D
  obtain ⟨f__law_keys, fd__law_keys, G__law_keys, g__law_keys, k__law_keys, bn__law_keys, _⟩ := c__law_keys
  obtain ⟨f__law_drawn, fd__law_drawn, G__law_drawn, g__law_drawn, k__law_drawn, bn__law_drawn, _⟩ := c__law_drawn
  obtain ⟨f__law_cell_at, fd__law_cell_at, G__law_cell_at, g__law_cell_at, k__law_cell_at, bn__law_cell_at, _⟩ := c__law_cell_at
  obtain ⟨f__law_spoiled, fd__law_spoiled, G__law_spoiled, g__law_spoiled, k__law_spoiled, bn__law_spoiled, _⟩ := c__law_spoiled
  obtain ⟨f__law_source, fd__law_source, G__law_source, g__law_source, k__law_source, bn__law_source, _⟩ := c__law_source
  refine ⟨f, fd, ?_, mf, F.kp, F.binds (ps := ["_law_script"]) fun _ _ _ _ _ _ us hl => match us, hl with | [_], _ => rfl, Fun.lk F⟩
  refine F.ok sc__law_tale (fun vs H Q E hS0 => spP_len (n := 1) (fun xs p q c0 => by unfold C__law_tale at c0; obtain ⟨_, rfl, _⟩ := c0; rfl) hS0) (fun cdv A outer s H vs Q E hr hS0 => ?_)
  have hu := hu_of hr
  refine sp_body hS0 (fun B xs p q c0 hl0 wx => ?_)
  obtain ⟨ns, rfl, hp0, rfl, rfl⟩ := c0
  refine ⟨_, (pss_cons (ps_asg (pe_call G__law_keys hr rfl g__law_keys k__law_keys bn__law_keys .nil pass0 (pa_cons (pe_call G__law_cell_at (hr.mono (by decide)) rfl g__law_cell_at k__law_cell_at bn__law_cell_at .nil pass0 (pa_cons (pv 0) (pa_cons pe_int pa_nil))) pa_nil)) (pg_name (i := 1) sc__law_tale.nd rfl (by first | exact Or.inl rfl | exact Or.inr rfl)))
      (pss_cons (ps_asg (pe_call G__law_drawn hr rfl g__law_drawn k__law_drawn bn__law_drawn .nil pass0 (pa_cons (pv 0) pa_nil)) (pg_name (i := 2) sc__law_tale.nd rfl (by first | exact Or.inl rfl | exact Or.inr rfl)))
      (pss_cons (ps_asg pe_dnewK (pg_name (i := 3) sc__law_tale.nd rfl (by first | exact Or.inl rfl | exact Or.inr rfl)))
      (pss_cons (ps_asg pe_dnewK (pg_name (i := 4) sc__law_tale.nd rfl (by first | exact Or.inl rfl | exact Or.inr rfl)))
      (pss_cons (ps_frz (i := 1) (ps_for PassesOwn.never rfl (k_seq (K := K) rfl (pe_callB (k_sortT (K := K) (d := 3) (Bb := 2147483647) (by decide) rfl) (by rfl) b_sorted (by decide +kernel) (pa_cons (pe_lc (own := [("_law_one", 17)]) rfl sc__law_tale.nd (k_seq (K := K) rfl (pv 2)) (blkOk_by (N := N__law_tale) (sc := defScope s__law_tale) (by decide +kernel)) (fun _ _ _ _ _ => (pg_name (i := 17) sc__law_tale.nd rfl (by first | exact Or.inl rfl | exact Or.inr rfl))) (fun _ _ _ _ _ => pts_nil) (fun _ _ _ _ _ => (pe_tupO (pe_tup (pa_cons (pe_ix (k_ix (K := K) rfl hu) (pv 17) pe_int (fun _ _ => rfl)) (pa_cons (pe_ix (k_ix (K := K) rfl hu) (pv 17) pe_int (fun _ _ => rfl)) (pa_cons (pe_ix (k_ix (K := K) rfl hu) (pv 17) pe_int (fun _ _ => rfl)) pa_nil))))))) pa_nil))) (k_tup (K := K) (n := 3) rfl (by rfl) (pgs_cons (pg_name (i := 7) sc__law_tale.nd rfl (by first | exact Or.inl rfl | exact Or.inr rfl)) (pgs_cons (pg_name (i := 8) sc__law_tale.nd rfl (by first | exact Or.inl rfl | exact Or.inr rfl)) (pgs_cons (pg_name (i := 9) sc__law_tale.nd rfl (by first | exact Or.inl rfl | exact Or.inr rfl)) pgs_nil))))
        (pss_cons (ps_asg (pv 7) (pg_sub (pv 3) (pv 8) (set_G hu)))
        (pss_one (ps_for PassesOwn.never rfl (pi_range1 (by rfl) b_range (pa_cons (pe_callB (k_len (K := K) rfl) (by rfl) b_len (by decide +kernel) (pa_cons (pv 1) pa_nil)) pa_nil)) (pg_name (i := 10) sc__law_tale.nd rfl (by first | exact Or.inl rfl | exact Or.inr rfl))
          (pss_one (ps_if (pt_cmpR (k_eq (K := K) rfl hr.units) (pe_op op_andG (pe_op op_shrG (pv 9) (pv 10)) pe_int) pe_int (nomark _))
            (pss_one (ps_expr (k_bm (K := K) rfl (pe_bm PySem.F.plainAttrs_list PySem.F.slot_list_append PySem.F.type_list_append mt_append (pe_dsetd (pv 4) (pe_ix (k_ix (K := K) rfl hu) (pv 1) (pv 10) (fun _ _ => rfl)) (pe_lst pa_nil) ⟨by rfl, by rfl, by rfl, by rfl⟩) (pa_cons (pv 8) pa_nil)))))
            pss_nil)))))))
      (pss_cons (ps_asg (pe_lst pa_nil) (pg_name (i := 5) sc__law_tale.nd rfl (by first | exact Or.inl rfl | exact Or.inr rfl)))
      (pss_cons (ps_frz (i := 3) (ps_for PassesOwn.never rfl (k_seq (K := K) rfl (pv 2)) (k_tup (K := K) (n := 6) rfl (by rfl) (pgs_cons (pg_name (i := 8) sc__law_tale.nd rfl (by first | exact Or.inl rfl | exact Or.inr rfl)) (pgs_cons (pg_name (i := 11) sc__law_tale.nd rfl (by first | exact Or.inl rfl | exact Or.inr rfl)) (pgs_cons (pg_name (i := 7) sc__law_tale.nd rfl (by first | exact Or.inl rfl | exact Or.inr rfl)) (pgs_cons (pg_name (i := 12) sc__law_tale.nd rfl (by first | exact Or.inl rfl | exact Or.inr rfl)) (pgs_cons (pg_name (i := 13) sc__law_tale.nd rfl (by first | exact Or.inl rfl | exact Or.inr rfl)) (pgs_cons (pg_name (i := 9) sc__law_tale.nd rfl (by first | exact Or.inl rfl | exact Or.inr rfl)) pgs_nil)))))))
        (pss_cons (ps_asg (pe_lst pa_nil) (pg_name (i := 14) sc__law_tale.nd rfl (by first | exact Or.inl rfl | exact Or.inr rfl)))
        (pss_cons (ps_for PassesOwn.never rfl (pi_range1 (by rfl) b_range (pa_cons (pe_callB (k_len (K := K) rfl) (by rfl) b_len (by decide +kernel) (pa_cons (pv 12) pa_nil)) pa_nil)) (pg_name (i := 15) sc__law_tale.nd rfl (by first | exact Or.inl rfl | exact Or.inr rfl))
          (pss_cons (ps_setLc (i := 16) (own := [("_law_key", 18)]) rfl sc__law_tale.nd rfl rfl (sw_true rfl rfl rfl (by decide +kernel)) (k_seq (K := K) rfl (pv 1)) (blkOk_by (N := N__law_tale) (sc := defScope s__law_tale) (by decide +kernel)) (fun _ _ _ _ _ => (pg_name (i := 18) sc__law_tale.nd rfl (by first | exact Or.inl rfl | exact Or.inr rfl))) (fun _ _ _ _ _ => (pts_one (pt_cmpR (k_eq (K := K) rfl hr.units) (pe_op op_andG (pe_op op_shrG (pe_ix (k_ix (K := K) rfl hu) (pv 13) (pv 15) (fun _ _ => rfl)) (k_bm (K := K) rfl (pe_bm PySem.F.plainAttrs_list PySem.F.slot_list_index PySem.F.type_list_index (mt_indexG (K := K) rfl) (pv 1) (pa_cons (pv 18) pa_nil)))) pe_int) pe_int (nomark _)))) (fun _ _ _ _ _ => (pv 18)))
          (pss_one (ps_expr (k_bm (K := K) rfl (pe_bm PySem.F.plainAttrs_list PySem.F.slot_list_append PySem.F.type_list_append mt_append (pv 14) (pa_cons (pe_lendV (pe_lc (own := [("_law_key", 18)]) rfl sc__law_tale.nd (k_seq (K := K) rfl (pv 16)) (blkOk_by (N := N__law_tale) (sc := defScope s__law_tale) (by decide +kernel)) (fun _ _ _ _ _ => (pg_name (i := 18) sc__law_tale.nd rfl (by first | exact Or.inl rfl | exact Or.inr rfl))) (fun _ _ _ _ _ => pts_nil) (fun _ _ _ _ _ => (pe_tupO (pe_tup (pa_cons (pv 18) (pa_cons (pe_call G__law_source (hr.mono (by decide)) rfl g__law_source k__law_source bn__law_source .nil pass0 (pa_cons (pe_dget2 hu (pv 4) (pv 18) (pe_lst pa_nil) ⟨by rfl, by rfl, by rfl, by rfl⟩) (pa_cons (pv 3) (pa_cons (pv 8) (pa_cons (pe_ix (k_ix (K := K) rfl hu) (pv 12) (pv 15) (fun _ _ => rfl)) pa_nil))))) pa_nil))))))) pa_nil)))))))
        (pss_one (ps_expr (k_bm (K := K) rfl (pe_bm PySem.F.plainAttrs_list PySem.F.slot_list_append PySem.F.type_list_append mt_append (pv 5) (pa_cons (pe_tupO (pe_tup (pa_cons (pv 8) (pa_cons (pv 11) (pa_cons (pv 14) pa_nil))))) pa_nil)))))))))
      (pss_cons (ps_for PassesOwn.never rfl (k_seq (K := K) rfl (pe_slice (k_sl (K := K) rfl) (pv 0) (po_some pe_int) (po_some pe_int))) (pg_name (i := 6) sc__law_tale.nd rfl (by first | exact Or.inl rfl | exact Or.inr rfl))
        (pss_one (ps_if (pt_lendV (PW.pt (pw_and (pt_cmpR (k_eq (K := K) rfl hr.units) (pe_op op_modG (pv 6) pe_int) pe_int (nomark _)) (pw_and1 (pt_cmpR (k_ne (K := K) rfl hr.units) (pv 5) (pe_lst pa_nil) (nomark _))))))
          (pss_one (ps_expr (pe_call G__law_spoiled hr rfl g__law_spoiled k__law_spoiled bn__law_spoiled .nil pass0 (pa_cons (pv 5) (pa_cons (pv 4) (pa_cons (pe_op op_divG (pv 6) pe_int) pa_nil))))))
          pss_nil)))
      (pss_one (ps_ret (pe_tupO (pe_tup (pa_cons (pv 5) (pa_cons (pe_lc (own := [("_law_key", 18)]) rfl sc__law_tale.nd (k_seq (K := K) rfl (pe_lendV (pe_callB (k_sort (K := K) rfl rfl) (by rfl) b_sorted (by decide +kernel) (pa_cons (pv 4) pa_nil)))) (blkOk_by (N := N__law_tale) (sc := defScope s__law_tale) (by decide +kernel)) (fun _ _ _ _ _ => (pg_name (i := 18) sc__law_tale.nd rfl (by first | exact Or.inl rfl | exact Or.inr rfl))) (fun _ _ _ _ _ => pts_nil) (fun _ _ _ _ _ => (pe_tupO (pe_tup (pa_cons (pv 18) (pa_cons (pe_ix (k_ix (K := K) rfl hu) (pv 4) (pv 18) (fun _ _ => rfl)) pa_nil)))))) pa_nil)))))))))))))), ?_⟩
  clear hS0 hl0 hr hu wx G__law_keys g__law_keys k__law_keys bn__law_keys G__law_drawn g__law_drawn k__law_drawn bn__law_drawn G__law_cell_at g__law_cell_at k__law_cell_at bn__law_cell_at G__law_spoiled g__law_spoiled k__law_spoiled bn__law_spoiled G__law_source g__law_source k__law_source bn__law_source b_len b_range b_sorted
  have X_r_WHYS := XX.r_WHYS
  have X_g_Loose := XX.g_Loose
  have X_R_Loose := XX.R_Loose
  have X_g_Kept := XX.g_Kept
  have X_R_Kept := XX.R_Kept
  have X_g_Make := XX.g_Make
  have X_R_Make := XX.R_Make
  have X_g_Watch := XX.g_Watch
  have X_R_Watch := XX.R_Watch
  have X_g_Hold := XX.g_Hold
  have X_R_Hold := XX.R_Hold
  simp only [List.map_cons, List.map_nil, List.length_cons, List.length_nil, List.cons_append, List.nil_append, Nat.reduceAdd, Nat.reduceSub, List.replicate_succ, List.replicate_zero, N__law_tale]
  have hVW : VWon := .on
  have kl := keysF_len (c := cellN ns 1)
  have dl := drawn_len (ns := ns)
  have inj := drawn_inj (ns := ns)
  have dok := fun d (hd : d ∈ drawnF ns) => (drawn_ok hd).1
  have et : tale0 ns = ((drawnF ns).map (de1 (keysF (cellN ns 1)) (mksF (keysF (cellN ns 1)) (srtE (drawnF ns))) (endsF (srtE (drawnF ns)))), mksF (keysF (cellN ns 1)) (srtE (drawnF ns))) := rfl
  ((with_reducible refine gos_sA ?_); (with_reducible refine gos_asg ?_); walk_at "x0"; (with_reducible refine call__law_keys ?_); (with_reducible refine goa_cons ?_); (with_reducible refine call__law_cell_at ?_); (with_reducible refine goa_cons ?_); walk_at "x3"; (with_reducible refine goa_cons ?_); (with_reducible refine go_int ?_); (with_reducible refine goa_nil ?_); walk_at "x0"; walk_at "x9"; walk_at "x1"; (with_reducible refine goa_nil ?_); walk_at "x5"; walk_at "x2"; (with_reducible refine gos_sA ?_); (with_reducible refine gos_asg ?_); walk_at "x0"; (with_reducible refine call__law_drawn ?_); (with_reducible refine goa_cons ?_); walk_at "x3"; (with_reducible refine goa_nil ?_); walk_at "x5"; walk_at "x1"; walk_at "x2"; (with_reducible refine gos_sA ?_); (with_reducible refine gos_asg ?_); (with_reducible refine go_dnew ?_); walk_at "x2"; (with_reducible refine gos_sA ?_); (with_reducible refine gos_asg ?_); (with_reducible refine go_dnew ?_); walk_at "x2"; (focus skip); rotate_left)
  generalize keysF (cellN ns 1) = ks at *
  generalize drawnF ns = dr at *
  refine gos_seq ?_
  (walk_at "x18"; (with_reducible refine gos_for ?_); (with_reducible refine goi_seq ?_); (with_reducible refine go_cb ?_); (with_reducible refine goa_cons ?_); walk_at "x0"; (focus skip); rotate_left)
  refine go_lcY drD (fun d => tI (dE d)) ?_
  (walk_at "x8"; (focus skip); rotate_left)
  refine ⟨dr, .seq rfl, by omega, Nat.le_of_ble_eq_true rfl, by first | trivial | rfl, fun d acc hd => ?_, ?_⟩
  · try dsimp only [List.set]
    ((with_reducible refine go_tupO' ?_); walk_at "x19"; (with_reducible refine go_op ?_); walk_at "x3"; (with_reducible refine go_int ?_); walk_at "x0"; walk_at "x10"; walk_at "x19"; (with_reducible refine go_op ?_); walk_at "x3"; (with_reducible refine go_int ?_); walk_at "x0"; walk_at "x10"; walk_at "x19"; (with_reducible refine go_op ?_); walk_at "x3"; (with_reducible refine go_int ?_); walk_at "x0"; walk_at "x10"; (with_reducible refine goao_nil ?_); walk_at "x0"; walk_at "x1"; walk_at "x1"; (focus skip); rotate_left)
    (focus (rfl))
  ((with_reducible refine goa_nil ?_); (focus skip); rotate_left)
  have bd : ∀ d ∈ dr, TS.Bd 2147483647 (dE d) := fun d hd m hm => by
    have o := dok d hd
    have o1 := o.n1
    have o2 := o.e1
    have o3 := o.m1
    unfold dE at hm
    simp only [List.mem_cons, List.not_mem_nil, or_false] at hm
    rcases hm with rfl | rfl | rfl <;> omega
  refine oa_sortT dE (xs := dr) rfl (by omega) (fun d hd => ⟨rfl, bd d hd⟩) fun ys hp hs => ?_
  have eys : ys = srtE dr := up_same (hp.trans (srtE_perm dr).symm) (List.Pairwise.imp_of_mem (fun ha hb h => code3 (bd _ (hp.mem_iff.mp ha)) (bd _ (hp.mem_iff.mp hb)) h) hs) (srtE_up dr) fun a ha b hb => inj a (hp.mem_iff.mp ha) b (hp.mem_iff.mp hb)
  rw [← eys] at et
  have yl := hp.length_eq
  (walk_at "x0"; (focus skip); rotate_left)
  have kl2 : ((ks.map D.int).length : Int) ≤ 3 := by rw [List.length_map]; omega
  refine ⟨_, .seq rfl, fun i Γ' => ∃ (a7 a8 a9 a10 : Option O), MOk (endsF (ys.take i)) (mksF ks (ys.take i)) (3 * i) ∧ (endsF (ys.take i)).length ≤ i ∧ Γ' = [some (O.d (.sq (ns.map D.int))), some (O.d (.lst (ks.map D.int))), some (O.d (.lst (dr.map drD))), some (.od (imO (fun x => O.d (.int x)) (endsF (ys.take i)))), some (.od (imO msO (mksF ks (ys.take i)))), none, none, a7, a8, a9, a10, none, none, none, none, none, none, none, none], ⟨none, none, none, none, MOk.nil, Nat.le_refl _, rfl⟩, ?_, ?_⟩
  · rintro i x _ hx ⟨a7, a8, a9, a10, hm, hel, rfl⟩
    obtain ⟨d, hd, rfl⟩ := mapD_get hx
    have hdm := hp.mem_iff.mp (List.mem_of_getElem? hd)
    have o := dok d hdm
    have ho3 := o.m1
    have hil := (List.getElem?_eq_some_iff.mp hd).1
    have hi8 : i < 8 := by omega
    have ees : endsF (ys.take (i + 1)) = SK.dput (endsF (ys.take i)) d.n d.e := by unfold endsF; rw [List.take_add_one, hd, Option.toList, List.foldl_append]; rfl
    have ems : mksF ks (ys.take (i + 1)) = mkStep ks (mksF ks (ys.take i)) d ks.length := by unfold mksF; rw [List.take_add_one, hd, Option.toList, List.foldl_append]; rfl
    have hmn := hm.ends d.n d.e
    have hdn : (dval (SK.dput (endsF (ys.take i)) d.n d.e) d.n).isSome = true := by rw [dval_put, if_pos rfl]; rfl
    have hel2 : (SK.dput (endsF (ys.take i)) d.n d.e).length ≤ i + 1 := Nat.le_trans dput_len (by omega)
    generalize endsF (ys.take i) = es at *
    generalize mksF ks (ys.take i) = mk at *
    simp only [tI, dE, List.map_cons, List.map_nil]
    ((with_reducible refine gog_tup ?_); walk_at "x5"; walk_at "x1"; walk_at "x16"; walk_at "x16"; walk_at "x16"; (with_reducible refine gogs_nil ?_); (with_reducible refine gos_sA ?_); (with_reducible refine gos_asg ?_); walk_at "x3"; walk_at "x20"; walk_at "x3"; walk_at "x0"; walk_at "x21"; (focus skip); rotate_left)
    refine ⟨by rw [imO_len]; omega, ?_⟩
    rw [imO_put (fo := fun x => O.d (.int x))]
    generalize SK.dput es d.n d.e = es2 at *
    ((with_reducible refine gos_for ?_); (with_reducible refine goi_rng1 ?_); (with_reducible refine goa_cons ?_); (with_reducible refine go_cb ?_); (with_reducible refine goa_cons ?_); walk_at "x3"; (with_reducible refine goa_nil ?_); walk_at "x14"; (with_reducible refine goa_nil ?_); walk_at "x5"; walk_at "x0"; walk_at "x1"; walk_at "x1"; (focus skip); rotate_left)
    refine ⟨fun k Γ' => ∃ (a10 : Option O), Γ' = [some (O.d (.sq (ns.map D.int))), some (O.d (.lst (ks.map D.int))), some (O.d (.lst (dr.map drD))), some (.od (imO (fun x => O.d (.int x)) es2)), some (.od (imO msO (mkStep ks mk d k))), none, none, some (O.d (.int d.e)), some (O.d (.int d.n)), some (O.d (.int d.m)), a10, none, none, none, none, none, none, none, none], ⟨_, rfl⟩, ?_, ?_⟩
    · rintro k x _ hx ⟨a10, rfl⟩
      obtain ⟨hk, rfl⟩ := rngD_get hx
      have hk3 : k < ks.length := by simpa using hk
      rw [show (0 : Int) + (k : Int) = (k : Int) by omega]
      have hmk := hmn.step (ks := ks) (d := d) hdn k
      have hln := hmk.ln
      have hgd := (hmk.gd (ks.getD k 0)).1
      have hat : atI (ks.map D.int) (k : Int) = some (.int (ks.getD k 0)) := atI_ofN.trans (by rw [List.getElem?_map, List.getD_eq_getElem?_getD, List.getElem?_eq_getElem hk3]; rfl)
      have est : mkStep ks mk d (k + 1) = mkOne ks d (mkStep ks mk d k) k := by unfold mkStep; rw [List.range_succ, List.foldl_append]; rfl
      have bY : ∀ (h : Builtin.bitAnd (d.m / 2 ^ ((k : Int)).toNat) 1 = 1), mkStep ks mk d (k + 1) = SK.dput (mkStep ks mk d k) (ks.getD k 0) (((dval (mkStep ks mk d k) (ks.getD k 0)).getD []) ++ [d.n]) := fun h => by rw [est]; exact if_pos (decide_eq_true h)
      have bN : ∀ (h : ¬ Builtin.bitAnd (d.m / 2 ^ ((k : Int)).toNat) 1 = 1), mkStep ks mk d (k + 1) = mkStep ks mk d k := fun h => by rw [est]; exact if_neg (fun q => h (of_decide_eq_true q))
      (walk_at "x2"; (with_reducible refine gos_if ?_); (with_reducible refine got_test ?_); (with_reducible refine go_op ?_); (with_reducible refine go_op ?_); (with_reducible refine go_op ?_); walk_at "x3"; walk_at "x3"; walk_at "x0"; (focus skip); rotate_left)
      refine o2_shr (by omega) ?_
      ((with_reducible refine go_int ?_); walk_at "x0"; (focus skip); rotate_left)
      refine o2_and ?_
      ((with_reducible refine go_int ?_); walk_at "x0"; (with_reducible refine o2_eqI ?_); walk_at "x5"; walk_at "x12"; walk_at "x22"; (with_reducible refine go_op ?_); walk_at "x3"; walk_at "x3"; walk_at "x0"; walk_at "x10"; (focus skip); rotate_left; (with_reducible refine gos_next ?_); walk_at "x0"; (focus skip); rotate_left)
      · rw [show at0 ks (k : Int) = ks.getD k 0 from rfl]
        refine ⟨.inl (ks.getD k 0), _, rfl, lst_mk, by simp only [List.length_map]; omega, fun F' B' => ?_⟩
        have em : O.ol (((((dval (mkStep ks mk d k) (ks.getD k 0)).getD []).map D.int).map O.d) ++ [O.d (.int d.n)]) = msO (((dval (mkStep ks mk d k) (ks.getD k 0)).getD []) ++ [d.n]) := by
          unfold msO; simp only [List.map_append]; rfl
        (walk_at "x3"; walk_at "x1"; (focus skip); rotate_left)
        rw [bY (by assumption), em, imO_put]
        exact ⟨_, rfl⟩
      · rw [bN (by assumption)]
        exact ⟨_, rfl⟩
    · rintro _ ⟨a10, rfl⟩
      rw [rngD_len, show ((((ks.map D.int).length : Nat) : Int)).toNat = ks.length by simp]
      exact ⟨_, _, _, _, by rw [ees, ems]; exact (hmn.step hdn ks.length).mono (by omega), by rw [ees]; exact hel2, by rw [ees, ems]⟩
  · rintro _ ⟨a7, a8, a9, a10, hm, hel, rfl⟩
    rw [show (ys.map fun y => tI (dE y)).length = ys.length by rw [List.length_map], List.take_length] at hm hel
    rw [show (ys.map fun y => tI (dE y)).length = ys.length by rw [List.length_map], List.take_length]
    clear hs eys
    generalize mksF ks ys = mk at *
    generalize endsF ys = es at *
    ((with_reducible refine gos_sA ?_); (with_reducible refine gos_asg ?_); (with_reducible refine go_lst ?_); (with_reducible refine goa_nil ?_); walk_at "x0"; walk_at "x1"; walk_at "x2"; (focus skip); rotate_left)
    refine gos_seq ?_
    (walk_at "x18"; (with_reducible refine gos_for ?_); (with_reducible refine goi_seq ?_); walk_at "x3"; walk_at "x0"; (focus skip); rotate_left)
    rw [esO_fz]
    refine ⟨_, .seq rfl, fun i Γ' => ∃ (a7 a8 a9 a10 a11 a12 a13 a14 a15 a16 : Option O), Γ' = [some (O.d (.sq (ns.map D.int))), some (O.d (.lst (ks.map D.int))), some (O.d (.lst (dr.map drD))), some (O.d (.dic (imK D.int es))), some (.od (imO msO mk)), some (.ol (((dr.take i).map (de1 ks mk es)).map deO)), none, a7, a8, a9, a10, a11, a12, a13, a14, a15, a16, none, none], ⟨_, _, _, _, _, _, _, _, _, _, rfl⟩, ?_, ?_⟩
    · rintro i x _ hx ⟨a7, a8, a9, a10, a11, a12, a13, a14, a15, a16, rfl⟩
      obtain ⟨d, hd, rfl⟩ := mapD_get hx
      have hdm := List.mem_of_getElem? hd
      have o := dok d hdm
      have ot := o.t1
      have ob := o.b1
      have hil := (List.getElem?_eq_some_iff.mp hd).1
      have ot2 : ((d.ts.map D.int).length : Int) ≤ 3 := by rw [List.length_map]; omega
      unfold drD iD
      ((with_reducible refine gog_tup ?_); walk_at "x5"; walk_at "x0"; walk_at "x1"; walk_at "x16"; walk_at "x16"; walk_at "x16"; walk_at "x16"; walk_at "x16"; walk_at "x16"; (with_reducible refine gogs_nil ?_); (with_reducible refine gos_sA ?_); (with_reducible refine gos_asg ?_); (with_reducible refine go_lst ?_); (with_reducible refine goa_nil ?_); walk_at "x0"; walk_at "x1"; walk_at "x2"; (with_reducible refine gos_sF ?_); (with_reducible refine gos_for ?_); (with_reducible refine goi_rng1 ?_); (with_reducible refine goa_cons ?_); (with_reducible refine go_cb ?_); (with_reducible refine goa_cons ?_); walk_at "x3"; (with_reducible refine goa_nil ?_); walk_at "x14"; (with_reducible refine goa_nil ?_); walk_at "x5"; walk_at "x0"; walk_at "x1"; walk_at "x1"; (focus skip); rotate_left)
      refine ⟨fun j Γ' => ∃ (a15 a16 : Option O), Γ' = [some (O.d (.sq (ns.map D.int))), some (O.d (.lst (ks.map D.int))), some (O.d (.lst (dr.map drD))), some (O.d (.dic (imK D.int es))), some (.od (imO msO mk)), some (.ol (((dr.take i).map (de1 ks mk es)).map deO)), none, some (O.d (.int d.e)), some (O.d (.int d.n)), some (O.d (.int d.m)), a10, some (O.d (.str (lvW d.l))), some (O.d (.lst (d.ts.map D.int))), some (O.d (.lst (d.bs.map D.int))), some (.ol ((lksF ks mk es d j).map lookO)), a15, a16, none, none], ⟨_, _, rfl⟩, ?_, ?_⟩
      · rintro j x _ hx ⟨a15, a16, rfl⟩
        obtain ⟨hj, rfl⟩ := rngD_get hx
        have hj3 : j < d.ts.length := by simpa using hj
        rw [show (0 : Int) + (j : Int) = (j : Int) by omega]
        (walk_at "x2"; (with_reducible refine gos_sA ?_); (with_reducible refine gos_asg ?_); walk_at "x0"; (focus skip); rotate_left)
        refine go_lcS D.int (fun k => bitI (d.bs.getD j 0) (fidx k ks)) D.int ?_
        (walk_at "x3"; walk_at "x0"; (focus skip); rotate_left)
        refine ⟨ks, .seq rfl, by omega, Nat.le_of_ble_eq_true rfl, by first | trivial | rfl, fun k acc hk => ?_, ?_⟩
        · try dsimp only [List.set]
          obtain ⟨f1, f2, f3⟩ := fidx_at hk
          ((with_reducible refine got_test ?_); (with_reducible refine go_op ?_); (with_reducible refine go_op ?_); (with_reducible refine go_op ?_); (with_reducible refine go_op ?_); walk_at "x3"; walk_at "x3"; walk_at "x0"; walk_at "x10"; (with_reducible refine go_lindex ?_); walk_at "x3"; walk_at "x5"; (with_reducible refine goa_cons ?_); walk_at "x3"; (with_reducible refine goa_nil ?_); walk_at "x0"; (focus skip); rotate_left)
          refine ⟨k, fidx k ks, rfl, f1, f2, ?_⟩
          skip
          refine o2_shr (by omega) ?_
          ((with_reducible refine go_int ?_); walk_at "x0"; (focus skip); rotate_left)
          refine o2_and ?_
          ((with_reducible refine go_int ?_); walk_at "x0"; (with_reducible refine o2_eqI ?_); walk_at "x5"; walk_at "x1"; walk_at "x12"; (focus skip); rotate_left; walk_at "x3"; walk_at "x0"; (focus skip); rotate_left)
          (focus (rfl)); (focus (exact ⟨by first | trivial | rfl, rfl⟩))
        (walk_at "x2"; walk_at "x7"; walk_at "x23"; (focus skip); rotate_left)
        have hfl := List.length_filter_le (fun k => bitI (d.bs.getD j 0) (fidx k ks)) ks
        refine go_lcY D.int (fun k => pairD (k, srcF ((dval mk k).getD []) es d.n (d.ts.getD j 0))) ?_
        (walk_at "x3"; walk_at "x0"; (focus skip); rotate_left)
        refine ⟨ks.filter fun k => bitI (d.bs.getD j 0) (fidx k ks), .seq rfl, by omega, Nat.le_of_ble_eq_true rfl, by first | trivial | rfl, fun k acc hk => ?_, ?_⟩
        · try dsimp only [List.set]
          ((with_reducible refine go_tupO' ?_); walk_at "x19"; walk_at "x19"; walk_at "x0"; (with_reducible refine call__law_source ?_); (with_reducible refine goa_cons ?_); (with_reducible refine go_dget2 ?_); walk_at "x3"; walk_at "x5"; walk_at "x3"; walk_at "x17"; (with_reducible refine go_lst ?_); (with_reducible refine goa_nil ?_); walk_at "x0"; walk_at "x1"; (with_reducible refine goa_cons ?_); walk_at "x3"; (with_reducible refine goa_cons ?_); walk_at "x3"; (with_reducible refine goa_cons ?_); (with_reducible refine go_op ?_); walk_at "x3"; walk_at "x3"; walk_at "x0"; walk_at "x10"; (with_reducible refine goa_nil ?_); walk_at "x0"; (focus skip); rotate_left)
          refine ⟨(dval mk k).getD [], es, d.n, d.ts.getD j 0, by rw [gd_mk]; rfl, (hm.gd k).2, ?_⟩
          ((with_reducible refine goao_nil ?_); walk_at "x0"; walk_at "x1"; walk_at "x1"; (focus skip); rotate_left)
          (focus (rfl))
        have el : (O.ol (((ks.filter fun k => bitI (d.bs.getD j 0) (fidx k ks)).map fun k => pairD (k, srcF ((dval mk k).getD []) es d.n (d.ts.getD j 0))).map O.d)) = lookO (lk1 ks mk es d.n (d.ts.getD j 0) (d.bs.getD j 0)) := by
          unfold lookO lk1; simp only [List.map_map]; rfl
        rw [el]
        refine ⟨lookO_lf, _, rfl, by rw [List.length_map, lksF_len]; omega, ?_⟩
        rw [lksF_succ, List.map_append]
        exact ⟨_, _, rfl⟩
      · rintro _ ⟨a15, a16, rfl⟩
        rw [rngD_len, show ((((d.ts.map D.int).length : Nat) : Int)).toNat = d.ts.length by simp]
        (walk_at "x7"; (with_reducible refine go_tupO' ?_); walk_at "x19"; walk_at "x19"; walk_at "x19"; (with_reducible refine goao_nil ?_); walk_at "x1"; walk_at "x5"; (focus skip); rotate_left)
        refine ⟨by simp only [List.length_map, List.length_take]; omega, ?_⟩
        rw [List.take_add_one, hd, Option.toList, List.map_append, List.map_append]
        exact ⟨_, _, _, _, _, _, _, _, _, _, rfl⟩
    · rintro _ ⟨a7, a8, a9, a10, a11, a12, a13, a14, a15, a16, rfl⟩
      rw [List.length_map, List.take_length]
      have tk0 : TOk (tale0 ns) := by
        rw [et]
        refine ⟨by simp only [List.length_map]; exact dl, fun x hx => ?_, hm.nd, by have := hm.ln; show mk.length ≤ 100; omega, fun p hp2 => by have := (hm.al p hp2).1; omega⟩
        obtain ⟨d, hd, rfl⟩ := List.mem_map.mp hx
        have o := dok d hd
        have ot := o.t1
        refine ⟨by show (lksF ks mk es d d.ts.length).length ≤ 100; rw [lksF_len]; omega, fun l hl => ?_⟩
        obtain ⟨j, _, rfl⟩ := List.mem_map.mp (show l ∈ lksF ks mk es d d.ts.length from hl)
        show (List.map _ _).length ≤ 100
        rw [List.length_map]
        exact Nat.le_trans (List.length_filter_le _ _) (by omega)
      have e0 : taleI ns 0 = (dr.map (de1 ks mk es), mk) := et
      have tkI : TOk (taleI ns 0) := tk0
      refine gos_lab (i := 5) (p := []) rfl rfl (refO_ol (xs := _)) fun ad => ?_
      refine gos_lab (i := 4) (p := []) rfl rfl (refO_od (xs := _)) fun am => ?_
      dsimp only [List.set, O.setP]
      ((with_reducible refine gos_sF ?_); (with_reducible refine gos_for ?_); (with_reducible refine goi_seq ?_); (with_reducible refine go_sl ?_); walk_at "x3"; (with_reducible refine goo_some ?_); (with_reducible refine go_int ?_); walk_at "x5"; (with_reducible refine goo_some ?_); (with_reducible refine go_int ?_); walk_at "x5"; walk_at "x0"; walk_at "x24"; walk_at "x0"; (focus skip); rotate_left)
      refine ⟨_, .seq rfl, fun i Γ' => ∃ (a6 : Option O), TOk (taleI ns i) ∧ Γ' = [some (O.d (.sq (ns.map D.int))), some (O.d (.lst (ks.map D.int))), some (O.d (.lst (dr.map drD))), some (O.d (.dic (imK D.int es))), some (.atA am (.od (imO msO (taleI ns i).2))), some (.atA ad (.ol ((taleI ns i).1.map deO))), a6, a7, a8, a9, a10, a11, a12, a13, a14, a15, a16, none, none], ⟨none, tkI, by rw [e0]⟩, ?_, ?_⟩
      · rintro i x _ hx ⟨a6, tk, rfl⟩
        obtain ⟨c, hc, rfl⟩ := mapD_get hx
        have hst := taleI_succ hc
        have tk2 := tk.step c
        rw [← hst] at tk2
        have sN : ¬ (c % 6 = 0 ∧ (taleI ns i).1 ≠ []) → taleI ns (i + 1) = taleI ns i := fun h => by rw [hst]; exact if_neg h
        have sY : (c % 6 = 0 ∧ (taleI ns i).1 ≠ []) → taleI ns (i + 1) = spoilF (taleI ns i).1 (taleI ns i).2 (c / 6) := fun h => by rw [hst]; exact if_pos h
        have q0 : ((taleI ns i).1.map deD).isEmpty = true → (taleI ns i).1 = [] := fun h => by
          cases e : (taleI ns i).1 with
          | nil => rfl
          | cons x r => rw [e] at h; cases h
        have q1 : ((taleI ns i).1.map deD).isEmpty = false → (taleI ns i).1 ≠ [] := fun h e => by rw [e] at h; cases h
        (walk_at "x2"; (with_reducible refine gos_if ?_); walk_at "x25"; (with_reducible refine got_and ?_); (with_reducible refine got_test ?_); (with_reducible refine go_op ?_); (with_reducible refine go_op ?_); walk_at "x3"; (with_reducible refine go_int ?_); walk_at "x0"; walk_at "x4"; (with_reducible refine go_int ?_); walk_at "x0"; (with_reducible refine o2_eqI ?_); walk_at "x5"; walk_at "x12"; (with_reducible refine got_test ?_); (with_reducible refine go_op ?_); walk_at "x3"; (with_reducible refine go_lst ?_); (with_reducible refine goa_nil ?_); walk_at "x0"; walk_at "x1"; (focus skip); rotate_left; walk_at "x12"; (with_reducible refine gos_next ?_); walk_at "x0"; (focus skip); rotate_left)
        · refine o2_neNil 5 (Shp.lstM shp_de) (by decide) ?_
          (walk_at "x5"; walk_at "x12"; (with_reducible refine gos_drop ?_); walk_at "x0"; (focus skip); rotate_left; (with_reducible refine gos_next ?_); walk_at "x0"; (focus skip); rotate_left)
          · rename_i h6 hE
            have hne := q1 hE
            rw [sY ⟨h6, hne⟩] at tk2 ⊢
            refine call__law_spoiled (us := [(ad, _), (am, _)]) (Punch.cons (i := 5) (p := []) (Punch.cons (i := 4) (p := []) Punch.nil rfl rfl rfl) rfl rfl rfl) views_fz fun F1 B1 => ?_
            simp only [fzE_cons, fzE_nil, frO_none, frO_some, O.fz, O.setP, List.set]
            ((with_reducible refine goa_cons ?_); walk_at "x3"; (with_reducible refine goa_cons ?_); walk_at "x3"; (with_reducible refine goa_cons ?_); (with_reducible refine go_op ?_); walk_at "x3"; (with_reducible refine go_int ?_); walk_at "x0"; walk_at "x11"; (with_reducible refine goa_nil ?_); walk_at "x0"; walk_at "x1"; (focus skip); rotate_left)
            refine ⟨ad, am, (taleI ns i).1, (taleI ns i).2, c / 6, .own (.own (.dat .nil)), hne, tk.nd, tk.m1, tk.c1, by have := tk.n1; omega, tk.k1, _, _, .own (.own (.dat .nil)), Plug.cons (i := 5) (p := []) rfl rfl (Plug.cons (i := 4) (p := []) rfl rfl Plug.nil), ?_⟩
            exact ⟨_, tk2, rfl⟩
          all_goals first
            | (rename_i hE; rw [sN (fun z => z.2 (q0 hE))] at tk2 ⊢; exact ⟨_, tk2, rfl⟩)
            | (rename_i hE hT; rw [sN (fun z => z.2 (q0 hE))] at tk2 ⊢; exact ⟨_, tk2, rfl⟩)
        · rename_i h6 hT
          rw [sN (fun z => h6 z.1)] at tk2 ⊢
          exact ⟨_, tk2, rfl⟩
      · rintro _ ⟨a6, tk, rfl⟩
        rw [List.length_map, taleI_end] at tk ⊢
        refine gos_wkn (i := 4) rfl wkn_un ?_
        refine gos_wkn (i := 5) rfl wkn_un ?_
        dsimp only [List.set]
        refine gos_frz 4 rfl ?_
        simp only [O.fz, mkO_fz]
        dsimp only [List.set]
        unfold taleO
        have hm2 := tk.m1
        generalize (taleF ns).2 = mk2 at *
        generalize (taleF ns).1 = ds2 at *
        ((with_reducible refine gos_ret ?_); (with_reducible refine go_tupO' ?_); walk_at "x19"; walk_at "x19"; (focus skip); rotate_left)
        refine go_lcY D.int (mkPr mk2) ?_
        (walk_at "x23"; (with_reducible refine go_cb ?_); (with_reducible refine goa_cons ?_); walk_at "x3"; (with_reducible refine goa_nil ?_); walk_at "x0"; (focus skip); rotate_left)
        refine oa_sortI (by omega) ?_
        (walk_at "x0"; walk_at "x1"; (focus skip); rotate_left)
        refine ⟨srt (mk2.map (·.1)), .seq rfl, by rw [srt_len, List.length_map]; omega, Nat.le_of_ble_eq_true rfl, by first | trivial | rfl, fun k acc hk => ?_, ?_⟩
        · try dsimp only [List.set]
          obtain ⟨v, hv⟩ := Option.isSome_iff_exists.mp (dval_mem.mpr (srt_mem.mp hk))
          have e1 : dval (imK iD mk2) (.inl k) = some (iD v) := by rw [dval_im, hv]; rfl
          have e2 : mkPr mk2 k = .tup [.int k, iD v] := by unfold mkPr; rw [hv]; rfl
          rw [e2]
          ((with_reducible refine go_tupO' ?_); walk_at "x19"; walk_at "x19"; (with_reducible refine go_op ?_); walk_at "x3"; walk_at "x3"; walk_at "x0"; (focus skip); rotate_left)
          refine o2_ixDI e1 ?_
          ((with_reducible refine goao_nil ?_); walk_at "x0"; walk_at "x1"; (focus skip); rotate_left)
          (focus (exact ⟨by first | trivial | rfl, rfl⟩))
        ((with_reducible refine goao_nil ?_); walk_at "x1"; (focus skip); rotate_left)
        (focus (rfl))
theorem cal__law_longer (D : Df K mg "_law_longer" s__law_longer) {a_SkewError a_NoLevel a_NoHistory a_WHYS a_Loose a_Kept a_Make a_Watch a_Hold : Addr} (XX : XF K mg a_SkewError a_NoLevel a_NoHistory a_WHYS a_Loose a_Kept a_Make a_Watch a_Hold) (c__law_tale : Cal P w K mg base "_law_tale" 3 ["_law_script"] (C__law_tale mg)) (c__law_cell_at : Cal P w K mg base "_law_cell_at" 1 ["_law_script", "_law_k"] (C__law_cell_at mg)) (b_len : mg "len" = none) (b_range : mg "range" = none) : Cal P w K mg base "_law_longer" 4 ["_law_script"] (C__law_longer mg) := by
  obtain ⟨f, fd, F, mf⟩ := D
  obtain ⟨f__law_tale, fd__law_tale, G__law_tale, g__law_tale, k__law_tale, bn__law_tale, _⟩ := c__law_tale
  obtain ⟨f__law_cell_at, fd__law_cell_at, G__law_cell_at, g__law_cell_at, k__law_cell_at, bn__law_cell_at, _⟩ := c__law_cell_at
  refine ⟨f, fd, ?_, mf, F.kp, F.binds (ps := ["_law_script"]) fun _ _ _ _ _ _ us hl => match us, hl with | [_], _ => rfl, Fun.lk F⟩
  refine F.ok sc__law_longer (fun vs H Q E hS0 => spP_len (n := 1) (fun xs p q c0 => by unfold C__law_longer at c0; obtain ⟨_, rfl, _⟩ := c0; rfl) hS0) (fun cdv A outer s H vs Q E hr hS0 => ?_)
  have hu := hu_of hr
  refine sp_body hS0 (fun B xs p q c0 hl0 wx => ?_)
  obtain ⟨ns, rfl, hp0, rfl, rfl⟩ := c0
  refine ⟨_, (pss_cons (ps_asg (pe_call G__law_tale hr rfl g__law_tale k__law_tale bn__law_tale .nil pass0 (pa_cons (pv 0) pa_nil)) (pg_name (i := 1) sc__law_longer.nd rfl (by first | exact Or.inl rfl | exact Or.inr rfl)))
      (pss_cons (ps_asg (pe_op op_divG (pe_call G__law_cell_at (hr.mono (by decide)) rfl g__law_cell_at k__law_cell_at bn__law_cell_at .nil pass0 (pa_cons (pv 0) (pa_cons pe_int pa_nil))) pe_int) (pg_name (i := 2) sc__law_longer.nd rfl (by first | exact Or.inl rfl | exact Or.inr rfl)))
      (pss_cons (ps_if (pt_lendV (PW.pt (pw_and (pt_cmpR (k_eq (K := K) rfl hr.units) (pe_op op_modG (pv 2) pe_int) pe_int (nomark _)) (pw_and1 (pt_cmpR (k_ne (K := K) rfl hr.units) (pe_ix (k_ix (K := K) rfl hu) (pv 1) pe_int (fun _ _ => rfl)) (pe_lst pa_nil) (nomark _))))))
        (pss_cons (ps_asg (pe_lendV (pe_op op_modG (pe_op op_divG (pv 2) pe_int) (pe_callB (k_len (K := K) rfl) (by rfl) b_len (by decide +kernel) (pa_cons (pe_ix (k_ix (K := K) rfl hu) (pv 1) pe_int (fun _ _ => rfl)) pa_nil)))) (pg_name (i := 3) sc__law_longer.nd rfl (by first | exact Or.inl rfl | exact Or.inr rfl)))
        (pss_cons (ps_asg (pe_lendV (pe_ix (k_ix (K := K) rfl hu) (pe_ix (k_ix (K := K) rfl hu) (pv 1) pe_int (fun _ _ => rfl)) (pv 3) (fun _ _ => rfl))) (k_tup (K := K) (n := 3) rfl (by rfl) (pgs_cons (pg_name (i := 4) sc__law_longer.nd rfl (by first | exact Or.inl rfl | exact Or.inr rfl)) (pgs_cons (pg_name (i := 5) sc__law_longer.nd rfl (by first | exact Or.inl rfl | exact Or.inr rfl)) (pgs_cons (pg_name (i := 6) sc__law_longer.nd rfl (by first | exact Or.inl rfl | exact Or.inr rfl)) pgs_nil)))))
        (pss_cons (ps_expr (k_bm (K := K) rfl (pe_bm PySem.F.plainAttrs_list PySem.F.slot_list_extend PySem.F.type_list_extend mt_extend (pv 6) (pa_cons (pe_lc (own := [("_law_k", 7)]) rfl sc__law_longer.nd (pi_range1 (by rfl) b_range (pa_cons (pe_op op_modG (pe_op op_divG (pv 2) pe_int) pe_int) pa_nil)) (blkOk_by (N := N__law_longer) (sc := defScope s__law_longer) (by decide +kernel)) (fun _ _ _ _ _ => (pg_name (i := 7) sc__law_longer.nd rfl (by first | exact Or.inl rfl | exact Or.inr rfl))) (fun _ _ _ _ _ => pts_nil) (fun _ _ _ _ _ => (pe_lst pa_nil))) pa_nil))))
        (pss_cons (ps_if (pt_lendV (PW.pt (pw_and (pt_cmpR (k_ne (K := K) rfl hr.units) (pv 6) (pe_lst pa_nil) (nomark _)) (pw_and (pt_cmpR (k_eq (K := K) rfl hr.units) (pe_ix (k_ix (K := K) rfl hu) (pv 6) (pe_un un_neg pe_int) (fun _ _ => rfl)) (pe_lst pa_nil) (nomark _)) (pw_and1 (pt_cmpR (k_ne (K := K) rfl hr.units) (pe_ix (k_ix (K := K) rfl hu) (pv 1) pe_int (fun _ _ => rfl)) (pe_lst pa_nil) (nomark _)))))))
          (pss_one (ps_asg (pe_lendV (pe_lst (pa_cons (pe_tupO (pe_tup (pa_cons (pe_ix (k_ix (K := K) rfl hu) (pe_ix (k_ix (K := K) rfl hu) (pe_ix (k_ix (K := K) rfl hu) (pv 1) pe_int (fun _ _ => rfl)) pe_int (fun _ _ => rfl)) pe_int (fun _ _ => rfl)) (pa_cons pe_int pa_nil)))) pa_nil))) (pg_sub (pv 6) (pe_un un_neg pe_int) (set_G hu))))
          pss_nil)
        (pss_one (ps_asg (pe_tupO (pe_tup (pa_cons (pv 4) (pa_cons pe_str (pa_cons (pv 6) pa_nil))))) (pg_sub (pe_ix (k_ix (K := K) rfl hu) (pv 1) pe_int (fun _ _ => rfl)) (pv 3) (set_G hu))))))))
        pss_nil)
      (pss_one (ps_ret (pe_mv (pv 1))))))), ?_⟩
  clear hS0 hl0 hr hu wx G__law_tale g__law_tale k__law_tale bn__law_tale G__law_cell_at g__law_cell_at k__law_cell_at bn__law_cell_at b_len b_range
  have X_r_WHYS := XX.r_WHYS
  have X_g_Loose := XX.g_Loose
  have X_R_Loose := XX.R_Loose
  have X_g_Kept := XX.g_Kept
  have X_R_Kept := XX.R_Kept
  have X_g_Make := XX.g_Make
  have X_R_Make := XX.R_Make
  have X_g_Watch := XX.g_Watch
  have X_R_Watch := XX.R_Watch
  have X_g_Hold := XX.g_Hold
  have X_R_Hold := XX.R_Hold
  simp only [List.map_cons, List.map_nil, List.length_cons, List.length_nil, List.cons_append, List.nil_append, Nat.reduceAdd, Nat.reduceSub, List.replicate_succ, List.replicate_zero, N__law_longer]
  have tk := taleF_ok ns
  ((with_reducible refine gos_sA ?_); (with_reducible refine gos_asg ?_); walk_at "x0"; (with_reducible refine call__law_tale ?_); (with_reducible refine goa_cons ?_); walk_at "x3"; (with_reducible refine goa_nil ?_); walk_at "x5"; walk_at "x1"; walk_at "x2"; (with_reducible refine gos_sA ?_); (with_reducible refine gos_asg ?_); (with_reducible refine go_op ?_); walk_at "x0"; (with_reducible refine call__law_cell_at ?_); (with_reducible refine goa_cons ?_); walk_at "x3"; (with_reducible refine goa_cons ?_); (with_reducible refine go_int ?_); (with_reducible refine goa_nil ?_); walk_at "x0"; walk_at "x9"; walk_at "x1"; (with_reducible refine go_int ?_); walk_at "x0"; walk_at "x11"; walk_at "x2"; (focus skip); rotate_left)
  unfold taleO
  have hD : longO ns = .op [.ol ((longD ns).map deO), .ol ((mkL (taleF ns).2).map O.d)] := rfl
  rw [hD]
  have lN : ¬ (cellN ns 0 / 256 % 8 = 3 ∧ (taleF ns).1 ≠ []) → longD ns = (taleF ns).1 := fun h => if_neg h
  refine gos_seq ?_
  refine gos_if ?_
  refine got_lendV' views_fz fun F' B' => ?_
  simp only [fzE_cons, fzE_nil, frO_none, frO_some, O.fz, fzL, fz_fl, List.set, desO_fz]
  have q1 : ((taleF ns).1.map deD).isEmpty = false → (taleF ns).1 ≠ [] := fun h e => by rw [e] at h; cases h
  have q0 : ((taleF ns).1.map deD).isEmpty = true → (taleF ns).1 = [] := fun h => by
    cases e : (taleF ns).1 with
    | nil => rfl
    | cons x r => rw [e] at h; cases h
  ((with_reducible refine got_and ?_); (with_reducible refine got_test ?_); (with_reducible refine go_op ?_); (with_reducible refine go_op ?_); walk_at "x3"; (with_reducible refine go_int ?_); walk_at "x0"; walk_at "x4"; (with_reducible refine go_int ?_); walk_at "x0"; (with_reducible refine o2_eqI ?_); walk_at "x5"; walk_at "x12"; (with_reducible refine got_test ?_); (with_reducible refine go_op ?_); (with_reducible refine go_op ?_); walk_at "x3"; (with_reducible refine go_int ?_); walk_at "x0"; walk_at "x10"; (with_reducible refine go_lst ?_); (with_reducible refine goa_nil ?_); walk_at "x0"; walk_at "x1"; (focus skip); rotate_left; walk_at "x12"; (with_reducible refine gos_next ?_); (with_reducible refine gos_ret ?_); walk_at "x15"; (focus skip); rotate_left)
  · refine o2_neNil 5 (Shp.lstM shp_de) (by decide) ?_
    (walk_at "x5"; walk_at "x12"; (with_reducible refine gos_sA ?_); (with_reducible refine gos_asg ?_); walk_at "x0"; (focus skip); rotate_left; (with_reducible refine gos_next ?_); (with_reducible refine gos_ret ?_); walk_at "x15"; (focus skip); rotate_left)
    rotate_left
    · first
        | (rename_i hE; rw [lN (fun z => z.2 (q0 hE))])
        | (rename_i hE hT; rw [lN (fun z => z.2 (q0 hE))])
    rename_i h8 hE
    have hne := q1 hE
    have hn0 : 0 < (taleF ns).1.length := List.length_pos_iff.mpr hne
    have hn1 : (0 : Int) < ((taleF ns).1.length : Int) := by omega
    refine go_lendV' views_fz fun F' B' => ?_
    simp only [fzE_cons, fzE_nil, frO_none, frO_some, O.fz, fzL, fz_fl, List.set, desO_fz]
    ((with_reducible refine go_op ?_); (with_reducible refine go_op ?_); walk_at "x3"; (with_reducible refine go_int ?_); walk_at "x0"; walk_at "x11"; (with_reducible refine go_cb ?_); (with_reducible refine goa_cons ?_); (with_reducible refine go_op ?_); walk_at "x3"; (with_reducible refine go_int ?_); walk_at "x0"; walk_at "x10"; (with_reducible refine goa_nil ?_); walk_at "x14"; walk_at "x0"; (focus skip); rotate_left)
    simp only [List.length_map]
    (walk_at "x4"; walk_at "x1"; walk_at "x2"; (with_reducible refine gos_sA ?_); (with_reducible refine gos_asg ?_); walk_at "x0"; (focus skip); rotate_left)
    have hi := ixE_lt (n := cellN ns 0 / 256 / 8) hn0
    have hix : (cellN ns 0 / 256 / 8 % ((taleF ns).1.length : Int)).toNat = ixE (cellN ns 0 / 256 / 8) (taleF ns).1.length := rfl
    obtain ⟨d, hd⟩ : ∃ d, (taleF ns).1[ixE (cellN ns 0 / 256 / 8) (taleF ns).1.length]? = some d := ⟨_, List.getElem?_eq_getElem hi⟩
    have lY : longD ns = (taleF ns).1.set (ixE (cellN ns 0 / 256 / 8) (taleF ns).1.length) ⟨d.n, .kept, longK d.ks (cellN ns 0 / 256 / 64 % 38).toNat (srt ((taleF ns).2.map (·.1)))⟩ := by
      unfold longD
      rw [if_pos ⟨h8, hne⟩]
      simp only [hd]
    rw [lY]
    have hix0 := Int.emod_nonneg (cellN ns 0 / 256 / 8) (show ((taleF ns).1.length : Int) ≠ 0 by omega)
    generalize ixE (cellN ns 0 / 256 / 8) (taleF ns).1.length = i at *
    generalize cellN ns 0 / 256 / 8 % ((taleF ns).1.length : Int) = iI at *
    have hO : ((taleF ns).1.map deO)[i]? = some (.op [.d (.int d.n), .d (.str (lvW d.l)), .ol (d.ks.map lookO)]) := by rw [List.getElem?_map, hd]; rfl
    refine go_lab (i := 1) rfl (getP_t hO) refO_ol fun aL => ?_
    rw [setP_t hO]
    dsimp only [List.set]
    have hO2 : (((taleF ns).1.map deO).set i (.op [.d (.int d.n), .d (.str (lvW d.l)), .atA aL (.ol (d.ks.map lookO))]))[i]? = some (.op [.d (.int d.n), .d (.str (lvW d.l)), .atA aL (.ol (d.ks.map lookO))]) := List.getElem?_set_self (by simpa using hi)
    refine go_lendV' (views_wk (i := 1) rfl (wkn_setP (wkn_ref rfl) (getP_t hO2)) views_fz) fun F' B' => ?_
    rw [setP_t hO2]
    simp only [fzE_cons, fzE_nil, frO_none, frO_some, O.fz, fzL_set, fz_fl, List.set, List.set_set, desO_fz, fzL]
    ((with_reducible refine go_op ?_); (with_reducible refine go_op ?_); walk_at "x3"; (with_reducible refine go_int ?_); walk_at "x0"; walk_at "x10"; walk_at "x3"; walk_at "x0"; (focus skip); rotate_left)
    refine o2_ix rfl (atI_nat' (y := .tup [.int d.n, .str (lvW d.l), .ref aL]) hix0 (by rw [hix]; exact List.getElem?_set_self (by simpa using hi))) ?_
    refine ⟨rfl, ?_⟩
    refine gog_tup ⟨_, rfl, rfl, ?_⟩
    refine gogs_name (Nat.le_of_ble_eq_true rfl) (gogs_name (Nat.le_of_ble_eq_true rfl) (gogs_name (Nat.le_of_ble_eq_true rfl) (gogs_nil ?_)))
    dsimp only [List.set]
    refine gos_sD ?_
    refine' gos_extA (xs := []) (i := 1) (p := [.idx 0, .idx i, .idx 2]) (a := aL) ?hv ?ev ?e0 ?g ?h
    (case hv => exact views_fz)
    (case e0 => exact rfl)
    (case g => exact getP_t hO2)
    case ev =>
      intro F' B'
      simp only [fzE_cons, fzE_nil, frO_none, frO_some, O.fz]
      (walk_at "x3"; walk_at "x0")
    refine go_lcI ?_
    ((with_reducible refine goi_rng1 ?_); (with_reducible refine goa_cons ?_); (with_reducible refine go_op ?_); (with_reducible refine go_op ?_); walk_at "x3"; (with_reducible refine go_int ?_); walk_at "x0"; walk_at "x11"; (with_reducible refine go_int ?_); walk_at "x0"; walk_at "x4"; (with_reducible refine goa_nil ?_); walk_at "x5"; walk_at "x1"; walk_at "x1"; (focus skip); rotate_left)
    have hm0 := Int.emod_nonneg (cellN ns 0 / 256 / 64) (show (38 : Int) ≠ 0 by decide)
    have hm1 := Int.emod_lt_of_pos (cellN ns 0 / 256 / 64) (show (0 : Int) < 38 by decide)
    generalize cellN ns 0 / 256 / 64 % 38 = m at *
    refine ⟨by rw [rngD_len]; omega, fun j hj => by rw [List.mem_singleton.mp hj]; rfl, fun n acc => acc = List.replicate n (.ol []), rfl, fun n acc h => by rw [h, List.length_replicate]; exact Nat.le_refl _, fun n x acc hx e => ?_, fun acc e => ?_⟩
    · obtain ⟨_, rfl⟩ := rngD_get hx
      (walk_at "x26"; (with_reducible refine got_yes ?_); walk_at "x0"; walk_at "x12"; (with_reducible refine go_lst ?_); (with_reducible refine goa_nil ?_); walk_at "x1"; (focus skip); rotate_left)
      (focus ((refine ⟨?_, rfl⟩; rw [e, List.replicate_succ']; rfl)))
    rw [rngD_len] at e
    have ke : (d.ks.map lookO ++ acc) = (d.ks ++ List.replicate m.toNat []).map lookO := by rw [e, List.map_append, List.map_replicate]; rfl
    have kl : (d.ks ++ List.replicate m.toNat ([] : List Pr)).length ≤ 200 := by
      rw [List.length_append, List.length_replicate]
      have := (tk.k1 d (List.mem_of_getElem? hd)).1
      omega
    refine ⟨1, _, [.idx 0, .idx i, .idx 2], _, _, rfl, rfl, getP_t hO2, ?_, ?_⟩
    · have := (tk.k1 d (List.mem_of_getElem? hd)).1
      rw [e, List.length_map, List.length_replicate]; omega
    rw [setP_t hO2, List.set_set, ke]
    unfold longK
    generalize d.ks ++ List.replicate m.toNat [] = k1 at *
    dsimp only [List.set]
    have hO4 : (((taleF ns).1.map deO).set i (.op [.d (.int d.n), .d (.str (lvW d.l)), .atA aL (.ol (k1.map lookO))]))[i]? = some (.op [.d (.int d.n), .d (.str (lvW d.l)), .atA aL (.ol (k1.map lookO))]) := List.getElem?_set_self (by simpa using hi)
    have hlast : ∀ (ls : List (List Pr)), ls ≠ [] → atI (ls.map lookD) (-1) = some (lookD (ls.getLastD [(0, 0)])) := fun ls h => atI_last h
    generalize hk2 : (if k1 ≠ [] ∧ k1.getLastD [(0, 0)] = [] ∧ srt ((taleF ns).2.map (·.1)) ≠ [] then k1.set (k1.length - 1) [((srt ((taleF ns).2.map (·.1))).headD 0, 0)] else k1) = k2
    have kN : ¬ (k1 ≠ [] ∧ k1.getLastD [(0, 0)] = [] ∧ srt ((taleF ns).2.map (·.1)) ≠ []) → k2 = k1 := fun h => by rw [← hk2, if_neg h]
    refine gos_cut (fun Γ' => Γ' = [some (O.d (D.sq (ns.map D.int))), some (O.op [O.ol (((taleF ns).1.map deO).set i (O.op [O.d (D.int d.n), O.d (D.str (lvW d.l)), O.atA aL (O.ol (k2.map lookO))])), O.ol ((mkL (taleF ns).2).map O.d)]), some (O.d (D.int (cellN ns 0 / 256))), some (O.d (D.int iI)), some (O.d (D.int d.n)), some (O.d (D.str (lvW d.l))), some (O.d (D.ref aL)), none]) ?_ ?_
    · refine gos_if ?_
      refine got_lendV' (views_up (j := 6) (i := 1) rfl rfl (getP_t hO4) rfl wkn_un views_fz) fun F' B' => ?_
      simp only [fzE_cons, fzE_nil, frO_none, frO_some, O.fz, fzL_set, fz_fl, List.set, List.set_set, desO_fz, fzL, lksO_fz]
      ((with_reducible refine got_and ?_); (with_reducible refine got_test ?_); (with_reducible refine go_op ?_); walk_at "x3"; (with_reducible refine go_lst ?_); (with_reducible refine goa_nil ?_); walk_at "x0"; walk_at "x1"; (focus skip); rotate_left)
      refine o2_neNil 3 (Shp.lstM shp_look) (by decide) ?_
      (walk_at "x5"; walk_at "x12"; (with_reducible refine got_and ?_); (with_reducible refine got_test ?_); (with_reducible refine go_op ?_); (with_reducible refine go_op ?_); walk_at "x3"; (with_reducible refine go_un ?_); (with_reducible refine go_int ?_); walk_at "x0"; (with_reducible refine o1_neg ?_); walk_at "x0"; (focus skip); rotate_left; walk_at "x12"; (with_reducible refine gos_next ?_); walk_at "x0"; (focus skip); rotate_left)
      rotate_left
      · have : k1 = [] := by
          cases k1 with
          | nil => rfl
          | cons x r => simp_all
        rw [kN (fun z => z.1 this)]
      have hk1 : k1 ≠ [] := fun h => by subst h; simp_all
      refine o2_ix rfl (hlast k1 hk1) ?_
      generalize hla : k1.getLastD [(0, 0)] = la at *
      ((with_reducible refine go_lst ?_); (with_reducible refine goa_nil ?_); walk_at "x0"; walk_at "x1"; (focus skip); rotate_left)
      refine o2_eqNil (xs := la.map pairD) 2 (Shp.lstM shp_pair) (by decide) ?_
      (walk_at "x5"; walk_at "x12"; (with_reducible refine got_test ?_); (with_reducible refine go_op ?_); (with_reducible refine go_op ?_); walk_at "x3"; (with_reducible refine go_int ?_); walk_at "x0"; walk_at "x10"; (with_reducible refine go_lst ?_); (with_reducible refine goa_nil ?_); walk_at "x0"; walk_at "x1"; (focus skip); rotate_left; walk_at "x12"; (with_reducible refine gos_next ?_); walk_at "x0"; (focus skip); rotate_left)
      rotate_left
      · have : la ≠ [] := fun h => by subst h; simp_all
        rw [kN (fun z => this z.2.1)]
      have hla0 : la = [] := by
        cases la with
        | nil => rfl
        | cons x r => simp_all
      subst hla0
      have hmkL : mkL (taleF ns).2 = (srt ((taleF ns).2.map (·.1))).map (mkPr (taleF ns).2) := rfl
      rw [hmkL]
      generalize hS : srt ((taleF ns).2.map (·.1)) = S at *
      skip
      refine o2_neNil (xs := S.map (mkPr (taleF ns).2)) 3 (Shp.lstM fun k => Shp.tup fun z hz => ?_) (by decide) ?_
      · simp only [List.mem_cons, List.not_mem_nil, or_false] at hz
        rcases hz with rfl | rfl
        · exact .int
        · exact Shp.ints
      (walk_at "x5"; walk_at "x12"; (with_reducible refine gos_asg ?_); walk_at "x0"; (focus skip); rotate_left; (with_reducible refine gos_next ?_); walk_at "x0"; (focus skip); rotate_left)
      rotate_left
      · have : S = [] := by
          cases S with
          | nil => rfl
          | cons x r => simp_all
        rw [kN (fun z => z.2.2 this)]
      obtain ⟨k0, S', rfl⟩ : ∃ k0 S', S = k0 :: S' := by
        cases S with
        | nil => simp_all
        | cons x r => exact ⟨_, _, rfl⟩
      have kY : k2 = k1.set (k1.length - 1) [(k0, 0)] := by rw [← hk2, if_pos ⟨hk1, rfl, by simp⟩]; rfl
      have hl1 : 0 < k1.length := List.length_pos_iff.mpr hk1
      refine go_lendV' views_fz fun F' B' => ?_
      simp only [fzE_cons, fzE_nil, frO_none, frO_some, O.fz, fzL_set, fz_fl, List.set, List.set_set, desO_fz, fzL, lksO_fz]
      ((with_reducible refine go_lst ?_); (with_reducible refine goa_cons ?_); (with_reducible refine go_tupO' ?_); walk_at "x19"; (with_reducible refine go_op ?_); (with_reducible refine go_op ?_); (with_reducible refine go_op ?_); walk_at "x3"; (with_reducible refine go_int ?_); walk_at "x0"; walk_at "x10"; (with_reducible refine go_int ?_); walk_at "x0"; walk_at "x10"; (with_reducible refine go_int ?_); walk_at "x0"; walk_at "x10"; walk_at "x19"; (with_reducible refine go_int ?_); (with_reducible refine goao_nil ?_); walk_at "x0"; walk_at "x1"; (with_reducible refine goa_nil ?_); walk_at "x1"; walk_at "x1"; (focus skip); rotate_left)
      refine gog_setLA (i := 1) (p := [.idx 0, .idx i, .idx 2]) views_fz views_fz (fun F' B' => ?_) rfl (getP_t hO4) fun F' B' => ?_
      · simp only [fzE_cons, fzE_nil, frO_none, frO_some, O.fz]
        (walk_at "x3"; walk_at "x0")
      ((with_reducible refine go_un ?_); (with_reducible refine go_int ?_); walk_at "x0"; (with_reducible refine o1_neg ?_); (focus skip); rotate_left)
      refine ⟨_, k1.length - 1, rfl, ?_, by simp only [List.length_map]; omega, ?_⟩
      · unfold ixN
        simp only [List.length_map]
        rw [if_neg (by decide), if_pos (by omega)]
        congr 1; omega
      rw [setP_t hO4, List.set_set, kY, List.map_set]
      rfl
    rintro _ rfl
    have hO5 : (((taleF ns).1.map deO).set i (.op [.d (.int d.n), .d (.str (lvW d.l)), .atA aL (.ol (k2.map lookO))]))[i]? = some (.op [.d (.int d.n), .d (.str (lvW d.l)), .atA aL (.ol (k2.map lookO))]) := List.getElem?_set_self (by simpa using hi)
    refine gos_mvA (i := 1) (j := 6) (q := []) rfl (getP_t hO5) rfl rfl rfl ?_
    rw [setP_t hO5, List.set_set]
    dsimp only [List.set]
    refine gos_lab (i := 1) (p := [.idx 0]) rfl rfl refO_ol fun aT => ?_
    ((with_reducible refine gos_asg ?_); (with_reducible refine go_tupO' ?_); walk_at "x19"; walk_at "x19"; (with_reducible refine go_str ?_); walk_at "x19"; (with_reducible refine goao_nil ?_); walk_at "x1"; (focus skip); rotate_left)
    rw [show (O.d (D.ref aL)).setP (O.atA aL (O.ol (k2.map lookO))) [] = O.atA aL (O.ol (k2.map lookO)) from rfl]
    rw [show (O.op [O.ol (((taleF ns).1.map deO).set i (O.op [O.d (D.int d.n), O.d (D.str (lvW d.l)), O.d (D.ref aL)])), O.ol ((mkL (taleF ns).2).map O.d)]).setP (O.atA aT (O.ol (((taleF ns).1.map deO).set i (O.op [O.d (D.int d.n), O.d (D.str (lvW d.l)), O.d (D.ref aL)])))) [.idx 0] = O.op [O.atA aT (O.ol (((taleF ns).1.map deO).set i (O.op [O.d (D.int d.n), O.d (D.str (lvW d.l)), O.d (D.ref aL)]))), O.ol ((mkL (taleF ns).2).map O.d)] from rfl]
    refine gog_setLA (i := 1) (p := [.idx 0]) (a := aT) (views_wk (i := 1) rfl (wkn_setP (p := [.idx 0]) (wkn_ref (a := aT) rfl) rfl) views_fz) views_fz (fun F' B' => ?_) rfl rfl fun F' B' => ?_
    · rw [show (O.op [O.atA aT (O.ol (((taleF ns).1.map deO).set i (O.op [O.d (D.int d.n), O.d (D.str (lvW d.l)), O.d (D.ref aL)]))), O.ol ((mkL (taleF ns).2).map O.d)]).setP (O.d (D.ref aT)) [.idx 0] = O.op [O.d (D.ref aT), O.ol ((mkL (taleF ns).2).map O.d)] from rfl]
      simp only [fzE_cons, fzE_nil, frO_none, frO_some, O.fz, fzL, fz_fl, List.set]
      ((with_reducible refine go_op ?_); walk_at "x3"; (with_reducible refine go_int ?_); walk_at "x0"; walk_at "x10"; walk_at "x0")
    simp only [fzE_cons, fzE_nil, frO_none, frO_some, O.fz, fzL, fz_fl, List.set]
    (walk_at "x3"; (focus skip); rotate_left)
    have hii : iI = (i : Int) := by omega
    refine ⟨_, i, rfl, ?_, by simpa using hi, ?_⟩
    · unfold ixN
      rw [if_pos hix0, if_pos (by simp only [List.length_set, List.length_map]; omega), hix]
    rw [List.set_set]
    rw [show ∀ (x y r : O), (O.op [x, r]).setP y [.idx 0] = O.op [y, r] from fun _ _ _ => rfl]
    refine gos_wkn (i := 1) rfl (wk_t (by simpa using hi)) ?_
    ((with_reducible refine gos_ret ?_); walk_at "x15"; (focus skip); rotate_left)
    rw [List.map_set]
    (focus (rfl))
  · rename_i h8 hT
    rw [lN (fun z => h8 z.1)]
theorem cal__law_word (D : Df K mg "_law_word" s__law_word) {a_SkewError a_NoLevel a_NoHistory a_WHYS a_Loose a_Kept a_Make a_Watch a_Hold : Addr} (XX : XF K mg a_SkewError a_NoLevel a_NoHistory a_WHYS a_Loose a_Kept a_Make a_Watch a_Hold) : Cal P w K mg base "_law_word" 1 ["_law_cell"] (C__law_word mg) := by
  obtain ⟨f, fd, F, mf⟩ := D
  refine ⟨f, fd, ?_, mf, F.kp, F.binds (ps := ["_law_cell"]) fun _ _ _ _ _ _ us hl => match us, hl with | [_], _ => rfl, Fun.lk F⟩
  refine F.ok sc__law_word (fun vs H Q E hS0 => spP_len (n := 1) (fun xs p q c0 => by unfold C__law_word at c0; obtain ⟨_, rfl, _⟩ := c0; rfl) hS0) (fun cdv A outer s H vs Q E hr hS0 => ?_)
  have hu := hu_of hr
  refine sp_body hS0 (fun B xs p q c0 hl0 wx => ?_)
  obtain ⟨c, rfl, rfl, rfl⟩ := c0
  refine ⟨_, (pss_one (ps_ret (pe_ix (k_ix (K := K) rfl hu) (pe_lst (pa_cons pe_non (pa_cons pe_str (pa_cons pe_str (pa_cons pe_str (pa_cons pe_str (pa_cons pe_str (pa_cons pe_non pa_nil)))))))) (pe_op op_modG (pv 0) pe_int) (fun _ _ => rfl)))), ?_⟩
  clear hS0 hl0 hr hu wx
  have X_r_WHYS := XX.r_WHYS
  have X_g_Loose := XX.g_Loose
  have X_R_Loose := XX.R_Loose
  have X_g_Kept := XX.g_Kept
  have X_R_Kept := XX.R_Kept
  have X_g_Make := XX.g_Make
  have X_R_Make := XX.R_Make
  have X_g_Watch := XX.g_Watch
  have X_R_Watch := XX.R_Watch
  have X_g_Hold := XX.g_Hold
  have X_R_Hold := XX.R_Hold
  simp only [List.map_cons, List.map_nil, List.length_cons, List.length_nil, List.cons_append, List.nil_append, Nat.reduceAdd, Nat.reduceSub, List.replicate_succ, List.replicate_zero, N__law_word]
  have h0 := Int.emod_nonneg c (show (7 : Int) ≠ 0 by decide)
  have h1 := Int.emod_lt_of_pos c (show (0 : Int) < 7 by decide)
  ((with_reducible refine gos_ret ?_); (with_reducible refine go_op ?_); (with_reducible refine go_lst ?_); (with_reducible refine goa_cons ?_); (with_reducible refine go_non ?_); (with_reducible refine goa_cons ?_); (with_reducible refine go_str ?_); (with_reducible refine goa_cons ?_); (with_reducible refine go_str ?_); (with_reducible refine goa_cons ?_); (with_reducible refine go_str ?_); (with_reducible refine goa_cons ?_); (with_reducible refine go_str ?_); (with_reducible refine goa_cons ?_); (with_reducible refine go_str ?_); (with_reducible refine goa_cons ?_); (with_reducible refine go_non ?_); (with_reducible refine goa_nil ?_); walk_at "x0"; walk_at "x1"; (with_reducible refine go_op ?_); walk_at "x3"; (with_reducible refine go_int ?_); walk_at "x0"; walk_at "x4"; walk_at "x0"; (focus skip); rotate_left)
  refine o2_ixr rfl h0 (by show _ < (7 : Int); omega) fun y hy => ?_
  simp only [List.mem_cons, List.not_mem_nil, or_false] at hy
  rcases hy with rfl | rfl | rfl | rfl | rfl | rfl | rfl
  · exact ⟨none, rfl⟩
  · exact ⟨some .loose, rfl⟩
  · exact ⟨some .kept, rfl⟩
  · exact ⟨some .make, rfl⟩
  · exact ⟨some .watch, rfl⟩
  · exact ⟨some .hold, rfl⟩
  · exact ⟨none, rfl⟩
theorem cal__law_odd (D : Df K mg "_law_odd" s__law_odd) {a_SkewError a_NoLevel a_NoHistory a_WHYS a_Loose a_Kept a_Make a_Watch a_Hold : Addr} (XX : XF K mg a_SkewError a_NoLevel a_NoHistory a_WHYS a_Loose a_Kept a_Make a_Watch a_Hold) (b_len : mg "len" = none) : Cal P w K mg base "_law_odd" 1 ["_law_number"] (C__law_odd mg) := by
  obtain ⟨f, fd, F, mf⟩ := D
  refine ⟨f, fd, ?_, mf, F.kp, F.binds (ps := ["_law_number"]) fun _ _ _ _ _ _ us hl => match us, hl with | [_], _ => rfl, Fun.lk F⟩
  refine F.ok sc__law_odd (fun vs H Q E hS0 => spP_len (n := 1) (fun xs p q c0 => by unfold C__law_odd at c0; obtain ⟨_, rfl, _⟩ := c0; rfl) hS0) (fun cdv A outer s H vs Q E hr hS0 => ?_)
  have hu := hu_of hr
  refine sp_body hS0 (fun B xs p q c0 hl0 wx => ?_)
  obtain ⟨n, rfl, hp0, rfl, rfl⟩ := c0
  refine ⟨_, (pss_cons (ps_asg (pe_lst (pa_cons pe_str (pa_cons pe_str (pa_cons pe_str (pa_cons pe_str (pa_cons pe_str pa_nil)))))) (pg_name (i := 1) sc__law_odd.nd rfl (by first | exact Or.inl rfl | exact Or.inr rfl)))
      (pss_cons (ps_asg (pe_ix (k_ix (K := K) rfl hu) (pv 1) (pe_op op_modG (pv 0) pe_int) (fun _ _ => rfl)) (pg_name (i := 2) sc__law_odd.nd rfl (by first | exact Or.inl rfl | exact Or.inr rfl)))
      (pss_cons (ps_asg (pe_op op_modG (pe_op op_divG (pv 0) pe_int) (pe_callB (k_len (K := K) rfl) (by rfl) b_len (by decide +kernel) (pa_cons (pv 2) pa_nil))) (pg_name (i := 3) sc__law_odd.nd rfl (by first | exact Or.inl rfl | exact Or.inr rfl)))
      (pss_cons (ps_asg (pe_ix (k_ix (K := K) rfl hu) pe_str (pe_op op_modG (pe_op op_divG (pv 0) pe_int) pe_int) (fun _ _ => rfl)) (pg_name (i := 4) sc__law_odd.nd rfl (by first | exact Or.inl rfl | exact Or.inr rfl)))
      (pss_cons (ps_if (pt_cmpR (k_eq (K := K) rfl hr.units) (pe_op op_modG (pe_op op_divG (pv 0) pe_int) pe_int) pe_int (nomark _))
        (pss_one (ps_ret (pe_op (k_add (K := K) rfl) (pe_slice (k_sl (K := K) rfl) (pv 2) po_none (po_some (pv 3))) (pe_slice (k_sl (K := K) rfl) (pv 2) (po_some (pe_op (k_add (K := K) rfl) (pv 3) pe_int)) po_none))))
        pss_nil)
      (pss_cons (ps_if (pt_cmpR (k_eq (K := K) rfl hr.units) (pe_op op_modG (pe_op op_divG (pv 0) pe_int) pe_int) pe_int (nomark _))
        (pss_one (ps_ret (pe_op (k_add (K := K) rfl) (pe_op (k_add (K := K) rfl) (pe_slice (k_sl (K := K) rfl) (pv 2) po_none (po_some (pv 3))) (pv 4)) (pe_slice (k_sl (K := K) rfl) (pv 2) (po_some (pv 3)) po_none))))
        pss_nil)
      (pss_one (ps_ret (pe_op (k_add (K := K) rfl) (pe_op (k_add (K := K) rfl) (pe_slice (k_sl (K := K) rfl) (pv 2) po_none (po_some (pv 3))) (pv 4)) (pe_slice (k_sl (K := K) rfl) (pv 2) (po_some (pe_op (k_add (K := K) rfl) (pv 3) pe_int)) po_none)))))))))), ?_⟩
  clear hS0 hl0 hr hu wx b_len
  have X_r_WHYS := XX.r_WHYS
  have X_g_Loose := XX.g_Loose
  have X_R_Loose := XX.R_Loose
  have X_g_Kept := XX.g_Kept
  have X_R_Kept := XX.R_Kept
  have X_g_Make := XX.g_Make
  have X_R_Make := XX.R_Make
  have X_g_Watch := XX.g_Watch
  have X_R_Watch := XX.R_Watch
  have X_g_Hold := XX.g_Hold
  have X_R_Hold := XX.R_Hold
  simp only [List.map_cons, List.map_nil, List.length_cons, List.length_nil, List.cons_append, List.nil_append, Nat.reduceAdd, Nat.reduceSub, List.replicate_succ, List.replicate_zero, N__law_odd]
  have hw : ∀ l, 4 ≤ (lvW l).length ∧ (lvW l).length ≤ 5 := by intro l; cases l <;> decide
  ((with_reducible refine gos_sA ?_); (with_reducible refine gos_asg ?_); (with_reducible refine go_lst ?_); (with_reducible refine goa_cons ?_); (with_reducible refine go_str ?_); (with_reducible refine goa_cons ?_); (with_reducible refine go_str ?_); (with_reducible refine goa_cons ?_); (with_reducible refine go_str ?_); (with_reducible refine goa_cons ?_); (with_reducible refine go_str ?_); (with_reducible refine goa_cons ?_); (with_reducible refine go_str ?_); (with_reducible refine goa_nil ?_); walk_at "x0"; walk_at "x1"; walk_at "x2"; (with_reducible refine gos_sA ?_); (with_reducible refine gos_asg ?_); (with_reducible refine go_op ?_); walk_at "x8"; (with_reducible refine go_op ?_); walk_at "x3"; (with_reducible refine go_int ?_); walk_at "x0"; walk_at "x4"; walk_at "x0"; walk_at "x10"; walk_at "x2"; (with_reducible refine gos_sA ?_); (with_reducible refine gos_asg ?_); (with_reducible refine go_op ?_); (with_reducible refine go_op ?_); walk_at "x3"; (with_reducible refine go_int ?_); walk_at "x0"; walk_at "x11"; (with_reducible refine go_cb ?_); (with_reducible refine goa_cons ?_); walk_at "x3"; (with_reducible refine goa_nil ?_); walk_at "x0"; (focus skip); rotate_left)
  have hw0 := hw (lvI (n % 5))
  generalize lvW (lvI (n % 5)) = z at *
  (walk_at "x27"; walk_at "x0"; walk_at "x4"; walk_at "x2"; (with_reducible refine gos_sA ?_); (with_reducible refine gos_asg ?_); (with_reducible refine go_op ?_); (with_reducible refine go_str ?_); (with_reducible refine go_op ?_); (with_reducible refine go_op ?_); walk_at "x3"; (with_reducible refine go_int ?_); walk_at "x0"; walk_at "x11"; (with_reducible refine go_int ?_); walk_at "x0"; walk_at "x4"; walk_at "x0"; (focus skip); rotate_left)
  have hz0 := Int.emod_nonneg (n / 5) (show (z.length : Int) ≠ 0 by omega)
  have hz1 := Int.emod_lt_of_pos (n / 5) (show (0 : Int) < (z.length : Int) by omega)
  refine o2_ixSr (by decide) (by omega) (by show _ < (29 : Int); omega) fun cc hcc => ?_
  have c1 : ∀ lo hi, (cutS z lo hi).length ≤ z.length := fun lo hi => cutS_le
  have c2 : (⟨#[cc]⟩ : Str).length = 1 := rfl
  (walk_at "x2"; (with_reducible refine gos_sIR ?_); (with_reducible refine gos_if ?_); (with_reducible refine got_test ?_); (with_reducible refine go_op ?_); (with_reducible refine go_op ?_); (with_reducible refine go_op ?_); walk_at "x3"; (with_reducible refine go_int ?_); walk_at "x0"; walk_at "x11"; (with_reducible refine go_int ?_); walk_at "x0"; walk_at "x4"; (with_reducible refine go_int ?_); walk_at "x0"; (with_reducible refine o2_eqI ?_); walk_at "x5"; walk_at "x12"; (with_reducible refine gos_ret ?_); (with_reducible refine go_op ?_); (with_reducible refine go_sl ?_); walk_at "x3"; (with_reducible refine goo_none ?_); (with_reducible refine goo_some ?_); walk_at "x3"; walk_at "x5"; walk_at "x0"; walk_at "x28"; (with_reducible refine go_sl ?_); walk_at "x3"; (with_reducible refine goo_some ?_); (with_reducible refine go_op ?_); walk_at "x3"; (with_reducible refine go_int ?_); walk_at "x0"; (with_reducible refine o2_add ?_); walk_at "x5"; (with_reducible refine goo_none ?_); walk_at "x28"; walk_at "x0"; (focus skip); rotate_left; (with_reducible refine gos_next ?_); (with_reducible refine gos_sIR ?_); (with_reducible refine gos_if ?_); (with_reducible refine got_test ?_); (with_reducible refine go_op ?_); (with_reducible refine go_op ?_); (with_reducible refine go_op ?_); walk_at "x3"; (with_reducible refine go_int ?_); walk_at "x0"; walk_at "x11"; (with_reducible refine go_int ?_); walk_at "x0"; walk_at "x4"; (with_reducible refine go_int ?_); walk_at "x0"; (with_reducible refine o2_eqI ?_); walk_at "x5"; walk_at "x12"; (with_reducible refine gos_ret ?_); (with_reducible refine go_op ?_); (with_reducible refine go_op ?_); (with_reducible refine go_sl ?_); walk_at "x3"; (with_reducible refine goo_none ?_); (with_reducible refine goo_some ?_); walk_at "x3"; walk_at "x5"; walk_at "x0"; walk_at "x28"; walk_at "x3"; walk_at "x0"; (focus skip); rotate_left; (with_reducible refine gos_next ?_); (with_reducible refine gos_ret ?_); (with_reducible refine go_op ?_); (with_reducible refine go_op ?_); (with_reducible refine go_sl ?_); walk_at "x3"; (with_reducible refine goo_none ?_); (with_reducible refine goo_some ?_); walk_at "x3"; walk_at "x5"; walk_at "x0"; walk_at "x28"; walk_at "x3"; walk_at "x0"; (focus skip); rotate_left)
  all_goals
    have h1 := c1 none (some (n / 5 % (z.length : Int)))
    have h2 := c1 (some (n / 5 % (z.length : Int))) none
    have h3 := c1 (some (n / 5 % (z.length : Int) + 1)) none
    refine o2_addS (by omega) ?_
    (repeat' (first | walk_at "x3" | (with_reducible refine go_int ?_) | (with_reducible refine go_op ?_) | walk_at "x5" | (with_reducible refine o2_add ?_) | (with_reducible refine go_sl ?_) | (with_reducible refine goo_none ?_) | (with_reducible refine goo_some ?_) | walk_at "x0" | walk_at "x28" | fail))
  all_goals try (refine o2_addS (by rw [strApp_len]; omega) ?_)
  all_goals exact ⟨_, by simp only [strApp_len]; omega, rfl⟩
theorem cal__law_whole (D : Df K mg "_law_whole" s__law_whole) {a_SkewError a_NoLevel a_NoHistory a_WHYS a_Loose a_Kept a_Make a_Watch a_Hold : Addr} (XX : XF K mg a_SkewError a_NoLevel a_NoHistory a_WHYS a_Loose a_Kept a_Make a_Watch a_Hold) (b_bool : mg "bool" = none) (b_int : mg "int" = none) (b_isinstance : mg "isinstance" = none) : Cal P w K mg base "_law_whole" 1 ["_law_found"] (C__law_whole mg) := by
  obtain ⟨f, fd, F, mf⟩ := D
  refine ⟨f, fd, ?_, mf, F.kp, F.binds (ps := ["_law_found"]) fun _ _ _ _ _ _ us hl => match us, hl with | [_], _ => rfl, Fun.lk F⟩
  refine F.ok sc__law_whole (fun vs H Q E hS0 => spP_len (n := 1) (fun xs p q c0 => by unfold C__law_whole at c0; obtain ⟨_, rfl, _⟩ := c0; rfl) hS0) (fun cdv A outer s H vs Q E hr hS0 => ?_)
  have hu := hu_of hr
  refine sp_body hS0 (fun B xs p q c0 hl0 wx => ?_)
  obtain ⟨i, rfl, rfl, rfl⟩ := c0
  refine ⟨_, (pss_one (ps_ret (pe_and (pe_callB (k_isi (K := K) rfl) (by rfl) b_isinstance (by decide +kernel) (pa_cons (pv 0) (pa_cons (pe_bltn (v := .ty "int") (u := .type "int") (by rfl) b_int (by decide +kernel) rfl) pa_nil))) (pe_one (pe_not (pe_callB (k_isi (K := K) rfl) (by rfl) b_isinstance (by decide +kernel) (pa_cons (pv 0) (pa_cons (pe_bltn (v := .ty "bool") (u := .type "bool") (by rfl) b_bool (by decide +kernel) rfl) pa_nil)))))))), ?_⟩
  clear hS0 hl0 hr hu wx b_bool b_int b_isinstance
  have X_r_WHYS := XX.r_WHYS
  have X_g_Loose := XX.g_Loose
  have X_R_Loose := XX.R_Loose
  have X_g_Kept := XX.g_Kept
  have X_R_Kept := XX.R_Kept
  have X_g_Make := XX.g_Make
  have X_R_Make := XX.R_Make
  have X_g_Watch := XX.g_Watch
  have X_R_Watch := XX.R_Watch
  have X_g_Hold := XX.g_Hold
  have X_R_Hold := XX.R_Hold
  simp only [List.map_cons, List.map_nil, List.length_cons, List.length_nil, List.cons_append, List.nil_append, Nat.reduceAdd, Nat.reduceSub, List.replicate_succ, List.replicate_zero, N__law_whole]
  ((with_reducible refine gos_ret ?_); (with_reducible refine go_andV ?_); (with_reducible refine go_cb ?_); (with_reducible refine goa_cons ?_); walk_at "x3"; (with_reducible refine goa_cons ?_); (with_reducible refine go_ty ?_); (with_reducible refine goa_nil ?_); walk_at "x0"; walk_at "x29"; walk_at "x5"; walk_at "x0"; walk_at "x12"; (with_reducible refine go_notV ?_); (with_reducible refine go_cb ?_); (with_reducible refine goa_cons ?_); walk_at "x3"; (with_reducible refine goa_cons ?_); (with_reducible refine go_ty ?_); (with_reducible refine goa_nil ?_); walk_at "x0"; walk_at "x30"; walk_at "x5"; (focus skip); rotate_left)
  all_goals rfl
theorem cal__law_alike (D : Df K mg "_law_alike" s__law_alike) {a_SkewError a_NoLevel a_NoHistory a_WHYS a_Loose a_Kept a_Make a_Watch a_Hold : Addr} (XX : XF K mg a_SkewError a_NoLevel a_NoHistory a_WHYS a_Loose a_Kept a_Make a_Watch a_Hold) (c__law_whole : Cal P w K mg base "_law_whole" 1 ["_law_found"] (C__law_whole mg)) (b_isinstance : mg "isinstance" = none) (b_list : mg "list" = none) (b_tuple : mg "tuple" = none) : Cal P w K mg base "_law_alike" 2 ["_law_found", "_law_due_here"] (C__law_alike mg) := by
  obtain ⟨f, fd, F, mf⟩ := D
  obtain ⟨f__law_whole, fd__law_whole, G__law_whole, g__law_whole, k__law_whole, bn__law_whole, _⟩ := c__law_whole
  refine ⟨f, fd, ?_, mf, F.kp, F.binds (ps := ["_law_found", "_law_due_here"]) fun _ _ _ _ _ _ us hl => match us, hl with | [_, _], _ => rfl, Fun.lk F⟩
  refine F.ok sc__law_alike (fun vs H Q E hS0 => spP_len (n := 2) (fun xs p q c0 => by unfold C__law_alike at c0; obtain ⟨_, rfl, _⟩ := c0; rfl) hS0) (fun cdv A outer s H vs Q E hr hS0 => ?_)
  have hu := hu_of hr
  refine sp_body hS0 (fun B xs p q c0 hl0 wx => ?_)
  obtain ⟨ps, rfl, rfl, rfl⟩ := c0
  refine ⟨_, (pss_cons (ps_if (PW.pt (pw_or (pt_not (pt_val (pe_callB (k_isi (K := K) rfl) (by rfl) b_isinstance (by decide +kernel) (pa_cons (pv 0) (pa_cons (pe_bltn (v := .ty "list") (u := .type "list") (by rfl) b_list (by decide +kernel) rfl) pa_nil))))) (pw_or1 (pt_cmpR (k_ne (K := K) rfl hr.units) (pv 0) (pv 1) (nomark _)))))
        (pss_one (ps_ret pe_bl))
        pss_nil)
      (pss_cons (ps_for PassesOwn.never rfl (k_seq (K := K) rfl (pv 0)) (pg_name (i := 2) sc__law_alike.nd rfl (by first | exact Or.inl rfl | exact Or.inr rfl))
        (pss_one (ps_if (PW.pt (pw_or (pt_not (pt_val (pe_callB (k_isi (K := K) rfl) (by rfl) b_isinstance (by decide +kernel) (pa_cons (pv 2) (pa_cons (pe_bltn (v := .ty "tuple") (u := .type "tuple") (by rfl) b_tuple (by decide +kernel) rfl) pa_nil))))) (pw_or (pt_not (pt_val (pe_call G__law_whole hr rfl g__law_whole k__law_whole bn__law_whole .nil pass0 (pa_cons (pe_ix (k_ix (K := K) rfl hu) (pv 2) pe_int (fun _ _ => rfl)) pa_nil)))) (pw_or1 (pt_not (pt_val (pe_call G__law_whole hr rfl g__law_whole k__law_whole bn__law_whole .nil pass0 (pa_cons (pe_ix (k_ix (K := K) rfl hu) (pv 2) pe_int (fun _ _ => rfl)) pa_nil))))))))
          (pss_one (ps_ret pe_bl))
          pss_nil)))
      (pss_one (ps_ret pe_bl)))), ?_⟩
  clear hS0 hl0 hr hu wx G__law_whole g__law_whole k__law_whole bn__law_whole b_isinstance b_list b_tuple
  have X_r_WHYS := XX.r_WHYS
  have X_g_Loose := XX.g_Loose
  have X_R_Loose := XX.R_Loose
  have X_g_Kept := XX.g_Kept
  have X_R_Kept := XX.R_Kept
  have X_g_Make := XX.g_Make
  have X_R_Make := XX.R_Make
  have X_g_Watch := XX.g_Watch
  have X_R_Watch := XX.R_Watch
  have X_g_Hold := XX.g_Hold
  have X_R_Hold := XX.R_Hold
  simp only [List.map_cons, List.map_nil, List.length_cons, List.length_nil, List.cons_append, List.nil_append, Nat.reduceAdd, Nat.reduceSub, List.replicate_succ, List.replicate_zero, N__law_alike]
  ((with_reducible refine gos_sIR ?_); (with_reducible refine gos_if ?_); (with_reducible refine got_or ?_); (with_reducible refine got_not ?_); (with_reducible refine got_B ?_); (with_reducible refine go_cb ?_); (with_reducible refine goa_cons ?_); walk_at "x3"; (with_reducible refine goa_cons ?_); (with_reducible refine go_ty ?_); (with_reducible refine goa_nil ?_); walk_at "x0"; walk_at "x29"; walk_at "x5"; walk_at "x12"; (with_reducible refine got_test ?_); (with_reducible refine go_op ?_); walk_at "x3"; walk_at "x3"; walk_at "x0"; (focus skip); rotate_left)
  refine o2_neSame 2 (Shp.lstM fun p => Shp.tup fun x hx => by
    simp only [List.mem_cons, List.not_mem_nil, or_false] at hx
    rcases hx with rfl | rfl
    · exact .int
    · exact .int) (by decide) ?_
  (walk_at "x5"; walk_at "x0"; walk_at "x12"; (with_reducible refine gos_next ?_); (with_reducible refine gos_sF ?_); (with_reducible refine gos_for ?_); (with_reducible refine goi_seq ?_); walk_at "x3"; walk_at "x0"; (focus skip); rotate_left)
  refine ⟨_, .seq rfl, fun i Γ' => ∃ (a2 : Option O), Γ' = [some (O.d (.lst (ps.map sptD))), some (O.d (.lst (ps.map sptD))), a2], ⟨_, rfl⟩, ?_, ?_⟩
  · rintro i x _ hx ⟨a2, rfl⟩
    obtain ⟨p, hp, rfl⟩ := mapD_get hx
    (walk_at "x2"; (with_reducible refine gos_if ?_); (with_reducible refine got_or ?_); (with_reducible refine got_not ?_); (with_reducible refine got_B ?_); (with_reducible refine go_cb ?_); (with_reducible refine goa_cons ?_); walk_at "x3"; (with_reducible refine goa_cons ?_); (with_reducible refine go_ty ?_); (with_reducible refine goa_nil ?_); walk_at "x0"; walk_at "x29"; walk_at "x5"; walk_at "x12"; (with_reducible refine got_or ?_); (with_reducible refine got_not ?_); (with_reducible refine got_B ?_); walk_at "x0"; (with_reducible refine call__law_whole ?_); (with_reducible refine goa_cons ?_); (with_reducible refine go_op ?_); walk_at "x3"; (with_reducible refine go_int ?_); walk_at "x0"; walk_at "x10"; (with_reducible refine goa_nil ?_); walk_at "x5"; walk_at "x5"; walk_at "x12"; (with_reducible refine got_not ?_); (with_reducible refine got_B ?_); (with_reducible refine call__law_whole ?_); (with_reducible refine goa_cons ?_); (with_reducible refine go_op ?_); walk_at "x3"; (with_reducible refine go_int ?_); walk_at "x0"; walk_at "x10"; (with_reducible refine goa_nil ?_); walk_at "x5"; walk_at "x5"; walk_at "x12"; (with_reducible refine gos_next ?_); walk_at "x0"; (focus skip); rotate_left)
    (focus (exact ⟨_, rfl⟩))
  · rintro _ ⟨a2, rfl⟩
    ((with_reducible refine gos_ret ?_); (with_reducible refine go_bl ?_); walk_at "x0")
theorem cal_Loose__spots {zf : Addr} (D : DfM K "spots" "Loose.spots" s_Loose__spots zf) {a_SkewError a_NoLevel a_NoHistory a_WHYS a_Loose a_Kept a_Make a_Watch a_Hold : Addr} (XX : XF K mg a_SkewError a_NoLevel a_NoHistory a_WHYS a_Loose a_Kept a_Make a_Watch a_Hold) (ME : Meth K a_Loose "spots" zf) : CalM P w K mg base a_Loose "spots" 1 ["self", "looks"] (C_Loose__spots mg a_Loose) := by
  obtain ⟨fd, F⟩ := D
  refine ⟨zf, fd, ?_, ME, F.binds (ps := ["self", "looks"]) fun _ _ _ _ _ _ us hl => match us, hl with | [_, _], _ => rfl⟩
  refine F.ok sc_Loose__spots (fun vs H Q E hS0 => spP_len (n := 2) (fun xs p q c0 => by unfold C_Loose__spots at c0; obtain ⟨_, _, rfl, _⟩ := c0; rfl) hS0) (fun cdv A outer s H vs Q E hr hS0 => ?_)
  have hu := hu_of hr
  refine sp_body hS0 (fun B xs p q c0 hl0 wx => ?_)
  obtain ⟨Cv, n, rfl, rfl, rfl⟩ := c0
  refine ⟨_, (pss_one (ps_ret pe_int)), ?_⟩
  clear hS0 hl0 hr hu wx
  have X_r_WHYS := XX.r_WHYS
  have X_g_Loose := XX.g_Loose
  have X_R_Loose := XX.R_Loose
  have X_g_Kept := XX.g_Kept
  have X_R_Kept := XX.R_Kept
  have X_g_Make := XX.g_Make
  have X_R_Make := XX.R_Make
  have X_g_Watch := XX.g_Watch
  have X_R_Watch := XX.R_Watch
  have X_g_Hold := XX.g_Hold
  have X_R_Hold := XX.R_Hold
  simp only [List.map_cons, List.map_nil, List.length_cons, List.length_nil, List.cons_append, List.nil_append, Nat.reduceAdd, Nat.reduceSub, List.replicate_succ, List.replicate_zero, N_Loose__spots]
  ((with_reducible refine gos_ret ?_); (with_reducible refine go_int ?_); walk_at "x0"; (focus skip); rotate_left)
  all_goals rfl
theorem cal_Kept__spots {zf : Addr} (D : DfM K "spots" "Kept.spots" s_Kept__spots zf) {a_SkewError a_NoLevel a_NoHistory a_WHYS a_Loose a_Kept a_Make a_Watch a_Hold : Addr} (XX : XF K mg a_SkewError a_NoLevel a_NoHistory a_WHYS a_Loose a_Kept a_Make a_Watch a_Hold) (ME : Meth K a_Kept "spots" zf) : CalM P w K mg base a_Kept "spots" 1 ["self", "looks"] (C_Kept__spots mg a_Kept) := by
  obtain ⟨fd, F⟩ := D
  refine ⟨zf, fd, ?_, ME, F.binds (ps := ["self", "looks"]) fun _ _ _ _ _ _ us hl => match us, hl with | [_, _], _ => rfl⟩
  refine F.ok sc_Kept__spots (fun vs H Q E hS0 => spP_len (n := 2) (fun xs p q c0 => by unfold C_Kept__spots at c0; obtain ⟨_, _, rfl, _⟩ := c0; rfl) hS0) (fun cdv A outer s H vs Q E hr hS0 => ?_)
  have hu := hu_of hr
  refine sp_body hS0 (fun B xs p q c0 hl0 wx => ?_)
  obtain ⟨Cv, n, rfl, rfl, rfl⟩ := c0
  refine ⟨_, (pss_one (ps_ret (pe_op (k_add (K := K) rfl) (pv 1) pe_int))), ?_⟩
  clear hS0 hl0 hr hu wx
  have X_r_WHYS := XX.r_WHYS
  have X_g_Loose := XX.g_Loose
  have X_R_Loose := XX.R_Loose
  have X_g_Kept := XX.g_Kept
  have X_R_Kept := XX.R_Kept
  have X_g_Make := XX.g_Make
  have X_R_Make := XX.R_Make
  have X_g_Watch := XX.g_Watch
  have X_R_Watch := XX.R_Watch
  have X_g_Hold := XX.g_Hold
  have X_R_Hold := XX.R_Hold
  simp only [List.map_cons, List.map_nil, List.length_cons, List.length_nil, List.cons_append, List.nil_append, Nat.reduceAdd, Nat.reduceSub, List.replicate_succ, List.replicate_zero, N_Kept__spots]
  ((with_reducible refine gos_ret ?_); (with_reducible refine go_op ?_); walk_at "x3"; (with_reducible refine go_int ?_); walk_at "x0"; (with_reducible refine o2_add ?_); (focus skip); rotate_left)
  all_goals rfl
theorem cal_Make__spots {zf : Addr} (D : DfM K "spots" "Make.spots" s_Make__spots zf) {a_SkewError a_NoLevel a_NoHistory a_WHYS a_Loose a_Kept a_Make a_Watch a_Hold : Addr} (XX : XF K mg a_SkewError a_NoLevel a_NoHistory a_WHYS a_Loose a_Kept a_Make a_Watch a_Hold) (ME : Meth K a_Make "spots" zf) : CalM P w K mg base a_Make "spots" 1 ["self", "looks"] (C_Make__spots mg a_Make) := by
  obtain ⟨fd, F⟩ := D
  refine ⟨zf, fd, ?_, ME, F.binds (ps := ["self", "looks"]) fun _ _ _ _ _ _ us hl => match us, hl with | [_, _], _ => rfl⟩
  refine F.ok sc_Make__spots (fun vs H Q E hS0 => spP_len (n := 2) (fun xs p q c0 => by unfold C_Make__spots at c0; obtain ⟨_, _, rfl, _⟩ := c0; rfl) hS0) (fun cdv A outer s H vs Q E hr hS0 => ?_)
  have hu := hu_of hr
  refine sp_body hS0 (fun B xs p q c0 hl0 wx => ?_)
  obtain ⟨Cv, n, rfl, rfl, rfl⟩ := c0
  refine ⟨_, (pss_one (ps_ret pe_int)), ?_⟩
  clear hS0 hl0 hr hu wx
  have X_r_WHYS := XX.r_WHYS
  have X_g_Loose := XX.g_Loose
  have X_R_Loose := XX.R_Loose
  have X_g_Kept := XX.g_Kept
  have X_R_Kept := XX.R_Kept
  have X_g_Make := XX.g_Make
  have X_R_Make := XX.R_Make
  have X_g_Watch := XX.g_Watch
  have X_R_Watch := XX.R_Watch
  have X_g_Hold := XX.g_Hold
  have X_R_Hold := XX.R_Hold
  simp only [List.map_cons, List.map_nil, List.length_cons, List.length_nil, List.cons_append, List.nil_append, Nat.reduceAdd, Nat.reduceSub, List.replicate_succ, List.replicate_zero, N_Make__spots]
  ((with_reducible refine gos_ret ?_); (with_reducible refine go_int ?_); walk_at "x0"; (focus skip); rotate_left)
  all_goals rfl
theorem cal_Watch__spots {zf : Addr} (D : DfM K "spots" "Watch.spots" s_Watch__spots zf) {a_SkewError a_NoLevel a_NoHistory a_WHYS a_Loose a_Kept a_Make a_Watch a_Hold : Addr} (XX : XF K mg a_SkewError a_NoLevel a_NoHistory a_WHYS a_Loose a_Kept a_Make a_Watch a_Hold) (ME : Meth K a_Watch "spots" zf) : CalM P w K mg base a_Watch "spots" 1 ["self", "looks"] (C_Watch__spots mg a_Watch) := by
  obtain ⟨fd, F⟩ := D
  refine ⟨zf, fd, ?_, ME, F.binds (ps := ["self", "looks"]) fun _ _ _ _ _ _ us hl => match us, hl with | [_, _], _ => rfl⟩
  refine F.ok sc_Watch__spots (fun vs H Q E hS0 => spP_len (n := 2) (fun xs p q c0 => by unfold C_Watch__spots at c0; obtain ⟨_, _, rfl, _⟩ := c0; rfl) hS0) (fun cdv A outer s H vs Q E hr hS0 => ?_)
  have hu := hu_of hr
  refine sp_body hS0 (fun B xs p q c0 hl0 wx => ?_)
  obtain ⟨Cv, n, rfl, rfl, rfl⟩ := c0
  refine ⟨_, (pss_one (ps_ret pe_int)), ?_⟩
  clear hS0 hl0 hr hu wx
  have X_r_WHYS := XX.r_WHYS
  have X_g_Loose := XX.g_Loose
  have X_R_Loose := XX.R_Loose
  have X_g_Kept := XX.g_Kept
  have X_R_Kept := XX.R_Kept
  have X_g_Make := XX.g_Make
  have X_R_Make := XX.R_Make
  have X_g_Watch := XX.g_Watch
  have X_R_Watch := XX.R_Watch
  have X_g_Hold := XX.g_Hold
  have X_R_Hold := XX.R_Hold
  simp only [List.map_cons, List.map_nil, List.length_cons, List.length_nil, List.cons_append, List.nil_append, Nat.reduceAdd, Nat.reduceSub, List.replicate_succ, List.replicate_zero, N_Watch__spots]
  ((with_reducible refine gos_ret ?_); (with_reducible refine go_int ?_); walk_at "x0"; (focus skip); rotate_left)
  all_goals rfl
theorem cal_Hold__spots {zf : Addr} (D : DfM K "spots" "Hold.spots" s_Hold__spots zf) {a_SkewError a_NoLevel a_NoHistory a_WHYS a_Loose a_Kept a_Make a_Watch a_Hold : Addr} (XX : XF K mg a_SkewError a_NoLevel a_NoHistory a_WHYS a_Loose a_Kept a_Make a_Watch a_Hold) (ME : Meth K a_Hold "spots" zf) : CalM P w K mg base a_Hold "spots" 1 ["self", "looks"] (C_Hold__spots mg a_Hold) := by
  obtain ⟨fd, F⟩ := D
  refine ⟨zf, fd, ?_, ME, F.binds (ps := ["self", "looks"]) fun _ _ _ _ _ _ us hl => match us, hl with | [_, _], _ => rfl⟩
  refine F.ok sc_Hold__spots (fun vs H Q E hS0 => spP_len (n := 2) (fun xs p q c0 => by unfold C_Hold__spots at c0; obtain ⟨_, _, rfl, _⟩ := c0; rfl) hS0) (fun cdv A outer s H vs Q E hr hS0 => ?_)
  have hu := hu_of hr
  refine sp_body hS0 (fun B xs p q c0 hl0 wx => ?_)
  obtain ⟨Cv, n, rfl, rfl, rfl⟩ := c0
  refine ⟨_, (pss_one (ps_ret pe_int)), ?_⟩
  clear hS0 hl0 hr hu wx
  have X_r_WHYS := XX.r_WHYS
  have X_g_Loose := XX.g_Loose
  have X_R_Loose := XX.R_Loose
  have X_g_Kept := XX.g_Kept
  have X_R_Kept := XX.R_Kept
  have X_g_Make := XX.g_Make
  have X_R_Make := XX.R_Make
  have X_g_Watch := XX.g_Watch
  have X_R_Watch := XX.R_Watch
  have X_g_Hold := XX.g_Hold
  have X_R_Hold := XX.R_Hold
  simp only [List.map_cons, List.map_nil, List.length_cons, List.length_nil, List.cons_append, List.nil_append, Nat.reduceAdd, Nat.reduceSub, List.replicate_succ, List.replicate_zero, N_Hold__spots]
  ((with_reducible refine gos_ret ?_); (with_reducible refine go_int ?_); walk_at "x0"; (focus skip); rotate_left)
  all_goals rfl
theorem cal_level_of (D : Df K mg "level_of" s_level_of) {a_SkewError a_NoLevel a_NoHistory a_WHYS a_Loose a_Kept a_Make a_Watch a_Hold : Addr} (XX : XF K mg a_SkewError a_NoLevel a_NoHistory a_WHYS a_Loose a_Kept a_Make a_Watch a_Hold) : CalX P w K mg base "level_of" 1 ["word"] (C_level_of mg) := by
  obtain ⟨f, fd, F, mf⟩ := D
  refine ⟨f, fd, ?_, mf, F.kp, F.binds (ps := ["word"]) fun _ _ _ _ _ _ us hl => match us, hl with | [_], _ => rfl, Fun.lk F⟩
  refine F.okX sc_level_of (fun vs H Q E hS0 => spP_len (n := 1) (fun xs p q c0 => by unfold C_level_of at c0; obtain ⟨_, rfl, _⟩ := c0; rfl) hS0) (fun cdv A outer s H vs Q E hr hS0 => ?_)
  have hu := hu_of hr
  refine sp_body hS0 (fun B xs p q c0 hl0 wx => ?_)
  obtain ⟨s, rfl, rfl, rfl⟩ := c0
  refine ⟨_, (pss_cons (ps_if (pt_cmpR (k_eq (K := K) rfl hr.units) (pv 0) pe_str (nomark _))
        (pss_one (ps_ret (pe_make00 XX.M_Loose (by rfl) XX.g_Loose)))
        pss_nil)
      (pss_cons (ps_if (pt_cmpR (k_eq (K := K) rfl hr.units) (pv 0) pe_str (nomark _))
        (pss_one (ps_ret (pe_make00 XX.M_Kept (by rfl) XX.g_Kept)))
        pss_nil)
      (pss_cons (ps_if (pt_cmpR (k_eq (K := K) rfl hr.units) (pv 0) pe_str (nomark _))
        (pss_one (ps_ret (pe_make00 XX.M_Make (by rfl) XX.g_Make)))
        pss_nil)
      (pss_cons (ps_if (pt_cmpR (k_eq (K := K) rfl hr.units) (pv 0) pe_str (nomark _))
        (pss_one (ps_ret (pe_make00 XX.M_Watch (by rfl) XX.g_Watch)))
        pss_nil)
      (pss_cons (ps_if (pt_cmpR (k_eq (K := K) rfl hr.units) (pv 0) pe_str (nomark _))
        (pss_one (ps_ret (pe_make00 XX.M_Hold (by rfl) XX.g_Hold)))
        pss_nil)
      (pss_one (k_raise rfl (L2.takes_of rfl rfl rfl rfl) XX.x_NoLevel))))))), ?_⟩
  clear hS0 hl0 hr hu
  have X_r_WHYS := XX.r_WHYS
  have X_g_Loose := XX.g_Loose
  have X_R_Loose := XX.R_Loose
  have X_g_Kept := XX.g_Kept
  have X_R_Kept := XX.R_Kept
  have X_g_Make := XX.g_Make
  have X_R_Make := XX.R_Make
  have X_g_Watch := XX.g_Watch
  have X_R_Watch := XX.R_Watch
  have X_g_Hold := XX.g_Hold
  have X_R_Hold := XX.R_Hold
  simp only [List.map_cons, List.map_nil, List.length_cons, List.length_nil, List.cons_append, List.nil_append, Nat.reduceAdd, Nat.reduceSub, List.replicate_succ, List.replicate_zero, N_level_of]
  have l0 := lvD_of .loose X_g_Loose
  have l1 := lvD_of .kept X_g_Kept
  have l2 := lvD_of .make X_g_Make
  have l3 := lvD_of .watch X_g_Watch
  have l4 := lvD_of .hold X_g_Hold
  ((with_reducible refine gos_sIR ?_); (with_reducible refine gos_if ?_); (with_reducible refine got_test ?_); (with_reducible refine go_op ?_); walk_at "x3"; (with_reducible refine go_str ?_); walk_at "x0"; (with_reducible refine o2_eqS ?_); walk_at "x5"; walk_at "x12"; (with_reducible refine gos_ret ?_); walk_at "x0"; (with_reducible refine go_make00 ?_); (focus skip); rotate_left; (with_reducible refine gos_next ?_); (with_reducible refine gos_sIR ?_); (with_reducible refine gos_if ?_); (with_reducible refine got_test ?_); (with_reducible refine go_op ?_); walk_at "x3"; (with_reducible refine go_str ?_); walk_at "x0"; (with_reducible refine o2_eqS ?_); walk_at "x5"; walk_at "x12"; (with_reducible refine gos_ret ?_); walk_at "x0"; (with_reducible refine go_make00 ?_); (focus skip); rotate_left; (with_reducible refine gos_next ?_); (with_reducible refine gos_sIR ?_); (with_reducible refine gos_if ?_); (with_reducible refine got_test ?_); (with_reducible refine go_op ?_); walk_at "x3"; (with_reducible refine go_str ?_); walk_at "x0"; (with_reducible refine o2_eqS ?_); walk_at "x5"; walk_at "x12"; (with_reducible refine gos_ret ?_); walk_at "x0"; (with_reducible refine go_make00 ?_); (focus skip); rotate_left; (with_reducible refine gos_next ?_); (with_reducible refine gos_sIR ?_); (with_reducible refine gos_if ?_); (with_reducible refine got_test ?_); (with_reducible refine go_op ?_); walk_at "x3"; (with_reducible refine go_str ?_); walk_at "x0"; (with_reducible refine o2_eqS ?_); walk_at "x5"; walk_at "x12"; (with_reducible refine gos_ret ?_); walk_at "x0"; (with_reducible refine go_make00 ?_); (focus skip); rotate_left; (with_reducible refine gos_next ?_); (with_reducible refine gos_sIR ?_); (with_reducible refine gos_if ?_); (with_reducible refine got_test ?_); (with_reducible refine go_op ?_); walk_at "x3"; (with_reducible refine go_str ?_); walk_at "x0"; (with_reducible refine o2_eqS ?_); walk_at "x5"; walk_at "x12"; (with_reducible refine gos_ret ?_); walk_at "x0"; (with_reducible refine go_make00 ?_); (focus skip); rotate_left; (with_reducible refine gos_next ?_); walk_at "x31"; walk_at "x0"; (focus skip); rotate_left)
  · exact ⟨.loose, by rw [show s = "loose" by assumption]; decide, by rw [l0]⟩
  · exact ⟨.kept, by rw [show s = "kept" by assumption]; decide, by rw [l1]⟩
  · exact ⟨.make, by rw [show s = "make" by assumption]; decide, by rw [l2]⟩
  · exact ⟨.watch, by rw [show s = "watch" by assumption]; decide, by rw [l3]⟩
  · exact ⟨.hold, by rw [show s = "hold" by assumption]; decide, by rw [l4]⟩
  · have hn : lvOf s = none := by
      unfold lvOf
      rw [if_neg (by assumption), if_neg (by assumption), if_neg (by assumption), if_neg (by assumption), if_neg (by assumption)]
    exact ⟨trivial, XX.g_NoLevel, hn⟩
theorem cal_levels_for (D : Df K mg "levels_for" s_levels_for) {a_SkewError a_NoLevel a_NoHistory a_WHYS a_Loose a_Kept a_Make a_Watch a_Hold : Addr} (XX : XF K mg a_SkewError a_NoLevel a_NoHistory a_WHYS a_Loose a_Kept a_Make a_Watch a_Hold) (c_level_of : CalX P w K mg base "level_of" 1 ["word"] (C_level_of mg)) : CalX P w K mg base "levels_for" 2 ["history", "word"] (C_levels_for mg) := by
  obtain ⟨f, fd, F, mf⟩ := D
  obtain ⟨f_level_of, fd_level_of, G_level_of, g_level_of, k_level_of, bn_level_of, _⟩ := c_level_of
  refine ⟨f, fd, ?_, mf, F.kp, F.binds (ps := ["history", "word"]) fun _ _ _ _ _ _ us hl => match us, hl with | [_, _], _ => rfl, Fun.lk F⟩
  refine F.okX sc_levels_for (fun vs H Q E hS0 => spP_len (n := 2) (fun xs p q c0 => by unfold C_levels_for at c0; obtain ⟨_, _, _, rfl, _⟩ := c0; rfl) hS0) (fun cdv A outer s H vs Q E hr hS0 => ?_)
  have hu := hu_of hr
  refine sp_body hS0 (fun B xs p q c0 hl0 wx => ?_)
  obtain ⟨w, ds, ps, rfl, hp0, rfl, rfl⟩ := c0
  refine ⟨_, (pss_cons (ps_if (pt_cmpR op_notG (pv 1) pe_non (nomark _))
        (pss_one (ps_expr (pe_callS G_level_of hr rfl g_level_of k_level_of bn_level_of (fun σ => L2.passAt (L2.takes_of rfl rfl rfl rfl) σ) (pa_cons (pv 1) pa_nil))))
        pss_nil)
      (pss_cons (ps_asg pe_dnewK (pg_name (i := 2) sc_levels_for.nd rfl (by first | exact Or.inl rfl | exact Or.inr rfl)))
      (pss_cons (ps_for (passes_of rfl) rfl (k_seq (K := K) rfl (pe_ix (k_ix (K := K) rfl hu) (pv 0) pe_int (fun _ _ => rfl))) (k_tup (K := K) (n := 3) rfl (by rfl) (pgs_cons (pg_name (i := 3) sc_levels_for.nd rfl (by first | exact Or.inl rfl | exact Or.inr rfl)) (pgs_cons (pg_name (i := 4) sc_levels_for.nd rfl (by first | exact Or.inl rfl | exact Or.inr rfl)) (pgs_cons (pg_name (i := 5) sc_levels_for.nd rfl (by first | exact Or.inl rfl | exact Or.inr rfl)) pgs_nil))))
        (pss_one (ps_if (pt_cmpR op_isG (pv 1) pe_non (nomark _))
          (pss_one (ps_asg (pe_callS G_level_of hr rfl g_level_of k_level_of bn_level_of (fun σ => L2.passAt (L2.takes_of rfl rfl rfl rfl) σ) (pa_cons (pv 4) pa_nil)) (pg_sub (pv 2) (pv 3) (set_G hu))))
          (pss_one (ps_asg (pe_callS G_level_of hr rfl g_level_of k_level_of bn_level_of (fun σ => L2.passAt (L2.takes_of rfl rfl rfl rfl) σ) (pa_cons (pv 1) pa_nil)) (pg_sub (pv 2) (pv 3) (set_G hu)))))))
      (pss_one (ps_ret (pv 2)))))), ?_⟩
  clear hS0 hl0 hr hu G_level_of g_level_of k_level_of bn_level_of
  have X_r_WHYS := XX.r_WHYS
  have X_g_Loose := XX.g_Loose
  have X_R_Loose := XX.R_Loose
  have X_g_Kept := XX.g_Kept
  have X_R_Kept := XX.R_Kept
  have X_g_Make := XX.g_Make
  have X_R_Make := XX.R_Make
  have X_g_Watch := XX.g_Watch
  have X_R_Watch := XX.R_Watch
  have X_g_Hold := XX.g_Hold
  have X_R_Hold := XX.R_Hold
  simp only [List.map_cons, List.map_nil, List.length_cons, List.length_nil, List.cons_append, List.nil_append, Nat.reduceAdd, Nat.reduceSub, List.replicate_succ, List.replicate_zero, N_levels_for]
  unfold whD
  cases w with
  | none =>
    dsimp only [osD]
    ((with_reducible refine gos_seq ?_); (with_reducible refine gos_if ?_); (with_reducible refine got_test ?_); (with_reducible refine go_op ?_); walk_at "x3"; (with_reducible refine go_non ?_); walk_at "x0"; walk_at "x32"; walk_at "x5"; walk_at "x0"; walk_at "x12"; (with_reducible refine gos_next ?_); (with_reducible refine gos_sA ?_); (with_reducible refine gos_asg ?_); (with_reducible refine go_dnew ?_); walk_at "x2"; (with_reducible refine gos_sF ?_); (with_reducible refine gos_for ?_); (with_reducible refine goi_seq ?_); (with_reducible refine go_op ?_); walk_at "x3"; (with_reducible refine go_int ?_); walk_at "x0"; walk_at "x10"; walk_at "x0"; (focus skip); rotate_left)
    refine ⟨_, .seq rfl, fun i Γ' => ∃ (a3 a4 a5 : Option O), Γ' = [some (O.d (.tup [.lst (ds.map deD), .lst ps])), some (O.d .non), some (.od (imO (fun l => O.d (lvD mg l)) (lvsF none (ds.take i)))), a3, a4, a5], ⟨_, _, _, rfl⟩, ?_, ?_⟩
    · rintro i x _ hx ⟨a3, a4, a5, rfl⟩
      obtain ⟨d, hd, rfl⟩ := mapD_get hx
      have hil := (List.getElem?_eq_some_iff.mp hd).1
      have hsn := lvsF_snoc (w := none) hd
      have hln := lvsF_len (w := none) (ds := ds.take i)
      rw [List.length_take] at hln
      unfold deD
      ((with_reducible refine gog_tup ?_); walk_at "x5"; walk_at "x0"; walk_at "x1"; walk_at "x16"; walk_at "x16"; walk_at "x16"; (with_reducible refine gogs_nil ?_); (with_reducible refine gos_if ?_); (with_reducible refine got_test ?_); (with_reducible refine go_op ?_); walk_at "x3"; (with_reducible refine go_non ?_); walk_at "x0"; walk_at "x33"; walk_at "x5"; walk_at "x0"; walk_at "x12"; (with_reducible refine gos_asg ?_); walk_at "x0"; walk_at "x34"; (with_reducible refine goa_cons ?_); walk_at "x3"; (with_reducible refine goa_nil ?_); walk_at "x5"; walk_at "x0"; (focus skip); rotate_left)
      refine ⟨fun l hl => ?_, fun Cc fs h => absurd h.2.2 (by rw [lvOf_W]; simp)⟩
      have el : d.l = l := by rw [lvOf_W] at hl; exact Option.some.inj hl
      subst el
      (walk_at "x20"; walk_at "x3"; walk_at "x21"; (focus skip); rotate_left)
      refine ⟨by rw [imO_len]; omega, ?_⟩
      rw [imO_put (fo := fun l => O.d (lvD mg l)), hsn]
      exact ⟨_, _, _, rfl⟩
    · rintro _ ⟨a3, a4, a5, rfl⟩
      rw [List.length_map, List.take_length]
      ((with_reducible refine gos_ret ?_); walk_at "x8"; (focus skip); rotate_left)
      refine ⟨none, rfl, ?_⟩
      rw [imO_fz (f := lvD mg) (fo := fun l => O.d (lvD mg l)) fun _ => rfl]
  | some s =>
    dsimp only [osD]
    ((with_reducible refine gos_seq ?_); (with_reducible refine gos_if ?_); (with_reducible refine got_test ?_); (with_reducible refine go_op ?_); walk_at "x3"; (with_reducible refine go_non ?_); walk_at "x0"; walk_at "x32"; walk_at "x5"; walk_at "x0"; walk_at "x12"; (with_reducible refine gos_drop ?_); walk_at "x0"; walk_at "x34"; (with_reducible refine goa_cons ?_); walk_at "x3"; (with_reducible refine goa_nil ?_); walk_at "x5"; walk_at "x0"; (focus skip); rotate_left)
    refine ⟨fun l0 hl0 => ?_, fun Cc fs h => ⟨h.1, h.2.1, s, rfl, h.2.2⟩⟩
    ((with_reducible refine gos_sA ?_); (with_reducible refine gos_asg ?_); (with_reducible refine go_dnew ?_); walk_at "x2"; (with_reducible refine gos_sF ?_); (with_reducible refine gos_for ?_); (with_reducible refine goi_seq ?_); (with_reducible refine go_op ?_); walk_at "x3"; (with_reducible refine go_int ?_); walk_at "x0"; walk_at "x10"; walk_at "x0"; (focus skip); rotate_left)
    refine ⟨_, .seq rfl, fun i Γ' => ∃ (a3 a4 a5 : Option O), Γ' = [some (O.d (.tup [.lst (ds.map deD), .lst ps])), some (O.d (.str s)), some (.od (imO (fun l => O.d (lvD mg l)) (lvsF (some l0) (ds.take i)))), a3, a4, a5], ⟨_, _, _, rfl⟩, ?_, ?_⟩
    · rintro i x _ hx ⟨a3, a4, a5, rfl⟩
      obtain ⟨d, hd, rfl⟩ := mapD_get hx
      have hil := (List.getElem?_eq_some_iff.mp hd).1
      have hsn := lvsF_snoc (w := some l0) hd
      have hln := lvsF_len (w := some l0) (ds := ds.take i)
      rw [List.length_take] at hln
      unfold deD
      ((with_reducible refine gog_tup ?_); walk_at "x5"; walk_at "x0"; walk_at "x1"; walk_at "x16"; walk_at "x16"; walk_at "x16"; (with_reducible refine gogs_nil ?_); (with_reducible refine gos_if ?_); (with_reducible refine got_test ?_); (with_reducible refine go_op ?_); walk_at "x3"; (with_reducible refine go_non ?_); walk_at "x0"; walk_at "x33"; walk_at "x5"; walk_at "x0"; walk_at "x12"; (with_reducible refine gos_asg ?_); walk_at "x0"; walk_at "x34"; (with_reducible refine goa_cons ?_); walk_at "x3"; (with_reducible refine goa_nil ?_); walk_at "x5"; walk_at "x0"; (focus skip); rotate_left)
      refine ⟨fun l hl => ?_, fun Cc fs h => absurd h.2.2 (by rw [hl0]; simp)⟩
      have el : l0 = l := by rw [hl0] at hl; exact Option.some.inj hl
      subst el
      (walk_at "x20"; walk_at "x3"; walk_at "x21"; (focus skip); rotate_left)
      refine ⟨by rw [imO_len]; omega, ?_⟩
      rw [imO_put (fo := fun l => O.d (lvD mg l)), hsn]
      exact ⟨_, _, _, rfl⟩
    · rintro _ ⟨a3, a4, a5, rfl⟩
      rw [List.length_map, List.take_length]
      ((with_reducible refine gos_ret ?_); walk_at "x8"; (focus skip); rotate_left)
      refine ⟨some l0, by rw [Option.map_some, hl0]; rfl, ?_⟩
      rw [imO_fz (f := lvD mg) (fo := fun l => O.d (lvD mg l)) fun _ => rfl]
theorem cal_spots (D : DfT K mg "spots" s_spots .none) {a_SkewError a_NoLevel a_NoHistory a_WHYS a_Loose a_Kept a_Make a_Watch a_Hold : Addr} (XX : XF K mg a_SkewError a_NoLevel a_NoHistory a_WHYS a_Loose a_Kept a_Make a_Watch a_Hold) (c_Loose__spots : CalM P w K mg base a_Loose "spots" 1 ["self", "looks"] (C_Loose__spots mg a_Loose)) (c_Kept__spots : CalM P w K mg base a_Kept "spots" 1 ["self", "looks"] (C_Kept__spots mg a_Kept)) (c_Make__spots : CalM P w K mg base a_Make "spots" 1 ["self", "looks"] (C_Make__spots mg a_Make)) (c_Watch__spots : CalM P w K mg base a_Watch "spots" 1 ["self", "looks"] (C_Watch__spots mg a_Watch)) (c_Hold__spots : CalM P w K mg base a_Hold "spots" 1 ["self", "looks"] (C_Hold__spots mg a_Hold)) (c_levels_for : CalX P w K mg base "levels_for" 2 ["history", "word"] (C_levels_for mg)) (b_len : mg "len" = none) (b_range : mg "range" = none) : CalXD P w K mg base "spots" 3 ["history", "word"] (C_spots mg) .none := by
  obtain ⟨f, fd, F, mf⟩ := D
  obtain ⟨f_Loose__spots, fd_Loose__spots, G_Loose__spots, k_Loose__spots, bn_Loose__spots⟩ := c_Loose__spots
  obtain ⟨f_Kept__spots, fd_Kept__spots, G_Kept__spots, k_Kept__spots, bn_Kept__spots⟩ := c_Kept__spots
  obtain ⟨f_Make__spots, fd_Make__spots, G_Make__spots, k_Make__spots, bn_Make__spots⟩ := c_Make__spots
  obtain ⟨f_Watch__spots, fd_Watch__spots, G_Watch__spots, k_Watch__spots, bn_Watch__spots⟩ := c_Watch__spots
  obtain ⟨f_Hold__spots, fd_Hold__spots, G_Hold__spots, k_Hold__spots, bn_Hold__spots⟩ := c_Hold__spots
  obtain ⟨f_levels_for, fd_levels_for, G_levels_for, g_levels_for, k_levels_for, bn_levels_for, _⟩ := c_levels_for
  refine ⟨f, fd, ?_, mf, F.kp, F.binds (ps := ["history", "word"]) 2 rfl (fun _ _ _ _ _ _ _ us hl => match us, hl with | [_, _], _ => ⟨_, rfl, rfl⟩), F.bindsD (ps := ["history", "word"]) 1 rfl (fun _ _ _ _ _ _ _ us hl => match us, hl with | [_], _ => ⟨_, rfl, rfl⟩), FunT.lk F⟩
  refine F.okX sc_spots (fun vs H Q E hS0 => spP_len (n := 2) (fun xs p q c0 => by unfold C_spots at c0; obtain ⟨_, _, _, rfl, _⟩ := c0; rfl) hS0) (fun cdv A outer s H vs Q E hr hS0 => ?_)
  have hu := hu_of hr
  refine sp_body hS0 (fun B xs p q c0 hl0 wx => ?_)
  obtain ⟨w, ds, ps, rfl, hp0, hp1, hp2, rfl, rfl⟩ := c0
  refine ⟨_, (pss_cons (ps_asg (pe_callS G_levels_for hr rfl g_levels_for k_levels_for bn_levels_for (fun σ => L2.passAt (L2.takes_of rfl rfl rfl rfl) σ) (pa_cons (pv 0) (pa_cons (pv 1) pa_nil))) (pg_name (i := 2) sc_spots.nd rfl (by first | exact Or.inl rfl | exact Or.inr rfl)))
      (pss_cons (ps_asg (pe_lst pa_nil) (pg_name (i := 3) sc_spots.nd rfl (by first | exact Or.inl rfl | exact Or.inr rfl)))
      (pss_cons (ps_for (passes_of rfl) rfl (k_seq (K := K) rfl (pe_ix (k_ix (K := K) rfl hu) (pv 0) pe_int (fun _ _ => rfl))) (k_tup (K := K) (n := 3) rfl (by rfl) (pgs_cons (pg_name (i := 4) sc_spots.nd rfl (by first | exact Or.inl rfl | exact Or.inr rfl)) (pgs_cons (pg_name (i := 5) sc_spots.nd rfl (by first | exact Or.inl rfl | exact Or.inr rfl)) (pgs_cons (pg_name (i := 6) sc_spots.nd rfl (by first | exact Or.inl rfl | exact Or.inr rfl)) pgs_nil))))
        (pss_one (ps_for (passes_of rfl) rfl (pi_range1 (by rfl) b_range (pa_cons (k_methD (K := K) (tb := [(a_Loose, C_Loose__spots mg a_Loose), (a_Kept, C_Kept__spots mg a_Kept), (a_Make, C_Make__spots mg a_Make), (a_Watch, C_Watch__spots mg a_Watch), (a_Hold, C_Hold__spots mg a_Hold)]) rfl (pe_methD (pe_ix (k_ix (K := K) rfl hu) (pv 2) (pv 4) (fun _ _ => rfl)) (mt_cons ⟨_, _, XX.R_Loose.cls, k_Loose__spots , G_Loose__spots , (hr.mono (by decide)), bn_Loose__spots ⟩ (mt_cons ⟨_, _, XX.R_Kept.cls, k_Kept__spots , G_Kept__spots , (hr.mono (by decide)), bn_Kept__spots ⟩ (mt_cons ⟨_, _, XX.R_Make.cls, k_Make__spots , G_Make__spots , (hr.mono (by decide)), bn_Make__spots ⟩ (mt_cons ⟨_, _, XX.R_Watch.cls, k_Watch__spots , G_Watch__spots , (hr.mono (by decide)), bn_Watch__spots ⟩ (mt_cons ⟨_, _, XX.R_Hold.cls, k_Hold__spots , G_Hold__spots , (hr.mono (by decide)), bn_Hold__spots ⟩ mt_nil))))) pass0 (pa_cons (pe_callB (k_len (K := K) rfl) (by rfl) b_len (by decide +kernel) (pa_cons (pv 6) pa_nil)) pa_nil))) pa_nil)) (pg_name (i := 7) sc_spots.nd rfl (by first | exact Or.inl rfl | exact Or.inr rfl))
          (pss_one (ps_expr (k_bm (K := K) rfl (pe_bm PySem.F.plainAttrs_list PySem.F.slot_list_append PySem.F.type_list_append mt_append (pv 3) (pa_cons (pe_tup (pa_cons (pv 4) (pa_cons (pv 7) pa_nil))) pa_nil))))))))
      (pss_one (ps_ret (pv 3)))))), ?_⟩
  clear hS0 hl0 hr hu G_Loose__spots k_Loose__spots bn_Loose__spots G_Kept__spots k_Kept__spots bn_Kept__spots G_Make__spots k_Make__spots bn_Make__spots G_Watch__spots k_Watch__spots bn_Watch__spots G_Hold__spots k_Hold__spots bn_Hold__spots G_levels_for g_levels_for k_levels_for bn_levels_for b_len b_range
  have X_r_WHYS := XX.r_WHYS
  have X_g_Loose := XX.g_Loose
  have X_R_Loose := XX.R_Loose
  have X_g_Kept := XX.g_Kept
  have X_R_Kept := XX.R_Kept
  have X_g_Make := XX.g_Make
  have X_R_Make := XX.R_Make
  have X_g_Watch := XX.g_Watch
  have X_R_Watch := XX.R_Watch
  have X_g_Hold := XX.g_Hold
  have X_R_Hold := XX.R_Hold
  simp only [List.map_cons, List.map_nil, List.length_cons, List.length_nil, List.cons_append, List.nil_append, Nat.reduceAdd, Nat.reduceSub, List.replicate_succ, List.replicate_zero, N_spots]
  ((with_reducible refine gos_sA ?_); (with_reducible refine gos_asg ?_); walk_at "x0"; walk_at "x35"; (with_reducible refine goa_cons ?_); walk_at "x3"; (with_reducible refine goa_cons ?_); walk_at "x3"; (with_reducible refine goa_nil ?_); walk_at "x0"; walk_at "x36"; walk_at "x1"; (focus skip); rotate_left)
  refine ⟨fun lw hlw => ?_, fun Cc fs h => h⟩
  unfold whD
  (walk_at "x2"; (with_reducible refine gos_sA ?_); (with_reducible refine gos_asg ?_); (with_reducible refine go_lst ?_); (with_reducible refine goa_nil ?_); walk_at "x0"; walk_at "x1"; walk_at "x2"; (with_reducible refine gos_sF ?_); (with_reducible refine gos_for ?_); (with_reducible refine goi_seq ?_); (with_reducible refine go_op ?_); walk_at "x3"; (with_reducible refine go_int ?_); walk_at "x0"; walk_at "x10"; walk_at "x0"; (focus skip); rotate_left)
  refine ⟨_, .seq rfl, fun i Γ' => ∃ (a4 a5 a6 a7 : Option O), Γ' = [some (O.d (.tup [.lst (ds.map deD), .lst ps])), some (O.d (osD w)), some (O.d (.dic (imK (lvD mg) (lvsF lw ds)))), some (.ol (((spotsF lw (ds.take i)).map sptD).map O.d)), a4, a5, a6, a7], ⟨_, _, _, _, rfl⟩, ?_, ?_⟩
  · rintro i x _ hx ⟨a4, a5, a6, a7, rfl⟩
    obtain ⟨d, hd, rfl⟩ := mapD_get hx
    have hdm := hp1 d (List.mem_of_getElem? hd)
    have hil := (List.getElem?_eq_some_iff.mp hd).1
    have e1 : dval (imK (lvD mg) (lvsF lw ds)) (.inl d.n) = some (lvD mg (lw.getD d.l)) := by
      rw [dval_im, show dval (lvsF lw ds) d.n = _ from lvs_in hp2 (List.mem_of_getElem? hd)]; rfl
    have hs := spots_le (l := lw.getD d.l) hdm
    have hln := spotsF_len (w := lw) (ds := ds.take i) fun x hx => hp1 x (List.mem_of_mem_take hx)
    rw [List.length_take] at hln
    have hsn := spotsF_snoc (w := lw) hd
    unfold deD
    ((with_reducible refine gog_tup ?_); walk_at "x5"; walk_at "x0"; walk_at "x1"; walk_at "x16"; walk_at "x16"; walk_at "x16"; (with_reducible refine gogs_nil ?_); (with_reducible refine gos_for ?_); (with_reducible refine goi_rng1 ?_); (with_reducible refine goa_cons ?_); walk_at "x0"; walk_at "x37"; (with_reducible refine go_op ?_); walk_at "x3"; walk_at "x3"; walk_at "x0"; (focus skip); rotate_left)
    refine o2_ixDI e1 ?_
    (walk_at "x5"; (with_reducible refine goa_cons ?_); (with_reducible refine go_cb ?_); (with_reducible refine goa_cons ?_); walk_at "x3"; (with_reducible refine goa_nil ?_); walk_at "x14"; (with_reducible refine goa_nil ?_); walk_at "x5"; (with_reducible refine goa_nil ?_); walk_at "x5"; (focus skip); rotate_left)
    simp only [List.length_map]
    refine ⟨by omega, by omega, fun p Γ' => ∃ (a7 : Option O), Γ' = [some (O.d (.tup [.lst (ds.map deD), .lst ps])), some (O.d (osD w)), some (O.d (.dic (imK (lvD mg) (lvsF lw ds)))), some (.ol (((spotsF lw (ds.take i) ++ (List.range p).map fun (q : Nat) => (d.n, (q : Int))).map sptD).map O.d)), some (O.d (.int d.n)), some (O.d (.str (lvW d.l))), some (O.d (.lst (d.ks.map lookD))), a7], ⟨_, by rw [List.range_zero, List.map_nil, List.append_nil]; rfl⟩, ?_, ?_⟩
    · rintro p x _ hx ⟨a7, rfl⟩
      obtain ⟨hpn, rfl⟩ := rngD_get hx
      rw [show (0 : Int) + (p : Int) = (p : Int) by omega]
      (walk_at "x2"; walk_at "x7"; (with_reducible refine go_tup ?_); (with_reducible refine goa_cons ?_); walk_at "x3"; (with_reducible refine goa_cons ?_); walk_at "x3"; (with_reducible refine goa_nil ?_); walk_at "x0"; walk_at "x1"; walk_at "x5"; (focus skip); rotate_left)
      refine ⟨by simp only [List.length_map, List.length_append, List.length_range]; omega, ?_⟩
      have ea : spotsF lw (ds.take i) ++ (List.range (p + 1)).map (fun (q : Nat) => (d.n, (q : Int))) = (spotsF lw (ds.take i) ++ (List.range p).map fun (q : Nat) => (d.n, (q : Int))) ++ [(d.n, (p : Int))] := by
        rw [List.range_succ, List.map_append, List.append_assoc]; rfl
      rw [ea]
      simp only [List.map_append]
      exact ⟨_, rfl⟩
    · rintro _ ⟨a7, rfl⟩
      rw [rngD_len, hsn]
      exact ⟨_, _, _, _, rfl⟩
  · rintro _ ⟨a4, a5, a6, a7, rfl⟩
    rw [List.length_map, List.take_length]
    ((with_reducible refine gos_ret ?_); walk_at "x8"; (focus skip); rotate_left)
    exact ⟨lw, hlw, rfl⟩
theorem cal__law_many (D : Df K mg "_law_many" s__law_many) {a_SkewError a_NoLevel a_NoHistory a_WHYS a_Loose a_Kept a_Make a_Watch a_Hold : Addr} (XX : XF K mg a_SkewError a_NoLevel a_NoHistory a_WHYS a_Loose a_Kept a_Make a_Watch a_Hold) (b_len : mg "len" = none) : Cal P w K mg base "_law_many" 1 ["_law_word_here", "_law_looks"] (C__law_many mg) := by
  obtain ⟨f, fd, F, mf⟩ := D
  refine ⟨f, fd, ?_, mf, F.kp, F.binds (ps := ["_law_word_here", "_law_looks"]) fun _ _ _ _ _ _ us hl => match us, hl with | [_, _], _ => rfl, Fun.lk F⟩
  refine F.ok sc__law_many (fun vs H Q E hS0 => spP_len (n := 2) (fun xs p q c0 => by unfold C__law_many at c0; obtain ⟨_, _, rfl, _⟩ := c0; rfl) hS0) (fun cdv A outer s H vs Q E hr hS0 => ?_)
  have hu := hu_of hr
  refine sp_body hS0 (fun B xs p q c0 hl0 wx => ?_)
  obtain ⟨l, xs, rfl, rfl, rfl⟩ := c0
  refine ⟨_, (pss_cons (ps_if (pt_cmpR (k_eq (K := K) rfl hr.units) (pv 0) pe_str (nomark _))
        (pss_one (ps_ret (pe_op (k_add (K := K) rfl) (pe_callB (k_len (K := K) rfl) (by rfl) b_len (by decide +kernel) (pa_cons (pv 1) pa_nil)) pe_int)))
        pss_nil)
      (pss_cons (ps_if (pt_cmpR (k_eq (K := K) rfl hr.units) (pv 0) pe_str (nomark _))
        (pss_one (ps_ret pe_int))
        pss_nil)
      (pss_one (ps_ret pe_int)))), ?_⟩
  clear hS0 hl0 hr hu wx b_len
  have X_r_WHYS := XX.r_WHYS
  have X_g_Loose := XX.g_Loose
  have X_R_Loose := XX.R_Loose
  have X_g_Kept := XX.g_Kept
  have X_R_Kept := XX.R_Kept
  have X_g_Make := XX.g_Make
  have X_R_Make := XX.R_Make
  have X_g_Watch := XX.g_Watch
  have X_R_Watch := XX.R_Watch
  have X_g_Hold := XX.g_Hold
  have X_R_Hold := XX.R_Hold
  simp only [List.map_cons, List.map_nil, List.length_cons, List.length_nil, List.cons_append, List.nil_append, Nat.reduceAdd, Nat.reduceSub, List.replicate_succ, List.replicate_zero, N__law_many]
  cases l
  ((with_reducible refine gos_sIR ?_); (with_reducible refine gos_if ?_); (with_reducible refine got_test ?_); (with_reducible refine go_op ?_); walk_at "x3"; (with_reducible refine go_str ?_); walk_at "x0"; (with_reducible refine o2_eqS ?_); walk_at "x5"; walk_at "x12"; (with_reducible refine gos_next ?_); (with_reducible refine gos_sIR ?_); (with_reducible refine gos_if ?_); (with_reducible refine got_test ?_); (with_reducible refine go_op ?_); walk_at "x3"; (with_reducible refine go_str ?_); walk_at "x0"; (with_reducible refine o2_eqS ?_); walk_at "x5"; walk_at "x12"; (with_reducible refine gos_next ?_); (with_reducible refine gos_ret ?_); (with_reducible refine go_int ?_); walk_at "x0"; (focus skip); rotate_left; (with_reducible refine gos_sIR ?_); (with_reducible refine gos_if ?_); (with_reducible refine got_test ?_); (with_reducible refine go_op ?_); walk_at "x3"; (with_reducible refine go_str ?_); walk_at "x0"; (with_reducible refine o2_eqS ?_); walk_at "x5"; walk_at "x12"; (with_reducible refine gos_ret ?_); (with_reducible refine go_op ?_); (with_reducible refine go_cb ?_); (with_reducible refine goa_cons ?_); walk_at "x3"; (with_reducible refine goa_nil ?_); walk_at "x14"; (with_reducible refine go_int ?_); walk_at "x0"; (with_reducible refine o2_add ?_); (focus skip); rotate_left; (with_reducible refine gos_sIR ?_); (with_reducible refine gos_if ?_); (with_reducible refine got_test ?_); (with_reducible refine go_op ?_); walk_at "x3"; (with_reducible refine go_str ?_); walk_at "x0"; (with_reducible refine o2_eqS ?_); walk_at "x5"; walk_at "x12"; (with_reducible refine gos_next ?_); (with_reducible refine gos_sIR ?_); (with_reducible refine gos_if ?_); (with_reducible refine got_test ?_); (with_reducible refine go_op ?_); walk_at "x3"; (with_reducible refine go_str ?_); walk_at "x0"; (with_reducible refine o2_eqS ?_); walk_at "x5"; walk_at "x12"; (with_reducible refine gos_ret ?_); (with_reducible refine go_int ?_); walk_at "x0"; (focus skip); rotate_left; (with_reducible refine gos_sIR ?_); (with_reducible refine gos_if ?_); (with_reducible refine got_test ?_); (with_reducible refine go_op ?_); walk_at "x3"; (with_reducible refine go_str ?_); walk_at "x0"; (with_reducible refine o2_eqS ?_); walk_at "x5"; walk_at "x12"; (with_reducible refine gos_next ?_); (with_reducible refine gos_sIR ?_); (with_reducible refine gos_if ?_); (with_reducible refine got_test ?_); (with_reducible refine go_op ?_); walk_at "x3"; (with_reducible refine go_str ?_); walk_at "x0"; (with_reducible refine o2_eqS ?_); walk_at "x5"; walk_at "x12"; (with_reducible refine gos_next ?_); (with_reducible refine gos_ret ?_); (with_reducible refine go_int ?_); walk_at "x0"; (focus skip); rotate_left; (with_reducible refine gos_sIR ?_); (with_reducible refine gos_if ?_); (with_reducible refine got_test ?_); (with_reducible refine go_op ?_); walk_at "x3"; (with_reducible refine go_str ?_); walk_at "x0"; (with_reducible refine o2_eqS ?_); walk_at "x5"; walk_at "x12"; (with_reducible refine gos_next ?_); (with_reducible refine gos_sIR ?_); (with_reducible refine gos_if ?_); (with_reducible refine got_test ?_); (with_reducible refine go_op ?_); walk_at "x3"; (with_reducible refine go_str ?_); walk_at "x0"; (with_reducible refine o2_eqS ?_); walk_at "x5"; walk_at "x12"; (with_reducible refine gos_next ?_); (with_reducible refine gos_ret ?_); (with_reducible refine go_int ?_); walk_at "x0"; (focus skip); rotate_left)
  (focus (rfl)); (focus (rfl)); (focus (rfl)); (focus (rfl)); (focus (rfl))
theorem cal__law_due (D : Df K mg "_law_due" s__law_due) {a_SkewError a_NoLevel a_NoHistory a_WHYS a_Loose a_Kept a_Make a_Watch a_Hold : Addr} (XX : XF K mg a_SkewError a_NoLevel a_NoHistory a_WHYS a_Loose a_Kept a_Make a_Watch a_Hold) (c__law_many : Cal P w K mg base "_law_many" 1 ["_law_word_here", "_law_looks"] (C__law_many mg)) (b_range : mg "range" = none) : Cal P w K mg base "_law_due" 2 ["_law_tale_here", "_law_word_here"] (C__law_due mg) := by
  obtain ⟨f, fd, F, mf⟩ := D
  obtain ⟨f__law_many, fd__law_many, G__law_many, g__law_many, k__law_many, bn__law_many, _⟩ := c__law_many
  refine ⟨f, fd, ?_, mf, F.kp, F.binds (ps := ["_law_tale_here", "_law_word_here"]) fun _ _ _ _ _ _ us hl => match us, hl with | [_, _], _ => rfl, Fun.lk F⟩
  refine F.ok sc__law_due (fun vs H Q E hS0 => spP_len (n := 2) (fun xs p q c0 => by unfold C__law_due at c0; obtain ⟨_, _, _, rfl, _⟩ := c0; rfl) hS0) (fun cdv A outer s H vs Q E hr hS0 => ?_)
  have hu := hu_of hr
  refine sp_body hS0 (fun B xs p q c0 hl0 wx => ?_)
  obtain ⟨w, ds, ps, rfl, hp0, hp1, rfl, rfl⟩ := c0
  refine ⟨_, (pss_cons (ps_asg (pe_lst pa_nil) (pg_name (i := 2) sc__law_due.nd rfl (by first | exact Or.inl rfl | exact Or.inr rfl)))
      (pss_cons (ps_for PassesOwn.never rfl (k_seq (K := K) rfl (pe_ix (k_ix (K := K) rfl hu) (pv 0) pe_int (fun _ _ => rfl))) (k_tup (K := K) (n := 3) rfl (by rfl) (pgs_cons (pg_name (i := 3) sc__law_due.nd rfl (by first | exact Or.inl rfl | exact Or.inr rfl)) (pgs_cons (pg_name (i := 4) sc__law_due.nd rfl (by first | exact Or.inl rfl | exact Or.inr rfl)) (pgs_cons (pg_name (i := 5) sc__law_due.nd rfl (by first | exact Or.inl rfl | exact Or.inr rfl)) pgs_nil))))
        (pss_cons (ps_asg (pv 4) (pg_name (i := 6) sc__law_due.nd rfl (by first | exact Or.inl rfl | exact Or.inr rfl)))
        (pss_cons (ps_if (pt_cmpR op_notG (pv 1) pe_non (nomark _))
          (pss_one (ps_asg (pv 1) (pg_name (i := 6) sc__law_due.nd rfl (by first | exact Or.inl rfl | exact Or.inr rfl))))
          pss_nil)
        (pss_one (ps_expr (k_bm (K := K) rfl (pe_bm PySem.F.plainAttrs_list PySem.F.slot_list_extend PySem.F.type_list_extend mt_extend (pv 2) (pa_cons (pe_lc (own := [("_law_place", 7)]) rfl sc__law_due.nd (pi_range1 (by rfl) b_range (pa_cons (pe_call G__law_many hr rfl g__law_many k__law_many bn__law_many .nil pass0 (pa_cons (pv 6) (pa_cons (pv 5) pa_nil))) pa_nil)) (blkOk_by (N := N__law_due) (sc := defScope s__law_due) (by decide +kernel)) (fun _ _ _ _ _ => (pg_name (i := 7) sc__law_due.nd rfl (by first | exact Or.inl rfl | exact Or.inr rfl))) (fun _ _ _ _ _ => pts_nil) (fun _ _ _ _ _ => (pe_tup (pa_cons (pv 3) (pa_cons (pv 7) pa_nil))))) pa_nil))))))))
      (pss_one (ps_ret (pv 2))))), ?_⟩
  clear hS0 hl0 hr hu wx G__law_many g__law_many k__law_many bn__law_many b_range
  have X_r_WHYS := XX.r_WHYS
  have X_g_Loose := XX.g_Loose
  have X_R_Loose := XX.R_Loose
  have X_g_Kept := XX.g_Kept
  have X_R_Kept := XX.R_Kept
  have X_g_Make := XX.g_Make
  have X_R_Make := XX.R_Make
  have X_g_Watch := XX.g_Watch
  have X_R_Watch := XX.R_Watch
  have X_g_Hold := XX.g_Hold
  have X_R_Hold := XX.R_Hold
  simp only [List.map_cons, List.map_nil, List.length_cons, List.length_nil, List.cons_append, List.nil_append, Nat.reduceAdd, Nat.reduceSub, List.replicate_succ, List.replicate_zero, N__law_due]
  unfold whD
  ((with_reducible refine gos_sA ?_); (with_reducible refine gos_asg ?_); (with_reducible refine go_lst ?_); (with_reducible refine goa_nil ?_); walk_at "x0"; walk_at "x1"; walk_at "x2"; (with_reducible refine gos_sF ?_); (with_reducible refine gos_for ?_); (with_reducible refine goi_seq ?_); (with_reducible refine go_op ?_); walk_at "x3"; (with_reducible refine go_int ?_); walk_at "x0"; walk_at "x10"; walk_at "x0"; (focus skip); rotate_left)
  refine ⟨_, .seq rfl, fun i Γ' => ∃ (a3 a4 a5 a6 : Option O), Γ' = [some (O.d (.tup [.lst (ds.map deD), .lst ps])), some (O.d (wdD w)), some (.ol (((spotsF w (ds.take i)).map sptD).map O.d)), a3, a4, a5, a6, none], ⟨_, _, _, _, rfl⟩, ?_, ?_⟩
  · rintro i x _ hx ⟨a3, a4, a5, a6, rfl⟩
    obtain ⟨d, hd, rfl⟩ := mapD_get hx
    have hdm := hp1 d (List.mem_of_getElem? hd)
    have hil := (List.getElem?_eq_some_iff.mp hd).1
    have hs := spots_le (l := w.getD d.l) hdm
    have hln := spotsF_len (w := w) (ds := ds.take i) fun x hx => hp1 x (List.mem_of_mem_take hx)
    rw [List.length_take] at hln
    have hsn := spotsF_snoc (w := w) hd
    unfold deD
    cases w
    all_goals
      dsimp only [wdD]
      (repeat' (first | (with_reducible refine gos_sA ?_) | (with_reducible refine gos_asg ?_) | (with_reducible refine gos_if ?_) | (with_reducible refine gos_next ?_) | walk_at "x38" | walk_at "x3" | (with_reducible refine go_non ?_) | (with_reducible refine go_op ?_) | (with_reducible refine got_test ?_) | walk_at "x2" | (with_reducible refine gog_tup ?_) | (with_reducible refine gogs_nil ?_) | walk_at "x16" | walk_at "x5" | walk_at "x32" | walk_at "x0" | walk_at "x12" | walk_at "x1" | (with_reducible refine gos_seq ?_) | fail))
      refine go_lcR1 (fun p => .tup [.int d.n, .int p]) ?_
      ((with_reducible refine goa_cons ?_); walk_at "x0"; (with_reducible refine call__law_many ?_); (with_reducible refine goa_cons ?_); walk_at "x3"; (with_reducible refine goa_cons ?_); walk_at "x3"; (with_reducible refine goa_nil ?_); walk_at "x0"; walk_at "x9"; (with_reducible refine goa_nil ?_); walk_at "x5"; (focus skip); rotate_left)
      simp only [Option.getD_none, Option.getD_some] at hs
      simp only [List.length_map]
      refine ⟨by omega, by omega, Nat.le_of_ble_eq_true rfl, by first | trivial | rfl, fun p acc h0 h1 => ?_, ?_⟩
      · try dsimp only [List.set]
        ((with_reducible refine go_tup ?_); (with_reducible refine goa_cons ?_); walk_at "x3"; (with_reducible refine goa_cons ?_); walk_at "x3"; (with_reducible refine goa_nil ?_); walk_at "x0"; walk_at "x1"; walk_at "x1"; (focus skip); rotate_left)
        (focus (rfl))
      refine ⟨_, _, rfl, rfl, by simp only [List.length_map, List.length_range]; omega, ?_⟩
      rw [hsn, List.map_append, List.map_append]
      unfold spots1
      simp only [List.map_map]
      exact ⟨_, _, _, _, rfl⟩
  · rintro _ ⟨a3, a4, a5, a6, rfl⟩
    rw [List.length_map, List.take_length]
    ((with_reducible refine gos_ret ?_); walk_at "x8")
theorem cal_edges (D : DfT K mg "edges" s_edges .none) {a_SkewError a_NoLevel a_NoHistory a_WHYS a_Loose a_Kept a_Make a_Watch a_Hold : Addr} (XX : XF K mg a_SkewError a_NoLevel a_NoHistory a_WHYS a_Loose a_Kept a_Make a_Watch a_Hold) (c_levels_for : CalX P w K mg base "levels_for" 2 ["history", "word"] (C_levels_for mg)) : CalXD P w K mg base "edges" 3 ["history", "word"] (C_edges mg) .none := by
  obtain ⟨f, fd, F, mf⟩ := D
  obtain ⟨f_levels_for, fd_levels_for, G_levels_for, g_levels_for, k_levels_for, bn_levels_for, _⟩ := c_levels_for
  refine ⟨f, fd, ?_, mf, F.kp, F.binds (ps := ["history", "word"]) 2 rfl (fun _ _ _ _ _ _ _ us hl => match us, hl with | [_, _], _ => ⟨_, rfl, rfl⟩), F.bindsD (ps := ["history", "word"]) 1 rfl (fun _ _ _ _ _ _ _ us hl => match us, hl with | [_], _ => ⟨_, rfl, rfl⟩), FunT.lk F⟩
  refine F.okX sc_edges (fun vs H Q E hS0 => spP_len (n := 2) (fun xs p q c0 => by unfold C_edges at c0; obtain ⟨_, _, _, rfl, _⟩ := c0; rfl) hS0) (fun cdv A outer s H vs Q E hr hS0 => ?_)
  have hu := hu_of hr
  refine sp_body hS0 (fun B xs p q c0 hl0 wx => ?_)
  obtain ⟨s, ds, ps, rfl, hp0, hp1, rfl, rfl⟩ := c0
  refine ⟨_, (pss_cons (ps_asg (pe_callS G_levels_for hr rfl g_levels_for k_levels_for bn_levels_for (fun σ => L2.passAt (L2.takes_of rfl rfl rfl rfl) σ) (pa_cons (pv 0) (pa_cons (pv 1) pa_nil))) (pg_name (i := 2) sc_edges.nd rfl (by first | exact Or.inl rfl | exact Or.inr rfl)))
      pss_never), ?_⟩
  clear hS0 hl0 hr hu G_levels_for g_levels_for k_levels_for bn_levels_for
  have X_r_WHYS := XX.r_WHYS
  have X_g_Loose := XX.g_Loose
  have X_R_Loose := XX.R_Loose
  have X_g_Kept := XX.g_Kept
  have X_R_Kept := XX.R_Kept
  have X_g_Make := XX.g_Make
  have X_R_Make := XX.R_Make
  have X_g_Watch := XX.g_Watch
  have X_R_Watch := XX.R_Watch
  have X_g_Hold := XX.g_Hold
  have X_R_Hold := XX.R_Hold
  simp only [List.map_cons, List.map_nil, List.length_cons, List.length_nil, List.cons_append, List.nil_append, Nat.reduceAdd, Nat.reduceSub, List.replicate_succ, List.replicate_zero, N_edges]
  ((with_reducible refine gos_sA ?_); (with_reducible refine gos_asg ?_); walk_at "x0"; walk_at "x35"; (with_reducible refine goa_cons ?_); walk_at "x3"; (with_reducible refine goa_cons ?_); walk_at "x3"; (with_reducible refine goa_nil ?_); walk_at "x0"; (focus skip); rotate_left)
  refine ⟨some s, ds, ps, rfl, hp0, fun lw hlw => ?_, fun Cc fs h => ⟨h.1, h.2.1⟩⟩
  rw [Option.map_some, hp1] at hlw
  cases lw <;> cases hlw
theorem cal__law_refused (D : Df K mg "_law_refused" s__law_refused) {a_SkewError a_NoLevel a_NoHistory a_WHYS a_Loose a_Kept a_Make a_Watch a_Hold : Addr} (XX : XF K mg a_SkewError a_NoLevel a_NoHistory a_WHYS a_Loose a_Kept a_Make a_Watch a_Hold) (c_edges : CalXD P w K mg base "edges" 3 ["history", "word"] (C_edges mg) .none) (c_spots : CalXD P w K mg base "spots" 3 ["history", "word"] (C_spots mg) .none) (b_ValueError : mg "ValueError" = none) (b_isinstance : mg "isinstance" = none) : Cal P w K mg base "_law_refused" 4 ["_law_tale_here", "_law_word_here", "_law_of_edges"] (C__law_refused mg) := by
  obtain ⟨f, fd, F, mf⟩ := D
  obtain ⟨f_edges, fd_edges, G_edges, g_edges, k_edges, bn_edges, bd_edges, _⟩ := c_edges
  obtain ⟨f_spots, fd_spots, G_spots, g_spots, k_spots, bn_spots, bd_spots, _⟩ := c_spots
  refine ⟨f, fd, ?_, mf, F.kp, F.binds (ps := ["_law_tale_here", "_law_word_here", "_law_of_edges"]) fun _ _ _ _ _ _ us hl => match us, hl with | [_, _, _], _ => rfl, Fun.lk F⟩
  refine F.ok sc__law_refused (fun vs H Q E hS0 => spP_len (n := 3) (fun xs p q c0 => by unfold C__law_refused at c0; obtain ⟨_, _, _, _, rfl, _⟩ := c0; rfl) hS0) (fun cdv A outer s H vs Q E hr hS0 => ?_)
  have hu := hu_of hr
  refine sp_body hS0 (fun B xs p q c0 hl0 wx => ?_)
  obtain ⟨s, ds, ps, b, rfl, hp0, hp1, hp2, hp3, rfl, rfl⟩ := c0
  refine ⟨_, (pss_cons (ps_asg pe_str (pg_name (i := 3) sc__law_refused.nd rfl (by first | exact Or.inl rfl | exact Or.inr rfl)))
      (pss_cons (k_tryAs (K := K) (i := 4) sc__law_refused.nd ⟨rfl, by decide, .inl XX.g_NoLevel⟩ takes0 (fun W pn xe tk po =>
        (pss_one (ps_if (pt_val (pv 2))
          (pss_one (ps_expr (pe_callS G_edges hr rfl g_edges k_edges bn_edges (fun σ => L2.passAt tk σ) (pa_cons (pv 0) (pa_cons (pv 1) pa_nil)))))
          (pss_one (ps_expr (pe_callS G_spots hr rfl g_spots k_spots bn_spots (fun σ => L2.passAt tk σ) (pa_cons (pv 0) (pa_cons (pv 1) pa_nil)))))))) (fun a oe cls d pn hz hf =>
        (pss_cons (ps_asg pe_str (pg_name (i := 3) sc__law_refused.nd rfl (by first | exact Or.inl rfl | exact Or.inr rfl)))
        (pss_one (ps_if (PW.pt (pw_and (pt_val (pe_callB (k_isX (K := K) rfl hz hf) (by rfl) b_isinstance (by decide +kernel) (pa_cons (pv 4) (pa_cons (pe_glob (v := .ref a_SkewError) (by rfl) XX.g_SkewError rfl) pa_nil)))) (pw_and (pt_val (pe_callB (k_isX (K := K) rfl hz hf) (by rfl) b_isinstance (by decide +kernel) (pa_cons (pv 4) (pa_cons (pe_bltn (v := .ty "ValueError") (u := .type "ValueError") (by rfl) b_ValueError (by decide +kernel) rfl) pa_nil)))) (pw_and1 (pt_not (pt_val (pe_callB (k_isX (K := K) rfl hz hf) (by rfl) b_isinstance (by decide +kernel) (pa_cons (pv 4) (pa_cons (pe_glob (v := .ref a_NoHistory) (by rfl) XX.g_NoHistory rfl) pa_nil)))))))))
          (pss_one (ps_asg pe_str (pg_name (i := 3) sc__law_refused.nd rfl (by first | exact Or.inl rfl | exact Or.inr rfl))))
          pss_nil)))))
      (pss_one (ps_ret (pe_cmpR (k_eq (K := K) rfl hr.units) (pv 3) pe_str (nomark _)))))), ?_⟩
  clear hS0 hl0 hr hu wx G_edges g_edges k_edges bn_edges G_spots g_spots k_spots bn_spots b_ValueError b_isinstance
  have X_g_SkewError := XX.g_SkewError
  have X_g_NoLevel := XX.g_NoLevel
  have X_g_NoHistory := XX.g_NoHistory
  have X_x_NoLevel := XX.x_NoLevel
  have X_e_NoLevel := XX.e_NoLevel
  have X_em_NoLevel_NoLevel := XX.em_NoLevel_NoLevel
  have X_ki_NoLevel_SkewError := XX.ki_NoLevel_SkewError
  have X_ki_NoLevel_NoHistory := XX.ki_NoLevel_NoHistory
  have X_kt_NoLevel_ValueError := XX.kt_NoLevel_ValueError
  have X_g_WHYS := XX.g_WHYS
  have X_r_WHYS := XX.r_WHYS
  have X_g_Loose := XX.g_Loose
  have X_R_Loose := XX.R_Loose
  have X_M_Loose := XX.M_Loose
  have X_g_Kept := XX.g_Kept
  have X_R_Kept := XX.R_Kept
  have X_M_Kept := XX.M_Kept
  have X_g_Make := XX.g_Make
  have X_R_Make := XX.R_Make
  have X_M_Make := XX.M_Make
  have X_g_Watch := XX.g_Watch
  have X_R_Watch := XX.R_Watch
  have X_M_Watch := XX.M_Watch
  have X_g_Hold := XX.g_Hold
  have X_R_Hold := XX.R_Hold
  have X_M_Hold := XX.M_Hold
  simp only [List.map_cons, List.map_nil, List.length_cons, List.length_nil, List.cons_append, List.nil_append, Nat.reduceAdd, Nat.reduceSub, List.replicate_succ, List.replicate_zero, N__law_refused]
  ((with_reducible refine gos_sA ?_); (with_reducible refine gos_asg ?_); (with_reducible refine go_str ?_); walk_at "x2"; (with_reducible refine gos_sTA ?_); walk_at "x0"; (focus skip); rotate_left)
  refine gos_tryAs (fun Cc fs Γ => fs = none ∧ mg "NoLevel" = some (.ref Cc) ∧ Γ = [some (O.d (whD ds ps)), some (O.d (.str s)), some (O.d (.bl b)), some (O.d (.str "")), none]) ?_ ?_
  · intro F' B' W hw
    ((with_reducible refine gos_if ?_); (with_reducible refine got_B ?_); walk_at "x3"; walk_at "x5"; walk_at "x12"; (with_reducible refine gos_drop ?_); walk_at "x0"; walk_at "x39"; (with_reducible refine goa_cons ?_); walk_at "x3"; (with_reducible refine goa_cons ?_); walk_at "x3"; (with_reducible refine goa_nil ?_); walk_at "x0"; walk_at "x36"; walk_at "x1"; walk_at "x1"; (focus skip); rotate_left; (with_reducible refine gos_drop ?_); walk_at "x0"; walk_at "x40"; (with_reducible refine goa_cons ?_); walk_at "x3"; (with_reducible refine goa_cons ?_); walk_at "x3"; (with_reducible refine goa_nil ?_); walk_at "x0"; (focus skip); rotate_left)
    · exact ⟨fun zo h => h.elim, fun Cc fs h => ⟨h.1, h.2, trivial⟩⟩
    · refine ⟨some s, ds, ps, rfl, hp0, hp1, hp2, fun lw h => ?_, fun Cc fs h => ⟨h.1, h.2.1, trivial⟩⟩
      rw [Option.map_some, hp3] at h
      cases lw <;> cases h
  · rintro F' B' Cc fs Γ' ⟨rfl, e1, rfl⟩
    have e : Cc = a_NoLevel := by have := e1.symm.trans X_g_NoLevel; cases this; rfl
    subst e
    refine ⟨X_em_NoLevel_NoLevel, Nat.le_of_ble_eq_true rfl, fun a d hd => ?_⟩
    cases d with
    | some dd => exact hd.elim
    | none =>
    dsimp only [List.set]
    ((with_reducible refine gos_sA ?_); (with_reducible refine gos_asg ?_); (with_reducible refine go_str ?_); walk_at "x2"; (with_reducible refine gos_if ?_); (with_reducible refine got_and ?_); (with_reducible refine got_B ?_); (with_reducible refine go_cb ?_); (with_reducible refine goa_cons ?_); walk_at "x3"; (with_reducible refine goa_cons ?_); (with_reducible refine go_ref ?_); (with_reducible refine goa_nil ?_); walk_at "x0"; walk_at "x41"; walk_at "x5"; walk_at "x0"; walk_at "x12"; (with_reducible refine got_and ?_); (with_reducible refine got_B ?_); (with_reducible refine go_cb ?_); (with_reducible refine goa_cons ?_); walk_at "x3"; (with_reducible refine goa_cons ?_); (with_reducible refine go_ty ?_); (with_reducible refine goa_nil ?_); walk_at "x0"; walk_at "x42"; walk_at "x5"; walk_at "x0"; walk_at "x12"; (with_reducible refine got_not ?_); (with_reducible refine got_B ?_); (with_reducible refine go_cb ?_); (with_reducible refine goa_cons ?_); walk_at "x3"; (with_reducible refine goa_cons ?_); (with_reducible refine go_ref ?_); (with_reducible refine goa_nil ?_); walk_at "x0"; walk_at "x41"; walk_at "x5"; walk_at "x12"; (with_reducible refine gos_asg ?_); (with_reducible refine go_str ?_); walk_at "x2"; (with_reducible refine gos_ret ?_); (with_reducible refine go_op ?_); walk_at "x3"; (with_reducible refine go_str ?_); walk_at "x0"; (with_reducible refine o2_eqS ?_); walk_at "x0"; (focus skip); rotate_left)
    (focus (rfl))
theorem cal_law (D : Df K mg "law" s_law) {a_SkewError a_NoLevel a_NoHistory a_WHYS a_Loose a_Kept a_Make a_Watch a_Hold : Addr} (XX : XF K mg a_SkewError a_NoLevel a_NoHistory a_WHYS a_Loose a_Kept a_Make a_Watch a_Hold) (c__law_longer : Cal P w K mg base "_law_longer" 4 ["_law_script"] (C__law_longer mg)) (c__law_word : Cal P w K mg base "_law_word" 1 ["_law_cell"] (C__law_word mg)) (c__law_odd : Cal P w K mg base "_law_odd" 1 ["_law_number"] (C__law_odd mg)) (c__law_cell_at : Cal P w K mg base "_law_cell_at" 1 ["_law_script", "_law_k"] (C__law_cell_at mg)) (c__law_alike : Cal P w K mg base "_law_alike" 2 ["_law_found", "_law_due_here"] (C__law_alike mg)) (c_spots : CalXD P w K mg base "spots" 3 ["history", "word"] (C_spots mg) .none) (c__law_due : Cal P w K mg base "_law_due" 2 ["_law_tale_here", "_law_word_here"] (C__law_due mg)) (c__law_refused : Cal P w K mg base "_law_refused" 4 ["_law_tale_here", "_law_word_here", "_law_of_edges"] (C__law_refused mg)) : Cal P w K mg base "law" 5 ["_law_script"] C_law := by
  obtain ⟨f, fd, F, mf⟩ := D
  obtain ⟨f__law_longer, fd__law_longer, G__law_longer, g__law_longer, k__law_longer, bn__law_longer, _⟩ := c__law_longer
  obtain ⟨f__law_word, fd__law_word, G__law_word, g__law_word, k__law_word, bn__law_word, _⟩ := c__law_word
  obtain ⟨f__law_odd, fd__law_odd, G__law_odd, g__law_odd, k__law_odd, bn__law_odd, _⟩ := c__law_odd
  obtain ⟨f__law_cell_at, fd__law_cell_at, G__law_cell_at, g__law_cell_at, k__law_cell_at, bn__law_cell_at, _⟩ := c__law_cell_at
  obtain ⟨f__law_alike, fd__law_alike, G__law_alike, g__law_alike, k__law_alike, bn__law_alike, _⟩ := c__law_alike
  obtain ⟨f_spots, fd_spots, G_spots, g_spots, k_spots, bn_spots, bd_spots, _⟩ := c_spots
  obtain ⟨f__law_due, fd__law_due, G__law_due, g__law_due, k__law_due, bn__law_due, _⟩ := c__law_due
  obtain ⟨f__law_refused, fd__law_refused, G__law_refused, g__law_refused, k__law_refused, bn__law_refused, _⟩ := c__law_refused
  refine ⟨f, fd, ?_, mf, F.kp, F.binds (ps := ["_law_script"]) fun _ _ _ _ _ _ us hl => match us, hl with | [_], _ => rfl, Fun.lk F⟩
  refine F.ok sc_law (fun vs H Q E hS0 => spP_len (n := 1) (fun xs p q c0 => by obtain ⟨ns, rfl, _⟩ := c0; rfl) hS0) (fun cdv A outer s H vs Q E hr hS0 => ?_)
  have hu := hu_of hr
  refine sp_body hS0 (fun B xs p q c0 hl0 wx => ?_)
  obtain ⟨ns, rfl, hlen, hbits, rfl, rfl⟩ := c0
  refine ⟨_, (pss_cons (ps_asg (pe_call G__law_longer hr rfl g__law_longer k__law_longer bn__law_longer .nil pass0 (pa_cons (pv 0) pa_nil)) (pg_name (i := 1) sc_law.nd rfl (by first | exact Or.inl rfl | exact Or.inr rfl)))
      (pss_cons (ps_asg (pe_call G__law_word (hr.mono (by decide)) rfl g__law_word k__law_word bn__law_word .nil pass0 (pa_cons (pe_call G__law_cell_at (hr.mono (by decide)) rfl g__law_cell_at k__law_cell_at bn__law_cell_at .nil pass0 (pa_cons (pv 0) (pa_cons pe_int pa_nil))) pa_nil)) (pg_name (i := 2) sc_law.nd rfl (by first | exact Or.inl rfl | exact Or.inr rfl)))
      (pss_cons (ps_if (pt_not (pt_val (pe_call G__law_alike (hr.mono (by decide)) rfl g__law_alike k__law_alike bn__law_alike .nil pass0 (pa_cons (pe_callS G_spots (hr.mono (by decide)) rfl g_spots k_spots bn_spots (fun σ => L2.passAt takes0 σ) (pa_cons (pv 1) (pa_cons (pv 2) pa_nil))) (pa_cons (pe_call G__law_due (hr.mono (by decide)) rfl g__law_due k__law_due bn__law_due .nil pass0 (pa_cons (pv 1) (pa_cons (pv 2) pa_nil))) pa_nil)))))
        (pss_one (ps_ret pe_bl))
        pss_nil)
      (pss_cons (ps_if (pt_not (pt_val (pe_call G__law_alike (hr.mono (by decide)) rfl g__law_alike k__law_alike bn__law_alike .nil pass0 (pa_cons (pe_callSD G_spots (hr.mono (by decide)) rfl g_spots k_spots bd_spots (show Vals [V.non] [Value.none] from .cons rfl .nil) (fun σ => L2.passAt takes0 σ) (pa_cons (pv 1) pa_nil)) (pa_cons (pe_call G__law_due (hr.mono (by decide)) rfl g__law_due k__law_due bn__law_due .nil pass0 (pa_cons (pv 1) (pa_cons pe_non pa_nil))) pa_nil)))))
        (pss_one (ps_ret pe_bl))
        pss_nil)
      (pss_cons (ps_asg (pe_call G__law_odd (hr.mono (by decide)) rfl g__law_odd k__law_odd bn__law_odd .nil pass0 (pa_cons (pe_op op_modG (pe_call G__law_cell_at (hr.mono (by decide)) rfl g__law_cell_at k__law_cell_at bn__law_cell_at .nil pass0 (pa_cons (pv 0) (pa_cons pe_int pa_nil))) pe_int) pa_nil)) (pg_name (i := 3) sc_law.nd rfl (by first | exact Or.inl rfl | exact Or.inr rfl)))
      (pss_cons (ps_if (pt_cmpR (k_in (K := K) rfl hu) (pv 3) (pe_tup (pa_cons pe_str (pa_cons pe_str (pa_cons pe_str (pa_cons pe_str (pa_cons pe_str pa_nil)))))) (by rfl))
        (pss_one (ps_if (pt_not (pt_val (pe_call G__law_alike (hr.mono (by decide)) rfl g__law_alike k__law_alike bn__law_alike .nil pass0 (pa_cons (pe_callS G_spots (hr.mono (by decide)) rfl g_spots k_spots bn_spots (fun σ => L2.passAt takes0 σ) (pa_cons (pv 1) (pa_cons (pv 3) pa_nil))) (pa_cons (pe_call G__law_due (hr.mono (by decide)) rfl g__law_due k__law_due bn__law_due .nil pass0 (pa_cons (pv 1) (pa_cons (pv 3) pa_nil))) pa_nil)))))
          (pss_one (ps_ret pe_bl))
          pss_nil))
        (pss_one (ps_if (PW.pt (pw_or (pt_not (pt_val (pe_call G__law_refused hr rfl g__law_refused k__law_refused bn__law_refused .nil pass0 (pa_cons (pv 1) (pa_cons (pv 3) (pa_cons pe_bl pa_nil)))))) (pw_or1 (pt_not (pt_val (pe_call G__law_refused hr rfl g__law_refused k__law_refused bn__law_refused .nil pass0 (pa_cons (pv 1) (pa_cons (pv 3) (pa_cons pe_bl pa_nil)))))))))
          (pss_one (ps_ret pe_bl))
          pss_nil)))
      (pss_one (ps_ret (pe_cmpR (k_eq (K := K) rfl hr.units) (pv 1) (pe_call G__law_longer hr rfl g__law_longer k__law_longer bn__law_longer .nil pass0 (pa_cons (pv 0) pa_nil)) (nomark _)))))))))), ?_⟩
  clear hS0 hl0 hr hu wx G__law_longer g__law_longer k__law_longer bn__law_longer G__law_word g__law_word k__law_word bn__law_word G__law_odd g__law_odd k__law_odd bn__law_odd G__law_cell_at g__law_cell_at k__law_cell_at bn__law_cell_at G__law_alike g__law_alike k__law_alike bn__law_alike G_spots g_spots k_spots bn_spots G__law_due g__law_due k__law_due bn__law_due G__law_refused g__law_refused k__law_refused bn__law_refused
  have X_r_WHYS := XX.r_WHYS
  have X_g_Loose := XX.g_Loose
  have X_R_Loose := XX.R_Loose
  have X_g_Kept := XX.g_Kept
  have X_R_Kept := XX.R_Kept
  have X_g_Make := XX.g_Make
  have X_R_Make := XX.R_Make
  have X_g_Watch := XX.g_Watch
  have X_R_Watch := XX.R_Watch
  have X_g_Hold := XX.g_Hold
  have X_R_Hold := XX.R_Hold
  simp only [List.map_cons, List.map_nil, List.length_cons, List.length_nil, List.cons_append, List.nil_append, Nat.reduceAdd, Nat.reduceSub, List.replicate_succ, List.replicate_zero, N_law]
  have lk := longD_ok ns
  ((with_reducible refine gos_sA ?_); (with_reducible refine gos_asg ?_); walk_at "x0"; (with_reducible refine call__law_longer ?_); (with_reducible refine goa_cons ?_); walk_at "x3"; (with_reducible refine goa_nil ?_); walk_at "x5"; walk_at "x1"; walk_at "x2"; (with_reducible refine gos_sA ?_); (with_reducible refine gos_asg ?_); walk_at "x0"; (with_reducible refine call__law_word ?_); (with_reducible refine goa_cons ?_); (with_reducible refine call__law_cell_at ?_); (with_reducible refine goa_cons ?_); walk_at "x3"; (with_reducible refine goa_cons ?_); (with_reducible refine go_int ?_); (with_reducible refine goa_nil ?_); walk_at "x0"; walk_at "x9"; walk_at "x1"; (with_reducible refine goa_nil ?_); walk_at "x5"; (focus skip); rotate_left)
  intro w
  refine gog_name (Nat.le_of_ble_eq_true rfl) ?_
  dsimp only [List.set]
  refine gos_frz 1 rfl ?_
  rw [longO_fz, wd_os]
  dsimp only [List.set]
  have hw := shp_wh (ns := ns)
  generalize hds : longD ns = ds at *
  generalize hps : mkL (taleF ns).2 = ps at *
  have hsp : ∀ (w lw : Option Lv), Option.map lvOf (Option.map lvW w) = Option.map some lw → lw = w := fun w lw h => by
    cases w <;> cases lw <;> simp_all [lvOf_W]
  have hno : ∀ (w : Option Lv), ¬ ∃ s, Option.map lvW w = some s ∧ lvOf s = none := fun w ⟨s, h1, h2⟩ => by
    cases w with
    | none => cases h1
    | some l => cases h1; rw [lvOf_W] at h2; cases h2
  ((with_reducible refine gos_sIR ?_); (with_reducible refine gos_if ?_); (with_reducible refine got_not ?_); (with_reducible refine got_B ?_); walk_at "x0"; (with_reducible refine call__law_alike ?_); (with_reducible refine goa_cons ?_); walk_at "x43"; (with_reducible refine goa_cons ?_); walk_at "x3"; (with_reducible refine goa_cons ?_); walk_at "x3"; (with_reducible refine goa_nil ?_); walk_at "x0"; walk_at "x36"; walk_at "x1"; (focus skip); rotate_left)
  refine ⟨lk.2.1, lk.2.2, fun lw hlw => ?_, fun Cc fs h => absurd h.2.2 (hno _)⟩
  have := hsp _ _ hlw
  subst this
  ((with_reducible refine goa_cons ?_); (with_reducible refine call__law_due ?_); (with_reducible refine goa_cons ?_); walk_at "x3"; (with_reducible refine goa_cons ?_); walk_at "x3"; (with_reducible refine goa_nil ?_); walk_at "x0"; (focus skip); rotate_left)
  refine ⟨lw, ds, ps, by rw [wd_os], lk.1, lk.2.1, ?_⟩
  ((with_reducible refine goa_nil ?_); walk_at "x5"; walk_at "x5"; walk_at "x12"; (with_reducible refine gos_next ?_); (with_reducible refine gos_sIR ?_); (with_reducible refine gos_if ?_); (with_reducible refine got_not ?_); (with_reducible refine got_B ?_); walk_at "x0"; (with_reducible refine call__law_alike ?_); (with_reducible refine goa_cons ?_); walk_at "x44"; (with_reducible refine goa_cons ?_); walk_at "x3"; (with_reducible refine goa_nil ?_); walk_at "x0"; (focus skip); rotate_left)
  refine ⟨none, ds, ps, rfl, rfl, lk.1, lk.2.1, lk.2.2, fun l2 hl2 => ?_, fun Cc fs h => absurd h.2.2 (hno none)⟩
  have := hsp none l2 hl2
  subst this
  ((with_reducible refine goa_cons ?_); (with_reducible refine call__law_due ?_); (with_reducible refine goa_cons ?_); walk_at "x3"; (with_reducible refine goa_cons ?_); (with_reducible refine go_non ?_); (with_reducible refine goa_nil ?_); walk_at "x0"; (focus skip); rotate_left)
  refine ⟨none, ds, ps, rfl, lk.1, lk.2.1, ?_⟩
  ((with_reducible refine goa_nil ?_); walk_at "x5"; walk_at "x5"; walk_at "x12"; (with_reducible refine gos_next ?_); (with_reducible refine gos_sA ?_); (with_reducible refine gos_asg ?_); walk_at "x0"; (with_reducible refine call__law_odd ?_); (with_reducible refine goa_cons ?_); (with_reducible refine go_op ?_); (with_reducible refine call__law_cell_at ?_); (with_reducible refine goa_cons ?_); walk_at "x3"; (with_reducible refine goa_cons ?_); (with_reducible refine go_int ?_); (with_reducible refine goa_nil ?_); walk_at "x0"; walk_at "x9"; walk_at "x1"; (with_reducible refine go_int ?_); walk_at "x0"; walk_at "x4"; (with_reducible refine goa_nil ?_); walk_at "x5"; walk_at "x1"; (focus skip); rotate_left)
  intro s hs
  refine gog_name (Nat.le_of_ble_eq_true rfl) ?_
  dsimp only [List.set]
  refine gos_cut (fun Γ' => Γ' = [some (O.d (D.sq (ns.map D.int))), some (O.d (whD ds ps)), some (O.d (osD (lw.map lvW))), some (O.d (.str s))]) ?_ ?_
  · refine gos_if ?_
    ((with_reducible refine got_test ?_); (with_reducible refine go_op ?_); walk_at "x3"; (with_reducible refine go_tup ?_); (with_reducible refine goa_cons ?_); (with_reducible refine go_str ?_); (with_reducible refine goa_cons ?_); (with_reducible refine go_str ?_); (with_reducible refine goa_cons ?_); (with_reducible refine go_str ?_); (with_reducible refine goa_cons ?_); (with_reducible refine go_str ?_); (with_reducible refine goa_cons ?_); (with_reducible refine go_str ?_); (with_reducible refine goa_nil ?_); walk_at "x0"; walk_at "x1"; (focus skip); rotate_left)
    refine o2_in rfl rfl rfl ?_
    have hin : ([D.str "loose", .str "kept", .str "make", .str "watch", .str "hold"].any fun y => y.eq1 (.str s)) = (lvOf s).isSome := by
      show ((("loose" : Str) == s) || ((("kept" : Str) == s) || ((("make" : Str) == s) || ((("watch" : Str) == s) || ((("hold" : Str) == s) || false))))) = _
      have hb : ∀ a : Str, (a == s) = decide (s = a) := fun a => by
        by_cases e : s = a
        · subst e; simp
        · rw [decide_eq_false e]; exact beq_eq_false_iff_ne.mpr (Ne.symm e)
      simp only [hb]
      unfold lvOf
      by_cases h1 : s = "loose"
      · rw [if_pos h1, decide_eq_true h1]; rfl
      rw [if_neg h1, decide_eq_false h1]
      by_cases h2 : s = "kept"
      · rw [if_pos h2, decide_eq_true h2]; rfl
      rw [if_neg h2, decide_eq_false h2]
      by_cases h3 : s = "make"
      · rw [if_pos h3, decide_eq_true h3]; rfl
      rw [if_neg h3, decide_eq_false h3]
      by_cases h4 : s = "watch"
      · rw [if_pos h4, decide_eq_true h4]; rfl
      rw [if_neg h4, decide_eq_false h4]
      by_cases h5 : s = "hold"
      · rw [if_pos h5, decide_eq_true h5]; rfl
      rw [if_neg h5, decide_eq_false h5]; rfl
    rw [hin]
    refine ⟨_, rfl, fun h => ?_, fun h => ?_⟩
    · obtain ⟨l, hl⟩ := Option.isSome_iff_exists.mp h
      have := lvOf_some hl
      subst this
      ((with_reducible refine gos_if ?_); (with_reducible refine got_not ?_); (with_reducible refine got_B ?_); (with_reducible refine call__law_alike ?_); (with_reducible refine goa_cons ?_); walk_at "x43"; (with_reducible refine goa_cons ?_); walk_at "x3"; (with_reducible refine goa_cons ?_); walk_at "x3"; (with_reducible refine goa_nil ?_); walk_at "x0"; (focus skip); rotate_left)
      refine ⟨some (lvW l), ds, ps, rfl, lk.1, lk.2.1, lk.2.2, fun l2 hl2 => ?_, fun Cc fs h => absurd h.2.2 (hno (some l))⟩
      have := hsp (some l) l2 hl2
      subst this
      ((with_reducible refine goa_cons ?_); (with_reducible refine call__law_due ?_); (with_reducible refine goa_cons ?_); walk_at "x3"; (with_reducible refine goa_cons ?_); walk_at "x3"; (with_reducible refine goa_nil ?_); walk_at "x0"; (focus skip); rotate_left)
      refine ⟨some l, ds, ps, rfl, lk.1, lk.2.1, ?_⟩
      ((with_reducible refine goa_nil ?_); walk_at "x5"; walk_at "x5"; walk_at "x12"; (with_reducible refine gos_next ?_); walk_at "x0")
      skip
    · have hn : lvOf s = none := by cases e : lvOf s with
        | none => rfl
        | some l => rw [e] at h; cases h
      ((with_reducible refine gos_if ?_); (with_reducible refine got_or ?_); (with_reducible refine got_not ?_); (with_reducible refine got_B ?_); walk_at "x0"; (with_reducible refine call__law_refused ?_); (with_reducible refine goa_cons ?_); walk_at "x3"; (with_reducible refine goa_cons ?_); walk_at "x3"; (with_reducible refine goa_cons ?_); (with_reducible refine go_bl ?_); (with_reducible refine goa_nil ?_); walk_at "x0"; walk_at "x45"; walk_at "x1"; (focus skip); rotate_left)
      refine ⟨lk.2.1, lk.2.2, hn, ?_⟩
      (walk_at "x5"; walk_at "x12"; (with_reducible refine got_not ?_); (with_reducible refine got_B ?_); (with_reducible refine call__law_refused ?_); (with_reducible refine goa_cons ?_); walk_at "x3"; (with_reducible refine goa_cons ?_); walk_at "x3"; (with_reducible refine goa_cons ?_); (with_reducible refine go_bl ?_); (with_reducible refine goa_nil ?_); walk_at "x0"; walk_at "x45"; walk_at "x1"; (focus skip); rotate_left)
      refine ⟨lk.2.1, lk.2.2, hn, ?_⟩
      (walk_at "x5"; walk_at "x12"; (with_reducible refine gos_next ?_); walk_at "x0")
      skip
  rintro _ rfl
  ((with_reducible refine gos_ret ?_); (with_reducible refine go_op ?_); walk_at "x3"; walk_at "x0"; (with_reducible refine call__law_longer ?_); (with_reducible refine goa_cons ?_); walk_at "x3"; (with_reducible refine goa_nil ?_); walk_at "x5"; walk_at "x1"; (focus skip); rotate_left)
  rw [longO_fz, hds, hps]
  refine o2_eqSame 6 hw (by decide) ?_
  (walk_at "x0")
  skip
end
theorem all_mk {P : Program} {w : World} {K : PySem.W.Frag} {h : Heap} {mg : Str → Option Value} {fa : Addr} (X : K.In h) (G : h.Ns mainGlobals mg) (hfa : mg "law" = some (.ref fa))
    {f0 : Addr} {oc0 kV0 dc0 pm0 cd0 ct0 : Value} {od0 an0 : Option Addr} {sl0 : Array (Option Value)}
    {f1 : Addr} {oc1 kV1 dc1 pm1 cd1 ct1 : Value} {od1 an1 : Option Addr} {sl1 : Array (Option Value)}
    {f2 : Addr} {oc2 kV2 dc2 pm2 cd2 ct2 : Value} {od2 an2 : Option Addr} {sl2 : Array (Option Value)}
    {f3 : Addr} {oc3 kV3 dc3 pm3 cd3 ct3 : Value} {od3 an3 : Option Addr} {sl3 : Array (Option Value)}
    {f4 : Addr} {oc4 kV4 dc4 pm4 cd4 ct4 : Value} {od4 an4 : Option Addr} {sl4 : Array (Option Value)}
    {f5 : Addr} {oc5 kV5 dc5 pm5 cd5 ct5 : Value} {od5 an5 : Option Addr} {sl5 : Array (Option Value)}
    {f6 : Addr} {oc6 kV6 dc6 pm6 cd6 ct6 : Value} {od6 an6 : Option Addr} {sl6 : Array (Option Value)}
    {f7 : Addr} {oc7 kV7 dc7 pm7 cd7 ct7 : Value} {od7 an7 : Option Addr} {sl7 : Array (Option Value)}
    {f8 : Addr} {oc8 kV8 dc8 pm8 cd8 ct8 : Value} {od8 an8 : Option Addr} {sl8 : Array (Option Value)}
    {f9 : Addr} {oc9 kV9 dc9 pm9 cd9 ct9 : Value} {od9 an9 : Option Addr} {sl9 : Array (Option Value)}
    {f10 : Addr} {oc10 kV10 dc10 pm10 cd10 ct10 : Value} {od10 an10 : Option Addr} {sl10 : Array (Option Value)}
    {f11 : Addr} {oc11 kV11 dc11 pm11 cd11 ct11 : Value} {od11 an11 : Option Addr} {sl11 : Array (Option Value)}
    {f12 : Addr} {oc12 kV12 dc12 pm12 cd12 ct12 : Value} {od12 an12 : Option Addr} {sl12 : Array (Option Value)}
    {f13 : Addr} {oc13 kV13 dc13 pm13 cd13 ct13 : Value} {od13 an13 : Option Addr} {sl13 : Array (Option Value)}
    {f14 : Addr} {oc14 kV14 dc14 pm14 cd14 ct14 : Value} {od14 an14 : Option Addr} {sl14 : Array (Option Value)}
    {f15 : Addr} {oc15 kV15 dc15 pm15 cd15 ct15 : Value} {od15 an15 : Option Addr} {sl15 : Array (Option Value)}
    {f16 : Addr} {oc16 kV16 dc16 pm16 cd16 ct16 : Value} {od16 an16 : Option Addr} {sl16 : Array (Option Value)}
    {f17 : Addr} {oc17 kV17 dc17 pm17 cd17 ct17 : Value} {od17 an17 : Option Addr} {sl17 : Array (Option Value)}
    {f18 : Addr} {oc18 kV18 dc18 pm18 cd18 ct18 : Value} {od18 an18 : Option Addr} {sl18 : Array (Option Value)}
    {f19 : Addr} {oc19 kV19 dc19 pm19 cd19 ct19 : Value} {od19 an19 : Option Addr} {sl19 : Array (Option Value)}
    {f20 : Addr} {oc20 kV20 dc20 pm20 cd20 ct20 : Value} {od20 an20 : Option Addr} {sl20 : Array (Option Value)}
    {T20 : Addr} {dT20 : Option Addr} {nT20 : Nat} {sT20 : Array (Option Value)}
    {f21 : Addr} {oc21 kV21 dc21 pm21 cd21 ct21 : Value} {od21 an21 : Option Addr} {sl21 : Array (Option Value)}
    {f22 : Addr} {oc22 kV22 dc22 pm22 cd22 ct22 : Value} {od22 an22 : Option Addr} {sl22 : Array (Option Value)}
    {f23 : Addr} {oc23 kV23 dc23 pm23 cd23 ct23 : Value} {od23 an23 : Option Addr} {sl23 : Array (Option Value)}
    {T23 : Addr} {dT23 : Option Addr} {nT23 : Nat} {sT23 : Array (Option Value)}
    {f24 : Addr} {oc24 kV24 dc24 pm24 cd24 ct24 : Value} {od24 an24 : Option Addr} {sl24 : Array (Option Value)}
    {f25 : Addr} {oc25 kV25 dc25 pm25 cd25 ct25 : Value} {od25 an25 : Option Addr} {sl25 : Array (Option Value)}
    {a_SkewError a_NoLevel a_NoHistory a_WHYS a_Loose a_Kept a_Make a_Watch a_Hold : Addr}
    {u_WHYS_0 u_WHYS_1 u_WHYS_2 u_WHYS_3 : Tok}
    {o_WHYS : Nat}
    {s_WHYS : Array (Option Value)}
    (a0 : PySem.W.nsIn K mainGlobals "_law_stream" = some (some (.ref f0))) (l0 : K.lookup f0 = some ⟨oc0, od0, .func (PySem.W.fnOf "_law_stream" "_law_stream" (defArgs s__law_stream) (defBody s__law_stream) (defScope s__law_stream) .none kV0 dc0 pm0 an0 cd0 ct0), sl0⟩) (c0 : PySem.W.codeIn K cd0 "_law_stream" = true) (k0 : PySem.W.keepIn K (.ref f0) = true)
    (a1 : PySem.W.nsIn K mainGlobals "_law_keys" = some (some (.ref f1))) (l1 : K.lookup f1 = some ⟨oc1, od1, .func (PySem.W.fnOf "_law_keys" "_law_keys" (defArgs s__law_keys) (defBody s__law_keys) (defScope s__law_keys) .none kV1 dc1 pm1 an1 cd1 ct1), sl1⟩) (c1 : PySem.W.codeIn K cd1 "_law_keys" = true) (k1 : PySem.W.keepIn K (.ref f1) = true)
    (a2 : PySem.W.nsIn K mainGlobals "_law_cell_at" = some (some (.ref f2))) (l2 : K.lookup f2 = some ⟨oc2, od2, .func (PySem.W.fnOf "_law_cell_at" "_law_cell_at" (defArgs s__law_cell_at) (defBody s__law_cell_at) (defScope s__law_cell_at) .none kV2 dc2 pm2 an2 cd2 ct2), sl2⟩) (c2 : PySem.W.codeIn K cd2 "_law_cell_at" = true) (k2 : PySem.W.keepIn K (.ref f2) = true)
    (a3 : PySem.W.nsIn K mainGlobals "_law_times" = some (some (.ref f3))) (l3 : K.lookup f3 = some ⟨oc3, od3, .func (PySem.W.fnOf "_law_times" "_law_times" (defArgs s__law_times) (defBody s__law_times) (defScope s__law_times) .none kV3 dc3 pm3 an3 cd3 ct3), sl3⟩) (c3 : PySem.W.codeIn K cd3 "_law_times" = true) (k3 : PySem.W.keepIn K (.ref f3) = true)
    (a4 : PySem.W.nsIn K mainGlobals "_law_drawn" = some (some (.ref f4))) (l4 : K.lookup f4 = some ⟨oc4, od4, .func (PySem.W.fnOf "_law_drawn" "_law_drawn" (defArgs s__law_drawn) (defBody s__law_drawn) (defScope s__law_drawn) .none kV4 dc4 pm4 an4 cd4 ct4), sl4⟩) (c4 : PySem.W.codeIn K cd4 "_law_drawn" = true) (k4 : PySem.W.keepIn K (.ref f4) = true)
    (a5 : PySem.W.nsIn K mainGlobals "_law_spoiled" = some (some (.ref f5))) (l5 : K.lookup f5 = some ⟨oc5, od5, .func (PySem.W.fnOf "_law_spoiled" "_law_spoiled" (defArgs s__law_spoiled) (defBody s__law_spoiled) (defScope s__law_spoiled) .none kV5 dc5 pm5 an5 cd5 ct5), sl5⟩) (c5 : PySem.W.codeIn K cd5 "_law_spoiled" = true) (k5 : PySem.W.keepIn K (.ref f5) = true)
    (a6 : PySem.W.nsIn K mainGlobals "_law_source" = some (some (.ref f6))) (l6 : K.lookup f6 = some ⟨oc6, od6, .func (PySem.W.fnOf "_law_source" "_law_source" (defArgs s__law_source) (defBody s__law_source) (defScope s__law_source) .none kV6 dc6 pm6 an6 cd6 ct6), sl6⟩) (c6 : PySem.W.codeIn K cd6 "_law_source" = true) (k6 : PySem.W.keepIn K (.ref f6) = true)
    (a7 : PySem.W.nsIn K mainGlobals "_law_tale" = some (some (.ref f7))) (l7 : K.lookup f7 = some ⟨oc7, od7, .func (PySem.W.fnOf "_law_tale" "_law_tale" (defArgs s__law_tale) (defBody s__law_tale) (defScope s__law_tale) .none kV7 dc7 pm7 an7 cd7 ct7), sl7⟩) (c7 : PySem.W.codeIn K cd7 "_law_tale" = true) (k7 : PySem.W.keepIn K (.ref f7) = true)
    (a8 : PySem.W.nsIn K mainGlobals "_law_longer" = some (some (.ref f8))) (l8 : K.lookup f8 = some ⟨oc8, od8, .func (PySem.W.fnOf "_law_longer" "_law_longer" (defArgs s__law_longer) (defBody s__law_longer) (defScope s__law_longer) .none kV8 dc8 pm8 an8 cd8 ct8), sl8⟩) (c8 : PySem.W.codeIn K cd8 "_law_longer" = true) (k8 : PySem.W.keepIn K (.ref f8) = true)
    (a9 : PySem.W.nsIn K mainGlobals "_law_word" = some (some (.ref f9))) (l9 : K.lookup f9 = some ⟨oc9, od9, .func (PySem.W.fnOf "_law_word" "_law_word" (defArgs s__law_word) (defBody s__law_word) (defScope s__law_word) .none kV9 dc9 pm9 an9 cd9 ct9), sl9⟩) (c9 : PySem.W.codeIn K cd9 "_law_word" = true) (k9 : PySem.W.keepIn K (.ref f9) = true)
    (a10 : PySem.W.nsIn K mainGlobals "_law_odd" = some (some (.ref f10))) (l10 : K.lookup f10 = some ⟨oc10, od10, .func (PySem.W.fnOf "_law_odd" "_law_odd" (defArgs s__law_odd) (defBody s__law_odd) (defScope s__law_odd) .none kV10 dc10 pm10 an10 cd10 ct10), sl10⟩) (c10 : PySem.W.codeIn K cd10 "_law_odd" = true) (k10 : PySem.W.keepIn K (.ref f10) = true)
    (a11 : PySem.W.nsIn K mainGlobals "_law_whole" = some (some (.ref f11))) (l11 : K.lookup f11 = some ⟨oc11, od11, .func (PySem.W.fnOf "_law_whole" "_law_whole" (defArgs s__law_whole) (defBody s__law_whole) (defScope s__law_whole) .none kV11 dc11 pm11 an11 cd11 ct11), sl11⟩) (c11 : PySem.W.codeIn K cd11 "_law_whole" = true) (k11 : PySem.W.keepIn K (.ref f11) = true)
    (a12 : PySem.W.nsIn K mainGlobals "_law_alike" = some (some (.ref f12))) (l12 : K.lookup f12 = some ⟨oc12, od12, .func (PySem.W.fnOf "_law_alike" "_law_alike" (defArgs s__law_alike) (defBody s__law_alike) (defScope s__law_alike) .none kV12 dc12 pm12 an12 cd12 ct12), sl12⟩) (c12 : PySem.W.codeIn K cd12 "_law_alike" = true) (k12 : PySem.W.keepIn K (.ref f12) = true)
    (l13 : K.lookup f13 = some ⟨oc13, od13, .func (PySem.W.fnOf "spots" "Loose.spots" (defArgs s_Loose__spots) (defBody s_Loose__spots) (defScope s_Loose__spots) .none kV13 dc13 pm13 an13 cd13 ct13), sl13⟩) (c13 : PySem.W.codeIn K cd13 "Loose.spots" = true) (k13 : PySem.W.keepIn K (.ref f13) = true) (i13 : PySem.W.findIn K (.ref a_Loose) "spots" = some (some (.ref f13))) (m13 : PySem.W.isFn K (.ref f13) = true)
    (l14 : K.lookup f14 = some ⟨oc14, od14, .func (PySem.W.fnOf "spots" "Kept.spots" (defArgs s_Kept__spots) (defBody s_Kept__spots) (defScope s_Kept__spots) .none kV14 dc14 pm14 an14 cd14 ct14), sl14⟩) (c14 : PySem.W.codeIn K cd14 "Kept.spots" = true) (k14 : PySem.W.keepIn K (.ref f14) = true) (i14 : PySem.W.findIn K (.ref a_Kept) "spots" = some (some (.ref f14))) (m14 : PySem.W.isFn K (.ref f14) = true)
    (l15 : K.lookup f15 = some ⟨oc15, od15, .func (PySem.W.fnOf "spots" "Make.spots" (defArgs s_Make__spots) (defBody s_Make__spots) (defScope s_Make__spots) .none kV15 dc15 pm15 an15 cd15 ct15), sl15⟩) (c15 : PySem.W.codeIn K cd15 "Make.spots" = true) (k15 : PySem.W.keepIn K (.ref f15) = true) (i15 : PySem.W.findIn K (.ref a_Make) "spots" = some (some (.ref f15))) (m15 : PySem.W.isFn K (.ref f15) = true)
    (l16 : K.lookup f16 = some ⟨oc16, od16, .func (PySem.W.fnOf "spots" "Watch.spots" (defArgs s_Watch__spots) (defBody s_Watch__spots) (defScope s_Watch__spots) .none kV16 dc16 pm16 an16 cd16 ct16), sl16⟩) (c16 : PySem.W.codeIn K cd16 "Watch.spots" = true) (k16 : PySem.W.keepIn K (.ref f16) = true) (i16 : PySem.W.findIn K (.ref a_Watch) "spots" = some (some (.ref f16))) (m16 : PySem.W.isFn K (.ref f16) = true)
    (l17 : K.lookup f17 = some ⟨oc17, od17, .func (PySem.W.fnOf "spots" "Hold.spots" (defArgs s_Hold__spots) (defBody s_Hold__spots) (defScope s_Hold__spots) .none kV17 dc17 pm17 an17 cd17 ct17), sl17⟩) (c17 : PySem.W.codeIn K cd17 "Hold.spots" = true) (k17 : PySem.W.keepIn K (.ref f17) = true) (i17 : PySem.W.findIn K (.ref a_Hold) "spots" = some (some (.ref f17))) (m17 : PySem.W.isFn K (.ref f17) = true)
    (a18 : PySem.W.nsIn K mainGlobals "level_of" = some (some (.ref f18))) (l18 : K.lookup f18 = some ⟨oc18, od18, .func (PySem.W.fnOf "level_of" "level_of" (defArgs s_level_of) (defBody s_level_of) (defScope s_level_of) .none kV18 dc18 pm18 an18 cd18 ct18), sl18⟩) (c18 : PySem.W.codeIn K cd18 "level_of" = true) (k18 : PySem.W.keepIn K (.ref f18) = true)
    (a19 : PySem.W.nsIn K mainGlobals "levels_for" = some (some (.ref f19))) (l19 : K.lookup f19 = some ⟨oc19, od19, .func (PySem.W.fnOf "levels_for" "levels_for" (defArgs s_levels_for) (defBody s_levels_for) (defScope s_levels_for) .none kV19 dc19 pm19 an19 cd19 ct19), sl19⟩) (c19 : PySem.W.codeIn K cd19 "levels_for" = true) (k19 : PySem.W.keepIn K (.ref f19) = true)
    (a20 : PySem.W.nsIn K mainGlobals "spots" = some (some (.ref f20))) (l20 : K.lookup f20 = some ⟨oc20, od20, .func (PySem.W.fnOf "spots" "spots" (defArgs s_spots) (defBody s_spots) (defScope s_spots) (.ref T20) kV20 dc20 pm20 an20 cd20 ct20), sl20⟩) (c20 : PySem.W.codeIn K cd20 "spots" = true) (k20 : PySem.W.keepIn K (.ref f20) = true) (lt20 : K.lookup T20 = some ⟨.type "tuple", dT20, .seq #[.none] nT20, sT20⟩)
    (a21 : PySem.W.nsIn K mainGlobals "_law_many" = some (some (.ref f21))) (l21 : K.lookup f21 = some ⟨oc21, od21, .func (PySem.W.fnOf "_law_many" "_law_many" (defArgs s__law_many) (defBody s__law_many) (defScope s__law_many) .none kV21 dc21 pm21 an21 cd21 ct21), sl21⟩) (c21 : PySem.W.codeIn K cd21 "_law_many" = true) (k21 : PySem.W.keepIn K (.ref f21) = true)
    (a22 : PySem.W.nsIn K mainGlobals "_law_due" = some (some (.ref f22))) (l22 : K.lookup f22 = some ⟨oc22, od22, .func (PySem.W.fnOf "_law_due" "_law_due" (defArgs s__law_due) (defBody s__law_due) (defScope s__law_due) .none kV22 dc22 pm22 an22 cd22 ct22), sl22⟩) (c22 : PySem.W.codeIn K cd22 "_law_due" = true) (k22 : PySem.W.keepIn K (.ref f22) = true)
    (a23 : PySem.W.nsIn K mainGlobals "edges" = some (some (.ref f23))) (l23 : K.lookup f23 = some ⟨oc23, od23, .func (PySem.W.fnOf "edges" "edges" (defArgs s_edges) (defBody s_edges) (defScope s_edges) (.ref T23) kV23 dc23 pm23 an23 cd23 ct23), sl23⟩) (c23 : PySem.W.codeIn K cd23 "edges" = true) (k23 : PySem.W.keepIn K (.ref f23) = true) (lt23 : K.lookup T23 = some ⟨.type "tuple", dT23, .seq #[.none] nT23, sT23⟩)
    (a24 : PySem.W.nsIn K mainGlobals "_law_refused" = some (some (.ref f24))) (l24 : K.lookup f24 = some ⟨oc24, od24, .func (PySem.W.fnOf "_law_refused" "_law_refused" (defArgs s__law_refused) (defBody s__law_refused) (defScope s__law_refused) .none kV24 dc24 pm24 an24 cd24 ct24), sl24⟩) (c24 : PySem.W.codeIn K cd24 "_law_refused" = true) (k24 : PySem.W.keepIn K (.ref f24) = true)
    (a25 : PySem.W.nsIn K mainGlobals "law" = some (some (.ref f25))) (l25 : K.lookup f25 = some ⟨oc25, od25, .func (PySem.W.fnOf "law" "law" (defArgs s_law) (defBody s_law) (defScope s_law) .none kV25 dc25 pm25 an25 cd25 ct25), sl25⟩) (c25 : PySem.W.codeIn K cd25 "law" = true) (k25 : PySem.W.keepIn K (.ref f25) = true)
    (z0 : PySem.W.nsIn K mainGlobals "range" = some none)
    (z1 : PySem.W.nsIn K mainGlobals "set" = some none)
    (z2 : PySem.W.nsIn K mainGlobals "sorted" = some none)
    (z3 : PySem.W.nsIn K mainGlobals "len" = some none)
    (z4 : PySem.W.nsIn K mainGlobals "bool" = some none)
    (z5 : PySem.W.nsIn K mainGlobals "int" = some none)
    (z6 : PySem.W.nsIn K mainGlobals "isinstance" = some none)
    (z7 : PySem.W.nsIn K mainGlobals "list" = some none)
    (z8 : PySem.W.nsIn K mainGlobals "tuple" = some none)
    (z9 : PySem.W.nsIn K mainGlobals "ValueError" = some none)
    (n_SkewError : PySem.W.nsIn K mainGlobals "SkewError" = some (some (.ref a_SkewError)))
    (n_NoLevel : PySem.W.nsIn K mainGlobals "NoLevel" = some (some (.ref a_NoLevel)))
    (n_NoHistory : PySem.W.nsIn K mainGlobals "NoHistory" = some (some (.ref a_NoHistory)))
    (q_NoLevel : PySem.W.excIn K a_NoLevel [.type "ValueError", .type "Exception", .type "BaseException", .type "object"] "ValueError.__new__" = true)
    (k_NoLevel : PySem.W.keepIn K (.ref a_NoLevel) = true)
    (b_NoLevel : PySem.W.subIn K (.ref a_NoLevel) (.type "BaseException") = some true)
    (t_NoLevel : PySem.W.typeIn K (.ref a_NoLevel) = some (.type "type"))
    (hg_NoLevel : PySem.W.findIn K (.ref a_NoLevel) "__getattribute__" = some (some (.builtin "BaseException.__getattribute__")))
    (hk_NoLevel : PySem.W.findIn K (.ref a_NoLevel) "__getattr__" = some none)
    (hd_NoLevel : PySem.W.hasDictIn K a_NoLevel = true)
    (ha_NoLevel : PySem.W.findIn K (.ref a_NoLevel) "__class__" = some (some (.builtin "object.__class__")))
    (hm_NoLevel : PySem.W.mroIn K a_NoLevel (.type "object") = some true)
    (hn__ : PySem.W.specialIn K (.builtin "object.__class__") "__get__" = some (some (.builtin "getset_descriptor.__get__")))
    (ht__ : PySem.W.takesIn K (.builtin "object.__class__") = some true)
    (ki_NoLevel_SkewError : PySem.W.kitOne K (.ref a_NoLevel) (.ref a_SkewError) = some true)
    (ki_NoLevel_NoHistory : PySem.W.kitOne K (.ref a_NoLevel) (.ref a_NoHistory) = some false)
    (kt_NoLevel_ValueError : PySem.W.kitOne K (.ref a_NoLevel) (.type "ValueError") = some true)
    (sb_NoLevel_NoLevel : PySem.W.subIn K (.ref a_NoLevel) (.ref a_NoLevel) = some true)
    (n_WHYS : PySem.W.nsIn K mainGlobals "WHYS" = some (some (.ref a_WHYS)))
    (l_WHYS : K.lookup a_WHYS = some ⟨.type "list", none, .seq #[.str "own" u_WHYS_0, .str "saw" u_WHYS_1, .str "unseen" u_WHYS_2, .str "over" u_WHYS_3] o_WHYS, s_WHYS⟩)
    (n_Loose : PySem.W.nsIn K mainGlobals "Loose" = some (some (.ref a_Loose)))
    (rp_Loose : PySem.W.plainGet K a_Loose Str.empty = true)
    (rd_Loose : PySem.W.hasDictIn K a_Loose = true)
    (ro_Loose : PySem.W.plainOver K a_Loose = true)
    (rs_Loose : PySem.W.findIn K (.ref a_Loose) "__setattr__" = some (some (.builtin "object.__setattr__")))
    (rm_Loose : PySem.W.makesIn K a_Loose = true)
    (ri_Loose : PySem.W.findIn K (.ref a_Loose) "__init__" = some (some (.builtin "object.__init__")))
    (rk_Loose : PySem.W.keepIn K (.ref a_Loose) = true)
    (n_Kept : PySem.W.nsIn K mainGlobals "Kept" = some (some (.ref a_Kept)))
    (rp_Kept : PySem.W.plainGet K a_Kept Str.empty = true)
    (rd_Kept : PySem.W.hasDictIn K a_Kept = true)
    (ro_Kept : PySem.W.plainOver K a_Kept = true)
    (rs_Kept : PySem.W.findIn K (.ref a_Kept) "__setattr__" = some (some (.builtin "object.__setattr__")))
    (rm_Kept : PySem.W.makesIn K a_Kept = true)
    (ri_Kept : PySem.W.findIn K (.ref a_Kept) "__init__" = some (some (.builtin "object.__init__")))
    (rk_Kept : PySem.W.keepIn K (.ref a_Kept) = true)
    (n_Make : PySem.W.nsIn K mainGlobals "Make" = some (some (.ref a_Make)))
    (rp_Make : PySem.W.plainGet K a_Make Str.empty = true)
    (rd_Make : PySem.W.hasDictIn K a_Make = true)
    (ro_Make : PySem.W.plainOver K a_Make = true)
    (rs_Make : PySem.W.findIn K (.ref a_Make) "__setattr__" = some (some (.builtin "object.__setattr__")))
    (rm_Make : PySem.W.makesIn K a_Make = true)
    (ri_Make : PySem.W.findIn K (.ref a_Make) "__init__" = some (some (.builtin "object.__init__")))
    (rk_Make : PySem.W.keepIn K (.ref a_Make) = true)
    (n_Watch : PySem.W.nsIn K mainGlobals "Watch" = some (some (.ref a_Watch)))
    (rp_Watch : PySem.W.plainGet K a_Watch Str.empty = true)
    (rd_Watch : PySem.W.hasDictIn K a_Watch = true)
    (ro_Watch : PySem.W.plainOver K a_Watch = true)
    (rs_Watch : PySem.W.findIn K (.ref a_Watch) "__setattr__" = some (some (.builtin "object.__setattr__")))
    (rm_Watch : PySem.W.makesIn K a_Watch = true)
    (ri_Watch : PySem.W.findIn K (.ref a_Watch) "__init__" = some (some (.builtin "object.__init__")))
    (rk_Watch : PySem.W.keepIn K (.ref a_Watch) = true)
    (n_Hold : PySem.W.nsIn K mainGlobals "Hold" = some (some (.ref a_Hold)))
    (rp_Hold : PySem.W.plainGet K a_Hold Str.empty = true)
    (rd_Hold : PySem.W.hasDictIn K a_Hold = true)
    (ro_Hold : PySem.W.plainOver K a_Hold = true)
    (rs_Hold : PySem.W.findIn K (.ref a_Hold) "__setattr__" = some (some (.builtin "object.__setattr__")))
    (rm_Hold : PySem.W.makesIn K a_Hold = true)
    (ri_Hold : PySem.W.findIn K (.ref a_Hold) "__init__" = some (some (.builtin "object.__init__")))
    (rk_Hold : PySem.W.keepIn K (.ref a_Hold) = true) :
    ∃ fd : FuncData, (∀ (s : Shared) (v : Value), BindsTo s fd ⟨[v], []⟩ [("_law_script", v)]) ∧ ∀ base : Heap, K.In base → base.Ns mainGlobals mg → FnOk P w K mg base CX0 5 fa fd ["_law_script"] (spP K lawC) := by
  have D0 : Df K mg "_law_stream" s__law_stream := df_mk X G (st := s__law_stream) a0 l0 c0 k0
  have D1 : Df K mg "_law_keys" s__law_keys := df_mk X G (st := s__law_keys) a1 l1 c1 k1
  have D2 : Df K mg "_law_cell_at" s__law_cell_at := df_mk X G (st := s__law_cell_at) a2 l2 c2 k2
  have D3 : Df K mg "_law_times" s__law_times := df_mk X G (st := s__law_times) a3 l3 c3 k3
  have D4 : Df K mg "_law_drawn" s__law_drawn := df_mk X G (st := s__law_drawn) a4 l4 c4 k4
  have D5 : Df K mg "_law_spoiled" s__law_spoiled := df_mk X G (st := s__law_spoiled) a5 l5 c5 k5
  have D6 : Df K mg "_law_source" s__law_source := df_mk X G (st := s__law_source) a6 l6 c6 k6
  have D7 : Df K mg "_law_tale" s__law_tale := df_mk X G (st := s__law_tale) a7 l7 c7 k7
  have D8 : Df K mg "_law_longer" s__law_longer := df_mk X G (st := s__law_longer) a8 l8 c8 k8
  have D9 : Df K mg "_law_word" s__law_word := df_mk X G (st := s__law_word) a9 l9 c9 k9
  have D10 : Df K mg "_law_odd" s__law_odd := df_mk X G (st := s__law_odd) a10 l10 c10 k10
  have D11 : Df K mg "_law_whole" s__law_whole := df_mk X G (st := s__law_whole) a11 l11 c11 k11
  have D12 : Df K mg "_law_alike" s__law_alike := df_mk X G (st := s__law_alike) a12 l12 c12 k12
  have D13 : DfM K "spots" "Loose.spots" s_Loose__spots f13 := dfm_mk (st := s_Loose__spots) l13 c13 k13
  have D14 : DfM K "spots" "Kept.spots" s_Kept__spots f14 := dfm_mk (st := s_Kept__spots) l14 c14 k14
  have D15 : DfM K "spots" "Make.spots" s_Make__spots f15 := dfm_mk (st := s_Make__spots) l15 c15 k15
  have D16 : DfM K "spots" "Watch.spots" s_Watch__spots f16 := dfm_mk (st := s_Watch__spots) l16 c16 k16
  have D17 : DfM K "spots" "Hold.spots" s_Hold__spots f17 := dfm_mk (st := s_Hold__spots) l17 c17 k17
  have D18 : Df K mg "level_of" s_level_of := df_mk X G (st := s_level_of) a18 l18 c18 k18
  have D19 : Df K mg "levels_for" s_levels_for := df_mk X G (st := s_levels_for) a19 l19 c19 k19
  have D20 : DfT K mg "spots" s_spots .none := dfT_mk X G (st := s_spots) a20 l20 c20 k20 lt20
  have D21 : Df K mg "_law_many" s__law_many := df_mk X G (st := s__law_many) a21 l21 c21 k21
  have D22 : Df K mg "_law_due" s__law_due := df_mk X G (st := s__law_due) a22 l22 c22 k22
  have D23 : DfT K mg "edges" s_edges .none := dfT_mk X G (st := s_edges) a23 l23 c23 k23 lt23
  have D24 : Df K mg "_law_refused" s__law_refused := df_mk X G (st := s__law_refused) a24 l24 c24 k24
  have D25 : Df K mg "law" s_law := df_mk X G (st := s_law) a25 l25 c25 k25
  have XX : XF K mg a_SkewError a_NoLevel a_NoHistory a_WHYS a_Loose a_Kept a_Make a_Watch a_Hold := ⟨(PySem.W.mg_of X G n_SkewError), (PySem.W.mg_of X G n_NoLevel), (PySem.W.mg_of X G n_NoHistory), ⟨PySem.W.mg_of X G n_NoLevel, q_NoLevel, k_NoLevel, b_NoLevel, t_NoLevel⟩, ⟨hg_NoLevel, hk_NoLevel, b_NoLevel, hd_NoLevel, ha_NoLevel, hn__, ht__, hm_NoLevel⟩, (PySem.W.exm_ref b_NoLevel hd_NoLevel t_NoLevel sb_NoLevel_NoLevel), ki_NoLevel_SkewError, ki_NoLevel_NoHistory, kt_NoLevel_ValueError, (PySem.W.mg_of X G n_WHYS), (fun B => R.sq (vs := [(.str "own"), (.str "saw"), (.str "unseen"), (.str "over")]) (Or.inr ⟨_, _, _, l_WHYS, rfl, rfl, rfl, Nat.le_of_ble_eq_true rfl, (.cons ⟨_, rfl⟩ (.cons ⟨_, rfl⟩ (.cons ⟨_, rfl⟩ (.cons ⟨_, rfl⟩ .nil))))⟩) (RL.cons .str (RL.cons .str (RL.cons .str (RL.cons .str RL.nil))))), (PySem.W.mg_of X G n_Loose), ⟨⟨rp_Loose, rd_Loose, ro_Loose, rs_Loose⟩, fun f hf => by simp at hf⟩, ⟨rm_Loose, ri_Loose, rk_Loose⟩, (PySem.W.mg_of X G n_Kept), ⟨⟨rp_Kept, rd_Kept, ro_Kept, rs_Kept⟩, fun f hf => by simp at hf⟩, ⟨rm_Kept, ri_Kept, rk_Kept⟩, (PySem.W.mg_of X G n_Make), ⟨⟨rp_Make, rd_Make, ro_Make, rs_Make⟩, fun f hf => by simp at hf⟩, ⟨rm_Make, ri_Make, rk_Make⟩, (PySem.W.mg_of X G n_Watch), ⟨⟨rp_Watch, rd_Watch, ro_Watch, rs_Watch⟩, fun f hf => by simp at hf⟩, ⟨rm_Watch, ri_Watch, rk_Watch⟩, (PySem.W.mg_of X G n_Hold), ⟨⟨rp_Hold, rd_Hold, ro_Hold, rs_Hold⟩, fun f hf => by simp at hf⟩, ⟨rm_Hold, ri_Hold, rk_Hold⟩⟩
  have y0 := PySem.W.mg_none_of X G z0
  have y1 := PySem.W.mg_none_of X G z1
  have y2 := PySem.W.mg_none_of X G z2
  have y3 := PySem.W.mg_none_of X G z3
  have y4 := PySem.W.mg_none_of X G z4
  have y5 := PySem.W.mg_none_of X G z5
  have y6 := PySem.W.mg_none_of X G z6
  have y7 := PySem.W.mg_none_of X G z7
  have y8 := PySem.W.mg_none_of X G z8
  have y9 := PySem.W.mg_none_of X G z9
  have e := hfa.symm.trans (PySem.W.mg_of X G a25)
  cases e
  refine ⟨PySem.W.fnOf "law" "law" (defArgs s_law) (defBody s_law) (defScope s_law) .none kV25 dc25 pm25 an25 cd25 ct25, fun s v => .of_eq rfl, fun base _ _ => ?_⟩
  have Q0 : Cal P w K mg base "_law_stream" 1 ["_law_cell", "_law_many_here"] (C__law_stream mg) := cal__law_stream D0 XX  y0
  have Q1 : Cal P w K mg base "_law_keys" 2 ["_law_cell"] (C__law_keys mg) := cal__law_keys D1 XX Q0 y0 y1 y2
  have Q2 : Cal P w K mg base "_law_cell_at" 1 ["_law_script", "_law_k"] (C__law_cell_at mg) := cal__law_cell_at D2 XX  y3
  have Q3 : Cal P w K mg base "_law_times" 1 ["_law_xs", "_law_end"] (C__law_times mg) := cal__law_times D3 XX  y0
  have Q4 : Cal P w K mg base "_law_drawn" 2 ["_law_script"] (C__law_drawn mg) := cal__law_drawn D4 XX Q0 Q2 Q3 y0
  have Q5 : CalO P w K mg base "_law_spoiled" 2 ["_law_deals", "_law_makes", "_law_cell"] (C__law_spoiled mg) := cal__law_spoiled D5 XX Q0 y3 y2
  have Q6 : Cal P w K mg base "_law_source" 1 ["_law_makers", "_law_ends", "_law_number", "_law_time"] (C__law_source mg) := cal__law_source D6 XX  
  have Q7 : Cal P w K mg base "_law_tale" 3 ["_law_script"] (C__law_tale mg) := cal__law_tale D7 XX Q1 Q4 Q2 Q5 Q6 y3 y0 y2
  have Q8 : Cal P w K mg base "_law_longer" 4 ["_law_script"] (C__law_longer mg) := cal__law_longer D8 XX Q7 Q2 y3 y0
  have Q9 : Cal P w K mg base "_law_word" 1 ["_law_cell"] (C__law_word mg) := cal__law_word D9 XX  
  have Q10 : Cal P w K mg base "_law_odd" 1 ["_law_number"] (C__law_odd mg) := cal__law_odd D10 XX  y3
  have Q11 : Cal P w K mg base "_law_whole" 1 ["_law_found"] (C__law_whole mg) := cal__law_whole D11 XX  y4 y5 y6
  have Q12 : Cal P w K mg base "_law_alike" 2 ["_law_found", "_law_due_here"] (C__law_alike mg) := cal__law_alike D12 XX Q11 y6 y7 y8
  have Q13 : CalM P w K mg base a_Loose "spots" 1 ["self", "looks"] (C_Loose__spots mg a_Loose) := cal_Loose__spots D13 XX ⟨i13, m13, k13⟩  
  have Q14 : CalM P w K mg base a_Kept "spots" 1 ["self", "looks"] (C_Kept__spots mg a_Kept) := cal_Kept__spots D14 XX ⟨i14, m14, k14⟩  
  have Q15 : CalM P w K mg base a_Make "spots" 1 ["self", "looks"] (C_Make__spots mg a_Make) := cal_Make__spots D15 XX ⟨i15, m15, k15⟩  
  have Q16 : CalM P w K mg base a_Watch "spots" 1 ["self", "looks"] (C_Watch__spots mg a_Watch) := cal_Watch__spots D16 XX ⟨i16, m16, k16⟩  
  have Q17 : CalM P w K mg base a_Hold "spots" 1 ["self", "looks"] (C_Hold__spots mg a_Hold) := cal_Hold__spots D17 XX ⟨i17, m17, k17⟩  
  have Q18 : CalX P w K mg base "level_of" 1 ["word"] (C_level_of mg) := cal_level_of D18 XX  
  have Q19 : CalX P w K mg base "levels_for" 2 ["history", "word"] (C_levels_for mg) := cal_levels_for D19 XX Q18 
  have Q20 : CalXD P w K mg base "spots" 3 ["history", "word"] (C_spots mg) .none := cal_spots D20 XX Q13 Q14 Q15 Q16 Q17 Q19 y3 y0
  have Q21 : Cal P w K mg base "_law_many" 1 ["_law_word_here", "_law_looks"] (C__law_many mg) := cal__law_many D21 XX  y3
  have Q22 : Cal P w K mg base "_law_due" 2 ["_law_tale_here", "_law_word_here"] (C__law_due mg) := cal__law_due D22 XX Q21 y0
  have Q23 : CalXD P w K mg base "edges" 3 ["history", "word"] (C_edges mg) .none := cal_edges D23 XX Q19 
  have Q24 : Cal P w K mg base "_law_refused" 4 ["_law_tale_here", "_law_word_here", "_law_of_edges"] (C__law_refused mg) := cal__law_refused D24 XX Q23 Q20 y9 y6
  have Q25 : Cal P w K mg base "law" 5 ["_law_script"] C_law := cal_law D25 XX Q8 Q9 Q10 Q2 Q12 Q20 Q22 Q24 
  obtain ⟨f, fd, G1, m1, _, _, _, _, _, lk⟩ := Q25
  have e2 := m1.symm.trans (PySem.W.mg_of X G a25)
  cases e2
  exact fn_same l25 lk G1
end Lw
open PySem PySem.W PyProof.Rows
set_option maxRecDepth 100000 in
set_option maxHeartbeats 0 in
theorem PySem.Challenge.cw_skewhouse_k61_spots_holds : PySem.Challenge.rw_skewhouse_k61_spots.Holds := by
  w_on; o_law; k_head; (case hw => w_witness2)
  k_fill
  refine SK.law_walk (l := PySem.Challenge.rw_skewhouse_k61_spots) (lv := 5) rfl rfl ⟨rfl, by decide, by decide⟩ (fun w h Y => PySem.W.kIn_of Y) ?F
  case F =>
    intro w mg fa h KX G hmg
    refine' Lw.all_mk KX G hmg ?a0 ?l0 ?c0 ?k0 ?a1 ?l1 ?c1 ?k1 ?a2 ?l2 ?c2 ?k2 ?a3 ?l3 ?c3 ?k3 ?a4 ?l4 ?c4 ?k4 ?a5 ?l5 ?c5 ?k5 ?a6 ?l6 ?c6 ?k6 ?a7 ?l7 ?c7 ?k7 ?a8 ?l8 ?c8 ?k8 ?a9 ?l9 ?c9 ?k9 ?a10 ?l10 ?c10 ?k10 ?a11 ?l11 ?c11 ?k11 ?a12 ?l12 ?c12 ?k12 ?l13 ?c13 ?k13 ?i13 ?m13 ?l14 ?c14 ?k14 ?i14 ?m14 ?l15 ?c15 ?k15 ?i15 ?m15 ?l16 ?c16 ?k16 ?i16 ?m16 ?l17 ?c17 ?k17 ?i17 ?m17 ?a18 ?l18 ?c18 ?k18 ?a19 ?l19 ?c19 ?k19 ?a20 ?l20 ?c20 ?k20 ?lt20 ?a21 ?l21 ?c21 ?k21 ?a22 ?l22 ?c22 ?k22 ?a23 ?l23 ?c23 ?k23 ?lt23 ?a24 ?l24 ?c24 ?k24 ?a25 ?l25 ?c25 ?k25 ?z0 ?z1 ?z2 ?z3 ?z4 ?z5 ?z6 ?z7 ?z8 ?z9 ?n_SkewError ?n_NoLevel ?n_NoHistory ?q_NoLevel ?k_NoLevel ?b_NoLevel ?t_NoLevel ?hg_NoLevel ?hk_NoLevel ?hd_NoLevel ?ha_NoLevel ?hm_NoLevel ?hn__ ?ht__ ?ki_NoLevel_SkewError ?ki_NoLevel_NoHistory ?kt_NoLevel_ValueError ?sb_NoLevel_NoLevel ?n_WHYS ?l_WHYS ?n_Loose ?rp_Loose ?rd_Loose ?ro_Loose ?rs_Loose ?rm_Loose ?ri_Loose ?rk_Loose ?n_Kept ?rp_Kept ?rd_Kept ?ro_Kept ?rs_Kept ?rm_Kept ?ri_Kept ?rk_Kept ?n_Make ?rp_Make ?rd_Make ?ro_Make ?rs_Make ?rm_Make ?ri_Make ?rk_Make ?n_Watch ?rp_Watch ?rd_Watch ?ro_Watch ?rs_Watch ?rm_Watch ?ri_Watch ?rk_Watch ?n_Hold ?rp_Hold ?rd_Hold ?ro_Hold ?rs_Hold ?rm_Hold ?ri_Hold ?rk_Hold
    (case n_Loose => k_is)
    (case n_Kept => k_is)
    (case n_Make => k_is)
    (case n_Watch => k_is)
    (case n_Hold => k_is)
    (case i13 => k_is)
    (case i14 => k_is)
    (case i15 => k_is)
    (case i16 => k_is)
    (case i17 => k_is)
    (case a0 => k_is)
    (case l0 => k_is)
    (case c0 => k_is)
    (case k0 => k_is)
    (case a1 => k_is)
    (case l1 => k_is)
    (case c1 => k_is)
    (case k1 => k_is)
    (case a2 => k_is)
    (case l2 => k_is)
    (case c2 => k_is)
    (case k2 => k_is)
    (case a3 => k_is)
    (case l3 => k_is)
    (case c3 => k_is)
    (case k3 => k_is)
    (case a4 => k_is)
    (case l4 => k_is)
    (case c4 => k_is)
    (case k4 => k_is)
    (case a5 => k_is)
    (case l5 => k_is)
    (case c5 => k_is)
    (case k5 => k_is)
    (case a6 => k_is)
    (case l6 => k_is)
    (case c6 => k_is)
    (case k6 => k_is)
    (case a7 => k_is)
    (case l7 => k_is)
    (case c7 => k_is)
    (case k7 => k_is)
    (case a8 => k_is)
    (case l8 => k_is)
    (case c8 => k_is)
    (case k8 => k_is)
    (case a9 => k_is)
    (case l9 => k_is)
    (case c9 => k_is)
    (case k9 => k_is)
    (case a10 => k_is)
    (case l10 => k_is)
    (case c10 => k_is)
    (case k10 => k_is)
    (case a11 => k_is)
    (case l11 => k_is)
    (case c11 => k_is)
    (case k11 => k_is)
    (case a12 => k_is)
    (case l12 => k_is)
    (case c12 => k_is)
    (case k12 => k_is)
    (case l13 => k_is)
    (case c13 => k_is)
    (case k13 => k_is)
    (case m13 => k_is)
    (case l14 => k_is)
    (case c14 => k_is)
    (case k14 => k_is)
    (case m14 => k_is)
    (case l15 => k_is)
    (case c15 => k_is)
    (case k15 => k_is)
    (case m15 => k_is)
    (case l16 => k_is)
    (case c16 => k_is)
    (case k16 => k_is)
    (case m16 => k_is)
    (case l17 => k_is)
    (case c17 => k_is)
    (case k17 => k_is)
    (case m17 => k_is)
    (case a18 => k_is)
    (case l18 => k_is)
    (case c18 => k_is)
    (case k18 => k_is)
    (case a19 => k_is)
    (case l19 => k_is)
    (case c19 => k_is)
    (case k19 => k_is)
    (case a20 => k_is)
    (case l20 => k_is)
    (case c20 => k_is)
    (case k20 => k_is)
    (case lt20 => k_is)
    (case a21 => k_is)
    (case l21 => k_is)
    (case c21 => k_is)
    (case k21 => k_is)
    (case a22 => k_is)
    (case l22 => k_is)
    (case c22 => k_is)
    (case k22 => k_is)
    (case a23 => k_is)
    (case l23 => k_is)
    (case c23 => k_is)
    (case k23 => k_is)
    (case lt23 => k_is)
    (case a24 => k_is)
    (case l24 => k_is)
    (case c24 => k_is)
    (case k24 => k_is)
    (case a25 => k_is)
    (case l25 => k_is)
    (case c25 => k_is)
    (case k25 => k_is)
    (case z0 => k_is)
    (case z1 => k_is)
    (case z2 => k_is)
    (case z3 => k_is)
    (case z4 => k_is)
    (case z5 => k_is)
    (case z6 => k_is)
    (case z7 => k_is)
    (case z8 => k_is)
    (case z9 => k_is)
    (case n_SkewError => k_is)
    (case n_NoLevel => k_is)
    (case n_NoHistory => k_is)
    (case q_NoLevel => first | k_is | k_exc)
    (case k_NoLevel => k_is)
    (case b_NoLevel => k_is)
    (case t_NoLevel => k_is)
    (case hg_NoLevel => k_is)
    (case hk_NoLevel => k_is)
    (case hd_NoLevel => k_is)
    (case ha_NoLevel => k_is)
    (case hm_NoLevel => k_is)
    (case hn__ => k_is)
    (case ht__ => k_is)
    (case ki_NoLevel_SkewError => kit_is)
    (case ki_NoLevel_NoHistory => kit_is)
    (case kt_NoLevel_ValueError => kit_is)
    (case sb_NoLevel_NoLevel => k_is)
    (case n_WHYS => k_is)
    (case l_WHYS => k_is)
    (case rp_Loose => k_is)
    (case rd_Loose => k_is)
    (case ro_Loose => k_is)
    (case rs_Loose => k_is)
    (case rm_Loose => k_is)
    (case ri_Loose => k_is)
    (case rk_Loose => k_is)
    (case rp_Kept => k_is)
    (case rd_Kept => k_is)
    (case ro_Kept => k_is)
    (case rs_Kept => k_is)
    (case rm_Kept => k_is)
    (case ri_Kept => k_is)
    (case rk_Kept => k_is)
    (case rp_Make => k_is)
    (case rd_Make => k_is)
    (case ro_Make => k_is)
    (case rs_Make => k_is)
    (case rm_Make => k_is)
    (case ri_Make => k_is)
    (case rk_Make => k_is)
    (case rp_Watch => k_is)
    (case rd_Watch => k_is)
    (case ro_Watch => k_is)
    (case rs_Watch => k_is)
    (case rm_Watch => k_is)
    (case ri_Watch => k_is)
    (case rk_Watch => k_is)
    (case rp_Hold => k_is)
    (case rd_Hold => k_is)
    (case ro_Hold => k_is)
    (case rs_Hold => k_is)
    (case rm_Hold => k_is)
    (case ri_Hold => k_is)
    (case rk_Hold => k_is)
