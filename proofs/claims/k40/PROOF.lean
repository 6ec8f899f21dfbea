import PyProof.Rows.All
import Wide.All
import OpenK.AllK
import Wide.FinOn
import HandS.ForMost
import HandS.ForExc
import HandS.ExcIs
import HandS.ExcField
import HandS.ExcInit
import HandS.TryMany
import HandS.TryElse
import HandS.SuiteRaise
import HandS.RaiseMore
import HandS.Wide
import HandS.DictComp
import HandS.IsInst
import HandS.EndBits
import KE.KExcIs
import KE.IntTextLaws
import HandS.Replace
import HandS.Zip
import HandS.SortKw
import KE.DataMinMax
import KE.KRevIter
import KE.KDictList
import HandS.Rev
import HandS.Iter
import HandS.SetKeys
import HandS.SortInts
import HandS.TupLe
import HandS.SetFor
import HandS.Strs
import KE.KUnpack
import PySem.Challenge.RW_skewhouse_k40_the_tree_of_levels
set_option Elab.async false
set_option linter.all false
set_option maxRecDepth 100000
set_option maxHeartbeats 4000000
namespace SK
open PySem PySem.Spec PyProof.Rows L2
inductive D where
  | non | bl (b : Bool) | int (i : Int) | str (s : Str) | ref (a : Addr) | ty (n : String)
  | tup (xs : List D) | lst (xs : List D) | sq (xs : List D) | dic (kvs : List (Key × D)) | dit (kvs : List (List Key × D)) | ins (C : Addr) (fs : List (Str × D))
inductive O where
  | d (x : D) | ol (xs : List O) | od (kvs : List (Key × O)) | ot (kvs : List (List Key × O)) | oi (a C : Addr) (fs : List (Str × O)) | op (xs : List O)
mutual
inductive R (K : PySem.W.Frag) (B : Hp) : V → D → Prop
  | non : R K B .non .non
  | bl {b} : R K B (.bl b) (.bl b)
  | int {i} : R K B (.int i) (.int i)
  | str {s} : R K B (.str s) (.str s)
  | ref {a} : R K B (.ref a) (.ref a)
  | ty {n} : R K B (.ty n) (.ty n)
  | tup {a vs xs} : SqT K B a vs → RL K B vs xs → R K B (.ref a) (.tup xs)
  | lst {a vs xs} : B a = some (.lst vs) → RL K B vs xs → R K B (.ref a) (.lst xs)
  | sq {a vs xs} : SqL K B a vs → RL K B vs xs → R K B (.ref a) (.sq xs)
  | dic {a ws kvs} : Rd B a (.dK ws) → (kvs.map (·.1)).Nodup → RK K B ws kvs → R K B (.ref a) (.dic kvs)
  | dit {a ws kvs} : Rd B a (.dT ws) → (kvs.map (·.1)).Nodup → RT K B ws kvs → R K B (.ref a) (.dit kvs)
  | ins {a C dx ws fs} : B a = some (.ins C dx ws) → RF K B ws fs → R K B (.ref a) (.ins C fs)
inductive RL (K : PySem.W.Frag) (B : Hp) : List V → List D → Prop
  | nil : RL K B [] []
  | cons {v x vs xs} : R K B v x → RL K B vs xs → RL K B (v :: vs) (x :: xs)
inductive RK (K : PySem.W.Frag) (B : Hp) : List (Key × V) → List (Key × D) → Prop
  | nil : RK K B [] []
  | cons {k v x vs xs} : R K B v x → RK K B vs xs → RK K B ((k, v) :: vs) ((k, x) :: xs)
inductive RT (K : PySem.W.Frag) (B : Hp) : List (List Key × V) → List (List Key × D) → Prop
  | nil : RT K B [] []
  | cons {k v x vs xs} : R K B v x → RT K B vs xs → RT K B ((k, v) :: vs) ((k, x) :: xs)
inductive RF (K : PySem.W.Frag) (B : Hp) : List (Str × V) → List (Str × D) → Prop
  | nil : RF K B [] []
  | cons {k v x vs xs} : R K B v x → RF K B vs xs → RF K B ((k, v) :: vs) ((k, x) :: xs)
end
/-- what pure data lean on stays -/
structure BLe (B B' : Hp) : Prop where
  tup : ∀ a xs, Rd B a (.tup xs) → Rd B' a (.tup xs)
  lst : ∀ a xs, Rd B a (.lst xs) → Rd B' a (.lst xs)
  ls : ∀ a xs, B a = some (.lst xs) → B' a = some (.lst xs)
  dK : ∀ a xs, Rd B a (.dK xs) → Rd B' a (.dK xs)
  dT : ∀ a xs, Rd B a (.dT xs) → Rd B' a (.dT xs)
  ins : ∀ a C dx fs, B a = some (.ins C dx fs) → B' a = some (.ins C dx fs)
def Ex (H H' : Hp) : Prop := ∀ a o, H a = some o → H' a = some o
theorem Ex.refl (H : Hp) : Ex H H := fun _ _ h => h
theorem Ex.trans {H H1 H2 : Hp} (a : Ex H H1) (b : Ex H1 H2) : Ex H H2 := fun x o h => b x o (a x o h)
theorem Ex.rd {H H' : Hp} (e : Ex H H') {a : Addr} {u : HO} (h : Rd H a u) : Rd H' a u := by
  rcases h with h | ⟨o, h⟩
  · exact .inl (e _ _ h)
  · exact .inr ⟨o, e _ _ h⟩
theorem Ex.back {H H' : Hp} (e : Ex H H') {a : Addr} (h : H' a = none) : H a = none := by
  cases q : H a with
  | none => rfl
  | some o => rw [e a o q] at h; cases h
theorem Ex.new {H : Hp} {p : Addr} {o : HO} (h : H p = none) : Ex H (upd H p o) := fun a u e => by
  rw [upd_ne (ne_of_none e h)]; exact e
theorem BLe.of_ex {B B' : Hp} (e : Ex B B') : BLe B B' := ⟨fun _ _ h => e.rd h, fun _ _ h => e.rd h, fun _ _ h => e _ _ h, fun _ _ h => e.rd h, fun _ _ h => e.rd h, fun _ _ _ _ h => e _ _ h⟩
theorem BLe.refl (B : Hp) : BLe B B := .of_ex (.refl B)
theorem BLe.trans {B B1 B2 : Hp} (a : BLe B B1) (b : BLe B1 B2) : BLe B B2 :=
  ⟨fun _ _ h => b.tup _ _ (a.tup _ _ h), fun _ _ h => b.lst _ _ (a.lst _ _ h), fun _ _ h => b.ls _ _ (a.ls _ _ h), fun _ _ h => b.dK _ _ (a.dK _ _ h), fun _ _ h => b.dT _ _ (a.dT _ _ h), fun _ _ _ _ h => b.ins _ _ _ _ (a.ins _ _ _ _ h)⟩
theorem BLe.sqT {K : PySem.W.Frag} {B B' : Hp} (e : BLe B B') {a : Addr} {xs : List V} (h : SqT K B a xs) : SqT K B' a xs := h.imp (e.tup _ _) id
theorem BLe.sqL {K : PySem.W.Frag} {B B' : Hp} (e : BLe B B') {a : Addr} {xs : List V} (h : SqL K B a xs) : SqL K B' a xs := h.imp (e.lst _ _) id
section
variable {K : PySem.W.Frag} {B B' : Hp}
mutual
theorem R.mono (e : BLe B B') : ∀ {v : V} {x : D}, R K B v x → R K B' v x
  | _, _, .non => .non
  | _, _, .bl => .bl
  | _, _, .int => .int
  | _, _, .str => .str
  | _, _, .ref => .ref
  | _, _, .ty => .ty
  | _, _, .tup h r => .tup (e.sqT h) (RL.mono e r)
  | _, _, .lst h r => .lst (e.ls _ _ h) (RL.mono e r)
  | _, _, .sq h r => .sq (e.sqL h) (RL.mono e r)
  | _, _, .dic h n r => .dic (e.dK _ _ h) n (RK.mono e r)
  | _, _, .dit h n r => .dit (e.dT _ _ h) n (RT.mono e r)
  | _, _, .ins h r => .ins (e.ins _ _ _ _ h) (RF.mono e r)
theorem RL.mono (e : BLe B B') : ∀ {v : List V} {x : List D}, RL K B v x → RL K B' v x
  | _, _, .nil => .nil
  | _, _, .cons h r => .cons (R.mono e h) (RL.mono e r)
theorem RK.mono (e : BLe B B') : ∀ {v : List (Key × V)} {x : List (Key × D)}, RK K B v x → RK K B' v x
  | _, _, .nil => .nil
  | _, _, .cons h r => .cons (R.mono e h) (RK.mono e r)
theorem RT.mono (e : BLe B B') : ∀ {v : List (List Key × V)} {x : List (List Key × D)}, RT K B v x → RT K B' v x
  | _, _, .nil => .nil
  | _, _, .cons h r => .cons (R.mono e h) (RT.mono e r)
theorem RF.mono (e : BLe B B') : ∀ {v : List (Str × V)} {x : List (Str × D)}, RF K B v x → RF K B' v x
  | _, _, .nil => .nil
  | _, _, .cons h r => .cons (R.mono e h) (RF.mono e r)
end
end
end SK
namespace SK
open PySem PySem.Spec PyProof.Rows L2
abbrev Ad := Addr → Prop
mutual
inductive RO (K : PySem.W.Frag) (B H : Hp) : Ad → V → O → Prop
  | d {S : Ad} {v x} : R K B v x → RO K B H S v (.d x)
  | ol {S S' : Ad} {a vs xs} : S a → (∀ b, S' b → S b) → ¬ S' a → H a = some (.lst vs) → RS K B H S' (vs.map some) (xs.map some) → RO K B H S (.ref a) (.ol xs)
  | od {S S' : Ad} {a ws kvs} : S a → (∀ b, S' b → S b) → ¬ S' a → H a = some (.dK ws) → (kvs.map (·.1)).Nodup → ws.map (·.1) = kvs.map (·.1) → RS K B H S' (ws.map fun p => some p.2) (kvs.map fun p => some p.2) → RO K B H S (.ref a) (.od kvs)
  | ot {S S' : Ad} {a ws kvs} : S a → (∀ b, S' b → S b) → ¬ S' a → H a = some (.dT ws) → (kvs.map (·.1)).Nodup → ws.map (·.1) = kvs.map (·.1) → RS K B H S' (ws.map fun p => some p.2) (kvs.map fun p => some p.2) → RO K B H S (.ref a) (.ot kvs)
  | oi {S S' : Ad} {a dx C ws kvs} : S a → S dx → (∀ b, S' b → S b) → ¬ S' a → ¬ S' dx → a ≠ dx → H a = some (.ins C dx ws) → H dx = some (.own a) → ws.map (·.1) = kvs.map (·.1) → RS K B H S' (ws.map fun p => some p.2) (kvs.map fun p => some p.2) → RO K B H S (.ref a) (.oi a C kvs)
  | op {S : Ad} {a vs xs} : SqT K B a vs → RS K B H S (vs.map some) (xs.map some) → RO K B H S (.ref a) (.op xs)
inductive RS (K : PySem.W.Frag) (B H : Hp) : Ad → List (Option V) → List (Option O) → Prop
  | nil {S : Ad} : RS K B H S [] []
  | un {S : Ad} {v σ Γ} : RS K B H S σ Γ → RS K B H S (v :: σ) (none :: Γ)
  | cons {S S1 S2 : Ad} {v o σ Γ} : (∀ b, S1 b → S b) → (∀ b, S2 b → S b) → (∀ b, S1 b → ¬ S2 b) → RO K B H S1 v o → RS K B H S2 σ Γ → RS K B H S (some v :: σ) (some o :: Γ)
end
section
variable {K : PySem.W.Frag} {B B' H H' : Hp}
mutual
theorem RO.tr (e : BLe B B') : ∀ {S S' : Ad} {v : V} {o : O}, (∀ a, S a → S' a) → (∀ a u, S a → H a = some u → H' a = some u) → RO K B H S v o → RO K B' H' S' v o
  | _, _, _, _, _, _, .d r => .d (r.mono e)
  | _, _, _, _, s, k, .ol ha hs hn h r => .ol (s _ ha) (fun b z => s b (hs b z)) hn (k _ _ ha h) (RS.tr e (fun _ z => z) (fun b u z => k b u (hs b z)) r)
  | _, _, _, _, s, k, .od ha hs hn h nd q r => .od (s _ ha) (fun b z => s b (hs b z)) hn (k _ _ ha h) nd q (RS.tr e (fun _ z => z) (fun b u z => k b u (hs b z)) r)
  | _, _, _, _, s, k, .ot ha hs hn h nd q r => .ot (s _ ha) (fun b z => s b (hs b z)) hn (k _ _ ha h) nd q (RS.tr e (fun _ z => z) (fun b u z => k b u (hs b z)) r)
  | _, _, _, _, s, k, .oi ha hd hs hn hn2 ne h h2 q r => .oi (s _ ha) (s _ hd) (fun b z => s b (hs b z)) hn hn2 ne (k _ _ ha h) (k _ _ hd h2) q (RS.tr e (fun _ z => z) (fun b u z => k b u (hs b z)) r)
  | _, _, _, _, s, k, .op h r => .op (e.sqT h) (RS.tr e s k r)
theorem RS.tr (e : BLe B B') : ∀ {S S' : Ad} {σ : List (Option V)} {Γ : List (Option O)}, (∀ a, S a → S' a) → (∀ a u, S a → H a = some u → H' a = some u) → RS K B H S σ Γ → RS K B' H' S' σ Γ
  | _, _, _, _, _, _, .nil => .nil
  | _, _, _, _, s, k, .un r => .un (RS.tr e s k r)
  | _, _, _, _, s, k, .cons s1 s2 dj h r => .cons (fun b z => s b (s1 b z)) (fun b z => s b (s2 b z)) dj (RO.tr e (fun _ z => z) (fun b u z => k b u (s1 b z)) h) (RS.tr e (fun _ z => z) (fun b u z => k b u (s2 b z)) r)
end
end
/-- the i-th thing, and the others for any other thing in its place -/
theorem RS.focus {K : PySem.W.Frag} {B H : Hp} {o : O} : ∀ {σ : List (Option V)} {Γ : List (Option O)} {S : Ad} {i : Nat}, RS K B H S σ Γ → Γ[i]? = some (some o) →
    ∃ (v : V) (S1 S2 : Ad), σ[i]? = some (some v) ∧ (∀ b, S1 b → S b) ∧ (∀ b, S2 b → S b) ∧ (∀ b, S1 b → ¬ S2 b) ∧ RO K B H S1 v o ∧
      ∀ (B' H' : Hp) (S1' : Ad) (v' : Option V) (o' : Option O), BLe B B' → (∀ b u, S2 b → H b = some u → H' b = some u) → (∀ b, S1' b → ¬ S2 b) → (∀ x, o' = some x → ∃ w, v' = some w ∧ RO K B' H' S1' w x) →
        RS K B' H' (fun b => S1' b ∨ S2 b) (σ.set i v') (Γ.set i o') := by
  intro σ Γ
  induction Γ generalizing σ with
  | nil => intro S i _ h; simp at h
  | cons g Γ ih =>
    intro S i r h
    cases i with
    | zero =>
      rw [List.getElem?_cons_zero] at h
      cases h
      cases r with
      | cons s1 s2 dj h r =>
        refine ⟨_, _, _, rfl, s1, s2, dj, h, fun B' H' S1' v' o' e k dj' q => ?_⟩
        rw [List.set_cons_zero, List.set_cons_zero]
        cases o' with
        | none => exact .un (r.tr e (fun _ z => .inr z) k)
        | some x =>
          obtain ⟨w, rfl, q2⟩ := q x rfl
          exact .cons (fun _ z => .inl z) (fun _ z => .inr z) dj' q2 (r.tr e (fun _ z => z) k)
    | succ i =>
      rw [List.getElem?_cons_succ] at h
      cases r with
      | un r =>
        obtain ⟨v, S1, S2, a, b, c, d, e, f⟩ := ih r h
        refine ⟨v, S1, S2, by rw [List.getElem?_cons_succ]; exact a, b, c, d, e, fun B' H' S1' v' o' e k dj' q => ?_⟩
        rw [List.set_cons_succ, List.set_cons_succ]
        exact .un (f B' H' S1' v' o' e k dj' q)
      | @cons _ T1 T2 _ _ _ _ s1 s2 dj h0 r =>
        obtain ⟨v, S1, S2, a, b, c, d, e, f⟩ := ih r h
        refine ⟨v, S1, fun x => T1 x ∨ S2 x, by rw [List.getElem?_cons_succ]; exact a, fun x z => s2 x (b x z), fun x z => z.elim (s1 x) (fun z => s2 x (c x z)), fun x z w => w.elim (fun w => dj x w (b x z)) (fun w => d x z w), e, fun B' H' S1' v' o' e k dj' q => ?_⟩
        rw [List.set_cons_succ, List.set_cons_succ]
        refine .cons (S1 := T1) (S2 := fun x => S1' x ∨ S2 x) (fun x z => .inr (.inl z)) (fun x z => z.imp id .inr) (fun x z w => w.elim (fun w => dj' x w (.inl z)) fun w => dj x z (c x w)) (h0.tr e (fun _ z => z) fun x u z => k x u (.inl z)) ?_
        exact f B' H' S1' v' o' e (fun x u z => k x u (.inr z)) (fun x z w => dj' x z (.inr w)) q
/-- the things at hand: τ what is held meanwhile, σ the slots -/
structure HW (K : PySem.W.Frag) (F B0 : Hp) (τ : List V) (T : List O) (σ : L2.St) (Γ : List (Option O)) (H B : Hp) (S : Ad) : Prop where
  fr : Ex F H
  pu : Ex B H
  b0 : BLe B0 B
  ow : ∀ a, S a → F a = none ∧ B a = none ∧ H a ≠ none
  nw : ∀ a, B a ≠ none → B0 a ≠ none ∨ F a = none
  rs : RS K B H S (τ.map some ++ σ) (T.map some ++ Γ)
  lt : τ.length = T.length
abbrev En := List (Option O)
def Ho (K : PySem.W.Frag) (F B0 : Hp) (τ : List V) (T : List O) (σ : L2.St) (Γ : En) (H : Hp) : Prop := ∃ B S, HW K F B0 τ T σ Γ H B S
section
variable {K : PySem.W.Frag} {F B0 H H' B B' : Hp} {τ : List V} {T : List O} {σ : L2.St} {Γ : En} {S : Ad} {v : V} {o : O} {x : D}
/-- one thing more on the pile; the heap has grown -/
theorem HW.push (h : HW K F B0 τ T σ Γ H B S) {S' : Ad} (e : Ex H H') (eb : BLe B B') (pu : Ex B' H') (nw : ∀ a, B' a ≠ none → B a ≠ none ∨ H a = none) (ow : ∀ a, S' a → H a = none ∧ B' a = none ∧ H' a ≠ none) (r : RO K B' H' S' v o) :
    HW K F B0 (v :: τ) (o :: T) σ Γ H' B' (fun a => S' a ∨ S a) where
  fr := h.fr.trans e
  pu := pu
  b0 := h.b0.trans eb
  ow := fun a z => by
    rcases z with z | z
    · obtain ⟨h1, h2, h3⟩ := ow a z
      exact ⟨h.fr.back h1, h2, h3⟩
    · obtain ⟨h1, h2, h3⟩ := h.ow a z
      refine ⟨h1, ?_, fun q => h3 (e.back q)⟩
      cases q : B' a with
      | none => rfl
      | some u =>
        rcases nw a (by rw [q]; simp) with w | w
        · exact absurd h2 w
        · exact absurd w h3
  nw := fun a z => by
    rcases nw a z with w | w
    · exact h.nw a w
    · exact .inr (h.fr.back w)
  rs := .cons (fun _ z => .inl z) (fun _ z => .inr z) (fun a z w => (h.ow a w).2.2 (ow a z).1) r (h.rs.tr eb (fun _ z => z) fun a u _ q => e a u q)
  lt := by simp [h.lt]
/-- a pure thing, nothing new -/
theorem HW.pushd (h : HW K F B0 τ T σ Γ H B S) (r : R K B v x) : HW K F B0 (v :: τ) (.d x :: T) σ Γ H B (fun a => False ∨ S a) :=
  h.push (S' := fun _ => False) (.refl H) (.refl B) h.pu (fun _ z => .inl z) (fun _ z => z.elim) (.d r)
/-- the pile's first thing falls away -/
theorem HW.pop (h : HW K F B0 (v :: τ) (o :: T) σ Γ H B S) : ∃ S1 S2 : Ad, (∀ b, S1 b → S b) ∧ (∀ b, S2 b → S b) ∧ (∀ b, S1 b → ¬ S2 b) ∧ RO K B H S1 v o ∧ HW K F B0 τ T σ Γ H B S2 := by
  have r := h.rs
  cases r with
  | cons s1 s2 dj r rs => exact ⟨_, _, s1, s2, dj, r, h.fr, h.pu, h.b0, fun a z => h.ow a (s2 a z), h.nw, rs, by simpa using h.lt⟩
theorem HW.popd (h : HW K F B0 (v :: τ) (.d x :: T) σ Γ H B S) : R K B v x ∧ ∃ S2, (∀ b, S2 b → S b) ∧ HW K F B0 τ T σ Γ H B S2 := by
  obtain ⟨S1, S2, _, s2, _, r, w⟩ := h.pop
  cases r with
  | d r => exact ⟨r, S2, s2, w⟩
theorem HW.len (h : HW K F B0 τ T σ Γ H B S) : σ.length = Γ.length := by
  have : ∀ {σ : List (Option V)} {Γ : List (Option O)} {S : Ad}, RS K B H S σ Γ → σ.length = Γ.length := by
    intro σ Γ
    induction Γ generalizing σ with
    | nil => intro S r; cases r; rfl
    | cons g Γ ih =>
      intro S r
      cases r with
      | un r => simp [ih r]
      | cons _ _ _ _ r => simp [ih r]
  have q := this h.rs
  have l := h.lt
  simp only [List.length_append, List.length_map] at q
  omega
/-- the i-th slot -/
theorem HW.slot (h : HW K F B0 τ T σ Γ H B S) {i : Nat} (e : Γ[i]? = some (some o)) : ∃ (v : V) (S1 S2 : Ad), σ[i]? = some (some v) ∧ (∀ b, S1 b → S b) ∧ (∀ b, S2 b → S b) ∧ (∀ b, S1 b → ¬ S2 b) ∧ RO K B H S1 v o ∧
    ∀ (B' H' : Hp) (S1' : Ad) (v' : Option V) (o' : Option O), BLe B B' → (∀ b u, S2 b → H b = some u → H' b = some u) → (∀ b, S1' b → ¬ S2 b) → (∀ x, o' = some x → ∃ w, v' = some w ∧ RO K B' H' S1' w x) →
        RS K B' H' (fun b => S1' b ∨ S2 b) (τ.map some ++ σ.set i v') (T.map some ++ Γ.set i o') := by
  have e' : (T.map some ++ Γ)[τ.length + i]? = some (some o) := by
    rw [List.getElem?_append_right (by simp [h.lt]), List.length_map, ← h.lt, Nat.add_sub_cancel_left]
    exact e
  obtain ⟨v, S1, S2, a, b, c, d, r, f⟩ := h.rs.focus e'
  refine ⟨v, S1, S2, ?_, b, c, d, r, fun B' H' S1' v' o' e k dj q => ?_⟩
  · rw [List.getElem?_append_right (by simp), List.length_map, Nat.add_sub_cancel_left] at a
    exact a
  · have z := f B' H' S1' v' o' e k dj q
    rw [List.set_append_right _ _ (by simp), List.set_append_right _ _ (by simp [h.lt]), List.length_map, List.length_map, ← h.lt, Nat.add_sub_cancel_left] at z
    exact z
theorem HW.getd (h : HW K F B0 τ T σ Γ H B S) {i : Nat} (e : Γ[i]? = some (some (.d x))) : ∃ v, σ[i]? = some (some v) ∧ R K B v x := by
  obtain ⟨v, S1, S2, a, _, _, _, r, _⟩ := h.slot e
  cases r with
  | d r => exact ⟨v, a, r⟩
end
end SK
namespace SK
open PySem PySem.Spec PyProof.Rows L2
mutual
def O.fz : O → D
  | .d x => x
  | .ol xs => .lst (fzL xs)
  | .od kvs => .dic (fzK kvs)
  | .ot kvs => .dit (fzT kvs)
  | .oi _ C fs => .ins C (fzF fs)
  | .op xs => .tup (fzL xs)
def fzL : List O → List D
  | [] => []
  | x :: xs => x.fz :: fzL xs
def fzK : List (Key × O) → List (Key × D)
  | [] => []
  | (k, x) :: xs => (k, x.fz) :: fzK xs
def fzT : List (List Key × O) → List (List Key × D)
  | [] => []
  | (k, x) :: xs => (k, x.fz) :: fzT xs
def fzF : List (Str × O) → List (Str × D)
  | [] => []
  | (k, x) :: xs => (k, x.fz) :: fzF xs
end
theorem fzK_keys : ∀ l : List (Key × O), (fzK l).map (·.1) = l.map (·.1)
  | [] => rfl
  | (k, x) :: xs => by simp [fzK, fzK_keys xs]
theorem fzT_keys : ∀ l : List (List Key × O), (fzT l).map (·.1) = l.map (·.1)
  | [] => rfl
  | (k, x) :: xs => by simp [fzT, fzT_keys xs]
def fzE : List (Option O) → List (Option O)
  | [] => []
  | none :: r => none :: fzE r
  | some o :: r => some (.d o.fz) :: fzE r
section
variable {K : PySem.W.Frag} {B B' H H' : Hp}
mutual
theorem RO.fz (eb : BLe B B') : ∀ {S : Ad} {v : V} {o : O}, (∀ a u, S a → H a = some u → B' a = some u) → RO K B H S v o → R K B' v o.fz
  | _, _, _, _, .d r => r.mono eb
  | _, _, _, k, .ol ha hs _ h r => .lst (k _ _ ha h) (RS.fzL eb (fun b u z => k b u (hs b z)) r)
  | _, _, _, k, .od ha hs _ h nd q r => .dic (.inl (k _ _ ha h)) (by rw [fzK_keys]; exact nd) (RS.fzK eb (fun b u z => k b u (hs b z)) q r)
  | _, _, _, k, .ot ha hs _ h nd q r => .dit (.inl (k _ _ ha h)) (by rw [fzT_keys]; exact nd) (RS.fzT eb (fun b u z => k b u (hs b z)) q r)
  | _, _, _, k, .oi ha hd hs _ _ _ h _ q r => .ins (k _ _ ha h) (RS.fzF eb (fun b u z => k b u (hs b z)) q r)
  | _, _, _, k, .op h r => .tup (eb.sqT h) (RS.fzL eb k r)
theorem RS.fzL (eb : BLe B B') : ∀ {S : Ad} {vs : List V} {xs : List O}, (∀ a u, S a → H a = some u → B' a = some u) → RS K B H S (vs.map some) (xs.map some) → RL K B' vs (SK.fzL xs)
  | _, [], [], _, _ => .nil
  | _, v :: vs, x :: xs, k, .cons s1 s2 _ h r => .cons (RO.fz eb (fun b u z => k b u (s1 b z)) h) (RS.fzL eb (fun b u z => k b u (s2 b z)) r)
theorem RS.fzK (eb : BLe B B') : ∀ {S : Ad} {vs : List (Key × V)} {xs : List (Key × O)}, (∀ a u, S a → H a = some u → B' a = some u) → vs.map (·.1) = xs.map (·.1) → RS K B H S (vs.map fun p => some p.2) (xs.map fun p => some p.2) → RK K B' vs (SK.fzK xs)
  | _, [], [], _, _, _ => .nil
  | _, (kv, v) :: vs, (kx, x) :: xs, k, q, .cons s1 s2 _ h r => by
    simp only [List.map_cons, List.cons.injEq] at q
    obtain ⟨rfl, q⟩ := q
    exact .cons (RO.fz eb (fun b u z => k b u (s1 b z)) h) (RS.fzK eb (fun b u z => k b u (s2 b z)) q r)
theorem RS.fzT (eb : BLe B B') : ∀ {S : Ad} {vs : List (List Key × V)} {xs : List (List Key × O)}, (∀ a u, S a → H a = some u → B' a = some u) → vs.map (·.1) = xs.map (·.1) → RS K B H S (vs.map fun p => some p.2) (xs.map fun p => some p.2) → RT K B' vs (SK.fzT xs)
  | _, [], [], _, _, _ => .nil
  | _, (kv, v) :: vs, (kx, x) :: xs, k, q, .cons s1 s2 _ h r => by
    simp only [List.map_cons, List.cons.injEq] at q
    obtain ⟨rfl, q⟩ := q
    exact .cons (RO.fz eb (fun b u z => k b u (s1 b z)) h) (RS.fzT eb (fun b u z => k b u (s2 b z)) q r)
theorem RS.fzF (eb : BLe B B') : ∀ {S : Ad} {vs : List (Str × V)} {xs : List (Str × O)}, (∀ a u, S a → H a = some u → B' a = some u) → vs.map (·.1) = xs.map (·.1) → RS K B H S (vs.map fun p => some p.2) (xs.map fun p => some p.2) → RF K B' vs (SK.fzF xs)
  | _, [], [], _, _, _ => .nil
  | _, (kv, v) :: vs, (kx, x) :: xs, k, q, .cons s1 s2 _ h r => by
    simp only [List.map_cons, List.cons.injEq] at q
    obtain ⟨rfl, q⟩ := q
    exact .cons (RO.fz eb (fun b u z => k b u (s1 b z)) h) (RS.fzF eb (fun b u z => k b u (s2 b z)) q r)
end
end
open Classical in
/-- B with the owned cells S of H -/
noncomputable def frz (B H : Hp) (S : Ad) : Hp := fun a => if S a then H a else B a
section
variable {K : PySem.W.Frag} {F B0 H H' B B' : Hp} {τ : List V} {T : List O} {σ : L2.St} {Γ : En} {S S1 S2 : Ad} {v : V} {o : O} {x : D}
theorem frz_at {a : Addr} (h : S a) : frz B H S a = H a := if_pos h
theorem frz_no {a : Addr} (h : ¬ S a) : frz B H S a = B a := if_neg h
theorem frz_ex (h : ∀ a, S a → B a = none) : Ex B (frz B H S) := fun a o e => by
  by_cases z : S a
  · rw [h a z] at e; cases e
  · rw [frz_no z]; exact e
/-- the pile's first thing is frozen -/
theorem HW.fz (h : HW K F B0 (v :: τ) (o :: T) σ Γ H B S) : ∃ B' S', HW K F B0 (v :: τ) (.d o.fz :: T) σ Γ H B' S' ∧ BLe B B' := by
  obtain ⟨S1, S2, s1, s2, dj, r, w⟩ := h.pop
  have ex : Ex B (frz B H S1) := frz_ex fun a z => (h.ow a (s1 a z)).2.1
  refine ⟨frz B H S1, fun a => False ∨ S2 a, ⟨h.fr, fun a u e => ?_, h.b0.trans (.of_ex ex), fun a z => ?_, fun a z => ?_, .cons (S1 := fun _ => False) (fun _ z => .inl z) (fun _ z => .inr z) (fun _ z => z.elim) (.d (r.fz (.of_ex ex) fun a u z e => by rw [frz_at z]; exact e)) (w.rs.tr (.of_ex ex) (fun _ z => z) fun _ _ _ e => e), h.lt⟩, .of_ex ex⟩
  · by_cases z : S1 a
    · rw [frz_at z] at e; exact e
    · rw [frz_no z] at e; exact h.pu a u e
  · have z : S2 a := z.elim False.elim id
    obtain ⟨q1, q2, q3⟩ := h.ow a (s2 a z)
    refine ⟨q1, ?_, q3⟩
    rw [frz_no fun y => dj a y z]
    exact q2
  · by_cases y : S1 a
    · exact .inr (h.ow a (s1 a y)).1
    · rw [frz_no y] at z; exact h.nw a z
/-- pushed frozen things, all at once: the whole state as pure -/
theorem RS.fzE {S : Ad} (eb : BLe B B') : ∀ {σ : List (Option V)} {Γ : List (Option O)} {S : Ad}, (∀ a u, S a → H a = some u → B' a = some u) → RS K B H S σ Γ → RS K B' H (fun _ => False) σ (fzE Γ) := by
  intro σ Γ
  induction Γ generalizing σ with
  | nil => intro S _ r; cases r; exact .nil
  | cons g Γ ih =>
    intro S k r
    cases r with
    | un r => exact .un (ih k r)
    | cons s1 s2 dj h r => exact .cons (S1 := fun _ => False) (S2 := fun _ => False) (fun _ z => z) (fun _ z => z) (fun _ z => z.elim) (.d (h.fz eb fun a u z => k a u (s1 a z))) (ih (fun a u z => k a u (s2 a z)) r)
end
structure EG where
  nx : En → Prop
  rt : O → En → Prop
  bk : En → Prop := fun _ => False
  ct : En → Prop := fun _ => False
section
variable (K : PySem.W.Frag) (F B0 : Hp)
def Go (t : TE) (T : List O) (Γ : En) (post : O → En → Prop) : Prop := ∀ (τ : List V) (σ : L2.St) (H : Hp) (Q : VK), Ho K F B0 τ T σ Γ H →
  (∀ v o Γ' H', post o Γ' → Ho K F B0 (v :: τ) (o :: T) σ Γ' H' → Q v H') → t σ H Q
def GoT (t : TT) (T : List O) (Γ : En) (post : Bool → En → Prop) : Prop := ∀ (τ : List V) (σ : L2.St) (H : Hp) (Q : Bool → Hp → Prop), Ho K F B0 τ T σ Γ H →
  (∀ b Γ' H', post b Γ' → Ho K F B0 τ T σ Γ' H' → Q b H') → t σ H Q
/-- arguments, all pure; on the pile the last one first -/
def GoA (t : TA) (T : List O) (Γ : En) (post : List D → En → Prop) : Prop := ∀ (τ : List V) (σ : L2.St) (H : Hp) (Q : List V → Hp → Prop), Ho K F B0 τ T σ Γ H →
  (∀ vs xs Γ' H', post xs Γ' → Ho K F B0 (vs.reverse ++ τ) ((xs.map O.d).reverse ++ T) σ Γ' H' → vs.length = xs.length → Q vs H') → t σ H Q
structure Sat (τ : List V) (T : List O) (De : Ends) (D : EG) : Prop where
  nx : ∀ σ Γ H, D.nx Γ → Ho K F B0 τ T σ Γ H → De.nx σ H
  rt : ∀ v o σ Γ H, D.rt o Γ → Ho K F B0 (v :: τ) (o :: T) σ Γ H → De.rt v H
  bk : ∀ σ Γ H, D.bk Γ → Ho K F B0 τ T σ Γ H → De.bk σ H
  ct : ∀ σ Γ H, D.ct Γ → Ho K F B0 τ T σ Γ H → De.ct σ H
def GoS (t : TS) (T : List O) (Γ : En) (D : EG) : Prop := ∀ (τ : List V) (σ : L2.St) (H : Hp) (De : Ends), Ho K F B0 τ T σ Γ H → Sat K F B0 τ T De D → t De σ H
/-- an operation on two pure things -/
def Op2 (r : R2) (x1 x2 : D) (T : List O) (Γ : En) (post : O → En → Prop) : Prop := ∀ (τ : List V) (σ : L2.St) (H B : Hp) (S : Ad) (v1 v2 : V) (Q : VK), HW K F B0 τ T σ Γ H B S → R K B v1 x1 → R K B v2 x2 →
  (∀ v o Γ' H', post o Γ' → Ho K F B0 (v :: τ) (o :: T) σ Γ' H' → Q v H') → r v1 v2 H Q
def Op1 (r : V → Hp → VK → Prop) (x1 : D) (T : List O) (Γ : En) (post : O → En → Prop) : Prop := ∀ (τ : List V) (σ : L2.St) (H B : Hp) (S : Ad) (v1 : V) (Q : VK), HW K F B0 τ T σ Γ H B S → R K B v1 x1 →
  (∀ v o Γ' H', post o Γ' → Ho K F B0 (v :: τ) (o :: T) σ Γ' H' → Q v H') → r v1 H Q
/-- a call by values on pure things -/
def OpA (r : List V → Hp → VK → Prop) (xs : List D) (T : List O) (Γ : En) (post : O → En → Prop) : Prop := ∀ (τ : List V) (σ : L2.St) (H B : Hp) (S : Ad) (vs : List V) (Q : VK), HW K F B0 τ T σ Γ H B S → RL K B vs xs →
  (∀ v o Γ' H', post o Γ' → Ho K F B0 (v :: τ) (o :: T) σ Γ' H' → Q v H') → r vs H Q
/-- a store into a target -/
def GoG (g : TG) (o : O) (T : List O) (Γ : En) (post : En → Prop) : Prop := ∀ (τ : List V) (σ : L2.St) (H : Hp) (v : V) (Q : L2.St → Hp → Prop), Ho K F B0 (v :: τ) (o :: T) σ Γ H →
  (∀ σ' Γ' H', post Γ' → Ho K F B0 τ T σ' Γ' H' → Q σ' H') → g v σ H Q
end
end SK
namespace SK
open PySem PySem.Spec PyProof.Rows L2
section
variable {K : PySem.W.Frag} {F B0 H H' B B' : Hp} {τ : List V} {T : List O} {σ : L2.St} {Γ : En} {S S1 S2 : Ad} {v : V} {o o1 o2 : O} {x : D} {post : O → En → Prop} {ta tb te : TE} {tt tu : TT} {i : Nat} {r : R2} {posts : List D → En → Prop} {postt : Bool → En → Prop} {posts1 : En → Prop}
theorem RS.len : ∀ {σ : List (Option V)} {Γ : List (Option O)} {S : Ad}, RS K B H S σ Γ → σ.length = Γ.length := by
  intro σ Γ
  induction Γ generalizing σ with
  | nil => intro S r; cases r; rfl
  | cons g Γ ih =>
    intro S r
    cases r with
    | un r => simp [ih r]
    | cons _ _ _ _ r => simp [ih r]
/-- a slot is written -/
theorem RS.put {v : Option V} {o : Option O} : ∀ {σ : List (Option V)} {Γ : List (Option O)} {S S1 : Ad} {i : Nat}, RS K B H S σ Γ → i < Γ.length → (∀ b, S1 b → ¬ S b) → (∀ x, o = some x → ∃ w, v = some w ∧ RO K B H S1 w x) →
    RS K B H (fun b => S1 b ∨ S b) (σ.set i v) (Γ.set i o) := by
  intro σ Γ
  induction Γ generalizing σ with
  | nil => intro S S1 i _ h; simp at h
  | cons g Γ ih =>
    intro S S1 i r hi dj q
    have ex : ∀ {a b : Option V} {σ : List (Option V)} {Γ : List (Option O)} {S2 : Ad}, (∀ z, S2 z → S z) → RS K B H S2 σ Γ → RS K B H (fun b => S1 b ∨ S b) (v :: σ) (o :: Γ) := fun s2 r => by
      cases o with
      | none => exact .un (r.tr (.refl B) (fun a z => .inr (s2 a z)) fun _ _ _ e => e)
      | some x =>
        obtain ⟨w, rfl, q2⟩ := q x rfl
        exact .cons (fun _ z => .inl z) (fun a z => .inr (s2 a z)) (fun a z y => dj a z (s2 a y)) q2 r
    cases i with
    | zero =>
      cases r with
      | un r => exact ex (a := v) (b := v) (fun _ z => z) r
      | cons _ s2 _ _ r => exact ex (a := v) (b := v) s2 r
    | succ i =>
      have hi' : i < Γ.length := by simpa using hi
      cases r with
      | un r => exact .un (ih r hi' dj q)
      | @cons _ T1 T2 _ _ _ _ s1 s2 dj0 h0 r =>
        refine .cons (S1 := T1) (S2 := fun x => S1 x ∨ T2 x) (fun x z => .inr (s1 x z)) (fun x z => z.imp id (s2 x)) (fun x z w => w.elim (fun w => dj x w (s1 x z)) (dj0 x z)) h0 (ih r hi' (fun x z w => dj x z (s2 x w)) q)
theorem HW.put (h : HW K F B0 (v :: τ) (o :: T) σ Γ H B S) (hi : i < Γ.length) : ∃ S', HW K F B0 τ T (σ.set i (some v)) (Γ.set i (some o)) H B S' := by
  obtain ⟨S1, S2, s1, s2, dj, r, w⟩ := h.pop
  have lt := w.lt
  have q := RS.put (i := τ.length + i) (v := some v) (o := some o) (S1 := S1) w.rs (by simp [w.lt]; omega) dj fun x e => by cases e; exact ⟨v, rfl, r⟩
  rw [List.set_append_right _ _ (by simp), List.set_append_right _ _ (by simp [lt]), List.length_map, List.length_map, ← lt, Nat.add_sub_cancel_left] at q
  exact ⟨_, w.fr, w.pu, w.b0, fun a z => z.elim (fun z => h.ow a (s1 a z)) (fun z => w.ow a z), w.nw, q, w.lt⟩
/-- a slot is forgotten, its thing on the pile -/
theorem HW.take (h : HW K F B0 τ T σ Γ H B S) (e : Γ[i]? = some (some o)) : ∃ v S', σ[i]? = some (some v) ∧ HW K F B0 (v :: τ) (o :: T) σ (Γ.set i none) H B S' := by
  obtain ⟨v, S1, S2, a, b, c, d, ro, f⟩ := h.slot e
  have hl : i < σ.length := (List.getElem?_eq_some_iff.mp a).1
  have z := f B H (fun _ => False) (some v) none (.refl B) (fun _ _ _ q => q) (fun _ z => z.elim) (fun x q => by cases q)
  have e2 : σ.set i (some v) = σ := by
    apply List.ext_getElem?
    intro n
    by_cases hn : n = i
    · subst hn; rw [List.getElem?_set_self hl, a]
    · rw [List.getElem?_set_ne (Ne.symm hn)]
  rw [e2] at z
  exact ⟨v, fun b => S1 b ∨ S2 b, a, h.fr, h.pu, h.b0, fun a z => z.elim (fun z => h.ow a (b a z)) (fun z => h.ow a (c a z)), h.nw,
    .cons (fun _ z => .inl z) (fun _ z => .inr z) d ro (z.tr (.refl B) (fun a z => z.elim False.elim id) fun _ _ _ e => e), by simp [h.lt]⟩
/-- a pure name -/
theorem go_var (e : Γ[i]? = some (some (.d x))) (h : post (.d x) Γ) : Go K F B0 (tVar i) T Γ post := fun τ σ H Q ⟨B, S, w⟩ k => by
  obtain ⟨v, a, r⟩ := w.getd e
  exact ⟨v, a, k v _ Γ H h ⟨B, _, w.pushd r⟩⟩
/-- an owned thing is handed on: its name holds nothing known from then on -/
theorem go_move (e : Γ[i]? = some (some o)) (h : post o (Γ.set i none)) : Go K F B0 (tVar i) T Γ post := fun τ σ H Q ⟨B, S, w⟩ k => by
  obtain ⟨v, S', a, w⟩ := w.take e
  exact ⟨v, a, k v _ _ H h ⟨B, S', w⟩⟩
/-- an owned thing becomes pure for good -/
theorem go_fz (e : Γ[i]? = some (some o)) (h : post (.d o.fz) (Γ.set i (some (.d o.fz)))) : Go K F B0 (tVar i) T Γ post := fun τ σ H Q ⟨B, S, w⟩ k => by
  obtain ⟨v, S', a, w⟩ := w.take e
  obtain ⟨B', S'', w, _⟩ := w.fz
  obtain ⟨r, _⟩ := w.popd
  obtain ⟨S3, w3⟩ := w.put (i := i) (by simpa using (List.getElem?_eq_some_iff.mp e).1)
  have hl : i < σ.length := (List.getElem?_eq_some_iff.mp a).1
  have e2 : σ.set i (some v) = σ := by
    apply List.ext_getElem?
    intro n
    by_cases hn : n = i
    · subst hn; rw [List.getElem?_set_self hl, a]
    · rw [List.getElem?_set_ne (Ne.symm hn)]
  rw [e2, List.set_set] at w3
  exact ⟨v, a, k v _ _ H h ⟨B', _, w3.pushd r⟩⟩
theorem go_int {n : Int} (h : post (.d (.int n)) Γ) : Go K F B0 (tC (.int n)) T Γ post := fun τ σ H Q ⟨B, S, w⟩ k => k _ _ Γ H h ⟨B, _, w.pushd .int⟩
theorem go_bl {n : Bool} (h : post (.d (.bl n)) Γ) : Go K F B0 (tC (.bl n)) T Γ post := fun τ σ H Q ⟨B, S, w⟩ k => k _ _ Γ H h ⟨B, _, w.pushd .bl⟩
theorem go_str {n : Str} (h : post (.d (.str n)) Γ) : Go K F B0 (tC (.str n)) T Γ post := fun τ σ H Q ⟨B, S, w⟩ k => k _ _ Γ H h ⟨B, _, w.pushd .str⟩
theorem go_non (h : post (.d .non) Γ) : Go K F B0 (tC .non) T Γ post := fun τ σ H Q ⟨B, S, w⟩ k => k _ _ Γ H h ⟨B, _, w.pushd .non⟩
theorem go_ty {n : String} (h : post (.d (.ty n)) Γ) : Go K F B0 (tC (.ty n)) T Γ post := fun τ σ H Q ⟨B, S, w⟩ k => k _ _ Γ H h ⟨B, _, w.pushd .ty⟩
theorem go_ref {a : Addr} (h : post (.d (.ref a)) Γ) : Go K F B0 (tC (.ref a)) T Γ post := fun τ σ H Q ⟨B, S, w⟩ k => k _ _ Γ H h ⟨B, _, w.pushd .ref⟩
/-- a constant of the module that is data -/
theorem go_cst {c : V} (q : ∀ B, R K B c x) (h : post (.d x) Γ) : Go K F B0 (tC c) T Γ post := fun τ σ H Q ⟨B, S, w⟩ k => k _ _ Γ H h ⟨B, _, w.pushd (q B)⟩
theorem HW.fzd (h : HW K F B0 (v :: τ) (o :: T) σ Γ H B S) : ∃ B' S', HW K F B0 τ T σ Γ H B' S' ∧ R K B' v o.fz ∧ BLe B B' := by
  obtain ⟨B', S', w, e⟩ := h.fz
  obtain ⟨r, S2, _, w⟩ := w.popd
  exact ⟨B', S2, w, r, e⟩
theorem go_op (h : Go K F B0 ta T Γ fun o1 Γ1 => Go K F B0 tb (.d o1.fz :: T) Γ1 fun o2 Γ2 => Op2 K F B0 r o1.fz o2.fz T Γ2 post) : Go K F B0 (tOp r ta tb) T Γ post := fun τ σ H Q hw k =>
  h τ σ H _ hw fun v1 o1 Γ1 H1 h1 ⟨_, _, w1⟩ => by
    obtain ⟨_, _, w1, _⟩ := w1.fz
    refine h1 _ σ H1 _ ⟨_, _, w1⟩ fun v2 o2 Γ2 H2 h2 ⟨_, _, w2⟩ => ?_
    obtain ⟨_, _, w2, r2, _⟩ := w2.fzd
    obtain ⟨r1, _, _, w2⟩ := w2.popd
    exact h2 τ σ H2 _ _ v1 v2 Q w2 r1 r2 k
theorem go_un {r : V → Hp → VK → Prop} (h : Go K F B0 ta T Γ fun o1 Γ1 => Op1 K F B0 r o1.fz T Γ1 post) : Go K F B0 (tUn r ta) T Γ post := fun τ σ H Q hw k =>
  h τ σ H _ hw fun v1 o1 Γ1 H1 h1 ⟨_, _, w1⟩ => by
    obtain ⟨_, _, w1, r1, _⟩ := w1.fzd
    exact h1 τ σ H1 _ _ v1 Q w1 r1 k
theorem goa_nil (h : posts [] Γ) : GoA K F B0 tNil T Γ posts := fun τ σ H Q hw k => k [] [] Γ H h hw rfl
theorem goa_cons {tr : TA} (h : Go K F B0 ta T Γ fun o1 Γ1 => GoA K F B0 tr (.d o1.fz :: T) Γ1 fun xs Γ2 => posts (o1.fz :: xs) Γ2) : GoA K F B0 (tCons ta tr) T Γ posts := fun τ σ H Q hw k =>
  h τ σ H _ hw fun v1 o1 Γ1 H1 h1 ⟨_, _, w1⟩ => by
    obtain ⟨_, _, w1, _⟩ := w1.fz
    refine h1 _ σ H1 _ ⟨_, _, w1⟩ fun vs xs Γ2 H2 h2 w2 hl => ?_
    refine k (v1 :: vs) (o1.fz :: xs) Γ2 H2 h2 ?_ (by simp [hl])
    simpa using w2
/-- the held arguments, as a list -/
theorem HW.args : ∀ {xs : List D} {vs : List V} {τ : List V} {T : List O} {S : Ad}, HW K F B0 (vs.reverse ++ τ) ((xs.map O.d).reverse ++ T) σ Γ H B S → vs.length = xs.length → RL K B vs xs ∧ ∃ S', HW K F B0 τ T σ Γ H B S'
  | [], [], _, _, S, h, _ => ⟨.nil, S, h⟩
  | x :: xs, v :: vs, τ, T, S, h, hl => by
    have h' : HW K F B0 (vs.reverse ++ (v :: τ)) ((xs.map O.d).reverse ++ (.d x :: T)) σ Γ H B S := by simpa using h
    obtain ⟨r, S', w⟩ := HW.args h' (by simpa using hl)
    obtain ⟨r1, S2, _, w⟩ := w.popd
    exact ⟨.cons r1 r, S2, w⟩
theorem go_cb {r : List V → Hp → VK → Prop} {t : TA} (h : GoA K F B0 t T Γ fun xs Γ1 => OpA K F B0 r xs T Γ1 post) : Go K F B0 (tCB r t) T Γ post := fun τ σ H Q hw k =>
  h τ σ H _ hw fun vs xs Γ1 H1 h1 ⟨_, _, w1⟩ hl => by
    obtain ⟨rl, S', w⟩ := w1.args hl
    exact h1 τ σ H1 _ S' vs Q w rl k
theorem HW.newd {p : Addr} {c : HO} (h : HW K F B0 τ T σ Γ H B S) (hp : H p = none) (r : R K (upd B p c) v x) : ∃ S', HW K F B0 (v :: τ) (.d x :: T) σ Γ (upd H p c) (upd B p c) S' :=
  ⟨_, h.push (S' := fun _ => False) (.new hp) (.of_ex (.new (h.pu.back hp))) (fun a u e => by
    by_cases q : a = p
    · subst q; rw [upd_same] at e ⊢; exact e
    · rw [upd_ne q] at e ⊢; exact h.pu a u e) (fun a z => by
    by_cases q : a = p
    · subst q; exact .inr hp
    · rw [upd_ne q] at z; exact .inl z) (fun _ z => z.elim) (.d r)⟩
theorem HW.newo {p : Addr} {c : HO} (h : HW K F B0 τ T σ Γ H B S) (hp : H p = none) (r : RO K B (upd H p c) (fun a => a = p) v o) : ∃ S', HW K F B0 (v :: τ) (o :: T) σ Γ (upd H p c) B S' :=
  ⟨_, h.push (S' := fun a => a = p) (.new hp) (.refl B) (fun a u e => (Ex.new hp) a u (h.pu a u e)) (fun a z => .inl z) (fun a z => by subst z; exact ⟨hp, h.pu.back hp, by rw [upd_same]; simp⟩) r⟩
theorem fl_of {xs : List D} {vs : List V} {S : Ad} (r : RL K B vs xs) : RS K B H S (vs.map some) ((xs.map O.d).map some) := by
  induction vs generalizing xs with
  | nil => cases r; exact .nil
  | cons v vs ih => cases r with | cons a b => exact .cons (S1 := fun _ => False) (S2 := S) (fun _ z => z.elim) (fun _ z => z) (fun _ z => z.elim) (.d a) (ih b)
theorem RL.length {xs : List D} {vs : List V} (r : RL K B vs xs) : vs.length = xs.length := by
  induction vs generalizing xs with
  | nil => cases r; rfl
  | cons v vs ih => cases r with | cons a b => simp [ih b]
theorem go_tup {t : TA} (h : GoA K F B0 t T Γ fun xs Γ1 => xs.length ≤ 1000 ∧ post (.d (.tup xs)) Γ1) : Go K F B0 (tTup t) T Γ post := fun τ σ H Q hw k =>
  h τ σ H _ hw fun vs xs Γ1 H1 ⟨hz, h1⟩ ⟨_, _, w1⟩ hl => by
    obtain ⟨rl, S', w⟩ := w1.args hl
    refine ⟨Nat.le_trans (by rw [hl]; exact hz) (by decide), fun p hp => ?_⟩
    obtain ⟨S2, w⟩ := w.newd (x := .tup xs) hp (.tup (SqT.of upd_same) (rl.mono (.of_ex (.new (w.pu.back hp)))))
    exact k _ _ _ _ h1 ⟨_, _, w⟩
theorem HW.newl {p : Addr} {xs : List D} {vs : List V} (h : HW K F B0 τ T σ Γ H B S) (hp : H p = none) (rl : RL K B vs xs) : ∃ S', HW K F B0 (.ref p :: τ) (.ol (xs.map O.d) :: T) σ Γ (upd H p (.lst vs)) B S' :=
  h.newo hp (.ol (S' := fun _ => False) rfl (fun _ z => z.elim) id upd_same (fl_of rl))
theorem go_lst {t : TA} (h : GoA K F B0 t T Γ fun xs Γ1 => xs.length ≤ 1000 ∧ post (.ol (xs.map O.d)) Γ1) : Go K F B0 (tLst t) T Γ post := fun τ σ H Q hw k =>
  h τ σ H _ hw fun vs xs Γ1 H1 ⟨hz, h1⟩ ⟨_, _, w1⟩ hl => by
    obtain ⟨rl, S', w⟩ := w1.args hl
    refine ⟨Nat.le_trans (by rw [hl]; exact hz) (by decide), fun p hp => ?_⟩
    obtain ⟨S2, w⟩ := w.newl hp rl
    exact k _ _ _ _ h1 ⟨_, _, w⟩
theorem go_if (h : GoT K F B0 tt T Γ fun b Γ1 => (b = true → Go K F B0 ta T Γ1 post) ∧ (b = false → Go K F B0 tb T Γ1 post)) : Go K F B0 (tIf tt ta tb) T Γ post := fun τ σ H Q hw k =>
  h τ σ H _ hw fun b Γ1 H1 ⟨h1, h2⟩ w1 => by
    cases b with
    | true => exact iteT (h1 rfl τ σ H1 Q w1 k)
    | false => exact iteF (h2 rfl τ σ H1 Q w1 k)
theorem got_test (h : Go K F B0 te T Γ fun o Γ1 => ∃ b, o = .d (.bl b) ∧ postt b Γ1) : GoT K F B0 (tTest te) T Γ postt := fun τ σ H Q hw k =>
  h τ σ H _ hw fun v o Γ1 H1 ⟨b, e, h1⟩ ⟨_, _, w1⟩ => by
    subst e
    obtain ⟨r, _, _, w⟩ := w1.popd
    cases r
    exact ⟨b, rfl, k b Γ1 H1 h1 ⟨_, _, w⟩⟩
theorem got_B (h : Go K F B0 te T Γ fun o Γ1 => ∃ b, o = .d (.bl b) ∧ postt b Γ1) : GoT K F B0 (tB te) T Γ postt := fun τ σ H Q hw k => got_test h τ σ H Q hw k
theorem got_and (h : GoT K F B0 tt T Γ fun b Γ1 => (b = true → GoT K F B0 tu T Γ1 postt) ∧ (b = false → postt false Γ1)) : GoT K F B0 (tAnd tt tu) T Γ postt := fun τ σ H Q hw k =>
  h τ σ H _ hw fun b Γ1 H1 ⟨h1, h2⟩ w1 => by
    cases b with
    | true => exact iteT (h1 rfl τ σ H1 Q w1 k)
    | false => exact iteF (k _ _ _ (h2 rfl) w1)
theorem got_or (h : GoT K F B0 tt T Γ fun b Γ1 => (b = true → postt true Γ1) ∧ (b = false → GoT K F B0 tu T Γ1 postt)) : GoT K F B0 (tOr tt tu) T Γ postt := fun τ σ H Q hw k =>
  h τ σ H _ hw fun b Γ1 H1 ⟨h1, h2⟩ w1 => by
    cases b with
    | true => exact iteT (k _ _ _ (h1 rfl) w1)
    | false => exact iteF (h2 rfl τ σ H1 Q w1 k)
theorem got_not (h : GoT K F B0 tt T Γ fun b Γ1 => postt (!b) Γ1) : GoT K F B0 (tNot tt) T Γ postt := fun τ σ H Q hw k =>
  h τ σ H _ hw fun b Γ1 H1 h1 w1 => k _ _ _ h1 w1
theorem go_andV (h : Go K F B0 ta T Γ fun o Γ1 => ∃ b, o = .d (.bl b) ∧ (b = true → Go K F B0 tb T Γ1 post) ∧ (b = false → post (.d (.bl false)) Γ1)) : Go K F B0 (tAndV ta tb) T Γ post := fun τ σ H Q hw k =>
  h τ σ H _ hw fun v o Γ1 H1 ⟨b, e, h1, h2⟩ ⟨_, _, w1⟩ => by
    subst e
    obtain ⟨r, _, _, w⟩ := w1.popd
    cases r
    refine ⟨b, rfl, ?_⟩
    cases b with
    | true => exact iteT (h1 rfl τ σ H1 Q ⟨_, _, w⟩ k)
    | false => exact iteF (k _ _ _ _ (h2 rfl) ⟨_, _, w1⟩)
theorem go_orV (h : Go K F B0 ta T Γ fun o Γ1 => ∃ b, o = .d (.bl b) ∧ (b = true → post (.d (.bl true)) Γ1) ∧ (b = false → Go K F B0 tb T Γ1 post)) : Go K F B0 (tOrV ta tb) T Γ post := fun τ σ H Q hw k =>
  h τ σ H _ hw fun v o Γ1 H1 ⟨b, e, h1, h2⟩ ⟨_, _, w1⟩ => by
    subst e
    obtain ⟨r, _, _, w⟩ := w1.popd
    cases r
    refine ⟨b, rfl, ?_⟩
    cases b with
    | true => exact iteT (k _ _ _ _ (h1 rfl) ⟨_, _, w1⟩)
    | false => exact iteF (h2 rfl τ σ H1 Q ⟨_, _, w⟩ k)
theorem go_notV (h : Go K F B0 ta T Γ fun o Γ1 => ∃ b, o = .d (.bl b) ∧ post (.d (.bl (!b))) Γ1) : Go K F B0 (tNotV ta) T Γ post := fun τ σ H Q hw k =>
  h τ σ H _ hw fun v o Γ1 H1 ⟨b, e, h1⟩ ⟨_, _, w1⟩ => by
    subst e
    obtain ⟨r, _, _, w⟩ := w1.popd
    cases r
    exact ⟨b, rfl, k _ _ _ _ h1 ⟨_, _, w.pushd .bl⟩⟩
variable {t1 t2 : TS} {Dd : EG}
theorem gos_seq (h : GoS K F B0 t1 T Γ { Dd with nx := fun Γ1 => GoS K F B0 t2 T Γ1 Dd }) : GoS K F B0 (tSeq t1 t2) T Γ Dd := fun τ σ H De hw s =>
  h τ σ H _ hw ⟨fun σ1 Γ1 H1 q w => q τ σ1 H1 De w s, s.rt, s.bk, s.ct⟩
theorem gos_next (h : Dd.nx Γ) : GoS K F B0 tNext T Γ Dd := fun τ σ H De hw s => s.nx σ Γ H h hw
theorem gos_brk (h : Dd.bk Γ) : GoS K F B0 tBreak T Γ Dd := fun τ σ H De hw s => s.bk σ Γ H h hw
theorem gos_ret (h : Go K F B0 te T Γ Dd.rt) : GoS K F B0 (tRet te) T Γ Dd := fun τ σ H De hw s => h τ σ H _ hw fun v o Γ1 H1 h1 w1 => s.rt v o σ Γ1 H1 h1 w1
theorem gos_asg {g : TG} (h : Go K F B0 te T Γ fun o Γ1 => GoG K F B0 g o T Γ1 Dd.nx) : GoS K F B0 (tAsg te g) T Γ Dd := fun τ σ H De hw s =>
  h τ σ H _ hw fun v o Γ1 H1 h1 w1 => h1 τ σ H1 v _ w1 fun σ2 Γ2 H2 h2 w2 => s.nx σ2 Γ2 H2 h2 w2
theorem gog_name (hi : i < Γ.length) (h : posts1 (Γ.set i (some o))) : GoG K F B0 (gName i) o T Γ posts1 := fun τ σ H v Q ⟨_, _, w⟩ k => by
  obtain ⟨S', w⟩ := w.put hi
  exact k _ _ _ h ⟨_, S', w⟩
theorem gos_drop (h : Go K F B0 te T Γ fun _ Γ1 => Dd.nx Γ1) : GoS K F B0 (tDrop te) T Γ Dd := fun τ σ H De hw s =>
  h τ σ H _ hw fun v o Γ1 H1 h1 ⟨_, _, w1⟩ => by
    obtain ⟨_, _, _, _, _, _, w⟩ := w1.pop
    exact s.nx σ Γ1 H1 h1 ⟨_, _, w⟩
theorem gos_if (h : GoT K F B0 tt T Γ fun b Γ1 => (b = true → GoS K F B0 t1 T Γ1 Dd) ∧ (b = false → GoS K F B0 t2 T Γ1 Dd)) : GoS K F B0 (tIfS tt t1 t2) T Γ Dd := fun τ σ H De hw s =>
  h τ σ H _ hw fun b Γ1 H1 ⟨h1, h2⟩ w1 => by
    cases b with
    | true => exact iteT (h1 rfl τ σ H1 De w1 s)
    | false => exact iteF (h2 rfl τ σ H1 De w1 s)
/-- x op= e of a name -/
theorem gos_aug {ip : TIp} (h : ∃ x, Γ[i]? = some (some (.d x)) ∧ Go K F B0 te (.d x :: T) Γ fun o Γ1 => Op2 K F B0 ip x o.fz T Γ1 fun o2 Γ2 => i < Γ2.length ∧ Dd.nx (Γ2.set i (some o2))) : GoS K F B0 (tAug i te ip) T Γ Dd := fun τ σ H De ⟨_, _, w⟩ s => by
  obtain ⟨x, e, h⟩ := h
  obtain ⟨v, a, r⟩ := w.getd e
  refine ⟨v, a, h _ σ H _ ⟨_, _, w.pushd r⟩ fun v2 o2 Γ2 H2 h2 ⟨_, _, w2⟩ => ?_⟩
  obtain ⟨_, _, w2, r2, _⟩ := w2.fzd
  obtain ⟨r1, _, _, w2⟩ := w2.popd
  refine h2 τ σ H2 _ _ v v2 _ w2 r1 r2 fun v3 o3 Γ3 H3 ⟨hi, h3⟩ ⟨_, _, w3⟩ => ?_
  obtain ⟨S', w3⟩ := w3.put hi
  exact s.nx _ _ _ h3 ⟨_, S', w3⟩
end
end SK
namespace SK
open PySem PySem.Spec PyProof.Rows L2
section
variable {K : PySem.W.Frag} {F B0 H H' B B' : Hp} {τ τs : List V} {T os : List O} {σ : L2.St} {Γ : En} {S S1 S2 : Ad} {v : V} {o o1 o2 : O} {x : D} {post : O → En → Prop} {ta tb te : TE} {tt tu : TT} {i : Nat} {posts : List D → En → Prop} {postt : Bool → En → Prop} {posts1 : En → Prop} {Dd : EG}
/-- the pile's topmost things fall away -/
theorem HW.drop : ∀ {τs : List V} {os : List O} {S : Ad}, HW K F B0 (τs ++ τ) (os ++ T) σ Γ H B S → τs.length = os.length → ∃ S', HW K F B0 τ T σ Γ H B S'
  | [], [], S, h, _ => ⟨S, h⟩
  | v :: τs, o :: os, S, h, l => by
    obtain ⟨_, _, _, _, _, _, w⟩ := HW.pop (τ := τs ++ τ) (T := os ++ T) h
    exact w.drop (by simpa using l)
theorem RS.drop1 {a : Option V} {b : Option O} {σ : List (Option V)} {Γ : List (Option O)} {S : Ad} (h : RS K B H S (a :: σ) (b :: Γ)) : RS K B H S σ Γ := by
  cases h with
  | un r => exact r
  | cons s1 s2 dj r rs => exact rs.tr (.refl B) s2 fun _ _ _ e => e
theorem RS.drops {σ1 : List (Option V)} {Γ1 : List (Option O)} : ∀ {σ0 : List (Option V)} {Γ0 : List (Option O)} {S : Ad}, σ0.length = Γ0.length → RS K B H S (σ0 ++ σ1) (Γ0 ++ Γ1) → RS K B H S σ1 Γ1
  | [], [], _, _, h => h
  | _ :: _, _ :: _, _, l, h => RS.drops (by simpa using l) (RS.drop1 h)
/-- what lies below the first thing falls away -/
theorem HW.under (h : HW K F B0 (v :: (τs ++ τ)) (o :: (os ++ T)) σ Γ H B S) (l : τs.length = os.length) : HW K F B0 (v :: τ) (o :: T) σ Γ H B S := by
  refine ⟨h.fr, h.pu, h.b0, h.ow, h.nw, ?_, ?_⟩
  · have r := h.rs
    simp only [List.map_cons, List.map_append, List.cons_append, List.append_assoc] at r ⊢
    cases r with
    | cons s1 s2 dj a rs => exact .cons s1 s2 dj a (rs.drops (by simp [l]))
  · have := h.lt
    simp only [List.length_cons, List.length_append] at this ⊢
    omega
theorem RL.one {x : D} {vs : List V} (r : RL K B vs [x]) : ∃ v, vs = [v] ∧ R K B v x := by
  cases r with | cons r t => cases t; exact ⟨_, rfl, r⟩
theorem RL.two {x y : D} {vs : List V} (r : RL K B vs [x, y]) : ∃ v w, vs = [v, w] ∧ R K B v x ∧ R K B w y := by
  cases r with | cons r t => cases t with | cons r2 t => cases t; exact ⟨_, _, rfl, r, r2⟩
/-- J walks ds, while hs (at τs) stand -/
def Iter (K : PySem.W.Frag) (F B0 : Hp) (J : It) (τs : List V) (hs : List D) (ds : List D) : Prop :=
  ∀ (τ : List V) (T : List O) (σ : L2.St) (Γ : En) (H B : Hp) (S : Ad), HW K F B0 τ T σ Γ H B S → RL K B τs hs →
    (J.stop ds.length H) ∧ ∀ (i : Nat) (d : D), ds[i]? = some d → J.go i H ∧ ∀ x H', J.yld i H x H' → ∃ B' S', HW K F B0 (x :: τ) (.d d :: T) σ Γ H' B' S'
def GoI (K : PySem.W.Frag) (F B0 : Hp) (wi : TI) (T : List O) (Γ : En) (post : List D → List D → En → Prop) : Prop := ∀ (τ : List V) (σ : L2.St) (H : Hp) (Q : It → Hp → Prop), Ho K F B0 τ T σ Γ H →
  (∀ J τs hs ds Γ' H', post ds hs Γ' → Ho K F B0 (τs ++ τ) (hs.map O.d ++ T) σ Γ' H' → τs.length = hs.length → Iter K F B0 J τs hs ds → Q J H') → wi σ H Q
theorem HW.held : ∀ {hs : List D} {τs : List V} {S : Ad}, HW K F B0 (τs ++ τ) (hs.map O.d ++ T) σ Γ H B S → τs.length = hs.length → RL K B τs hs
  | [], [], _, _, _ => .nil
  | x :: hs, v :: τs, S, h, l => by
    obtain ⟨r, S2, _, w⟩ := HW.popd (τ := τs ++ τ) (T := hs.map O.d ++ T) h
    exact .cons r (w.held (by simpa using l))
theorem gos_for {wi : TI} {g : TG} {tb : TS} (h : GoI K F B0 wi T Γ fun ds hs Γ1 => ∃ Iv : Nat → En → Prop, Iv 0 Γ1 ∧
    (∀ i d Γ', ds[i]? = some d → Iv i Γ' → GoG K F B0 g (.d d) (hs.map O.d ++ T) Γ' fun Γ2 => GoS K F B0 tb (hs.map O.d ++ T) Γ2 { nx := Iv (i + 1), rt := Dd.rt, bk := Dd.nx, ct := Iv (i + 1) }) ∧
    ∀ Γ', Iv ds.length Γ' → Dd.nx Γ') : GoS K F B0 (tFor wi g tb) T Γ Dd := fun τ σ H De hw s =>
  h τ σ H _ hw fun J τs hs ds Γ1 H1 ⟨Iv, h0, hst, hd⟩ w1 hl it => by
    have hl' : τs.length = (hs.map O.d).length := by simp [hl]
    refine ⟨fun i m σ' H' => m = ds.length - i ∧ i ≤ ds.length ∧ ∃ Γ', Iv i Γ' ∧ Ho K F B0 (τs ++ τ) (hs.map O.d ++ T) σ' Γ' H', ⟨ds.length, by simp, Nat.zero_le _, Γ1, h0, w1⟩, ?_⟩
    rintro i m σ' H' ⟨rfl, hi, Γ', p, B', S', w⟩
    obtain ⟨q1, q2⟩ := it _ _ σ' Γ' H' B' S' w (w.held hl)
    by_cases hlt : i < ds.length
    · obtain ⟨q3, q4⟩ := q2 i ds[i] (by simp [hlt])
      refine .inr ⟨q3, fun σ2 H2 => ∃ Γ2, Iv (i + 1) Γ2 ∧ Ho K F B0 (τs ++ τ) (hs.map O.d ++ T) σ2 Γ2 H2, fun σ2 H2 z => ⟨ds.length - (i + 1), by omega, rfl, hlt, z⟩, fun x H2 y => ?_⟩
      obtain ⟨B2, S2, w2⟩ := q4 x H2 y
      refine hst i ds[i] Γ' (by simp [hlt]) p (τs ++ τ) σ' H2 x _ ⟨B2, S2, w2⟩ fun σ3 Γ3 H3 h3 w3 => h3 _ σ3 H3 _ w3 ⟨fun σ4 Γ4 H4 z w4 => ⟨Γ4, z, w4⟩, fun v o σ4 Γ4 H4 z ⟨B4, S4, w4⟩ => s.rt v o σ4 Γ4 H4 z ⟨B4, S4, w4.under hl'⟩,
        fun σ4 Γ4 H4 z ⟨B4, S4, w4⟩ => ?_, fun σ4 Γ4 H4 z w4 => ⟨Γ4, z, w4⟩⟩
      obtain ⟨S5, w5⟩ := w4.drop hl'
      exact s.nx σ4 Γ4 H4 z ⟨B4, S5, w5⟩
    · have e : i = ds.length := by omega
      subst e
      obtain ⟨S5, w5⟩ := w.drop hl'
      exact .inl ⟨q1, s.nx σ' Γ' H' (hd Γ' p) ⟨B', S5, w5⟩⟩
theorem RL.get : ∀ {vs : List V} {xs : List D} {i : Nat} {x : D}, RL K B vs xs → xs[i]? = some x → ∃ v, vs[i]? = some v ∧ R K B v x
  | _, _, _, _, .nil, h => by simp at h
  | _, _, 0, _, .cons (v := v) r _, h => by simp at h; subst h; exact ⟨v, rfl, r⟩
  | _, _, i + 1, x, .cons _ t, h => by
    obtain ⟨v, a, b⟩ := RL.get (i := i) t (by simpa using h)
    exact ⟨v, by simpa using a, b⟩
theorem Rd.inj {a : Addr} {xs ys : List V} (h : Rd H a (.lst xs)) (h' : Rd H a (.lst ys)) : xs = ys := by
  rcases h with h | ⟨o, h⟩ <;> rcases h' with h' | ⟨o', h'⟩ <;> rw [h] at h' <;> cases h' <;> rfl
theorem Ex.sqL (e : Ex H H') {a : Addr} {xs : List V} (h : SqL K H a xs) : SqL K H' a xs := h.imp e.rd id
theorem Ex.sqT (e : Ex H H') {a : Addr} {xs : List V} (h : SqT K H a xs) : SqT K H' a xs := h.imp e.rd id
/-- what a name's walk says of a list -/
def D.seq? : D → Option (List D)
  | .lst xs => some xs
  | .sq xs => some xs
  | _ => none
theorem R.seqL {xs : List D} (r : R K B v x) (q : x.seq? = some xs) : ∃ a vs, v = .ref a ∧ SqL K B a vs ∧ RL K B vs xs := by
  cases r with
  | lst h r => cases q; exact ⟨_, _, rfl, SqL.of h, r⟩
  | sq h r => cases q; exact ⟨_, _, rfl, h, r⟩
  | _ => cases q
theorem iter_list {a : Addr} {xs : List D} (q : x.seq? = some xs) : Iter K F B0 (Itl K a) [.ref a] [x] xs := by
  intro τ T σ Γ H B S h rl0
  obtain ⟨v0, e0, r⟩ := rl0.one
  cases e0
  obtain ⟨a', vs, e, sq, rl⟩ := r.seqL q
  cases e
  have sqh := h.pu.sqL sq
  refine ⟨⟨vs, sqh, by rw [rl.length]; exact Nat.le_refl _⟩, fun i d hd => ?_⟩
  obtain ⟨y, hy, ry⟩ := rl.get hd
  refine ⟨⟨vs, y, sqh, hy⟩, fun x H' ⟨e, y'⟩ => ?_⟩
  subst e
  have := y' vs sqh
  rw [hy] at this
  cases this
  exact ⟨B, _, h.pushd ry⟩
theorem iter_tup {a : Addr} {xs : List D} : Iter K F B0 (Itt K a) [.ref a] [.tup xs] xs := by
  intro τ T σ Γ H B S h rl0
  obtain ⟨v0, e0, r⟩ := rl0.one
  cases e0
  cases r with
  | @tup _ vs _ sq rl =>
  have sqh := h.pu.sqT sq
  refine ⟨⟨vs, sqh, by rw [rl.length]; exact Nat.le_refl _⟩, fun i d hd => ?_⟩
  obtain ⟨y, hy, ry⟩ := rl.get hd
  refine ⟨⟨vs, y, sqh, hy⟩, fun x H' ⟨e, y'⟩ => ?_⟩
  subst e
  have := y' vs sqh
  rw [hy] at this
  cases this
  exact ⟨B, _, h.pushd ry⟩
def rngD (lo : Int) (n : Nat) : List D := (List.range n).map fun (i : Nat) => D.int (lo + (i : Int))
theorem iter_rng {lo : Int} {n : Nat} : Iter K F B0 (Itr lo n) [] [] (rngD lo n) := by
  intro τ T σ Γ H B S h _
  refine ⟨by simp [rngD, Itr], fun i d hd => ?_⟩
  have hi : i < n := by
    have := (List.getElem?_eq_some_iff.mp hd).1
    simpa [rngD] using this
  have e : d = .int (lo + (i : Int)) := by
    simp [rngD, hi] at hd
    exact hd.symm
  refine ⟨hi, fun x H' ⟨e1, e2⟩ => ?_⟩
  subst e1 e2 e
  exact ⟨B, _, HW.pushd (τ := τ) (T := T) h .int⟩
theorem goi_rng1 {ta : TA} {posti : List D → List D → En → Prop} (h : GoA K F B0 ta T Γ fun xs Γ1 => ∃ j : Int, xs = [.int j] ∧ -(2 ^ 62) ≤ j ∧ j < 2 ^ 62 ∧ posti (rngD 0 j.toNat) [] Γ1) : GoI K F B0 (iRng1 ta) T Γ posti := fun τ σ H Q hw k =>
  h τ σ H _ hw fun vs xs Γ1 H1 ⟨j, e, q1, q2, h1⟩ ⟨_, _, w1⟩ hl => by
    subst e
    obtain ⟨rl, S', w⟩ := w1.args hl
    cases rl with | cons r rl => cases rl; cases r; exact ⟨j, rfl, q1, q2, k _ [] [] _ Γ1 H1 h1 ⟨_, _, w⟩ rfl iter_rng⟩
theorem goi_rng2 {ta : TA} {posti : List D → List D → En → Prop} (h : GoA K F B0 ta T Γ fun xs Γ1 => ∃ i j : Int, xs = [.int i, .int j] ∧ (-(2 ^ 62) ≤ i ∧ i < 2 ^ 62 ∧ -(2 ^ 62) ≤ j ∧ j < 2 ^ 62) ∧ posti (rngD i (j - i).toNat) [] Γ1) : GoI K F B0 (iRng2 ta) T Γ posti := fun τ σ H Q hw k =>
  h τ σ H _ hw fun vs xs Γ1 H1 ⟨i, j, e, q, h1⟩ ⟨_, _, w1⟩ hl => by
    subst e
    obtain ⟨rl, S', w⟩ := w1.args hl
    cases rl with | cons r rl => cases rl with | cons r2 rl => cases rl; cases r; cases r2; exact ⟨i, j, rfl, q, k _ [] [] _ Γ1 H1 h1 ⟨_, _, w⟩ rfl iter_rng⟩
def sgnD (s : Str) : List D := s.cps.toList.map fun c => D.str ⟨#[c]⟩
theorem iter_str {s : Str} : Iter K F B0 (Its s) [] [] (sgnD s) := by
  intro τ T σ Γ H B S h _
  refine ⟨by simp [sgnD, Its], fun i d hd => ?_⟩
  have hi : i < s.cps.size := by
    have := (List.getElem?_eq_some_iff.mp hd).1
    simpa [sgnD] using this
  refine ⟨hi, fun x H' ⟨e1, c, e2, e3⟩ => ?_⟩
  subst e1 e3
  have e : d = .str ⟨#[c]⟩ := by
    simp [sgnD, e2] at hd
    exact hd.symm
  subst e
  exact ⟨B, _, HW.pushd (τ := τ) (T := T) h .str⟩
def enumD (xs : List D) : List D := xs.zipIdx.map fun p => D.tup [.int (p.2 : Int), p.1]
theorem enumD_get {xs : List D} {i : Nat} : (enumD xs)[i]? = xs[i]?.map fun x => D.tup [.int (i : Int), x] := by
  simp [enumD, List.getElem?_zipIdx, Option.map_map, Function.comp_def]
theorem enumD_len {xs : List D} : (enumD xs).length = xs.length := by simp [enumD]
theorem iter_enum {a : Addr} {xs : List D} (q : x.seq? = some xs) : Iter K F B0 (Ite K a) [.ref a] [x] (enumD xs) := by
  intro τ T σ Γ H B S h rl0
  obtain ⟨v0, e0, r⟩ := rl0.one
  cases e0
  obtain ⟨a', vs, e, sq, rl⟩ := r.seqL q
  cases e
  have sqh := h.pu.sqL sq
  refine ⟨⟨vs, sqh, by rw [rl.length, enumD_len]; exact Nat.le_refl _⟩, fun i d hd => ?_⟩
  rw [enumD_get] at hd
  cases hx : xs[i]? with
  | none => rw [hx] at hd; cases hd
  | some x0 =>
  rw [hx] at hd
  cases hd
  obtain ⟨y, hy, ry⟩ := rl.get hx
  refine ⟨⟨vs, y, sqh, hy⟩, fun x H' ⟨t, x1, e1, e2, e3, y'⟩ => ?_⟩
  subst e1 e3
  have := y' vs sqh
  rw [hy] at this
  cases this
  obtain ⟨S', w'⟩ := HW.newd h e2 (x := .tup [.int (i : Int), x0]) (.tup (SqT.of upd_same) (.cons .int (.cons (ry.mono (.of_ex (.new (h.pu.back e2)))) .nil)))
  exact ⟨_, S', w'⟩
theorem goi_enum {ta : TA} {posti : List D → List D → En → Prop} (h : GoA K F B0 ta T Γ fun ys Γ1 => ∃ x xs, ys = [x] ∧ x.seq? = some xs ∧ posti (enumD xs) [x] Γ1) : GoI K F B0 (iEnum K ta) T Γ posti := fun τ σ H Q hw k =>
  h τ σ H _ hw fun vs ys Γ1 H1 ⟨x, xs, e, q, h1⟩ ⟨_, _, w1⟩ hl => by
    subst e
    obtain ⟨rl, S', w⟩ := w1.args hl
    cases rl with | cons r rl0 => cases rl0; obtain ⟨a, us, e, sq, rl2⟩ := r.seqL q; subst e; exact ⟨a, us, rfl, w.pu.sqL sq, k (Ite K a) [.ref a] [x] _ Γ1 H1 h1 ⟨_, _, w.pushd r⟩ rfl (iter_enum q)⟩
def zipD (xs ys : List D) : List D := (xs.zip ys).map fun p => D.tup [p.1, p.2]
theorem iter_zip {a b : Addr} {x y : D} {xs ys : List D} (q : x.seq? = some xs) (q2 : y.seq? = some ys) : Iter K F B0 (Itz K a b) [.ref b, .ref a] [y, x] (zipD xs ys) := by
  intro τ T σ Γ H B S h rl0
  obtain ⟨v0, v1, e0, r2, r⟩ := rl0.two
  cases e0
  obtain ⟨a', vs, e, sq, rl⟩ := r.seqL q
  cases e
  obtain ⟨b', us, e, sq2, rl2⟩ := r2.seqL q2
  cases e
  have sqh := h.pu.sqL sq
  have sqh2 := h.pu.sqL sq2
  refine ⟨⟨vs, us, sqh, sqh2, by simp only [zipD, List.length_map, List.length_zip]; have := rl.length; have := rl2.length; omega⟩, fun i d hd => ?_⟩
  have hi : i < (zipD xs ys).length := (List.getElem?_eq_some_iff.mp hd).1
  simp only [zipD, List.length_map, List.length_zip] at hi
  have hxi : i < xs.length := by omega
  have hyi : i < ys.length := by omega
  have e : d = .tup [xs[i], ys[i]] := by
    simp [zipD, hxi, hyi, List.getElem?_map, List.zip, List.getElem?_zipWith] at hd
    exact hd.symm
  subst e
  obtain ⟨x1, hx1, rx1⟩ := rl.get (i := i) (x := xs[i]) (by simp [hxi])
  obtain ⟨y1, hy1, ry1⟩ := rl2.get (i := i) (x := ys[i]) (by simp [hyi])
  refine ⟨⟨vs, us, x1, y1, sqh, sqh2, hx1, hy1⟩, fun z H' ⟨t, x2, y2, e1, e2, e3, f1, f2⟩ => ?_⟩
  subst e1 e3
  have g1 := f1 vs sqh
  rw [hx1] at g1
  cases g1
  have g2 := f2 us sqh2
  rw [hy1] at g2
  cases g2
  have ex : Ex B (upd B t (.tup [x1, y1])) := .new (h.pu.back e2)
  obtain ⟨S', w'⟩ := HW.newd h e2 (x := .tup [xs[i], ys[i]]) (.tup (SqT.of upd_same) (.cons (rx1.mono (.of_ex ex)) (.cons (ry1.mono (.of_ex ex)) .nil)))
  exact ⟨_, S', w'⟩
theorem goi_zip {ta : TA} {posti : List D → List D → En → Prop} (h : GoA K F B0 ta T Γ fun zs Γ1 => ∃ x y xs ys, zs = [x, y] ∧ x.seq? = some xs ∧ y.seq? = some ys ∧ posti (zipD xs ys) [y, x] Γ1) : GoI K F B0 (iZip K ta) T Γ posti := fun τ σ H Q hw k =>
  h τ σ H _ hw fun vs zs Γ1 H1 ⟨x, y, xs, ys, e, q, q2, h1⟩ ⟨_, _, w1⟩ hl => by
    subst e
    obtain ⟨rl, S', w⟩ := w1.args hl
    cases rl with | cons r rl0 => cases rl0 with | cons r2 rl0 => cases rl0; obtain ⟨a, us, e, sq, rl2⟩ := r.seqL q; obtain ⟨b, us2, e2, sq2, rl3⟩ := r2.seqL q2; subst e e2; exact ⟨a, b, us, us2, rfl, w.pu.sqL sq, w.pu.sqL sq2, k (Itz K a b) [.ref b, .ref a] [y, x] _ Γ1 H1 h1 ⟨_, _, (w.pushd r).pushd r2⟩ rfl (iter_zip q q2)⟩
def GoGs (K : PySem.W.Frag) (F B0 : Hp) (g : TGs) (xs : List D) (T : List O) (Γ : En) (post : En → Prop) : Prop := ∀ (τ : List V) (σ : L2.St) (H B : Hp) (S : Ad) (vs : List V) (Q : L2.St → Hp → Prop), HW K F B0 τ T σ Γ H B S → RL K B vs xs →
  (∀ σ' Γ' H', post Γ' → Ho K F B0 τ T σ' Γ' H' → Q σ' H') → g vs σ H Q
theorem gog_tup {g : TGs} {n : Nat} (h : ∃ xs, o = .d (.tup xs) ∧ xs.length = n ∧ GoGs K F B0 g xs T Γ posts1) : GoG K F B0 (gTup K n g) o T Γ posts1 := fun τ σ H v Q ⟨B, S, w⟩ k => by
  obtain ⟨xs, rfl, hn, h⟩ := h
  obtain ⟨r, S2, _, w2⟩ := w.popd
  cases r with
  | @tup a vs _ sq rl => exact ⟨a, vs, rfl, w.pu.sqT sq, by rw [rl.length, hn], h τ σ H B S2 vs Q w2 rl k⟩
theorem gogs_nil (h : posts1 Γ) : GoGs K F B0 gNil [] T Γ posts1 := fun τ σ H B S vs Q w r k => by
  cases r
  exact ⟨rfl, k σ Γ H h ⟨_, _, w⟩⟩
theorem gogs_name {xs : List D} {g : TGs} (hi : i < Γ.length) (h : GoGs K F B0 g xs T (Γ.set i (some (.d x))) posts1) : GoGs K F B0 (gCons (gName i) g) (x :: xs) T Γ posts1 := fun τ σ H B S vs Q w r k => by
  cases r with
  | cons r rl =>
    obtain ⟨S', w'⟩ := (w.pushd r).put hi
    exact ⟨_, _, rfl, h τ _ H B S' _ Q w' rl k⟩
end
end SK
namespace SK
open PySem PySem.Spec PyProof.Rows L2
/-- == of two dicts that hold the same flat things -/
def SameD (H : Hp) (x y : V) : Prop := ∃ a b ks ls, x = .ref a ∧ y = .ref b ∧ Rd H a (.dK ks) ∧ Rd H b (.dK ls) ∧ ks.length = ls.length ∧ ∀ p ∈ ks, valV ls p.1 = some p.2 ∧ flatB p.2 = true
def rEqDR : R2 := fun x y H Q => SameD H x y ∧ Q (.bl true) H
def rNeDR : R2 := fun x y H Q => SameD H x y ∧ Q (.bl false) H
theorem op_eqDR {X : Cx} (hu : X.A.units < cLine) : OpR X (compareOp .Eq) rEqDR := fun pins s σ H x y v u Q I rx ry ⟨⟨a, b, ks, ls, ex, ey, ra, rb, hl, hp⟩, q⟩ => by
  subst ex ey
  cases rx; cases ry
  obtain ⟨_, na, va, ka, da⟩ := dk_rd I.hok ra
  obtain ⟨_, nb, vb, kb, db⟩ := dk_rd I.hok rb
  have len : va.length = vb.length := (ka.length.symm.trans hl).trans kb.length
  exact PySem.W.keq_eq (knd := mixKind X.prog X.w) (r := true) na nb da db hu (fun _ => hits_all kb ka hp) (fin_bl I q (by simp [len]))
theorem op_neDR {X : Cx} (hu : X.A.units < cLine) : OpR X (compareOp .NotEq) rNeDR := fun pins s σ H x y v u Q I rx ry ⟨⟨a, b, ks, ls, ex, ey, ra, rb, hl, hp⟩, q⟩ => by
  subst ex ey
  cases rx; cases ry
  obtain ⟨_, na, va, ka, da⟩ := dk_rd I.hok ra
  obtain ⟨_, nb, vb, kb, db⟩ := dk_rd I.hok rb
  have len : va.length = vb.length := (ka.length.symm.trans hl).trans kb.length
  exact PySem.W.keq_ne (knd := mixKind X.prog X.w) (r := true) na nb da db hu (fun _ => hits_all kb ka hp) (fin_bl I q (by simp [len]))
def rAddG (K : PySem.W.Frag) : R2 := fun x y H Q => rI0 (fun i j => .int (i + j)) x y H Q ∨ ((∃ i j, x = .str i ∧ y = .str j ∧ i.length + j.length ≤ sizeLine ∧ Q (.str (i ++ j)) H) ∨ (rCat x y H Q ∨ rCatT K x y H Q))
def rSubG : R2 := rI0 fun i j => .int (i - j)
def repS (a : Str) (n : Int) : Str := ⟨(List.replicate n.toNat a.cps).foldl (· ++ ·) #[]⟩
def rMulS : R2 := fun x y H Q => ∃ a n, x = .str a ∧ y = .int n ∧ 2 ≤ n ∧ n ≤ 100000 ∧ a.length ≤ 100 ∧ 0 < a.length ∧ Q (.str (repS a n)) H
theorem repS_size (a : Str) (n : Int) : (repS a n).length = a.length * n.toNat := by
  have : ∀ (k : Nat) (z : Array Nat), ((List.replicate k a.cps).foldl (· ++ ·) z).size = z.size + a.cps.size * k := by
    intro k
    induction k with
    | zero => intro z; simp
    | succ k ih =>
      intro z
      rw [List.replicate_succ, List.foldl_cons, ih, Array.size_append, Nat.mul_succ]
      omega
  show ((List.replicate n.toNat a.cps).foldl (· ++ ·) #[]).size = _
  rw [this]
  simp [Str.length]
theorem op_mulS {X : Cx} : OpR X (binaryOp .Mult) rMulS := by
  intro pins s σ H x y v u Q I rx ry h
  obtain ⟨a, n, rfl, rfl, h1, h2, h3, h4, q⟩ := h
  obtain ⟨t, rfl⟩ := rx
  obtain ⟨t', rfl⟩ := ry
  have hn : ¬ n < 1 := by omega
  have e1 : (n == 1 || a.length == 0) = false := by
    have : n ≠ 1 := by omega
    have : a.length ≠ 0 := by omega
    simp [*]
  have hz : a.length * n.toNat ≤ sizeLine := by
    have : n.toNat ≤ 100000 := by omega
    have : a.length * n.toNat ≤ 100 * 100000 := Nat.mul_le_mul h3 this
    exact Nat.le_trans this (by decide)
  refine P.mul_str ?_ (fun _ _ => ?_) (fun _ _ => ?_) ?_
  · have q1 : ¬ n < -(2 ^ 63 : Int) := by omega
    have q2 : ¬ n ≥ 2 ^ 63 := by omega
    rw [decide_eq_false q1, decide_eq_false q2]; rfl
  · have : (100 : Int) ≤ (2 ^ 63 - 1) / n := by
      rw [Int.le_ediv_iff_mul_le (by omega)]
      omega
    omega
  · show decide (_ > sizeLine) = false
    exact decide_eq_false (by omega)
  · rw [if_neg hn, if_neg (by rw [e1]; exact Bool.false_ne_true)]
    have hs : (repS a n).length ≤ sizeLine := by rw [repS_size]; exact hz
    exact ⟨hs, ⟨.str (repS a n), H, I.tok _, ⟨_, rfl⟩, q⟩⟩
def rMulG : R2 := fun x y H Q => rI IntMulOk (fun i j => .int (i * j)) x y H Q ∨ (rRep x y H Q ∨ rMulS x y H Q)
def rDivG : R2 := rI CDivW fun i j => .int (i / j)
def rModG : R2 := rI (fun _ j => 0 < j) fun i j => .int (i % j)
def rPowG : R2 := rI CPow fun i j => .int (i ^ j.toNat)
def rEqG (K : PySem.W.Frag) : R2 := fun x y H Q => rEq x y H Q ∨ (rEqD K x y H Q ∨ rEqDR x y H Q)
def rNeG (K : PySem.W.Frag) : R2 := fun x y H Q => rNe x y H Q ∨ (rNeD K x y H Q ∨ rNeDR x y H Q)
def rLtG (K : PySem.W.Frag) : R2 := fun x y H Q => rI0 (fun i j => .bl (decide (i < j))) x y H Q ∨ rLtT K x y H Q
def rLeG : R2 := rI0 fun i j => .bl (decide (i ≤ j))
def rGtG : R2 := rI0 fun i j => .bl (decide (j < i))
def rGeG : R2 := rI0 fun i j => .bl (decide (j ≤ i))
def rIsG : R2 := fun x y H Q => y = .non ∧ Q (.bl (decide (x = .non))) H
def rNotG : R2 := fun x y H Q => y = .non ∧ Q (.bl (!decide (x = .non))) H
def rInDic : R2 := fun y x H Q => ∃ a o, x = .ref a ∧ DGet H a y o ∧ Q (.bl o.isSome) H
def rInSg : R2 := fun x y H Q => ∃ (c : Nat) (z : Str), x = .str ⟨#[c]⟩ ∧ y = .str z ∧ Q (.bl (decide (c ∈ z.cps.toList))) H
def rInG (K : PySem.W.Frag) : R2 := fun x y H Q => rIn K false x y H Q ∨ (rInDic x y H Q ∨ rInSg x y H Q)
section
variable {X : Cx}
theorem op_addG : OpR X (binaryOp .Add) (rAddG X.K) := op_add.or (op_add_str.or (op_cat.or op_catT))
theorem op_subG : OpR X (binaryOp .Sub) rSubG := op_sub
theorem op_mulI : OpR X (binaryOp .Mult) (rI IntMulOk fun i j => .int (i * j)) := opI fun i j t u s Q E hc h => mul_int h hc
theorem op_mulG : OpR X (binaryOp .Mult) rMulG := op_mulI.or (op_rep.or op_mulS)
theorem op_divG : OpR X (binaryOp .FloorDiv) rDivG := op_fdivW
theorem op_modG : OpR X (binaryOp .Mod) rModG := op_mod
theorem op_powG : OpR X (binaryOp .Pow) rPowG := op_pow
theorem op_eqG (hu : X.A.units + 64 < cLine) : OpR X (compareOp .Eq) (rEqG X.K) := op_eq.or ((op_eqD hu).or (op_eqDR (by omega)))
theorem op_neG (hu : X.A.units + 64 < cLine) : OpR X (compareOp .NotEq) (rNeG X.K) := op_ne.or ((op_neD hu).or (op_neDR (by omega)))
theorem op_ltG (hu : X.A.units < cLine) : OpR X (compareOp .Lt) (rLtG X.K) := op_lt.or (op_ltT hu)
theorem op_gtG : OpR X (compareOp .Gt) rGtG := op_gt
theorem op_isG : OpR X (compareOp .Is) rIsG := op_isN
theorem op_inDic (hu : X.A.units + 1 < cLine) : OpR X (compareOp .In) rInDic := fun pins s σ H y x u v Q I ry rx ⟨a, o, e, g, q⟩ => by
  subst e
  cases rx
  exact d_in hu I g ry fun s' I' => ⟨.bl o.isSome, H, I', rfl, q⟩
theorem op_inG (hu : X.A.units + 1 < cLine) : OpR X (compareOp .In) (rInG X.K) := op_in_seq.or ((op_inDic hu).or op_in_sign)
end
def rIxDic : R2 := fun x y H Q => ∃ a v, x = .ref a ∧ DGet H a y (some v) ∧ Q v H
section
variable {K : PySem.W.Frag} {F B0 H H' B B' : Hp} {τ τs : List V} {T os : List O} {σ : L2.St} {Γ : En} {S S1 S2 : Ad} {v : V} {o o1 o2 : O} {x : D} {post : O → En → Prop} {ta tb te : TE} {tt tu : TT} {i : Nat} {posts : List D → En → Prop} {postt : Bool → En → Prop} {posts1 : En → Prop} {Dd : EG}
theorem o2_add {a b : Int} (h : post (.d (.int (a + b))) Γ) : Op2 K F B0 (rAddG K) (.int a) (.int b) T Γ post := fun τ σ H B S v1 v2 Q w r1 r2 k => by
  cases r1; cases r2
  exact .inl ⟨a, b, rfl, rfl, k _ _ Γ H h ⟨_, _, w.pushd .int⟩⟩
theorem o2_addS {a b : Str} (hz : a.length + b.length ≤ 100000) (h : post (.d (.str (a ++ b))) Γ) : Op2 K F B0 (rAddG K) (.str a) (.str b) T Γ post := fun τ σ H B S v1 v2 Q w r1 r2 k => by
  cases r1; cases r2
  exact .inr (.inl ⟨a, b, rfl, rfl, Nat.le_trans hz (by decide), k _ _ Γ H h ⟨_, _, w.pushd .str⟩⟩)
theorem RL.app : ∀ {vs us : List V} {xs ys : List D}, RL K B vs xs → RL K B us ys → RL K B (vs ++ us) (xs ++ ys)
  | _, _, _, _, .nil, s => s
  | _, _, _, _, .cons r t, s => .cons r (RL.app t s)
theorem o2_addL {xs ys : List D} (hz : xs.length + ys.length ≤ 100000) (h : post (.ol ((xs ++ ys).map O.d)) Γ) : Op2 K F B0 (rAddG K) (.lst xs) (.lst ys) T Γ post := fun τ σ H B S v1 v2 Q w r1 r2 k => by
  cases r1 with | @lst a vs _ h1 l1 =>
  cases r2 with | @lst b us _ h2 l2 =>
  refine .inr (.inr (.inl ⟨a, b, vs, us, rfl, rfl, w.pu _ _ h1, w.pu _ _ h2, by rw [l1.length, l2.length]; exact Nat.le_trans hz (by decide), fun p hp => ?_⟩))
  obtain ⟨S2, w⟩ := w.newl hp (l1.app l2)
  exact k _ _ _ _ h ⟨_, _, w⟩
theorem o2_addT {xs ys : List D} (hx : xs ≠ []) (hz : xs.length + ys.length ≤ 100000) (h : post (.d (.tup (xs ++ ys))) Γ) : Op2 K F B0 (rAddG K) (.tup xs) (.tup ys) T Γ post := fun τ σ H B S v1 v2 Q w r1 r2 k => by
  cases r1 with | @tup a vs _ h1 l1 =>
  cases r2 with | @tup b us _ h2 l2 =>
  refine .inr (.inr (.inr ⟨a, b, vs, us, rfl, rfl, w.pu.sqT h1, w.pu.sqT h2, fun e => hx (List.length_eq_zero_iff.mp (by rw [← l1.length, e]; rfl)), by rw [l1.length, l2.length]; exact Nat.le_trans hz (by decide), fun e => ?_, fun e p hp => ?_⟩))
  · subst e
    cases l2
    rw [List.append_nil] at h
    exact k _ _ _ _ h ⟨_, _, w.pushd (.tup h1 l1)⟩
  · obtain ⟨S2, w⟩ := w.newd (x := .tup (xs ++ ys)) hp (.tup (SqT.of upd_same) ((l1.app l2).mono (.of_ex (.new (w.pu.back hp)))))
    exact k _ _ _ _ h ⟨_, _, w⟩
theorem o2_sub {a b : Int} (h : post (.d (.int (a - b))) Γ) : Op2 K F B0 rSubG (.int a) (.int b) T Γ post := fun τ σ H B S v1 v2 Q w r1 r2 k => by
  cases r1; cases r2
  exact ⟨a, b, rfl, rfl, k _ _ Γ H h ⟨_, _, w.pushd .int⟩⟩
theorem o2_mul {a b : Int} (hm : IntMulOk a b) (h : post (.d (.int (a * b))) Γ) : Op2 K F B0 rMulG (.int a) (.int b) T Γ post := fun τ σ H B S v1 v2 Q w r1 r2 k => by
  cases r1; cases r2
  exact .inl ⟨a, b, rfl, rfl, hm, k _ _ Γ H h ⟨_, _, w.pushd .int⟩⟩
theorem o2_div {a b : Int} (hb : 0 < b ∧ b < 2 ^ 200) (h : post (.d (.int (a / b))) Γ) : Op2 K F B0 rDivG (.int a) (.int b) T Γ post := fun τ σ H B S v1 v2 Q w r1 r2 k => by
  cases r1; cases r2
  exact ⟨a, b, rfl, rfl, wide_div (b := 200) hb.1 (by omega) (by decide) (by decide), k _ _ Γ H h ⟨_, _, w.pushd .int⟩⟩
theorem o2_mod {a b : Int} (hb : 0 < b) (h : post (.d (.int (a % b))) Γ) : Op2 K F B0 rModG (.int a) (.int b) T Γ post := fun τ σ H B S v1 v2 Q w r1 r2 k => by
  cases r1; cases r2
  exact ⟨a, b, rfl, rfl, hb, k _ _ Γ H h ⟨_, _, w.pushd .int⟩⟩
theorem o2_pow {a b : Int} (hb : 0 ≤ b ∧ b ≤ 1000000 ∧ a.natAbs < 2 ^ 64) (h : post (.d (.int (a ^ b.toNat))) Γ) : Op2 K F B0 rPowG (.int a) (.int b) T Γ post := fun τ σ H B S v1 v2 Q w r1 r2 k => by
  cases r1; cases r2
  exact ⟨a, b, rfl, rfl, hb, k _ _ Γ H h ⟨_, _, w.pushd .int⟩⟩
theorem o2_lt {a b : Int} (h : post (.d (.bl (decide (a < b)))) Γ) : Op2 K F B0 (rLtG K) (.int a) (.int b) T Γ post := fun τ σ H B S v1 v2 Q w r1 r2 k => by
  cases r1; cases r2
  exact .inl ⟨a, b, rfl, rfl, k _ _ Γ H h ⟨_, _, w.pushd .bl⟩⟩
theorem o2_le {a b : Int} (h : post (.d (.bl (decide (a ≤ b)))) Γ) : Op2 K F B0 rLeG (.int a) (.int b) T Γ post := fun τ σ H B S v1 v2 Q w r1 r2 k => by
  cases r1; cases r2
  exact ⟨a, b, rfl, rfl, k _ _ Γ H h ⟨_, _, w.pushd .bl⟩⟩
theorem o2_gt {a b : Int} (h : post (.d (.bl (decide (b < a)))) Γ) : Op2 K F B0 rGtG (.int a) (.int b) T Γ post := fun τ σ H B S v1 v2 Q w r1 r2 k => by
  cases r1; cases r2
  exact ⟨a, b, rfl, rfl, k _ _ Γ H h ⟨_, _, w.pushd .bl⟩⟩
theorem o2_ge {a b : Int} (h : post (.d (.bl (decide (b ≤ a)))) Γ) : Op2 K F B0 rGeG (.int a) (.int b) T Γ post := fun τ σ H B S v1 v2 Q w r1 r2 k => by
  cases r1; cases r2
  exact ⟨a, b, rfl, rfl, k _ _ Γ H h ⟨_, _, w.pushd .bl⟩⟩
theorem o2_eqI {a b : Int} (h : post (.d (.bl (decide (a = b)))) Γ) : Op2 K F B0 (rEqG K) (.int a) (.int b) T Γ post := fun τ σ H B S v1 v2 Q w r1 r2 k => by
  cases r1; cases r2
  refine .inl ⟨rfl, ?_⟩
  have e : decide (V.int a = V.int b) = decide (a = b) := by rw [dec_int, Bool.beq_eq_decide_eq]
  rw [e]
  exact k _ _ Γ H h ⟨_, _, w.pushd .bl⟩
theorem o2_neI {a b : Int} (h : post (.d (.bl (!decide (a = b)))) Γ) : Op2 K F B0 (rNeG K) (.int a) (.int b) T Γ post := fun τ σ H B S v1 v2 Q w r1 r2 k => by
  cases r1; cases r2
  refine .inl ⟨rfl, ?_⟩
  have e : decide (V.int a = V.int b) = decide (a = b) := by rw [dec_int, Bool.beq_eq_decide_eq]
  rw [e]
  exact k _ _ Γ H h ⟨_, _, w.pushd .bl⟩
theorem o2_eqS {a b : Str} (h : post (.d (.bl (decide (a = b)))) Γ) : Op2 K F B0 (rEqG K) (.str a) (.str b) T Γ post := fun τ σ H B S v1 v2 Q w r1 r2 k => by
  cases r1; cases r2
  refine .inl ⟨rfl, ?_⟩
  have e : decide (V.str a = V.str b) = decide (a = b) := by
    by_cases q : a = b
    · subst q; simp
    · rw [decide_eq_false q, decide_eq_false (fun z => q (V.str.inj z))]
  rw [e]
  exact k _ _ Γ H h ⟨_, _, w.pushd .bl⟩
theorem o2_neS {a b : Str} (h : post (.d (.bl (!decide (a = b)))) Γ) : Op2 K F B0 (rNeG K) (.str a) (.str b) T Γ post := fun τ σ H B S v1 v2 Q w r1 r2 k => by
  cases r1; cases r2
  refine .inl ⟨rfl, ?_⟩
  have e : decide (V.str a = V.str b) = decide (a = b) := by
    by_cases q : a = b
    · subst q; simp
    · rw [decide_eq_false q, decide_eq_false (fun z => q (V.str.inj z))]
  rw [e]
  exact k _ _ Γ H h ⟨_, _, w.pushd .bl⟩
theorem o2_eqB {a b : Bool} (h : post (.d (.bl (a == b))) Γ) : Op2 K F B0 (rEqG K) (.bl a) (.bl b) T Γ post := fun τ σ H B S v1 v2 Q w r1 r2 k => by
  cases r1; cases r2
  refine .inl ⟨rfl, ?_⟩
  rw [dec_bl]
  exact k _ _ Γ H h ⟨_, _, w.pushd .bl⟩
theorem o2_neB {a b : Bool} (h : post (.d (.bl (!(a == b)))) Γ) : Op2 K F B0 (rNeG K) (.bl a) (.bl b) T Γ post := fun τ σ H B S v1 v2 Q w r1 r2 k => by
  cases r1; cases r2
  refine .inl ⟨rfl, ?_⟩
  rw [dec_bl]
  exact k _ _ Γ H h ⟨_, _, w.pushd .bl⟩
mutual
def D.py : D → PyData
  | .non => .none
  | .bl b => .bool b
  | .int i => .int i
  | .str s => .str s
  | .tup xs => .tuple (pyL xs)
  | .lst xs => .list (pyL xs)
  | .sq xs => .list (pyL xs)
  | .ref _ => .none
  | .ty _ => .none
  | .dic _ => .none
  | .dit _ => .none
  | .ins _ _ => .none
def pyL : List D → List PyData
  | [] => []
  | x :: xs => x.py :: pyL xs
end
mutual
/-- data that == may ask -/
def D.pl : D → Bool
  | .non => true
  | .bl b => true
  | .int i => true
  | .str s => true
  | .tup xs => plL xs
  | .lst xs => plL xs
  | .sq xs => plL xs
  | .ref _ => false
  | .ty _ => false
  | .dic _ => false
  | .dit _ => false
  | .ins _ _ => false
def plL : List D → Bool
  | [] => true
  | x :: xs => x.pl && plL xs
end
mutual
theorem R.dp (pu : Ex B H) : ∀ {v : V} {x : D}, R K B v x → x.pl = true → Dp K H v x.py
  | _, _, .non, _ => .non
  | _, _, .bl, _ => .bl _
  | _, _, .int, _ => .int _
  | _, _, .str, _ => .str _
  | _, _, .tup h r, q => .tup (pu.sqT h) (RL.dp pu r q)
  | _, _, .lst h r, q => .lst (SqL.of (pu _ _ h)) (RL.dp pu r q)
  | _, _, .sq h r, q => .lst (pu.sqL h) (RL.dp pu r q)
  | _, _, .ref, q => by cases q
  | _, _, .ty, q => by cases q
  | _, _, .dic _ _ _, q => by cases q
  | _, _, .dit _ _ _, q => by cases q
  | _, _, .ins _ _, q => by cases q
theorem RL.dp (pu : Ex B H) : ∀ {v : List V} {x : List D}, RL K B v x → plL x = true → DpAll K H v (pyL x)
  | _, _, .nil, _ => .nil
  | _, _, .cons h r, q => .cons (R.dp pu h (by simp [plL] at q; exact q.1)) (RL.dp pu r (by simp [plL] at q; exact q.2))
end
/-- data that == tells -/
def D.eqs (x y : D) : Prop := x.pl = true ∧ y.pl = true ∧ SeqAt.shaped x.py = true ∧ SeqAt.shaped y.py = true
theorem o2_eqD {x y : D} (q : x.eqs y) (h : post (.d (.bl (PyData.eqv x.py y.py))) Γ) : Op2 K F B0 (rEqG K) x y T Γ post := fun τ σ H B S v1 v2 Q w r1 r2 k =>
  .inr (.inl ⟨x.py, y.py, r1.dp w.pu q.1, r2.dp w.pu q.2.1, q.2.2.1, q.2.2.2, k _ _ Γ H h ⟨_, _, w.pushd .bl⟩⟩)
theorem o2_neD {x y : D} (q : x.eqs y) (h : post (.d (.bl (!PyData.eqv x.py y.py))) Γ) : Op2 K F B0 (rNeG K) x y T Γ post := fun τ σ H B S v1 v2 Q w r1 r2 k =>
  .inr (.inl ⟨x.py, y.py, r1.dp w.pu q.1, r2.dp w.pu q.2.1, q.2.2.1, q.2.2.2, k _ _ Γ H h ⟨_, _, w.pushd .bl⟩⟩)
def D.isNon : D → Bool
  | .non => true
  | _ => false
theorem R.isNon {v : V} {x : D} (r : R K B v x) : decide (v = .non) = x.isNon := by cases r <;> rfl
theorem o2_is {x : D} (h : post (.d (.bl x.isNon)) Γ) : Op2 K F B0 rIsG x .non T Γ post := fun τ σ H B S v1 v2 Q w r1 r2 k => by
  cases r2
  refine ⟨rfl, ?_⟩
  rw [r1.isNon]
  exact k _ _ Γ H h ⟨_, _, w.pushd .bl⟩
theorem o2_not {x : D} (h : post (.d (.bl (!x.isNon))) Γ) : Op2 K F B0 rNotG x .non T Γ post := fun τ σ H B S v1 v2 Q w r1 r2 k => by
  cases r2
  refine ⟨rfl, ?_⟩
  rw [r1.isNon]
  exact k _ _ Γ H h ⟨_, _, w.pushd .bl⟩
def D.flat : D → Bool
  | .non => true
  | .bl _ => true
  | .int _ => true
  | .str _ => true
  | _ => false
def D.eq1 : D → D → Bool
  | .non, .non => true
  | .bl a, .bl b => a == b
  | .bl a, .int b => (if a then 1 else 0) == b
  | .int a, .bl b => a == (if b then 1 else 0)
  | .int a, .int b => a == b
  | .str a, .str b => a == b
  | _, _ => false
theorem R.flatV {v : V} {x : D} (r : R K B v x) (q : x.flat = true) : L2.flatV v = true := by cases r <;> first | rfl | cases q
theorem R.eqV {v u : V} {x y : D} (r : R K B v x) (s : R K B u y) (q : x.flat = true) (q2 : y.flat = true) : L2.eqV v u = x.eq1 y := by
  cases r <;> first | (cases s <;> first | rfl | cases q2) | cases q
theorem RL.flat : ∀ {vs : List V} {xs : List D}, RL K B vs xs → xs.all D.flat = true → vs.all L2.flatV = true
  | _, _, .nil, _ => rfl
  | _, _, .cons r t, q => by simp only [List.all_cons, Bool.and_eq_true] at q ⊢; exact ⟨r.flatV q.1, t.flat q.2⟩
theorem RL.inV {v : V} {x : D} (r : R K B v x) (q : x.flat = true) : ∀ {vs : List V} {xs : List D}, RL K B vs xs → xs.all D.flat = true → L2.inV v vs = xs.any fun y => y.eq1 x
  | _, _, .nil, _ => rfl
  | _, _, .cons r2 t, q2 => by
    simp only [List.all_cons, Bool.and_eq_true] at q2
    have ih := RL.inV r q t q2.2
    unfold L2.inV at ih ⊢
    rw [List.any_cons, List.any_cons, ih, r2.eqV r q2.1 q]
def D.items? : D → Option (List D)
  | .lst xs => some xs
  | .sq xs => some xs
  | .tup xs => some xs
  | _ => none
theorem R.items {xs : List D} (r : R K B v x) (q : x.items? = some xs) : ∃ a vs, v = .ref a ∧ (SqL K B a vs ∨ SqT K B a vs) ∧ RL K B vs xs := by
  cases r with
  | lst h r => cases q; exact ⟨_, _, rfl, .inl (SqL.of h), r⟩
  | sq h r => cases q; exact ⟨_, _, rfl, .inl h, r⟩
  | tup h r => cases q; exact ⟨_, _, rfl, .inr h, r⟩
  | _ => cases q
theorem o2_in {x y : D} {xs : List D} (q : y.items? = some xs) (hx : x.flat = true) (ha : xs.all D.flat = true) (h : post (.d (.bl (xs.any fun y => y.eq1 x))) Γ) : Op2 K F B0 (rInG K) x y T Γ post := fun τ σ H B S v1 v2 Q w r1 r2 k => by
  obtain ⟨a, vs, rfl, sq, rl⟩ := r2.items q
  refine .inl ⟨a, vs, rfl, sq.imp w.pu.sqL w.pu.sqT, r1.flatV hx, rl.flat ha, ?_⟩
  show Q (.bl (inV v1 vs)) H
  rw [RL.inV r1 hx rl ha]
  exact k _ _ Γ H h ⟨_, _, w.pushd .bl⟩
def kD : Key → D
  | .inl i => .int i
  | .inr s => .str s
def dval {κ : Type} [DecidableEq κ] {α : Type} (kvs : List (κ × α)) (k : κ) : Option α := (kvs.find? fun kv => decide (kv.1 = k)).map (·.2)
theorem RK.val {k : Key} : ∀ {ws : List (Key × V)} {kvs : List (Key × D)}, RK K B ws kvs → (∃ v x, valV ws k = some v ∧ dval kvs k = some x ∧ R K B v x) ∨ (valV ws k = none ∧ dval kvs k = none)
  | _, _, .nil => .inr ⟨rfl, rfl⟩
  | _, _, .cons (k := k0) (v := v0) (x := x0) (vs := vs) (xs := xs) r t => by
    by_cases e : k0 = k
    · left
      refine ⟨v0, x0, by simp [valV, e], by simp [dval, e], r⟩
    · have e1 : valV ((k0, v0) :: vs) k = valV vs k := by simp [valV, e]
      have e2 : dval ((k0, x0) :: xs) k = dval xs k := by simp [dval, e]
      rw [e1, e2]
      exact RK.val t
theorem R.kV {k : Key} (r : R K B v (kD k)) : v = L2.kV k := by cases k <;> (cases r; rfl)
end
end SK
namespace SK
open PySem PySem.Spec PyProof.Rows L2
section
variable {K : PySem.W.Frag} {F B0 H H' B B' : Hp} {τ τs : List V} {T os : List O} {σ : L2.St} {Γ : En} {S S1 S2 : Ad} {v w : V} {o p : O} {x : D} {post : O → En → Prop} {ta tb te td ty tv : TE} {tt tu : TT} {i : Nat} {posts : List D → En → Prop} {postt : Bool → En → Prop} {posts1 : En → Prop} {Dd : EG}
theorem set_same {σ : List (Option V)} (a : σ[i]? = some (some v)) : σ.set i (some v) = σ := by
  have hl : i < σ.length := (List.getElem?_eq_some_iff.mp a).1
  apply List.ext_getElem?
  intro n
  by_cases hn : n = i
  · subst hn; rw [List.getElem?_set_self hl, a]
  · rw [List.getElem?_set_ne (Ne.symm hn)]
/-- the thing at slot i is changed, the thing held on top goes into it -/
theorem HW.mut2 (h : HW K F B0 (w :: τ) (o :: T) σ Γ H B S) (e : Γ[i]? = some (some p)) : ∃ (v : V) (S1 So : Ad), σ[i]? = some (some v) ∧ RO K B H S1 v p ∧ RO K B H So w o ∧ (∀ b, S1 b → ¬ So b) ∧ (∀ b, S1 b → H b ≠ none) ∧ (∀ b, So b → H b ≠ none) ∧
    ∀ a c p', S1 a → RO K B (upd H a c) (fun b => S1 b ∨ So b) v p' → ∃ S', HW K F B0 τ T σ (Γ.set i (some p')) (upd H a c) B S' := by
  obtain ⟨So, Sr, s1, s2, dj, ro, wr⟩ := h.pop
  obtain ⟨v, S1, S2, a1, b1, c1, d1, r1, f⟩ := wr.slot e
  refine ⟨v, S1, So, a1, r1, ro, fun b z y => dj b y (b1 b z), fun b z => (wr.ow b (b1 b z)).2.2, fun b z => (h.ow b (s1 b z)).2.2, fun a c p' ha rp => ?_⟩
  have q := f B (upd H a c) (fun b => S1 b ∨ So b) (some v) (some p') (.refl B) (fun b u z y => by
    rw [upd_ne (fun q => d1 a ha (by rw [← q]; exact z))]; exact y) (fun b z y => z.elim (fun z => d1 b z y) fun z => dj b z (c1 b y)) (fun x q => by cases q; exact ⟨v, rfl, rp⟩)
  rw [set_same a1] at q
  refine ⟨_, ⟨fun b u z => ?_, fun b u z => ?_, wr.b0, fun b z => ?_, wr.nw, q, wr.lt⟩⟩
  · have hn : b ≠ a := fun q => by rw [q, (wr.ow a (b1 a ha)).1] at z; cases z
    rw [upd_ne hn]; exact wr.fr b u z
  · have hn : b ≠ a := fun q => by rw [q, (wr.ow a (b1 a ha)).2.1] at z; cases z
    rw [upd_ne hn]; exact wr.pu b u z
  · have : F b = none ∧ B b = none ∧ H b ≠ none := by
      rcases z with (z | z) | z
      · exact wr.ow b (b1 b z)
      · exact h.ow b (s1 b z)
      · exact wr.ow b (c1 b z)
    refine ⟨this.1, this.2.1, ?_⟩
    by_cases hn : b = a
    · rw [hn, upd_same]; simp
    · rw [upd_ne hn]; exact this.2.2
/-- the thing at slot i is changed -/
theorem HW.mut1 (h : HW K F B0 τ T σ Γ H B S) (e : Γ[i]? = some (some p)) : ∃ (v : V) (S1 : Ad), σ[i]? = some (some v) ∧ RO K B H S1 v p ∧ (∀ b, S1 b → H b ≠ none) ∧
    ∀ a c p', S1 a → RO K B (upd H a c) S1 v p' → ∃ S', HW K F B0 τ T σ (Γ.set i (some p')) (upd H a c) B S' := by
  obtain ⟨v, S1, So, a1, r1, _, _, n1, _, f⟩ := HW.mut2 (h.pushd (v := .non) (x := .non) .non) e
  exact ⟨v, S1, a1, r1, n1, fun a c p' ha rp => f a c p' ha (rp.tr (.refl B) (fun _ z => .inl z) fun _ _ _ e => e)⟩
theorem RS.snoc {So : Ad} (ro : RO K B H So w o) : ∀ {σ : List (Option V)} {Γ : List (Option O)} {S : Ad}, RS K B H S σ Γ → (∀ b, S b → ¬ So b) → RS K B H (fun b => S b ∨ So b) (σ ++ [some w]) (Γ ++ [some o])
  | _, _, _, .nil, _ => .cons (S1 := So) (S2 := fun _ => False) (fun _ z => .inr z) (fun _ z => z.elim) (fun _ _ z => z) ro .nil
  | _, _, _, .un r, dj => .un (RS.snoc ro r dj)
  | _, _, _, .cons (S1 := T1) (S2 := T2) s1 s2 d r rs, dj => .cons (S1 := T1) (S2 := fun b => T2 b ∨ So b) (fun b z => .inl (s1 b z)) (fun b z => z.imp (s2 b) id) (fun b z y => y.elim (d b z) (dj b (s1 b z))) r (RS.snoc ro rs fun b z => dj b (s2 b z))
theorem RS.at (e : ∀ b u, S b → H b = some u → H' b = some u) {σ : List (Option V)} {Γ : List (Option O)} (r : RS K B H S σ Γ) : RS K B H' S σ Γ := r.tr (.refl B) (fun _ z => z) e
/-- xs.append(e), xs a name -/
theorem gos_append (h : Go K F B0 te T Γ fun o Γ1 => ∃ xs, Γ1[i]? = some (some (.ol xs)) ∧ xs.length < 100000 ∧ Dd.nx (Γ1.set i (some (.ol (xs ++ [o]))))) (h0 : ∃ xs, Γ[i]? = some (some (.ol xs))) :
    GoS K F B0 (tDrop (tBM K "list" rAppend (tVar i) (tCons te tNil))) T Γ Dd := fun τ σ H De hw s => by
  obtain ⟨B, S, w⟩ := hw
  obtain ⟨xs0, e0⟩ := h0
  obtain ⟨v, S1, a1, r1, _, _⟩ := w.mut1 e0
  cases r1 with
  | @ol _ _ a vs _ _ _ _ hc _ =>
  refine ⟨.ref a, a1, Or.inl ⟨rfl, vs, SqL.of hc⟩, h τ σ H _ ⟨B, S, w⟩ fun v2 o2 Γ2 H2 ⟨xs, e2, hz, h2⟩ ⟨B2, S2, w2⟩ => ?_⟩
  obtain ⟨v', S3, So, a2, r2, ro, dj, _, _, f⟩ := w2.mut2 e2
  rw [a1] at a2
  cases a2
  cases r2 with
  | @ol _ S4 _ us _ ha hs hn hc2 rs =>
  have len : us.length = xs.length := by simpa using rs.len
  refine ⟨a, us, v2, rfl, rfl, hc2, by rw [len]; exact Nat.lt_of_lt_of_le hz (by decide), ?_⟩
  obtain ⟨S', w3⟩ := f a (.lst (us ++ [v2])) (.ol (xs ++ [o2])) ha (.ol (S' := fun b => S4 b ∨ So b) (.inl ha) (fun b z => z.imp (hs b) id) (fun z => z.elim hn fun z => dj a ha z) upd_same (by
    rw [List.map_append, List.map_append]
    exact (rs.snoc ro fun b z => dj b (hs b z)).at fun b u z q => by
      rw [upd_ne (fun e => by subst e; exact z.elim hn fun z => dj b ha z)]; exact q))
  exact s.nx σ _ _ h2 ⟨B2, S', w3⟩
def dput {κ : Type} [DecidableEq κ] {α : Type} (kvs : List (κ × α)) (k : κ) (v : α) : List (κ × α) :=
  if (kvs.any fun kv => decide (kv.1 = k)) = true then kvs.map (fun kv => if kv.1 = k then (kv.1, v) else kv) else kvs ++ [(k, v)]
theorem any_keys {κ α β : Type} [DecidableEq κ] {k : κ} : ∀ {ws : List (κ × α)} {kvs : List (κ × β)}, ws.map (·.1) = kvs.map (·.1) → (ws.any fun kv => decide (kv.1 = k)) = kvs.any fun kv => decide (kv.1 = k)
  | [], [], _ => rfl
  | a :: ws, b :: kvs, e => by
    simp only [List.map_cons, List.cons.injEq] at e
    rw [List.any_cons, List.any_cons, any_keys e.2, e.1]
theorem repl_keys {κ α : Type} [DecidableEq κ] {k : κ} {v : α} (kvs : List (κ × α)) : (kvs.map (fun kv => if kv.1 = k then (kv.1, v) else kv)).map (·.1) = kvs.map (·.1) := by
  rw [List.map_map]
  apply List.map_congr_left
  intro a _
  show (if a.1 = k then (a.1, v) else a).1 = a.1
  split <;> rfl
theorem dput_keys {κ α β : Type} [DecidableEq κ] {k : κ} {v : α} {x : β} {ws : List (κ × α)} {kvs : List (κ × β)} (e : ws.map (·.1) = kvs.map (·.1)) : (dput ws k v).map (·.1) = (dput kvs k x).map (·.1) := by
  unfold dput
  rw [any_keys e]
  split
  · rw [repl_keys, repl_keys, e]
  · rw [List.map_append, List.map_append, e]; rfl
theorem dput_nodup {κ α : Type} [DecidableEq κ] {k : κ} {v : α} {kvs : List (κ × α)} (n : (kvs.map (·.1)).Nodup) : ((dput kvs k v).map (·.1)).Nodup := by
  unfold dput
  split
  · rw [repl_keys]; exact n
  · rename_i h
    rw [List.map_append, List.nodup_append]
    refine ⟨n, by simp, fun a ha b hb => ?_⟩
    have e : b = k := by simpa using hb
    subst e
    intro q
    subst q
    obtain ⟨kv, h1, h2⟩ := List.mem_map.mp ha
    exact h (List.any_eq_true.mpr ⟨kv, h1, by simp [h2]⟩)
theorem repl_not {κ α : Type} [DecidableEq κ] {k : κ} {v : α} : ∀ {kvs : List (κ × α)}, k ∉ kvs.map (·.1) → kvs.map (fun kv => if kv.1 = k then (kv.1, v) else kv) = kvs
  | [], _ => rfl
  | a :: r, h => by
    simp only [List.map_cons, List.mem_cons, not_or] at h
    rw [List.map_cons, repl_not h.2, if_neg (fun q => h.1 q.symm)]
theorem RS.repl {κ : Type} [DecidableEq κ] {k : κ} {So : Ad} (ro : RO K B H So w o) : ∀ {ws : List (κ × V)} {kvs : List (κ × O)} {S : Ad}, (kvs.map (·.1)).Nodup → ws.map (·.1) = kvs.map (·.1) → RS K B H S (ws.map fun p => some p.2) (kvs.map fun p => some p.2) → (∀ b, S b → ¬ So b) →
    RS K B H (fun b => S b ∨ So b) ((ws.map fun kv => if kv.1 = k then (kv.1, w) else kv).map fun p => some p.2) ((kvs.map fun kv => if kv.1 = k then (kv.1, o) else kv).map fun p => some p.2)
  | [], [], _, _, _, _, _ => .nil
  | (k1, v1) :: ws, (k2, o2) :: kvs, S, nd, e, .cons (S1 := T1) (S2 := T2) s1 s2 d r rs, dj => by
    simp only [List.map_cons, List.cons.injEq] at e
    obtain ⟨e1, e2⟩ := e
    subst e1
    simp only [List.map_cons, List.nodup_cons] at nd
    by_cases q : k1 = k
    · subst q
      have n2 : k1 ∉ ws.map (·.1) := by rw [e2]; exact nd.1
      have q1 := repl_not (v := w) n2
      have q2 := repl_not (v := o) nd.1
      simp only [List.map_cons, ↓reduceIte, q1, q2]
      exact .cons (S1 := So) (S2 := T2) (fun b z => .inr z) (fun b z => .inl (s2 b z)) (fun b z y => dj b (s2 b y) z) ro rs
    · simp only [List.map_cons, if_neg q]
      exact .cons (S1 := T1) (S2 := fun b => T2 b ∨ So b) (fun b z => .inl (s1 b z)) (fun b z => z.imp (s2 b) id) (fun b z y => y.elim (d b z) (dj b (s1 b z))) r (RS.repl ro nd.2 e2 rs fun b z => dj b (s2 b z))
theorem RS.dput {κ : Type} [DecidableEq κ] {k : κ} {So : Ad} (ro : RO K B H So w o) {ws : List (κ × V)} {kvs : List (κ × O)} {S : Ad} (nd : (kvs.map (·.1)).Nodup) (e : ws.map (·.1) = kvs.map (·.1)) (rs : RS K B H S (ws.map fun p => some p.2) (kvs.map fun p => some p.2)) (dj : ∀ b, S b → ¬ So b) :
    RS K B H (fun b => S b ∨ So b) ((SK.dput ws k w).map fun p => some p.2) ((SK.dput kvs k o).map fun p => some p.2) := by
  unfold SK.dput
  rw [any_keys e]
  split
  · exact rs.repl ro nd e dj
  · rw [List.map_append, List.map_append]
    exact rs.snoc ro dj
theorem putK_dput {κ : Type} [DecidableEq κ] (kvs : List (κ × V)) (k : κ) (v : V) : putK kvs k v = dput kvs k v := rfl
theorem go_dnew (h : post (.od []) Γ) : Go K F B0 tDNewK T Γ post := fun τ σ H Q ⟨B, S, w⟩ k p hp => by
  obtain ⟨S2, w⟩ := w.newo hp (o := .od []) (c := .dK []) (v := .ref p) (.od (S' := fun _ => False) rfl (fun _ z => z.elim) id upd_same List.nodup_nil rfl .nil)
  exact k _ _ _ _ h ⟨_, _, w⟩
abbrev Ct := List D → (O → Prop) → (Addr → Option (List (Str × D)) → Prop) → Prop
theorem HW.bare (h : HW K F B0 τ T σ Γ H B S) : Ho K F B0 [] [] σ Γ H :=
  ⟨B, S, h.fr, h.pu, h.b0, h.ow, h.nw, RS.drops (σ0 := τ.map some) (Γ0 := T.map some) (by simp [h.lt]) h.rs, rfl⟩
def noX : Addr → Option (List (Str × D)) → Prop := fun _ _ => False
/-- an exception's own dict, where it has one -/
def ExB (K : PySem.W.Frag) (H B : Hp) (d : Option Addr) (fs : Option (List (Str × D))) : Prop := match d, fs with
  | none, none => True
  | some a, some fs => ∃ ws, H a = some (.xd ws) ∧ RF K B ws fs
  | _, _ => False
/-- the slots, and an exception's own dict -/
def HoX (K : PySem.W.Frag) (F B0 : Hp) (σ : L2.St) (Γ : En) (H : Hp) (d : Option Addr) (fs : Option (List (Str × D))) : Prop := ∃ B S, HW K F B0 [] [] σ Γ H B S ∧ ExB K H B d fs
theorem HW.bareB (h : HW K F B0 τ T σ Γ H B S) : HW K F B0 [] [] σ Γ H B S :=
  ⟨h.fr, h.pu, h.b0, h.ow, h.nw, RS.drops (σ0 := τ.map some) (Γ0 := T.map some) (by simp [h.lt]) h.rs, rfl⟩
theorem HoX.none {fs : Option (List (Str × D))} (h : Ho K F B0 [] [] σ Γ H) (e : fs = none) : HoX K F B0 σ Γ H none fs := by
  subst e; obtain ⟨B, S, w⟩ := h; exact ⟨B, S, w, trivial⟩
def spP (K : PySem.W.Frag) (C : Ct) : Sp := fun vs H Q E => ∃ B xs p q, Ex B H ∧ RL K B vs xs ∧ C xs p q ∧
  (∀ v o B' S' H', p o → Ex H H' → Ex B' H' → BLe B B' → (∀ a, B' a ≠ none → B a ≠ none ∨ H a = none) → (∀ a, S' a → H a = none ∧ B' a = none ∧ H' a ≠ none) → RO K B' H' S' v o → Q v H') ∧
  (∀ Cc fs d B' H', q Cc fs → Ex H H' → Ex B' H' → BLe B B' → (∀ a, B' a ≠ none → B a ≠ none ∨ H a = none) → ExB K H' B' d fs → E (.ref Cc) d H')
theorem spP_len {C : Ct} {n : Nat} (h : ∀ xs p q, C xs p q → xs.length = n) {vs : List V} {H : Hp} {Q : VK} {E : XK} (s : spP K C vs H Q E) : vs.length = n := by
  obtain ⟨B, xs, p, q, _, rl, c, _⟩ := s
  rw [rl.length]; exact h xs p q c
theorem RL.start {n : Nat} : ∀ {vs : List V} {xs : List D}, RL K B vs xs → RS K B H (fun _ => False) (vs.map some ++ List.replicate n none) ((xs.map fun x => some (O.d x)) ++ List.replicate n none)
  | _, _, .nil => by
    show RS K B H _ (List.replicate n none) (List.replicate n none)
    induction n with
    | zero => exact .nil
    | succ n ih => rw [List.replicate_succ, List.replicate_succ]; exact .un ih
  | _, _, .cons r t => .cons (S1 := fun _ => False) (S2 := fun _ => False) (fun _ z => z) (fun _ z => z) (fun _ z => z.elim) (.d r) (RL.start t)
/-- the body's reading gives the promise: wx tells what an exception's way out asks -/
theorem sp_body {C : Ct} {N : List Str} {vs : List V} {Q : VK} {E : XK} {X : Cx} {body : List Stmt} (s : spP K C vs H Q E)
    (h : ∀ B xs p q, C xs p q → xs.length = vs.length → (∀ Cc fs d σ Γ H', q Cc fs → HoX K H B σ Γ H' d fs → E (.ref Cc) d H') →
      ∃ t, PSs X body t ∧ GoS K H B t [] ((xs.map fun x => some (O.d x)) ++ List.replicate (N.length - xs.length) none) { nx := fun _ => p (.d .non), rt := fun o' _ => p o' }) :
    ∃ t, PSs X body t ∧ t { nx := fun _ H' => Q .non H', rt := Q } (L2.start N vs) H := by
  obtain ⟨B, xs, p, q, pu, rl, c, k, kx⟩ := s
  obtain ⟨t, ht, g⟩ := h B xs p q c rl.length.symm fun Cc fs d σ Γ H' hq ⟨B', S', w, hd⟩ => kx Cc fs d B' H' hq w.fr w.pu w.b0 w.nw hd
  refine ⟨t, ht, g [] (L2.start N vs) H _ ⟨B, fun _ => False, .refl H, pu, .refl B, fun _ z => z.elim, fun _ z => .inl z, ?_, rfl⟩ ⟨fun σ Γ H' e ⟨B', S', w⟩ => ?_, fun v o' σ Γ H' e ⟨B', S', w⟩ => ?_, fun _ _ _ z => z.elim, fun _ _ _ z => z.elim⟩⟩
  · show RS K B H (fun _ => False) ([] ++ L2.start N vs) _
    rw [List.nil_append, L2.start, rl.length]
    exact rl.start
  · obtain ⟨S1, S2, s1, s2, dj, r, w2⟩ := (w.pushd (v := .non) (x := .non) .non).pop
    exact k .non _ B' S1 H' e w.fr w.pu w.b0 w.nw (fun a z => ((w.pushd (v := .non) (x := .non) .non).ow a (s1 a z))) (.d .non)
  · obtain ⟨S1, S2, s1, s2, dj, r, w2⟩ := w.pop
    exact k v o' B' S1 H' e w.fr w.pu w.b0 w.nw (fun a z => w.ow a (s1 a z)) r
/-- a call of a def that keeps such a promise and lets nothing out -/
theorem go_call {C : Ct} {dvs : List V} {dxs : List D} {E : XK} {t : TA} (h : GoA K F B0 t T Γ fun xs Γ1 => ∃ p, C (xs ++ dxs) p noX ∧ ∀ o, p o → post o Γ1) (hd : ∀ B, RL K B dvs dxs) : Go K F B0 (tCall (spP K C) dvs E t) T Γ post := fun τ σ H Q hw k =>
  h τ σ H _ hw fun vs xs Γ1 H1 ⟨p, c, h1⟩ ⟨B1, S1, w1⟩ hl => by
    obtain ⟨rl, S2, w⟩ := w1.args hl
    refine ⟨B1, xs ++ dxs, p, noX, w.pu, rl.app (hd B1), c, fun v o' B' S' H' e ex pu' le nw ow ro => ?_, fun _ _ _ _ _ e => e.elim⟩
    exact k v _ Γ1 H' (h1 _ e) ⟨B', _, w.push ex le pu' nw ow ro⟩
/-- a call of a def that may let an exception out: W is where it goes -/
theorem go_callX {C : Ct} {W : WX} {X : Addr → Option (List (Str × D)) → En → Prop} {t : TA} (wx : ∀ Cc fs d σ Γ H, X Cc fs Γ → HoX K F B0 σ Γ H d fs → W (.ref Cc) d σ H)
    (h : GoA K F B0 t T Γ fun xs Γ1 => ∃ p q, C xs p q ∧ (∀ o, p o → post o Γ1) ∧ ∀ Cc fs, q Cc fs → X Cc fs Γ1) : Go K F B0 (tCallS (spP K C) (WE W) t) T Γ post := fun τ σ H Q hw k =>
  h τ σ H _ hw fun vs xs Γ1 H1 ⟨p, q, c, h1, h2⟩ ⟨B1, S1, w1⟩ hl => by
    obtain ⟨rl, S2, w⟩ := w1.args hl
    refine ⟨B1, xs, p, q, w.pu, rl, c, fun v o' B' S' H' e ex pu' le nw ow ro => ?_, fun Cc fs d B' H' e ex pu' le nw hd => ?_⟩
    · exact k v _ Γ1 H' (h1 _ e) ⟨B', _, w.push ex le pu' nw ow ro⟩
    · exact wx Cc fs d σ Γ1 H' (h2 Cc fs e) ⟨B', _, (w.push (v := .non) (o := .d .non) (S' := fun _ => False) ex le pu' nw (fun _ z => z.elim) (.d .non)).bareB, hd⟩
end
end SK
namespace SK
open PySem PySem.Spec PyProof.Rows L2
section
variable {X : Cx}
theorem ix_dic (hu : X.A.units + 1 < cLine) : IxR X rIxDic := by
  intro value slice pins s σ H x y v u Q I rx ry h hs
  obtain ⟨a, z, rfl, g, q⟩ := h
  cases rx
  have hT := dict_typeIs I g
  unfold subscriptTail
  refine wpAny_bind ?_
  rw [getitemInPython_of_ne hT.not_modules]
  refine wpAny_bind (wpAny_specialOf hT PySem.F.slot_dict_getitem.lookup ?_)
  have fin : wpAny (model X.prog X.w) X.A (subscripted slice false (.ref a) u) (fun r s₃ => wpAny (model X.prog X.w) X.A (letTemporaryGo value (.ref a) r >>= fun _ => pure r) (EP X pins σ Q) X.xe s₃) X.xe s := by
    rw [hs]
    exact wpAny_operating (wpAny_mono (d_getItem hu I g ry fun w' s' I' r' => show EP X pins σ Q w' s' from ⟨z, H, I', r', q⟩) (fun r s₃ h₃ => wpAny_bind (wpAny_letTemporaryGo (wpAny_pure h₃))) fun _ _ x => x)
  first
    | exact wpAny_pure (wpAny_bind fin)
    | exact wpAny_bind (wpAny_pure (wpAny_bind fin))
    | exact wpAny_bind fin
def rIxG (K : PySem.W.Frag) : R2 := fun x y H Q => rIx K x y H Q ∨ rIxDic x y H Q
theorem ix_G (hu : X.A.units + 1 < cLine) : IxR X (rIxG X.K) := ix_seq.or (ix_dic hu)
def rSlG (K : PySem.W.Frag) : V → Option Int → Option Int → Hp → VK → Prop := fun x lo hi H Q => rSlL K x lo hi H Q ∨ (rSlS x lo hi H Q ∨ rSlT K x lo hi H Q)
theorem sl_G : SlR X (rSlG X.K) := sl_list.or (sl_str.or sl_tup)
end
section
variable {K : PySem.W.Frag} {F B0 H H' B B' : Hp} {τ τs : List V} {T os : List O} {σ : L2.St} {Γ : En} {S S1 S2 : Ad} {v w : V} {o p : O} {x : D} {post : O → En → Prop} {ta tb te td ty tv : TE} {tt tu : TT} {i : Nat} {posts : List D → En → Prop} {postt : Bool → En → Prop} {posts1 : En → Prop} {Dd : EG} {xs : List D} {vs : List V}
theorem RL.at {i : Int} {y : D} (r : RL K B vs xs) (h : atI xs i = some y) : ∃ v, atI vs i = some v ∧ R K B v y := by
  unfold atI at h ⊢
  rw [r.length]
  cases q : ixN xs.length i with
  | none => rw [q] at h; cases h
  | some j =>
    rw [q] at h
    exact r.get (i := j) h
theorem o2_ix {x : D} {xs : List D} {i : Int} {y : D} (q : x.items? = some xs) (hi : atI xs i = some y) (h : post (.d y) Γ) : Op2 K F B0 (rIxG K) x (.int i) T Γ post := fun τ σ H B S v1 v2 Q w r1 r2 k => by
  cases r2
  obtain ⟨a, vs, rfl, sq, rl⟩ := r1.items q
  obtain ⟨u, hu, ru⟩ := rl.at hi
  rcases sq with sq | sq
  · exact .inl (.inl ⟨a, vs, i, u, rfl, rfl, w.pu.sqL sq, hu, k _ _ Γ H h ⟨_, _, w.pushd ru⟩⟩)
  · exact .inl (.inr (.inl ⟨a, vs, i, u, rfl, rfl, w.pu.sqT sq, hu, k _ _ Γ H h ⟨_, _, w.pushd ru⟩⟩))
theorem o2_ixS {z : Str} {i : Int} {c : Nat} (hz : z.length ≤ 100000) (hi : atI z.cps.toList i = some c) (h : post (.d (.str ⟨#[c]⟩)) Γ) : Op2 K F B0 (rIxG K) (.str z) (.int i) T Γ post := fun τ σ H B S v1 v2 Q w r1 r2 k => by
  cases r1; cases r2
  exact .inl (.inr (.inr ⟨z, i, c, rfl, rfl, Nat.le_trans hz (by decide), hi, k _ _ Γ H h ⟨_, _, w.pushd .str⟩⟩))
def cutD {α : Type} (xs : List α) (lo hi : Option Int) : List α := (xs.drop (HT.sIx xs.length 0 lo)).take (HT.sIx xs.length xs.length hi - HT.sIx xs.length 0 lo)
theorem RL.drop : ∀ {vs : List V} {xs : List D} (n : Nat), RL K B vs xs → RL K B (vs.drop n) (xs.drop n)
  | _, _, 0, r => r
  | _, _, _ + 1, .nil => .nil
  | _, _, n + 1, .cons _ t => RL.drop n t
theorem RL.take : ∀ {vs : List V} {xs : List D} (n : Nat), RL K B vs xs → RL K B (vs.take n) (xs.take n)
  | _, _, 0, _ => .nil
  | _, _, _ + 1, .nil => .nil
  | _, _, n + 1, .cons r t => .cons r (RL.take n t)
theorem RL.cut (r : RL K B vs xs) (lo hi : Option Int) : RL K B (cutV vs lo hi) (cutD xs lo hi) := by
  unfold cutV cutD
  rw [r.length]
  exact (r.drop _).take _
/-- a slice's part: left out, or a number -/
def GoO (K : PySem.W.Frag) (F B0 : Hp) (t : TO) (T : List O) (Γ : En) (post : Option Int → En → Prop) : Prop := ∀ (τ : List V) (σ : L2.St) (H : Hp) (Q : Option Int → Hp → Prop), Ho K F B0 τ T σ Γ H →
  (∀ o Γ' H', post o Γ' → Ho K F B0 τ T σ Γ' H' → Q o H') → t σ H Q
theorem goo_none {posto : Option Int → En → Prop} (h : posto none Γ) : GoO K F B0 tNoPart T Γ posto := fun τ σ H Q hw k => k none Γ H h hw
theorem goo_some {posto : Option Int → En → Prop} (h : Go K F B0 te T Γ fun o Γ1 => ∃ i, o = .d (.int i) ∧ posto (some i) Γ1) : GoO K F B0 (tPart te) T Γ posto := fun τ σ H Q hw k =>
  h τ σ H _ hw fun v o Γ1 H1 ⟨i, e, h1⟩ ⟨_, _, w1⟩ => by
    subst e
    obtain ⟨r, _, _, w⟩ := w1.popd
    cases r
    exact ⟨i, rfl, k _ _ _ h1 ⟨_, _, w⟩⟩
/-- a slice's value -/
inductive Sl : D → Option Int → Option Int → O → Prop
  | lst {x : D} {xs : List D} {lo hi : Option Int} : D.seq? x = some xs → Sl x lo hi (.ol ((cutD xs lo hi).map O.d))
  | str {z : Str} {lo hi : Option Int} : z.length ≤ 100000 → Sl (.str z) lo hi (.d (.str (cutS z lo hi)))
  | tup {xs : List D} {lo hi : Option Int} : ¬ (HT.sIx xs.length 0 lo = 0 ∧ HT.sIx xs.length xs.length hi = xs.length) → Sl (.tup xs) lo hi (.d (.tup (cutD xs lo hi)))
theorem go_sl {tl th : TO} (h : Go K F B0 te T Γ fun o Γ1 => GoO K F B0 tl (.d o.fz :: T) Γ1 fun lo Γ2 => GoO K F B0 th (.d o.fz :: T) Γ2 fun hi Γ3 => ∃ o2, Sl o.fz lo hi o2 ∧ post o2 Γ3) : Go K F B0 (tSl (rSlG K) te tl th) T Γ post := fun τ σ H Q hw k =>
  h τ σ H _ hw fun v o Γ1 H1 h1 ⟨_, _, w1⟩ => by
    obtain ⟨_, _, w1, _⟩ := w1.fz
    refine h1 _ σ H1 _ ⟨_, _, w1⟩ fun lo Γ2 H2 h2 w2 => h2 _ σ H2 _ w2 fun hi Γ3 H3 ⟨o2, sl, h3⟩ ⟨_, _, w3⟩ => ?_
    obtain ⟨r, _, _, w⟩ := w3.popd
    generalize o.fz = y at r sl
    cases sl with
    | lst q =>
      obtain ⟨a, vs, rfl, sq, rl⟩ := r.seqL q
      refine .inl ⟨a, vs, rfl, w.pu.sqL sq, fun p hp => ?_⟩
      obtain ⟨S2, w⟩ := w.newl hp (rl.cut lo hi)
      exact k _ _ _ _ h3 ⟨_, _, w⟩
    | str hz =>
      cases r
      exact .inr (.inl ⟨_, rfl, Nat.le_trans hz (by decide), k _ _ _ _ h3 ⟨_, _, w.pushd .str⟩⟩)
    | tup hn =>
      cases r with | @tup a vs _ sq rl =>
      refine .inr (.inr ⟨a, vs, rfl, w.pu.sqT sq, by rw [rl.length]; exact hn, fun p hp => ?_⟩)
      obtain ⟨S2, w⟩ := w.newd (x := .tup (cutD _ lo hi)) hp (.tup (SqT.of upd_same) ((rl.cut lo hi).mono (.of_ex (.new (w.pu.back hp)))))
      exact k _ _ _ _ h3 ⟨_, _, w⟩
def rLenG (K : PySem.W.Frag) : List V → Hp → VK → Prop := fun xs H Q => (∃ x n, xs = [x] ∧ LenV K x H n ∧ Q (.int n) H) ∨ ∃ a kvs, xs = [V.ref a] ∧ Rd H a (.dK kvs) ∧ Q (.int kvs.length) H
theorem call_lenG {X : Cx} : CallR X (.builtin "len") (rLenG X.K) := by
  intro pins s σ H xs us Q I r h
  rcases h with h | ⟨a, kvs, rfl, ha, q⟩
  · exact call_len pins s σ H xs us Q I r h
  · rw [r.ref1]
    exact d_len I ha fun t s' I' => ⟨.int kvs.length, H, I', ⟨t, rfl⟩, q⟩
inductive Ln : D → Nat → Prop
  | seq {x : D} {xs : List D} : D.items? x = some xs → Ln x xs.length
  | str {z : Str} : z.length ≤ 100000 → Ln (.str z) z.length
  | dic {kvs : List (Key × D)} : Ln (.dic kvs) kvs.length
theorem RK.length : ∀ {ws : List (Key × V)} {kvs : List (Key × D)}, RK K B ws kvs → ws.length = kvs.length
  | _, _, .nil => rfl
  | _, _, .cons _ t => by simp [RK.length t]
theorem oa_len {x : D} {n : Nat} (q : Ln x n) (h : post (.d (.int n)) Γ) : OpA K F B0 (rLenG K) [x] T Γ post := fun τ σ H B S vs Q w rl k => by
  obtain ⟨v1, rfl, r⟩ := rl.one
  have fin := fun (n : Nat) (h : post (.d (.int n)) Γ) => k (.int n) _ Γ H h ⟨_, _, w.pushd .int⟩
  cases q with
  | seq q =>
    obtain ⟨a, vs, rfl, sq, rl⟩ := r.items q
    rcases sq with sq | sq
    · exact .inl ⟨_, _, rfl, .inl ⟨vs, w.pu.sqL sq, rl.length.symm⟩, fin _ h⟩
    · exact .inl ⟨_, _, rfl, .inr ⟨vs, w.pu.sqT sq, rl.length.symm⟩, fin _ h⟩
  | str hz => cases r; exact .inl ⟨_, _, rfl, ⟨Nat.le_trans hz (by decide), rfl⟩, fin _ h⟩
  | dic => cases r with | @dic a ws _ hd _ rk => exact .inr ⟨a, ws, rfl, w.pu.rd hd, by rw [rk.length]; exact fin _ h⟩
def rMax2 : List V → Hp → VK → Prop := fun xs H Q => ∃ i j, xs = [.int i, .int j] ∧ Q (.int (if j > i then j else i)) H
def rMin2 : List V → Hp → VK → Prop := fun xs H Q => ∃ i j, xs = [.int i, .int j] ∧ Q (.int (if j < i then j else i)) H
theorem call_max2G {X : Cx} (hc : X.calm = true) : CallR X (.builtin "max") rMax2 := call_max2 hc
theorem oa_max2 {a b : Int} (h : post (.d (.int (if b > a then b else a))) Γ) : OpA K F B0 rMax2 [.int a, .int b] T Γ post := fun τ σ H B S vs Q w rl k => by
  obtain ⟨v1, v2, rfl, r, r2⟩ := rl.two
  cases r; cases r2
  exact ⟨a, b, rfl, k _ _ Γ H h ⟨_, _, w.pushd .int⟩⟩
theorem oa_min2 {a b : Int} (h : post (.d (.int (if b < a then b else a))) Γ) : OpA K F B0 rMin2 [.int a, .int b] T Γ post := fun τ σ H B S vs Q w rl k => by
  obtain ⟨v1, v2, rfl, r, r2⟩ := rl.two
  cases r; cases r2
  exact ⟨a, b, rfl, k _ _ Γ H h ⟨_, _, w.pushd .int⟩⟩
def rListG (K : PySem.W.Frag) : List V → Hp → VK → Prop := fun xs H Q => (∃ p ys, xs = [.ref p] ∧ (SqL K H p ys ∨ SqT K H p ys) ∧ ∀ l, H l = none → Q (.ref l) (upd H l (.lst ys))) ∨
  ∃ (a : Addr) (kvs : List (Key × V)), xs = [.ref a] ∧ Rd H a (.dK kvs) ∧ ∀ p, H p = none → Q (.ref p) (upd H p (.lst (kvs.map fun kv => kV kv.1)))
theorem call_listG {X : Cx} (hc : X.calm = true) : CallR X (.type "list") (rListG X.K) := call_list_of.or (call_listD hc)
theorem oa_list {x : D} {xs : List D} (q : x.items? = some xs) (h : post (.ol (xs.map O.d)) Γ) : OpA K F B0 (rListG K) [x] T Γ post := fun τ σ H B S vs Q w rl k => by
  obtain ⟨v1, rfl, r⟩ := rl.one
  obtain ⟨a, vs, rfl, sq, rl⟩ := r.items q
  refine .inl ⟨a, vs, rfl, sq.imp w.pu.sqL w.pu.sqT, fun p hp => ?_⟩
  obtain ⟨S2, w⟩ := w.newl hp rl
  exact k _ _ _ _ h ⟨_, _, w⟩
theorem RK.keys : ∀ {ws : List (Key × V)} {kvs : List (Key × D)}, RK K B ws kvs → ws.map (·.1) = kvs.map (·.1)
  | _, _, .nil => rfl
  | _, _, .cons _ t => by simp [RK.keys t]
/-- dict(d) -/
def rDictD : List V → Hp → VK → Prop := fun xs H Q => ∃ (a : Addr) (kvs : List (Key × V)), xs = [.ref a] ∧ Rd H a (.dK kvs) ∧ ∀ p, H p = none → Q (.ref p) (upd H p (.dK kvs))
theorem RK.flK {S : Ad} : ∀ {ws : List (Key × V)} {kvs : List (Key × D)}, RK K B ws kvs → RS K B H S (ws.map fun p => some p.2) ((kvs.map fun p => (p.1, O.d p.2)).map fun p => some p.2)
  | _, _, .nil => .nil
  | _, _, .cons r t => .cons (S1 := fun _ => False) (S2 := S) (fun _ z => z.elim) (fun _ z => z) (fun _ z => z.elim) (.d r) (RK.flK t)
theorem oa_dictD {kvs : List (Key × D)} (h : post (.od (kvs.map fun p => (p.1, O.d p.2))) Γ) : OpA K F B0 rDictD [.dic kvs] T Γ post := fun τ σ H B S vs Q w rl k => by
  obtain ⟨v1, rfl, r⟩ := rl.one
  cases r with | @dic a ws _ hd nd rk =>
  refine ⟨a, ws, rfl, w.pu.rd hd, fun p hp => ?_⟩
  obtain ⟨S2, w⟩ := w.newo hp (v := .ref p) (c := .dK ws) (o := .od (kvs.map fun p => (p.1, O.d p.2))) (.od (S' := fun _ => False) rfl (fun _ z => z.elim) id upd_same (by rw [List.map_map]; exact nd) (by rw [rk.keys, List.map_map]; rfl) rk.flK)
  exact k _ _ _ _ h ⟨_, _, w⟩
inductive TyD : D → String → Prop
  | non : TyD .non "NoneType"
  | bl {b : Bool} : TyD (.bl b) "bool"
  | int {i : Int} : TyD (.int i) "int"
  | str {s : Str} : TyD (.str s) "str"
  | tup {xs : List D} : TyD (.tup xs) "tuple"
  | lst {xs : List D} : TyD (.lst xs) "list"
  | dic {kvs : List (Key × D)} : TyD (.dic kvs) "dict"
theorem TyD.at {n : String} (t : TyD x n) (r : R K B v x) (pu : Ex B H) : TyX K H v (.type n) := by
  cases t <;> cases r
  · exact .base .non
  · exact .base (.bl _)
  · exact .base (.int _)
  · exact .base (.str _)
  · rename_i a vs h _
    rcases h with h | ⟨o, its, n, h1, h2, _⟩
    · rcases pu.rd h with h | ⟨o, h⟩
      · exact .base (.tup h)
      · exact .fTuple h
    · exact .kTuple h1 h2
  · rename_i h _
    exact .base (.lst (pu _ _ h))
  · rename_i h _ _
    rcases pu.rd h with h | ⟨o, h⟩
    · exact .base (.dK h)
    · exact .fDict h
theorem oa_isi {x : D} {n c : String} {b : Bool} (t : TyD x n) (q : kitB n c = some b) (h : post (.d (.bl b)) Γ) : OpA K F B0 (rIsi K) [x, .ty c] T Γ post := fun τ σ H B S vs Q w rl k => by
  obtain ⟨v1, v2, rfl, r, r2⟩ := rl.two
  cases r2
  exact ⟨_, _, .type n, .type c, b, rfl, .ty c, t.at r w.pu, kit_ty q, k _ _ Γ H h ⟨_, _, w.pushd .bl⟩⟩
def wipeE : En → List Nat → En
  | Γ, [] => Γ
  | Γ, j :: js => (wipeE Γ js).set j none
theorem RS.unset : ∀ {σ : List (Option V)} {Γ : List (Option O)} {S : Ad} {j : Nat} {v : Option V}, RS K B H S σ Γ → RS K B H S (σ.set j v) (Γ.set j none)
  | _, _, _, _, _, .nil => .nil
  | _, _, _, 0, _, .un r => .un r
  | _, _, _, 0, _, .cons _ s2 _ _ r => .un (r.tr (.refl B) s2 fun _ _ _ e => e)
  | _, _, _, j + 1, _, .un r => .un (RS.unset r)
  | _, _, _, j + 1, _, .cons s1 s2 d r rs => .cons s1 s2 d r (RS.unset rs)
theorem HW.unset (h : HW K F B0 τ T σ Γ H B S) (j : Nat) (v : Option V) : HW K F B0 τ T (σ.set j v) (Γ.set j none) H B S := by
  refine ⟨h.fr, h.pu, h.b0, h.ow, h.nw, ?_, h.lt⟩
  have r := RS.unset (j := τ.length + j) (v := v) h.rs
  rw [List.set_append_right _ _ (by simp), List.set_append_right _ _ (by simp [h.lt]), List.length_map, List.length_map, ← h.lt, Nat.add_sub_cancel_left] at r
  exact r
theorem HW.wipe : ∀ {js : List Nat}, HW K F B0 τ T σ Γ H B S → HW K F B0 τ T (L2.wipe σ js) (wipeE Γ js) H B S
  | [], h => h
  | j :: _, h => (HW.wipe h).unset j none
/-- the slots are as they were, but for some that are forgotten -/
theorem HW.back (h : HW K F B0 τ T σ Γ H B S) {σ' : L2.St} {Γ' : En} (w : HW K F B0 τ T σ' Γ' H B S) : True := trivial
/-- a target that stores in the comprehension's own slots alone -/
def GoW (K : PySem.W.Frag) (F B0 : Hp) (js : List Nat) (g : TG) (d : D) (T : List O) (Γ : En) (post : En → Prop) : Prop := ∀ (τ : List V) (σ : L2.St) (H : Hp) (v : V) (Q : L2.St → Hp → Prop), Ho K F B0 (v :: τ) (.d d :: T) (L2.wipe σ js) Γ H →
  (∀ σ' Γ' H', post Γ' → L2.wipe σ' js = L2.wipe σ js → Ho K F B0 τ T σ' Γ' H' → Q σ' H') → g v (L2.wipe σ js) H Q
theorem wipe_set {j : Nat} : ∀ {js : List Nat} {σ : L2.St} {v : Option V}, j ∈ js → L2.wipe (σ.set j v) js = L2.wipe σ js
  | [], _, _, h => by cases h
  | k :: js, σ, v, h => by
    unfold L2.wipe
    by_cases q : j = k
    · subst q
      by_cases q2 : j ∈ js
      · rw [wipe_set q2]
      · have e : ∀ (js : List Nat) (σ : L2.St), j ∉ js → L2.wipe (σ.set j v) js = (L2.wipe σ js).set j v := by
          intro js
          induction js with
          | nil => intro σ _; rfl
          | cons k js ih =>
            intro σ h
            simp only [List.mem_cons, not_or] at h
            unfold L2.wipe
            rw [ih σ h.2, List.set_comm _ _ h.1]
        rw [e js σ q2, List.set_set]
    · have h2 : j ∈ js := (List.mem_cons.mp h).resolve_left q
      rw [wipe_set h2]
theorem wipe_wipe : ∀ {js ks : List Nat} {σ : L2.St}, (∀ k ∈ js, k ∈ ks) → L2.wipe (L2.wipe σ js) ks = L2.wipe σ ks
  | [], _, _, _ => rfl
  | j :: js, ks, σ, h => by
    show L2.wipe ((L2.wipe σ js).set j none) ks = _
    rw [wipe_set (h j (by simp)), wipe_wipe fun k hk => h k (by simp [hk])]
theorem gow_name {js : List Nat} {j : Nat} {d : D} (hj : j ∈ js) (hi : j < Γ.length) (h : posts1 (Γ.set j (some (.d d)))) : GoW K F B0 js (gName j) d T Γ posts1 := fun τ σ H v Q ⟨_, _, w⟩ k => by
  obtain ⟨S', w⟩ := w.put hi
  exact k _ _ _ h (by rw [wipe_set hj, wipe_wipe fun _ h => h]) ⟨_, S', w⟩
def GoWs (K : PySem.W.Frag) (F B0 : Hp) (js : List Nat) (g : TGs) (xs : List D) (T : List O) (Γ : En) (post : En → Prop) : Prop := ∀ (τ : List V) (σ σ0 : L2.St) (H B : Hp) (S : Ad) (vs : List V) (Q : L2.St → Hp → Prop), HW K F B0 τ T σ Γ H B S → RL K B vs xs → L2.wipe σ js = L2.wipe σ0 js →
  (∀ σ' Γ' H', post Γ' → L2.wipe σ' js = L2.wipe σ0 js → Ho K F B0 τ T σ' Γ' H' → Q σ' H') → g vs σ H Q
theorem gow_tup {js : List Nat} {g : TGs} {n : Nat} {d : D} {xs : List D} (e : d = .tup xs) (hn : xs.length = n) (h : GoWs K F B0 js g xs T Γ posts1) : GoW K F B0 js (gTup K n g) d T Γ posts1 := fun τ σ H v Q ⟨B, S, w⟩ k => by
  subst e
  obtain ⟨r, S2, _, w2⟩ := w.popd
  cases r with
  | @tup a vs _ sq rl => exact ⟨a, vs, rfl, w.pu.sqT sq, by rw [rl.length, hn], h τ _ σ H B S2 vs Q w2 rl (wipe_wipe fun _ h => h) k⟩
theorem gows_nil {js : List Nat} (h : posts1 Γ) : GoWs K F B0 js gNil [] T Γ posts1 := fun τ σ σ0 H B S vs Q w r e k => by
  cases r
  exact ⟨rfl, k σ Γ H h e ⟨_, _, w⟩⟩
theorem gows_name {js : List Nat} {xs : List D} {g : TGs} {j : Nat} (hj : j ∈ js) (hi : j < Γ.length) (h : GoWs K F B0 js g xs T (Γ.set j (some (.d x))) posts1) : GoWs K F B0 js (gCons (gName j) g) (x :: xs) T Γ posts1 := fun τ σ σ0 H B S vs Q w r e k => by
  cases r with
  | cons r rl =>
    obtain ⟨S', w'⟩ := (w.pushd r).put hi
    exact ⟨_, _, rfl, h τ _ σ0 H B S' _ Q w' rl (by rw [wipe_set hj, e]) k⟩
theorem RS.reset : ∀ {σ : List (Option V)} {Γ : List (Option O)} {S : Ad} {j : Nat}, RS K B H S (σ.set j none) Γ → Γ.set j none = Γ → RS K B H S σ Γ
  | [], _, _, _, r, _ => r
  | _ :: _, [], _, 0, r, _ => nomatch r
  | _ :: _, [], _, _ + 1, r, _ => nomatch r
  | v :: σ, g :: Γ, S, 0, r, e => by
    rw [List.set_cons_zero] at r e
    have e2 : none = g := (List.cons.inj e).1
    subst e2
    cases r with
    | un r => exact .un r
  | v :: σ, g :: Γ, S, j + 1, r, e => by
    rw [List.set_cons_succ] at r e
    have e2 := (List.cons.inj e).2
    cases r with
    | un r => exact .un (RS.reset r e2)
    | cons s1 s2 d r rs => exact .cons s1 s2 d r (RS.reset rs e2)
theorem HW.reset {j : Nat} (h : HW K F B0 τ T (σ.set j none) Γ H B S) (e : Γ.set j none = Γ) : HW K F B0 τ T σ Γ H B S := by
  refine ⟨h.fr, h.pu, h.b0, h.ow, h.nw, ?_, h.lt⟩
  refine RS.reset (j := τ.length + j) ?_ ?_
  · rw [List.set_append_right _ _ (by simp), List.length_map, Nat.add_sub_cancel_left]; exact h.rs
  · rw [List.set_append_right _ _ (by simp [h.lt]), List.length_map, ← h.lt, Nat.add_sub_cancel_left, e]
theorem HW.unwipe : ∀ {js : List Nat}, HW K F B0 τ T (L2.wipe σ js) Γ H B S → (∀ j ∈ js, Γ.set j none = Γ) → HW K F B0 τ T σ Γ H B S
  | [], h, _ => h
  | j :: js, h, e => HW.unwipe (HW.reset h (e j (by simp))) fun k hk => e k (by simp [hk])
/-- the second thing of the pile, a list, takes the first one -/
theorem HW.appTop {y : V} {D : Addr} {acc : List O} (h : HW K F B0 (y :: .ref D :: τ) (o :: .ol acc :: T) σ Γ H B S) : ∃ us S', H D = some (.lst us) ∧ us.length = acc.length ∧ HW K F B0 (.ref D :: τ) (.ol (acc ++ [o]) :: T) σ Γ (upd H D (.lst (us ++ [y]))) B S' := by
  obtain ⟨So, Sr, s1, s2, dj, ro, wr⟩ := h.pop
  obtain ⟨S1, S2, t1, t2, dj2, rl, w2⟩ := wr.pop
  cases rl with
  | @ol _ S4 _ us _ ha hs hn hc rs =>
  have len : us.length = acc.length := by simpa using rs.len
  have nb : ∀ b, S2 b → b ≠ D := fun b z e => by subst e; exact dj2 b ha z
  refine ⟨us, fun b => (S1 b ∨ So b) ∨ S2 b, hc, len, ⟨fun b u z => ?_, fun b u z => ?_, h.b0, fun b z => ?_, h.nw, .cons (S1 := fun b => S1 b ∨ So b) (S2 := S2) (fun b z => .inl z) (fun b z => .inr z) (fun b z y => z.elim (fun z => dj2 b z y) (fun z => dj b z (t2 b y)))
    (.ol (S' := fun b => S4 b ∨ So b) (.inl ha) (fun b z => z.imp (hs b) id) (fun z => z.elim hn fun z => dj D z (t1 D ha)) upd_same ?_) (w2.rs.at fun b u z q => by rw [upd_ne (nb b z)]; exact q), by have := w2.lt; simp [this]⟩⟩
  · have hn : b ≠ D := fun q => by rw [q, (wr.ow D (t1 D ha)).1] at z; cases z
    rw [upd_ne hn]; exact h.fr b u z
  · have hn : b ≠ D := fun q => by rw [q, (wr.ow D (t1 D ha)).2.1] at z; cases z
    rw [upd_ne hn]; exact h.pu b u z
  · have : F b = none ∧ B b = none ∧ H b ≠ none := by
      rcases z with (z | z) | z
      · exact wr.ow b (t1 b z)
      · exact h.ow b (s1 b z)
      · exact wr.ow b (t2 b z)
    refine ⟨this.1, this.2.1, ?_⟩
    by_cases hn : b = D
    · rw [hn, upd_same]; simp
    · rw [upd_ne hn]; exact this.2.2
  · rw [List.map_append, List.map_append]
    exact (rs.snoc ro fun b z y => dj b y (t1 b (hs b z))).at fun b u z q => by
      rw [upd_ne (fun e => by subst e; exact z.elim hn fun z => dj b z (t1 b ha))]; exact q
theorem wipeE_same : ∀ {js : List Nat}, (∀ j ∈ js, Γ.set j none = Γ) → wipeE Γ js = Γ
  | [], _ => rfl
  | j :: js, h => by
    show (wipeE Γ js).set j none = Γ
    rw [wipeE_same fun k hk => h k (by simp [hk])]
    exact h j (by simp)
end
end SK
namespace SK
open PySem PySem.Spec PyProof.Rows L2
def iSeq (K : PySem.W.Frag) (tl : TE) : TI := fun σ H R => tl σ H fun x H1 => (∃ a, x = .ref a ∧ (∃ xs, SqL K H1 a xs) ∧ R (Itl K a) H1) ∨ ((∃ a, x = .ref a ∧ (∃ xs, SqT K H1 a xs) ∧ R (Itt K a) H1) ∨ ∃ s, x = .str s ∧ R (Its s) H1)
theorem pi_seq {X : Cx} {tg l : Expr} {tl : TE} (hl : PE X l tl) : PI X tg l (iSeq X.K tl) := by
  refine ⟨fun pins s σ H R I h => ?_⟩
  -- the three kinds, each by its own rule over a value that is there
  refine thn (hl.run pins s σ H _ I h) fun v s1 ⟨x, H1, I1, r1, q1⟩ => ?_
  rcases q1 with ⟨a, e, ⟨xs, hq⟩, q⟩ | ⟨a, e, ⟨xs, hq⟩, q⟩ | ⟨z, e, q⟩
  · subst e
    cases r1
    obtain ⟨its, rv, p, hz⟩ := I1.list hq
    refine wpAny_pyIter_list p.isList ?_
    refine ⟨s1.heap.objs.size, [s1.heap.objs.size], _, _, H1, rfl, I1.kept (t' := s1.toks) fun b o e => Heap.get?_push_of_some _ e, turn_list a _, ⟨_, Heap.get?_push_size _ rfl, rfl, rfl⟩, fun b hb => ?_, q⟩
    have e : b = s1.heap.objs.size := by simpa using hb
    subst e
    exact I1.fpOk (Nat.le_refl _) (I1.hok.fresh (Nat.le_refl _))
  · subst e
    cases r1
    obtain ⟨its, rv, p, hz⟩ := I1.tuple hq
    refine wpAny_pyIter_tuple (show s1.heap.IsTuple a its.toArray from p) ?_
    refine ⟨s1.heap.objs.size, [s1.heap.objs.size], _, _, H1, rfl, I1.kept (t' := s1.toks) fun b o e => Heap.get?_push_of_some _ e, turn_tuple a _, ⟨_, Heap.get?_push_size _ rfl, rfl, rfl⟩, fun b hb => ?_, q⟩
    have e : b = s1.heap.objs.size := by simpa using hb
    subst e
    exact I1.fpOk (Nat.le_refl _) (I1.hok.fresh (Nat.le_refl _))
  · subst e
    obtain ⟨t, rfl⟩ := r1
    cases ha : z.cps.all (· < 128)
    · exact wpAny_pyIter_wide ha (pi_one (tk := s1.toks) I1 _ (turn_str _ z t "str_iterator" (.inr rfl)) ⟨_, Heap.get?_push_size _ rfl, rfl, rfl⟩ q)
    · exact wpAny_pyIter_ascii ha (pi_one (tk := s1.toks) I1 _ (turn_str _ z t "str_ascii_iterator" (.inl rfl)) ⟨_, Heap.get?_push_size _ rfl, rfl, rfl⟩ q)
def rInsert : V → List V → Hp → VK → Prop := fun x vs H Q => ∃ (l : Addr) (xs : List V) (i : Int) (y : V), x = .ref l ∧ vs = [.int i, y] ∧ H l = some (.lst xs) ∧ xs.length < sizeLine ∧ 0 ≤ i ∧ i < 2 ^ 63 ∧
    Q .non (upd H l (.lst (xs.take i.toNat ++ [y] ++ xs.drop i.toNat)))
def rIsiG (K : PySem.W.Frag) : List V → Hp → VK → Prop := fun xs H Q => rIsi K xs H Q ∨ rIsiT K xs H Q
theorem call_isiG {X : Cx} : CallR X (.builtin "isinstance") (rIsiG X.K) := call_isi.or call_isiT
/-- o[i] = v of a list or a dict -/
def rSetG : TSet := fun o i v H Q => rSetL o i v H Q ∨ ∃ a H', o = .ref a ∧ DPut H a i v H' ∧ Q H'
def ipAddG : TIp := fun x y H Q => rI0 (fun i j => .int (i + j)) x y H Q ∨ ∃ i j, x = .str i ∧ y = .str j ∧ i.length + j.length ≤ sizeLine ∧ Q (.str (i ++ j)) H
def ipSubG : TIp := rI0 fun i j => .int (i - j)
section
variable {K : PySem.W.Frag} {F B0 H H' B B' : Hp} {τ τs : List V} {T os : List O} {σ : L2.St} {Γ : En} {S S1 S2 : Ad} {v w : V} {o p : O} {x : D} {post : O → En → Prop} {ta tb tc te td ty tv : TE} {tt tu : TT} {i : Nat} {posts : List D → En → Prop} {postt : Bool → En → Prop} {posts1 : En → Prop} {Dd : EG} {xs : List D} {vs : List V} {r r' : R2}
/-- what a walk finds in a thing -/
inductive Wk : D → List D → Prop
  | seq {x : D} {xs : List D} : D.seq? x = some xs → Wk x xs
  | tup {xs : List D} : Wk (.tup xs) xs
  | str {s : Str} : Wk (.str s) (sgnD s)
theorem goi_seq {tl : TE} {posti : List D → List D → En → Prop} (h : Go K F B0 tl T Γ fun o Γ1 => ∃ xs, Wk o.fz xs ∧ posti xs [o.fz] Γ1) : GoI K F B0 (iSeq K tl) T Γ posti := fun τ σ H Q hw k =>
  h τ σ H _ hw fun v o Γ1 H1 ⟨xs, q, h1⟩ ⟨_, _, w1⟩ => by
    obtain ⟨B2, S2, w2, _⟩ := w1.fz
    obtain ⟨r, S3, _, w3⟩ := w2.popd
    generalize o.fz = y at r q h1 w2
    cases q with
    | seq q =>
      obtain ⟨a, vs, e, sq, rl⟩ := r.seqL q
      subst e
      exact .inl ⟨a, rfl, ⟨vs, w2.pu.sqL sq⟩, k (Itl K a) [.ref a] [y] xs Γ1 H1 h1 ⟨_, _, w2⟩ rfl (iter_list q)⟩
    | tup =>
      cases r with
      | @tup a vs _ sq rl => exact .inr (.inl ⟨a, rfl, ⟨vs, w2.pu.sqT sq⟩, k (Itt K a) [.ref a] [.tup xs] xs Γ1 H1 h1 ⟨_, _, w2⟩ rfl iter_tup⟩)
    | @str s =>
      cases r
      refine .inr (.inr ⟨s, rfl, k _ [.str s] [.str s] _ Γ1 H1 h1 ⟨_, _, w2⟩ rfl ?_⟩)
      intro τ T σ Γ H B S h _
      exact iter_str τ T σ Γ H B S h .nil
/-- a < b < c -/
theorem go_chain (h : Go K F B0 ta T Γ fun o1 Γ1 => Go K F B0 tb (.d o1.fz :: T) Γ1 fun o2 Γ2 => Op2 K F B0 r o1.fz o2.fz (.d o2.fz :: T) Γ2 fun o Γ3 => ∃ b, o = .d (.bl b) ∧
    (b = true → Go K F B0 tc (.d o2.fz :: T) Γ3 fun o3 Γ4 => Op2 K F B0 r' o2.fz o3.fz T Γ4 post) ∧ (b = false → post (.d (.bl false)) Γ3)) : Go K F B0 (tChain r r' ta tb tc) T Γ post := fun τ σ H Q hw k =>
  h τ σ H _ hw fun v1 o1 Γ1 H1 h1 ⟨_, _, w1⟩ => by
    obtain ⟨_, _, w1, _⟩ := w1.fz
    refine h1 _ σ H1 _ ⟨_, _, w1⟩ fun v2 o2 Γ2 H2 h2 ⟨_, _, w2⟩ => ?_
    obtain ⟨_, _, w2, e2⟩ := w2.fz
    obtain ⟨r2, _, _, w2'⟩ := w2.popd
    obtain ⟨r1, _, _, w0⟩ := w2'.popd
    have w3 := w0.pushd r2
    refine h2 _ σ H2 _ _ v1 v2 _ w3 r1 r2 fun v o Γ3 H3 ⟨b, eo, ht, hf⟩ ⟨_, _, w4⟩ => ?_
    subst eo
    obtain ⟨rb, _, _, w5⟩ := w4.popd
    cases rb
    refine ⟨b, rfl, ?_⟩
    cases b with
    | true =>
      refine iteT (ht rfl _ σ H3 _ ⟨_, _, w5⟩ fun v3 o3 Γ4 H4 h4 ⟨_, _, w6⟩ => ?_)
      obtain ⟨_, _, w6, r3, _⟩ := w6.fzd
      obtain ⟨r2', _, _, w6⟩ := w6.popd
      exact h4 τ σ H4 _ _ v2 v3 Q w6 r2' r3 k
    | false =>
      obtain ⟨_, _, _, w6⟩ := w5.popd
      exact iteF (k _ _ Γ3 H3 (hf rfl) ⟨_, _, w6.pushd .bl⟩)
theorem oa_isiG {x : D} {n c : String} {b : Bool} (t : TyD x n) (q : kitB n c = some b) (h : post (.d (.bl b)) Γ) : OpA K F B0 (rIsiG K) [x, .ty c] T Γ post := fun τ σ H B S vs Q w rl k =>
  .inl (oa_isi t q h τ σ H B S vs Q w rl k)
theorem oi_add {a b : Int} (h : post (.d (.int (a + b))) Γ) : Op2 K F B0 ipAddG (.int a) (.int b) T Γ post := fun τ σ H B S v1 v2 Q w r1 r2 k => by
  cases r1; cases r2
  exact .inl ⟨a, b, rfl, rfl, k _ _ Γ H h ⟨_, _, w.pushd .int⟩⟩
theorem oi_sub {a b : Int} (h : post (.d (.int (a - b))) Γ) : Op2 K F B0 ipSubG (.int a) (.int b) T Γ post := fun τ σ H B S v1 v2 Q w r1 r2 k => by
  cases r1; cases r2
  exact ⟨a, b, rfl, rfl, k _ _ Γ H h ⟨_, _, w.pushd .int⟩⟩
theorem RL.ints : ∀ {vs : List V} {ns : List Int}, RL K B vs (ns.map D.int) → vs = ns.map V.int
  | [], [], _ => rfl
  | v :: vs, n :: ns, .cons r t => by cases r; rw [RL.ints t]; rfl
  | _ :: _, [], r => by cases r
  | [], _ :: _, r => by cases r
/-- d[k] = e, xs[i] = e, as a target -/
theorem gog_setD {ti : TE} (h : Go K F B0 ti (o :: T) Γ fun ok Γ2 => ∃ k kvs, ok = .d (kD k) ∧ Γ2[i]? = some (some (.od kvs)) ∧ kvs.length < 100000 ∧ posts1 (Γ2.set i (some (.od (dput kvs k o))))) (h0 : ∃ kvs0, Γ[i]? = some (some (.od kvs0))) :
    GoG K F B0 (gSub (tVar i) ti rSetG) o T Γ posts1 := fun τ σ H v1 Q ⟨B1, S1, w1⟩ k' => by
  obtain ⟨kvs0, e0⟩ := h0
  obtain ⟨v, T1, a1, r1, _, _⟩ := w1.mut1 e0
  refine ⟨v, a1, h (v1 :: τ) σ H _ ⟨B1, S1, w1⟩ fun v2 o2 Γ2 H2 ⟨k, kvs, eo, e2, hz, h2⟩ ⟨B2, S2, w2⟩ => ?_⟩
  subst eo
  obtain ⟨rk, S3, _, w3⟩ := w2.popd
  have ek := rk.kV
  subst ek
  obtain ⟨v', S5, So, a2, r2, ro, dj, _, _, f⟩ := w3.mut2 e2
  rw [a1] at a2
  cases a2
  cases r2 with
  | @od _ S4 a ws _ ha hs hn hc nd ek rs =>
  have len : ws.length = kvs.length := by have := congrArg List.length ek; simpa using this
  refine .inr ⟨a, _, rfl, .inl ⟨ws, k, hc, rfl, by rw [len]; exact Nat.lt_of_lt_of_le hz (by decide), rfl⟩, ?_⟩
  obtain ⟨S', w4⟩ := f a (.dK (putK ws k v1)) (.od (dput kvs k o)) ha (.od (S' := fun b => S4 b ∨ So b) (.inl ha) (fun b z => z.imp (hs b) id) (fun z => z.elim hn fun z => dj a ha z) upd_same (dput_nodup nd) (by rw [putK_dput]; exact dput_keys ek) (by
    rw [putK_dput]
    exact (rs.dput ro nd ek fun b z => dj b (hs b z)).at fun b u z q => by
      rw [upd_ne (fun e => by subst e; exact z.elim hn fun z => dj b ha z)]; exact q))
  exact k' σ _ _ h2 ⟨B2, S', w4⟩
theorem fl_ins {So : Ad} (ro : RO K B H So w o) {Si : Ad} : ∀ {vs : List V} {xs : List O} (n : Nat), RS K B H Si (vs.map some) (xs.map some) → (∀ b, Si b → ¬ So b) → RS K B H (fun b => Si b ∨ So b) ((vs.take n ++ [w] ++ vs.drop n).map some) ((xs.take n ++ [o] ++ xs.drop n).map some) := by
  intro vs xs n r dj
  induction n generalizing vs xs Si with
  | zero => exact .cons (S1 := So) (S2 := Si) (fun b z => .inr z) (fun b z => .inl z) (fun b z y => dj b y z) ro r
  | succ n ih =>
    cases vs with
    | nil =>
      cases xs with
      | nil => exact .cons (S1 := So) (S2 := Si) (fun b z => .inr z) (fun b z => .inl z) (fun b z y => dj b y z) ro r
      | cons x xs => cases r
    | cons v vs =>
      cases xs with
      | nil => cases r
      | cons x xs =>
        cases r with
        | @cons _ T1 T2 _ _ _ _ s1 s2 d r rs =>
          have := ih rs fun b z => dj b (s2 b z)
          simp only [List.take_succ_cons, List.drop_succ_cons, List.cons_append, List.map_cons]
          exact .cons (S1 := T1) (S2 := fun b => T2 b ∨ So b) (fun b z => .inl (s1 b z)) (fun b z => z.imp (s2 b) id) (fun b z y => y.elim (d b z) (dj b (s1 b z))) r this
/-- xs.insert(i, e), xs a name -/
theorem gos_insert {ti : TE} (h : Go K F B0 ti T Γ fun oi Γ1 => ∃ j : Int, oi = .d (.int j) ∧ 0 ≤ j ∧ j < 2 ^ 63 ∧ Go K F B0 te (.d (.int j) :: T) Γ1 fun o Γ2 => ∃ xs, Γ2[i]? = some (some (.ol xs)) ∧ xs.length < 100000 ∧ Dd.nx (Γ2.set i (some (.ol (xs.take j.toNat ++ [o] ++ xs.drop j.toNat))))) (h0 : ∃ xs, Γ[i]? = some (some (.ol xs))) :
    GoS K F B0 (tDrop (tBM K "list" rInsert (tVar i) (tCons ti (tCons te tNil)))) T Γ Dd := fun τ σ H De hw s => by
  obtain ⟨B, S, w⟩ := hw
  obtain ⟨xs0, e0⟩ := h0
  obtain ⟨v, S1, a1, r1, _, _⟩ := w.mut1 e0
  cases r1 with
  | @ol _ _ a vs _ _ _ _ hc _ =>
  refine ⟨.ref a, a1, Or.inl ⟨rfl, vs, SqL.of hc⟩, h τ σ H _ ⟨B, S, w⟩ fun v1 o1 Γ1 H1 ⟨j, ej, hj0, hj1, h1⟩ w1 => ?_⟩
  subst ej
  refine h1 _ σ H1 _ w1 fun v2 o2 Γ2 H2 ⟨xs, e2, hz, h2⟩ ⟨B2, S2, w2⟩ => ?_
  have rj : R K B2 v1 (.int j) := by
    obtain ⟨_, _, _, _, _, _, wt⟩ := w2.pop
    exact wt.popd.1
  cases rj
  have w2' := HW.under (τs := [.int j]) (os := [.d (.int j)]) w2 rfl
  obtain ⟨v', S3, So, a2, r2, ro, dj, _, _, f⟩ := w2'.mut2 e2
  rw [a1] at a2
  cases a2
  cases r2 with
  | @ol _ S4 _ us _ ha hs hn hc2 rs =>
  have len : us.length = xs.length := by simpa using rs.len
  refine ⟨a, us, j, v2, rfl, rfl, hc2, by rw [len]; exact Nat.lt_of_lt_of_le hz (by decide), hj0, hj1, ?_⟩
  obtain ⟨S', w3⟩ := f a (.lst (us.take j.toNat ++ [v2] ++ us.drop j.toNat)) (.ol (xs.take j.toNat ++ [o2] ++ xs.drop j.toNat)) ha (.ol (S' := fun b => S4 b ∨ So b) (.inl ha) (fun b z => z.imp (hs b) id) (fun z => z.elim hn fun z => dj a ha z) upd_same
    ((fl_ins ro j.toNat rs fun b z => dj b (hs b z)).at fun b u z q => by
      rw [upd_ne (fun e => by subst e; exact z.elim hn fun z => dj b ha z)]; exact q))
  exact s.nx σ _ _ h2 ⟨B2, S', w3⟩
end
section
variable (P : Program) (w : World) (K : PySem.W.Frag) (mg : Str → Option Value) (base : Heap)
/-- a def stands at a module's name -/
def Df (x : Str) (st : Stmt) : Prop := ∃ f fd, Fun K x x st f fd ∧ mg x = some (.ref f)
/-- .. and keeps a contract -/
def Cal (x : Str) (k : Nat) (ps : List Str) (C : Ct) : Prop := ∃ f fd, FnOk P w K mg base CX0 k f fd ps (spP K C) ∧ mg x = some (.ref f) ∧ PySem.W.keepIn K (.ref f) = true ∧ Binds K fd ps [] ∧ ∃ oc od sl, K.lookup f = some ⟨oc, od, .func fd, sl⟩
/-- .. one that may let an exception out -/
def CalX (x : Str) (k : Nat) (ps : List Str) (C : Ct) : Prop := ∃ f fd, FnOk P w K mg base (L2.CX P w) k f fd ps (spP K C) ∧ mg x = some (.ref f) ∧ PySem.W.keepIn K (.ref f) = true ∧ Binds K fd ps [] ∧ ∃ oc od sl, K.lookup f = some ⟨oc, od, .func fd, sl⟩
end
theorem df_mk {K : PySem.W.Frag} {mg : Str → Option Value} {h : Heap} (X : K.In h) (G : h.Ns mainGlobals mg) {x : Str} {st : Stmt} {f : Addr} {oc : Value} {od an : Option Addr} {sl : Array (Option Value)} {kV dc pm cd ct : Value}
    (a : PySem.W.nsIn K mainGlobals x = some (some (.ref f))) (l : K.lookup f = some ⟨oc, od, .func (PySem.W.fnOf x x (defArgs st) (defBody st) (defScope st) .none kV dc pm an cd ct), sl⟩)
    (c : PySem.W.codeIn K cd x = true) (k : PySem.W.keepIn K (.ref f) = true) : Df K mg x st := ⟨f, _, fun_mk (st := st) l c k, PySem.W.mg_of X G a⟩
theorem Fun.lk {K : PySem.W.Frag} {x : Str} {st : Stmt} {f : Addr} {fd : FuncData} (F : Fun K x x st f fd) : ∃ oc od sl, K.lookup f = some ⟨oc, od, .func fd, sl⟩ := by
  obtain ⟨oc, od, kV, doc, pm, an, cdv, ct, osl, _, l, _⟩ := F.ex
  exact ⟨oc, od, osl, l⟩
theorem fn_same {P : Program} {w : World} {K : PySem.W.Frag} {mg : Str → Option Value} {base : Heap} {CX : CXT} {k : Nat} {f : Addr} {fd fd2 : FuncData} {ps : List Str} {sp : Sp} {oc oc2 : Value} {od od2 : Option Addr} {sl sl2 : Array (Option Value)}
    (l : K.lookup f = some ⟨oc, od, .func fd, sl⟩) (l2 : K.lookup f = some ⟨oc2, od2, .func fd2, sl2⟩) (G : FnOk P w K mg base CX k f fd2 ps sp) : FnOk P w K mg base CX k f fd ps sp := by
  rw [l] at l2
  cases l2
  exact G
/-- the law's own promise -/
def lawC : Ct := fun xs p q => ∃ ns : List Int, xs = [.sq (ns.map D.int)] ∧ ns.length ≤ 63 ∧ (∀ z ∈ ns, Builtin.Int.intBits z ≤ 1048576) ∧ p = (fun o => o = .d (.bl true)) ∧ q = noX
theorem RL.ofInts {K : PySem.W.Frag} {B : Hp} : ∀ ns : List Int, RL K B (ns.map V.int) (ns.map D.int)
  | [] => .nil
  | _ :: r => .cons .int (RL.ofInts r)
theorem law_walk {l : PySem.W.OpenLaw} {q : Program} {loose : List Str} {XP : (Str → Option Value) → Heap → Prop} {YP : World → Heap → Prop} {d : DefRec} {K : Params → PySem.W.Frag} {lv : Nat} (hn : l.most = some 63) (hdf : d.params.defaults = [])
    (hr : Room lv callerA) (hY : ∀ (w : World) (h : Heap), YP w h → (K w.params).In h)
    (F : ∀ (w : World) (mg : Str → Option Value) (fa : Addr) (h : Heap), (K w.params).In h → h.Ns mainGlobals mg → mg d.name = some (.ref fa) →
      ∃ fd : FuncData, (∀ (s : Shared) (u : Value), BindsTo s fd ⟨[u], []⟩ [("_law_script", u)]) ∧ ∀ base : Heap, (K w.params).In base → base.Ns mainGlobals mg → FnOk l.prog w (K w.params) mg base CX0 lv fa fd ["_law_script"] (spP (K w.params) lawC)) :
    PySem.W.WalkO q loose XP YP l.row.toRowW d [] (fun f vs => PySem.call f vs) :=
  L2.walk_ofB (n := 63) (k := lv) (x := "_law_script") (CX := fun _ => CX0) (sp := fun w => spP (K w.params) lawC) hn (by decide) hdf hr hY F
    (fun w H a ns hl hb _ hS => ⟨H, [.sq (ns.map D.int)], _, _, .refl H, .cons (.sq hS (RL.ofInts ns)) .nil, ⟨ns, rfl, hl, hb, rfl, rfl⟩,
      (fun v o B' S' H' e _ _ _ _ _ ro => by cases e; cases ro with | d r => cases r; rfl), fun _ _ _ _ _ e => e.elim⟩) fun _ _ _ _ _ z => z
theorem fz_d {x : D} : (O.d x).fz = x := rfl
theorem fzL_fl {xs : List D} : fzL (xs.map O.d) = xs := by
  induction xs with
  | nil => rfl
  | cons x xs ih => rw [List.map_cons, fzL, ih]; rfl
theorem fz_fl {xs : List D} : (O.ol (xs.map O.d)).fz = .lst xs := by
  show D.lst (fzL (xs.map O.d)) = .lst xs
  congr 1
  induction xs with
  | nil => rfl
  | cons x xs ih => rw [List.map_cons, fzL, ih]; rfl
theorem fz_fk {xs : List (Key × D)} : (O.od (xs.map fun p => (p.1, O.d p.2))).fz = .dic xs := by
  show D.dic (fzK (xs.map fun p => (p.1, O.d p.2))) = .dic xs
  congr 1
  induction xs with
  | nil => rfl
  | cons x xs ih => rw [List.map_cons, fzK, ih]; rfl
end SK
namespace SK
open PySem PySem.Spec PyProof.Rows L2
section
variable {X : Cx} {K : PySem.W.Frag} {e l tg a b : Expr} {es : List Expr} {te tl ta tb : TE} {t : TA} {pos apos cpos tpos p : Pos}
theorem k_add (h : X.K = K) : OpR X (binaryOp .Add) (rAddG K) := by cases h; exact op_addG
theorem k_eq (h : X.K = K) (hu : X.A.units + 64 < cLine) : OpR X (compareOp .Eq) (rEqG K) := by cases h; exact op_eqG hu
theorem k_ne (h : X.K = K) (hu : X.A.units + 64 < cLine) : OpR X (compareOp .NotEq) (rNeG K) := by cases h; exact op_neG hu
theorem k_lt (h : X.K = K) (hu : X.A.units < cLine) : OpR X (compareOp .Lt) (rLtG K) := by cases h; exact op_ltG hu
theorem k_in (h : X.K = K) (hu : X.A.units + 1 < cLine) : OpR X (compareOp .In) (rInG K) := by cases h; exact op_inG hu
theorem k_ix (h : X.K = K) (hu : X.A.units + 1 < cLine) : IxR X (rIxG K) := by cases h; exact ix_G hu
theorem k_sl (h : X.K = K) : SlR X (rSlG K) := by cases h; exact sl_G
theorem k_len (h : X.K = K) : CallR X (.builtin "len") (rLenG K) := by cases h; exact call_lenG
theorem k_list (h : X.K = K) (hc : X.calm = true) : CallR X (.type "list") (rListG K) := by cases h; exact call_listG hc
theorem k_isi (h : X.K = K) : CallR X (.builtin "isinstance") (rIsiG K) := by cases h; exact call_isiG
theorem k_seq (h : X.K = K) (hl : PE X l tl) : PI X tg l (iSeq K tl) := by cases h; exact pi_seq hl
theorem k_tup {k n : Nat} {g : TGs} (h : X.K = K) (hc : X.calm = true) (hg : PGs X es g) (hn : (assignEach es X.env).length = n := by rfl) (hst : (assignEach es X.env).findIdx? (·.1) = none := by rfl) : PG X (.Tuple es k pos) (gTup K n g) := by cases h; exact pg_tup hc hg hn hst
theorem k_zip {e2 : Expr} {elts : List Expr} {kk : Nat} (h : X.K = K) (hg : Gl X "zip") (hm : X.mg "zip" = none) (ha : PA X [e, e2] t) (hs : starEach [e, e2] X.env = (false, eval e X.env) :: starEach [e2] X.env := by rfl) (hpl : (backTo pos (starEach [e2] X.env)).any (·.1) = false := by rfl) :
    PI X (.Tuple elts kk tpos) (.Call (.Name "zip" p) [e, e2] [] pos) (iZip K t) := by cases h; exact pi_zip hg hm ha hs hpl
theorem k_bm {to : TE} {T : String} {r : V → List V → Hp → VK → Prop} (h : X.K = K) (q : PE X e (tBM X.K T r to t)) : PE X e (tBM K T r to t) := by cases h; exact q
theorem k_bm0 {to : TE} {T : String} {r : V → List V → Hp → VK → Prop} (h : X.K = K) (q : PE X e (tBM0 X.K T r to)) : PE X e (tBM0 K T r to) := by cases h; exact q
end
end SK
namespace SK
open PySem PySem.Spec PyProof.Rows L2
section
variable {K : PySem.W.Frag} {F B0 H H' B B' : Hp} {τ τs : List V} {T os : List O} {σ : L2.St} {Γ : En} {S S1 S2 : Ad} {v w : V} {o p : O} {x : D} {post : O → En → Prop} {ta : TA} {tb tc te td ty tv tl : TE} {tt tu : TT} {i j : Nat} {posts : List D → En → Prop} {postt : Bool → En → Prop} {posts1 : En → Prop} {Dd : EG} {xs : List D} {vs : List V} {r r' : R2}
theorem atI_map {α : Type} {xs : List α} {e : α → D} {d : α} {i : Int} (h0 : 0 ≤ i) (h1 : i < xs.length) : atI (xs.map e) i = some (e (xs.getD i.toNat d)) := by
  have h2 : i.toNat < xs.length := by omega
  unfold atI ixN
  rw [if_pos h0, List.length_map, if_pos h1]
  simp [h2]
theorem o2_ixN {α : Type} {xs : List α} {e : α → D} (d : α) {x : D} {i : Int} (q : x.items? = some (xs.map e)) (h0 : 0 ≤ i) (h1 : i < xs.length) (h : post (.d (e (xs.getD i.toNat d))) Γ) : Op2 K F B0 (rIxG K) x (.int i) T Γ post :=
  o2_ix q (atI_map h0 h1) h
theorem got_yes (h : postt true Γ) : GoT K F B0 tYes T Γ postt := fun τ σ H Q hw k => k true Γ H h hw
variable {t1 t2 : TS} {g : TG} {wi : TI} {tgt : TG} {ip : TIp}
theorem gos_sA (h : GoS K F B0 (tAsg te g) T Γ { Dd with nx := fun Γ1 => GoS K F B0 t2 T Γ1 Dd }) : GoS K F B0 (tSeq (tAsg te g) t2) T Γ Dd := gos_seq h
theorem gos_sD (h : GoS K F B0 (tDrop te) T Γ { Dd with nx := fun Γ1 => GoS K F B0 t2 T Γ1 Dd }) : GoS K F B0 (tSeq (tDrop te) t2) T Γ Dd := gos_seq h
theorem gos_sN (h : GoS K F B0 t2 T Γ Dd) : GoS K F B0 (tSeq tNext t2) T Γ Dd := gos_seq (gos_next h)
theorem gos_sU (h : GoS K F B0 (tAug i te ip) T Γ { Dd with nx := fun Γ1 => GoS K F B0 t2 T Γ1 Dd }) : GoS K F B0 (tSeq (tAug i te ip) t2) T Γ Dd := gos_seq h
theorem gos_sF (h : GoS K F B0 (tFor wi g t1) T Γ { Dd with nx := fun Γ1 => GoS K F B0 t2 T Γ1 Dd }) : GoS K F B0 (tSeq (tFor wi g t1) t2) T Γ Dd := gos_seq h
theorem gos_sW (h : GoS K F B0 (tWhile tt t1) T Γ { Dd with nx := fun Γ1 => GoS K F B0 t2 T Γ1 Dd }) : GoS K F B0 (tSeq (tWhile tt t1) t2) T Γ Dd := gos_seq h
theorem gos_sIR {u : TS} (h : GoS K F B0 (tIfS tt (tRet te) u) T Γ { Dd with nx := fun Γ1 => GoS K F B0 t2 T Γ1 Dd }) : GoS K F B0 (tSeq (tIfS tt (tRet te) u) t2) T Γ Dd := gos_seq h
theorem gos_sIC {u : TS} (h : GoS K F B0 (tIfS tt tCont u) T Γ { Dd with nx := fun Γ1 => GoS K F B0 t2 T Γ1 Dd }) : GoS K F B0 (tSeq (tIfS tt tCont u) t2) T Γ Dd := gos_seq h
theorem gos_sIB {u : TS} (h : GoS K F B0 (tIfS tt tBreak u) T Γ { Dd with nx := fun Γ1 => GoS K F B0 t2 T Γ1 Dd }) : GoS K F B0 (tSeq (tIfS tt tBreak u) t2) T Γ Dd := gos_seq h
theorem rngD_get {lo : Int} {n k : Nat} {d : D} (h : (rngD lo n)[k]? = some d) : k < n ∧ d = .int (lo + (k : Int)) := by
  have hi : k < n := by
    have := (List.getElem?_eq_some_iff.mp h).1
    simpa [rngD] using this
  refine ⟨hi, ?_⟩
  simp [rngD, hi] at h
  exact h.symm
theorem mapD_get {α : Type} {xs : List α} {e : α → D} {k : Nat} {d : D} (h : (xs.map e)[k]? = some d) : ∃ x, xs[k]? = some x ∧ d = e x := by
  rw [List.getElem?_map] at h
  cases q : xs[k]? with
  | none => rw [q] at h; cases h
  | some x => rw [q] at h; exact ⟨x, rfl, (Option.some.inj h).symm⟩
/-- d[n] = e, d a name, n a number -/
theorem gog_setDI {ti : TE} (h : Go K F B0 ti (o :: T) Γ fun ok Γ2 => ∃ n kvs, ok = .d (.int n) ∧ Γ2[i]? = some (some (.od kvs)) ∧ kvs.length < 100000 ∧ posts1 (Γ2.set i (some (.od (dput kvs (.inl n) o))))) (h0 : ∃ kvs0, Γ[i]? = some (some (.od kvs0))) :
    GoG K F B0 (gSub (tVar i) ti rSetG) o T Γ posts1 :=
  gog_setD (fun τ σ H Q hw k => h τ σ H Q hw fun v ok Γ2 H2 ⟨n, kvs, e, q⟩ w => k v ok Γ2 H2 ⟨.inl n, kvs, e, q⟩ w) h0
/-- data of nesting n at most that == tells -/
def Shp (n : Nat) (x : D) : Prop := x.pl = true ∧ x.py.canLay0 = true ∧ x.py.depth ≤ n
theorem Shp.mono {n m : Nat} {x : D} (h : Shp n x) (l : n ≤ m) : Shp m x := ⟨h.1, h.2.1, Nat.le_trans h.2.2 l⟩
theorem Shp.int {n : Nat} {i : Int} : Shp n (.int i) := ⟨rfl, by simp [D.py, PyData.canLay0], by simp [D.py, PyData.depth]⟩
theorem Shp.bl {n : Nat} {i : Bool} : Shp n (.bl i) := ⟨rfl, by simp [D.py, PyData.canLay0], by simp [D.py, PyData.depth]⟩
theorem Shp.non {n : Nat} : Shp n .non := ⟨rfl, by simp [D.py, PyData.canLay0], by simp [D.py, PyData.depth]⟩
theorem Shp.str {n : Nat} {s : Str} (h : PyData.strOk s = true) : Shp n (.str s) := ⟨rfl, by simpa [D.py, PyData.canLay0] using h, by simp [D.py, PyData.depth]⟩
theorem Shp.all {n : Nat} : ∀ {xs : List D}, (∀ x ∈ xs, Shp n x) → plL xs = true ∧ PyData.canLayAll0 (pyL xs) = true ∧ PyData.depthAll (pyL xs) ≤ n
  | [], _ => ⟨rfl, by simp [pyL, PyData.canLayAll0], by simp [pyL, PyData.depthAll]⟩
  | x :: xs, h => by
    obtain ⟨a, b, c⟩ := h x (by simp)
    obtain ⟨d, e, f⟩ := Shp.all (xs := xs) fun y hy => h y (List.mem_cons_of_mem _ hy)
    refine ⟨by simp [plL, a, d], by simp [pyL, PyData.canLayAll0, b, e], ?_⟩
    simp only [pyL, PyData.depthAll]
    omega
theorem Shp.lst {n : Nat} {xs : List D} (h : ∀ x ∈ xs, Shp n x) : Shp (n + 1) (.lst xs) := by
  obtain ⟨d, e, f⟩ := Shp.all h
  exact ⟨by simpa [D.pl] using d, by simpa [D.py, PyData.canLay0] using e, by simpa [D.py, PyData.depth] using f⟩
theorem Shp.tup {n : Nat} {xs : List D} (h : ∀ x ∈ xs, Shp n x) : Shp (n + 1) (.tup xs) := by
  obtain ⟨d, e, f⟩ := Shp.all h
  exact ⟨by simpa [D.pl] using d, by simpa [D.py, PyData.canLay0] using e, by simpa [D.py, PyData.depth] using f⟩
theorem Shp.lstM {α : Type} {n : Nat} {xs : List α} {e : α → D} (h : ∀ x, Shp n (e x)) : Shp (n + 1) (.lst (xs.map e)) := Shp.lst fun x hx => by
  obtain ⟨y, _, rfl⟩ := List.mem_map.mp hx
  exact h y
theorem Shp.eqs {x y : D} (h : Shp 60 x) (h' : Shp 60 y) : x.eqs y := ⟨h.1, h'.1, by simp only [SeqAt.shaped, h.2.1, Bool.true_and, decide_eq_true_eq]; exact Nat.le_trans h.2.2 (by decide), by simp only [SeqAt.shaped, h'.2.1, Bool.true_and, decide_eq_true_eq]; exact Nat.le_trans h'.2.2 (by decide)⟩
theorem o2_eqSame (n : Nat) (hs : Shp n x) (hn : n ≤ 60) (h : post (.d (.bl true)) Γ) : Op2 K F B0 (rEqG K) x x T Γ post :=
  o2_eqD ((hs.mono hn).eqs (hs.mono hn)) (by rw [SeqAt.eqv_refl _ hs.2.1]; exact h)
theorem o2_neSame (n : Nat) (hs : Shp n x) (hn : n ≤ 60) (h : post (.d (.bl false)) Γ) : Op2 K F B0 (rNeG K) x x T Γ post :=
  o2_neD ((hs.mono hn).eqs (hs.mono hn)) (by rw [SeqAt.eqv_refl _ hs.2.1]; exact h)
end
end SK
namespace SK
open PySem PySem.Spec PyProof.Rows L2
section
variable {K : PySem.W.Frag} {F B0 H H' B B' : Hp} {τ τs : List V} {T os : List O} {σ : L2.St} {Γ : En} {S S1 S2 : Ad} {v w : V} {o p : O} {x : D} {post : O → En → Prop} {ta : TA} {tb tc te td ty tv tl : TE} {tt tu : TT} {i j : Nat} {posts : List D → En → Prop} {postt : Bool → En → Prop} {posts1 : En → Prop} {Dd : EG} {xs : List D} {vs : List V} {r r' : R2} {s : TS}
theorem HW.frz (w : HW K F B0 τ T σ Γ H B S) (e : Γ[i]? = some (some o)) : Ho K F B0 τ T σ (Γ.set i (some (.d o.fz))) H := by
  obtain ⟨v, S', a, w⟩ := w.take e
  obtain ⟨B', S'', w, _⟩ := w.fz
  obtain ⟨S3, w3⟩ := w.put (i := i) (by simpa using (List.getElem?_eq_some_iff.mp e).1)
  have hl : i < σ.length := (List.getElem?_eq_some_iff.mp a).1
  have e2 : σ.set i (some v) = σ := by
    apply List.ext_getElem?
    intro n
    by_cases hn : n = i
    · subst hn; rw [List.getElem?_set_self hl, a]
    · rw [List.getElem?_set_ne (Ne.symm hn)]
  rw [e2, List.set_set] at w3
  exact ⟨B', _, w3⟩
/-- from here on the slot's thing is not changed any more -/
theorem gos_frz (i : Nat) (e : Γ[i]? = some (some o)) (h : GoS K F B0 s T (Γ.set i (some (.d o.fz))) Dd) : GoS K F B0 s T Γ Dd := fun τ σ H De ⟨B, S, w⟩ q => h τ σ H De (w.frz e) q
theorem fzK_d {xs : List (Key × D)} : fzK (xs.map fun p => (p.1, O.d p.2)) = xs := by
  induction xs with
  | nil => rfl
  | cons x xs ih => rw [List.map_cons, fzK, ih]; rfl
theorem cutD_map {α : Type} (e : α → D) (xs : List α) (lo hi : Option Int) : cutD (xs.map e) lo hi = (cutD xs lo hi).map e := by
  simp [cutD]
theorem sIx_n {n d k : Nat} : HT.sIx n d (some (k : Int)) = min k n := by
  simp [HT.sIx]
  omega
theorem cutD_take {α : Type} {xs : List α} {k : Nat} : cutD xs none (some (k : Int)) = xs.take k := by
  unfold cutD
  rw [sIx_n]
  show (xs.drop 0).take (min k xs.length - 0) = _
  rcases Nat.le_total k xs.length with h | h
  · rw [Nat.min_eq_left h]; rfl
  · rw [Nat.min_eq_right h]; exact List.take_length.trans (List.take_of_length_le h).symm
theorem cutD_drop {α : Type} {xs : List α} {k : Nat} : cutD xs (some (k : Int)) none = xs.drop k := by
  unfold cutD
  rw [sIx_n]
  show (xs.drop (min k xs.length)).take (xs.length - min k xs.length) = _
  rcases Nat.le_total k xs.length with h | h
  · rw [Nat.min_eq_left h]
    apply List.take_of_length_le
    simp
  · rw [Nat.min_eq_right h]
    simp [List.drop_of_length_le h]
theorem cutD_mid {α : Type} {xs : List α} {j k : Nat} : cutD xs (some (j : Int)) (some (k : Int)) = (xs.take k).drop j := by
  unfold cutD
  rw [sIx_n, sIx_n]
  rw [List.drop_take]
  rcases Nat.le_total j xs.length with h | h
  · rw [Nat.min_eq_left h]
    rcases Nat.le_total k xs.length with h' | h'
    · rw [Nat.min_eq_left h']
    · rw [Nat.min_eq_right h']
      rw [List.take_of_length_le (by simp), List.take_of_length_le (by simp; omega)]
  · rw [Nat.min_eq_right h, List.drop_of_length_le h, List.drop_of_length_le (Nat.le_refl _)]
    simp
end
end SK
namespace SK
open PySem PySem.Spec PyProof.Rows L2
section
variable {K : PySem.W.Frag} {F B0 H H' B B' : Hp} {τ τs : List V} {T os : List O} {σ : L2.St} {Γ : En} {S S1 S2 : Ad} {v w : V} {o p : O} {x : D} {post : O → En → Prop} {ta : TA} {tb tc te td ty tv tl : TE} {tt tu : TT} {i j : Nat} {posts : List D → En → Prop} {postt : Bool → En → Prop} {posts1 : En → Prop} {Dd : EG} {xs : List D} {vs : List V} {r r' : R2} {s : TS}
/-- d.get(k, e) -/
theorem go_dget2 (h : Go K F B0 td T Γ fun o Γ1 => ∃ kvs, o.fz = .dic kvs ∧ Go K F B0 ty (.d (.dic kvs) :: T) Γ1 fun ok Γ2 => ∃ k, ok = .d (kD k) ∧ Go K F B0 te (.d (kD k) :: .d (.dic kvs) :: T) Γ2 fun oz Γ3 => post (.d ((dval kvs k).getD oz.fz)) Γ3) :
    Go K F B0 (tDGet2 td ty te) T Γ post := fun τ σ H Q hw kk =>
  h τ σ H _ hw fun v1 o1 Γ1 H1 ⟨kvs, e1, h1⟩ ⟨_, _, w1⟩ => by
    obtain ⟨B2, S2, w1, _⟩ := w1.fz
    rw [e1] at w1
    obtain ⟨r1, _⟩ := w1.popd
    cases r1 with | @dic a ws _ hd _ rk =>
    refine ⟨a, rfl, .inl ⟨ws, w1.pu.rd hd⟩, h1 _ σ H1 _ ⟨_, _, w1⟩ fun v2 o2 Γ2 H2 ⟨k, e2, h2⟩ w2 => ?_⟩
    subst e2
    refine h2 _ σ H2 _ w2 fun v3 o3 Γ3 H3 h3 ⟨_, _, w3⟩ => ?_
    obtain ⟨_, _, w3, r3, _⟩ := w3.fzd
    obtain ⟨r2, _, _, w4⟩ := w3.popd
    obtain ⟨r1, _, _, w5⟩ := w4.popd
    have ek := r2.kV
    subst ek
    cases r1 with | @dic _ ws2 _ hd2 _ rk2 =>
    refine ⟨valV ws2 k, .inl ⟨ws2, k, w5.pu.rd hd2, rfl, rfl⟩, ?_⟩
    rcases rk2.val (k := k) with ⟨u, z, q1, q2, r⟩ | ⟨q1, q2⟩
    · rw [q1]
      rw [q2] at h3
      exact kk _ _ _ _ h3 ⟨_, _, w5.pushd r⟩
    · rw [q1]
      rw [q2] at h3
      exact kk _ _ _ _ h3 ⟨_, _, w5.pushd r3⟩
theorem RS.split {σ1 : List (Option V)} {Γ1 : List (Option O)} : ∀ {σ0 : List (Option V)} {Γ0 : List (Option O)} {S : Ad}, σ0.length = Γ0.length → RS K B H S (σ0 ++ σ1) (Γ0 ++ Γ1) →
    ∃ S1 S2 : Ad, (∀ b, S1 b → S b) ∧ (∀ b, S2 b → S b) ∧ (∀ b, S1 b → ¬ S2 b) ∧ RS K B H S1 σ0 Γ0 ∧ RS K B H S2 σ1 Γ1
  | [], [], S, _, h => ⟨fun _ => False, S, fun _ z => z.elim, fun _ z => z, fun _ z => z.elim, .nil, h⟩
  | a :: σ0, b :: Γ0, S, l, h => by
    cases h with
    | un r =>
      obtain ⟨S1, S2, a1, a2, a3, a4, a5⟩ := RS.split (by simpa using l) r
      exact ⟨S1, S2, a1, a2, a3, .un a4, a5⟩
    | @cons _ T1 T2 _ _ _ _ s1 s2 dj h0 r =>
      obtain ⟨S1, S2, a1, a2, a3, a4, a5⟩ := RS.split (by simpa using l) r
      exact ⟨fun b => T1 b ∨ S1 b, S2, fun b z => z.elim (s1 b) fun z => s2 b (a1 b z), fun b z => s2 b (a2 b z), fun b z y => z.elim (fun z => dj b z (a2 b y)) fun z => a3 b z y, .cons (S1 := T1) (S2 := S1) (fun _ z => .inl z) (fun _ z => .inr z) (fun b z y => dj b z (a1 b y)) h0 a4, a5⟩
theorem RS.join {σ1 : List (Option V)} {Γ1 : List (Option O)} {S2 : Ad} (q : RS K B H S2 σ1 Γ1) : ∀ {σ0 : List (Option V)} {Γ0 : List (Option O)} {S1 : Ad}, (∀ b, S1 b → ¬ S2 b) → RS K B H S1 σ0 Γ0 → RS K B H (fun b => S1 b ∨ S2 b) (σ0 ++ σ1) (Γ0 ++ Γ1)
  | _, _, _, _, .nil => q.tr (.refl B) (fun _ z => .inr z) fun _ _ _ e => e
  | _, _, _, dj, .un r => .un (RS.join q dj r)
  | _, _, S1, dj, .cons (S1 := T1) (S2 := T2) s1 s2 d h r => .cons (S1 := T1) (S2 := fun b => T2 b ∨ S2 b) (fun b z => .inl (s1 b z)) (fun b z => z.imp (s2 b) id) (fun b z y => y.elim (d b z) (dj b (s1 b z))) h (RS.join q (fun b z => dj b (s2 b z)) r)
open Classical in
noncomputable def offH (H : Hp) (S : Ad) : Hp := fun a => if S a then none else H a
theorem offH_at {a : Addr} (h : S a) : offH H S a = none := if_pos h
theorem offH_no {a : Addr} (h : ¬ S a) : offH H S a = H a := if_neg h
/-- what stands at a cell of an owned thing -/
def Cell (H : Hp) (a : Addr) : Prop := (∃ vs, H a = some (.lst vs)) ∨ (∃ ws, H a = some (.dK ws)) ∨ (∃ ws, H a = some (.dT ws)) ∨ (∃ C dx ws, H a = some (.ins C dx ws)) ∨ ∃ b, H a = some (.own b)
mutual
theorem RO.tight : ∀ {S : Ad} {v : V} {o : O}, RO K B H S v o → ∃ S' : Ad, (∀ b, S' b → S b) ∧ RO K B H S' v o ∧ ∀ b, S' b → Cell H b
  | _, _, _, .d r => ⟨fun _ => False, fun _ z => z.elim, .d r, fun _ z => z.elim⟩
  | S, _, _, .ol (a := a) ha hs hn h r => by
    obtain ⟨S', q1, q2, q3⟩ := RS.tight r
    refine ⟨fun b => b = a ∨ S' b, fun b z => z.elim (fun e => e ▸ ha) fun z => hs b (q1 b z), .ol (.inl rfl) (fun _ z => .inr z) (fun z => hn (q1 _ z)) h q2, fun b z => z.elim (fun e => .inl ⟨_, e ▸ h⟩) (q3 b)⟩
  | S, _, _, .od (a := a) ha hs hn h nd e r => by
    obtain ⟨S', q1, q2, q3⟩ := RS.tight r
    refine ⟨fun b => b = a ∨ S' b, fun b z => z.elim (fun e => e ▸ ha) fun z => hs b (q1 b z), .od (.inl rfl) (fun _ z => .inr z) (fun z => hn (q1 _ z)) h nd e q2, fun b z => z.elim (fun e => .inr (.inl ⟨_, e ▸ h⟩)) (q3 b)⟩
  | S, _, _, .ot (a := a) ha hs hn h nd e r => by
    obtain ⟨S', q1, q2, q3⟩ := RS.tight r
    refine ⟨fun b => b = a ∨ S' b, fun b z => z.elim (fun e => e ▸ ha) fun z => hs b (q1 b z), .ot (.inl rfl) (fun _ z => .inr z) (fun z => hn (q1 _ z)) h nd e q2, fun b z => z.elim (fun e => .inr (.inr (.inl ⟨_, e ▸ h⟩))) (q3 b)⟩
  | S, _, _, .oi (a := a) (dx := dx) ha hd hs hn hn2 ne h h2 e r => by
    obtain ⟨S', q1, q2, q3⟩ := RS.tight r
    refine ⟨fun b => (b = a ∨ b = dx) ∨ S' b, fun b z => z.elim (fun e => e.elim (fun e => e ▸ ha) fun e => e ▸ hd) fun z => hs b (q1 b z), .oi (.inl (.inl rfl)) (.inl (.inr rfl)) (fun _ z => .inr z) (fun z => hn (q1 _ z)) (fun z => hn2 (q1 _ z)) ne h h2 e q2,
      fun b z => z.elim (fun e => e.elim (fun e => .inr (.inr (.inr (.inl ⟨_, _, _, e ▸ h⟩)))) fun e => .inr (.inr (.inr (.inr ⟨_, e ▸ h2⟩)))) (q3 b)⟩
  | S, _, _, .op h r => by
    obtain ⟨S', q1, q2, q3⟩ := RS.tight r
    exact ⟨S', q1, .op h q2, q3⟩
theorem RS.tight : ∀ {S : Ad} {σ : List (Option V)} {Γ : List (Option O)}, RS K B H S σ Γ → ∃ S' : Ad, (∀ b, S' b → S b) ∧ RS K B H S' σ Γ ∧ ∀ b, S' b → Cell H b
  | _, _, _, .nil => ⟨fun _ => False, fun _ z => z.elim, .nil, fun _ z => z.elim⟩
  | _, _, _, .un r => by
    obtain ⟨S', q1, q2, q3⟩ := RS.tight r
    exact ⟨S', q1, .un q2, q3⟩
  | _, _, _, .cons s1 s2 d r t => by
    obtain ⟨S1, q1, q2, q3⟩ := RO.tight r
    obtain ⟨S2, p1, p2, p3⟩ := RS.tight t
    exact ⟨fun b => S1 b ∨ S2 b, fun b z => z.elim (fun z => s1 b (q1 b z)) fun z => s2 b (p1 b z), .cons (fun _ z => .inl z) (fun _ z => .inr z) (fun b z y => d b (q1 b z) (p1 b y)) q2 p2, fun b z => z.elim (q3 b) (p3 b)⟩
end
theorem HW.tightB (h : HW K F B0 τ T σ Γ H B S) : ∃ S', HW K F B0 τ T σ Γ H B S' ∧ ∀ b, S' b → Cell H b := by
  obtain ⟨S', s1, r, c⟩ := RS.tight h.rs
  exact ⟨S', ⟨h.fr, h.pu, h.b0, fun a z => h.ow a (s1 a z), h.nw, r, h.lt⟩, c⟩
theorem HW.frameB (h : HW K F B0 τ T σ Γ H B S) : ∃ F' S', HW K F' B [] [] σ Γ H B S' ∧ (∀ a, ¬ S' a → F' a = H a) ∧ (∀ a, S' a → S a) ∧ ∀ τs Ts σ' Γ' H' B' S'', HW K F' B τs Ts σ' Γ' H' B' S'' → ∃ S3, HW K F B0 (τs ++ τ) (Ts ++ T) σ' Γ' H' B' S3 := by
  obtain ⟨S1, S2, a1, a2, a3, a4, a5⟩ := RS.split (σ0 := τ.map some) (Γ0 := T.map some) (by simp [h.lt]) h.rs
  refine ⟨offH H S2, S2, ⟨fun a u e => ?_, h.pu, .refl B, fun a z => ⟨offH_at z, (h.ow a (a2 a z)).2⟩, fun a z => .inl z, a5, rfl⟩, fun a z => offH_no z, a2, fun τs Ts σ' Γ' H' B' S' w => ?_⟩
  · by_cases z : S2 a
    · rw [offH_at z] at e; cases e
    · rw [offH_no z] at e; exact e
  have f1 : ∀ a, F a ≠ none → offH H S2 a = F a := fun a q => by
    have z : ¬ S2 a := fun z => q (h.ow a (a2 a z)).1
    rw [offH_no z]
    cases e : F a with
    | none => exact absurd e q
    | some u => exact h.fr a u e
  have s1 : ∀ a, S1 a → offH H S2 a = H a := fun a z => offH_no (a3 a z)
  have d1 : ∀ a, S1 a → ¬ S' a := fun a z y => by
    have q := (w.ow a y).1
    rw [s1 a z] at q
    exact (h.ow a (a1 a z)).2.2 q
  refine ⟨fun a => S1 a ∨ S' a, fun a u e => w.fr a u (by rw [f1 a (by rw [e]; simp)]; exact e), w.pu, h.b0.trans w.b0, fun a z => ?_, fun a z => ?_, ?_, by simp [w.lt, h.lt]⟩
  · rcases z with z | z
    · obtain ⟨q1, q2, q3⟩ := h.ow a (a1 a z)
      refine ⟨q1, ?_, ?_⟩
      · cases e : B' a with
        | none => rfl
        | some u =>
          rcases w.nw a (by rw [e]; simp) with y | y
          · exact absurd q2 y
          · rw [s1 a z] at y; exact absurd y q3
      · cases e : H a with
        | none => exact absurd e q3
        | some u => rw [w.fr a u (by rw [s1 a z]; exact e)]; simp
    · obtain ⟨q1, q2, q3⟩ := w.ow a z
      refine ⟨?_, q2, q3⟩
      cases e : F a with
      | none => rfl
      | some u =>
        have := f1 a (by rw [e]; simp)
        rw [q1, e] at this
        cases this
  · rcases w.nw a z with y | y
    · exact h.nw a y
    · right
      cases e : F a with
      | none => rfl
      | some u =>
        have := f1 a (by rw [e]; simp)
        rw [y, e] at this
        cases this
  · have r1 : RS K B' H' S1 (τ.map some) (T.map some) := a4.tr w.b0 (fun _ z => z) fun a u z e => w.fr a u (by rw [s1 a z]; exact e)
    obtain ⟨T1, T2, b1, b2, b3, b4, b5⟩ := RS.split (σ0 := τs.map some) (Γ0 := Ts.map some) (by simp [w.lt]) w.rs
    have r2 := RS.join b5 (S1 := S1) (fun b z y => d1 b z (b2 b y)) r1
    have r3 := RS.join r2 (S1 := T1) (fun b z y => y.elim (fun y => d1 b y (b1 b z)) (b3 b z)) b4
    rw [← List.append_assoc, ← List.append_assoc, ← List.map_append, ← List.map_append] at r3
    exact r3.tr (.refl B') (fun b z => z.elim (fun z => .inr (b1 b z)) fun z => z.imp id (b2 b)) fun _ _ _ e => e
theorem HW.frame (h : HW K F B0 τ T σ Γ H B S) : ∃ F' S', HW K F' B [] [] σ Γ H B S' ∧ ∀ τs Ts σ' Γ' H', Ho K F' B τs Ts σ' Γ' H' → Ho K F B0 (τs ++ τ) (Ts ++ T) σ' Γ' H' := by
  obtain ⟨F', S', w, _, _, k⟩ := h.frameB
  exact ⟨F', S', w, fun τs Ts σ' Γ' H' ⟨B', S2, w2⟩ => by obtain ⟨S3, w3⟩ := k τs Ts σ' Γ' H' B' S2 w2; exact ⟨B', S3, w3⟩⟩
theorem Sat.frame {De : Ends} {F' : Hp} (s : Sat K F B0 τ T De Dd) (back : ∀ τs Ts σ' Γ' H', Ho K F' B τs Ts σ' Γ' H' → Ho K F B0 (τs ++ τ) (Ts ++ T) σ' Γ' H') : Sat K F' B [] [] De Dd :=
  ⟨fun σ Γ H n w => s.nx σ Γ H n (back [] [] σ Γ H w), fun v o σ Γ H n w => s.rt v o σ Γ H n (back [v] [o] σ Γ H w), fun σ Γ H n w => s.bk σ Γ H n (back [] [] σ Γ H w), fun σ Γ H n w => s.ct σ Γ H n (back [] [] σ Γ H w)⟩
def tRaise (W : WX) (C : Addr) : TS := fun _ σ H => W (.ref C) none σ H
theorem gos_raise {W : WX} {X : Addr → Option (List (Str × D)) → En → Prop} {C : Addr} (wx : ∀ Cc fs d σ Γ H, X Cc fs Γ → HoX K F B0 σ Γ H d fs → W (.ref Cc) d σ H) (h : X C none Γ) : GoS K F B0 (tRaise W C) T Γ Dd :=
  fun τ σ H De ⟨B, S, w⟩ s => wx C none none σ Γ H h (.none w.bare rfl)
def tTry (K : PySem.W.Frag) (c : Value) (ts : Addr → Value → Option Addr → TS) (Wout : WX) (tb : WX → TS) : TS := fun De σ H => tb (wOnly K c ts Wout De) De σ H
def tTryAs (K : PySem.W.Frag) (c : Value) (i : Nat) (ts : Addr → Value → Option Addr → TS) (Wout : WX) (tb : WX → TS) : TS := fun De σ H => tb (wAs K c i ts Wout De) De σ H
/-- try .. except X as n, n in slot i -/
theorem gos_tryAs {c : Value} {ts : Addr → Value → Option Addr → TS} {Wout : WX} {tw : WX → TS} (X : Addr → Option (List (Str × D)) → En → Prop)
    (hb : ∀ F' B' W, (∀ Cc fs d σ Γ H, X Cc fs Γ → HoX K F' B' σ Γ H d fs → W (.ref Cc) d σ H) → GoS K F' B' (tw W) [] Γ Dd)
    (hx : ∀ F' B' Cc fs Γ', X Cc fs Γ' → PySem.W.exmOne K (.ref Cc) c = some true ∧ i < Γ'.length ∧ ∀ a d, ExB K F' B' d fs → GoS K F' B' (ts a (.ref Cc) d) [] (Γ'.set i (some (.d (.ref a)))) { nx := fun Γ2 => Dd.nx (Γ2.set i none), rt := Dd.rt, bk := fun Γ2 => Dd.bk (Γ2.set i none), ct := fun Γ2 => Dd.ct (Γ2.set i none) }) :
    GoS K F B0 (tTryAs K c i ts Wout tw) T Γ Dd := fun τ σ H De ⟨B, S, w⟩ s => by
  obtain ⟨F', S', w', back⟩ := w.frame
  have s' := s.frame back
  refine hb F' B _ (fun Cc fs d σ2 Γ2 H2 hX ⟨B2, S2, w2, hd⟩ => ?_) [] σ H De ⟨B, S', w'⟩ s'
  obtain ⟨S2', w2, cell⟩ := w2.tightB
  obtain ⟨F3, S3, w3, f3, sub3, back3⟩ := w2.frameB
  have back3' : ∀ τs Ts σ' Γ' H', Ho K F3 B2 τs Ts σ' Γ' H' → Ho K F' B (τs ++ []) (Ts ++ []) σ' Γ' H' := fun τs Ts σ' Γ' H' ⟨B', S4, w4⟩ => by obtain ⟨S5, w5⟩ := back3 τs Ts σ' Γ' H' B' S4 w4; exact ⟨B', S5, w5⟩
  have s3 := s'.frame back3'
  obtain ⟨e, hi, q⟩ := hx F3 B2 Cc fs Γ2 hX
  refine ⟨true, e, fun _ a ha => ?_, fun z => Bool.noConfusion z⟩
  obtain ⟨S6, w6⟩ := (w3.pushd (v := .ref a) (x := .ref a) .ref).put hi
  refine q a d ?_ [] _ H2 _ ⟨B2, S6, w6⟩ ⟨fun σ Γ H n ⟨B4, S4, w4⟩ => s3.nx _ _ _ n ⟨B4, S4, w4.unset i none⟩, s3.rt, fun σ Γ H n ⟨B4, S4, w4⟩ => s3.bk _ _ _ n ⟨B4, S4, w4.unset i none⟩, fun σ Γ H n ⟨B4, S4, w4⟩ => s3.ct _ _ _ n ⟨B4, S4, w4.unset i none⟩⟩
  cases d with
  | none => cases fs with | none => trivial | some _ => exact hd.elim
  | some dd =>
    cases fs with
    | none => exact hd.elim
    | some fs =>
      obtain ⟨ws, h1, h2⟩ := hd
      refine ⟨ws, ?_, h2⟩
      rw [f3 dd fun z => by
        rcases cell dd (sub3 dd z) with ⟨_, e⟩ | ⟨_, e⟩ | ⟨_, e⟩ | ⟨_, _, _, e⟩ | ⟨_, e⟩ <;> · rw [h1] at e; cases e]
      exact h1
/-- xs[i], some item of it -/
theorem o2_ixr {x : D} {xs : List D} {i : Int} (q : x.items? = some xs) (h0 : 0 ≤ i) (h1 : i < xs.length) (h : ∀ y ∈ xs, post (.d y) Γ) : Op2 K F B0 (rIxG K) x (.int i) T Γ post := by
  have h2 : i.toNat < xs.length := by omega
  have := o2_ixN (e := id) (D.non) (x := x) (xs := xs) (i := i) (K := K) (F := F) (B0 := B0) (T := T) (Γ := Γ) (post := post) (by simpa using q) h0 h1
  refine this ?_
  have e : xs.getD i.toNat D.non = xs[i.toNat] := by simp [h2]
  rw [e]
  exact h _ (List.getElem_mem h2)
theorem gog_setDS {ti : TE} (h : Go K F B0 ti (o :: T) Γ fun ok Γ2 => ∃ n kvs, ok = .d (.str n) ∧ Γ2[i]? = some (some (.od kvs)) ∧ kvs.length < 100000 ∧ posts1 (Γ2.set i (some (.od (dput kvs (.inr n) o))))) (h0 : ∃ kvs0, Γ[i]? = some (some (.od kvs0))) :
    GoG K F B0 (gSub (tVar i) ti rSetG) o T Γ posts1 :=
  gog_setD (fun τ σ H Q hw k => h τ σ H Q hw fun v ok Γ2 H2 ⟨n, kvs, e, q⟩ w => k v ok Γ2 H2 ⟨.inr n, kvs, e, q⟩ w) h0
structure Sm (n : Nat) (x : Int) : Prop where
  h : x.natAbs < 2 ^ (1048576 + n)
theorem natAbs_of {x : Int} {m : Nat} (h : Builtin.Int.intBits x ≤ m) : x.natAbs < 2 ^ m := by
  unfold Builtin.Int.intBits at h
  split at h
  · rename_i hx
    have : x = 0 := by simpa using hx
    subst this
    exact Nat.pow_pos (by decide)
  · rename_i hx
    have : x.natAbs ≠ 0 := by
      intro q
      apply hx
      have : x = 0 := by omega
      simp [this]
    exact (Nat.log2_lt this).mp h
theorem Sm.of {x : Int} (h : Builtin.Int.intBits x ≤ 1048576) : Sm 0 x := ⟨natAbs_of h⟩
theorem Sm.mono {x : Int} {n m : Nat} (h : Sm n x) (l : n ≤ m) : Sm m x := ⟨Nat.lt_of_lt_of_le h.h (Nat.pow_le_pow_right (by decide) (by omega))⟩
theorem cutD_takeI {α : Type} {xs : List α} {k : Int} (h : 0 ≤ k) : cutD xs none (some k) = xs.take k.toNat := by
  obtain ⟨n, rfl⟩ := Int.eq_ofNat_of_zero_le h
  exact cutD_take
theorem cutD_dropI {α : Type} {xs : List α} {k : Int} (h : 0 ≤ k) : cutD xs (some k) none = xs.drop k.toNat := by
  obtain ⟨n, rfl⟩ := Int.eq_ofNat_of_zero_le h
  exact cutD_drop
theorem cutD_midI {α : Type} {xs : List α} {j k : Int} (h0 : 0 ≤ j) (h : 0 ≤ k) : cutD xs (some j) (some k) = (xs.take k.toNat).drop j.toNat := by
  obtain ⟨n, rfl⟩ := Int.eq_ofNat_of_zero_le h
  obtain ⟨m, rfl⟩ := Int.eq_ofNat_of_zero_le h0
  exact cutD_mid
end
end SK
namespace SK
open PySem PySem.Spec PyProof.Rows L2
def fput {α : Type} (f : Str) (v : α) : List (Str × α) → List (Str × α)
  | [] => [(f, v)]
  | (g, x) :: r => if g = f then (g, v) :: r else (g, x) :: fput f v r
theorem putF_fput (f : Str) (v : V) : ∀ fs : List (Str × V), putF f v fs = fput f v fs
  | [] => rfl
  | (g, x) :: r => by unfold putF fput; rw [putF_fput f v r]
theorem fput_keys {α β : Type} {f : Str} {v : α} {w : β} : ∀ {xs : List (Str × α)} {ys : List (Str × β)}, xs.map (·.1) = ys.map (·.1) → (fput f v xs).map (·.1) = (fput f w ys).map (·.1)
  | [], [], _ => rfl
  | (g, x) :: xs, (g', y) :: ys, e => by
    simp only [List.map_cons, List.cons.injEq] at e
    obtain ⟨rfl, e⟩ := e
    unfold fput
    split
    · simp [e]
    · simp [fput_keys (v := v) (w := w) e]
section
variable {K : PySem.W.Frag} {F B0 H H' B B' : Hp} {τ τs : List V} {T os : List O} {σ : L2.St} {Γ : En} {S S1 S2 : Ad} {v w : V} {o p : O} {x : D} {post : O → En → Prop} {ta : TA} {tb tc te td ty tv tl : TE} {tt tu : TT} {i j : Nat} {posts : List D → En → Prop} {postt : Bool → En → Prop} {posts1 : En → Prop} {Dd : EG} {xs : List D} {vs : List V} {r r' : R2} {s : TS} {C : Addr} {f : Str}
theorem RS.fput {So : Ad} (ro : RO K B H So w o) : ∀ {ws : List (Str × V)} {kvs : List (Str × O)} {S : Ad}, ws.map (·.1) = kvs.map (·.1) → RS K B H S (ws.map fun p => some p.2) (kvs.map fun p => some p.2) → (∀ b, S b → ¬ So b) →
    RS K B H (fun b => S b ∨ So b) ((SK.fput f w ws).map fun p => some p.2) ((SK.fput f o kvs).map fun p => some p.2)
  | [], [], _, _, _, _ => .cons (S1 := So) (S2 := fun _ => False) (fun b z => .inr z) (fun _ z => z.elim) (fun _ _ z => z) ro .nil
  | (g, x) :: ws, (g', y) :: kvs, S, e, .cons (S1 := T1) (S2 := T2) s1 s2 d r rs, dj => by
    simp only [List.map_cons, List.cons.injEq] at e
    obtain ⟨rfl, e⟩ := e
    unfold SK.fput
    by_cases q : g = f
    · rw [if_pos q, if_pos q]
      exact .cons (S1 := So) (S2 := T2) (fun b z => .inr z) (fun b z => .inl (s2 b z)) (fun b z y => dj b (s2 b y) z) ro rs
    · rw [if_neg q, if_neg q]
      exact .cons (S1 := T1) (S2 := fun b => T2 b ∨ So b) (fun b z => .inl (s1 b z)) (fun b z => z.imp (s2 b) id) (fun b z y => y.elim (d b z) (dj b (s1 b z))) r (RS.fput ro e rs fun b z => dj b (s2 b z))
/-- o.f = e, o a name of an owned instance -/
theorem gos_fld (h : Go K F B0 tv T Γ fun o Γ1 => ∃ a C fs, Γ1[i]? = some (some (.oi a C fs)) ∧ Cls K C ∧ NoAttr K C f ∧ fs.length < 1000 ∧ Dd.nx (Γ1.set i (some (.oi a C (SK.fput f o fs))))) : GoS K F B0 (sFld K (tVar i) tv f) T Γ Dd := fun τ σ H De hw s =>
  h τ σ H _ hw fun v1 o1 Γ1 H1 ⟨a, C, fs, e1, hc, hn, hl, h1⟩ ⟨B1, S1, w1⟩ => by
    obtain ⟨v', S3, So, a2, r2, ro, dj, _, _, fm⟩ := w1.mut2 e1
    cases r2 with
    | @oi _ S4 _ dx _ ws _ ha hd hs hn1 hn2 ne hca hcd ek rs =>
    have len : ws.length = fs.length := by have := congrArg List.length ek; simpa using this
    refine ⟨.ref a, a2, a, C, dx, ws, rfl, hca, hc, hn, by rw [len]; exact hl, ?_⟩
    obtain ⟨S', w3⟩ := fm a (.ins C dx (putF f v1 ws)) (.oi a C (SK.fput f o1 fs)) ha (by
      rw [putF_fput]
      refine .oi (S' := fun b => S4 b ∨ So b) (.inl ha) (.inl hd) (fun b z => z.imp (hs b) id) (fun z => z.elim hn1 fun z => dj a ha z) (fun z => z.elim hn2 fun z => dj dx hd z) ne upd_same (by rw [upd_ne (Ne.symm ne)]; exact hcd) (fput_keys ek) ?_
      exact (RS.fput ro ek rs fun b z => dj b (hs b z)).at fun b u z q => by
        rw [upd_ne (fun e => by subst e; exact z.elim hn1 fun z => dj b ha z)]; exact q)
    exact s.nx σ _ _ h1 ⟨B1, S', w3⟩
theorem RF.look : ∀ {ws : List (Str × V)} {fs : List (Str × D)} {y : D}, RF K B ws fs → fs.lookup f = some y → ∃ v, ws.lookup f = some v ∧ R K B v y
  | _, _, _, .nil, h => by simp at h
  | _, _, y, .cons (k := k) (v := v) r t, h => by
    rw [List.lookup_cons] at h ⊢
    cases e : f == k with
    | true => rw [e] at h; cases h; exact ⟨v, by simp, r⟩
    | false => rw [e] at h; obtain ⟨u, a, b⟩ := RF.look t h; exact ⟨u, by simpa using a, b⟩
/-- e.f of an instance -/
theorem go_fld (h : Go K F B0 te T Γ fun o Γ1 => ∃ C fs y, o.fz = .ins C fs ∧ fs.lookup f = some y ∧ Cls K C ∧ NoAttr K C f ∧ post (.d y) Γ1) : Go K F B0 (tFld K te f) T Γ post := fun τ σ H Q hw kk =>
  h τ σ H _ hw fun v1 o1 Γ1 H1 ⟨C, fs, y, e1, l, hc, hn, h1⟩ ⟨_, _, w1⟩ => by
    obtain ⟨B2, S2, w1, _⟩ := w1.fz
    rw [e1] at w1
    obtain ⟨r1, _, _, w2⟩ := w1.popd
    cases r1 with | @ins a _ dx ws _ hb rf =>
    obtain ⟨v, l2, ry⟩ := rf.look l
    exact ⟨a, C, dx, ws, v, rfl, w1.pu a _ hb, hc, hn, l2, kk _ _ _ _ h1 ⟨_, _, w2.pushd ry⟩⟩
/-- what stands behind a call: the heap H' over H, the first thing's cells S0 may have changed -/
structure Bh (K : PySem.W.Frag) (H H' B B' : Hp) (S0 S0' S1 : Ad) : Prop where
  fr : ∀ a u, ¬ S0 a → H a = some u → H' a = some u
  pu : Ex B' H'
  le : BLe B B'
  nw : ∀ a, B' a ≠ none → B a ≠ none ∨ H a = none ∨ S0 a
  o0 : ∀ a, S0' a → (S0 a ∨ H a = none) ∧ B' a = none ∧ H' a ≠ none
  o1 : ∀ a, S1 a → (S0 a ∨ H a = none) ∧ B' a = none ∧ H' a ≠ none
  dj : ∀ a, S1 a → ¬ S0' a
end
end SK
namespace SK
open PySem PySem.Spec PyProof.Rows L2
abbrev Fs := List (Str × O)
abbrev Cs := Addr → Fs → List D → (O → Fs → Prop) → (Addr → Option (List (Str × D)) → Fs → Prop) → Prop
end SK
namespace SK
open PySem PySem.Spec PyProof.Rows L2
section
variable {K : PySem.W.Frag} {F B0 H H' B B' : Hp} {τ τs : List V} {T os : List O} {σ : L2.St} {Γ : En} {S S1 S2 : Ad} {v w : V} {o p : O} {x : D} {post : O → En → Prop} {ta : TA} {tb tc te td ty tv tl : TE} {tt tu : TT} {i j : Nat} {posts : List D → En → Prop} {postt : Bool → En → Prop} {posts1 : En → Prop} {Dd : EG} {xs : List D} {vs : List V} {r r' : R2} {s : TS}
theorem and_im {M N P Q : Prop} (h1 : M → P) (h2 : N → Q) : (M → P) ∧ (N → Q) := ⟨h1, h2⟩
theorem o1_neg {n : Int} (h : post (.d (.int (-n))) Γ) : Op1 K F B0 (rU fun i => V.int (-i)) (.int n) T Γ post := fun τ σ H B S v1 Q w r1 k => by
  cases r1
  exact ⟨n, rfl, k _ _ Γ H h ⟨_, _, w.pushd .int⟩⟩
end
end SK
namespace SK
open PySem PySem.Spec PyProof.Rows L2 Builtin.Str
def rStrG : List V → Hp → VK → Prop := fun xs H Q => (∃ i, xs = [.int i] ∧ i.natAbs.log2 < 1920 ∧ Q (.str (toString i)) H) ∨ ∃ a, xs = [.str a] ∧ Q (.str a) H
def rIntG : List V → Hp → VK → Prop := fun xs H Q => ((∃ i, xs = [.int i] ∧ Q (.int i) H) ∨ ∃ k, xs = [.bl k] ∧ Q (.int (if k then 1 else 0)) H) ∨ ∃ a n, xs = [.str a] ∧ PySem.intText? a = some n ∧ a.length ≤ 640 ∧ Q (.int n) H
def rJoinG (K : PySem.W.Frag) : V → List V → Hp → VK → Prop := fun x xs H Q => ∃ a p, ∃ ys : List Str, x = .str a ∧ xs = [.ref p] ∧ (SqL K H p (ys.map V.str) ∨ SqT K H p (ys.map V.str)) ∧ (ys.map (·.length)).sum + ys.length * a.length ≤ 16777216 ∧ Q (.str (Txt.join a ys)) H
def rSplitG : V → List V → Hp → VK → Prop := fun x xs H Q => ∃ a b, x = .str a ∧ xs = [.str b] ∧ (b.length == 0) = false ∧ a.length + 2 ≤ sizeLine ∧ rNewStrs (Txt.split a b) H Q
def rPartG : V → List V → Hp → VK → Prop := fun x xs H Q => ∃ a b, x = .str a ∧ xs = [.str b] ∧ (b.length == 0) = false ∧ a.length ≤ sizeLine ∧ ∀ p, H p = none → Q (.ref p) (upd H p (.tup [.str (Txt.partition a b).1, .str (Txt.partition a b).2.1, .str (Txt.partition a b).2.2]))
def rStartsG : V → List V → Hp → VK → Prop := fun x xs H Q => ∃ a b, x = .str a ∧ xs = [.str b] ∧ Q (.bl (Txt.startswith a b)) H
section
variable {K : PySem.W.Frag} {F B0 H H' B B' : Hp} {τ τs : List V} {T os : List O} {σ : L2.St} {Γ : En} {S S1 S2 : Ad} {v w : V} {o p : O} {x : D} {post : O → En → Prop} {ta : TA} {tb tc te td ty tv tl : TE} {tt tu : TT} {i j : Nat} {posts : List D → En → Prop} {postt : Bool → En → Prop} {posts1 : En → Prop} {Dd : EG} {xs : List D} {vs : List V} {s : TS}
theorem oa_strS {n : Str} (h : post (.d (.str n)) Γ) : OpA K F B0 rStrG [.str n] T Γ post := fun τ σ H B S vs Q w rl k => by
  obtain ⟨v1, rfl, r⟩ := rl.one
  cases r
  exact .inr ⟨n, rfl, k _ _ Γ H h ⟨_, _, w.pushd .str⟩⟩
theorem oa_intB {b : Bool} (h : post (.d (.int (if b then 1 else 0))) Γ) : OpA K F B0 rIntG [.bl b] T Γ post := fun τ σ H B S vs Q w rl k => by
  obtain ⟨v1, rfl, r⟩ := rl.one
  cases r
  exact .inl (.inr ⟨b, rfl, k _ _ Γ H h ⟨_, _, w.pushd .int⟩⟩)
theorem RL.strs : ∀ {vs : List V} {ys : List Str}, RL K B vs (ys.map D.str) → vs = ys.map V.str
  | [], [], _ => rfl
  | _ :: _, y :: ys, .cons r t => by cases r; rw [List.map_cons, RL.strs t]
theorem RL.ofStrs : ∀ ys : List Str, RL K B (ys.map V.str) (ys.map D.str)
  | [] => .nil
  | _ :: r => .cons .str (RL.ofStrs r)
/-- a.join(ys) -/
theorem go_join (h : Go K F B0 te T Γ fun o Γ1 => ∃ a, o = .d (.str a) ∧ GoA K F B0 ta (.d (.str a) :: T) Γ1 fun xs Γ2 => ∃ l ys, xs = [l] ∧ l.items? = some (List.map D.str ys) ∧ (ys.map (·.length)).sum + ys.length * a.length ≤ 16777216 ∧ post (.d (.str (Txt.join a ys))) Γ2) :
    Go K F B0 (tBM K "str" (rJoinG K) te ta) T Γ post := fun τ σ H Q hw k =>
  h τ σ H _ hw fun v1 o1 Γ1 H1 ⟨a, e, h1⟩ ⟨_, _, w1⟩ => by
    subst e
    obtain ⟨r1, _⟩ := w1.popd
    cases r1
    refine ⟨rfl, h1 _ σ H1 _ ⟨_, _, w1⟩ fun vs xs Γ2 H2 ⟨l, ys, e, q, hz, h2⟩ ⟨_, _, w2⟩ hl => ?_⟩
    subst e
    obtain ⟨rl, S2, w3⟩ := w2.args hl
    obtain ⟨_, _, _, w4⟩ := w3.popd
    obtain ⟨u, rfl, r⟩ := rl.one
    obtain ⟨p, us, rfl, sq, rl2⟩ := r.items q
    have e2 := rl2.strs
    subst e2
    exact ⟨a, p, ys, rfl, rfl, sq.imp w4.pu.sqL w4.pu.sqT, hz, k _ _ _ _ h2 ⟨_, _, w4.pushd .str⟩⟩
/-- a.split(b) -/
theorem go_split (h : Go K F B0 te T Γ fun o Γ1 => ∃ a, o = .d (.str a) ∧ GoA K F B0 ta (.d (.str a) :: T) Γ1 fun xs Γ2 => ∃ b, xs = [.str b] ∧ (b.length == 0) = false ∧ a.length ≤ 1000000 ∧ post (.ol (((Txt.split a b).map D.str).map O.d)) Γ2) :
    Go K F B0 (tBM K "str" rSplitG te ta) T Γ post := fun τ σ H Q hw k =>
  h τ σ H _ hw fun v1 o1 Γ1 H1 ⟨a, e, h1⟩ ⟨_, _, w1⟩ => by
    subst e
    obtain ⟨r1, _⟩ := w1.popd
    cases r1
    refine ⟨rfl, h1 _ σ H1 _ ⟨_, _, w1⟩ fun vs xs Γ2 H2 ⟨b, e, hb, hz, h2⟩ ⟨_, _, w2⟩ hl => ?_⟩
    subst e
    obtain ⟨rl, S2, w3⟩ := w2.args hl
    obtain ⟨_, _, _, w4⟩ := w3.popd
    obtain ⟨u, rfl, r⟩ := rl.one
    cases r
    refine ⟨a, b, rfl, rfl, hb, ?_, fun p hp => ?_⟩
    · rw [sizeLine_eq]; omega
    · obtain ⟨S5, w5⟩ := w4.newl hp (RL.ofStrs (Txt.split a b))
      exact k _ _ _ _ h2 ⟨_, _, w5⟩
/-- a.partition(b) -/
theorem go_part (h : Go K F B0 te T Γ fun o Γ1 => ∃ a, o = .d (.str a) ∧ GoA K F B0 ta (.d (.str a) :: T) Γ1 fun xs Γ2 => ∃ b, xs = [.str b] ∧ (b.length == 0) = false ∧ a.length ≤ 1000000 ∧ post (.d (.tup [.str (Txt.partition a b).1, .str (Txt.partition a b).2.1, .str (Txt.partition a b).2.2])) Γ2) :
    Go K F B0 (tBM K "str" rPartG te ta) T Γ post := fun τ σ H Q hw k =>
  h τ σ H _ hw fun v1 o1 Γ1 H1 ⟨a, e, h1⟩ ⟨_, _, w1⟩ => by
    subst e
    obtain ⟨r1, _⟩ := w1.popd
    cases r1
    refine ⟨rfl, h1 _ σ H1 _ ⟨_, _, w1⟩ fun vs xs Γ2 H2 ⟨b, e, hb, hz, h2⟩ ⟨_, _, w2⟩ hl => ?_⟩
    subst e
    obtain ⟨rl, S2, w3⟩ := w2.args hl
    obtain ⟨_, _, _, w4⟩ := w3.popd
    obtain ⟨u, rfl, r⟩ := rl.one
    cases r
    refine ⟨a, b, rfl, rfl, hb, ?_, fun p hp => ?_⟩
    · rw [sizeLine_eq]; omega
    · obtain ⟨S5, w5⟩ := w4.newd (v := .ref p) (x := .tup [.str (Txt.partition a b).1, .str (Txt.partition a b).2.1, .str (Txt.partition a b).2.2]) hp (.tup (SqT.of upd_same) (.cons .str (.cons .str (.cons .str .nil))))
      exact k _ _ _ _ h2 ⟨_, _, w5⟩
/-- a.startswith(b) -/
theorem go_starts (h : Go K F B0 te T Γ fun o Γ1 => ∃ a, o = .d (.str a) ∧ GoA K F B0 ta (.d (.str a) :: T) Γ1 fun xs Γ2 => ∃ b, xs = [.str b] ∧ post (.d (.bl (Txt.startswith a b))) Γ2) :
    Go K F B0 (tBM K "str" rStartsG te ta) T Γ post := fun τ σ H Q hw k =>
  h τ σ H _ hw fun v1 o1 Γ1 H1 ⟨a, e, h1⟩ ⟨_, _, w1⟩ => by
    subst e
    obtain ⟨r1, _⟩ := w1.popd
    cases r1
    refine ⟨rfl, h1 _ σ H1 _ ⟨_, _, w1⟩ fun vs xs Γ2 H2 ⟨b, e, h2⟩ ⟨_, _, w2⟩ hl => ?_⟩
    subst e
    obtain ⟨rl, S2, w3⟩ := w2.args hl
    obtain ⟨_, _, _, w4⟩ := w3.popd
    obtain ⟨u, rfl, r⟩ := rl.one
    cases r
    exact ⟨a, b, rfl, rfl, k _ _ _ _ h2 ⟨_, _, w4.pushd .bl⟩⟩
end
end SK
namespace SK
open PySem PySem.Spec PyProof.Rows L2
def rTupG (K : PySem.W.Frag) : List V → Hp → VK → Prop := fun xs H Q => ∃ p ys, xs = [.ref p] ∧ ((SqL K H p ys ∧ ∀ l, H l = none → Q (.ref l) (upd H l (.tup ys))) ∨ (SqT K H p ys ∧ Q (.ref p) H))
section
variable {K : PySem.W.Frag} {F B0 H H' B B' : Hp} {τ τs : List V} {T os : List O} {σ : L2.St} {Γ : En} {S S1 S2 : Ad} {v w : V} {o p : O} {x : D} {post : O → En → Prop} {ta : TA} {tb tc te td ty tv tl : TE} {tt tu : TT} {i j : Nat} {posts : List D → En → Prop} {postt : Bool → En → Prop} {posts1 : En → Prop} {Dd : EG} {xs : List D} {vs : List V} {r r' : R2} {s : TS}
theorem oa_tupL (q : x.seq? = some xs) (h : post (.d (.tup xs)) Γ) : OpA K F B0 (rTupG K) [x] T Γ post := fun τ σ H B S vs Q w rl k => by
  obtain ⟨v1, rfl, r⟩ := rl.one
  obtain ⟨a, us, rfl, sq, rl2⟩ := r.seqL q
  refine ⟨a, us, rfl, .inl ⟨w.pu.sqL sq, fun p hp => ?_⟩⟩
  obtain ⟨S2, w⟩ := w.newd (v := .ref p) (x := .tup xs) hp (.tup (SqT.of upd_same) (rl2.mono (.of_ex (.new (w.pu.back hp)))))
  exact k _ _ _ _ h ⟨_, _, w⟩
theorem oa_tupT (h : post (.d (.tup xs)) Γ) : OpA K F B0 (rTupG K) [.tup xs] T Γ post := fun τ σ H B S vs Q w rl k => by
  obtain ⟨v1, rfl, r⟩ := rl.one
  cases r with | @tup a vs _ sq rl2 =>
  exact ⟨a, vs, rfl, .inr ⟨w.pu.sqT sq, k _ _ _ _ h ⟨_, _, w.pushd (.tup sq rl2)⟩⟩⟩
theorem Sl.tupM {xs : List D} {lo : Int} {hi : Option Int} (h0 : 0 < lo) (h1 : xs ≠ []) : Sl (.tup xs) (some lo) hi (.d (.tup (cutD xs (some lo) hi))) := by
  refine .tup fun ⟨h, _⟩ => ?_
  obtain ⟨n, rfl⟩ := Int.eq_ofNat_of_zero_le (Int.le_of_lt h0)
  rw [sIx_n] at h
  have : 0 < xs.length := List.length_pos_iff.mpr h1
  omega
theorem atI_ofN {α : Type} {xs : List α} {k : Nat} : atI xs (Int.ofNat k) = xs[k]? := by
  show atI xs (k : Int) = xs[k]?
  unfold atI ixN
  rw [if_pos (Int.natCast_nonneg k)]
  by_cases h : k < xs.length
  · rw [if_pos (by omega)]
    rfl
  · rw [if_neg (by omega)]
    exact (List.getElem?_eq_none (by omega)).symm
end
end SK
namespace SK
open PySem PySem.Spec PyProof.Rows L2
/-- its own dict, if it has one, is told -/
def XdAt (H : Hp) (d : Option Addr) : Prop := match d with | none => True | some dd => ∃ fs, H dd = some (.xd fs)
def rIsX (K : PySem.W.Frag) (a : Addr) (cls : Value) (d : Option Addr) : List V → Hp → VK → Prop := fun xs H Q => ∃ D c b, cls = .ref D ∧ XdAt H d ∧ L2.ExcC K D ∧ xs = [.ref a, c] ∧
  ((∃ cv, ClsV c cv ∧ PySem.W.kitOne K (.ref D) cv = some b) ∨ (∃ tp cs us, c = .ref tp ∧ SqT K H tp cs ∧ Paired ClsV cs us ∧ PySem.W.kitAny K (.ref D) us = some b)) ∧ Q (.bl b) H
section
variable {X : Cx}
theorem call_isX {a : Addr} {oe : Obj} {cls : Value} {d : Option Addr} {pn : List (Addr × Obj)} (hz : Zc cls d oe) (hf : ∃ vs, oe.data = .fields vs) : CallR (X.suite a ((a, oe) :: pn)) (.builtin "isinstance") (rIsX X.K a cls d) := by
  intro pins s σ H xs us Q I r h
  obtain ⟨D, c, b, rfl, hx, C, rfl, way, q⟩ := h
  obtain ⟨u1, u2, rfl, r1, r2⟩ := vals2 r
  cases (show u1 = Value.ref a from r1)
  obtain ⟨hget, _⟩ := I.pin (a, oe) (List.mem_append_left _ List.mem_cons_self)
  obtain ⟨vs, hv⟩ := hf
  have J : ∃ od, PySem.W.InstAt s.heap a oe D od := by
    cases d with
    | none =>
      obtain ⟨oc, odd, oda, osl⟩ := oe
      obtain ⟨h1, h2⟩ := hz
      dsimp only at h1 h2 hv
      subst h1 h2 hv
      exact ⟨none, hget, rfl, rfl, trivial⟩
    | some dd =>
      obtain ⟨fs, hd⟩ := hx
      obtain ⟨mA, hns, _⟩ := (show ObjOk X.prog X.w H s.heap dd (.xd fs) from I.hok dd _ hd)
      obtain ⟨od, ho, _⟩ := lookIn_ns hns
      exact ⟨some od, hget, hz.1, by unfold PySem.W.notCls; rw [hv] <;> rfl, by rw [hz.2]; exact ho⟩
  obtain ⟨od, J⟩ := J
  obtain ⟨cd, hc, _⟩ := PySem.W.any_some C.hd
  have Z := PySem.W.kitx_exc (x := a) (od := od) (ox := oe) (by rw [hc]; rfl) C.hg C.hk C.hs C.ha C.hn C.ht C.hm
  rcases way with ⟨cv, k, e⟩ | ⟨tp, cs, ws, rfl, hT, k, e⟩
  · have e2 := k.eq r2
    subst e2
    exact PySem.W.kia_one Z I.kIn J e (fun z => nomatch z) fun tk => ⟨.bl b, H, I.kept (t' := tk) fun _ _ z => z, rfl, q⟩
  · cases (show u2 = Value.ref tp from r2)
    obtain ⟨its, rv, p, _⟩ := I.tuple hT
    obtain ⟨o, h1, h2, n, h3⟩ := p
    have e3 := ClsV.all k rv
    subst e3
    obtain ⟨oc, od2, dt, sl⟩ := o
    simp only at h2 h3
    subst h2 h3
    exact PySem.W.kia_tup Z I.kIn J h1 e (fun z => nomatch z) fun tk => ⟨.bl b, H, I.kept (t' := tk) fun _ _ z => z, rfl, q⟩
theorem k_isX {K : PySem.W.Frag} {a : Addr} {oe : Obj} {cls : Value} {d : Option Addr} {pn : List (Addr × Obj)} (h : X.K = K) (hz : Zc cls d oe) (hf : ∃ vs, oe.data = .fields vs) : CallR (X.suite a ((a, oe) :: pn)) (.builtin "isinstance") (rIsX K a cls d) := by cases h; exact call_isX hz hf
end
section
variable {K : PySem.W.Frag} {F B0 H H' B B' : Hp} {τ τs : List V} {T os : List O} {σ : L2.St} {Γ : En} {S S1 S2 : Ad} {v w : V} {o p : O} {x : D} {post : O → En → Prop} {ta : TA} {tb tc te td ty tv tl : TE} {tt tu : TT} {i j : Nat} {posts : List D → En → Prop} {postt : Bool → En → Prop} {posts1 : En → Prop} {Dd : EG} {xs : List D} {vs : List V} {r r' : R2} {s : TS}
/-- isinstance(e, C) -/
theorem oa_isX {a D C : Addr} {b : Bool} (E : L2.ExcC K D) (q : PySem.W.kitOne K (.ref D) (.ref C) = some b) (h : post (.d (.bl b)) Γ) : OpA K F B0 (rIsX K a (.ref D) none) [.ref a, .ref C] T Γ post := fun τ σ H B S vs Q w rl k => by
  obtain ⟨v1, v2, rfl, r, r2⟩ := rl.two
  cases r
  cases r2
  exact ⟨D, _, b, rfl, trivial, E, rfl, .inl ⟨_, .own C, q⟩, k _ _ Γ H h ⟨_, _, w.pushd .bl⟩⟩
theorem oa_isXt {a D : Addr} {n : String} {b : Bool} (E : L2.ExcC K D) (q : PySem.W.kitOne K (.ref D) (.type n) = some b) (h : post (.d (.bl b)) Γ) : OpA K F B0 (rIsX K a (.ref D) none) [.ref a, .ty n] T Γ post := fun τ σ H B S vs Q w rl k => by
  obtain ⟨v1, v2, rfl, r, r2⟩ := rl.two
  cases r
  cases r2
  exact ⟨D, _, b, rfl, trivial, E, rfl, .inl ⟨_, .ty n, q⟩, k _ _ Γ H h ⟨_, _, w.pushd .bl⟩⟩
theorem RL.cls : ∀ {vs : List V} {Cs : List Addr}, RL K B vs (Cs.map SK.D.ref) → Paired ClsV vs (Cs.map Value.ref)
  | [], [], _ => .nil
  | _ :: _, C :: Cs, .cons r t => by cases r; exact .cons (.own C) (RL.cls t)
end
end SK
namespace SK
open PySem PySem.Spec PyProof.Rows L2
end SK
namespace SK
open PySem PySem.Spec PyProof.Rows L2
structure XCls (K : PySem.W.Frag) (mg : Str → Option Value) (x : Str) (C : Addr) : Prop where
  g : mg x = some (.ref C)
  q : PySem.W.excIn K C [.type "ValueError", .type "Exception", .type "BaseException", .type "object"] "ValueError.__new__" = true
  k : PySem.W.keepIn K (.ref C) = true
  b : PySem.W.subIn K (.ref C) (.type "BaseException") = some true
  t : PySem.W.typeIn K (.ref C) = some (.type "type")
section
variable {X : Cx} {W : WX} {K : PySem.W.Frag} {mg : Str → Option Value} {x m : Str} {C : Addr} {j : Nat} {p p2 pos pos2 : Pos}
theorem k_raise (hc : X.calm = true) (tk : L2.Takes X W) (T : XCls K mg x C) (hK : X.K = K := by rfl) (hm : X.mg = mg := by rfl) (hg : Gl X x := by rfl) (hd : (x == ("__debug__" : Str)) = false := by decide) :
    PS X (.Raise (some (.Call (.Name x p) [.Constant (.str m) j p2] [] pos)) none pos2) (tRaise W C) := by
  subst hK hm
  exact L2.ps_raise hc tk (L2.pmk_own PySem.F.excBase_ValueError T.q T.g T.k (raises_own T.b T.t) hg hd)
end
section
variable {K : PySem.W.Frag} {F B0 : Hp} {T : List O} {Γ : En} {Dd : EG} {c : Value} {ts : Addr → Value → Option Addr → TS} {Wout : WX} {tw : WX → TS} {u : TS} {i : Nat}
def tTryE (K : PySem.W.Frag) (c : Value) (ts : Addr → Value → Option Addr → TS) (Wout : WX) (tb : WX → TS) (u : TS) : TS := fun De σ H => tb (wOnly K c ts Wout De) { De with nx := u De } σ H
end
end SK
namespace SK
open PySem PySem.Spec PyProof.Rows L2
theorem gos_sIW {K : PySem.W.Frag} {F B0 : Hp} {T : List O} {Γ : En} {Dd : EG} {tt : TT} {u t2 : TS} {W : WX} {C : Addr} (h : GoS K F B0 (tIfS tt (tRaise W C) u) T Γ { Dd with nx := fun Γ1 => GoS K F B0 t2 T Γ1 Dd }) : GoS K F B0 (tSeq (tIfS tt (tRaise W C) u) t2) T Γ Dd := gos_seq h
end SK
namespace SK
open PySem PySem.Spec PyProof.Rows L2
section
variable {X : Cx} {K : PySem.W.Frag} {x n : Str} {c : Value} {i : Nat} {body suite orelse : List Stmt} {b₀ : Stmt} {np pos pos' : Pos} {tb : WX → TS} {ts : Addr → Value → Option Addr → TS} {Wout : WX} {u : TS}
theorem k_tryAs (hN : X.N.Nodup) (hc : Names X x c) (tk : L2.Takes X Wout)
    (hb : ∀ (W : WX) (pn : List (Addr × Obj)) (xe : Value → Shared → Prop), L2.Takes (X.tr pn xe) W → PassesOwn (model X.prog X.w) X.A X.env xe → PSs (X.tr pn xe) body (tb W))
    (hsu : ∀ (a : Addr) (oe : Obj) (cls : Value) (d : Option Addr) (pn : List (Addr × Obj)), Zc cls d oe → (∃ vs, oe.data = .fields vs) → PSs (X.suite a ((a, oe) :: pn)) (b₀ :: suite) (ts a cls d))
    (hK : X.K = K := by rfl) (hs : X.stack = X.env :: X.outer := by rfl) (hf : X.env.frame = some X.env.locals := by rfl) (hi : X.N[i]? = some n := by rfl) (hln : X.env.kindOf n = some .local := by rfl) :
    PS X (.Try body [.ExceptHandler (some (.Name x np)) (some n) (b₀ :: suite) pos'] [] [] pos) (tTryAs K c i ts Wout tb) := by
  subst hK
  exact L2.ps_try_as hs hf hN hi hln hc tk hb hsu
end
section
variable {K : PySem.W.Frag} {F B0 : Hp} {T : List O} {Γ : En} {Dd : EG} {c : Value} {ts : Addr → Value → Option Addr → TS} {Wout : WX} {tw : WX → TS} {u t2 : TS} {i : Nat}
theorem gos_sTA (h : GoS K F B0 (tTryAs K c i ts Wout tw) T Γ { Dd with nx := fun Γ1 => GoS K F B0 t2 T Γ1 Dd }) : GoS K F B0 (tSeq (tTryAs K c i ts Wout tw) t2) T Γ Dd := gos_seq h
theorem gos_sTO (h : GoS K F B0 (tTry K c ts Wout tw) T Γ { Dd with nx := fun Γ1 => GoS K F B0 t2 T Γ1 Dd }) : GoS K F B0 (tSeq (tTry K c ts Wout tw) t2) T Γ Dd := gos_seq h
theorem gos_sTE (h : GoS K F B0 (tTryE K c ts Wout tw u) T Γ { Dd with nx := fun Γ1 => GoS K F B0 t2 T Γ1 Dd }) : GoS K F B0 (tSeq (tTryE K c ts Wout tw u) t2) T Γ Dd := gos_seq h
end
end SK
namespace SK
open PySem PySem.Spec PyProof.Rows L2
end SK
namespace SK
open PySem PySem.Spec PyProof.Rows L2 TL
def rSIndexG : V → List V → Hp → VK → Prop := fun x xs H Q => ∃ a b i rest, x = .str a ∧ xs = [.str b] ∧ Builtin.Str.occurrences a b 0 a.length 1 = i :: rest ∧ Q (.int (i : Nat)) H
def rFindG : V → List V → Hp → VK → Prop := fun x xs H Q => ∃ a b, x = .str a ∧ xs = [.str b] ∧ Q (.int (Txt.find a b)) H
section
variable {K : PySem.W.Frag} {F B0 H H' B B' : Hp} {τ τs : List V} {T os : List O} {σ : L2.St} {Γ : En} {S S1 S2 : Ad} {v w : V} {post : O → En → Prop} {ta : TA} {te : TE}
/-- a.index(b) of a text that has it -/
theorem go_sindex (h : Go K F B0 te T Γ fun o Γ1 => ∃ a, o = .d (.str a) ∧ GoA K F B0 ta (.d (.str a) :: T) Γ1 fun xs Γ2 => ∃ b i rest, xs = [.str b] ∧ Builtin.Str.occurrences a b 0 a.length 1 = i :: rest ∧ post (.d (.int (i : Nat))) Γ2) :
    Go K F B0 (tBM K "str" rSIndexG te ta) T Γ post := fun τ σ H Q hw k =>
  h τ σ H _ hw fun v1 o1 Γ1 H1 ⟨a, e, h1⟩ ⟨_, _, w1⟩ => by
    subst e
    obtain ⟨r1, _⟩ := w1.popd
    cases r1
    refine ⟨rfl, h1 _ σ H1 _ ⟨_, _, w1⟩ fun vs xs Γ2 H2 ⟨b, i, rest, e, oc, h2⟩ ⟨_, _, w2⟩ hl => ?_⟩
    subst e
    obtain ⟨rl, S2, w3⟩ := w2.args hl
    obtain ⟨_, _, _, w4⟩ := w3.popd
    obtain ⟨u, rfl, r⟩ := rl.one
    cases r
    exact ⟨a, b, i, rest, rfl, rfl, oc, k _ _ _ _ h2 ⟨_, _, w4.pushd .int⟩⟩
theorem go_find (h : Go K F B0 te T Γ fun o Γ1 => ∃ a, o = .d (.str a) ∧ GoA K F B0 ta (.d (.str a) :: T) Γ1 fun xs Γ2 => ∃ b, xs = [.str b] ∧ post (.d (.int (Txt.find a b))) Γ2) :
    Go K F B0 (tBM K "str" rFindG te ta) T Γ post := fun τ σ H Q hw k =>
  h τ σ H _ hw fun v1 o1 Γ1 H1 ⟨a, e, h1⟩ ⟨_, _, w1⟩ => by
    subst e
    obtain ⟨r1, _⟩ := w1.popd
    cases r1
    refine ⟨rfl, h1 _ σ H1 _ ⟨_, _, w1⟩ fun vs xs Γ2 H2 ⟨b, e, h2⟩ ⟨_, _, w2⟩ hl => ?_⟩
    subst e
    obtain ⟨rl, S2, w3⟩ := w2.args hl
    obtain ⟨_, _, _, w4⟩ := w3.popd
    obtain ⟨u, rfl, r⟩ := rl.one
    cases r
    exact ⟨a, b, rfl, rfl, k _ _ _ _ h2 ⟨_, _, w4.pushd .int⟩⟩
end
end SK
namespace SK
open PySem PySem.Spec PyProof.Rows L2
/-- an exception of the body is always one that the clause names -/
def wAll (K : PySem.W.Frag) (c : Value) (ts : Addr → Value → Option Addr → TS) (De : Ends) : WX := fun cls d σ H => PySem.W.exmOne K cls c = some true ∧ ∀ a, H a = none → ts a cls d De σ H
def tTryXE (K : PySem.W.Frag) (c : Value) (ts : Addr → Value → Option Addr → TS) (tb : WX → TS) (u : TS) : TS := fun De σ H => tb (wAll K c ts De) { De with nx := u De } σ H
section
variable {K : PySem.W.Frag} {F B0 : Hp} {T : List O} {Γ : En} {Dd : EG} {c : Value} {ts : Addr → Value → Option Addr → TS} {Wout : WX} {tw : WX → TS} {u t2 : TS}
theorem gos_sTX (h : GoS K F B0 (tTryXE K c ts tw u) T Γ { Dd with nx := fun Γ1 => GoS K F B0 t2 T Γ1 Dd }) : GoS K F B0 (tSeq (tTryXE K c ts tw u) t2) T Γ Dd := gos_seq h
end
end SK
namespace SK
open PySem PySem.Spec PyProof.Rows L2 TL
end SK
namespace SK
open PySem PySem.Spec PyProof.Rows L2
end SK
namespace SK
open PySem PySem.Spec PyProof.Rows L2 TL
def rUpperG : V → List V → Hp → VK → Prop := fun x xs H Q => ∃ a, x = .str a ∧ xs = [] ∧ a.length ≤ 5592405 ∧ Q (.str (Txt.upper a)) H
theorem mt_upperG {X : Cx} : MtR X "str.upper" rUpperG := mt_upper
section
variable {K : PySem.W.Frag} {F B0 H H' B B' : Hp} {τ τs : List V} {T os : List O} {σ : L2.St} {Γ : En} {S S1 S2 : Ad} {v w : V} {post : O → En → Prop} {ta : TA} {te : TE} {i : Nat} {Dd : EG}
theorem go_upper (h : Go K F B0 te T Γ fun o Γ1 => ∃ a, o = .d (.str a) ∧ a.length ≤ 100000 ∧ post (.d (.str (Txt.upper a))) Γ1) :
    Go K F B0 (tBM0 K "str" rUpperG te) T Γ post := fun τ σ H Q hw k =>
  h τ σ H _ hw fun v1 o1 Γ1 H1 ⟨a, e, hz, h1⟩ ⟨_, _, w1⟩ => by
    subst e
    obtain ⟨r1, _, _, w2⟩ := w1.popd
    cases r1
    exact ⟨rfl, a, rfl, rfl, Nat.le_trans hz (by decide), k _ _ _ _ h1 ⟨_, _, w2.pushd .str⟩⟩
/-- xs.clear(), xs a name -/
theorem gos_clear (h : ∃ xs, Γ[i]? = some (some (.ol xs)) ∧ Dd.nx (Γ.set i (some (.ol [])))) :
    GoS K F B0 (tDrop (tBM0 K "list" rClear (tVar i))) T Γ Dd := fun τ σ H De hw s => by
  obtain ⟨B, S, w⟩ := hw
  obtain ⟨xs, e0, h⟩ := h
  obtain ⟨v, S1, a1, r1, _, f⟩ := w.mut1 e0
  cases r1 with
  | @ol _ S4 a vs _ ha hs hn hc rs =>
  refine ⟨.ref a, a1, Or.inl ⟨rfl, vs, SqL.of hc⟩, a, vs, rfl, rfl, hc, ?_⟩
  obtain ⟨S', w3⟩ := f a (.lst []) (.ol []) ha (.ol (S' := fun _ => False) ha (fun b z => False.elim z) id upd_same .nil)
  exact s.nx σ _ _ h ⟨B, S', w3⟩
theorem RS.app0 : ∀ {σ : List (Option V)} {Γ : List (Option O)} {S : Ad} {vs : List V} {xs : List D}, RS K B H S σ Γ → RL K B vs xs → RS K B H S (σ ++ vs.map some) (Γ ++ (xs.map O.d).map some)
  | _, _, _, _, _, .nil, rl => by simpa using fl_of rl
  | _, _, _, _, _, .un r, rl => .un (RS.app0 r rl)
  | _, _, _, _, _, .cons s1 s2 d r rs, rl => .cons s1 s2 d r (RS.app0 rs rl)
/-- xs.extend(e), xs a name -/
theorem gos_extend (h : Go K F B0 te T Γ fun o Γ1 => ∃ xs zs, o.fz = .lst zs ∧ Γ1[i]? = some (some (.ol xs)) ∧ xs.length + zs.length ≤ 100000 ∧ Dd.nx (Γ1.set i (some (.ol (xs ++ zs.map O.d))))) (h0 : ∃ xs, Γ[i]? = some (some (.ol xs))) :
    GoS K F B0 (tDrop (tBM K "list" rExtend (tVar i) (tCons te tNil))) T Γ Dd := fun τ σ H De hw s => by
  obtain ⟨B, S, w⟩ := hw
  obtain ⟨xs0, e0⟩ := h0
  obtain ⟨v, S1, a1, r1, _, _⟩ := w.mut1 e0
  cases r1 with
  | @ol _ _ a vs _ _ _ _ hc _ =>
  refine ⟨.ref a, a1, Or.inl ⟨rfl, vs, SqL.of hc⟩, h τ σ H _ ⟨B, S, w⟩ fun v2 o2 Γ2 H2 ⟨xs, zs, ez, e2, hz, h2⟩ ⟨B2, S2, w2⟩ => ?_⟩
  obtain ⟨B3, S3, w3, r3, _⟩ := w2.fzd
  rw [ez] at r3
  cases r3 with
  | @lst b us _ hb rl =>
  obtain ⟨v', S5, a2, r2, _, f⟩ := w3.mut1 e2
  rw [a1] at a2
  cases a2
  cases r2 with
  | @ol _ S4 _ ws _ ha hs hn hc2 rs =>
  have len : ws.length = xs.length := by simpa using rs.len
  have len2 : us.length = zs.length := rl.length
  refine ⟨a, b, ws, us, rfl, rfl, hc2, w3.pu _ _ hb, by rw [len, len2]; exact Nat.le_trans hz (by decide), ?_⟩
  obtain ⟨S', w4⟩ := f a (.lst (ws ++ us)) (.ol (xs ++ zs.map O.d)) ha (.ol (S' := S4) ha hs hn upd_same (by
    rw [List.map_append, List.map_append]
    exact (rs.app0 rl).at fun b u z q => by
      rw [upd_ne (fun e => by subst e; exact hn z)]; exact q))
  exact s.nx σ _ _ h2 ⟨_, S', w4⟩
end
end SK
namespace SK
open PySem PySem.Spec PyProof.Rows L2
section
variable {K : PySem.W.Frag} {F B0 H H' B B' : Hp} {τ τs : List V} {T os : List O} {σ : L2.St} {Γ : En} {S S1 S2 : Ad} {v w : V}
theorem iter_zipT {a b : Addr} {xs ys : List D} : Iter K F B0 (RZ.ItzT K a b) [.ref b, .ref a] [.tup ys, .tup xs] (zipD xs ys) := by
  intro τ T σ Γ H B S h rl0
  obtain ⟨v0, v1, e0, r2, r⟩ := rl0.two
  cases e0
  cases r with | @tup _ vs _ sq rl =>
  cases r2 with | @tup _ us _ sq2 rl2 =>
  have sqh := h.pu.sqT sq
  have sqh2 := h.pu.sqT sq2
  refine ⟨⟨vs, us, sqh, sqh2, by simp only [zipD, List.length_map, List.length_zip]; have := rl.length; have := rl2.length; omega⟩, fun i d hd => ?_⟩
  have hi : i < (zipD xs ys).length := (List.getElem?_eq_some_iff.mp hd).1
  simp only [zipD, List.length_map, List.length_zip] at hi
  have hxi : i < xs.length := by omega
  have hyi : i < ys.length := by omega
  have e : d = .tup [xs[i], ys[i]] := by
    simp [zipD, hxi, hyi, List.getElem?_map, List.zip, List.getElem?_zipWith] at hd
    exact hd.symm
  subst e
  obtain ⟨x1, hx1, rx1⟩ := rl.get (i := i) (x := xs[i]) (by simp [hxi])
  obtain ⟨y1, hy1, ry1⟩ := rl2.get (i := i) (x := ys[i]) (by simp [hyi])
  refine ⟨⟨vs, us, x1, y1, sqh, sqh2, hx1, hy1⟩, fun z H' ⟨t, x2, y2, e1, e2, e3, f1, f2⟩ => ?_⟩
  subst e1 e3
  have g1 := f1 vs sqh
  rw [hx1] at g1
  cases g1
  have g2 := f2 us sqh2
  rw [hy1] at g2
  cases g2
  have ex : Ex B (upd B t (.tup [x1, y1])) := .new (h.pu.back e2)
  obtain ⟨S', w'⟩ := HW.newd h e2 (x := .tup [xs[i], ys[i]]) (.tup (SqT.of upd_same) (.cons (rx1.mono (.of_ex ex)) (.cons (ry1.mono (.of_ex ex)) .nil)))
  exact ⟨_, S', w'⟩
theorem goi_zipT {ta : TA} {posti : List D → List D → En → Prop} (h : GoA K F B0 ta T Γ fun zs Γ1 => ∃ xs ys, zs = [.tup xs, .tup ys] ∧ posti (zipD xs ys) [.tup ys, .tup xs] Γ1) : GoI K F B0 (RZ.iZipA K ta) T Γ posti := fun τ σ H Q hw k =>
  h τ σ H _ hw fun vs zs Γ1 H1 ⟨xs, ys, e, h1⟩ ⟨_, _, w1⟩ hl => by
    subst e
    obtain ⟨rl, S', w⟩ := w1.args hl
    cases rl with | cons r rl0 => cases rl0 with | cons r2 rl0 =>
      cases rl0
      have r' := r
      have r2' := r2
      cases r with | @tup a us _ sq rl2 =>
      cases r2 with | @tup b us2 _ sq2 rl3 =>
      exact ⟨a, b, us, us2, rfl, .inr ⟨w.pu.sqT sq, w.pu.sqT sq2, k (RZ.ItzT K a b) [.ref b, .ref a] [.tup ys, .tup xs] _ Γ1 H1 h1 ⟨_, _, (w.pushd r').pushd r2'⟩ rfl iter_zipT⟩⟩
end
end SK
set_option maxHeartbeats 1000000
namespace SK
open PySem PySem.Spec PyProof.Rows L2
mutual
/-- no list, dict or instance is in it -/
def D.lf : D → Bool
  | .non => true
  | .bl _ => true
  | .int _ => true
  | .str _ => true
  | .ref _ => true
  | .ty _ => true
  | .tup xs => lfL xs
  | _ => false
def lfL : List D → Bool
  | [] => true
  | x :: xs => x.lf && lfL xs
end
mutual
def O.lf : O → Bool
  | .d x => x.lf
  | .ol xs => lfOL xs
  | .od kvs => lfOK kvs
  | .oi _ _ fs => lfOF fs
  | .op xs => lfOL xs
  | _ => false
def lfOL : List O → Bool
  | [] => true
  | x :: xs => x.lf && lfOL xs
def lfOK : List (Key × O) → Bool
  | [] => true
  | (_, x) :: xs => x.lf && lfOK xs
def lfOF : List (Str × O) → Bool
  | [] => true
  | (_, x) :: xs => x.lf && lfOF xs
end
section
variable {K : PySem.W.Frag} {B B2 H : Hp}
mutual
theorem R.lfD (hB : ∀ a xs, SqT K B a xs → SqT K B2 a xs) : ∀ (x : D) {v : V}, R K B v x → x.lf = true → R K B2 v x
  | .non, _, r, _ => by cases r; exact .non
  | .bl _, _, r, _ => by cases r; exact .bl
  | .int _, _, r, _ => by cases r; exact .int
  | .str _, _, r, _ => by cases r; exact .str
  | .ref _, _, r, _ => by cases r; exact .ref
  | .ty _, _, r, _ => by cases r; exact .ty
  | .tup xs, _, r, q => by
    cases r with
    | tup h rl => exact .tup (hB _ _ h) (RL.lfD hB xs rl (by simpa [D.lf] using q))
  | .lst _, _, _, q => by simp [D.lf] at q
  | .sq _, _, _, q => by simp [D.lf] at q
  | .dic _, _, _, q => by simp [D.lf] at q
  | .dit _, _, _, q => by simp [D.lf] at q
  | .ins _ _, _, _, q => by simp [D.lf] at q
theorem RL.lfD (hB : ∀ a xs, SqT K B a xs → SqT K B2 a xs) : ∀ (xs : List D) {vs : List V}, RL K B vs xs → lfL xs = true → RL K B2 vs xs
  | [], _, r, _ => by cases r; exact .nil
  | x :: xs, _, r, q => by
    simp only [lfL, Bool.and_eq_true] at q
    cases r with
    | cons r t => exact .cons (R.lfD hB x r q.1) (RL.lfD hB xs t q.2)
end
theorem R.lf (hB : ∀ a xs, SqT K B a xs → SqT K B2 a xs) {v : V} {x : D} (r : R K B v x) (q : x.lf = true) : R K B2 v x := R.lfD hB x r q
theorem lfOL_map : ∀ {xs : List O}, lfOL xs = true → ∀ o ∈ xs, o.lf = true
  | x :: xs, q, o, h => by
    simp only [lfOL, Bool.and_eq_true] at q
    rcases List.mem_cons.mp h with rfl | h
    · exact q.1
    · exact lfOL_map q.2 o h
theorem lfOK_map : ∀ {xs : List (Key × O)}, lfOK xs = true → ∀ p ∈ xs, p.2.lf = true
  | (k, x) :: xs, q, p, h => by
    simp only [lfOK, Bool.and_eq_true] at q
    rcases List.mem_cons.mp h with rfl | h
    · exact q.1
    · exact lfOK_map q.2 p h
theorem lfOF_map : ∀ {xs : List (Str × O)}, lfOF xs = true → ∀ p ∈ xs, p.2.lf = true
  | (k, x) :: xs, q, p, h => by
    simp only [lfOF, Bool.and_eq_true] at q
    rcases List.mem_cons.mp h with rfl | h
    · exact q.1
    · exact lfOF_map q.2 p h
mutual
theorem RO.lf (hB : ∀ a xs, SqT K B a xs → SqT K B2 a xs) : ∀ {S : Ad} {v : V} {o : O}, RO K B H S v o → o.lf = true → RO K B2 H S v o
  | _, _, _, .d r, q => .d (r.lf hB (by simpa [O.lf] using q))
  | _, _, _, .ol (xs := xs) ha hs hn h r, q => .ol ha hs hn h (RS.lf hB r fun o ho => by
      obtain ⟨y, hy, e⟩ := List.mem_map.mp ho
      cases e
      exact lfOL_map (by simpa [O.lf] using q) o hy)
  | _, _, _, .od (kvs := kvs) ha hs hn h nd e r, q => .od ha hs hn h nd e (RS.lf hB r fun o ho => by
      obtain ⟨y, hy, e⟩ := List.mem_map.mp ho
      cases e
      exact lfOK_map (by simpa [O.lf] using q) y hy)
  | _, _, _, .oi (kvs := kvs) ha hd hs hn hn2 ne h h2 e r, q => .oi ha hd hs hn hn2 ne h h2 e (RS.lf hB r fun o ho => by
      obtain ⟨y, hy, e⟩ := List.mem_map.mp ho
      cases e
      exact lfOF_map (by simpa [O.lf] using q) y hy)
  | _, _, _, .op (xs := xs) h r, q => .op (hB _ _ h) (RS.lf hB r fun o ho => by
      obtain ⟨y, hy, e⟩ := List.mem_map.mp ho
      cases e
      exact lfOL_map (by simpa [O.lf] using q) o hy)
theorem RS.lf (hB : ∀ a xs, SqT K B a xs → SqT K B2 a xs) : ∀ {S : Ad} {σ : List (Option V)} {Γ : List (Option O)}, RS K B H S σ Γ → (∀ o, some o ∈ Γ → o.lf = true) → RS K B2 H S σ Γ
  | _, _, _, .nil, _ => .nil
  | _, _, _, .un r, q => .un (RS.lf hB r fun o h => q o (List.mem_cons_of_mem _ h))
  | _, _, _, .cons s1 s2 d r t, q => .cons s1 s2 d (RO.lf hB r (q _ List.mem_cons_self)) (RS.lf hB t fun o h => q o (List.mem_cons_of_mem _ h))
end
end
end SK
namespace SK
open PySem PySem.Spec PyProof.Rows L2
def rMinD (K : PySem.W.Frag) : List V → List V → Hp → VK → Prop := fun vs zs H Q => ∃ (a : Addr) (ns : List Int) (d : V), vs = [V.ref a] ∧ zs = [d] ∧ SqL K H a (ns.map V.int) ∧ (ns = [] → Q d H) ∧ ∀ m, m ∈ ns → (∀ y, y ∈ ns → m ≤ y) → Q (.int m) H
section
variable {K : PySem.W.Frag} {F B0 H H' B B' : Hp} {τ : List V} {T : List O} {σ : L2.St} {Γ : En} {post : O → En → Prop} {t tk : TA}
theorem go_minD (h : GoA K F B0 t T Γ fun xs Γ1 => ∃ x ns, xs = [x] ∧ x.seq? = some (ns.map D.int) ∧ GoA K F B0 tk (.d x :: T) Γ1 fun zs Γ2 => ∃ y, zs = [y] ∧ (ns = [] → post (.d y) Γ2) ∧ ∀ m, m ∈ ns → (∀ y, y ∈ ns → m ≤ y) → post (.d (.int m)) Γ2) :
    Go K F B0 (tCKw (rMinD K) t tk) T Γ post := fun τ σ H Q hw k =>
  h τ σ H _ hw fun vs xs Γ1 H1 ⟨x, ns, e, q, h1⟩ w1 hl => by
    subst e
    obtain ⟨v, rfl⟩ : ∃ v, vs = [v] := List.length_eq_one_iff.mp hl
    refine h1 _ σ H1 _ w1 fun zs ys Γ2 H2 ⟨y, e2, h0, h2⟩ ⟨B2, S2, w2⟩ hl2 => ?_
    subst e2
    obtain ⟨z, rfl⟩ : ∃ z, zs = [z] := List.length_eq_one_iff.mp hl2
    obtain ⟨ry, _, _, w3⟩ := w2.popd
    obtain ⟨rx, _, _, w4⟩ := w3.popd
    obtain ⟨a, us, rfl, sq, rl⟩ := rx.seqL q
    have eu : us = ns.map V.int := by
      have : ∀ {us : List V} {ns : List Int}, RL K B2 us (ns.map D.int) → us = ns.map V.int := by
        intro us ns r
        induction ns generalizing us with
        | nil => cases r; rfl
        | cons n ns ih =>
          cases r with
          | cons r t => cases r; rw [ih t]; rfl
      exact this rl
    subst eu
    exact ⟨a, ns, z, rfl, rfl, w4.pu.sqL sq, fun hz => k _ _ _ _ (h0 hz) ⟨_, _, w4.pushd ry⟩, fun m hm hall => k _ _ _ _ (h2 m hm hall) ⟨_, _, w4.pushd .int⟩⟩
end
end SK
namespace SK
open PySem PySem.Spec PyProof.Rows L2
/-- the j-th statement of a class -/
def inCls (st : Stmt) (j : Nat) : Stmt := match st with
  | .ClassDef (body := b) .. => b.getD j (.Pass ⟨0, 0, 0, 0⟩)
  | _ => .Pass ⟨0, 0, 0, 0⟩
def DfM (K : PySem.W.Frag) (m q : Str) (st : Stmt) (f : Addr) : Prop := ∃ fd, Fun K m q st f fd
theorem dfm_mk {K : PySem.W.Frag} {m q : Str} {st : Stmt} {f : Addr} {oc : Value} {od an : Option Addr} {sl : Array (Option Value)} {kV dc pm cd ct : Value}
    (l : K.lookup f = some ⟨oc, od, .func (PySem.W.fnOf m q (defArgs st) (defBody st) (defScope st) .none kV dc pm an cd ct), sl⟩)
    (c : PySem.W.codeIn K cd q = true) (k : PySem.W.keepIn K (.ref f) = true) : DfM K m q st f := ⟨_, fun_mk (st := st) l c k⟩
/-- the class facts of a record: its fields are its own -/
structure Rec (K : PySem.W.Frag) (Ci : Addr) (fs : List Str) : Prop where
  cls : Cls K Ci
  no : ∀ f, fs.contains f = true → NoAttr K Ci f
section
variable {K : PySem.W.Frag} {F B0 H H' B B' : Hp} {τ : List V} {T : List O} {σ : L2.St} {Γ : En} {post : O → En → Prop} {te tv : TE} {Ci : Addr} {fl : List Str} {f : Str} {Dd : EG} {i : Nat}
/-- e.f of a frozen record -/
theorem go_fldR (R : Rec K Ci fl) (h : Go K F B0 te T Γ fun o Γ1 => ∃ fs y, o.fz = .ins Ci fs ∧ fs.lookup f = some y ∧ fl.contains f = true ∧ post (.d y) Γ1) : Go K F B0 (tFld K te f) T Γ post :=
  go_fld fun τ σ H Q hw k => h τ σ H Q hw fun v o Γ1 H1 ⟨fs, y, e1, e2, e3, e4⟩ w => k v o Γ1 H1 ⟨Ci, fs, y, e1, e2, R.cls, R.no f e3, e4⟩ w
/-- self.f = e in __init__ -/
theorem gos_fldR (R : Rec K Ci fl) (h : Go K F B0 tv T Γ fun o Γ1 => ∃ a fs, Γ1[i]? = some (some (.oi a Ci fs)) ∧ fl.contains f = true ∧ fs.length < 1000 ∧ Dd.nx (Γ1.set i (some (.oi a Ci (SK.fput f o fs))))) : GoS K F B0 (sFld K (tVar i) tv f) T Γ Dd :=
  gos_fld fun τ σ H Q hw k => h τ σ H Q hw fun v o Γ1 H1 ⟨a, fs, e1, e2, e3, e4⟩ w => k v o Γ1 H1 ⟨a, Ci, fs, e1, R.cls, R.no f e2, e3, e4⟩ w
end
end SK
namespace SK
open PySem PySem.Spec PyProof.Rows L2
end SK
namespace SK
open PySem PySem.Spec PyProof.Rows L2
end SK
namespace SK
open PySem PySem.Spec PyProof.Rows L2 RT
def tListRev (K : PySem.W.Frag) (te : TE) : TE := fun σ H Q => te σ H fun v H1 => ∃ (a : Addr) (xs : List V), v = .ref a ∧ SqL K H1 a xs ∧ ∀ q, H1 q = none → Q (.ref q) (upd H1 q (.lst xs.reverse))
section
variable {K : PySem.W.Frag} {F B0 H H' B B' : Hp} {τ : List V} {T : List O} {σ : L2.St} {Γ : En} {post : O → En → Prop} {te : TE}
theorem RL.rev {vs : List V} {xs : List D} (r : RL K B vs xs) : RL K B vs.reverse xs.reverse := by
  induction vs generalizing xs with
  | nil => cases r; exact .nil
  | cons v vs ih =>
    cases r with
    | cons r t =>
      rw [List.reverse_cons, List.reverse_cons]
      exact (ih t).app (.cons r .nil)
/-- list(reversed(xs)) -/
theorem go_listRev (h : Go K F B0 te T Γ fun o Γ1 => ∃ xs, o.fz.seq? = some xs ∧ post (.ol (xs.reverse.map O.d)) Γ1) : Go K F B0 (tListRev K te) T Γ post := fun τ σ H Q hw k =>
  h τ σ H _ hw fun v1 o1 Γ1 H1 ⟨xs, e1, h1⟩ ⟨_, _, w1⟩ => by
    obtain ⟨B2, S2, w2, r, _⟩ := w1.fzd
    obtain ⟨a, vs, rfl, sq, rl⟩ := r.seqL e1
    refine ⟨a, vs, rfl, w2.pu.sqL sq, fun p hp => ?_⟩
    obtain ⟨S3, w3⟩ := w2.newl hp rl.rev
    exact k _ _ _ _ h1 ⟨_, _, w3⟩
end
end SK
namespace SK
open PySem PySem.Spec PyProof.Rows L2
section
variable {K : PySem.W.Frag} {F B0 H B : Hp} {τ : List V} {T : List O} {σ : L2.St} {Γ : En} {S : Ad} {o : O} {i : Nat} {te : TE} {tt : TT} {post : O → En → Prop} {postt : Bool → En → Prop}
theorem HW.lendA (w : HW K F B0 τ T σ Γ H B S) : ∃ Bf, Ho K H Bf [] [] σ (fzE Γ) H ∧
    (∀ Γ1 H1, Ho K H Bf [] [] σ Γ1 H1 → Ho K F B0 τ T σ Γ H1) ∧
    ∀ v' o' Γ1 H1, Ho K H Bf [v'] [o'] σ Γ1 H1 → o'.lf = true → Ho K F B0 (v' :: τ) (o' :: T) σ Γ H1 := by
  obtain ⟨Sp, Ss, p1, p2, p3, rp, rsl⟩ := RS.split (σ0 := τ.map some) (Γ0 := T.map some) (by simp [w.lt]) w.rs
  obtain ⟨L, l1, r2, l3⟩ := rsl.tight
  have bn : ∀ a, L a → B a = none ∧ H a ≠ none := fun a z => (w.ow a (p2 a (l1 a z))).2
  have ex : Ex B (SK.frz B H L) := frz_ex fun a z => (bn a z).1
  have le0 : BLe B (SK.frz B H L) := .of_ex ex
  have main : ∀ v' o' Γ1 H1, Ho K H (SK.frz B H L) [v'] [o'] σ Γ1 H1 → o'.lf = true → Ho K F B0 (v' :: τ) (o' :: T) σ Γ H1 := by
    intro v' o' Γ1 H1 ⟨B1, Sr, w1⟩ lf
    obtain ⟨T1, T2, t1, t2, dj, ro, _⟩ := w1.pop
    have hB : ∀ a u, B a = some u → ¬ L a := fun a u q z => by rw [(bn a z).1] at q; cases q
    have off : ∀ a u, ¬ L a → B1 a = some u → offH B1 L a = some u := fun a u z q => by rw [offH_no z]; exact q
    have offR : ∀ a u, ¬ L a → Rd B1 a u → Rd (offH B1 L) a u := fun a u z q => q.elim (fun q => .inl (off a _ z q)) fun ⟨o, q⟩ => .inr ⟨o, off a _ z q⟩
    have nL : ∀ a u, Rd B a u → ¬ L a := fun a u q => q.elim (hB a _) fun ⟨o, q⟩ => hB a _ q
    have le : BLe B (offH B1 L) := by
      have l := le0.trans w1.b0
      exact ⟨fun a xs q => offR a _ (nL a _ q) (l.tup a xs q), fun a xs q => offR a _ (nL a _ q) (l.lst a xs q), fun a xs q => off a _ (hB a _ q) (l.ls a xs q), fun a xs q => offR a _ (nL a _ q) (l.dK a xs q), fun a xs q => offR a _ (nL a _ q) (l.dT a xs q), fun a C dx fs q => off a _ (hB a _ q) (l.ins a C dx fs q)⟩
    have pu : Ex (offH B1 L) H1 := fun a u q => by
      by_cases z : L a
      · rw [offH_at z] at q; cases q
      · rw [offH_no z] at q; exact w1.pu a u q
    have sq : ∀ a xs, SqT K B1 a xs → SqT K (offH B1 L) a xs := fun a xs q => q.imp (fun q => by
      refine offR a _ (fun z => ?_) q
      have q2 : ∃ u, B1 a = some u ∧ (u = .tup xs ∨ ∃ o, u = .frz o (.tup xs)) := q.elim (fun q => ⟨_, q, .inl rfl⟩) fun ⟨o, q⟩ => ⟨_, q, .inr ⟨o, rfl⟩⟩
      obtain ⟨u, q3, q4⟩ := q2
      have q5 := w1.pu a u q3
      rcases l3 a z with ⟨_, y⟩ | ⟨_, y⟩ | ⟨_, y⟩ | ⟨_, _, _, y⟩ | ⟨_, y⟩ <;>
        (rw [w1.fr a _ y] at q5
         cases q5
         rcases q4 with q4 | ⟨_, q4⟩ <;> cases q4)) id
    refine ⟨offH B1 L, fun a => T1 a ∨ S a, w.fr.trans w1.fr, pu, w.b0.trans le, fun a z => ?_, fun a z => ?_, .cons (S1 := T1) (S2 := S) (fun _ z => .inl z) (fun _ z => .inr z) (fun a z y => ?_) (ro.lf sq lf) (w.rs.tr le (fun _ z => z) fun a u _ q => w1.fr a u q), by simp [w.lt]⟩
    · rcases z with z | z
      · obtain ⟨q1, q2, q3⟩ := w1.ow a (t1 a z)
        refine ⟨w.fr.back q1, ?_, q3⟩
        by_cases y : L a
        · exact offH_at y
        · rw [offH_no y]; exact q2
      · obtain ⟨q1, q2, q3⟩ := w.ow a z
        refine ⟨q1, ?_, fun q => q3 (w1.fr.back q)⟩
        by_cases y : L a
        · exact offH_at y
        · rw [offH_no y]
          cases q : B1 a with
          | none => rfl
          | some u =>
            rcases w1.nw a (by rw [q]; simp) with x | x
            · rw [frz_no y] at x; exact absurd q2 x
            · exact absurd x q3
    · by_cases y : L a
      · exact absurd (offH_at y) z
      · rw [offH_no y] at z
        rcases w1.nw a z with x | x
        · rw [frz_no y] at x; exact w.nw a x
        · exact .inr (w.fr.back x)
    · exact (w.ow a y).2.2 (w1.ow a (t1 a z)).1
  refine ⟨SK.frz B H L, ⟨SK.frz B H L, fun _ => False, .refl H, fun a u q => ?_, .refl _, fun _ z => z.elim, fun _ z => .inl z, ?_, rfl⟩, fun Γ1 H1 ⟨B1, S1, w1⟩ => ?_, main⟩
  · by_cases z : L a
    · rw [frz_at z] at q; exact q
    · rw [frz_no z] at q; exact w.pu a u q
  · exact RS.fzE (S := L) le0 (fun a u z q => by rw [frz_at z]; exact q) r2
  · obtain ⟨B2, S2, w2⟩ := main .non (.d .non) Γ1 H1 ⟨_, _, w1.pushd .non⟩ rfl
    obtain ⟨_, _, _, _, _, _, w3⟩ := w2.pop
    exact ⟨_, _, w3⟩
/-- all slots are read as data in an expression whose value has no part of them -/
theorem go_lendA (h : ∀ F' B', Go K F' B' te [] (fzE Γ) fun o' _ => o'.lf = true ∧ post o' Γ) : Go K F B0 te T Γ post := fun τ σ H Q ⟨B, S, w⟩ k => by
  obtain ⟨Bf, w0, _, back⟩ := w.lendA
  exact h H Bf [] σ H _ w0 fun v o' Γ1 H1 ⟨lf, hp⟩ how => k v o' Γ H1 hp (back v o' Γ1 H1 how lf)
theorem got_lendA (h : ∀ F' B', GoT K F' B' tt [] (fzE Γ) fun b _ => postt b Γ) : GoT K F B0 tt T Γ postt := fun τ σ H Q ⟨B, S, w⟩ k => by
  obtain ⟨Bf, w0, back, _⟩ := w.lendA
  exact h H Bf [] σ H _ w0 fun b Γ1 H1 hp how => k b Γ H1 hp (back Γ1 H1 how)
end
def frO : Option O → Option O
  | none => none
  | some o => some (.d o.fz)
theorem fzE_cons {x : Option O} {r : En} : fzE (x :: r) = frO x :: fzE r := by cases x <;> rfl
theorem fzE_nil : fzE [] = [] := rfl
theorem frO_none : frO none = none := rfl
theorem frO_some {o : O} : frO (some o) = some (.d o.fz) := rfl
def tLendE (t : TE) : TE := t
def tLendT (t : TT) : TT := t
theorem pe_lend {X : Cx} {e : Expr} {t : TE} (h : PE X e t) : PE X e (tLendE t) := h
theorem pt_lend {X : Cx} {e : Expr} {t : TT} (h : PT X e t) : PT X e (tLendT t) := h
section
variable {K : PySem.W.Frag} {F B0 : Hp} {T : List O} {Γ : En} {te : TE} {tt : TT} {post : O → En → Prop} {postt : Bool → En → Prop}
theorem go_lend' (h : ∀ F' B', Go K F' B' te [] (fzE Γ) fun o' _ => o'.lf = true ∧ post o' Γ) : Go K F B0 (tLendE te) T Γ post := go_lendA h
theorem got_lend' (h : ∀ F' B', GoT K F' B' tt [] (fzE Γ) fun b _ => postt b Γ) : GoT K F B0 (tLendT tt) T Γ postt := got_lendA h
end
section
variable {K : PySem.W.Frag} {F B0 H B : Hp} {τ : List V} {T : List O} {σ : L2.St} {Γ : En} {S : Ad} {o : O} {i : Nat} {te : TE} {ta : TA} {post : O → En → Prop} {posts : List O → En → Prop} {Dd : EG}
/-- arguments that stay what they are -/
def GoAO (K : PySem.W.Frag) (F B0 : Hp) (t : TA) (T : List O) (Γ : En) (post : List O → En → Prop) : Prop := ∀ (τ : List V) (σ : L2.St) (H : Hp) (Q : List V → Hp → Prop), Ho K F B0 τ T σ Γ H →
  (∀ vs xs Γ' H', post xs Γ' → Ho K F B0 (vs.reverse ++ τ) (xs.reverse ++ T) σ Γ' H' → vs.length = xs.length → Q vs H') → t σ H Q
theorem goao_nil (h : posts [] Γ) : GoAO K F B0 tNil T Γ posts := fun τ σ H Q hw k => k [] [] Γ H h hw rfl
theorem goao_cons {tr : TA} (h : Go K F B0 te T Γ fun o1 Γ1 => GoAO K F B0 tr (o1 :: T) Γ1 fun xs Γ2 => posts (o1 :: xs) Γ2) : GoAO K F B0 (tCons te tr) T Γ posts := fun τ σ H Q hw k =>
  h τ σ H _ hw fun v1 o1 Γ1 H1 h1 w1 => by
    refine h1 _ σ H1 _ w1 fun vs xs Γ2 H2 h2 w2 hl => ?_
    refine k (v1 :: vs) (o1 :: xs) Γ2 H2 h2 ?_ (by simp [hl])
    simpa using w2
theorem RS.rev : ∀ {σ : List V} {Γ : List O} {S : Ad}, RS K B H S (σ.map some) (Γ.map some) → RS K B H S (σ.reverse.map some) (Γ.reverse.map some)
  | [], [], _, _ => .nil
  | v :: σ, o :: Γ, S, .cons (S1 := T1) (S2 := T2) s1 s2 d r t => by
    rw [List.reverse_cons, List.reverse_cons, List.map_append, List.map_append]
    exact (RS.snoc r t.rev fun b z y => d b y z).tr (.refl B) (fun b z => z.elim (s2 b) (s1 b)) fun _ _ _ e => e
theorem HW.pack {vs : List V} {xs : List O} {p : Addr} {c : HO} (w : HW K F B0 (vs.reverse ++ τ) (xs.reverse ++ T) σ Γ H B S) (hl : vs.length = xs.length) (hp : H p = none) :
    (∃ S', HW K F B0 (.ref p :: τ) (.ol xs :: T) σ Γ (upd H p (.lst vs)) B S') ∧ ∃ S', HW K F B0 (.ref p :: τ) (.op xs :: T) σ Γ (upd H p (.tup vs)) (upd B p (.tup vs)) S' := by
  have rs0 := w.rs
  rw [List.map_append, List.map_append, List.append_assoc, List.append_assoc] at rs0
  obtain ⟨S1, S2, a1, a2, a3, r1, r2⟩ := RS.split (σ0 := vs.reverse.map some) (Γ0 := xs.reverse.map some) (by simp [hl]) rs0
  have r1 := r1.rev
  rw [List.reverse_reverse, List.reverse_reverse] at r1
  have nq : ∀ b, S b → b ≠ p := fun b z e => (w.ow b z).2.2 (e ▸ hp)
  have bp : B p = none := w.pu.back hp
  have lt2 : τ.length = T.length := by have := w.lt; simp [hl] at this; exact this
  constructor
  · have ex : Ex H (upd H p (.lst vs)) := .new hp
    refine ⟨fun b => b = p ∨ S b, w.fr.trans ex, fun a u e => ex a u (w.pu a u e), w.b0, fun b z => ?_, w.nw,
      .cons (S1 := fun b => b = p ∨ S1 b) (S2 := S2) (fun b z => z.imp id (a1 b)) (fun b z => .inr (a2 b z)) (fun b z y => ?_)
        (.ol (S' := S1) (.inl rfl) (fun b z => .inr z) (fun z => nq p (a1 p z) rfl) upd_same (r1.tr (.refl B) (fun _ z => z) fun b u _ e => ex b u e))
        (r2.tr (.refl B) (fun _ z => z) fun b u _ e => ex b u e), by simp [lt2]⟩
    · rcases z with rfl | z
      · exact ⟨w.fr.back hp, bp, by rw [upd_same]; simp⟩
      · obtain ⟨q1, q2, q3⟩ := w.ow b z
        exact ⟨q1, q2, fun q => q3 (ex.back q)⟩
    · rcases z with rfl | z
      · exact nq b (a2 b y) rfl
      · exact a3 b z y
  · have ex : Ex H (upd H p (.tup vs)) := .new hp
    have exB : Ex B (upd B p (.tup vs)) := .new bp
    refine ⟨S, w.fr.trans ex, fun a u e => ?_, w.b0.trans (.of_ex exB), fun b z => ?_, fun b z => ?_,
      .cons (S1 := S1) (S2 := S2) a1 a2 a3
        (.op (SqT.of upd_same) (r1.tr (.of_ex exB) (fun _ z => z) fun b u _ e => ex b u e))
        (r2.tr (.of_ex exB) (fun _ z => z) fun b u _ e => ex b u e), by simp [lt2]⟩
    · by_cases q : a = p
      · subst q; rw [upd_same] at e ⊢; exact e
      · rw [upd_ne q] at e ⊢; exact w.pu a u e
    · obtain ⟨q1, q2, q3⟩ := w.ow b z
      exact ⟨q1, by rw [upd_ne (nq b z)]; exact q2, fun q => q3 (ex.back q)⟩
    · by_cases q : b = p
      · subst q; exact .inr (w.fr.back hp)
      · rw [upd_ne q] at z; exact w.nw b z
/-- (e, ..), its parts its own -/
theorem go_tupO (h : GoAO K F B0 ta T Γ fun xs Γ1 => xs.length ≤ 1000 ∧ post (.op xs) Γ1) : Go K F B0 (tTup ta) T Γ post := fun τ σ H Q hw k =>
  h τ σ H _ hw fun vs xs Γ1 H1 ⟨hz, h1⟩ ⟨_, _, w1⟩ hl => by
    refine ⟨Nat.le_trans (by rw [hl]; exact hz) (by decide), fun p hp => ?_⟩
    obtain ⟨_, S2, w⟩ := w1.pack (c := .lst []) hl hp
    exact k _ _ _ _ h1 ⟨_, _, w⟩
/-- [e, ..], its parts its own -/
theorem go_lstO (h : GoAO K F B0 ta T Γ fun xs Γ1 => xs.length ≤ 1000 ∧ post (.ol xs) Γ1) : Go K F B0 (tLst ta) T Γ post := fun τ σ H Q hw k =>
  h τ σ H _ hw fun vs xs Γ1 H1 ⟨hz, h1⟩ ⟨_, _, w1⟩ hl => by
    refine ⟨Nat.le_trans (by rw [hl]; exact hz) (by decide), fun p hp => ?_⟩
    obtain ⟨⟨S2, w⟩, _⟩ := w1.pack (c := .lst []) hl hp
    exact k _ _ _ _ h1 ⟨_, _, w⟩
/-- a raise that is never reached -/
theorem gos_raise0 {C : Addr} (h : False) : GoS K F B0 (tRaise (fun _ _ _ _ => False) C) T Γ Dd := h.elim
def tTupO (t : TA) : TE := tTup t
def tLstO (t : TA) : TE := tLst t
theorem go_tupO' (h : GoAO K F B0 ta T Γ fun xs Γ1 => xs.length ≤ 1000 ∧ post (.op xs) Γ1) : Go K F B0 (tTupO ta) T Γ post := go_tupO h
theorem go_lstO' (h : GoAO K F B0 ta T Γ fun xs Γ1 => xs.length ≤ 1000 ∧ post (.ol xs) Γ1) : Go K F B0 (tLstO ta) T Γ post := go_lstO h
/-- t[k].clear(), t a name of a tuple whose list is its own -/
theorem gos_clearT {n : Int} (k : Nat) {xs : List O} {ys : List O} (e0 : Γ[i]? = some (some (.op xs))) (hk : xs[k]? = some (.ol ys)) (hn : n = (k : Int))
    (h : Dd.nx (Γ.set i (some (.op (xs.set k (.ol [])))))) :
    GoS K F B0 (tDrop (tBM0 K "list" rClear (tOp (rIxG K) (tVar i) (tC (.int n))))) T Γ Dd := fun τ σ H De hw s => by
  obtain ⟨B, S, w⟩ := hw
  obtain ⟨v, S1, a1, r1, _, f⟩ := w.mut1 e0
  cases r1 with
  | @op _ a vs _ hc rs =>
  have hk2 : (xs.map some)[k]? = some (some (.ol ys)) := by rw [List.getElem?_map, hk]; rfl
  obtain ⟨u, U1, U2, c1, c2, c3, c4, ru, g⟩ := rs.focus hk2
  cases ru with
  | @ol _ U4 b us _ hb hbs hbn hbc brs =>
  have hvk : vs[k]? = some (.ref b) := by
    rw [List.getElem?_map] at c1
    cases q : vs[k]? with
    | none => rw [q] at c1; cases c1
    | some x => rw [q] at c1; cases c1; rfl
  subst hn
  have hat : atI vs (k : Int) = some (.ref b) := by
    unfold atI ixN
    have hlt := (List.getElem?_eq_some_iff.mp hvk).1
    rw [if_pos (by omega), if_pos (by omega)]
    exact hvk
  have rs2 := g B (upd H b (.lst [])) U1 (some (.ref b)) (some (.ol [])) (.refl B) (fun c u z e => by
    have hne : c ≠ b := fun q => by
      rw [q] at z
      exact c4 b hb z
    rw [upd_ne hne]; exact e) c4 (fun x q => by
    cases q
    exact ⟨.ref b, rfl, .ol (S' := fun _ => False) hb (fun _ z => z.elim) id upd_same .nil⟩)
  rw [set_same c1, ← List.map_set] at rs2
  obtain ⟨S', w3⟩ := f b (.lst []) (.op (xs.set k (.ol []))) (c2 b hb) (.op hc (rs2.tr (.refl B) (fun c z => z.elim (c2 c) (c3 c)) fun _ _ _ e => e))
  have hcH : SqT K H a vs := w.pu.sqT hc
  exact ⟨.ref a, a1, .inl (.inr (.inl ⟨a, vs, (k : Int), .ref b, rfl, rfl, hcH, hat, Or.inl ⟨rfl, us, SqL.of hbc⟩, b, us, rfl, rfl, hbc, s.nx σ _ _ h ⟨B, S', w3⟩⟩))⟩
end
end SK
namespace SK
open PySem PySem.Spec PyProof.Rows L2
section
variable {K : PySem.W.Frag} {F B0 H B : Hp} {τ τs : List V} {T : List O} {σ : L2.St} {Γ Γ1 : En} {S : Ad} {i : Nat} {Dd : EG} {g : TG} {tb : TS} {De : Ends}
def tLockG (t : TS) : TS := fun D σ H => tLock t D σ H ∨ t D σ H
theorem RK.at {B : Hp} {i : Nat} : ∀ {ws : List (Key × V)} {kvs : List (Key × D)} {k : Key} {x : D}, RK K B ws kvs → kvs[i]? = some (k, x) → ∃ v, ws[i]? = some (k, v) ∧ R K B v x := by
  induction i with
  | zero =>
    intro ws kvs k x r h
    cases r with
    | nil => simp at h
    | cons r t => simp at h; obtain ⟨rfl, rfl⟩ := h; exact ⟨_, rfl, r⟩
  | succ i ih =>
    intro ws kvs k x r h
    cases r with
    | nil => simp at h
    | cons r t =>
      obtain ⟨v, a, b⟩ := ih t (by simpa using h)
      exact ⟨v, by simpa using a, b⟩
theorem gos_sLG {t1 t2 : TS} (h : GoS K F B0 (tLockG t1) T Γ { Dd with nx := fun Γ1 => GoS K F B0 t2 T Γ1 Dd }) : GoS K F B0 (tSeq (tLockG t1) t2) T Γ Dd := gos_seq h
end
end SK
namespace SK
theorem lf_mapI : ∀ ns : List Int, lfL (ns.map D.int) = true
  | [] => rfl
  | n :: ns => lf_mapI ns
end SK
namespace SK
open PySem PySem.Spec PyProof.Rows L2
inductive Sel where
  | fld (f : Str) | key (k : Key) | idx (n : Nat)
def kval {α : Type} (kvs : List (Key × α)) (k : Key) : Option α := (kvs.find? fun kv => decide (kv.1 = k)).map (·.2)
def O.get1 : O → Sel → Option O
  | .oi _ _ fs, .fld f => fs.lookup f
  | .od kvs, .key k => kval kvs k
  | .ol xs, .idx n => xs[n]?
  | _, _ => none
def O.set1 : O → O → Sel → O
  | .oi a C fs, y, .fld f => .oi a C (SK.fput f y fs)
  | .od kvs, y, .key k => .od (SK.dput kvs k y)
  | .ol xs, y, .idx n => .ol (xs.set n y)
  | o, _, _ => o
def O.getP : O → List Sel → Option O
  | o, [] => some o
  | o, s :: p => match o.get1 s with
    | some u => u.getP p
    | none => none
def O.setP : O → O → List Sel → O
  | _, y, [] => y
  | o, y, s :: p => match o.get1 s with
    | some u => o.set1 (u.setP y p) s
    | none => o
def okS (K : PySem.W.Frag) : O → Sel → Prop
  | .oi _ C _, .fld f => Cls K C ∧ NoAttr K C f
  | _, .fld _ => False
  | _, _ => True
def okPth (K : PySem.W.Frag) : O → List Sel → Prop
  | _, [] => True
  | o, s :: p => okS K o s ∧ match o.get1 s with
    | some u => okPth K u p
    | none => False
def Stp (K : PySem.W.Frag) (H : Hp) (v : V) (s : Sel) (v' : V) : Prop := match s with
  | .fld f => ∃ a C dx ws, v = .ref a ∧ H a = some (.ins C dx ws) ∧ Cls K C ∧ NoAttr K C f ∧ ws.lookup f = some v'
  | .key k => ∃ a ws, v = .ref a ∧ Rd H a (.dK ws) ∧ valV ws k = some v'
  | .idx n => ∃ a vs, v = .ref a ∧ H a = some (.lst vs) ∧ vs[n]? = some v'
def Wlk (K : PySem.W.Frag) (H : Hp) : V → List Sel → V → Prop
  | v, [], w => v = w
  | v, s :: p, w => ∃ u, Stp K H v s u ∧ Wlk K H u p w
section
variable {K : PySem.W.Frag} {B H H' : Hp} {S : Ad} {v w : V} {o o1 : O}
theorem Stp.ex (e : Ex H H') {s : Sel} (h : Stp K H v s w) : Stp K H' v s w := by
  cases s with
  | fld f => obtain ⟨a, C, dx, ws, q1, q2, q3⟩ := h; exact ⟨a, C, dx, ws, q1, e _ _ q2, q3⟩
  | key k => obtain ⟨a, ws, q1, q2, q3⟩ := h; exact ⟨a, ws, q1, e.rd q2, q3⟩
  | idx n => obtain ⟨a, vs, q1, q2, q3⟩ := h; exact ⟨a, vs, q1, e _ _ q2, q3⟩
theorem Wlk.ex (e : Ex H H') : ∀ {p : List Sel} {v w : V}, Wlk K H v p w → Wlk K H' v p w
  | [], _, _, h => h
  | _ :: _, _, _, ⟨u, h1, h2⟩ => ⟨u, h1.ex e, Wlk.ex e h2⟩
theorem Wlk.snoc : ∀ {p : List Sel} {v u w : V} {s : Sel}, Wlk K H v p u → Stp K H u s w → Wlk K H v (p ++ [s]) w
  | [], v, u, w, s, h, h2 => by cases h; exact ⟨w, h2, rfl⟩
  | _ :: _, _, _, _, _, ⟨x, h1, h3⟩, h2 => ⟨x, h1, Wlk.snoc h3 h2⟩
theorem look2 : ∀ {ws : List (Str × V)} {fs : List (Str × O)} {f : Str} {o : O}, ws.map (·.1) = fs.map (·.1) → fs.lookup f = some o → ∃ (i : Nat) (u : V), fs[i]? = some (f, o) ∧ ws[i]? = some (f, u) ∧ ws.lookup f = some u ∧ ∀ y, SK.fput f y fs = fs.set i (f, y)
  | [], [], _, _, _, h => by simp at h
  | (g, x) :: ws, (g', y) :: fs, f, o, e, h => by
    simp only [List.map_cons, List.cons.injEq] at e
    obtain ⟨rfl, e⟩ := e
    rw [List.lookup_cons] at h
    cases q : f == g with
    | true =>
      rw [q] at h
      cases h
      have : f = g := by simpa using q
      subst this
      exact ⟨0, x, rfl, rfl, by rw [List.lookup_cons, q], fun z => by unfold SK.fput; rw [if_pos rfl]; rfl⟩
    | false =>
      rw [q] at h
      have n : ¬ g = f := fun z => by subst z; simp at q
      obtain ⟨i, u, h1, h2, h3, h4⟩ := look2 e h
      exact ⟨i + 1, u, by simpa using h1, by simpa using h2, by rw [List.lookup_cons, q]; exact h3, fun z => by unfold SK.fput; rw [if_neg n, h4 z]; rfl⟩
theorem kval_mem {α : Type} {k : Key} {x : α} {kvs : List (Key × α)} (h : kval kvs k = some x) : ∃ i : Nat, kvs[i]? = some (k, x) := by
  induction kvs with
  | nil => cases h
  | cons p r ih =>
    unfold kval at h
    rw [List.find?_cons] at h
    by_cases e : p.1 = k
    · rw [decide_eq_true e] at h
      cases h
      exact ⟨0, by rw [← e]; rfl⟩
    · rw [decide_eq_false e] at h
      obtain ⟨i, hi⟩ := ih h
      exact ⟨i + 1, by simpa using hi⟩
theorem kval2 : ∀ {ws : List (Key × V)} {kvs : List (Key × O)} {k : Key} {o : O}, (kvs.map (·.1)).Nodup → ws.map (·.1) = kvs.map (·.1) → kval kvs k = some o → ∃ (i : Nat) (u : V), kvs[i]? = some (k, o) ∧ ws[i]? = some (k, u) ∧ valV ws k = some u ∧ ∀ y, SK.dput kvs k y = kvs.set i (k, y)
  | [], [], _, _, _, _, h => by cases h
  | (g, x) :: ws, (g', y) :: kvs, k, o, nd, e, h => by
    simp only [List.map_cons, List.cons.injEq] at e
    obtain ⟨rfl, e⟩ := e
    simp only [List.map_cons, List.nodup_cons] at nd
    by_cases q : g = k
    · subst q
      have : y = o := by simpa [kval] using h
      subst this
      refine ⟨0, x, rfl, rfl, valV_pos rfl, fun z => ?_⟩
      unfold SK.dput
      rw [if_pos (by simp), List.map_cons, if_pos rfl, repl_not nd.1]
      rfl
    · have h' : kval kvs k = some o := by simpa [kval, q] using h
      obtain ⟨i, u, h1, h2, h3, h4⟩ := kval2 nd.2 e h'
      refine ⟨i + 1, u, by simpa using h1, by simpa using h2, by rw [valV_neg q]; exact h3, fun z => ?_⟩
      have h5 := h4 z
      have ha : (kvs.any fun kv => decide (kv.1 = k)) = true := List.any_eq_true.mpr ⟨(k, o), List.mem_of_getElem? h1, by simp⟩
      unfold SK.dput at h5 ⊢
      rw [if_pos ha] at h5
      rw [if_pos (by rw [List.any_cons, ha, Bool.or_true]), List.map_cons, if_neg q, h5]
      rfl
theorem set_same' {α : Type} {l : List α} {i : Nat} {x : α} (h : l[i]? = some x) : l.set i x = l := by
  have hl := (List.getElem?_eq_some_iff.mp h).1
  apply List.ext_getElem?
  intro n
  by_cases hn : n = i
  · subst hn; rw [List.getElem?_set_self hl, h]
  · rw [List.getElem?_set_ne (Ne.symm hn)]
theorem RO.focus1 {s : Sel} (pu : Ex B H) (r : RO K B H S v o) (g : o.get1 s = some o1) (ok : okS K o s) : ∃ (v1 : V) (S1 S2 : Ad), Stp K H v s v1 ∧ (∀ b, S1 b → S b) ∧ (∀ b, S2 b → S b) ∧ (∀ b, S1 b → ¬ S2 b) ∧ RO K B H S1 v1 o1 ∧
    ∀ B' H' S1' y, BLe B B' → (∀ b u, S2 b → H b = some u → H' b = some u) → (∀ b, S1' b → ¬ S2 b) → RO K B' H' S1' v1 y → RO K B' H' (fun b => S1' b ∨ S2 b) v (o.set1 y s) ∧ Stp K H' v s v1 := by
  cases r with
  | d r => cases s <;> cases g
  | ot => cases s <;> cases g
  | @ol _ S4 a vs xs ha hs hn hc rs =>
    cases s with
    | fld f => cases g
    | key k => cases g
    | idx n =>
      have g : xs[n]? = some o1 := g
      obtain ⟨u, U1, U2, c1, c2, c3, c4, ru, f⟩ := rs.focus (i := n) (o := o1) (by rw [List.getElem?_map, g]; rfl)
      have hv : vs[n]? = some u := by
        rw [List.getElem?_map] at c1
        cases q : vs[n]? with
        | none => rw [q] at c1; cases c1
        | some x => rw [q] at c1; cases c1; rfl
      refine ⟨u, U1, fun b => b = a ∨ U2 b, ⟨a, vs, rfl, hc, hv⟩, fun b z => hs b (c2 b z), fun b z => z.elim (fun e => e ▸ ha) fun z => hs b (c3 b z), fun b z y => y.elim (fun e => hn (e ▸ c2 b z)) (c4 b z), ru, fun B' H' S1' y eb k dj ry => ?_⟩
      have q := f B' H' S1' (some u) (some y) eb (fun b x z => k b x (.inr z)) (fun b z w => dj b z (.inr w)) (fun x e => by cases e; exact ⟨u, rfl, ry⟩)
      rw [set_same c1, ← List.map_set] at q
      exact ⟨.ol (S' := fun b => S1' b ∨ U2 b) (.inr (.inl rfl)) (fun b z => z.imp id .inr) (fun z => z.elim (fun z => dj a z (.inl rfl)) fun z => hn (c3 a z)) (k a _ (.inl rfl) hc) q, a, vs, rfl, k a _ (.inl rfl) hc, hv⟩
  | @od _ S4 a ws kvs ha hs hn hc nd ek rs =>
    cases s with
    | fld f => cases g
    | idx k => cases g
    | key k =>
      have g : kval kvs k = some o1 := g
      obtain ⟨n, u, g1, g2, g3, g4⟩ := kval2 nd ek g
      obtain ⟨u', U1, U2, c1, c2, c3, c4, ru, f⟩ := rs.focus (i := n) (o := o1) (by rw [List.getElem?_map, g1]; rfl)
      have hv : u' = u := by
        rw [List.getElem?_map, g2] at c1
        cases c1; rfl
      subst hv
      refine ⟨u', U1, fun b => b = a ∨ U2 b, ⟨a, ws, rfl, .inl hc, g3⟩, fun b z => hs b (c2 b z), fun b z => z.elim (fun e => e ▸ ha) fun z => hs b (c3 b z), fun b z y => y.elim (fun e => hn (e ▸ c2 b z)) (c4 b z), ru, fun B' H' S1' y eb k' dj ry => ?_⟩
      have q := f B' H' S1' (some u') (some y) eb (fun b x z => k' b x (.inr z)) (fun b z w => dj b z (.inr w)) (fun x e => by cases e; exact ⟨u', rfl, ry⟩)
      have e2 : (kvs.map fun p => some p.2).set n (some y) = (SK.dput kvs k y).map fun p => some p.2 := by rw [g4 y, List.map_set]
      rw [set_same c1, e2] at q
      have e3 : (SK.dput kvs k y).map (·.1) = kvs.map (·.1) := by
        rw [g4 y, List.map_set]
        exact set_same' (by rw [List.getElem?_map, g1]; rfl)
      exact ⟨.od (S' := fun b => S1' b ∨ U2 b) (.inr (.inl rfl)) (fun b z => z.imp id .inr) (fun z => z.elim (fun z => dj a z (.inl rfl)) fun z => hn (c3 a z)) (k' a _ (.inl rfl) hc) (by rw [e3]; exact nd) (by rw [e3]; exact ek) q, a, ws, rfl, .inl (k' a _ (.inl rfl) hc), g3⟩
  | @oi _ S4 a dx C ws kvs ha hd hs hn hn2 ne hc hcd ek rs =>
    cases s with
    | key k => cases g
    | idx k => cases g
    | fld fl =>
      have g : kvs.lookup fl = some o1 := g
      obtain ⟨n, u, g1, g2, g3, g4⟩ := look2 ek g
      obtain ⟨u', U1, U2, c1, c2, c3, c4, ru, f⟩ := rs.focus (i := n) (o := o1) (by rw [List.getElem?_map, g1]; rfl)
      have hv : u' = u := by
        rw [List.getElem?_map, g2] at c1
        cases c1; rfl
      subst hv
      refine ⟨u', U1, fun b => (b = a ∨ b = dx) ∨ U2 b, ⟨a, C, dx, ws, rfl, hc, ok.1, ok.2, g3⟩, fun b z => hs b (c2 b z), fun b z => z.elim (fun e => e.elim (fun e => e ▸ ha) fun e => e ▸ hd) fun z => hs b (c3 b z),
        fun b z y => y.elim (fun e => e.elim (fun e => hn (e ▸ c2 b z)) fun e => hn2 (e ▸ c2 b z)) (c4 b z), ru, fun B' H' S1' y eb k' dj ry => ?_⟩
      have q := f B' H' S1' (some u') (some y) eb (fun b x z => k' b x (.inr z)) (fun b z w => dj b z (.inr w)) (fun x e => by cases e; exact ⟨u', rfl, ry⟩)
      have e2 : (kvs.map fun p => some p.2).set n (some y) = (SK.fput fl y kvs).map fun p => some p.2 := by rw [g4 y, List.map_set]
      rw [set_same c1, e2] at q
      have e3 : (SK.fput fl y kvs).map (·.1) = kvs.map (·.1) := by
        rw [g4 y, List.map_set]
        exact set_same' (by rw [List.getElem?_map, g1]; rfl)
      exact ⟨.oi (S' := fun b => S1' b ∨ U2 b) (.inr (.inl (.inl rfl))) (.inr (.inl (.inr rfl))) (fun b z => z.imp id .inr) (fun z => z.elim (fun z => dj a z (.inl (.inl rfl))) fun z => hn (c3 a z)) (fun z => z.elim (fun z => dj dx z (.inl (.inr rfl))) fun z => hn2 (c3 dx z)) ne
        (k' a _ (.inl (.inl rfl)) hc) (k' dx _ (.inl (.inr rfl)) hcd) (by rw [e3]; exact ek) q, a, C, dx, ws, rfl, k' a _ (.inl (.inl rfl)) hc, ok.1, ok.2, g3⟩
  | op => cases s <;> cases g
theorem RO.focusP (pu : Ex B H) : ∀ {p : List Sel} {S : Ad} {v : V} {o : O}, RO K B H S v o → o.getP p = some o1 → okPth K o p → ∃ (v1 : V) (S1 S2 : Ad), Wlk K H v p v1 ∧ (∀ b, S1 b → S b) ∧ (∀ b, S2 b → S b) ∧ (∀ b, S1 b → ¬ S2 b) ∧ RO K B H S1 v1 o1 ∧
    ∀ B' H' S1' y, BLe B B' → (∀ b u, S2 b → H b = some u → H' b = some u) → (∀ b, S1' b → ¬ S2 b) → RO K B' H' S1' v1 y → RO K B' H' (fun b => S1' b ∨ S2 b) v (o.setP y p) ∧ Wlk K H' v p v1
  | [], S, v, o, r, g, _ => by
    cases g
    exact ⟨v, S, fun _ => False, rfl, fun _ z => z, fun _ z => z.elim, fun _ _ z => z, r, fun B' H' S1' y _ _ _ ry => ⟨ry.tr (.refl B') (fun _ z => .inl z) fun _ _ _ e => e, rfl⟩⟩
  | s :: p, S, v, o, r, g, ok => by
    unfold O.getP at g
    unfold okPth at ok
    cases e : o.get1 s with
    | none => rw [e] at g; cases g
    | some u =>
      rw [e] at g ok
      obtain ⟨v1, S1, S2, h1, h2, h3, h4, h5, h6⟩ := r.focus1 pu e ok.1
      obtain ⟨v2, T1, T2, k1, k2, k3, k4, k5, k6⟩ := RO.focusP pu h5 g ok.2
      refine ⟨v2, T1, fun b => T2 b ∨ S2 b, ⟨v1, h1, k1⟩, fun b z => h2 b (k2 b z), fun b z => z.elim (fun z => h2 b (k3 b z)) (h3 b), fun b z y => y.elim (k4 b z) (h4 b (k2 b z)), k5, fun B' H' S1' y eb k dj ry => ?_⟩
      obtain ⟨q1, wq⟩ := k6 B' H' S1' y eb (fun b x z => k b x (.inl z)) (fun b z w => dj b z (.inl w)) ry
      obtain ⟨q2, sq⟩ := h6 B' H' _ _ eb (fun b x z => k b x (.inr z)) (fun b z w => z.elim (fun z => dj b z (.inr w)) fun z => h4 b (k3 b z) w) q1
      unfold O.setP
      rw [e]
      exact ⟨q2.tr (.refl B') (fun b z => z.elim (fun z => z.imp id .inl) fun z => .inr (.inr z)) fun _ _ _ e => e, v1, sq, wq⟩
end
section
variable {K : PySem.W.Frag} {F B0 H B : Hp} {τ : List V} {T : List O} {σ : L2.St} {Γ : En} {S : Ad} {v w : V} {o oe o1 : O} {i : Nat} {te ti ty tv : TE} {p : List Sel} {posts1 : En → Prop} {Dd : EG} {post : O → En → Prop}
/-- the thing at a place of slot i is changed, the thing held on top goes into it -/
theorem HW.mutP (h : HW K F B0 (w :: τ) (oe :: T) σ Γ H B S) (e : Γ[i]? = some (some o)) (g : o.getP p = some o1) (ok : okPth K o p) : ∃ (v v1 : V) (S1 So : Ad), σ[i]? = some (some v) ∧ Wlk K H v p v1 ∧ RO K B H S1 v1 o1 ∧ RO K B H So w oe ∧ (∀ b, S1 b → ¬ So b) ∧ (∀ b, S1 b → H b ≠ none) ∧ (∀ b, So b → H b ≠ none) ∧
    ∀ a c y, S1 a → RO K B (upd H a c) (fun b => S1 b ∨ So b) v1 y → ∃ S', HW K F B0 τ T σ (Γ.set i (some (o.setP y p))) (upd H a c) B S' ∧ Wlk K (upd H a c) v p v1 := by
  obtain ⟨v, S1, So, a1, r1, ro, dj, n1, n2, f⟩ := h.mut2 e
  obtain ⟨v1, T1, T2, k1, k2, k3, k4, k5, k6⟩ := RO.focusP h.pu r1 g ok
  refine ⟨v, v1, T1, So, a1, k1, k5, ro, fun b z => dj b (k2 b z), fun b z => n1 b (k2 b z), n2, fun a c y ha ry => ?_⟩
  obtain ⟨q, wq⟩ := k6 B (upd H a c) _ y (.refl B) (fun b u z e => by rw [upd_ne (fun q => k4 a ha (by rw [← q]; exact z))]; exact e) (fun b z y => z.elim (fun z => k4 b z y) fun z => dj b (k3 b y) z) ry
  obtain ⟨S', wf⟩ := f a c _ (k2 a ha) (q.tr (.refl B) (fun b z => z.elim (fun z => z.imp (k2 b) id) fun z => .inl (k3 b z)) fun _ _ _ e => e)
  exact ⟨S', wf, wq⟩
theorem HW.mutP1 (h : HW K F B0 τ T σ Γ H B S) (e : Γ[i]? = some (some o)) (g : o.getP p = some o1) (ok : okPth K o p) : ∃ (v v1 : V) (S1 : Ad), σ[i]? = some (some v) ∧ Wlk K H v p v1 ∧ RO K B H S1 v1 o1 ∧ (∀ b, S1 b → H b ≠ none) ∧
    ∀ a c y, S1 a → RO K B (upd H a c) S1 v1 y → ∃ S', HW K F B0 τ T σ (Γ.set i (some (o.setP y p))) (upd H a c) B S' ∧ Wlk K (upd H a c) v p v1 := by
  obtain ⟨v, v1, S1, So, a1, wk, r1, _, _, n1, _, f⟩ := HW.mutP (h.pushd (v := .non) (x := .non) .non) e g ok
  exact ⟨v, v1, S1, a1, wk, r1, n1, fun a c y ha ry => f a c y ha (ry.tr (.refl B) (fun _ z => .inl z) fun _ _ _ e => e)⟩
/-- te tells the thing at a place of slot i -/
def EvP (K : PySem.W.Frag) (te : TE) (i : Nat) (p : List Sel) : Prop := ∀ (σ : L2.St) (H : Hp) (v v1 : V) (Q : VK), σ[i]? = some (some v) → Wlk K H v p v1 → Q v1 H → te σ H Q
theorem evp_var : EvP K (tVar i) i [] := fun σ H v v1 Q a e q => by cases e; exact ⟨v, a, q⟩
theorem Wlk.split : ∀ {p : List Sel} {v w : V} {s : Sel}, Wlk K H v (p ++ [s]) w → ∃ u, Wlk K H v p u ∧ Stp K H u s w
  | [], v, w, s, ⟨u, h1, h2⟩ => by cases h2; exact ⟨v, rfl, h1⟩
  | _ :: _, _, _, _, ⟨x, h1, h2⟩ => by
    obtain ⟨u, a, b⟩ := Wlk.split h2
    exact ⟨u, ⟨x, h1, a⟩, b⟩
theorem evp_fld {f : Str} (h : EvP K te i p) : EvP K (tFld K te f) i (p ++ [.fld f]) := fun σ H v v1 Q a e q => by
  obtain ⟨u, h1, h2⟩ := e.split
  obtain ⟨a', C, dx, ws, rfl, q2, q3, q4, q5⟩ := h2
  exact h σ H v _ _ a h1 ⟨a', C, dx, ws, v1, rfl, q2, q3, q4, q5, q⟩
/-- all slots are read as data for an expression; the heap has only grown -/
theorem HW.lendX (w : HW K F B0 τ T σ Γ H B S) : ∃ Bf, Ho K H Bf [] [] σ (fzE Γ) H ∧ ∀ v' o' Γ1 H1, Ho K H Bf [v'] [o'] σ Γ1 H1 → Ex H H1 ∧ (o'.lf = true → Ho K F B0 (v' :: τ) (o' :: T) σ Γ H1) := by
  obtain ⟨Bf, w0, _, back⟩ := w.lendA
  exact ⟨Bf, w0, fun v' o' Γ1 H1 h => ⟨h.choose_spec.choose_spec.fr, fun l => back v' o' Γ1 H1 h l⟩⟩
theorem Wlk.det {H : Hp} : ∀ {p : List Sel} {v w w' : V}, Wlk K H v p w → Wlk K H v p w' → w' = w
  | [], v, w, w', h, h' => by cases h; cases h'; rfl
  | s :: p, v, w, w', ⟨u, h1, h2⟩, ⟨u', h1', h2'⟩ => by
    have : u' = u := by
      cases s with
      | fld f =>
        obtain ⟨a, C, dx, ws, q1, q2, _, _, q3⟩ := h1
        obtain ⟨a', C', dx', ws', q1', q2', _, _, q3'⟩ := h1'
        subst q1; cases q1'
        rw [q2] at q2'; cases q2'
        rw [q3] at q3'; cases q3'; rfl
      | key k =>
        obtain ⟨a, ws, q1, q2, q3⟩ := h1
        obtain ⟨a', ws', q1', q2', q3'⟩ := h1'
        subst q1; cases q1'
        have : ws = ws' := by
          rcases q2 with q2 | ⟨_, q2⟩ <;> rcases q2' with q2' | ⟨_, q2'⟩ <;> rw [q2] at q2' <;> cases q2' <;> rfl
        subst this
        rw [q3] at q3'; cases q3'; rfl
      | idx n =>
        obtain ⟨a, vs, q1, q2, q3⟩ := h1
        obtain ⟨a', vs', q1', q2', q3'⟩ := h1'
        subst q1; cases q1'
        rw [q2] at q2'; cases q2'
        rw [q3] at q3'; cases q3'; rfl
    subst this
    exact Wlk.det h2 h2'
/-- te[k] = e, a dict at a place -/
theorem gog_setDP (ev : EvP K te i p) {kvs : List (Key × O)} (e0 : Γ[i]? = some (some o1)) (g : o1.getP p = some (.od kvs)) (ok : okPth K o1 p) (hz : kvs.length < 100000)
    (h : ∀ F' B', Go K F' B' ti [] (fzE Γ) fun ok _ => ∃ k, ok = .d (kD k) ∧ posts1 (Γ.set i (some (o1.setP (.od (dput kvs k o)) p)))) : GoG K F B0 (gSub te ti rSetG) o T Γ posts1 := fun τ σ H v1 Q ⟨B1, S1, w1⟩ k' => by
  obtain ⟨v, u, T1, To, a1, wk, r1, _, _, _, _, _⟩ := w1.mutP e0 g ok
  obtain ⟨Bf, w0, back⟩ := w1.lendX
  refine ev σ H v u _ a1 wk (h H Bf [] σ H _ w0 fun v2 o2 Γ2 H2 ⟨k, eo, h2⟩ how => ?_)
  subst eo
  obtain ⟨ex, hb⟩ := back v2 _ Γ2 H2 how
  obtain ⟨B2, S2, w2⟩ := hb (by cases k <;> rfl)
  obtain ⟨rk, S3, _, w3⟩ := w2.popd
  have ek := rk.kV
  subst ek
  obtain ⟨v', u', S5, So, a2, wk2, r2, ro, dj, _, _, f⟩ := w3.mutP e0 g ok
  rw [a1] at a2
  cases a2
  have eu : u' = u := Wlk.det (wk.ex ex) wk2
  subst eu
  cases r2 with
  | @od _ S4 a ws _ ha hs hn hc nd ek rs =>
  have len : ws.length = kvs.length := by have := congrArg List.length ek; simpa using this
  refine .inr ⟨a, _, rfl, .inl ⟨ws, k, hc, rfl, by rw [len]; exact Nat.lt_of_lt_of_le hz (by decide), rfl⟩, ?_⟩
  obtain ⟨S', w4, _⟩ := f a (.dK (putK ws k v1)) (.od (dput kvs k o)) ha (.od (S' := fun b => S4 b ∨ So b) (.inl ha) (fun b z => z.imp (hs b) id) (fun z => z.elim hn fun z => dj a ha z) upd_same (dput_nodup nd) (by rw [putK_dput]; exact dput_keys ek) (by
    rw [putK_dput]
    exact (rs.dput ro nd ek fun b z => dj b (hs b z)).at fun b u z q => by
      rw [upd_ne (fun e => by subst e; exact z.elim hn fun z => dj b ha z)]; exact q))
  exact k' σ _ _ h2 ⟨B2, S', w4⟩
end
end SK
namespace SK
open PySem PySem.Spec PyProof.Rows L2
section
variable {K : PySem.W.Frag} {F B0 H B : Hp} {τ : List V} {T : List O} {σ : L2.St} {Γ : En} {S : Ad} {v w : V} {o oe o1 : O} {i : Nat} {te ti ty tv : TE} {p : List Sel} {posts1 : En → Prop} {Dd : EG} {post : O → En → Prop} {Ci : Addr}
theorem RF.none {f : Str} : ∀ {ws : List (Str × V)} {fs : List (Str × D)}, RF K B ws fs → fs.lookup f = none → ws.lookup f = none
  | _, _, .nil, _ => rfl
  | _, _, .cons (k := k) r t, h => by
    rw [List.lookup_cons] at h ⊢
    cases e : f == k with
    | true => rw [e] at h; cases h
    | false => rw [e] at h; exact RF.none t h
/-- o.m(..) of an instance that is data -/
theorem go_methP {C : Ct} {m : Str} {dvs : List V} {dxs : List D} {E : XK} {t : TA} (hd : ∀ B, RL K B dvs dxs)
    (h : Go K F B0 te T Γ fun o Γ1 => ∃ fs, o.fz = .ins Ci fs ∧ fs.lookup m = none ∧ GoA K F B0 t (.d (.ins Ci fs) :: T) Γ1 fun xs Γ2 => ∃ p, C (.ins Ci fs :: (xs ++ dxs)) p noX ∧ ∀ o, p o → post o Γ2) :
    Go K F B0 (tMeth Ci m (spP K C) dvs E te t) T Γ post := fun τ σ H Q hw k =>
  h τ σ H _ hw fun v o Γ1 H1 ⟨fs, e, hm, h1⟩ ⟨_, _, w1⟩ => by
    obtain ⟨B1, S1, w1, _⟩ := w1.fz
    rw [e] at w1
    obtain ⟨r1, _, _, _⟩ := w1.popd
    cases r1 with
    | @ins a _ dx ws _ hb rf =>
    refine ⟨a, dx, ws, rfl, w1.pu _ _ hb, rf.none hm, h1 (.ref a :: τ) σ H1 _ ⟨_, _, w1⟩ fun vs xs Γ2 H2 ⟨p, c, h2⟩ ⟨B2, S2, w2⟩ hl => ?_⟩
    obtain ⟨rl, S3, w3⟩ := w2.args hl
    obtain ⟨r2, S4, _, w4⟩ := w3.popd
    refine ⟨B2, .ins Ci fs :: (xs ++ dxs), p, noX, w4.pu, .cons r2 (rl.app (hd B2)), c, fun v o' B' S' H' e ex pu' le nw ow ro => ?_, fun _ _ _ _ _ e => e.elim⟩
    exact k v _ Γ2 H' (h2 _ e) ⟨B', _, w4.push ex le pu' nw ow ro⟩
theorem HW.unsets (h : HW K F B0 τ T σ Γ H B S) (j : Nat) : HW K F B0 τ T σ (Γ.set j none) H B S := by
  by_cases hl : j < σ.length
  · have q := h.unset j (σ[j])
    have e : σ.set j (σ[j]) = σ := by
      apply List.ext_getElem?
      intro n
      by_cases hn : n = j
      · subst hn; rw [List.getElem?_set_self hl]; simp [hl]
      · rw [List.getElem?_set_ne (Ne.symm hn)]
    rw [e] at q; exact q
  · have : Γ.set j none = Γ := by
      rw [List.set_eq_of_length_le]
      rw [← h.len]; omega
    rw [this]; exact h
theorem fzE_set {x : Option O} : ∀ {Γ : En} {i : Nat}, fzE (Γ.set i x) = (fzE Γ).set i (frO x)
  | [], _ => rfl
  | y :: r, 0 => by rw [List.set_cons_zero, fzE_cons, fzE_cons, List.set_cons_zero]
  | y :: r, i + 1 => by rw [List.set_cons_succ, fzE_cons, fzE_cons, List.set_cons_succ, fzE_set]
/-- the value that is in the dict, or the empty list that is put in -/
def lstAt (kvs : List (Key × O)) (k : Key) (ys : List O) : Prop := kval kvs k = some (.ol ys) ∨ (kval kvs k = none ∧ ys = [])
theorem kval_keys {k : Key} : ∀ {ws : List (Key × V)} {kvs : List (Key × O)}, ws.map (·.1) = kvs.map (·.1) → ((kval kvs k).isSome = (valV ws k).isSome)
  | [], [], _ => rfl
  | (g, x) :: ws, (g', y) :: kvs, e => by
    simp only [List.map_cons, List.cons.injEq] at e
    obtain ⟨rfl, e⟩ := e
    by_cases q : g = k
    · subst q; rw [valV_pos rfl]; simp [kval]
    · rw [valV_neg q, ← kval_keys e]; simp [kval, q]
theorem dput_new {κ α : Type} [DecidableEq κ] {k : κ} {x : α} {kvs : List (κ × α)} (h : ∀ p ∈ kvs, p.1 ≠ k) : SK.dput kvs k x = kvs ++ [(k, x)] := by
  unfold SK.dput
  rw [if_neg]
  simp only [List.any_eq_true, decide_eq_true_eq, not_exists, not_and]
  exact fun p hp => h p hp
theorem kval_none {α : Type} {k : Key} : ∀ {kvs : List (Key × α)}, kval kvs k = none → ∀ p ∈ kvs, p.1 ≠ k
  | q :: kvs, h, p, hp => by
    by_cases e : q.1 = k
    · simp [kval, e] at h
    · have h' : kval kvs k = none := by simpa [kval, e] using h
      rcases List.mem_cons.mp hp with rfl | hp
      · exact e
      · exact kval_none h' p hp
theorem kval_snoc {α : Type} {k : Key} {x : α} : ∀ {kvs : List (Key × α)}, (∀ p ∈ kvs, p.1 ≠ k) → kval (kvs ++ [(k, x)]) k = some x
  | [], _ => by simp [kval]
  | q :: kvs, h => by
    have e := h q List.mem_cons_self
    have := kval_snoc (x := x) fun p hp => h p (List.mem_cons_of_mem _ hp)
    simpa [kval, e] using this
theorem dput_put {κ α : Type} [DecidableEq κ] {k : κ} {x y : α} {kvs : List (κ × α)} : SK.dput (SK.dput kvs k x) k y = SK.dput kvs k y := by
  by_cases h : (kvs.any fun kv => decide (kv.1 = k)) = true
  · have h2 : ((SK.dput kvs k x).any fun kv => decide (kv.1 = k)) = true := by
      unfold SK.dput
      rw [if_pos h]
      obtain ⟨p, hp, e⟩ := List.any_eq_true.mp h
      have e : p.1 = k := by simpa using e
      exact List.any_eq_true.mpr ⟨(p.1, x), List.mem_map.mpr ⟨p, hp, by rw [if_pos e]⟩, by simpa using e⟩
    have e1 : SK.dput (SK.dput kvs k x) k y = (SK.dput kvs k x).map fun kv => if kv.1 = k then (kv.1, y) else kv := by
      rw [SK.dput, if_pos h2]
    rw [e1]
    unfold SK.dput
    rw [if_pos h, if_pos h, List.map_map]
    apply List.map_congr_left
    intro p _
    by_cases q : p.1 = k
    · simp [q]
    · simp [q]
  · have hn : ∀ p ∈ kvs, p.1 ≠ k := fun p hp q => h (List.any_eq_true.mpr ⟨p, hp, by simpa using q⟩)
    rw [dput_new hn, dput_new hn]
    have h2 : ((kvs ++ [(k, x)]).any fun kv => decide (kv.1 = k)) = true := by simp
    unfold SK.dput
    rw [if_pos h2, List.map_append, repl_not]
    · simp only [List.map_cons, List.map_nil, if_true]
    · intro hm
      obtain ⟨p, hp, e⟩ := List.mem_map.mp hm
      exact hn p hp e
theorem getP_snoc {s : Sel} : ∀ {p : List Sel} {o u : O}, o.getP p = some u → o.getP (p ++ [s]) = match u.get1 s with | some x => some x | none => none
  | [], o, u, h => by
    cases h
    show (match o.get1 s with | some u => u.getP [] | none => none) = _
    cases o.get1 s <;> rfl
  | q :: p, o, u, h => by
    unfold O.getP at h
    rw [List.cons_append]
    unfold O.getP
    cases e : o.get1 q with
    | none => rw [e] at h; cases h
    | some x => rw [e] at h; exact getP_snoc h
theorem okPth_snoc {s : Sel} : ∀ {p : List Sel} {o u x : O}, o.getP p = some u → okPth K o p → okS K u s → u.get1 s = some x → okPth K o (p ++ [s])
  | [], o, u, x, h, _, h2, h3 => by
    cases h
    show okS K o s ∧ match o.get1 s with | some u => okPth K u [] | none => False
    rw [h3]
    exact ⟨h2, trivial⟩
  | q :: p, o, u, x, h, h1, h2, h3 => by
    unfold O.getP at h
    unfold okPth at h1
    rw [List.cons_append]
    unfold okPth
    cases e : o.get1 q with
    | none => rw [e] at h; cases h
    | some z => rw [e] at h h1; exact ⟨h1.1, okPth_snoc h h1.2 h2 h3⟩
theorem setP_snoc {s : Sel} {y : O} : ∀ {p : List Sel} {o u : O}, o.getP p = some u → (∃ x, u.get1 s = some x) → o.setP y (p ++ [s]) = o.setP (u.set1 y s) p
  | [], o, u, h, ⟨x, hx⟩ => by
    cases h
    show (match o.get1 s with | some u => o.set1 (u.setP y []) s | none => o) = _
    rw [hx]; rfl
  | q :: p, o, u, h, hx => by
    unfold O.getP at h
    rw [List.cons_append]
    unfold O.setP
    cases e : o.get1 q with
    | none => (rw [e] at h; try cases h)
    | some z =>
      rw [e] at h
      show o.set1 (z.setP y (p ++ [s])) q = o.set1 (z.setP (u.set1 y s) p) q
      rw [setP_snoc h hx]
theorem get_set1 {s : Sel} {y x : O} {o : O} (h : o.get1 s = some x) : (o.set1 y s).get1 s = some y := by
  cases o <;> cases s <;> try (cases h; done)
  · rename_i xs n
    have h : xs[n]? = some x := h
    show (xs.set n y)[n]? = some y
    rw [List.getElem?_set_self (List.getElem?_eq_some_iff.mp h).1]
  · rename_i kvs k
    have h : kval kvs k = some x := h
    show kval (SK.dput kvs k y) k = some y
    have : ∀ {kvs : List (Key × O)}, kval kvs k = some x → kval (kvs.map fun kv => if kv.1 = k then (kv.1, y) else kv) k = some y := by
      intro kvs
      induction kvs with
      | nil => intro h; cases h
      | cons p r ih =>
        intro h
        by_cases e : p.1 = k
        · simp [kval, e]
        · have h' : kval r k = some x := by simpa [kval, e] using h
          have := ih h'
          simpa [kval, e] using this
    unfold SK.dput
    rw [if_pos]
    · exact this h
    · obtain ⟨i, hi⟩ := kval_mem h
      exact List.any_eq_true.mpr ⟨_, List.mem_of_getElem? hi, by simp⟩
  · rename_i a C fs f
    have h : fs.lookup f = some x := h
    show (SK.fput f y fs).lookup f = some y
    induction fs with
    | nil => cases h
    | cons p r ih =>
      obtain ⟨g, z⟩ := p
      unfold SK.fput
      by_cases e : g = f
      · subst e; simp
      · rw [if_neg e]
        have e2 : (f == g) = false := by simpa using fun q => e q.symm
        rw [List.lookup_cons, e2] at h
        rw [List.lookup_cons, e2]
        exact ih h h
theorem getP_setP {y : O} : ∀ {p : List Sel} {o u : O}, o.getP p = some u → (o.setP y p).getP p = some y
  | [], o, u, _ => rfl
  | s :: p, o, u, h => by
    unfold O.getP at h
    cases e : o.get1 s with
    | none => rw [e] at h; cases h
    | some z =>
      rw [e] at h
      unfold O.setP
      rw [e]
      show (o.set1 (z.setP y p) s).getP (s :: p) = some y
      unfold O.getP
      rw [get_set1 e]
      exact getP_setP h
theorem set1_set1 {s : Sel} {x y z : O} {o : O} (h : o.get1 s = some z) : (o.set1 x s).set1 y s = o.set1 y s := by
  cases o <;> cases s <;> try (cases h; done)
  · rename_i xs n
    show O.ol ((xs.set n x).set n y) = O.ol (xs.set n y)
    rw [List.set_set]
  · show O.od _ = O.od _
    rw [dput_put]
  · rename_i a C fs f
    show O.oi a C _ = O.oi a C _
    congr 1
    clear h
    induction fs with
    | nil => simp [SK.fput]
    | cons p r ih =>
      obtain ⟨g, z⟩ := p
      by_cases e : g = f
      · subst e; simp [SK.fput]
      · simp [SK.fput, e, ih]
theorem setP_setP {x y : O} : ∀ {p : List Sel} {o u : O}, o.getP p = some u → (o.setP x p).setP y p = o.setP y p
  | [], o, u, _ => rfl
  | s :: p, o, u, h => by
    unfold O.getP at h
    cases e : o.get1 s with
    | none => rw [e] at h; cases h
    | some z =>
      rw [e] at h
      have e1 : o.setP x (s :: p) = o.set1 (z.setP x p) s := by rw [O.setP, e]
      have e2 : o.setP y (s :: p) = o.set1 (z.setP y p) s := by rw [O.setP, e]
      rw [e1, e2, O.setP, get_set1 e]
      show (o.set1 (z.setP x p) s).set1 ((z.setP x p).setP y p) s = _
      rw [setP_setP h, set1_set1 e]
theorem okS_set1 {s s' : Sel} {y : O} {o : O} (h : okS K o s') : okS K (o.set1 y s) s' := by
  cases o <;> cases s <;> cases s' <;> first | exact h | exact trivial | exact h.elim
theorem okPth_setP {y : O} : ∀ {p : List Sel} {o u : O}, o.getP p = some u → okPth K o p → okPth K (o.setP y p) p
  | [], o, u, _, _ => trivial
  | s :: p, o, u, h, h1 => by
    unfold O.getP at h
    unfold okPth at h1
    cases e : o.get1 s with
    | none => rw [e] at h; cases h
    | some z =>
      rw [e] at h h1
      have e1 : o.setP y (s :: p) = o.set1 (z.setP y p) s := by rw [O.setP, e]
      rw [e1]
      unfold okPth
      rw [get_set1 e]
      exact ⟨okS_set1 h1.1, okPth_setP h h1.2⟩
/-- the cell of a dict at a place -/
theorem HW.cellD (h : HW K F B0 τ T σ Γ H B S) {kvs : List (Key × O)} (e0 : Γ[i]? = some (some o1)) (g : o1.getP p = some (.od kvs)) (ok : okPth K o1 p) :
    ∃ v d ws, σ[i]? = some (some v) ∧ Wlk K H v p (.ref d) ∧ H d = some (.dK ws) ∧ ws.map (·.1) = kvs.map (·.1) := by
  obtain ⟨v, u, T1, a1, wk, r1, _, _⟩ := h.mutP1 e0 g ok
  cases r1 with
  | @od _ S4 a ws _ ha hs hn hc nd ek rs => exact ⟨v, a, ws, a1, wk, hc, ek⟩
/-- te.setdefault(k, []).append(e), a dict of lists at a place -/
theorem gos_setdApp (ev : EvP K te i p) {kvs : List (Key × O)} (e0 : Γ[i]? = some (some o1)) (g : o1.getP p = some (.od kvs)) (ok : okPth K o1 p) (hz : kvs.length < 100000)
    (h : ∀ F' B', Go K F' B' ty [] (fzE Γ) fun okk _ => ∃ k ys, okk = .d (kD k) ∧ lstAt kvs k ys ∧ ys.length < 100000 ∧
      ∀ F' B', Go K F' B' tv [] (fzE (Γ.set i none)) fun oe _ => oe.lf = true ∧ Dd.nx (Γ.set i (some (o1.setP (.od (dput kvs k (.ol (ys ++ [oe])))) p)))) :
    GoS K F B0 (tDrop (tBM K "list" rAppend (tDSetd te ty (tLst tNil)) (tCons tv tNil))) T Γ Dd := fun τ σ H De ⟨B, S, w⟩ s => by
  obtain ⟨v, d, ws, a1, wk, hc, ek⟩ := w.cellD e0 g ok
  obtain ⟨Bf, w0, back⟩ := w.lendX
  refine ev σ H v _ _ a1 wk ⟨d, rfl, .inl ⟨ws, .inl hc⟩, h H Bf [] σ H _ w0 fun v2 o2 Γ2 H2 ⟨k, ys, eo, hy, hyl, h2⟩ how => ⟨by decide, fun q hq => ?_⟩⟩
  subst eo
  obtain ⟨ex, hb⟩ := back v2 _ Γ2 H2 how
  obtain ⟨B2, S2, w2⟩ := hb (by cases k <;> rfl)
  obtain ⟨rk, S3, _, w3⟩ := w2.popd
  have ekk := rk.kV
  subst ekk
  have hc2 := ex _ _ hc
  have ndq : d ≠ q := fun z => by rw [← z, hc2] at hq; cases hq
  have len : ws.length = kvs.length := by have := congrArg List.length ek; simpa using this
  -- what follows: the list's cell is at the place, the element is made, the list grows
  have tail : ∀ (o' : O) (kvs1 : List (Key × O)) (u : Addr) (H4 : Hp), Ho K F B0 τ T σ (Γ.set i (some o')) H4 → o'.getP p = some (.od kvs1) → okPth K o' p → kval kvs1 k = some (.ol ys) → (∀ y, o'.setP (.od (dput kvs1 k y)) p = o1.setP (.od (dput kvs k y)) p) →
      Wlk K H4 v p (.ref d) → (∃ ws1, H4 d = some (.dK ws1) ∧ valV ws1 k = some (.ref u)) →
      (tyV K "list" (.ref u) H4 ∧ tCons tv tNil σ H4 fun xs H5 => rAppend (.ref u) xs H5 fun _ H6 => De.nx σ H6) := by
    intro o' kvs1 u H4 ⟨B4, S4, w4⟩ g' ok' hk' heq wk4 ⟨ws1, hd4, hv4⟩
    have hi : i < Γ.length := by
      have := (List.getElem?_eq_some_iff.mp e0).1
      exact this
    have e4 : (Γ.set i (some o'))[i]? = some (some o') := List.getElem?_set_self hi
    have g5 : o'.getP (p ++ [.key k]) = some (.ol ys) := by rw [getP_snoc g']; show (match kval kvs1 k with | some x => some x | none => none) = _; rw [hk']
    have ok5 : okPth K o' (p ++ [.key k]) := okPth_snoc g' ok' trivial hk'
    have wk5 : Wlk K H4 v (p ++ [.key k]) (.ref u) := wk4.snoc ⟨d, ws1, rfl, .inl hd4, hv4⟩
    obtain ⟨v', u', T1, a2, wk6, r6, _, _⟩ := w4.mutP1 e4 g5 ok5
    rw [a1] at a2
    cases a2
    have eu := Wlk.det wk5 wk6
    subst eu
    cases r6 with
    | @ol _ S6 _ us _ ha6 hs6 hn6 hc6 rs6 =>
    refine ⟨.inl ⟨rfl, us, SqL.of hc6⟩, ?_⟩
    obtain ⟨Bh, ⟨B8, S8, w8⟩, back8⟩ := w4.lendX
    refine h2 H4 Bh [] σ H4 _ ⟨B8, S8, by have := w8.unsets i; rw [fzE_set, List.set_set] at this; rw [fzE_set]; exact this⟩ fun v7 o7 Γ7 H7 ⟨lf, hn⟩ how7 => ?_
    obtain ⟨ex7, hb7⟩ := back8 v7 o7 Γ7 H7 how7
    obtain ⟨B9, S9, w9⟩ := hb7 lf
    obtain ⟨v'', u'', T2, So, a3, wk7, r7, ro, dj, _, _, f7⟩ := w9.mutP e4 g5 ok5
    rw [a1] at a3
    cases a3
    have eu2 := Wlk.det (wk5.ex ex7) wk7
    subst eu2
    cases r7 with
    | @ol _ S10 _ us2 _ ha7 hs7 hn7 hc7 rs7 =>
    have len7 : us2.length = ys.length := by simpa using rs7.len
    refine ⟨u, us2, v7, rfl, rfl, hc7, by rw [len7]; exact Nat.lt_of_lt_of_le hyl (by decide), ?_⟩
    obtain ⟨S', w10, _⟩ := f7 u (.lst (us2 ++ [v7])) (.ol (ys ++ [o7])) ha7 (.ol (S' := fun b => S10 b ∨ So b) (.inl ha7) (fun b z => z.imp (hs7 b) id) (fun z => z.elim hn7 fun z => dj u ha7 z) upd_same (by
      rw [List.map_append, List.map_append]
      exact (rs7.snoc ro fun b z => dj b (hs7 b z)).at fun b x z q => by
        rw [upd_ne (fun e => by subst e; exact z.elim hn7 fun z => dj b ha7 z)]; exact q))
    rw [List.set_set, setP_snoc (s := .key k) g' ⟨_, (show (O.od kvs1).get1 (.key k) = _ from hk')⟩] at w10
    have e11 : o'.setP (O.set1 (.od kvs1) (.ol (ys ++ [o7])) (.key k)) p = o1.setP (.od (dput kvs k (.ol (ys ++ [o7])))) p := heq _
    rw [e11] at w10
    exact s.nx σ _ _ hn ⟨_, _, w10⟩
  have exq : Ex H2 (upd H2 q (.lst [])) := .new hq
  refine ⟨ws, k, by rw [upd_ne ndq]; exact hc2, rfl, by rw [len]; exact Nat.lt_of_lt_of_le hz (by decide), fun u hu => ?_, fun hn0 => ?_⟩
  · -- it is there
    have hy' : kval kvs k = some (.ol ys) := by
      rcases hy with hy | ⟨hy, _⟩
      · exact hy
      · have := kval_keys (k := k) ek
        rw [hy, hu] at this; cases this
    have wq := (w3.push (v := .non) (o := .d .non) (S' := fun _ => False) exq (.refl B2) (fun a x e => exq a x (w3.pu a x e)) (fun _ z => .inl z) (fun _ z => z.elim) (.d .non))
    obtain ⟨_, S4, _, w4⟩ := wq.popd
    obtain ⟨n, u2, k1, k2, k3, k4⟩ : ∃ (n : Nat) (u2 : V), kvs[n]? = some (k, .ol ys) ∧ True ∧ True ∧ True := by
      obtain ⟨n, hn⟩ := kval_mem hy'
      exact ⟨n, .non, hn, trivial, trivial, trivial⟩
    have g5 : o1.getP (p ++ [.key k]) = some (.ol ys) := by rw [getP_snoc g]; show (match kval kvs k with | some x => some x | none => none) = _; rw [hy']
    have ok5 : okPth K o1 (p ++ [.key k]) := okPth_snoc g ok trivial hy'
    obtain ⟨v', u', T1, a2, wk6, r6, _, _⟩ := w4.mutP1 e0 g5 ok5
    rw [a1] at a2
    cases a2
    have wk5 : Wlk K (upd H2 q (.lst [])) v (p ++ [.key k]) u := ((wk.ex ex).ex exq).snoc ⟨d, ws, rfl, .inl (by rw [upd_ne ndq]; exact hc2), hu⟩
    have eu := Wlk.det wk5 wk6
    subst eu
    cases r6 with
    | @ol _ S6 ua us _ ha6 hs6 hn6 hc6 rs6 =>
    have same : Γ.set i (some o1) = Γ := by
      apply List.ext_getElem?
      intro n
      by_cases hn : n = i
      · subst hn; rw [List.getElem?_set_self (List.getElem?_eq_some_iff.mp e0).1, e0]
      · rw [List.getElem?_set_ne (Ne.symm hn)]
    exact tail o1 kvs ua _ ⟨B2, S4, by rw [same]; exact w4⟩ g ok hy' (fun _ => rfl) ((wk.ex ex).ex exq) ⟨ws, by rw [upd_ne ndq]; exact hc2, hu⟩
  · -- it is put in
    have hy' : kval kvs k = none ∧ ys = [] := by
      rcases hy with hy | hy
      · have := kval_keys (k := k) ek
        rw [hy, hn0] at this; cases this
      · exact hy
    obtain ⟨hy1, rfl⟩ := hy'
    obtain ⟨S4, w4⟩ := w3.newl hq (xs := []) (vs := []) .nil
    obtain ⟨v', u', T1, So, a2, wk6, r6, ro, dj, _, _, f6⟩ := w4.mutP e0 g ok
    rw [a1] at a2
    cases a2
    have eu := Wlk.det ((wk.ex ex).ex exq) wk6
    subst eu
    cases r6 with
    | @od _ S6 _ ws2 _ ha hs hn hc6 nd ek2 rs =>
    have ews : ws2 = ws := by
      rw [upd_ne ndq, hc2] at hc6
      cases hc6; rfl
    subst ews
    obtain ⟨S', w5, wk7⟩ := f6 d (.dK (putK ws2 k (.ref q))) (.od (dput kvs k (.ol []))) ha (.od (S' := fun b => S6 b ∨ So b) (.inl ha) (fun b z => z.imp (hs b) id) (fun z => z.elim hn fun z => dj d ha z) upd_same (dput_nodup nd) (by rw [putK_dput]; exact dput_keys ek2) (by
      rw [putK_dput]
      exact (rs.dput ro nd ek2 fun b z => dj b (hs b z)).at fun b x z q => by
        rw [upd_ne (fun e => by subst e; exact z.elim hn fun z => dj b ha z)]; exact q))
    have hn1 := kval_none hy1
    have g' := getP_setP (y := .od (dput kvs k (.ol []))) g
    refine tail _ (dput kvs k (.ol [])) q _ ⟨B2, S', w5⟩ g' (okPth_setP g ok) (by rw [dput_new hn1]; exact kval_snoc hn1) (fun y => ?_) wk7 ⟨_, upd_same, ?_⟩
    · rw [setP_setP g, dput_put]
    · rw [putK_dput, dput_new]
      · have : valV ws2 k = none := hn0
        unfold valV at this ⊢
        rw [List.find?_append]
        have h0 : ws2.find? (fun kv => decide (kv.1 = k)) = none := by
          cases q9 : ws2.find? (fun kv => decide (kv.1 = k)) with
          | none => rfl
          | some x => rw [q9] at this; cases this
        rw [h0]; simp
      · intro p1 hp1
        have : p1.1 ∈ kvs.map (·.1) := by rw [← ek2]; exact List.mem_map_of_mem hp1
        obtain ⟨p2, hp2, e2⟩ := List.mem_map.mp this
        rw [← e2]; exact hn1 p2 hp2
end
end SK
namespace SK
open PySem PySem.Spec PyProof.Rows L2
def CalM (P : Program) (w : World) (K : PySem.W.Frag) (mg : Str → Option Value) (base : Heap) (Ci : Addr) (m : Str) (k : Nat) (ps : List Str) (C : Ct) : Prop :=
  ∃ f fd, FnOk P w K mg base CX0 k f fd ps (spP K C) ∧ Meth K Ci m f ∧ Binds K fd ps []
end SK
namespace SK
open PySem PySem.Spec PyProof.Rows L2
section
variable {K : PySem.W.Frag} {F B0 H B : Hp} {τ : List V} {T : List O} {σ : L2.St} {Γ : En} {S : Ad} {v w : V} {o oe o1 : O} {i : Nat} {te ti ty tv : TE} {p : List Sel} {posts1 : En → Prop} {Dd : EG} {post : O → En → Prop} {x : D}
/-- code that is never come to -/
theorem gos_never (h : False) : GoS K F B0 tNever T Γ Dd := h.elim
theorem RS.setAt {So : Ad} {n : Nat} {vs : List V} {xs : List O} (r : RS K B H S (vs.map some) (xs.map some)) (hn : n < xs.length) (ro : RO K B H So w oe) (dj : ∀ b, S b → ¬ So b) : RS K B H (fun b => S b ∨ So b) ((vs.set n w).map some) ((xs.set n oe).map some) := by
  obtain ⟨u, U1, U2, c1, c2, c3, c4, ru, f⟩ := r.focus (i := n) (o := xs[n]) (by rw [List.getElem?_map, List.getElem?_eq_getElem hn]; rfl)
  have q := f B H So (some w) (some oe) (.refl B) (fun _ _ _ e => e) (fun b z y => dj b (c3 b y) z) (fun x e => by cases e; exact ⟨w, rfl, ro⟩)
  rw [← List.map_set, ← List.map_set] at q
  exact q.tr (.refl B) (fun b z => z.elim .inr fun z => .inl (c3 b z)) fun _ _ _ e => e
/-- te[n] = e, a list at a place -/
theorem gog_setLP (ev : EvP K te i p) {xs : List O} (e0 : Γ[i]? = some (some o1)) (g : o1.getP p = some (.ol xs)) (ok : okPth K o1 p)
    (h : ∀ F' B', Go K F' B' ti [] (fzE Γ) fun okk _ => ∃ n : Int, okk = .d (.int n) ∧ 0 ≤ n ∧ n < xs.length ∧ posts1 (Γ.set i (some (o1.setP (.ol (xs.set n.toNat o)) p)))) : GoG K F B0 (gSub te ti rSetG) o T Γ posts1 := fun τ σ H v1 Q ⟨B1, S1, w1⟩ k' => by
  obtain ⟨v, u, T1, To, a1, wk, r1, _, _, _, _, _⟩ := w1.mutP e0 g ok
  obtain ⟨Bf, w0, back⟩ := w1.lendX
  refine ev σ H v u _ a1 wk (h H Bf [] σ H _ w0 fun v2 o2 Γ2 H2 ⟨n, eo, n0, n1, h2⟩ how => ?_)
  subst eo
  obtain ⟨ex, hb⟩ := back v2 _ Γ2 H2 how
  obtain ⟨B2, S2, w2⟩ := hb rfl
  obtain ⟨rk, S3, _, w3⟩ := w2.popd
  cases rk
  obtain ⟨v', u', S5, So, a2, wk2, r2, ro, dj, _, _, f⟩ := w3.mutP e0 g ok
  rw [a1] at a2
  cases a2
  have eu : u' = u := Wlk.det (wk.ex ex) wk2
  subst eu
  cases r2 with
  | @ol _ S4 a ws _ ha hs hn hc rs =>
  have len : ws.length = xs.length := by simpa using rs.len
  refine .inl ⟨a, ws, n, n.toNat, rfl, rfl, hc, by unfold ixN; rw [if_pos n0, len, if_pos n1], ?_⟩
  obtain ⟨S', w4, _⟩ := f a (.lst (ws.set n.toNat v1)) (.ol (xs.set n.toNat o)) ha (.ol (S' := fun b => S4 b ∨ So b) (.inl ha) (fun b z => z.imp (hs b) id) (fun z => z.elim hn fun z => dj a ha z) upd_same
    ((rs.setAt (by omega) ro fun b z => dj b (hs b z)).at fun b u z q => by
      rw [upd_ne (fun e => by subst e; exact z.elim hn fun z => dj b ha z)]; exact q))
  exact k' σ _ _ h2 ⟨B2, S', w4⟩
theorem RS.filt {κ : Type} {q : κ → Bool} : ∀ {ws : List (κ × V)} {kvs : List (κ × O)} {S : Ad}, ws.map (·.1) = kvs.map (·.1) → RS K B H S (ws.map fun p => some p.2) (kvs.map fun p => some p.2) →
    RS K B H S ((ws.filter fun p => q p.1).map fun p => some p.2) ((kvs.filter fun p => q p.1).map fun p => some p.2)
  | [], [], _, _, r => r
  | (k, v) :: ws, (k', y) :: kvs, S, e, .cons (S1 := T1) (S2 := T2) s1 s2 d r rs => by
    simp only [List.map_cons, List.cons.injEq] at e
    obtain ⟨rfl, e⟩ := e
    have ih := RS.filt (q := q) e rs
    by_cases h : q k = true
    · rw [List.filter_cons_of_pos (by exact h), List.filter_cons_of_pos (by exact h)]
      exact .cons s1 s2 d r ih
    · rw [List.filter_cons_of_neg (by exact h), List.filter_cons_of_neg (by exact h)]
      exact ih.tr (.refl B) s2 fun _ _ _ e => e
theorem filt_keys {κ α β : Type} {q : κ → Bool} : ∀ {ws : List (κ × α)} {kvs : List (κ × β)}, ws.map (·.1) = kvs.map (·.1) → (ws.filter fun p => q p.1).map (·.1) = (kvs.filter fun p => q p.1).map (·.1)
  | [], [], _ => rfl
  | (k, v) :: ws, (k', y) :: kvs, e => by
    simp only [List.map_cons, List.cons.injEq] at e
    obtain ⟨rfl, e⟩ := e
    have ih := filt_keys (q := q) e
    by_cases h : q k = true
    · rw [List.filter_cons_of_pos (by exact h), List.filter_cons_of_pos (by exact h), List.map_cons, List.map_cons, ih]
    · rw [List.filter_cons_of_neg (by exact h), List.filter_cons_of_neg (by exact h), ih]
/-- te.pop(k), a dict at a place that has it -/
theorem gos_popP (ev : EvP K te i p) {kvs : List (Key × O)} (e0 : Γ[i]? = some (some o1)) (g : o1.getP p = some (.od kvs)) (ok : okPth K o1 p)
    (h : ∀ F' B', Go K F' B' ty [] (fzE Γ) fun okk _ => ∃ k, okk = .d (kD k) ∧ (kval kvs k).isSome = true ∧ Dd.nx (Γ.set i (some (o1.setP (.od (kvs.filter fun kv => decide (kv.1 ≠ k))) p)))) :
    GoS K F B0 (tDrop (tDPop1 te ty)) T Γ Dd := fun τ σ H De ⟨B, S, w⟩ s => by
  obtain ⟨v, d, ws, a1, wk, hc, ek⟩ := w.cellD e0 g ok
  obtain ⟨Bf, w0, back⟩ := w.lendX
  refine ev σ H v _ _ a1 wk ⟨d, rfl, .inl ⟨ws, .inl hc⟩, h H Bf [] σ H _ w0 fun v2 o2 Γ2 H2 ⟨k, eo, hk, h2⟩ how => ?_⟩
  subst eo
  obtain ⟨ex, hb⟩ := back v2 _ Γ2 H2 how
  obtain ⟨B2, S2, w2⟩ := hb (by cases k <;> rfl)
  obtain ⟨rk, S3, _, w3⟩ := w2.popd
  have ekk := rk.kV
  subst ekk
  have hc2 := ex _ _ hc
  rw [kval_keys ek] at hk
  obtain ⟨u, hu⟩ := Option.isSome_iff_exists.mp hk
  obtain ⟨v', u', T1, a2, wk6, r6, _, f6⟩ := w3.mutP1 e0 g ok
  rw [a1] at a2
  cases a2
  have eu := Wlk.det (wk.ex ex) wk6
  subst eu
  cases r6 with
  | @od _ S6 _ ws2 _ ha hs hn hc6 nd ek2 rs =>
  have ews : ws2 = ws := by
    rw [hc2] at hc6
    cases hc6; rfl
  subst ews
  refine ⟨ws2, k, u, hc2, rfl, hu, ?_⟩
  obtain ⟨S', w5, _⟩ := f6 d (.dK (dropK ws2 k)) (.od (kvs.filter fun kv => decide (kv.1 ≠ k))) ha (.od (S' := S6) ha hs hn upd_same (nd.sublist (List.filter_sublist.map _)) (filt_keys (q := fun z => decide (z ≠ k)) ek2) ((RS.filt (q := fun z => decide (z ≠ k)) ek2 rs).at fun b x z q => by
    rw [upd_ne (fun e => by subst e; exact hn z)]; exact q))
  exact s.nx σ _ _ h2 ⟨_, _, w5⟩
end
end SK
namespace SK
open PySem PySem.Spec PyProof.Rows L2
section
variable {K : PySem.W.Frag} {F B0 H B : Hp} {τ : List V} {T : List O} {σ : L2.St} {Γ : En} {S : Ad} {v w : V} {o oe o1 : O} {i : Nat} {te ti ty tv : TE} {posts1 : En → Prop} {Dd : EG} {post : O → En → Prop} {Ci a : Addr} {fl : List Str} {f : Str} {fs : Fs} {kvs : List (Key × O)}
theorem evp_f1 : EvP K (tFld K (tVar i) f) i [.fld f] := evp_fld (p := []) evp_var
theorem getP_f1 (hl : fs.lookup f = some o) : (O.oi a Ci fs).getP [.fld f] = some o := by
  show (match fs.lookup f with | some u => u.getP [] | none => none) = _
  rw [hl]; rfl
theorem okP_f1 (R : Rec K Ci fl) (hl : fs.lookup f = some o) (hf : fl.contains f = true) : okPth K (O.oi a Ci fs) [.fld f] := by
  refine ⟨⟨R.cls, R.no f hf⟩, ?_⟩
  show (match fs.lookup f with | some u => okPth K u [] | none => False)
  rw [hl]; trivial
theorem setP_f1 (hl : fs.lookup f = some o) : (O.oi a Ci fs).setP oe [.fld f] = .oi a Ci (SK.fput f oe fs) := by
  show (match fs.lookup f with | some u => O.set1 (O.oi a Ci fs) (u.setP oe []) (.fld f) | none => _) = _
  rw [hl]; rfl
/-- x.f.setdefault(k, []).append(e) -/
theorem gos_setdAppF (R : Rec K Ci fl) (e0 : Γ[i]? = some (some (.oi a Ci fs))) (hl : fs.lookup f = some (.od kvs)) (hf : fl.contains f = true) (hz : kvs.length < 100000)
    (h : ∀ F' B', Go K F' B' ty [] (fzE Γ) fun okk _ => ∃ k ys, okk = .d (kD k) ∧ lstAt kvs k ys ∧ ys.length < 100000 ∧
      ∀ F' B', Go K F' B' tv [] (fzE (Γ.set i none)) fun oe _ => oe.lf = true ∧ Dd.nx (Γ.set i (some (.oi a Ci (SK.fput f (.od (dput kvs k (.ol (ys ++ [oe])))) fs))))) :
    GoS K F B0 (tDrop (tBM K "list" rAppend (tDSetd (tFld K (tVar i) f) ty (tLst tNil)) (tCons tv tNil))) T Γ Dd := by
  refine gos_setdApp evp_f1 e0 (getP_f1 hl) (okP_f1 R hl hf) hz ?_
  simp only [setP_f1 hl]
  exact h
/-- x.f.pop(k) -/
theorem gos_popF (R : Rec K Ci fl) (e0 : Γ[i]? = some (some (.oi a Ci fs))) (hl : fs.lookup f = some (.od kvs)) (hf : fl.contains f = true)
    (h : ∀ F' B', Go K F' B' ty [] (fzE Γ) fun okk _ => ∃ k, okk = .d (kD k) ∧ (kval kvs k).isSome = true ∧ Dd.nx (Γ.set i (some (.oi a Ci (SK.fput f (.od (kvs.filter fun kv => decide (kv.1 ≠ k))) fs))))) :
    GoS K F B0 (tDrop (tDPop1 (tFld K (tVar i) f) ty)) T Γ Dd := by
  refine gos_popP evp_f1 e0 (getP_f1 hl) (okP_f1 R hl hf) ?_
  simp only [setP_f1 hl]
  exact h
/-- x.f[k] = e -/
theorem gog_setDF (R : Rec K Ci fl) (e0 : Γ[i]? = some (some (.oi a Ci fs))) (hl : fs.lookup f = some (.od kvs)) (hf : fl.contains f = true) (hz : kvs.length < 100000)
    (h : ∀ F' B', Go K F' B' ti [] (fzE Γ) fun okk _ => ∃ k, okk = .d (kD k) ∧ posts1 (Γ.set i (some (.oi a Ci (SK.fput f (.od (dput kvs k o)) fs))))) : GoG K F B0 (gSub (tFld K (tVar i) f) ti rSetG) o T Γ posts1 := by
  refine gog_setDP evp_f1 e0 (getP_f1 hl) (okP_f1 R hl hf) hz ?_
  simp only [setP_f1 hl]
  exact h
/-- xs[n] = e -/
theorem gog_setL {xs : List O} (e0 : Γ[i]? = some (some (.ol xs)))
    (h : ∀ F' B', Go K F' B' ti [] (fzE Γ) fun okk _ => ∃ n : Int, okk = .d (.int n) ∧ 0 ≤ n ∧ n < xs.length ∧ posts1 (Γ.set i (some (.ol (xs.set n.toNat o))))) : GoG K F B0 (gSub (tVar i) ti rSetG) o T Γ posts1 :=
  gog_setLP (p := []) evp_var e0 rfl trivial h
end
end SK
namespace SK
open PySem PySem.Spec PyProof.Rows L2
def rIsBl : R2 := fun x y H Q => ∃ a b, x = .bl a ∧ y = .bl b ∧ Q (.bl (decide (a = b))) H
def rNotBl : R2 := fun x y H Q => ∃ a b, x = .bl a ∧ y = .bl b ∧ Q (.bl (!decide (a = b))) H
section
variable {K : PySem.W.Frag} {F B0 : Hp} {T : List O} {Γ : En} {post : O → En → Prop}
theorem o2_isBl {a b : Bool} (h : post (.d (.bl (decide (a = b)))) Γ) : Op2 K F B0 rIsBl (.bl a) (.bl b) T Γ post := fun τ σ H B S v1 v2 Q w r1 r2 k => by
  cases r1; cases r2
  exact ⟨a, b, rfl, rfl, k _ _ Γ H h ⟨_, _, w.pushd .bl⟩⟩
theorem o2_notBl {a b : Bool} (h : post (.d (.bl (!decide (a = b)))) Γ) : Op2 K F B0 rNotBl (.bl a) (.bl b) T Γ post := fun τ σ H B S v1 v2 Q w r1 r2 k => by
  cases r1; cases r2
  exact ⟨a, b, rfl, rfl, k _ _ Γ H h ⟨_, _, w.pushd .bl⟩⟩
end
end SK
namespace SK
open PySem PySem.Spec PyProof.Rows L2
def tVarM (i : Nat) : TE := tVar i
section
variable {K : PySem.W.Frag} {F B0 : Hp} {T : List O} {Γ : En} {post : O → En → Prop} {i : Nat} {o : O}
theorem go_varM (e : Γ[i]? = some (some o)) (h : post o (Γ.set i none)) : Go K F B0 (tVarM i) T Γ post := go_move e h
end
theorem lfOLm {α : Type} {e : α → D} (h : ∀ x, (e x).lf = true) : ∀ {xs : List α}, (O.ol ((xs.map e).map O.d)).lf = true
  | [] => rfl
  | x :: xs => by
    have := lfOLm h (xs := xs)
    simp only [O.lf, List.map_cons, lfOL, h x, Bool.true_and] at this ⊢
    exact this
end SK
namespace SK
open PySem PySem.Spec PyProof.Rows L2
theorem gos_sIN {K : PySem.W.Frag} {F B0 : Hp} {T : List O} {Γ : En} {Dd : EG} {tt : TT} {u t2 : TS} (h : GoS K F B0 (tIfS tt tNever u) T Γ { Dd with nx := fun Γ1 => GoS K F B0 t2 T Γ1 Dd }) : GoS K F B0 (tSeq (tIfS tt tNever u) t2) T Γ Dd := gos_seq h
end SK
namespace SK
open PySem PySem.Spec PyProof.Rows L2
/-- dicts whose keys are numbers -/
abbrev IM (β : Type) := List (Int × β)
section
variable {β γ : Type} {f : β → D} {fo : β → O} {l : IM β} {k e : Int} {x : β}
def imK (f : β → D) (l : IM β) : List (Key × D) := l.map fun p => (Sum.inl p.1, f p.2)
def imO (f : β → O) (l : IM β) : List (Key × O) := l.map fun p => (Sum.inl p.1, f p.2)
theorem imK_od : (imK f l).map (fun p => (p.1, O.d p.2)) = imO (fun x => O.d (f x)) l := by simp [imK, imO]
end
end SK
namespace SK
open PySem PySem.Spec PyProof.Rows L2
section
variable {K : PySem.W.Frag} {F B0 : Hp} {T : List O} {Γ : En} {post : O → En → Prop} {te tl : TE} {tt : TT} {j1 j2 j3 : Nat}
/-- dict(d), keys numbers -/
theorem oa_dictI {β : Type} {f : β → D} {l : IM β} (h : post (.od (imO (fun x => O.d (f x)) l)) Γ) : OpA K F B0 rDictD [.dic (imK f l)] T Γ post := oa_dictD (by rw [imK_od]; exact h)
end
end SK
namespace SK
open PySem PySem.Spec PyProof.Rows L2
/-- sorted(set(e)), e a list of ints -/
def tSortSet (K : PySem.W.Frag) (te : TE) : TE := fun σ H Q => te σ H fun v H1 => ∃ (a : Addr) (ns : List Int), v = .ref a ∧ SqL K H1 a (ns.map V.int) ∧ ns.length ≤ 4000 ∧
  ∀ (ms : List Int) (q : Addr), ms.Pairwise (· < ·) → (∀ k, k ∈ ms ↔ k ∈ ns) → H1 q = none → Q (.ref q) (upd H1 q (.lst (ms.map V.int)))
section
variable {K : PySem.W.Frag} {F B0 : Hp} {T : List O} {Γ : En} {post : O → En → Prop} {te : TE}
theorem go_sortSet (h : Go K F B0 te T Γ fun o Γ1 => ∃ ns : List Int, o.fz.seq? = some (ns.map D.int) ∧ ns.length ≤ 4000 ∧ ∀ ms : List Int, ms.Pairwise (· < ·) → (∀ k, k ∈ ms ↔ k ∈ ns) → post (.ol ((ms.map D.int).map O.d)) Γ1) :
    Go K F B0 (tSortSet K te) T Γ post := fun τ σ H Q hw k =>
  h τ σ H _ hw fun v o Γ1 H1 ⟨ns, q1, q2, q3⟩ ⟨_, _, w1⟩ => by
    obtain ⟨_, _, w2, ex⟩ := w1.fz
    obtain ⟨r, _, _, w3⟩ := w2.popd
    generalize o.fz = y at r q1
    obtain ⟨a, us, rfl, sq, rl⟩ := r.seqL q1
    have eu := RL.ints rl
    subst eu
    refine ⟨a, ns, rfl, w3.pu.sqL sq, q2, fun ms q hp hm hn => ?_⟩
    obtain ⟨S2, w4⟩ := w3.newl hn (RL.ofInts ms)
    exact k _ _ _ _ (q3 ms hp hm) ⟨_, _, w4⟩
end
end SK
namespace SK
open PySem PySem.Spec PyProof.Rows L2
end SK
namespace SK
open PySem PySem.Spec PyProof.Rows L2
def gLst (K : PySem.W.Frag) (n : Nat) (t : TGs) : TG := fun v σ H Q => ∃ a xs, v = .ref a ∧ SqL K H a xs ∧ xs.length = n ∧ t xs σ H Q
section
variable {K : PySem.W.Frag} {F B0 H B : Hp} {τ : List V} {T : List O} {σ : L2.St} {Γ : En} {S : Ad} {o : O} {a : Addr} {i : Nat} {posts1 : En → Prop}
def GoGsO (K : PySem.W.Frag) (F B0 : Hp) (g : TGs) (os : List O) (T : List O) (Γ : En) (post : En → Prop) : Prop := ∀ (τ : List V) (σ : L2.St) (H : Hp) (vs : List V) (Q : L2.St → Hp → Prop), Ho K F B0 (vs ++ τ) (os ++ T) σ Γ H → vs.length = os.length →
  (∀ σ' Γ' H', post Γ' → Ho K F B0 τ T σ' Γ' H' → Q σ' H') → g vs σ H Q
/-- a list's parts, each by itself -/
theorem HW.spill {os : List O} {v : V} (h : HW K F B0 (v :: τ) (.ol os :: T) σ Γ H B S) : ∃ a vs S', v = .ref a ∧ H a = some (.lst vs) ∧ vs.length = os.length ∧ HW K F B0 (vs ++ τ) (os ++ T) σ Γ H B S' := by
  obtain ⟨S1, S2, c1, c2, c3, ro, w2⟩ := h.pop
  cases ro with
  | @ol _ S3 a vs _ ha hs hn hc rs =>
  have hl : vs.length = os.length := by have := RS.len rs; simpa using this
  refine ⟨a, vs, fun b => S3 b ∨ S2 b, rfl, hc, hl, w2.fr, w2.pu, w2.b0, fun b z => z.elim (fun z => h.ow b (c1 b (hs b z))) (fun z => h.ow b (c2 b z)), w2.nw, ?_, by simp [w2.lt, hl]⟩
  rw [List.map_append, List.map_append, List.append_assoc, List.append_assoc]
  exact RS.join w2.rs (fun b z => c3 b (hs b z)) rs
theorem gog_lunO {g : TGs} {n : Nat} (h : ∃ os, o = .ol os ∧ os.length = n ∧ GoGsO K F B0 g os T Γ posts1) : GoG K F B0 (gLst K n g) o T Γ posts1 := fun τ σ H v Q ⟨B, S, w⟩ k => by
  obtain ⟨os, rfl, hn, h⟩ := h
  obtain ⟨a, vs, S', rfl, hc, hl, w2⟩ := w.spill
  exact ⟨a, vs, rfl, SqL.of hc, by rw [hl, hn], h τ σ H vs Q ⟨_, _, w2⟩ hl k⟩
theorem gogso_nil (h : posts1 Γ) : GoGsO K F B0 gNil [] T Γ posts1 := fun τ σ H vs Q w hl k => by
  obtain rfl : vs = [] := List.length_eq_zero_iff.mp hl
  exact ⟨rfl, k σ Γ H h w⟩
theorem gogso_name {os : List O} {g : TGs} (hi : i < Γ.length) (h : GoGsO K F B0 g os T (Γ.set i (some o)) posts1) : GoGsO K F B0 (gCons (gName i) g) (o :: os) T Γ posts1 := fun τ σ H vs Q ⟨B, S, w⟩ hl k => by
  match vs, hl with
  | v :: vs, hl =>
    obtain ⟨S', w2⟩ := w.put hi
    exact ⟨v, vs, rfl, h τ _ H vs Q ⟨_, _, w2⟩ (by simpa using hl) k⟩
end
end SK
namespace SK
open PySem PySem.Spec PyProof.Rows L2
section
variable {K : PySem.W.Frag} {F B0 H B : Hp} {τ : List V} {T : List O} {σ : L2.St} {Γ : En} {S : Ad} {o : O} {i : Nat} {post : O → En → Prop} {td ty te : TE}
/-- d.get(k) -/
theorem go_dget1 (h : Go K F B0 td T Γ fun o Γ1 => ∃ kvs, o.fz = .dic kvs ∧ Go K F B0 ty (.d (.dic kvs) :: T) Γ1 fun ok Γ2 => ∃ k, ok = .d (kD k) ∧ post (.d ((dval kvs k).getD .non)) Γ2) :
    Go K F B0 (tDGet1 td ty) T Γ post := fun τ σ H Q hw kk =>
  h τ σ H _ hw fun v1 o1 Γ1 H1 ⟨kvs, e1, h1⟩ ⟨_, _, w1⟩ => by
    obtain ⟨B2, S2, w1, _⟩ := w1.fz
    rw [e1] at w1
    obtain ⟨r1, _⟩ := w1.popd
    cases r1 with | @dic a ws _ hd _ rk =>
    refine ⟨a, rfl, .inl ⟨ws, w1.pu.rd hd⟩, h1 _ σ H1 _ ⟨_, _, w1⟩ fun v2 o2 Γ2 H2 ⟨k, e2, h2⟩ ⟨_, _, w2⟩ => ?_⟩
    subst e2
    obtain ⟨r2, _, _, w4⟩ := w2.popd
    obtain ⟨r1, _, _, w5⟩ := w4.popd
    have ek := r2.kV
    subst ek
    cases r1 with | @dic _ ws2 _ hd2 _ rk2 =>
    refine ⟨valV ws2 k, .inl ⟨ws2, k, w5.pu.rd hd2, rfl, rfl⟩, ?_⟩
    rcases rk2.val (k := k) with ⟨u, z, q1, q2, r⟩ | ⟨q1, q2⟩
    · rw [q1]; rw [q2] at h2; exact kk _ _ _ _ h2 ⟨_, _, w5.pushd r⟩
    · rw [q1]; rw [q2] at h2; exact kk _ _ _ _ h2 ⟨_, _, w5.pushd .non⟩
end
end SK
namespace SK
open PySem PySem.Spec PyProof.Rows L2
/-- __init__ of two fields -/
def spX2 (K : PySem.W.Frag) (C : Addr) (f1 f2 : Str) : Sp := fun vs H Q _ => ∃ a y1 y2, vs = [.ref a, y1, y2] ∧ H a = some (exo a C none) ∧
  ∀ dx H', H dx = none → dx ≠ a → H' a = some (exo a C (some dx)) → H' dx = some (exd dx [(f2, y2), (f1, y1)]) → (∀ b, b ≠ a → b ≠ dx → H' b = H b) → Q .non H'
def tRaiseF (W : WX) (C : Addr) (sp : Sp) (ta : TA) : TS := fun _ σ H => tMkO C sp [] ta σ H fun cls d H' => W cls d σ H'
section
variable {K : PySem.W.Frag} {F B0 H B H' : Hp} {τ : List V} {T : List O} {σ : L2.St} {Γ : En} {S : Ad} {Dd : EG} {ta : TA} {te : TE} {post : O → En → Prop}
theorem HW.grow (w : HW K F B0 τ T σ Γ H B S) (e : Ex H H') : HW K F B0 τ T σ Γ H' B S :=
  ⟨w.fr.trans e, w.pu.trans e, w.b0, fun a z => ⟨(w.ow a z).1, (w.ow a z).2.1, fun q => (w.ow a z).2.2 (e.back q)⟩, w.nw, w.rs.tr (.refl B) (fun _ z => z) fun a u _ q => e a u q, w.lt⟩
/-- raise C(x1, x2) -/
theorem gos_raiseF {W : WX} {XX : Addr → Option (List (Str × D)) → En → Prop} {C : Addr} {f1 f2 : Str} (wx : ∀ Cc fs d σ Γ H, XX Cc fs Γ → HoX K F B0 σ Γ H d fs → W (.ref Cc) d σ H)
    (h : GoA K F B0 ta T Γ fun xs Γ1 => ∃ x1 x2, xs = [x1, x2] ∧ XX C (some [(f2, x2), (f1, x1)]) Γ1) : GoS K F B0 (tRaiseF W C (spX2 K C f1 f2) ta) T Γ Dd := fun τ σ H De hw s =>
  h τ σ H _ hw fun vs xs Γ1 H1 ⟨x1, x2, exs, hX⟩ ⟨B1, S1, w1⟩ hl => by
    subst exs
    obtain ⟨rl, S2, w⟩ := w1.args hl
    obtain ⟨v1, v2, rfl, r1, r2⟩ := rl.two
    refine ⟨Nat.le_of_ble_eq_true rfl, fun a ha => ⟨a, v1, v2, rfl, upd_same, fun dx H' hd ne e1 e2 e3 => ⟨rfl, dx, _, e1, e2, ?_, ?_⟩⟩⟩
    · rw [upd_ne ne] at hd; exact hd
    · rw [upd_ne ne] at hd
      have eH : upd (del H' a) dx (.xd [(f2, v2), (f1, v1)]) = upd H1 dx (.xd [(f2, v2), (f1, v1)]) := by
        funext b
        by_cases q1 : b = dx
        · subst q1; rw [upd_same, upd_same]
        · rw [upd_ne q1, upd_ne q1]
          by_cases q2 : b = a
          · subst q2; rw [del_same, ha]
          · rw [del_ne q2, e3 b q2 q1, upd_ne q2]
      rw [eH]
      exact wx C _ (some dx) σ Γ1 _ hX ⟨B1, _, (w.grow (Ex.new hd)).bareB, _, upd_same, .cons r2 (.cons r1 .nil)⟩
end
end SK
namespace SK
open PySem PySem.Spec PyProof.Rows L2
end SK
namespace SK
open PySem PySem.Spec PyProof.Rows L2
def tDUpd (td te : TE) : TE := fun σ H Q => td σ H fun x H1 => ∃ a, x = .ref a ∧ IsD H1 a ∧ te σ H1 fun y H2 => ∃ b kvs more, H2 a = some (.dK kvs) ∧ y = .ref b ∧ a ≠ b ∧ Rd H2 b (.dK more) ∧ kvs.length + more.length ≤ 100000 ∧ Q .non (upd H2 a (.dK (mergeK kvs more)))
section
variable {K : PySem.W.Frag} {F B0 H B : Hp} {τ : List V} {T : List O} {σ : L2.St} {Γ : En} {S : Ad} {i : Nat} {te : TE} {Dd : EG}
theorem RS.merge : ∀ {us : List (Key × V)} {more : List (Key × D)} {ws : List (Key × V)} {kvs : List (Key × O)}, RK K B us more → (kvs.map (·.1)).Nodup → ws.map (·.1) = kvs.map (·.1) → RS K B H S (ws.map fun p => some p.2) (kvs.map fun p => some p.2) →
    ((more.foldl (fun acc p => SK.dput acc p.1 (O.d p.2)) kvs).map (·.1)).Nodup ∧ (mergeK ws us).map (·.1) = (more.foldl (fun acc p => SK.dput acc p.1 (O.d p.2)) kvs).map (·.1) ∧ RS K B H S ((mergeK ws us).map fun p => some p.2) ((more.foldl (fun acc p => SK.dput acc p.1 (O.d p.2)) kvs).map fun p => some p.2)
  | [], _, ws, kvs, .nil, nd, e, rs => ⟨nd, e, rs⟩
  | (k, u) :: us, _, ws, kvs, .cons (x := x) (xs := xs) r t, nd, e, rs => by
    have r1 := RS.dput (k := k) (So := fun _ => False) (RO.d r : RO K B H (fun _ => False) u (.d x)) nd e rs (fun _ _ z => z)
    have r2 : RS K B H S ((SK.dput ws k u).map fun p => some p.2) ((SK.dput kvs k (O.d x)).map fun p => some p.2) := r1.tr (.refl B) (fun _ z => z.elim id False.elim) fun _ _ _ e => e
    have q := RS.merge t (SK.dput_nodup (k := k) (v := O.d x) nd) (SK.dput_keys (k := k) (v := u) (x := O.d x) e) r2
    rw [List.foldl_cons]
    have em : mergeK ws ((k, u) :: us) = mergeK (SK.dput ws k u) us := by
      show List.foldl _ (putK ws k u) us = _
      rw [putK_dput]; rfl
    rw [em]
    exact q
theorem gos_dupd (h : Go K F B0 te T Γ fun o Γ1 => ∃ more kvs, o.fz = .dic more ∧ Γ1[i]? = some (some (.od kvs)) ∧ kvs.length + more.length ≤ 100000 ∧ Dd.nx (Γ1.set i (some (.od (more.foldl (fun acc p => SK.dput acc p.1 (O.d p.2)) kvs))))) (h0 : ∃ kvs, Γ[i]? = some (some (.od kvs))) :
    GoS K F B0 (tDrop (tDUpd (tVar i) te)) T Γ Dd := fun τ σ H De hw s => by
  obtain ⟨B, S, w⟩ := hw
  obtain ⟨kvs0, e0⟩ := h0
  obtain ⟨v, S1, a1, r1, _, _⟩ := w.mut1 e0
  cases r1 with
  | @od _ _ a vs _ _ _ _ hc _ _ _ =>
  refine ⟨.ref a, a1, a, rfl, .inl ⟨_, .inl hc⟩, h τ σ H _ ⟨B, S, w⟩ fun v2 o2 Γ2 H2 ⟨more, kvs, ez, e2, hz, h2⟩ ⟨B2, S2, w2⟩ => ?_⟩
  obtain ⟨B3, S3, w3, r3, _⟩ := w2.fzd
  rw [ez] at r3
  cases r3 with
  | @dic b us _ hb nd2 rk =>
  obtain ⟨v', S5, a2, r2, _, f⟩ := w3.mut1 e2
  rw [a1] at a2
  cases a2
  cases r2 with
  | @od _ S4 _ ws _ ha hs hn hc2 nd ek rs =>
  have ne : a ≠ b := fun e => by
    subst e
    obtain ⟨v0, T1, T2, b1, b2, b3, b4, b5, _⟩ := w3.slot e2
    rw [a1] at b1
    cases b1
    cases b5 with
    | @od _ _ _ _ _ ha5 _ _ _ _ _ _ =>
    have q := (w3.ow _ (b2 _ ha5)).2.1
    rcases hb with hb | ⟨_, hb⟩ <;> · rw [q] at hb; cases hb
  have hl1 : ws.length = kvs.length := by have := congrArg List.length ek; simpa using this
  have hl2 : us.length = more.length := rk.length
  refine ⟨b, ws, us, hc2, rfl, ne, w3.pu.rd hb, by omega, ?_⟩
  obtain ⟨q1, q2, q3⟩ := RS.merge rk nd ek rs
  obtain ⟨S6, w6⟩ := f a (.dK (mergeK ws us)) (.od (more.foldl (fun acc p => SK.dput acc p.1 (O.d p.2)) kvs)) ha (.od (S' := S4) ha hs hn upd_same q1 q2 (q3.tr (.refl _) (fun _ z => z) fun c u hcc e => by rw [upd_ne (fun z : c = a => hn (z ▸ hcc))]; exact e))
  exact s.nx _ _ _ h2 ⟨_, _, w6⟩
end
end SK
namespace SK
open PySem PySem.Spec PyProof.Rows L2
def tIxO (K : PySem.W.Frag) (i : Nat) (ti : TE) : TE := tOp (rIxG K) (tVar i) ti
section
variable {K : PySem.W.Frag} {F B0 H B : Hp} {τ : List V} {T : List O} {σ : L2.St} {Γ : En} {S : Ad} {i : Nat} {ti : TE} {post : O → En → Prop}
theorem RS.getAt {n : Nat} {y : D} : ∀ {vs : List V} {xs : List O} {S : Ad}, RS K B H S (vs.map some) (xs.map some) → xs[n]? = some (.d y) → ∃ u, vs[n]? = some u ∧ R K B u y := fun {vs xs S} r h => by
  have h2 : (xs.map some)[n]? = some (some (O.d y)) := by rw [List.getElem?_map, h]; rfl
  obtain ⟨v, S1, S2, a, _, _, _, ro, _⟩ := r.focus h2
  rw [List.getElem?_map] at a
  cases e : vs[n]? with
  | none => rw [e] at a; cases a
  | some u => rw [e] at a; cases a; cases ro with | d r => exact ⟨_, rfl, r⟩
theorem go_ixO (e0 : ∃ xs, Γ[i]? = some (some (.ol xs))) (h : Go K F B0 ti T Γ fun o Γ1 => ∃ (n : Int) (xs : List O) (y : D), o = .d (.int n) ∧ Γ1[i]? = some (some (.ol xs)) ∧ atI xs n = some (.d y) ∧ post (.d y) Γ1) : Go K F B0 (tIxO K i ti) T Γ post := fun τ σ H Q ⟨B, S, w⟩ k => by
  obtain ⟨xs0, e0⟩ := e0
  obtain ⟨v, S1, a1, r1, _, _⟩ := w.mut1 e0
  cases r1 with
  | @ol _ _ a vs _ _ _ _ hc _ =>
  refine ⟨.ref a, a1, h τ σ H _ ⟨B, S, w⟩ fun v2 o2 Γ2 H2 ⟨n, xs, y, eo, e2, ex, hp⟩ ⟨B2, S2, w2⟩ => ?_⟩
  subst eo
  obtain ⟨r2, S3, _, w3⟩ := w2.popd
  cases r2
  obtain ⟨v', S5, a2, r3, _, f⟩ := w3.mut1 e2
  rw [a1] at a2
  cases a2
  cases r3 with
  | @ol _ S4 _ us _ ha hs hn hc2 rs =>
  have len : us.length = xs.length := by have := RS.len rs; simpa using this
  unfold atI at ex
  cases q : ixN xs.length n with
  | none => rw [q] at ex; cases ex
  | some j =>
    rw [q] at ex
    obtain ⟨u, hu, ru⟩ := RS.getAt rs ex
    have hu2 : atI us n = some u := by unfold atI; rw [len, q]; exact hu
    exact .inl (.inl ⟨a, us, n, u, rfl, rfl, SqL.of hc2, hu2, k _ _ _ _ hp ⟨_, _, w3.pushd ru⟩⟩)
end
end SK
namespace SK
open PySem PySem.Spec PyProof.Rows L2
def rEqN (K : PySem.W.Frag) : R2 := fun x y H Q => ∃ a b xs, x = .ref a ∧ y = .ref b ∧ SqL K H a xs ∧ SqL K H b [] ∧ Q (.bl xs.isEmpty) H
def rNeN (K : PySem.W.Frag) : R2 := fun x y H Q => ∃ a b xs, x = .ref a ∧ y = .ref b ∧ SqL K H a xs ∧ SqL K H b [] ∧ Q (.bl (!xs.isEmpty)) H
section
variable {K : PySem.W.Frag} {F B0 : Hp} {T : List O} {Γ : En} {post : O → En → Prop} {x : D} {xs : List D}
theorem RL.emp {B : Hp} {vs : List V} {xs : List D} (r : RL K B vs xs) : vs.isEmpty = xs.isEmpty := by cases r <;> rfl
theorem o2_eqN (q : x.seq? = some xs) (h : post (.d (.bl xs.isEmpty)) Γ) : Op2 K F B0 (rEqN K) x (.lst []) T Γ post := fun τ σ H B S v1 v2 Q w r1 r2 k => by
  obtain ⟨a, us, rfl, sq, rl⟩ := r1.seqL q
  obtain ⟨b, ws, rfl, sq2, rl2⟩ := r2.seqL rfl
  cases rl2
  exact ⟨a, b, us, rfl, rfl, w.pu.sqL sq, w.pu.sqL sq2, k _ _ _ _ h ⟨_, _, w.pushd (by rw [rl.emp]; exact .bl)⟩⟩
theorem o2_neN (q : x.seq? = some xs) (h : post (.d (.bl (!xs.isEmpty))) Γ) : Op2 K F B0 (rNeN K) x (.lst []) T Γ post := fun τ σ H B S v1 v2 Q w r1 r2 k => by
  obtain ⟨a, us, rfl, sq, rl⟩ := r1.seqL q
  obtain ⟨b, ws, rfl, sq2, rl2⟩ := r2.seqL rfl
  cases rl2
  exact ⟨a, b, us, rfl, rfl, w.pu.sqL sq, w.pu.sqL sq2, k _ _ _ _ h ⟨_, _, w.pushd (by rw [rl.emp]; exact .bl)⟩⟩
end
theorem emp_map {α β : Type} {f : α → β} {xs : List α} : (xs.map f).isEmpty = xs.isEmpty := by cases xs <;> rfl
end SK
namespace SK
open PySem PySem.Spec PyProof.Rows L2
theorem gos_sIF {K : PySem.W.Frag} {F B0 : Hp} {T : List O} {Γ : En} {Dd : EG} {tt : TT} {u t2 : TS} {W : WX} {C : Addr} {sp : Sp} {ta : TA} (h : GoS K F B0 (tIfS tt (tRaiseF W C sp ta) u) T Γ { Dd with nx := fun Γ1 => GoS K F B0 t2 T Γ1 Dd }) : GoS K F B0 (tSeq (tIfS tt (tRaiseF W C sp ta) u) t2) T Γ Dd := gos_seq h
end SK
namespace SK
open PySem PySem.Spec PyProof.Rows L2
def tTryAsE (K : PySem.W.Frag) (c : Value) (i : Nat) (ts : Addr → Value → Option Addr → TS) (Wout : WX) (tb : WX → TS) (u : TS) : TS := fun De σ H => tb (wAs K c i ts Wout De) { De with nx := u De } σ H
section
variable {K : PySem.W.Frag} {F B0 : Hp} {T : List O} {Γ : En} {Dd : EG} {c : Value} {ts : Addr → Value → Option Addr → TS} {Wout : WX} {tw : WX → TS} {u t2 : TS} {i : Nat}
theorem gos_sTAE (h : GoS K F B0 (tTryAsE K c i ts Wout tw u) T Γ { Dd with nx := fun Γ1 => GoS K F B0 t2 T Γ1 Dd }) : GoS K F B0 (tSeq (tTryAsE K c i ts Wout tw u) t2) T Γ Dd := gos_seq h
end
end SK
namespace SK
open PySem PySem.Spec PyProof.Rows L2
end SK
namespace SK
open PySem PySem.Spec PyProof.Rows L2
structure Mk00 (K : PySem.W.Frag) (C : Addr) : Prop where
  makes : PySem.W.makesIn K C = true
  init : PySem.W.findIn K (.ref C) "__init__" = some (some (.builtin "object.__init__"))
  kp : PySem.W.keepIn K (.ref C) = true
def tMake0 (C : Addr) : TE := fun σ H Q => ∀ x dx, H x = none → H dx = none → dx ≠ x → Q (.ref x) (upd (upd H dx (.own x)) x (.ins C dx []))
theorem pe_make00 {X : Cx} {C : Addr} {x : Str} {p pos : Pos} (M : Mk00 X.K C) (hg : Gl X x) (hm : X.mg x = some (.ref C)) (hdb : (x == ("__debug__" : Str)) = false := by decide) : PE X (.Call (.Name x p) [] [] pos) (tMake0 C) := by
  refine ⟨fun pins s σ H Q I h => ?_⟩
  refine wpAny_Call_Name_kw (ld_glob I hg hm ?_ hdb)
  refine PySem.W.callWith_K0 I.kIn M.kp ?_
  have hq := h (s.heap.objs.size + 1) s.heap.objs.size (I.hok.fresh (Nat.le_succ _)) (I.hok.fresh (Nat.le_refl _)) (Nat.ne_of_lt (Nat.lt_succ_self _))
  have I2 := Inv.made (C := C) I
  have Y := PySem.W.makes_of (M := model X.prog X.w) I.kIn M.makes
  refine wpAny_call (make_map0 I.kIn M.makes M.init (fun self => PySem.W.Looks.of_pure (PySem.W.oi_bind self)) ?_)
  have N' : ((s.heap.push PySem.W.emptyDict).push (PySem.W.instObj C s.heap.objs.size)).get? (s.heap.objs.size + 1) = some (PySem.W.instObj C s.heap.objs.size) := by
    apply Heap.get?_push_at
    · rw [Heap.size_push]
    · rfl
  have t1 : PySem.W.Looks (model X.prog X.w) ((s.heap.push PySem.W.emptyDict).push (PySem.W.instObj C s.heap.objs.size)) (typeOf (.ref (s.heap.objs.size + 1))) (.ref C) := (PySem.W.Looks.ld N').andThen .now
  have t2 : PySem.W.Looks (model X.prog X.w) ((s.heap.push PySem.W.emptyDict).push (PySem.W.instObj C s.heap.objs.size)) (isInstance (.ref (s.heap.objs.size + 1)) (.type "object")) true := t1.andThen (Y.top.keeps fun b o e => Heap.get?_push_of_some _ (Heap.get?_push_of_some _ e))
  refine codeAny_call_builtin PySem.W.oi_plain PySem.W.entry_oi (@PySem.W.check_slot (model X.prog X.w) _ _ _ "object.__init__" "object" "__init__" (.ref (s.heap.objs.size + 1)) [] [] _ PySem.W.oi_kind PySem.W.oi_split t2 (PySem.W.oi_args (.ref (s.heap.objs.size + 1))) ?_)
  rw [PySem.W.oi_run]
  exact wpAny_pure (And.intro rfl ⟨V.ref (s.heap.objs.size + 1), _, I2, rfl, hq⟩)
/-- what a class of the table must have -/
structure MEnt (X : Cx) (CX : CXT) (k : Nat) (m : Str) (ps : List Str) (C : Addr) (sp : Sp) : Prop where
  ex : ∃ f fd, Cls X.K C ∧ Meth X.K C m f ∧ FnOk X.prog X.w X.K X.mg X.base CX k f fd ps sp ∧ Room k X.A ∧ Binds X.K fd ps []
/-- o.m(..), o an instance of one of the classes of the table -/
def tMethD (K : PySem.W.Frag) (tb : List (Addr × Ct)) (m : Str) (E : XK) (ta : TE) (t : TA) : TE := fun σ H Q => ta σ H fun x H1 => ∃ p ∈ tb, ∃ a dx fs, x = .ref a ∧ H1 a = some (.ins p.1 dx fs) ∧ fs.lookup m = none ∧
  t σ H1 fun vs H2 => spP K p.2 (x :: vs) H2 Q E
section
variable {X : Cx} {CX : CXT} {k : Nat} {ps : List Str} {E : XK} {m : Str} {pos apos : Pos} {e o : Expr} {es : List Expr} {ta : TE} {t : TA} {tb : List (Addr × Ct)}
theorem pe_methD {pl : Sem Bool} (he : PE X o ta) (c : ∀ p ∈ tb, MEnt X CX k m ps p.1 (spP X.K p.2)) (hx : Passes CX X E) (ha : PA X (e :: es) t)
    (hst : starEach (e :: es) X.env = (false, eval e X.env) :: starEach es X.env := by rfl) (hpl : (backTo pos (starEach es X.env)).any (·.1) = false := by rfl)
    (ht : eval (.Call (.Attribute o m apos) (e :: es) [] pos) X.env = (do
      let ov ← eval o X.env
      standAt apos.atName
      let (f, first) ← holding [ov] (getMethod ov m pl)
      callWith pos f first (backTo pos (starEach (e :: es) X.env)) (backToKw pos (keywordEach [] X.env))) := by rfl) :
    PE X (.Call (.Attribute o m apos) (e :: es) [] pos) (tMethD X.K tb m E ta t) := by
  refine ⟨fun pins s σ H Q I h => ?_⟩
  refine PySem.W.methodCall_KW (pl := pl) (thn (he.run pins s σ H _ I h) fun u s1 ⟨x, H1, I1, rx, p, hp, a, dx, fs, ex, ea, l, q⟩ => ?_) ht
  obtain ⟨f, fd, c, hm, F, hr, hb⟩ := (c p hp).ex
  subst ex
  obtain rfl : u = Value.ref a := rx
  refine getmeth_ok I1 ea c hm l ?_
  refine PySem.W.callWith_K (first := [.ref a]) (h₀ := X.base) I.ok.mod.kin hm.kp (thn (ha.run pos pins s1 σ H1 _ I1 q) fun us s2 ⟨vs, H2, I2, r, q2⟩ => ⟨I2.kIn, ?_⟩) hst hpl
  exact run_fn (us := .ref a :: us) (vs := .ref a :: vs) F hr hb .nil hx I2 (.cons rfl r) (by rw [List.append_nil]; exact q2)
theorem pe_methD0 {pl : Sem Bool} (he : PE X o ta) (c : ∀ p ∈ tb, MEnt X CX k m ps p.1 (spP X.K p.2)) (hx : Passes CX X E)
    (ht : eval (.Call (.Attribute o m apos) [] [] pos) X.env = (do
      let ov ← eval o X.env
      standAt apos.atName
      let (f, first) ← holding [ov] (getMethod ov m pl)
      callWith pos f first (backTo pos (starEach [] X.env)) (backToKw pos (keywordEach [] X.env))) := by rfl) :
    PE X (.Call (.Attribute o m apos) [] [] pos) (tMethD X.K tb m E ta tNil) := by
  refine ⟨fun pins s σ H Q I h => ?_⟩
  refine PySem.W.methodCall_KW (pl := pl) (thn (he.run pins s σ H _ I h) fun u s1 ⟨x, H1, I1, rx, p, hp, a, dx, fs, ex, ea, l, q⟩ => ?_) ht
  obtain ⟨f, fd, c, hm, F, hr, hb⟩ := (c p hp).ex
  subst ex
  obtain rfl : u = Value.ref a := rx
  refine getmeth_ok I1 ea c hm l ?_
  exact PySem.W.callWith_K0 (first := [.ref a]) I1.kIn hm.kp (run_fn (us := [.ref a]) (vs := [.ref a]) F hr hb .nil hx I1 (.cons rfl .nil) (by rw [List.append_nil]; exact q))
theorem k_methD {K : PySem.W.Frag} {X : Cx} {e : Expr} (h : X.K = K) (q : PE X e (tMethD X.K tb m E ta t)) : PE X e (tMethD K tb m E ta t) := by cases h; exact q
end
section
variable {K : PySem.W.Frag} {F B0 H H' B B' : Hp} {τ : List V} {T : List O} {σ : L2.St} {Γ : En} {post : O → En → Prop} {te tv : TE} {Ci Di : Addr} {S : Ad} {v : V} {x : D} {fs : List (Str × D)}
theorem go_make00 (h : post (.d (.ins Ci [])) Γ) : Go K F B0 (tMake0 Ci) T Γ post := fun τ σ H Q ⟨B, S, w⟩ k => by
  intro a dx ha hdx ne
  have ex : Ex H (upd (upd H dx (.own a)) a (.ins Ci dx [])) := fun b u e => by
    have n1 : b ≠ a := fun q => by rw [q, ha] at e; cases e
    have n2 : b ≠ dx := fun q => by rw [q, hdx] at e; cases e
    rw [upd_ne n1, upd_ne n2]; exact e
  refine k _ _ Γ _ h ⟨upd B a (.ins Ci dx []), _, w.push (S' := fun _ => False) ex (.of_ex (.new (w.pu.back ha))) (fun b u e => ?_) (fun b z => ?_) (fun _ z => z.elim) (.d (.ins upd_same .nil))⟩
  · by_cases q : b = a
    · subst q; rw [upd_same] at e ⊢; exact e
    · rw [upd_ne q] at e; exact ex b u (w.pu b u e)
  · by_cases q : b = a
    · subst q; exact .inr ha
    · rw [upd_ne q] at z; exact .inl z
/-- the receiver is data, its class one of the table's -/
theorem go_methD {tb : List (Addr × Ct)} {m : Str} {E : XK} {t : TA}
    (h : Go K F B0 te T Γ fun o Γ1 => ∃ C Cc fs, (C, Cc) ∈ tb ∧ o.fz = .ins C fs ∧ fs.lookup m = none ∧ GoA K F B0 t (.d (.ins C fs) :: T) Γ1 fun xs Γ2 => ∃ p, Cc (.ins C fs :: xs) p noX ∧ ∀ o, p o → post o Γ2) :
    Go K F B0 (tMethD K tb m E te t) T Γ post := fun τ σ H Q hw k =>
  h τ σ H _ hw fun v o Γ1 H1 ⟨C, Cc, fs, hmem, e, hm, h1⟩ ⟨_, _, w1⟩ => by
    obtain ⟨B1, S1, w1, _⟩ := w1.fz
    rw [e] at w1
    obtain ⟨r1, _, _, _⟩ := w1.popd
    cases r1 with
    | @ins a _ dx ws _ hb rf =>
    refine ⟨(C, Cc), hmem, a, dx, ws, rfl, w1.pu _ _ hb, rf.none hm, h1 (.ref a :: τ) σ H1 _ ⟨_, _, w1⟩ fun vs xs Γ2 H2 ⟨p, c, h2⟩ ⟨B2, S2, w2⟩ hl => ?_⟩
    obtain ⟨rl, S3, w3⟩ := w2.args hl
    obtain ⟨r2, S4, _, w4⟩ := w3.popd
    refine ⟨B2, .ins C fs :: xs, p, noX, w4.pu, .cons r2 rl, c, fun v o' B' S' H' e ex pu' le nw ow ro => ?_, fun _ _ _ _ _ e => e.elim⟩
    exact k v _ Γ2 H' (h2 _ e) ⟨B', _, w4.push ex le pu' nw ow ro⟩
structure InsX (K : PySem.W.Frag) (C : Addr) : Prop where
  cl : Cls K C
  ha : PySem.W.findIn K (.ref C) "__class__" = some (some (.builtin "object.__class__"))
  hn : PySem.W.specialIn K (.builtin "object.__class__") "__get__" = some (some (.builtin "getset_descriptor.__get__"))
  htk : PySem.W.takesIn K (.builtin "object.__class__") = some true
  hm : PySem.W.mroIn K C (.type "object") = some true
theorem oa_isiO {b : Bool} (c : InsX K Ci) (q : PySem.W.kitOne K (.ref Ci) (.ref Di) = some b) (h : post (.d (.bl b)) Γ) : OpA K F B0 (rIsiG K) [.ins Ci fs, .ref Di] T Γ post := fun τ σ H B S vs Q w rl k => by
  refine .inl ?_
  obtain ⟨v1, v2, rfl, r, r2⟩ := rl.two
  cases r2
  cases r with
  | ins hb rf => exact ⟨_, _, .ref Ci, .ref Di, b, rfl, .own Di, .base (.ins (w.pu _ _ hb) c.cl c.ha c.hn c.htk c.hm), q, k _ _ Γ H h ⟨_, _, w.pushd .bl⟩⟩
end
end SK
namespace SK
open PySem PySem.Spec PyProof.Rows L2
theorem mt_nil {X : Cx} {CX : CXT} {k : Nat} {m : Str} {ps : List Str} : ∀ p ∈ ([] : List (Addr × Ct)), MEnt X CX k m ps p.1 (spP X.K p.2) := fun p hp => by cases hp
theorem mt_cons {X : Cx} {CX : CXT} {k : Nat} {m : Str} {ps : List Str} {C : Addr} {Cc : Ct} {tb : List (Addr × Ct)} (h : ∃ f fd, Cls X.K C ∧ Meth X.K C m f ∧ FnOk X.prog X.w X.K X.mg X.base CX k f fd ps (spP X.K Cc) ∧ Room k X.A ∧ Binds X.K fd ps [])
    (t : ∀ p ∈ tb, MEnt X CX k m ps p.1 (spP X.K p.2)) : ∀ p ∈ (C, Cc) :: tb, MEnt X CX k m ps p.1 (spP X.K p.2) := fun p hp => by
  rcases List.mem_cons.mp hp with rfl | hp
  · exact ⟨h⟩
  · exact t p hp
end SK
namespace SK
open PySem PySem.Spec PyProof.Rows L2
section
variable {K : PySem.W.Frag} {F B0 H B : Hp} {τ τs : List V} {T os : List O} {σ : L2.St} {Γ : En} {S : Ad} {o : O} {i : Nat} {te te2 : TE} {ta : TA} {post : O → En → Prop} {Dd : EG} {xs : List D} {a : Addr} {g : TG} {tb : TS}
theorem HW.mark {ys : List O} (h : HW K F B0 τ T σ Γ H B S) (e : Γ[i]? = some (some (.ol ys))) : ∃ a S', σ[i]? = some (some (.ref a)) ∧ HW K F B0 (.ref a :: τ) (.ol ys :: T) σ (Γ.set i (some (.d (.ref a)))) H B S' := by
  obtain ⟨v, S', a1, w⟩ := h.take e
  have : ∃ a, v = .ref a := by
    obtain ⟨_, _, _, _, _, r, _⟩ := w.pop
    cases r; exact ⟨_, rfl⟩
  obtain ⟨a, rfl⟩ := this
  have hi : i < Γ.length := (List.getElem?_eq_some_iff.mp e).1
  obtain ⟨S2, w2⟩ := (w.pushd (v := .ref a) (x := .ref a) .ref).put (i := i) (by simpa using hi)
  rw [List.set_set] at w2
  have e2 : σ.set i (some (.ref a)) = σ := set_same a1
  rw [e2] at w2
  exact ⟨a, S2, a1, w2⟩
theorem HW.unmark (h : HW K F B0 (.ref a :: τ) (o :: T) σ Γ H B S) (e : Γ[i]? = some (some (.d (.ref a)))) : ∃ S', HW K F B0 τ T σ (Γ.set i (some o)) H B S' := by
  obtain ⟨v, a1, r⟩ := h.getd e
  have : v = .ref a := by cases r; rfl
  subst this
  have hi : i < Γ.length := (List.getElem?_eq_some_iff.mp e).1
  obtain ⟨S2, w2⟩ := h.put (i := i) hi
  have e2 : σ.set i (some (.ref a)) = σ := set_same a1
  rw [e2] at w2
  exact ⟨S2, w2⟩
theorem RS.pure : ∀ {vs : List V} {xs : List D} {S : Ad}, RS K B H S (vs.map some) ((xs.map O.d).map some) → RL K B vs xs
  | [], [], _, _ => .nil
  | v :: vs, x :: xs, _, .cons _ _ _ (.d r) t => .cons r t.pure
theorem HW.topL (h : HW K F B0 (.ref a :: τ) (.ol (xs.map O.d) :: T) σ Γ H B S) : ∃ vs, H a = some (.lst vs) ∧ RL K B vs xs := by
  obtain ⟨_, _, _, _, _, r, _⟩ := h.pop
  cases r with
  | ol _ _ _ hc rs => exact ⟨_, hc, rs.pure⟩
/-- zip of an owned list and of data -/
theorem gos_forOz (e : Γ[i]? = some (some (.ol (xs.map O.d)))) (h : ∀ a, Go K F B0 te2 (.ol (xs.map O.d) :: T) (Γ.set i (some (.d (.ref a)))) fun o Γ1 => ∃ ys, o.fz.seq? = some ys ∧ ∃ Iv : Nat → En → Prop, Iv 0 Γ1 ∧
    (∀ n d Γ', (zipD xs ys)[n]? = some d → Iv n Γ' → GoG K F B0 g (.d d) (.d o.fz :: .ol (xs.map O.d) :: T) Γ' fun Γ2 => GoS K F B0 tb (.d o.fz :: .ol (xs.map O.d) :: T) Γ2 { nx := Iv (n + 1), rt := Dd.rt, bk := fun Γ3 => Γ3[i]? = some (some (.d (.ref a))) ∧ Dd.nx (Γ3.set i (some (.ol (xs.map O.d)))), ct := Iv (n + 1) }) ∧
    ∀ Γ', Iv (zipD xs ys).length Γ' → Γ'[i]? = some (some (.d (.ref a))) ∧ Dd.nx (Γ'.set i (some (.ol (xs.map O.d))))) : GoS K F B0 (tFor (iZip K (tCons (tVar i) (tCons te2 tNil))) g tb) T Γ Dd := fun τ σ H De ⟨B, S, w⟩ s => by
  obtain ⟨a, S1, a1, w1⟩ := w.mark e
  refine ⟨.ref a, a1, h a (.ref a :: τ) σ H _ ⟨_, _, w1⟩ fun vb ob Γ1 H1 ⟨ys, q, Iv, h0, hst, hd⟩ ⟨Bx, Sx, wx⟩ => ?_⟩
  obtain ⟨By, Sy, wx, _⟩ := wx.fz
  generalize ob.fz = y at q hst hd wx
  have key : ∀ {σ' : L2.St} {Γ' : En} {H' B' : Hp} {S' : Ad}, HW K F B0 (vb :: .ref a :: τ) (.d y :: .ol (xs.map O.d) :: T) σ' Γ' H' B' S' → ∃ b vs us, vb = .ref b ∧ H' a = some (.lst vs) ∧ RL K B' vs xs ∧ SqL K H' b us ∧ RL K B' us ys := by
    intro σ' Γ' H' B' S' w
    obtain ⟨r, _, _, w2⟩ := w.popd
    obtain ⟨vs, hc, rl⟩ := w2.topL
    obtain ⟨b, us, rfl, sq, rl2⟩ := r.seqL q
    exact ⟨b, vs, us, rfl, hc, rl, w.pu.sqL sq, rl2⟩
  obtain ⟨b, vs, us, rfl, hc, rl, sq, rl2⟩ := key wx
  refine ⟨a, b, vs, us, rfl, SqL.of hc, sq, ?_⟩
  refine ⟨fun i' m σ' H' => m = (zipD xs ys).length - i' ∧ i' ≤ (zipD xs ys).length ∧ ∃ Γ', Iv i' Γ' ∧ Ho K F B0 (.ref b :: .ref a :: τ) (.d y :: .ol (xs.map O.d) :: T) σ' Γ' H', ⟨(zipD xs ys).length, by simp, Nat.zero_le _, _, h0, ⟨_, _, wx⟩⟩, ?_⟩
  rintro n m σ' H' ⟨rfl, hn, Γ', p, B', S', w⟩
  obtain ⟨b', vs, us, e1, hc, rl, sq, rl2⟩ := key w
  cases e1
  have hlen : (zipD xs ys).length = min xs.length ys.length := by simp [zipD]
  by_cases hlt : n < (zipD xs ys).length
  · have hxi : n < xs.length := by omega
    have hyi : n < ys.length := by omega
    obtain ⟨x1, hx1, rx1⟩ := rl.get (i := n) (x := xs[n]) (by simp [hxi])
    obtain ⟨y1, hy1, ry1⟩ := rl2.get (i := n) (x := ys[n]) (by simp [hyi])
    have hd2 : (zipD xs ys)[n]? = some (.tup [xs[n], ys[n]]) := by simp [zipD, hxi, hyi, List.getElem?_map, List.zip, List.getElem?_zipWith]
    refine .inr ⟨⟨vs, us, x1, y1, SqL.of hc, sq, hx1, hy1⟩, fun σ2 H2 => ∃ Γ2, Iv (n + 1) Γ2 ∧ Ho K F B0 (.ref b :: .ref a :: τ) (.d y :: .ol (xs.map O.d) :: T) σ2 Γ2 H2, fun σ2 H2 z => ⟨(zipD xs ys).length - (n + 1), by omega, rfl, hlt, z⟩, fun z H2 ⟨t, x2, y2, e1, e2, e3, f1, f2⟩ => ?_⟩
    subst e1 e3
    have g1 := f1 vs (SqL.of hc)
    rw [hx1] at g1
    cases g1
    have g2 := f2 us sq
    rw [hy1] at g2
    cases g2
    have ex : Ex B' (upd B' t (.tup [x1, y1])) := .new (w.pu.back e2)
    obtain ⟨S2, w2⟩ := HW.newd w e2 (x := .tup [xs[n], ys[n]]) (.tup (SqT.of upd_same) (.cons (rx1.mono (.of_ex ex)) (.cons (ry1.mono (.of_ex ex)) .nil)))
    refine hst n _ Γ' hd2 p (.ref b :: .ref a :: τ) σ' _ _ _ ⟨_, S2, w2⟩ fun σ3 Γ3 H3 h3 w3 => h3 _ σ3 H3 _ w3 ⟨fun σ4 Γ4 H4 z w4 => ⟨Γ4, z, w4⟩, fun v o σ4 Γ4 H4 z ⟨B4, S4, w4⟩ => s.rt v o σ4 Γ4 H4 z ⟨B4, S4, HW.under (τs := [.ref b, .ref a]) (os := [.d y, .ol (xs.map O.d)]) w4 rfl⟩,
        fun σ4 Γ4 H4 ⟨z1, z2⟩ ⟨B4, S4, w4⟩ => ?_, fun σ4 Γ4 H4 z w4 => ⟨Γ4, z, w4⟩⟩
    obtain ⟨_, S6, _, w6⟩ := w4.popd
    obtain ⟨S5, w5⟩ := w6.unmark z1
    exact s.nx σ4 _ H4 z2 ⟨B4, S5, w5⟩
  · have e3 : n = (zipD xs ys).length := by omega
    obtain ⟨q1, q2⟩ := hd Γ' (e3 ▸ p)
    obtain ⟨_, S6, _, w6⟩ := w.popd
    obtain ⟨S5, w5⟩ := w6.unmark q1
    exact .inl ⟨⟨vs, us, SqL.of hc, sq, by rw [rl.length, rl2.length]; omega⟩, s.nx σ' _ H' q2 ⟨B', S5, w5⟩⟩
end
def tForO (wi : TI) (g : TG) (tb : TS) : TS := tFor wi g tb
theorem ps_forO {X : Cx} {st : Stmt} {wi : TI} {g : TG} {tb : TS} (h : PS X st (tFor wi g tb)) : PS X st (tForO wi g tb) := h
end SK
namespace SK
open PySem PySem.Spec PyProof.Rows L2
section
variable {K : PySem.W.Frag} {F B0 H B : Hp} {τ : List V} {T : List O} {σ : L2.St} {Γ : En} {S : Ad} {o : O} {te : TE} {tt : TT} {post : O → En → Prop}
/-- a comprehension by an invariant; its items may be things of their own -/
theorem go_lcI {wi : TI} {g : TG} {js : List Nat} (h : GoI K F B0 wi T Γ fun ds hs Γ1 => ds.length ≤ 100000 ∧ (∀ j ∈ js, Γ1.set j none = Γ1) ∧ ∃ Iv : Nat → List O → Prop, Iv 0 [] ∧ (∀ n acc, Iv n acc → acc.length ≤ n) ∧
    (∀ (n : Nat) (d : D) (acc : List O), ds[n]? = some d → Iv n acc → GoW K F B0 js g d (.ol acc :: (hs.map O.d ++ T)) Γ1 fun Γ2 => GoT K F B0 tt (.ol acc :: (hs.map O.d ++ T)) Γ2 fun b Γ3 => (b = false → Iv (n + 1) acc ∧ wipeE Γ3 js = Γ1) ∧
      (b = true → Go K F B0 te (.ol acc :: (hs.map O.d ++ T)) Γ3 fun o Γ4 => Iv (n + 1) (acc ++ [o]) ∧ wipeE Γ4 js = Γ1)) ∧
    ∀ acc, Iv ds.length acc → post (.ol acc) Γ1) : Go K F B0 (tLc wi g tt te js) T Γ post := fun τ σ H Q hw k =>
  h τ σ H _ hw fun J τs hs ds Γ1 H1 ⟨hz, hj, Iv, i0, il, hst, hp⟩ ⟨B1, S1, w1⟩ hl it D hD => by
    have hl' : τs.length = (hs.map O.d).length := by simp [hl]
    have hwp : wipeE Γ1 js = Γ1 := wipeE_same hj
    obtain ⟨S0, w0⟩ := w1.newl (p := D) (xs := []) (vs := []) hD .nil
    have w0' := w0.wipe (js := js)
    rw [hwp] at w0'
    refine ⟨fun i m H' => m = ds.length - i ∧ i ≤ ds.length ∧ ∃ A, Iv i A ∧ ∃ B' S', HW K F B0 (.ref D :: (τs ++ τ)) (.ol A :: (hs.map O.d ++ T)) (L2.wipe σ js) Γ1 H' B' S', ⟨ds.length, by simp, Nat.zero_le _, [], i0, B1, S0, by simpa using w0'⟩, ?_⟩
    rintro i m H' ⟨rfl, hi, A, ia, B', S', w⟩
    obtain ⟨_, S'', _, _, _, _, wd⟩ := w.pop
    obtain ⟨q1, q2⟩ := it _ _ _ Γ1 H' B' _ w (wd.held hl)
    by_cases hlt : i < ds.length
    · obtain ⟨q3, q4⟩ := q2 i ds[i] (by simp [hlt])
      refine .inr ⟨q3, fun H2 => ∃ A2, Iv (i + 1) A2 ∧ ∃ B2 S2, HW K F B0 (.ref D :: (τs ++ τ)) (.ol A2 :: (hs.map O.d ++ T)) (L2.wipe σ js) Γ1 H2 B2 S2, fun H2 z => ⟨ds.length - (i + 1), by omega, rfl, hlt, z⟩, fun x H2 y => ?_⟩
      obtain ⟨B2, S2, w2⟩ := q4 x H2 y
      refine hst i ds[i] A (by simp [hlt]) ia (.ref D :: (τs ++ τ)) σ H2 x _ ⟨B2, S2, w2⟩ fun σ3 Γ3 H3 h3 e3 w3 => ⟨e3, h3 _ σ3 H3 _ w3 fun b Γ4 H4 ⟨hf, ht⟩ w4 => ?_⟩
      cases b with
      | true =>
        refine iteT (ht rfl _ σ3 H4 _ w4 fun v o Γ5 H5 ⟨eo, e5⟩ ⟨B5, S5, w5⟩ => ?_)
        obtain ⟨us, S7, hus, hlen, w7⟩ := w5.appTop
        refine ⟨us, hus, by rw [hlen]; exact Nat.lt_of_le_of_lt (Nat.le_trans (il _ _ ia) (Nat.le_trans hi hz)) (by decide), _, eo, B5, S7, ?_⟩
        have w8 := w7.wipe (js := js)
        rw [e5, e3] at w8
        exact w8
      | false =>
        obtain ⟨B4, S4, w4⟩ := w4
        obtain ⟨f1, f2⟩ := hf rfl
        refine iteF ⟨_, f1, B4, S4, ?_⟩
        have w8 := w4.wipe (js := js)
        rw [f2, e3] at w8
        exact w8
    · have ei : i = ds.length := by omega
      subst ei
      exact .inl ⟨q1, k _ _ Γ1 H' (hp A ia) ⟨B', S', HW.unwipe (w.under hl') hj⟩⟩
end
def tFrz (i : Nat) (s : TS) : TS := s
theorem ps_frz {X : Cx} {st : Stmt} {i : Nat} {s : TS} (h : PS X st s) : PS X st (tFrz i s) := h
theorem gos_frzA {K : PySem.W.Frag} {F B0 : Hp} {T : List O} {Γ : En} {i : Nat} {s : TS} {o : O} {Dd : EG} (e : Γ[i]? = some (some o)) (h : GoS K F B0 s T (Γ.set i (some (.d o.fz))) Dd) : GoS K F B0 (tFrz i s) T Γ Dd := gos_frz i e h
end SK
set_option maxHeartbeats 8000000
namespace Lw
open PySem PySem.Spec PyProof.Rows L2 SK TL
local macro_rules | `(tactic| walk_at "ixx") => `(tactic| fail)
local macro_rules | `(tactic| walk_at "lenx") => `(tactic| fail)
local macro_rules | `(tactic| walk_at "lendx") => `(tactic| fail)
local macro_rules | `(tactic| walk_at "sk1") => `(tactic| first
  | ((with_reducible refine' gos_setdAppF ?hR ?he ?hl ?hf ?hz ?hk); (case hR => assumption); (case he => exact rfl); (case hl => exact rfl); (case hf => exact rfl); (case hz => first | (simp only [List.length_map]; omega) | walk_at "lenx" | skip); (intro F' B'); (try walk_at "lendx"); (try (simp only [fzE_cons, fzE_nil, frO_none, frO_some, fz_fl, fz_fk, fz_d, fzL_fl, fzK_d, O.fz, fzL, List.set])))
  | ((with_reducible refine' gos_popF ?hR ?he ?hl ?hf ?hk); (case hR => assumption); (case he => exact rfl); (case hl => exact rfl); (case hf => exact rfl); (intro F' B'); (try walk_at "lendx"); (try (simp only [fzE_cons, fzE_nil, frO_none, frO_some, fz_fl, fz_fk, fz_d, fzL_fl, fzK_d, O.fz, fzL, List.set])))
  | ((with_reducible refine' gog_setDF ?hR ?he ?hl ?hf ?hz ?hk); (case hR => assumption); (case he => exact rfl); (case hl => exact rfl); (case hf => exact rfl); (case hz => first | (simp only [List.length_map]; omega) | walk_at "lenx" | skip); (intro F' B'); (try walk_at "lendx"); (try (simp only [fzE_cons, fzE_nil, frO_none, frO_some, fz_fl, fz_fk, fz_d, fzL_fl, fzK_d, O.fz, fzL, List.set])))
  | ((with_reducible refine' gog_setL ?he ?hk); (case he => exact rfl); (intro F' B'); (try walk_at "lendx"); (try (simp only [fzE_cons, fzE_nil, frO_none, frO_some, fz_fl, fz_fk, fz_d, fzL_fl, fzK_d, O.fz, fzL, List.set])))
  | ((with_reducible refine gos_never ?_); first | (exact absurd (by assumption) (by assumption)) | omega | (simp_all; done) | skip) | with_reducible refine gos_sLG ?_
  | ((with_reducible refine' gos_frzA ?he ?hk); (case he => exact rfl); (try walk_at "lendx"); (try simp only [fz_fl, fz_fk, fz_d, fzL_fl, fzK_d, O.fz, fzL, List.set]))
  | with_reducible refine gos_sA ?_ | with_reducible refine gos_sD ?_ | with_reducible refine gos_sN ?_ | with_reducible refine gos_sU ?_ | with_reducible refine gos_sF ?_ | with_reducible refine gos_sW ?_ | with_reducible refine gos_sIR ?_ | with_reducible refine gos_sIC ?_ | with_reducible refine gos_sIW ?_ | with_reducible refine gos_sIN ?_ | with_reducible refine gos_sIF ?_ | ((with_reducible refine' gos_raiseF ?hw ?_); (case hw => assumption)) | with_reducible refine gos_sTA ?_ | with_reducible refine gos_sTAE ?_ | with_reducible refine gos_sTO ?_ | with_reducible refine gos_sTE ?_ | with_reducible refine gos_sTX ?_ | with_reducible refine gos_sIB ?_ | with_reducible refine gos_asg ?_ | with_reducible refine gos_ret ?_ | with_reducible refine gos_if ?_ | with_reducible refine gos_next ?_ | with_reducible refine gos_brk ?_ | ((with_reducible refine' gos_append ?ha ?h0); (case h0 => exact ⟨_, rfl⟩)) | ((with_reducible refine' gos_insert ?ha ?h0); (case h0 => exact ⟨_, rfl⟩)) | ((with_reducible refine' gos_extend ?ha ?h0); (case h0 => exact ⟨_, rfl⟩)) | ((with_reducible refine' gos_dupd ?ha ?h0); (case h0 => exact ⟨_, rfl⟩)) | ((with_reducible refine gos_clear ?_); (refine ⟨_, rfl, ?_⟩); dsimp only [List.set]) | ((with_reducible refine' gos_clearT 0 ?he ?hk ?hn ?_); (case hn => exact rfl); (case he => exact rfl); (case hk => exact rfl); dsimp only [List.set]) | ((with_reducible refine' gos_clearT 1 ?he ?hk ?hn ?_); (case hn => exact rfl); (case he => exact rfl); (case hk => exact rfl); dsimp only [List.set]) | with_reducible refine gos_drop ?_
  | ((with_reducible refine' go_var ?hv ?_); (case hv => exact rfl))
  | ((with_reducible refine' go_fz ?hv ?_); (case hv => exact rfl); (try walk_at "lendx"); (try simp only [fz_fl, fz_fk, fz_d, fzL_fl, fzK_d, O.fz, fzL, List.set])) | with_reducible refine go_int ?_ | with_reducible refine go_bl ?_ | with_reducible refine go_str ?_ | with_reducible refine go_non ?_ | with_reducible refine go_ty ?_ | ((with_reducible refine' go_cst ?hq ?_); (case hq => assumption)) | with_reducible refine go_ref ?_ | ((with_reducible refine' gos_raise ?hw ?_); (case hw => assumption)) | ((with_reducible refine' oa_isX ?hE ?hq ?_); (case hE => assumption); (case hq => assumption)) | ((with_reducible refine' oa_isXt ?hE ?hq ?_); (case hE => assumption); (case hq => assumption))
  | ((with_reducible refine gos_raise0 ?_); first | (exact absurd (by assumption) (by assumption)) | omega | (simp_all; done) | skip)
  | with_reducible refine go_sindex ?_ | with_reducible refine go_upper ?_ | with_reducible refine go_find ?_
  | ((with_reducible refine' go_fldR ?hR ?_); (case hR => assumption)) | ((with_reducible refine' gos_fldR ?hR ?_); (case hR => assumption)) | with_reducible refine go_minD ?_ | with_reducible refine go_listRev ?_ | with_reducible refine go_sortSet ?_
  | ((with_reducible refine go_lend' fun F' B' => ?_); (try walk_at "lendx"); (try (simp only [fzE_cons, fzE_nil, frO_none, frO_some, fz_fl, fz_fk, fz_d, fzL_fl, fzK_d, O.fz, fzL, List.set]))) | ((with_reducible refine got_lend' fun F' B' => ?_); (try walk_at "lendx"); (try (simp only [fzE_cons, fzE_nil, frO_none, frO_some, fz_fl, fz_fk, fz_d, fzL_fl, fzK_d, O.fz, fzL, List.set])))
  | with_reducible refine go_tupO' ?_ | with_reducible refine go_lstO' ?_ | with_reducible refine goao_nil ?_
  | ((with_reducible refine goao_cons ?_); first | ((with_reducible refine' go_var ?hv ?_); (case hv => exact rfl)) | ((with_reducible refine' go_move ?hv ?_); (case hv => exact rfl); dsimp only [List.set]) | skip)
  | ((with_reducible refine' go_varM ?hv ?_); (case hv => exact rfl); (try dsimp only [List.set]))
  | ((with_reducible refine' go_ixO ?he ?_); (case he => exact ⟨_, rfl⟩))
  | with_reducible refine go_op ?_ | with_reducible refine go_un ?_ | with_reducible refine go_cb ?_ | with_reducible refine go_tup ?_ | with_reducible refine go_lst ?_ | with_reducible refine go_chain ?_ | with_reducible refine go_dnew ?_
  | with_reducible refine goa_cons ?_ | with_reducible refine goa_nil ?_ | with_reducible refine go_andV ?_ | with_reducible refine go_orV ?_ | with_reducible refine go_notV ?_ | with_reducible refine go_if ?_
  | with_reducible refine got_test ?_ | with_reducible refine got_B ?_ | with_reducible refine got_and ?_ | with_reducible refine got_or ?_ | with_reducible refine got_not ?_ | with_reducible refine got_yes ?_
  | ((with_reducible refine' gog_name ?hi ?_); (case hi => exact Nat.le_of_ble_eq_true rfl); dsimp only [List.set])
  | ((with_reducible refine' gos_aug ⟨_, ?hx, ?_⟩); (case hx => exact rfl)) | with_reducible refine oi_add ?_ | with_reducible refine oi_sub ?_
  | ((with_reducible refine' gog_setDS ?ha ?h0); (case h0 => exact ⟨_, rfl⟩)) | ((with_reducible refine' gog_setDI ?ha ?h0); (case h0 => exact ⟨_, rfl⟩))
  | with_reducible refine gog_tup ?_ | with_reducible refine gogs_nil ?_
  | ((with_reducible refine' gogs_name ?hi ?_); (case hi => exact Nat.le_of_ble_eq_true rfl); dsimp only [List.set])
  | ((with_reducible refine' gow_name ?hj ?hi ?_); (case hj => simp); (case hi => exact Nat.le_of_ble_eq_true rfl); dsimp only [List.set])
  | ((with_reducible refine' gow_tup ?he ?hn ?_); (case he => exact rfl); (case hn => exact rfl)) | with_reducible refine gows_nil ?_
  | ((with_reducible refine' gows_name ?hj ?hi ?_); (case hj => simp); (case hi => exact Nat.le_of_ble_eq_true rfl); dsimp only [List.set])
  | (with_reducible refine ⟨_, rfl, ?_⟩)
  | ((with_reducible refine' o2_addT ?hx ?hz ?_); (case hx => exact List.cons_ne_nil _ _); (case hz => (simp only [List.length_cons, List.length_nil, List.length_map]; omega)); (try simp only [List.cons_append, List.nil_append]))
  | with_reducible refine o2_add ?_ | with_reducible refine o2_sub ?_ | with_reducible refine o1_neg ?_ | (with_reducible refine o2_is ?_; (try simp only [D.isNon])) | (with_reducible refine o2_not ?_; (try simp only [D.isNon, Bool.not_true, Bool.not_false])) | ((with_reducible refine' o2_mul ?hm ?_); (case hm => first | exact IntMulOk.of_left (by decide) | exact IntMulOk.of_right (by decide) | assumption | exact IntMulOk.of_right (intBits_le_64 (by omega) (by omega)) | exact IntMulOk.of_left (intBits_le_64 (by omega) (by omega)))) | ((with_reducible refine' o2_div ?hb ?_); (case hb => omega)) | ((with_reducible refine' o2_mod ?hb ?_); (case hb => omega))
  | ((with_reducible refine o2_pow (by decide) ?_); dsimp only [Int.reduceToNat, Int.reducePow])
  | with_reducible refine o2_lt ?_ | with_reducible refine o2_le ?_ | with_reducible refine o2_gt ?_ | with_reducible refine o2_ge ?_ | with_reducible refine o2_eqI ?_ | with_reducible refine o2_neI ?_ | with_reducible refine o2_eqB ?_ | with_reducible refine o2_neB ?_ | with_reducible refine o2_eqS ?_ | with_reducible refine o2_neS ?_
  | ((with_reducible refine' o2_eqN ?hq ?_); (case hq => exact rfl); (try simp only [emp_map])) | ((with_reducible refine' o2_neN ?hq ?_); (case hq => exact rfl); (try simp only [emp_map]))
  | with_reducible refine o2_isBl ?_ | with_reducible refine o2_notBl ?_
  | with_reducible refine oa_dictI ?_ | with_reducible refine oa_max2 ?_ | with_reducible refine oa_min2 ?_
  | with_reducible refine oa_len (.seq rfl) ?_ | ((with_reducible refine' oa_len (.str ?hz) ?_); (case hz => omega)) | with_reducible refine oa_tupL rfl ?_ | with_reducible refine oa_tupT ?_
  | ((with_reducible refine' oa_isiG (b := true) ?ht ?hk ?_); (case ht => constructor); (case hk => decide +kernel)) | ((with_reducible refine' oa_isiG (b := false) ?ht ?hk ?_); (case ht => constructor); (case hk => decide +kernel))
  | with_reducible refine go_join ?_ | with_reducible refine go_split ?_ | with_reducible refine go_part ?_ | with_reducible refine go_starts ?_ | with_reducible refine oa_strS ?_ | with_reducible refine oa_intB ?_
  | with_reducible refine go_dget2 ?_ | with_reducible refine go_dget1 ?_ | with_reducible refine gog_lunO ?_ | with_reducible refine gogso_nil ?_ | ((with_reducible refine' gogso_name ?hi ?_); (case hi => exact Nat.le_of_ble_eq_true rfl); dsimp only [List.set]) | (refine ⟨Sum.inl _, by exact rfl, ?_⟩) | (refine ⟨Sum.inr _, by exact rfl, ?_⟩)
  | ((with_reducible refine' o2_ix (x := _) rfl ?hi ?_); (case hi => first | exact rfl | exact atI_ofN.trans rfl | walk_at "ixx"))
  | with_reducible refine go_sl ?_ | with_reducible refine goo_none ?_ | with_reducible refine goo_some ?_
  | with_reducible refine goi_rng1 ?_ | with_reducible refine goi_rng2 ?_ | with_reducible refine goi_seq ?_ | with_reducible refine goi_enum ?_ | with_reducible refine goi_zip ?_ | with_reducible refine goi_zipT ?_
  | with_reducible refine gos_for ?_
  | walk_at "lendx"
  | (simp only [fz_fl, fz_fk, fz_d, fzL_fl, fzK_d, O.fz, fzL])
  | ((with_reducible refine and_im (fun hc => ?_) (fun hc => ?_)) <;> try simp only [decide_eq_true_eq, decide_eq_false_iff_not, Bool.true_eq_false, Bool.false_eq_true, Bool.not_eq_true', Bool.not_eq_false', reduceCtorEq] at hc <;> try first | exact absurd hc (by decide) | exact absurd hc (by assumption) | exact absurd (by assumption) hc | exact absurd rfl hc)
  | walk_at "skc"
  | (refine ⟨_, _, _, _, rfl, by exact rfl, by exact rfl, ?_⟩) | (with_reducible refine ⟨_, _, rfl, ?_⟩) | (with_reducible refine ⟨_, _, _, rfl, ?_⟩) | (with_reducible refine ⟨_, _, _, _, rfl, ?_⟩) | (with_reducible refine ⟨_, _, _, _, _, rfl, ?_⟩) | (with_reducible refine ⟨_, _, _, _, _, _, rfl, ?_⟩)
  | ((with_reducible refine' And.intro ?hp ?_); (case hp => first | omega | assumption | exact rfl | exact Nat.le_of_ble_eq_true rfl | exact lfOLm (fun _ => rfl) | (show O.lf _ = true; simp only [O.lf, D.lf, lfL, lfOL, lf_mapI, Bool.and_true, Bool.and_self]; done)); (try dsimp only [List.set]))
  | ((refine' ⟨_, Sl.str ?hz, ?_⟩); (case hz => omega))
  | ((refine ⟨_, Sl.tupM (by decide) (List.cons_ne_nil _ _), ?_⟩); (try simp only [cutD_takeI, cutD_dropI, cutD_midI, Int.reduceToNat, Int.reduceLE, List.take_succ_cons, List.drop_succ_cons, List.take_zero, List.drop_zero]))
  | ((refine ⟨_, Sl.lst (by exact rfl), ?_⟩); (try simp only [SK.cutD_map, cutD_takeI, cutD_dropI, cutD_midI, ← List.map_take, ← List.map_drop, Int.reduceToNat, Int.reduceLE])) | (refine ⟨_, by exact rfl, ?_⟩) | (refine ⟨_, _, by exact rfl, by exact rfl, ?_⟩)
  | fail)
/-- all steps that no choice is asked of -/
local macro_rules | `(tactic| walk_at "sk") => `(tactic| (repeat' (walk_at "sk1")))
/-- .. and ifs that go on behind, each way by itself -/
local macro_rules | `(tactic| walk_at "skb") => `(tactic| (repeat' (first | walk_at "sk1" | with_reducible refine gos_seq ?_ | fail)))
/-- slots are as told -/
local macro_rules | `(tactic| walk_at "envq") => `(tactic| ((try simp only [List.map_append, List.map_cons, List.map_nil]); rfl))
/-- .. and what is plainly true falls away -/
local macro_rules | `(tactic| walk_at "wk") => `(tactic| (repeat' (first | walk_at "sk1" | (with_reducible refine ⟨trivial, ?_⟩) | fail)))
local macro_rules | `(tactic| walk_at "wkb") => `(tactic| (repeat' (first | walk_at "sk1" | (with_reducible refine ⟨trivial, ?_⟩) | with_reducible refine gos_seq ?_ | fail)))
def topS (i : Nat) : Stmt := PySem.Challenge.pw_skewhouse_k40_the_tree_of_levels.main.body.getD i (.Pass ⟨0, 0, 0, 0⟩)
abbrev s_Loose__word : Stmt := inCls (topS 4) 0
abbrev N_Loose__word : List Str := ["self"]
theorem sc_Loose__word : FnScope N_Loose__word ["self"] (defScope s_Loose__word) := ⟨rfl, rfl, rfl, by decide +kernel, rfl, by decide +kernel, by decide +kernel⟩
abbrev s_Kept__word : Stmt := inCls (topS 5) 0
abbrev N_Kept__word : List Str := ["self"]
theorem sc_Kept__word : FnScope N_Kept__word ["self"] (defScope s_Kept__word) := ⟨rfl, rfl, rfl, by decide +kernel, rfl, by decide +kernel, by decide +kernel⟩
abbrev s_Make__word : Stmt := inCls (topS 6) 0
abbrev N_Make__word : List Str := ["self"]
theorem sc_Make__word : FnScope N_Make__word ["self"] (defScope s_Make__word) := ⟨rfl, rfl, rfl, by decide +kernel, rfl, by decide +kernel, by decide +kernel⟩
abbrev s_Watch__word : Stmt := inCls (topS 7) 0
abbrev N_Watch__word : List Str := ["self"]
theorem sc_Watch__word : FnScope N_Watch__word ["self"] (defScope s_Watch__word) := ⟨rfl, rfl, rfl, by decide +kernel, rfl, by decide +kernel, by decide +kernel⟩
abbrev s_Hold__word : Stmt := inCls (topS 8) 0
abbrev N_Hold__word : List Str := ["self"]
theorem sc_Hold__word : FnScope N_Hold__word ["self"] (defScope s_Hold__word) := ⟨rfl, rfl, rfl, by decide +kernel, rfl, by decide +kernel, by decide +kernel⟩
abbrev s_Loose__stand : Stmt := inCls (topS 4) 1
abbrev N_Loose__stand : List Str := ["self", "begin", "now"]
theorem sc_Loose__stand : FnScope N_Loose__stand ["self", "begin", "now"] (defScope s_Loose__stand) := ⟨rfl, rfl, rfl, by decide +kernel, rfl, by decide +kernel, by decide +kernel⟩
abbrev s_Kept__stand : Stmt := inCls (topS 4) 1
abbrev N_Kept__stand : List Str := ["self", "begin", "now"]
theorem sc_Kept__stand : FnScope N_Kept__stand ["self", "begin", "now"] (defScope s_Kept__stand) := ⟨rfl, rfl, rfl, by decide +kernel, rfl, by decide +kernel, by decide +kernel⟩
abbrev s_Make__stand : Stmt := inCls (topS 6) 1
abbrev N_Make__stand : List Str := ["self", "begin", "now"]
theorem sc_Make__stand : FnScope N_Make__stand ["self", "begin", "now"] (defScope s_Make__stand) := ⟨rfl, rfl, rfl, by decide +kernel, rfl, by decide +kernel, by decide +kernel⟩
abbrev s_Watch__stand : Stmt := inCls (topS 6) 1
abbrev N_Watch__stand : List Str := ["self", "begin", "now"]
theorem sc_Watch__stand : FnScope N_Watch__stand ["self", "begin", "now"] (defScope s_Watch__stand) := ⟨rfl, rfl, rfl, by decide +kernel, rfl, by decide +kernel, by decide +kernel⟩
abbrev s_Hold__stand : Stmt := inCls (topS 4) 1
abbrev N_Hold__stand : List Str := ["self", "begin", "now"]
theorem sc_Hold__stand : FnScope N_Hold__stand ["self", "begin", "now"] (defScope s_Hold__stand) := ⟨rfl, rfl, rfl, by decide +kernel, rfl, by decide +kernel, by decide +kernel⟩
abbrev s_level_of : Stmt := topS 9
abbrev N_level_of : List Str := ["word"]
theorem sc_level_of : FnScope N_level_of ["word"] (defScope s_level_of) := ⟨rfl, rfl, rfl, by decide +kernel, rfl, by decide +kernel, by decide +kernel⟩
abbrev s__law_refused : Stmt := topS 20
abbrev N__law_refused : List Str := ["_law_word", "e"]
theorem sc__law_refused : FnScope N__law_refused ["_law_word"] (defScope s__law_refused) := ⟨rfl, rfl, rfl, by decide +kernel, rfl, by decide +kernel, by decide +kernel⟩
abbrev s__law_cell : Stmt := topS 11
abbrev N__law_cell : List Str := ["_law_script", "_law_k", "_law_number_here"]
theorem sc__law_cell : FnScope N__law_cell ["_law_script", "_law_k"] (defScope s__law_cell) := ⟨rfl, rfl, rfl, by decide +kernel, rfl, by decide +kernel, by decide +kernel⟩
abbrev s__law_mix : Stmt := topS 12
abbrev N__law_mix : List Str := ["_law_cell_here", "_law_k", "_law_number_here"]
theorem sc__law_mix : FnScope N__law_mix ["_law_cell_here", "_law_k"] (defScope s__law_mix) := ⟨rfl, rfl, rfl, by decide +kernel, rfl, by decide +kernel, by decide +kernel⟩
abbrev s__law_no_word : Stmt := topS 19
abbrev N__law_no_word : List Str := ["_law_cell_here", "_law_word", "_law_letter"]
theorem sc__law_no_word : FnScope N__law_no_word ["_law_cell_here"] (defScope s__law_no_word) := ⟨rfl, rfl, rfl, by decide +kernel, rfl, by decide +kernel, by decide +kernel⟩
abbrev s_Loose__look_spot : Stmt := inCls (topS 4) 7
abbrev N_Loose__look_spot : List Str := ["self", "place"]
theorem sc_Loose__look_spot : FnScope N_Loose__look_spot ["self", "place"] (defScope s_Loose__look_spot) := ⟨rfl, rfl, rfl, by decide +kernel, rfl, by decide +kernel, by decide +kernel⟩
abbrev s_Kept__look_spot : Stmt := inCls (topS 5) 3
abbrev N_Kept__look_spot : List Str := ["self", "place"]
theorem sc_Kept__look_spot : FnScope N_Kept__look_spot ["self", "place"] (defScope s_Kept__look_spot) := ⟨rfl, rfl, rfl, by decide +kernel, rfl, by decide +kernel, by decide +kernel⟩
abbrev s_Make__look_spot : Stmt := inCls (topS 6) 4
abbrev N_Make__look_spot : List Str := ["self", "place"]
theorem sc_Make__look_spot : FnScope N_Make__look_spot ["self", "place"] (defScope s_Make__look_spot) := ⟨rfl, rfl, rfl, by decide +kernel, rfl, by decide +kernel, by decide +kernel⟩
abbrev s_Watch__look_spot : Stmt := inCls (topS 6) 4
abbrev N_Watch__look_spot : List Str := ["self", "place"]
theorem sc_Watch__look_spot : FnScope N_Watch__look_spot ["self", "place"] (defScope s_Watch__look_spot) := ⟨rfl, rfl, rfl, by decide +kernel, rfl, by decide +kernel, by decide +kernel⟩
abbrev s_Hold__look_spot : Stmt := inCls (topS 8) 3
abbrev N_Hold__look_spot : List Str := ["self", "place"]
theorem sc_Hold__look_spot : FnScope N_Hold__look_spot ["self", "place"] (defScope s_Hold__look_spot) := ⟨rfl, rfl, rfl, by decide +kernel, rfl, by decide +kernel, by decide +kernel⟩
abbrev s_Loose__spots : Stmt := inCls (topS 4) 6
abbrev N_Loose__spots : List Str := ["self", "looks"]
theorem sc_Loose__spots : FnScope N_Loose__spots ["self", "looks"] (defScope s_Loose__spots) := ⟨rfl, rfl, rfl, by decide +kernel, rfl, by decide +kernel, by decide +kernel⟩
abbrev s_Kept__spots : Stmt := inCls (topS 5) 2
abbrev N_Kept__spots : List Str := ["self", "looks"]
theorem sc_Kept__spots : FnScope N_Kept__spots ["self", "looks"] (defScope s_Kept__spots) := ⟨rfl, rfl, rfl, by decide +kernel, rfl, by decide +kernel, by decide +kernel⟩
abbrev s_Make__spots : Stmt := inCls (topS 6) 3
abbrev N_Make__spots : List Str := ["self", "looks"]
theorem sc_Make__spots : FnScope N_Make__spots ["self", "looks"] (defScope s_Make__spots) := ⟨rfl, rfl, rfl, by decide +kernel, rfl, by decide +kernel, by decide +kernel⟩
abbrev s_Watch__spots : Stmt := inCls (topS 7) 2
abbrev N_Watch__spots : List Str := ["self", "looks"]
theorem sc_Watch__spots : FnScope N_Watch__spots ["self", "looks"] (defScope s_Watch__spots) := ⟨rfl, rfl, rfl, by decide +kernel, rfl, by decide +kernel, by decide +kernel⟩
abbrev s_Hold__spots : Stmt := inCls (topS 8) 2
abbrev N_Hold__spots : List Str := ["self", "looks"]
theorem sc_Hold__spots : FnScope N_Hold__spots ["self", "looks"] (defScope s_Hold__spots) := ⟨rfl, rfl, rfl, by decide +kernel, rfl, by decide +kernel, by decide +kernel⟩
abbrev s_Loose__first_spot : Stmt := inCls (topS 4) 8
abbrev N_Loose__first_spot : List Str := ["self", "looks"]
theorem sc_Loose__first_spot : FnScope N_Loose__first_spot ["self", "looks"] (defScope s_Loose__first_spot) := ⟨rfl, rfl, rfl, by decide +kernel, rfl, by decide +kernel, by decide +kernel⟩
abbrev s_Kept__first_spot : Stmt := inCls (topS 5) 4
abbrev N_Kept__first_spot : List Str := ["self", "looks"]
theorem sc_Kept__first_spot : FnScope N_Kept__first_spot ["self", "looks"] (defScope s_Kept__first_spot) := ⟨rfl, rfl, rfl, by decide +kernel, rfl, by decide +kernel, by decide +kernel⟩
abbrev s_Make__first_spot : Stmt := inCls (topS 6) 5
abbrev N_Make__first_spot : List Str := ["self", "looks"]
theorem sc_Make__first_spot : FnScope N_Make__first_spot ["self", "looks"] (defScope s_Make__first_spot) := ⟨rfl, rfl, rfl, by decide +kernel, rfl, by decide +kernel, by decide +kernel⟩
abbrev s_Watch__first_spot : Stmt := inCls (topS 6) 5
abbrev N_Watch__first_spot : List Str := ["self", "looks"]
theorem sc_Watch__first_spot : FnScope N_Watch__first_spot ["self", "looks"] (defScope s_Watch__first_spot) := ⟨rfl, rfl, rfl, by decide +kernel, rfl, by decide +kernel, by decide +kernel⟩
abbrev s_Hold__first_spot : Stmt := inCls (topS 8) 4
abbrev N_Hold__first_spot : List Str := ["self", "looks"]
theorem sc_Hold__first_spot : FnScope N_Hold__first_spot ["self", "looks"] (defScope s_Hold__first_spot) := ⟨rfl, rfl, rfl, by decide +kernel, rfl, by decide +kernel, by decide +kernel⟩
abbrev s__law_number : Stmt := topS 14
abbrev N__law_number : List Str := ["_law_found", "_law_due"]
theorem sc__law_number : FnScope N__law_number ["_law_found", "_law_due"] (defScope s__law_number) := ⟨rfl, rfl, rfl, by decide +kernel, rfl, by decide +kernel, by decide +kernel⟩
abbrev s__law_spots : Stmt := topS 17
abbrev N__law_spots : List Str := ["_law_level", "_law_word", "_law_looks", "_law_place", "_law_many", "_law_spot", "_law_first"]
theorem sc__law_spots : FnScope N__law_spots ["_law_level", "_law_word", "_law_looks", "_law_place"] (defScope s__law_spots) := ⟨rfl, rfl, rfl, by decide +kernel, rfl, by decide +kernel, by decide +kernel⟩
abbrev s__law_kin : Stmt := topS 15
abbrev N__law_kin : List Str := ["_law_level"]
theorem sc__law_kin : FnScope N__law_kin ["_law_level"] (defScope s__law_kin) := ⟨rfl, rfl, rfl, by decide +kernel, rfl, by decide +kernel, by decide +kernel⟩
abbrev s_Loose__holds_asks : Stmt := inCls (topS 4) 4
abbrev N_Loose__holds_asks : List Str := ["self"]
theorem sc_Loose__holds_asks : FnScope N_Loose__holds_asks ["self"] (defScope s_Loose__holds_asks) := ⟨rfl, rfl, rfl, by decide +kernel, rfl, by decide +kernel, by decide +kernel⟩
abbrev s_Kept__holds_asks : Stmt := inCls (topS 4) 4
abbrev N_Kept__holds_asks : List Str := ["self"]
theorem sc_Kept__holds_asks : FnScope N_Kept__holds_asks ["self"] (defScope s_Kept__holds_asks) := ⟨rfl, rfl, rfl, by decide +kernel, rfl, by decide +kernel, by decide +kernel⟩
abbrev s_Make__holds_asks : Stmt := inCls (topS 4) 4
abbrev N_Make__holds_asks : List Str := ["self"]
theorem sc_Make__holds_asks : FnScope N_Make__holds_asks ["self"] (defScope s_Make__holds_asks) := ⟨rfl, rfl, rfl, by decide +kernel, rfl, by decide +kernel, by decide +kernel⟩
abbrev s_Watch__holds_asks : Stmt := inCls (topS 4) 4
abbrev N_Watch__holds_asks : List Str := ["self"]
theorem sc_Watch__holds_asks : FnScope N_Watch__holds_asks ["self"] (defScope s_Watch__holds_asks) := ⟨rfl, rfl, rfl, by decide +kernel, rfl, by decide +kernel, by decide +kernel⟩
abbrev s_Hold__holds_asks : Stmt := inCls (topS 8) 1
abbrev N_Hold__holds_asks : List Str := ["self"]
theorem sc_Hold__holds_asks : FnScope N_Hold__holds_asks ["self"] (defScope s_Hold__holds_asks) := ⟨rfl, rfl, rfl, by decide +kernel, rfl, by decide +kernel, by decide +kernel⟩
abbrev s_Loose__watches : Stmt := inCls (topS 4) 5
abbrev N_Loose__watches : List Str := ["self"]
theorem sc_Loose__watches : FnScope N_Loose__watches ["self"] (defScope s_Loose__watches) := ⟨rfl, rfl, rfl, by decide +kernel, rfl, by decide +kernel, by decide +kernel⟩
abbrev s_Kept__watches : Stmt := inCls (topS 4) 5
abbrev N_Kept__watches : List Str := ["self"]
theorem sc_Kept__watches : FnScope N_Kept__watches ["self"] (defScope s_Kept__watches) := ⟨rfl, rfl, rfl, by decide +kernel, rfl, by decide +kernel, by decide +kernel⟩
abbrev s_Make__watches : Stmt := inCls (topS 4) 5
abbrev N_Make__watches : List Str := ["self"]
theorem sc_Make__watches : FnScope N_Make__watches ["self"] (defScope s_Make__watches) := ⟨rfl, rfl, rfl, by decide +kernel, rfl, by decide +kernel, by decide +kernel⟩
abbrev s_Watch__watches : Stmt := inCls (topS 7) 1
abbrev N_Watch__watches : List Str := ["self"]
theorem sc_Watch__watches : FnScope N_Watch__watches ["self"] (defScope s_Watch__watches) := ⟨rfl, rfl, rfl, by decide +kernel, rfl, by decide +kernel, by decide +kernel⟩
abbrev s_Hold__watches : Stmt := inCls (topS 4) 5
abbrev N_Hold__watches : List Str := ["self"]
theorem sc_Hold__watches : FnScope N_Hold__watches ["self"] (defScope s_Hold__watches) := ⟨rfl, rfl, rfl, by decide +kernel, rfl, by decide +kernel, by decide +kernel⟩
abbrev s_Loose__late : Stmt := inCls (topS 4) 2
abbrev N_Loose__late : List Str := ["self", "begin", "stamp"]
theorem sc_Loose__late : FnScope N_Loose__late ["self", "begin", "stamp"] (defScope s_Loose__late) := ⟨rfl, rfl, rfl, by decide +kernel, rfl, by decide +kernel, by decide +kernel⟩
abbrev s_Kept__late : Stmt := inCls (topS 4) 2
abbrev N_Kept__late : List Str := ["self", "begin", "stamp"]
theorem sc_Kept__late : FnScope N_Kept__late ["self", "begin", "stamp"] (defScope s_Kept__late) := ⟨rfl, rfl, rfl, by decide +kernel, rfl, by decide +kernel, by decide +kernel⟩
abbrev s_Make__late : Stmt := inCls (topS 6) 2
abbrev N_Make__late : List Str := ["self", "begin", "stamp"]
theorem sc_Make__late : FnScope N_Make__late ["self", "begin", "stamp"] (defScope s_Make__late) := ⟨rfl, rfl, rfl, by decide +kernel, rfl, by decide +kernel, by decide +kernel⟩
abbrev s_Watch__late : Stmt := inCls (topS 6) 2
abbrev N_Watch__late : List Str := ["self", "begin", "stamp"]
theorem sc_Watch__late : FnScope N_Watch__late ["self", "begin", "stamp"] (defScope s_Watch__late) := ⟨rfl, rfl, rfl, by decide +kernel, rfl, by decide +kernel, by decide +kernel⟩
abbrev s_Hold__late : Stmt := inCls (topS 4) 2
abbrev N_Hold__late : List Str := ["self", "begin", "stamp"]
theorem sc_Hold__late : FnScope N_Hold__late ["self", "begin", "stamp"] (defScope s_Hold__late) := ⟨rfl, rfl, rfl, by decide +kernel, rfl, by decide +kernel, by decide +kernel⟩
abbrev s_Loose__unkept : Stmt := inCls (topS 4) 3
abbrev N_Loose__unkept : List Str := ["self"]
theorem sc_Loose__unkept : FnScope N_Loose__unkept ["self"] (defScope s_Loose__unkept) := ⟨rfl, rfl, rfl, by decide +kernel, rfl, by decide +kernel, by decide +kernel⟩
abbrev s_Kept__unkept : Stmt := inCls (topS 5) 1
abbrev N_Kept__unkept : List Str := ["self"]
theorem sc_Kept__unkept : FnScope N_Kept__unkept ["self"] (defScope s_Kept__unkept) := ⟨rfl, rfl, rfl, by decide +kernel, rfl, by decide +kernel, by decide +kernel⟩
abbrev s_Make__unkept : Stmt := inCls (topS 5) 1
abbrev N_Make__unkept : List Str := ["self"]
theorem sc_Make__unkept : FnScope N_Make__unkept ["self"] (defScope s_Make__unkept) := ⟨rfl, rfl, rfl, by decide +kernel, rfl, by decide +kernel, by decide +kernel⟩
abbrev s_Watch__unkept : Stmt := inCls (topS 5) 1
abbrev N_Watch__unkept : List Str := ["self"]
theorem sc_Watch__unkept : FnScope N_Watch__unkept ["self"] (defScope s_Watch__unkept) := ⟨rfl, rfl, rfl, by decide +kernel, rfl, by decide +kernel, by decide +kernel⟩
abbrev s_Hold__unkept : Stmt := inCls (topS 5) 1
abbrev N_Hold__unkept : List Str := ["self"]
theorem sc_Hold__unkept : FnScope N_Hold__unkept ["self"] (defScope s_Hold__unkept) := ⟨rfl, rfl, rfl, by decide +kernel, rfl, by decide +kernel, by decide +kernel⟩
abbrev s__law_truth : Stmt := topS 13
abbrev N__law_truth : List Str := ["_law_found", "_law_due"]
theorem sc__law_truth : FnScope N__law_truth ["_law_found", "_law_due"] (defScope s__law_truth) := ⟨rfl, rfl, rfl, by decide +kernel, rfl, by decide +kernel, by decide +kernel⟩
abbrev s__law_truths : Stmt := topS 16
abbrev N__law_truths : List Str := ["_law_level", "_law_word", "_law_begin", "_law_stamp", "_law_late"]
theorem sc__law_truths : FnScope N__law_truths ["_law_level", "_law_word", "_law_begin", "_law_stamp"] (defScope s__law_truths) := ⟨rfl, rfl, rfl, by decide +kernel, rfl, by decide +kernel, by decide +kernel⟩
abbrev s_Loose__stamps : Stmt := inCls (topS 4) 9
abbrev N_Loose__stamps : List Str := ["self", "begin", "stands", "end", "early"]
theorem sc_Loose__stamps : FnScope N_Loose__stamps ["self", "begin", "stands", "end", "early"] (defScope s_Loose__stamps) := ⟨rfl, rfl, rfl, by decide +kernel, rfl, by decide +kernel, by decide +kernel⟩
abbrev s_Kept__stamps : Stmt := inCls (topS 5) 5
abbrev N_Kept__stamps : List Str := ["self", "begin", "stands", "end", "early"]
theorem sc_Kept__stamps : FnScope N_Kept__stamps ["self", "begin", "stands", "end", "early"] (defScope s_Kept__stamps) := ⟨rfl, rfl, rfl, by decide +kernel, rfl, by decide +kernel, by decide +kernel⟩
abbrev s_Make__stamps : Stmt := inCls (topS 6) 6
abbrev N_Make__stamps : List Str := ["self", "begin", "stands", "end", "early"]
theorem sc_Make__stamps : FnScope N_Make__stamps ["self", "begin", "stands", "end", "early"] (defScope s_Make__stamps) := ⟨rfl, rfl, rfl, by decide +kernel, rfl, by decide +kernel, by decide +kernel⟩
abbrev s_Watch__stamps : Stmt := inCls (topS 7) 3
abbrev N_Watch__stamps : List Str := ["self", "begin", "stands", "end", "early"]
theorem sc_Watch__stamps : FnScope N_Watch__stamps ["self", "begin", "stands", "end", "early"] (defScope s_Watch__stamps) := ⟨rfl, rfl, rfl, by decide +kernel, rfl, by decide +kernel, by decide +kernel⟩
abbrev s_Hold__stamps : Stmt := inCls (topS 8) 5
abbrev N_Hold__stamps : List Str := ["self", "begin", "stands", "end", "early"]
theorem sc_Hold__stamps : FnScope N_Hold__stamps ["self", "begin", "stands", "end", "early"] (defScope s_Hold__stamps) := ⟨rfl, rfl, rfl, by decide +kernel, rfl, by decide +kernel, by decide +kernel⟩
abbrev s__law_stamps : Stmt := topS 18
abbrev N__law_stamps : List Str := ["_law_level", "_law_word", "_law_begin", "_law_stands", "_law_end", "_law_soon", "_law_due", "_law_handed", "_law_found", "_law_one", "_law_other"]
theorem sc__law_stamps : FnScope N__law_stamps ["_law_level", "_law_word", "_law_begin", "_law_stands", "_law_end", "_law_soon"] (defScope s__law_stamps) := ⟨rfl, rfl, rfl, by decide +kernel, rfl, by decide +kernel, by decide +kernel⟩
abbrev s_law : Stmt := topS 21
abbrev N_law : List Str := ["_law_script", "_law_begin", "_law_now", "_law_stamp", "_law_looks", "_law_place", "_law_stands", "_law_rows", "_law_word", "_law_kin_here", "_law_level", "_law_said", "_law_stand", "_law_soon", "_law_k"]
theorem sc_law : FnScope N_law ["_law_script"] (defScope s_law) := ⟨rfl, rfl, rfl, by decide +kernel, rfl, by decide +kernel, by decide +kernel⟩
structure XF (K : PySem.W.Frag) (mg : Str → Option Value) (a_SkewError a_NoLevel a_Loose a_Kept a_Make a_Watch a_Hold : Addr) : Prop where
  g_SkewError : mg "SkewError" = some (.ref a_SkewError)
  g_NoLevel : mg "NoLevel" = some (.ref a_NoLevel)
  x_NoLevel : XCls K mg "NoLevel" a_NoLevel
  e_NoLevel : L2.ExcC K a_NoLevel
  em_NoLevel_SkewError : PySem.W.exmOne K (.ref a_NoLevel) (.ref a_SkewError) = some true
  ki_NoLevel_NoLevel : PySem.W.kitOne K (.ref a_NoLevel) (.ref a_NoLevel) = some true
  kt_NoLevel_ValueError : PySem.W.kitOne K (.ref a_NoLevel) (.type "ValueError") = some true
  g_Loose : mg "Loose" = some (.ref a_Loose)
  R_Loose : Rec K a_Loose []
  M_Loose : Mk00 K a_Loose
  g_Kept : mg "Kept" = some (.ref a_Kept)
  R_Kept : Rec K a_Kept []
  M_Kept : Mk00 K a_Kept
  g_Make : mg "Make" = some (.ref a_Make)
  R_Make : Rec K a_Make []
  M_Make : Mk00 K a_Make
  g_Watch : mg "Watch" = some (.ref a_Watch)
  R_Watch : Rec K a_Watch []
  M_Watch : Mk00 K a_Watch
  g_Hold : mg "Hold" = some (.ref a_Hold)
  R_Hold : Rec K a_Hold []
  M_Hold : Mk00 K a_Hold
  N_Loose : InsX K a_Loose
  ki_Loose_Hold : PySem.W.kitOne K (.ref a_Loose) (.ref a_Hold) = some false
  ki_Loose_Loose : PySem.W.kitOne K (.ref a_Loose) (.ref a_Loose) = some true
  ki_Loose_Kept : PySem.W.kitOne K (.ref a_Loose) (.ref a_Kept) = some false
  ki_Loose_Watch : PySem.W.kitOne K (.ref a_Loose) (.ref a_Watch) = some false
  ki_Loose_Make : PySem.W.kitOne K (.ref a_Loose) (.ref a_Make) = some false
  N_Kept : InsX K a_Kept
  ki_Kept_Hold : PySem.W.kitOne K (.ref a_Kept) (.ref a_Hold) = some false
  ki_Kept_Loose : PySem.W.kitOne K (.ref a_Kept) (.ref a_Loose) = some true
  ki_Kept_Kept : PySem.W.kitOne K (.ref a_Kept) (.ref a_Kept) = some true
  ki_Kept_Watch : PySem.W.kitOne K (.ref a_Kept) (.ref a_Watch) = some false
  ki_Kept_Make : PySem.W.kitOne K (.ref a_Kept) (.ref a_Make) = some false
  N_Make : InsX K a_Make
  ki_Make_Hold : PySem.W.kitOne K (.ref a_Make) (.ref a_Hold) = some false
  ki_Make_Loose : PySem.W.kitOne K (.ref a_Make) (.ref a_Loose) = some true
  ki_Make_Kept : PySem.W.kitOne K (.ref a_Make) (.ref a_Kept) = some true
  ki_Make_Watch : PySem.W.kitOne K (.ref a_Make) (.ref a_Watch) = some false
  ki_Make_Make : PySem.W.kitOne K (.ref a_Make) (.ref a_Make) = some true
  N_Watch : InsX K a_Watch
  ki_Watch_Hold : PySem.W.kitOne K (.ref a_Watch) (.ref a_Hold) = some false
  ki_Watch_Loose : PySem.W.kitOne K (.ref a_Watch) (.ref a_Loose) = some true
  ki_Watch_Kept : PySem.W.kitOne K (.ref a_Watch) (.ref a_Kept) = some true
  ki_Watch_Watch : PySem.W.kitOne K (.ref a_Watch) (.ref a_Watch) = some true
  ki_Watch_Make : PySem.W.kitOne K (.ref a_Watch) (.ref a_Make) = some true
  N_Hold : InsX K a_Hold
  ki_Hold_Hold : PySem.W.kitOne K (.ref a_Hold) (.ref a_Hold) = some true
  ki_Hold_Loose : PySem.W.kitOne K (.ref a_Hold) (.ref a_Loose) = some true
  ki_Hold_Kept : PySem.W.kitOne K (.ref a_Hold) (.ref a_Kept) = some true
  ki_Hold_Watch : PySem.W.kitOne K (.ref a_Hold) (.ref a_Watch) = some false
  ki_Hold_Make : PySem.W.kitOne K (.ref a_Hold) (.ref a_Make) = some false
def oiD : Option Int → SK.D | none => .non | some i => .int i
inductive Lv where | loose | kept | make | watch | hold
deriving DecidableEq
def lvS : Lv → Str | .loose => "Loose" | .kept => "Kept" | .make => "Make" | .watch => "Watch" | .hold => "Hold"
def lvW : Lv → Str | .loose => "loose" | .kept => "kept" | .make => "make" | .watch => "watch" | .hold => "hold"
def lvA (mg : Str → Option Value) (l : Lv) : Addr := match mg (lvS l) with | some (.ref a) => a | _ => 0
def lvD (mg : Str → Option Value) (l : Lv) : SK.D := .ins (lvA mg l) []
theorem lvD_of (l : Lv) {mg : Str → Option Value} {a : Addr} (h : mg (lvS l) = some (.ref a)) : lvD mg l = .ins a [] := by
  unfold lvD lvA; rw [h]
def lvAll : List Lv := [.loose, .kept, .make, .watch, .hold]
def lvOf (s : Str) : Option Lv := if s = "loose" then some .loose else if s = "kept" then some .kept else if s = "make" then some .make else if s = "watch" then some .watch else if s = "hold" then some .hold else none
theorem lvOf_W (l : Lv) : lvOf (lvW l) = some l := by cases l <;> decide
def lvStand (l : Lv) (b n : Int) : Int := match l with | .make => b | .watch => b | _ => n
def lvLate (l : Lv) (b s : Int) : Bool := match l with | .make => decide (s > b) | .watch => decide (s > b) | _ => false
def lvUnkept (l : Lv) : Bool := match l with | .loose => true | _ => false
def lvAsks (l : Lv) : Bool := match l with | .hold => true | _ => false
def lvWatches (l : Lv) : Bool := match l with | .watch => true | _ => false
def lvSpots (l : Lv) (n : Int) : Int := match l with | .kept => n + 1 | .make => 2 | _ => 1
def lvLook (l : Lv) (p : Int) : Option Int := match l with | .loose => none | .kept => some p | _ => some 0
def lvFirst (l : Lv) (n : Int) : Int := match l with | .kept => n | _ => 0
def lvStamps (l : Lv) (b : Int) (xs : List Int) (e : Int) (s : Bool) : List Int := match l with | .kept => xs ++ [e] | .make => [b, e] | .watch => if s then [b] else [e] | _ => [e]
def kinB (l : Lv) : List Bool := match l with | .loose => [true, false, false, false, false] | .kept => [true, true, false, false, false] | .make => [true, true, true, false, false] | .watch => [true, true, true, true, false] | .hold => [true, true, false, false, true]
def rowK (l : Lv) : SK.D := .tup [.str (lvW l), .lst ((kinB l).map SK.D.bl)]
local macro_rules | `(tactic| walk_at "sko") => `(tactic| (repeat' (first | walk_at "sk1" | with_reducible refine gos_seq ?_ | refine ⟨some _, some _, rfl, ?_⟩ | refine ⟨none, none, rfl, ?_⟩ | fail)))
def lvMW : Lv → Bool | .make => true | .watch => true | _ => false
theorem mw_at : ∀ l : Lv, ([SK.D.str (Str.ofString "make"), SK.D.str (Str.ofString "watch")].any fun y => y.eq1 (SK.D.str (lvW l))) = lvMW l := by intro l; cases l <;> decide
theorem mw_y {l : Lv} {b n : Int} (h : lvMW l = true) : lvStand l b n = b := by cases l <;> first | rfl | (exact Bool.noConfusion h)
theorem mw_n {l : Lv} {b n : Int} (h : lvMW l = false) : lvStand l b n = n := by cases l <;> first | rfl | (exact Bool.noConfusion h)
theorem shp_kin (l : Lv) : Shp 1 (SK.D.lst ((kinB l).map SK.D.bl)) := Shp.lstM fun _ => Shp.bl
theorem zipD_same {xs : List SK.D} {n : Nat} {d : SK.D} (h : (zipD xs xs)[n]? = some d) : ∃ x ∈ xs, d = .tup [x, x] := by
  unfold zipD at h
  rw [List.getElem?_map] at h
  cases q : (xs.zip xs)[n]? with
  | none => rw [q] at h; cases h
  | some p =>
    rw [q] at h
    cases h
    rw [List.getElem?_zip_eq_some] at q
    obtain ⟨q1, q2⟩ := q
    rw [q1] at q2
    have q2 := Option.some.inj q2
    exact ⟨p.1, List.mem_of_getElem? q1, by show SK.D.tup [p.1, p.2] = SK.D.tup [p.1, p.1]; rw [← q2]⟩
local macro_rules | `(tactic| walk_at "wki") => `(tactic| (repeat' (first | walk_at "sk1" | with_reducible refine gos_seq ?_ | (with_reducible refine ⟨trivial, ?_⟩) | (with_reducible intro _) | refine ⟨some _, some _, rfl, ?_⟩ | fail)))
local macro_rules | `(tactic| walk_at "ski") => `(tactic| (repeat' (first | walk_at "sk1" | with_reducible refine gos_seq ?_ | (with_reducible intro _) | fail)))
def C_Loose__word (mg : Str → Option Value) (Ci : Addr) : Ct := fun zxs zp zq => ∃ (Cv : Addr) , zxs = [.ins Cv []] ∧ zp = (fun zo => zo = .d (.str (lvW (Lv.loose)))) ∧ zq = noX
theorem call_Loose__word {K : PySem.W.Frag} {mg : Str → Option Value} {F B0 : Hp} {T : List O} {Γ : En} {zpost : O → En → Prop} {zE : XK} {zt : TA} {te : TE} {Ci : Addr} (zh : Go K F B0 te T Γ fun zo Γ0 => ∃ zfs, zo.fz = .ins Ci zfs ∧ zfs.lookup (Str.ofString "word") = none ∧ GoA K F B0 zt (.d (.ins Ci zfs) :: T) Γ0 fun zxs Γ1 => ∃ (Cv : Addr) , .ins Ci zfs :: zxs = [.ins Cv []] ∧ (zpost (.d (.str (lvW (Lv.loose)))) Γ1)) : Go K F B0 (tMeth Ci (Str.ofString "word") (spP K (C_Loose__word mg Ci)) [] zE te zt) T Γ zpost := by
  refine go_methP (dxs := []) (fun _ => .nil) (fun y0 y1 y2 y3 y4 y5 => zh y0 y1 y2 y3 y4 fun y6 y7 y8 y9 ⟨zfs, za1, za2, zh2⟩ => y5 y6 y7 y8 y9 ⟨zfs, za1, za2, fun z0 z1 z2 z3 z4 z5 => zh2 z0 z1 z2 z3 z4 fun z6 z7 z8 z9 ⟨Cv, ze, h1⟩ => z5 z6 z7 z8 z9 ⟨_, ⟨Cv, ((congrArg (List.cons _) (List.append_nil _)).trans ze), rfl, rfl⟩, (fun zo ze => ze ▸ h1)⟩⟩)
def C_Kept__word (mg : Str → Option Value) (Ci : Addr) : Ct := fun zxs zp zq => ∃ (Cv : Addr) , zxs = [.ins Cv []] ∧ zp = (fun zo => zo = .d (.str (lvW (Lv.kept)))) ∧ zq = noX
theorem call_Kept__word {K : PySem.W.Frag} {mg : Str → Option Value} {F B0 : Hp} {T : List O} {Γ : En} {zpost : O → En → Prop} {zE : XK} {zt : TA} {te : TE} {Ci : Addr} (zh : Go K F B0 te T Γ fun zo Γ0 => ∃ zfs, zo.fz = .ins Ci zfs ∧ zfs.lookup (Str.ofString "word") = none ∧ GoA K F B0 zt (.d (.ins Ci zfs) :: T) Γ0 fun zxs Γ1 => ∃ (Cv : Addr) , .ins Ci zfs :: zxs = [.ins Cv []] ∧ (zpost (.d (.str (lvW (Lv.kept)))) Γ1)) : Go K F B0 (tMeth Ci (Str.ofString "word") (spP K (C_Kept__word mg Ci)) [] zE te zt) T Γ zpost := by
  refine go_methP (dxs := []) (fun _ => .nil) (fun y0 y1 y2 y3 y4 y5 => zh y0 y1 y2 y3 y4 fun y6 y7 y8 y9 ⟨zfs, za1, za2, zh2⟩ => y5 y6 y7 y8 y9 ⟨zfs, za1, za2, fun z0 z1 z2 z3 z4 z5 => zh2 z0 z1 z2 z3 z4 fun z6 z7 z8 z9 ⟨Cv, ze, h1⟩ => z5 z6 z7 z8 z9 ⟨_, ⟨Cv, ((congrArg (List.cons _) (List.append_nil _)).trans ze), rfl, rfl⟩, (fun zo ze => ze ▸ h1)⟩⟩)
def C_Make__word (mg : Str → Option Value) (Ci : Addr) : Ct := fun zxs zp zq => ∃ (Cv : Addr) , zxs = [.ins Cv []] ∧ zp = (fun zo => zo = .d (.str (lvW (Lv.make)))) ∧ zq = noX
theorem call_Make__word {K : PySem.W.Frag} {mg : Str → Option Value} {F B0 : Hp} {T : List O} {Γ : En} {zpost : O → En → Prop} {zE : XK} {zt : TA} {te : TE} {Ci : Addr} (zh : Go K F B0 te T Γ fun zo Γ0 => ∃ zfs, zo.fz = .ins Ci zfs ∧ zfs.lookup (Str.ofString "word") = none ∧ GoA K F B0 zt (.d (.ins Ci zfs) :: T) Γ0 fun zxs Γ1 => ∃ (Cv : Addr) , .ins Ci zfs :: zxs = [.ins Cv []] ∧ (zpost (.d (.str (lvW (Lv.make)))) Γ1)) : Go K F B0 (tMeth Ci (Str.ofString "word") (spP K (C_Make__word mg Ci)) [] zE te zt) T Γ zpost := by
  refine go_methP (dxs := []) (fun _ => .nil) (fun y0 y1 y2 y3 y4 y5 => zh y0 y1 y2 y3 y4 fun y6 y7 y8 y9 ⟨zfs, za1, za2, zh2⟩ => y5 y6 y7 y8 y9 ⟨zfs, za1, za2, fun z0 z1 z2 z3 z4 z5 => zh2 z0 z1 z2 z3 z4 fun z6 z7 z8 z9 ⟨Cv, ze, h1⟩ => z5 z6 z7 z8 z9 ⟨_, ⟨Cv, ((congrArg (List.cons _) (List.append_nil _)).trans ze), rfl, rfl⟩, (fun zo ze => ze ▸ h1)⟩⟩)
def C_Watch__word (mg : Str → Option Value) (Ci : Addr) : Ct := fun zxs zp zq => ∃ (Cv : Addr) , zxs = [.ins Cv []] ∧ zp = (fun zo => zo = .d (.str (lvW (Lv.watch)))) ∧ zq = noX
theorem call_Watch__word {K : PySem.W.Frag} {mg : Str → Option Value} {F B0 : Hp} {T : List O} {Γ : En} {zpost : O → En → Prop} {zE : XK} {zt : TA} {te : TE} {Ci : Addr} (zh : Go K F B0 te T Γ fun zo Γ0 => ∃ zfs, zo.fz = .ins Ci zfs ∧ zfs.lookup (Str.ofString "word") = none ∧ GoA K F B0 zt (.d (.ins Ci zfs) :: T) Γ0 fun zxs Γ1 => ∃ (Cv : Addr) , .ins Ci zfs :: zxs = [.ins Cv []] ∧ (zpost (.d (.str (lvW (Lv.watch)))) Γ1)) : Go K F B0 (tMeth Ci (Str.ofString "word") (spP K (C_Watch__word mg Ci)) [] zE te zt) T Γ zpost := by
  refine go_methP (dxs := []) (fun _ => .nil) (fun y0 y1 y2 y3 y4 y5 => zh y0 y1 y2 y3 y4 fun y6 y7 y8 y9 ⟨zfs, za1, za2, zh2⟩ => y5 y6 y7 y8 y9 ⟨zfs, za1, za2, fun z0 z1 z2 z3 z4 z5 => zh2 z0 z1 z2 z3 z4 fun z6 z7 z8 z9 ⟨Cv, ze, h1⟩ => z5 z6 z7 z8 z9 ⟨_, ⟨Cv, ((congrArg (List.cons _) (List.append_nil _)).trans ze), rfl, rfl⟩, (fun zo ze => ze ▸ h1)⟩⟩)
def C_Hold__word (mg : Str → Option Value) (Ci : Addr) : Ct := fun zxs zp zq => ∃ (Cv : Addr) , zxs = [.ins Cv []] ∧ zp = (fun zo => zo = .d (.str (lvW (Lv.hold)))) ∧ zq = noX
theorem call_Hold__word {K : PySem.W.Frag} {mg : Str → Option Value} {F B0 : Hp} {T : List O} {Γ : En} {zpost : O → En → Prop} {zE : XK} {zt : TA} {te : TE} {Ci : Addr} (zh : Go K F B0 te T Γ fun zo Γ0 => ∃ zfs, zo.fz = .ins Ci zfs ∧ zfs.lookup (Str.ofString "word") = none ∧ GoA K F B0 zt (.d (.ins Ci zfs) :: T) Γ0 fun zxs Γ1 => ∃ (Cv : Addr) , .ins Ci zfs :: zxs = [.ins Cv []] ∧ (zpost (.d (.str (lvW (Lv.hold)))) Γ1)) : Go K F B0 (tMeth Ci (Str.ofString "word") (spP K (C_Hold__word mg Ci)) [] zE te zt) T Γ zpost := by
  refine go_methP (dxs := []) (fun _ => .nil) (fun y0 y1 y2 y3 y4 y5 => zh y0 y1 y2 y3 y4 fun y6 y7 y8 y9 ⟨zfs, za1, za2, zh2⟩ => y5 y6 y7 y8 y9 ⟨zfs, za1, za2, fun z0 z1 z2 z3 z4 z5 => zh2 z0 z1 z2 z3 z4 fun z6 z7 z8 z9 ⟨Cv, ze, h1⟩ => z5 z6 z7 z8 z9 ⟨_, ⟨Cv, ((congrArg (List.cons _) (List.append_nil _)).trans ze), rfl, rfl⟩, (fun zo ze => ze ▸ h1)⟩⟩)
def C_Loose__stand (mg : Str → Option Value) (Ci : Addr) : Ct := fun zxs zp zq => ∃ (Cv : Addr) (b n : Int), zxs = [.ins Cv [], .int b, .int n] ∧ zp = (fun zo => zo = .d (.int (lvStand (Lv.loose) b n))) ∧ zq = noX
theorem call_Loose__stand {K : PySem.W.Frag} {mg : Str → Option Value} {F B0 : Hp} {T : List O} {Γ : En} {zpost : O → En → Prop} {zE : XK} {zt : TA} {te : TE} {Ci : Addr} (zh : Go K F B0 te T Γ fun zo Γ0 => ∃ zfs, zo.fz = .ins Ci zfs ∧ zfs.lookup (Str.ofString "stand") = none ∧ GoA K F B0 zt (.d (.ins Ci zfs) :: T) Γ0 fun zxs Γ1 => ∃ (Cv : Addr) (b n : Int), .ins Ci zfs :: zxs = [.ins Cv [], .int b, .int n] ∧ (zpost (.d (.int (lvStand (Lv.loose) b n))) Γ1)) : Go K F B0 (tMeth Ci (Str.ofString "stand") (spP K (C_Loose__stand mg Ci)) [] zE te zt) T Γ zpost := by
  refine go_methP (dxs := []) (fun _ => .nil) (fun y0 y1 y2 y3 y4 y5 => zh y0 y1 y2 y3 y4 fun y6 y7 y8 y9 ⟨zfs, za1, za2, zh2⟩ => y5 y6 y7 y8 y9 ⟨zfs, za1, za2, fun z0 z1 z2 z3 z4 z5 => zh2 z0 z1 z2 z3 z4 fun z6 z7 z8 z9 ⟨Cv, b, n, ze, h1⟩ => z5 z6 z7 z8 z9 ⟨_, ⟨Cv, b, n, ((congrArg (List.cons _) (List.append_nil _)).trans ze), rfl, rfl⟩, (fun zo ze => ze ▸ h1)⟩⟩)
def C_Kept__stand (mg : Str → Option Value) (Ci : Addr) : Ct := fun zxs zp zq => ∃ (Cv : Addr) (b n : Int), zxs = [.ins Cv [], .int b, .int n] ∧ zp = (fun zo => zo = .d (.int (lvStand (Lv.kept) b n))) ∧ zq = noX
theorem call_Kept__stand {K : PySem.W.Frag} {mg : Str → Option Value} {F B0 : Hp} {T : List O} {Γ : En} {zpost : O → En → Prop} {zE : XK} {zt : TA} {te : TE} {Ci : Addr} (zh : Go K F B0 te T Γ fun zo Γ0 => ∃ zfs, zo.fz = .ins Ci zfs ∧ zfs.lookup (Str.ofString "stand") = none ∧ GoA K F B0 zt (.d (.ins Ci zfs) :: T) Γ0 fun zxs Γ1 => ∃ (Cv : Addr) (b n : Int), .ins Ci zfs :: zxs = [.ins Cv [], .int b, .int n] ∧ (zpost (.d (.int (lvStand (Lv.kept) b n))) Γ1)) : Go K F B0 (tMeth Ci (Str.ofString "stand") (spP K (C_Kept__stand mg Ci)) [] zE te zt) T Γ zpost := by
  refine go_methP (dxs := []) (fun _ => .nil) (fun y0 y1 y2 y3 y4 y5 => zh y0 y1 y2 y3 y4 fun y6 y7 y8 y9 ⟨zfs, za1, za2, zh2⟩ => y5 y6 y7 y8 y9 ⟨zfs, za1, za2, fun z0 z1 z2 z3 z4 z5 => zh2 z0 z1 z2 z3 z4 fun z6 z7 z8 z9 ⟨Cv, b, n, ze, h1⟩ => z5 z6 z7 z8 z9 ⟨_, ⟨Cv, b, n, ((congrArg (List.cons _) (List.append_nil _)).trans ze), rfl, rfl⟩, (fun zo ze => ze ▸ h1)⟩⟩)
def C_Make__stand (mg : Str → Option Value) (Ci : Addr) : Ct := fun zxs zp zq => ∃ (Cv : Addr) (b n : Int), zxs = [.ins Cv [], .int b, .int n] ∧ zp = (fun zo => zo = .d (.int (lvStand (Lv.make) b n))) ∧ zq = noX
theorem call_Make__stand {K : PySem.W.Frag} {mg : Str → Option Value} {F B0 : Hp} {T : List O} {Γ : En} {zpost : O → En → Prop} {zE : XK} {zt : TA} {te : TE} {Ci : Addr} (zh : Go K F B0 te T Γ fun zo Γ0 => ∃ zfs, zo.fz = .ins Ci zfs ∧ zfs.lookup (Str.ofString "stand") = none ∧ GoA K F B0 zt (.d (.ins Ci zfs) :: T) Γ0 fun zxs Γ1 => ∃ (Cv : Addr) (b n : Int), .ins Ci zfs :: zxs = [.ins Cv [], .int b, .int n] ∧ (zpost (.d (.int (lvStand (Lv.make) b n))) Γ1)) : Go K F B0 (tMeth Ci (Str.ofString "stand") (spP K (C_Make__stand mg Ci)) [] zE te zt) T Γ zpost := by
  refine go_methP (dxs := []) (fun _ => .nil) (fun y0 y1 y2 y3 y4 y5 => zh y0 y1 y2 y3 y4 fun y6 y7 y8 y9 ⟨zfs, za1, za2, zh2⟩ => y5 y6 y7 y8 y9 ⟨zfs, za1, za2, fun z0 z1 z2 z3 z4 z5 => zh2 z0 z1 z2 z3 z4 fun z6 z7 z8 z9 ⟨Cv, b, n, ze, h1⟩ => z5 z6 z7 z8 z9 ⟨_, ⟨Cv, b, n, ((congrArg (List.cons _) (List.append_nil _)).trans ze), rfl, rfl⟩, (fun zo ze => ze ▸ h1)⟩⟩)
def C_Watch__stand (mg : Str → Option Value) (Ci : Addr) : Ct := fun zxs zp zq => ∃ (Cv : Addr) (b n : Int), zxs = [.ins Cv [], .int b, .int n] ∧ zp = (fun zo => zo = .d (.int (lvStand (Lv.watch) b n))) ∧ zq = noX
theorem call_Watch__stand {K : PySem.W.Frag} {mg : Str → Option Value} {F B0 : Hp} {T : List O} {Γ : En} {zpost : O → En → Prop} {zE : XK} {zt : TA} {te : TE} {Ci : Addr} (zh : Go K F B0 te T Γ fun zo Γ0 => ∃ zfs, zo.fz = .ins Ci zfs ∧ zfs.lookup (Str.ofString "stand") = none ∧ GoA K F B0 zt (.d (.ins Ci zfs) :: T) Γ0 fun zxs Γ1 => ∃ (Cv : Addr) (b n : Int), .ins Ci zfs :: zxs = [.ins Cv [], .int b, .int n] ∧ (zpost (.d (.int (lvStand (Lv.watch) b n))) Γ1)) : Go K F B0 (tMeth Ci (Str.ofString "stand") (spP K (C_Watch__stand mg Ci)) [] zE te zt) T Γ zpost := by
  refine go_methP (dxs := []) (fun _ => .nil) (fun y0 y1 y2 y3 y4 y5 => zh y0 y1 y2 y3 y4 fun y6 y7 y8 y9 ⟨zfs, za1, za2, zh2⟩ => y5 y6 y7 y8 y9 ⟨zfs, za1, za2, fun z0 z1 z2 z3 z4 z5 => zh2 z0 z1 z2 z3 z4 fun z6 z7 z8 z9 ⟨Cv, b, n, ze, h1⟩ => z5 z6 z7 z8 z9 ⟨_, ⟨Cv, b, n, ((congrArg (List.cons _) (List.append_nil _)).trans ze), rfl, rfl⟩, (fun zo ze => ze ▸ h1)⟩⟩)
def C_Hold__stand (mg : Str → Option Value) (Ci : Addr) : Ct := fun zxs zp zq => ∃ (Cv : Addr) (b n : Int), zxs = [.ins Cv [], .int b, .int n] ∧ zp = (fun zo => zo = .d (.int (lvStand (Lv.hold) b n))) ∧ zq = noX
theorem call_Hold__stand {K : PySem.W.Frag} {mg : Str → Option Value} {F B0 : Hp} {T : List O} {Γ : En} {zpost : O → En → Prop} {zE : XK} {zt : TA} {te : TE} {Ci : Addr} (zh : Go K F B0 te T Γ fun zo Γ0 => ∃ zfs, zo.fz = .ins Ci zfs ∧ zfs.lookup (Str.ofString "stand") = none ∧ GoA K F B0 zt (.d (.ins Ci zfs) :: T) Γ0 fun zxs Γ1 => ∃ (Cv : Addr) (b n : Int), .ins Ci zfs :: zxs = [.ins Cv [], .int b, .int n] ∧ (zpost (.d (.int (lvStand (Lv.hold) b n))) Γ1)) : Go K F B0 (tMeth Ci (Str.ofString "stand") (spP K (C_Hold__stand mg Ci)) [] zE te zt) T Γ zpost := by
  refine go_methP (dxs := []) (fun _ => .nil) (fun y0 y1 y2 y3 y4 y5 => zh y0 y1 y2 y3 y4 fun y6 y7 y8 y9 ⟨zfs, za1, za2, zh2⟩ => y5 y6 y7 y8 y9 ⟨zfs, za1, za2, fun z0 z1 z2 z3 z4 z5 => zh2 z0 z1 z2 z3 z4 fun z6 z7 z8 z9 ⟨Cv, b, n, ze, h1⟩ => z5 z6 z7 z8 z9 ⟨_, ⟨Cv, b, n, ((congrArg (List.cons _) (List.append_nil _)).trans ze), rfl, rfl⟩, (fun zo ze => ze ▸ h1)⟩⟩)
def C_level_of (mg : Str → Option Value) : Ct := fun zxs zp zq => ∃ (s : Str), zxs = [.str s] ∧ zp = (fun zo => ∃ (l : Lv), (lvOf s = some l) ∧ zo = .d (lvD mg l)) ∧ zq = (fun Cc fs => fs = none ∧ mg "NoLevel" = some (.ref Cc) ∧ lvOf s = none)
theorem call_level_of {K : PySem.W.Frag} {mg : Str → Option Value} {F B0 : Hp} {T : List O} {Γ : En} {zpost : O → En → Prop} {W : WX} {XX : Addr → Option (List (Str × D)) → En → Prop} {zt : TA} (wx : ∀ Cc fs d σ Γ H, XX Cc fs Γ → HoX K F B0 σ Γ H d fs → W (.ref Cc) d σ H) (zh : GoA K F B0 zt T Γ fun zxs Γ1 => ∃ (s : Str), zxs = [.str s] ∧ (∀ (l : Lv), (lvOf s = some l) → zpost (.d (lvD mg l)) Γ1) ∧ ∀ Cc fs, (fun Cc fs => fs = none ∧ mg "NoLevel" = some (.ref Cc) ∧ lvOf s = none) Cc fs → XX Cc fs Γ1) : Go K F B0 (tCallS (spP K (C_level_of mg)) (WE W) zt) T Γ zpost := by
  refine go_callX wx (fun z0 z1 z2 z3 z4 z5 => zh z0 z1 z2 z3 z4 fun z6 z7 z8 z9 ⟨s, ze, h1, h2⟩ => z5 z6 z7 z8 z9 ⟨_, _, ⟨s, ze, rfl, rfl⟩, (fun zo ⟨l, w0, ze⟩ => ze ▸ h1 l w0), h2⟩)
def C__law_refused (mg : Str → Option Value) : Ct := fun zxs zp zq => ∃ (s : Str), zxs = [.str s] ∧ (lvOf s = none) ∧ zp = (fun zo => zo = .d (.bl true)) ∧ zq = noX
theorem call__law_refused {K : PySem.W.Frag} {mg : Str → Option Value} {F B0 : Hp} {T : List O} {Γ : En} {zpost : O → En → Prop} {zE : XK} {zt : TA} (zh : GoA K F B0 zt T Γ fun zxs Γ1 => ∃ (s : Str), zxs = [.str s] ∧ (lvOf s = none) ∧ (zpost (.d (.bl true)) Γ1)) : Go K F B0 (tCall (spP K (C__law_refused mg)) [] zE zt) T Γ zpost := by
  refine go_call (dxs := []) (fun z0 z1 z2 z3 z4 z5 => zh z0 z1 z2 z3 z4 fun z6 z7 z8 z9 ⟨s, ze, hp0, h1⟩ => z5 z6 z7 z8 z9 ⟨_, ⟨s, (List.append_nil _).trans ze, hp0, rfl, rfl⟩, (fun zo ze => ze ▸ h1)⟩) (fun _ => .nil)
def C__law_cell (mg : Str → Option Value) : Ct := fun zxs zp zq => ∃ (ns : List Int) (k : Int), zxs = [.sq (ns.map D.int), .int k] ∧ (0 ≤ k) ∧ (k ≤ 1000) ∧ (ns.length ≤ 63) ∧ zp = (fun zo => ∃ (x : Int), zo = .d (.int x)) ∧ zq = noX
theorem call__law_cell {K : PySem.W.Frag} {mg : Str → Option Value} {F B0 : Hp} {T : List O} {Γ : En} {zpost : O → En → Prop} {zE : XK} {zt : TA} (zh : GoA K F B0 zt T Γ fun zxs Γ1 => ∃ (ns : List Int) (k : Int), zxs = [.sq (ns.map D.int), .int k] ∧ (0 ≤ k) ∧ (k ≤ 1000) ∧ (ns.length ≤ 63) ∧ (∀ (x : Int), zpost (.d (.int x)) Γ1)) : Go K F B0 (tCall (spP K (C__law_cell mg)) [] zE zt) T Γ zpost := by
  refine go_call (dxs := []) (fun z0 z1 z2 z3 z4 z5 => zh z0 z1 z2 z3 z4 fun z6 z7 z8 z9 ⟨ns, k, ze, hp0, hp1, hp2, h1⟩ => z5 z6 z7 z8 z9 ⟨_, ⟨ns, k, (List.append_nil _).trans ze, hp0, hp1, hp2, rfl, rfl⟩, (fun zo ⟨x, ze⟩ => ze ▸ h1 x)⟩) (fun _ => .nil)
def C__law_mix (mg : Str → Option Value) : Ct := fun zxs zp zq => ∃ (c k : Int), zxs = [.int c, .int k] ∧ (0 ≤ k) ∧ (k ≤ 1000) ∧ zp = (fun zo => ∃ (x : Int), zo = .d (.int x)) ∧ zq = noX
theorem call__law_mix {K : PySem.W.Frag} {mg : Str → Option Value} {F B0 : Hp} {T : List O} {Γ : En} {zpost : O → En → Prop} {zE : XK} {zt : TA} (zh : GoA K F B0 zt T Γ fun zxs Γ1 => ∃ (c k : Int), zxs = [.int c, .int k] ∧ (0 ≤ k) ∧ (k ≤ 1000) ∧ (∀ (x : Int), zpost (.d (.int x)) Γ1)) : Go K F B0 (tCall (spP K (C__law_mix mg)) [] zE zt) T Γ zpost := by
  refine go_call (dxs := []) (fun z0 z1 z2 z3 z4 z5 => zh z0 z1 z2 z3 z4 fun z6 z7 z8 z9 ⟨c, k, ze, hp0, hp1, h1⟩ => z5 z6 z7 z8 z9 ⟨_, ⟨c, k, (List.append_nil _).trans ze, hp0, hp1, rfl, rfl⟩, (fun zo ⟨x, ze⟩ => ze ▸ h1 x)⟩) (fun _ => .nil)
def C__law_no_word (mg : Str → Option Value) : Ct := fun zxs zp zq => ∃ (c : Int), zxs = [.int c] ∧ zp = (fun zo => ∃ (s : Str), (lvOf s = none) ∧ zo = .d (.str s)) ∧ zq = noX
theorem call__law_no_word {K : PySem.W.Frag} {mg : Str → Option Value} {F B0 : Hp} {T : List O} {Γ : En} {zpost : O → En → Prop} {zE : XK} {zt : TA} (zh : GoA K F B0 zt T Γ fun zxs Γ1 => ∃ (c : Int), zxs = [.int c] ∧ (∀ (s : Str), (lvOf s = none) → zpost (.d (.str s)) Γ1)) : Go K F B0 (tCall (spP K (C__law_no_word mg)) [] zE zt) T Γ zpost := by
  refine go_call (dxs := []) (fun z0 z1 z2 z3 z4 z5 => zh z0 z1 z2 z3 z4 fun z6 z7 z8 z9 ⟨c, ze, h1⟩ => z5 z6 z7 z8 z9 ⟨_, ⟨c, (List.append_nil _).trans ze, rfl, rfl⟩, (fun zo ⟨s, w0, ze⟩ => ze ▸ h1 s w0)⟩) (fun _ => .nil)
def C_Loose__look_spot (mg : Str → Option Value) (Ci : Addr) : Ct := fun zxs zp zq => ∃ (Cv : Addr) (p : Int), zxs = [.ins Cv [], .int p] ∧ zp = (fun zo => zo = .d (oiD (lvLook (Lv.loose) p))) ∧ zq = noX
theorem call_Loose__look_spot {K : PySem.W.Frag} {mg : Str → Option Value} {F B0 : Hp} {T : List O} {Γ : En} {zpost : O → En → Prop} {zE : XK} {zt : TA} {te : TE} {Ci : Addr} (zh : Go K F B0 te T Γ fun zo Γ0 => ∃ zfs, zo.fz = .ins Ci zfs ∧ zfs.lookup (Str.ofString "look_spot") = none ∧ GoA K F B0 zt (.d (.ins Ci zfs) :: T) Γ0 fun zxs Γ1 => ∃ (Cv : Addr) (p : Int), .ins Ci zfs :: zxs = [.ins Cv [], .int p] ∧ (zpost (.d (oiD (lvLook (Lv.loose) p))) Γ1)) : Go K F B0 (tMeth Ci (Str.ofString "look_spot") (spP K (C_Loose__look_spot mg Ci)) [] zE te zt) T Γ zpost := by
  refine go_methP (dxs := []) (fun _ => .nil) (fun y0 y1 y2 y3 y4 y5 => zh y0 y1 y2 y3 y4 fun y6 y7 y8 y9 ⟨zfs, za1, za2, zh2⟩ => y5 y6 y7 y8 y9 ⟨zfs, za1, za2, fun z0 z1 z2 z3 z4 z5 => zh2 z0 z1 z2 z3 z4 fun z6 z7 z8 z9 ⟨Cv, p, ze, h1⟩ => z5 z6 z7 z8 z9 ⟨_, ⟨Cv, p, ((congrArg (List.cons _) (List.append_nil _)).trans ze), rfl, rfl⟩, (fun zo ze => ze ▸ h1)⟩⟩)
def C_Kept__look_spot (mg : Str → Option Value) (Ci : Addr) : Ct := fun zxs zp zq => ∃ (Cv : Addr) (p : Int), zxs = [.ins Cv [], .int p] ∧ zp = (fun zo => zo = .d (oiD (lvLook (Lv.kept) p))) ∧ zq = noX
theorem call_Kept__look_spot {K : PySem.W.Frag} {mg : Str → Option Value} {F B0 : Hp} {T : List O} {Γ : En} {zpost : O → En → Prop} {zE : XK} {zt : TA} {te : TE} {Ci : Addr} (zh : Go K F B0 te T Γ fun zo Γ0 => ∃ zfs, zo.fz = .ins Ci zfs ∧ zfs.lookup (Str.ofString "look_spot") = none ∧ GoA K F B0 zt (.d (.ins Ci zfs) :: T) Γ0 fun zxs Γ1 => ∃ (Cv : Addr) (p : Int), .ins Ci zfs :: zxs = [.ins Cv [], .int p] ∧ (zpost (.d (oiD (lvLook (Lv.kept) p))) Γ1)) : Go K F B0 (tMeth Ci (Str.ofString "look_spot") (spP K (C_Kept__look_spot mg Ci)) [] zE te zt) T Γ zpost := by
  refine go_methP (dxs := []) (fun _ => .nil) (fun y0 y1 y2 y3 y4 y5 => zh y0 y1 y2 y3 y4 fun y6 y7 y8 y9 ⟨zfs, za1, za2, zh2⟩ => y5 y6 y7 y8 y9 ⟨zfs, za1, za2, fun z0 z1 z2 z3 z4 z5 => zh2 z0 z1 z2 z3 z4 fun z6 z7 z8 z9 ⟨Cv, p, ze, h1⟩ => z5 z6 z7 z8 z9 ⟨_, ⟨Cv, p, ((congrArg (List.cons _) (List.append_nil _)).trans ze), rfl, rfl⟩, (fun zo ze => ze ▸ h1)⟩⟩)
def C_Make__look_spot (mg : Str → Option Value) (Ci : Addr) : Ct := fun zxs zp zq => ∃ (Cv : Addr) (p : Int), zxs = [.ins Cv [], .int p] ∧ zp = (fun zo => zo = .d (oiD (lvLook (Lv.make) p))) ∧ zq = noX
theorem call_Make__look_spot {K : PySem.W.Frag} {mg : Str → Option Value} {F B0 : Hp} {T : List O} {Γ : En} {zpost : O → En → Prop} {zE : XK} {zt : TA} {te : TE} {Ci : Addr} (zh : Go K F B0 te T Γ fun zo Γ0 => ∃ zfs, zo.fz = .ins Ci zfs ∧ zfs.lookup (Str.ofString "look_spot") = none ∧ GoA K F B0 zt (.d (.ins Ci zfs) :: T) Γ0 fun zxs Γ1 => ∃ (Cv : Addr) (p : Int), .ins Ci zfs :: zxs = [.ins Cv [], .int p] ∧ (zpost (.d (oiD (lvLook (Lv.make) p))) Γ1)) : Go K F B0 (tMeth Ci (Str.ofString "look_spot") (spP K (C_Make__look_spot mg Ci)) [] zE te zt) T Γ zpost := by
  refine go_methP (dxs := []) (fun _ => .nil) (fun y0 y1 y2 y3 y4 y5 => zh y0 y1 y2 y3 y4 fun y6 y7 y8 y9 ⟨zfs, za1, za2, zh2⟩ => y5 y6 y7 y8 y9 ⟨zfs, za1, za2, fun z0 z1 z2 z3 z4 z5 => zh2 z0 z1 z2 z3 z4 fun z6 z7 z8 z9 ⟨Cv, p, ze, h1⟩ => z5 z6 z7 z8 z9 ⟨_, ⟨Cv, p, ((congrArg (List.cons _) (List.append_nil _)).trans ze), rfl, rfl⟩, (fun zo ze => ze ▸ h1)⟩⟩)
def C_Watch__look_spot (mg : Str → Option Value) (Ci : Addr) : Ct := fun zxs zp zq => ∃ (Cv : Addr) (p : Int), zxs = [.ins Cv [], .int p] ∧ zp = (fun zo => zo = .d (oiD (lvLook (Lv.watch) p))) ∧ zq = noX
theorem call_Watch__look_spot {K : PySem.W.Frag} {mg : Str → Option Value} {F B0 : Hp} {T : List O} {Γ : En} {zpost : O → En → Prop} {zE : XK} {zt : TA} {te : TE} {Ci : Addr} (zh : Go K F B0 te T Γ fun zo Γ0 => ∃ zfs, zo.fz = .ins Ci zfs ∧ zfs.lookup (Str.ofString "look_spot") = none ∧ GoA K F B0 zt (.d (.ins Ci zfs) :: T) Γ0 fun zxs Γ1 => ∃ (Cv : Addr) (p : Int), .ins Ci zfs :: zxs = [.ins Cv [], .int p] ∧ (zpost (.d (oiD (lvLook (Lv.watch) p))) Γ1)) : Go K F B0 (tMeth Ci (Str.ofString "look_spot") (spP K (C_Watch__look_spot mg Ci)) [] zE te zt) T Γ zpost := by
  refine go_methP (dxs := []) (fun _ => .nil) (fun y0 y1 y2 y3 y4 y5 => zh y0 y1 y2 y3 y4 fun y6 y7 y8 y9 ⟨zfs, za1, za2, zh2⟩ => y5 y6 y7 y8 y9 ⟨zfs, za1, za2, fun z0 z1 z2 z3 z4 z5 => zh2 z0 z1 z2 z3 z4 fun z6 z7 z8 z9 ⟨Cv, p, ze, h1⟩ => z5 z6 z7 z8 z9 ⟨_, ⟨Cv, p, ((congrArg (List.cons _) (List.append_nil _)).trans ze), rfl, rfl⟩, (fun zo ze => ze ▸ h1)⟩⟩)
def C_Hold__look_spot (mg : Str → Option Value) (Ci : Addr) : Ct := fun zxs zp zq => ∃ (Cv : Addr) (p : Int), zxs = [.ins Cv [], .int p] ∧ zp = (fun zo => zo = .d (oiD (lvLook (Lv.hold) p))) ∧ zq = noX
theorem call_Hold__look_spot {K : PySem.W.Frag} {mg : Str → Option Value} {F B0 : Hp} {T : List O} {Γ : En} {zpost : O → En → Prop} {zE : XK} {zt : TA} {te : TE} {Ci : Addr} (zh : Go K F B0 te T Γ fun zo Γ0 => ∃ zfs, zo.fz = .ins Ci zfs ∧ zfs.lookup (Str.ofString "look_spot") = none ∧ GoA K F B0 zt (.d (.ins Ci zfs) :: T) Γ0 fun zxs Γ1 => ∃ (Cv : Addr) (p : Int), .ins Ci zfs :: zxs = [.ins Cv [], .int p] ∧ (zpost (.d (oiD (lvLook (Lv.hold) p))) Γ1)) : Go K F B0 (tMeth Ci (Str.ofString "look_spot") (spP K (C_Hold__look_spot mg Ci)) [] zE te zt) T Γ zpost := by
  refine go_methP (dxs := []) (fun _ => .nil) (fun y0 y1 y2 y3 y4 y5 => zh y0 y1 y2 y3 y4 fun y6 y7 y8 y9 ⟨zfs, za1, za2, zh2⟩ => y5 y6 y7 y8 y9 ⟨zfs, za1, za2, fun z0 z1 z2 z3 z4 z5 => zh2 z0 z1 z2 z3 z4 fun z6 z7 z8 z9 ⟨Cv, p, ze, h1⟩ => z5 z6 z7 z8 z9 ⟨_, ⟨Cv, p, ((congrArg (List.cons _) (List.append_nil _)).trans ze), rfl, rfl⟩, (fun zo ze => ze ▸ h1)⟩⟩)
def C_Loose__spots (mg : Str → Option Value) (Ci : Addr) : Ct := fun zxs zp zq => ∃ (Cv : Addr) (n : Int), zxs = [.ins Cv [], .int n] ∧ zp = (fun zo => zo = .d (.int (lvSpots (Lv.loose) n))) ∧ zq = noX
theorem call_Loose__spots {K : PySem.W.Frag} {mg : Str → Option Value} {F B0 : Hp} {T : List O} {Γ : En} {zpost : O → En → Prop} {zE : XK} {zt : TA} {te : TE} {Ci : Addr} (zh : Go K F B0 te T Γ fun zo Γ0 => ∃ zfs, zo.fz = .ins Ci zfs ∧ zfs.lookup (Str.ofString "spots") = none ∧ GoA K F B0 zt (.d (.ins Ci zfs) :: T) Γ0 fun zxs Γ1 => ∃ (Cv : Addr) (n : Int), .ins Ci zfs :: zxs = [.ins Cv [], .int n] ∧ (zpost (.d (.int (lvSpots (Lv.loose) n))) Γ1)) : Go K F B0 (tMeth Ci (Str.ofString "spots") (spP K (C_Loose__spots mg Ci)) [] zE te zt) T Γ zpost := by
  refine go_methP (dxs := []) (fun _ => .nil) (fun y0 y1 y2 y3 y4 y5 => zh y0 y1 y2 y3 y4 fun y6 y7 y8 y9 ⟨zfs, za1, za2, zh2⟩ => y5 y6 y7 y8 y9 ⟨zfs, za1, za2, fun z0 z1 z2 z3 z4 z5 => zh2 z0 z1 z2 z3 z4 fun z6 z7 z8 z9 ⟨Cv, n, ze, h1⟩ => z5 z6 z7 z8 z9 ⟨_, ⟨Cv, n, ((congrArg (List.cons _) (List.append_nil _)).trans ze), rfl, rfl⟩, (fun zo ze => ze ▸ h1)⟩⟩)
def C_Kept__spots (mg : Str → Option Value) (Ci : Addr) : Ct := fun zxs zp zq => ∃ (Cv : Addr) (n : Int), zxs = [.ins Cv [], .int n] ∧ zp = (fun zo => zo = .d (.int (lvSpots (Lv.kept) n))) ∧ zq = noX
theorem call_Kept__spots {K : PySem.W.Frag} {mg : Str → Option Value} {F B0 : Hp} {T : List O} {Γ : En} {zpost : O → En → Prop} {zE : XK} {zt : TA} {te : TE} {Ci : Addr} (zh : Go K F B0 te T Γ fun zo Γ0 => ∃ zfs, zo.fz = .ins Ci zfs ∧ zfs.lookup (Str.ofString "spots") = none ∧ GoA K F B0 zt (.d (.ins Ci zfs) :: T) Γ0 fun zxs Γ1 => ∃ (Cv : Addr) (n : Int), .ins Ci zfs :: zxs = [.ins Cv [], .int n] ∧ (zpost (.d (.int (lvSpots (Lv.kept) n))) Γ1)) : Go K F B0 (tMeth Ci (Str.ofString "spots") (spP K (C_Kept__spots mg Ci)) [] zE te zt) T Γ zpost := by
  refine go_methP (dxs := []) (fun _ => .nil) (fun y0 y1 y2 y3 y4 y5 => zh y0 y1 y2 y3 y4 fun y6 y7 y8 y9 ⟨zfs, za1, za2, zh2⟩ => y5 y6 y7 y8 y9 ⟨zfs, za1, za2, fun z0 z1 z2 z3 z4 z5 => zh2 z0 z1 z2 z3 z4 fun z6 z7 z8 z9 ⟨Cv, n, ze, h1⟩ => z5 z6 z7 z8 z9 ⟨_, ⟨Cv, n, ((congrArg (List.cons _) (List.append_nil _)).trans ze), rfl, rfl⟩, (fun zo ze => ze ▸ h1)⟩⟩)
def C_Make__spots (mg : Str → Option Value) (Ci : Addr) : Ct := fun zxs zp zq => ∃ (Cv : Addr) (n : Int), zxs = [.ins Cv [], .int n] ∧ zp = (fun zo => zo = .d (.int (lvSpots (Lv.make) n))) ∧ zq = noX
theorem call_Make__spots {K : PySem.W.Frag} {mg : Str → Option Value} {F B0 : Hp} {T : List O} {Γ : En} {zpost : O → En → Prop} {zE : XK} {zt : TA} {te : TE} {Ci : Addr} (zh : Go K F B0 te T Γ fun zo Γ0 => ∃ zfs, zo.fz = .ins Ci zfs ∧ zfs.lookup (Str.ofString "spots") = none ∧ GoA K F B0 zt (.d (.ins Ci zfs) :: T) Γ0 fun zxs Γ1 => ∃ (Cv : Addr) (n : Int), .ins Ci zfs :: zxs = [.ins Cv [], .int n] ∧ (zpost (.d (.int (lvSpots (Lv.make) n))) Γ1)) : Go K F B0 (tMeth Ci (Str.ofString "spots") (spP K (C_Make__spots mg Ci)) [] zE te zt) T Γ zpost := by
  refine go_methP (dxs := []) (fun _ => .nil) (fun y0 y1 y2 y3 y4 y5 => zh y0 y1 y2 y3 y4 fun y6 y7 y8 y9 ⟨zfs, za1, za2, zh2⟩ => y5 y6 y7 y8 y9 ⟨zfs, za1, za2, fun z0 z1 z2 z3 z4 z5 => zh2 z0 z1 z2 z3 z4 fun z6 z7 z8 z9 ⟨Cv, n, ze, h1⟩ => z5 z6 z7 z8 z9 ⟨_, ⟨Cv, n, ((congrArg (List.cons _) (List.append_nil _)).trans ze), rfl, rfl⟩, (fun zo ze => ze ▸ h1)⟩⟩)
def C_Watch__spots (mg : Str → Option Value) (Ci : Addr) : Ct := fun zxs zp zq => ∃ (Cv : Addr) (n : Int), zxs = [.ins Cv [], .int n] ∧ zp = (fun zo => zo = .d (.int (lvSpots (Lv.watch) n))) ∧ zq = noX
theorem call_Watch__spots {K : PySem.W.Frag} {mg : Str → Option Value} {F B0 : Hp} {T : List O} {Γ : En} {zpost : O → En → Prop} {zE : XK} {zt : TA} {te : TE} {Ci : Addr} (zh : Go K F B0 te T Γ fun zo Γ0 => ∃ zfs, zo.fz = .ins Ci zfs ∧ zfs.lookup (Str.ofString "spots") = none ∧ GoA K F B0 zt (.d (.ins Ci zfs) :: T) Γ0 fun zxs Γ1 => ∃ (Cv : Addr) (n : Int), .ins Ci zfs :: zxs = [.ins Cv [], .int n] ∧ (zpost (.d (.int (lvSpots (Lv.watch) n))) Γ1)) : Go K F B0 (tMeth Ci (Str.ofString "spots") (spP K (C_Watch__spots mg Ci)) [] zE te zt) T Γ zpost := by
  refine go_methP (dxs := []) (fun _ => .nil) (fun y0 y1 y2 y3 y4 y5 => zh y0 y1 y2 y3 y4 fun y6 y7 y8 y9 ⟨zfs, za1, za2, zh2⟩ => y5 y6 y7 y8 y9 ⟨zfs, za1, za2, fun z0 z1 z2 z3 z4 z5 => zh2 z0 z1 z2 z3 z4 fun z6 z7 z8 z9 ⟨Cv, n, ze, h1⟩ => z5 z6 z7 z8 z9 ⟨_, ⟨Cv, n, ((congrArg (List.cons _) (List.append_nil _)).trans ze), rfl, rfl⟩, (fun zo ze => ze ▸ h1)⟩⟩)
def C_Hold__spots (mg : Str → Option Value) (Ci : Addr) : Ct := fun zxs zp zq => ∃ (Cv : Addr) (n : Int), zxs = [.ins Cv [], .int n] ∧ zp = (fun zo => zo = .d (.int (lvSpots (Lv.hold) n))) ∧ zq = noX
theorem call_Hold__spots {K : PySem.W.Frag} {mg : Str → Option Value} {F B0 : Hp} {T : List O} {Γ : En} {zpost : O → En → Prop} {zE : XK} {zt : TA} {te : TE} {Ci : Addr} (zh : Go K F B0 te T Γ fun zo Γ0 => ∃ zfs, zo.fz = .ins Ci zfs ∧ zfs.lookup (Str.ofString "spots") = none ∧ GoA K F B0 zt (.d (.ins Ci zfs) :: T) Γ0 fun zxs Γ1 => ∃ (Cv : Addr) (n : Int), .ins Ci zfs :: zxs = [.ins Cv [], .int n] ∧ (zpost (.d (.int (lvSpots (Lv.hold) n))) Γ1)) : Go K F B0 (tMeth Ci (Str.ofString "spots") (spP K (C_Hold__spots mg Ci)) [] zE te zt) T Γ zpost := by
  refine go_methP (dxs := []) (fun _ => .nil) (fun y0 y1 y2 y3 y4 y5 => zh y0 y1 y2 y3 y4 fun y6 y7 y8 y9 ⟨zfs, za1, za2, zh2⟩ => y5 y6 y7 y8 y9 ⟨zfs, za1, za2, fun z0 z1 z2 z3 z4 z5 => zh2 z0 z1 z2 z3 z4 fun z6 z7 z8 z9 ⟨Cv, n, ze, h1⟩ => z5 z6 z7 z8 z9 ⟨_, ⟨Cv, n, ((congrArg (List.cons _) (List.append_nil _)).trans ze), rfl, rfl⟩, (fun zo ze => ze ▸ h1)⟩⟩)
def C_Loose__first_spot (mg : Str → Option Value) (Ci : Addr) : Ct := fun zxs zp zq => ∃ (Cv : Addr) (n : Int), zxs = [.ins Cv [], .int n] ∧ zp = (fun zo => zo = .d (.int (lvFirst (Lv.loose) n))) ∧ zq = noX
theorem call_Loose__first_spot {K : PySem.W.Frag} {mg : Str → Option Value} {F B0 : Hp} {T : List O} {Γ : En} {zpost : O → En → Prop} {zE : XK} {zt : TA} {te : TE} {Ci : Addr} (zh : Go K F B0 te T Γ fun zo Γ0 => ∃ zfs, zo.fz = .ins Ci zfs ∧ zfs.lookup (Str.ofString "first_spot") = none ∧ GoA K F B0 zt (.d (.ins Ci zfs) :: T) Γ0 fun zxs Γ1 => ∃ (Cv : Addr) (n : Int), .ins Ci zfs :: zxs = [.ins Cv [], .int n] ∧ (zpost (.d (.int (lvFirst (Lv.loose) n))) Γ1)) : Go K F B0 (tMeth Ci (Str.ofString "first_spot") (spP K (C_Loose__first_spot mg Ci)) [] zE te zt) T Γ zpost := by
  refine go_methP (dxs := []) (fun _ => .nil) (fun y0 y1 y2 y3 y4 y5 => zh y0 y1 y2 y3 y4 fun y6 y7 y8 y9 ⟨zfs, za1, za2, zh2⟩ => y5 y6 y7 y8 y9 ⟨zfs, za1, za2, fun z0 z1 z2 z3 z4 z5 => zh2 z0 z1 z2 z3 z4 fun z6 z7 z8 z9 ⟨Cv, n, ze, h1⟩ => z5 z6 z7 z8 z9 ⟨_, ⟨Cv, n, ((congrArg (List.cons _) (List.append_nil _)).trans ze), rfl, rfl⟩, (fun zo ze => ze ▸ h1)⟩⟩)
def C_Kept__first_spot (mg : Str → Option Value) (Ci : Addr) : Ct := fun zxs zp zq => ∃ (Cv : Addr) (n : Int), zxs = [.ins Cv [], .int n] ∧ zp = (fun zo => zo = .d (.int (lvFirst (Lv.kept) n))) ∧ zq = noX
theorem call_Kept__first_spot {K : PySem.W.Frag} {mg : Str → Option Value} {F B0 : Hp} {T : List O} {Γ : En} {zpost : O → En → Prop} {zE : XK} {zt : TA} {te : TE} {Ci : Addr} (zh : Go K F B0 te T Γ fun zo Γ0 => ∃ zfs, zo.fz = .ins Ci zfs ∧ zfs.lookup (Str.ofString "first_spot") = none ∧ GoA K F B0 zt (.d (.ins Ci zfs) :: T) Γ0 fun zxs Γ1 => ∃ (Cv : Addr) (n : Int), .ins Ci zfs :: zxs = [.ins Cv [], .int n] ∧ (zpost (.d (.int (lvFirst (Lv.kept) n))) Γ1)) : Go K F B0 (tMeth Ci (Str.ofString "first_spot") (spP K (C_Kept__first_spot mg Ci)) [] zE te zt) T Γ zpost := by
  refine go_methP (dxs := []) (fun _ => .nil) (fun y0 y1 y2 y3 y4 y5 => zh y0 y1 y2 y3 y4 fun y6 y7 y8 y9 ⟨zfs, za1, za2, zh2⟩ => y5 y6 y7 y8 y9 ⟨zfs, za1, za2, fun z0 z1 z2 z3 z4 z5 => zh2 z0 z1 z2 z3 z4 fun z6 z7 z8 z9 ⟨Cv, n, ze, h1⟩ => z5 z6 z7 z8 z9 ⟨_, ⟨Cv, n, ((congrArg (List.cons _) (List.append_nil _)).trans ze), rfl, rfl⟩, (fun zo ze => ze ▸ h1)⟩⟩)
def C_Make__first_spot (mg : Str → Option Value) (Ci : Addr) : Ct := fun zxs zp zq => ∃ (Cv : Addr) (n : Int), zxs = [.ins Cv [], .int n] ∧ zp = (fun zo => zo = .d (.int (lvFirst (Lv.make) n))) ∧ zq = noX
theorem call_Make__first_spot {K : PySem.W.Frag} {mg : Str → Option Value} {F B0 : Hp} {T : List O} {Γ : En} {zpost : O → En → Prop} {zE : XK} {zt : TA} {te : TE} {Ci : Addr} (zh : Go K F B0 te T Γ fun zo Γ0 => ∃ zfs, zo.fz = .ins Ci zfs ∧ zfs.lookup (Str.ofString "first_spot") = none ∧ GoA K F B0 zt (.d (.ins Ci zfs) :: T) Γ0 fun zxs Γ1 => ∃ (Cv : Addr) (n : Int), .ins Ci zfs :: zxs = [.ins Cv [], .int n] ∧ (zpost (.d (.int (lvFirst (Lv.make) n))) Γ1)) : Go K F B0 (tMeth Ci (Str.ofString "first_spot") (spP K (C_Make__first_spot mg Ci)) [] zE te zt) T Γ zpost := by
  refine go_methP (dxs := []) (fun _ => .nil) (fun y0 y1 y2 y3 y4 y5 => zh y0 y1 y2 y3 y4 fun y6 y7 y8 y9 ⟨zfs, za1, za2, zh2⟩ => y5 y6 y7 y8 y9 ⟨zfs, za1, za2, fun z0 z1 z2 z3 z4 z5 => zh2 z0 z1 z2 z3 z4 fun z6 z7 z8 z9 ⟨Cv, n, ze, h1⟩ => z5 z6 z7 z8 z9 ⟨_, ⟨Cv, n, ((congrArg (List.cons _) (List.append_nil _)).trans ze), rfl, rfl⟩, (fun zo ze => ze ▸ h1)⟩⟩)
def C_Watch__first_spot (mg : Str → Option Value) (Ci : Addr) : Ct := fun zxs zp zq => ∃ (Cv : Addr) (n : Int), zxs = [.ins Cv [], .int n] ∧ zp = (fun zo => zo = .d (.int (lvFirst (Lv.watch) n))) ∧ zq = noX
theorem call_Watch__first_spot {K : PySem.W.Frag} {mg : Str → Option Value} {F B0 : Hp} {T : List O} {Γ : En} {zpost : O → En → Prop} {zE : XK} {zt : TA} {te : TE} {Ci : Addr} (zh : Go K F B0 te T Γ fun zo Γ0 => ∃ zfs, zo.fz = .ins Ci zfs ∧ zfs.lookup (Str.ofString "first_spot") = none ∧ GoA K F B0 zt (.d (.ins Ci zfs) :: T) Γ0 fun zxs Γ1 => ∃ (Cv : Addr) (n : Int), .ins Ci zfs :: zxs = [.ins Cv [], .int n] ∧ (zpost (.d (.int (lvFirst (Lv.watch) n))) Γ1)) : Go K F B0 (tMeth Ci (Str.ofString "first_spot") (spP K (C_Watch__first_spot mg Ci)) [] zE te zt) T Γ zpost := by
  refine go_methP (dxs := []) (fun _ => .nil) (fun y0 y1 y2 y3 y4 y5 => zh y0 y1 y2 y3 y4 fun y6 y7 y8 y9 ⟨zfs, za1, za2, zh2⟩ => y5 y6 y7 y8 y9 ⟨zfs, za1, za2, fun z0 z1 z2 z3 z4 z5 => zh2 z0 z1 z2 z3 z4 fun z6 z7 z8 z9 ⟨Cv, n, ze, h1⟩ => z5 z6 z7 z8 z9 ⟨_, ⟨Cv, n, ((congrArg (List.cons _) (List.append_nil _)).trans ze), rfl, rfl⟩, (fun zo ze => ze ▸ h1)⟩⟩)
def C_Hold__first_spot (mg : Str → Option Value) (Ci : Addr) : Ct := fun zxs zp zq => ∃ (Cv : Addr) (n : Int), zxs = [.ins Cv [], .int n] ∧ zp = (fun zo => zo = .d (.int (lvFirst (Lv.hold) n))) ∧ zq = noX
theorem call_Hold__first_spot {K : PySem.W.Frag} {mg : Str → Option Value} {F B0 : Hp} {T : List O} {Γ : En} {zpost : O → En → Prop} {zE : XK} {zt : TA} {te : TE} {Ci : Addr} (zh : Go K F B0 te T Γ fun zo Γ0 => ∃ zfs, zo.fz = .ins Ci zfs ∧ zfs.lookup (Str.ofString "first_spot") = none ∧ GoA K F B0 zt (.d (.ins Ci zfs) :: T) Γ0 fun zxs Γ1 => ∃ (Cv : Addr) (n : Int), .ins Ci zfs :: zxs = [.ins Cv [], .int n] ∧ (zpost (.d (.int (lvFirst (Lv.hold) n))) Γ1)) : Go K F B0 (tMeth Ci (Str.ofString "first_spot") (spP K (C_Hold__first_spot mg Ci)) [] zE te zt) T Γ zpost := by
  refine go_methP (dxs := []) (fun _ => .nil) (fun y0 y1 y2 y3 y4 y5 => zh y0 y1 y2 y3 y4 fun y6 y7 y8 y9 ⟨zfs, za1, za2, zh2⟩ => y5 y6 y7 y8 y9 ⟨zfs, za1, za2, fun z0 z1 z2 z3 z4 z5 => zh2 z0 z1 z2 z3 z4 fun z6 z7 z8 z9 ⟨Cv, n, ze, h1⟩ => z5 z6 z7 z8 z9 ⟨_, ⟨Cv, n, ((congrArg (List.cons _) (List.append_nil _)).trans ze), rfl, rfl⟩, (fun zo ze => ze ▸ h1)⟩⟩)
def C__law_number (mg : Str → Option Value) : Ct := fun zxs zp zq => ∃ (x y : Option Int), zxs = [oiD x, oiD y] ∧ zp = (fun zo => zo = .d (.bl (decide (x = y)))) ∧ zq = noX
theorem call__law_number {K : PySem.W.Frag} {mg : Str → Option Value} {F B0 : Hp} {T : List O} {Γ : En} {zpost : O → En → Prop} {zE : XK} {zt : TA} (zh : GoA K F B0 zt T Γ fun zxs Γ1 => ∃ (x y : Option Int), zxs = [oiD x, oiD y] ∧ (zpost (.d (.bl (decide (x = y)))) Γ1)) : Go K F B0 (tCall (spP K (C__law_number mg)) [] zE zt) T Γ zpost := by
  refine go_call (dxs := []) (fun z0 z1 z2 z3 z4 z5 => zh z0 z1 z2 z3 z4 fun z6 z7 z8 z9 ⟨x, y, ze, h1⟩ => z5 z6 z7 z8 z9 ⟨_, ⟨x, y, (List.append_nil _).trans ze, rfl, rfl⟩, (fun zo ze => ze ▸ h1)⟩) (fun _ => .nil)
def C__law_spots (mg : Str → Option Value) : Ct := fun zxs zp zq => ∃ (l : Lv) (n p : Int), zxs = [lvD mg l, .str (lvW l), .int n, .int p] ∧ zp = (fun zo => zo = .d (.bl true)) ∧ zq = noX
theorem call__law_spots {K : PySem.W.Frag} {mg : Str → Option Value} {F B0 : Hp} {T : List O} {Γ : En} {zpost : O → En → Prop} {zE : XK} {zt : TA} (zh : GoA K F B0 zt T Γ fun zxs Γ1 => ∃ (l : Lv) (n p : Int), zxs = [lvD mg l, .str (lvW l), .int n, .int p] ∧ (zpost (.d (.bl true)) Γ1)) : Go K F B0 (tCall (spP K (C__law_spots mg)) [] zE zt) T Γ zpost := by
  refine go_call (dxs := []) (fun z0 z1 z2 z3 z4 z5 => zh z0 z1 z2 z3 z4 fun z6 z7 z8 z9 ⟨l, n, p, ze, h1⟩ => z5 z6 z7 z8 z9 ⟨_, ⟨l, n, p, (List.append_nil _).trans ze, rfl, rfl⟩, (fun zo ze => ze ▸ h1)⟩) (fun _ => .nil)
def C__law_kin (mg : Str → Option Value) : Ct := fun zxs zp zq => ∃ (l : Lv), zxs = [lvD mg l] ∧ zp = (fun zo => zo = .ol (((kinB l).map D.bl).map O.d)) ∧ zq = noX
theorem call__law_kin {K : PySem.W.Frag} {mg : Str → Option Value} {F B0 : Hp} {T : List O} {Γ : En} {zpost : O → En → Prop} {zE : XK} {zt : TA} (zh : GoA K F B0 zt T Γ fun zxs Γ1 => ∃ (l : Lv), zxs = [lvD mg l] ∧ (zpost (.ol (((kinB l).map D.bl).map O.d)) Γ1)) : Go K F B0 (tCall (spP K (C__law_kin mg)) [] zE zt) T Γ zpost := by
  refine go_call (dxs := []) (fun z0 z1 z2 z3 z4 z5 => zh z0 z1 z2 z3 z4 fun z6 z7 z8 z9 ⟨l, ze, h1⟩ => z5 z6 z7 z8 z9 ⟨_, ⟨l, (List.append_nil _).trans ze, rfl, rfl⟩, (fun zo ze => ze ▸ h1)⟩) (fun _ => .nil)
def C_Loose__holds_asks (mg : Str → Option Value) (Ci : Addr) : Ct := fun zxs zp zq => ∃ (Cv : Addr) , zxs = [.ins Cv []] ∧ zp = (fun zo => zo = .d (.bl (lvAsks (Lv.loose)))) ∧ zq = noX
theorem call_Loose__holds_asks {K : PySem.W.Frag} {mg : Str → Option Value} {F B0 : Hp} {T : List O} {Γ : En} {zpost : O → En → Prop} {zE : XK} {zt : TA} {te : TE} {Ci : Addr} (zh : Go K F B0 te T Γ fun zo Γ0 => ∃ zfs, zo.fz = .ins Ci zfs ∧ zfs.lookup (Str.ofString "holds_asks") = none ∧ GoA K F B0 zt (.d (.ins Ci zfs) :: T) Γ0 fun zxs Γ1 => ∃ (Cv : Addr) , .ins Ci zfs :: zxs = [.ins Cv []] ∧ (zpost (.d (.bl (lvAsks (Lv.loose)))) Γ1)) : Go K F B0 (tMeth Ci (Str.ofString "holds_asks") (spP K (C_Loose__holds_asks mg Ci)) [] zE te zt) T Γ zpost := by
  refine go_methP (dxs := []) (fun _ => .nil) (fun y0 y1 y2 y3 y4 y5 => zh y0 y1 y2 y3 y4 fun y6 y7 y8 y9 ⟨zfs, za1, za2, zh2⟩ => y5 y6 y7 y8 y9 ⟨zfs, za1, za2, fun z0 z1 z2 z3 z4 z5 => zh2 z0 z1 z2 z3 z4 fun z6 z7 z8 z9 ⟨Cv, ze, h1⟩ => z5 z6 z7 z8 z9 ⟨_, ⟨Cv, ((congrArg (List.cons _) (List.append_nil _)).trans ze), rfl, rfl⟩, (fun zo ze => ze ▸ h1)⟩⟩)
def C_Kept__holds_asks (mg : Str → Option Value) (Ci : Addr) : Ct := fun zxs zp zq => ∃ (Cv : Addr) , zxs = [.ins Cv []] ∧ zp = (fun zo => zo = .d (.bl (lvAsks (Lv.kept)))) ∧ zq = noX
theorem call_Kept__holds_asks {K : PySem.W.Frag} {mg : Str → Option Value} {F B0 : Hp} {T : List O} {Γ : En} {zpost : O → En → Prop} {zE : XK} {zt : TA} {te : TE} {Ci : Addr} (zh : Go K F B0 te T Γ fun zo Γ0 => ∃ zfs, zo.fz = .ins Ci zfs ∧ zfs.lookup (Str.ofString "holds_asks") = none ∧ GoA K F B0 zt (.d (.ins Ci zfs) :: T) Γ0 fun zxs Γ1 => ∃ (Cv : Addr) , .ins Ci zfs :: zxs = [.ins Cv []] ∧ (zpost (.d (.bl (lvAsks (Lv.kept)))) Γ1)) : Go K F B0 (tMeth Ci (Str.ofString "holds_asks") (spP K (C_Kept__holds_asks mg Ci)) [] zE te zt) T Γ zpost := by
  refine go_methP (dxs := []) (fun _ => .nil) (fun y0 y1 y2 y3 y4 y5 => zh y0 y1 y2 y3 y4 fun y6 y7 y8 y9 ⟨zfs, za1, za2, zh2⟩ => y5 y6 y7 y8 y9 ⟨zfs, za1, za2, fun z0 z1 z2 z3 z4 z5 => zh2 z0 z1 z2 z3 z4 fun z6 z7 z8 z9 ⟨Cv, ze, h1⟩ => z5 z6 z7 z8 z9 ⟨_, ⟨Cv, ((congrArg (List.cons _) (List.append_nil _)).trans ze), rfl, rfl⟩, (fun zo ze => ze ▸ h1)⟩⟩)
def C_Make__holds_asks (mg : Str → Option Value) (Ci : Addr) : Ct := fun zxs zp zq => ∃ (Cv : Addr) , zxs = [.ins Cv []] ∧ zp = (fun zo => zo = .d (.bl (lvAsks (Lv.make)))) ∧ zq = noX
theorem call_Make__holds_asks {K : PySem.W.Frag} {mg : Str → Option Value} {F B0 : Hp} {T : List O} {Γ : En} {zpost : O → En → Prop} {zE : XK} {zt : TA} {te : TE} {Ci : Addr} (zh : Go K F B0 te T Γ fun zo Γ0 => ∃ zfs, zo.fz = .ins Ci zfs ∧ zfs.lookup (Str.ofString "holds_asks") = none ∧ GoA K F B0 zt (.d (.ins Ci zfs) :: T) Γ0 fun zxs Γ1 => ∃ (Cv : Addr) , .ins Ci zfs :: zxs = [.ins Cv []] ∧ (zpost (.d (.bl (lvAsks (Lv.make)))) Γ1)) : Go K F B0 (tMeth Ci (Str.ofString "holds_asks") (spP K (C_Make__holds_asks mg Ci)) [] zE te zt) T Γ zpost := by
  refine go_methP (dxs := []) (fun _ => .nil) (fun y0 y1 y2 y3 y4 y5 => zh y0 y1 y2 y3 y4 fun y6 y7 y8 y9 ⟨zfs, za1, za2, zh2⟩ => y5 y6 y7 y8 y9 ⟨zfs, za1, za2, fun z0 z1 z2 z3 z4 z5 => zh2 z0 z1 z2 z3 z4 fun z6 z7 z8 z9 ⟨Cv, ze, h1⟩ => z5 z6 z7 z8 z9 ⟨_, ⟨Cv, ((congrArg (List.cons _) (List.append_nil _)).trans ze), rfl, rfl⟩, (fun zo ze => ze ▸ h1)⟩⟩)
def C_Watch__holds_asks (mg : Str → Option Value) (Ci : Addr) : Ct := fun zxs zp zq => ∃ (Cv : Addr) , zxs = [.ins Cv []] ∧ zp = (fun zo => zo = .d (.bl (lvAsks (Lv.watch)))) ∧ zq = noX
theorem call_Watch__holds_asks {K : PySem.W.Frag} {mg : Str → Option Value} {F B0 : Hp} {T : List O} {Γ : En} {zpost : O → En → Prop} {zE : XK} {zt : TA} {te : TE} {Ci : Addr} (zh : Go K F B0 te T Γ fun zo Γ0 => ∃ zfs, zo.fz = .ins Ci zfs ∧ zfs.lookup (Str.ofString "holds_asks") = none ∧ GoA K F B0 zt (.d (.ins Ci zfs) :: T) Γ0 fun zxs Γ1 => ∃ (Cv : Addr) , .ins Ci zfs :: zxs = [.ins Cv []] ∧ (zpost (.d (.bl (lvAsks (Lv.watch)))) Γ1)) : Go K F B0 (tMeth Ci (Str.ofString "holds_asks") (spP K (C_Watch__holds_asks mg Ci)) [] zE te zt) T Γ zpost := by
  refine go_methP (dxs := []) (fun _ => .nil) (fun y0 y1 y2 y3 y4 y5 => zh y0 y1 y2 y3 y4 fun y6 y7 y8 y9 ⟨zfs, za1, za2, zh2⟩ => y5 y6 y7 y8 y9 ⟨zfs, za1, za2, fun z0 z1 z2 z3 z4 z5 => zh2 z0 z1 z2 z3 z4 fun z6 z7 z8 z9 ⟨Cv, ze, h1⟩ => z5 z6 z7 z8 z9 ⟨_, ⟨Cv, ((congrArg (List.cons _) (List.append_nil _)).trans ze), rfl, rfl⟩, (fun zo ze => ze ▸ h1)⟩⟩)
def C_Hold__holds_asks (mg : Str → Option Value) (Ci : Addr) : Ct := fun zxs zp zq => ∃ (Cv : Addr) , zxs = [.ins Cv []] ∧ zp = (fun zo => zo = .d (.bl (lvAsks (Lv.hold)))) ∧ zq = noX
theorem call_Hold__holds_asks {K : PySem.W.Frag} {mg : Str → Option Value} {F B0 : Hp} {T : List O} {Γ : En} {zpost : O → En → Prop} {zE : XK} {zt : TA} {te : TE} {Ci : Addr} (zh : Go K F B0 te T Γ fun zo Γ0 => ∃ zfs, zo.fz = .ins Ci zfs ∧ zfs.lookup (Str.ofString "holds_asks") = none ∧ GoA K F B0 zt (.d (.ins Ci zfs) :: T) Γ0 fun zxs Γ1 => ∃ (Cv : Addr) , .ins Ci zfs :: zxs = [.ins Cv []] ∧ (zpost (.d (.bl (lvAsks (Lv.hold)))) Γ1)) : Go K F B0 (tMeth Ci (Str.ofString "holds_asks") (spP K (C_Hold__holds_asks mg Ci)) [] zE te zt) T Γ zpost := by
  refine go_methP (dxs := []) (fun _ => .nil) (fun y0 y1 y2 y3 y4 y5 => zh y0 y1 y2 y3 y4 fun y6 y7 y8 y9 ⟨zfs, za1, za2, zh2⟩ => y5 y6 y7 y8 y9 ⟨zfs, za1, za2, fun z0 z1 z2 z3 z4 z5 => zh2 z0 z1 z2 z3 z4 fun z6 z7 z8 z9 ⟨Cv, ze, h1⟩ => z5 z6 z7 z8 z9 ⟨_, ⟨Cv, ((congrArg (List.cons _) (List.append_nil _)).trans ze), rfl, rfl⟩, (fun zo ze => ze ▸ h1)⟩⟩)
def C_Loose__watches (mg : Str → Option Value) (Ci : Addr) : Ct := fun zxs zp zq => ∃ (Cv : Addr) , zxs = [.ins Cv []] ∧ zp = (fun zo => zo = .d (.bl (lvWatches (Lv.loose)))) ∧ zq = noX
theorem call_Loose__watches {K : PySem.W.Frag} {mg : Str → Option Value} {F B0 : Hp} {T : List O} {Γ : En} {zpost : O → En → Prop} {zE : XK} {zt : TA} {te : TE} {Ci : Addr} (zh : Go K F B0 te T Γ fun zo Γ0 => ∃ zfs, zo.fz = .ins Ci zfs ∧ zfs.lookup (Str.ofString "watches") = none ∧ GoA K F B0 zt (.d (.ins Ci zfs) :: T) Γ0 fun zxs Γ1 => ∃ (Cv : Addr) , .ins Ci zfs :: zxs = [.ins Cv []] ∧ (zpost (.d (.bl (lvWatches (Lv.loose)))) Γ1)) : Go K F B0 (tMeth Ci (Str.ofString "watches") (spP K (C_Loose__watches mg Ci)) [] zE te zt) T Γ zpost := by
  refine go_methP (dxs := []) (fun _ => .nil) (fun y0 y1 y2 y3 y4 y5 => zh y0 y1 y2 y3 y4 fun y6 y7 y8 y9 ⟨zfs, za1, za2, zh2⟩ => y5 y6 y7 y8 y9 ⟨zfs, za1, za2, fun z0 z1 z2 z3 z4 z5 => zh2 z0 z1 z2 z3 z4 fun z6 z7 z8 z9 ⟨Cv, ze, h1⟩ => z5 z6 z7 z8 z9 ⟨_, ⟨Cv, ((congrArg (List.cons _) (List.append_nil _)).trans ze), rfl, rfl⟩, (fun zo ze => ze ▸ h1)⟩⟩)
def C_Kept__watches (mg : Str → Option Value) (Ci : Addr) : Ct := fun zxs zp zq => ∃ (Cv : Addr) , zxs = [.ins Cv []] ∧ zp = (fun zo => zo = .d (.bl (lvWatches (Lv.kept)))) ∧ zq = noX
theorem call_Kept__watches {K : PySem.W.Frag} {mg : Str → Option Value} {F B0 : Hp} {T : List O} {Γ : En} {zpost : O → En → Prop} {zE : XK} {zt : TA} {te : TE} {Ci : Addr} (zh : Go K F B0 te T Γ fun zo Γ0 => ∃ zfs, zo.fz = .ins Ci zfs ∧ zfs.lookup (Str.ofString "watches") = none ∧ GoA K F B0 zt (.d (.ins Ci zfs) :: T) Γ0 fun zxs Γ1 => ∃ (Cv : Addr) , .ins Ci zfs :: zxs = [.ins Cv []] ∧ (zpost (.d (.bl (lvWatches (Lv.kept)))) Γ1)) : Go K F B0 (tMeth Ci (Str.ofString "watches") (spP K (C_Kept__watches mg Ci)) [] zE te zt) T Γ zpost := by
  refine go_methP (dxs := []) (fun _ => .nil) (fun y0 y1 y2 y3 y4 y5 => zh y0 y1 y2 y3 y4 fun y6 y7 y8 y9 ⟨zfs, za1, za2, zh2⟩ => y5 y6 y7 y8 y9 ⟨zfs, za1, za2, fun z0 z1 z2 z3 z4 z5 => zh2 z0 z1 z2 z3 z4 fun z6 z7 z8 z9 ⟨Cv, ze, h1⟩ => z5 z6 z7 z8 z9 ⟨_, ⟨Cv, ((congrArg (List.cons _) (List.append_nil _)).trans ze), rfl, rfl⟩, (fun zo ze => ze ▸ h1)⟩⟩)
def C_Make__watches (mg : Str → Option Value) (Ci : Addr) : Ct := fun zxs zp zq => ∃ (Cv : Addr) , zxs = [.ins Cv []] ∧ zp = (fun zo => zo = .d (.bl (lvWatches (Lv.make)))) ∧ zq = noX
theorem call_Make__watches {K : PySem.W.Frag} {mg : Str → Option Value} {F B0 : Hp} {T : List O} {Γ : En} {zpost : O → En → Prop} {zE : XK} {zt : TA} {te : TE} {Ci : Addr} (zh : Go K F B0 te T Γ fun zo Γ0 => ∃ zfs, zo.fz = .ins Ci zfs ∧ zfs.lookup (Str.ofString "watches") = none ∧ GoA K F B0 zt (.d (.ins Ci zfs) :: T) Γ0 fun zxs Γ1 => ∃ (Cv : Addr) , .ins Ci zfs :: zxs = [.ins Cv []] ∧ (zpost (.d (.bl (lvWatches (Lv.make)))) Γ1)) : Go K F B0 (tMeth Ci (Str.ofString "watches") (spP K (C_Make__watches mg Ci)) [] zE te zt) T Γ zpost := by
  refine go_methP (dxs := []) (fun _ => .nil) (fun y0 y1 y2 y3 y4 y5 => zh y0 y1 y2 y3 y4 fun y6 y7 y8 y9 ⟨zfs, za1, za2, zh2⟩ => y5 y6 y7 y8 y9 ⟨zfs, za1, za2, fun z0 z1 z2 z3 z4 z5 => zh2 z0 z1 z2 z3 z4 fun z6 z7 z8 z9 ⟨Cv, ze, h1⟩ => z5 z6 z7 z8 z9 ⟨_, ⟨Cv, ((congrArg (List.cons _) (List.append_nil _)).trans ze), rfl, rfl⟩, (fun zo ze => ze ▸ h1)⟩⟩)
def C_Watch__watches (mg : Str → Option Value) (Ci : Addr) : Ct := fun zxs zp zq => ∃ (Cv : Addr) , zxs = [.ins Cv []] ∧ zp = (fun zo => zo = .d (.bl (lvWatches (Lv.watch)))) ∧ zq = noX
theorem call_Watch__watches {K : PySem.W.Frag} {mg : Str → Option Value} {F B0 : Hp} {T : List O} {Γ : En} {zpost : O → En → Prop} {zE : XK} {zt : TA} {te : TE} {Ci : Addr} (zh : Go K F B0 te T Γ fun zo Γ0 => ∃ zfs, zo.fz = .ins Ci zfs ∧ zfs.lookup (Str.ofString "watches") = none ∧ GoA K F B0 zt (.d (.ins Ci zfs) :: T) Γ0 fun zxs Γ1 => ∃ (Cv : Addr) , .ins Ci zfs :: zxs = [.ins Cv []] ∧ (zpost (.d (.bl (lvWatches (Lv.watch)))) Γ1)) : Go K F B0 (tMeth Ci (Str.ofString "watches") (spP K (C_Watch__watches mg Ci)) [] zE te zt) T Γ zpost := by
  refine go_methP (dxs := []) (fun _ => .nil) (fun y0 y1 y2 y3 y4 y5 => zh y0 y1 y2 y3 y4 fun y6 y7 y8 y9 ⟨zfs, za1, za2, zh2⟩ => y5 y6 y7 y8 y9 ⟨zfs, za1, za2, fun z0 z1 z2 z3 z4 z5 => zh2 z0 z1 z2 z3 z4 fun z6 z7 z8 z9 ⟨Cv, ze, h1⟩ => z5 z6 z7 z8 z9 ⟨_, ⟨Cv, ((congrArg (List.cons _) (List.append_nil _)).trans ze), rfl, rfl⟩, (fun zo ze => ze ▸ h1)⟩⟩)
def C_Hold__watches (mg : Str → Option Value) (Ci : Addr) : Ct := fun zxs zp zq => ∃ (Cv : Addr) , zxs = [.ins Cv []] ∧ zp = (fun zo => zo = .d (.bl (lvWatches (Lv.hold)))) ∧ zq = noX
theorem call_Hold__watches {K : PySem.W.Frag} {mg : Str → Option Value} {F B0 : Hp} {T : List O} {Γ : En} {zpost : O → En → Prop} {zE : XK} {zt : TA} {te : TE} {Ci : Addr} (zh : Go K F B0 te T Γ fun zo Γ0 => ∃ zfs, zo.fz = .ins Ci zfs ∧ zfs.lookup (Str.ofString "watches") = none ∧ GoA K F B0 zt (.d (.ins Ci zfs) :: T) Γ0 fun zxs Γ1 => ∃ (Cv : Addr) , .ins Ci zfs :: zxs = [.ins Cv []] ∧ (zpost (.d (.bl (lvWatches (Lv.hold)))) Γ1)) : Go K F B0 (tMeth Ci (Str.ofString "watches") (spP K (C_Hold__watches mg Ci)) [] zE te zt) T Γ zpost := by
  refine go_methP (dxs := []) (fun _ => .nil) (fun y0 y1 y2 y3 y4 y5 => zh y0 y1 y2 y3 y4 fun y6 y7 y8 y9 ⟨zfs, za1, za2, zh2⟩ => y5 y6 y7 y8 y9 ⟨zfs, za1, za2, fun z0 z1 z2 z3 z4 z5 => zh2 z0 z1 z2 z3 z4 fun z6 z7 z8 z9 ⟨Cv, ze, h1⟩ => z5 z6 z7 z8 z9 ⟨_, ⟨Cv, ((congrArg (List.cons _) (List.append_nil _)).trans ze), rfl, rfl⟩, (fun zo ze => ze ▸ h1)⟩⟩)
def C_Loose__late (mg : Str → Option Value) (Ci : Addr) : Ct := fun zxs zp zq => ∃ (Cv : Addr) (b s : Int), zxs = [.ins Cv [], .int b, .int s] ∧ zp = (fun zo => zo = .d (.bl (lvLate (Lv.loose) b s))) ∧ zq = noX
theorem call_Loose__late {K : PySem.W.Frag} {mg : Str → Option Value} {F B0 : Hp} {T : List O} {Γ : En} {zpost : O → En → Prop} {zE : XK} {zt : TA} {te : TE} {Ci : Addr} (zh : Go K F B0 te T Γ fun zo Γ0 => ∃ zfs, zo.fz = .ins Ci zfs ∧ zfs.lookup (Str.ofString "late") = none ∧ GoA K F B0 zt (.d (.ins Ci zfs) :: T) Γ0 fun zxs Γ1 => ∃ (Cv : Addr) (b s : Int), .ins Ci zfs :: zxs = [.ins Cv [], .int b, .int s] ∧ (zpost (.d (.bl (lvLate (Lv.loose) b s))) Γ1)) : Go K F B0 (tMeth Ci (Str.ofString "late") (spP K (C_Loose__late mg Ci)) [] zE te zt) T Γ zpost := by
  refine go_methP (dxs := []) (fun _ => .nil) (fun y0 y1 y2 y3 y4 y5 => zh y0 y1 y2 y3 y4 fun y6 y7 y8 y9 ⟨zfs, za1, za2, zh2⟩ => y5 y6 y7 y8 y9 ⟨zfs, za1, za2, fun z0 z1 z2 z3 z4 z5 => zh2 z0 z1 z2 z3 z4 fun z6 z7 z8 z9 ⟨Cv, b, s, ze, h1⟩ => z5 z6 z7 z8 z9 ⟨_, ⟨Cv, b, s, ((congrArg (List.cons _) (List.append_nil _)).trans ze), rfl, rfl⟩, (fun zo ze => ze ▸ h1)⟩⟩)
def C_Kept__late (mg : Str → Option Value) (Ci : Addr) : Ct := fun zxs zp zq => ∃ (Cv : Addr) (b s : Int), zxs = [.ins Cv [], .int b, .int s] ∧ zp = (fun zo => zo = .d (.bl (lvLate (Lv.kept) b s))) ∧ zq = noX
theorem call_Kept__late {K : PySem.W.Frag} {mg : Str → Option Value} {F B0 : Hp} {T : List O} {Γ : En} {zpost : O → En → Prop} {zE : XK} {zt : TA} {te : TE} {Ci : Addr} (zh : Go K F B0 te T Γ fun zo Γ0 => ∃ zfs, zo.fz = .ins Ci zfs ∧ zfs.lookup (Str.ofString "late") = none ∧ GoA K F B0 zt (.d (.ins Ci zfs) :: T) Γ0 fun zxs Γ1 => ∃ (Cv : Addr) (b s : Int), .ins Ci zfs :: zxs = [.ins Cv [], .int b, .int s] ∧ (zpost (.d (.bl (lvLate (Lv.kept) b s))) Γ1)) : Go K F B0 (tMeth Ci (Str.ofString "late") (spP K (C_Kept__late mg Ci)) [] zE te zt) T Γ zpost := by
  refine go_methP (dxs := []) (fun _ => .nil) (fun y0 y1 y2 y3 y4 y5 => zh y0 y1 y2 y3 y4 fun y6 y7 y8 y9 ⟨zfs, za1, za2, zh2⟩ => y5 y6 y7 y8 y9 ⟨zfs, za1, za2, fun z0 z1 z2 z3 z4 z5 => zh2 z0 z1 z2 z3 z4 fun z6 z7 z8 z9 ⟨Cv, b, s, ze, h1⟩ => z5 z6 z7 z8 z9 ⟨_, ⟨Cv, b, s, ((congrArg (List.cons _) (List.append_nil _)).trans ze), rfl, rfl⟩, (fun zo ze => ze ▸ h1)⟩⟩)
def C_Make__late (mg : Str → Option Value) (Ci : Addr) : Ct := fun zxs zp zq => ∃ (Cv : Addr) (b s : Int), zxs = [.ins Cv [], .int b, .int s] ∧ zp = (fun zo => zo = .d (.bl (lvLate (Lv.make) b s))) ∧ zq = noX
theorem call_Make__late {K : PySem.W.Frag} {mg : Str → Option Value} {F B0 : Hp} {T : List O} {Γ : En} {zpost : O → En → Prop} {zE : XK} {zt : TA} {te : TE} {Ci : Addr} (zh : Go K F B0 te T Γ fun zo Γ0 => ∃ zfs, zo.fz = .ins Ci zfs ∧ zfs.lookup (Str.ofString "late") = none ∧ GoA K F B0 zt (.d (.ins Ci zfs) :: T) Γ0 fun zxs Γ1 => ∃ (Cv : Addr) (b s : Int), .ins Ci zfs :: zxs = [.ins Cv [], .int b, .int s] ∧ (zpost (.d (.bl (lvLate (Lv.make) b s))) Γ1)) : Go K F B0 (tMeth Ci (Str.ofString "late") (spP K (C_Make__late mg Ci)) [] zE te zt) T Γ zpost := by
  refine go_methP (dxs := []) (fun _ => .nil) (fun y0 y1 y2 y3 y4 y5 => zh y0 y1 y2 y3 y4 fun y6 y7 y8 y9 ⟨zfs, za1, za2, zh2⟩ => y5 y6 y7 y8 y9 ⟨zfs, za1, za2, fun z0 z1 z2 z3 z4 z5 => zh2 z0 z1 z2 z3 z4 fun z6 z7 z8 z9 ⟨Cv, b, s, ze, h1⟩ => z5 z6 z7 z8 z9 ⟨_, ⟨Cv, b, s, ((congrArg (List.cons _) (List.append_nil _)).trans ze), rfl, rfl⟩, (fun zo ze => ze ▸ h1)⟩⟩)
def C_Watch__late (mg : Str → Option Value) (Ci : Addr) : Ct := fun zxs zp zq => ∃ (Cv : Addr) (b s : Int), zxs = [.ins Cv [], .int b, .int s] ∧ zp = (fun zo => zo = .d (.bl (lvLate (Lv.watch) b s))) ∧ zq = noX
theorem call_Watch__late {K : PySem.W.Frag} {mg : Str → Option Value} {F B0 : Hp} {T : List O} {Γ : En} {zpost : O → En → Prop} {zE : XK} {zt : TA} {te : TE} {Ci : Addr} (zh : Go K F B0 te T Γ fun zo Γ0 => ∃ zfs, zo.fz = .ins Ci zfs ∧ zfs.lookup (Str.ofString "late") = none ∧ GoA K F B0 zt (.d (.ins Ci zfs) :: T) Γ0 fun zxs Γ1 => ∃ (Cv : Addr) (b s : Int), .ins Ci zfs :: zxs = [.ins Cv [], .int b, .int s] ∧ (zpost (.d (.bl (lvLate (Lv.watch) b s))) Γ1)) : Go K F B0 (tMeth Ci (Str.ofString "late") (spP K (C_Watch__late mg Ci)) [] zE te zt) T Γ zpost := by
  refine go_methP (dxs := []) (fun _ => .nil) (fun y0 y1 y2 y3 y4 y5 => zh y0 y1 y2 y3 y4 fun y6 y7 y8 y9 ⟨zfs, za1, za2, zh2⟩ => y5 y6 y7 y8 y9 ⟨zfs, za1, za2, fun z0 z1 z2 z3 z4 z5 => zh2 z0 z1 z2 z3 z4 fun z6 z7 z8 z9 ⟨Cv, b, s, ze, h1⟩ => z5 z6 z7 z8 z9 ⟨_, ⟨Cv, b, s, ((congrArg (List.cons _) (List.append_nil _)).trans ze), rfl, rfl⟩, (fun zo ze => ze ▸ h1)⟩⟩)
def C_Hold__late (mg : Str → Option Value) (Ci : Addr) : Ct := fun zxs zp zq => ∃ (Cv : Addr) (b s : Int), zxs = [.ins Cv [], .int b, .int s] ∧ zp = (fun zo => zo = .d (.bl (lvLate (Lv.hold) b s))) ∧ zq = noX
theorem call_Hold__late {K : PySem.W.Frag} {mg : Str → Option Value} {F B0 : Hp} {T : List O} {Γ : En} {zpost : O → En → Prop} {zE : XK} {zt : TA} {te : TE} {Ci : Addr} (zh : Go K F B0 te T Γ fun zo Γ0 => ∃ zfs, zo.fz = .ins Ci zfs ∧ zfs.lookup (Str.ofString "late") = none ∧ GoA K F B0 zt (.d (.ins Ci zfs) :: T) Γ0 fun zxs Γ1 => ∃ (Cv : Addr) (b s : Int), .ins Ci zfs :: zxs = [.ins Cv [], .int b, .int s] ∧ (zpost (.d (.bl (lvLate (Lv.hold) b s))) Γ1)) : Go K F B0 (tMeth Ci (Str.ofString "late") (spP K (C_Hold__late mg Ci)) [] zE te zt) T Γ zpost := by
  refine go_methP (dxs := []) (fun _ => .nil) (fun y0 y1 y2 y3 y4 y5 => zh y0 y1 y2 y3 y4 fun y6 y7 y8 y9 ⟨zfs, za1, za2, zh2⟩ => y5 y6 y7 y8 y9 ⟨zfs, za1, za2, fun z0 z1 z2 z3 z4 z5 => zh2 z0 z1 z2 z3 z4 fun z6 z7 z8 z9 ⟨Cv, b, s, ze, h1⟩ => z5 z6 z7 z8 z9 ⟨_, ⟨Cv, b, s, ((congrArg (List.cons _) (List.append_nil _)).trans ze), rfl, rfl⟩, (fun zo ze => ze ▸ h1)⟩⟩)
def C_Loose__unkept (mg : Str → Option Value) (Ci : Addr) : Ct := fun zxs zp zq => ∃ (Cv : Addr) , zxs = [.ins Cv []] ∧ zp = (fun zo => zo = .d (.bl (lvUnkept (Lv.loose)))) ∧ zq = noX
theorem call_Loose__unkept {K : PySem.W.Frag} {mg : Str → Option Value} {F B0 : Hp} {T : List O} {Γ : En} {zpost : O → En → Prop} {zE : XK} {zt : TA} {te : TE} {Ci : Addr} (zh : Go K F B0 te T Γ fun zo Γ0 => ∃ zfs, zo.fz = .ins Ci zfs ∧ zfs.lookup (Str.ofString "unkept") = none ∧ GoA K F B0 zt (.d (.ins Ci zfs) :: T) Γ0 fun zxs Γ1 => ∃ (Cv : Addr) , .ins Ci zfs :: zxs = [.ins Cv []] ∧ (zpost (.d (.bl (lvUnkept (Lv.loose)))) Γ1)) : Go K F B0 (tMeth Ci (Str.ofString "unkept") (spP K (C_Loose__unkept mg Ci)) [] zE te zt) T Γ zpost := by
  refine go_methP (dxs := []) (fun _ => .nil) (fun y0 y1 y2 y3 y4 y5 => zh y0 y1 y2 y3 y4 fun y6 y7 y8 y9 ⟨zfs, za1, za2, zh2⟩ => y5 y6 y7 y8 y9 ⟨zfs, za1, za2, fun z0 z1 z2 z3 z4 z5 => zh2 z0 z1 z2 z3 z4 fun z6 z7 z8 z9 ⟨Cv, ze, h1⟩ => z5 z6 z7 z8 z9 ⟨_, ⟨Cv, ((congrArg (List.cons _) (List.append_nil _)).trans ze), rfl, rfl⟩, (fun zo ze => ze ▸ h1)⟩⟩)
def C_Kept__unkept (mg : Str → Option Value) (Ci : Addr) : Ct := fun zxs zp zq => ∃ (Cv : Addr) , zxs = [.ins Cv []] ∧ zp = (fun zo => zo = .d (.bl (lvUnkept (Lv.kept)))) ∧ zq = noX
theorem call_Kept__unkept {K : PySem.W.Frag} {mg : Str → Option Value} {F B0 : Hp} {T : List O} {Γ : En} {zpost : O → En → Prop} {zE : XK} {zt : TA} {te : TE} {Ci : Addr} (zh : Go K F B0 te T Γ fun zo Γ0 => ∃ zfs, zo.fz = .ins Ci zfs ∧ zfs.lookup (Str.ofString "unkept") = none ∧ GoA K F B0 zt (.d (.ins Ci zfs) :: T) Γ0 fun zxs Γ1 => ∃ (Cv : Addr) , .ins Ci zfs :: zxs = [.ins Cv []] ∧ (zpost (.d (.bl (lvUnkept (Lv.kept)))) Γ1)) : Go K F B0 (tMeth Ci (Str.ofString "unkept") (spP K (C_Kept__unkept mg Ci)) [] zE te zt) T Γ zpost := by
  refine go_methP (dxs := []) (fun _ => .nil) (fun y0 y1 y2 y3 y4 y5 => zh y0 y1 y2 y3 y4 fun y6 y7 y8 y9 ⟨zfs, za1, za2, zh2⟩ => y5 y6 y7 y8 y9 ⟨zfs, za1, za2, fun z0 z1 z2 z3 z4 z5 => zh2 z0 z1 z2 z3 z4 fun z6 z7 z8 z9 ⟨Cv, ze, h1⟩ => z5 z6 z7 z8 z9 ⟨_, ⟨Cv, ((congrArg (List.cons _) (List.append_nil _)).trans ze), rfl, rfl⟩, (fun zo ze => ze ▸ h1)⟩⟩)
def C_Make__unkept (mg : Str → Option Value) (Ci : Addr) : Ct := fun zxs zp zq => ∃ (Cv : Addr) , zxs = [.ins Cv []] ∧ zp = (fun zo => zo = .d (.bl (lvUnkept (Lv.make)))) ∧ zq = noX
theorem call_Make__unkept {K : PySem.W.Frag} {mg : Str → Option Value} {F B0 : Hp} {T : List O} {Γ : En} {zpost : O → En → Prop} {zE : XK} {zt : TA} {te : TE} {Ci : Addr} (zh : Go K F B0 te T Γ fun zo Γ0 => ∃ zfs, zo.fz = .ins Ci zfs ∧ zfs.lookup (Str.ofString "unkept") = none ∧ GoA K F B0 zt (.d (.ins Ci zfs) :: T) Γ0 fun zxs Γ1 => ∃ (Cv : Addr) , .ins Ci zfs :: zxs = [.ins Cv []] ∧ (zpost (.d (.bl (lvUnkept (Lv.make)))) Γ1)) : Go K F B0 (tMeth Ci (Str.ofString "unkept") (spP K (C_Make__unkept mg Ci)) [] zE te zt) T Γ zpost := by
  refine go_methP (dxs := []) (fun _ => .nil) (fun y0 y1 y2 y3 y4 y5 => zh y0 y1 y2 y3 y4 fun y6 y7 y8 y9 ⟨zfs, za1, za2, zh2⟩ => y5 y6 y7 y8 y9 ⟨zfs, za1, za2, fun z0 z1 z2 z3 z4 z5 => zh2 z0 z1 z2 z3 z4 fun z6 z7 z8 z9 ⟨Cv, ze, h1⟩ => z5 z6 z7 z8 z9 ⟨_, ⟨Cv, ((congrArg (List.cons _) (List.append_nil _)).trans ze), rfl, rfl⟩, (fun zo ze => ze ▸ h1)⟩⟩)
def C_Watch__unkept (mg : Str → Option Value) (Ci : Addr) : Ct := fun zxs zp zq => ∃ (Cv : Addr) , zxs = [.ins Cv []] ∧ zp = (fun zo => zo = .d (.bl (lvUnkept (Lv.watch)))) ∧ zq = noX
theorem call_Watch__unkept {K : PySem.W.Frag} {mg : Str → Option Value} {F B0 : Hp} {T : List O} {Γ : En} {zpost : O → En → Prop} {zE : XK} {zt : TA} {te : TE} {Ci : Addr} (zh : Go K F B0 te T Γ fun zo Γ0 => ∃ zfs, zo.fz = .ins Ci zfs ∧ zfs.lookup (Str.ofString "unkept") = none ∧ GoA K F B0 zt (.d (.ins Ci zfs) :: T) Γ0 fun zxs Γ1 => ∃ (Cv : Addr) , .ins Ci zfs :: zxs = [.ins Cv []] ∧ (zpost (.d (.bl (lvUnkept (Lv.watch)))) Γ1)) : Go K F B0 (tMeth Ci (Str.ofString "unkept") (spP K (C_Watch__unkept mg Ci)) [] zE te zt) T Γ zpost := by
  refine go_methP (dxs := []) (fun _ => .nil) (fun y0 y1 y2 y3 y4 y5 => zh y0 y1 y2 y3 y4 fun y6 y7 y8 y9 ⟨zfs, za1, za2, zh2⟩ => y5 y6 y7 y8 y9 ⟨zfs, za1, za2, fun z0 z1 z2 z3 z4 z5 => zh2 z0 z1 z2 z3 z4 fun z6 z7 z8 z9 ⟨Cv, ze, h1⟩ => z5 z6 z7 z8 z9 ⟨_, ⟨Cv, ((congrArg (List.cons _) (List.append_nil _)).trans ze), rfl, rfl⟩, (fun zo ze => ze ▸ h1)⟩⟩)
def C_Hold__unkept (mg : Str → Option Value) (Ci : Addr) : Ct := fun zxs zp zq => ∃ (Cv : Addr) , zxs = [.ins Cv []] ∧ zp = (fun zo => zo = .d (.bl (lvUnkept (Lv.hold)))) ∧ zq = noX
theorem call_Hold__unkept {K : PySem.W.Frag} {mg : Str → Option Value} {F B0 : Hp} {T : List O} {Γ : En} {zpost : O → En → Prop} {zE : XK} {zt : TA} {te : TE} {Ci : Addr} (zh : Go K F B0 te T Γ fun zo Γ0 => ∃ zfs, zo.fz = .ins Ci zfs ∧ zfs.lookup (Str.ofString "unkept") = none ∧ GoA K F B0 zt (.d (.ins Ci zfs) :: T) Γ0 fun zxs Γ1 => ∃ (Cv : Addr) , .ins Ci zfs :: zxs = [.ins Cv []] ∧ (zpost (.d (.bl (lvUnkept (Lv.hold)))) Γ1)) : Go K F B0 (tMeth Ci (Str.ofString "unkept") (spP K (C_Hold__unkept mg Ci)) [] zE te zt) T Γ zpost := by
  refine go_methP (dxs := []) (fun _ => .nil) (fun y0 y1 y2 y3 y4 y5 => zh y0 y1 y2 y3 y4 fun y6 y7 y8 y9 ⟨zfs, za1, za2, zh2⟩ => y5 y6 y7 y8 y9 ⟨zfs, za1, za2, fun z0 z1 z2 z3 z4 z5 => zh2 z0 z1 z2 z3 z4 fun z6 z7 z8 z9 ⟨Cv, ze, h1⟩ => z5 z6 z7 z8 z9 ⟨_, ⟨Cv, ((congrArg (List.cons _) (List.append_nil _)).trans ze), rfl, rfl⟩, (fun zo ze => ze ▸ h1)⟩⟩)
def C__law_truth (mg : Str → Option Value) : Ct := fun zxs zp zq => ∃ (x y : Bool), zxs = [.bl x, .bl y] ∧ zp = (fun zo => zo = .d (.bl (decide (x = y)))) ∧ zq = noX
theorem call__law_truth {K : PySem.W.Frag} {mg : Str → Option Value} {F B0 : Hp} {T : List O} {Γ : En} {zpost : O → En → Prop} {zE : XK} {zt : TA} (zh : GoA K F B0 zt T Γ fun zxs Γ1 => ∃ (x y : Bool), zxs = [.bl x, .bl y] ∧ (zpost (.d (.bl (decide (x = y)))) Γ1)) : Go K F B0 (tCall (spP K (C__law_truth mg)) [] zE zt) T Γ zpost := by
  refine go_call (dxs := []) (fun z0 z1 z2 z3 z4 z5 => zh z0 z1 z2 z3 z4 fun z6 z7 z8 z9 ⟨x, y, ze, h1⟩ => z5 z6 z7 z8 z9 ⟨_, ⟨x, y, (List.append_nil _).trans ze, rfl, rfl⟩, (fun zo ze => ze ▸ h1)⟩) (fun _ => .nil)
def C__law_truths (mg : Str → Option Value) : Ct := fun zxs zp zq => ∃ (l : Lv) (b s : Int), zxs = [lvD mg l, .str (lvW l), .int b, .int s] ∧ zp = (fun zo => zo = .d (.bl true)) ∧ zq = noX
theorem call__law_truths {K : PySem.W.Frag} {mg : Str → Option Value} {F B0 : Hp} {T : List O} {Γ : En} {zpost : O → En → Prop} {zE : XK} {zt : TA} (zh : GoA K F B0 zt T Γ fun zxs Γ1 => ∃ (l : Lv) (b s : Int), zxs = [lvD mg l, .str (lvW l), .int b, .int s] ∧ (zpost (.d (.bl true)) Γ1)) : Go K F B0 (tCall (spP K (C__law_truths mg)) [] zE zt) T Γ zpost := by
  refine go_call (dxs := []) (fun z0 z1 z2 z3 z4 z5 => zh z0 z1 z2 z3 z4 fun z6 z7 z8 z9 ⟨l, b, s, ze, h1⟩ => z5 z6 z7 z8 z9 ⟨_, ⟨l, b, s, (List.append_nil _).trans ze, rfl, rfl⟩, (fun zo ze => ze ▸ h1)⟩) (fun _ => .nil)
def C_Loose__stamps (mg : Str → Option Value) (Ci : Addr) : Ct := fun zxs zp zq => ∃ (Cv : Addr) (b e : Int) (xs : List Int) (s : Bool), zxs = [.ins Cv [], .int b, .lst (xs.map D.int), .int e, .bl s] ∧ (xs.length ≤ 1000) ∧ zp = (fun zo => zo = .ol (((lvStamps (Lv.loose) b xs e s).map D.int).map O.d)) ∧ zq = noX
theorem call_Loose__stamps {K : PySem.W.Frag} {mg : Str → Option Value} {F B0 : Hp} {T : List O} {Γ : En} {zpost : O → En → Prop} {zE : XK} {zt : TA} {te : TE} {Ci : Addr} (zh : Go K F B0 te T Γ fun zo Γ0 => ∃ zfs, zo.fz = .ins Ci zfs ∧ zfs.lookup (Str.ofString "stamps") = none ∧ GoA K F B0 zt (.d (.ins Ci zfs) :: T) Γ0 fun zxs Γ1 => ∃ (Cv : Addr) (b e : Int) (xs : List Int) (s : Bool), .ins Ci zfs :: zxs = [.ins Cv [], .int b, .lst (xs.map D.int), .int e, .bl s] ∧ (xs.length ≤ 1000) ∧ (zpost (.ol (((lvStamps (Lv.loose) b xs e s).map D.int).map O.d)) Γ1)) : Go K F B0 (tMeth Ci (Str.ofString "stamps") (spP K (C_Loose__stamps mg Ci)) [] zE te zt) T Γ zpost := by
  refine go_methP (dxs := []) (fun _ => .nil) (fun y0 y1 y2 y3 y4 y5 => zh y0 y1 y2 y3 y4 fun y6 y7 y8 y9 ⟨zfs, za1, za2, zh2⟩ => y5 y6 y7 y8 y9 ⟨zfs, za1, za2, fun z0 z1 z2 z3 z4 z5 => zh2 z0 z1 z2 z3 z4 fun z6 z7 z8 z9 ⟨Cv, b, e, xs, s, ze, hp0, h1⟩ => z5 z6 z7 z8 z9 ⟨_, ⟨Cv, b, e, xs, s, ((congrArg (List.cons _) (List.append_nil _)).trans ze), hp0, rfl, rfl⟩, (fun zo ze => ze ▸ h1)⟩⟩)
def C_Kept__stamps (mg : Str → Option Value) (Ci : Addr) : Ct := fun zxs zp zq => ∃ (Cv : Addr) (b e : Int) (xs : List Int) (s : Bool), zxs = [.ins Cv [], .int b, .lst (xs.map D.int), .int e, .bl s] ∧ (xs.length ≤ 1000) ∧ zp = (fun zo => zo = .ol (((lvStamps (Lv.kept) b xs e s).map D.int).map O.d)) ∧ zq = noX
theorem call_Kept__stamps {K : PySem.W.Frag} {mg : Str → Option Value} {F B0 : Hp} {T : List O} {Γ : En} {zpost : O → En → Prop} {zE : XK} {zt : TA} {te : TE} {Ci : Addr} (zh : Go K F B0 te T Γ fun zo Γ0 => ∃ zfs, zo.fz = .ins Ci zfs ∧ zfs.lookup (Str.ofString "stamps") = none ∧ GoA K F B0 zt (.d (.ins Ci zfs) :: T) Γ0 fun zxs Γ1 => ∃ (Cv : Addr) (b e : Int) (xs : List Int) (s : Bool), .ins Ci zfs :: zxs = [.ins Cv [], .int b, .lst (xs.map D.int), .int e, .bl s] ∧ (xs.length ≤ 1000) ∧ (zpost (.ol (((lvStamps (Lv.kept) b xs e s).map D.int).map O.d)) Γ1)) : Go K F B0 (tMeth Ci (Str.ofString "stamps") (spP K (C_Kept__stamps mg Ci)) [] zE te zt) T Γ zpost := by
  refine go_methP (dxs := []) (fun _ => .nil) (fun y0 y1 y2 y3 y4 y5 => zh y0 y1 y2 y3 y4 fun y6 y7 y8 y9 ⟨zfs, za1, za2, zh2⟩ => y5 y6 y7 y8 y9 ⟨zfs, za1, za2, fun z0 z1 z2 z3 z4 z5 => zh2 z0 z1 z2 z3 z4 fun z6 z7 z8 z9 ⟨Cv, b, e, xs, s, ze, hp0, h1⟩ => z5 z6 z7 z8 z9 ⟨_, ⟨Cv, b, e, xs, s, ((congrArg (List.cons _) (List.append_nil _)).trans ze), hp0, rfl, rfl⟩, (fun zo ze => ze ▸ h1)⟩⟩)
def C_Make__stamps (mg : Str → Option Value) (Ci : Addr) : Ct := fun zxs zp zq => ∃ (Cv : Addr) (b e : Int) (xs : List Int) (s : Bool), zxs = [.ins Cv [], .int b, .lst (xs.map D.int), .int e, .bl s] ∧ (xs.length ≤ 1000) ∧ zp = (fun zo => zo = .ol (((lvStamps (Lv.make) b xs e s).map D.int).map O.d)) ∧ zq = noX
theorem call_Make__stamps {K : PySem.W.Frag} {mg : Str → Option Value} {F B0 : Hp} {T : List O} {Γ : En} {zpost : O → En → Prop} {zE : XK} {zt : TA} {te : TE} {Ci : Addr} (zh : Go K F B0 te T Γ fun zo Γ0 => ∃ zfs, zo.fz = .ins Ci zfs ∧ zfs.lookup (Str.ofString "stamps") = none ∧ GoA K F B0 zt (.d (.ins Ci zfs) :: T) Γ0 fun zxs Γ1 => ∃ (Cv : Addr) (b e : Int) (xs : List Int) (s : Bool), .ins Ci zfs :: zxs = [.ins Cv [], .int b, .lst (xs.map D.int), .int e, .bl s] ∧ (xs.length ≤ 1000) ∧ (zpost (.ol (((lvStamps (Lv.make) b xs e s).map D.int).map O.d)) Γ1)) : Go K F B0 (tMeth Ci (Str.ofString "stamps") (spP K (C_Make__stamps mg Ci)) [] zE te zt) T Γ zpost := by
  refine go_methP (dxs := []) (fun _ => .nil) (fun y0 y1 y2 y3 y4 y5 => zh y0 y1 y2 y3 y4 fun y6 y7 y8 y9 ⟨zfs, za1, za2, zh2⟩ => y5 y6 y7 y8 y9 ⟨zfs, za1, za2, fun z0 z1 z2 z3 z4 z5 => zh2 z0 z1 z2 z3 z4 fun z6 z7 z8 z9 ⟨Cv, b, e, xs, s, ze, hp0, h1⟩ => z5 z6 z7 z8 z9 ⟨_, ⟨Cv, b, e, xs, s, ((congrArg (List.cons _) (List.append_nil _)).trans ze), hp0, rfl, rfl⟩, (fun zo ze => ze ▸ h1)⟩⟩)
def C_Watch__stamps (mg : Str → Option Value) (Ci : Addr) : Ct := fun zxs zp zq => ∃ (Cv : Addr) (b e : Int) (xs : List Int) (s : Bool), zxs = [.ins Cv [], .int b, .lst (xs.map D.int), .int e, .bl s] ∧ (xs.length ≤ 1000) ∧ zp = (fun zo => zo = .ol (((lvStamps (Lv.watch) b xs e s).map D.int).map O.d)) ∧ zq = noX
theorem call_Watch__stamps {K : PySem.W.Frag} {mg : Str → Option Value} {F B0 : Hp} {T : List O} {Γ : En} {zpost : O → En → Prop} {zE : XK} {zt : TA} {te : TE} {Ci : Addr} (zh : Go K F B0 te T Γ fun zo Γ0 => ∃ zfs, zo.fz = .ins Ci zfs ∧ zfs.lookup (Str.ofString "stamps") = none ∧ GoA K F B0 zt (.d (.ins Ci zfs) :: T) Γ0 fun zxs Γ1 => ∃ (Cv : Addr) (b e : Int) (xs : List Int) (s : Bool), .ins Ci zfs :: zxs = [.ins Cv [], .int b, .lst (xs.map D.int), .int e, .bl s] ∧ (xs.length ≤ 1000) ∧ (zpost (.ol (((lvStamps (Lv.watch) b xs e s).map D.int).map O.d)) Γ1)) : Go K F B0 (tMeth Ci (Str.ofString "stamps") (spP K (C_Watch__stamps mg Ci)) [] zE te zt) T Γ zpost := by
  refine go_methP (dxs := []) (fun _ => .nil) (fun y0 y1 y2 y3 y4 y5 => zh y0 y1 y2 y3 y4 fun y6 y7 y8 y9 ⟨zfs, za1, za2, zh2⟩ => y5 y6 y7 y8 y9 ⟨zfs, za1, za2, fun z0 z1 z2 z3 z4 z5 => zh2 z0 z1 z2 z3 z4 fun z6 z7 z8 z9 ⟨Cv, b, e, xs, s, ze, hp0, h1⟩ => z5 z6 z7 z8 z9 ⟨_, ⟨Cv, b, e, xs, s, ((congrArg (List.cons _) (List.append_nil _)).trans ze), hp0, rfl, rfl⟩, (fun zo ze => ze ▸ h1)⟩⟩)
def C_Hold__stamps (mg : Str → Option Value) (Ci : Addr) : Ct := fun zxs zp zq => ∃ (Cv : Addr) (b e : Int) (xs : List Int) (s : Bool), zxs = [.ins Cv [], .int b, .lst (xs.map D.int), .int e, .bl s] ∧ (xs.length ≤ 1000) ∧ zp = (fun zo => zo = .ol (((lvStamps (Lv.hold) b xs e s).map D.int).map O.d)) ∧ zq = noX
theorem call_Hold__stamps {K : PySem.W.Frag} {mg : Str → Option Value} {F B0 : Hp} {T : List O} {Γ : En} {zpost : O → En → Prop} {zE : XK} {zt : TA} {te : TE} {Ci : Addr} (zh : Go K F B0 te T Γ fun zo Γ0 => ∃ zfs, zo.fz = .ins Ci zfs ∧ zfs.lookup (Str.ofString "stamps") = none ∧ GoA K F B0 zt (.d (.ins Ci zfs) :: T) Γ0 fun zxs Γ1 => ∃ (Cv : Addr) (b e : Int) (xs : List Int) (s : Bool), .ins Ci zfs :: zxs = [.ins Cv [], .int b, .lst (xs.map D.int), .int e, .bl s] ∧ (xs.length ≤ 1000) ∧ (zpost (.ol (((lvStamps (Lv.hold) b xs e s).map D.int).map O.d)) Γ1)) : Go K F B0 (tMeth Ci (Str.ofString "stamps") (spP K (C_Hold__stamps mg Ci)) [] zE te zt) T Γ zpost := by
  refine go_methP (dxs := []) (fun _ => .nil) (fun y0 y1 y2 y3 y4 y5 => zh y0 y1 y2 y3 y4 fun y6 y7 y8 y9 ⟨zfs, za1, za2, zh2⟩ => y5 y6 y7 y8 y9 ⟨zfs, za1, za2, fun z0 z1 z2 z3 z4 z5 => zh2 z0 z1 z2 z3 z4 fun z6 z7 z8 z9 ⟨Cv, b, e, xs, s, ze, hp0, h1⟩ => z5 z6 z7 z8 z9 ⟨_, ⟨Cv, b, e, xs, s, ((congrArg (List.cons _) (List.append_nil _)).trans ze), hp0, rfl, rfl⟩, (fun zo ze => ze ▸ h1)⟩⟩)
def C__law_stamps (mg : Str → Option Value) : Ct := fun zxs zp zq => ∃ (l : Lv) (b e : Int) (xs : List Int) (s : Bool), zxs = [lvD mg l, .str (lvW l), .int b, .lst (xs.map D.int), .int e, .bl s] ∧ (xs.length ≤ 100) ∧ zp = (fun zo => zo = .d (.bl true)) ∧ zq = noX
theorem call__law_stamps {K : PySem.W.Frag} {mg : Str → Option Value} {F B0 : Hp} {T : List O} {Γ : En} {zpost : O → En → Prop} {zE : XK} {zt : TA} (zh : GoA K F B0 zt T Γ fun zxs Γ1 => ∃ (l : Lv) (b e : Int) (xs : List Int) (s : Bool), zxs = [lvD mg l, .str (lvW l), .int b, .lst (xs.map D.int), .int e, .bl s] ∧ (xs.length ≤ 100) ∧ (zpost (.d (.bl true)) Γ1)) : Go K F B0 (tCall (spP K (C__law_stamps mg)) [] zE zt) T Γ zpost := by
  refine go_call (dxs := []) (fun z0 z1 z2 z3 z4 z5 => zh z0 z1 z2 z3 z4 fun z6 z7 z8 z9 ⟨l, b, e, xs, s, ze, hp0, h1⟩ => z5 z6 z7 z8 z9 ⟨_, ⟨l, b, e, xs, s, (List.append_nil _).trans ze, hp0, rfl, rfl⟩, (fun zo ze => ze ▸ h1)⟩) (fun _ => .nil)
theorem call_dyn_look_spot {K : PySem.W.Frag} {mg : Str → Option Value} {F B0 : Hp} {T : List O} {Γ : En} {zpost : O → En → Prop} {zE : XK} {zt : TA} {te : TE} {a_Loose a_Kept a_Make a_Watch a_Hold : Addr} (zg0 : mg "Loose" = some (.ref a_Loose)) (zg1 : mg "Kept" = some (.ref a_Kept)) (zg2 : mg "Make" = some (.ref a_Make)) (zg3 : mg "Watch" = some (.ref a_Watch)) (zg4 : mg "Hold" = some (.ref a_Hold)) (zh : Go K F B0 te T Γ fun zo Γ0 => ∃ zl, zo.fz = lvD mg zl ∧ GoA K F B0 zt (.d (lvD mg zl) :: T) Γ0 fun zxs Γ1 => ∃ (p : Int), zxs = [.int p] ∧ (zpost (.d (oiD (lvLook zl p))) Γ1)) : Go K F B0 (tMethD K [(a_Loose, C_Loose__look_spot mg a_Loose), (a_Kept, C_Kept__look_spot mg a_Kept), (a_Make, C_Make__look_spot mg a_Make), (a_Watch, C_Watch__look_spot mg a_Watch), (a_Hold, C_Hold__look_spot mg a_Hold)] (Str.ofString "look_spot") zE te zt) T Γ zpost := by
  refine go_methD (fun z0 z1 z2 z3 z4 z5 => zh z0 z1 z2 z3 z4 fun z6 z7 z8 z9 ⟨zl, za, zh2⟩ => z5 z6 z7 z8 z9 ?_)
  cases zl with
  | loose =>
    rw [lvD_of Lv.loose zg0] at za zh2
    exact ⟨a_Loose, C_Loose__look_spot mg a_Loose, [], by simp, za, rfl, fun y0 y1 y2 y3 y4 y5 => zh2 y0 y1 y2 y3 y4 fun y6 y7 y8 y9 ⟨p, ze, h1⟩ => y5 y6 y7 y8 y9 ⟨_, ⟨a_Loose, p, congrArg (List.cons _) ze, rfl, rfl⟩, (fun zo ze => ze ▸ h1)⟩⟩
  | kept =>
    rw [lvD_of Lv.kept zg1] at za zh2
    exact ⟨a_Kept, C_Kept__look_spot mg a_Kept, [], by simp, za, rfl, fun y0 y1 y2 y3 y4 y5 => zh2 y0 y1 y2 y3 y4 fun y6 y7 y8 y9 ⟨p, ze, h1⟩ => y5 y6 y7 y8 y9 ⟨_, ⟨a_Kept, p, congrArg (List.cons _) ze, rfl, rfl⟩, (fun zo ze => ze ▸ h1)⟩⟩
  | make =>
    rw [lvD_of Lv.make zg2] at za zh2
    exact ⟨a_Make, C_Make__look_spot mg a_Make, [], by simp, za, rfl, fun y0 y1 y2 y3 y4 y5 => zh2 y0 y1 y2 y3 y4 fun y6 y7 y8 y9 ⟨p, ze, h1⟩ => y5 y6 y7 y8 y9 ⟨_, ⟨a_Make, p, congrArg (List.cons _) ze, rfl, rfl⟩, (fun zo ze => ze ▸ h1)⟩⟩
  | watch =>
    rw [lvD_of Lv.watch zg3] at za zh2
    exact ⟨a_Watch, C_Watch__look_spot mg a_Watch, [], by simp, za, rfl, fun y0 y1 y2 y3 y4 y5 => zh2 y0 y1 y2 y3 y4 fun y6 y7 y8 y9 ⟨p, ze, h1⟩ => y5 y6 y7 y8 y9 ⟨_, ⟨a_Watch, p, congrArg (List.cons _) ze, rfl, rfl⟩, (fun zo ze => ze ▸ h1)⟩⟩
  | hold =>
    rw [lvD_of Lv.hold zg4] at za zh2
    exact ⟨a_Hold, C_Hold__look_spot mg a_Hold, [], by simp, za, rfl, fun y0 y1 y2 y3 y4 y5 => zh2 y0 y1 y2 y3 y4 fun y6 y7 y8 y9 ⟨p, ze, h1⟩ => y5 y6 y7 y8 y9 ⟨_, ⟨a_Hold, p, congrArg (List.cons _) ze, rfl, rfl⟩, (fun zo ze => ze ▸ h1)⟩⟩
theorem call_dyn_spots {K : PySem.W.Frag} {mg : Str → Option Value} {F B0 : Hp} {T : List O} {Γ : En} {zpost : O → En → Prop} {zE : XK} {zt : TA} {te : TE} {a_Loose a_Kept a_Make a_Watch a_Hold : Addr} (zg0 : mg "Loose" = some (.ref a_Loose)) (zg1 : mg "Kept" = some (.ref a_Kept)) (zg2 : mg "Make" = some (.ref a_Make)) (zg3 : mg "Watch" = some (.ref a_Watch)) (zg4 : mg "Hold" = some (.ref a_Hold)) (zh : Go K F B0 te T Γ fun zo Γ0 => ∃ zl, zo.fz = lvD mg zl ∧ GoA K F B0 zt (.d (lvD mg zl) :: T) Γ0 fun zxs Γ1 => ∃ (n : Int), zxs = [.int n] ∧ (zpost (.d (.int (lvSpots zl n))) Γ1)) : Go K F B0 (tMethD K [(a_Loose, C_Loose__spots mg a_Loose), (a_Kept, C_Kept__spots mg a_Kept), (a_Make, C_Make__spots mg a_Make), (a_Watch, C_Watch__spots mg a_Watch), (a_Hold, C_Hold__spots mg a_Hold)] (Str.ofString "spots") zE te zt) T Γ zpost := by
  refine go_methD (fun z0 z1 z2 z3 z4 z5 => zh z0 z1 z2 z3 z4 fun z6 z7 z8 z9 ⟨zl, za, zh2⟩ => z5 z6 z7 z8 z9 ?_)
  cases zl with
  | loose =>
    rw [lvD_of Lv.loose zg0] at za zh2
    exact ⟨a_Loose, C_Loose__spots mg a_Loose, [], by simp, za, rfl, fun y0 y1 y2 y3 y4 y5 => zh2 y0 y1 y2 y3 y4 fun y6 y7 y8 y9 ⟨n, ze, h1⟩ => y5 y6 y7 y8 y9 ⟨_, ⟨a_Loose, n, congrArg (List.cons _) ze, rfl, rfl⟩, (fun zo ze => ze ▸ h1)⟩⟩
  | kept =>
    rw [lvD_of Lv.kept zg1] at za zh2
    exact ⟨a_Kept, C_Kept__spots mg a_Kept, [], by simp, za, rfl, fun y0 y1 y2 y3 y4 y5 => zh2 y0 y1 y2 y3 y4 fun y6 y7 y8 y9 ⟨n, ze, h1⟩ => y5 y6 y7 y8 y9 ⟨_, ⟨a_Kept, n, congrArg (List.cons _) ze, rfl, rfl⟩, (fun zo ze => ze ▸ h1)⟩⟩
  | make =>
    rw [lvD_of Lv.make zg2] at za zh2
    exact ⟨a_Make, C_Make__spots mg a_Make, [], by simp, za, rfl, fun y0 y1 y2 y3 y4 y5 => zh2 y0 y1 y2 y3 y4 fun y6 y7 y8 y9 ⟨n, ze, h1⟩ => y5 y6 y7 y8 y9 ⟨_, ⟨a_Make, n, congrArg (List.cons _) ze, rfl, rfl⟩, (fun zo ze => ze ▸ h1)⟩⟩
  | watch =>
    rw [lvD_of Lv.watch zg3] at za zh2
    exact ⟨a_Watch, C_Watch__spots mg a_Watch, [], by simp, za, rfl, fun y0 y1 y2 y3 y4 y5 => zh2 y0 y1 y2 y3 y4 fun y6 y7 y8 y9 ⟨n, ze, h1⟩ => y5 y6 y7 y8 y9 ⟨_, ⟨a_Watch, n, congrArg (List.cons _) ze, rfl, rfl⟩, (fun zo ze => ze ▸ h1)⟩⟩
  | hold =>
    rw [lvD_of Lv.hold zg4] at za zh2
    exact ⟨a_Hold, C_Hold__spots mg a_Hold, [], by simp, za, rfl, fun y0 y1 y2 y3 y4 y5 => zh2 y0 y1 y2 y3 y4 fun y6 y7 y8 y9 ⟨n, ze, h1⟩ => y5 y6 y7 y8 y9 ⟨_, ⟨a_Hold, n, congrArg (List.cons _) ze, rfl, rfl⟩, (fun zo ze => ze ▸ h1)⟩⟩
theorem call_dyn_first_spot {K : PySem.W.Frag} {mg : Str → Option Value} {F B0 : Hp} {T : List O} {Γ : En} {zpost : O → En → Prop} {zE : XK} {zt : TA} {te : TE} {a_Loose a_Kept a_Make a_Watch a_Hold : Addr} (zg0 : mg "Loose" = some (.ref a_Loose)) (zg1 : mg "Kept" = some (.ref a_Kept)) (zg2 : mg "Make" = some (.ref a_Make)) (zg3 : mg "Watch" = some (.ref a_Watch)) (zg4 : mg "Hold" = some (.ref a_Hold)) (zh : Go K F B0 te T Γ fun zo Γ0 => ∃ zl, zo.fz = lvD mg zl ∧ GoA K F B0 zt (.d (lvD mg zl) :: T) Γ0 fun zxs Γ1 => ∃ (n : Int), zxs = [.int n] ∧ (zpost (.d (.int (lvFirst zl n))) Γ1)) : Go K F B0 (tMethD K [(a_Loose, C_Loose__first_spot mg a_Loose), (a_Kept, C_Kept__first_spot mg a_Kept), (a_Make, C_Make__first_spot mg a_Make), (a_Watch, C_Watch__first_spot mg a_Watch), (a_Hold, C_Hold__first_spot mg a_Hold)] (Str.ofString "first_spot") zE te zt) T Γ zpost := by
  refine go_methD (fun z0 z1 z2 z3 z4 z5 => zh z0 z1 z2 z3 z4 fun z6 z7 z8 z9 ⟨zl, za, zh2⟩ => z5 z6 z7 z8 z9 ?_)
  cases zl with
  | loose =>
    rw [lvD_of Lv.loose zg0] at za zh2
    exact ⟨a_Loose, C_Loose__first_spot mg a_Loose, [], by simp, za, rfl, fun y0 y1 y2 y3 y4 y5 => zh2 y0 y1 y2 y3 y4 fun y6 y7 y8 y9 ⟨n, ze, h1⟩ => y5 y6 y7 y8 y9 ⟨_, ⟨a_Loose, n, congrArg (List.cons _) ze, rfl, rfl⟩, (fun zo ze => ze ▸ h1)⟩⟩
  | kept =>
    rw [lvD_of Lv.kept zg1] at za zh2
    exact ⟨a_Kept, C_Kept__first_spot mg a_Kept, [], by simp, za, rfl, fun y0 y1 y2 y3 y4 y5 => zh2 y0 y1 y2 y3 y4 fun y6 y7 y8 y9 ⟨n, ze, h1⟩ => y5 y6 y7 y8 y9 ⟨_, ⟨a_Kept, n, congrArg (List.cons _) ze, rfl, rfl⟩, (fun zo ze => ze ▸ h1)⟩⟩
  | make =>
    rw [lvD_of Lv.make zg2] at za zh2
    exact ⟨a_Make, C_Make__first_spot mg a_Make, [], by simp, za, rfl, fun y0 y1 y2 y3 y4 y5 => zh2 y0 y1 y2 y3 y4 fun y6 y7 y8 y9 ⟨n, ze, h1⟩ => y5 y6 y7 y8 y9 ⟨_, ⟨a_Make, n, congrArg (List.cons _) ze, rfl, rfl⟩, (fun zo ze => ze ▸ h1)⟩⟩
  | watch =>
    rw [lvD_of Lv.watch zg3] at za zh2
    exact ⟨a_Watch, C_Watch__first_spot mg a_Watch, [], by simp, za, rfl, fun y0 y1 y2 y3 y4 y5 => zh2 y0 y1 y2 y3 y4 fun y6 y7 y8 y9 ⟨n, ze, h1⟩ => y5 y6 y7 y8 y9 ⟨_, ⟨a_Watch, n, congrArg (List.cons _) ze, rfl, rfl⟩, (fun zo ze => ze ▸ h1)⟩⟩
  | hold =>
    rw [lvD_of Lv.hold zg4] at za zh2
    exact ⟨a_Hold, C_Hold__first_spot mg a_Hold, [], by simp, za, rfl, fun y0 y1 y2 y3 y4 y5 => zh2 y0 y1 y2 y3 y4 fun y6 y7 y8 y9 ⟨n, ze, h1⟩ => y5 y6 y7 y8 y9 ⟨_, ⟨a_Hold, n, congrArg (List.cons _) ze, rfl, rfl⟩, (fun zo ze => ze ▸ h1)⟩⟩
theorem call_dyn_holds_asks {K : PySem.W.Frag} {mg : Str → Option Value} {F B0 : Hp} {T : List O} {Γ : En} {zpost : O → En → Prop} {zE : XK} {zt : TA} {te : TE} {a_Loose a_Kept a_Make a_Watch a_Hold : Addr} (zg0 : mg "Loose" = some (.ref a_Loose)) (zg1 : mg "Kept" = some (.ref a_Kept)) (zg2 : mg "Make" = some (.ref a_Make)) (zg3 : mg "Watch" = some (.ref a_Watch)) (zg4 : mg "Hold" = some (.ref a_Hold)) (zh : Go K F B0 te T Γ fun zo Γ0 => ∃ zl, zo.fz = lvD mg zl ∧ GoA K F B0 zt (.d (lvD mg zl) :: T) Γ0 fun zxs Γ1 => zxs = [] ∧ (zpost (.d (.bl (lvAsks zl))) Γ1)) : Go K F B0 (tMethD K [(a_Loose, C_Loose__holds_asks mg a_Loose), (a_Kept, C_Kept__holds_asks mg a_Kept), (a_Make, C_Make__holds_asks mg a_Make), (a_Watch, C_Watch__holds_asks mg a_Watch), (a_Hold, C_Hold__holds_asks mg a_Hold)] (Str.ofString "holds_asks") zE te zt) T Γ zpost := by
  refine go_methD (fun z0 z1 z2 z3 z4 z5 => zh z0 z1 z2 z3 z4 fun z6 z7 z8 z9 ⟨zl, za, zh2⟩ => z5 z6 z7 z8 z9 ?_)
  cases zl with
  | loose =>
    rw [lvD_of Lv.loose zg0] at za zh2
    exact ⟨a_Loose, C_Loose__holds_asks mg a_Loose, [], by simp, za, rfl, fun y0 y1 y2 y3 y4 y5 => zh2 y0 y1 y2 y3 y4 fun y6 y7 y8 y9 ⟨ze, h1⟩ => y5 y6 y7 y8 y9 ⟨_, ⟨a_Loose, congrArg (List.cons _) ze, rfl, rfl⟩, (fun zo ze => ze ▸ h1)⟩⟩
  | kept =>
    rw [lvD_of Lv.kept zg1] at za zh2
    exact ⟨a_Kept, C_Kept__holds_asks mg a_Kept, [], by simp, za, rfl, fun y0 y1 y2 y3 y4 y5 => zh2 y0 y1 y2 y3 y4 fun y6 y7 y8 y9 ⟨ze, h1⟩ => y5 y6 y7 y8 y9 ⟨_, ⟨a_Kept, congrArg (List.cons _) ze, rfl, rfl⟩, (fun zo ze => ze ▸ h1)⟩⟩
  | make =>
    rw [lvD_of Lv.make zg2] at za zh2
    exact ⟨a_Make, C_Make__holds_asks mg a_Make, [], by simp, za, rfl, fun y0 y1 y2 y3 y4 y5 => zh2 y0 y1 y2 y3 y4 fun y6 y7 y8 y9 ⟨ze, h1⟩ => y5 y6 y7 y8 y9 ⟨_, ⟨a_Make, congrArg (List.cons _) ze, rfl, rfl⟩, (fun zo ze => ze ▸ h1)⟩⟩
  | watch =>
    rw [lvD_of Lv.watch zg3] at za zh2
    exact ⟨a_Watch, C_Watch__holds_asks mg a_Watch, [], by simp, za, rfl, fun y0 y1 y2 y3 y4 y5 => zh2 y0 y1 y2 y3 y4 fun y6 y7 y8 y9 ⟨ze, h1⟩ => y5 y6 y7 y8 y9 ⟨_, ⟨a_Watch, congrArg (List.cons _) ze, rfl, rfl⟩, (fun zo ze => ze ▸ h1)⟩⟩
  | hold =>
    rw [lvD_of Lv.hold zg4] at za zh2
    exact ⟨a_Hold, C_Hold__holds_asks mg a_Hold, [], by simp, za, rfl, fun y0 y1 y2 y3 y4 y5 => zh2 y0 y1 y2 y3 y4 fun y6 y7 y8 y9 ⟨ze, h1⟩ => y5 y6 y7 y8 y9 ⟨_, ⟨a_Hold, congrArg (List.cons _) ze, rfl, rfl⟩, (fun zo ze => ze ▸ h1)⟩⟩
theorem call_dyn_watches {K : PySem.W.Frag} {mg : Str → Option Value} {F B0 : Hp} {T : List O} {Γ : En} {zpost : O → En → Prop} {zE : XK} {zt : TA} {te : TE} {a_Loose a_Kept a_Make a_Watch a_Hold : Addr} (zg0 : mg "Loose" = some (.ref a_Loose)) (zg1 : mg "Kept" = some (.ref a_Kept)) (zg2 : mg "Make" = some (.ref a_Make)) (zg3 : mg "Watch" = some (.ref a_Watch)) (zg4 : mg "Hold" = some (.ref a_Hold)) (zh : Go K F B0 te T Γ fun zo Γ0 => ∃ zl, zo.fz = lvD mg zl ∧ GoA K F B0 zt (.d (lvD mg zl) :: T) Γ0 fun zxs Γ1 => zxs = [] ∧ (zpost (.d (.bl (lvWatches zl))) Γ1)) : Go K F B0 (tMethD K [(a_Loose, C_Loose__watches mg a_Loose), (a_Kept, C_Kept__watches mg a_Kept), (a_Make, C_Make__watches mg a_Make), (a_Watch, C_Watch__watches mg a_Watch), (a_Hold, C_Hold__watches mg a_Hold)] (Str.ofString "watches") zE te zt) T Γ zpost := by
  refine go_methD (fun z0 z1 z2 z3 z4 z5 => zh z0 z1 z2 z3 z4 fun z6 z7 z8 z9 ⟨zl, za, zh2⟩ => z5 z6 z7 z8 z9 ?_)
  cases zl with
  | loose =>
    rw [lvD_of Lv.loose zg0] at za zh2
    exact ⟨a_Loose, C_Loose__watches mg a_Loose, [], by simp, za, rfl, fun y0 y1 y2 y3 y4 y5 => zh2 y0 y1 y2 y3 y4 fun y6 y7 y8 y9 ⟨ze, h1⟩ => y5 y6 y7 y8 y9 ⟨_, ⟨a_Loose, congrArg (List.cons _) ze, rfl, rfl⟩, (fun zo ze => ze ▸ h1)⟩⟩
  | kept =>
    rw [lvD_of Lv.kept zg1] at za zh2
    exact ⟨a_Kept, C_Kept__watches mg a_Kept, [], by simp, za, rfl, fun y0 y1 y2 y3 y4 y5 => zh2 y0 y1 y2 y3 y4 fun y6 y7 y8 y9 ⟨ze, h1⟩ => y5 y6 y7 y8 y9 ⟨_, ⟨a_Kept, congrArg (List.cons _) ze, rfl, rfl⟩, (fun zo ze => ze ▸ h1)⟩⟩
  | make =>
    rw [lvD_of Lv.make zg2] at za zh2
    exact ⟨a_Make, C_Make__watches mg a_Make, [], by simp, za, rfl, fun y0 y1 y2 y3 y4 y5 => zh2 y0 y1 y2 y3 y4 fun y6 y7 y8 y9 ⟨ze, h1⟩ => y5 y6 y7 y8 y9 ⟨_, ⟨a_Make, congrArg (List.cons _) ze, rfl, rfl⟩, (fun zo ze => ze ▸ h1)⟩⟩
  | watch =>
    rw [lvD_of Lv.watch zg3] at za zh2
    exact ⟨a_Watch, C_Watch__watches mg a_Watch, [], by simp, za, rfl, fun y0 y1 y2 y3 y4 y5 => zh2 y0 y1 y2 y3 y4 fun y6 y7 y8 y9 ⟨ze, h1⟩ => y5 y6 y7 y8 y9 ⟨_, ⟨a_Watch, congrArg (List.cons _) ze, rfl, rfl⟩, (fun zo ze => ze ▸ h1)⟩⟩
  | hold =>
    rw [lvD_of Lv.hold zg4] at za zh2
    exact ⟨a_Hold, C_Hold__watches mg a_Hold, [], by simp, za, rfl, fun y0 y1 y2 y3 y4 y5 => zh2 y0 y1 y2 y3 y4 fun y6 y7 y8 y9 ⟨ze, h1⟩ => y5 y6 y7 y8 y9 ⟨_, ⟨a_Hold, congrArg (List.cons _) ze, rfl, rfl⟩, (fun zo ze => ze ▸ h1)⟩⟩
theorem call_dyn_late {K : PySem.W.Frag} {mg : Str → Option Value} {F B0 : Hp} {T : List O} {Γ : En} {zpost : O → En → Prop} {zE : XK} {zt : TA} {te : TE} {a_Loose a_Kept a_Make a_Watch a_Hold : Addr} (zg0 : mg "Loose" = some (.ref a_Loose)) (zg1 : mg "Kept" = some (.ref a_Kept)) (zg2 : mg "Make" = some (.ref a_Make)) (zg3 : mg "Watch" = some (.ref a_Watch)) (zg4 : mg "Hold" = some (.ref a_Hold)) (zh : Go K F B0 te T Γ fun zo Γ0 => ∃ zl, zo.fz = lvD mg zl ∧ GoA K F B0 zt (.d (lvD mg zl) :: T) Γ0 fun zxs Γ1 => ∃ (b s : Int), zxs = [.int b, .int s] ∧ (zpost (.d (.bl (lvLate zl b s))) Γ1)) : Go K F B0 (tMethD K [(a_Loose, C_Loose__late mg a_Loose), (a_Kept, C_Kept__late mg a_Kept), (a_Make, C_Make__late mg a_Make), (a_Watch, C_Watch__late mg a_Watch), (a_Hold, C_Hold__late mg a_Hold)] (Str.ofString "late") zE te zt) T Γ zpost := by
  refine go_methD (fun z0 z1 z2 z3 z4 z5 => zh z0 z1 z2 z3 z4 fun z6 z7 z8 z9 ⟨zl, za, zh2⟩ => z5 z6 z7 z8 z9 ?_)
  cases zl with
  | loose =>
    rw [lvD_of Lv.loose zg0] at za zh2
    exact ⟨a_Loose, C_Loose__late mg a_Loose, [], by simp, za, rfl, fun y0 y1 y2 y3 y4 y5 => zh2 y0 y1 y2 y3 y4 fun y6 y7 y8 y9 ⟨b, s, ze, h1⟩ => y5 y6 y7 y8 y9 ⟨_, ⟨a_Loose, b, s, congrArg (List.cons _) ze, rfl, rfl⟩, (fun zo ze => ze ▸ h1)⟩⟩
  | kept =>
    rw [lvD_of Lv.kept zg1] at za zh2
    exact ⟨a_Kept, C_Kept__late mg a_Kept, [], by simp, za, rfl, fun y0 y1 y2 y3 y4 y5 => zh2 y0 y1 y2 y3 y4 fun y6 y7 y8 y9 ⟨b, s, ze, h1⟩ => y5 y6 y7 y8 y9 ⟨_, ⟨a_Kept, b, s, congrArg (List.cons _) ze, rfl, rfl⟩, (fun zo ze => ze ▸ h1)⟩⟩
  | make =>
    rw [lvD_of Lv.make zg2] at za zh2
    exact ⟨a_Make, C_Make__late mg a_Make, [], by simp, za, rfl, fun y0 y1 y2 y3 y4 y5 => zh2 y0 y1 y2 y3 y4 fun y6 y7 y8 y9 ⟨b, s, ze, h1⟩ => y5 y6 y7 y8 y9 ⟨_, ⟨a_Make, b, s, congrArg (List.cons _) ze, rfl, rfl⟩, (fun zo ze => ze ▸ h1)⟩⟩
  | watch =>
    rw [lvD_of Lv.watch zg3] at za zh2
    exact ⟨a_Watch, C_Watch__late mg a_Watch, [], by simp, za, rfl, fun y0 y1 y2 y3 y4 y5 => zh2 y0 y1 y2 y3 y4 fun y6 y7 y8 y9 ⟨b, s, ze, h1⟩ => y5 y6 y7 y8 y9 ⟨_, ⟨a_Watch, b, s, congrArg (List.cons _) ze, rfl, rfl⟩, (fun zo ze => ze ▸ h1)⟩⟩
  | hold =>
    rw [lvD_of Lv.hold zg4] at za zh2
    exact ⟨a_Hold, C_Hold__late mg a_Hold, [], by simp, za, rfl, fun y0 y1 y2 y3 y4 y5 => zh2 y0 y1 y2 y3 y4 fun y6 y7 y8 y9 ⟨b, s, ze, h1⟩ => y5 y6 y7 y8 y9 ⟨_, ⟨a_Hold, b, s, congrArg (List.cons _) ze, rfl, rfl⟩, (fun zo ze => ze ▸ h1)⟩⟩
theorem call_dyn_unkept {K : PySem.W.Frag} {mg : Str → Option Value} {F B0 : Hp} {T : List O} {Γ : En} {zpost : O → En → Prop} {zE : XK} {zt : TA} {te : TE} {a_Loose a_Kept a_Make a_Watch a_Hold : Addr} (zg0 : mg "Loose" = some (.ref a_Loose)) (zg1 : mg "Kept" = some (.ref a_Kept)) (zg2 : mg "Make" = some (.ref a_Make)) (zg3 : mg "Watch" = some (.ref a_Watch)) (zg4 : mg "Hold" = some (.ref a_Hold)) (zh : Go K F B0 te T Γ fun zo Γ0 => ∃ zl, zo.fz = lvD mg zl ∧ GoA K F B0 zt (.d (lvD mg zl) :: T) Γ0 fun zxs Γ1 => zxs = [] ∧ (zpost (.d (.bl (lvUnkept zl))) Γ1)) : Go K F B0 (tMethD K [(a_Loose, C_Loose__unkept mg a_Loose), (a_Kept, C_Kept__unkept mg a_Kept), (a_Make, C_Make__unkept mg a_Make), (a_Watch, C_Watch__unkept mg a_Watch), (a_Hold, C_Hold__unkept mg a_Hold)] (Str.ofString "unkept") zE te zt) T Γ zpost := by
  refine go_methD (fun z0 z1 z2 z3 z4 z5 => zh z0 z1 z2 z3 z4 fun z6 z7 z8 z9 ⟨zl, za, zh2⟩ => z5 z6 z7 z8 z9 ?_)
  cases zl with
  | loose =>
    rw [lvD_of Lv.loose zg0] at za zh2
    exact ⟨a_Loose, C_Loose__unkept mg a_Loose, [], by simp, za, rfl, fun y0 y1 y2 y3 y4 y5 => zh2 y0 y1 y2 y3 y4 fun y6 y7 y8 y9 ⟨ze, h1⟩ => y5 y6 y7 y8 y9 ⟨_, ⟨a_Loose, congrArg (List.cons _) ze, rfl, rfl⟩, (fun zo ze => ze ▸ h1)⟩⟩
  | kept =>
    rw [lvD_of Lv.kept zg1] at za zh2
    exact ⟨a_Kept, C_Kept__unkept mg a_Kept, [], by simp, za, rfl, fun y0 y1 y2 y3 y4 y5 => zh2 y0 y1 y2 y3 y4 fun y6 y7 y8 y9 ⟨ze, h1⟩ => y5 y6 y7 y8 y9 ⟨_, ⟨a_Kept, congrArg (List.cons _) ze, rfl, rfl⟩, (fun zo ze => ze ▸ h1)⟩⟩
  | make =>
    rw [lvD_of Lv.make zg2] at za zh2
    exact ⟨a_Make, C_Make__unkept mg a_Make, [], by simp, za, rfl, fun y0 y1 y2 y3 y4 y5 => zh2 y0 y1 y2 y3 y4 fun y6 y7 y8 y9 ⟨ze, h1⟩ => y5 y6 y7 y8 y9 ⟨_, ⟨a_Make, congrArg (List.cons _) ze, rfl, rfl⟩, (fun zo ze => ze ▸ h1)⟩⟩
  | watch =>
    rw [lvD_of Lv.watch zg3] at za zh2
    exact ⟨a_Watch, C_Watch__unkept mg a_Watch, [], by simp, za, rfl, fun y0 y1 y2 y3 y4 y5 => zh2 y0 y1 y2 y3 y4 fun y6 y7 y8 y9 ⟨ze, h1⟩ => y5 y6 y7 y8 y9 ⟨_, ⟨a_Watch, congrArg (List.cons _) ze, rfl, rfl⟩, (fun zo ze => ze ▸ h1)⟩⟩
  | hold =>
    rw [lvD_of Lv.hold zg4] at za zh2
    exact ⟨a_Hold, C_Hold__unkept mg a_Hold, [], by simp, za, rfl, fun y0 y1 y2 y3 y4 y5 => zh2 y0 y1 y2 y3 y4 fun y6 y7 y8 y9 ⟨ze, h1⟩ => y5 y6 y7 y8 y9 ⟨_, ⟨a_Hold, congrArg (List.cons _) ze, rfl, rfl⟩, (fun zo ze => ze ▸ h1)⟩⟩
theorem call_dyn_stamps {K : PySem.W.Frag} {mg : Str → Option Value} {F B0 : Hp} {T : List O} {Γ : En} {zpost : O → En → Prop} {zE : XK} {zt : TA} {te : TE} {a_Loose a_Kept a_Make a_Watch a_Hold : Addr} (zg0 : mg "Loose" = some (.ref a_Loose)) (zg1 : mg "Kept" = some (.ref a_Kept)) (zg2 : mg "Make" = some (.ref a_Make)) (zg3 : mg "Watch" = some (.ref a_Watch)) (zg4 : mg "Hold" = some (.ref a_Hold)) (zh : Go K F B0 te T Γ fun zo Γ0 => ∃ zl, zo.fz = lvD mg zl ∧ GoA K F B0 zt (.d (lvD mg zl) :: T) Γ0 fun zxs Γ1 => ∃ (b e : Int) (xs : List Int) (s : Bool), zxs = [.int b, .lst (xs.map D.int), .int e, .bl s] ∧ (xs.length ≤ 1000) ∧ (zpost (.ol (((lvStamps zl b xs e s).map D.int).map O.d)) Γ1)) : Go K F B0 (tMethD K [(a_Loose, C_Loose__stamps mg a_Loose), (a_Kept, C_Kept__stamps mg a_Kept), (a_Make, C_Make__stamps mg a_Make), (a_Watch, C_Watch__stamps mg a_Watch), (a_Hold, C_Hold__stamps mg a_Hold)] (Str.ofString "stamps") zE te zt) T Γ zpost := by
  refine go_methD (fun z0 z1 z2 z3 z4 z5 => zh z0 z1 z2 z3 z4 fun z6 z7 z8 z9 ⟨zl, za, zh2⟩ => z5 z6 z7 z8 z9 ?_)
  cases zl with
  | loose =>
    rw [lvD_of Lv.loose zg0] at za zh2
    exact ⟨a_Loose, C_Loose__stamps mg a_Loose, [], by simp, za, rfl, fun y0 y1 y2 y3 y4 y5 => zh2 y0 y1 y2 y3 y4 fun y6 y7 y8 y9 ⟨b, e, xs, s, ze, hp0, h1⟩ => y5 y6 y7 y8 y9 ⟨_, ⟨a_Loose, b, e, xs, s, congrArg (List.cons _) ze, hp0, rfl, rfl⟩, (fun zo ze => ze ▸ h1)⟩⟩
  | kept =>
    rw [lvD_of Lv.kept zg1] at za zh2
    exact ⟨a_Kept, C_Kept__stamps mg a_Kept, [], by simp, za, rfl, fun y0 y1 y2 y3 y4 y5 => zh2 y0 y1 y2 y3 y4 fun y6 y7 y8 y9 ⟨b, e, xs, s, ze, hp0, h1⟩ => y5 y6 y7 y8 y9 ⟨_, ⟨a_Kept, b, e, xs, s, congrArg (List.cons _) ze, hp0, rfl, rfl⟩, (fun zo ze => ze ▸ h1)⟩⟩
  | make =>
    rw [lvD_of Lv.make zg2] at za zh2
    exact ⟨a_Make, C_Make__stamps mg a_Make, [], by simp, za, rfl, fun y0 y1 y2 y3 y4 y5 => zh2 y0 y1 y2 y3 y4 fun y6 y7 y8 y9 ⟨b, e, xs, s, ze, hp0, h1⟩ => y5 y6 y7 y8 y9 ⟨_, ⟨a_Make, b, e, xs, s, congrArg (List.cons _) ze, hp0, rfl, rfl⟩, (fun zo ze => ze ▸ h1)⟩⟩
  | watch =>
    rw [lvD_of Lv.watch zg3] at za zh2
    exact ⟨a_Watch, C_Watch__stamps mg a_Watch, [], by simp, za, rfl, fun y0 y1 y2 y3 y4 y5 => zh2 y0 y1 y2 y3 y4 fun y6 y7 y8 y9 ⟨b, e, xs, s, ze, hp0, h1⟩ => y5 y6 y7 y8 y9 ⟨_, ⟨a_Watch, b, e, xs, s, congrArg (List.cons _) ze, hp0, rfl, rfl⟩, (fun zo ze => ze ▸ h1)⟩⟩
  | hold =>
    rw [lvD_of Lv.hold zg4] at za zh2
    exact ⟨a_Hold, C_Hold__stamps mg a_Hold, [], by simp, za, rfl, fun y0 y1 y2 y3 y4 y5 => zh2 y0 y1 y2 y3 y4 fun y6 y7 y8 y9 ⟨b, e, xs, s, ze, hp0, h1⟩ => y5 y6 y7 y8 y9 ⟨_, ⟨a_Hold, b, e, xs, s, congrArg (List.cons _) ze, hp0, rfl, rfl⟩, (fun zo ze => ze ▸ h1)⟩⟩
theorem call_dyn_word {K : PySem.W.Frag} {mg : Str → Option Value} {F B0 : Hp} {T : List O} {Γ : En} {zpost : O → En → Prop} {zE : XK} {zt : TA} {te : TE} {a_Loose a_Kept a_Make a_Watch a_Hold : Addr} (zg0 : mg "Loose" = some (.ref a_Loose)) (zg1 : mg "Kept" = some (.ref a_Kept)) (zg2 : mg "Make" = some (.ref a_Make)) (zg3 : mg "Watch" = some (.ref a_Watch)) (zg4 : mg "Hold" = some (.ref a_Hold)) (zh : Go K F B0 te T Γ fun zo Γ0 => ∃ zl, zo.fz = lvD mg zl ∧ GoA K F B0 zt (.d (lvD mg zl) :: T) Γ0 fun zxs Γ1 => zxs = [] ∧ (zpost (.d (.str (lvW zl))) Γ1)) : Go K F B0 (tMethD K [(a_Loose, C_Loose__word mg a_Loose), (a_Kept, C_Kept__word mg a_Kept), (a_Make, C_Make__word mg a_Make), (a_Watch, C_Watch__word mg a_Watch), (a_Hold, C_Hold__word mg a_Hold)] (Str.ofString "word") zE te zt) T Γ zpost := by
  refine go_methD (fun z0 z1 z2 z3 z4 z5 => zh z0 z1 z2 z3 z4 fun z6 z7 z8 z9 ⟨zl, za, zh2⟩ => z5 z6 z7 z8 z9 ?_)
  cases zl with
  | loose =>
    rw [lvD_of Lv.loose zg0] at za zh2
    exact ⟨a_Loose, C_Loose__word mg a_Loose, [], by simp, za, rfl, fun y0 y1 y2 y3 y4 y5 => zh2 y0 y1 y2 y3 y4 fun y6 y7 y8 y9 ⟨ze, h1⟩ => y5 y6 y7 y8 y9 ⟨_, ⟨a_Loose, congrArg (List.cons _) ze, rfl, rfl⟩, (fun zo ze => ze ▸ h1)⟩⟩
  | kept =>
    rw [lvD_of Lv.kept zg1] at za zh2
    exact ⟨a_Kept, C_Kept__word mg a_Kept, [], by simp, za, rfl, fun y0 y1 y2 y3 y4 y5 => zh2 y0 y1 y2 y3 y4 fun y6 y7 y8 y9 ⟨ze, h1⟩ => y5 y6 y7 y8 y9 ⟨_, ⟨a_Kept, congrArg (List.cons _) ze, rfl, rfl⟩, (fun zo ze => ze ▸ h1)⟩⟩
  | make =>
    rw [lvD_of Lv.make zg2] at za zh2
    exact ⟨a_Make, C_Make__word mg a_Make, [], by simp, za, rfl, fun y0 y1 y2 y3 y4 y5 => zh2 y0 y1 y2 y3 y4 fun y6 y7 y8 y9 ⟨ze, h1⟩ => y5 y6 y7 y8 y9 ⟨_, ⟨a_Make, congrArg (List.cons _) ze, rfl, rfl⟩, (fun zo ze => ze ▸ h1)⟩⟩
  | watch =>
    rw [lvD_of Lv.watch zg3] at za zh2
    exact ⟨a_Watch, C_Watch__word mg a_Watch, [], by simp, za, rfl, fun y0 y1 y2 y3 y4 y5 => zh2 y0 y1 y2 y3 y4 fun y6 y7 y8 y9 ⟨ze, h1⟩ => y5 y6 y7 y8 y9 ⟨_, ⟨a_Watch, congrArg (List.cons _) ze, rfl, rfl⟩, (fun zo ze => ze ▸ h1)⟩⟩
  | hold =>
    rw [lvD_of Lv.hold zg4] at za zh2
    exact ⟨a_Hold, C_Hold__word mg a_Hold, [], by simp, za, rfl, fun y0 y1 y2 y3 y4 y5 => zh2 y0 y1 y2 y3 y4 fun y6 y7 y8 y9 ⟨ze, h1⟩ => y5 y6 y7 y8 y9 ⟨_, ⟨a_Hold, congrArg (List.cons _) ze, rfl, rfl⟩, (fun zo ze => ze ▸ h1)⟩⟩
theorem call_dyn_stand {K : PySem.W.Frag} {mg : Str → Option Value} {F B0 : Hp} {T : List O} {Γ : En} {zpost : O → En → Prop} {zE : XK} {zt : TA} {te : TE} {a_Loose a_Kept a_Make a_Watch a_Hold : Addr} (zg0 : mg "Loose" = some (.ref a_Loose)) (zg1 : mg "Kept" = some (.ref a_Kept)) (zg2 : mg "Make" = some (.ref a_Make)) (zg3 : mg "Watch" = some (.ref a_Watch)) (zg4 : mg "Hold" = some (.ref a_Hold)) (zh : Go K F B0 te T Γ fun zo Γ0 => ∃ zl, zo.fz = lvD mg zl ∧ GoA K F B0 zt (.d (lvD mg zl) :: T) Γ0 fun zxs Γ1 => ∃ (b n : Int), zxs = [.int b, .int n] ∧ (zpost (.d (.int (lvStand zl b n))) Γ1)) : Go K F B0 (tMethD K [(a_Loose, C_Loose__stand mg a_Loose), (a_Kept, C_Kept__stand mg a_Kept), (a_Make, C_Make__stand mg a_Make), (a_Watch, C_Watch__stand mg a_Watch), (a_Hold, C_Hold__stand mg a_Hold)] (Str.ofString "stand") zE te zt) T Γ zpost := by
  refine go_methD (fun z0 z1 z2 z3 z4 z5 => zh z0 z1 z2 z3 z4 fun z6 z7 z8 z9 ⟨zl, za, zh2⟩ => z5 z6 z7 z8 z9 ?_)
  cases zl with
  | loose =>
    rw [lvD_of Lv.loose zg0] at za zh2
    exact ⟨a_Loose, C_Loose__stand mg a_Loose, [], by simp, za, rfl, fun y0 y1 y2 y3 y4 y5 => zh2 y0 y1 y2 y3 y4 fun y6 y7 y8 y9 ⟨b, n, ze, h1⟩ => y5 y6 y7 y8 y9 ⟨_, ⟨a_Loose, b, n, congrArg (List.cons _) ze, rfl, rfl⟩, (fun zo ze => ze ▸ h1)⟩⟩
  | kept =>
    rw [lvD_of Lv.kept zg1] at za zh2
    exact ⟨a_Kept, C_Kept__stand mg a_Kept, [], by simp, za, rfl, fun y0 y1 y2 y3 y4 y5 => zh2 y0 y1 y2 y3 y4 fun y6 y7 y8 y9 ⟨b, n, ze, h1⟩ => y5 y6 y7 y8 y9 ⟨_, ⟨a_Kept, b, n, congrArg (List.cons _) ze, rfl, rfl⟩, (fun zo ze => ze ▸ h1)⟩⟩
  | make =>
    rw [lvD_of Lv.make zg2] at za zh2
    exact ⟨a_Make, C_Make__stand mg a_Make, [], by simp, za, rfl, fun y0 y1 y2 y3 y4 y5 => zh2 y0 y1 y2 y3 y4 fun y6 y7 y8 y9 ⟨b, n, ze, h1⟩ => y5 y6 y7 y8 y9 ⟨_, ⟨a_Make, b, n, congrArg (List.cons _) ze, rfl, rfl⟩, (fun zo ze => ze ▸ h1)⟩⟩
  | watch =>
    rw [lvD_of Lv.watch zg3] at za zh2
    exact ⟨a_Watch, C_Watch__stand mg a_Watch, [], by simp, za, rfl, fun y0 y1 y2 y3 y4 y5 => zh2 y0 y1 y2 y3 y4 fun y6 y7 y8 y9 ⟨b, n, ze, h1⟩ => y5 y6 y7 y8 y9 ⟨_, ⟨a_Watch, b, n, congrArg (List.cons _) ze, rfl, rfl⟩, (fun zo ze => ze ▸ h1)⟩⟩
  | hold =>
    rw [lvD_of Lv.hold zg4] at za zh2
    exact ⟨a_Hold, C_Hold__stand mg a_Hold, [], by simp, za, rfl, fun y0 y1 y2 y3 y4 y5 => zh2 y0 y1 y2 y3 y4 fun y6 y7 y8 y9 ⟨b, n, ze, h1⟩ => y5 y6 y7 y8 y9 ⟨_, ⟨a_Hold, b, n, congrArg (List.cons _) ze, rfl, rfl⟩, (fun zo ze => ze ▸ h1)⟩⟩
local macro_rules | `(tactic| walk_at "skc") => `(tactic| first
  | with_reducible refine call_Loose__word ?_
  | with_reducible refine call_Kept__word ?_
  | with_reducible refine call_Make__word ?_
  | with_reducible refine call_Watch__word ?_
  | with_reducible refine call_Hold__word ?_
  | with_reducible refine call_Loose__stand ?_
  | with_reducible refine call_Kept__stand ?_
  | with_reducible refine call_Make__stand ?_
  | with_reducible refine call_Watch__stand ?_
  | with_reducible refine call_Hold__stand ?_
  | ((with_reducible refine' call_level_of ?hw ?_); (case hw => assumption)) | with_reducible refine call_level_of (XX := fun _ _ _ => False) (fun _ _ _ _ _ _ z _ => z.elim) ?_
  | with_reducible refine call__law_refused ?_
  | with_reducible refine call__law_cell ?_
  | with_reducible refine call__law_mix ?_
  | with_reducible refine call__law_no_word ?_
  | with_reducible refine call_Loose__look_spot ?_
  | with_reducible refine call_Kept__look_spot ?_
  | with_reducible refine call_Make__look_spot ?_
  | with_reducible refine call_Watch__look_spot ?_
  | with_reducible refine call_Hold__look_spot ?_
  | with_reducible refine call_Loose__spots ?_
  | with_reducible refine call_Kept__spots ?_
  | with_reducible refine call_Make__spots ?_
  | with_reducible refine call_Watch__spots ?_
  | with_reducible refine call_Hold__spots ?_
  | with_reducible refine call_Loose__first_spot ?_
  | with_reducible refine call_Kept__first_spot ?_
  | with_reducible refine call_Make__first_spot ?_
  | with_reducible refine call_Watch__first_spot ?_
  | with_reducible refine call_Hold__first_spot ?_
  | with_reducible refine call__law_number ?_
  | with_reducible refine call__law_spots ?_
  | with_reducible refine call__law_kin ?_
  | with_reducible refine call_Loose__holds_asks ?_
  | with_reducible refine call_Kept__holds_asks ?_
  | with_reducible refine call_Make__holds_asks ?_
  | with_reducible refine call_Watch__holds_asks ?_
  | with_reducible refine call_Hold__holds_asks ?_
  | with_reducible refine call_Loose__watches ?_
  | with_reducible refine call_Kept__watches ?_
  | with_reducible refine call_Make__watches ?_
  | with_reducible refine call_Watch__watches ?_
  | with_reducible refine call_Hold__watches ?_
  | with_reducible refine call_Loose__late ?_
  | with_reducible refine call_Kept__late ?_
  | with_reducible refine call_Make__late ?_
  | with_reducible refine call_Watch__late ?_
  | with_reducible refine call_Hold__late ?_
  | with_reducible refine call_Loose__unkept ?_
  | with_reducible refine call_Kept__unkept ?_
  | with_reducible refine call_Make__unkept ?_
  | with_reducible refine call_Watch__unkept ?_
  | with_reducible refine call_Hold__unkept ?_
  | with_reducible refine call__law_truth ?_
  | with_reducible refine call__law_truths ?_
  | with_reducible refine call_Loose__stamps ?_
  | with_reducible refine call_Kept__stamps ?_
  | with_reducible refine call_Make__stamps ?_
  | with_reducible refine call_Watch__stamps ?_
  | with_reducible refine call_Hold__stamps ?_
  | with_reducible refine call__law_stamps ?_
  | ((with_reducible refine' call_dyn_look_spot ?g0 ?g1 ?g2 ?g3 ?g4 ?_); (case g0 => assumption); (case g1 => assumption); (case g2 => assumption); (case g3 => assumption); (case g4 => assumption))
  | ((with_reducible refine' call_dyn_spots ?g0 ?g1 ?g2 ?g3 ?g4 ?_); (case g0 => assumption); (case g1 => assumption); (case g2 => assumption); (case g3 => assumption); (case g4 => assumption))
  | ((with_reducible refine' call_dyn_first_spot ?g0 ?g1 ?g2 ?g3 ?g4 ?_); (case g0 => assumption); (case g1 => assumption); (case g2 => assumption); (case g3 => assumption); (case g4 => assumption))
  | ((with_reducible refine' call_dyn_holds_asks ?g0 ?g1 ?g2 ?g3 ?g4 ?_); (case g0 => assumption); (case g1 => assumption); (case g2 => assumption); (case g3 => assumption); (case g4 => assumption))
  | ((with_reducible refine' call_dyn_watches ?g0 ?g1 ?g2 ?g3 ?g4 ?_); (case g0 => assumption); (case g1 => assumption); (case g2 => assumption); (case g3 => assumption); (case g4 => assumption))
  | ((with_reducible refine' call_dyn_late ?g0 ?g1 ?g2 ?g3 ?g4 ?_); (case g0 => assumption); (case g1 => assumption); (case g2 => assumption); (case g3 => assumption); (case g4 => assumption))
  | ((with_reducible refine' call_dyn_unkept ?g0 ?g1 ?g2 ?g3 ?g4 ?_); (case g0 => assumption); (case g1 => assumption); (case g2 => assumption); (case g3 => assumption); (case g4 => assumption))
  | ((with_reducible refine' call_dyn_stamps ?g0 ?g1 ?g2 ?g3 ?g4 ?_); (case g0 => assumption); (case g1 => assumption); (case g2 => assumption); (case g3 => assumption); (case g4 => assumption))
  | ((with_reducible refine' call_dyn_word ?g0 ?g1 ?g2 ?g3 ?g4 ?_); (case g0 => assumption); (case g1 => assumption); (case g2 => assumption); (case g3 => assumption); (case g4 => assumption))
  | ((with_reducible refine' call_dyn_stand ?g0 ?g1 ?g2 ?g3 ?g4 ?_); (case g0 => assumption); (case g1 => assumption); (case g2 => assumption); (case g3 => assumption); (case g4 => assumption))
  | with_reducible refine go_make00 ?_ | ((with_reducible refine' oa_isiO ?hc ?hq ?_); (case hc => assumption); (case hq => assumption)))
abbrev C_law := lawC
local macro_rules | `(tactic| walk_at "x0") => `(tactic| focus ((simp only [fz_fl, fz_fk, fz_d, fzL_fl, fzK_d, O.fz, fzL])))
local macro_rules | `(tactic| walk_at "x1") => `(tactic| focus (((with_reducible refine' go_var ?hv ?_); (case hv => exact rfl))))
local macro_rules | `(tactic| walk_at "x2") => `(tactic| focus ((with_reducible refine ⟨_, rfl, ?_⟩)))
local macro_rules | `(tactic| walk_at "x3") => `(tactic| focus (((with_reducible refine and_im (fun hc => ?_) (fun hc => ?_)) <;> try simp only [decide_eq_true_eq, decide_eq_false_iff_not, Bool.true_eq_false, Bool.false_eq_true, Bool.not_eq_true', Bool.not_eq_false', reduceCtorEq] at hc <;> try first | exact absurd hc (by decide) | exact absurd hc (by assumption) | exact absurd (by assumption) hc | exact absurd rfl hc)))
local macro_rules | `(tactic| walk_at "x4") => `(tactic| focus (((with_reducible refine' gos_raise ?hw ?_); (case hw => assumption))))
local macro_rules | `(tactic| walk_at "x5") => `(tactic| focus (((with_reducible refine' call_level_of ?hw ?_); (case hw => assumption))))
local macro_rules | `(tactic| walk_at "x6") => `(tactic| focus (((with_reducible refine' oa_isX ?hE ?hq ?_); (case hE => assumption); (case hq => assumption))))
local macro_rules | `(tactic| walk_at "x7") => `(tactic| focus (((with_reducible refine' oa_isXt ?hE ?hq ?_); (case hE => assumption); (case hq => assumption))))
local macro_rules | `(tactic| walk_at "x8") => `(tactic| focus (with_reducible refine oa_len (.seq rfl) ?_))
local macro_rules | `(tactic| walk_at "x9") => `(tactic| focus (((with_reducible refine' o2_mul ?hm ?_); (case hm => first | exact IntMulOk.of_left (by decide) | exact IntMulOk.of_right (by decide) | assumption | exact IntMulOk.of_right (intBits_le_64 (by omega) (by omega)) | exact IntMulOk.of_left (intBits_le_64 (by omega) (by omega))))))
local macro_rules | `(tactic| walk_at "x10") => `(tactic| focus (((with_reducible refine' gog_name ?hi ?_); (case hi => exact Nat.le_of_ble_eq_true rfl); dsimp only [List.set])))
local macro_rules | `(tactic| walk_at "x11") => `(tactic| focus (((with_reducible refine' o2_mod ?hb ?_); (case hb => omega))))
local macro_rules | `(tactic| walk_at "x12") => `(tactic| focus (((with_reducible refine' And.intro ?hp ?_); (case hp => first | omega | assumption | exact rfl | exact Nat.le_of_ble_eq_true rfl | exact lfOLm (fun _ => rfl) | (show O.lf _ = true; simp only [O.lf, D.lf, lfL, lfOL, lf_mapI, Bool.and_true, Bool.and_self]; done)); (try dsimp only [List.set]))))
local macro_rules | `(tactic| walk_at "x13") => `(tactic| focus (((with_reducible refine' o2_div ?hb ?_); (case hb => omega))))
local macro_rules | `(tactic| walk_at "x14") => `(tactic| focus (((refine' ⟨_, Sl.str ?hz, ?_⟩); (case hz => omega))))
local macro_rules | `(tactic| walk_at "x15") => `(tactic| focus ((with_reducible refine o2_is ?_; (try simp only [D.isNon]))))
local macro_rules | `(tactic| walk_at "x16") => `(tactic| focus (((with_reducible refine' oa_isiG (b := true) ?ht ?hk ?_); (case ht => constructor); (case hk => decide +kernel))))
local macro_rules | `(tactic| walk_at "x17") => `(tactic| focus (((with_reducible refine' oa_isiG (b := false) ?ht ?hk ?_); (case ht => constructor); (case hk => decide +kernel))))
local macro_rules | `(tactic| walk_at "x18") => `(tactic| focus (((with_reducible refine' oa_isiO ?hc ?hq ?_); (case hc => assumption); (case hq => assumption))))
local macro_rules | `(tactic| walk_at "x19") => `(tactic| focus (((with_reducible refine' call_dyn_holds_asks ?g0 ?g1 ?g2 ?g3 ?g4 ?_); (case g0 => assumption); (case g1 => assumption); (case g2 => assumption); (case g3 => assumption); (case g4 => assumption))))
local macro_rules | `(tactic| walk_at "x20") => `(tactic| focus (((with_reducible refine' call_dyn_watches ?g0 ?g1 ?g2 ?g3 ?g4 ?_); (case g0 => assumption); (case g1 => assumption); (case g2 => assumption); (case g3 => assumption); (case g4 => assumption))))
local macro_rules | `(tactic| walk_at "x21") => `(tactic| focus (((with_reducible refine' call_dyn_late ?g0 ?g1 ?g2 ?g3 ?g4 ?_); (case g0 => assumption); (case g1 => assumption); (case g2 => assumption); (case g3 => assumption); (case g4 => assumption))))
local macro_rules | `(tactic| walk_at "x22") => `(tactic| focus (((with_reducible refine' call_dyn_unkept ?g0 ?g1 ?g2 ?g3 ?g4 ?_); (case g0 => assumption); (case g1 => assumption); (case g2 => assumption); (case g3 => assumption); (case g4 => assumption))))
local macro_rules | `(tactic| walk_at "x23") => `(tactic| focus ((with_reducible refine ⟨_, _, rfl, ?_⟩)))
local macro_rules | `(tactic| walk_at "x24") => `(tactic| focus (((with_reducible refine' go_fz ?hv ?_); (case hv => exact rfl); (try walk_at "lendx"); (try simp only [fz_fl, fz_fk, fz_d, fzL_fl, fzK_d, O.fz, fzL, List.set]))))
local macro_rules | `(tactic| walk_at "x25") => `(tactic| focus (((with_reducible refine go_lend' fun F' B' => ?_); (try walk_at "lendx"); (try (simp only [fzE_cons, fzE_nil, frO_none, frO_some, fz_fl, fz_fk, fz_d, fzL_fl, fzK_d, O.fz, fzL, List.set])))))
local macro_rules | `(tactic| walk_at "x26") => `(tactic| focus (((with_reducible refine got_lend' fun F' B' => ?_); (try walk_at "lendx"); (try (simp only [fzE_cons, fzE_nil, frO_none, frO_some, fz_fl, fz_fk, fz_d, fzL_fl, fzK_d, O.fz, fzL, List.set])))))
local macro_rules | `(tactic| walk_at "x27") => `(tactic| focus (((with_reducible refine' call_dyn_stamps ?g0 ?g1 ?g2 ?g3 ?g4 ?_); (case g0 => assumption); (case g1 => assumption); (case g2 => assumption); (case g3 => assumption); (case g4 => assumption))))
local macro_rules | `(tactic| walk_at "x28") => `(tactic| focus ((with_reducible refine ⟨_, _, _, _, rfl, ?_⟩)))
local macro_rules | `(tactic| walk_at "x29") => `(tactic| focus (((with_reducible refine' gogs_name ?hi ?_); (case hi => exact Nat.le_of_ble_eq_true rfl); dsimp only [List.set])))
local macro_rules | `(tactic| walk_at "x30") => `(tactic| focus (((with_reducible refine' gos_append ?ha ?h0); (case h0 => exact ⟨_, rfl⟩))))
section
variable {P : Program} {w : World} {K : PySem.W.Frag} {mg : Str → Option Value} {base : Heap}
theorem cal_Loose__word {zf : Addr} (D : DfM K "word" "Loose.word" s_Loose__word zf) {a_SkewError a_NoLevel a_Loose a_Kept a_Make a_Watch a_Hold : Addr} (XX : XF K mg a_SkewError a_NoLevel a_Loose a_Kept a_Make a_Watch a_Hold) (ME : Meth K a_Loose "word" zf) : CalM P w K mg base a_Loose "word" 1 ["self"] (C_Loose__word mg a_Loose) := by
  obtain ⟨fd, F⟩ := D
  refine ⟨zf, fd, ?_, ME, F.binds (ps := ["self"]) fun _ _ _ _ _ _ us hl => match us, hl with | [_], _ => rfl⟩
  refine F.ok sc_Loose__word (fun vs H Q E hS0 => spP_len (n := 1) (fun xs p q c0 => by unfold C_Loose__word at c0; obtain ⟨_, rfl, _⟩ := c0; rfl) hS0) (fun cdv A outer s H vs Q E hr hS0 => ?_)
  have hu := hu_of hr
  refine sp_body hS0 (fun B xs p q c0 hl0 wx => ?_)
  obtain ⟨Cv, rfl, rfl, rfl⟩ := c0
  refine ⟨_, (pss_one (ps_ret pe_str)), ?_⟩
  clear hS0 hl0 hr hu wx
  have X_g_Loose := XX.g_Loose
  have X_R_Loose := XX.R_Loose
  have X_g_Kept := XX.g_Kept
  have X_R_Kept := XX.R_Kept
  have X_g_Make := XX.g_Make
  have X_R_Make := XX.R_Make
  have X_g_Watch := XX.g_Watch
  have X_R_Watch := XX.R_Watch
  have X_g_Hold := XX.g_Hold
  have X_R_Hold := XX.R_Hold
  have X_N_Loose := XX.N_Loose
  have X_ki_Loose_Hold := XX.ki_Loose_Hold
  have X_ki_Loose_Loose := XX.ki_Loose_Loose
  have X_ki_Loose_Kept := XX.ki_Loose_Kept
  have X_ki_Loose_Watch := XX.ki_Loose_Watch
  have X_ki_Loose_Make := XX.ki_Loose_Make
  have X_N_Kept := XX.N_Kept
  have X_ki_Kept_Hold := XX.ki_Kept_Hold
  have X_ki_Kept_Loose := XX.ki_Kept_Loose
  have X_ki_Kept_Kept := XX.ki_Kept_Kept
  have X_ki_Kept_Watch := XX.ki_Kept_Watch
  have X_ki_Kept_Make := XX.ki_Kept_Make
  have X_N_Make := XX.N_Make
  have X_ki_Make_Hold := XX.ki_Make_Hold
  have X_ki_Make_Loose := XX.ki_Make_Loose
  have X_ki_Make_Kept := XX.ki_Make_Kept
  have X_ki_Make_Watch := XX.ki_Make_Watch
  have X_ki_Make_Make := XX.ki_Make_Make
  have X_N_Watch := XX.N_Watch
  have X_ki_Watch_Hold := XX.ki_Watch_Hold
  have X_ki_Watch_Loose := XX.ki_Watch_Loose
  have X_ki_Watch_Kept := XX.ki_Watch_Kept
  have X_ki_Watch_Watch := XX.ki_Watch_Watch
  have X_ki_Watch_Make := XX.ki_Watch_Make
  have X_N_Hold := XX.N_Hold
  have X_ki_Hold_Hold := XX.ki_Hold_Hold
  have X_ki_Hold_Loose := XX.ki_Hold_Loose
  have X_ki_Hold_Kept := XX.ki_Hold_Kept
  have X_ki_Hold_Watch := XX.ki_Hold_Watch
  have X_ki_Hold_Make := XX.ki_Hold_Make
  simp only [List.map_cons, List.map_nil, List.length_cons, List.length_nil, List.cons_append, List.nil_append, Nat.reduceAdd, Nat.reduceSub, List.replicate_succ, List.replicate_zero, N_Loose__word]
  ((with_reducible refine gos_ret ?_); (with_reducible refine go_str ?_); walk_at "x0"; (focus skip); rotate_left)
  all_goals rfl
theorem cal_Kept__word {zf : Addr} (D : DfM K "word" "Kept.word" s_Kept__word zf) {a_SkewError a_NoLevel a_Loose a_Kept a_Make a_Watch a_Hold : Addr} (XX : XF K mg a_SkewError a_NoLevel a_Loose a_Kept a_Make a_Watch a_Hold) (ME : Meth K a_Kept "word" zf) : CalM P w K mg base a_Kept "word" 1 ["self"] (C_Kept__word mg a_Kept) := by
  obtain ⟨fd, F⟩ := D
  refine ⟨zf, fd, ?_, ME, F.binds (ps := ["self"]) fun _ _ _ _ _ _ us hl => match us, hl with | [_], _ => rfl⟩
  refine F.ok sc_Kept__word (fun vs H Q E hS0 => spP_len (n := 1) (fun xs p q c0 => by unfold C_Kept__word at c0; obtain ⟨_, rfl, _⟩ := c0; rfl) hS0) (fun cdv A outer s H vs Q E hr hS0 => ?_)
  have hu := hu_of hr
  refine sp_body hS0 (fun B xs p q c0 hl0 wx => ?_)
  obtain ⟨Cv, rfl, rfl, rfl⟩ := c0
  refine ⟨_, (pss_one (ps_ret pe_str)), ?_⟩
  clear hS0 hl0 hr hu wx
  have X_g_Loose := XX.g_Loose
  have X_R_Loose := XX.R_Loose
  have X_g_Kept := XX.g_Kept
  have X_R_Kept := XX.R_Kept
  have X_g_Make := XX.g_Make
  have X_R_Make := XX.R_Make
  have X_g_Watch := XX.g_Watch
  have X_R_Watch := XX.R_Watch
  have X_g_Hold := XX.g_Hold
  have X_R_Hold := XX.R_Hold
  have X_N_Loose := XX.N_Loose
  have X_ki_Loose_Hold := XX.ki_Loose_Hold
  have X_ki_Loose_Loose := XX.ki_Loose_Loose
  have X_ki_Loose_Kept := XX.ki_Loose_Kept
  have X_ki_Loose_Watch := XX.ki_Loose_Watch
  have X_ki_Loose_Make := XX.ki_Loose_Make
  have X_N_Kept := XX.N_Kept
  have X_ki_Kept_Hold := XX.ki_Kept_Hold
  have X_ki_Kept_Loose := XX.ki_Kept_Loose
  have X_ki_Kept_Kept := XX.ki_Kept_Kept
  have X_ki_Kept_Watch := XX.ki_Kept_Watch
  have X_ki_Kept_Make := XX.ki_Kept_Make
  have X_N_Make := XX.N_Make
  have X_ki_Make_Hold := XX.ki_Make_Hold
  have X_ki_Make_Loose := XX.ki_Make_Loose
  have X_ki_Make_Kept := XX.ki_Make_Kept
  have X_ki_Make_Watch := XX.ki_Make_Watch
  have X_ki_Make_Make := XX.ki_Make_Make
  have X_N_Watch := XX.N_Watch
  have X_ki_Watch_Hold := XX.ki_Watch_Hold
  have X_ki_Watch_Loose := XX.ki_Watch_Loose
  have X_ki_Watch_Kept := XX.ki_Watch_Kept
  have X_ki_Watch_Watch := XX.ki_Watch_Watch
  have X_ki_Watch_Make := XX.ki_Watch_Make
  have X_N_Hold := XX.N_Hold
  have X_ki_Hold_Hold := XX.ki_Hold_Hold
  have X_ki_Hold_Loose := XX.ki_Hold_Loose
  have X_ki_Hold_Kept := XX.ki_Hold_Kept
  have X_ki_Hold_Watch := XX.ki_Hold_Watch
  have X_ki_Hold_Make := XX.ki_Hold_Make
  simp only [List.map_cons, List.map_nil, List.length_cons, List.length_nil, List.cons_append, List.nil_append, Nat.reduceAdd, Nat.reduceSub, List.replicate_succ, List.replicate_zero, N_Kept__word]
  ((with_reducible refine gos_ret ?_); (with_reducible refine go_str ?_); walk_at "x0"; (focus skip); rotate_left)
  all_goals rfl
theorem cal_Make__word {zf : Addr} (D : DfM K "word" "Make.word" s_Make__word zf) {a_SkewError a_NoLevel a_Loose a_Kept a_Make a_Watch a_Hold : Addr} (XX : XF K mg a_SkewError a_NoLevel a_Loose a_Kept a_Make a_Watch a_Hold) (ME : Meth K a_Make "word" zf) : CalM P w K mg base a_Make "word" 1 ["self"] (C_Make__word mg a_Make) := by
  obtain ⟨fd, F⟩ := D
  refine ⟨zf, fd, ?_, ME, F.binds (ps := ["self"]) fun _ _ _ _ _ _ us hl => match us, hl with | [_], _ => rfl⟩
  refine F.ok sc_Make__word (fun vs H Q E hS0 => spP_len (n := 1) (fun xs p q c0 => by unfold C_Make__word at c0; obtain ⟨_, rfl, _⟩ := c0; rfl) hS0) (fun cdv A outer s H vs Q E hr hS0 => ?_)
  have hu := hu_of hr
  refine sp_body hS0 (fun B xs p q c0 hl0 wx => ?_)
  obtain ⟨Cv, rfl, rfl, rfl⟩ := c0
  refine ⟨_, (pss_one (ps_ret pe_str)), ?_⟩
  clear hS0 hl0 hr hu wx
  have X_g_Loose := XX.g_Loose
  have X_R_Loose := XX.R_Loose
  have X_g_Kept := XX.g_Kept
  have X_R_Kept := XX.R_Kept
  have X_g_Make := XX.g_Make
  have X_R_Make := XX.R_Make
  have X_g_Watch := XX.g_Watch
  have X_R_Watch := XX.R_Watch
  have X_g_Hold := XX.g_Hold
  have X_R_Hold := XX.R_Hold
  have X_N_Loose := XX.N_Loose
  have X_ki_Loose_Hold := XX.ki_Loose_Hold
  have X_ki_Loose_Loose := XX.ki_Loose_Loose
  have X_ki_Loose_Kept := XX.ki_Loose_Kept
  have X_ki_Loose_Watch := XX.ki_Loose_Watch
  have X_ki_Loose_Make := XX.ki_Loose_Make
  have X_N_Kept := XX.N_Kept
  have X_ki_Kept_Hold := XX.ki_Kept_Hold
  have X_ki_Kept_Loose := XX.ki_Kept_Loose
  have X_ki_Kept_Kept := XX.ki_Kept_Kept
  have X_ki_Kept_Watch := XX.ki_Kept_Watch
  have X_ki_Kept_Make := XX.ki_Kept_Make
  have X_N_Make := XX.N_Make
  have X_ki_Make_Hold := XX.ki_Make_Hold
  have X_ki_Make_Loose := XX.ki_Make_Loose
  have X_ki_Make_Kept := XX.ki_Make_Kept
  have X_ki_Make_Watch := XX.ki_Make_Watch
  have X_ki_Make_Make := XX.ki_Make_Make
  have X_N_Watch := XX.N_Watch
  have X_ki_Watch_Hold := XX.ki_Watch_Hold
  have X_ki_Watch_Loose := XX.ki_Watch_Loose
  have X_ki_Watch_Kept := XX.ki_Watch_Kept
  have X_ki_Watch_Watch := XX.ki_Watch_Watch
  have X_ki_Watch_Make := XX.ki_Watch_Make
  have X_N_Hold := XX.N_Hold
  have X_ki_Hold_Hold := XX.ki_Hold_Hold
  have X_ki_Hold_Loose := XX.ki_Hold_Loose
  have X_ki_Hold_Kept := XX.ki_Hold_Kept
  have X_ki_Hold_Watch := XX.ki_Hold_Watch
  have X_ki_Hold_Make := XX.ki_Hold_Make
  simp only [List.map_cons, List.map_nil, List.length_cons, List.length_nil, List.cons_append, List.nil_append, Nat.reduceAdd, Nat.reduceSub, List.replicate_succ, List.replicate_zero, N_Make__word]
  ((with_reducible refine gos_ret ?_); (with_reducible refine go_str ?_); walk_at "x0"; (focus skip); rotate_left)
  all_goals rfl
theorem cal_Watch__word {zf : Addr} (D : DfM K "word" "Watch.word" s_Watch__word zf) {a_SkewError a_NoLevel a_Loose a_Kept a_Make a_Watch a_Hold : Addr} (XX : XF K mg a_SkewError a_NoLevel a_Loose a_Kept a_Make a_Watch a_Hold) (ME : Meth K a_Watch "word" zf) : CalM P w K mg base a_Watch "word" 1 ["self"] (C_Watch__word mg a_Watch) := by
  obtain ⟨fd, F⟩ := D
  refine ⟨zf, fd, ?_, ME, F.binds (ps := ["self"]) fun _ _ _ _ _ _ us hl => match us, hl with | [_], _ => rfl⟩
  refine F.ok sc_Watch__word (fun vs H Q E hS0 => spP_len (n := 1) (fun xs p q c0 => by unfold C_Watch__word at c0; obtain ⟨_, rfl, _⟩ := c0; rfl) hS0) (fun cdv A outer s H vs Q E hr hS0 => ?_)
  have hu := hu_of hr
  refine sp_body hS0 (fun B xs p q c0 hl0 wx => ?_)
  obtain ⟨Cv, rfl, rfl, rfl⟩ := c0
  refine ⟨_, (pss_one (ps_ret pe_str)), ?_⟩
  clear hS0 hl0 hr hu wx
  have X_g_Loose := XX.g_Loose
  have X_R_Loose := XX.R_Loose
  have X_g_Kept := XX.g_Kept
  have X_R_Kept := XX.R_Kept
  have X_g_Make := XX.g_Make
  have X_R_Make := XX.R_Make
  have X_g_Watch := XX.g_Watch
  have X_R_Watch := XX.R_Watch
  have X_g_Hold := XX.g_Hold
  have X_R_Hold := XX.R_Hold
  have X_N_Loose := XX.N_Loose
  have X_ki_Loose_Hold := XX.ki_Loose_Hold
  have X_ki_Loose_Loose := XX.ki_Loose_Loose
  have X_ki_Loose_Kept := XX.ki_Loose_Kept
  have X_ki_Loose_Watch := XX.ki_Loose_Watch
  have X_ki_Loose_Make := XX.ki_Loose_Make
  have X_N_Kept := XX.N_Kept
  have X_ki_Kept_Hold := XX.ki_Kept_Hold
  have X_ki_Kept_Loose := XX.ki_Kept_Loose
  have X_ki_Kept_Kept := XX.ki_Kept_Kept
  have X_ki_Kept_Watch := XX.ki_Kept_Watch
  have X_ki_Kept_Make := XX.ki_Kept_Make
  have X_N_Make := XX.N_Make
  have X_ki_Make_Hold := XX.ki_Make_Hold
  have X_ki_Make_Loose := XX.ki_Make_Loose
  have X_ki_Make_Kept := XX.ki_Make_Kept
  have X_ki_Make_Watch := XX.ki_Make_Watch
  have X_ki_Make_Make := XX.ki_Make_Make
  have X_N_Watch := XX.N_Watch
  have X_ki_Watch_Hold := XX.ki_Watch_Hold
  have X_ki_Watch_Loose := XX.ki_Watch_Loose
  have X_ki_Watch_Kept := XX.ki_Watch_Kept
  have X_ki_Watch_Watch := XX.ki_Watch_Watch
  have X_ki_Watch_Make := XX.ki_Watch_Make
  have X_N_Hold := XX.N_Hold
  have X_ki_Hold_Hold := XX.ki_Hold_Hold
  have X_ki_Hold_Loose := XX.ki_Hold_Loose
  have X_ki_Hold_Kept := XX.ki_Hold_Kept
  have X_ki_Hold_Watch := XX.ki_Hold_Watch
  have X_ki_Hold_Make := XX.ki_Hold_Make
  simp only [List.map_cons, List.map_nil, List.length_cons, List.length_nil, List.cons_append, List.nil_append, Nat.reduceAdd, Nat.reduceSub, List.replicate_succ, List.replicate_zero, N_Watch__word]
  ((with_reducible refine gos_ret ?_); (with_reducible refine go_str ?_); walk_at "x0"; (focus skip); rotate_left)
  all_goals rfl
theorem cal_Hold__word {zf : Addr} (D : DfM K "word" "Hold.word" s_Hold__word zf) {a_SkewError a_NoLevel a_Loose a_Kept a_Make a_Watch a_Hold : Addr} (XX : XF K mg a_SkewError a_NoLevel a_Loose a_Kept a_Make a_Watch a_Hold) (ME : Meth K a_Hold "word" zf) : CalM P w K mg base a_Hold "word" 1 ["self"] (C_Hold__word mg a_Hold) := by
  obtain ⟨fd, F⟩ := D
  refine ⟨zf, fd, ?_, ME, F.binds (ps := ["self"]) fun _ _ _ _ _ _ us hl => match us, hl with | [_], _ => rfl⟩
  refine F.ok sc_Hold__word (fun vs H Q E hS0 => spP_len (n := 1) (fun xs p q c0 => by unfold C_Hold__word at c0; obtain ⟨_, rfl, _⟩ := c0; rfl) hS0) (fun cdv A outer s H vs Q E hr hS0 => ?_)
  have hu := hu_of hr
  refine sp_body hS0 (fun B xs p q c0 hl0 wx => ?_)
  obtain ⟨Cv, rfl, rfl, rfl⟩ := c0
  refine ⟨_, (pss_one (ps_ret pe_str)), ?_⟩
  clear hS0 hl0 hr hu wx
  have X_g_Loose := XX.g_Loose
  have X_R_Loose := XX.R_Loose
  have X_g_Kept := XX.g_Kept
  have X_R_Kept := XX.R_Kept
  have X_g_Make := XX.g_Make
  have X_R_Make := XX.R_Make
  have X_g_Watch := XX.g_Watch
  have X_R_Watch := XX.R_Watch
  have X_g_Hold := XX.g_Hold
  have X_R_Hold := XX.R_Hold
  have X_N_Loose := XX.N_Loose
  have X_ki_Loose_Hold := XX.ki_Loose_Hold
  have X_ki_Loose_Loose := XX.ki_Loose_Loose
  have X_ki_Loose_Kept := XX.ki_Loose_Kept
  have X_ki_Loose_Watch := XX.ki_Loose_Watch
  have X_ki_Loose_Make := XX.ki_Loose_Make
  have X_N_Kept := XX.N_Kept
  have X_ki_Kept_Hold := XX.ki_Kept_Hold
  have X_ki_Kept_Loose := XX.ki_Kept_Loose
  have X_ki_Kept_Kept := XX.ki_Kept_Kept
  have X_ki_Kept_Watch := XX.ki_Kept_Watch
  have X_ki_Kept_Make := XX.ki_Kept_Make
  have X_N_Make := XX.N_Make
  have X_ki_Make_Hold := XX.ki_Make_Hold
  have X_ki_Make_Loose := XX.ki_Make_Loose
  have X_ki_Make_Kept := XX.ki_Make_Kept
  have X_ki_Make_Watch := XX.ki_Make_Watch
  have X_ki_Make_Make := XX.ki_Make_Make
  have X_N_Watch := XX.N_Watch
  have X_ki_Watch_Hold := XX.ki_Watch_Hold
  have X_ki_Watch_Loose := XX.ki_Watch_Loose
  have X_ki_Watch_Kept := XX.ki_Watch_Kept
  have X_ki_Watch_Watch := XX.ki_Watch_Watch
  have X_ki_Watch_Make := XX.ki_Watch_Make
  have X_N_Hold := XX.N_Hold
  have X_ki_Hold_Hold := XX.ki_Hold_Hold
  have X_ki_Hold_Loose := XX.ki_Hold_Loose
  have X_ki_Hold_Kept := XX.ki_Hold_Kept
  have X_ki_Hold_Watch := XX.ki_Hold_Watch
  have X_ki_Hold_Make := XX.ki_Hold_Make
  simp only [List.map_cons, List.map_nil, List.length_cons, List.length_nil, List.cons_append, List.nil_append, Nat.reduceAdd, Nat.reduceSub, List.replicate_succ, List.replicate_zero, N_Hold__word]
  ((with_reducible refine gos_ret ?_); (with_reducible refine go_str ?_); walk_at "x0"; (focus skip); rotate_left)
  all_goals rfl
theorem cal_Loose__stand {zf : Addr} (D : DfM K "stand" "Loose.stand" s_Loose__stand zf) {a_SkewError a_NoLevel a_Loose a_Kept a_Make a_Watch a_Hold : Addr} (XX : XF K mg a_SkewError a_NoLevel a_Loose a_Kept a_Make a_Watch a_Hold) (ME : Meth K a_Loose "stand" zf) : CalM P w K mg base a_Loose "stand" 1 ["self", "begin", "now"] (C_Loose__stand mg a_Loose) := by
  obtain ⟨fd, F⟩ := D
  refine ⟨zf, fd, ?_, ME, F.binds (ps := ["self", "begin", "now"]) fun _ _ _ _ _ _ us hl => match us, hl with | [_, _, _], _ => rfl⟩
  refine F.ok sc_Loose__stand (fun vs H Q E hS0 => spP_len (n := 3) (fun xs p q c0 => by unfold C_Loose__stand at c0; obtain ⟨_, _, _, rfl, _⟩ := c0; rfl) hS0) (fun cdv A outer s H vs Q E hr hS0 => ?_)
  have hu := hu_of hr
  refine sp_body hS0 (fun B xs p q c0 hl0 wx => ?_)
  obtain ⟨Cv, b, n, rfl, rfl, rfl⟩ := c0
  refine ⟨_, (pss_one (ps_ret (pv 2))), ?_⟩
  clear hS0 hl0 hr hu wx
  have X_g_Loose := XX.g_Loose
  have X_R_Loose := XX.R_Loose
  have X_g_Kept := XX.g_Kept
  have X_R_Kept := XX.R_Kept
  have X_g_Make := XX.g_Make
  have X_R_Make := XX.R_Make
  have X_g_Watch := XX.g_Watch
  have X_R_Watch := XX.R_Watch
  have X_g_Hold := XX.g_Hold
  have X_R_Hold := XX.R_Hold
  have X_N_Loose := XX.N_Loose
  have X_ki_Loose_Hold := XX.ki_Loose_Hold
  have X_ki_Loose_Loose := XX.ki_Loose_Loose
  have X_ki_Loose_Kept := XX.ki_Loose_Kept
  have X_ki_Loose_Watch := XX.ki_Loose_Watch
  have X_ki_Loose_Make := XX.ki_Loose_Make
  have X_N_Kept := XX.N_Kept
  have X_ki_Kept_Hold := XX.ki_Kept_Hold
  have X_ki_Kept_Loose := XX.ki_Kept_Loose
  have X_ki_Kept_Kept := XX.ki_Kept_Kept
  have X_ki_Kept_Watch := XX.ki_Kept_Watch
  have X_ki_Kept_Make := XX.ki_Kept_Make
  have X_N_Make := XX.N_Make
  have X_ki_Make_Hold := XX.ki_Make_Hold
  have X_ki_Make_Loose := XX.ki_Make_Loose
  have X_ki_Make_Kept := XX.ki_Make_Kept
  have X_ki_Make_Watch := XX.ki_Make_Watch
  have X_ki_Make_Make := XX.ki_Make_Make
  have X_N_Watch := XX.N_Watch
  have X_ki_Watch_Hold := XX.ki_Watch_Hold
  have X_ki_Watch_Loose := XX.ki_Watch_Loose
  have X_ki_Watch_Kept := XX.ki_Watch_Kept
  have X_ki_Watch_Watch := XX.ki_Watch_Watch
  have X_ki_Watch_Make := XX.ki_Watch_Make
  have X_N_Hold := XX.N_Hold
  have X_ki_Hold_Hold := XX.ki_Hold_Hold
  have X_ki_Hold_Loose := XX.ki_Hold_Loose
  have X_ki_Hold_Kept := XX.ki_Hold_Kept
  have X_ki_Hold_Watch := XX.ki_Hold_Watch
  have X_ki_Hold_Make := XX.ki_Hold_Make
  simp only [List.map_cons, List.map_nil, List.length_cons, List.length_nil, List.cons_append, List.nil_append, Nat.reduceAdd, Nat.reduceSub, List.replicate_succ, List.replicate_zero, N_Loose__stand]
  ((with_reducible refine gos_ret ?_); walk_at "x1"; walk_at "x0"; (focus skip); rotate_left)
  all_goals rfl
theorem cal_Kept__stand {zf : Addr} (D : DfM K "stand" "Loose.stand" s_Kept__stand zf) {a_SkewError a_NoLevel a_Loose a_Kept a_Make a_Watch a_Hold : Addr} (XX : XF K mg a_SkewError a_NoLevel a_Loose a_Kept a_Make a_Watch a_Hold) (ME : Meth K a_Kept "stand" zf) : CalM P w K mg base a_Kept "stand" 1 ["self", "begin", "now"] (C_Kept__stand mg a_Kept) := by
  obtain ⟨fd, F⟩ := D
  refine ⟨zf, fd, ?_, ME, F.binds (ps := ["self", "begin", "now"]) fun _ _ _ _ _ _ us hl => match us, hl with | [_, _, _], _ => rfl⟩
  refine F.ok sc_Kept__stand (fun vs H Q E hS0 => spP_len (n := 3) (fun xs p q c0 => by unfold C_Kept__stand at c0; obtain ⟨_, _, _, rfl, _⟩ := c0; rfl) hS0) (fun cdv A outer s H vs Q E hr hS0 => ?_)
  have hu := hu_of hr
  refine sp_body hS0 (fun B xs p q c0 hl0 wx => ?_)
  obtain ⟨Cv, b, n, rfl, rfl, rfl⟩ := c0
  refine ⟨_, (pss_one (ps_ret (pv 2))), ?_⟩
  clear hS0 hl0 hr hu wx
  have X_g_Loose := XX.g_Loose
  have X_R_Loose := XX.R_Loose
  have X_g_Kept := XX.g_Kept
  have X_R_Kept := XX.R_Kept
  have X_g_Make := XX.g_Make
  have X_R_Make := XX.R_Make
  have X_g_Watch := XX.g_Watch
  have X_R_Watch := XX.R_Watch
  have X_g_Hold := XX.g_Hold
  have X_R_Hold := XX.R_Hold
  have X_N_Loose := XX.N_Loose
  have X_ki_Loose_Hold := XX.ki_Loose_Hold
  have X_ki_Loose_Loose := XX.ki_Loose_Loose
  have X_ki_Loose_Kept := XX.ki_Loose_Kept
  have X_ki_Loose_Watch := XX.ki_Loose_Watch
  have X_ki_Loose_Make := XX.ki_Loose_Make
  have X_N_Kept := XX.N_Kept
  have X_ki_Kept_Hold := XX.ki_Kept_Hold
  have X_ki_Kept_Loose := XX.ki_Kept_Loose
  have X_ki_Kept_Kept := XX.ki_Kept_Kept
  have X_ki_Kept_Watch := XX.ki_Kept_Watch
  have X_ki_Kept_Make := XX.ki_Kept_Make
  have X_N_Make := XX.N_Make
  have X_ki_Make_Hold := XX.ki_Make_Hold
  have X_ki_Make_Loose := XX.ki_Make_Loose
  have X_ki_Make_Kept := XX.ki_Make_Kept
  have X_ki_Make_Watch := XX.ki_Make_Watch
  have X_ki_Make_Make := XX.ki_Make_Make
  have X_N_Watch := XX.N_Watch
  have X_ki_Watch_Hold := XX.ki_Watch_Hold
  have X_ki_Watch_Loose := XX.ki_Watch_Loose
  have X_ki_Watch_Kept := XX.ki_Watch_Kept
  have X_ki_Watch_Watch := XX.ki_Watch_Watch
  have X_ki_Watch_Make := XX.ki_Watch_Make
  have X_N_Hold := XX.N_Hold
  have X_ki_Hold_Hold := XX.ki_Hold_Hold
  have X_ki_Hold_Loose := XX.ki_Hold_Loose
  have X_ki_Hold_Kept := XX.ki_Hold_Kept
  have X_ki_Hold_Watch := XX.ki_Hold_Watch
  have X_ki_Hold_Make := XX.ki_Hold_Make
  simp only [List.map_cons, List.map_nil, List.length_cons, List.length_nil, List.cons_append, List.nil_append, Nat.reduceAdd, Nat.reduceSub, List.replicate_succ, List.replicate_zero, N_Kept__stand]
  ((with_reducible refine gos_ret ?_); walk_at "x1"; walk_at "x0"; (focus skip); rotate_left)
  all_goals rfl
theorem cal_Make__stand {zf : Addr} (D : DfM K "stand" "Make.stand" s_Make__stand zf) {a_SkewError a_NoLevel a_Loose a_Kept a_Make a_Watch a_Hold : Addr} (XX : XF K mg a_SkewError a_NoLevel a_Loose a_Kept a_Make a_Watch a_Hold) (ME : Meth K a_Make "stand" zf) : CalM P w K mg base a_Make "stand" 1 ["self", "begin", "now"] (C_Make__stand mg a_Make) := by
  obtain ⟨fd, F⟩ := D
  refine ⟨zf, fd, ?_, ME, F.binds (ps := ["self", "begin", "now"]) fun _ _ _ _ _ _ us hl => match us, hl with | [_, _, _], _ => rfl⟩
  refine F.ok sc_Make__stand (fun vs H Q E hS0 => spP_len (n := 3) (fun xs p q c0 => by unfold C_Make__stand at c0; obtain ⟨_, _, _, rfl, _⟩ := c0; rfl) hS0) (fun cdv A outer s H vs Q E hr hS0 => ?_)
  have hu := hu_of hr
  refine sp_body hS0 (fun B xs p q c0 hl0 wx => ?_)
  obtain ⟨Cv, b, n, rfl, rfl, rfl⟩ := c0
  refine ⟨_, (pss_one (ps_ret (pv 1))), ?_⟩
  clear hS0 hl0 hr hu wx
  have X_g_Loose := XX.g_Loose
  have X_R_Loose := XX.R_Loose
  have X_g_Kept := XX.g_Kept
  have X_R_Kept := XX.R_Kept
  have X_g_Make := XX.g_Make
  have X_R_Make := XX.R_Make
  have X_g_Watch := XX.g_Watch
  have X_R_Watch := XX.R_Watch
  have X_g_Hold := XX.g_Hold
  have X_R_Hold := XX.R_Hold
  have X_N_Loose := XX.N_Loose
  have X_ki_Loose_Hold := XX.ki_Loose_Hold
  have X_ki_Loose_Loose := XX.ki_Loose_Loose
  have X_ki_Loose_Kept := XX.ki_Loose_Kept
  have X_ki_Loose_Watch := XX.ki_Loose_Watch
  have X_ki_Loose_Make := XX.ki_Loose_Make
  have X_N_Kept := XX.N_Kept
  have X_ki_Kept_Hold := XX.ki_Kept_Hold
  have X_ki_Kept_Loose := XX.ki_Kept_Loose
  have X_ki_Kept_Kept := XX.ki_Kept_Kept
  have X_ki_Kept_Watch := XX.ki_Kept_Watch
  have X_ki_Kept_Make := XX.ki_Kept_Make
  have X_N_Make := XX.N_Make
  have X_ki_Make_Hold := XX.ki_Make_Hold
  have X_ki_Make_Loose := XX.ki_Make_Loose
  have X_ki_Make_Kept := XX.ki_Make_Kept
  have X_ki_Make_Watch := XX.ki_Make_Watch
  have X_ki_Make_Make := XX.ki_Make_Make
  have X_N_Watch := XX.N_Watch
  have X_ki_Watch_Hold := XX.ki_Watch_Hold
  have X_ki_Watch_Loose := XX.ki_Watch_Loose
  have X_ki_Watch_Kept := XX.ki_Watch_Kept
  have X_ki_Watch_Watch := XX.ki_Watch_Watch
  have X_ki_Watch_Make := XX.ki_Watch_Make
  have X_N_Hold := XX.N_Hold
  have X_ki_Hold_Hold := XX.ki_Hold_Hold
  have X_ki_Hold_Loose := XX.ki_Hold_Loose
  have X_ki_Hold_Kept := XX.ki_Hold_Kept
  have X_ki_Hold_Watch := XX.ki_Hold_Watch
  have X_ki_Hold_Make := XX.ki_Hold_Make
  simp only [List.map_cons, List.map_nil, List.length_cons, List.length_nil, List.cons_append, List.nil_append, Nat.reduceAdd, Nat.reduceSub, List.replicate_succ, List.replicate_zero, N_Make__stand]
  ((with_reducible refine gos_ret ?_); walk_at "x1"; walk_at "x0"; (focus skip); rotate_left)
  all_goals rfl
theorem cal_Watch__stand {zf : Addr} (D : DfM K "stand" "Make.stand" s_Watch__stand zf) {a_SkewError a_NoLevel a_Loose a_Kept a_Make a_Watch a_Hold : Addr} (XX : XF K mg a_SkewError a_NoLevel a_Loose a_Kept a_Make a_Watch a_Hold) (ME : Meth K a_Watch "stand" zf) : CalM P w K mg base a_Watch "stand" 1 ["self", "begin", "now"] (C_Watch__stand mg a_Watch) := by
  obtain ⟨fd, F⟩ := D
  refine ⟨zf, fd, ?_, ME, F.binds (ps := ["self", "begin", "now"]) fun _ _ _ _ _ _ us hl => match us, hl with | [_, _, _], _ => rfl⟩
  refine F.ok sc_Watch__stand (fun vs H Q E hS0 => spP_len (n := 3) (fun xs p q c0 => by unfold C_Watch__stand at c0; obtain ⟨_, _, _, rfl, _⟩ := c0; rfl) hS0) (fun cdv A outer s H vs Q E hr hS0 => ?_)
  have hu := hu_of hr
  refine sp_body hS0 (fun B xs p q c0 hl0 wx => ?_)
  obtain ⟨Cv, b, n, rfl, rfl, rfl⟩ := c0
  refine ⟨_, (pss_one (ps_ret (pv 1))), ?_⟩
  clear hS0 hl0 hr hu wx
  have X_g_Loose := XX.g_Loose
  have X_R_Loose := XX.R_Loose
  have X_g_Kept := XX.g_Kept
  have X_R_Kept := XX.R_Kept
  have X_g_Make := XX.g_Make
  have X_R_Make := XX.R_Make
  have X_g_Watch := XX.g_Watch
  have X_R_Watch := XX.R_Watch
  have X_g_Hold := XX.g_Hold
  have X_R_Hold := XX.R_Hold
  have X_N_Loose := XX.N_Loose
  have X_ki_Loose_Hold := XX.ki_Loose_Hold
  have X_ki_Loose_Loose := XX.ki_Loose_Loose
  have X_ki_Loose_Kept := XX.ki_Loose_Kept
  have X_ki_Loose_Watch := XX.ki_Loose_Watch
  have X_ki_Loose_Make := XX.ki_Loose_Make
  have X_N_Kept := XX.N_Kept
  have X_ki_Kept_Hold := XX.ki_Kept_Hold
  have X_ki_Kept_Loose := XX.ki_Kept_Loose
  have X_ki_Kept_Kept := XX.ki_Kept_Kept
  have X_ki_Kept_Watch := XX.ki_Kept_Watch
  have X_ki_Kept_Make := XX.ki_Kept_Make
  have X_N_Make := XX.N_Make
  have X_ki_Make_Hold := XX.ki_Make_Hold
  have X_ki_Make_Loose := XX.ki_Make_Loose
  have X_ki_Make_Kept := XX.ki_Make_Kept
  have X_ki_Make_Watch := XX.ki_Make_Watch
  have X_ki_Make_Make := XX.ki_Make_Make
  have X_N_Watch := XX.N_Watch
  have X_ki_Watch_Hold := XX.ki_Watch_Hold
  have X_ki_Watch_Loose := XX.ki_Watch_Loose
  have X_ki_Watch_Kept := XX.ki_Watch_Kept
  have X_ki_Watch_Watch := XX.ki_Watch_Watch
  have X_ki_Watch_Make := XX.ki_Watch_Make
  have X_N_Hold := XX.N_Hold
  have X_ki_Hold_Hold := XX.ki_Hold_Hold
  have X_ki_Hold_Loose := XX.ki_Hold_Loose
  have X_ki_Hold_Kept := XX.ki_Hold_Kept
  have X_ki_Hold_Watch := XX.ki_Hold_Watch
  have X_ki_Hold_Make := XX.ki_Hold_Make
  simp only [List.map_cons, List.map_nil, List.length_cons, List.length_nil, List.cons_append, List.nil_append, Nat.reduceAdd, Nat.reduceSub, List.replicate_succ, List.replicate_zero, N_Watch__stand]
  ((with_reducible refine gos_ret ?_); walk_at "x1"; walk_at "x0"; (focus skip); rotate_left)
  all_goals rfl
theorem cal_Hold__stand {zf : Addr} (D : DfM K "stand" "Loose.stand" s_Hold__stand zf) {a_SkewError a_NoLevel a_Loose a_Kept a_Make a_Watch a_Hold : Addr} (XX : XF K mg a_SkewError a_NoLevel a_Loose a_Kept a_Make a_Watch a_Hold) (ME : Meth K a_Hold "stand" zf) : CalM P w K mg base a_Hold "stand" 1 ["self", "begin", "now"] (C_Hold__stand mg a_Hold) := by
  obtain ⟨fd, F⟩ := D
  refine ⟨zf, fd, ?_, ME, F.binds (ps := ["self", "begin", "now"]) fun _ _ _ _ _ _ us hl => match us, hl with | [_, _, _], _ => rfl⟩
  refine F.ok sc_Hold__stand (fun vs H Q E hS0 => spP_len (n := 3) (fun xs p q c0 => by unfold C_Hold__stand at c0; obtain ⟨_, _, _, rfl, _⟩ := c0; rfl) hS0) (fun cdv A outer s H vs Q E hr hS0 => ?_)
  have hu := hu_of hr
  refine sp_body hS0 (fun B xs p q c0 hl0 wx => ?_)
  obtain ⟨Cv, b, n, rfl, rfl, rfl⟩ := c0
  refine ⟨_, (pss_one (ps_ret (pv 2))), ?_⟩
  clear hS0 hl0 hr hu wx
  have X_g_Loose := XX.g_Loose
  have X_R_Loose := XX.R_Loose
  have X_g_Kept := XX.g_Kept
  have X_R_Kept := XX.R_Kept
  have X_g_Make := XX.g_Make
  have X_R_Make := XX.R_Make
  have X_g_Watch := XX.g_Watch
  have X_R_Watch := XX.R_Watch
  have X_g_Hold := XX.g_Hold
  have X_R_Hold := XX.R_Hold
  have X_N_Loose := XX.N_Loose
  have X_ki_Loose_Hold := XX.ki_Loose_Hold
  have X_ki_Loose_Loose := XX.ki_Loose_Loose
  have X_ki_Loose_Kept := XX.ki_Loose_Kept
  have X_ki_Loose_Watch := XX.ki_Loose_Watch
  have X_ki_Loose_Make := XX.ki_Loose_Make
  have X_N_Kept := XX.N_Kept
  have X_ki_Kept_Hold := XX.ki_Kept_Hold
  have X_ki_Kept_Loose := XX.ki_Kept_Loose
  have X_ki_Kept_Kept := XX.ki_Kept_Kept
  have X_ki_Kept_Watch := XX.ki_Kept_Watch
  have X_ki_Kept_Make := XX.ki_Kept_Make
  have X_N_Make := XX.N_Make
  have X_ki_Make_Hold := XX.ki_Make_Hold
  have X_ki_Make_Loose := XX.ki_Make_Loose
  have X_ki_Make_Kept := XX.ki_Make_Kept
  have X_ki_Make_Watch := XX.ki_Make_Watch
  have X_ki_Make_Make := XX.ki_Make_Make
  have X_N_Watch := XX.N_Watch
  have X_ki_Watch_Hold := XX.ki_Watch_Hold
  have X_ki_Watch_Loose := XX.ki_Watch_Loose
  have X_ki_Watch_Kept := XX.ki_Watch_Kept
  have X_ki_Watch_Watch := XX.ki_Watch_Watch
  have X_ki_Watch_Make := XX.ki_Watch_Make
  have X_N_Hold := XX.N_Hold
  have X_ki_Hold_Hold := XX.ki_Hold_Hold
  have X_ki_Hold_Loose := XX.ki_Hold_Loose
  have X_ki_Hold_Kept := XX.ki_Hold_Kept
  have X_ki_Hold_Watch := XX.ki_Hold_Watch
  have X_ki_Hold_Make := XX.ki_Hold_Make
  simp only [List.map_cons, List.map_nil, List.length_cons, List.length_nil, List.cons_append, List.nil_append, Nat.reduceAdd, Nat.reduceSub, List.replicate_succ, List.replicate_zero, N_Hold__stand]
  ((with_reducible refine gos_ret ?_); walk_at "x1"; walk_at "x0"; (focus skip); rotate_left)
  all_goals rfl
theorem cal_level_of (D : Df K mg "level_of" s_level_of) {a_SkewError a_NoLevel a_Loose a_Kept a_Make a_Watch a_Hold : Addr} (XX : XF K mg a_SkewError a_NoLevel a_Loose a_Kept a_Make a_Watch a_Hold) : CalX P w K mg base "level_of" 1 ["word"] (C_level_of mg) := by
  obtain ⟨f, fd, F, mf⟩ := D
  refine ⟨f, fd, ?_, mf, F.kp, F.binds (ps := ["word"]) fun _ _ _ _ _ _ us hl => match us, hl with | [_], _ => rfl, Fun.lk F⟩
  refine F.okX sc_level_of (fun vs H Q E hS0 => spP_len (n := 1) (fun xs p q c0 => by unfold C_level_of at c0; obtain ⟨_, rfl, _⟩ := c0; rfl) hS0) (fun cdv A outer s H vs Q E hr hS0 => ?_)
  have hu := hu_of hr
  refine sp_body hS0 (fun B xs p q c0 hl0 wx => ?_)
  obtain ⟨s, rfl, rfl, rfl⟩ := c0
  refine ⟨_, (pss_cons (ps_if (pt_cmpR (k_eq (K := K) rfl hr.units) (pv 0) pe_str (nomark _))
        (pss_one (ps_ret (pe_make00 XX.M_Loose (by rfl) XX.g_Loose)))
        pss_nil)
      (pss_cons (ps_if (pt_cmpR (k_eq (K := K) rfl hr.units) (pv 0) pe_str (nomark _))
        (pss_one (ps_ret (pe_make00 XX.M_Kept (by rfl) XX.g_Kept)))
        pss_nil)
      (pss_cons (ps_if (pt_cmpR (k_eq (K := K) rfl hr.units) (pv 0) pe_str (nomark _))
        (pss_one (ps_ret (pe_make00 XX.M_Make (by rfl) XX.g_Make)))
        pss_nil)
      (pss_cons (ps_if (pt_cmpR (k_eq (K := K) rfl hr.units) (pv 0) pe_str (nomark _))
        (pss_one (ps_ret (pe_make00 XX.M_Watch (by rfl) XX.g_Watch)))
        pss_nil)
      (pss_cons (ps_if (pt_cmpR (k_eq (K := K) rfl hr.units) (pv 0) pe_str (nomark _))
        (pss_one (ps_ret (pe_make00 XX.M_Hold (by rfl) XX.g_Hold)))
        pss_nil)
      (pss_one (k_raise rfl (L2.takes_of rfl rfl rfl rfl) XX.x_NoLevel))))))), ?_⟩
  clear hS0 hl0 hr hu
  have X_g_Loose := XX.g_Loose
  have X_R_Loose := XX.R_Loose
  have X_g_Kept := XX.g_Kept
  have X_R_Kept := XX.R_Kept
  have X_g_Make := XX.g_Make
  have X_R_Make := XX.R_Make
  have X_g_Watch := XX.g_Watch
  have X_R_Watch := XX.R_Watch
  have X_g_Hold := XX.g_Hold
  have X_R_Hold := XX.R_Hold
  have X_N_Loose := XX.N_Loose
  have X_ki_Loose_Hold := XX.ki_Loose_Hold
  have X_ki_Loose_Loose := XX.ki_Loose_Loose
  have X_ki_Loose_Kept := XX.ki_Loose_Kept
  have X_ki_Loose_Watch := XX.ki_Loose_Watch
  have X_ki_Loose_Make := XX.ki_Loose_Make
  have X_N_Kept := XX.N_Kept
  have X_ki_Kept_Hold := XX.ki_Kept_Hold
  have X_ki_Kept_Loose := XX.ki_Kept_Loose
  have X_ki_Kept_Kept := XX.ki_Kept_Kept
  have X_ki_Kept_Watch := XX.ki_Kept_Watch
  have X_ki_Kept_Make := XX.ki_Kept_Make
  have X_N_Make := XX.N_Make
  have X_ki_Make_Hold := XX.ki_Make_Hold
  have X_ki_Make_Loose := XX.ki_Make_Loose
  have X_ki_Make_Kept := XX.ki_Make_Kept
  have X_ki_Make_Watch := XX.ki_Make_Watch
  have X_ki_Make_Make := XX.ki_Make_Make
  have X_N_Watch := XX.N_Watch
  have X_ki_Watch_Hold := XX.ki_Watch_Hold
  have X_ki_Watch_Loose := XX.ki_Watch_Loose
  have X_ki_Watch_Kept := XX.ki_Watch_Kept
  have X_ki_Watch_Watch := XX.ki_Watch_Watch
  have X_ki_Watch_Make := XX.ki_Watch_Make
  have X_N_Hold := XX.N_Hold
  have X_ki_Hold_Hold := XX.ki_Hold_Hold
  have X_ki_Hold_Loose := XX.ki_Hold_Loose
  have X_ki_Hold_Kept := XX.ki_Hold_Kept
  have X_ki_Hold_Watch := XX.ki_Hold_Watch
  have X_ki_Hold_Make := XX.ki_Hold_Make
  simp only [List.map_cons, List.map_nil, List.length_cons, List.length_nil, List.cons_append, List.nil_append, Nat.reduceAdd, Nat.reduceSub, List.replicate_succ, List.replicate_zero, N_level_of]
  have l0 := lvD_of .loose X_g_Loose
  have l1 := lvD_of .kept X_g_Kept
  have l2 := lvD_of .make X_g_Make
  have l3 := lvD_of .watch X_g_Watch
  have l4 := lvD_of .hold X_g_Hold
  ((with_reducible refine gos_sIR ?_); (with_reducible refine gos_if ?_); (with_reducible refine got_test ?_); (with_reducible refine go_op ?_); walk_at "x1"; (with_reducible refine go_str ?_); walk_at "x0"; (with_reducible refine o2_eqS ?_); walk_at "x2"; walk_at "x3"; (with_reducible refine gos_ret ?_); walk_at "x0"; (with_reducible refine go_make00 ?_); (focus skip); rotate_left; (with_reducible refine gos_next ?_); (with_reducible refine gos_sIR ?_); (with_reducible refine gos_if ?_); (with_reducible refine got_test ?_); (with_reducible refine go_op ?_); walk_at "x1"; (with_reducible refine go_str ?_); walk_at "x0"; (with_reducible refine o2_eqS ?_); walk_at "x2"; walk_at "x3"; (with_reducible refine gos_ret ?_); walk_at "x0"; (with_reducible refine go_make00 ?_); (focus skip); rotate_left; (with_reducible refine gos_next ?_); (with_reducible refine gos_sIR ?_); (with_reducible refine gos_if ?_); (with_reducible refine got_test ?_); (with_reducible refine go_op ?_); walk_at "x1"; (with_reducible refine go_str ?_); walk_at "x0"; (with_reducible refine o2_eqS ?_); walk_at "x2"; walk_at "x3"; (with_reducible refine gos_ret ?_); walk_at "x0"; (with_reducible refine go_make00 ?_); (focus skip); rotate_left; (with_reducible refine gos_next ?_); (with_reducible refine gos_sIR ?_); (with_reducible refine gos_if ?_); (with_reducible refine got_test ?_); (with_reducible refine go_op ?_); walk_at "x1"; (with_reducible refine go_str ?_); walk_at "x0"; (with_reducible refine o2_eqS ?_); walk_at "x2"; walk_at "x3"; (with_reducible refine gos_ret ?_); walk_at "x0"; (with_reducible refine go_make00 ?_); (focus skip); rotate_left; (with_reducible refine gos_next ?_); (with_reducible refine gos_sIR ?_); (with_reducible refine gos_if ?_); (with_reducible refine got_test ?_); (with_reducible refine go_op ?_); walk_at "x1"; (with_reducible refine go_str ?_); walk_at "x0"; (with_reducible refine o2_eqS ?_); walk_at "x2"; walk_at "x3"; (with_reducible refine gos_ret ?_); walk_at "x0"; (with_reducible refine go_make00 ?_); (focus skip); rotate_left; (with_reducible refine gos_next ?_); walk_at "x4"; walk_at "x0"; (focus skip); rotate_left)
  · exact ⟨.loose, by rw [show s = "loose" by assumption]; decide, by rw [l0]⟩
  · exact ⟨.kept, by rw [show s = "kept" by assumption]; decide, by rw [l1]⟩
  · exact ⟨.make, by rw [show s = "make" by assumption]; decide, by rw [l2]⟩
  · exact ⟨.watch, by rw [show s = "watch" by assumption]; decide, by rw [l3]⟩
  · exact ⟨.hold, by rw [show s = "hold" by assumption]; decide, by rw [l4]⟩
  · have hn : lvOf s = none := by
      unfold lvOf
      rw [if_neg (by assumption), if_neg (by assumption), if_neg (by assumption), if_neg (by assumption), if_neg (by assumption)]
    exact ⟨trivial, XX.g_NoLevel, hn⟩
theorem cal__law_refused (D : Df K mg "_law_refused" s__law_refused) {a_SkewError a_NoLevel a_Loose a_Kept a_Make a_Watch a_Hold : Addr} (XX : XF K mg a_SkewError a_NoLevel a_Loose a_Kept a_Make a_Watch a_Hold) (c_level_of : CalX P w K mg base "level_of" 1 ["word"] (C_level_of mg)) (b_ValueError : mg "ValueError" = none) (b_isinstance : mg "isinstance" = none) : Cal P w K mg base "_law_refused" 2 ["_law_word"] (C__law_refused mg) := by
  obtain ⟨f, fd, F, mf⟩ := D
  obtain ⟨f_level_of, fd_level_of, G_level_of, g_level_of, k_level_of, bn_level_of, _⟩ := c_level_of
  refine ⟨f, fd, ?_, mf, F.kp, F.binds (ps := ["_law_word"]) fun _ _ _ _ _ _ us hl => match us, hl with | [_], _ => rfl, Fun.lk F⟩
  refine F.ok sc__law_refused (fun vs H Q E hS0 => spP_len (n := 1) (fun xs p q c0 => by unfold C__law_refused at c0; obtain ⟨_, rfl, _⟩ := c0; rfl) hS0) (fun cdv A outer s H vs Q E hr hS0 => ?_)
  have hu := hu_of hr
  refine sp_body hS0 (fun B xs p q c0 hl0 wx => ?_)
  obtain ⟨s, rfl, hp0, rfl, rfl⟩ := c0
  refine ⟨_, (pss_cons (k_tryAs (K := K) (i := 1) sc__law_refused.nd ⟨rfl, by decide, .inl XX.g_SkewError⟩ takes0 (fun W pn xe tk po =>
        (pss_one (ps_expr (pe_callS G_level_of hr rfl g_level_of k_level_of bn_level_of (fun σ => L2.passAt tk σ) (pa_cons (pv 0) pa_nil))))) (fun a oe cls d pn hz hf =>
        (pss_one (ps_ret (pe_and (pe_callB (k_isX (K := K) rfl hz hf) (by rfl) b_isinstance (by decide +kernel) (pa_cons (pv 1) (pa_cons (pe_glob (v := .ref a_NoLevel) (by rfl) XX.g_NoLevel rfl) pa_nil))) (pe_one (pe_callB (k_isX (K := K) rfl hz hf) (by rfl) b_isinstance (by decide +kernel) (pa_cons (pv 1) (pa_cons (pe_bltn (v := .ty "ValueError") (u := .type "ValueError") (by rfl) b_ValueError (by decide +kernel) rfl) pa_nil)))))))))
      (pss_one (ps_ret pe_bl))), ?_⟩
  clear hS0 hl0 hr hu wx G_level_of g_level_of k_level_of bn_level_of b_ValueError b_isinstance
  have X_g_SkewError := XX.g_SkewError
  have X_g_NoLevel := XX.g_NoLevel
  have X_x_NoLevel := XX.x_NoLevel
  have X_e_NoLevel := XX.e_NoLevel
  have X_em_NoLevel_SkewError := XX.em_NoLevel_SkewError
  have X_ki_NoLevel_NoLevel := XX.ki_NoLevel_NoLevel
  have X_kt_NoLevel_ValueError := XX.kt_NoLevel_ValueError
  have X_g_Loose := XX.g_Loose
  have X_R_Loose := XX.R_Loose
  have X_M_Loose := XX.M_Loose
  have X_g_Kept := XX.g_Kept
  have X_R_Kept := XX.R_Kept
  have X_M_Kept := XX.M_Kept
  have X_g_Make := XX.g_Make
  have X_R_Make := XX.R_Make
  have X_M_Make := XX.M_Make
  have X_g_Watch := XX.g_Watch
  have X_R_Watch := XX.R_Watch
  have X_M_Watch := XX.M_Watch
  have X_g_Hold := XX.g_Hold
  have X_R_Hold := XX.R_Hold
  have X_M_Hold := XX.M_Hold
  have X_N_Loose := XX.N_Loose
  have X_ki_Loose_Hold := XX.ki_Loose_Hold
  have X_ki_Loose_Loose := XX.ki_Loose_Loose
  have X_ki_Loose_Kept := XX.ki_Loose_Kept
  have X_ki_Loose_Watch := XX.ki_Loose_Watch
  have X_ki_Loose_Make := XX.ki_Loose_Make
  have X_N_Kept := XX.N_Kept
  have X_ki_Kept_Hold := XX.ki_Kept_Hold
  have X_ki_Kept_Loose := XX.ki_Kept_Loose
  have X_ki_Kept_Kept := XX.ki_Kept_Kept
  have X_ki_Kept_Watch := XX.ki_Kept_Watch
  have X_ki_Kept_Make := XX.ki_Kept_Make
  have X_N_Make := XX.N_Make
  have X_ki_Make_Hold := XX.ki_Make_Hold
  have X_ki_Make_Loose := XX.ki_Make_Loose
  have X_ki_Make_Kept := XX.ki_Make_Kept
  have X_ki_Make_Watch := XX.ki_Make_Watch
  have X_ki_Make_Make := XX.ki_Make_Make
  have X_N_Watch := XX.N_Watch
  have X_ki_Watch_Hold := XX.ki_Watch_Hold
  have X_ki_Watch_Loose := XX.ki_Watch_Loose
  have X_ki_Watch_Kept := XX.ki_Watch_Kept
  have X_ki_Watch_Watch := XX.ki_Watch_Watch
  have X_ki_Watch_Make := XX.ki_Watch_Make
  have X_N_Hold := XX.N_Hold
  have X_ki_Hold_Hold := XX.ki_Hold_Hold
  have X_ki_Hold_Loose := XX.ki_Hold_Loose
  have X_ki_Hold_Kept := XX.ki_Hold_Kept
  have X_ki_Hold_Watch := XX.ki_Hold_Watch
  have X_ki_Hold_Make := XX.ki_Hold_Make
  simp only [List.map_cons, List.map_nil, List.length_cons, List.length_nil, List.cons_append, List.nil_append, Nat.reduceAdd, Nat.reduceSub, List.replicate_succ, List.replicate_zero, N__law_refused]
  ((with_reducible refine gos_sTA ?_); walk_at "x0"; (focus skip); rotate_left)
  refine gos_tryAs (fun Cc fs Γ => fs = none ∧ mg "NoLevel" = some (.ref Cc) ∧ Γ = [some (O.d (.str s)), none]) ?_ ?_
  · intro F' B' W hw
    ((with_reducible refine gos_drop ?_); walk_at "x0"; walk_at "x5"; (with_reducible refine goa_cons ?_); walk_at "x1"; (with_reducible refine goa_nil ?_); walk_at "x2"; walk_at "x0"; (focus skip); rotate_left)
    refine ⟨fun l hl => ?_, fun Cc fs ⟨h1, h2, _⟩ => ⟨h1, h2, trivial⟩⟩
    rw [hp0] at hl; cases hl
  · rintro F' B' Cc fs Γ' ⟨rfl, e1, rfl⟩
    have e : Cc = a_NoLevel := by have := e1.symm.trans X_g_NoLevel; cases this; rfl
    subst e
    refine ⟨X_em_NoLevel_SkewError, Nat.le_of_ble_eq_true rfl, fun a d hd => ?_⟩
    cases d with
    | some dd => exact hd.elim
    | none =>
    dsimp only [List.set]
    ((with_reducible refine gos_ret ?_); (with_reducible refine go_andV ?_); (with_reducible refine go_cb ?_); (with_reducible refine goa_cons ?_); walk_at "x1"; (with_reducible refine goa_cons ?_); (with_reducible refine go_ref ?_); (with_reducible refine goa_nil ?_); walk_at "x0"; walk_at "x6"; walk_at "x2"; walk_at "x0"; walk_at "x3"; (with_reducible refine go_cb ?_); (with_reducible refine goa_cons ?_); walk_at "x1"; (with_reducible refine goa_cons ?_); (with_reducible refine go_ty ?_); (with_reducible refine goa_nil ?_); walk_at "x0"; walk_at "x7"; walk_at "x0")
    all_goals trace_state
theorem cal__law_cell (D : Df K mg "_law_cell" s__law_cell) {a_SkewError a_NoLevel a_Loose a_Kept a_Make a_Watch a_Hold : Addr} (XX : XF K mg a_SkewError a_NoLevel a_Loose a_Kept a_Make a_Watch a_Hold) (b_len : mg "len" = none) : Cal P w K mg base "_law_cell" 1 ["_law_script", "_law_k"] (C__law_cell mg) := by
  obtain ⟨f, fd, F, mf⟩ := D
  refine ⟨f, fd, ?_, mf, F.kp, F.binds (ps := ["_law_script", "_law_k"]) fun _ _ _ _ _ _ us hl => match us, hl with | [_, _], _ => rfl, Fun.lk F⟩
  refine F.ok sc__law_cell (fun vs H Q E hS0 => spP_len (n := 2) (fun xs p q c0 => by unfold C__law_cell at c0; obtain ⟨_, _, rfl, _⟩ := c0; rfl) hS0) (fun cdv A outer s H vs Q E hr hS0 => ?_)
  have hu := hu_of hr
  refine sp_body hS0 (fun B xs p q c0 hl0 wx => ?_)
  obtain ⟨ns, k, rfl, hp0, hp1, hp2, rfl, rfl⟩ := c0
  refine ⟨_, (pss_cons (ps_if (pt_cmpR (k_lt (K := K) rfl hr.units0) (pv 1) (pe_callB (k_len (K := K) rfl) (by rfl) b_len (by decide +kernel) (pa_cons (pv 0) pa_nil)) (nomark _))
        (pss_one (ps_ret (pe_ix (k_ix (K := K) rfl hu) (pv 0) (pv 1) (fun _ _ => rfl))))
        pss_nil)
      (pss_cons (ps_asg (pe_op (k_add (K := K) rfl) (pe_op op_mulG pe_int (pv 1)) pe_int) (pg_name (i := 2) sc__law_cell.nd rfl (by first | exact Or.inl rfl | exact Or.inr rfl)))
      (pss_cons (ps_if (pt_cmpR op_gtG (pe_callB (k_len (K := K) rfl) (by rfl) b_len (by decide +kernel) (pa_cons (pv 0) pa_nil)) pe_int (nomark _))
        (pss_one (ps_asg (pe_op op_modG (pe_op (k_add (K := K) rfl) (pe_ix (k_ix (K := K) rfl hu) (pv 0) (pe_op op_modG (pe_op op_mulG pe_int (pv 1)) (pe_callB (k_len (K := K) rfl) (by rfl) b_len (by decide +kernel) (pa_cons (pv 0) pa_nil))) (fun _ _ => rfl)) (pe_op op_mulG pe_int (pv 1))) pe_int) (pg_name (i := 2) sc__law_cell.nd rfl (by first | exact Or.inl rfl | exact Or.inr rfl))))
        pss_nil)
      (pss_one (ps_ret (pe_op op_modG (pe_op op_mulG (pv 2) (pv 2)) pe_int)))))), ?_⟩
  clear hS0 hl0 hr hu wx b_len
  have X_g_Loose := XX.g_Loose
  have X_R_Loose := XX.R_Loose
  have X_g_Kept := XX.g_Kept
  have X_R_Kept := XX.R_Kept
  have X_g_Make := XX.g_Make
  have X_R_Make := XX.R_Make
  have X_g_Watch := XX.g_Watch
  have X_R_Watch := XX.R_Watch
  have X_g_Hold := XX.g_Hold
  have X_R_Hold := XX.R_Hold
  have X_N_Loose := XX.N_Loose
  have X_ki_Loose_Hold := XX.ki_Loose_Hold
  have X_ki_Loose_Loose := XX.ki_Loose_Loose
  have X_ki_Loose_Kept := XX.ki_Loose_Kept
  have X_ki_Loose_Watch := XX.ki_Loose_Watch
  have X_ki_Loose_Make := XX.ki_Loose_Make
  have X_N_Kept := XX.N_Kept
  have X_ki_Kept_Hold := XX.ki_Kept_Hold
  have X_ki_Kept_Loose := XX.ki_Kept_Loose
  have X_ki_Kept_Kept := XX.ki_Kept_Kept
  have X_ki_Kept_Watch := XX.ki_Kept_Watch
  have X_ki_Kept_Make := XX.ki_Kept_Make
  have X_N_Make := XX.N_Make
  have X_ki_Make_Hold := XX.ki_Make_Hold
  have X_ki_Make_Loose := XX.ki_Make_Loose
  have X_ki_Make_Kept := XX.ki_Make_Kept
  have X_ki_Make_Watch := XX.ki_Make_Watch
  have X_ki_Make_Make := XX.ki_Make_Make
  have X_N_Watch := XX.N_Watch
  have X_ki_Watch_Hold := XX.ki_Watch_Hold
  have X_ki_Watch_Loose := XX.ki_Watch_Loose
  have X_ki_Watch_Kept := XX.ki_Watch_Kept
  have X_ki_Watch_Watch := XX.ki_Watch_Watch
  have X_ki_Watch_Make := XX.ki_Watch_Make
  have X_N_Hold := XX.N_Hold
  have X_ki_Hold_Hold := XX.ki_Hold_Hold
  have X_ki_Hold_Loose := XX.ki_Hold_Loose
  have X_ki_Hold_Kept := XX.ki_Hold_Kept
  have X_ki_Hold_Watch := XX.ki_Hold_Watch
  have X_ki_Hold_Make := XX.ki_Hold_Make
  simp only [List.map_cons, List.map_nil, List.length_cons, List.length_nil, List.cons_append, List.nil_append, Nat.reduceAdd, Nat.reduceSub, List.replicate_succ, List.replicate_zero, N__law_cell]
  ((with_reducible refine gos_sIR ?_); (with_reducible refine gos_if ?_); (with_reducible refine got_test ?_); (with_reducible refine go_op ?_); walk_at "x1"; (with_reducible refine go_cb ?_); (with_reducible refine goa_cons ?_); walk_at "x1"; (with_reducible refine goa_nil ?_); walk_at "x8"; walk_at "x0"; (with_reducible refine o2_lt ?_); walk_at "x2"; walk_at "x3"; (with_reducible refine gos_ret ?_); (with_reducible refine go_op ?_); walk_at "x1"; walk_at "x1"; walk_at "x0"; (focus skip); rotate_left; (with_reducible refine gos_next ?_); (with_reducible refine gos_sA ?_); (with_reducible refine gos_asg ?_); (with_reducible refine go_op ?_); (with_reducible refine go_op ?_); (with_reducible refine go_int ?_); walk_at "x1"; walk_at "x0"; walk_at "x9"; (with_reducible refine go_int ?_); walk_at "x0"; (with_reducible refine o2_add ?_); walk_at "x10"; (focus skip); rotate_left)
  · rename_i hc
    refine o2_ixr rfl hp0 (by simpa using hc) fun y hy => ?_
    obtain ⟨x, hx, rfl⟩ := List.mem_map.mp hy
    exact ⟨_, rfl⟩
  ((with_reducible refine gos_seq ?_); (with_reducible refine gos_if ?_); (with_reducible refine got_test ?_); (with_reducible refine go_op ?_); (with_reducible refine go_cb ?_); (with_reducible refine goa_cons ?_); walk_at "x1"; (with_reducible refine goa_nil ?_); walk_at "x8"; (with_reducible refine go_int ?_); walk_at "x0"; (with_reducible refine o2_gt ?_); walk_at "x2"; walk_at "x3"; (with_reducible refine gos_asg ?_); (with_reducible refine go_op ?_); (with_reducible refine go_op ?_); (with_reducible refine go_op ?_); walk_at "x1"; (with_reducible refine go_op ?_); (with_reducible refine go_op ?_); (with_reducible refine go_int ?_); walk_at "x1"; walk_at "x0"; walk_at "x9"; (with_reducible refine go_cb ?_); (with_reducible refine goa_cons ?_); walk_at "x1"; (with_reducible refine goa_nil ?_); walk_at "x8"; walk_at "x0"; walk_at "x11"; walk_at "x0"; (focus skip); rotate_left; (with_reducible refine gos_next ?_); (with_reducible refine gos_ret ?_); (with_reducible refine go_op ?_); (with_reducible refine go_op ?_); walk_at "x1"; walk_at "x1"; walk_at "x0"; walk_at "x9"; (with_reducible refine go_int ?_); walk_at "x0"; walk_at "x11"; (focus skip); rotate_left)
  · refine o2_ixr rfl (Int.emod_nonneg _ (by simp only [List.length_map] at *; omega)) (by simp only [List.length_map] at *; exact Int.emod_lt_of_pos _ (by omega)) fun y hy => ?_
    obtain ⟨x, hx, rfl⟩ := List.mem_map.mp hy
    ((with_reducible refine go_op ?_); (with_reducible refine go_int ?_); walk_at "x1"; walk_at "x0"; walk_at "x9"; walk_at "x0"; (with_reducible refine o2_add ?_); (with_reducible refine go_int ?_); walk_at "x0"; walk_at "x11"; walk_at "x10"; (with_reducible refine gos_ret ?_); (with_reducible refine go_op ?_); (with_reducible refine go_op ?_); walk_at "x1"; walk_at "x1"; walk_at "x0"; walk_at "x9"; (with_reducible refine go_int ?_); walk_at "x0"; walk_at "x11"; (focus skip); rotate_left)
    all_goals exact ⟨_, rfl⟩
  all_goals exact ⟨_, rfl⟩
theorem cal__law_mix (D : Df K mg "_law_mix" s__law_mix) {a_SkewError a_NoLevel a_Loose a_Kept a_Make a_Watch a_Hold : Addr} (XX : XF K mg a_SkewError a_NoLevel a_Loose a_Kept a_Make a_Watch a_Hold) : Cal P w K mg base "_law_mix" 1 ["_law_cell_here", "_law_k"] (C__law_mix mg) := by
  obtain ⟨f, fd, F, mf⟩ := D
  refine ⟨f, fd, ?_, mf, F.kp, F.binds (ps := ["_law_cell_here", "_law_k"]) fun _ _ _ _ _ _ us hl => match us, hl with | [_, _], _ => rfl, Fun.lk F⟩
  refine F.ok sc__law_mix (fun vs H Q E hS0 => spP_len (n := 2) (fun xs p q c0 => by unfold C__law_mix at c0; obtain ⟨_, _, rfl, _⟩ := c0; rfl) hS0) (fun cdv A outer s H vs Q E hr hS0 => ?_)
  have hu := hu_of hr
  refine sp_body hS0 (fun B xs p q c0 hl0 wx => ?_)
  obtain ⟨c, k, rfl, hp0, hp1, rfl, rfl⟩ := c0
  refine ⟨_, (pss_cons (ps_asg (pe_op op_modG (pe_op (k_add (K := K) rfl) (pe_op (k_add (K := K) rfl) (pv 0) (pe_op op_mulG pe_int (pv 1))) pe_int) pe_int) (pg_name (i := 2) sc__law_mix.nd rfl (by first | exact Or.inl rfl | exact Or.inr rfl)))
      (pss_cons (ps_asg (pe_op op_modG (pe_op (k_add (K := K) rfl) (pe_op op_mulG (pv 2) (pv 2)) (pe_op op_mulG pe_int (pv 1))) pe_int) (pg_name (i := 2) sc__law_mix.nd rfl (by first | exact Or.inl rfl | exact Or.inr rfl)))
      (pss_one (ps_ret (pe_op op_modG (pe_op (k_add (K := K) rfl) (pe_op (k_add (K := K) rfl) (pe_op op_mulG (pv 2) (pv 2)) (pe_op op_mulG pe_int (pv 2))) (pv 1)) pe_int))))), ?_⟩
  clear hS0 hl0 hr hu wx
  have X_g_Loose := XX.g_Loose
  have X_R_Loose := XX.R_Loose
  have X_g_Kept := XX.g_Kept
  have X_R_Kept := XX.R_Kept
  have X_g_Make := XX.g_Make
  have X_R_Make := XX.R_Make
  have X_g_Watch := XX.g_Watch
  have X_R_Watch := XX.R_Watch
  have X_g_Hold := XX.g_Hold
  have X_R_Hold := XX.R_Hold
  have X_N_Loose := XX.N_Loose
  have X_ki_Loose_Hold := XX.ki_Loose_Hold
  have X_ki_Loose_Loose := XX.ki_Loose_Loose
  have X_ki_Loose_Kept := XX.ki_Loose_Kept
  have X_ki_Loose_Watch := XX.ki_Loose_Watch
  have X_ki_Loose_Make := XX.ki_Loose_Make
  have X_N_Kept := XX.N_Kept
  have X_ki_Kept_Hold := XX.ki_Kept_Hold
  have X_ki_Kept_Loose := XX.ki_Kept_Loose
  have X_ki_Kept_Kept := XX.ki_Kept_Kept
  have X_ki_Kept_Watch := XX.ki_Kept_Watch
  have X_ki_Kept_Make := XX.ki_Kept_Make
  have X_N_Make := XX.N_Make
  have X_ki_Make_Hold := XX.ki_Make_Hold
  have X_ki_Make_Loose := XX.ki_Make_Loose
  have X_ki_Make_Kept := XX.ki_Make_Kept
  have X_ki_Make_Watch := XX.ki_Make_Watch
  have X_ki_Make_Make := XX.ki_Make_Make
  have X_N_Watch := XX.N_Watch
  have X_ki_Watch_Hold := XX.ki_Watch_Hold
  have X_ki_Watch_Loose := XX.ki_Watch_Loose
  have X_ki_Watch_Kept := XX.ki_Watch_Kept
  have X_ki_Watch_Watch := XX.ki_Watch_Watch
  have X_ki_Watch_Make := XX.ki_Watch_Make
  have X_N_Hold := XX.N_Hold
  have X_ki_Hold_Hold := XX.ki_Hold_Hold
  have X_ki_Hold_Loose := XX.ki_Hold_Loose
  have X_ki_Hold_Kept := XX.ki_Hold_Kept
  have X_ki_Hold_Watch := XX.ki_Hold_Watch
  have X_ki_Hold_Make := XX.ki_Hold_Make
  simp only [List.map_cons, List.map_nil, List.length_cons, List.length_nil, List.cons_append, List.nil_append, Nat.reduceAdd, Nat.reduceSub, List.replicate_succ, List.replicate_zero, N__law_mix]
  ((with_reducible refine gos_sA ?_); (with_reducible refine gos_asg ?_); (with_reducible refine go_op ?_); (with_reducible refine go_op ?_); (with_reducible refine go_op ?_); walk_at "x1"; (with_reducible refine go_op ?_); (with_reducible refine go_int ?_); walk_at "x1"; walk_at "x0"; walk_at "x9"; walk_at "x0"; (with_reducible refine o2_add ?_); (with_reducible refine go_int ?_); walk_at "x0"; (with_reducible refine o2_add ?_); (with_reducible refine go_int ?_); walk_at "x0"; walk_at "x11"; walk_at "x10"; (with_reducible refine gos_sA ?_); (with_reducible refine gos_asg ?_); (with_reducible refine go_op ?_); (with_reducible refine go_op ?_); (with_reducible refine go_op ?_); walk_at "x1"; walk_at "x1"; walk_at "x0"; walk_at "x9"; (with_reducible refine go_op ?_); (with_reducible refine go_int ?_); walk_at "x1"; walk_at "x0"; walk_at "x9"; walk_at "x0"; (with_reducible refine o2_add ?_); (with_reducible refine go_int ?_); walk_at "x0"; walk_at "x11"; walk_at "x10"; (with_reducible refine gos_ret ?_); (with_reducible refine go_op ?_); (with_reducible refine go_op ?_); (with_reducible refine go_op ?_); (with_reducible refine go_op ?_); walk_at "x1"; walk_at "x1"; walk_at "x0"; walk_at "x9"; (with_reducible refine go_op ?_); (with_reducible refine go_int ?_); walk_at "x1"; walk_at "x0"; walk_at "x9"; walk_at "x0"; (with_reducible refine o2_add ?_); walk_at "x1"; walk_at "x0"; (with_reducible refine o2_add ?_); (with_reducible refine go_int ?_); walk_at "x0"; walk_at "x11"; (focus skip); rotate_left)
  exact ⟨_, rfl⟩
theorem cal__law_no_word (D : Df K mg "_law_no_word" s__law_no_word) {a_SkewError a_NoLevel a_Loose a_Kept a_Make a_Watch a_Hold : Addr} (XX : XF K mg a_SkewError a_NoLevel a_Loose a_Kept a_Make a_Watch a_Hold) : Cal P w K mg base "_law_no_word" 1 ["_law_cell_here"] (C__law_no_word mg) := by
  obtain ⟨f, fd, F, mf⟩ := D
  refine ⟨f, fd, ?_, mf, F.kp, F.binds (ps := ["_law_cell_here"]) fun _ _ _ _ _ _ us hl => match us, hl with | [_], _ => rfl, Fun.lk F⟩
  refine F.ok sc__law_no_word (fun vs H Q E hS0 => spP_len (n := 1) (fun xs p q c0 => by unfold C__law_no_word at c0; obtain ⟨_, rfl, _⟩ := c0; rfl) hS0) (fun cdv A outer s H vs Q E hr hS0 => ?_)
  have hu := hu_of hr
  refine sp_body hS0 (fun B xs p q c0 hl0 wx => ?_)
  obtain ⟨c, rfl, rfl, rfl⟩ := c0
  refine ⟨_, (pss_cons (ps_asg (pe_ix (k_ix (K := K) rfl hu) (pe_lst (pa_cons pe_str (pa_cons pe_str (pa_cons pe_str (pa_cons pe_str (pa_cons pe_str pa_nil)))))) (pe_op op_modG (pv 0) pe_int) (fun _ _ => rfl)) (pg_name (i := 1) sc__law_no_word.nd rfl (by first | exact Or.inl rfl | exact Or.inr rfl)))
      (pss_cons (ps_asg (pe_ix (k_ix (K := K) rfl hu) pe_str (pe_op op_modG (pe_op op_divG (pv 0) pe_int) pe_int) (fun _ _ => rfl)) (pg_name (i := 2) sc__law_no_word.nd rfl (by first | exact Or.inl rfl | exact Or.inr rfl)))
      (pss_one (ps_ret (pe_ix (k_ix (K := K) rfl hu) (pe_lst (pa_cons (pe_slice (k_sl (K := K) rfl) (pv 1) (po_some pe_int) po_none) (pa_cons (pe_slice (k_sl (K := K) rfl) (pv 1) po_none (po_some (pe_un un_neg pe_int))) (pa_cons (pe_op (k_add (K := K) rfl) (pv 1) (pv 2)) (pa_cons (pe_op (k_add (K := K) rfl) (pv 2) (pv 1)) (pa_cons (k_bm0 (K := K) rfl (pe_bm0 PySem.F.plainAttrs_str PySem.F.slot_str_upper PySem.F.type_str_upper mt_upperG (pv 1))) pa_nil)))))) (pe_op op_modG (pe_op op_divG (pv 0) pe_int) pe_int) (fun _ _ => rfl)))))), ?_⟩
  clear hS0 hl0 hr hu wx
  have X_g_Loose := XX.g_Loose
  have X_R_Loose := XX.R_Loose
  have X_g_Kept := XX.g_Kept
  have X_R_Kept := XX.R_Kept
  have X_g_Make := XX.g_Make
  have X_R_Make := XX.R_Make
  have X_g_Watch := XX.g_Watch
  have X_R_Watch := XX.R_Watch
  have X_g_Hold := XX.g_Hold
  have X_R_Hold := XX.R_Hold
  have X_N_Loose := XX.N_Loose
  have X_ki_Loose_Hold := XX.ki_Loose_Hold
  have X_ki_Loose_Loose := XX.ki_Loose_Loose
  have X_ki_Loose_Kept := XX.ki_Loose_Kept
  have X_ki_Loose_Watch := XX.ki_Loose_Watch
  have X_ki_Loose_Make := XX.ki_Loose_Make
  have X_N_Kept := XX.N_Kept
  have X_ki_Kept_Hold := XX.ki_Kept_Hold
  have X_ki_Kept_Loose := XX.ki_Kept_Loose
  have X_ki_Kept_Kept := XX.ki_Kept_Kept
  have X_ki_Kept_Watch := XX.ki_Kept_Watch
  have X_ki_Kept_Make := XX.ki_Kept_Make
  have X_N_Make := XX.N_Make
  have X_ki_Make_Hold := XX.ki_Make_Hold
  have X_ki_Make_Loose := XX.ki_Make_Loose
  have X_ki_Make_Kept := XX.ki_Make_Kept
  have X_ki_Make_Watch := XX.ki_Make_Watch
  have X_ki_Make_Make := XX.ki_Make_Make
  have X_N_Watch := XX.N_Watch
  have X_ki_Watch_Hold := XX.ki_Watch_Hold
  have X_ki_Watch_Loose := XX.ki_Watch_Loose
  have X_ki_Watch_Kept := XX.ki_Watch_Kept
  have X_ki_Watch_Watch := XX.ki_Watch_Watch
  have X_ki_Watch_Make := XX.ki_Watch_Make
  have X_N_Hold := XX.N_Hold
  have X_ki_Hold_Hold := XX.ki_Hold_Hold
  have X_ki_Hold_Loose := XX.ki_Hold_Loose
  have X_ki_Hold_Kept := XX.ki_Hold_Kept
  have X_ki_Hold_Watch := XX.ki_Hold_Watch
  have X_ki_Hold_Make := XX.ki_Hold_Make
  simp only [List.map_cons, List.map_nil, List.length_cons, List.length_nil, List.cons_append, List.nil_append, Nat.reduceAdd, Nat.reduceSub, List.replicate_succ, List.replicate_zero, N__law_no_word]
  ((with_reducible refine gos_sA ?_); (with_reducible refine gos_asg ?_); (with_reducible refine go_op ?_); (with_reducible refine go_lst ?_); (with_reducible refine goa_cons ?_); (with_reducible refine go_str ?_); (with_reducible refine goa_cons ?_); (with_reducible refine go_str ?_); (with_reducible refine goa_cons ?_); (with_reducible refine go_str ?_); (with_reducible refine goa_cons ?_); (with_reducible refine go_str ?_); (with_reducible refine goa_cons ?_); (with_reducible refine go_str ?_); (with_reducible refine goa_nil ?_); walk_at "x0"; walk_at "x12"; (with_reducible refine go_op ?_); walk_at "x1"; (with_reducible refine go_int ?_); walk_at "x0"; walk_at "x11"; walk_at "x0"; (focus skip); rotate_left)
  refine o2_ixr rfl (by omega) (by show _ < (5 : Int); omega) fun y hy => ?_
  simp only [List.mem_cons, List.not_mem_nil, or_false] at hy
  have hy2 : ∃ l : Lv, y = .str (lvW l) := by
    rcases hy with rfl | rfl | rfl | rfl | rfl
    · exact ⟨.loose, rfl⟩
    · exact ⟨.kept, rfl⟩
    · exact ⟨.make, rfl⟩
    · exact ⟨.watch, rfl⟩
    · exact ⟨.hold, rfl⟩
  obtain ⟨l, rfl⟩ := hy2
  have hl := (show ∀ l : Lv, (lvW l).length ≤ 10 by intro l; cases l <;> decide) l
  have h5 : (0 : Int) ≤ c / 5 % 26 := by omega
  have h6 : c / 5 % 26 < 26 := by omega
  obtain ⟨n, hj⟩ := Int.eq_ofNat_of_zero_le h5
  have hn : n < 26 := by omega
  have hat : atI ("abcdefghijklmnopqrstuvwxyz" : Str).cps.toList ((n : Nat) : Int) = some (97 + n) := (show ∀ n : Fin 26, atI ("abcdefghijklmnopqrstuvwxyz" : Str).cps.toList ((n.1 : Nat) : Int) = some (97 + n.1) by decide +kernel) ⟨n, hn⟩
  (walk_at "x10"; (with_reducible refine gos_sA ?_); (with_reducible refine gos_asg ?_); (with_reducible refine go_op ?_); (with_reducible refine go_str ?_); (with_reducible refine go_op ?_); (with_reducible refine go_op ?_); walk_at "x1"; (with_reducible refine go_int ?_); walk_at "x0"; walk_at "x13"; (with_reducible refine go_int ?_); walk_at "x0"; walk_at "x11"; walk_at "x0"; (focus skip); rotate_left)
  rw [hj]
  refine o2_ixS (c := 97 + n) (by decide) hat ?_
  have z1 : (⟨#[97 + n]⟩ : Str).length = 1 := rfl
  (walk_at "x10"; (with_reducible refine gos_ret ?_); (with_reducible refine go_op ?_); (with_reducible refine go_lst ?_); (with_reducible refine goa_cons ?_); (with_reducible refine go_sl ?_); walk_at "x1"; (with_reducible refine goo_some ?_); (with_reducible refine go_int ?_); walk_at "x2"; (with_reducible refine goo_none ?_); walk_at "x0"; walk_at "x14"; (with_reducible refine goa_cons ?_); (with_reducible refine go_sl ?_); walk_at "x1"; (with_reducible refine goo_none ?_); (with_reducible refine goo_some ?_); (with_reducible refine go_un ?_); (with_reducible refine go_int ?_); walk_at "x0"; (with_reducible refine o1_neg ?_); walk_at "x2"; walk_at "x14"; (with_reducible refine goa_cons ?_); (with_reducible refine go_op ?_); walk_at "x1"; walk_at "x1"; walk_at "x0"; (focus skip); rotate_left)
  refine o2_addS (by omega) ?_
  ((with_reducible refine goa_cons ?_); (with_reducible refine go_op ?_); walk_at "x1"; walk_at "x1"; walk_at "x0"; (focus skip); rotate_left)
  refine o2_addS (by omega) ?_
  ((with_reducible refine goa_cons ?_); (with_reducible refine go_upper ?_); walk_at "x1"; walk_at "x2"; walk_at "x0"; walk_at "x12"; (with_reducible refine goa_nil ?_); walk_at "x12"; (with_reducible refine go_op ?_); (with_reducible refine go_op ?_); walk_at "x1"; (with_reducible refine go_int ?_); walk_at "x0"; walk_at "x13"; (with_reducible refine go_int ?_); walk_at "x0"; walk_at "x11"; walk_at "x0"; (focus skip); rotate_left)
  refine o2_ixr rfl (by omega) (by show _ < (5 : Int); omega) fun y hy => ?_
  simp only [List.mem_cons, List.not_mem_nil, or_false] at hy
  have key : ∀ n : Fin 26, ∀ l : Lv, (lvOf (cutS (lvW l) (some 1) none)).isNone = true ∧ (lvOf (cutS (lvW l) none (some (-1)))).isNone = true ∧ (lvOf (lvW l ++ ⟨#[97 + n.1]⟩)).isNone = true ∧ (lvOf (⟨#[97 + n.1]⟩ ++ lvW l)).isNone = true ∧ (lvOf (Txt.upper (lvW l))).isNone = true := by
    intro n l
    revert n
    cases l <;> decide +kernel
  have k2 := key ⟨n, hn⟩ l
  simp only [Option.isNone_iff_eq_none] at k2
  obtain ⟨k1, k2, k3, k4, k5⟩ := k2
  rcases hy with rfl | rfl | rfl | rfl | rfl
  · exact ⟨_, k1, rfl⟩
  · exact ⟨_, k2, rfl⟩
  · exact ⟨_, k3, rfl⟩
  · exact ⟨_, k4, rfl⟩
  · exact ⟨_, k5, rfl⟩
theorem cal_Loose__look_spot {zf : Addr} (D : DfM K "look_spot" "Loose.look_spot" s_Loose__look_spot zf) {a_SkewError a_NoLevel a_Loose a_Kept a_Make a_Watch a_Hold : Addr} (XX : XF K mg a_SkewError a_NoLevel a_Loose a_Kept a_Make a_Watch a_Hold) (ME : Meth K a_Loose "look_spot" zf) : CalM P w K mg base a_Loose "look_spot" 1 ["self", "place"] (C_Loose__look_spot mg a_Loose) := by
  obtain ⟨fd, F⟩ := D
  refine ⟨zf, fd, ?_, ME, F.binds (ps := ["self", "place"]) fun _ _ _ _ _ _ us hl => match us, hl with | [_, _], _ => rfl⟩
  refine F.ok sc_Loose__look_spot (fun vs H Q E hS0 => spP_len (n := 2) (fun xs p q c0 => by unfold C_Loose__look_spot at c0; obtain ⟨_, _, rfl, _⟩ := c0; rfl) hS0) (fun cdv A outer s H vs Q E hr hS0 => ?_)
  have hu := hu_of hr
  refine sp_body hS0 (fun B xs p q c0 hl0 wx => ?_)
  obtain ⟨Cv, p, rfl, rfl, rfl⟩ := c0
  refine ⟨_, (pss_one (ps_ret pe_non)), ?_⟩
  clear hS0 hl0 hr hu wx
  have X_g_Loose := XX.g_Loose
  have X_R_Loose := XX.R_Loose
  have X_g_Kept := XX.g_Kept
  have X_R_Kept := XX.R_Kept
  have X_g_Make := XX.g_Make
  have X_R_Make := XX.R_Make
  have X_g_Watch := XX.g_Watch
  have X_R_Watch := XX.R_Watch
  have X_g_Hold := XX.g_Hold
  have X_R_Hold := XX.R_Hold
  have X_N_Loose := XX.N_Loose
  have X_ki_Loose_Hold := XX.ki_Loose_Hold
  have X_ki_Loose_Loose := XX.ki_Loose_Loose
  have X_ki_Loose_Kept := XX.ki_Loose_Kept
  have X_ki_Loose_Watch := XX.ki_Loose_Watch
  have X_ki_Loose_Make := XX.ki_Loose_Make
  have X_N_Kept := XX.N_Kept
  have X_ki_Kept_Hold := XX.ki_Kept_Hold
  have X_ki_Kept_Loose := XX.ki_Kept_Loose
  have X_ki_Kept_Kept := XX.ki_Kept_Kept
  have X_ki_Kept_Watch := XX.ki_Kept_Watch
  have X_ki_Kept_Make := XX.ki_Kept_Make
  have X_N_Make := XX.N_Make
  have X_ki_Make_Hold := XX.ki_Make_Hold
  have X_ki_Make_Loose := XX.ki_Make_Loose
  have X_ki_Make_Kept := XX.ki_Make_Kept
  have X_ki_Make_Watch := XX.ki_Make_Watch
  have X_ki_Make_Make := XX.ki_Make_Make
  have X_N_Watch := XX.N_Watch
  have X_ki_Watch_Hold := XX.ki_Watch_Hold
  have X_ki_Watch_Loose := XX.ki_Watch_Loose
  have X_ki_Watch_Kept := XX.ki_Watch_Kept
  have X_ki_Watch_Watch := XX.ki_Watch_Watch
  have X_ki_Watch_Make := XX.ki_Watch_Make
  have X_N_Hold := XX.N_Hold
  have X_ki_Hold_Hold := XX.ki_Hold_Hold
  have X_ki_Hold_Loose := XX.ki_Hold_Loose
  have X_ki_Hold_Kept := XX.ki_Hold_Kept
  have X_ki_Hold_Watch := XX.ki_Hold_Watch
  have X_ki_Hold_Make := XX.ki_Hold_Make
  simp only [List.map_cons, List.map_nil, List.length_cons, List.length_nil, List.cons_append, List.nil_append, Nat.reduceAdd, Nat.reduceSub, List.replicate_succ, List.replicate_zero, N_Loose__look_spot]
  ((with_reducible refine gos_ret ?_); (with_reducible refine go_non ?_); walk_at "x0"; (focus skip); rotate_left)
  all_goals rfl
theorem cal_Kept__look_spot {zf : Addr} (D : DfM K "look_spot" "Kept.look_spot" s_Kept__look_spot zf) {a_SkewError a_NoLevel a_Loose a_Kept a_Make a_Watch a_Hold : Addr} (XX : XF K mg a_SkewError a_NoLevel a_Loose a_Kept a_Make a_Watch a_Hold) (ME : Meth K a_Kept "look_spot" zf) : CalM P w K mg base a_Kept "look_spot" 1 ["self", "place"] (C_Kept__look_spot mg a_Kept) := by
  obtain ⟨fd, F⟩ := D
  refine ⟨zf, fd, ?_, ME, F.binds (ps := ["self", "place"]) fun _ _ _ _ _ _ us hl => match us, hl with | [_, _], _ => rfl⟩
  refine F.ok sc_Kept__look_spot (fun vs H Q E hS0 => spP_len (n := 2) (fun xs p q c0 => by unfold C_Kept__look_spot at c0; obtain ⟨_, _, rfl, _⟩ := c0; rfl) hS0) (fun cdv A outer s H vs Q E hr hS0 => ?_)
  have hu := hu_of hr
  refine sp_body hS0 (fun B xs p q c0 hl0 wx => ?_)
  obtain ⟨Cv, p, rfl, rfl, rfl⟩ := c0
  refine ⟨_, (pss_one (ps_ret (pv 1))), ?_⟩
  clear hS0 hl0 hr hu wx
  have X_g_Loose := XX.g_Loose
  have X_R_Loose := XX.R_Loose
  have X_g_Kept := XX.g_Kept
  have X_R_Kept := XX.R_Kept
  have X_g_Make := XX.g_Make
  have X_R_Make := XX.R_Make
  have X_g_Watch := XX.g_Watch
  have X_R_Watch := XX.R_Watch
  have X_g_Hold := XX.g_Hold
  have X_R_Hold := XX.R_Hold
  have X_N_Loose := XX.N_Loose
  have X_ki_Loose_Hold := XX.ki_Loose_Hold
  have X_ki_Loose_Loose := XX.ki_Loose_Loose
  have X_ki_Loose_Kept := XX.ki_Loose_Kept
  have X_ki_Loose_Watch := XX.ki_Loose_Watch
  have X_ki_Loose_Make := XX.ki_Loose_Make
  have X_N_Kept := XX.N_Kept
  have X_ki_Kept_Hold := XX.ki_Kept_Hold
  have X_ki_Kept_Loose := XX.ki_Kept_Loose
  have X_ki_Kept_Kept := XX.ki_Kept_Kept
  have X_ki_Kept_Watch := XX.ki_Kept_Watch
  have X_ki_Kept_Make := XX.ki_Kept_Make
  have X_N_Make := XX.N_Make
  have X_ki_Make_Hold := XX.ki_Make_Hold
  have X_ki_Make_Loose := XX.ki_Make_Loose
  have X_ki_Make_Kept := XX.ki_Make_Kept
  have X_ki_Make_Watch := XX.ki_Make_Watch
  have X_ki_Make_Make := XX.ki_Make_Make
  have X_N_Watch := XX.N_Watch
  have X_ki_Watch_Hold := XX.ki_Watch_Hold
  have X_ki_Watch_Loose := XX.ki_Watch_Loose
  have X_ki_Watch_Kept := XX.ki_Watch_Kept
  have X_ki_Watch_Watch := XX.ki_Watch_Watch
  have X_ki_Watch_Make := XX.ki_Watch_Make
  have X_N_Hold := XX.N_Hold
  have X_ki_Hold_Hold := XX.ki_Hold_Hold
  have X_ki_Hold_Loose := XX.ki_Hold_Loose
  have X_ki_Hold_Kept := XX.ki_Hold_Kept
  have X_ki_Hold_Watch := XX.ki_Hold_Watch
  have X_ki_Hold_Make := XX.ki_Hold_Make
  simp only [List.map_cons, List.map_nil, List.length_cons, List.length_nil, List.cons_append, List.nil_append, Nat.reduceAdd, Nat.reduceSub, List.replicate_succ, List.replicate_zero, N_Kept__look_spot]
  ((with_reducible refine gos_ret ?_); walk_at "x1"; walk_at "x0"; (focus skip); rotate_left)
  all_goals rfl
theorem cal_Make__look_spot {zf : Addr} (D : DfM K "look_spot" "Make.look_spot" s_Make__look_spot zf) {a_SkewError a_NoLevel a_Loose a_Kept a_Make a_Watch a_Hold : Addr} (XX : XF K mg a_SkewError a_NoLevel a_Loose a_Kept a_Make a_Watch a_Hold) (ME : Meth K a_Make "look_spot" zf) : CalM P w K mg base a_Make "look_spot" 1 ["self", "place"] (C_Make__look_spot mg a_Make) := by
  obtain ⟨fd, F⟩ := D
  refine ⟨zf, fd, ?_, ME, F.binds (ps := ["self", "place"]) fun _ _ _ _ _ _ us hl => match us, hl with | [_, _], _ => rfl⟩
  refine F.ok sc_Make__look_spot (fun vs H Q E hS0 => spP_len (n := 2) (fun xs p q c0 => by unfold C_Make__look_spot at c0; obtain ⟨_, _, rfl, _⟩ := c0; rfl) hS0) (fun cdv A outer s H vs Q E hr hS0 => ?_)
  have hu := hu_of hr
  refine sp_body hS0 (fun B xs p q c0 hl0 wx => ?_)
  obtain ⟨Cv, p, rfl, rfl, rfl⟩ := c0
  refine ⟨_, (pss_one (ps_ret pe_int)), ?_⟩
  clear hS0 hl0 hr hu wx
  have X_g_Loose := XX.g_Loose
  have X_R_Loose := XX.R_Loose
  have X_g_Kept := XX.g_Kept
  have X_R_Kept := XX.R_Kept
  have X_g_Make := XX.g_Make
  have X_R_Make := XX.R_Make
  have X_g_Watch := XX.g_Watch
  have X_R_Watch := XX.R_Watch
  have X_g_Hold := XX.g_Hold
  have X_R_Hold := XX.R_Hold
  have X_N_Loose := XX.N_Loose
  have X_ki_Loose_Hold := XX.ki_Loose_Hold
  have X_ki_Loose_Loose := XX.ki_Loose_Loose
  have X_ki_Loose_Kept := XX.ki_Loose_Kept
  have X_ki_Loose_Watch := XX.ki_Loose_Watch
  have X_ki_Loose_Make := XX.ki_Loose_Make
  have X_N_Kept := XX.N_Kept
  have X_ki_Kept_Hold := XX.ki_Kept_Hold
  have X_ki_Kept_Loose := XX.ki_Kept_Loose
  have X_ki_Kept_Kept := XX.ki_Kept_Kept
  have X_ki_Kept_Watch := XX.ki_Kept_Watch
  have X_ki_Kept_Make := XX.ki_Kept_Make
  have X_N_Make := XX.N_Make
  have X_ki_Make_Hold := XX.ki_Make_Hold
  have X_ki_Make_Loose := XX.ki_Make_Loose
  have X_ki_Make_Kept := XX.ki_Make_Kept
  have X_ki_Make_Watch := XX.ki_Make_Watch
  have X_ki_Make_Make := XX.ki_Make_Make
  have X_N_Watch := XX.N_Watch
  have X_ki_Watch_Hold := XX.ki_Watch_Hold
  have X_ki_Watch_Loose := XX.ki_Watch_Loose
  have X_ki_Watch_Kept := XX.ki_Watch_Kept
  have X_ki_Watch_Watch := XX.ki_Watch_Watch
  have X_ki_Watch_Make := XX.ki_Watch_Make
  have X_N_Hold := XX.N_Hold
  have X_ki_Hold_Hold := XX.ki_Hold_Hold
  have X_ki_Hold_Loose := XX.ki_Hold_Loose
  have X_ki_Hold_Kept := XX.ki_Hold_Kept
  have X_ki_Hold_Watch := XX.ki_Hold_Watch
  have X_ki_Hold_Make := XX.ki_Hold_Make
  simp only [List.map_cons, List.map_nil, List.length_cons, List.length_nil, List.cons_append, List.nil_append, Nat.reduceAdd, Nat.reduceSub, List.replicate_succ, List.replicate_zero, N_Make__look_spot]
  ((with_reducible refine gos_ret ?_); (with_reducible refine go_int ?_); walk_at "x0"; (focus skip); rotate_left)
  all_goals rfl
theorem cal_Watch__look_spot {zf : Addr} (D : DfM K "look_spot" "Make.look_spot" s_Watch__look_spot zf) {a_SkewError a_NoLevel a_Loose a_Kept a_Make a_Watch a_Hold : Addr} (XX : XF K mg a_SkewError a_NoLevel a_Loose a_Kept a_Make a_Watch a_Hold) (ME : Meth K a_Watch "look_spot" zf) : CalM P w K mg base a_Watch "look_spot" 1 ["self", "place"] (C_Watch__look_spot mg a_Watch) := by
  obtain ⟨fd, F⟩ := D
  refine ⟨zf, fd, ?_, ME, F.binds (ps := ["self", "place"]) fun _ _ _ _ _ _ us hl => match us, hl with | [_, _], _ => rfl⟩
  refine F.ok sc_Watch__look_spot (fun vs H Q E hS0 => spP_len (n := 2) (fun xs p q c0 => by unfold C_Watch__look_spot at c0; obtain ⟨_, _, rfl, _⟩ := c0; rfl) hS0) (fun cdv A outer s H vs Q E hr hS0 => ?_)
  have hu := hu_of hr
  refine sp_body hS0 (fun B xs p q c0 hl0 wx => ?_)
  obtain ⟨Cv, p, rfl, rfl, rfl⟩ := c0
  refine ⟨_, (pss_one (ps_ret pe_int)), ?_⟩
  clear hS0 hl0 hr hu wx
  have X_g_Loose := XX.g_Loose
  have X_R_Loose := XX.R_Loose
  have X_g_Kept := XX.g_Kept
  have X_R_Kept := XX.R_Kept
  have X_g_Make := XX.g_Make
  have X_R_Make := XX.R_Make
  have X_g_Watch := XX.g_Watch
  have X_R_Watch := XX.R_Watch
  have X_g_Hold := XX.g_Hold
  have X_R_Hold := XX.R_Hold
  have X_N_Loose := XX.N_Loose
  have X_ki_Loose_Hold := XX.ki_Loose_Hold
  have X_ki_Loose_Loose := XX.ki_Loose_Loose
  have X_ki_Loose_Kept := XX.ki_Loose_Kept
  have X_ki_Loose_Watch := XX.ki_Loose_Watch
  have X_ki_Loose_Make := XX.ki_Loose_Make
  have X_N_Kept := XX.N_Kept
  have X_ki_Kept_Hold := XX.ki_Kept_Hold
  have X_ki_Kept_Loose := XX.ki_Kept_Loose
  have X_ki_Kept_Kept := XX.ki_Kept_Kept
  have X_ki_Kept_Watch := XX.ki_Kept_Watch
  have X_ki_Kept_Make := XX.ki_Kept_Make
  have X_N_Make := XX.N_Make
  have X_ki_Make_Hold := XX.ki_Make_Hold
  have X_ki_Make_Loose := XX.ki_Make_Loose
  have X_ki_Make_Kept := XX.ki_Make_Kept
  have X_ki_Make_Watch := XX.ki_Make_Watch
  have X_ki_Make_Make := XX.ki_Make_Make
  have X_N_Watch := XX.N_Watch
  have X_ki_Watch_Hold := XX.ki_Watch_Hold
  have X_ki_Watch_Loose := XX.ki_Watch_Loose
  have X_ki_Watch_Kept := XX.ki_Watch_Kept
  have X_ki_Watch_Watch := XX.ki_Watch_Watch
  have X_ki_Watch_Make := XX.ki_Watch_Make
  have X_N_Hold := XX.N_Hold
  have X_ki_Hold_Hold := XX.ki_Hold_Hold
  have X_ki_Hold_Loose := XX.ki_Hold_Loose
  have X_ki_Hold_Kept := XX.ki_Hold_Kept
  have X_ki_Hold_Watch := XX.ki_Hold_Watch
  have X_ki_Hold_Make := XX.ki_Hold_Make
  simp only [List.map_cons, List.map_nil, List.length_cons, List.length_nil, List.cons_append, List.nil_append, Nat.reduceAdd, Nat.reduceSub, List.replicate_succ, List.replicate_zero, N_Watch__look_spot]
  ((with_reducible refine gos_ret ?_); (with_reducible refine go_int ?_); walk_at "x0"; (focus skip); rotate_left)
  all_goals rfl
theorem cal_Hold__look_spot {zf : Addr} (D : DfM K "look_spot" "Hold.look_spot" s_Hold__look_spot zf) {a_SkewError a_NoLevel a_Loose a_Kept a_Make a_Watch a_Hold : Addr} (XX : XF K mg a_SkewError a_NoLevel a_Loose a_Kept a_Make a_Watch a_Hold) (ME : Meth K a_Hold "look_spot" zf) : CalM P w K mg base a_Hold "look_spot" 1 ["self", "place"] (C_Hold__look_spot mg a_Hold) := by
  obtain ⟨fd, F⟩ := D
  refine ⟨zf, fd, ?_, ME, F.binds (ps := ["self", "place"]) fun _ _ _ _ _ _ us hl => match us, hl with | [_, _], _ => rfl⟩
  refine F.ok sc_Hold__look_spot (fun vs H Q E hS0 => spP_len (n := 2) (fun xs p q c0 => by unfold C_Hold__look_spot at c0; obtain ⟨_, _, rfl, _⟩ := c0; rfl) hS0) (fun cdv A outer s H vs Q E hr hS0 => ?_)
  have hu := hu_of hr
  refine sp_body hS0 (fun B xs p q c0 hl0 wx => ?_)
  obtain ⟨Cv, p, rfl, rfl, rfl⟩ := c0
  refine ⟨_, (pss_one (ps_ret pe_int)), ?_⟩
  clear hS0 hl0 hr hu wx
  have X_g_Loose := XX.g_Loose
  have X_R_Loose := XX.R_Loose
  have X_g_Kept := XX.g_Kept
  have X_R_Kept := XX.R_Kept
  have X_g_Make := XX.g_Make
  have X_R_Make := XX.R_Make
  have X_g_Watch := XX.g_Watch
  have X_R_Watch := XX.R_Watch
  have X_g_Hold := XX.g_Hold
  have X_R_Hold := XX.R_Hold
  have X_N_Loose := XX.N_Loose
  have X_ki_Loose_Hold := XX.ki_Loose_Hold
  have X_ki_Loose_Loose := XX.ki_Loose_Loose
  have X_ki_Loose_Kept := XX.ki_Loose_Kept
  have X_ki_Loose_Watch := XX.ki_Loose_Watch
  have X_ki_Loose_Make := XX.ki_Loose_Make
  have X_N_Kept := XX.N_Kept
  have X_ki_Kept_Hold := XX.ki_Kept_Hold
  have X_ki_Kept_Loose := XX.ki_Kept_Loose
  have X_ki_Kept_Kept := XX.ki_Kept_Kept
  have X_ki_Kept_Watch := XX.ki_Kept_Watch
  have X_ki_Kept_Make := XX.ki_Kept_Make
  have X_N_Make := XX.N_Make
  have X_ki_Make_Hold := XX.ki_Make_Hold
  have X_ki_Make_Loose := XX.ki_Make_Loose
  have X_ki_Make_Kept := XX.ki_Make_Kept
  have X_ki_Make_Watch := XX.ki_Make_Watch
  have X_ki_Make_Make := XX.ki_Make_Make
  have X_N_Watch := XX.N_Watch
  have X_ki_Watch_Hold := XX.ki_Watch_Hold
  have X_ki_Watch_Loose := XX.ki_Watch_Loose
  have X_ki_Watch_Kept := XX.ki_Watch_Kept
  have X_ki_Watch_Watch := XX.ki_Watch_Watch
  have X_ki_Watch_Make := XX.ki_Watch_Make
  have X_N_Hold := XX.N_Hold
  have X_ki_Hold_Hold := XX.ki_Hold_Hold
  have X_ki_Hold_Loose := XX.ki_Hold_Loose
  have X_ki_Hold_Kept := XX.ki_Hold_Kept
  have X_ki_Hold_Watch := XX.ki_Hold_Watch
  have X_ki_Hold_Make := XX.ki_Hold_Make
  simp only [List.map_cons, List.map_nil, List.length_cons, List.length_nil, List.cons_append, List.nil_append, Nat.reduceAdd, Nat.reduceSub, List.replicate_succ, List.replicate_zero, N_Hold__look_spot]
  ((with_reducible refine gos_ret ?_); (with_reducible refine go_int ?_); walk_at "x0"; (focus skip); rotate_left)
  all_goals rfl
theorem cal_Loose__spots {zf : Addr} (D : DfM K "spots" "Loose.spots" s_Loose__spots zf) {a_SkewError a_NoLevel a_Loose a_Kept a_Make a_Watch a_Hold : Addr} (XX : XF K mg a_SkewError a_NoLevel a_Loose a_Kept a_Make a_Watch a_Hold) (ME : Meth K a_Loose "spots" zf) : CalM P w K mg base a_Loose "spots" 1 ["self", "looks"] (C_Loose__spots mg a_Loose) := by
  obtain ⟨fd, F⟩ := D
  refine ⟨zf, fd, ?_, ME, F.binds (ps := ["self", "looks"]) fun _ _ _ _ _ _ us hl => match us, hl with | [_, _], _ => rfl⟩
  refine F.ok sc_Loose__spots (fun vs H Q E hS0 => spP_len (n := 2) (fun xs p q c0 => by unfold C_Loose__spots at c0; obtain ⟨_, _, rfl, _⟩ := c0; rfl) hS0) (fun cdv A outer s H vs Q E hr hS0 => ?_)
  have hu := hu_of hr
  refine sp_body hS0 (fun B xs p q c0 hl0 wx => ?_)
  obtain ⟨Cv, n, rfl, rfl, rfl⟩ := c0
  refine ⟨_, (pss_one (ps_ret pe_int)), ?_⟩
  clear hS0 hl0 hr hu wx
  have X_g_Loose := XX.g_Loose
  have X_R_Loose := XX.R_Loose
  have X_g_Kept := XX.g_Kept
  have X_R_Kept := XX.R_Kept
  have X_g_Make := XX.g_Make
  have X_R_Make := XX.R_Make
  have X_g_Watch := XX.g_Watch
  have X_R_Watch := XX.R_Watch
  have X_g_Hold := XX.g_Hold
  have X_R_Hold := XX.R_Hold
  have X_N_Loose := XX.N_Loose
  have X_ki_Loose_Hold := XX.ki_Loose_Hold
  have X_ki_Loose_Loose := XX.ki_Loose_Loose
  have X_ki_Loose_Kept := XX.ki_Loose_Kept
  have X_ki_Loose_Watch := XX.ki_Loose_Watch
  have X_ki_Loose_Make := XX.ki_Loose_Make
  have X_N_Kept := XX.N_Kept
  have X_ki_Kept_Hold := XX.ki_Kept_Hold
  have X_ki_Kept_Loose := XX.ki_Kept_Loose
  have X_ki_Kept_Kept := XX.ki_Kept_Kept
  have X_ki_Kept_Watch := XX.ki_Kept_Watch
  have X_ki_Kept_Make := XX.ki_Kept_Make
  have X_N_Make := XX.N_Make
  have X_ki_Make_Hold := XX.ki_Make_Hold
  have X_ki_Make_Loose := XX.ki_Make_Loose
  have X_ki_Make_Kept := XX.ki_Make_Kept
  have X_ki_Make_Watch := XX.ki_Make_Watch
  have X_ki_Make_Make := XX.ki_Make_Make
  have X_N_Watch := XX.N_Watch
  have X_ki_Watch_Hold := XX.ki_Watch_Hold
  have X_ki_Watch_Loose := XX.ki_Watch_Loose
  have X_ki_Watch_Kept := XX.ki_Watch_Kept
  have X_ki_Watch_Watch := XX.ki_Watch_Watch
  have X_ki_Watch_Make := XX.ki_Watch_Make
  have X_N_Hold := XX.N_Hold
  have X_ki_Hold_Hold := XX.ki_Hold_Hold
  have X_ki_Hold_Loose := XX.ki_Hold_Loose
  have X_ki_Hold_Kept := XX.ki_Hold_Kept
  have X_ki_Hold_Watch := XX.ki_Hold_Watch
  have X_ki_Hold_Make := XX.ki_Hold_Make
  simp only [List.map_cons, List.map_nil, List.length_cons, List.length_nil, List.cons_append, List.nil_append, Nat.reduceAdd, Nat.reduceSub, List.replicate_succ, List.replicate_zero, N_Loose__spots]
  ((with_reducible refine gos_ret ?_); (with_reducible refine go_int ?_); walk_at "x0"; (focus skip); rotate_left)
  all_goals rfl
theorem cal_Kept__spots {zf : Addr} (D : DfM K "spots" "Kept.spots" s_Kept__spots zf) {a_SkewError a_NoLevel a_Loose a_Kept a_Make a_Watch a_Hold : Addr} (XX : XF K mg a_SkewError a_NoLevel a_Loose a_Kept a_Make a_Watch a_Hold) (ME : Meth K a_Kept "spots" zf) : CalM P w K mg base a_Kept "spots" 1 ["self", "looks"] (C_Kept__spots mg a_Kept) := by
  obtain ⟨fd, F⟩ := D
  refine ⟨zf, fd, ?_, ME, F.binds (ps := ["self", "looks"]) fun _ _ _ _ _ _ us hl => match us, hl with | [_, _], _ => rfl⟩
  refine F.ok sc_Kept__spots (fun vs H Q E hS0 => spP_len (n := 2) (fun xs p q c0 => by unfold C_Kept__spots at c0; obtain ⟨_, _, rfl, _⟩ := c0; rfl) hS0) (fun cdv A outer s H vs Q E hr hS0 => ?_)
  have hu := hu_of hr
  refine sp_body hS0 (fun B xs p q c0 hl0 wx => ?_)
  obtain ⟨Cv, n, rfl, rfl, rfl⟩ := c0
  refine ⟨_, (pss_one (ps_ret (pe_op (k_add (K := K) rfl) (pv 1) pe_int))), ?_⟩
  clear hS0 hl0 hr hu wx
  have X_g_Loose := XX.g_Loose
  have X_R_Loose := XX.R_Loose
  have X_g_Kept := XX.g_Kept
  have X_R_Kept := XX.R_Kept
  have X_g_Make := XX.g_Make
  have X_R_Make := XX.R_Make
  have X_g_Watch := XX.g_Watch
  have X_R_Watch := XX.R_Watch
  have X_g_Hold := XX.g_Hold
  have X_R_Hold := XX.R_Hold
  have X_N_Loose := XX.N_Loose
  have X_ki_Loose_Hold := XX.ki_Loose_Hold
  have X_ki_Loose_Loose := XX.ki_Loose_Loose
  have X_ki_Loose_Kept := XX.ki_Loose_Kept
  have X_ki_Loose_Watch := XX.ki_Loose_Watch
  have X_ki_Loose_Make := XX.ki_Loose_Make
  have X_N_Kept := XX.N_Kept
  have X_ki_Kept_Hold := XX.ki_Kept_Hold
  have X_ki_Kept_Loose := XX.ki_Kept_Loose
  have X_ki_Kept_Kept := XX.ki_Kept_Kept
  have X_ki_Kept_Watch := XX.ki_Kept_Watch
  have X_ki_Kept_Make := XX.ki_Kept_Make
  have X_N_Make := XX.N_Make
  have X_ki_Make_Hold := XX.ki_Make_Hold
  have X_ki_Make_Loose := XX.ki_Make_Loose
  have X_ki_Make_Kept := XX.ki_Make_Kept
  have X_ki_Make_Watch := XX.ki_Make_Watch
  have X_ki_Make_Make := XX.ki_Make_Make
  have X_N_Watch := XX.N_Watch
  have X_ki_Watch_Hold := XX.ki_Watch_Hold
  have X_ki_Watch_Loose := XX.ki_Watch_Loose
  have X_ki_Watch_Kept := XX.ki_Watch_Kept
  have X_ki_Watch_Watch := XX.ki_Watch_Watch
  have X_ki_Watch_Make := XX.ki_Watch_Make
  have X_N_Hold := XX.N_Hold
  have X_ki_Hold_Hold := XX.ki_Hold_Hold
  have X_ki_Hold_Loose := XX.ki_Hold_Loose
  have X_ki_Hold_Kept := XX.ki_Hold_Kept
  have X_ki_Hold_Watch := XX.ki_Hold_Watch
  have X_ki_Hold_Make := XX.ki_Hold_Make
  simp only [List.map_cons, List.map_nil, List.length_cons, List.length_nil, List.cons_append, List.nil_append, Nat.reduceAdd, Nat.reduceSub, List.replicate_succ, List.replicate_zero, N_Kept__spots]
  ((with_reducible refine gos_ret ?_); (with_reducible refine go_op ?_); walk_at "x1"; (with_reducible refine go_int ?_); walk_at "x0"; (with_reducible refine o2_add ?_); (focus skip); rotate_left)
  all_goals rfl
theorem cal_Make__spots {zf : Addr} (D : DfM K "spots" "Make.spots" s_Make__spots zf) {a_SkewError a_NoLevel a_Loose a_Kept a_Make a_Watch a_Hold : Addr} (XX : XF K mg a_SkewError a_NoLevel a_Loose a_Kept a_Make a_Watch a_Hold) (ME : Meth K a_Make "spots" zf) : CalM P w K mg base a_Make "spots" 1 ["self", "looks"] (C_Make__spots mg a_Make) := by
  obtain ⟨fd, F⟩ := D
  refine ⟨zf, fd, ?_, ME, F.binds (ps := ["self", "looks"]) fun _ _ _ _ _ _ us hl => match us, hl with | [_, _], _ => rfl⟩
  refine F.ok sc_Make__spots (fun vs H Q E hS0 => spP_len (n := 2) (fun xs p q c0 => by unfold C_Make__spots at c0; obtain ⟨_, _, rfl, _⟩ := c0; rfl) hS0) (fun cdv A outer s H vs Q E hr hS0 => ?_)
  have hu := hu_of hr
  refine sp_body hS0 (fun B xs p q c0 hl0 wx => ?_)
  obtain ⟨Cv, n, rfl, rfl, rfl⟩ := c0
  refine ⟨_, (pss_one (ps_ret pe_int)), ?_⟩
  clear hS0 hl0 hr hu wx
  have X_g_Loose := XX.g_Loose
  have X_R_Loose := XX.R_Loose
  have X_g_Kept := XX.g_Kept
  have X_R_Kept := XX.R_Kept
  have X_g_Make := XX.g_Make
  have X_R_Make := XX.R_Make
  have X_g_Watch := XX.g_Watch
  have X_R_Watch := XX.R_Watch
  have X_g_Hold := XX.g_Hold
  have X_R_Hold := XX.R_Hold
  have X_N_Loose := XX.N_Loose
  have X_ki_Loose_Hold := XX.ki_Loose_Hold
  have X_ki_Loose_Loose := XX.ki_Loose_Loose
  have X_ki_Loose_Kept := XX.ki_Loose_Kept
  have X_ki_Loose_Watch := XX.ki_Loose_Watch
  have X_ki_Loose_Make := XX.ki_Loose_Make
  have X_N_Kept := XX.N_Kept
  have X_ki_Kept_Hold := XX.ki_Kept_Hold
  have X_ki_Kept_Loose := XX.ki_Kept_Loose
  have X_ki_Kept_Kept := XX.ki_Kept_Kept
  have X_ki_Kept_Watch := XX.ki_Kept_Watch
  have X_ki_Kept_Make := XX.ki_Kept_Make
  have X_N_Make := XX.N_Make
  have X_ki_Make_Hold := XX.ki_Make_Hold
  have X_ki_Make_Loose := XX.ki_Make_Loose
  have X_ki_Make_Kept := XX.ki_Make_Kept
  have X_ki_Make_Watch := XX.ki_Make_Watch
  have X_ki_Make_Make := XX.ki_Make_Make
  have X_N_Watch := XX.N_Watch
  have X_ki_Watch_Hold := XX.ki_Watch_Hold
  have X_ki_Watch_Loose := XX.ki_Watch_Loose
  have X_ki_Watch_Kept := XX.ki_Watch_Kept
  have X_ki_Watch_Watch := XX.ki_Watch_Watch
  have X_ki_Watch_Make := XX.ki_Watch_Make
  have X_N_Hold := XX.N_Hold
  have X_ki_Hold_Hold := XX.ki_Hold_Hold
  have X_ki_Hold_Loose := XX.ki_Hold_Loose
  have X_ki_Hold_Kept := XX.ki_Hold_Kept
  have X_ki_Hold_Watch := XX.ki_Hold_Watch
  have X_ki_Hold_Make := XX.ki_Hold_Make
  simp only [List.map_cons, List.map_nil, List.length_cons, List.length_nil, List.cons_append, List.nil_append, Nat.reduceAdd, Nat.reduceSub, List.replicate_succ, List.replicate_zero, N_Make__spots]
  ((with_reducible refine gos_ret ?_); (with_reducible refine go_int ?_); walk_at "x0"; (focus skip); rotate_left)
  all_goals rfl
theorem cal_Watch__spots {zf : Addr} (D : DfM K "spots" "Watch.spots" s_Watch__spots zf) {a_SkewError a_NoLevel a_Loose a_Kept a_Make a_Watch a_Hold : Addr} (XX : XF K mg a_SkewError a_NoLevel a_Loose a_Kept a_Make a_Watch a_Hold) (ME : Meth K a_Watch "spots" zf) : CalM P w K mg base a_Watch "spots" 1 ["self", "looks"] (C_Watch__spots mg a_Watch) := by
  obtain ⟨fd, F⟩ := D
  refine ⟨zf, fd, ?_, ME, F.binds (ps := ["self", "looks"]) fun _ _ _ _ _ _ us hl => match us, hl with | [_, _], _ => rfl⟩
  refine F.ok sc_Watch__spots (fun vs H Q E hS0 => spP_len (n := 2) (fun xs p q c0 => by unfold C_Watch__spots at c0; obtain ⟨_, _, rfl, _⟩ := c0; rfl) hS0) (fun cdv A outer s H vs Q E hr hS0 => ?_)
  have hu := hu_of hr
  refine sp_body hS0 (fun B xs p q c0 hl0 wx => ?_)
  obtain ⟨Cv, n, rfl, rfl, rfl⟩ := c0
  refine ⟨_, (pss_one (ps_ret pe_int)), ?_⟩
  clear hS0 hl0 hr hu wx
  have X_g_Loose := XX.g_Loose
  have X_R_Loose := XX.R_Loose
  have X_g_Kept := XX.g_Kept
  have X_R_Kept := XX.R_Kept
  have X_g_Make := XX.g_Make
  have X_R_Make := XX.R_Make
  have X_g_Watch := XX.g_Watch
  have X_R_Watch := XX.R_Watch
  have X_g_Hold := XX.g_Hold
  have X_R_Hold := XX.R_Hold
  have X_N_Loose := XX.N_Loose
  have X_ki_Loose_Hold := XX.ki_Loose_Hold
  have X_ki_Loose_Loose := XX.ki_Loose_Loose
  have X_ki_Loose_Kept := XX.ki_Loose_Kept
  have X_ki_Loose_Watch := XX.ki_Loose_Watch
  have X_ki_Loose_Make := XX.ki_Loose_Make
  have X_N_Kept := XX.N_Kept
  have X_ki_Kept_Hold := XX.ki_Kept_Hold
  have X_ki_Kept_Loose := XX.ki_Kept_Loose
  have X_ki_Kept_Kept := XX.ki_Kept_Kept
  have X_ki_Kept_Watch := XX.ki_Kept_Watch
  have X_ki_Kept_Make := XX.ki_Kept_Make
  have X_N_Make := XX.N_Make
  have X_ki_Make_Hold := XX.ki_Make_Hold
  have X_ki_Make_Loose := XX.ki_Make_Loose
  have X_ki_Make_Kept := XX.ki_Make_Kept
  have X_ki_Make_Watch := XX.ki_Make_Watch
  have X_ki_Make_Make := XX.ki_Make_Make
  have X_N_Watch := XX.N_Watch
  have X_ki_Watch_Hold := XX.ki_Watch_Hold
  have X_ki_Watch_Loose := XX.ki_Watch_Loose
  have X_ki_Watch_Kept := XX.ki_Watch_Kept
  have X_ki_Watch_Watch := XX.ki_Watch_Watch
  have X_ki_Watch_Make := XX.ki_Watch_Make
  have X_N_Hold := XX.N_Hold
  have X_ki_Hold_Hold := XX.ki_Hold_Hold
  have X_ki_Hold_Loose := XX.ki_Hold_Loose
  have X_ki_Hold_Kept := XX.ki_Hold_Kept
  have X_ki_Hold_Watch := XX.ki_Hold_Watch
  have X_ki_Hold_Make := XX.ki_Hold_Make
  simp only [List.map_cons, List.map_nil, List.length_cons, List.length_nil, List.cons_append, List.nil_append, Nat.reduceAdd, Nat.reduceSub, List.replicate_succ, List.replicate_zero, N_Watch__spots]
  ((with_reducible refine gos_ret ?_); (with_reducible refine go_int ?_); walk_at "x0"; (focus skip); rotate_left)
  all_goals rfl
theorem cal_Hold__spots {zf : Addr} (D : DfM K "spots" "Hold.spots" s_Hold__spots zf) {a_SkewError a_NoLevel a_Loose a_Kept a_Make a_Watch a_Hold : Addr} (XX : XF K mg a_SkewError a_NoLevel a_Loose a_Kept a_Make a_Watch a_Hold) (ME : Meth K a_Hold "spots" zf) : CalM P w K mg base a_Hold "spots" 1 ["self", "looks"] (C_Hold__spots mg a_Hold) := by
  obtain ⟨fd, F⟩ := D
  refine ⟨zf, fd, ?_, ME, F.binds (ps := ["self", "looks"]) fun _ _ _ _ _ _ us hl => match us, hl with | [_, _], _ => rfl⟩
  refine F.ok sc_Hold__spots (fun vs H Q E hS0 => spP_len (n := 2) (fun xs p q c0 => by unfold C_Hold__spots at c0; obtain ⟨_, _, rfl, _⟩ := c0; rfl) hS0) (fun cdv A outer s H vs Q E hr hS0 => ?_)
  have hu := hu_of hr
  refine sp_body hS0 (fun B xs p q c0 hl0 wx => ?_)
  obtain ⟨Cv, n, rfl, rfl, rfl⟩ := c0
  refine ⟨_, (pss_one (ps_ret pe_int)), ?_⟩
  clear hS0 hl0 hr hu wx
  have X_g_Loose := XX.g_Loose
  have X_R_Loose := XX.R_Loose
  have X_g_Kept := XX.g_Kept
  have X_R_Kept := XX.R_Kept
  have X_g_Make := XX.g_Make
  have X_R_Make := XX.R_Make
  have X_g_Watch := XX.g_Watch
  have X_R_Watch := XX.R_Watch
  have X_g_Hold := XX.g_Hold
  have X_R_Hold := XX.R_Hold
  have X_N_Loose := XX.N_Loose
  have X_ki_Loose_Hold := XX.ki_Loose_Hold
  have X_ki_Loose_Loose := XX.ki_Loose_Loose
  have X_ki_Loose_Kept := XX.ki_Loose_Kept
  have X_ki_Loose_Watch := XX.ki_Loose_Watch
  have X_ki_Loose_Make := XX.ki_Loose_Make
  have X_N_Kept := XX.N_Kept
  have X_ki_Kept_Hold := XX.ki_Kept_Hold
  have X_ki_Kept_Loose := XX.ki_Kept_Loose
  have X_ki_Kept_Kept := XX.ki_Kept_Kept
  have X_ki_Kept_Watch := XX.ki_Kept_Watch
  have X_ki_Kept_Make := XX.ki_Kept_Make
  have X_N_Make := XX.N_Make
  have X_ki_Make_Hold := XX.ki_Make_Hold
  have X_ki_Make_Loose := XX.ki_Make_Loose
  have X_ki_Make_Kept := XX.ki_Make_Kept
  have X_ki_Make_Watch := XX.ki_Make_Watch
  have X_ki_Make_Make := XX.ki_Make_Make
  have X_N_Watch := XX.N_Watch
  have X_ki_Watch_Hold := XX.ki_Watch_Hold
  have X_ki_Watch_Loose := XX.ki_Watch_Loose
  have X_ki_Watch_Kept := XX.ki_Watch_Kept
  have X_ki_Watch_Watch := XX.ki_Watch_Watch
  have X_ki_Watch_Make := XX.ki_Watch_Make
  have X_N_Hold := XX.N_Hold
  have X_ki_Hold_Hold := XX.ki_Hold_Hold
  have X_ki_Hold_Loose := XX.ki_Hold_Loose
  have X_ki_Hold_Kept := XX.ki_Hold_Kept
  have X_ki_Hold_Watch := XX.ki_Hold_Watch
  have X_ki_Hold_Make := XX.ki_Hold_Make
  simp only [List.map_cons, List.map_nil, List.length_cons, List.length_nil, List.cons_append, List.nil_append, Nat.reduceAdd, Nat.reduceSub, List.replicate_succ, List.replicate_zero, N_Hold__spots]
  ((with_reducible refine gos_ret ?_); (with_reducible refine go_int ?_); walk_at "x0"; (focus skip); rotate_left)
  all_goals rfl
theorem cal_Loose__first_spot {zf : Addr} (D : DfM K "first_spot" "Loose.first_spot" s_Loose__first_spot zf) {a_SkewError a_NoLevel a_Loose a_Kept a_Make a_Watch a_Hold : Addr} (XX : XF K mg a_SkewError a_NoLevel a_Loose a_Kept a_Make a_Watch a_Hold) (ME : Meth K a_Loose "first_spot" zf) : CalM P w K mg base a_Loose "first_spot" 1 ["self", "looks"] (C_Loose__first_spot mg a_Loose) := by
  obtain ⟨fd, F⟩ := D
  refine ⟨zf, fd, ?_, ME, F.binds (ps := ["self", "looks"]) fun _ _ _ _ _ _ us hl => match us, hl with | [_, _], _ => rfl⟩
  refine F.ok sc_Loose__first_spot (fun vs H Q E hS0 => spP_len (n := 2) (fun xs p q c0 => by unfold C_Loose__first_spot at c0; obtain ⟨_, _, rfl, _⟩ := c0; rfl) hS0) (fun cdv A outer s H vs Q E hr hS0 => ?_)
  have hu := hu_of hr
  refine sp_body hS0 (fun B xs p q c0 hl0 wx => ?_)
  obtain ⟨Cv, n, rfl, rfl, rfl⟩ := c0
  refine ⟨_, (pss_one (ps_ret pe_int)), ?_⟩
  clear hS0 hl0 hr hu wx
  have X_g_Loose := XX.g_Loose
  have X_R_Loose := XX.R_Loose
  have X_g_Kept := XX.g_Kept
  have X_R_Kept := XX.R_Kept
  have X_g_Make := XX.g_Make
  have X_R_Make := XX.R_Make
  have X_g_Watch := XX.g_Watch
  have X_R_Watch := XX.R_Watch
  have X_g_Hold := XX.g_Hold
  have X_R_Hold := XX.R_Hold
  have X_N_Loose := XX.N_Loose
  have X_ki_Loose_Hold := XX.ki_Loose_Hold
  have X_ki_Loose_Loose := XX.ki_Loose_Loose
  have X_ki_Loose_Kept := XX.ki_Loose_Kept
  have X_ki_Loose_Watch := XX.ki_Loose_Watch
  have X_ki_Loose_Make := XX.ki_Loose_Make
  have X_N_Kept := XX.N_Kept
  have X_ki_Kept_Hold := XX.ki_Kept_Hold
  have X_ki_Kept_Loose := XX.ki_Kept_Loose
  have X_ki_Kept_Kept := XX.ki_Kept_Kept
  have X_ki_Kept_Watch := XX.ki_Kept_Watch
  have X_ki_Kept_Make := XX.ki_Kept_Make
  have X_N_Make := XX.N_Make
  have X_ki_Make_Hold := XX.ki_Make_Hold
  have X_ki_Make_Loose := XX.ki_Make_Loose
  have X_ki_Make_Kept := XX.ki_Make_Kept
  have X_ki_Make_Watch := XX.ki_Make_Watch
  have X_ki_Make_Make := XX.ki_Make_Make
  have X_N_Watch := XX.N_Watch
  have X_ki_Watch_Hold := XX.ki_Watch_Hold
  have X_ki_Watch_Loose := XX.ki_Watch_Loose
  have X_ki_Watch_Kept := XX.ki_Watch_Kept
  have X_ki_Watch_Watch := XX.ki_Watch_Watch
  have X_ki_Watch_Make := XX.ki_Watch_Make
  have X_N_Hold := XX.N_Hold
  have X_ki_Hold_Hold := XX.ki_Hold_Hold
  have X_ki_Hold_Loose := XX.ki_Hold_Loose
  have X_ki_Hold_Kept := XX.ki_Hold_Kept
  have X_ki_Hold_Watch := XX.ki_Hold_Watch
  have X_ki_Hold_Make := XX.ki_Hold_Make
  simp only [List.map_cons, List.map_nil, List.length_cons, List.length_nil, List.cons_append, List.nil_append, Nat.reduceAdd, Nat.reduceSub, List.replicate_succ, List.replicate_zero, N_Loose__first_spot]
  ((with_reducible refine gos_ret ?_); (with_reducible refine go_int ?_); walk_at "x0"; (focus skip); rotate_left)
  all_goals rfl
theorem cal_Kept__first_spot {zf : Addr} (D : DfM K "first_spot" "Kept.first_spot" s_Kept__first_spot zf) {a_SkewError a_NoLevel a_Loose a_Kept a_Make a_Watch a_Hold : Addr} (XX : XF K mg a_SkewError a_NoLevel a_Loose a_Kept a_Make a_Watch a_Hold) (ME : Meth K a_Kept "first_spot" zf) : CalM P w K mg base a_Kept "first_spot" 1 ["self", "looks"] (C_Kept__first_spot mg a_Kept) := by
  obtain ⟨fd, F⟩ := D
  refine ⟨zf, fd, ?_, ME, F.binds (ps := ["self", "looks"]) fun _ _ _ _ _ _ us hl => match us, hl with | [_, _], _ => rfl⟩
  refine F.ok sc_Kept__first_spot (fun vs H Q E hS0 => spP_len (n := 2) (fun xs p q c0 => by unfold C_Kept__first_spot at c0; obtain ⟨_, _, rfl, _⟩ := c0; rfl) hS0) (fun cdv A outer s H vs Q E hr hS0 => ?_)
  have hu := hu_of hr
  refine sp_body hS0 (fun B xs p q c0 hl0 wx => ?_)
  obtain ⟨Cv, n, rfl, rfl, rfl⟩ := c0
  refine ⟨_, (pss_one (ps_ret (pv 1))), ?_⟩
  clear hS0 hl0 hr hu wx
  have X_g_Loose := XX.g_Loose
  have X_R_Loose := XX.R_Loose
  have X_g_Kept := XX.g_Kept
  have X_R_Kept := XX.R_Kept
  have X_g_Make := XX.g_Make
  have X_R_Make := XX.R_Make
  have X_g_Watch := XX.g_Watch
  have X_R_Watch := XX.R_Watch
  have X_g_Hold := XX.g_Hold
  have X_R_Hold := XX.R_Hold
  have X_N_Loose := XX.N_Loose
  have X_ki_Loose_Hold := XX.ki_Loose_Hold
  have X_ki_Loose_Loose := XX.ki_Loose_Loose
  have X_ki_Loose_Kept := XX.ki_Loose_Kept
  have X_ki_Loose_Watch := XX.ki_Loose_Watch
  have X_ki_Loose_Make := XX.ki_Loose_Make
  have X_N_Kept := XX.N_Kept
  have X_ki_Kept_Hold := XX.ki_Kept_Hold
  have X_ki_Kept_Loose := XX.ki_Kept_Loose
  have X_ki_Kept_Kept := XX.ki_Kept_Kept
  have X_ki_Kept_Watch := XX.ki_Kept_Watch
  have X_ki_Kept_Make := XX.ki_Kept_Make
  have X_N_Make := XX.N_Make
  have X_ki_Make_Hold := XX.ki_Make_Hold
  have X_ki_Make_Loose := XX.ki_Make_Loose
  have X_ki_Make_Kept := XX.ki_Make_Kept
  have X_ki_Make_Watch := XX.ki_Make_Watch
  have X_ki_Make_Make := XX.ki_Make_Make
  have X_N_Watch := XX.N_Watch
  have X_ki_Watch_Hold := XX.ki_Watch_Hold
  have X_ki_Watch_Loose := XX.ki_Watch_Loose
  have X_ki_Watch_Kept := XX.ki_Watch_Kept
  have X_ki_Watch_Watch := XX.ki_Watch_Watch
  have X_ki_Watch_Make := XX.ki_Watch_Make
  have X_N_Hold := XX.N_Hold
  have X_ki_Hold_Hold := XX.ki_Hold_Hold
  have X_ki_Hold_Loose := XX.ki_Hold_Loose
  have X_ki_Hold_Kept := XX.ki_Hold_Kept
  have X_ki_Hold_Watch := XX.ki_Hold_Watch
  have X_ki_Hold_Make := XX.ki_Hold_Make
  simp only [List.map_cons, List.map_nil, List.length_cons, List.length_nil, List.cons_append, List.nil_append, Nat.reduceAdd, Nat.reduceSub, List.replicate_succ, List.replicate_zero, N_Kept__first_spot]
  ((with_reducible refine gos_ret ?_); walk_at "x1"; walk_at "x0"; (focus skip); rotate_left)
  all_goals rfl
theorem cal_Make__first_spot {zf : Addr} (D : DfM K "first_spot" "Make.first_spot" s_Make__first_spot zf) {a_SkewError a_NoLevel a_Loose a_Kept a_Make a_Watch a_Hold : Addr} (XX : XF K mg a_SkewError a_NoLevel a_Loose a_Kept a_Make a_Watch a_Hold) (ME : Meth K a_Make "first_spot" zf) : CalM P w K mg base a_Make "first_spot" 1 ["self", "looks"] (C_Make__first_spot mg a_Make) := by
  obtain ⟨fd, F⟩ := D
  refine ⟨zf, fd, ?_, ME, F.binds (ps := ["self", "looks"]) fun _ _ _ _ _ _ us hl => match us, hl with | [_, _], _ => rfl⟩
  refine F.ok sc_Make__first_spot (fun vs H Q E hS0 => spP_len (n := 2) (fun xs p q c0 => by unfold C_Make__first_spot at c0; obtain ⟨_, _, rfl, _⟩ := c0; rfl) hS0) (fun cdv A outer s H vs Q E hr hS0 => ?_)
  have hu := hu_of hr
  refine sp_body hS0 (fun B xs p q c0 hl0 wx => ?_)
  obtain ⟨Cv, n, rfl, rfl, rfl⟩ := c0
  refine ⟨_, (pss_one (ps_ret pe_int)), ?_⟩
  clear hS0 hl0 hr hu wx
  have X_g_Loose := XX.g_Loose
  have X_R_Loose := XX.R_Loose
  have X_g_Kept := XX.g_Kept
  have X_R_Kept := XX.R_Kept
  have X_g_Make := XX.g_Make
  have X_R_Make := XX.R_Make
  have X_g_Watch := XX.g_Watch
  have X_R_Watch := XX.R_Watch
  have X_g_Hold := XX.g_Hold
  have X_R_Hold := XX.R_Hold
  have X_N_Loose := XX.N_Loose
  have X_ki_Loose_Hold := XX.ki_Loose_Hold
  have X_ki_Loose_Loose := XX.ki_Loose_Loose
  have X_ki_Loose_Kept := XX.ki_Loose_Kept
  have X_ki_Loose_Watch := XX.ki_Loose_Watch
  have X_ki_Loose_Make := XX.ki_Loose_Make
  have X_N_Kept := XX.N_Kept
  have X_ki_Kept_Hold := XX.ki_Kept_Hold
  have X_ki_Kept_Loose := XX.ki_Kept_Loose
  have X_ki_Kept_Kept := XX.ki_Kept_Kept
  have X_ki_Kept_Watch := XX.ki_Kept_Watch
  have X_ki_Kept_Make := XX.ki_Kept_Make
  have X_N_Make := XX.N_Make
  have X_ki_Make_Hold := XX.ki_Make_Hold
  have X_ki_Make_Loose := XX.ki_Make_Loose
  have X_ki_Make_Kept := XX.ki_Make_Kept
  have X_ki_Make_Watch := XX.ki_Make_Watch
  have X_ki_Make_Make := XX.ki_Make_Make
  have X_N_Watch := XX.N_Watch
  have X_ki_Watch_Hold := XX.ki_Watch_Hold
  have X_ki_Watch_Loose := XX.ki_Watch_Loose
  have X_ki_Watch_Kept := XX.ki_Watch_Kept
  have X_ki_Watch_Watch := XX.ki_Watch_Watch
  have X_ki_Watch_Make := XX.ki_Watch_Make
  have X_N_Hold := XX.N_Hold
  have X_ki_Hold_Hold := XX.ki_Hold_Hold
  have X_ki_Hold_Loose := XX.ki_Hold_Loose
  have X_ki_Hold_Kept := XX.ki_Hold_Kept
  have X_ki_Hold_Watch := XX.ki_Hold_Watch
  have X_ki_Hold_Make := XX.ki_Hold_Make
  simp only [List.map_cons, List.map_nil, List.length_cons, List.length_nil, List.cons_append, List.nil_append, Nat.reduceAdd, Nat.reduceSub, List.replicate_succ, List.replicate_zero, N_Make__first_spot]
  ((with_reducible refine gos_ret ?_); (with_reducible refine go_int ?_); walk_at "x0"; (focus skip); rotate_left)
  all_goals rfl
theorem cal_Watch__first_spot {zf : Addr} (D : DfM K "first_spot" "Make.first_spot" s_Watch__first_spot zf) {a_SkewError a_NoLevel a_Loose a_Kept a_Make a_Watch a_Hold : Addr} (XX : XF K mg a_SkewError a_NoLevel a_Loose a_Kept a_Make a_Watch a_Hold) (ME : Meth K a_Watch "first_spot" zf) : CalM P w K mg base a_Watch "first_spot" 1 ["self", "looks"] (C_Watch__first_spot mg a_Watch) := by
  obtain ⟨fd, F⟩ := D
  refine ⟨zf, fd, ?_, ME, F.binds (ps := ["self", "looks"]) fun _ _ _ _ _ _ us hl => match us, hl with | [_, _], _ => rfl⟩
  refine F.ok sc_Watch__first_spot (fun vs H Q E hS0 => spP_len (n := 2) (fun xs p q c0 => by unfold C_Watch__first_spot at c0; obtain ⟨_, _, rfl, _⟩ := c0; rfl) hS0) (fun cdv A outer s H vs Q E hr hS0 => ?_)
  have hu := hu_of hr
  refine sp_body hS0 (fun B xs p q c0 hl0 wx => ?_)
  obtain ⟨Cv, n, rfl, rfl, rfl⟩ := c0
  refine ⟨_, (pss_one (ps_ret pe_int)), ?_⟩
  clear hS0 hl0 hr hu wx
  have X_g_Loose := XX.g_Loose
  have X_R_Loose := XX.R_Loose
  have X_g_Kept := XX.g_Kept
  have X_R_Kept := XX.R_Kept
  have X_g_Make := XX.g_Make
  have X_R_Make := XX.R_Make
  have X_g_Watch := XX.g_Watch
  have X_R_Watch := XX.R_Watch
  have X_g_Hold := XX.g_Hold
  have X_R_Hold := XX.R_Hold
  have X_N_Loose := XX.N_Loose
  have X_ki_Loose_Hold := XX.ki_Loose_Hold
  have X_ki_Loose_Loose := XX.ki_Loose_Loose
  have X_ki_Loose_Kept := XX.ki_Loose_Kept
  have X_ki_Loose_Watch := XX.ki_Loose_Watch
  have X_ki_Loose_Make := XX.ki_Loose_Make
  have X_N_Kept := XX.N_Kept
  have X_ki_Kept_Hold := XX.ki_Kept_Hold
  have X_ki_Kept_Loose := XX.ki_Kept_Loose
  have X_ki_Kept_Kept := XX.ki_Kept_Kept
  have X_ki_Kept_Watch := XX.ki_Kept_Watch
  have X_ki_Kept_Make := XX.ki_Kept_Make
  have X_N_Make := XX.N_Make
  have X_ki_Make_Hold := XX.ki_Make_Hold
  have X_ki_Make_Loose := XX.ki_Make_Loose
  have X_ki_Make_Kept := XX.ki_Make_Kept
  have X_ki_Make_Watch := XX.ki_Make_Watch
  have X_ki_Make_Make := XX.ki_Make_Make
  have X_N_Watch := XX.N_Watch
  have X_ki_Watch_Hold := XX.ki_Watch_Hold
  have X_ki_Watch_Loose := XX.ki_Watch_Loose
  have X_ki_Watch_Kept := XX.ki_Watch_Kept
  have X_ki_Watch_Watch := XX.ki_Watch_Watch
  have X_ki_Watch_Make := XX.ki_Watch_Make
  have X_N_Hold := XX.N_Hold
  have X_ki_Hold_Hold := XX.ki_Hold_Hold
  have X_ki_Hold_Loose := XX.ki_Hold_Loose
  have X_ki_Hold_Kept := XX.ki_Hold_Kept
  have X_ki_Hold_Watch := XX.ki_Hold_Watch
  have X_ki_Hold_Make := XX.ki_Hold_Make
  simp only [List.map_cons, List.map_nil, List.length_cons, List.length_nil, List.cons_append, List.nil_append, Nat.reduceAdd, Nat.reduceSub, List.replicate_succ, List.replicate_zero, N_Watch__first_spot]
  ((with_reducible refine gos_ret ?_); (with_reducible refine go_int ?_); walk_at "x0"; (focus skip); rotate_left)
  all_goals rfl
theorem cal_Hold__first_spot {zf : Addr} (D : DfM K "first_spot" "Hold.first_spot" s_Hold__first_spot zf) {a_SkewError a_NoLevel a_Loose a_Kept a_Make a_Watch a_Hold : Addr} (XX : XF K mg a_SkewError a_NoLevel a_Loose a_Kept a_Make a_Watch a_Hold) (ME : Meth K a_Hold "first_spot" zf) : CalM P w K mg base a_Hold "first_spot" 1 ["self", "looks"] (C_Hold__first_spot mg a_Hold) := by
  obtain ⟨fd, F⟩ := D
  refine ⟨zf, fd, ?_, ME, F.binds (ps := ["self", "looks"]) fun _ _ _ _ _ _ us hl => match us, hl with | [_, _], _ => rfl⟩
  refine F.ok sc_Hold__first_spot (fun vs H Q E hS0 => spP_len (n := 2) (fun xs p q c0 => by unfold C_Hold__first_spot at c0; obtain ⟨_, _, rfl, _⟩ := c0; rfl) hS0) (fun cdv A outer s H vs Q E hr hS0 => ?_)
  have hu := hu_of hr
  refine sp_body hS0 (fun B xs p q c0 hl0 wx => ?_)
  obtain ⟨Cv, n, rfl, rfl, rfl⟩ := c0
  refine ⟨_, (pss_one (ps_ret pe_int)), ?_⟩
  clear hS0 hl0 hr hu wx
  have X_g_Loose := XX.g_Loose
  have X_R_Loose := XX.R_Loose
  have X_g_Kept := XX.g_Kept
  have X_R_Kept := XX.R_Kept
  have X_g_Make := XX.g_Make
  have X_R_Make := XX.R_Make
  have X_g_Watch := XX.g_Watch
  have X_R_Watch := XX.R_Watch
  have X_g_Hold := XX.g_Hold
  have X_R_Hold := XX.R_Hold
  have X_N_Loose := XX.N_Loose
  have X_ki_Loose_Hold := XX.ki_Loose_Hold
  have X_ki_Loose_Loose := XX.ki_Loose_Loose
  have X_ki_Loose_Kept := XX.ki_Loose_Kept
  have X_ki_Loose_Watch := XX.ki_Loose_Watch
  have X_ki_Loose_Make := XX.ki_Loose_Make
  have X_N_Kept := XX.N_Kept
  have X_ki_Kept_Hold := XX.ki_Kept_Hold
  have X_ki_Kept_Loose := XX.ki_Kept_Loose
  have X_ki_Kept_Kept := XX.ki_Kept_Kept
  have X_ki_Kept_Watch := XX.ki_Kept_Watch
  have X_ki_Kept_Make := XX.ki_Kept_Make
  have X_N_Make := XX.N_Make
  have X_ki_Make_Hold := XX.ki_Make_Hold
  have X_ki_Make_Loose := XX.ki_Make_Loose
  have X_ki_Make_Kept := XX.ki_Make_Kept
  have X_ki_Make_Watch := XX.ki_Make_Watch
  have X_ki_Make_Make := XX.ki_Make_Make
  have X_N_Watch := XX.N_Watch
  have X_ki_Watch_Hold := XX.ki_Watch_Hold
  have X_ki_Watch_Loose := XX.ki_Watch_Loose
  have X_ki_Watch_Kept := XX.ki_Watch_Kept
  have X_ki_Watch_Watch := XX.ki_Watch_Watch
  have X_ki_Watch_Make := XX.ki_Watch_Make
  have X_N_Hold := XX.N_Hold
  have X_ki_Hold_Hold := XX.ki_Hold_Hold
  have X_ki_Hold_Loose := XX.ki_Hold_Loose
  have X_ki_Hold_Kept := XX.ki_Hold_Kept
  have X_ki_Hold_Watch := XX.ki_Hold_Watch
  have X_ki_Hold_Make := XX.ki_Hold_Make
  simp only [List.map_cons, List.map_nil, List.length_cons, List.length_nil, List.cons_append, List.nil_append, Nat.reduceAdd, Nat.reduceSub, List.replicate_succ, List.replicate_zero, N_Hold__first_spot]
  ((with_reducible refine gos_ret ?_); (with_reducible refine go_int ?_); walk_at "x0"; (focus skip); rotate_left)
  all_goals rfl
theorem cal__law_number (D : Df K mg "_law_number" s__law_number) {a_SkewError a_NoLevel a_Loose a_Kept a_Make a_Watch a_Hold : Addr} (XX : XF K mg a_SkewError a_NoLevel a_Loose a_Kept a_Make a_Watch a_Hold) (b_bool : mg "bool" = none) (b_int : mg "int" = none) (b_isinstance : mg "isinstance" = none) : Cal P w K mg base "_law_number" 1 ["_law_found", "_law_due"] (C__law_number mg) := by
  obtain ⟨f, fd, F, mf⟩ := D
  refine ⟨f, fd, ?_, mf, F.kp, F.binds (ps := ["_law_found", "_law_due"]) fun _ _ _ _ _ _ us hl => match us, hl with | [_, _], _ => rfl, Fun.lk F⟩
  refine F.ok sc__law_number (fun vs H Q E hS0 => spP_len (n := 2) (fun xs p q c0 => by unfold C__law_number at c0; obtain ⟨_, _, rfl, _⟩ := c0; rfl) hS0) (fun cdv A outer s H vs Q E hr hS0 => ?_)
  have hu := hu_of hr
  refine sp_body hS0 (fun B xs p q c0 hl0 wx => ?_)
  obtain ⟨x, y, rfl, rfl, rfl⟩ := c0
  refine ⟨_, (pss_cons (ps_if (pt_cmpR op_isG (pv 1) pe_non (nomark _))
        (pss_one (ps_ret (pe_cmpR op_isG (pv 0) pe_non (nomark _))))
        pss_nil)
      (pss_one (ps_ret (pe_and (pe_callB (k_isi (K := K) rfl) (by rfl) b_isinstance (by decide +kernel) (pa_cons (pv 0) (pa_cons (pe_bltn (v := .ty "int") (u := .type "int") (by rfl) b_int (by decide +kernel) rfl) pa_nil))) (pe_and (pe_not (pe_callB (k_isi (K := K) rfl) (by rfl) b_isinstance (by decide +kernel) (pa_cons (pv 0) (pa_cons (pe_bltn (v := .ty "bool") (u := .type "bool") (by rfl) b_bool (by decide +kernel) rfl) pa_nil)))) (pe_one (pe_cmpR (k_eq (K := K) rfl hr.units) (pv 0) (pv 1) (nomark _)))))))), ?_⟩
  clear hS0 hl0 hr hu wx b_bool b_int b_isinstance
  have X_g_Loose := XX.g_Loose
  have X_R_Loose := XX.R_Loose
  have X_g_Kept := XX.g_Kept
  have X_R_Kept := XX.R_Kept
  have X_g_Make := XX.g_Make
  have X_R_Make := XX.R_Make
  have X_g_Watch := XX.g_Watch
  have X_R_Watch := XX.R_Watch
  have X_g_Hold := XX.g_Hold
  have X_R_Hold := XX.R_Hold
  have X_N_Loose := XX.N_Loose
  have X_ki_Loose_Hold := XX.ki_Loose_Hold
  have X_ki_Loose_Loose := XX.ki_Loose_Loose
  have X_ki_Loose_Kept := XX.ki_Loose_Kept
  have X_ki_Loose_Watch := XX.ki_Loose_Watch
  have X_ki_Loose_Make := XX.ki_Loose_Make
  have X_N_Kept := XX.N_Kept
  have X_ki_Kept_Hold := XX.ki_Kept_Hold
  have X_ki_Kept_Loose := XX.ki_Kept_Loose
  have X_ki_Kept_Kept := XX.ki_Kept_Kept
  have X_ki_Kept_Watch := XX.ki_Kept_Watch
  have X_ki_Kept_Make := XX.ki_Kept_Make
  have X_N_Make := XX.N_Make
  have X_ki_Make_Hold := XX.ki_Make_Hold
  have X_ki_Make_Loose := XX.ki_Make_Loose
  have X_ki_Make_Kept := XX.ki_Make_Kept
  have X_ki_Make_Watch := XX.ki_Make_Watch
  have X_ki_Make_Make := XX.ki_Make_Make
  have X_N_Watch := XX.N_Watch
  have X_ki_Watch_Hold := XX.ki_Watch_Hold
  have X_ki_Watch_Loose := XX.ki_Watch_Loose
  have X_ki_Watch_Kept := XX.ki_Watch_Kept
  have X_ki_Watch_Watch := XX.ki_Watch_Watch
  have X_ki_Watch_Make := XX.ki_Watch_Make
  have X_N_Hold := XX.N_Hold
  have X_ki_Hold_Hold := XX.ki_Hold_Hold
  have X_ki_Hold_Loose := XX.ki_Hold_Loose
  have X_ki_Hold_Kept := XX.ki_Hold_Kept
  have X_ki_Hold_Watch := XX.ki_Hold_Watch
  have X_ki_Hold_Make := XX.ki_Hold_Make
  simp only [List.map_cons, List.map_nil, List.length_cons, List.length_nil, List.cons_append, List.nil_append, Nat.reduceAdd, Nat.reduceSub, List.replicate_succ, List.replicate_zero, N__law_number]
  rcases x with _ | x <;> rcases y with _ | y <;> simp only [oiD]
  all_goals ((repeat' (first | (with_reducible refine gos_sIR ?_) | (with_reducible refine gos_ret ?_) | (with_reducible refine gos_if ?_) | (with_reducible refine gos_next ?_) | walk_at "x1" | (with_reducible refine go_non ?_) | (with_reducible refine go_ty ?_) | (with_reducible refine go_op ?_) | (with_reducible refine go_cb ?_) | (with_reducible refine goa_cons ?_) | (with_reducible refine goa_nil ?_) | (with_reducible refine go_andV ?_) | (with_reducible refine go_notV ?_) | (with_reducible refine got_test ?_) | walk_at "x2" | walk_at "x15" | (with_reducible refine o2_eqI ?_) | walk_at "x16" | walk_at "x17" | walk_at "x0" | walk_at "x3" | fail)))
  all_goals (first | rfl | (simp; done) | trace_state)
theorem cal__law_spots (D : Df K mg "_law_spots" s__law_spots) {a_SkewError a_NoLevel a_Loose a_Kept a_Make a_Watch a_Hold : Addr} (XX : XF K mg a_SkewError a_NoLevel a_Loose a_Kept a_Make a_Watch a_Hold) (c_Loose__look_spot : CalM P w K mg base a_Loose "look_spot" 1 ["self", "place"] (C_Loose__look_spot mg a_Loose)) (c_Kept__look_spot : CalM P w K mg base a_Kept "look_spot" 1 ["self", "place"] (C_Kept__look_spot mg a_Kept)) (c_Make__look_spot : CalM P w K mg base a_Make "look_spot" 1 ["self", "place"] (C_Make__look_spot mg a_Make)) (c_Watch__look_spot : CalM P w K mg base a_Watch "look_spot" 1 ["self", "place"] (C_Watch__look_spot mg a_Watch)) (c_Hold__look_spot : CalM P w K mg base a_Hold "look_spot" 1 ["self", "place"] (C_Hold__look_spot mg a_Hold)) (c_Loose__spots : CalM P w K mg base a_Loose "spots" 1 ["self", "looks"] (C_Loose__spots mg a_Loose)) (c_Kept__spots : CalM P w K mg base a_Kept "spots" 1 ["self", "looks"] (C_Kept__spots mg a_Kept)) (c_Make__spots : CalM P w K mg base a_Make "spots" 1 ["self", "looks"] (C_Make__spots mg a_Make)) (c_Watch__spots : CalM P w K mg base a_Watch "spots" 1 ["self", "looks"] (C_Watch__spots mg a_Watch)) (c_Hold__spots : CalM P w K mg base a_Hold "spots" 1 ["self", "looks"] (C_Hold__spots mg a_Hold)) (c_Loose__first_spot : CalM P w K mg base a_Loose "first_spot" 1 ["self", "looks"] (C_Loose__first_spot mg a_Loose)) (c_Kept__first_spot : CalM P w K mg base a_Kept "first_spot" 1 ["self", "looks"] (C_Kept__first_spot mg a_Kept)) (c_Make__first_spot : CalM P w K mg base a_Make "first_spot" 1 ["self", "looks"] (C_Make__first_spot mg a_Make)) (c_Watch__first_spot : CalM P w K mg base a_Watch "first_spot" 1 ["self", "looks"] (C_Watch__first_spot mg a_Watch)) (c_Hold__first_spot : CalM P w K mg base a_Hold "first_spot" 1 ["self", "looks"] (C_Hold__first_spot mg a_Hold)) (c__law_number : Cal P w K mg base "_law_number" 1 ["_law_found", "_law_due"] (C__law_number mg)) : Cal P w K mg base "_law_spots" 2 ["_law_level", "_law_word", "_law_looks", "_law_place"] (C__law_spots mg) := by
  obtain ⟨f, fd, F, mf⟩ := D
  obtain ⟨f_Loose__look_spot, fd_Loose__look_spot, G_Loose__look_spot, k_Loose__look_spot, bn_Loose__look_spot⟩ := c_Loose__look_spot
  obtain ⟨f_Kept__look_spot, fd_Kept__look_spot, G_Kept__look_spot, k_Kept__look_spot, bn_Kept__look_spot⟩ := c_Kept__look_spot
  obtain ⟨f_Make__look_spot, fd_Make__look_spot, G_Make__look_spot, k_Make__look_spot, bn_Make__look_spot⟩ := c_Make__look_spot
  obtain ⟨f_Watch__look_spot, fd_Watch__look_spot, G_Watch__look_spot, k_Watch__look_spot, bn_Watch__look_spot⟩ := c_Watch__look_spot
  obtain ⟨f_Hold__look_spot, fd_Hold__look_spot, G_Hold__look_spot, k_Hold__look_spot, bn_Hold__look_spot⟩ := c_Hold__look_spot
  obtain ⟨f_Loose__spots, fd_Loose__spots, G_Loose__spots, k_Loose__spots, bn_Loose__spots⟩ := c_Loose__spots
  obtain ⟨f_Kept__spots, fd_Kept__spots, G_Kept__spots, k_Kept__spots, bn_Kept__spots⟩ := c_Kept__spots
  obtain ⟨f_Make__spots, fd_Make__spots, G_Make__spots, k_Make__spots, bn_Make__spots⟩ := c_Make__spots
  obtain ⟨f_Watch__spots, fd_Watch__spots, G_Watch__spots, k_Watch__spots, bn_Watch__spots⟩ := c_Watch__spots
  obtain ⟨f_Hold__spots, fd_Hold__spots, G_Hold__spots, k_Hold__spots, bn_Hold__spots⟩ := c_Hold__spots
  obtain ⟨f_Loose__first_spot, fd_Loose__first_spot, G_Loose__first_spot, k_Loose__first_spot, bn_Loose__first_spot⟩ := c_Loose__first_spot
  obtain ⟨f_Kept__first_spot, fd_Kept__first_spot, G_Kept__first_spot, k_Kept__first_spot, bn_Kept__first_spot⟩ := c_Kept__first_spot
  obtain ⟨f_Make__first_spot, fd_Make__first_spot, G_Make__first_spot, k_Make__first_spot, bn_Make__first_spot⟩ := c_Make__first_spot
  obtain ⟨f_Watch__first_spot, fd_Watch__first_spot, G_Watch__first_spot, k_Watch__first_spot, bn_Watch__first_spot⟩ := c_Watch__first_spot
  obtain ⟨f_Hold__first_spot, fd_Hold__first_spot, G_Hold__first_spot, k_Hold__first_spot, bn_Hold__first_spot⟩ := c_Hold__first_spot
  obtain ⟨f__law_number, fd__law_number, G__law_number, g__law_number, k__law_number, bn__law_number, _⟩ := c__law_number
  refine ⟨f, fd, ?_, mf, F.kp, F.binds (ps := ["_law_level", "_law_word", "_law_looks", "_law_place"]) fun _ _ _ _ _ _ us hl => match us, hl with | [_, _, _, _], _ => rfl, Fun.lk F⟩
  refine F.ok sc__law_spots (fun vs H Q E hS0 => spP_len (n := 4) (fun xs p q c0 => by unfold C__law_spots at c0; obtain ⟨_, _, _, rfl, _⟩ := c0; rfl) hS0) (fun cdv A outer s H vs Q E hr hS0 => ?_)
  have hu := hu_of hr
  refine sp_body hS0 (fun B xs p q c0 hl0 wx => ?_)
  obtain ⟨l, n, p, rfl, rfl, rfl⟩ := c0
  refine ⟨_, (pss_cons (ps_asg pe_int (pg_name (i := 4) sc__law_spots.nd rfl (by first | exact Or.inl rfl | exact Or.inr rfl)))
      (pss_cons (ps_asg pe_int (pg_name (i := 5) sc__law_spots.nd rfl (by first | exact Or.inl rfl | exact Or.inr rfl)))
      (pss_cons (ps_asg pe_int (pg_name (i := 6) sc__law_spots.nd rfl (by first | exact Or.inl rfl | exact Or.inr rfl)))
      (pss_cons (ps_if (pt_cmpR (k_eq (K := K) rfl hr.units) (pv 1) pe_str (nomark _))
        (pss_one (ps_asg pe_non (pg_name (i := 5) sc__law_spots.nd rfl (by first | exact Or.inl rfl | exact Or.inr rfl))))
        pss_nil)
      (pss_cons (ps_if (pt_cmpR (k_eq (K := K) rfl hr.units) (pv 1) pe_str (nomark _))
        (pss_cons (ps_asg (pe_op (k_add (K := K) rfl) (pv 2) pe_int) (pg_name (i := 4) sc__law_spots.nd rfl (by first | exact Or.inl rfl | exact Or.inr rfl)))
        (pss_cons (ps_asg (pv 3) (pg_name (i := 5) sc__law_spots.nd rfl (by first | exact Or.inl rfl | exact Or.inr rfl)))
        (pss_one (ps_asg (pv 2) (pg_name (i := 6) sc__law_spots.nd rfl (by first | exact Or.inl rfl | exact Or.inr rfl))))))
        pss_nil)
      (pss_cons (ps_if (pt_cmpR (k_eq (K := K) rfl hr.units) (pv 1) pe_str (nomark _))
        (pss_one (ps_asg pe_int (pg_name (i := 4) sc__law_spots.nd rfl (by first | exact Or.inl rfl | exact Or.inr rfl))))
        pss_nil)
      (pss_cons (ps_if (PW.pt (pw_or (pt_not (pt_val (pe_call G__law_number hr rfl g__law_number k__law_number bn__law_number .nil pass0 (pa_cons (k_methD (K := K) (tb := [(a_Loose, C_Loose__spots mg a_Loose), (a_Kept, C_Kept__spots mg a_Kept), (a_Make, C_Make__spots mg a_Make), (a_Watch, C_Watch__spots mg a_Watch), (a_Hold, C_Hold__spots mg a_Hold)]) rfl (pe_methD (pv 0) (mt_cons ⟨_, _, XX.R_Loose.cls, k_Loose__spots , G_Loose__spots , hr, bn_Loose__spots ⟩ (mt_cons ⟨_, _, XX.R_Kept.cls, k_Kept__spots , G_Kept__spots , hr, bn_Kept__spots ⟩ (mt_cons ⟨_, _, XX.R_Make.cls, k_Make__spots , G_Make__spots , hr, bn_Make__spots ⟩ (mt_cons ⟨_, _, XX.R_Watch.cls, k_Watch__spots , G_Watch__spots , hr, bn_Watch__spots ⟩ (mt_cons ⟨_, _, XX.R_Hold.cls, k_Hold__spots , G_Hold__spots , hr, bn_Hold__spots ⟩ mt_nil))))) pass0 (pa_cons (pv 2) pa_nil))) (pa_cons (pv 4) pa_nil))))) (pw_or1 (pt_not (pt_val (pe_call G__law_number hr rfl g__law_number k__law_number bn__law_number .nil pass0 (pa_cons (k_methD (K := K) (tb := [(a_Loose, C_Loose__first_spot mg a_Loose), (a_Kept, C_Kept__first_spot mg a_Kept), (a_Make, C_Make__first_spot mg a_Make), (a_Watch, C_Watch__first_spot mg a_Watch), (a_Hold, C_Hold__first_spot mg a_Hold)]) rfl (pe_methD (pv 0) (mt_cons ⟨_, _, XX.R_Loose.cls, k_Loose__first_spot , G_Loose__first_spot , hr, bn_Loose__first_spot ⟩ (mt_cons ⟨_, _, XX.R_Kept.cls, k_Kept__first_spot , G_Kept__first_spot , hr, bn_Kept__first_spot ⟩ (mt_cons ⟨_, _, XX.R_Make.cls, k_Make__first_spot , G_Make__first_spot , hr, bn_Make__first_spot ⟩ (mt_cons ⟨_, _, XX.R_Watch.cls, k_Watch__first_spot , G_Watch__first_spot , hr, bn_Watch__first_spot ⟩ (mt_cons ⟨_, _, XX.R_Hold.cls, k_Hold__first_spot , G_Hold__first_spot , hr, bn_Hold__first_spot ⟩ mt_nil))))) pass0 (pa_cons (pv 2) pa_nil))) (pa_cons (pv 6) pa_nil))))))))
        (pss_one (ps_ret pe_bl))
        pss_nil)
      (pss_one (ps_ret (pe_call G__law_number hr rfl g__law_number k__law_number bn__law_number .nil pass0 (pa_cons (k_methD (K := K) (tb := [(a_Loose, C_Loose__look_spot mg a_Loose), (a_Kept, C_Kept__look_spot mg a_Kept), (a_Make, C_Make__look_spot mg a_Make), (a_Watch, C_Watch__look_spot mg a_Watch), (a_Hold, C_Hold__look_spot mg a_Hold)]) rfl (pe_methD (pv 0) (mt_cons ⟨_, _, XX.R_Loose.cls, k_Loose__look_spot , G_Loose__look_spot , hr, bn_Loose__look_spot ⟩ (mt_cons ⟨_, _, XX.R_Kept.cls, k_Kept__look_spot , G_Kept__look_spot , hr, bn_Kept__look_spot ⟩ (mt_cons ⟨_, _, XX.R_Make.cls, k_Make__look_spot , G_Make__look_spot , hr, bn_Make__look_spot ⟩ (mt_cons ⟨_, _, XX.R_Watch.cls, k_Watch__look_spot , G_Watch__look_spot , hr, bn_Watch__look_spot ⟩ (mt_cons ⟨_, _, XX.R_Hold.cls, k_Hold__look_spot , G_Hold__look_spot , hr, bn_Hold__look_spot ⟩ mt_nil))))) pass0 (pa_cons (pv 3) pa_nil))) (pa_cons (pv 5) pa_nil)))))))))))), ?_⟩
  clear hS0 hl0 hr hu wx G_Loose__look_spot k_Loose__look_spot bn_Loose__look_spot G_Kept__look_spot k_Kept__look_spot bn_Kept__look_spot G_Make__look_spot k_Make__look_spot bn_Make__look_spot G_Watch__look_spot k_Watch__look_spot bn_Watch__look_spot G_Hold__look_spot k_Hold__look_spot bn_Hold__look_spot G_Loose__spots k_Loose__spots bn_Loose__spots G_Kept__spots k_Kept__spots bn_Kept__spots G_Make__spots k_Make__spots bn_Make__spots G_Watch__spots k_Watch__spots bn_Watch__spots G_Hold__spots k_Hold__spots bn_Hold__spots G_Loose__first_spot k_Loose__first_spot bn_Loose__first_spot G_Kept__first_spot k_Kept__first_spot bn_Kept__first_spot G_Make__first_spot k_Make__first_spot bn_Make__first_spot G_Watch__first_spot k_Watch__first_spot bn_Watch__first_spot G_Hold__first_spot k_Hold__first_spot bn_Hold__first_spot G__law_number g__law_number k__law_number bn__law_number
  have X_g_Loose := XX.g_Loose
  have X_R_Loose := XX.R_Loose
  have X_g_Kept := XX.g_Kept
  have X_R_Kept := XX.R_Kept
  have X_g_Make := XX.g_Make
  have X_R_Make := XX.R_Make
  have X_g_Watch := XX.g_Watch
  have X_R_Watch := XX.R_Watch
  have X_g_Hold := XX.g_Hold
  have X_R_Hold := XX.R_Hold
  have X_N_Loose := XX.N_Loose
  have X_ki_Loose_Hold := XX.ki_Loose_Hold
  have X_ki_Loose_Loose := XX.ki_Loose_Loose
  have X_ki_Loose_Kept := XX.ki_Loose_Kept
  have X_ki_Loose_Watch := XX.ki_Loose_Watch
  have X_ki_Loose_Make := XX.ki_Loose_Make
  have X_N_Kept := XX.N_Kept
  have X_ki_Kept_Hold := XX.ki_Kept_Hold
  have X_ki_Kept_Loose := XX.ki_Kept_Loose
  have X_ki_Kept_Kept := XX.ki_Kept_Kept
  have X_ki_Kept_Watch := XX.ki_Kept_Watch
  have X_ki_Kept_Make := XX.ki_Kept_Make
  have X_N_Make := XX.N_Make
  have X_ki_Make_Hold := XX.ki_Make_Hold
  have X_ki_Make_Loose := XX.ki_Make_Loose
  have X_ki_Make_Kept := XX.ki_Make_Kept
  have X_ki_Make_Watch := XX.ki_Make_Watch
  have X_ki_Make_Make := XX.ki_Make_Make
  have X_N_Watch := XX.N_Watch
  have X_ki_Watch_Hold := XX.ki_Watch_Hold
  have X_ki_Watch_Loose := XX.ki_Watch_Loose
  have X_ki_Watch_Kept := XX.ki_Watch_Kept
  have X_ki_Watch_Watch := XX.ki_Watch_Watch
  have X_ki_Watch_Make := XX.ki_Watch_Make
  have X_N_Hold := XX.N_Hold
  have X_ki_Hold_Hold := XX.ki_Hold_Hold
  have X_ki_Hold_Loose := XX.ki_Hold_Loose
  have X_ki_Hold_Kept := XX.ki_Hold_Kept
  have X_ki_Hold_Watch := XX.ki_Hold_Watch
  have X_ki_Hold_Make := XX.ki_Hold_Make
  simp only [List.map_cons, List.map_nil, List.length_cons, List.length_nil, List.cons_append, List.nil_append, Nat.reduceAdd, Nat.reduceSub, List.replicate_succ, List.replicate_zero, N__law_spots]
  cases l <;> simp only [lvW]
  all_goals (walk_at "sko")
  all_goals simp only [decide_true]
theorem cal__law_kin (D : Df K mg "_law_kin" s__law_kin) {a_SkewError a_NoLevel a_Loose a_Kept a_Make a_Watch a_Hold : Addr} (XX : XF K mg a_SkewError a_NoLevel a_Loose a_Kept a_Make a_Watch a_Hold) (b_isinstance : mg "isinstance" = none) : Cal P w K mg base "_law_kin" 1 ["_law_level"] (C__law_kin mg) := by
  obtain ⟨f, fd, F, mf⟩ := D
  refine ⟨f, fd, ?_, mf, F.kp, F.binds (ps := ["_law_level"]) fun _ _ _ _ _ _ us hl => match us, hl with | [_], _ => rfl, Fun.lk F⟩
  refine F.ok sc__law_kin (fun vs H Q E hS0 => spP_len (n := 1) (fun xs p q c0 => by unfold C__law_kin at c0; obtain ⟨_, rfl, _⟩ := c0; rfl) hS0) (fun cdv A outer s H vs Q E hr hS0 => ?_)
  have hu := hu_of hr
  refine sp_body hS0 (fun B xs p q c0 hl0 wx => ?_)
  obtain ⟨l, rfl, rfl, rfl⟩ := c0
  refine ⟨_, (pss_one (ps_ret (pe_lst (pa_cons (pe_callB (k_isi (K := K) rfl) (by rfl) b_isinstance (by decide +kernel) (pa_cons (pv 0) (pa_cons (pe_glob (v := .ref a_Loose) (by rfl) XX.g_Loose rfl) pa_nil))) (pa_cons (pe_callB (k_isi (K := K) rfl) (by rfl) b_isinstance (by decide +kernel) (pa_cons (pv 0) (pa_cons (pe_glob (v := .ref a_Kept) (by rfl) XX.g_Kept rfl) pa_nil))) (pa_cons (pe_callB (k_isi (K := K) rfl) (by rfl) b_isinstance (by decide +kernel) (pa_cons (pv 0) (pa_cons (pe_glob (v := .ref a_Make) (by rfl) XX.g_Make rfl) pa_nil))) (pa_cons (pe_callB (k_isi (K := K) rfl) (by rfl) b_isinstance (by decide +kernel) (pa_cons (pv 0) (pa_cons (pe_glob (v := .ref a_Watch) (by rfl) XX.g_Watch rfl) pa_nil))) (pa_cons (pe_callB (k_isi (K := K) rfl) (by rfl) b_isinstance (by decide +kernel) (pa_cons (pv 0) (pa_cons (pe_glob (v := .ref a_Hold) (by rfl) XX.g_Hold rfl) pa_nil))) pa_nil)))))))), ?_⟩
  clear hS0 hl0 hr hu wx b_isinstance
  have X_g_Loose := XX.g_Loose
  have X_R_Loose := XX.R_Loose
  have X_g_Kept := XX.g_Kept
  have X_R_Kept := XX.R_Kept
  have X_g_Make := XX.g_Make
  have X_R_Make := XX.R_Make
  have X_g_Watch := XX.g_Watch
  have X_R_Watch := XX.R_Watch
  have X_g_Hold := XX.g_Hold
  have X_R_Hold := XX.R_Hold
  have X_N_Loose := XX.N_Loose
  have X_ki_Loose_Hold := XX.ki_Loose_Hold
  have X_ki_Loose_Loose := XX.ki_Loose_Loose
  have X_ki_Loose_Kept := XX.ki_Loose_Kept
  have X_ki_Loose_Watch := XX.ki_Loose_Watch
  have X_ki_Loose_Make := XX.ki_Loose_Make
  have X_N_Kept := XX.N_Kept
  have X_ki_Kept_Hold := XX.ki_Kept_Hold
  have X_ki_Kept_Loose := XX.ki_Kept_Loose
  have X_ki_Kept_Kept := XX.ki_Kept_Kept
  have X_ki_Kept_Watch := XX.ki_Kept_Watch
  have X_ki_Kept_Make := XX.ki_Kept_Make
  have X_N_Make := XX.N_Make
  have X_ki_Make_Hold := XX.ki_Make_Hold
  have X_ki_Make_Loose := XX.ki_Make_Loose
  have X_ki_Make_Kept := XX.ki_Make_Kept
  have X_ki_Make_Watch := XX.ki_Make_Watch
  have X_ki_Make_Make := XX.ki_Make_Make
  have X_N_Watch := XX.N_Watch
  have X_ki_Watch_Hold := XX.ki_Watch_Hold
  have X_ki_Watch_Loose := XX.ki_Watch_Loose
  have X_ki_Watch_Kept := XX.ki_Watch_Kept
  have X_ki_Watch_Watch := XX.ki_Watch_Watch
  have X_ki_Watch_Make := XX.ki_Watch_Make
  have X_N_Hold := XX.N_Hold
  have X_ki_Hold_Hold := XX.ki_Hold_Hold
  have X_ki_Hold_Loose := XX.ki_Hold_Loose
  have X_ki_Hold_Kept := XX.ki_Hold_Kept
  have X_ki_Hold_Watch := XX.ki_Hold_Watch
  have X_ki_Hold_Make := XX.ki_Hold_Make
  simp only [List.map_cons, List.map_nil, List.length_cons, List.length_nil, List.cons_append, List.nil_append, Nat.reduceAdd, Nat.reduceSub, List.replicate_succ, List.replicate_zero, N__law_kin]
  have l0 := lvD_of .loose X_g_Loose
  have l1 := lvD_of .kept X_g_Kept
  have l2 := lvD_of .make X_g_Make
  have l3 := lvD_of .watch X_g_Watch
  have l4 := lvD_of .hold X_g_Hold
  cases l
  · rw [l0]; ((with_reducible refine gos_ret ?_); (with_reducible refine go_lst ?_); (with_reducible refine goa_cons ?_); (with_reducible refine go_cb ?_); (with_reducible refine goa_cons ?_); walk_at "x1"; (with_reducible refine goa_cons ?_); (with_reducible refine go_ref ?_); (with_reducible refine goa_nil ?_); walk_at "x0"; walk_at "x18"; (with_reducible refine goa_cons ?_); (with_reducible refine go_cb ?_); (with_reducible refine goa_cons ?_); walk_at "x1"; (with_reducible refine goa_cons ?_); (with_reducible refine go_ref ?_); (with_reducible refine goa_nil ?_); walk_at "x0"; walk_at "x18"; (with_reducible refine goa_cons ?_); (with_reducible refine go_cb ?_); (with_reducible refine goa_cons ?_); walk_at "x1"; (with_reducible refine goa_cons ?_); (with_reducible refine go_ref ?_); (with_reducible refine goa_nil ?_); walk_at "x0"; walk_at "x18"; (with_reducible refine goa_cons ?_); (with_reducible refine go_cb ?_); (with_reducible refine goa_cons ?_); walk_at "x1"; (with_reducible refine goa_cons ?_); (with_reducible refine go_ref ?_); (with_reducible refine goa_nil ?_); walk_at "x0"; walk_at "x18"; (with_reducible refine goa_cons ?_); (with_reducible refine go_cb ?_); (with_reducible refine goa_cons ?_); walk_at "x1"; (with_reducible refine goa_cons ?_); (with_reducible refine go_ref ?_); (with_reducible refine goa_nil ?_); walk_at "x0"; walk_at "x18"; (with_reducible refine goa_nil ?_); walk_at "x0"; walk_at "x12"; (focus skip); rotate_left); rfl
  · rw [l1]; ((with_reducible refine gos_ret ?_); (with_reducible refine go_lst ?_); (with_reducible refine goa_cons ?_); (with_reducible refine go_cb ?_); (with_reducible refine goa_cons ?_); walk_at "x1"; (with_reducible refine goa_cons ?_); (with_reducible refine go_ref ?_); (with_reducible refine goa_nil ?_); walk_at "x0"; walk_at "x18"; (with_reducible refine goa_cons ?_); (with_reducible refine go_cb ?_); (with_reducible refine goa_cons ?_); walk_at "x1"; (with_reducible refine goa_cons ?_); (with_reducible refine go_ref ?_); (with_reducible refine goa_nil ?_); walk_at "x0"; walk_at "x18"; (with_reducible refine goa_cons ?_); (with_reducible refine go_cb ?_); (with_reducible refine goa_cons ?_); walk_at "x1"; (with_reducible refine goa_cons ?_); (with_reducible refine go_ref ?_); (with_reducible refine goa_nil ?_); walk_at "x0"; walk_at "x18"; (with_reducible refine goa_cons ?_); (with_reducible refine go_cb ?_); (with_reducible refine goa_cons ?_); walk_at "x1"; (with_reducible refine goa_cons ?_); (with_reducible refine go_ref ?_); (with_reducible refine goa_nil ?_); walk_at "x0"; walk_at "x18"; (with_reducible refine goa_cons ?_); (with_reducible refine go_cb ?_); (with_reducible refine goa_cons ?_); walk_at "x1"; (with_reducible refine goa_cons ?_); (with_reducible refine go_ref ?_); (with_reducible refine goa_nil ?_); walk_at "x0"; walk_at "x18"; (with_reducible refine goa_nil ?_); walk_at "x0"; walk_at "x12"; (focus skip); rotate_left); rfl
  · rw [l2]; ((with_reducible refine gos_ret ?_); (with_reducible refine go_lst ?_); (with_reducible refine goa_cons ?_); (with_reducible refine go_cb ?_); (with_reducible refine goa_cons ?_); walk_at "x1"; (with_reducible refine goa_cons ?_); (with_reducible refine go_ref ?_); (with_reducible refine goa_nil ?_); walk_at "x0"; walk_at "x18"; (with_reducible refine goa_cons ?_); (with_reducible refine go_cb ?_); (with_reducible refine goa_cons ?_); walk_at "x1"; (with_reducible refine goa_cons ?_); (with_reducible refine go_ref ?_); (with_reducible refine goa_nil ?_); walk_at "x0"; walk_at "x18"; (with_reducible refine goa_cons ?_); (with_reducible refine go_cb ?_); (with_reducible refine goa_cons ?_); walk_at "x1"; (with_reducible refine goa_cons ?_); (with_reducible refine go_ref ?_); (with_reducible refine goa_nil ?_); walk_at "x0"; walk_at "x18"; (with_reducible refine goa_cons ?_); (with_reducible refine go_cb ?_); (with_reducible refine goa_cons ?_); walk_at "x1"; (with_reducible refine goa_cons ?_); (with_reducible refine go_ref ?_); (with_reducible refine goa_nil ?_); walk_at "x0"; walk_at "x18"; (with_reducible refine goa_cons ?_); (with_reducible refine go_cb ?_); (with_reducible refine goa_cons ?_); walk_at "x1"; (with_reducible refine goa_cons ?_); (with_reducible refine go_ref ?_); (with_reducible refine goa_nil ?_); walk_at "x0"; walk_at "x18"; (with_reducible refine goa_nil ?_); walk_at "x0"; walk_at "x12"; (focus skip); rotate_left); rfl
  · rw [l3]; ((with_reducible refine gos_ret ?_); (with_reducible refine go_lst ?_); (with_reducible refine goa_cons ?_); (with_reducible refine go_cb ?_); (with_reducible refine goa_cons ?_); walk_at "x1"; (with_reducible refine goa_cons ?_); (with_reducible refine go_ref ?_); (with_reducible refine goa_nil ?_); walk_at "x0"; walk_at "x18"; (with_reducible refine goa_cons ?_); (with_reducible refine go_cb ?_); (with_reducible refine goa_cons ?_); walk_at "x1"; (with_reducible refine goa_cons ?_); (with_reducible refine go_ref ?_); (with_reducible refine goa_nil ?_); walk_at "x0"; walk_at "x18"; (with_reducible refine goa_cons ?_); (with_reducible refine go_cb ?_); (with_reducible refine goa_cons ?_); walk_at "x1"; (with_reducible refine goa_cons ?_); (with_reducible refine go_ref ?_); (with_reducible refine goa_nil ?_); walk_at "x0"; walk_at "x18"; (with_reducible refine goa_cons ?_); (with_reducible refine go_cb ?_); (with_reducible refine goa_cons ?_); walk_at "x1"; (with_reducible refine goa_cons ?_); (with_reducible refine go_ref ?_); (with_reducible refine goa_nil ?_); walk_at "x0"; walk_at "x18"; (with_reducible refine goa_cons ?_); (with_reducible refine go_cb ?_); (with_reducible refine goa_cons ?_); walk_at "x1"; (with_reducible refine goa_cons ?_); (with_reducible refine go_ref ?_); (with_reducible refine goa_nil ?_); walk_at "x0"; walk_at "x18"; (with_reducible refine goa_nil ?_); walk_at "x0"; walk_at "x12"; (focus skip); rotate_left); rfl
  · rw [l4]; ((with_reducible refine gos_ret ?_); (with_reducible refine go_lst ?_); (with_reducible refine goa_cons ?_); (with_reducible refine go_cb ?_); (with_reducible refine goa_cons ?_); walk_at "x1"; (with_reducible refine goa_cons ?_); (with_reducible refine go_ref ?_); (with_reducible refine goa_nil ?_); walk_at "x0"; walk_at "x18"; (with_reducible refine goa_cons ?_); (with_reducible refine go_cb ?_); (with_reducible refine goa_cons ?_); walk_at "x1"; (with_reducible refine goa_cons ?_); (with_reducible refine go_ref ?_); (with_reducible refine goa_nil ?_); walk_at "x0"; walk_at "x18"; (with_reducible refine goa_cons ?_); (with_reducible refine go_cb ?_); (with_reducible refine goa_cons ?_); walk_at "x1"; (with_reducible refine goa_cons ?_); (with_reducible refine go_ref ?_); (with_reducible refine goa_nil ?_); walk_at "x0"; walk_at "x18"; (with_reducible refine goa_cons ?_); (with_reducible refine go_cb ?_); (with_reducible refine goa_cons ?_); walk_at "x1"; (with_reducible refine goa_cons ?_); (with_reducible refine go_ref ?_); (with_reducible refine goa_nil ?_); walk_at "x0"; walk_at "x18"; (with_reducible refine goa_cons ?_); (with_reducible refine go_cb ?_); (with_reducible refine goa_cons ?_); walk_at "x1"; (with_reducible refine goa_cons ?_); (with_reducible refine go_ref ?_); (with_reducible refine goa_nil ?_); walk_at "x0"; walk_at "x18"; (with_reducible refine goa_nil ?_); walk_at "x0"; walk_at "x12"; (focus skip); rotate_left); rfl
theorem cal_Loose__holds_asks {zf : Addr} (D : DfM K "holds_asks" "Loose.holds_asks" s_Loose__holds_asks zf) {a_SkewError a_NoLevel a_Loose a_Kept a_Make a_Watch a_Hold : Addr} (XX : XF K mg a_SkewError a_NoLevel a_Loose a_Kept a_Make a_Watch a_Hold) (ME : Meth K a_Loose "holds_asks" zf) : CalM P w K mg base a_Loose "holds_asks" 1 ["self"] (C_Loose__holds_asks mg a_Loose) := by
  obtain ⟨fd, F⟩ := D
  refine ⟨zf, fd, ?_, ME, F.binds (ps := ["self"]) fun _ _ _ _ _ _ us hl => match us, hl with | [_], _ => rfl⟩
  refine F.ok sc_Loose__holds_asks (fun vs H Q E hS0 => spP_len (n := 1) (fun xs p q c0 => by unfold C_Loose__holds_asks at c0; obtain ⟨_, rfl, _⟩ := c0; rfl) hS0) (fun cdv A outer s H vs Q E hr hS0 => ?_)
  have hu := hu_of hr
  refine sp_body hS0 (fun B xs p q c0 hl0 wx => ?_)
  obtain ⟨Cv, rfl, rfl, rfl⟩ := c0
  refine ⟨_, (pss_one (ps_ret pe_bl)), ?_⟩
  clear hS0 hl0 hr hu wx
  have X_g_Loose := XX.g_Loose
  have X_R_Loose := XX.R_Loose
  have X_g_Kept := XX.g_Kept
  have X_R_Kept := XX.R_Kept
  have X_g_Make := XX.g_Make
  have X_R_Make := XX.R_Make
  have X_g_Watch := XX.g_Watch
  have X_R_Watch := XX.R_Watch
  have X_g_Hold := XX.g_Hold
  have X_R_Hold := XX.R_Hold
  have X_N_Loose := XX.N_Loose
  have X_ki_Loose_Hold := XX.ki_Loose_Hold
  have X_ki_Loose_Loose := XX.ki_Loose_Loose
  have X_ki_Loose_Kept := XX.ki_Loose_Kept
  have X_ki_Loose_Watch := XX.ki_Loose_Watch
  have X_ki_Loose_Make := XX.ki_Loose_Make
  have X_N_Kept := XX.N_Kept
  have X_ki_Kept_Hold := XX.ki_Kept_Hold
  have X_ki_Kept_Loose := XX.ki_Kept_Loose
  have X_ki_Kept_Kept := XX.ki_Kept_Kept
  have X_ki_Kept_Watch := XX.ki_Kept_Watch
  have X_ki_Kept_Make := XX.ki_Kept_Make
  have X_N_Make := XX.N_Make
  have X_ki_Make_Hold := XX.ki_Make_Hold
  have X_ki_Make_Loose := XX.ki_Make_Loose
  have X_ki_Make_Kept := XX.ki_Make_Kept
  have X_ki_Make_Watch := XX.ki_Make_Watch
  have X_ki_Make_Make := XX.ki_Make_Make
  have X_N_Watch := XX.N_Watch
  have X_ki_Watch_Hold := XX.ki_Watch_Hold
  have X_ki_Watch_Loose := XX.ki_Watch_Loose
  have X_ki_Watch_Kept := XX.ki_Watch_Kept
  have X_ki_Watch_Watch := XX.ki_Watch_Watch
  have X_ki_Watch_Make := XX.ki_Watch_Make
  have X_N_Hold := XX.N_Hold
  have X_ki_Hold_Hold := XX.ki_Hold_Hold
  have X_ki_Hold_Loose := XX.ki_Hold_Loose
  have X_ki_Hold_Kept := XX.ki_Hold_Kept
  have X_ki_Hold_Watch := XX.ki_Hold_Watch
  have X_ki_Hold_Make := XX.ki_Hold_Make
  simp only [List.map_cons, List.map_nil, List.length_cons, List.length_nil, List.cons_append, List.nil_append, Nat.reduceAdd, Nat.reduceSub, List.replicate_succ, List.replicate_zero, N_Loose__holds_asks]
  ((with_reducible refine gos_ret ?_); (with_reducible refine go_bl ?_); walk_at "x0"; (focus skip); rotate_left)
  all_goals rfl
theorem cal_Kept__holds_asks {zf : Addr} (D : DfM K "holds_asks" "Loose.holds_asks" s_Kept__holds_asks zf) {a_SkewError a_NoLevel a_Loose a_Kept a_Make a_Watch a_Hold : Addr} (XX : XF K mg a_SkewError a_NoLevel a_Loose a_Kept a_Make a_Watch a_Hold) (ME : Meth K a_Kept "holds_asks" zf) : CalM P w K mg base a_Kept "holds_asks" 1 ["self"] (C_Kept__holds_asks mg a_Kept) := by
  obtain ⟨fd, F⟩ := D
  refine ⟨zf, fd, ?_, ME, F.binds (ps := ["self"]) fun _ _ _ _ _ _ us hl => match us, hl with | [_], _ => rfl⟩
  refine F.ok sc_Kept__holds_asks (fun vs H Q E hS0 => spP_len (n := 1) (fun xs p q c0 => by unfold C_Kept__holds_asks at c0; obtain ⟨_, rfl, _⟩ := c0; rfl) hS0) (fun cdv A outer s H vs Q E hr hS0 => ?_)
  have hu := hu_of hr
  refine sp_body hS0 (fun B xs p q c0 hl0 wx => ?_)
  obtain ⟨Cv, rfl, rfl, rfl⟩ := c0
  refine ⟨_, (pss_one (ps_ret pe_bl)), ?_⟩
  clear hS0 hl0 hr hu wx
  have X_g_Loose := XX.g_Loose
  have X_R_Loose := XX.R_Loose
  have X_g_Kept := XX.g_Kept
  have X_R_Kept := XX.R_Kept
  have X_g_Make := XX.g_Make
  have X_R_Make := XX.R_Make
  have X_g_Watch := XX.g_Watch
  have X_R_Watch := XX.R_Watch
  have X_g_Hold := XX.g_Hold
  have X_R_Hold := XX.R_Hold
  have X_N_Loose := XX.N_Loose
  have X_ki_Loose_Hold := XX.ki_Loose_Hold
  have X_ki_Loose_Loose := XX.ki_Loose_Loose
  have X_ki_Loose_Kept := XX.ki_Loose_Kept
  have X_ki_Loose_Watch := XX.ki_Loose_Watch
  have X_ki_Loose_Make := XX.ki_Loose_Make
  have X_N_Kept := XX.N_Kept
  have X_ki_Kept_Hold := XX.ki_Kept_Hold
  have X_ki_Kept_Loose := XX.ki_Kept_Loose
  have X_ki_Kept_Kept := XX.ki_Kept_Kept
  have X_ki_Kept_Watch := XX.ki_Kept_Watch
  have X_ki_Kept_Make := XX.ki_Kept_Make
  have X_N_Make := XX.N_Make
  have X_ki_Make_Hold := XX.ki_Make_Hold
  have X_ki_Make_Loose := XX.ki_Make_Loose
  have X_ki_Make_Kept := XX.ki_Make_Kept
  have X_ki_Make_Watch := XX.ki_Make_Watch
  have X_ki_Make_Make := XX.ki_Make_Make
  have X_N_Watch := XX.N_Watch
  have X_ki_Watch_Hold := XX.ki_Watch_Hold
  have X_ki_Watch_Loose := XX.ki_Watch_Loose
  have X_ki_Watch_Kept := XX.ki_Watch_Kept
  have X_ki_Watch_Watch := XX.ki_Watch_Watch
  have X_ki_Watch_Make := XX.ki_Watch_Make
  have X_N_Hold := XX.N_Hold
  have X_ki_Hold_Hold := XX.ki_Hold_Hold
  have X_ki_Hold_Loose := XX.ki_Hold_Loose
  have X_ki_Hold_Kept := XX.ki_Hold_Kept
  have X_ki_Hold_Watch := XX.ki_Hold_Watch
  have X_ki_Hold_Make := XX.ki_Hold_Make
  simp only [List.map_cons, List.map_nil, List.length_cons, List.length_nil, List.cons_append, List.nil_append, Nat.reduceAdd, Nat.reduceSub, List.replicate_succ, List.replicate_zero, N_Kept__holds_asks]
  ((with_reducible refine gos_ret ?_); (with_reducible refine go_bl ?_); walk_at "x0"; (focus skip); rotate_left)
  all_goals rfl
theorem cal_Make__holds_asks {zf : Addr} (D : DfM K "holds_asks" "Loose.holds_asks" s_Make__holds_asks zf) {a_SkewError a_NoLevel a_Loose a_Kept a_Make a_Watch a_Hold : Addr} (XX : XF K mg a_SkewError a_NoLevel a_Loose a_Kept a_Make a_Watch a_Hold) (ME : Meth K a_Make "holds_asks" zf) : CalM P w K mg base a_Make "holds_asks" 1 ["self"] (C_Make__holds_asks mg a_Make) := by
  obtain ⟨fd, F⟩ := D
  refine ⟨zf, fd, ?_, ME, F.binds (ps := ["self"]) fun _ _ _ _ _ _ us hl => match us, hl with | [_], _ => rfl⟩
  refine F.ok sc_Make__holds_asks (fun vs H Q E hS0 => spP_len (n := 1) (fun xs p q c0 => by unfold C_Make__holds_asks at c0; obtain ⟨_, rfl, _⟩ := c0; rfl) hS0) (fun cdv A outer s H vs Q E hr hS0 => ?_)
  have hu := hu_of hr
  refine sp_body hS0 (fun B xs p q c0 hl0 wx => ?_)
  obtain ⟨Cv, rfl, rfl, rfl⟩ := c0
  refine ⟨_, (pss_one (ps_ret pe_bl)), ?_⟩
  clear hS0 hl0 hr hu wx
  have X_g_Loose := XX.g_Loose
  have X_R_Loose := XX.R_Loose
  have X_g_Kept := XX.g_Kept
  have X_R_Kept := XX.R_Kept
  have X_g_Make := XX.g_Make
  have X_R_Make := XX.R_Make
  have X_g_Watch := XX.g_Watch
  have X_R_Watch := XX.R_Watch
  have X_g_Hold := XX.g_Hold
  have X_R_Hold := XX.R_Hold
  have X_N_Loose := XX.N_Loose
  have X_ki_Loose_Hold := XX.ki_Loose_Hold
  have X_ki_Loose_Loose := XX.ki_Loose_Loose
  have X_ki_Loose_Kept := XX.ki_Loose_Kept
  have X_ki_Loose_Watch := XX.ki_Loose_Watch
  have X_ki_Loose_Make := XX.ki_Loose_Make
  have X_N_Kept := XX.N_Kept
  have X_ki_Kept_Hold := XX.ki_Kept_Hold
  have X_ki_Kept_Loose := XX.ki_Kept_Loose
  have X_ki_Kept_Kept := XX.ki_Kept_Kept
  have X_ki_Kept_Watch := XX.ki_Kept_Watch
  have X_ki_Kept_Make := XX.ki_Kept_Make
  have X_N_Make := XX.N_Make
  have X_ki_Make_Hold := XX.ki_Make_Hold
  have X_ki_Make_Loose := XX.ki_Make_Loose
  have X_ki_Make_Kept := XX.ki_Make_Kept
  have X_ki_Make_Watch := XX.ki_Make_Watch
  have X_ki_Make_Make := XX.ki_Make_Make
  have X_N_Watch := XX.N_Watch
  have X_ki_Watch_Hold := XX.ki_Watch_Hold
  have X_ki_Watch_Loose := XX.ki_Watch_Loose
  have X_ki_Watch_Kept := XX.ki_Watch_Kept
  have X_ki_Watch_Watch := XX.ki_Watch_Watch
  have X_ki_Watch_Make := XX.ki_Watch_Make
  have X_N_Hold := XX.N_Hold
  have X_ki_Hold_Hold := XX.ki_Hold_Hold
  have X_ki_Hold_Loose := XX.ki_Hold_Loose
  have X_ki_Hold_Kept := XX.ki_Hold_Kept
  have X_ki_Hold_Watch := XX.ki_Hold_Watch
  have X_ki_Hold_Make := XX.ki_Hold_Make
  simp only [List.map_cons, List.map_nil, List.length_cons, List.length_nil, List.cons_append, List.nil_append, Nat.reduceAdd, Nat.reduceSub, List.replicate_succ, List.replicate_zero, N_Make__holds_asks]
  ((with_reducible refine gos_ret ?_); (with_reducible refine go_bl ?_); walk_at "x0"; (focus skip); rotate_left)
  all_goals rfl
theorem cal_Watch__holds_asks {zf : Addr} (D : DfM K "holds_asks" "Loose.holds_asks" s_Watch__holds_asks zf) {a_SkewError a_NoLevel a_Loose a_Kept a_Make a_Watch a_Hold : Addr} (XX : XF K mg a_SkewError a_NoLevel a_Loose a_Kept a_Make a_Watch a_Hold) (ME : Meth K a_Watch "holds_asks" zf) : CalM P w K mg base a_Watch "holds_asks" 1 ["self"] (C_Watch__holds_asks mg a_Watch) := by
  obtain ⟨fd, F⟩ := D
  refine ⟨zf, fd, ?_, ME, F.binds (ps := ["self"]) fun _ _ _ _ _ _ us hl => match us, hl with | [_], _ => rfl⟩
  refine F.ok sc_Watch__holds_asks (fun vs H Q E hS0 => spP_len (n := 1) (fun xs p q c0 => by unfold C_Watch__holds_asks at c0; obtain ⟨_, rfl, _⟩ := c0; rfl) hS0) (fun cdv A outer s H vs Q E hr hS0 => ?_)
  have hu := hu_of hr
  refine sp_body hS0 (fun B xs p q c0 hl0 wx => ?_)
  obtain ⟨Cv, rfl, rfl, rfl⟩ := c0
  refine ⟨_, (pss_one (ps_ret pe_bl)), ?_⟩
  clear hS0 hl0 hr hu wx
  have X_g_Loose := XX.g_Loose
  have X_R_Loose := XX.R_Loose
  have X_g_Kept := XX.g_Kept
  have X_R_Kept := XX.R_Kept
  have X_g_Make := XX.g_Make
  have X_R_Make := XX.R_Make
  have X_g_Watch := XX.g_Watch
  have X_R_Watch := XX.R_Watch
  have X_g_Hold := XX.g_Hold
  have X_R_Hold := XX.R_Hold
  have X_N_Loose := XX.N_Loose
  have X_ki_Loose_Hold := XX.ki_Loose_Hold
  have X_ki_Loose_Loose := XX.ki_Loose_Loose
  have X_ki_Loose_Kept := XX.ki_Loose_Kept
  have X_ki_Loose_Watch := XX.ki_Loose_Watch
  have X_ki_Loose_Make := XX.ki_Loose_Make
  have X_N_Kept := XX.N_Kept
  have X_ki_Kept_Hold := XX.ki_Kept_Hold
  have X_ki_Kept_Loose := XX.ki_Kept_Loose
  have X_ki_Kept_Kept := XX.ki_Kept_Kept
  have X_ki_Kept_Watch := XX.ki_Kept_Watch
  have X_ki_Kept_Make := XX.ki_Kept_Make
  have X_N_Make := XX.N_Make
  have X_ki_Make_Hold := XX.ki_Make_Hold
  have X_ki_Make_Loose := XX.ki_Make_Loose
  have X_ki_Make_Kept := XX.ki_Make_Kept
  have X_ki_Make_Watch := XX.ki_Make_Watch
  have X_ki_Make_Make := XX.ki_Make_Make
  have X_N_Watch := XX.N_Watch
  have X_ki_Watch_Hold := XX.ki_Watch_Hold
  have X_ki_Watch_Loose := XX.ki_Watch_Loose
  have X_ki_Watch_Kept := XX.ki_Watch_Kept
  have X_ki_Watch_Watch := XX.ki_Watch_Watch
  have X_ki_Watch_Make := XX.ki_Watch_Make
  have X_N_Hold := XX.N_Hold
  have X_ki_Hold_Hold := XX.ki_Hold_Hold
  have X_ki_Hold_Loose := XX.ki_Hold_Loose
  have X_ki_Hold_Kept := XX.ki_Hold_Kept
  have X_ki_Hold_Watch := XX.ki_Hold_Watch
  have X_ki_Hold_Make := XX.ki_Hold_Make
  simp only [List.map_cons, List.map_nil, List.length_cons, List.length_nil, List.cons_append, List.nil_append, Nat.reduceAdd, Nat.reduceSub, List.replicate_succ, List.replicate_zero, N_Watch__holds_asks]
  ((with_reducible refine gos_ret ?_); (with_reducible refine go_bl ?_); walk_at "x0"; (focus skip); rotate_left)
  all_goals rfl
theorem cal_Hold__holds_asks {zf : Addr} (D : DfM K "holds_asks" "Hold.holds_asks" s_Hold__holds_asks zf) {a_SkewError a_NoLevel a_Loose a_Kept a_Make a_Watch a_Hold : Addr} (XX : XF K mg a_SkewError a_NoLevel a_Loose a_Kept a_Make a_Watch a_Hold) (ME : Meth K a_Hold "holds_asks" zf) : CalM P w K mg base a_Hold "holds_asks" 1 ["self"] (C_Hold__holds_asks mg a_Hold) := by
  obtain ⟨fd, F⟩ := D
  refine ⟨zf, fd, ?_, ME, F.binds (ps := ["self"]) fun _ _ _ _ _ _ us hl => match us, hl with | [_], _ => rfl⟩
  refine F.ok sc_Hold__holds_asks (fun vs H Q E hS0 => spP_len (n := 1) (fun xs p q c0 => by unfold C_Hold__holds_asks at c0; obtain ⟨_, rfl, _⟩ := c0; rfl) hS0) (fun cdv A outer s H vs Q E hr hS0 => ?_)
  have hu := hu_of hr
  refine sp_body hS0 (fun B xs p q c0 hl0 wx => ?_)
  obtain ⟨Cv, rfl, rfl, rfl⟩ := c0
  refine ⟨_, (pss_one (ps_ret pe_bl)), ?_⟩
  clear hS0 hl0 hr hu wx
  have X_g_Loose := XX.g_Loose
  have X_R_Loose := XX.R_Loose
  have X_g_Kept := XX.g_Kept
  have X_R_Kept := XX.R_Kept
  have X_g_Make := XX.g_Make
  have X_R_Make := XX.R_Make
  have X_g_Watch := XX.g_Watch
  have X_R_Watch := XX.R_Watch
  have X_g_Hold := XX.g_Hold
  have X_R_Hold := XX.R_Hold
  have X_N_Loose := XX.N_Loose
  have X_ki_Loose_Hold := XX.ki_Loose_Hold
  have X_ki_Loose_Loose := XX.ki_Loose_Loose
  have X_ki_Loose_Kept := XX.ki_Loose_Kept
  have X_ki_Loose_Watch := XX.ki_Loose_Watch
  have X_ki_Loose_Make := XX.ki_Loose_Make
  have X_N_Kept := XX.N_Kept
  have X_ki_Kept_Hold := XX.ki_Kept_Hold
  have X_ki_Kept_Loose := XX.ki_Kept_Loose
  have X_ki_Kept_Kept := XX.ki_Kept_Kept
  have X_ki_Kept_Watch := XX.ki_Kept_Watch
  have X_ki_Kept_Make := XX.ki_Kept_Make
  have X_N_Make := XX.N_Make
  have X_ki_Make_Hold := XX.ki_Make_Hold
  have X_ki_Make_Loose := XX.ki_Make_Loose
  have X_ki_Make_Kept := XX.ki_Make_Kept
  have X_ki_Make_Watch := XX.ki_Make_Watch
  have X_ki_Make_Make := XX.ki_Make_Make
  have X_N_Watch := XX.N_Watch
  have X_ki_Watch_Hold := XX.ki_Watch_Hold
  have X_ki_Watch_Loose := XX.ki_Watch_Loose
  have X_ki_Watch_Kept := XX.ki_Watch_Kept
  have X_ki_Watch_Watch := XX.ki_Watch_Watch
  have X_ki_Watch_Make := XX.ki_Watch_Make
  have X_N_Hold := XX.N_Hold
  have X_ki_Hold_Hold := XX.ki_Hold_Hold
  have X_ki_Hold_Loose := XX.ki_Hold_Loose
  have X_ki_Hold_Kept := XX.ki_Hold_Kept
  have X_ki_Hold_Watch := XX.ki_Hold_Watch
  have X_ki_Hold_Make := XX.ki_Hold_Make
  simp only [List.map_cons, List.map_nil, List.length_cons, List.length_nil, List.cons_append, List.nil_append, Nat.reduceAdd, Nat.reduceSub, List.replicate_succ, List.replicate_zero, N_Hold__holds_asks]
  ((with_reducible refine gos_ret ?_); (with_reducible refine go_bl ?_); walk_at "x0"; (focus skip); rotate_left)
  all_goals rfl
theorem cal_Loose__watches {zf : Addr} (D : DfM K "watches" "Loose.watches" s_Loose__watches zf) {a_SkewError a_NoLevel a_Loose a_Kept a_Make a_Watch a_Hold : Addr} (XX : XF K mg a_SkewError a_NoLevel a_Loose a_Kept a_Make a_Watch a_Hold) (ME : Meth K a_Loose "watches" zf) : CalM P w K mg base a_Loose "watches" 1 ["self"] (C_Loose__watches mg a_Loose) := by
  obtain ⟨fd, F⟩ := D
  refine ⟨zf, fd, ?_, ME, F.binds (ps := ["self"]) fun _ _ _ _ _ _ us hl => match us, hl with | [_], _ => rfl⟩
  refine F.ok sc_Loose__watches (fun vs H Q E hS0 => spP_len (n := 1) (fun xs p q c0 => by unfold C_Loose__watches at c0; obtain ⟨_, rfl, _⟩ := c0; rfl) hS0) (fun cdv A outer s H vs Q E hr hS0 => ?_)
  have hu := hu_of hr
  refine sp_body hS0 (fun B xs p q c0 hl0 wx => ?_)
  obtain ⟨Cv, rfl, rfl, rfl⟩ := c0
  refine ⟨_, (pss_one (ps_ret pe_bl)), ?_⟩
  clear hS0 hl0 hr hu wx
  have X_g_Loose := XX.g_Loose
  have X_R_Loose := XX.R_Loose
  have X_g_Kept := XX.g_Kept
  have X_R_Kept := XX.R_Kept
  have X_g_Make := XX.g_Make
  have X_R_Make := XX.R_Make
  have X_g_Watch := XX.g_Watch
  have X_R_Watch := XX.R_Watch
  have X_g_Hold := XX.g_Hold
  have X_R_Hold := XX.R_Hold
  have X_N_Loose := XX.N_Loose
  have X_ki_Loose_Hold := XX.ki_Loose_Hold
  have X_ki_Loose_Loose := XX.ki_Loose_Loose
  have X_ki_Loose_Kept := XX.ki_Loose_Kept
  have X_ki_Loose_Watch := XX.ki_Loose_Watch
  have X_ki_Loose_Make := XX.ki_Loose_Make
  have X_N_Kept := XX.N_Kept
  have X_ki_Kept_Hold := XX.ki_Kept_Hold
  have X_ki_Kept_Loose := XX.ki_Kept_Loose
  have X_ki_Kept_Kept := XX.ki_Kept_Kept
  have X_ki_Kept_Watch := XX.ki_Kept_Watch
  have X_ki_Kept_Make := XX.ki_Kept_Make
  have X_N_Make := XX.N_Make
  have X_ki_Make_Hold := XX.ki_Make_Hold
  have X_ki_Make_Loose := XX.ki_Make_Loose
  have X_ki_Make_Kept := XX.ki_Make_Kept
  have X_ki_Make_Watch := XX.ki_Make_Watch
  have X_ki_Make_Make := XX.ki_Make_Make
  have X_N_Watch := XX.N_Watch
  have X_ki_Watch_Hold := XX.ki_Watch_Hold
  have X_ki_Watch_Loose := XX.ki_Watch_Loose
  have X_ki_Watch_Kept := XX.ki_Watch_Kept
  have X_ki_Watch_Watch := XX.ki_Watch_Watch
  have X_ki_Watch_Make := XX.ki_Watch_Make
  have X_N_Hold := XX.N_Hold
  have X_ki_Hold_Hold := XX.ki_Hold_Hold
  have X_ki_Hold_Loose := XX.ki_Hold_Loose
  have X_ki_Hold_Kept := XX.ki_Hold_Kept
  have X_ki_Hold_Watch := XX.ki_Hold_Watch
  have X_ki_Hold_Make := XX.ki_Hold_Make
  simp only [List.map_cons, List.map_nil, List.length_cons, List.length_nil, List.cons_append, List.nil_append, Nat.reduceAdd, Nat.reduceSub, List.replicate_succ, List.replicate_zero, N_Loose__watches]
  ((with_reducible refine gos_ret ?_); (with_reducible refine go_bl ?_); walk_at "x0"; (focus skip); rotate_left)
  all_goals rfl
theorem cal_Kept__watches {zf : Addr} (D : DfM K "watches" "Loose.watches" s_Kept__watches zf) {a_SkewError a_NoLevel a_Loose a_Kept a_Make a_Watch a_Hold : Addr} (XX : XF K mg a_SkewError a_NoLevel a_Loose a_Kept a_Make a_Watch a_Hold) (ME : Meth K a_Kept "watches" zf) : CalM P w K mg base a_Kept "watches" 1 ["self"] (C_Kept__watches mg a_Kept) := by
  obtain ⟨fd, F⟩ := D
  refine ⟨zf, fd, ?_, ME, F.binds (ps := ["self"]) fun _ _ _ _ _ _ us hl => match us, hl with | [_], _ => rfl⟩
  refine F.ok sc_Kept__watches (fun vs H Q E hS0 => spP_len (n := 1) (fun xs p q c0 => by unfold C_Kept__watches at c0; obtain ⟨_, rfl, _⟩ := c0; rfl) hS0) (fun cdv A outer s H vs Q E hr hS0 => ?_)
  have hu := hu_of hr
  refine sp_body hS0 (fun B xs p q c0 hl0 wx => ?_)
  obtain ⟨Cv, rfl, rfl, rfl⟩ := c0
  refine ⟨_, (pss_one (ps_ret pe_bl)), ?_⟩
  clear hS0 hl0 hr hu wx
  have X_g_Loose := XX.g_Loose
  have X_R_Loose := XX.R_Loose
  have X_g_Kept := XX.g_Kept
  have X_R_Kept := XX.R_Kept
  have X_g_Make := XX.g_Make
  have X_R_Make := XX.R_Make
  have X_g_Watch := XX.g_Watch
  have X_R_Watch := XX.R_Watch
  have X_g_Hold := XX.g_Hold
  have X_R_Hold := XX.R_Hold
  have X_N_Loose := XX.N_Loose
  have X_ki_Loose_Hold := XX.ki_Loose_Hold
  have X_ki_Loose_Loose := XX.ki_Loose_Loose
  have X_ki_Loose_Kept := XX.ki_Loose_Kept
  have X_ki_Loose_Watch := XX.ki_Loose_Watch
  have X_ki_Loose_Make := XX.ki_Loose_Make
  have X_N_Kept := XX.N_Kept
  have X_ki_Kept_Hold := XX.ki_Kept_Hold
  have X_ki_Kept_Loose := XX.ki_Kept_Loose
  have X_ki_Kept_Kept := XX.ki_Kept_Kept
  have X_ki_Kept_Watch := XX.ki_Kept_Watch
  have X_ki_Kept_Make := XX.ki_Kept_Make
  have X_N_Make := XX.N_Make
  have X_ki_Make_Hold := XX.ki_Make_Hold
  have X_ki_Make_Loose := XX.ki_Make_Loose
  have X_ki_Make_Kept := XX.ki_Make_Kept
  have X_ki_Make_Watch := XX.ki_Make_Watch
  have X_ki_Make_Make := XX.ki_Make_Make
  have X_N_Watch := XX.N_Watch
  have X_ki_Watch_Hold := XX.ki_Watch_Hold
  have X_ki_Watch_Loose := XX.ki_Watch_Loose
  have X_ki_Watch_Kept := XX.ki_Watch_Kept
  have X_ki_Watch_Watch := XX.ki_Watch_Watch
  have X_ki_Watch_Make := XX.ki_Watch_Make
  have X_N_Hold := XX.N_Hold
  have X_ki_Hold_Hold := XX.ki_Hold_Hold
  have X_ki_Hold_Loose := XX.ki_Hold_Loose
  have X_ki_Hold_Kept := XX.ki_Hold_Kept
  have X_ki_Hold_Watch := XX.ki_Hold_Watch
  have X_ki_Hold_Make := XX.ki_Hold_Make
  simp only [List.map_cons, List.map_nil, List.length_cons, List.length_nil, List.cons_append, List.nil_append, Nat.reduceAdd, Nat.reduceSub, List.replicate_succ, List.replicate_zero, N_Kept__watches]
  ((with_reducible refine gos_ret ?_); (with_reducible refine go_bl ?_); walk_at "x0"; (focus skip); rotate_left)
  all_goals rfl
theorem cal_Make__watches {zf : Addr} (D : DfM K "watches" "Loose.watches" s_Make__watches zf) {a_SkewError a_NoLevel a_Loose a_Kept a_Make a_Watch a_Hold : Addr} (XX : XF K mg a_SkewError a_NoLevel a_Loose a_Kept a_Make a_Watch a_Hold) (ME : Meth K a_Make "watches" zf) : CalM P w K mg base a_Make "watches" 1 ["self"] (C_Make__watches mg a_Make) := by
  obtain ⟨fd, F⟩ := D
  refine ⟨zf, fd, ?_, ME, F.binds (ps := ["self"]) fun _ _ _ _ _ _ us hl => match us, hl with | [_], _ => rfl⟩
  refine F.ok sc_Make__watches (fun vs H Q E hS0 => spP_len (n := 1) (fun xs p q c0 => by unfold C_Make__watches at c0; obtain ⟨_, rfl, _⟩ := c0; rfl) hS0) (fun cdv A outer s H vs Q E hr hS0 => ?_)
  have hu := hu_of hr
  refine sp_body hS0 (fun B xs p q c0 hl0 wx => ?_)
  obtain ⟨Cv, rfl, rfl, rfl⟩ := c0
  refine ⟨_, (pss_one (ps_ret pe_bl)), ?_⟩
  clear hS0 hl0 hr hu wx
  have X_g_Loose := XX.g_Loose
  have X_R_Loose := XX.R_Loose
  have X_g_Kept := XX.g_Kept
  have X_R_Kept := XX.R_Kept
  have X_g_Make := XX.g_Make
  have X_R_Make := XX.R_Make
  have X_g_Watch := XX.g_Watch
  have X_R_Watch := XX.R_Watch
  have X_g_Hold := XX.g_Hold
  have X_R_Hold := XX.R_Hold
  have X_N_Loose := XX.N_Loose
  have X_ki_Loose_Hold := XX.ki_Loose_Hold
  have X_ki_Loose_Loose := XX.ki_Loose_Loose
  have X_ki_Loose_Kept := XX.ki_Loose_Kept
  have X_ki_Loose_Watch := XX.ki_Loose_Watch
  have X_ki_Loose_Make := XX.ki_Loose_Make
  have X_N_Kept := XX.N_Kept
  have X_ki_Kept_Hold := XX.ki_Kept_Hold
  have X_ki_Kept_Loose := XX.ki_Kept_Loose
  have X_ki_Kept_Kept := XX.ki_Kept_Kept
  have X_ki_Kept_Watch := XX.ki_Kept_Watch
  have X_ki_Kept_Make := XX.ki_Kept_Make
  have X_N_Make := XX.N_Make
  have X_ki_Make_Hold := XX.ki_Make_Hold
  have X_ki_Make_Loose := XX.ki_Make_Loose
  have X_ki_Make_Kept := XX.ki_Make_Kept
  have X_ki_Make_Watch := XX.ki_Make_Watch
  have X_ki_Make_Make := XX.ki_Make_Make
  have X_N_Watch := XX.N_Watch
  have X_ki_Watch_Hold := XX.ki_Watch_Hold
  have X_ki_Watch_Loose := XX.ki_Watch_Loose
  have X_ki_Watch_Kept := XX.ki_Watch_Kept
  have X_ki_Watch_Watch := XX.ki_Watch_Watch
  have X_ki_Watch_Make := XX.ki_Watch_Make
  have X_N_Hold := XX.N_Hold
  have X_ki_Hold_Hold := XX.ki_Hold_Hold
  have X_ki_Hold_Loose := XX.ki_Hold_Loose
  have X_ki_Hold_Kept := XX.ki_Hold_Kept
  have X_ki_Hold_Watch := XX.ki_Hold_Watch
  have X_ki_Hold_Make := XX.ki_Hold_Make
  simp only [List.map_cons, List.map_nil, List.length_cons, List.length_nil, List.cons_append, List.nil_append, Nat.reduceAdd, Nat.reduceSub, List.replicate_succ, List.replicate_zero, N_Make__watches]
  ((with_reducible refine gos_ret ?_); (with_reducible refine go_bl ?_); walk_at "x0"; (focus skip); rotate_left)
  all_goals rfl
theorem cal_Watch__watches {zf : Addr} (D : DfM K "watches" "Watch.watches" s_Watch__watches zf) {a_SkewError a_NoLevel a_Loose a_Kept a_Make a_Watch a_Hold : Addr} (XX : XF K mg a_SkewError a_NoLevel a_Loose a_Kept a_Make a_Watch a_Hold) (ME : Meth K a_Watch "watches" zf) : CalM P w K mg base a_Watch "watches" 1 ["self"] (C_Watch__watches mg a_Watch) := by
  obtain ⟨fd, F⟩ := D
  refine ⟨zf, fd, ?_, ME, F.binds (ps := ["self"]) fun _ _ _ _ _ _ us hl => match us, hl with | [_], _ => rfl⟩
  refine F.ok sc_Watch__watches (fun vs H Q E hS0 => spP_len (n := 1) (fun xs p q c0 => by unfold C_Watch__watches at c0; obtain ⟨_, rfl, _⟩ := c0; rfl) hS0) (fun cdv A outer s H vs Q E hr hS0 => ?_)
  have hu := hu_of hr
  refine sp_body hS0 (fun B xs p q c0 hl0 wx => ?_)
  obtain ⟨Cv, rfl, rfl, rfl⟩ := c0
  refine ⟨_, (pss_one (ps_ret pe_bl)), ?_⟩
  clear hS0 hl0 hr hu wx
  have X_g_Loose := XX.g_Loose
  have X_R_Loose := XX.R_Loose
  have X_g_Kept := XX.g_Kept
  have X_R_Kept := XX.R_Kept
  have X_g_Make := XX.g_Make
  have X_R_Make := XX.R_Make
  have X_g_Watch := XX.g_Watch
  have X_R_Watch := XX.R_Watch
  have X_g_Hold := XX.g_Hold
  have X_R_Hold := XX.R_Hold
  have X_N_Loose := XX.N_Loose
  have X_ki_Loose_Hold := XX.ki_Loose_Hold
  have X_ki_Loose_Loose := XX.ki_Loose_Loose
  have X_ki_Loose_Kept := XX.ki_Loose_Kept
  have X_ki_Loose_Watch := XX.ki_Loose_Watch
  have X_ki_Loose_Make := XX.ki_Loose_Make
  have X_N_Kept := XX.N_Kept
  have X_ki_Kept_Hold := XX.ki_Kept_Hold
  have X_ki_Kept_Loose := XX.ki_Kept_Loose
  have X_ki_Kept_Kept := XX.ki_Kept_Kept
  have X_ki_Kept_Watch := XX.ki_Kept_Watch
  have X_ki_Kept_Make := XX.ki_Kept_Make
  have X_N_Make := XX.N_Make
  have X_ki_Make_Hold := XX.ki_Make_Hold
  have X_ki_Make_Loose := XX.ki_Make_Loose
  have X_ki_Make_Kept := XX.ki_Make_Kept
  have X_ki_Make_Watch := XX.ki_Make_Watch
  have X_ki_Make_Make := XX.ki_Make_Make
  have X_N_Watch := XX.N_Watch
  have X_ki_Watch_Hold := XX.ki_Watch_Hold
  have X_ki_Watch_Loose := XX.ki_Watch_Loose
  have X_ki_Watch_Kept := XX.ki_Watch_Kept
  have X_ki_Watch_Watch := XX.ki_Watch_Watch
  have X_ki_Watch_Make := XX.ki_Watch_Make
  have X_N_Hold := XX.N_Hold
  have X_ki_Hold_Hold := XX.ki_Hold_Hold
  have X_ki_Hold_Loose := XX.ki_Hold_Loose
  have X_ki_Hold_Kept := XX.ki_Hold_Kept
  have X_ki_Hold_Watch := XX.ki_Hold_Watch
  have X_ki_Hold_Make := XX.ki_Hold_Make
  simp only [List.map_cons, List.map_nil, List.length_cons, List.length_nil, List.cons_append, List.nil_append, Nat.reduceAdd, Nat.reduceSub, List.replicate_succ, List.replicate_zero, N_Watch__watches]
  ((with_reducible refine gos_ret ?_); (with_reducible refine go_bl ?_); walk_at "x0"; (focus skip); rotate_left)
  all_goals rfl
theorem cal_Hold__watches {zf : Addr} (D : DfM K "watches" "Loose.watches" s_Hold__watches zf) {a_SkewError a_NoLevel a_Loose a_Kept a_Make a_Watch a_Hold : Addr} (XX : XF K mg a_SkewError a_NoLevel a_Loose a_Kept a_Make a_Watch a_Hold) (ME : Meth K a_Hold "watches" zf) : CalM P w K mg base a_Hold "watches" 1 ["self"] (C_Hold__watches mg a_Hold) := by
  obtain ⟨fd, F⟩ := D
  refine ⟨zf, fd, ?_, ME, F.binds (ps := ["self"]) fun _ _ _ _ _ _ us hl => match us, hl with | [_], _ => rfl⟩
  refine F.ok sc_Hold__watches (fun vs H Q E hS0 => spP_len (n := 1) (fun xs p q c0 => by unfold C_Hold__watches at c0; obtain ⟨_, rfl, _⟩ := c0; rfl) hS0) (fun cdv A outer s H vs Q E hr hS0 => ?_)
  have hu := hu_of hr
  refine sp_body hS0 (fun B xs p q c0 hl0 wx => ?_)
  obtain ⟨Cv, rfl, rfl, rfl⟩ := c0
  refine ⟨_, (pss_one (ps_ret pe_bl)), ?_⟩
  clear hS0 hl0 hr hu wx
  have X_g_Loose := XX.g_Loose
  have X_R_Loose := XX.R_Loose
  have X_g_Kept := XX.g_Kept
  have X_R_Kept := XX.R_Kept
  have X_g_Make := XX.g_Make
  have X_R_Make := XX.R_Make
  have X_g_Watch := XX.g_Watch
  have X_R_Watch := XX.R_Watch
  have X_g_Hold := XX.g_Hold
  have X_R_Hold := XX.R_Hold
  have X_N_Loose := XX.N_Loose
  have X_ki_Loose_Hold := XX.ki_Loose_Hold
  have X_ki_Loose_Loose := XX.ki_Loose_Loose
  have X_ki_Loose_Kept := XX.ki_Loose_Kept
  have X_ki_Loose_Watch := XX.ki_Loose_Watch
  have X_ki_Loose_Make := XX.ki_Loose_Make
  have X_N_Kept := XX.N_Kept
  have X_ki_Kept_Hold := XX.ki_Kept_Hold
  have X_ki_Kept_Loose := XX.ki_Kept_Loose
  have X_ki_Kept_Kept := XX.ki_Kept_Kept
  have X_ki_Kept_Watch := XX.ki_Kept_Watch
  have X_ki_Kept_Make := XX.ki_Kept_Make
  have X_N_Make := XX.N_Make
  have X_ki_Make_Hold := XX.ki_Make_Hold
  have X_ki_Make_Loose := XX.ki_Make_Loose
  have X_ki_Make_Kept := XX.ki_Make_Kept
  have X_ki_Make_Watch := XX.ki_Make_Watch
  have X_ki_Make_Make := XX.ki_Make_Make
  have X_N_Watch := XX.N_Watch
  have X_ki_Watch_Hold := XX.ki_Watch_Hold
  have X_ki_Watch_Loose := XX.ki_Watch_Loose
  have X_ki_Watch_Kept := XX.ki_Watch_Kept
  have X_ki_Watch_Watch := XX.ki_Watch_Watch
  have X_ki_Watch_Make := XX.ki_Watch_Make
  have X_N_Hold := XX.N_Hold
  have X_ki_Hold_Hold := XX.ki_Hold_Hold
  have X_ki_Hold_Loose := XX.ki_Hold_Loose
  have X_ki_Hold_Kept := XX.ki_Hold_Kept
  have X_ki_Hold_Watch := XX.ki_Hold_Watch
  have X_ki_Hold_Make := XX.ki_Hold_Make
  simp only [List.map_cons, List.map_nil, List.length_cons, List.length_nil, List.cons_append, List.nil_append, Nat.reduceAdd, Nat.reduceSub, List.replicate_succ, List.replicate_zero, N_Hold__watches]
  ((with_reducible refine gos_ret ?_); (with_reducible refine go_bl ?_); walk_at "x0"; (focus skip); rotate_left)
  all_goals rfl
theorem cal_Loose__late {zf : Addr} (D : DfM K "late" "Loose.late" s_Loose__late zf) {a_SkewError a_NoLevel a_Loose a_Kept a_Make a_Watch a_Hold : Addr} (XX : XF K mg a_SkewError a_NoLevel a_Loose a_Kept a_Make a_Watch a_Hold) (ME : Meth K a_Loose "late" zf) : CalM P w K mg base a_Loose "late" 1 ["self", "begin", "stamp"] (C_Loose__late mg a_Loose) := by
  obtain ⟨fd, F⟩ := D
  refine ⟨zf, fd, ?_, ME, F.binds (ps := ["self", "begin", "stamp"]) fun _ _ _ _ _ _ us hl => match us, hl with | [_, _, _], _ => rfl⟩
  refine F.ok sc_Loose__late (fun vs H Q E hS0 => spP_len (n := 3) (fun xs p q c0 => by unfold C_Loose__late at c0; obtain ⟨_, _, _, rfl, _⟩ := c0; rfl) hS0) (fun cdv A outer s H vs Q E hr hS0 => ?_)
  have hu := hu_of hr
  refine sp_body hS0 (fun B xs p q c0 hl0 wx => ?_)
  obtain ⟨Cv, b, s, rfl, rfl, rfl⟩ := c0
  refine ⟨_, (pss_one (ps_ret pe_bl)), ?_⟩
  clear hS0 hl0 hr hu wx
  have X_g_Loose := XX.g_Loose
  have X_R_Loose := XX.R_Loose
  have X_g_Kept := XX.g_Kept
  have X_R_Kept := XX.R_Kept
  have X_g_Make := XX.g_Make
  have X_R_Make := XX.R_Make
  have X_g_Watch := XX.g_Watch
  have X_R_Watch := XX.R_Watch
  have X_g_Hold := XX.g_Hold
  have X_R_Hold := XX.R_Hold
  have X_N_Loose := XX.N_Loose
  have X_ki_Loose_Hold := XX.ki_Loose_Hold
  have X_ki_Loose_Loose := XX.ki_Loose_Loose
  have X_ki_Loose_Kept := XX.ki_Loose_Kept
  have X_ki_Loose_Watch := XX.ki_Loose_Watch
  have X_ki_Loose_Make := XX.ki_Loose_Make
  have X_N_Kept := XX.N_Kept
  have X_ki_Kept_Hold := XX.ki_Kept_Hold
  have X_ki_Kept_Loose := XX.ki_Kept_Loose
  have X_ki_Kept_Kept := XX.ki_Kept_Kept
  have X_ki_Kept_Watch := XX.ki_Kept_Watch
  have X_ki_Kept_Make := XX.ki_Kept_Make
  have X_N_Make := XX.N_Make
  have X_ki_Make_Hold := XX.ki_Make_Hold
  have X_ki_Make_Loose := XX.ki_Make_Loose
  have X_ki_Make_Kept := XX.ki_Make_Kept
  have X_ki_Make_Watch := XX.ki_Make_Watch
  have X_ki_Make_Make := XX.ki_Make_Make
  have X_N_Watch := XX.N_Watch
  have X_ki_Watch_Hold := XX.ki_Watch_Hold
  have X_ki_Watch_Loose := XX.ki_Watch_Loose
  have X_ki_Watch_Kept := XX.ki_Watch_Kept
  have X_ki_Watch_Watch := XX.ki_Watch_Watch
  have X_ki_Watch_Make := XX.ki_Watch_Make
  have X_N_Hold := XX.N_Hold
  have X_ki_Hold_Hold := XX.ki_Hold_Hold
  have X_ki_Hold_Loose := XX.ki_Hold_Loose
  have X_ki_Hold_Kept := XX.ki_Hold_Kept
  have X_ki_Hold_Watch := XX.ki_Hold_Watch
  have X_ki_Hold_Make := XX.ki_Hold_Make
  simp only [List.map_cons, List.map_nil, List.length_cons, List.length_nil, List.cons_append, List.nil_append, Nat.reduceAdd, Nat.reduceSub, List.replicate_succ, List.replicate_zero, N_Loose__late]
  ((with_reducible refine gos_ret ?_); (with_reducible refine go_bl ?_); walk_at "x0"; (focus skip); rotate_left)
  all_goals rfl
theorem cal_Kept__late {zf : Addr} (D : DfM K "late" "Loose.late" s_Kept__late zf) {a_SkewError a_NoLevel a_Loose a_Kept a_Make a_Watch a_Hold : Addr} (XX : XF K mg a_SkewError a_NoLevel a_Loose a_Kept a_Make a_Watch a_Hold) (ME : Meth K a_Kept "late" zf) : CalM P w K mg base a_Kept "late" 1 ["self", "begin", "stamp"] (C_Kept__late mg a_Kept) := by
  obtain ⟨fd, F⟩ := D
  refine ⟨zf, fd, ?_, ME, F.binds (ps := ["self", "begin", "stamp"]) fun _ _ _ _ _ _ us hl => match us, hl with | [_, _, _], _ => rfl⟩
  refine F.ok sc_Kept__late (fun vs H Q E hS0 => spP_len (n := 3) (fun xs p q c0 => by unfold C_Kept__late at c0; obtain ⟨_, _, _, rfl, _⟩ := c0; rfl) hS0) (fun cdv A outer s H vs Q E hr hS0 => ?_)
  have hu := hu_of hr
  refine sp_body hS0 (fun B xs p q c0 hl0 wx => ?_)
  obtain ⟨Cv, b, s, rfl, rfl, rfl⟩ := c0
  refine ⟨_, (pss_one (ps_ret pe_bl)), ?_⟩
  clear hS0 hl0 hr hu wx
  have X_g_Loose := XX.g_Loose
  have X_R_Loose := XX.R_Loose
  have X_g_Kept := XX.g_Kept
  have X_R_Kept := XX.R_Kept
  have X_g_Make := XX.g_Make
  have X_R_Make := XX.R_Make
  have X_g_Watch := XX.g_Watch
  have X_R_Watch := XX.R_Watch
  have X_g_Hold := XX.g_Hold
  have X_R_Hold := XX.R_Hold
  have X_N_Loose := XX.N_Loose
  have X_ki_Loose_Hold := XX.ki_Loose_Hold
  have X_ki_Loose_Loose := XX.ki_Loose_Loose
  have X_ki_Loose_Kept := XX.ki_Loose_Kept
  have X_ki_Loose_Watch := XX.ki_Loose_Watch
  have X_ki_Loose_Make := XX.ki_Loose_Make
  have X_N_Kept := XX.N_Kept
  have X_ki_Kept_Hold := XX.ki_Kept_Hold
  have X_ki_Kept_Loose := XX.ki_Kept_Loose
  have X_ki_Kept_Kept := XX.ki_Kept_Kept
  have X_ki_Kept_Watch := XX.ki_Kept_Watch
  have X_ki_Kept_Make := XX.ki_Kept_Make
  have X_N_Make := XX.N_Make
  have X_ki_Make_Hold := XX.ki_Make_Hold
  have X_ki_Make_Loose := XX.ki_Make_Loose
  have X_ki_Make_Kept := XX.ki_Make_Kept
  have X_ki_Make_Watch := XX.ki_Make_Watch
  have X_ki_Make_Make := XX.ki_Make_Make
  have X_N_Watch := XX.N_Watch
  have X_ki_Watch_Hold := XX.ki_Watch_Hold
  have X_ki_Watch_Loose := XX.ki_Watch_Loose
  have X_ki_Watch_Kept := XX.ki_Watch_Kept
  have X_ki_Watch_Watch := XX.ki_Watch_Watch
  have X_ki_Watch_Make := XX.ki_Watch_Make
  have X_N_Hold := XX.N_Hold
  have X_ki_Hold_Hold := XX.ki_Hold_Hold
  have X_ki_Hold_Loose := XX.ki_Hold_Loose
  have X_ki_Hold_Kept := XX.ki_Hold_Kept
  have X_ki_Hold_Watch := XX.ki_Hold_Watch
  have X_ki_Hold_Make := XX.ki_Hold_Make
  simp only [List.map_cons, List.map_nil, List.length_cons, List.length_nil, List.cons_append, List.nil_append, Nat.reduceAdd, Nat.reduceSub, List.replicate_succ, List.replicate_zero, N_Kept__late]
  ((with_reducible refine gos_ret ?_); (with_reducible refine go_bl ?_); walk_at "x0"; (focus skip); rotate_left)
  all_goals rfl
theorem cal_Make__late {zf : Addr} (D : DfM K "late" "Make.late" s_Make__late zf) {a_SkewError a_NoLevel a_Loose a_Kept a_Make a_Watch a_Hold : Addr} (XX : XF K mg a_SkewError a_NoLevel a_Loose a_Kept a_Make a_Watch a_Hold) (ME : Meth K a_Make "late" zf) : CalM P w K mg base a_Make "late" 1 ["self", "begin", "stamp"] (C_Make__late mg a_Make) := by
  obtain ⟨fd, F⟩ := D
  refine ⟨zf, fd, ?_, ME, F.binds (ps := ["self", "begin", "stamp"]) fun _ _ _ _ _ _ us hl => match us, hl with | [_, _, _], _ => rfl⟩
  refine F.ok sc_Make__late (fun vs H Q E hS0 => spP_len (n := 3) (fun xs p q c0 => by unfold C_Make__late at c0; obtain ⟨_, _, _, rfl, _⟩ := c0; rfl) hS0) (fun cdv A outer s H vs Q E hr hS0 => ?_)
  have hu := hu_of hr
  refine sp_body hS0 (fun B xs p q c0 hl0 wx => ?_)
  obtain ⟨Cv, b, s, rfl, rfl, rfl⟩ := c0
  refine ⟨_, (pss_one (ps_ret (pe_cmpR op_gtG (pv 2) (pv 1) (nomark _)))), ?_⟩
  clear hS0 hl0 hr hu wx
  have X_g_Loose := XX.g_Loose
  have X_R_Loose := XX.R_Loose
  have X_g_Kept := XX.g_Kept
  have X_R_Kept := XX.R_Kept
  have X_g_Make := XX.g_Make
  have X_R_Make := XX.R_Make
  have X_g_Watch := XX.g_Watch
  have X_R_Watch := XX.R_Watch
  have X_g_Hold := XX.g_Hold
  have X_R_Hold := XX.R_Hold
  have X_N_Loose := XX.N_Loose
  have X_ki_Loose_Hold := XX.ki_Loose_Hold
  have X_ki_Loose_Loose := XX.ki_Loose_Loose
  have X_ki_Loose_Kept := XX.ki_Loose_Kept
  have X_ki_Loose_Watch := XX.ki_Loose_Watch
  have X_ki_Loose_Make := XX.ki_Loose_Make
  have X_N_Kept := XX.N_Kept
  have X_ki_Kept_Hold := XX.ki_Kept_Hold
  have X_ki_Kept_Loose := XX.ki_Kept_Loose
  have X_ki_Kept_Kept := XX.ki_Kept_Kept
  have X_ki_Kept_Watch := XX.ki_Kept_Watch
  have X_ki_Kept_Make := XX.ki_Kept_Make
  have X_N_Make := XX.N_Make
  have X_ki_Make_Hold := XX.ki_Make_Hold
  have X_ki_Make_Loose := XX.ki_Make_Loose
  have X_ki_Make_Kept := XX.ki_Make_Kept
  have X_ki_Make_Watch := XX.ki_Make_Watch
  have X_ki_Make_Make := XX.ki_Make_Make
  have X_N_Watch := XX.N_Watch
  have X_ki_Watch_Hold := XX.ki_Watch_Hold
  have X_ki_Watch_Loose := XX.ki_Watch_Loose
  have X_ki_Watch_Kept := XX.ki_Watch_Kept
  have X_ki_Watch_Watch := XX.ki_Watch_Watch
  have X_ki_Watch_Make := XX.ki_Watch_Make
  have X_N_Hold := XX.N_Hold
  have X_ki_Hold_Hold := XX.ki_Hold_Hold
  have X_ki_Hold_Loose := XX.ki_Hold_Loose
  have X_ki_Hold_Kept := XX.ki_Hold_Kept
  have X_ki_Hold_Watch := XX.ki_Hold_Watch
  have X_ki_Hold_Make := XX.ki_Hold_Make
  simp only [List.map_cons, List.map_nil, List.length_cons, List.length_nil, List.cons_append, List.nil_append, Nat.reduceAdd, Nat.reduceSub, List.replicate_succ, List.replicate_zero, N_Make__late]
  ((with_reducible refine gos_ret ?_); (with_reducible refine go_op ?_); walk_at "x1"; walk_at "x1"; walk_at "x0"; (with_reducible refine o2_gt ?_); (focus skip); rotate_left)
  all_goals rfl
theorem cal_Watch__late {zf : Addr} (D : DfM K "late" "Make.late" s_Watch__late zf) {a_SkewError a_NoLevel a_Loose a_Kept a_Make a_Watch a_Hold : Addr} (XX : XF K mg a_SkewError a_NoLevel a_Loose a_Kept a_Make a_Watch a_Hold) (ME : Meth K a_Watch "late" zf) : CalM P w K mg base a_Watch "late" 1 ["self", "begin", "stamp"] (C_Watch__late mg a_Watch) := by
  obtain ⟨fd, F⟩ := D
  refine ⟨zf, fd, ?_, ME, F.binds (ps := ["self", "begin", "stamp"]) fun _ _ _ _ _ _ us hl => match us, hl with | [_, _, _], _ => rfl⟩
  refine F.ok sc_Watch__late (fun vs H Q E hS0 => spP_len (n := 3) (fun xs p q c0 => by unfold C_Watch__late at c0; obtain ⟨_, _, _, rfl, _⟩ := c0; rfl) hS0) (fun cdv A outer s H vs Q E hr hS0 => ?_)
  have hu := hu_of hr
  refine sp_body hS0 (fun B xs p q c0 hl0 wx => ?_)
  obtain ⟨Cv, b, s, rfl, rfl, rfl⟩ := c0
  refine ⟨_, (pss_one (ps_ret (pe_cmpR op_gtG (pv 2) (pv 1) (nomark _)))), ?_⟩
  clear hS0 hl0 hr hu wx
  have X_g_Loose := XX.g_Loose
  have X_R_Loose := XX.R_Loose
  have X_g_Kept := XX.g_Kept
  have X_R_Kept := XX.R_Kept
  have X_g_Make := XX.g_Make
  have X_R_Make := XX.R_Make
  have X_g_Watch := XX.g_Watch
  have X_R_Watch := XX.R_Watch
  have X_g_Hold := XX.g_Hold
  have X_R_Hold := XX.R_Hold
  have X_N_Loose := XX.N_Loose
  have X_ki_Loose_Hold := XX.ki_Loose_Hold
  have X_ki_Loose_Loose := XX.ki_Loose_Loose
  have X_ki_Loose_Kept := XX.ki_Loose_Kept
  have X_ki_Loose_Watch := XX.ki_Loose_Watch
  have X_ki_Loose_Make := XX.ki_Loose_Make
  have X_N_Kept := XX.N_Kept
  have X_ki_Kept_Hold := XX.ki_Kept_Hold
  have X_ki_Kept_Loose := XX.ki_Kept_Loose
  have X_ki_Kept_Kept := XX.ki_Kept_Kept
  have X_ki_Kept_Watch := XX.ki_Kept_Watch
  have X_ki_Kept_Make := XX.ki_Kept_Make
  have X_N_Make := XX.N_Make
  have X_ki_Make_Hold := XX.ki_Make_Hold
  have X_ki_Make_Loose := XX.ki_Make_Loose
  have X_ki_Make_Kept := XX.ki_Make_Kept
  have X_ki_Make_Watch := XX.ki_Make_Watch
  have X_ki_Make_Make := XX.ki_Make_Make
  have X_N_Watch := XX.N_Watch
  have X_ki_Watch_Hold := XX.ki_Watch_Hold
  have X_ki_Watch_Loose := XX.ki_Watch_Loose
  have X_ki_Watch_Kept := XX.ki_Watch_Kept
  have X_ki_Watch_Watch := XX.ki_Watch_Watch
  have X_ki_Watch_Make := XX.ki_Watch_Make
  have X_N_Hold := XX.N_Hold
  have X_ki_Hold_Hold := XX.ki_Hold_Hold
  have X_ki_Hold_Loose := XX.ki_Hold_Loose
  have X_ki_Hold_Kept := XX.ki_Hold_Kept
  have X_ki_Hold_Watch := XX.ki_Hold_Watch
  have X_ki_Hold_Make := XX.ki_Hold_Make
  simp only [List.map_cons, List.map_nil, List.length_cons, List.length_nil, List.cons_append, List.nil_append, Nat.reduceAdd, Nat.reduceSub, List.replicate_succ, List.replicate_zero, N_Watch__late]
  ((with_reducible refine gos_ret ?_); (with_reducible refine go_op ?_); walk_at "x1"; walk_at "x1"; walk_at "x0"; (with_reducible refine o2_gt ?_); (focus skip); rotate_left)
  all_goals rfl
theorem cal_Hold__late {zf : Addr} (D : DfM K "late" "Loose.late" s_Hold__late zf) {a_SkewError a_NoLevel a_Loose a_Kept a_Make a_Watch a_Hold : Addr} (XX : XF K mg a_SkewError a_NoLevel a_Loose a_Kept a_Make a_Watch a_Hold) (ME : Meth K a_Hold "late" zf) : CalM P w K mg base a_Hold "late" 1 ["self", "begin", "stamp"] (C_Hold__late mg a_Hold) := by
  obtain ⟨fd, F⟩ := D
  refine ⟨zf, fd, ?_, ME, F.binds (ps := ["self", "begin", "stamp"]) fun _ _ _ _ _ _ us hl => match us, hl with | [_, _, _], _ => rfl⟩
  refine F.ok sc_Hold__late (fun vs H Q E hS0 => spP_len (n := 3) (fun xs p q c0 => by unfold C_Hold__late at c0; obtain ⟨_, _, _, rfl, _⟩ := c0; rfl) hS0) (fun cdv A outer s H vs Q E hr hS0 => ?_)
  have hu := hu_of hr
  refine sp_body hS0 (fun B xs p q c0 hl0 wx => ?_)
  obtain ⟨Cv, b, s, rfl, rfl, rfl⟩ := c0
  refine ⟨_, (pss_one (ps_ret pe_bl)), ?_⟩
  clear hS0 hl0 hr hu wx
  have X_g_Loose := XX.g_Loose
  have X_R_Loose := XX.R_Loose
  have X_g_Kept := XX.g_Kept
  have X_R_Kept := XX.R_Kept
  have X_g_Make := XX.g_Make
  have X_R_Make := XX.R_Make
  have X_g_Watch := XX.g_Watch
  have X_R_Watch := XX.R_Watch
  have X_g_Hold := XX.g_Hold
  have X_R_Hold := XX.R_Hold
  have X_N_Loose := XX.N_Loose
  have X_ki_Loose_Hold := XX.ki_Loose_Hold
  have X_ki_Loose_Loose := XX.ki_Loose_Loose
  have X_ki_Loose_Kept := XX.ki_Loose_Kept
  have X_ki_Loose_Watch := XX.ki_Loose_Watch
  have X_ki_Loose_Make := XX.ki_Loose_Make
  have X_N_Kept := XX.N_Kept
  have X_ki_Kept_Hold := XX.ki_Kept_Hold
  have X_ki_Kept_Loose := XX.ki_Kept_Loose
  have X_ki_Kept_Kept := XX.ki_Kept_Kept
  have X_ki_Kept_Watch := XX.ki_Kept_Watch
  have X_ki_Kept_Make := XX.ki_Kept_Make
  have X_N_Make := XX.N_Make
  have X_ki_Make_Hold := XX.ki_Make_Hold
  have X_ki_Make_Loose := XX.ki_Make_Loose
  have X_ki_Make_Kept := XX.ki_Make_Kept
  have X_ki_Make_Watch := XX.ki_Make_Watch
  have X_ki_Make_Make := XX.ki_Make_Make
  have X_N_Watch := XX.N_Watch
  have X_ki_Watch_Hold := XX.ki_Watch_Hold
  have X_ki_Watch_Loose := XX.ki_Watch_Loose
  have X_ki_Watch_Kept := XX.ki_Watch_Kept
  have X_ki_Watch_Watch := XX.ki_Watch_Watch
  have X_ki_Watch_Make := XX.ki_Watch_Make
  have X_N_Hold := XX.N_Hold
  have X_ki_Hold_Hold := XX.ki_Hold_Hold
  have X_ki_Hold_Loose := XX.ki_Hold_Loose
  have X_ki_Hold_Kept := XX.ki_Hold_Kept
  have X_ki_Hold_Watch := XX.ki_Hold_Watch
  have X_ki_Hold_Make := XX.ki_Hold_Make
  simp only [List.map_cons, List.map_nil, List.length_cons, List.length_nil, List.cons_append, List.nil_append, Nat.reduceAdd, Nat.reduceSub, List.replicate_succ, List.replicate_zero, N_Hold__late]
  ((with_reducible refine gos_ret ?_); (with_reducible refine go_bl ?_); walk_at "x0"; (focus skip); rotate_left)
  all_goals rfl
theorem cal_Loose__unkept {zf : Addr} (D : DfM K "unkept" "Loose.unkept" s_Loose__unkept zf) {a_SkewError a_NoLevel a_Loose a_Kept a_Make a_Watch a_Hold : Addr} (XX : XF K mg a_SkewError a_NoLevel a_Loose a_Kept a_Make a_Watch a_Hold) (ME : Meth K a_Loose "unkept" zf) : CalM P w K mg base a_Loose "unkept" 1 ["self"] (C_Loose__unkept mg a_Loose) := by
  obtain ⟨fd, F⟩ := D
  refine ⟨zf, fd, ?_, ME, F.binds (ps := ["self"]) fun _ _ _ _ _ _ us hl => match us, hl with | [_], _ => rfl⟩
  refine F.ok sc_Loose__unkept (fun vs H Q E hS0 => spP_len (n := 1) (fun xs p q c0 => by unfold C_Loose__unkept at c0; obtain ⟨_, rfl, _⟩ := c0; rfl) hS0) (fun cdv A outer s H vs Q E hr hS0 => ?_)
  have hu := hu_of hr
  refine sp_body hS0 (fun B xs p q c0 hl0 wx => ?_)
  obtain ⟨Cv, rfl, rfl, rfl⟩ := c0
  refine ⟨_, (pss_one (ps_ret pe_bl)), ?_⟩
  clear hS0 hl0 hr hu wx
  have X_g_Loose := XX.g_Loose
  have X_R_Loose := XX.R_Loose
  have X_g_Kept := XX.g_Kept
  have X_R_Kept := XX.R_Kept
  have X_g_Make := XX.g_Make
  have X_R_Make := XX.R_Make
  have X_g_Watch := XX.g_Watch
  have X_R_Watch := XX.R_Watch
  have X_g_Hold := XX.g_Hold
  have X_R_Hold := XX.R_Hold
  have X_N_Loose := XX.N_Loose
  have X_ki_Loose_Hold := XX.ki_Loose_Hold
  have X_ki_Loose_Loose := XX.ki_Loose_Loose
  have X_ki_Loose_Kept := XX.ki_Loose_Kept
  have X_ki_Loose_Watch := XX.ki_Loose_Watch
  have X_ki_Loose_Make := XX.ki_Loose_Make
  have X_N_Kept := XX.N_Kept
  have X_ki_Kept_Hold := XX.ki_Kept_Hold
  have X_ki_Kept_Loose := XX.ki_Kept_Loose
  have X_ki_Kept_Kept := XX.ki_Kept_Kept
  have X_ki_Kept_Watch := XX.ki_Kept_Watch
  have X_ki_Kept_Make := XX.ki_Kept_Make
  have X_N_Make := XX.N_Make
  have X_ki_Make_Hold := XX.ki_Make_Hold
  have X_ki_Make_Loose := XX.ki_Make_Loose
  have X_ki_Make_Kept := XX.ki_Make_Kept
  have X_ki_Make_Watch := XX.ki_Make_Watch
  have X_ki_Make_Make := XX.ki_Make_Make
  have X_N_Watch := XX.N_Watch
  have X_ki_Watch_Hold := XX.ki_Watch_Hold
  have X_ki_Watch_Loose := XX.ki_Watch_Loose
  have X_ki_Watch_Kept := XX.ki_Watch_Kept
  have X_ki_Watch_Watch := XX.ki_Watch_Watch
  have X_ki_Watch_Make := XX.ki_Watch_Make
  have X_N_Hold := XX.N_Hold
  have X_ki_Hold_Hold := XX.ki_Hold_Hold
  have X_ki_Hold_Loose := XX.ki_Hold_Loose
  have X_ki_Hold_Kept := XX.ki_Hold_Kept
  have X_ki_Hold_Watch := XX.ki_Hold_Watch
  have X_ki_Hold_Make := XX.ki_Hold_Make
  simp only [List.map_cons, List.map_nil, List.length_cons, List.length_nil, List.cons_append, List.nil_append, Nat.reduceAdd, Nat.reduceSub, List.replicate_succ, List.replicate_zero, N_Loose__unkept]
  ((with_reducible refine gos_ret ?_); (with_reducible refine go_bl ?_); walk_at "x0"; (focus skip); rotate_left)
  all_goals rfl
theorem cal_Kept__unkept {zf : Addr} (D : DfM K "unkept" "Kept.unkept" s_Kept__unkept zf) {a_SkewError a_NoLevel a_Loose a_Kept a_Make a_Watch a_Hold : Addr} (XX : XF K mg a_SkewError a_NoLevel a_Loose a_Kept a_Make a_Watch a_Hold) (ME : Meth K a_Kept "unkept" zf) : CalM P w K mg base a_Kept "unkept" 1 ["self"] (C_Kept__unkept mg a_Kept) := by
  obtain ⟨fd, F⟩ := D
  refine ⟨zf, fd, ?_, ME, F.binds (ps := ["self"]) fun _ _ _ _ _ _ us hl => match us, hl with | [_], _ => rfl⟩
  refine F.ok sc_Kept__unkept (fun vs H Q E hS0 => spP_len (n := 1) (fun xs p q c0 => by unfold C_Kept__unkept at c0; obtain ⟨_, rfl, _⟩ := c0; rfl) hS0) (fun cdv A outer s H vs Q E hr hS0 => ?_)
  have hu := hu_of hr
  refine sp_body hS0 (fun B xs p q c0 hl0 wx => ?_)
  obtain ⟨Cv, rfl, rfl, rfl⟩ := c0
  refine ⟨_, (pss_one (ps_ret pe_bl)), ?_⟩
  clear hS0 hl0 hr hu wx
  have X_g_Loose := XX.g_Loose
  have X_R_Loose := XX.R_Loose
  have X_g_Kept := XX.g_Kept
  have X_R_Kept := XX.R_Kept
  have X_g_Make := XX.g_Make
  have X_R_Make := XX.R_Make
  have X_g_Watch := XX.g_Watch
  have X_R_Watch := XX.R_Watch
  have X_g_Hold := XX.g_Hold
  have X_R_Hold := XX.R_Hold
  have X_N_Loose := XX.N_Loose
  have X_ki_Loose_Hold := XX.ki_Loose_Hold
  have X_ki_Loose_Loose := XX.ki_Loose_Loose
  have X_ki_Loose_Kept := XX.ki_Loose_Kept
  have X_ki_Loose_Watch := XX.ki_Loose_Watch
  have X_ki_Loose_Make := XX.ki_Loose_Make
  have X_N_Kept := XX.N_Kept
  have X_ki_Kept_Hold := XX.ki_Kept_Hold
  have X_ki_Kept_Loose := XX.ki_Kept_Loose
  have X_ki_Kept_Kept := XX.ki_Kept_Kept
  have X_ki_Kept_Watch := XX.ki_Kept_Watch
  have X_ki_Kept_Make := XX.ki_Kept_Make
  have X_N_Make := XX.N_Make
  have X_ki_Make_Hold := XX.ki_Make_Hold
  have X_ki_Make_Loose := XX.ki_Make_Loose
  have X_ki_Make_Kept := XX.ki_Make_Kept
  have X_ki_Make_Watch := XX.ki_Make_Watch
  have X_ki_Make_Make := XX.ki_Make_Make
  have X_N_Watch := XX.N_Watch
  have X_ki_Watch_Hold := XX.ki_Watch_Hold
  have X_ki_Watch_Loose := XX.ki_Watch_Loose
  have X_ki_Watch_Kept := XX.ki_Watch_Kept
  have X_ki_Watch_Watch := XX.ki_Watch_Watch
  have X_ki_Watch_Make := XX.ki_Watch_Make
  have X_N_Hold := XX.N_Hold
  have X_ki_Hold_Hold := XX.ki_Hold_Hold
  have X_ki_Hold_Loose := XX.ki_Hold_Loose
  have X_ki_Hold_Kept := XX.ki_Hold_Kept
  have X_ki_Hold_Watch := XX.ki_Hold_Watch
  have X_ki_Hold_Make := XX.ki_Hold_Make
  simp only [List.map_cons, List.map_nil, List.length_cons, List.length_nil, List.cons_append, List.nil_append, Nat.reduceAdd, Nat.reduceSub, List.replicate_succ, List.replicate_zero, N_Kept__unkept]
  ((with_reducible refine gos_ret ?_); (with_reducible refine go_bl ?_); walk_at "x0"; (focus skip); rotate_left)
  all_goals rfl
theorem cal_Make__unkept {zf : Addr} (D : DfM K "unkept" "Kept.unkept" s_Make__unkept zf) {a_SkewError a_NoLevel a_Loose a_Kept a_Make a_Watch a_Hold : Addr} (XX : XF K mg a_SkewError a_NoLevel a_Loose a_Kept a_Make a_Watch a_Hold) (ME : Meth K a_Make "unkept" zf) : CalM P w K mg base a_Make "unkept" 1 ["self"] (C_Make__unkept mg a_Make) := by
  obtain ⟨fd, F⟩ := D
  refine ⟨zf, fd, ?_, ME, F.binds (ps := ["self"]) fun _ _ _ _ _ _ us hl => match us, hl with | [_], _ => rfl⟩
  refine F.ok sc_Make__unkept (fun vs H Q E hS0 => spP_len (n := 1) (fun xs p q c0 => by unfold C_Make__unkept at c0; obtain ⟨_, rfl, _⟩ := c0; rfl) hS0) (fun cdv A outer s H vs Q E hr hS0 => ?_)
  have hu := hu_of hr
  refine sp_body hS0 (fun B xs p q c0 hl0 wx => ?_)
  obtain ⟨Cv, rfl, rfl, rfl⟩ := c0
  refine ⟨_, (pss_one (ps_ret pe_bl)), ?_⟩
  clear hS0 hl0 hr hu wx
  have X_g_Loose := XX.g_Loose
  have X_R_Loose := XX.R_Loose
  have X_g_Kept := XX.g_Kept
  have X_R_Kept := XX.R_Kept
  have X_g_Make := XX.g_Make
  have X_R_Make := XX.R_Make
  have X_g_Watch := XX.g_Watch
  have X_R_Watch := XX.R_Watch
  have X_g_Hold := XX.g_Hold
  have X_R_Hold := XX.R_Hold
  have X_N_Loose := XX.N_Loose
  have X_ki_Loose_Hold := XX.ki_Loose_Hold
  have X_ki_Loose_Loose := XX.ki_Loose_Loose
  have X_ki_Loose_Kept := XX.ki_Loose_Kept
  have X_ki_Loose_Watch := XX.ki_Loose_Watch
  have X_ki_Loose_Make := XX.ki_Loose_Make
  have X_N_Kept := XX.N_Kept
  have X_ki_Kept_Hold := XX.ki_Kept_Hold
  have X_ki_Kept_Loose := XX.ki_Kept_Loose
  have X_ki_Kept_Kept := XX.ki_Kept_Kept
  have X_ki_Kept_Watch := XX.ki_Kept_Watch
  have X_ki_Kept_Make := XX.ki_Kept_Make
  have X_N_Make := XX.N_Make
  have X_ki_Make_Hold := XX.ki_Make_Hold
  have X_ki_Make_Loose := XX.ki_Make_Loose
  have X_ki_Make_Kept := XX.ki_Make_Kept
  have X_ki_Make_Watch := XX.ki_Make_Watch
  have X_ki_Make_Make := XX.ki_Make_Make
  have X_N_Watch := XX.N_Watch
  have X_ki_Watch_Hold := XX.ki_Watch_Hold
  have X_ki_Watch_Loose := XX.ki_Watch_Loose
  have X_ki_Watch_Kept := XX.ki_Watch_Kept
  have X_ki_Watch_Watch := XX.ki_Watch_Watch
  have X_ki_Watch_Make := XX.ki_Watch_Make
  have X_N_Hold := XX.N_Hold
  have X_ki_Hold_Hold := XX.ki_Hold_Hold
  have X_ki_Hold_Loose := XX.ki_Hold_Loose
  have X_ki_Hold_Kept := XX.ki_Hold_Kept
  have X_ki_Hold_Watch := XX.ki_Hold_Watch
  have X_ki_Hold_Make := XX.ki_Hold_Make
  simp only [List.map_cons, List.map_nil, List.length_cons, List.length_nil, List.cons_append, List.nil_append, Nat.reduceAdd, Nat.reduceSub, List.replicate_succ, List.replicate_zero, N_Make__unkept]
  ((with_reducible refine gos_ret ?_); (with_reducible refine go_bl ?_); walk_at "x0"; (focus skip); rotate_left)
  all_goals rfl
theorem cal_Watch__unkept {zf : Addr} (D : DfM K "unkept" "Kept.unkept" s_Watch__unkept zf) {a_SkewError a_NoLevel a_Loose a_Kept a_Make a_Watch a_Hold : Addr} (XX : XF K mg a_SkewError a_NoLevel a_Loose a_Kept a_Make a_Watch a_Hold) (ME : Meth K a_Watch "unkept" zf) : CalM P w K mg base a_Watch "unkept" 1 ["self"] (C_Watch__unkept mg a_Watch) := by
  obtain ⟨fd, F⟩ := D
  refine ⟨zf, fd, ?_, ME, F.binds (ps := ["self"]) fun _ _ _ _ _ _ us hl => match us, hl with | [_], _ => rfl⟩
  refine F.ok sc_Watch__unkept (fun vs H Q E hS0 => spP_len (n := 1) (fun xs p q c0 => by unfold C_Watch__unkept at c0; obtain ⟨_, rfl, _⟩ := c0; rfl) hS0) (fun cdv A outer s H vs Q E hr hS0 => ?_)
  have hu := hu_of hr
  refine sp_body hS0 (fun B xs p q c0 hl0 wx => ?_)
  obtain ⟨Cv, rfl, rfl, rfl⟩ := c0
  refine ⟨_, (pss_one (ps_ret pe_bl)), ?_⟩
  clear hS0 hl0 hr hu wx
  have X_g_Loose := XX.g_Loose
  have X_R_Loose := XX.R_Loose
  have X_g_Kept := XX.g_Kept
  have X_R_Kept := XX.R_Kept
  have X_g_Make := XX.g_Make
  have X_R_Make := XX.R_Make
  have X_g_Watch := XX.g_Watch
  have X_R_Watch := XX.R_Watch
  have X_g_Hold := XX.g_Hold
  have X_R_Hold := XX.R_Hold
  have X_N_Loose := XX.N_Loose
  have X_ki_Loose_Hold := XX.ki_Loose_Hold
  have X_ki_Loose_Loose := XX.ki_Loose_Loose
  have X_ki_Loose_Kept := XX.ki_Loose_Kept
  have X_ki_Loose_Watch := XX.ki_Loose_Watch
  have X_ki_Loose_Make := XX.ki_Loose_Make
  have X_N_Kept := XX.N_Kept
  have X_ki_Kept_Hold := XX.ki_Kept_Hold
  have X_ki_Kept_Loose := XX.ki_Kept_Loose
  have X_ki_Kept_Kept := XX.ki_Kept_Kept
  have X_ki_Kept_Watch := XX.ki_Kept_Watch
  have X_ki_Kept_Make := XX.ki_Kept_Make
  have X_N_Make := XX.N_Make
  have X_ki_Make_Hold := XX.ki_Make_Hold
  have X_ki_Make_Loose := XX.ki_Make_Loose
  have X_ki_Make_Kept := XX.ki_Make_Kept
  have X_ki_Make_Watch := XX.ki_Make_Watch
  have X_ki_Make_Make := XX.ki_Make_Make
  have X_N_Watch := XX.N_Watch
  have X_ki_Watch_Hold := XX.ki_Watch_Hold
  have X_ki_Watch_Loose := XX.ki_Watch_Loose
  have X_ki_Watch_Kept := XX.ki_Watch_Kept
  have X_ki_Watch_Watch := XX.ki_Watch_Watch
  have X_ki_Watch_Make := XX.ki_Watch_Make
  have X_N_Hold := XX.N_Hold
  have X_ki_Hold_Hold := XX.ki_Hold_Hold
  have X_ki_Hold_Loose := XX.ki_Hold_Loose
  have X_ki_Hold_Kept := XX.ki_Hold_Kept
  have X_ki_Hold_Watch := XX.ki_Hold_Watch
  have X_ki_Hold_Make := XX.ki_Hold_Make
  simp only [List.map_cons, List.map_nil, List.length_cons, List.length_nil, List.cons_append, List.nil_append, Nat.reduceAdd, Nat.reduceSub, List.replicate_succ, List.replicate_zero, N_Watch__unkept]
  ((with_reducible refine gos_ret ?_); (with_reducible refine go_bl ?_); walk_at "x0"; (focus skip); rotate_left)
  all_goals rfl
theorem cal_Hold__unkept {zf : Addr} (D : DfM K "unkept" "Kept.unkept" s_Hold__unkept zf) {a_SkewError a_NoLevel a_Loose a_Kept a_Make a_Watch a_Hold : Addr} (XX : XF K mg a_SkewError a_NoLevel a_Loose a_Kept a_Make a_Watch a_Hold) (ME : Meth K a_Hold "unkept" zf) : CalM P w K mg base a_Hold "unkept" 1 ["self"] (C_Hold__unkept mg a_Hold) := by
  obtain ⟨fd, F⟩ := D
  refine ⟨zf, fd, ?_, ME, F.binds (ps := ["self"]) fun _ _ _ _ _ _ us hl => match us, hl with | [_], _ => rfl⟩
  refine F.ok sc_Hold__unkept (fun vs H Q E hS0 => spP_len (n := 1) (fun xs p q c0 => by unfold C_Hold__unkept at c0; obtain ⟨_, rfl, _⟩ := c0; rfl) hS0) (fun cdv A outer s H vs Q E hr hS0 => ?_)
  have hu := hu_of hr
  refine sp_body hS0 (fun B xs p q c0 hl0 wx => ?_)
  obtain ⟨Cv, rfl, rfl, rfl⟩ := c0
  refine ⟨_, (pss_one (ps_ret pe_bl)), ?_⟩
  clear hS0 hl0 hr hu wx
  have X_g_Loose := XX.g_Loose
  have X_R_Loose := XX.R_Loose
  have X_g_Kept := XX.g_Kept
  have X_R_Kept := XX.R_Kept
  have X_g_Make := XX.g_Make
  have X_R_Make := XX.R_Make
  have X_g_Watch := XX.g_Watch
  have X_R_Watch := XX.R_Watch
  have X_g_Hold := XX.g_Hold
  have X_R_Hold := XX.R_Hold
  have X_N_Loose := XX.N_Loose
  have X_ki_Loose_Hold := XX.ki_Loose_Hold
  have X_ki_Loose_Loose := XX.ki_Loose_Loose
  have X_ki_Loose_Kept := XX.ki_Loose_Kept
  have X_ki_Loose_Watch := XX.ki_Loose_Watch
  have X_ki_Loose_Make := XX.ki_Loose_Make
  have X_N_Kept := XX.N_Kept
  have X_ki_Kept_Hold := XX.ki_Kept_Hold
  have X_ki_Kept_Loose := XX.ki_Kept_Loose
  have X_ki_Kept_Kept := XX.ki_Kept_Kept
  have X_ki_Kept_Watch := XX.ki_Kept_Watch
  have X_ki_Kept_Make := XX.ki_Kept_Make
  have X_N_Make := XX.N_Make
  have X_ki_Make_Hold := XX.ki_Make_Hold
  have X_ki_Make_Loose := XX.ki_Make_Loose
  have X_ki_Make_Kept := XX.ki_Make_Kept
  have X_ki_Make_Watch := XX.ki_Make_Watch
  have X_ki_Make_Make := XX.ki_Make_Make
  have X_N_Watch := XX.N_Watch
  have X_ki_Watch_Hold := XX.ki_Watch_Hold
  have X_ki_Watch_Loose := XX.ki_Watch_Loose
  have X_ki_Watch_Kept := XX.ki_Watch_Kept
  have X_ki_Watch_Watch := XX.ki_Watch_Watch
  have X_ki_Watch_Make := XX.ki_Watch_Make
  have X_N_Hold := XX.N_Hold
  have X_ki_Hold_Hold := XX.ki_Hold_Hold
  have X_ki_Hold_Loose := XX.ki_Hold_Loose
  have X_ki_Hold_Kept := XX.ki_Hold_Kept
  have X_ki_Hold_Watch := XX.ki_Hold_Watch
  have X_ki_Hold_Make := XX.ki_Hold_Make
  simp only [List.map_cons, List.map_nil, List.length_cons, List.length_nil, List.cons_append, List.nil_append, Nat.reduceAdd, Nat.reduceSub, List.replicate_succ, List.replicate_zero, N_Hold__unkept]
  ((with_reducible refine gos_ret ?_); (with_reducible refine go_bl ?_); walk_at "x0"; (focus skip); rotate_left)
  all_goals rfl
theorem cal__law_truth (D : Df K mg "_law_truth" s__law_truth) {a_SkewError a_NoLevel a_Loose a_Kept a_Make a_Watch a_Hold : Addr} (XX : XF K mg a_SkewError a_NoLevel a_Loose a_Kept a_Make a_Watch a_Hold) (b_bool : mg "bool" = none) (b_isinstance : mg "isinstance" = none) : Cal P w K mg base "_law_truth" 1 ["_law_found", "_law_due"] (C__law_truth mg) := by
  obtain ⟨f, fd, F, mf⟩ := D
  refine ⟨f, fd, ?_, mf, F.kp, F.binds (ps := ["_law_found", "_law_due"]) fun _ _ _ _ _ _ us hl => match us, hl with | [_, _], _ => rfl, Fun.lk F⟩
  refine F.ok sc__law_truth (fun vs H Q E hS0 => spP_len (n := 2) (fun xs p q c0 => by unfold C__law_truth at c0; obtain ⟨_, _, rfl, _⟩ := c0; rfl) hS0) (fun cdv A outer s H vs Q E hr hS0 => ?_)
  have hu := hu_of hr
  refine sp_body hS0 (fun B xs p q c0 hl0 wx => ?_)
  obtain ⟨x, y, rfl, rfl, rfl⟩ := c0
  refine ⟨_, (pss_one (ps_ret (pe_and (pe_callB (k_isi (K := K) rfl) (by rfl) b_isinstance (by decide +kernel) (pa_cons (pv 0) (pa_cons (pe_bltn (v := .ty "bool") (u := .type "bool") (by rfl) b_bool (by decide +kernel) rfl) pa_nil))) (pe_one (pe_cmpR (k_eq (K := K) rfl hr.units) (pv 0) (pv 1) (nomark _)))))), ?_⟩
  clear hS0 hl0 hr hu wx b_bool b_isinstance
  have X_g_Loose := XX.g_Loose
  have X_R_Loose := XX.R_Loose
  have X_g_Kept := XX.g_Kept
  have X_R_Kept := XX.R_Kept
  have X_g_Make := XX.g_Make
  have X_R_Make := XX.R_Make
  have X_g_Watch := XX.g_Watch
  have X_R_Watch := XX.R_Watch
  have X_g_Hold := XX.g_Hold
  have X_R_Hold := XX.R_Hold
  have X_N_Loose := XX.N_Loose
  have X_ki_Loose_Hold := XX.ki_Loose_Hold
  have X_ki_Loose_Loose := XX.ki_Loose_Loose
  have X_ki_Loose_Kept := XX.ki_Loose_Kept
  have X_ki_Loose_Watch := XX.ki_Loose_Watch
  have X_ki_Loose_Make := XX.ki_Loose_Make
  have X_N_Kept := XX.N_Kept
  have X_ki_Kept_Hold := XX.ki_Kept_Hold
  have X_ki_Kept_Loose := XX.ki_Kept_Loose
  have X_ki_Kept_Kept := XX.ki_Kept_Kept
  have X_ki_Kept_Watch := XX.ki_Kept_Watch
  have X_ki_Kept_Make := XX.ki_Kept_Make
  have X_N_Make := XX.N_Make
  have X_ki_Make_Hold := XX.ki_Make_Hold
  have X_ki_Make_Loose := XX.ki_Make_Loose
  have X_ki_Make_Kept := XX.ki_Make_Kept
  have X_ki_Make_Watch := XX.ki_Make_Watch
  have X_ki_Make_Make := XX.ki_Make_Make
  have X_N_Watch := XX.N_Watch
  have X_ki_Watch_Hold := XX.ki_Watch_Hold
  have X_ki_Watch_Loose := XX.ki_Watch_Loose
  have X_ki_Watch_Kept := XX.ki_Watch_Kept
  have X_ki_Watch_Watch := XX.ki_Watch_Watch
  have X_ki_Watch_Make := XX.ki_Watch_Make
  have X_N_Hold := XX.N_Hold
  have X_ki_Hold_Hold := XX.ki_Hold_Hold
  have X_ki_Hold_Loose := XX.ki_Hold_Loose
  have X_ki_Hold_Kept := XX.ki_Hold_Kept
  have X_ki_Hold_Watch := XX.ki_Hold_Watch
  have X_ki_Hold_Make := XX.ki_Hold_Make
  simp only [List.map_cons, List.map_nil, List.length_cons, List.length_nil, List.cons_append, List.nil_append, Nat.reduceAdd, Nat.reduceSub, List.replicate_succ, List.replicate_zero, N__law_truth]
  ((with_reducible refine gos_ret ?_); (with_reducible refine go_andV ?_); (with_reducible refine go_cb ?_); (with_reducible refine goa_cons ?_); walk_at "x1"; (with_reducible refine goa_cons ?_); (with_reducible refine go_ty ?_); (with_reducible refine goa_nil ?_); walk_at "x0"; walk_at "x16"; walk_at "x2"; walk_at "x0"; walk_at "x3"; (with_reducible refine go_op ?_); walk_at "x1"; walk_at "x1"; walk_at "x0"; (with_reducible refine o2_eqB ?_); (focus skip); rotate_left)
  all_goals rfl
theorem cal__law_truths (D : Df K mg "_law_truths" s__law_truths) {a_SkewError a_NoLevel a_Loose a_Kept a_Make a_Watch a_Hold : Addr} (XX : XF K mg a_SkewError a_NoLevel a_Loose a_Kept a_Make a_Watch a_Hold) (c_Loose__holds_asks : CalM P w K mg base a_Loose "holds_asks" 1 ["self"] (C_Loose__holds_asks mg a_Loose)) (c_Kept__holds_asks : CalM P w K mg base a_Kept "holds_asks" 1 ["self"] (C_Kept__holds_asks mg a_Kept)) (c_Make__holds_asks : CalM P w K mg base a_Make "holds_asks" 1 ["self"] (C_Make__holds_asks mg a_Make)) (c_Watch__holds_asks : CalM P w K mg base a_Watch "holds_asks" 1 ["self"] (C_Watch__holds_asks mg a_Watch)) (c_Hold__holds_asks : CalM P w K mg base a_Hold "holds_asks" 1 ["self"] (C_Hold__holds_asks mg a_Hold)) (c_Loose__watches : CalM P w K mg base a_Loose "watches" 1 ["self"] (C_Loose__watches mg a_Loose)) (c_Kept__watches : CalM P w K mg base a_Kept "watches" 1 ["self"] (C_Kept__watches mg a_Kept)) (c_Make__watches : CalM P w K mg base a_Make "watches" 1 ["self"] (C_Make__watches mg a_Make)) (c_Watch__watches : CalM P w K mg base a_Watch "watches" 1 ["self"] (C_Watch__watches mg a_Watch)) (c_Hold__watches : CalM P w K mg base a_Hold "watches" 1 ["self"] (C_Hold__watches mg a_Hold)) (c_Loose__late : CalM P w K mg base a_Loose "late" 1 ["self", "begin", "stamp"] (C_Loose__late mg a_Loose)) (c_Kept__late : CalM P w K mg base a_Kept "late" 1 ["self", "begin", "stamp"] (C_Kept__late mg a_Kept)) (c_Make__late : CalM P w K mg base a_Make "late" 1 ["self", "begin", "stamp"] (C_Make__late mg a_Make)) (c_Watch__late : CalM P w K mg base a_Watch "late" 1 ["self", "begin", "stamp"] (C_Watch__late mg a_Watch)) (c_Hold__late : CalM P w K mg base a_Hold "late" 1 ["self", "begin", "stamp"] (C_Hold__late mg a_Hold)) (c_Loose__unkept : CalM P w K mg base a_Loose "unkept" 1 ["self"] (C_Loose__unkept mg a_Loose)) (c_Kept__unkept : CalM P w K mg base a_Kept "unkept" 1 ["self"] (C_Kept__unkept mg a_Kept)) (c_Make__unkept : CalM P w K mg base a_Make "unkept" 1 ["self"] (C_Make__unkept mg a_Make)) (c_Watch__unkept : CalM P w K mg base a_Watch "unkept" 1 ["self"] (C_Watch__unkept mg a_Watch)) (c_Hold__unkept : CalM P w K mg base a_Hold "unkept" 1 ["self"] (C_Hold__unkept mg a_Hold)) (c__law_truth : Cal P w K mg base "_law_truth" 1 ["_law_found", "_law_due"] (C__law_truth mg)) : Cal P w K mg base "_law_truths" 2 ["_law_level", "_law_word", "_law_begin", "_law_stamp"] (C__law_truths mg) := by
  obtain ⟨f, fd, F, mf⟩ := D
  obtain ⟨f_Loose__holds_asks, fd_Loose__holds_asks, G_Loose__holds_asks, k_Loose__holds_asks, bn_Loose__holds_asks⟩ := c_Loose__holds_asks
  obtain ⟨f_Kept__holds_asks, fd_Kept__holds_asks, G_Kept__holds_asks, k_Kept__holds_asks, bn_Kept__holds_asks⟩ := c_Kept__holds_asks
  obtain ⟨f_Make__holds_asks, fd_Make__holds_asks, G_Make__holds_asks, k_Make__holds_asks, bn_Make__holds_asks⟩ := c_Make__holds_asks
  obtain ⟨f_Watch__holds_asks, fd_Watch__holds_asks, G_Watch__holds_asks, k_Watch__holds_asks, bn_Watch__holds_asks⟩ := c_Watch__holds_asks
  obtain ⟨f_Hold__holds_asks, fd_Hold__holds_asks, G_Hold__holds_asks, k_Hold__holds_asks, bn_Hold__holds_asks⟩ := c_Hold__holds_asks
  obtain ⟨f_Loose__watches, fd_Loose__watches, G_Loose__watches, k_Loose__watches, bn_Loose__watches⟩ := c_Loose__watches
  obtain ⟨f_Kept__watches, fd_Kept__watches, G_Kept__watches, k_Kept__watches, bn_Kept__watches⟩ := c_Kept__watches
  obtain ⟨f_Make__watches, fd_Make__watches, G_Make__watches, k_Make__watches, bn_Make__watches⟩ := c_Make__watches
  obtain ⟨f_Watch__watches, fd_Watch__watches, G_Watch__watches, k_Watch__watches, bn_Watch__watches⟩ := c_Watch__watches
  obtain ⟨f_Hold__watches, fd_Hold__watches, G_Hold__watches, k_Hold__watches, bn_Hold__watches⟩ := c_Hold__watches
  obtain ⟨f_Loose__late, fd_Loose__late, G_Loose__late, k_Loose__late, bn_Loose__late⟩ := c_Loose__late
  obtain ⟨f_Kept__late, fd_Kept__late, G_Kept__late, k_Kept__late, bn_Kept__late⟩ := c_Kept__late
  obtain ⟨f_Make__late, fd_Make__late, G_Make__late, k_Make__late, bn_Make__late⟩ := c_Make__late
  obtain ⟨f_Watch__late, fd_Watch__late, G_Watch__late, k_Watch__late, bn_Watch__late⟩ := c_Watch__late
  obtain ⟨f_Hold__late, fd_Hold__late, G_Hold__late, k_Hold__late, bn_Hold__late⟩ := c_Hold__late
  obtain ⟨f_Loose__unkept, fd_Loose__unkept, G_Loose__unkept, k_Loose__unkept, bn_Loose__unkept⟩ := c_Loose__unkept
  obtain ⟨f_Kept__unkept, fd_Kept__unkept, G_Kept__unkept, k_Kept__unkept, bn_Kept__unkept⟩ := c_Kept__unkept
  obtain ⟨f_Make__unkept, fd_Make__unkept, G_Make__unkept, k_Make__unkept, bn_Make__unkept⟩ := c_Make__unkept
  obtain ⟨f_Watch__unkept, fd_Watch__unkept, G_Watch__unkept, k_Watch__unkept, bn_Watch__unkept⟩ := c_Watch__unkept
  obtain ⟨f_Hold__unkept, fd_Hold__unkept, G_Hold__unkept, k_Hold__unkept, bn_Hold__unkept⟩ := c_Hold__unkept
  obtain ⟨f__law_truth, fd__law_truth, G__law_truth, g__law_truth, k__law_truth, bn__law_truth, _⟩ := c__law_truth
  refine ⟨f, fd, ?_, mf, F.kp, F.binds (ps := ["_law_level", "_law_word", "_law_begin", "_law_stamp"]) fun _ _ _ _ _ _ us hl => match us, hl with | [_, _, _, _], _ => rfl, Fun.lk F⟩
  refine F.ok sc__law_truths (fun vs H Q E hS0 => spP_len (n := 4) (fun xs p q c0 => by unfold C__law_truths at c0; obtain ⟨_, _, _, rfl, _⟩ := c0; rfl) hS0) (fun cdv A outer s H vs Q E hr hS0 => ?_)
  have hu := hu_of hr
  refine sp_body hS0 (fun B xs p q c0 hl0 wx => ?_)
  obtain ⟨l, b, s, rfl, rfl, rfl⟩ := c0
  refine ⟨_, (pss_cons (ps_asg (pe_and (pe_cmpR (k_in (K := K) rfl hu) (pv 1) (pe_tup (pa_cons pe_str (pa_cons pe_str pa_nil))) (by rfl)) (pe_one (pe_cmpR (k_lt (K := K) rfl hr.units0) (pv 2) (pv 3) (nomark _)))) (pg_name (i := 4) sc__law_truths.nd rfl (by first | exact Or.inl rfl | exact Or.inr rfl)))
      (pss_cons (ps_if (PW.pt (pw_or (pt_not (pt_val (pe_call G__law_truth hr rfl g__law_truth k__law_truth bn__law_truth .nil pass0 (pa_cons (k_methD (K := K) (tb := [(a_Loose, C_Loose__late mg a_Loose), (a_Kept, C_Kept__late mg a_Kept), (a_Make, C_Make__late mg a_Make), (a_Watch, C_Watch__late mg a_Watch), (a_Hold, C_Hold__late mg a_Hold)]) rfl (pe_methD (pv 0) (mt_cons ⟨_, _, XX.R_Loose.cls, k_Loose__late , G_Loose__late , hr, bn_Loose__late ⟩ (mt_cons ⟨_, _, XX.R_Kept.cls, k_Kept__late , G_Kept__late , hr, bn_Kept__late ⟩ (mt_cons ⟨_, _, XX.R_Make.cls, k_Make__late , G_Make__late , hr, bn_Make__late ⟩ (mt_cons ⟨_, _, XX.R_Watch.cls, k_Watch__late , G_Watch__late , hr, bn_Watch__late ⟩ (mt_cons ⟨_, _, XX.R_Hold.cls, k_Hold__late , G_Hold__late , hr, bn_Hold__late ⟩ mt_nil))))) pass0 (pa_cons (pv 2) (pa_cons (pv 3) pa_nil)))) (pa_cons (pv 4) pa_nil))))) (pw_or1 (pt_not (pt_val (pe_call G__law_truth hr rfl g__law_truth k__law_truth bn__law_truth .nil pass0 (pa_cons (k_methD (K := K) (tb := [(a_Loose, C_Loose__unkept mg a_Loose), (a_Kept, C_Kept__unkept mg a_Kept), (a_Make, C_Make__unkept mg a_Make), (a_Watch, C_Watch__unkept mg a_Watch), (a_Hold, C_Hold__unkept mg a_Hold)]) rfl (pe_methD0 (pv 0) (mt_cons ⟨_, _, XX.R_Loose.cls, k_Loose__unkept , G_Loose__unkept , hr, bn_Loose__unkept ⟩ (mt_cons ⟨_, _, XX.R_Kept.cls, k_Kept__unkept , G_Kept__unkept , hr, bn_Kept__unkept ⟩ (mt_cons ⟨_, _, XX.R_Make.cls, k_Make__unkept , G_Make__unkept , hr, bn_Make__unkept ⟩ (mt_cons ⟨_, _, XX.R_Watch.cls, k_Watch__unkept , G_Watch__unkept , hr, bn_Watch__unkept ⟩ (mt_cons ⟨_, _, XX.R_Hold.cls, k_Hold__unkept , G_Hold__unkept , hr, bn_Hold__unkept ⟩ mt_nil))))) pass0)) (pa_cons (pe_cmpR (k_eq (K := K) rfl hr.units) (pv 1) pe_str (nomark _)) pa_nil))))))))
        (pss_one (ps_ret pe_bl))
        pss_nil)
      (pss_one (ps_ret (pe_and (pe_call G__law_truth hr rfl g__law_truth k__law_truth bn__law_truth .nil pass0 (pa_cons (k_methD (K := K) (tb := [(a_Loose, C_Loose__holds_asks mg a_Loose), (a_Kept, C_Kept__holds_asks mg a_Kept), (a_Make, C_Make__holds_asks mg a_Make), (a_Watch, C_Watch__holds_asks mg a_Watch), (a_Hold, C_Hold__holds_asks mg a_Hold)]) rfl (pe_methD0 (pv 0) (mt_cons ⟨_, _, XX.R_Loose.cls, k_Loose__holds_asks , G_Loose__holds_asks , hr, bn_Loose__holds_asks ⟩ (mt_cons ⟨_, _, XX.R_Kept.cls, k_Kept__holds_asks , G_Kept__holds_asks , hr, bn_Kept__holds_asks ⟩ (mt_cons ⟨_, _, XX.R_Make.cls, k_Make__holds_asks , G_Make__holds_asks , hr, bn_Make__holds_asks ⟩ (mt_cons ⟨_, _, XX.R_Watch.cls, k_Watch__holds_asks , G_Watch__holds_asks , hr, bn_Watch__holds_asks ⟩ (mt_cons ⟨_, _, XX.R_Hold.cls, k_Hold__holds_asks , G_Hold__holds_asks , hr, bn_Hold__holds_asks ⟩ mt_nil))))) pass0)) (pa_cons (pe_cmpR (k_eq (K := K) rfl hr.units) (pv 1) pe_str (nomark _)) pa_nil))) (pe_one (pe_call G__law_truth hr rfl g__law_truth k__law_truth bn__law_truth .nil pass0 (pa_cons (k_methD (K := K) (tb := [(a_Loose, C_Loose__watches mg a_Loose), (a_Kept, C_Kept__watches mg a_Kept), (a_Make, C_Make__watches mg a_Make), (a_Watch, C_Watch__watches mg a_Watch), (a_Hold, C_Hold__watches mg a_Hold)]) rfl (pe_methD0 (pv 0) (mt_cons ⟨_, _, XX.R_Loose.cls, k_Loose__watches , G_Loose__watches , hr, bn_Loose__watches ⟩ (mt_cons ⟨_, _, XX.R_Kept.cls, k_Kept__watches , G_Kept__watches , hr, bn_Kept__watches ⟩ (mt_cons ⟨_, _, XX.R_Make.cls, k_Make__watches , G_Make__watches , hr, bn_Make__watches ⟩ (mt_cons ⟨_, _, XX.R_Watch.cls, k_Watch__watches , G_Watch__watches , hr, bn_Watch__watches ⟩ (mt_cons ⟨_, _, XX.R_Hold.cls, k_Hold__watches , G_Hold__watches , hr, bn_Hold__watches ⟩ mt_nil))))) pass0)) (pa_cons (pe_cmpR (k_eq (K := K) rfl hr.units) (pv 1) pe_str (nomark _)) pa_nil))))))))), ?_⟩
  clear hS0 hl0 hr hu wx G_Loose__holds_asks k_Loose__holds_asks bn_Loose__holds_asks G_Kept__holds_asks k_Kept__holds_asks bn_Kept__holds_asks G_Make__holds_asks k_Make__holds_asks bn_Make__holds_asks G_Watch__holds_asks k_Watch__holds_asks bn_Watch__holds_asks G_Hold__holds_asks k_Hold__holds_asks bn_Hold__holds_asks G_Loose__watches k_Loose__watches bn_Loose__watches G_Kept__watches k_Kept__watches bn_Kept__watches G_Make__watches k_Make__watches bn_Make__watches G_Watch__watches k_Watch__watches bn_Watch__watches G_Hold__watches k_Hold__watches bn_Hold__watches G_Loose__late k_Loose__late bn_Loose__late G_Kept__late k_Kept__late bn_Kept__late G_Make__late k_Make__late bn_Make__late G_Watch__late k_Watch__late bn_Watch__late G_Hold__late k_Hold__late bn_Hold__late G_Loose__unkept k_Loose__unkept bn_Loose__unkept G_Kept__unkept k_Kept__unkept bn_Kept__unkept G_Make__unkept k_Make__unkept bn_Make__unkept G_Watch__unkept k_Watch__unkept bn_Watch__unkept G_Hold__unkept k_Hold__unkept bn_Hold__unkept G__law_truth g__law_truth k__law_truth bn__law_truth
  have X_g_Loose := XX.g_Loose
  have X_R_Loose := XX.R_Loose
  have X_g_Kept := XX.g_Kept
  have X_R_Kept := XX.R_Kept
  have X_g_Make := XX.g_Make
  have X_R_Make := XX.R_Make
  have X_g_Watch := XX.g_Watch
  have X_R_Watch := XX.R_Watch
  have X_g_Hold := XX.g_Hold
  have X_R_Hold := XX.R_Hold
  have X_N_Loose := XX.N_Loose
  have X_ki_Loose_Hold := XX.ki_Loose_Hold
  have X_ki_Loose_Loose := XX.ki_Loose_Loose
  have X_ki_Loose_Kept := XX.ki_Loose_Kept
  have X_ki_Loose_Watch := XX.ki_Loose_Watch
  have X_ki_Loose_Make := XX.ki_Loose_Make
  have X_N_Kept := XX.N_Kept
  have X_ki_Kept_Hold := XX.ki_Kept_Hold
  have X_ki_Kept_Loose := XX.ki_Kept_Loose
  have X_ki_Kept_Kept := XX.ki_Kept_Kept
  have X_ki_Kept_Watch := XX.ki_Kept_Watch
  have X_ki_Kept_Make := XX.ki_Kept_Make
  have X_N_Make := XX.N_Make
  have X_ki_Make_Hold := XX.ki_Make_Hold
  have X_ki_Make_Loose := XX.ki_Make_Loose
  have X_ki_Make_Kept := XX.ki_Make_Kept
  have X_ki_Make_Watch := XX.ki_Make_Watch
  have X_ki_Make_Make := XX.ki_Make_Make
  have X_N_Watch := XX.N_Watch
  have X_ki_Watch_Hold := XX.ki_Watch_Hold
  have X_ki_Watch_Loose := XX.ki_Watch_Loose
  have X_ki_Watch_Kept := XX.ki_Watch_Kept
  have X_ki_Watch_Watch := XX.ki_Watch_Watch
  have X_ki_Watch_Make := XX.ki_Watch_Make
  have X_N_Hold := XX.N_Hold
  have X_ki_Hold_Hold := XX.ki_Hold_Hold
  have X_ki_Hold_Loose := XX.ki_Hold_Loose
  have X_ki_Hold_Kept := XX.ki_Hold_Kept
  have X_ki_Hold_Watch := XX.ki_Hold_Watch
  have X_ki_Hold_Make := XX.ki_Hold_Make
  simp only [List.map_cons, List.map_nil, List.length_cons, List.length_nil, List.cons_append, List.nil_append, Nat.reduceAdd, Nat.reduceSub, List.replicate_succ, List.replicate_zero, N__law_truths]
  have m1 : ∀ l : Lv, ([D.str (Str.ofString "make"), D.str (Str.ofString "watch")].any fun y => y.eq1 (D.str (lvW l))) = lvMW l := by intro l; cases l <;> decide
  have gt_lt : decide (s > b) = decide (b < s) := rfl
  ((with_reducible refine gos_sA ?_); (with_reducible refine gos_asg ?_); (with_reducible refine go_andV ?_); (with_reducible refine go_op ?_); walk_at "x1"; (with_reducible refine go_tup ?_); (with_reducible refine goa_cons ?_); (with_reducible refine go_str ?_); (with_reducible refine goa_cons ?_); (with_reducible refine go_str ?_); (with_reducible refine goa_nil ?_); walk_at "x0"; walk_at "x12"; (focus skip); rotate_left)
  refine o2_in rfl rfl rfl ?_
  rw [m1]
  cases l <;> simp only [lvW, lvMW]
  all_goals ((repeat' (first | (with_reducible refine gos_sIR ?_) | (with_reducible refine gos_ret ?_) | (with_reducible refine gos_if ?_) | (with_reducible refine gos_next ?_) | walk_at "x1" | (with_reducible refine go_str ?_) | (with_reducible refine go_op ?_) | (with_reducible refine goa_cons ?_) | (with_reducible refine goa_nil ?_) | (with_reducible refine go_andV ?_) | (with_reducible refine got_B ?_) | (with_reducible refine got_or ?_) | (with_reducible refine got_not ?_) | walk_at "x10" | walk_at "x2" | (with_reducible refine o2_lt ?_) | (with_reducible refine o2_eqS ?_) | walk_at "x0" | walk_at "x3" | (with_reducible refine call__law_truth ?_) | walk_at "x19" | walk_at "x20" | walk_at "x21" | walk_at "x22" | walk_at "x23" | walk_at "x12" | fail)))
  all_goals first
    | rfl
    | (exfalso; apply (by assumption : ¬ (_ : Bool) = _); first | rfl | exact gt_lt | decide)
    | (simp only [lvWatches]; congr 2; decide)
    | trace_state
theorem cal_Loose__stamps {zf : Addr} (D : DfM K "stamps" "Loose.stamps" s_Loose__stamps zf) {a_SkewError a_NoLevel a_Loose a_Kept a_Make a_Watch a_Hold : Addr} (XX : XF K mg a_SkewError a_NoLevel a_Loose a_Kept a_Make a_Watch a_Hold) (ME : Meth K a_Loose "stamps" zf) : CalM P w K mg base a_Loose "stamps" 1 ["self", "begin", "stands", "end", "early"] (C_Loose__stamps mg a_Loose) := by
  obtain ⟨fd, F⟩ := D
  refine ⟨zf, fd, ?_, ME, F.binds (ps := ["self", "begin", "stands", "end", "early"]) fun _ _ _ _ _ _ us hl => match us, hl with | [_, _, _, _, _], _ => rfl⟩
  refine F.ok sc_Loose__stamps (fun vs H Q E hS0 => spP_len (n := 5) (fun xs p q c0 => by unfold C_Loose__stamps at c0; obtain ⟨_, _, _, _, _, rfl, _⟩ := c0; rfl) hS0) (fun cdv A outer s H vs Q E hr hS0 => ?_)
  have hu := hu_of hr
  refine sp_body hS0 (fun B xs p q c0 hl0 wx => ?_)
  obtain ⟨Cv, b, e, xs, s, rfl, hp0, rfl, rfl⟩ := c0
  refine ⟨_, (pss_one (ps_ret (pe_lst (pa_cons (pv 3) pa_nil)))), ?_⟩
  clear hS0 hl0 hr hu wx
  have X_g_Loose := XX.g_Loose
  have X_R_Loose := XX.R_Loose
  have X_g_Kept := XX.g_Kept
  have X_R_Kept := XX.R_Kept
  have X_g_Make := XX.g_Make
  have X_R_Make := XX.R_Make
  have X_g_Watch := XX.g_Watch
  have X_R_Watch := XX.R_Watch
  have X_g_Hold := XX.g_Hold
  have X_R_Hold := XX.R_Hold
  have X_N_Loose := XX.N_Loose
  have X_ki_Loose_Hold := XX.ki_Loose_Hold
  have X_ki_Loose_Loose := XX.ki_Loose_Loose
  have X_ki_Loose_Kept := XX.ki_Loose_Kept
  have X_ki_Loose_Watch := XX.ki_Loose_Watch
  have X_ki_Loose_Make := XX.ki_Loose_Make
  have X_N_Kept := XX.N_Kept
  have X_ki_Kept_Hold := XX.ki_Kept_Hold
  have X_ki_Kept_Loose := XX.ki_Kept_Loose
  have X_ki_Kept_Kept := XX.ki_Kept_Kept
  have X_ki_Kept_Watch := XX.ki_Kept_Watch
  have X_ki_Kept_Make := XX.ki_Kept_Make
  have X_N_Make := XX.N_Make
  have X_ki_Make_Hold := XX.ki_Make_Hold
  have X_ki_Make_Loose := XX.ki_Make_Loose
  have X_ki_Make_Kept := XX.ki_Make_Kept
  have X_ki_Make_Watch := XX.ki_Make_Watch
  have X_ki_Make_Make := XX.ki_Make_Make
  have X_N_Watch := XX.N_Watch
  have X_ki_Watch_Hold := XX.ki_Watch_Hold
  have X_ki_Watch_Loose := XX.ki_Watch_Loose
  have X_ki_Watch_Kept := XX.ki_Watch_Kept
  have X_ki_Watch_Watch := XX.ki_Watch_Watch
  have X_ki_Watch_Make := XX.ki_Watch_Make
  have X_N_Hold := XX.N_Hold
  have X_ki_Hold_Hold := XX.ki_Hold_Hold
  have X_ki_Hold_Loose := XX.ki_Hold_Loose
  have X_ki_Hold_Kept := XX.ki_Hold_Kept
  have X_ki_Hold_Watch := XX.ki_Hold_Watch
  have X_ki_Hold_Make := XX.ki_Hold_Make
  simp only [List.map_cons, List.map_nil, List.length_cons, List.length_nil, List.cons_append, List.nil_append, Nat.reduceAdd, Nat.reduceSub, List.replicate_succ, List.replicate_zero, N_Loose__stamps]
  ((with_reducible refine gos_ret ?_); (with_reducible refine go_lst ?_); (with_reducible refine goa_cons ?_); walk_at "x1"; (with_reducible refine goa_nil ?_); walk_at "x0"; walk_at "x12"; (focus skip); rotate_left)
  all_goals rfl
theorem cal_Kept__stamps {zf : Addr} (D : DfM K "stamps" "Kept.stamps" s_Kept__stamps zf) {a_SkewError a_NoLevel a_Loose a_Kept a_Make a_Watch a_Hold : Addr} (XX : XF K mg a_SkewError a_NoLevel a_Loose a_Kept a_Make a_Watch a_Hold) (ME : Meth K a_Kept "stamps" zf) (b_list : mg "list" = none) : CalM P w K mg base a_Kept "stamps" 1 ["self", "begin", "stands", "end", "early"] (C_Kept__stamps mg a_Kept) := by
  obtain ⟨fd, F⟩ := D
  refine ⟨zf, fd, ?_, ME, F.binds (ps := ["self", "begin", "stands", "end", "early"]) fun _ _ _ _ _ _ us hl => match us, hl with | [_, _, _, _, _], _ => rfl⟩
  refine F.ok sc_Kept__stamps (fun vs H Q E hS0 => spP_len (n := 5) (fun xs p q c0 => by unfold C_Kept__stamps at c0; obtain ⟨_, _, _, _, _, rfl, _⟩ := c0; rfl) hS0) (fun cdv A outer s H vs Q E hr hS0 => ?_)
  have hu := hu_of hr
  refine sp_body hS0 (fun B xs p q c0 hl0 wx => ?_)
  obtain ⟨Cv, b, e, xs, s, rfl, hp0, rfl, rfl⟩ := c0
  refine ⟨_, (pss_one (ps_ret (pe_op (k_add (K := K) rfl) (pe_callTy (k_list (K := K) rfl rfl) (by rfl) b_list (by decide +kernel) (pa_cons (pv 2) pa_nil)) (pe_lst (pa_cons (pv 3) pa_nil))))), ?_⟩
  clear hS0 hl0 hr hu wx b_list
  have X_g_Loose := XX.g_Loose
  have X_R_Loose := XX.R_Loose
  have X_g_Kept := XX.g_Kept
  have X_R_Kept := XX.R_Kept
  have X_g_Make := XX.g_Make
  have X_R_Make := XX.R_Make
  have X_g_Watch := XX.g_Watch
  have X_R_Watch := XX.R_Watch
  have X_g_Hold := XX.g_Hold
  have X_R_Hold := XX.R_Hold
  have X_N_Loose := XX.N_Loose
  have X_ki_Loose_Hold := XX.ki_Loose_Hold
  have X_ki_Loose_Loose := XX.ki_Loose_Loose
  have X_ki_Loose_Kept := XX.ki_Loose_Kept
  have X_ki_Loose_Watch := XX.ki_Loose_Watch
  have X_ki_Loose_Make := XX.ki_Loose_Make
  have X_N_Kept := XX.N_Kept
  have X_ki_Kept_Hold := XX.ki_Kept_Hold
  have X_ki_Kept_Loose := XX.ki_Kept_Loose
  have X_ki_Kept_Kept := XX.ki_Kept_Kept
  have X_ki_Kept_Watch := XX.ki_Kept_Watch
  have X_ki_Kept_Make := XX.ki_Kept_Make
  have X_N_Make := XX.N_Make
  have X_ki_Make_Hold := XX.ki_Make_Hold
  have X_ki_Make_Loose := XX.ki_Make_Loose
  have X_ki_Make_Kept := XX.ki_Make_Kept
  have X_ki_Make_Watch := XX.ki_Make_Watch
  have X_ki_Make_Make := XX.ki_Make_Make
  have X_N_Watch := XX.N_Watch
  have X_ki_Watch_Hold := XX.ki_Watch_Hold
  have X_ki_Watch_Loose := XX.ki_Watch_Loose
  have X_ki_Watch_Kept := XX.ki_Watch_Kept
  have X_ki_Watch_Watch := XX.ki_Watch_Watch
  have X_ki_Watch_Make := XX.ki_Watch_Make
  have X_N_Hold := XX.N_Hold
  have X_ki_Hold_Hold := XX.ki_Hold_Hold
  have X_ki_Hold_Loose := XX.ki_Hold_Loose
  have X_ki_Hold_Kept := XX.ki_Hold_Kept
  have X_ki_Hold_Watch := XX.ki_Hold_Watch
  have X_ki_Hold_Make := XX.ki_Hold_Make
  simp only [List.map_cons, List.map_nil, List.length_cons, List.length_nil, List.cons_append, List.nil_append, Nat.reduceAdd, Nat.reduceSub, List.replicate_succ, List.replicate_zero, N_Kept__stamps]
  ((with_reducible refine gos_ret ?_); (with_reducible refine go_op ?_); (with_reducible refine go_cb ?_); (with_reducible refine goa_cons ?_); walk_at "x1"; (with_reducible refine goa_nil ?_); walk_at "x0"; (focus skip); rotate_left)
  refine oa_list (x := .lst (xs.map D.int)) rfl ?_
  ((with_reducible refine go_lst ?_); (with_reducible refine goa_cons ?_); walk_at "x1"; (with_reducible refine goa_nil ?_); walk_at "x0"; walk_at "x12"; (focus skip); rotate_left)
  refine o2_addL (by simp; omega) ?_
  simp [lvStamps]
theorem cal_Make__stamps {zf : Addr} (D : DfM K "stamps" "Make.stamps" s_Make__stamps zf) {a_SkewError a_NoLevel a_Loose a_Kept a_Make a_Watch a_Hold : Addr} (XX : XF K mg a_SkewError a_NoLevel a_Loose a_Kept a_Make a_Watch a_Hold) (ME : Meth K a_Make "stamps" zf) : CalM P w K mg base a_Make "stamps" 1 ["self", "begin", "stands", "end", "early"] (C_Make__stamps mg a_Make) := by
  obtain ⟨fd, F⟩ := D
  refine ⟨zf, fd, ?_, ME, F.binds (ps := ["self", "begin", "stands", "end", "early"]) fun _ _ _ _ _ _ us hl => match us, hl with | [_, _, _, _, _], _ => rfl⟩
  refine F.ok sc_Make__stamps (fun vs H Q E hS0 => spP_len (n := 5) (fun xs p q c0 => by unfold C_Make__stamps at c0; obtain ⟨_, _, _, _, _, rfl, _⟩ := c0; rfl) hS0) (fun cdv A outer s H vs Q E hr hS0 => ?_)
  have hu := hu_of hr
  refine sp_body hS0 (fun B xs p q c0 hl0 wx => ?_)
  obtain ⟨Cv, b, e, xs, s, rfl, hp0, rfl, rfl⟩ := c0
  refine ⟨_, (pss_one (ps_ret (pe_lst (pa_cons (pv 1) (pa_cons (pv 3) pa_nil))))), ?_⟩
  clear hS0 hl0 hr hu wx
  have X_g_Loose := XX.g_Loose
  have X_R_Loose := XX.R_Loose
  have X_g_Kept := XX.g_Kept
  have X_R_Kept := XX.R_Kept
  have X_g_Make := XX.g_Make
  have X_R_Make := XX.R_Make
  have X_g_Watch := XX.g_Watch
  have X_R_Watch := XX.R_Watch
  have X_g_Hold := XX.g_Hold
  have X_R_Hold := XX.R_Hold
  have X_N_Loose := XX.N_Loose
  have X_ki_Loose_Hold := XX.ki_Loose_Hold
  have X_ki_Loose_Loose := XX.ki_Loose_Loose
  have X_ki_Loose_Kept := XX.ki_Loose_Kept
  have X_ki_Loose_Watch := XX.ki_Loose_Watch
  have X_ki_Loose_Make := XX.ki_Loose_Make
  have X_N_Kept := XX.N_Kept
  have X_ki_Kept_Hold := XX.ki_Kept_Hold
  have X_ki_Kept_Loose := XX.ki_Kept_Loose
  have X_ki_Kept_Kept := XX.ki_Kept_Kept
  have X_ki_Kept_Watch := XX.ki_Kept_Watch
  have X_ki_Kept_Make := XX.ki_Kept_Make
  have X_N_Make := XX.N_Make
  have X_ki_Make_Hold := XX.ki_Make_Hold
  have X_ki_Make_Loose := XX.ki_Make_Loose
  have X_ki_Make_Kept := XX.ki_Make_Kept
  have X_ki_Make_Watch := XX.ki_Make_Watch
  have X_ki_Make_Make := XX.ki_Make_Make
  have X_N_Watch := XX.N_Watch
  have X_ki_Watch_Hold := XX.ki_Watch_Hold
  have X_ki_Watch_Loose := XX.ki_Watch_Loose
  have X_ki_Watch_Kept := XX.ki_Watch_Kept
  have X_ki_Watch_Watch := XX.ki_Watch_Watch
  have X_ki_Watch_Make := XX.ki_Watch_Make
  have X_N_Hold := XX.N_Hold
  have X_ki_Hold_Hold := XX.ki_Hold_Hold
  have X_ki_Hold_Loose := XX.ki_Hold_Loose
  have X_ki_Hold_Kept := XX.ki_Hold_Kept
  have X_ki_Hold_Watch := XX.ki_Hold_Watch
  have X_ki_Hold_Make := XX.ki_Hold_Make
  simp only [List.map_cons, List.map_nil, List.length_cons, List.length_nil, List.cons_append, List.nil_append, Nat.reduceAdd, Nat.reduceSub, List.replicate_succ, List.replicate_zero, N_Make__stamps]
  ((with_reducible refine gos_ret ?_); (with_reducible refine go_lst ?_); (with_reducible refine goa_cons ?_); walk_at "x1"; (with_reducible refine goa_cons ?_); walk_at "x1"; (with_reducible refine goa_nil ?_); walk_at "x0"; walk_at "x12"; (focus skip); rotate_left)
  all_goals rfl
theorem cal_Watch__stamps {zf : Addr} (D : DfM K "stamps" "Watch.stamps" s_Watch__stamps zf) {a_SkewError a_NoLevel a_Loose a_Kept a_Make a_Watch a_Hold : Addr} (XX : XF K mg a_SkewError a_NoLevel a_Loose a_Kept a_Make a_Watch a_Hold) (ME : Meth K a_Watch "stamps" zf) : CalM P w K mg base a_Watch "stamps" 1 ["self", "begin", "stands", "end", "early"] (C_Watch__stamps mg a_Watch) := by
  obtain ⟨fd, F⟩ := D
  refine ⟨zf, fd, ?_, ME, F.binds (ps := ["self", "begin", "stands", "end", "early"]) fun _ _ _ _ _ _ us hl => match us, hl with | [_, _, _, _, _], _ => rfl⟩
  refine F.ok sc_Watch__stamps (fun vs H Q E hS0 => spP_len (n := 5) (fun xs p q c0 => by unfold C_Watch__stamps at c0; obtain ⟨_, _, _, _, _, rfl, _⟩ := c0; rfl) hS0) (fun cdv A outer s H vs Q E hr hS0 => ?_)
  have hu := hu_of hr
  refine sp_body hS0 (fun B xs p q c0 hl0 wx => ?_)
  obtain ⟨Cv, b, e, xs, s, rfl, hp0, rfl, rfl⟩ := c0
  refine ⟨_, (pss_cons (ps_if (pt_val (pv 4))
        (pss_one (ps_ret (pe_lst (pa_cons (pv 1) pa_nil))))
        pss_nil)
      (pss_one (ps_ret (pe_lst (pa_cons (pv 3) pa_nil))))), ?_⟩
  clear hS0 hl0 hr hu wx
  have X_g_Loose := XX.g_Loose
  have X_R_Loose := XX.R_Loose
  have X_g_Kept := XX.g_Kept
  have X_R_Kept := XX.R_Kept
  have X_g_Make := XX.g_Make
  have X_R_Make := XX.R_Make
  have X_g_Watch := XX.g_Watch
  have X_R_Watch := XX.R_Watch
  have X_g_Hold := XX.g_Hold
  have X_R_Hold := XX.R_Hold
  have X_N_Loose := XX.N_Loose
  have X_ki_Loose_Hold := XX.ki_Loose_Hold
  have X_ki_Loose_Loose := XX.ki_Loose_Loose
  have X_ki_Loose_Kept := XX.ki_Loose_Kept
  have X_ki_Loose_Watch := XX.ki_Loose_Watch
  have X_ki_Loose_Make := XX.ki_Loose_Make
  have X_N_Kept := XX.N_Kept
  have X_ki_Kept_Hold := XX.ki_Kept_Hold
  have X_ki_Kept_Loose := XX.ki_Kept_Loose
  have X_ki_Kept_Kept := XX.ki_Kept_Kept
  have X_ki_Kept_Watch := XX.ki_Kept_Watch
  have X_ki_Kept_Make := XX.ki_Kept_Make
  have X_N_Make := XX.N_Make
  have X_ki_Make_Hold := XX.ki_Make_Hold
  have X_ki_Make_Loose := XX.ki_Make_Loose
  have X_ki_Make_Kept := XX.ki_Make_Kept
  have X_ki_Make_Watch := XX.ki_Make_Watch
  have X_ki_Make_Make := XX.ki_Make_Make
  have X_N_Watch := XX.N_Watch
  have X_ki_Watch_Hold := XX.ki_Watch_Hold
  have X_ki_Watch_Loose := XX.ki_Watch_Loose
  have X_ki_Watch_Kept := XX.ki_Watch_Kept
  have X_ki_Watch_Watch := XX.ki_Watch_Watch
  have X_ki_Watch_Make := XX.ki_Watch_Make
  have X_N_Hold := XX.N_Hold
  have X_ki_Hold_Hold := XX.ki_Hold_Hold
  have X_ki_Hold_Loose := XX.ki_Hold_Loose
  have X_ki_Hold_Kept := XX.ki_Hold_Kept
  have X_ki_Hold_Watch := XX.ki_Hold_Watch
  have X_ki_Hold_Make := XX.ki_Hold_Make
  simp only [List.map_cons, List.map_nil, List.length_cons, List.length_nil, List.cons_append, List.nil_append, Nat.reduceAdd, Nat.reduceSub, List.replicate_succ, List.replicate_zero, N_Watch__stamps]
  cases s
  ((with_reducible refine gos_sIR ?_); (with_reducible refine gos_if ?_); (with_reducible refine got_B ?_); walk_at "x1"; walk_at "x2"; walk_at "x0"; walk_at "x3"; (with_reducible refine gos_next ?_); (with_reducible refine gos_ret ?_); (with_reducible refine go_lst ?_); (with_reducible refine goa_cons ?_); walk_at "x1"; (with_reducible refine goa_nil ?_); walk_at "x0"; walk_at "x12"; (focus skip); rotate_left; (with_reducible refine gos_sIR ?_); (with_reducible refine gos_if ?_); (with_reducible refine got_B ?_); walk_at "x1"; walk_at "x2"; walk_at "x0"; walk_at "x3"; (with_reducible refine gos_ret ?_); (with_reducible refine go_lst ?_); (with_reducible refine goa_cons ?_); walk_at "x1"; (with_reducible refine goa_nil ?_); walk_at "x0"; walk_at "x12"; (focus skip); rotate_left)
  all_goals rfl
theorem cal_Hold__stamps {zf : Addr} (D : DfM K "stamps" "Hold.stamps" s_Hold__stamps zf) {a_SkewError a_NoLevel a_Loose a_Kept a_Make a_Watch a_Hold : Addr} (XX : XF K mg a_SkewError a_NoLevel a_Loose a_Kept a_Make a_Watch a_Hold) (ME : Meth K a_Hold "stamps" zf) : CalM P w K mg base a_Hold "stamps" 1 ["self", "begin", "stands", "end", "early"] (C_Hold__stamps mg a_Hold) := by
  obtain ⟨fd, F⟩ := D
  refine ⟨zf, fd, ?_, ME, F.binds (ps := ["self", "begin", "stands", "end", "early"]) fun _ _ _ _ _ _ us hl => match us, hl with | [_, _, _, _, _], _ => rfl⟩
  refine F.ok sc_Hold__stamps (fun vs H Q E hS0 => spP_len (n := 5) (fun xs p q c0 => by unfold C_Hold__stamps at c0; obtain ⟨_, _, _, _, _, rfl, _⟩ := c0; rfl) hS0) (fun cdv A outer s H vs Q E hr hS0 => ?_)
  have hu := hu_of hr
  refine sp_body hS0 (fun B xs p q c0 hl0 wx => ?_)
  obtain ⟨Cv, b, e, xs, s, rfl, hp0, rfl, rfl⟩ := c0
  refine ⟨_, (pss_one (ps_ret (pe_lst (pa_cons (pv 3) pa_nil)))), ?_⟩
  clear hS0 hl0 hr hu wx
  have X_g_Loose := XX.g_Loose
  have X_R_Loose := XX.R_Loose
  have X_g_Kept := XX.g_Kept
  have X_R_Kept := XX.R_Kept
  have X_g_Make := XX.g_Make
  have X_R_Make := XX.R_Make
  have X_g_Watch := XX.g_Watch
  have X_R_Watch := XX.R_Watch
  have X_g_Hold := XX.g_Hold
  have X_R_Hold := XX.R_Hold
  have X_N_Loose := XX.N_Loose
  have X_ki_Loose_Hold := XX.ki_Loose_Hold
  have X_ki_Loose_Loose := XX.ki_Loose_Loose
  have X_ki_Loose_Kept := XX.ki_Loose_Kept
  have X_ki_Loose_Watch := XX.ki_Loose_Watch
  have X_ki_Loose_Make := XX.ki_Loose_Make
  have X_N_Kept := XX.N_Kept
  have X_ki_Kept_Hold := XX.ki_Kept_Hold
  have X_ki_Kept_Loose := XX.ki_Kept_Loose
  have X_ki_Kept_Kept := XX.ki_Kept_Kept
  have X_ki_Kept_Watch := XX.ki_Kept_Watch
  have X_ki_Kept_Make := XX.ki_Kept_Make
  have X_N_Make := XX.N_Make
  have X_ki_Make_Hold := XX.ki_Make_Hold
  have X_ki_Make_Loose := XX.ki_Make_Loose
  have X_ki_Make_Kept := XX.ki_Make_Kept
  have X_ki_Make_Watch := XX.ki_Make_Watch
  have X_ki_Make_Make := XX.ki_Make_Make
  have X_N_Watch := XX.N_Watch
  have X_ki_Watch_Hold := XX.ki_Watch_Hold
  have X_ki_Watch_Loose := XX.ki_Watch_Loose
  have X_ki_Watch_Kept := XX.ki_Watch_Kept
  have X_ki_Watch_Watch := XX.ki_Watch_Watch
  have X_ki_Watch_Make := XX.ki_Watch_Make
  have X_N_Hold := XX.N_Hold
  have X_ki_Hold_Hold := XX.ki_Hold_Hold
  have X_ki_Hold_Loose := XX.ki_Hold_Loose
  have X_ki_Hold_Kept := XX.ki_Hold_Kept
  have X_ki_Hold_Watch := XX.ki_Hold_Watch
  have X_ki_Hold_Make := XX.ki_Hold_Make
  simp only [List.map_cons, List.map_nil, List.length_cons, List.length_nil, List.cons_append, List.nil_append, Nat.reduceAdd, Nat.reduceSub, List.replicate_succ, List.replicate_zero, N_Hold__stamps]
  ((with_reducible refine gos_ret ?_); (with_reducible refine go_lst ?_); (with_reducible refine goa_cons ?_); walk_at "x1"; (with_reducible refine goa_nil ?_); walk_at "x0"; walk_at "x12"; (focus skip); rotate_left)
  all_goals rfl
theorem cal__law_stamps (D : Df K mg "_law_stamps" s__law_stamps) {a_SkewError a_NoLevel a_Loose a_Kept a_Make a_Watch a_Hold : Addr} (XX : XF K mg a_SkewError a_NoLevel a_Loose a_Kept a_Make a_Watch a_Hold) (c_Loose__stamps : CalM P w K mg base a_Loose "stamps" 1 ["self", "begin", "stands", "end", "early"] (C_Loose__stamps mg a_Loose)) (c_Kept__stamps : CalM P w K mg base a_Kept "stamps" 1 ["self", "begin", "stands", "end", "early"] (C_Kept__stamps mg a_Kept)) (c_Make__stamps : CalM P w K mg base a_Make "stamps" 1 ["self", "begin", "stands", "end", "early"] (C_Make__stamps mg a_Make)) (c_Watch__stamps : CalM P w K mg base a_Watch "stamps" 1 ["self", "begin", "stands", "end", "early"] (C_Watch__stamps mg a_Watch)) (c_Hold__stamps : CalM P w K mg base a_Hold "stamps" 1 ["self", "begin", "stands", "end", "early"] (C_Hold__stamps mg a_Hold)) (c__law_number : Cal P w K mg base "_law_number" 1 ["_law_found", "_law_due"] (C__law_number mg)) (b_isinstance : mg "isinstance" = none) (b_len : mg "len" = none) (b_list : mg "list" = none) (b_zip : mg "zip" = none) : Cal P w K mg base "_law_stamps" 2 ["_law_level", "_law_word", "_law_begin", "_law_stands", "_law_end", "_law_soon"] (C__law_stamps mg) := by
  obtain ⟨f, fd, F, mf⟩ := D
  obtain ⟨f_Loose__stamps, fd_Loose__stamps, G_Loose__stamps, k_Loose__stamps, bn_Loose__stamps⟩ := c_Loose__stamps
  obtain ⟨f_Kept__stamps, fd_Kept__stamps, G_Kept__stamps, k_Kept__stamps, bn_Kept__stamps⟩ := c_Kept__stamps
  obtain ⟨f_Make__stamps, fd_Make__stamps, G_Make__stamps, k_Make__stamps, bn_Make__stamps⟩ := c_Make__stamps
  obtain ⟨f_Watch__stamps, fd_Watch__stamps, G_Watch__stamps, k_Watch__stamps, bn_Watch__stamps⟩ := c_Watch__stamps
  obtain ⟨f_Hold__stamps, fd_Hold__stamps, G_Hold__stamps, k_Hold__stamps, bn_Hold__stamps⟩ := c_Hold__stamps
  obtain ⟨f__law_number, fd__law_number, G__law_number, g__law_number, k__law_number, bn__law_number, _⟩ := c__law_number
  refine ⟨f, fd, ?_, mf, F.kp, F.binds (ps := ["_law_level", "_law_word", "_law_begin", "_law_stands", "_law_end", "_law_soon"]) fun _ _ _ _ _ _ us hl => match us, hl with | [_, _, _, _, _, _], _ => rfl, Fun.lk F⟩
  refine F.ok sc__law_stamps (fun vs H Q E hS0 => spP_len (n := 6) (fun xs p q c0 => by unfold C__law_stamps at c0; obtain ⟨_, _, _, _, _, rfl, _⟩ := c0; rfl) hS0) (fun cdv A outer s H vs Q E hr hS0 => ?_)
  have hu := hu_of hr
  refine sp_body hS0 (fun B xs p q c0 hl0 wx => ?_)
  obtain ⟨l, b, e, xs, s, rfl, hp0, rfl, rfl⟩ := c0
  refine ⟨_, (pss_cons (ps_asg (pe_lst (pa_cons (pv 4) pa_nil)) (pg_name (i := 6) sc__law_stamps.nd rfl (by first | exact Or.inl rfl | exact Or.inr rfl)))
      (pss_cons (ps_if (pt_cmpR (k_eq (K := K) rfl hr.units) (pv 1) pe_str (nomark _))
        (pss_one (ps_asg (pe_op (k_add (K := K) rfl) (pv 3) (pe_lst (pa_cons (pv 4) pa_nil))) (pg_name (i := 6) sc__law_stamps.nd rfl (by first | exact Or.inl rfl | exact Or.inr rfl))))
        pss_nil)
      (pss_cons (ps_if (pt_cmpR (k_eq (K := K) rfl hr.units) (pv 1) pe_str (nomark _))
        (pss_one (ps_asg (pe_lst (pa_cons (pv 2) (pa_cons (pv 4) pa_nil))) (pg_name (i := 6) sc__law_stamps.nd rfl (by first | exact Or.inl rfl | exact Or.inr rfl))))
        pss_nil)
      (pss_cons (ps_if (PW.pt (pw_and (pt_cmpR (k_eq (K := K) rfl hr.units) (pv 1) pe_str (nomark _)) (pw_and1 (pt_val (pv 5)))))
        (pss_one (ps_asg (pe_lst (pa_cons (pv 2) pa_nil)) (pg_name (i := 6) sc__law_stamps.nd rfl (by first | exact Or.inl rfl | exact Or.inr rfl))))
        pss_nil)
      (pss_cons (ps_asg (pe_callTy (k_list (K := K) rfl rfl) (by rfl) b_list (by decide +kernel) (pa_cons (pv 3) pa_nil)) (pg_name (i := 7) sc__law_stamps.nd rfl (by first | exact Or.inl rfl | exact Or.inr rfl)))
      (pss_cons (ps_asg (k_methD (K := K) (tb := [(a_Loose, C_Loose__stamps mg a_Loose), (a_Kept, C_Kept__stamps mg a_Kept), (a_Make, C_Make__stamps mg a_Make), (a_Watch, C_Watch__stamps mg a_Watch), (a_Hold, C_Hold__stamps mg a_Hold)]) rfl (pe_methD (pv 0) (mt_cons ⟨_, _, XX.R_Loose.cls, k_Loose__stamps , G_Loose__stamps , hr, bn_Loose__stamps ⟩ (mt_cons ⟨_, _, XX.R_Kept.cls, k_Kept__stamps , G_Kept__stamps , hr, bn_Kept__stamps ⟩ (mt_cons ⟨_, _, XX.R_Make.cls, k_Make__stamps , G_Make__stamps , hr, bn_Make__stamps ⟩ (mt_cons ⟨_, _, XX.R_Watch.cls, k_Watch__stamps , G_Watch__stamps , hr, bn_Watch__stamps ⟩ (mt_cons ⟨_, _, XX.R_Hold.cls, k_Hold__stamps , G_Hold__stamps , hr, bn_Hold__stamps ⟩ mt_nil))))) pass0 (pa_cons (pv 2) (pa_cons (pv 7) (pa_cons (pv 4) (pa_cons (pv 5) pa_nil)))))) (pg_name (i := 8) sc__law_stamps.nd rfl (by first | exact Or.inl rfl | exact Or.inr rfl)))
      (pss_cons (ps_if (pt_lend (PW.pt (pw_or (pt_not (pt_val (pe_callB (k_isi (K := K) rfl) (by rfl) b_isinstance (by decide +kernel) (pa_cons (pv 8) (pa_cons (pe_bltn (v := .ty "list") (u := .type "list") (by rfl) b_list (by decide +kernel) rfl) pa_nil))))) (pw_or (pt_cmpR (k_ne (K := K) rfl hr.units) (pe_lend (pe_callB (k_len (K := K) rfl) (by rfl) b_len (by decide +kernel) (pa_cons (pv 8) pa_nil))) (pe_callB (k_len (K := K) rfl) (by rfl) b_len (by decide +kernel) (pa_cons (pv 6) pa_nil)) (nomark _)) (pw_or1 (pt_cmpR (k_ne (K := K) rfl hr.units) (pv 7) (pv 3) (nomark _)))))))
        (pss_one (ps_ret pe_bl))
        pss_nil)
      (pss_cons (ps_forO (ps_for PassesOwn.never rfl (k_zip (K := K) rfl (by rfl) b_zip (pa_cons (pv 8) (pa_cons (pv 6) pa_nil))) (k_tup (K := K) (n := 2) rfl (by rfl) (pgs_cons (pg_name (i := 9) sc__law_stamps.nd rfl (by first | exact Or.inl rfl | exact Or.inr rfl)) (pgs_cons (pg_name (i := 10) sc__law_stamps.nd rfl (by first | exact Or.inl rfl | exact Or.inr rfl)) pgs_nil)))
        (pss_one (ps_if (pt_not (pt_val (pe_call G__law_number hr rfl g__law_number k__law_number bn__law_number .nil pass0 (pa_cons (pv 9) (pa_cons (pv 10) pa_nil)))))
          (pss_one (ps_ret pe_bl))
          pss_nil))))
      (pss_cons (ps_expr (k_bm (K := K) rfl (pe_bm PySem.F.plainAttrs_list PySem.F.slot_list_append PySem.F.type_list_append mt_append (pv 8) (pa_cons pe_int pa_nil))))
      (pss_one (ps_ret (pe_cmpR (k_eq (K := K) rfl hr.units) (pv 7) (pv 3) (nomark _))))))))))))), ?_⟩
  clear hS0 hl0 hr hu wx G_Loose__stamps k_Loose__stamps bn_Loose__stamps G_Kept__stamps k_Kept__stamps bn_Kept__stamps G_Make__stamps k_Make__stamps bn_Make__stamps G_Watch__stamps k_Watch__stamps bn_Watch__stamps G_Hold__stamps k_Hold__stamps bn_Hold__stamps G__law_number g__law_number k__law_number bn__law_number b_isinstance b_len b_list b_zip
  have X_g_Loose := XX.g_Loose
  have X_R_Loose := XX.R_Loose
  have X_g_Kept := XX.g_Kept
  have X_R_Kept := XX.R_Kept
  have X_g_Make := XX.g_Make
  have X_R_Make := XX.R_Make
  have X_g_Watch := XX.g_Watch
  have X_R_Watch := XX.R_Watch
  have X_g_Hold := XX.g_Hold
  have X_R_Hold := XX.R_Hold
  have X_N_Loose := XX.N_Loose
  have X_ki_Loose_Hold := XX.ki_Loose_Hold
  have X_ki_Loose_Loose := XX.ki_Loose_Loose
  have X_ki_Loose_Kept := XX.ki_Loose_Kept
  have X_ki_Loose_Watch := XX.ki_Loose_Watch
  have X_ki_Loose_Make := XX.ki_Loose_Make
  have X_N_Kept := XX.N_Kept
  have X_ki_Kept_Hold := XX.ki_Kept_Hold
  have X_ki_Kept_Loose := XX.ki_Kept_Loose
  have X_ki_Kept_Kept := XX.ki_Kept_Kept
  have X_ki_Kept_Watch := XX.ki_Kept_Watch
  have X_ki_Kept_Make := XX.ki_Kept_Make
  have X_N_Make := XX.N_Make
  have X_ki_Make_Hold := XX.ki_Make_Hold
  have X_ki_Make_Loose := XX.ki_Make_Loose
  have X_ki_Make_Kept := XX.ki_Make_Kept
  have X_ki_Make_Watch := XX.ki_Make_Watch
  have X_ki_Make_Make := XX.ki_Make_Make
  have X_N_Watch := XX.N_Watch
  have X_ki_Watch_Hold := XX.ki_Watch_Hold
  have X_ki_Watch_Loose := XX.ki_Watch_Loose
  have X_ki_Watch_Kept := XX.ki_Watch_Kept
  have X_ki_Watch_Watch := XX.ki_Watch_Watch
  have X_ki_Watch_Make := XX.ki_Watch_Make
  have X_N_Hold := XX.N_Hold
  have X_ki_Hold_Hold := XX.ki_Hold_Hold
  have X_ki_Hold_Loose := XX.ki_Hold_Loose
  have X_ki_Hold_Kept := XX.ki_Hold_Kept
  have X_ki_Hold_Watch := XX.ki_Hold_Watch
  have X_ki_Hold_Make := XX.ki_Hold_Make
  simp only [List.map_cons, List.map_nil, List.length_cons, List.length_nil, List.cons_append, List.nil_append, Nat.reduceAdd, Nat.reduceSub, List.replicate_succ, List.replicate_zero, N__law_stamps]
  have c1 : Shp 1 (D.lst (xs.map D.int)) := Shp.lstM fun _ => Shp.int
  have hin : xs.length ≤ 1000 := by omega
  have hk : xs.map D.int ++ [D.int e] = (lvStamps .kept b xs e s).map D.int := by simp [lvStamps]
  have e0 : lvStamps .loose b xs e s = [e] := rfl
  cases l <;> cases s <;> simp only [lvW]
  all_goals ((repeat' (first | (with_reducible refine gos_sA ?_) | (with_reducible refine gos_asg ?_) | (with_reducible refine gos_if ?_) | (with_reducible refine gos_next ?_) | walk_at "x1" | (with_reducible refine go_str ?_) | (with_reducible refine go_op ?_) | (with_reducible refine go_cb ?_) | (with_reducible refine go_lst ?_) | (with_reducible refine goa_cons ?_) | (with_reducible refine goa_nil ?_) | (with_reducible refine got_test ?_) | (with_reducible refine got_B ?_) | (with_reducible refine got_and ?_) | walk_at "x10" | walk_at "x2" | (with_reducible refine o2_eqS ?_) | walk_at "x0" | walk_at "x3" | walk_at "x12" | (with_reducible refine gos_seq ?_) | fail)))
  all_goals (try (refine o2_addL (by simp; omega) ?_; rw [hk]; (walk_at "x10"; (with_reducible refine gos_seq ?_); (with_reducible refine gos_if ?_); (with_reducible refine got_test ?_); (with_reducible refine go_op ?_); walk_at "x1"; (with_reducible refine go_str ?_); walk_at "x0"; (with_reducible refine o2_eqS ?_); walk_at "x2"; walk_at "x3"; (with_reducible refine gos_next ?_); walk_at "x0"; (with_reducible refine gos_seq ?_); (with_reducible refine gos_if ?_); (with_reducible refine got_and ?_); (with_reducible refine got_test ?_); (with_reducible refine go_op ?_); walk_at "x1"; (with_reducible refine go_str ?_); walk_at "x0"; (with_reducible refine o2_eqS ?_); walk_at "x2"; walk_at "x3"; walk_at "x3"; (with_reducible refine gos_next ?_); (with_reducible refine gos_sA ?_); (with_reducible refine gos_asg ?_); (with_reducible refine go_cb ?_); (with_reducible refine goa_cons ?_); walk_at "x1"; (with_reducible refine goa_nil ?_); walk_at "x0"; (focus skip); rotate_left)))
  all_goals (refine oa_list (x := .lst (xs.map D.int)) rfl ?_)
  all_goals ((repeat' (first | (with_reducible refine gos_sA ?_) | (with_reducible refine gos_sIR ?_) | (with_reducible refine gos_asg ?_) | (with_reducible refine gos_if ?_) | walk_at "x1" | walk_at "x24" | (with_reducible refine go_ty ?_) | walk_at "x25" | walk_at "x26" | (with_reducible refine go_op ?_) | (with_reducible refine go_cb ?_) | (with_reducible refine goa_cons ?_) | (with_reducible refine goa_nil ?_) | (with_reducible refine got_test ?_) | (with_reducible refine got_B ?_) | (with_reducible refine got_or ?_) | (with_reducible refine got_not ?_) | walk_at "x10" | walk_at "x2" | (with_reducible refine o2_neI ?_) | walk_at "x8" | walk_at "x16" | walk_at "x0" | walk_at "x3" | walk_at "x27" | walk_at "x28" | walk_at "x12" | fail)))
  all_goals (try exact absurd rfl (by assumption))
  all_goals (refine o2_neSame 1 c1 (by decide) ?_)
  all_goals ((walk_at "x2"; walk_at "x0"; walk_at "x3"; (with_reducible refine gos_next ?_); walk_at "x0"; (with_reducible refine gos_seq ?_); walk_at "x0"; (focus skip); rotate_left))
  all_goals (refine gos_forOz rfl fun a => ?_)
  all_goals ((walk_at "x24"; walk_at "x2"; (focus skip); rotate_left))
  all_goals first
    | refine ⟨fun n Γ' => ∃ a9 a10, Γ' = [some (O.d (lvD mg .loose)), some (O.d (.str "loose")), some (O.d (.int b)), some (O.d (.lst (xs.map D.int))), some (O.d (.int e)), some (O.d (.bl false)), some (O.d (.lst ((lvStamps .loose b xs e false).map D.int))), some (O.d (.lst (xs.map D.int))), some (O.d (.ref a)), a9, a10], ⟨_, _, rfl⟩, ?_, ?_⟩
    | refine ⟨fun n Γ' => ∃ a9 a10, Γ' = [some (O.d (lvD mg .loose)), some (O.d (.str "loose")), some (O.d (.int b)), some (O.d (.lst (xs.map D.int))), some (O.d (.int e)), some (O.d (.bl true)), some (O.d (.lst ((lvStamps .loose b xs e true).map D.int))), some (O.d (.lst (xs.map D.int))), some (O.d (.ref a)), a9, a10], ⟨_, _, rfl⟩, ?_, ?_⟩
    | refine ⟨fun n Γ' => ∃ a9 a10, Γ' = [some (O.d (lvD mg .kept)), some (O.d (.str "kept")), some (O.d (.int b)), some (O.d (.lst (xs.map D.int))), some (O.d (.int e)), some (O.d (.bl false)), some (O.d (.lst ((lvStamps .kept b xs e false).map D.int))), some (O.d (.lst (xs.map D.int))), some (O.d (.ref a)), a9, a10], ⟨_, _, rfl⟩, ?_, ?_⟩
    | refine ⟨fun n Γ' => ∃ a9 a10, Γ' = [some (O.d (lvD mg .kept)), some (O.d (.str "kept")), some (O.d (.int b)), some (O.d (.lst (xs.map D.int))), some (O.d (.int e)), some (O.d (.bl true)), some (O.d (.lst ((lvStamps .kept b xs e true).map D.int))), some (O.d (.lst (xs.map D.int))), some (O.d (.ref a)), a9, a10], ⟨_, _, rfl⟩, ?_, ?_⟩
    | refine ⟨fun n Γ' => ∃ a9 a10, Γ' = [some (O.d (lvD mg .make)), some (O.d (.str "make")), some (O.d (.int b)), some (O.d (.lst (xs.map D.int))), some (O.d (.int e)), some (O.d (.bl false)), some (O.d (.lst ((lvStamps .make b xs e false).map D.int))), some (O.d (.lst (xs.map D.int))), some (O.d (.ref a)), a9, a10], ⟨_, _, rfl⟩, ?_, ?_⟩
    | refine ⟨fun n Γ' => ∃ a9 a10, Γ' = [some (O.d (lvD mg .make)), some (O.d (.str "make")), some (O.d (.int b)), some (O.d (.lst (xs.map D.int))), some (O.d (.int e)), some (O.d (.bl true)), some (O.d (.lst ((lvStamps .make b xs e true).map D.int))), some (O.d (.lst (xs.map D.int))), some (O.d (.ref a)), a9, a10], ⟨_, _, rfl⟩, ?_, ?_⟩
    | refine ⟨fun n Γ' => ∃ a9 a10, Γ' = [some (O.d (lvD mg .watch)), some (O.d (.str "watch")), some (O.d (.int b)), some (O.d (.lst (xs.map D.int))), some (O.d (.int e)), some (O.d (.bl false)), some (O.d (.lst ((lvStamps .watch b xs e false).map D.int))), some (O.d (.lst (xs.map D.int))), some (O.d (.ref a)), a9, a10], ⟨_, _, rfl⟩, ?_, ?_⟩
    | refine ⟨fun n Γ' => ∃ a9 a10, Γ' = [some (O.d (lvD mg .watch)), some (O.d (.str "watch")), some (O.d (.int b)), some (O.d (.lst (xs.map D.int))), some (O.d (.int e)), some (O.d (.bl true)), some (O.d (.lst ((lvStamps .watch b xs e true).map D.int))), some (O.d (.lst (xs.map D.int))), some (O.d (.ref a)), a9, a10], ⟨_, _, rfl⟩, ?_, ?_⟩
    | refine ⟨fun n Γ' => ∃ a9 a10, Γ' = [some (O.d (lvD mg .hold)), some (O.d (.str "hold")), some (O.d (.int b)), some (O.d (.lst (xs.map D.int))), some (O.d (.int e)), some (O.d (.bl false)), some (O.d (.lst ((lvStamps .hold b xs e false).map D.int))), some (O.d (.lst (xs.map D.int))), some (O.d (.ref a)), a9, a10], ⟨_, _, rfl⟩, ?_, ?_⟩
    | refine ⟨fun n Γ' => ∃ a9 a10, Γ' = [some (O.d (lvD mg .hold)), some (O.d (.str "hold")), some (O.d (.int b)), some (O.d (.lst (xs.map D.int))), some (O.d (.int e)), some (O.d (.bl true)), some (O.d (.lst ((lvStamps .hold b xs e true).map D.int))), some (O.d (.lst (xs.map D.int))), some (O.d (.ref a)), a9, a10], ⟨_, _, rfl⟩, ?_, ?_⟩
  all_goals first
    | (rintro n d _ hd ⟨a9, a10, rfl⟩
       obtain ⟨x, hx, rfl⟩ := zipD_same hd
       obtain ⟨i, _, rfl⟩ := List.mem_map.mp hx
       ((with_reducible refine gog_tup ?_); walk_at "x2"; walk_at "x0"; walk_at "x12"; walk_at "x29"; walk_at "x29"; (with_reducible refine gogs_nil ?_); (with_reducible refine gos_if ?_); (with_reducible refine got_not ?_); (with_reducible refine got_B ?_); (with_reducible refine call__law_number ?_); (with_reducible refine goa_cons ?_); walk_at "x1"; (with_reducible refine goa_cons ?_); walk_at "x1"; (with_reducible refine goa_nil ?_); walk_at "x0"; (focus skip); rotate_left)
       refine ⟨some i, some i, rfl, ?_⟩
       (walk_at "x2"; walk_at "x0"; walk_at "x3"; (with_reducible refine gos_next ?_); walk_at "x0"; (focus skip); rotate_left)
       all_goals (first | exact ⟨_, _, rfl⟩ | exact absurd rfl (by assumption) | trace_state))
    | (rintro _ ⟨a9, a10, rfl⟩
       refine ⟨rfl, ?_⟩
       dsimp only [List.set]
       (repeat' (first | (with_reducible refine gos_sD ?_) | (with_reducible refine gos_ret ?_) | walk_at "x30" | walk_at "x1" | (with_reducible refine go_int ?_) | (with_reducible refine go_op ?_) | walk_at "x2" | walk_at "x0" | walk_at "x12" | fail))
       all_goals first
         | exact o2_eqSame 1 c1 (by decide) rfl
         | (refine ⟨by simp [lvStamps]; omega, ?_⟩; dsimp only [List.set]; ((with_reducible refine gos_ret ?_); (with_reducible refine go_op ?_); walk_at "x1"; walk_at "x1"; walk_at "x0"; (focus skip); rotate_left); exact o2_eqSame 1 c1 (by decide) rfl)
         | trace_state)
theorem cal_law (D : Df K mg "law" s_law) {a_SkewError a_NoLevel a_Loose a_Kept a_Make a_Watch a_Hold : Addr} (XX : XF K mg a_SkewError a_NoLevel a_Loose a_Kept a_Make a_Watch a_Hold) (c_Loose__word : CalM P w K mg base a_Loose "word" 1 ["self"] (C_Loose__word mg a_Loose)) (c_Kept__word : CalM P w K mg base a_Kept "word" 1 ["self"] (C_Kept__word mg a_Kept)) (c_Make__word : CalM P w K mg base a_Make "word" 1 ["self"] (C_Make__word mg a_Make)) (c_Watch__word : CalM P w K mg base a_Watch "word" 1 ["self"] (C_Watch__word mg a_Watch)) (c_Hold__word : CalM P w K mg base a_Hold "word" 1 ["self"] (C_Hold__word mg a_Hold)) (c_Loose__stand : CalM P w K mg base a_Loose "stand" 1 ["self", "begin", "now"] (C_Loose__stand mg a_Loose)) (c_Kept__stand : CalM P w K mg base a_Kept "stand" 1 ["self", "begin", "now"] (C_Kept__stand mg a_Kept)) (c_Make__stand : CalM P w K mg base a_Make "stand" 1 ["self", "begin", "now"] (C_Make__stand mg a_Make)) (c_Watch__stand : CalM P w K mg base a_Watch "stand" 1 ["self", "begin", "now"] (C_Watch__stand mg a_Watch)) (c_Hold__stand : CalM P w K mg base a_Hold "stand" 1 ["self", "begin", "now"] (C_Hold__stand mg a_Hold)) (c__law_refused : Cal P w K mg base "_law_refused" 2 ["_law_word"] (C__law_refused mg)) (c__law_cell : Cal P w K mg base "_law_cell" 1 ["_law_script", "_law_k"] (C__law_cell mg)) (c__law_mix : Cal P w K mg base "_law_mix" 1 ["_law_cell_here", "_law_k"] (C__law_mix mg)) (c_level_of : CalX P w K mg base "level_of" 1 ["word"] (C_level_of mg)) (c__law_no_word : Cal P w K mg base "_law_no_word" 1 ["_law_cell_here"] (C__law_no_word mg)) (c__law_spots : Cal P w K mg base "_law_spots" 2 ["_law_level", "_law_word", "_law_looks", "_law_place"] (C__law_spots mg)) (c__law_kin : Cal P w K mg base "_law_kin" 1 ["_law_level"] (C__law_kin mg)) (c__law_number : Cal P w K mg base "_law_number" 1 ["_law_found", "_law_due"] (C__law_number mg)) (c__law_truths : Cal P w K mg base "_law_truths" 2 ["_law_level", "_law_word", "_law_begin", "_law_stamp"] (C__law_truths mg)) (c__law_stamps : Cal P w K mg base "_law_stamps" 2 ["_law_level", "_law_word", "_law_begin", "_law_stands", "_law_end", "_law_soon"] (C__law_stamps mg)) (b_isinstance : mg "isinstance" = none) (b_max : mg "max" = none) (b_range : mg "range" = none) (b_str : mg "str" = none) : Cal P w K mg base "law" 3 ["_law_script"] C_law := by
  obtain ⟨f, fd, F, mf⟩ := D
  obtain ⟨f_Loose__word, fd_Loose__word, G_Loose__word, k_Loose__word, bn_Loose__word⟩ := c_Loose__word
  obtain ⟨f_Kept__word, fd_Kept__word, G_Kept__word, k_Kept__word, bn_Kept__word⟩ := c_Kept__word
  obtain ⟨f_Make__word, fd_Make__word, G_Make__word, k_Make__word, bn_Make__word⟩ := c_Make__word
  obtain ⟨f_Watch__word, fd_Watch__word, G_Watch__word, k_Watch__word, bn_Watch__word⟩ := c_Watch__word
  obtain ⟨f_Hold__word, fd_Hold__word, G_Hold__word, k_Hold__word, bn_Hold__word⟩ := c_Hold__word
  obtain ⟨f_Loose__stand, fd_Loose__stand, G_Loose__stand, k_Loose__stand, bn_Loose__stand⟩ := c_Loose__stand
  obtain ⟨f_Kept__stand, fd_Kept__stand, G_Kept__stand, k_Kept__stand, bn_Kept__stand⟩ := c_Kept__stand
  obtain ⟨f_Make__stand, fd_Make__stand, G_Make__stand, k_Make__stand, bn_Make__stand⟩ := c_Make__stand
  obtain ⟨f_Watch__stand, fd_Watch__stand, G_Watch__stand, k_Watch__stand, bn_Watch__stand⟩ := c_Watch__stand
  obtain ⟨f_Hold__stand, fd_Hold__stand, G_Hold__stand, k_Hold__stand, bn_Hold__stand⟩ := c_Hold__stand
  obtain ⟨f__law_refused, fd__law_refused, G__law_refused, g__law_refused, k__law_refused, bn__law_refused, _⟩ := c__law_refused
  obtain ⟨f__law_cell, fd__law_cell, G__law_cell, g__law_cell, k__law_cell, bn__law_cell, _⟩ := c__law_cell
  obtain ⟨f__law_mix, fd__law_mix, G__law_mix, g__law_mix, k__law_mix, bn__law_mix, _⟩ := c__law_mix
  obtain ⟨f_level_of, fd_level_of, G_level_of, g_level_of, k_level_of, bn_level_of, _⟩ := c_level_of
  obtain ⟨f__law_no_word, fd__law_no_word, G__law_no_word, g__law_no_word, k__law_no_word, bn__law_no_word, _⟩ := c__law_no_word
  obtain ⟨f__law_spots, fd__law_spots, G__law_spots, g__law_spots, k__law_spots, bn__law_spots, _⟩ := c__law_spots
  obtain ⟨f__law_kin, fd__law_kin, G__law_kin, g__law_kin, k__law_kin, bn__law_kin, _⟩ := c__law_kin
  obtain ⟨f__law_number, fd__law_number, G__law_number, g__law_number, k__law_number, bn__law_number, _⟩ := c__law_number
  obtain ⟨f__law_truths, fd__law_truths, G__law_truths, g__law_truths, k__law_truths, bn__law_truths, _⟩ := c__law_truths
  obtain ⟨f__law_stamps, fd__law_stamps, G__law_stamps, g__law_stamps, k__law_stamps, bn__law_stamps, _⟩ := c__law_stamps
  refine ⟨f, fd, ?_, mf, F.kp, F.binds (ps := ["_law_script"]) fun _ _ _ _ _ _ us hl => match us, hl with | [_], _ => rfl, Fun.lk F⟩
  refine F.ok sc_law (fun vs H Q E hS0 => spP_len (n := 1) (fun xs p q c0 => by obtain ⟨ns, rfl, _⟩ := c0; rfl) hS0) (fun cdv A outer s H vs Q E hr hS0 => ?_)
  have hu := hu_of hr
  refine sp_body hS0 (fun B xs p q c0 hl0 wx => ?_)
  obtain ⟨ns, rfl, hlen, hbits, rfl, rfl⟩ := c0
  refine ⟨_, (pss_cons (ps_asg (pe_op op_modG (pe_call G__law_cell (hr.mono (by decide)) rfl g__law_cell k__law_cell bn__law_cell .nil pass0 (pa_cons (pv 0) (pa_cons pe_int pa_nil))) (pe_op op_subG (pe_op op_powG pe_int pe_int) pe_int)) (pg_name (i := 1) sc_law.nd rfl (by first | exact Or.inl rfl | exact Or.inr rfl)))
      (pss_cons (ps_asg (pe_op op_modG (pe_call G__law_cell (hr.mono (by decide)) rfl g__law_cell k__law_cell bn__law_cell .nil pass0 (pa_cons (pv 0) (pa_cons pe_int pa_nil))) (pe_op op_powG pe_int pe_int)) (pg_name (i := 2) sc_law.nd rfl (by first | exact Or.inl rfl | exact Or.inr rfl)))
      (pss_cons (ps_asg (pe_op op_modG (pe_call G__law_cell (hr.mono (by decide)) rfl g__law_cell k__law_cell bn__law_cell .nil pass0 (pa_cons (pv 0) (pa_cons pe_int pa_nil))) (pe_op op_powG pe_int pe_int)) (pg_name (i := 3) sc_law.nd rfl (by first | exact Or.inl rfl | exact Or.inr rfl)))
      (pss_cons (ps_if (pt_cmpR op_gtG (pe_op op_modG (pe_call G__law_cell (hr.mono (by decide)) rfl g__law_cell k__law_cell bn__law_cell .nil pass0 (pa_cons (pv 0) (pa_cons pe_int pa_nil))) pe_int) pe_int (nomark _))
        (pss_one (ps_asg (pe_op op_subG (pe_op (k_add (K := K) rfl) (pv 1) (pe_op op_modG (pe_call G__law_cell (hr.mono (by decide)) rfl g__law_cell k__law_cell bn__law_cell .nil pass0 (pa_cons (pv 0) (pa_cons pe_int pa_nil))) pe_int)) pe_int) (pg_name (i := 3) sc_law.nd rfl (by first | exact Or.inl rfl | exact Or.inr rfl))))
        pss_nil)
      (pss_cons (ps_asg (pe_op op_modG (pe_call G__law_cell (hr.mono (by decide)) rfl g__law_cell k__law_cell bn__law_cell .nil pass0 (pa_cons (pv 0) (pa_cons pe_int pa_nil))) pe_int) (pg_name (i := 4) sc_law.nd rfl (by first | exact Or.inl rfl | exact Or.inr rfl)))
      (pss_cons (ps_asg (pe_op op_modG (pe_call G__law_cell (hr.mono (by decide)) rfl g__law_cell k__law_cell bn__law_cell .nil pass0 (pa_cons (pv 0) (pa_cons pe_int pa_nil))) (pe_callB (call_max2G rfl) (by rfl) b_max (by decide +kernel) (pa_cons pe_int (pa_cons (pv 4) pa_nil)))) (pg_name (i := 5) sc_law.nd rfl (by first | exact Or.inl rfl | exact Or.inr rfl)))
      (pss_cons (ps_setLc (i := 6) (own := [("_law_k", 14)]) rfl sc_law.nd rfl rfl (sw_true rfl rfl rfl (by decide +kernel)) (pi_range1 (by rfl) b_range (pa_cons (pv 4) pa_nil)) (blkOk_by (N := N_law) (sc := defScope s_law) (by decide +kernel)) (fun _ _ _ _ _ => (pg_name (i := 14) sc_law.nd rfl (by first | exact Or.inl rfl | exact Or.inr rfl))) (fun _ _ _ _ _ => pts_nil) (fun _ _ _ _ _ => (pe_call G__law_mix (hr.mono (by decide)) rfl g__law_mix k__law_mix bn__law_mix .nil pass0 (pa_cons (pe_call G__law_cell (hr.mono (by decide)) rfl g__law_cell k__law_cell bn__law_cell .nil pass0 (pa_cons (pv 0) (pa_cons pe_int pa_nil))) (pa_cons (pv 14) pa_nil)))))
      (pss_cons (ps_asg (pe_lst (pa_cons (pe_tup (pa_cons pe_str (pa_cons (pe_lst (pa_cons pe_bl (pa_cons pe_bl (pa_cons pe_bl (pa_cons pe_bl (pa_cons pe_bl pa_nil)))))) pa_nil))) (pa_cons (pe_tup (pa_cons pe_str (pa_cons (pe_lst (pa_cons pe_bl (pa_cons pe_bl (pa_cons pe_bl (pa_cons pe_bl (pa_cons pe_bl pa_nil)))))) pa_nil))) (pa_cons (pe_tup (pa_cons pe_str (pa_cons (pe_lst (pa_cons pe_bl (pa_cons pe_bl (pa_cons pe_bl (pa_cons pe_bl (pa_cons pe_bl pa_nil)))))) pa_nil))) (pa_cons (pe_tup (pa_cons pe_str (pa_cons (pe_lst (pa_cons pe_bl (pa_cons pe_bl (pa_cons pe_bl (pa_cons pe_bl (pa_cons pe_bl pa_nil)))))) pa_nil))) (pa_cons (pe_tup (pa_cons pe_str (pa_cons (pe_lst (pa_cons pe_bl (pa_cons pe_bl (pa_cons pe_bl (pa_cons pe_bl (pa_cons pe_bl pa_nil)))))) pa_nil))) pa_nil)))))) (pg_name (i := 7) sc_law.nd rfl (by first | exact Or.inl rfl | exact Or.inr rfl)))
      (pss_cons (ps_frz (i := 6) (ps_for PassesOwn.never rfl (k_seq (K := K) rfl (pv 7)) (k_tup (K := K) (n := 2) rfl (by rfl) (pgs_cons (pg_name (i := 8) sc_law.nd rfl (by first | exact Or.inl rfl | exact Or.inr rfl)) (pgs_cons (pg_name (i := 9) sc_law.nd rfl (by first | exact Or.inl rfl | exact Or.inr rfl)) pgs_nil)))
        (pss_cons (ps_asg (pe_callS G_level_of (hr.mono (by decide)) rfl g_level_of k_level_of bn_level_of (fun σ => L2.passAt takes0 σ) (pa_cons (pv 8) pa_nil)) (pg_name (i := 10) sc_law.nd rfl (by first | exact Or.inl rfl | exact Or.inr rfl)))
        (pss_cons (ps_asg (k_methD (K := K) (tb := [(a_Loose, C_Loose__word mg a_Loose), (a_Kept, C_Kept__word mg a_Kept), (a_Make, C_Make__word mg a_Make), (a_Watch, C_Watch__word mg a_Watch), (a_Hold, C_Hold__word mg a_Hold)]) rfl (pe_methD0 (pv 10) (mt_cons ⟨_, _, XX.R_Loose.cls, k_Loose__word , G_Loose__word , (hr.mono (by decide)), bn_Loose__word ⟩ (mt_cons ⟨_, _, XX.R_Kept.cls, k_Kept__word , G_Kept__word , (hr.mono (by decide)), bn_Kept__word ⟩ (mt_cons ⟨_, _, XX.R_Make.cls, k_Make__word , G_Make__word , (hr.mono (by decide)), bn_Make__word ⟩ (mt_cons ⟨_, _, XX.R_Watch.cls, k_Watch__word , G_Watch__word , (hr.mono (by decide)), bn_Watch__word ⟩ (mt_cons ⟨_, _, XX.R_Hold.cls, k_Hold__word , G_Hold__word , (hr.mono (by decide)), bn_Hold__word ⟩ mt_nil))))) pass0)) (pg_name (i := 11) sc_law.nd rfl (by first | exact Or.inl rfl | exact Or.inr rfl)))
        (pss_cons (ps_if (PW.pt (pw_or (pt_not (pt_val (pe_callB (k_isi (K := K) rfl) (by rfl) b_isinstance (by decide +kernel) (pa_cons (pv 11) (pa_cons (pe_bltn (v := .ty "str") (u := .type "str") (by rfl) b_str (by decide +kernel) rfl) pa_nil))))) (pw_or (pt_cmpR (k_ne (K := K) rfl hr.units) (pv 11) (pv 8) (nomark _)) (pw_or1 (pt_cmpR (k_ne (K := K) rfl hr.units) (pe_call G__law_kin (hr.mono (by decide)) rfl g__law_kin k__law_kin bn__law_kin .nil pass0 (pa_cons (pv 10) pa_nil)) (pv 9) (nomark _))))))
          (pss_one (ps_ret pe_bl))
          pss_nil)
        (pss_cons (ps_asg (pv 2) (pg_name (i := 12) sc_law.nd rfl (by first | exact Or.inl rfl | exact Or.inr rfl)))
        (pss_cons (ps_if (pt_cmpR (k_in (K := K) rfl hu) (pv 8) (pe_tup (pa_cons pe_str (pa_cons pe_str pa_nil))) (by rfl))
          (pss_one (ps_asg (pv 1) (pg_name (i := 12) sc_law.nd rfl (by first | exact Or.inl rfl | exact Or.inr rfl))))
          pss_nil)
        (pss_cons (ps_if (PW.pt (pw_or (pt_not (pt_val (pe_call G__law_number (hr.mono (by decide)) rfl g__law_number k__law_number bn__law_number .nil pass0 (pa_cons (k_methD (K := K) (tb := [(a_Loose, C_Loose__stand mg a_Loose), (a_Kept, C_Kept__stand mg a_Kept), (a_Make, C_Make__stand mg a_Make), (a_Watch, C_Watch__stand mg a_Watch), (a_Hold, C_Hold__stand mg a_Hold)]) rfl (pe_methD (pv 10) (mt_cons ⟨_, _, XX.R_Loose.cls, k_Loose__stand , G_Loose__stand , (hr.mono (by decide)), bn_Loose__stand ⟩ (mt_cons ⟨_, _, XX.R_Kept.cls, k_Kept__stand , G_Kept__stand , (hr.mono (by decide)), bn_Kept__stand ⟩ (mt_cons ⟨_, _, XX.R_Make.cls, k_Make__stand , G_Make__stand , (hr.mono (by decide)), bn_Make__stand ⟩ (mt_cons ⟨_, _, XX.R_Watch.cls, k_Watch__stand , G_Watch__stand , (hr.mono (by decide)), bn_Watch__stand ⟩ (mt_cons ⟨_, _, XX.R_Hold.cls, k_Hold__stand , G_Hold__stand , (hr.mono (by decide)), bn_Hold__stand ⟩ mt_nil))))) pass0 (pa_cons (pv 1) (pa_cons (pv 2) pa_nil)))) (pa_cons (pv 12) pa_nil))))) (pw_or1 (pt_not (pt_val (pe_call G__law_truths hr rfl g__law_truths k__law_truths bn__law_truths .nil pass0 (pa_cons (pv 10) (pa_cons (pv 8) (pa_cons (pv 1) (pa_cons (pv 3) pa_nil))))))))))
          (pss_one (ps_ret pe_bl))
          pss_nil)
        (pss_cons (ps_if (pt_not (pt_val (pe_call G__law_spots hr rfl g__law_spots k__law_spots bn__law_spots .nil pass0 (pa_cons (pv 10) (pa_cons (pv 8) (pa_cons (pv 4) (pa_cons (pv 5) pa_nil)))))))
          (pss_one (ps_ret pe_bl))
          pss_nil)
        (pss_one (ps_for PassesOwn.never rfl (k_seq (K := K) rfl (pe_lst (pa_cons pe_bl (pa_cons pe_bl pa_nil)))) (pg_name (i := 13) sc_law.nd rfl (by first | exact Or.inl rfl | exact Or.inr rfl))
          (pss_one (ps_if (pt_not (pt_val (pe_call G__law_stamps hr rfl g__law_stamps k__law_stamps bn__law_stamps .nil pass0 (pa_cons (pv 10) (pa_cons (pv 8) (pa_cons (pv 1) (pa_cons (pv 6) (pa_cons (pv 2) (pa_cons (pv 13) pa_nil)))))))))
            (pss_one (ps_ret pe_bl))
            pss_nil)))))))))))))
      (pss_one (ps_ret (pe_call G__law_refused hr rfl g__law_refused k__law_refused bn__law_refused .nil pass0 (pa_cons (pe_call G__law_no_word (hr.mono (by decide)) rfl g__law_no_word k__law_no_word bn__law_no_word .nil pass0 (pa_cons (pe_call G__law_cell (hr.mono (by decide)) rfl g__law_cell k__law_cell bn__law_cell .nil pass0 (pa_cons (pv 0) (pa_cons pe_int pa_nil))) pa_nil)) pa_nil))))))))))))), ?_⟩
  clear hS0 hl0 hr hu wx G_Loose__word k_Loose__word bn_Loose__word G_Kept__word k_Kept__word bn_Kept__word G_Make__word k_Make__word bn_Make__word G_Watch__word k_Watch__word bn_Watch__word G_Hold__word k_Hold__word bn_Hold__word G_Loose__stand k_Loose__stand bn_Loose__stand G_Kept__stand k_Kept__stand bn_Kept__stand G_Make__stand k_Make__stand bn_Make__stand G_Watch__stand k_Watch__stand bn_Watch__stand G_Hold__stand k_Hold__stand bn_Hold__stand G__law_refused g__law_refused k__law_refused bn__law_refused G__law_cell g__law_cell k__law_cell bn__law_cell G__law_mix g__law_mix k__law_mix bn__law_mix G_level_of g_level_of k_level_of bn_level_of G__law_no_word g__law_no_word k__law_no_word bn__law_no_word G__law_spots g__law_spots k__law_spots bn__law_spots G__law_kin g__law_kin k__law_kin bn__law_kin G__law_number g__law_number k__law_number bn__law_number G__law_truths g__law_truths k__law_truths bn__law_truths G__law_stamps g__law_stamps k__law_stamps bn__law_stamps b_isinstance b_max b_range b_str
  have X_g_Loose := XX.g_Loose
  have X_R_Loose := XX.R_Loose
  have X_g_Kept := XX.g_Kept
  have X_R_Kept := XX.R_Kept
  have X_g_Make := XX.g_Make
  have X_R_Make := XX.R_Make
  have X_g_Watch := XX.g_Watch
  have X_R_Watch := XX.R_Watch
  have X_g_Hold := XX.g_Hold
  have X_R_Hold := XX.R_Hold
  have X_N_Loose := XX.N_Loose
  have X_ki_Loose_Hold := XX.ki_Loose_Hold
  have X_ki_Loose_Loose := XX.ki_Loose_Loose
  have X_ki_Loose_Kept := XX.ki_Loose_Kept
  have X_ki_Loose_Watch := XX.ki_Loose_Watch
  have X_ki_Loose_Make := XX.ki_Loose_Make
  have X_N_Kept := XX.N_Kept
  have X_ki_Kept_Hold := XX.ki_Kept_Hold
  have X_ki_Kept_Loose := XX.ki_Kept_Loose
  have X_ki_Kept_Kept := XX.ki_Kept_Kept
  have X_ki_Kept_Watch := XX.ki_Kept_Watch
  have X_ki_Kept_Make := XX.ki_Kept_Make
  have X_N_Make := XX.N_Make
  have X_ki_Make_Hold := XX.ki_Make_Hold
  have X_ki_Make_Loose := XX.ki_Make_Loose
  have X_ki_Make_Kept := XX.ki_Make_Kept
  have X_ki_Make_Watch := XX.ki_Make_Watch
  have X_ki_Make_Make := XX.ki_Make_Make
  have X_N_Watch := XX.N_Watch
  have X_ki_Watch_Hold := XX.ki_Watch_Hold
  have X_ki_Watch_Loose := XX.ki_Watch_Loose
  have X_ki_Watch_Kept := XX.ki_Watch_Kept
  have X_ki_Watch_Watch := XX.ki_Watch_Watch
  have X_ki_Watch_Make := XX.ki_Watch_Make
  have X_N_Hold := XX.N_Hold
  have X_ki_Hold_Hold := XX.ki_Hold_Hold
  have X_ki_Hold_Loose := XX.ki_Hold_Loose
  have X_ki_Hold_Kept := XX.ki_Hold_Kept
  have X_ki_Hold_Watch := XX.ki_Hold_Watch
  have X_ki_Hold_Make := XX.ki_Hold_Make
  simp only [List.map_cons, List.map_nil, List.length_cons, List.length_nil, List.cons_append, List.nil_append, Nat.reduceAdd, Nat.reduceSub, List.replicate_succ, List.replicate_zero, N_law]
  walk_at "ski"
  all_goals (refine go_lcI ?_; walk_at "ski")
  all_goals
    refine ⟨by simp [rngD]; omega, fun j hj => by (simp at hj; subst hj; rfl), fun n acc => ∃ ys : List Int, acc = (ys.map D.int).map O.d ∧ ys.length = n, ⟨[], rfl, rfl⟩, fun n acc ⟨ys, e1, e2⟩ => by simp [e1, e2], ?_, ?_⟩
  all_goals first
    | (rintro n d acc hd ⟨ys, rfl, hy⟩; obtain ⟨hn, rfl⟩ := rngD_get hd; walk_at "ski"; rename_i x0; exact ⟨⟨ys ++ [x0], by simp, by simp [hy]⟩, rfl⟩)
    | (rintro acc ⟨ys, rfl, hy⟩
       have hy2 : ys.length ≤ 41 := by rw [hy]; simp [rngD]; omega
       have hy3 : ((ys.length : Nat) : Int) ≤ 41 := by omega
       have hy4 : ys.length ≤ 100 := by omega
       walk_at "ski"
       refine ⟨_, .seq rfl, fun n Γ' => ∃ a8 a9 a10 a11 a12 a13, Γ' = [_, _, _, _, _, _, some (O.d (.lst (ys.map D.int))), some (O.d (.lst (lvAll.map rowK))), a8, a9, a10, a11, a12, a13, none], ⟨_, _, _, _, _, _, rfl⟩, ?_, ?_⟩
       · rintro n d _ hd ⟨a8, a9, a10, a11, a12, a13, rfl⟩
         obtain ⟨l, hl, rfl⟩ := mapD_get (xs := lvAll) (e := rowK) hd
         simp only [rowK]
         walk_at "ski"
         refine ⟨fun l' hl' => ?_, fun Cc fs ⟨_, _, h3⟩ => by rw [lvOf_W] at h3; cases h3⟩
         obtain rfl : l = l' := by rw [lvOf_W] at hl'; exact Option.some.inj hl'
         walk_at "wki"
         refine o2_neSame 1 (shp_kin l) (by decide) ?_
         walk_at "wki"
         refine o2_in rfl rfl rfl ?_
         rw [mw_at]
         walk_at "wki"
         all_goals first
           | exact absurd (congrArg some (mw_y (by assumption))) (by assumption)
           | exact absurd (congrArg some (mw_n (by assumption))) (by assumption)
           | (refine ⟨_, .seq rfl, fun m Γ' => ∃ a13, Γ' = [_, _, _, _, _, _, _, _, _, _, _, _, _, a13, none], ⟨_, rfl⟩, ?_, ?_⟩
              · rintro m d _ hd ⟨a13, rfl⟩
                have hd2 : d = .bl false ∨ d = .bl true := by have := List.mem_of_getElem? hd; simpa using this
                rcases hd2 with rfl | rfl
                all_goals (walk_at "wki")
                all_goals (first | exact ⟨_, rfl⟩ | exact absurd rfl (by assumption) | trace_state)
              · rintro _ ⟨a13, rfl⟩
                exact ⟨_, _, _, _, _, _, rfl⟩)
           | trace_state
       · rintro _ ⟨a8, a9, a10, a11, a12, a13, rfl⟩
         walk_at "ski"
         all_goals (first | rfl | trace_state))
end
theorem all_mk {P : Program} {w : World} {K : PySem.W.Frag} {h : Heap} {mg : Str → Option Value} {fa : Addr} (X : K.In h) (G : h.Ns mainGlobals mg) (hfa : mg "law" = some (.ref fa))
    {f0 : Addr} {oc0 kV0 dc0 pm0 cd0 ct0 : Value} {od0 an0 : Option Addr} {sl0 : Array (Option Value)}
    {f1 : Addr} {oc1 kV1 dc1 pm1 cd1 ct1 : Value} {od1 an1 : Option Addr} {sl1 : Array (Option Value)}
    {f2 : Addr} {oc2 kV2 dc2 pm2 cd2 ct2 : Value} {od2 an2 : Option Addr} {sl2 : Array (Option Value)}
    {f3 : Addr} {oc3 kV3 dc3 pm3 cd3 ct3 : Value} {od3 an3 : Option Addr} {sl3 : Array (Option Value)}
    {f4 : Addr} {oc4 kV4 dc4 pm4 cd4 ct4 : Value} {od4 an4 : Option Addr} {sl4 : Array (Option Value)}
    {f5 : Addr} {oc5 kV5 dc5 pm5 cd5 ct5 : Value} {od5 an5 : Option Addr} {sl5 : Array (Option Value)}
    {f6 : Addr} {oc6 kV6 dc6 pm6 cd6 ct6 : Value} {od6 an6 : Option Addr} {sl6 : Array (Option Value)}
    {f7 : Addr} {oc7 kV7 dc7 pm7 cd7 ct7 : Value} {od7 an7 : Option Addr} {sl7 : Array (Option Value)}
    {f8 : Addr} {oc8 kV8 dc8 pm8 cd8 ct8 : Value} {od8 an8 : Option Addr} {sl8 : Array (Option Value)}
    {f9 : Addr} {oc9 kV9 dc9 pm9 cd9 ct9 : Value} {od9 an9 : Option Addr} {sl9 : Array (Option Value)}
    {f10 : Addr} {oc10 kV10 dc10 pm10 cd10 ct10 : Value} {od10 an10 : Option Addr} {sl10 : Array (Option Value)}
    {f11 : Addr} {oc11 kV11 dc11 pm11 cd11 ct11 : Value} {od11 an11 : Option Addr} {sl11 : Array (Option Value)}
    {f12 : Addr} {oc12 kV12 dc12 pm12 cd12 ct12 : Value} {od12 an12 : Option Addr} {sl12 : Array (Option Value)}
    {f13 : Addr} {oc13 kV13 dc13 pm13 cd13 ct13 : Value} {od13 an13 : Option Addr} {sl13 : Array (Option Value)}
    {f14 : Addr} {oc14 kV14 dc14 pm14 cd14 ct14 : Value} {od14 an14 : Option Addr} {sl14 : Array (Option Value)}
    {f15 : Addr} {oc15 kV15 dc15 pm15 cd15 ct15 : Value} {od15 an15 : Option Addr} {sl15 : Array (Option Value)}
    {f16 : Addr} {oc16 kV16 dc16 pm16 cd16 ct16 : Value} {od16 an16 : Option Addr} {sl16 : Array (Option Value)}
    {f17 : Addr} {oc17 kV17 dc17 pm17 cd17 ct17 : Value} {od17 an17 : Option Addr} {sl17 : Array (Option Value)}
    {f18 : Addr} {oc18 kV18 dc18 pm18 cd18 ct18 : Value} {od18 an18 : Option Addr} {sl18 : Array (Option Value)}
    {f19 : Addr} {oc19 kV19 dc19 pm19 cd19 ct19 : Value} {od19 an19 : Option Addr} {sl19 : Array (Option Value)}
    {f20 : Addr} {oc20 kV20 dc20 pm20 cd20 ct20 : Value} {od20 an20 : Option Addr} {sl20 : Array (Option Value)}
    {f21 : Addr} {oc21 kV21 dc21 pm21 cd21 ct21 : Value} {od21 an21 : Option Addr} {sl21 : Array (Option Value)}
    {f22 : Addr} {oc22 kV22 dc22 pm22 cd22 ct22 : Value} {od22 an22 : Option Addr} {sl22 : Array (Option Value)}
    {f23 : Addr} {oc23 kV23 dc23 pm23 cd23 ct23 : Value} {od23 an23 : Option Addr} {sl23 : Array (Option Value)}
    {f24 : Addr} {oc24 kV24 dc24 pm24 cd24 ct24 : Value} {od24 an24 : Option Addr} {sl24 : Array (Option Value)}
    {f25 : Addr} {oc25 kV25 dc25 pm25 cd25 ct25 : Value} {od25 an25 : Option Addr} {sl25 : Array (Option Value)}
    {f26 : Addr} {oc26 kV26 dc26 pm26 cd26 ct26 : Value} {od26 an26 : Option Addr} {sl26 : Array (Option Value)}
    {f27 : Addr} {oc27 kV27 dc27 pm27 cd27 ct27 : Value} {od27 an27 : Option Addr} {sl27 : Array (Option Value)}
    {f28 : Addr} {oc28 kV28 dc28 pm28 cd28 ct28 : Value} {od28 an28 : Option Addr} {sl28 : Array (Option Value)}
    {f29 : Addr} {oc29 kV29 dc29 pm29 cd29 ct29 : Value} {od29 an29 : Option Addr} {sl29 : Array (Option Value)}
    {f30 : Addr} {oc30 kV30 dc30 pm30 cd30 ct30 : Value} {od30 an30 : Option Addr} {sl30 : Array (Option Value)}
    {f31 : Addr} {oc31 kV31 dc31 pm31 cd31 ct31 : Value} {od31 an31 : Option Addr} {sl31 : Array (Option Value)}
    {f32 : Addr} {oc32 kV32 dc32 pm32 cd32 ct32 : Value} {od32 an32 : Option Addr} {sl32 : Array (Option Value)}
    {f33 : Addr} {oc33 kV33 dc33 pm33 cd33 ct33 : Value} {od33 an33 : Option Addr} {sl33 : Array (Option Value)}
    {f34 : Addr} {oc34 kV34 dc34 pm34 cd34 ct34 : Value} {od34 an34 : Option Addr} {sl34 : Array (Option Value)}
    {f35 : Addr} {oc35 kV35 dc35 pm35 cd35 ct35 : Value} {od35 an35 : Option Addr} {sl35 : Array (Option Value)}
    {f36 : Addr} {oc36 kV36 dc36 pm36 cd36 ct36 : Value} {od36 an36 : Option Addr} {sl36 : Array (Option Value)}
    {f37 : Addr} {oc37 kV37 dc37 pm37 cd37 ct37 : Value} {od37 an37 : Option Addr} {sl37 : Array (Option Value)}
    {f38 : Addr} {oc38 kV38 dc38 pm38 cd38 ct38 : Value} {od38 an38 : Option Addr} {sl38 : Array (Option Value)}
    {f39 : Addr} {oc39 kV39 dc39 pm39 cd39 ct39 : Value} {od39 an39 : Option Addr} {sl39 : Array (Option Value)}
    {f40 : Addr} {oc40 kV40 dc40 pm40 cd40 ct40 : Value} {od40 an40 : Option Addr} {sl40 : Array (Option Value)}
    {f41 : Addr} {oc41 kV41 dc41 pm41 cd41 ct41 : Value} {od41 an41 : Option Addr} {sl41 : Array (Option Value)}
    {f42 : Addr} {oc42 kV42 dc42 pm42 cd42 ct42 : Value} {od42 an42 : Option Addr} {sl42 : Array (Option Value)}
    {f43 : Addr} {oc43 kV43 dc43 pm43 cd43 ct43 : Value} {od43 an43 : Option Addr} {sl43 : Array (Option Value)}
    {f44 : Addr} {oc44 kV44 dc44 pm44 cd44 ct44 : Value} {od44 an44 : Option Addr} {sl44 : Array (Option Value)}
    {f45 : Addr} {oc45 kV45 dc45 pm45 cd45 ct45 : Value} {od45 an45 : Option Addr} {sl45 : Array (Option Value)}
    {f46 : Addr} {oc46 kV46 dc46 pm46 cd46 ct46 : Value} {od46 an46 : Option Addr} {sl46 : Array (Option Value)}
    {f47 : Addr} {oc47 kV47 dc47 pm47 cd47 ct47 : Value} {od47 an47 : Option Addr} {sl47 : Array (Option Value)}
    {f48 : Addr} {oc48 kV48 dc48 pm48 cd48 ct48 : Value} {od48 an48 : Option Addr} {sl48 : Array (Option Value)}
    {f49 : Addr} {oc49 kV49 dc49 pm49 cd49 ct49 : Value} {od49 an49 : Option Addr} {sl49 : Array (Option Value)}
    {f50 : Addr} {oc50 kV50 dc50 pm50 cd50 ct50 : Value} {od50 an50 : Option Addr} {sl50 : Array (Option Value)}
    {f51 : Addr} {oc51 kV51 dc51 pm51 cd51 ct51 : Value} {od51 an51 : Option Addr} {sl51 : Array (Option Value)}
    {f52 : Addr} {oc52 kV52 dc52 pm52 cd52 ct52 : Value} {od52 an52 : Option Addr} {sl52 : Array (Option Value)}
    {f53 : Addr} {oc53 kV53 dc53 pm53 cd53 ct53 : Value} {od53 an53 : Option Addr} {sl53 : Array (Option Value)}
    {f54 : Addr} {oc54 kV54 dc54 pm54 cd54 ct54 : Value} {od54 an54 : Option Addr} {sl54 : Array (Option Value)}
    {f55 : Addr} {oc55 kV55 dc55 pm55 cd55 ct55 : Value} {od55 an55 : Option Addr} {sl55 : Array (Option Value)}
    {f56 : Addr} {oc56 kV56 dc56 pm56 cd56 ct56 : Value} {od56 an56 : Option Addr} {sl56 : Array (Option Value)}
    {f57 : Addr} {oc57 kV57 dc57 pm57 cd57 ct57 : Value} {od57 an57 : Option Addr} {sl57 : Array (Option Value)}
    {f58 : Addr} {oc58 kV58 dc58 pm58 cd58 ct58 : Value} {od58 an58 : Option Addr} {sl58 : Array (Option Value)}
    {f59 : Addr} {oc59 kV59 dc59 pm59 cd59 ct59 : Value} {od59 an59 : Option Addr} {sl59 : Array (Option Value)}
    {f60 : Addr} {oc60 kV60 dc60 pm60 cd60 ct60 : Value} {od60 an60 : Option Addr} {sl60 : Array (Option Value)}
    {f61 : Addr} {oc61 kV61 dc61 pm61 cd61 ct61 : Value} {od61 an61 : Option Addr} {sl61 : Array (Option Value)}
    {a_SkewError a_NoLevel a_Loose a_Kept a_Make a_Watch a_Hold : Addr}
    (l0 : K.lookup f0 = some ⟨oc0, od0, .func (PySem.W.fnOf "word" "Loose.word" (defArgs s_Loose__word) (defBody s_Loose__word) (defScope s_Loose__word) .none kV0 dc0 pm0 an0 cd0 ct0), sl0⟩) (c0 : PySem.W.codeIn K cd0 "Loose.word" = true) (k0 : PySem.W.keepIn K (.ref f0) = true) (i0 : PySem.W.findIn K (.ref a_Loose) "word" = some (some (.ref f0))) (m0 : PySem.W.isFn K (.ref f0) = true)
    (l1 : K.lookup f1 = some ⟨oc1, od1, .func (PySem.W.fnOf "word" "Kept.word" (defArgs s_Kept__word) (defBody s_Kept__word) (defScope s_Kept__word) .none kV1 dc1 pm1 an1 cd1 ct1), sl1⟩) (c1 : PySem.W.codeIn K cd1 "Kept.word" = true) (k1 : PySem.W.keepIn K (.ref f1) = true) (i1 : PySem.W.findIn K (.ref a_Kept) "word" = some (some (.ref f1))) (m1 : PySem.W.isFn K (.ref f1) = true)
    (l2 : K.lookup f2 = some ⟨oc2, od2, .func (PySem.W.fnOf "word" "Make.word" (defArgs s_Make__word) (defBody s_Make__word) (defScope s_Make__word) .none kV2 dc2 pm2 an2 cd2 ct2), sl2⟩) (c2 : PySem.W.codeIn K cd2 "Make.word" = true) (k2 : PySem.W.keepIn K (.ref f2) = true) (i2 : PySem.W.findIn K (.ref a_Make) "word" = some (some (.ref f2))) (m2 : PySem.W.isFn K (.ref f2) = true)
    (l3 : K.lookup f3 = some ⟨oc3, od3, .func (PySem.W.fnOf "word" "Watch.word" (defArgs s_Watch__word) (defBody s_Watch__word) (defScope s_Watch__word) .none kV3 dc3 pm3 an3 cd3 ct3), sl3⟩) (c3 : PySem.W.codeIn K cd3 "Watch.word" = true) (k3 : PySem.W.keepIn K (.ref f3) = true) (i3 : PySem.W.findIn K (.ref a_Watch) "word" = some (some (.ref f3))) (m3 : PySem.W.isFn K (.ref f3) = true)
    (l4 : K.lookup f4 = some ⟨oc4, od4, .func (PySem.W.fnOf "word" "Hold.word" (defArgs s_Hold__word) (defBody s_Hold__word) (defScope s_Hold__word) .none kV4 dc4 pm4 an4 cd4 ct4), sl4⟩) (c4 : PySem.W.codeIn K cd4 "Hold.word" = true) (k4 : PySem.W.keepIn K (.ref f4) = true) (i4 : PySem.W.findIn K (.ref a_Hold) "word" = some (some (.ref f4))) (m4 : PySem.W.isFn K (.ref f4) = true)
    (l5 : K.lookup f5 = some ⟨oc5, od5, .func (PySem.W.fnOf "stand" "Loose.stand" (defArgs s_Loose__stand) (defBody s_Loose__stand) (defScope s_Loose__stand) .none kV5 dc5 pm5 an5 cd5 ct5), sl5⟩) (c5 : PySem.W.codeIn K cd5 "Loose.stand" = true) (k5 : PySem.W.keepIn K (.ref f5) = true) (i5 : PySem.W.findIn K (.ref a_Loose) "stand" = some (some (.ref f5))) (m5 : PySem.W.isFn K (.ref f5) = true)
    (l6 : K.lookup f6 = some ⟨oc6, od6, .func (PySem.W.fnOf "stand" "Loose.stand" (defArgs s_Kept__stand) (defBody s_Kept__stand) (defScope s_Kept__stand) .none kV6 dc6 pm6 an6 cd6 ct6), sl6⟩) (c6 : PySem.W.codeIn K cd6 "Loose.stand" = true) (k6 : PySem.W.keepIn K (.ref f6) = true) (i6 : PySem.W.findIn K (.ref a_Kept) "stand" = some (some (.ref f6))) (m6 : PySem.W.isFn K (.ref f6) = true)
    (l7 : K.lookup f7 = some ⟨oc7, od7, .func (PySem.W.fnOf "stand" "Make.stand" (defArgs s_Make__stand) (defBody s_Make__stand) (defScope s_Make__stand) .none kV7 dc7 pm7 an7 cd7 ct7), sl7⟩) (c7 : PySem.W.codeIn K cd7 "Make.stand" = true) (k7 : PySem.W.keepIn K (.ref f7) = true) (i7 : PySem.W.findIn K (.ref a_Make) "stand" = some (some (.ref f7))) (m7 : PySem.W.isFn K (.ref f7) = true)
    (l8 : K.lookup f8 = some ⟨oc8, od8, .func (PySem.W.fnOf "stand" "Make.stand" (defArgs s_Watch__stand) (defBody s_Watch__stand) (defScope s_Watch__stand) .none kV8 dc8 pm8 an8 cd8 ct8), sl8⟩) (c8 : PySem.W.codeIn K cd8 "Make.stand" = true) (k8 : PySem.W.keepIn K (.ref f8) = true) (i8 : PySem.W.findIn K (.ref a_Watch) "stand" = some (some (.ref f8))) (m8 : PySem.W.isFn K (.ref f8) = true)
    (l9 : K.lookup f9 = some ⟨oc9, od9, .func (PySem.W.fnOf "stand" "Loose.stand" (defArgs s_Hold__stand) (defBody s_Hold__stand) (defScope s_Hold__stand) .none kV9 dc9 pm9 an9 cd9 ct9), sl9⟩) (c9 : PySem.W.codeIn K cd9 "Loose.stand" = true) (k9 : PySem.W.keepIn K (.ref f9) = true) (i9 : PySem.W.findIn K (.ref a_Hold) "stand" = some (some (.ref f9))) (m9 : PySem.W.isFn K (.ref f9) = true)
    (a10 : PySem.W.nsIn K mainGlobals "level_of" = some (some (.ref f10))) (l10 : K.lookup f10 = some ⟨oc10, od10, .func (PySem.W.fnOf "level_of" "level_of" (defArgs s_level_of) (defBody s_level_of) (defScope s_level_of) .none kV10 dc10 pm10 an10 cd10 ct10), sl10⟩) (c10 : PySem.W.codeIn K cd10 "level_of" = true) (k10 : PySem.W.keepIn K (.ref f10) = true)
    (a11 : PySem.W.nsIn K mainGlobals "_law_refused" = some (some (.ref f11))) (l11 : K.lookup f11 = some ⟨oc11, od11, .func (PySem.W.fnOf "_law_refused" "_law_refused" (defArgs s__law_refused) (defBody s__law_refused) (defScope s__law_refused) .none kV11 dc11 pm11 an11 cd11 ct11), sl11⟩) (c11 : PySem.W.codeIn K cd11 "_law_refused" = true) (k11 : PySem.W.keepIn K (.ref f11) = true)
    (a12 : PySem.W.nsIn K mainGlobals "_law_cell" = some (some (.ref f12))) (l12 : K.lookup f12 = some ⟨oc12, od12, .func (PySem.W.fnOf "_law_cell" "_law_cell" (defArgs s__law_cell) (defBody s__law_cell) (defScope s__law_cell) .none kV12 dc12 pm12 an12 cd12 ct12), sl12⟩) (c12 : PySem.W.codeIn K cd12 "_law_cell" = true) (k12 : PySem.W.keepIn K (.ref f12) = true)
    (a13 : PySem.W.nsIn K mainGlobals "_law_mix" = some (some (.ref f13))) (l13 : K.lookup f13 = some ⟨oc13, od13, .func (PySem.W.fnOf "_law_mix" "_law_mix" (defArgs s__law_mix) (defBody s__law_mix) (defScope s__law_mix) .none kV13 dc13 pm13 an13 cd13 ct13), sl13⟩) (c13 : PySem.W.codeIn K cd13 "_law_mix" = true) (k13 : PySem.W.keepIn K (.ref f13) = true)
    (a14 : PySem.W.nsIn K mainGlobals "_law_no_word" = some (some (.ref f14))) (l14 : K.lookup f14 = some ⟨oc14, od14, .func (PySem.W.fnOf "_law_no_word" "_law_no_word" (defArgs s__law_no_word) (defBody s__law_no_word) (defScope s__law_no_word) .none kV14 dc14 pm14 an14 cd14 ct14), sl14⟩) (c14 : PySem.W.codeIn K cd14 "_law_no_word" = true) (k14 : PySem.W.keepIn K (.ref f14) = true)
    (l15 : K.lookup f15 = some ⟨oc15, od15, .func (PySem.W.fnOf "look_spot" "Loose.look_spot" (defArgs s_Loose__look_spot) (defBody s_Loose__look_spot) (defScope s_Loose__look_spot) .none kV15 dc15 pm15 an15 cd15 ct15), sl15⟩) (c15 : PySem.W.codeIn K cd15 "Loose.look_spot" = true) (k15 : PySem.W.keepIn K (.ref f15) = true) (i15 : PySem.W.findIn K (.ref a_Loose) "look_spot" = some (some (.ref f15))) (m15 : PySem.W.isFn K (.ref f15) = true)
    (l16 : K.lookup f16 = some ⟨oc16, od16, .func (PySem.W.fnOf "look_spot" "Kept.look_spot" (defArgs s_Kept__look_spot) (defBody s_Kept__look_spot) (defScope s_Kept__look_spot) .none kV16 dc16 pm16 an16 cd16 ct16), sl16⟩) (c16 : PySem.W.codeIn K cd16 "Kept.look_spot" = true) (k16 : PySem.W.keepIn K (.ref f16) = true) (i16 : PySem.W.findIn K (.ref a_Kept) "look_spot" = some (some (.ref f16))) (m16 : PySem.W.isFn K (.ref f16) = true)
    (l17 : K.lookup f17 = some ⟨oc17, od17, .func (PySem.W.fnOf "look_spot" "Make.look_spot" (defArgs s_Make__look_spot) (defBody s_Make__look_spot) (defScope s_Make__look_spot) .none kV17 dc17 pm17 an17 cd17 ct17), sl17⟩) (c17 : PySem.W.codeIn K cd17 "Make.look_spot" = true) (k17 : PySem.W.keepIn K (.ref f17) = true) (i17 : PySem.W.findIn K (.ref a_Make) "look_spot" = some (some (.ref f17))) (m17 : PySem.W.isFn K (.ref f17) = true)
    (l18 : K.lookup f18 = some ⟨oc18, od18, .func (PySem.W.fnOf "look_spot" "Make.look_spot" (defArgs s_Watch__look_spot) (defBody s_Watch__look_spot) (defScope s_Watch__look_spot) .none kV18 dc18 pm18 an18 cd18 ct18), sl18⟩) (c18 : PySem.W.codeIn K cd18 "Make.look_spot" = true) (k18 : PySem.W.keepIn K (.ref f18) = true) (i18 : PySem.W.findIn K (.ref a_Watch) "look_spot" = some (some (.ref f18))) (m18 : PySem.W.isFn K (.ref f18) = true)
    (l19 : K.lookup f19 = some ⟨oc19, od19, .func (PySem.W.fnOf "look_spot" "Hold.look_spot" (defArgs s_Hold__look_spot) (defBody s_Hold__look_spot) (defScope s_Hold__look_spot) .none kV19 dc19 pm19 an19 cd19 ct19), sl19⟩) (c19 : PySem.W.codeIn K cd19 "Hold.look_spot" = true) (k19 : PySem.W.keepIn K (.ref f19) = true) (i19 : PySem.W.findIn K (.ref a_Hold) "look_spot" = some (some (.ref f19))) (m19 : PySem.W.isFn K (.ref f19) = true)
    (l20 : K.lookup f20 = some ⟨oc20, od20, .func (PySem.W.fnOf "spots" "Loose.spots" (defArgs s_Loose__spots) (defBody s_Loose__spots) (defScope s_Loose__spots) .none kV20 dc20 pm20 an20 cd20 ct20), sl20⟩) (c20 : PySem.W.codeIn K cd20 "Loose.spots" = true) (k20 : PySem.W.keepIn K (.ref f20) = true) (i20 : PySem.W.findIn K (.ref a_Loose) "spots" = some (some (.ref f20))) (m20 : PySem.W.isFn K (.ref f20) = true)
    (l21 : K.lookup f21 = some ⟨oc21, od21, .func (PySem.W.fnOf "spots" "Kept.spots" (defArgs s_Kept__spots) (defBody s_Kept__spots) (defScope s_Kept__spots) .none kV21 dc21 pm21 an21 cd21 ct21), sl21⟩) (c21 : PySem.W.codeIn K cd21 "Kept.spots" = true) (k21 : PySem.W.keepIn K (.ref f21) = true) (i21 : PySem.W.findIn K (.ref a_Kept) "spots" = some (some (.ref f21))) (m21 : PySem.W.isFn K (.ref f21) = true)
    (l22 : K.lookup f22 = some ⟨oc22, od22, .func (PySem.W.fnOf "spots" "Make.spots" (defArgs s_Make__spots) (defBody s_Make__spots) (defScope s_Make__spots) .none kV22 dc22 pm22 an22 cd22 ct22), sl22⟩) (c22 : PySem.W.codeIn K cd22 "Make.spots" = true) (k22 : PySem.W.keepIn K (.ref f22) = true) (i22 : PySem.W.findIn K (.ref a_Make) "spots" = some (some (.ref f22))) (m22 : PySem.W.isFn K (.ref f22) = true)
    (l23 : K.lookup f23 = some ⟨oc23, od23, .func (PySem.W.fnOf "spots" "Watch.spots" (defArgs s_Watch__spots) (defBody s_Watch__spots) (defScope s_Watch__spots) .none kV23 dc23 pm23 an23 cd23 ct23), sl23⟩) (c23 : PySem.W.codeIn K cd23 "Watch.spots" = true) (k23 : PySem.W.keepIn K (.ref f23) = true) (i23 : PySem.W.findIn K (.ref a_Watch) "spots" = some (some (.ref f23))) (m23 : PySem.W.isFn K (.ref f23) = true)
    (l24 : K.lookup f24 = some ⟨oc24, od24, .func (PySem.W.fnOf "spots" "Hold.spots" (defArgs s_Hold__spots) (defBody s_Hold__spots) (defScope s_Hold__spots) .none kV24 dc24 pm24 an24 cd24 ct24), sl24⟩) (c24 : PySem.W.codeIn K cd24 "Hold.spots" = true) (k24 : PySem.W.keepIn K (.ref f24) = true) (i24 : PySem.W.findIn K (.ref a_Hold) "spots" = some (some (.ref f24))) (m24 : PySem.W.isFn K (.ref f24) = true)
    (l25 : K.lookup f25 = some ⟨oc25, od25, .func (PySem.W.fnOf "first_spot" "Loose.first_spot" (defArgs s_Loose__first_spot) (defBody s_Loose__first_spot) (defScope s_Loose__first_spot) .none kV25 dc25 pm25 an25 cd25 ct25), sl25⟩) (c25 : PySem.W.codeIn K cd25 "Loose.first_spot" = true) (k25 : PySem.W.keepIn K (.ref f25) = true) (i25 : PySem.W.findIn K (.ref a_Loose) "first_spot" = some (some (.ref f25))) (m25 : PySem.W.isFn K (.ref f25) = true)
    (l26 : K.lookup f26 = some ⟨oc26, od26, .func (PySem.W.fnOf "first_spot" "Kept.first_spot" (defArgs s_Kept__first_spot) (defBody s_Kept__first_spot) (defScope s_Kept__first_spot) .none kV26 dc26 pm26 an26 cd26 ct26), sl26⟩) (c26 : PySem.W.codeIn K cd26 "Kept.first_spot" = true) (k26 : PySem.W.keepIn K (.ref f26) = true) (i26 : PySem.W.findIn K (.ref a_Kept) "first_spot" = some (some (.ref f26))) (m26 : PySem.W.isFn K (.ref f26) = true)
    (l27 : K.lookup f27 = some ⟨oc27, od27, .func (PySem.W.fnOf "first_spot" "Make.first_spot" (defArgs s_Make__first_spot) (defBody s_Make__first_spot) (defScope s_Make__first_spot) .none kV27 dc27 pm27 an27 cd27 ct27), sl27⟩) (c27 : PySem.W.codeIn K cd27 "Make.first_spot" = true) (k27 : PySem.W.keepIn K (.ref f27) = true) (i27 : PySem.W.findIn K (.ref a_Make) "first_spot" = some (some (.ref f27))) (m27 : PySem.W.isFn K (.ref f27) = true)
    (l28 : K.lookup f28 = some ⟨oc28, od28, .func (PySem.W.fnOf "first_spot" "Make.first_spot" (defArgs s_Watch__first_spot) (defBody s_Watch__first_spot) (defScope s_Watch__first_spot) .none kV28 dc28 pm28 an28 cd28 ct28), sl28⟩) (c28 : PySem.W.codeIn K cd28 "Make.first_spot" = true) (k28 : PySem.W.keepIn K (.ref f28) = true) (i28 : PySem.W.findIn K (.ref a_Watch) "first_spot" = some (some (.ref f28))) (m28 : PySem.W.isFn K (.ref f28) = true)
    (l29 : K.lookup f29 = some ⟨oc29, od29, .func (PySem.W.fnOf "first_spot" "Hold.first_spot" (defArgs s_Hold__first_spot) (defBody s_Hold__first_spot) (defScope s_Hold__first_spot) .none kV29 dc29 pm29 an29 cd29 ct29), sl29⟩) (c29 : PySem.W.codeIn K cd29 "Hold.first_spot" = true) (k29 : PySem.W.keepIn K (.ref f29) = true) (i29 : PySem.W.findIn K (.ref a_Hold) "first_spot" = some (some (.ref f29))) (m29 : PySem.W.isFn K (.ref f29) = true)
    (a30 : PySem.W.nsIn K mainGlobals "_law_number" = some (some (.ref f30))) (l30 : K.lookup f30 = some ⟨oc30, od30, .func (PySem.W.fnOf "_law_number" "_law_number" (defArgs s__law_number) (defBody s__law_number) (defScope s__law_number) .none kV30 dc30 pm30 an30 cd30 ct30), sl30⟩) (c30 : PySem.W.codeIn K cd30 "_law_number" = true) (k30 : PySem.W.keepIn K (.ref f30) = true)
    (a31 : PySem.W.nsIn K mainGlobals "_law_spots" = some (some (.ref f31))) (l31 : K.lookup f31 = some ⟨oc31, od31, .func (PySem.W.fnOf "_law_spots" "_law_spots" (defArgs s__law_spots) (defBody s__law_spots) (defScope s__law_spots) .none kV31 dc31 pm31 an31 cd31 ct31), sl31⟩) (c31 : PySem.W.codeIn K cd31 "_law_spots" = true) (k31 : PySem.W.keepIn K (.ref f31) = true)
    (a32 : PySem.W.nsIn K mainGlobals "_law_kin" = some (some (.ref f32))) (l32 : K.lookup f32 = some ⟨oc32, od32, .func (PySem.W.fnOf "_law_kin" "_law_kin" (defArgs s__law_kin) (defBody s__law_kin) (defScope s__law_kin) .none kV32 dc32 pm32 an32 cd32 ct32), sl32⟩) (c32 : PySem.W.codeIn K cd32 "_law_kin" = true) (k32 : PySem.W.keepIn K (.ref f32) = true)
    (l33 : K.lookup f33 = some ⟨oc33, od33, .func (PySem.W.fnOf "holds_asks" "Loose.holds_asks" (defArgs s_Loose__holds_asks) (defBody s_Loose__holds_asks) (defScope s_Loose__holds_asks) .none kV33 dc33 pm33 an33 cd33 ct33), sl33⟩) (c33 : PySem.W.codeIn K cd33 "Loose.holds_asks" = true) (k33 : PySem.W.keepIn K (.ref f33) = true) (i33 : PySem.W.findIn K (.ref a_Loose) "holds_asks" = some (some (.ref f33))) (m33 : PySem.W.isFn K (.ref f33) = true)
    (l34 : K.lookup f34 = some ⟨oc34, od34, .func (PySem.W.fnOf "holds_asks" "Loose.holds_asks" (defArgs s_Kept__holds_asks) (defBody s_Kept__holds_asks) (defScope s_Kept__holds_asks) .none kV34 dc34 pm34 an34 cd34 ct34), sl34⟩) (c34 : PySem.W.codeIn K cd34 "Loose.holds_asks" = true) (k34 : PySem.W.keepIn K (.ref f34) = true) (i34 : PySem.W.findIn K (.ref a_Kept) "holds_asks" = some (some (.ref f34))) (m34 : PySem.W.isFn K (.ref f34) = true)
    (l35 : K.lookup f35 = some ⟨oc35, od35, .func (PySem.W.fnOf "holds_asks" "Loose.holds_asks" (defArgs s_Make__holds_asks) (defBody s_Make__holds_asks) (defScope s_Make__holds_asks) .none kV35 dc35 pm35 an35 cd35 ct35), sl35⟩) (c35 : PySem.W.codeIn K cd35 "Loose.holds_asks" = true) (k35 : PySem.W.keepIn K (.ref f35) = true) (i35 : PySem.W.findIn K (.ref a_Make) "holds_asks" = some (some (.ref f35))) (m35 : PySem.W.isFn K (.ref f35) = true)
    (l36 : K.lookup f36 = some ⟨oc36, od36, .func (PySem.W.fnOf "holds_asks" "Loose.holds_asks" (defArgs s_Watch__holds_asks) (defBody s_Watch__holds_asks) (defScope s_Watch__holds_asks) .none kV36 dc36 pm36 an36 cd36 ct36), sl36⟩) (c36 : PySem.W.codeIn K cd36 "Loose.holds_asks" = true) (k36 : PySem.W.keepIn K (.ref f36) = true) (i36 : PySem.W.findIn K (.ref a_Watch) "holds_asks" = some (some (.ref f36))) (m36 : PySem.W.isFn K (.ref f36) = true)
    (l37 : K.lookup f37 = some ⟨oc37, od37, .func (PySem.W.fnOf "holds_asks" "Hold.holds_asks" (defArgs s_Hold__holds_asks) (defBody s_Hold__holds_asks) (defScope s_Hold__holds_asks) .none kV37 dc37 pm37 an37 cd37 ct37), sl37⟩) (c37 : PySem.W.codeIn K cd37 "Hold.holds_asks" = true) (k37 : PySem.W.keepIn K (.ref f37) = true) (i37 : PySem.W.findIn K (.ref a_Hold) "holds_asks" = some (some (.ref f37))) (m37 : PySem.W.isFn K (.ref f37) = true)
    (l38 : K.lookup f38 = some ⟨oc38, od38, .func (PySem.W.fnOf "watches" "Loose.watches" (defArgs s_Loose__watches) (defBody s_Loose__watches) (defScope s_Loose__watches) .none kV38 dc38 pm38 an38 cd38 ct38), sl38⟩) (c38 : PySem.W.codeIn K cd38 "Loose.watches" = true) (k38 : PySem.W.keepIn K (.ref f38) = true) (i38 : PySem.W.findIn K (.ref a_Loose) "watches" = some (some (.ref f38))) (m38 : PySem.W.isFn K (.ref f38) = true)
    (l39 : K.lookup f39 = some ⟨oc39, od39, .func (PySem.W.fnOf "watches" "Loose.watches" (defArgs s_Kept__watches) (defBody s_Kept__watches) (defScope s_Kept__watches) .none kV39 dc39 pm39 an39 cd39 ct39), sl39⟩) (c39 : PySem.W.codeIn K cd39 "Loose.watches" = true) (k39 : PySem.W.keepIn K (.ref f39) = true) (i39 : PySem.W.findIn K (.ref a_Kept) "watches" = some (some (.ref f39))) (m39 : PySem.W.isFn K (.ref f39) = true)
    (l40 : K.lookup f40 = some ⟨oc40, od40, .func (PySem.W.fnOf "watches" "Loose.watches" (defArgs s_Make__watches) (defBody s_Make__watches) (defScope s_Make__watches) .none kV40 dc40 pm40 an40 cd40 ct40), sl40⟩) (c40 : PySem.W.codeIn K cd40 "Loose.watches" = true) (k40 : PySem.W.keepIn K (.ref f40) = true) (i40 : PySem.W.findIn K (.ref a_Make) "watches" = some (some (.ref f40))) (m40 : PySem.W.isFn K (.ref f40) = true)
    (l41 : K.lookup f41 = some ⟨oc41, od41, .func (PySem.W.fnOf "watches" "Watch.watches" (defArgs s_Watch__watches) (defBody s_Watch__watches) (defScope s_Watch__watches) .none kV41 dc41 pm41 an41 cd41 ct41), sl41⟩) (c41 : PySem.W.codeIn K cd41 "Watch.watches" = true) (k41 : PySem.W.keepIn K (.ref f41) = true) (i41 : PySem.W.findIn K (.ref a_Watch) "watches" = some (some (.ref f41))) (m41 : PySem.W.isFn K (.ref f41) = true)
    (l42 : K.lookup f42 = some ⟨oc42, od42, .func (PySem.W.fnOf "watches" "Loose.watches" (defArgs s_Hold__watches) (defBody s_Hold__watches) (defScope s_Hold__watches) .none kV42 dc42 pm42 an42 cd42 ct42), sl42⟩) (c42 : PySem.W.codeIn K cd42 "Loose.watches" = true) (k42 : PySem.W.keepIn K (.ref f42) = true) (i42 : PySem.W.findIn K (.ref a_Hold) "watches" = some (some (.ref f42))) (m42 : PySem.W.isFn K (.ref f42) = true)
    (l43 : K.lookup f43 = some ⟨oc43, od43, .func (PySem.W.fnOf "late" "Loose.late" (defArgs s_Loose__late) (defBody s_Loose__late) (defScope s_Loose__late) .none kV43 dc43 pm43 an43 cd43 ct43), sl43⟩) (c43 : PySem.W.codeIn K cd43 "Loose.late" = true) (k43 : PySem.W.keepIn K (.ref f43) = true) (i43 : PySem.W.findIn K (.ref a_Loose) "late" = some (some (.ref f43))) (m43 : PySem.W.isFn K (.ref f43) = true)
    (l44 : K.lookup f44 = some ⟨oc44, od44, .func (PySem.W.fnOf "late" "Loose.late" (defArgs s_Kept__late) (defBody s_Kept__late) (defScope s_Kept__late) .none kV44 dc44 pm44 an44 cd44 ct44), sl44⟩) (c44 : PySem.W.codeIn K cd44 "Loose.late" = true) (k44 : PySem.W.keepIn K (.ref f44) = true) (i44 : PySem.W.findIn K (.ref a_Kept) "late" = some (some (.ref f44))) (m44 : PySem.W.isFn K (.ref f44) = true)
    (l45 : K.lookup f45 = some ⟨oc45, od45, .func (PySem.W.fnOf "late" "Make.late" (defArgs s_Make__late) (defBody s_Make__late) (defScope s_Make__late) .none kV45 dc45 pm45 an45 cd45 ct45), sl45⟩) (c45 : PySem.W.codeIn K cd45 "Make.late" = true) (k45 : PySem.W.keepIn K (.ref f45) = true) (i45 : PySem.W.findIn K (.ref a_Make) "late" = some (some (.ref f45))) (m45 : PySem.W.isFn K (.ref f45) = true)
    (l46 : K.lookup f46 = some ⟨oc46, od46, .func (PySem.W.fnOf "late" "Make.late" (defArgs s_Watch__late) (defBody s_Watch__late) (defScope s_Watch__late) .none kV46 dc46 pm46 an46 cd46 ct46), sl46⟩) (c46 : PySem.W.codeIn K cd46 "Make.late" = true) (k46 : PySem.W.keepIn K (.ref f46) = true) (i46 : PySem.W.findIn K (.ref a_Watch) "late" = some (some (.ref f46))) (m46 : PySem.W.isFn K (.ref f46) = true)
    (l47 : K.lookup f47 = some ⟨oc47, od47, .func (PySem.W.fnOf "late" "Loose.late" (defArgs s_Hold__late) (defBody s_Hold__late) (defScope s_Hold__late) .none kV47 dc47 pm47 an47 cd47 ct47), sl47⟩) (c47 : PySem.W.codeIn K cd47 "Loose.late" = true) (k47 : PySem.W.keepIn K (.ref f47) = true) (i47 : PySem.W.findIn K (.ref a_Hold) "late" = some (some (.ref f47))) (m47 : PySem.W.isFn K (.ref f47) = true)
    (l48 : K.lookup f48 = some ⟨oc48, od48, .func (PySem.W.fnOf "unkept" "Loose.unkept" (defArgs s_Loose__unkept) (defBody s_Loose__unkept) (defScope s_Loose__unkept) .none kV48 dc48 pm48 an48 cd48 ct48), sl48⟩) (c48 : PySem.W.codeIn K cd48 "Loose.unkept" = true) (k48 : PySem.W.keepIn K (.ref f48) = true) (i48 : PySem.W.findIn K (.ref a_Loose) "unkept" = some (some (.ref f48))) (m48 : PySem.W.isFn K (.ref f48) = true)
    (l49 : K.lookup f49 = some ⟨oc49, od49, .func (PySem.W.fnOf "unkept" "Kept.unkept" (defArgs s_Kept__unkept) (defBody s_Kept__unkept) (defScope s_Kept__unkept) .none kV49 dc49 pm49 an49 cd49 ct49), sl49⟩) (c49 : PySem.W.codeIn K cd49 "Kept.unkept" = true) (k49 : PySem.W.keepIn K (.ref f49) = true) (i49 : PySem.W.findIn K (.ref a_Kept) "unkept" = some (some (.ref f49))) (m49 : PySem.W.isFn K (.ref f49) = true)
    (l50 : K.lookup f50 = some ⟨oc50, od50, .func (PySem.W.fnOf "unkept" "Kept.unkept" (defArgs s_Make__unkept) (defBody s_Make__unkept) (defScope s_Make__unkept) .none kV50 dc50 pm50 an50 cd50 ct50), sl50⟩) (c50 : PySem.W.codeIn K cd50 "Kept.unkept" = true) (k50 : PySem.W.keepIn K (.ref f50) = true) (i50 : PySem.W.findIn K (.ref a_Make) "unkept" = some (some (.ref f50))) (m50 : PySem.W.isFn K (.ref f50) = true)
    (l51 : K.lookup f51 = some ⟨oc51, od51, .func (PySem.W.fnOf "unkept" "Kept.unkept" (defArgs s_Watch__unkept) (defBody s_Watch__unkept) (defScope s_Watch__unkept) .none kV51 dc51 pm51 an51 cd51 ct51), sl51⟩) (c51 : PySem.W.codeIn K cd51 "Kept.unkept" = true) (k51 : PySem.W.keepIn K (.ref f51) = true) (i51 : PySem.W.findIn K (.ref a_Watch) "unkept" = some (some (.ref f51))) (m51 : PySem.W.isFn K (.ref f51) = true)
    (l52 : K.lookup f52 = some ⟨oc52, od52, .func (PySem.W.fnOf "unkept" "Kept.unkept" (defArgs s_Hold__unkept) (defBody s_Hold__unkept) (defScope s_Hold__unkept) .none kV52 dc52 pm52 an52 cd52 ct52), sl52⟩) (c52 : PySem.W.codeIn K cd52 "Kept.unkept" = true) (k52 : PySem.W.keepIn K (.ref f52) = true) (i52 : PySem.W.findIn K (.ref a_Hold) "unkept" = some (some (.ref f52))) (m52 : PySem.W.isFn K (.ref f52) = true)
    (a53 : PySem.W.nsIn K mainGlobals "_law_truth" = some (some (.ref f53))) (l53 : K.lookup f53 = some ⟨oc53, od53, .func (PySem.W.fnOf "_law_truth" "_law_truth" (defArgs s__law_truth) (defBody s__law_truth) (defScope s__law_truth) .none kV53 dc53 pm53 an53 cd53 ct53), sl53⟩) (c53 : PySem.W.codeIn K cd53 "_law_truth" = true) (k53 : PySem.W.keepIn K (.ref f53) = true)
    (a54 : PySem.W.nsIn K mainGlobals "_law_truths" = some (some (.ref f54))) (l54 : K.lookup f54 = some ⟨oc54, od54, .func (PySem.W.fnOf "_law_truths" "_law_truths" (defArgs s__law_truths) (defBody s__law_truths) (defScope s__law_truths) .none kV54 dc54 pm54 an54 cd54 ct54), sl54⟩) (c54 : PySem.W.codeIn K cd54 "_law_truths" = true) (k54 : PySem.W.keepIn K (.ref f54) = true)
    (l55 : K.lookup f55 = some ⟨oc55, od55, .func (PySem.W.fnOf "stamps" "Loose.stamps" (defArgs s_Loose__stamps) (defBody s_Loose__stamps) (defScope s_Loose__stamps) .none kV55 dc55 pm55 an55 cd55 ct55), sl55⟩) (c55 : PySem.W.codeIn K cd55 "Loose.stamps" = true) (k55 : PySem.W.keepIn K (.ref f55) = true) (i55 : PySem.W.findIn K (.ref a_Loose) "stamps" = some (some (.ref f55))) (m55 : PySem.W.isFn K (.ref f55) = true)
    (l56 : K.lookup f56 = some ⟨oc56, od56, .func (PySem.W.fnOf "stamps" "Kept.stamps" (defArgs s_Kept__stamps) (defBody s_Kept__stamps) (defScope s_Kept__stamps) .none kV56 dc56 pm56 an56 cd56 ct56), sl56⟩) (c56 : PySem.W.codeIn K cd56 "Kept.stamps" = true) (k56 : PySem.W.keepIn K (.ref f56) = true) (i56 : PySem.W.findIn K (.ref a_Kept) "stamps" = some (some (.ref f56))) (m56 : PySem.W.isFn K (.ref f56) = true)
    (l57 : K.lookup f57 = some ⟨oc57, od57, .func (PySem.W.fnOf "stamps" "Make.stamps" (defArgs s_Make__stamps) (defBody s_Make__stamps) (defScope s_Make__stamps) .none kV57 dc57 pm57 an57 cd57 ct57), sl57⟩) (c57 : PySem.W.codeIn K cd57 "Make.stamps" = true) (k57 : PySem.W.keepIn K (.ref f57) = true) (i57 : PySem.W.findIn K (.ref a_Make) "stamps" = some (some (.ref f57))) (m57 : PySem.W.isFn K (.ref f57) = true)
    (l58 : K.lookup f58 = some ⟨oc58, od58, .func (PySem.W.fnOf "stamps" "Watch.stamps" (defArgs s_Watch__stamps) (defBody s_Watch__stamps) (defScope s_Watch__stamps) .none kV58 dc58 pm58 an58 cd58 ct58), sl58⟩) (c58 : PySem.W.codeIn K cd58 "Watch.stamps" = true) (k58 : PySem.W.keepIn K (.ref f58) = true) (i58 : PySem.W.findIn K (.ref a_Watch) "stamps" = some (some (.ref f58))) (m58 : PySem.W.isFn K (.ref f58) = true)
    (l59 : K.lookup f59 = some ⟨oc59, od59, .func (PySem.W.fnOf "stamps" "Hold.stamps" (defArgs s_Hold__stamps) (defBody s_Hold__stamps) (defScope s_Hold__stamps) .none kV59 dc59 pm59 an59 cd59 ct59), sl59⟩) (c59 : PySem.W.codeIn K cd59 "Hold.stamps" = true) (k59 : PySem.W.keepIn K (.ref f59) = true) (i59 : PySem.W.findIn K (.ref a_Hold) "stamps" = some (some (.ref f59))) (m59 : PySem.W.isFn K (.ref f59) = true)
    (a60 : PySem.W.nsIn K mainGlobals "_law_stamps" = some (some (.ref f60))) (l60 : K.lookup f60 = some ⟨oc60, od60, .func (PySem.W.fnOf "_law_stamps" "_law_stamps" (defArgs s__law_stamps) (defBody s__law_stamps) (defScope s__law_stamps) .none kV60 dc60 pm60 an60 cd60 ct60), sl60⟩) (c60 : PySem.W.codeIn K cd60 "_law_stamps" = true) (k60 : PySem.W.keepIn K (.ref f60) = true)
    (a61 : PySem.W.nsIn K mainGlobals "law" = some (some (.ref f61))) (l61 : K.lookup f61 = some ⟨oc61, od61, .func (PySem.W.fnOf "law" "law" (defArgs s_law) (defBody s_law) (defScope s_law) .none kV61 dc61 pm61 an61 cd61 ct61), sl61⟩) (c61 : PySem.W.codeIn K cd61 "law" = true) (k61 : PySem.W.keepIn K (.ref f61) = true)
    (z0 : PySem.W.nsIn K mainGlobals "ValueError" = some none)
    (z1 : PySem.W.nsIn K mainGlobals "isinstance" = some none)
    (z2 : PySem.W.nsIn K mainGlobals "len" = some none)
    (z3 : PySem.W.nsIn K mainGlobals "bool" = some none)
    (z4 : PySem.W.nsIn K mainGlobals "int" = some none)
    (z5 : PySem.W.nsIn K mainGlobals "list" = some none)
    (z6 : PySem.W.nsIn K mainGlobals "zip" = some none)
    (z7 : PySem.W.nsIn K mainGlobals "max" = some none)
    (z8 : PySem.W.nsIn K mainGlobals "range" = some none)
    (z9 : PySem.W.nsIn K mainGlobals "str" = some none)
    (n_SkewError : PySem.W.nsIn K mainGlobals "SkewError" = some (some (.ref a_SkewError)))
    (n_NoLevel : PySem.W.nsIn K mainGlobals "NoLevel" = some (some (.ref a_NoLevel)))
    (q_NoLevel : PySem.W.excIn K a_NoLevel [.type "ValueError", .type "Exception", .type "BaseException", .type "object"] "ValueError.__new__" = true)
    (k_NoLevel : PySem.W.keepIn K (.ref a_NoLevel) = true)
    (b_NoLevel : PySem.W.subIn K (.ref a_NoLevel) (.type "BaseException") = some true)
    (t_NoLevel : PySem.W.typeIn K (.ref a_NoLevel) = some (.type "type"))
    (hg_NoLevel : PySem.W.findIn K (.ref a_NoLevel) "__getattribute__" = some (some (.builtin "BaseException.__getattribute__")))
    (hk_NoLevel : PySem.W.findIn K (.ref a_NoLevel) "__getattr__" = some none)
    (hd_NoLevel : PySem.W.hasDictIn K a_NoLevel = true)
    (ha_NoLevel : PySem.W.findIn K (.ref a_NoLevel) "__class__" = some (some (.builtin "object.__class__")))
    (hm_NoLevel : PySem.W.mroIn K a_NoLevel (.type "object") = some true)
    (hn__ : PySem.W.specialIn K (.builtin "object.__class__") "__get__" = some (some (.builtin "getset_descriptor.__get__")))
    (ht__ : PySem.W.takesIn K (.builtin "object.__class__") = some true)
    (ki_NoLevel_NoLevel : PySem.W.kitOne K (.ref a_NoLevel) (.ref a_NoLevel) = some true)
    (kt_NoLevel_ValueError : PySem.W.kitOne K (.ref a_NoLevel) (.type "ValueError") = some true)
    (b_SkewError : PySem.W.subIn K (.ref a_SkewError) (.type "BaseException") = some true)
    (t_SkewError : PySem.W.typeIn K (.ref a_SkewError) = some (.type "type"))
    (hd_SkewError : PySem.W.hasDictIn K a_SkewError = true)
    (sb_NoLevel_SkewError : PySem.W.subIn K (.ref a_NoLevel) (.ref a_SkewError) = some true)
    (n_Loose : PySem.W.nsIn K mainGlobals "Loose" = some (some (.ref a_Loose)))
    (rp_Loose : PySem.W.plainGet K a_Loose Str.empty = true)
    (rd_Loose : PySem.W.hasDictIn K a_Loose = true)
    (ro_Loose : PySem.W.plainOver K a_Loose = true)
    (rs_Loose : PySem.W.findIn K (.ref a_Loose) "__setattr__" = some (some (.builtin "object.__setattr__")))
    (rm_Loose : PySem.W.makesIn K a_Loose = true)
    (ri_Loose : PySem.W.findIn K (.ref a_Loose) "__init__" = some (some (.builtin "object.__init__")))
    (rk_Loose : PySem.W.keepIn K (.ref a_Loose) = true)
    (n_Kept : PySem.W.nsIn K mainGlobals "Kept" = some (some (.ref a_Kept)))
    (rp_Kept : PySem.W.plainGet K a_Kept Str.empty = true)
    (rd_Kept : PySem.W.hasDictIn K a_Kept = true)
    (ro_Kept : PySem.W.plainOver K a_Kept = true)
    (rs_Kept : PySem.W.findIn K (.ref a_Kept) "__setattr__" = some (some (.builtin "object.__setattr__")))
    (rm_Kept : PySem.W.makesIn K a_Kept = true)
    (ri_Kept : PySem.W.findIn K (.ref a_Kept) "__init__" = some (some (.builtin "object.__init__")))
    (rk_Kept : PySem.W.keepIn K (.ref a_Kept) = true)
    (n_Make : PySem.W.nsIn K mainGlobals "Make" = some (some (.ref a_Make)))
    (rp_Make : PySem.W.plainGet K a_Make Str.empty = true)
    (rd_Make : PySem.W.hasDictIn K a_Make = true)
    (ro_Make : PySem.W.plainOver K a_Make = true)
    (rs_Make : PySem.W.findIn K (.ref a_Make) "__setattr__" = some (some (.builtin "object.__setattr__")))
    (rm_Make : PySem.W.makesIn K a_Make = true)
    (ri_Make : PySem.W.findIn K (.ref a_Make) "__init__" = some (some (.builtin "object.__init__")))
    (rk_Make : PySem.W.keepIn K (.ref a_Make) = true)
    (n_Watch : PySem.W.nsIn K mainGlobals "Watch" = some (some (.ref a_Watch)))
    (rp_Watch : PySem.W.plainGet K a_Watch Str.empty = true)
    (rd_Watch : PySem.W.hasDictIn K a_Watch = true)
    (ro_Watch : PySem.W.plainOver K a_Watch = true)
    (rs_Watch : PySem.W.findIn K (.ref a_Watch) "__setattr__" = some (some (.builtin "object.__setattr__")))
    (rm_Watch : PySem.W.makesIn K a_Watch = true)
    (ri_Watch : PySem.W.findIn K (.ref a_Watch) "__init__" = some (some (.builtin "object.__init__")))
    (rk_Watch : PySem.W.keepIn K (.ref a_Watch) = true)
    (n_Hold : PySem.W.nsIn K mainGlobals "Hold" = some (some (.ref a_Hold)))
    (rp_Hold : PySem.W.plainGet K a_Hold Str.empty = true)
    (rd_Hold : PySem.W.hasDictIn K a_Hold = true)
    (ro_Hold : PySem.W.plainOver K a_Hold = true)
    (rs_Hold : PySem.W.findIn K (.ref a_Hold) "__setattr__" = some (some (.builtin "object.__setattr__")))
    (rm_Hold : PySem.W.makesIn K a_Hold = true)
    (ri_Hold : PySem.W.findIn K (.ref a_Hold) "__init__" = some (some (.builtin "object.__init__")))
    (rk_Hold : PySem.W.keepIn K (.ref a_Hold) = true)
    (rh_Loose : PySem.W.findIn K (.ref a_Loose) "__class__" = some (some (.builtin "object.__class__")))
    (ro2_Loose : PySem.W.mroIn K a_Loose (.type "object") = some true)
    (ki_Loose_Hold : PySem.W.kitOne K (.ref a_Loose) (.ref a_Hold) = some false)
    (ki_Loose_Loose : PySem.W.kitOne K (.ref a_Loose) (.ref a_Loose) = some true)
    (ki_Loose_Kept : PySem.W.kitOne K (.ref a_Loose) (.ref a_Kept) = some false)
    (ki_Loose_Watch : PySem.W.kitOne K (.ref a_Loose) (.ref a_Watch) = some false)
    (ki_Loose_Make : PySem.W.kitOne K (.ref a_Loose) (.ref a_Make) = some false)
    (rh_Kept : PySem.W.findIn K (.ref a_Kept) "__class__" = some (some (.builtin "object.__class__")))
    (ro2_Kept : PySem.W.mroIn K a_Kept (.type "object") = some true)
    (ki_Kept_Hold : PySem.W.kitOne K (.ref a_Kept) (.ref a_Hold) = some false)
    (ki_Kept_Loose : PySem.W.kitOne K (.ref a_Kept) (.ref a_Loose) = some true)
    (ki_Kept_Kept : PySem.W.kitOne K (.ref a_Kept) (.ref a_Kept) = some true)
    (ki_Kept_Watch : PySem.W.kitOne K (.ref a_Kept) (.ref a_Watch) = some false)
    (ki_Kept_Make : PySem.W.kitOne K (.ref a_Kept) (.ref a_Make) = some false)
    (rh_Make : PySem.W.findIn K (.ref a_Make) "__class__" = some (some (.builtin "object.__class__")))
    (ro2_Make : PySem.W.mroIn K a_Make (.type "object") = some true)
    (ki_Make_Hold : PySem.W.kitOne K (.ref a_Make) (.ref a_Hold) = some false)
    (ki_Make_Loose : PySem.W.kitOne K (.ref a_Make) (.ref a_Loose) = some true)
    (ki_Make_Kept : PySem.W.kitOne K (.ref a_Make) (.ref a_Kept) = some true)
    (ki_Make_Watch : PySem.W.kitOne K (.ref a_Make) (.ref a_Watch) = some false)
    (ki_Make_Make : PySem.W.kitOne K (.ref a_Make) (.ref a_Make) = some true)
    (rh_Watch : PySem.W.findIn K (.ref a_Watch) "__class__" = some (some (.builtin "object.__class__")))
    (ro2_Watch : PySem.W.mroIn K a_Watch (.type "object") = some true)
    (ki_Watch_Hold : PySem.W.kitOne K (.ref a_Watch) (.ref a_Hold) = some false)
    (ki_Watch_Loose : PySem.W.kitOne K (.ref a_Watch) (.ref a_Loose) = some true)
    (ki_Watch_Kept : PySem.W.kitOne K (.ref a_Watch) (.ref a_Kept) = some true)
    (ki_Watch_Watch : PySem.W.kitOne K (.ref a_Watch) (.ref a_Watch) = some true)
    (ki_Watch_Make : PySem.W.kitOne K (.ref a_Watch) (.ref a_Make) = some true)
    (rh_Hold : PySem.W.findIn K (.ref a_Hold) "__class__" = some (some (.builtin "object.__class__")))
    (ro2_Hold : PySem.W.mroIn K a_Hold (.type "object") = some true)
    (ki_Hold_Hold : PySem.W.kitOne K (.ref a_Hold) (.ref a_Hold) = some true)
    (ki_Hold_Loose : PySem.W.kitOne K (.ref a_Hold) (.ref a_Loose) = some true)
    (ki_Hold_Kept : PySem.W.kitOne K (.ref a_Hold) (.ref a_Kept) = some true)
    (ki_Hold_Watch : PySem.W.kitOne K (.ref a_Hold) (.ref a_Watch) = some false)
    (ki_Hold_Make : PySem.W.kitOne K (.ref a_Hold) (.ref a_Make) = some false) :
    ∃ fd : FuncData, (∀ (s : Shared) (v : Value), BindsTo s fd ⟨[v], []⟩ [("_law_script", v)]) ∧ ∀ base : Heap, K.In base → base.Ns mainGlobals mg → FnOk P w K mg base CX0 3 fa fd ["_law_script"] (spP K lawC) := by
  have D0 : DfM K "word" "Loose.word" s_Loose__word f0 := dfm_mk (st := s_Loose__word) l0 c0 k0
  have D1 : DfM K "word" "Kept.word" s_Kept__word f1 := dfm_mk (st := s_Kept__word) l1 c1 k1
  have D2 : DfM K "word" "Make.word" s_Make__word f2 := dfm_mk (st := s_Make__word) l2 c2 k2
  have D3 : DfM K "word" "Watch.word" s_Watch__word f3 := dfm_mk (st := s_Watch__word) l3 c3 k3
  have D4 : DfM K "word" "Hold.word" s_Hold__word f4 := dfm_mk (st := s_Hold__word) l4 c4 k4
  have D5 : DfM K "stand" "Loose.stand" s_Loose__stand f5 := dfm_mk (st := s_Loose__stand) l5 c5 k5
  have D6 : DfM K "stand" "Loose.stand" s_Kept__stand f6 := dfm_mk (st := s_Kept__stand) l6 c6 k6
  have D7 : DfM K "stand" "Make.stand" s_Make__stand f7 := dfm_mk (st := s_Make__stand) l7 c7 k7
  have D8 : DfM K "stand" "Make.stand" s_Watch__stand f8 := dfm_mk (st := s_Watch__stand) l8 c8 k8
  have D9 : DfM K "stand" "Loose.stand" s_Hold__stand f9 := dfm_mk (st := s_Hold__stand) l9 c9 k9
  have D10 : Df K mg "level_of" s_level_of := df_mk X G (st := s_level_of) a10 l10 c10 k10
  have D11 : Df K mg "_law_refused" s__law_refused := df_mk X G (st := s__law_refused) a11 l11 c11 k11
  have D12 : Df K mg "_law_cell" s__law_cell := df_mk X G (st := s__law_cell) a12 l12 c12 k12
  have D13 : Df K mg "_law_mix" s__law_mix := df_mk X G (st := s__law_mix) a13 l13 c13 k13
  have D14 : Df K mg "_law_no_word" s__law_no_word := df_mk X G (st := s__law_no_word) a14 l14 c14 k14
  have D15 : DfM K "look_spot" "Loose.look_spot" s_Loose__look_spot f15 := dfm_mk (st := s_Loose__look_spot) l15 c15 k15
  have D16 : DfM K "look_spot" "Kept.look_spot" s_Kept__look_spot f16 := dfm_mk (st := s_Kept__look_spot) l16 c16 k16
  have D17 : DfM K "look_spot" "Make.look_spot" s_Make__look_spot f17 := dfm_mk (st := s_Make__look_spot) l17 c17 k17
  have D18 : DfM K "look_spot" "Make.look_spot" s_Watch__look_spot f18 := dfm_mk (st := s_Watch__look_spot) l18 c18 k18
  have D19 : DfM K "look_spot" "Hold.look_spot" s_Hold__look_spot f19 := dfm_mk (st := s_Hold__look_spot) l19 c19 k19
  have D20 : DfM K "spots" "Loose.spots" s_Loose__spots f20 := dfm_mk (st := s_Loose__spots) l20 c20 k20
  have D21 : DfM K "spots" "Kept.spots" s_Kept__spots f21 := dfm_mk (st := s_Kept__spots) l21 c21 k21
  have D22 : DfM K "spots" "Make.spots" s_Make__spots f22 := dfm_mk (st := s_Make__spots) l22 c22 k22
  have D23 : DfM K "spots" "Watch.spots" s_Watch__spots f23 := dfm_mk (st := s_Watch__spots) l23 c23 k23
  have D24 : DfM K "spots" "Hold.spots" s_Hold__spots f24 := dfm_mk (st := s_Hold__spots) l24 c24 k24
  have D25 : DfM K "first_spot" "Loose.first_spot" s_Loose__first_spot f25 := dfm_mk (st := s_Loose__first_spot) l25 c25 k25
  have D26 : DfM K "first_spot" "Kept.first_spot" s_Kept__first_spot f26 := dfm_mk (st := s_Kept__first_spot) l26 c26 k26
  have D27 : DfM K "first_spot" "Make.first_spot" s_Make__first_spot f27 := dfm_mk (st := s_Make__first_spot) l27 c27 k27
  have D28 : DfM K "first_spot" "Make.first_spot" s_Watch__first_spot f28 := dfm_mk (st := s_Watch__first_spot) l28 c28 k28
  have D29 : DfM K "first_spot" "Hold.first_spot" s_Hold__first_spot f29 := dfm_mk (st := s_Hold__first_spot) l29 c29 k29
  have D30 : Df K mg "_law_number" s__law_number := df_mk X G (st := s__law_number) a30 l30 c30 k30
  have D31 : Df K mg "_law_spots" s__law_spots := df_mk X G (st := s__law_spots) a31 l31 c31 k31
  have D32 : Df K mg "_law_kin" s__law_kin := df_mk X G (st := s__law_kin) a32 l32 c32 k32
  have D33 : DfM K "holds_asks" "Loose.holds_asks" s_Loose__holds_asks f33 := dfm_mk (st := s_Loose__holds_asks) l33 c33 k33
  have D34 : DfM K "holds_asks" "Loose.holds_asks" s_Kept__holds_asks f34 := dfm_mk (st := s_Kept__holds_asks) l34 c34 k34
  have D35 : DfM K "holds_asks" "Loose.holds_asks" s_Make__holds_asks f35 := dfm_mk (st := s_Make__holds_asks) l35 c35 k35
  have D36 : DfM K "holds_asks" "Loose.holds_asks" s_Watch__holds_asks f36 := dfm_mk (st := s_Watch__holds_asks) l36 c36 k36
  have D37 : DfM K "holds_asks" "Hold.holds_asks" s_Hold__holds_asks f37 := dfm_mk (st := s_Hold__holds_asks) l37 c37 k37
  have D38 : DfM K "watches" "Loose.watches" s_Loose__watches f38 := dfm_mk (st := s_Loose__watches) l38 c38 k38
  have D39 : DfM K "watches" "Loose.watches" s_Kept__watches f39 := dfm_mk (st := s_Kept__watches) l39 c39 k39
  have D40 : DfM K "watches" "Loose.watches" s_Make__watches f40 := dfm_mk (st := s_Make__watches) l40 c40 k40
  have D41 : DfM K "watches" "Watch.watches" s_Watch__watches f41 := dfm_mk (st := s_Watch__watches) l41 c41 k41
  have D42 : DfM K "watches" "Loose.watches" s_Hold__watches f42 := dfm_mk (st := s_Hold__watches) l42 c42 k42
  have D43 : DfM K "late" "Loose.late" s_Loose__late f43 := dfm_mk (st := s_Loose__late) l43 c43 k43
  have D44 : DfM K "late" "Loose.late" s_Kept__late f44 := dfm_mk (st := s_Kept__late) l44 c44 k44
  have D45 : DfM K "late" "Make.late" s_Make__late f45 := dfm_mk (st := s_Make__late) l45 c45 k45
  have D46 : DfM K "late" "Make.late" s_Watch__late f46 := dfm_mk (st := s_Watch__late) l46 c46 k46
  have D47 : DfM K "late" "Loose.late" s_Hold__late f47 := dfm_mk (st := s_Hold__late) l47 c47 k47
  have D48 : DfM K "unkept" "Loose.unkept" s_Loose__unkept f48 := dfm_mk (st := s_Loose__unkept) l48 c48 k48
  have D49 : DfM K "unkept" "Kept.unkept" s_Kept__unkept f49 := dfm_mk (st := s_Kept__unkept) l49 c49 k49
  have D50 : DfM K "unkept" "Kept.unkept" s_Make__unkept f50 := dfm_mk (st := s_Make__unkept) l50 c50 k50
  have D51 : DfM K "unkept" "Kept.unkept" s_Watch__unkept f51 := dfm_mk (st := s_Watch__unkept) l51 c51 k51
  have D52 : DfM K "unkept" "Kept.unkept" s_Hold__unkept f52 := dfm_mk (st := s_Hold__unkept) l52 c52 k52
  have D53 : Df K mg "_law_truth" s__law_truth := df_mk X G (st := s__law_truth) a53 l53 c53 k53
  have D54 : Df K mg "_law_truths" s__law_truths := df_mk X G (st := s__law_truths) a54 l54 c54 k54
  have D55 : DfM K "stamps" "Loose.stamps" s_Loose__stamps f55 := dfm_mk (st := s_Loose__stamps) l55 c55 k55
  have D56 : DfM K "stamps" "Kept.stamps" s_Kept__stamps f56 := dfm_mk (st := s_Kept__stamps) l56 c56 k56
  have D57 : DfM K "stamps" "Make.stamps" s_Make__stamps f57 := dfm_mk (st := s_Make__stamps) l57 c57 k57
  have D58 : DfM K "stamps" "Watch.stamps" s_Watch__stamps f58 := dfm_mk (st := s_Watch__stamps) l58 c58 k58
  have D59 : DfM K "stamps" "Hold.stamps" s_Hold__stamps f59 := dfm_mk (st := s_Hold__stamps) l59 c59 k59
  have D60 : Df K mg "_law_stamps" s__law_stamps := df_mk X G (st := s__law_stamps) a60 l60 c60 k60
  have D61 : Df K mg "law" s_law := df_mk X G (st := s_law) a61 l61 c61 k61
  have XX : XF K mg a_SkewError a_NoLevel a_Loose a_Kept a_Make a_Watch a_Hold := ⟨(PySem.W.mg_of X G n_SkewError), (PySem.W.mg_of X G n_NoLevel), ⟨PySem.W.mg_of X G n_NoLevel, q_NoLevel, k_NoLevel, b_NoLevel, t_NoLevel⟩, ⟨hg_NoLevel, hk_NoLevel, b_NoLevel, hd_NoLevel, ha_NoLevel, hn__, ht__, hm_NoLevel⟩, (PySem.W.exm_ref b_SkewError hd_SkewError t_SkewError sb_NoLevel_SkewError), ki_NoLevel_NoLevel, kt_NoLevel_ValueError, (PySem.W.mg_of X G n_Loose), ⟨⟨rp_Loose, rd_Loose, ro_Loose, rs_Loose⟩, fun f hf => by simp at hf⟩, ⟨rm_Loose, ri_Loose, rk_Loose⟩, (PySem.W.mg_of X G n_Kept), ⟨⟨rp_Kept, rd_Kept, ro_Kept, rs_Kept⟩, fun f hf => by simp at hf⟩, ⟨rm_Kept, ri_Kept, rk_Kept⟩, (PySem.W.mg_of X G n_Make), ⟨⟨rp_Make, rd_Make, ro_Make, rs_Make⟩, fun f hf => by simp at hf⟩, ⟨rm_Make, ri_Make, rk_Make⟩, (PySem.W.mg_of X G n_Watch), ⟨⟨rp_Watch, rd_Watch, ro_Watch, rs_Watch⟩, fun f hf => by simp at hf⟩, ⟨rm_Watch, ri_Watch, rk_Watch⟩, (PySem.W.mg_of X G n_Hold), ⟨⟨rp_Hold, rd_Hold, ro_Hold, rs_Hold⟩, fun f hf => by simp at hf⟩, ⟨rm_Hold, ri_Hold, rk_Hold⟩, ⟨⟨rp_Loose, rd_Loose, ro_Loose, rs_Loose⟩, rh_Loose, hn__, ht__, ro2_Loose⟩, ki_Loose_Hold, ki_Loose_Loose, ki_Loose_Kept, ki_Loose_Watch, ki_Loose_Make, ⟨⟨rp_Kept, rd_Kept, ro_Kept, rs_Kept⟩, rh_Kept, hn__, ht__, ro2_Kept⟩, ki_Kept_Hold, ki_Kept_Loose, ki_Kept_Kept, ki_Kept_Watch, ki_Kept_Make, ⟨⟨rp_Make, rd_Make, ro_Make, rs_Make⟩, rh_Make, hn__, ht__, ro2_Make⟩, ki_Make_Hold, ki_Make_Loose, ki_Make_Kept, ki_Make_Watch, ki_Make_Make, ⟨⟨rp_Watch, rd_Watch, ro_Watch, rs_Watch⟩, rh_Watch, hn__, ht__, ro2_Watch⟩, ki_Watch_Hold, ki_Watch_Loose, ki_Watch_Kept, ki_Watch_Watch, ki_Watch_Make, ⟨⟨rp_Hold, rd_Hold, ro_Hold, rs_Hold⟩, rh_Hold, hn__, ht__, ro2_Hold⟩, ki_Hold_Hold, ki_Hold_Loose, ki_Hold_Kept, ki_Hold_Watch, ki_Hold_Make⟩
  have y0 := PySem.W.mg_none_of X G z0
  have y1 := PySem.W.mg_none_of X G z1
  have y2 := PySem.W.mg_none_of X G z2
  have y3 := PySem.W.mg_none_of X G z3
  have y4 := PySem.W.mg_none_of X G z4
  have y5 := PySem.W.mg_none_of X G z5
  have y6 := PySem.W.mg_none_of X G z6
  have y7 := PySem.W.mg_none_of X G z7
  have y8 := PySem.W.mg_none_of X G z8
  have y9 := PySem.W.mg_none_of X G z9
  have e := hfa.symm.trans (PySem.W.mg_of X G a61)
  cases e
  refine ⟨PySem.W.fnOf "law" "law" (defArgs s_law) (defBody s_law) (defScope s_law) .none kV61 dc61 pm61 an61 cd61 ct61, fun s v => .of_eq rfl, fun base _ _ => ?_⟩
  have Q0 : CalM P w K mg base a_Loose "word" 1 ["self"] (C_Loose__word mg a_Loose) := cal_Loose__word D0 XX ⟨i0, m0, k0⟩  
  have Q1 : CalM P w K mg base a_Kept "word" 1 ["self"] (C_Kept__word mg a_Kept) := cal_Kept__word D1 XX ⟨i1, m1, k1⟩  
  have Q2 : CalM P w K mg base a_Make "word" 1 ["self"] (C_Make__word mg a_Make) := cal_Make__word D2 XX ⟨i2, m2, k2⟩  
  have Q3 : CalM P w K mg base a_Watch "word" 1 ["self"] (C_Watch__word mg a_Watch) := cal_Watch__word D3 XX ⟨i3, m3, k3⟩  
  have Q4 : CalM P w K mg base a_Hold "word" 1 ["self"] (C_Hold__word mg a_Hold) := cal_Hold__word D4 XX ⟨i4, m4, k4⟩  
  have Q5 : CalM P w K mg base a_Loose "stand" 1 ["self", "begin", "now"] (C_Loose__stand mg a_Loose) := cal_Loose__stand D5 XX ⟨i5, m5, k5⟩  
  have Q6 : CalM P w K mg base a_Kept "stand" 1 ["self", "begin", "now"] (C_Kept__stand mg a_Kept) := cal_Kept__stand D6 XX ⟨i6, m6, k6⟩  
  have Q7 : CalM P w K mg base a_Make "stand" 1 ["self", "begin", "now"] (C_Make__stand mg a_Make) := cal_Make__stand D7 XX ⟨i7, m7, k7⟩  
  have Q8 : CalM P w K mg base a_Watch "stand" 1 ["self", "begin", "now"] (C_Watch__stand mg a_Watch) := cal_Watch__stand D8 XX ⟨i8, m8, k8⟩  
  have Q9 : CalM P w K mg base a_Hold "stand" 1 ["self", "begin", "now"] (C_Hold__stand mg a_Hold) := cal_Hold__stand D9 XX ⟨i9, m9, k9⟩  
  have Q10 : CalX P w K mg base "level_of" 1 ["word"] (C_level_of mg) := cal_level_of D10 XX  
  have Q11 : Cal P w K mg base "_law_refused" 2 ["_law_word"] (C__law_refused mg) := cal__law_refused D11 XX Q10 y0 y1
  have Q12 : Cal P w K mg base "_law_cell" 1 ["_law_script", "_law_k"] (C__law_cell mg) := cal__law_cell D12 XX  y2
  have Q13 : Cal P w K mg base "_law_mix" 1 ["_law_cell_here", "_law_k"] (C__law_mix mg) := cal__law_mix D13 XX  
  have Q14 : Cal P w K mg base "_law_no_word" 1 ["_law_cell_here"] (C__law_no_word mg) := cal__law_no_word D14 XX  
  have Q15 : CalM P w K mg base a_Loose "look_spot" 1 ["self", "place"] (C_Loose__look_spot mg a_Loose) := cal_Loose__look_spot D15 XX ⟨i15, m15, k15⟩  
  have Q16 : CalM P w K mg base a_Kept "look_spot" 1 ["self", "place"] (C_Kept__look_spot mg a_Kept) := cal_Kept__look_spot D16 XX ⟨i16, m16, k16⟩  
  have Q17 : CalM P w K mg base a_Make "look_spot" 1 ["self", "place"] (C_Make__look_spot mg a_Make) := cal_Make__look_spot D17 XX ⟨i17, m17, k17⟩  
  have Q18 : CalM P w K mg base a_Watch "look_spot" 1 ["self", "place"] (C_Watch__look_spot mg a_Watch) := cal_Watch__look_spot D18 XX ⟨i18, m18, k18⟩  
  have Q19 : CalM P w K mg base a_Hold "look_spot" 1 ["self", "place"] (C_Hold__look_spot mg a_Hold) := cal_Hold__look_spot D19 XX ⟨i19, m19, k19⟩  
  have Q20 : CalM P w K mg base a_Loose "spots" 1 ["self", "looks"] (C_Loose__spots mg a_Loose) := cal_Loose__spots D20 XX ⟨i20, m20, k20⟩  
  have Q21 : CalM P w K mg base a_Kept "spots" 1 ["self", "looks"] (C_Kept__spots mg a_Kept) := cal_Kept__spots D21 XX ⟨i21, m21, k21⟩  
  have Q22 : CalM P w K mg base a_Make "spots" 1 ["self", "looks"] (C_Make__spots mg a_Make) := cal_Make__spots D22 XX ⟨i22, m22, k22⟩  
  have Q23 : CalM P w K mg base a_Watch "spots" 1 ["self", "looks"] (C_Watch__spots mg a_Watch) := cal_Watch__spots D23 XX ⟨i23, m23, k23⟩  
  have Q24 : CalM P w K mg base a_Hold "spots" 1 ["self", "looks"] (C_Hold__spots mg a_Hold) := cal_Hold__spots D24 XX ⟨i24, m24, k24⟩  
  have Q25 : CalM P w K mg base a_Loose "first_spot" 1 ["self", "looks"] (C_Loose__first_spot mg a_Loose) := cal_Loose__first_spot D25 XX ⟨i25, m25, k25⟩  
  have Q26 : CalM P w K mg base a_Kept "first_spot" 1 ["self", "looks"] (C_Kept__first_spot mg a_Kept) := cal_Kept__first_spot D26 XX ⟨i26, m26, k26⟩  
  have Q27 : CalM P w K mg base a_Make "first_spot" 1 ["self", "looks"] (C_Make__first_spot mg a_Make) := cal_Make__first_spot D27 XX ⟨i27, m27, k27⟩  
  have Q28 : CalM P w K mg base a_Watch "first_spot" 1 ["self", "looks"] (C_Watch__first_spot mg a_Watch) := cal_Watch__first_spot D28 XX ⟨i28, m28, k28⟩  
  have Q29 : CalM P w K mg base a_Hold "first_spot" 1 ["self", "looks"] (C_Hold__first_spot mg a_Hold) := cal_Hold__first_spot D29 XX ⟨i29, m29, k29⟩  
  have Q30 : Cal P w K mg base "_law_number" 1 ["_law_found", "_law_due"] (C__law_number mg) := cal__law_number D30 XX  y3 y4 y1
  have Q31 : Cal P w K mg base "_law_spots" 2 ["_law_level", "_law_word", "_law_looks", "_law_place"] (C__law_spots mg) := cal__law_spots D31 XX Q15 Q16 Q17 Q18 Q19 Q20 Q21 Q22 Q23 Q24 Q25 Q26 Q27 Q28 Q29 Q30 
  have Q32 : Cal P w K mg base "_law_kin" 1 ["_law_level"] (C__law_kin mg) := cal__law_kin D32 XX  y1
  have Q33 : CalM P w K mg base a_Loose "holds_asks" 1 ["self"] (C_Loose__holds_asks mg a_Loose) := cal_Loose__holds_asks D33 XX ⟨i33, m33, k33⟩  
  have Q34 : CalM P w K mg base a_Kept "holds_asks" 1 ["self"] (C_Kept__holds_asks mg a_Kept) := cal_Kept__holds_asks D34 XX ⟨i34, m34, k34⟩  
  have Q35 : CalM P w K mg base a_Make "holds_asks" 1 ["self"] (C_Make__holds_asks mg a_Make) := cal_Make__holds_asks D35 XX ⟨i35, m35, k35⟩  
  have Q36 : CalM P w K mg base a_Watch "holds_asks" 1 ["self"] (C_Watch__holds_asks mg a_Watch) := cal_Watch__holds_asks D36 XX ⟨i36, m36, k36⟩  
  have Q37 : CalM P w K mg base a_Hold "holds_asks" 1 ["self"] (C_Hold__holds_asks mg a_Hold) := cal_Hold__holds_asks D37 XX ⟨i37, m37, k37⟩  
  have Q38 : CalM P w K mg base a_Loose "watches" 1 ["self"] (C_Loose__watches mg a_Loose) := cal_Loose__watches D38 XX ⟨i38, m38, k38⟩  
  have Q39 : CalM P w K mg base a_Kept "watches" 1 ["self"] (C_Kept__watches mg a_Kept) := cal_Kept__watches D39 XX ⟨i39, m39, k39⟩  
  have Q40 : CalM P w K mg base a_Make "watches" 1 ["self"] (C_Make__watches mg a_Make) := cal_Make__watches D40 XX ⟨i40, m40, k40⟩  
  have Q41 : CalM P w K mg base a_Watch "watches" 1 ["self"] (C_Watch__watches mg a_Watch) := cal_Watch__watches D41 XX ⟨i41, m41, k41⟩  
  have Q42 : CalM P w K mg base a_Hold "watches" 1 ["self"] (C_Hold__watches mg a_Hold) := cal_Hold__watches D42 XX ⟨i42, m42, k42⟩  
  have Q43 : CalM P w K mg base a_Loose "late" 1 ["self", "begin", "stamp"] (C_Loose__late mg a_Loose) := cal_Loose__late D43 XX ⟨i43, m43, k43⟩  
  have Q44 : CalM P w K mg base a_Kept "late" 1 ["self", "begin", "stamp"] (C_Kept__late mg a_Kept) := cal_Kept__late D44 XX ⟨i44, m44, k44⟩  
  have Q45 : CalM P w K mg base a_Make "late" 1 ["self", "begin", "stamp"] (C_Make__late mg a_Make) := cal_Make__late D45 XX ⟨i45, m45, k45⟩  
  have Q46 : CalM P w K mg base a_Watch "late" 1 ["self", "begin", "stamp"] (C_Watch__late mg a_Watch) := cal_Watch__late D46 XX ⟨i46, m46, k46⟩  
  have Q47 : CalM P w K mg base a_Hold "late" 1 ["self", "begin", "stamp"] (C_Hold__late mg a_Hold) := cal_Hold__late D47 XX ⟨i47, m47, k47⟩  
  have Q48 : CalM P w K mg base a_Loose "unkept" 1 ["self"] (C_Loose__unkept mg a_Loose) := cal_Loose__unkept D48 XX ⟨i48, m48, k48⟩  
  have Q49 : CalM P w K mg base a_Kept "unkept" 1 ["self"] (C_Kept__unkept mg a_Kept) := cal_Kept__unkept D49 XX ⟨i49, m49, k49⟩  
  have Q50 : CalM P w K mg base a_Make "unkept" 1 ["self"] (C_Make__unkept mg a_Make) := cal_Make__unkept D50 XX ⟨i50, m50, k50⟩  
  have Q51 : CalM P w K mg base a_Watch "unkept" 1 ["self"] (C_Watch__unkept mg a_Watch) := cal_Watch__unkept D51 XX ⟨i51, m51, k51⟩  
  have Q52 : CalM P w K mg base a_Hold "unkept" 1 ["self"] (C_Hold__unkept mg a_Hold) := cal_Hold__unkept D52 XX ⟨i52, m52, k52⟩  
  have Q53 : Cal P w K mg base "_law_truth" 1 ["_law_found", "_law_due"] (C__law_truth mg) := cal__law_truth D53 XX  y3 y1
  have Q54 : Cal P w K mg base "_law_truths" 2 ["_law_level", "_law_word", "_law_begin", "_law_stamp"] (C__law_truths mg) := cal__law_truths D54 XX Q33 Q34 Q35 Q36 Q37 Q38 Q39 Q40 Q41 Q42 Q43 Q44 Q45 Q46 Q47 Q48 Q49 Q50 Q51 Q52 Q53 
  have Q55 : CalM P w K mg base a_Loose "stamps" 1 ["self", "begin", "stands", "end", "early"] (C_Loose__stamps mg a_Loose) := cal_Loose__stamps D55 XX ⟨i55, m55, k55⟩  
  have Q56 : CalM P w K mg base a_Kept "stamps" 1 ["self", "begin", "stands", "end", "early"] (C_Kept__stamps mg a_Kept) := cal_Kept__stamps D56 XX ⟨i56, m56, k56⟩  y5
  have Q57 : CalM P w K mg base a_Make "stamps" 1 ["self", "begin", "stands", "end", "early"] (C_Make__stamps mg a_Make) := cal_Make__stamps D57 XX ⟨i57, m57, k57⟩  
  have Q58 : CalM P w K mg base a_Watch "stamps" 1 ["self", "begin", "stands", "end", "early"] (C_Watch__stamps mg a_Watch) := cal_Watch__stamps D58 XX ⟨i58, m58, k58⟩  
  have Q59 : CalM P w K mg base a_Hold "stamps" 1 ["self", "begin", "stands", "end", "early"] (C_Hold__stamps mg a_Hold) := cal_Hold__stamps D59 XX ⟨i59, m59, k59⟩  
  have Q60 : Cal P w K mg base "_law_stamps" 2 ["_law_level", "_law_word", "_law_begin", "_law_stands", "_law_end", "_law_soon"] (C__law_stamps mg) := cal__law_stamps D60 XX Q55 Q56 Q57 Q58 Q59 Q30 y1 y2 y5 y6
  have Q61 : Cal P w K mg base "law" 3 ["_law_script"] C_law := cal_law D61 XX Q0 Q1 Q2 Q3 Q4 Q5 Q6 Q7 Q8 Q9 Q11 Q12 Q13 Q10 Q14 Q31 Q32 Q30 Q54 Q60 y1 y7 y8 y9
  obtain ⟨f, fd, G1, m1, _, _, _, _, _, lk⟩ := Q61
  have e2 := m1.symm.trans (PySem.W.mg_of X G a61)
  cases e2
  exact fn_same l61 lk G1
end Lw
open PySem PySem.W PyProof.Rows
set_option maxRecDepth 100000 in
set_option maxHeartbeats 0 in
theorem PySem.Challenge.cw_skewhouse_k40_the_tree_of_levels_holds : PySem.Challenge.rw_skewhouse_k40_the_tree_of_levels.Holds := by
  w_on; o_law; k_head; (case hw => w_witness2)
  k_fill
  refine SK.law_walk (l := PySem.Challenge.rw_skewhouse_k40_the_tree_of_levels) (lv := 3) rfl rfl ⟨rfl, by decide, by decide⟩ (fun w h Y => PySem.W.kIn_of Y) ?F
  case F =>
    intro w mg fa h KX G hmg
    refine' Lw.all_mk KX G hmg ?l0 ?c0 ?k0 ?i0 ?m0 ?l1 ?c1 ?k1 ?i1 ?m1 ?l2 ?c2 ?k2 ?i2 ?m2 ?l3 ?c3 ?k3 ?i3 ?m3 ?l4 ?c4 ?k4 ?i4 ?m4 ?l5 ?c5 ?k5 ?i5 ?m5 ?l6 ?c6 ?k6 ?i6 ?m6 ?l7 ?c7 ?k7 ?i7 ?m7 ?l8 ?c8 ?k8 ?i8 ?m8 ?l9 ?c9 ?k9 ?i9 ?m9 ?a10 ?l10 ?c10 ?k10 ?a11 ?l11 ?c11 ?k11 ?a12 ?l12 ?c12 ?k12 ?a13 ?l13 ?c13 ?k13 ?a14 ?l14 ?c14 ?k14 ?l15 ?c15 ?k15 ?i15 ?m15 ?l16 ?c16 ?k16 ?i16 ?m16 ?l17 ?c17 ?k17 ?i17 ?m17 ?l18 ?c18 ?k18 ?i18 ?m18 ?l19 ?c19 ?k19 ?i19 ?m19 ?l20 ?c20 ?k20 ?i20 ?m20 ?l21 ?c21 ?k21 ?i21 ?m21 ?l22 ?c22 ?k22 ?i22 ?m22 ?l23 ?c23 ?k23 ?i23 ?m23 ?l24 ?c24 ?k24 ?i24 ?m24 ?l25 ?c25 ?k25 ?i25 ?m25 ?l26 ?c26 ?k26 ?i26 ?m26 ?l27 ?c27 ?k27 ?i27 ?m27 ?l28 ?c28 ?k28 ?i28 ?m28 ?l29 ?c29 ?k29 ?i29 ?m29 ?a30 ?l30 ?c30 ?k30 ?a31 ?l31 ?c31 ?k31 ?a32 ?l32 ?c32 ?k32 ?l33 ?c33 ?k33 ?i33 ?m33 ?l34 ?c34 ?k34 ?i34 ?m34 ?l35 ?c35 ?k35 ?i35 ?m35 ?l36 ?c36 ?k36 ?i36 ?m36 ?l37 ?c37 ?k37 ?i37 ?m37 ?l38 ?c38 ?k38 ?i38 ?m38 ?l39 ?c39 ?k39 ?i39 ?m39 ?l40 ?c40 ?k40 ?i40 ?m40 ?l41 ?c41 ?k41 ?i41 ?m41 ?l42 ?c42 ?k42 ?i42 ?m42 ?l43 ?c43 ?k43 ?i43 ?m43 ?l44 ?c44 ?k44 ?i44 ?m44 ?l45 ?c45 ?k45 ?i45 ?m45 ?l46 ?c46 ?k46 ?i46 ?m46 ?l47 ?c47 ?k47 ?i47 ?m47 ?l48 ?c48 ?k48 ?i48 ?m48 ?l49 ?c49 ?k49 ?i49 ?m49 ?l50 ?c50 ?k50 ?i50 ?m50 ?l51 ?c51 ?k51 ?i51 ?m51 ?l52 ?c52 ?k52 ?i52 ?m52 ?a53 ?l53 ?c53 ?k53 ?a54 ?l54 ?c54 ?k54 ?l55 ?c55 ?k55 ?i55 ?m55 ?l56 ?c56 ?k56 ?i56 ?m56 ?l57 ?c57 ?k57 ?i57 ?m57 ?l58 ?c58 ?k58 ?i58 ?m58 ?l59 ?c59 ?k59 ?i59 ?m59 ?a60 ?l60 ?c60 ?k60 ?a61 ?l61 ?c61 ?k61 ?z0 ?z1 ?z2 ?z3 ?z4 ?z5 ?z6 ?z7 ?z8 ?z9 ?n_SkewError ?n_NoLevel ?q_NoLevel ?k_NoLevel ?b_NoLevel ?t_NoLevel ?hg_NoLevel ?hk_NoLevel ?hd_NoLevel ?ha_NoLevel ?hm_NoLevel ?hn__ ?ht__ ?ki_NoLevel_NoLevel ?kt_NoLevel_ValueError ?b_SkewError ?t_SkewError ?hd_SkewError ?sb_NoLevel_SkewError ?n_Loose ?rp_Loose ?rd_Loose ?ro_Loose ?rs_Loose ?rm_Loose ?ri_Loose ?rk_Loose ?n_Kept ?rp_Kept ?rd_Kept ?ro_Kept ?rs_Kept ?rm_Kept ?ri_Kept ?rk_Kept ?n_Make ?rp_Make ?rd_Make ?ro_Make ?rs_Make ?rm_Make ?ri_Make ?rk_Make ?n_Watch ?rp_Watch ?rd_Watch ?ro_Watch ?rs_Watch ?rm_Watch ?ri_Watch ?rk_Watch ?n_Hold ?rp_Hold ?rd_Hold ?ro_Hold ?rs_Hold ?rm_Hold ?ri_Hold ?rk_Hold ?rh_Loose ?ro2_Loose ?ki_Loose_Hold ?ki_Loose_Loose ?ki_Loose_Kept ?ki_Loose_Watch ?ki_Loose_Make ?rh_Kept ?ro2_Kept ?ki_Kept_Hold ?ki_Kept_Loose ?ki_Kept_Kept ?ki_Kept_Watch ?ki_Kept_Make ?rh_Make ?ro2_Make ?ki_Make_Hold ?ki_Make_Loose ?ki_Make_Kept ?ki_Make_Watch ?ki_Make_Make ?rh_Watch ?ro2_Watch ?ki_Watch_Hold ?ki_Watch_Loose ?ki_Watch_Kept ?ki_Watch_Watch ?ki_Watch_Make ?rh_Hold ?ro2_Hold ?ki_Hold_Hold ?ki_Hold_Loose ?ki_Hold_Kept ?ki_Hold_Watch ?ki_Hold_Make
    (case n_Loose => k_is)
    (case n_Kept => k_is)
    (case n_Make => k_is)
    (case n_Watch => k_is)
    (case n_Hold => k_is)
    (case i0 => k_is)
    (case i1 => k_is)
    (case i2 => k_is)
    (case i3 => k_is)
    (case i4 => k_is)
    (case i5 => k_is)
    (case i6 => k_is)
    (case i7 => k_is)
    (case i8 => k_is)
    (case i9 => k_is)
    (case i15 => k_is)
    (case i16 => k_is)
    (case i17 => k_is)
    (case i18 => k_is)
    (case i19 => k_is)
    (case i20 => k_is)
    (case i21 => k_is)
    (case i22 => k_is)
    (case i23 => k_is)
    (case i24 => k_is)
    (case i25 => k_is)
    (case i26 => k_is)
    (case i27 => k_is)
    (case i28 => k_is)
    (case i29 => k_is)
    (case i33 => k_is)
    (case i34 => k_is)
    (case i35 => k_is)
    (case i36 => k_is)
    (case i37 => k_is)
    (case i38 => k_is)
    (case i39 => k_is)
    (case i40 => k_is)
    (case i41 => k_is)
    (case i42 => k_is)
    (case i43 => k_is)
    (case i44 => k_is)
    (case i45 => k_is)
    (case i46 => k_is)
    (case i47 => k_is)
    (case i48 => k_is)
    (case i49 => k_is)
    (case i50 => k_is)
    (case i51 => k_is)
    (case i52 => k_is)
    (case i55 => k_is)
    (case i56 => k_is)
    (case i57 => k_is)
    (case i58 => k_is)
    (case i59 => k_is)
    (case l0 => k_is)
    (case c0 => k_is)
    (case k0 => k_is)
    (case m0 => k_is)
    (case l1 => k_is)
    (case c1 => k_is)
    (case k1 => k_is)
    (case m1 => k_is)
    (case l2 => k_is)
    (case c2 => k_is)
    (case k2 => k_is)
    (case m2 => k_is)
    (case l3 => k_is)
    (case c3 => k_is)
    (case k3 => k_is)
    (case m3 => k_is)
    (case l4 => k_is)
    (case c4 => k_is)
    (case k4 => k_is)
    (case m4 => k_is)
    (case l5 => k_is)
    (case c5 => k_is)
    (case k5 => k_is)
    (case m5 => k_is)
    (case l6 => k_is)
    (case c6 => k_is)
    (case k6 => k_is)
    (case m6 => k_is)
    (case l7 => k_is)
    (case c7 => k_is)
    (case k7 => k_is)
    (case m7 => k_is)
    (case l8 => k_is)
    (case c8 => k_is)
    (case k8 => k_is)
    (case m8 => k_is)
    (case l9 => k_is)
    (case c9 => k_is)
    (case k9 => k_is)
    (case m9 => k_is)
    (case a10 => k_is)
    (case l10 => k_is)
    (case c10 => k_is)
    (case k10 => k_is)
    (case a11 => k_is)
    (case l11 => k_is)
    (case c11 => k_is)
    (case k11 => k_is)
    (case a12 => k_is)
    (case l12 => k_is)
    (case c12 => k_is)
    (case k12 => k_is)
    (case a13 => k_is)
    (case l13 => k_is)
    (case c13 => k_is)
    (case k13 => k_is)
    (case a14 => k_is)
    (case l14 => k_is)
    (case c14 => k_is)
    (case k14 => k_is)
    (case l15 => k_is)
    (case c15 => k_is)
    (case k15 => k_is)
    (case m15 => k_is)
    (case l16 => k_is)
    (case c16 => k_is)
    (case k16 => k_is)
    (case m16 => k_is)
    (case l17 => k_is)
    (case c17 => k_is)
    (case k17 => k_is)
    (case m17 => k_is)
    (case l18 => k_is)
    (case c18 => k_is)
    (case k18 => k_is)
    (case m18 => k_is)
    (case l19 => k_is)
    (case c19 => k_is)
    (case k19 => k_is)
    (case m19 => k_is)
    (case l20 => k_is)
    (case c20 => k_is)
    (case k20 => k_is)
    (case m20 => k_is)
    (case l21 => k_is)
    (case c21 => k_is)
    (case k21 => k_is)
    (case m21 => k_is)
    (case l22 => k_is)
    (case c22 => k_is)
    (case k22 => k_is)
    (case m22 => k_is)
    (case l23 => k_is)
    (case c23 => k_is)
    (case k23 => k_is)
    (case m23 => k_is)
    (case l24 => k_is)
    (case c24 => k_is)
    (case k24 => k_is)
    (case m24 => k_is)
    (case l25 => k_is)
    (case c25 => k_is)
    (case k25 => k_is)
    (case m25 => k_is)
    (case l26 => k_is)
    (case c26 => k_is)
    (case k26 => k_is)
    (case m26 => k_is)
    (case l27 => k_is)
    (case c27 => k_is)
    (case k27 => k_is)
    (case m27 => k_is)
    (case l28 => k_is)
    (case c28 => k_is)
    (case k28 => k_is)
    (case m28 => k_is)
    (case l29 => k_is)
    (case c29 => k_is)
    (case k29 => k_is)
    (case m29 => k_is)
    (case a30 => k_is)
    (case l30 => k_is)
    (case c30 => k_is)
    (case k30 => k_is)
    (case a31 => k_is)
    (case l31 => k_is)
    (case c31 => k_is)
    (case k31 => k_is)
    (case a32 => k_is)
    (case l32 => k_is)
    (case c32 => k_is)
    (case k32 => k_is)
    (case l33 => k_is)
    (case c33 => k_is)
    (case k33 => k_is)
    (case m33 => k_is)
    (case l34 => k_is)
    (case c34 => k_is)
    (case k34 => k_is)
    (case m34 => k_is)
    (case l35 => k_is)
    (case c35 => k_is)
    (case k35 => k_is)
    (case m35 => k_is)
    (case l36 => k_is)
    (case c36 => k_is)
    (case k36 => k_is)
    (case m36 => k_is)
    (case l37 => k_is)
    (case c37 => k_is)
    (case k37 => k_is)
    (case m37 => k_is)
    (case l38 => k_is)
    (case c38 => k_is)
    (case k38 => k_is)
    (case m38 => k_is)
    (case l39 => k_is)
    (case c39 => k_is)
    (case k39 => k_is)
    (case m39 => k_is)
    (case l40 => k_is)
    (case c40 => k_is)
    (case k40 => k_is)
    (case m40 => k_is)
    (case l41 => k_is)
    (case c41 => k_is)
    (case k41 => k_is)
    (case m41 => k_is)
    (case l42 => k_is)
    (case c42 => k_is)
    (case k42 => k_is)
    (case m42 => k_is)
    (case l43 => k_is)
    (case c43 => k_is)
    (case k43 => k_is)
    (case m43 => k_is)
    (case l44 => k_is)
    (case c44 => k_is)
    (case k44 => k_is)
    (case m44 => k_is)
    (case l45 => k_is)
    (case c45 => k_is)
    (case k45 => k_is)
    (case m45 => k_is)
    (case l46 => k_is)
    (case c46 => k_is)
    (case k46 => k_is)
    (case m46 => k_is)
    (case l47 => k_is)
    (case c47 => k_is)
    (case k47 => k_is)
    (case m47 => k_is)
    (case l48 => k_is)
    (case c48 => k_is)
    (case k48 => k_is)
    (case m48 => k_is)
    (case l49 => k_is)
    (case c49 => k_is)
    (case k49 => k_is)
    (case m49 => k_is)
    (case l50 => k_is)
    (case c50 => k_is)
    (case k50 => k_is)
    (case m50 => k_is)
    (case l51 => k_is)
    (case c51 => k_is)
    (case k51 => k_is)
    (case m51 => k_is)
    (case l52 => k_is)
    (case c52 => k_is)
    (case k52 => k_is)
    (case m52 => k_is)
    (case a53 => k_is)
    (case l53 => k_is)
    (case c53 => k_is)
    (case k53 => k_is)
    (case a54 => k_is)
    (case l54 => k_is)
    (case c54 => k_is)
    (case k54 => k_is)
    (case l55 => k_is)
    (case c55 => k_is)
    (case k55 => k_is)
    (case m55 => k_is)
    (case l56 => k_is)
    (case c56 => k_is)
    (case k56 => k_is)
    (case m56 => k_is)
    (case l57 => k_is)
    (case c57 => k_is)
    (case k57 => k_is)
    (case m57 => k_is)
    (case l58 => k_is)
    (case c58 => k_is)
    (case k58 => k_is)
    (case m58 => k_is)
    (case l59 => k_is)
    (case c59 => k_is)
    (case k59 => k_is)
    (case m59 => k_is)
    (case a60 => k_is)
    (case l60 => k_is)
    (case c60 => k_is)
    (case k60 => k_is)
    (case a61 => k_is)
    (case l61 => k_is)
    (case c61 => k_is)
    (case k61 => k_is)
    (case z0 => k_is)
    (case z1 => k_is)
    (case z2 => k_is)
    (case z3 => k_is)
    (case z4 => k_is)
    (case z5 => k_is)
    (case z6 => k_is)
    (case z7 => k_is)
    (case z8 => k_is)
    (case z9 => k_is)
    (case n_SkewError => k_is)
    (case n_NoLevel => k_is)
    (case q_NoLevel => first | k_is | k_exc)
    (case k_NoLevel => k_is)
    (case b_NoLevel => k_is)
    (case t_NoLevel => k_is)
    (case hg_NoLevel => k_is)
    (case hk_NoLevel => k_is)
    (case hd_NoLevel => k_is)
    (case ha_NoLevel => k_is)
    (case hm_NoLevel => k_is)
    (case hn__ => k_is)
    (case ht__ => k_is)
    (case ki_NoLevel_NoLevel => kit_is)
    (case kt_NoLevel_ValueError => kit_is)
    (case b_SkewError => k_is)
    (case t_SkewError => k_is)
    (case hd_SkewError => k_is)
    (case sb_NoLevel_SkewError => k_is)
    (case rp_Loose => k_is)
    (case rd_Loose => k_is)
    (case ro_Loose => k_is)
    (case rs_Loose => k_is)
    (case rm_Loose => k_is)
    (case ri_Loose => k_is)
    (case rk_Loose => k_is)
    (case rp_Kept => k_is)
    (case rd_Kept => k_is)
    (case ro_Kept => k_is)
    (case rs_Kept => k_is)
    (case rm_Kept => k_is)
    (case ri_Kept => k_is)
    (case rk_Kept => k_is)
    (case rp_Make => k_is)
    (case rd_Make => k_is)
    (case ro_Make => k_is)
    (case rs_Make => k_is)
    (case rm_Make => k_is)
    (case ri_Make => k_is)
    (case rk_Make => k_is)
    (case rp_Watch => k_is)
    (case rd_Watch => k_is)
    (case ro_Watch => k_is)
    (case rs_Watch => k_is)
    (case rm_Watch => k_is)
    (case ri_Watch => k_is)
    (case rk_Watch => k_is)
    (case rp_Hold => k_is)
    (case rd_Hold => k_is)
    (case ro_Hold => k_is)
    (case rs_Hold => k_is)
    (case rm_Hold => k_is)
    (case ri_Hold => k_is)
    (case rk_Hold => k_is)
    (case rh_Loose => k_is)
    (case ro2_Loose => k_is)
    (case ki_Loose_Hold => kit_is)
    (case ki_Loose_Loose => kit_is)
    (case ki_Loose_Kept => kit_is)
    (case ki_Loose_Watch => kit_is)
    (case ki_Loose_Make => kit_is)
    (case rh_Kept => k_is)
    (case ro2_Kept => k_is)
    (case ki_Kept_Hold => kit_is)
    (case ki_Kept_Loose => kit_is)
    (case ki_Kept_Kept => kit_is)
    (case ki_Kept_Watch => kit_is)
    (case ki_Kept_Make => kit_is)
    (case rh_Make => k_is)
    (case ro2_Make => k_is)
    (case ki_Make_Hold => kit_is)
    (case ki_Make_Loose => kit_is)
    (case ki_Make_Kept => kit_is)
    (case ki_Make_Watch => kit_is)
    (case ki_Make_Make => kit_is)
    (case rh_Watch => k_is)
    (case ro2_Watch => k_is)
    (case ki_Watch_Hold => kit_is)
    (case ki_Watch_Loose => kit_is)
    (case ki_Watch_Kept => kit_is)
    (case ki_Watch_Watch => kit_is)
    (case ki_Watch_Make => kit_is)
    (case rh_Hold => k_is)
    (case ro2_Hold => k_is)
    (case ki_Hold_Hold => kit_is)
    (case ki_Hold_Loose => kit_is)
    (case ki_Hold_Kept => kit_is)
    (case ki_Hold_Watch => kit_is)
    (case ki_Hold_Make => kit_is)
