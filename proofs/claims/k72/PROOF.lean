import PyProof.Rows.All
import Wide.All
import OpenK.AllK
import Wide.FinOn
import HandS.ForMost
import HandS.ForExc
import HandS.ExcIs
import HandS.ExcField
import HandS.ExcInit
import HandS.TryMany
import HandS.TryElse
import HandS.SuiteRaise
import HandS.RaiseMore
import HandS.Wide
import HandS.DictComp
import HandS.IsInst
import HandS.EndBits
import KE.KExcIs
import KE.IntTextLaws
import HandS.Replace
import HandS.Zip
import HandS.SortKw
import KE.DataMinMax
import KE.KRevIter
import KE.KDictList
import HandS.Rev
import HandS.Iter
import HandS.SetKeys
import HandS.SortInts
import HandS.TupLe
import HandS.SetFor
import HandS.Strs
import KE.KUnpack
import HandS.TupSets
import KE.SortKeyHeap
import HandS.RevRange
import HandS.CallSlots
import HandS.Defaults
import KE.DataCmp
import PySem.Challenge.RW_skewhouse_k72_all_weavings
set_option Elab.async false
set_option linter.all false
set_option maxRecDepth 100000
set_option maxHeartbeats 4000000
namespace SK
open PySem PySem.Spec PyProof.Rows L2
inductive D where
  | non | bl (b : Bool) | int (i : Int) | str (s : Str) | ref (a : Addr) | ty (n : String)
  | tup (xs : List D) | lst (xs : List D) | sq (xs : List D) | dic (kvs : List (Key × D)) | dit (kvs : List (List Key × D)) | ins (C : Addr) (fs : List (Str × D))
inductive O where
  | d (x : D) | ol (xs : List O) | od (kvs : List (Key × O)) | ot (kvs : List (List Key × O)) | oi (a C : Addr) (fs : List (Str × O)) | op (xs : List O) | atA (a : Addr) (o : O)
mutual
inductive R (K : PySem.W.Frag) (B : Hp) : V → D → Prop
  | non : R K B .non .non
  | bl {b} : R K B (.bl b) (.bl b)
  | int {i} : R K B (.int i) (.int i)
  | str {s} : R K B (.str s) (.str s)
  | ref {a} : R K B (.ref a) (.ref a)
  | ty {n} : R K B (.ty n) (.ty n)
  | tup {a vs xs} : SqT K B a vs → RL K B vs xs → R K B (.ref a) (.tup xs)
  | lst {a vs xs} : B a = some (.lst vs) → RL K B vs xs → R K B (.ref a) (.lst xs)
  | sq {a vs xs} : SqL K B a vs → RL K B vs xs → R K B (.ref a) (.sq xs)
  | dic {a ws kvs} : Rd B a (.dK ws) → (kvs.map (·.1)).Nodup → RK K B ws kvs → R K B (.ref a) (.dic kvs)
  | dit {a ws kvs} : Rd B a (.dT ws) → (kvs.map (·.1)).Nodup → RT K B ws kvs → R K B (.ref a) (.dit kvs)
  | ins {a C dx ws fs} : B a = some (.ins C dx ws) → RF K B ws fs → R K B (.ref a) (.ins C fs)
inductive RL (K : PySem.W.Frag) (B : Hp) : List V → List D → Prop
  | nil : RL K B [] []
  | cons {v x vs xs} : R K B v x → RL K B vs xs → RL K B (v :: vs) (x :: xs)
inductive RK (K : PySem.W.Frag) (B : Hp) : List (Key × V) → List (Key × D) → Prop
  | nil : RK K B [] []
  | cons {k v x vs xs} : R K B v x → RK K B vs xs → RK K B ((k, v) :: vs) ((k, x) :: xs)
inductive RT (K : PySem.W.Frag) (B : Hp) : List (List Key × V) → List (List Key × D) → Prop
  | nil : RT K B [] []
  | cons {k v x vs xs} : R K B v x → RT K B vs xs → RT K B ((k, v) :: vs) ((k, x) :: xs)
inductive RF (K : PySem.W.Frag) (B : Hp) : List (Str × V) → List (Str × D) → Prop
  | nil : RF K B [] []
  | cons {k v x vs xs} : R K B v x → RF K B vs xs → RF K B ((k, v) :: vs) ((k, x) :: xs)
end
/-- what pure data lean on stays -/
structure BLe (B B' : Hp) : Prop where
  tup : ∀ a xs, Rd B a (.tup xs) → Rd B' a (.tup xs)
  lst : ∀ a xs, Rd B a (.lst xs) → Rd B' a (.lst xs)
  ls : ∀ a xs, B a = some (.lst xs) → B' a = some (.lst xs)
  dK : ∀ a xs, Rd B a (.dK xs) → Rd B' a (.dK xs)
  dT : ∀ a xs, Rd B a (.dT xs) → Rd B' a (.dT xs)
  ins : ∀ a C dx fs, B a = some (.ins C dx fs) → B' a = some (.ins C dx fs)
def Ex (H H' : Hp) : Prop := ∀ a o, H a = some o → H' a = some o
theorem Ex.refl (H : Hp) : Ex H H := fun _ _ h => h
theorem Ex.trans {H H1 H2 : Hp} (a : Ex H H1) (b : Ex H1 H2) : Ex H H2 := fun x o h => b x o (a x o h)
theorem Ex.rd {H H' : Hp} (e : Ex H H') {a : Addr} {u : HO} (h : Rd H a u) : Rd H' a u := by
  rcases h with h | ⟨o, h⟩
  · exact .inl (e _ _ h)
  · exact .inr ⟨o, e _ _ h⟩
theorem Ex.back {H H' : Hp} (e : Ex H H') {a : Addr} (h : H' a = none) : H a = none := by
  cases q : H a with
  | none => rfl
  | some o => rw [e a o q] at h; cases h
theorem Ex.new {H : Hp} {p : Addr} {o : HO} (h : H p = none) : Ex H (upd H p o) := fun a u e => by
  rw [upd_ne (ne_of_none e h)]; exact e
theorem BLe.of_ex {B B' : Hp} (e : Ex B B') : BLe B B' := ⟨fun _ _ h => e.rd h, fun _ _ h => e.rd h, fun _ _ h => e _ _ h, fun _ _ h => e.rd h, fun _ _ h => e.rd h, fun _ _ _ _ h => e _ _ h⟩
theorem BLe.refl (B : Hp) : BLe B B := .of_ex (.refl B)
theorem BLe.trans {B B1 B2 : Hp} (a : BLe B B1) (b : BLe B1 B2) : BLe B B2 :=
  ⟨fun _ _ h => b.tup _ _ (a.tup _ _ h), fun _ _ h => b.lst _ _ (a.lst _ _ h), fun _ _ h => b.ls _ _ (a.ls _ _ h), fun _ _ h => b.dK _ _ (a.dK _ _ h), fun _ _ h => b.dT _ _ (a.dT _ _ h), fun _ _ _ _ h => b.ins _ _ _ _ (a.ins _ _ _ _ h)⟩
theorem BLe.sqT {K : PySem.W.Frag} {B B' : Hp} (e : BLe B B') {a : Addr} {xs : List V} (h : SqT K B a xs) : SqT K B' a xs := h.imp (e.tup _ _) id
theorem BLe.sqL {K : PySem.W.Frag} {B B' : Hp} (e : BLe B B') {a : Addr} {xs : List V} (h : SqL K B a xs) : SqL K B' a xs := h.imp (e.lst _ _) id
section
variable {K : PySem.W.Frag} {B B' : Hp}
mutual
theorem R.mono (e : BLe B B') : ∀ {v : V} {x : D}, R K B v x → R K B' v x
  | _, _, .non => .non
  | _, _, .bl => .bl
  | _, _, .int => .int
  | _, _, .str => .str
  | _, _, .ref => .ref
  | _, _, .ty => .ty
  | _, _, .tup h r => .tup (e.sqT h) (RL.mono e r)
  | _, _, .lst h r => .lst (e.ls _ _ h) (RL.mono e r)
  | _, _, .sq h r => .sq (e.sqL h) (RL.mono e r)
  | _, _, .dic h n r => .dic (e.dK _ _ h) n (RK.mono e r)
  | _, _, .dit h n r => .dit (e.dT _ _ h) n (RT.mono e r)
  | _, _, .ins h r => .ins (e.ins _ _ _ _ h) (RF.mono e r)
theorem RL.mono (e : BLe B B') : ∀ {v : List V} {x : List D}, RL K B v x → RL K B' v x
  | _, _, .nil => .nil
  | _, _, .cons h r => .cons (R.mono e h) (RL.mono e r)
theorem RK.mono (e : BLe B B') : ∀ {v : List (Key × V)} {x : List (Key × D)}, RK K B v x → RK K B' v x
  | _, _, .nil => .nil
  | _, _, .cons h r => .cons (R.mono e h) (RK.mono e r)
theorem RT.mono (e : BLe B B') : ∀ {v : List (List Key × V)} {x : List (List Key × D)}, RT K B v x → RT K B' v x
  | _, _, .nil => .nil
  | _, _, .cons h r => .cons (R.mono e h) (RT.mono e r)
theorem RF.mono (e : BLe B B') : ∀ {v : List (Str × V)} {x : List (Str × D)}, RF K B v x → RF K B' v x
  | _, _, .nil => .nil
  | _, _, .cons h r => .cons (R.mono e h) (RF.mono e r)
end
end
end SK
namespace SK
open PySem PySem.Spec PyProof.Rows L2
abbrev Ad := Addr → Prop
mutual
inductive RO (K : PySem.W.Frag) (B H : Hp) : Ad → V → O → Prop
  | d {S : Ad} {v x} : R K B v x → RO K B H S v (.d x)
  | ol {S S' : Ad} {a vs xs} : S a → (∀ b, S' b → S b) → ¬ S' a → H a = some (.lst vs) → RS K B H S' (vs.map some) (xs.map some) → RO K B H S (.ref a) (.ol xs)
  | od {S S' : Ad} {a ws kvs} : S a → (∀ b, S' b → S b) → ¬ S' a → H a = some (.dK ws) → (kvs.map (·.1)).Nodup → ws.map (·.1) = kvs.map (·.1) → RS K B H S' (ws.map fun p => some p.2) (kvs.map fun p => some p.2) → RO K B H S (.ref a) (.od kvs)
  | ot {S S' : Ad} {a ws kvs} : S a → (∀ b, S' b → S b) → ¬ S' a → H a = some (.dT ws) → (kvs.map (·.1)).Nodup → ws.map (·.1) = kvs.map (·.1) → RS K B H S' (ws.map fun p => some p.2) (kvs.map fun p => some p.2) → RO K B H S (.ref a) (.ot kvs)
  | oi {S S' : Ad} {a dx C ws kvs} : S a → S dx → (∀ b, S' b → S b) → ¬ S' a → ¬ S' dx → a ≠ dx → H a = some (.ins C dx ws) → H dx = some (.own a) → ws.map (·.1) = kvs.map (·.1) → RS K B H S' (ws.map fun p => some p.2) (kvs.map fun p => some p.2) → RO K B H S (.ref a) (.oi a C kvs)
  | op {S : Ad} {a vs xs} : SqT K B a vs → RS K B H S (vs.map some) (xs.map some) → RO K B H S (.ref a) (.op xs)
  | atA {S : Ad} {a o} : RO K B H S (.ref a) o → RO K B H S (.ref a) (.atA a o)
inductive RS (K : PySem.W.Frag) (B H : Hp) : Ad → List (Option V) → List (Option O) → Prop
  | nil {S : Ad} : RS K B H S [] []
  | un {S : Ad} {v σ Γ} : RS K B H S σ Γ → RS K B H S (v :: σ) (none :: Γ)
  | cons {S S1 S2 : Ad} {v o σ Γ} : (∀ b, S1 b → S b) → (∀ b, S2 b → S b) → (∀ b, S1 b → ¬ S2 b) → RO K B H S1 v o → RS K B H S2 σ Γ → RS K B H S (some v :: σ) (some o :: Γ)
end
section
variable {K : PySem.W.Frag} {B B' H H' : Hp}
mutual
theorem RO.tr (e : BLe B B') : ∀ {S S' : Ad} {v : V} {o : O}, (∀ a, S a → S' a) → (∀ a u, S a → H a = some u → H' a = some u) → RO K B H S v o → RO K B' H' S' v o
  | _, _, _, _, _, _, .d r => .d (r.mono e)
  | _, _, _, _, s, k, .ol ha hs hn h r => .ol (s _ ha) (fun b z => s b (hs b z)) hn (k _ _ ha h) (RS.tr e (fun _ z => z) (fun b u z => k b u (hs b z)) r)
  | _, _, _, _, s, k, .od ha hs hn h nd q r => .od (s _ ha) (fun b z => s b (hs b z)) hn (k _ _ ha h) nd q (RS.tr e (fun _ z => z) (fun b u z => k b u (hs b z)) r)
  | _, _, _, _, s, k, .ot ha hs hn h nd q r => .ot (s _ ha) (fun b z => s b (hs b z)) hn (k _ _ ha h) nd q (RS.tr e (fun _ z => z) (fun b u z => k b u (hs b z)) r)
  | _, _, _, _, s, k, .oi ha hd hs hn hn2 ne h h2 q r => .oi (s _ ha) (s _ hd) (fun b z => s b (hs b z)) hn hn2 ne (k _ _ ha h) (k _ _ hd h2) q (RS.tr e (fun _ z => z) (fun b u z => k b u (hs b z)) r)
  | _, _, _, _, s, k, .op h r => .op (e.sqT h) (RS.tr e s k r)
  | _, _, _, _, s, k, .atA r => .atA (RO.tr e s k r)
theorem RS.tr (e : BLe B B') : ∀ {S S' : Ad} {σ : List (Option V)} {Γ : List (Option O)}, (∀ a, S a → S' a) → (∀ a u, S a → H a = some u → H' a = some u) → RS K B H S σ Γ → RS K B' H' S' σ Γ
  | _, _, _, _, _, _, .nil => .nil
  | _, _, _, _, s, k, .un r => .un (RS.tr e s k r)
  | _, _, _, _, s, k, .cons s1 s2 dj h r => .cons (fun b z => s b (s1 b z)) (fun b z => s b (s2 b z)) dj (RO.tr e (fun _ z => z) (fun b u z => k b u (s1 b z)) h) (RS.tr e (fun _ z => z) (fun b u z => k b u (s2 b z)) r)
end
end
/-- the i-th thing, and the others for any other thing in its place -/
theorem RS.focus {K : PySem.W.Frag} {B H : Hp} {o : O} : ∀ {σ : List (Option V)} {Γ : List (Option O)} {S : Ad} {i : Nat}, RS K B H S σ Γ → Γ[i]? = some (some o) →
    ∃ (v : V) (S1 S2 : Ad), σ[i]? = some (some v) ∧ (∀ b, S1 b → S b) ∧ (∀ b, S2 b → S b) ∧ (∀ b, S1 b → ¬ S2 b) ∧ RO K B H S1 v o ∧
      ∀ (B' H' : Hp) (S1' : Ad) (v' : Option V) (o' : Option O), BLe B B' → (∀ b u, S2 b → H b = some u → H' b = some u) → (∀ b, S1' b → ¬ S2 b) → (∀ x, o' = some x → ∃ w, v' = some w ∧ RO K B' H' S1' w x) →
        RS K B' H' (fun b => S1' b ∨ S2 b) (σ.set i v') (Γ.set i o') := by
  intro σ Γ
  induction Γ generalizing σ with
  | nil => intro S i _ h; simp at h
  | cons g Γ ih =>
    intro S i r h
    cases i with
    | zero =>
      rw [List.getElem?_cons_zero] at h
      cases h
      cases r with
      | cons s1 s2 dj h r =>
        refine ⟨_, _, _, rfl, s1, s2, dj, h, fun B' H' S1' v' o' e k dj' q => ?_⟩
        rw [List.set_cons_zero, List.set_cons_zero]
        cases o' with
        | none => exact .un (r.tr e (fun _ z => .inr z) k)
        | some x =>
          obtain ⟨w, rfl, q2⟩ := q x rfl
          exact .cons (fun _ z => .inl z) (fun _ z => .inr z) dj' q2 (r.tr e (fun _ z => z) k)
    | succ i =>
      rw [List.getElem?_cons_succ] at h
      cases r with
      | un r =>
        obtain ⟨v, S1, S2, a, b, c, d, e, f⟩ := ih r h
        refine ⟨v, S1, S2, by rw [List.getElem?_cons_succ]; exact a, b, c, d, e, fun B' H' S1' v' o' e k dj' q => ?_⟩
        rw [List.set_cons_succ, List.set_cons_succ]
        exact .un (f B' H' S1' v' o' e k dj' q)
      | @cons _ T1 T2 _ _ _ _ s1 s2 dj h0 r =>
        obtain ⟨v, S1, S2, a, b, c, d, e, f⟩ := ih r h
        refine ⟨v, S1, fun x => T1 x ∨ S2 x, by rw [List.getElem?_cons_succ]; exact a, fun x z => s2 x (b x z), fun x z => z.elim (s1 x) (fun z => s2 x (c x z)), fun x z w => w.elim (fun w => dj x w (b x z)) (fun w => d x z w), e, fun B' H' S1' v' o' e k dj' q => ?_⟩
        rw [List.set_cons_succ, List.set_cons_succ]
        refine .cons (S1 := T1) (S2 := fun x => S1' x ∨ S2 x) (fun x z => .inr (.inl z)) (fun x z => z.imp id .inr) (fun x z w => w.elim (fun w => dj' x w (.inl z)) fun w => dj x z (c x w)) (h0.tr e (fun _ z => z) fun x u z => k x u (.inl z)) ?_
        exact f B' H' S1' v' o' e (fun x u z => k x u (.inr z)) (fun x z w => dj' x z (.inr w)) q
/-- the things at hand: τ what is held meanwhile, σ the slots -/
structure HW (K : PySem.W.Frag) (F B0 : Hp) (τ : List V) (T : List O) (σ : L2.St) (Γ : List (Option O)) (H B : Hp) (S : Ad) : Prop where
  fr : Ex F H
  pu : Ex B H
  b0 : BLe B0 B
  ow : ∀ a, S a → F a = none ∧ B a = none ∧ H a ≠ none
  nw : ∀ a, B a ≠ none → B0 a ≠ none ∨ F a = none
  rs : RS K B H S (τ.map some ++ σ) (T.map some ++ Γ)
  lt : τ.length = T.length
abbrev En := List (Option O)
def Ho (K : PySem.W.Frag) (F B0 : Hp) (τ : List V) (T : List O) (σ : L2.St) (Γ : En) (H : Hp) : Prop := ∃ B S, HW K F B0 τ T σ Γ H B S
section
variable {K : PySem.W.Frag} {F B0 H H' B B' : Hp} {τ : List V} {T : List O} {σ : L2.St} {Γ : En} {S : Ad} {v : V} {o : O} {x : D}
/-- one thing more on the pile; the heap has grown -/
theorem HW.push (h : HW K F B0 τ T σ Γ H B S) {S' : Ad} (e : Ex H H') (eb : BLe B B') (pu : Ex B' H') (nw : ∀ a, B' a ≠ none → B a ≠ none ∨ H a = none) (ow : ∀ a, S' a → H a = none ∧ B' a = none ∧ H' a ≠ none) (r : RO K B' H' S' v o) :
    HW K F B0 (v :: τ) (o :: T) σ Γ H' B' (fun a => S' a ∨ S a) where
  fr := h.fr.trans e
  pu := pu
  b0 := h.b0.trans eb
  ow := fun a z => by
    rcases z with z | z
    · obtain ⟨h1, h2, h3⟩ := ow a z
      exact ⟨h.fr.back h1, h2, h3⟩
    · obtain ⟨h1, h2, h3⟩ := h.ow a z
      refine ⟨h1, ?_, fun q => h3 (e.back q)⟩
      cases q : B' a with
      | none => rfl
      | some u =>
        rcases nw a (by rw [q]; simp) with w | w
        · exact absurd h2 w
        · exact absurd w h3
  nw := fun a z => by
    rcases nw a z with w | w
    · exact h.nw a w
    · exact .inr (h.fr.back w)
  rs := .cons (fun _ z => .inl z) (fun _ z => .inr z) (fun a z w => (h.ow a w).2.2 (ow a z).1) r (h.rs.tr eb (fun _ z => z) fun a u _ q => e a u q)
  lt := by simp [h.lt]
/-- a pure thing, nothing new -/
theorem HW.pushd (h : HW K F B0 τ T σ Γ H B S) (r : R K B v x) : HW K F B0 (v :: τ) (.d x :: T) σ Γ H B (fun a => False ∨ S a) :=
  h.push (S' := fun _ => False) (.refl H) (.refl B) h.pu (fun _ z => .inl z) (fun _ z => z.elim) (.d r)
/-- the pile's first thing falls away -/
theorem HW.pop (h : HW K F B0 (v :: τ) (o :: T) σ Γ H B S) : ∃ S1 S2 : Ad, (∀ b, S1 b → S b) ∧ (∀ b, S2 b → S b) ∧ (∀ b, S1 b → ¬ S2 b) ∧ RO K B H S1 v o ∧ HW K F B0 τ T σ Γ H B S2 := by
  have r := h.rs
  cases r with
  | cons s1 s2 dj r rs => exact ⟨_, _, s1, s2, dj, r, h.fr, h.pu, h.b0, fun a z => h.ow a (s2 a z), h.nw, rs, by simpa using h.lt⟩
theorem HW.popd (h : HW K F B0 (v :: τ) (.d x :: T) σ Γ H B S) : R K B v x ∧ ∃ S2, (∀ b, S2 b → S b) ∧ HW K F B0 τ T σ Γ H B S2 := by
  obtain ⟨S1, S2, _, s2, _, r, w⟩ := h.pop
  cases r with
  | d r => exact ⟨r, S2, s2, w⟩
theorem HW.len (h : HW K F B0 τ T σ Γ H B S) : σ.length = Γ.length := by
  have : ∀ {σ : List (Option V)} {Γ : List (Option O)} {S : Ad}, RS K B H S σ Γ → σ.length = Γ.length := by
    intro σ Γ
    induction Γ generalizing σ with
    | nil => intro S r; cases r; rfl
    | cons g Γ ih =>
      intro S r
      cases r with
      | un r => simp [ih r]
      | cons _ _ _ _ r => simp [ih r]
  have q := this h.rs
  have l := h.lt
  simp only [List.length_append, List.length_map] at q
  omega
/-- the i-th slot -/
theorem HW.slot (h : HW K F B0 τ T σ Γ H B S) {i : Nat} (e : Γ[i]? = some (some o)) : ∃ (v : V) (S1 S2 : Ad), σ[i]? = some (some v) ∧ (∀ b, S1 b → S b) ∧ (∀ b, S2 b → S b) ∧ (∀ b, S1 b → ¬ S2 b) ∧ RO K B H S1 v o ∧
    ∀ (B' H' : Hp) (S1' : Ad) (v' : Option V) (o' : Option O), BLe B B' → (∀ b u, S2 b → H b = some u → H' b = some u) → (∀ b, S1' b → ¬ S2 b) → (∀ x, o' = some x → ∃ w, v' = some w ∧ RO K B' H' S1' w x) →
        RS K B' H' (fun b => S1' b ∨ S2 b) (τ.map some ++ σ.set i v') (T.map some ++ Γ.set i o') := by
  have e' : (T.map some ++ Γ)[τ.length + i]? = some (some o) := by
    rw [List.getElem?_append_right (by simp [h.lt]), List.length_map, ← h.lt, Nat.add_sub_cancel_left]
    exact e
  obtain ⟨v, S1, S2, a, b, c, d, r, f⟩ := h.rs.focus e'
  refine ⟨v, S1, S2, ?_, b, c, d, r, fun B' H' S1' v' o' e k dj q => ?_⟩
  · rw [List.getElem?_append_right (by simp), List.length_map, Nat.add_sub_cancel_left] at a
    exact a
  · have z := f B' H' S1' v' o' e k dj q
    rw [List.set_append_right _ _ (by simp), List.set_append_right _ _ (by simp [h.lt]), List.length_map, List.length_map, ← h.lt, Nat.add_sub_cancel_left] at z
    exact z
theorem HW.getd (h : HW K F B0 τ T σ Γ H B S) {i : Nat} (e : Γ[i]? = some (some (.d x))) : ∃ v, σ[i]? = some (some v) ∧ R K B v x := by
  obtain ⟨v, S1, S2, a, _, _, _, r, _⟩ := h.slot e
  cases r with
  | d r => exact ⟨v, a, r⟩
end
end SK
namespace SK
open PySem PySem.Spec PyProof.Rows L2
mutual
def O.fz : O → D
  | .d x => x
  | .ol xs => .lst (fzL xs)
  | .od kvs => .dic (fzK kvs)
  | .ot kvs => .dit (fzT kvs)
  | .oi _ C fs => .ins C (fzF fs)
  | .op xs => .tup (fzL xs)
  | .atA _ o => o.fz
def fzL : List O → List D
  | [] => []
  | x :: xs => x.fz :: fzL xs
def fzK : List (Key × O) → List (Key × D)
  | [] => []
  | (k, x) :: xs => (k, x.fz) :: fzK xs
def fzT : List (List Key × O) → List (List Key × D)
  | [] => []
  | (k, x) :: xs => (k, x.fz) :: fzT xs
def fzF : List (Str × O) → List (Str × D)
  | [] => []
  | (k, x) :: xs => (k, x.fz) :: fzF xs
end
theorem fzK_keys : ∀ l : List (Key × O), (fzK l).map (·.1) = l.map (·.1)
  | [] => rfl
  | (k, x) :: xs => by simp [fzK, fzK_keys xs]
theorem fzT_keys : ∀ l : List (List Key × O), (fzT l).map (·.1) = l.map (·.1)
  | [] => rfl
  | (k, x) :: xs => by simp [fzT, fzT_keys xs]
def fzE : List (Option O) → List (Option O)
  | [] => []
  | none :: r => none :: fzE r
  | some o :: r => some (.d o.fz) :: fzE r
section
variable {K : PySem.W.Frag} {B B' H H' : Hp}
mutual
theorem RO.fz (eb : BLe B B') : ∀ {S : Ad} {v : V} {o : O}, (∀ a u, S a → H a = some u → B' a = some u) → RO K B H S v o → R K B' v o.fz
  | _, _, _, _, .d r => r.mono eb
  | _, _, _, k, .ol ha hs _ h r => .lst (k _ _ ha h) (RS.fzL eb (fun b u z => k b u (hs b z)) r)
  | _, _, _, k, .od ha hs _ h nd q r => .dic (.inl (k _ _ ha h)) (by rw [fzK_keys]; exact nd) (RS.fzK eb (fun b u z => k b u (hs b z)) q r)
  | _, _, _, k, .ot ha hs _ h nd q r => .dit (.inl (k _ _ ha h)) (by rw [fzT_keys]; exact nd) (RS.fzT eb (fun b u z => k b u (hs b z)) q r)
  | _, _, _, k, .oi ha hd hs _ _ _ h _ q r => .ins (k _ _ ha h) (RS.fzF eb (fun b u z => k b u (hs b z)) q r)
  | _, _, _, k, .op h r => .tup (eb.sqT h) (RS.fzL eb k r)
  | _, _, _, k, .atA (o := o) r => (RO.fz (o := o) eb k r : R K B' _ o.fz)
theorem RS.fzL (eb : BLe B B') : ∀ {S : Ad} {vs : List V} {xs : List O}, (∀ a u, S a → H a = some u → B' a = some u) → RS K B H S (vs.map some) (xs.map some) → RL K B' vs (SK.fzL xs)
  | _, [], [], _, _ => .nil
  | _, v :: vs, x :: xs, k, .cons s1 s2 _ h r => .cons (RO.fz eb (fun b u z => k b u (s1 b z)) h) (RS.fzL eb (fun b u z => k b u (s2 b z)) r)
theorem RS.fzK (eb : BLe B B') : ∀ {S : Ad} {vs : List (Key × V)} {xs : List (Key × O)}, (∀ a u, S a → H a = some u → B' a = some u) → vs.map (·.1) = xs.map (·.1) → RS K B H S (vs.map fun p => some p.2) (xs.map fun p => some p.2) → RK K B' vs (SK.fzK xs)
  | _, [], [], _, _, _ => .nil
  | _, (kv, v) :: vs, (kx, x) :: xs, k, q, .cons s1 s2 _ h r => by
    simp only [List.map_cons, List.cons.injEq] at q
    obtain ⟨rfl, q⟩ := q
    exact .cons (RO.fz eb (fun b u z => k b u (s1 b z)) h) (RS.fzK eb (fun b u z => k b u (s2 b z)) q r)
theorem RS.fzT (eb : BLe B B') : ∀ {S : Ad} {vs : List (List Key × V)} {xs : List (List Key × O)}, (∀ a u, S a → H a = some u → B' a = some u) → vs.map (·.1) = xs.map (·.1) → RS K B H S (vs.map fun p => some p.2) (xs.map fun p => some p.2) → RT K B' vs (SK.fzT xs)
  | _, [], [], _, _, _ => .nil
  | _, (kv, v) :: vs, (kx, x) :: xs, k, q, .cons s1 s2 _ h r => by
    simp only [List.map_cons, List.cons.injEq] at q
    obtain ⟨rfl, q⟩ := q
    exact .cons (RO.fz eb (fun b u z => k b u (s1 b z)) h) (RS.fzT eb (fun b u z => k b u (s2 b z)) q r)
theorem RS.fzF (eb : BLe B B') : ∀ {S : Ad} {vs : List (Str × V)} {xs : List (Str × O)}, (∀ a u, S a → H a = some u → B' a = some u) → vs.map (·.1) = xs.map (·.1) → RS K B H S (vs.map fun p => some p.2) (xs.map fun p => some p.2) → RF K B' vs (SK.fzF xs)
  | _, [], [], _, _, _ => .nil
  | _, (kv, v) :: vs, (kx, x) :: xs, k, q, .cons s1 s2 _ h r => by
    simp only [List.map_cons, List.cons.injEq] at q
    obtain ⟨rfl, q⟩ := q
    exact .cons (RO.fz eb (fun b u z => k b u (s1 b z)) h) (RS.fzF eb (fun b u z => k b u (s2 b z)) q r)
end
end
open Classical in
/-- B with the owned cells S of H -/
noncomputable def frz (B H : Hp) (S : Ad) : Hp := fun a => if S a then H a else B a
section
variable {K : PySem.W.Frag} {F B0 H H' B B' : Hp} {τ : List V} {T : List O} {σ : L2.St} {Γ : En} {S S1 S2 : Ad} {v : V} {o : O} {x : D}
theorem frz_at {a : Addr} (h : S a) : frz B H S a = H a := if_pos h
theorem frz_no {a : Addr} (h : ¬ S a) : frz B H S a = B a := if_neg h
theorem frz_ex (h : ∀ a, S a → B a = none) : Ex B (frz B H S) := fun a o e => by
  by_cases z : S a
  · rw [h a z] at e; cases e
  · rw [frz_no z]; exact e
/-- the pile's first thing is frozen -/
theorem HW.fz (h : HW K F B0 (v :: τ) (o :: T) σ Γ H B S) : ∃ B' S', HW K F B0 (v :: τ) (.d o.fz :: T) σ Γ H B' S' ∧ BLe B B' := by
  obtain ⟨S1, S2, s1, s2, dj, r, w⟩ := h.pop
  have ex : Ex B (frz B H S1) := frz_ex fun a z => (h.ow a (s1 a z)).2.1
  refine ⟨frz B H S1, fun a => False ∨ S2 a, ⟨h.fr, fun a u e => ?_, h.b0.trans (.of_ex ex), fun a z => ?_, fun a z => ?_, .cons (S1 := fun _ => False) (fun _ z => .inl z) (fun _ z => .inr z) (fun _ z => z.elim) (.d (r.fz (.of_ex ex) fun a u z e => by rw [frz_at z]; exact e)) (w.rs.tr (.of_ex ex) (fun _ z => z) fun _ _ _ e => e), h.lt⟩, .of_ex ex⟩
  · by_cases z : S1 a
    · rw [frz_at z] at e; exact e
    · rw [frz_no z] at e; exact h.pu a u e
  · have z : S2 a := z.elim False.elim id
    obtain ⟨q1, q2, q3⟩ := h.ow a (s2 a z)
    refine ⟨q1, ?_, q3⟩
    rw [frz_no fun y => dj a y z]
    exact q2
  · by_cases y : S1 a
    · exact .inr (h.ow a (s1 a y)).1
    · rw [frz_no y] at z; exact h.nw a z
/-- pushed frozen things, all at once: the whole state as pure -/
theorem RS.fzE {S : Ad} (eb : BLe B B') : ∀ {σ : List (Option V)} {Γ : List (Option O)} {S : Ad}, (∀ a u, S a → H a = some u → B' a = some u) → RS K B H S σ Γ → RS K B' H (fun _ => False) σ (fzE Γ) := by
  intro σ Γ
  induction Γ generalizing σ with
  | nil => intro S _ r; cases r; exact .nil
  | cons g Γ ih =>
    intro S k r
    cases r with
    | un r => exact .un (ih k r)
    | cons s1 s2 dj h r => exact .cons (S1 := fun _ => False) (S2 := fun _ => False) (fun _ z => z) (fun _ z => z) (fun _ z => z.elim) (.d (h.fz eb fun a u z => k a u (s1 a z))) (ih (fun a u z => k a u (s2 a z)) r)
end
structure EG where
  nx : En → Prop
  rt : O → En → Prop
  bk : En → Prop := fun _ => False
  ct : En → Prop := fun _ => False
section
variable (K : PySem.W.Frag) (F B0 : Hp)
def Go (t : TE) (T : List O) (Γ : En) (post : O → En → Prop) : Prop := ∀ (τ : List V) (σ : L2.St) (H : Hp) (Q : VK), Ho K F B0 τ T σ Γ H →
  (∀ v o Γ' H', post o Γ' → Ho K F B0 (v :: τ) (o :: T) σ Γ' H' → Q v H') → t σ H Q
def GoT (t : TT) (T : List O) (Γ : En) (post : Bool → En → Prop) : Prop := ∀ (τ : List V) (σ : L2.St) (H : Hp) (Q : Bool → Hp → Prop), Ho K F B0 τ T σ Γ H →
  (∀ b Γ' H', post b Γ' → Ho K F B0 τ T σ Γ' H' → Q b H') → t σ H Q
/-- arguments, all pure; on the pile the last one first -/
def GoA (t : TA) (T : List O) (Γ : En) (post : List D → En → Prop) : Prop := ∀ (τ : List V) (σ : L2.St) (H : Hp) (Q : List V → Hp → Prop), Ho K F B0 τ T σ Γ H →
  (∀ vs xs Γ' H', post xs Γ' → Ho K F B0 (vs.reverse ++ τ) ((xs.map O.d).reverse ++ T) σ Γ' H' → vs.length = xs.length → Q vs H') → t σ H Q
structure Sat (τ : List V) (T : List O) (De : Ends) (D : EG) : Prop where
  nx : ∀ σ Γ H, D.nx Γ → Ho K F B0 τ T σ Γ H → De.nx σ H
  rt : ∀ v o σ Γ H, D.rt o Γ → Ho K F B0 (v :: τ) (o :: T) σ Γ H → De.rt v H
  bk : ∀ σ Γ H, D.bk Γ → Ho K F B0 τ T σ Γ H → De.bk σ H
  ct : ∀ σ Γ H, D.ct Γ → Ho K F B0 τ T σ Γ H → De.ct σ H
def GoS (t : TS) (T : List O) (Γ : En) (D : EG) : Prop := ∀ (τ : List V) (σ : L2.St) (H : Hp) (De : Ends), Ho K F B0 τ T σ Γ H → Sat K F B0 τ T De D → t De σ H
/-- an operation on two pure things -/
def Op2 (r : R2) (x1 x2 : D) (T : List O) (Γ : En) (post : O → En → Prop) : Prop := ∀ (τ : List V) (σ : L2.St) (H B : Hp) (S : Ad) (v1 v2 : V) (Q : VK), HW K F B0 τ T σ Γ H B S → R K B v1 x1 → R K B v2 x2 →
  (∀ v o Γ' H', post o Γ' → Ho K F B0 (v :: τ) (o :: T) σ Γ' H' → Q v H') → r v1 v2 H Q
def Op1 (r : V → Hp → VK → Prop) (x1 : D) (T : List O) (Γ : En) (post : O → En → Prop) : Prop := ∀ (τ : List V) (σ : L2.St) (H B : Hp) (S : Ad) (v1 : V) (Q : VK), HW K F B0 τ T σ Γ H B S → R K B v1 x1 →
  (∀ v o Γ' H', post o Γ' → Ho K F B0 (v :: τ) (o :: T) σ Γ' H' → Q v H') → r v1 H Q
/-- a call by values on pure things -/
def OpA (r : List V → Hp → VK → Prop) (xs : List D) (T : List O) (Γ : En) (post : O → En → Prop) : Prop := ∀ (τ : List V) (σ : L2.St) (H B : Hp) (S : Ad) (vs : List V) (Q : VK), HW K F B0 τ T σ Γ H B S → RL K B vs xs →
  (∀ v o Γ' H', post o Γ' → Ho K F B0 (v :: τ) (o :: T) σ Γ' H' → Q v H') → r vs H Q
/-- a store into a target -/
def GoG (g : TG) (o : O) (T : List O) (Γ : En) (post : En → Prop) : Prop := ∀ (τ : List V) (σ : L2.St) (H : Hp) (v : V) (Q : L2.St → Hp → Prop), Ho K F B0 (v :: τ) (o :: T) σ Γ H →
  (∀ σ' Γ' H', post Γ' → Ho K F B0 τ T σ' Γ' H' → Q σ' H') → g v σ H Q
end
end SK
namespace SK
open PySem PySem.Spec PyProof.Rows L2
section
variable {K : PySem.W.Frag} {F B0 H H' B B' : Hp} {τ : List V} {T : List O} {σ : L2.St} {Γ : En} {S S1 S2 : Ad} {v : V} {o o1 o2 : O} {x : D} {post : O → En → Prop} {ta tb te : TE} {tt tu : TT} {i : Nat} {r : R2} {posts : List D → En → Prop} {postt : Bool → En → Prop} {posts1 : En → Prop}
theorem RS.len : ∀ {σ : List (Option V)} {Γ : List (Option O)} {S : Ad}, RS K B H S σ Γ → σ.length = Γ.length := by
  intro σ Γ
  induction Γ generalizing σ with
  | nil => intro S r; cases r; rfl
  | cons g Γ ih =>
    intro S r
    cases r with
    | un r => simp [ih r]
    | cons _ _ _ _ r => simp [ih r]
/-- a slot is written -/
theorem RS.put {v : Option V} {o : Option O} : ∀ {σ : List (Option V)} {Γ : List (Option O)} {S S1 : Ad} {i : Nat}, RS K B H S σ Γ → i < Γ.length → (∀ b, S1 b → ¬ S b) → (∀ x, o = some x → ∃ w, v = some w ∧ RO K B H S1 w x) →
    RS K B H (fun b => S1 b ∨ S b) (σ.set i v) (Γ.set i o) := by
  intro σ Γ
  induction Γ generalizing σ with
  | nil => intro S S1 i _ h; simp at h
  | cons g Γ ih =>
    intro S S1 i r hi dj q
    have ex : ∀ {a b : Option V} {σ : List (Option V)} {Γ : List (Option O)} {S2 : Ad}, (∀ z, S2 z → S z) → RS K B H S2 σ Γ → RS K B H (fun b => S1 b ∨ S b) (v :: σ) (o :: Γ) := fun s2 r => by
      cases o with
      | none => exact .un (r.tr (.refl B) (fun a z => .inr (s2 a z)) fun _ _ _ e => e)
      | some x =>
        obtain ⟨w, rfl, q2⟩ := q x rfl
        exact .cons (fun _ z => .inl z) (fun a z => .inr (s2 a z)) (fun a z y => dj a z (s2 a y)) q2 r
    cases i with
    | zero =>
      cases r with
      | un r => exact ex (a := v) (b := v) (fun _ z => z) r
      | cons _ s2 _ _ r => exact ex (a := v) (b := v) s2 r
    | succ i =>
      have hi' : i < Γ.length := by simpa using hi
      cases r with
      | un r => exact .un (ih r hi' dj q)
      | @cons _ T1 T2 _ _ _ _ s1 s2 dj0 h0 r =>
        refine .cons (S1 := T1) (S2 := fun x => S1 x ∨ T2 x) (fun x z => .inr (s1 x z)) (fun x z => z.imp id (s2 x)) (fun x z w => w.elim (fun w => dj x w (s1 x z)) (dj0 x z)) h0 (ih r hi' (fun x z w => dj x z (s2 x w)) q)
theorem HW.put (h : HW K F B0 (v :: τ) (o :: T) σ Γ H B S) (hi : i < Γ.length) : ∃ S', HW K F B0 τ T (σ.set i (some v)) (Γ.set i (some o)) H B S' := by
  obtain ⟨S1, S2, s1, s2, dj, r, w⟩ := h.pop
  have lt := w.lt
  have q := RS.put (i := τ.length + i) (v := some v) (o := some o) (S1 := S1) w.rs (by simp [w.lt]; omega) dj fun x e => by cases e; exact ⟨v, rfl, r⟩
  rw [List.set_append_right _ _ (by simp), List.set_append_right _ _ (by simp [lt]), List.length_map, List.length_map, ← lt, Nat.add_sub_cancel_left] at q
  exact ⟨_, w.fr, w.pu, w.b0, fun a z => z.elim (fun z => h.ow a (s1 a z)) (fun z => w.ow a z), w.nw, q, w.lt⟩
/-- a slot is forgotten, its thing on the pile -/
theorem HW.take (h : HW K F B0 τ T σ Γ H B S) (e : Γ[i]? = some (some o)) : ∃ v S', σ[i]? = some (some v) ∧ HW K F B0 (v :: τ) (o :: T) σ (Γ.set i none) H B S' := by
  obtain ⟨v, S1, S2, a, b, c, d, ro, f⟩ := h.slot e
  have hl : i < σ.length := (List.getElem?_eq_some_iff.mp a).1
  have z := f B H (fun _ => False) (some v) none (.refl B) (fun _ _ _ q => q) (fun _ z => z.elim) (fun x q => by cases q)
  have e2 : σ.set i (some v) = σ := by
    apply List.ext_getElem?
    intro n
    by_cases hn : n = i
    · subst hn; rw [List.getElem?_set_self hl, a]
    · rw [List.getElem?_set_ne (Ne.symm hn)]
  rw [e2] at z
  exact ⟨v, fun b => S1 b ∨ S2 b, a, h.fr, h.pu, h.b0, fun a z => z.elim (fun z => h.ow a (b a z)) (fun z => h.ow a (c a z)), h.nw,
    .cons (fun _ z => .inl z) (fun _ z => .inr z) d ro (z.tr (.refl B) (fun a z => z.elim False.elim id) fun _ _ _ e => e), by simp [h.lt]⟩
/-- a pure name -/
theorem go_var (e : Γ[i]? = some (some (.d x))) (h : post (.d x) Γ) : Go K F B0 (tVar i) T Γ post := fun τ σ H Q ⟨B, S, w⟩ k => by
  obtain ⟨v, a, r⟩ := w.getd e
  exact ⟨v, a, k v _ Γ H h ⟨B, _, w.pushd r⟩⟩
/-- an owned thing is handed on: its name holds nothing known from then on -/
theorem go_move (e : Γ[i]? = some (some o)) (h : post o (Γ.set i none)) : Go K F B0 (tVar i) T Γ post := fun τ σ H Q ⟨B, S, w⟩ k => by
  obtain ⟨v, S', a, w⟩ := w.take e
  exact ⟨v, a, k v _ _ H h ⟨B, S', w⟩⟩
/-- an owned thing becomes pure for good -/
theorem go_fz (e : Γ[i]? = some (some o)) (h : post (.d o.fz) (Γ.set i (some (.d o.fz)))) : Go K F B0 (tVar i) T Γ post := fun τ σ H Q ⟨B, S, w⟩ k => by
  obtain ⟨v, S', a, w⟩ := w.take e
  obtain ⟨B', S'', w, _⟩ := w.fz
  obtain ⟨r, _⟩ := w.popd
  obtain ⟨S3, w3⟩ := w.put (i := i) (by simpa using (List.getElem?_eq_some_iff.mp e).1)
  have hl : i < σ.length := (List.getElem?_eq_some_iff.mp a).1
  have e2 : σ.set i (some v) = σ := by
    apply List.ext_getElem?
    intro n
    by_cases hn : n = i
    · subst hn; rw [List.getElem?_set_self hl, a]
    · rw [List.getElem?_set_ne (Ne.symm hn)]
  rw [e2, List.set_set] at w3
  exact ⟨v, a, k v _ _ H h ⟨B', _, w3.pushd r⟩⟩
theorem go_int {n : Int} (h : post (.d (.int n)) Γ) : Go K F B0 (tC (.int n)) T Γ post := fun τ σ H Q ⟨B, S, w⟩ k => k _ _ Γ H h ⟨B, _, w.pushd .int⟩
theorem go_bl {n : Bool} (h : post (.d (.bl n)) Γ) : Go K F B0 (tC (.bl n)) T Γ post := fun τ σ H Q ⟨B, S, w⟩ k => k _ _ Γ H h ⟨B, _, w.pushd .bl⟩
theorem go_str {n : Str} (h : post (.d (.str n)) Γ) : Go K F B0 (tC (.str n)) T Γ post := fun τ σ H Q ⟨B, S, w⟩ k => k _ _ Γ H h ⟨B, _, w.pushd .str⟩
theorem go_non (h : post (.d .non) Γ) : Go K F B0 (tC .non) T Γ post := fun τ σ H Q ⟨B, S, w⟩ k => k _ _ Γ H h ⟨B, _, w.pushd .non⟩
theorem go_ty {n : String} (h : post (.d (.ty n)) Γ) : Go K F B0 (tC (.ty n)) T Γ post := fun τ σ H Q ⟨B, S, w⟩ k => k _ _ Γ H h ⟨B, _, w.pushd .ty⟩
theorem go_ref {a : Addr} (h : post (.d (.ref a)) Γ) : Go K F B0 (tC (.ref a)) T Γ post := fun τ σ H Q ⟨B, S, w⟩ k => k _ _ Γ H h ⟨B, _, w.pushd .ref⟩
/-- a constant of the module that is data -/
theorem go_cst {c : V} (q : ∀ B, R K B c x) (h : post (.d x) Γ) : Go K F B0 (tC c) T Γ post := fun τ σ H Q ⟨B, S, w⟩ k => k _ _ Γ H h ⟨B, _, w.pushd (q B)⟩
theorem HW.fzd (h : HW K F B0 (v :: τ) (o :: T) σ Γ H B S) : ∃ B' S', HW K F B0 τ T σ Γ H B' S' ∧ R K B' v o.fz ∧ BLe B B' := by
  obtain ⟨B', S', w, e⟩ := h.fz
  obtain ⟨r, S2, _, w⟩ := w.popd
  exact ⟨B', S2, w, r, e⟩
theorem go_op (h : Go K F B0 ta T Γ fun o1 Γ1 => Go K F B0 tb (.d o1.fz :: T) Γ1 fun o2 Γ2 => Op2 K F B0 r o1.fz o2.fz T Γ2 post) : Go K F B0 (tOp r ta tb) T Γ post := fun τ σ H Q hw k =>
  h τ σ H _ hw fun v1 o1 Γ1 H1 h1 ⟨_, _, w1⟩ => by
    obtain ⟨_, _, w1, _⟩ := w1.fz
    refine h1 _ σ H1 _ ⟨_, _, w1⟩ fun v2 o2 Γ2 H2 h2 ⟨_, _, w2⟩ => ?_
    obtain ⟨_, _, w2, r2, _⟩ := w2.fzd
    obtain ⟨r1, _, _, w2⟩ := w2.popd
    exact h2 τ σ H2 _ _ v1 v2 Q w2 r1 r2 k
theorem go_un {r : V → Hp → VK → Prop} (h : Go K F B0 ta T Γ fun o1 Γ1 => Op1 K F B0 r o1.fz T Γ1 post) : Go K F B0 (tUn r ta) T Γ post := fun τ σ H Q hw k =>
  h τ σ H _ hw fun v1 o1 Γ1 H1 h1 ⟨_, _, w1⟩ => by
    obtain ⟨_, _, w1, r1, _⟩ := w1.fzd
    exact h1 τ σ H1 _ _ v1 Q w1 r1 k
theorem goa_nil (h : posts [] Γ) : GoA K F B0 tNil T Γ posts := fun τ σ H Q hw k => k [] [] Γ H h hw rfl
theorem goa_cons {tr : TA} (h : Go K F B0 ta T Γ fun o1 Γ1 => GoA K F B0 tr (.d o1.fz :: T) Γ1 fun xs Γ2 => posts (o1.fz :: xs) Γ2) : GoA K F B0 (tCons ta tr) T Γ posts := fun τ σ H Q hw k =>
  h τ σ H _ hw fun v1 o1 Γ1 H1 h1 ⟨_, _, w1⟩ => by
    obtain ⟨_, _, w1, _⟩ := w1.fz
    refine h1 _ σ H1 _ ⟨_, _, w1⟩ fun vs xs Γ2 H2 h2 w2 hl => ?_
    refine k (v1 :: vs) (o1.fz :: xs) Γ2 H2 h2 ?_ (by simp [hl])
    simpa using w2
/-- the held arguments, as a list -/
theorem HW.args : ∀ {xs : List D} {vs : List V} {τ : List V} {T : List O} {S : Ad}, HW K F B0 (vs.reverse ++ τ) ((xs.map O.d).reverse ++ T) σ Γ H B S → vs.length = xs.length → RL K B vs xs ∧ ∃ S', HW K F B0 τ T σ Γ H B S'
  | [], [], _, _, S, h, _ => ⟨.nil, S, h⟩
  | x :: xs, v :: vs, τ, T, S, h, hl => by
    have h' : HW K F B0 (vs.reverse ++ (v :: τ)) ((xs.map O.d).reverse ++ (.d x :: T)) σ Γ H B S := by simpa using h
    obtain ⟨r, S', w⟩ := HW.args h' (by simpa using hl)
    obtain ⟨r1, S2, _, w⟩ := w.popd
    exact ⟨.cons r1 r, S2, w⟩
theorem go_cb {r : List V → Hp → VK → Prop} {t : TA} (h : GoA K F B0 t T Γ fun xs Γ1 => OpA K F B0 r xs T Γ1 post) : Go K F B0 (tCB r t) T Γ post := fun τ σ H Q hw k =>
  h τ σ H _ hw fun vs xs Γ1 H1 h1 ⟨_, _, w1⟩ hl => by
    obtain ⟨rl, S', w⟩ := w1.args hl
    exact h1 τ σ H1 _ S' vs Q w rl k
theorem HW.newd {p : Addr} {c : HO} (h : HW K F B0 τ T σ Γ H B S) (hp : H p = none) (r : R K (upd B p c) v x) : ∃ S', HW K F B0 (v :: τ) (.d x :: T) σ Γ (upd H p c) (upd B p c) S' :=
  ⟨_, h.push (S' := fun _ => False) (.new hp) (.of_ex (.new (h.pu.back hp))) (fun a u e => by
    by_cases q : a = p
    · subst q; rw [upd_same] at e ⊢; exact e
    · rw [upd_ne q] at e ⊢; exact h.pu a u e) (fun a z => by
    by_cases q : a = p
    · subst q; exact .inr hp
    · rw [upd_ne q] at z; exact .inl z) (fun _ z => z.elim) (.d r)⟩
theorem HW.newo {p : Addr} {c : HO} (h : HW K F B0 τ T σ Γ H B S) (hp : H p = none) (r : RO K B (upd H p c) (fun a => a = p) v o) : ∃ S', HW K F B0 (v :: τ) (o :: T) σ Γ (upd H p c) B S' :=
  ⟨_, h.push (S' := fun a => a = p) (.new hp) (.refl B) (fun a u e => (Ex.new hp) a u (h.pu a u e)) (fun a z => .inl z) (fun a z => by subst z; exact ⟨hp, h.pu.back hp, by rw [upd_same]; simp⟩) r⟩
theorem fl_of {xs : List D} {vs : List V} {S : Ad} (r : RL K B vs xs) : RS K B H S (vs.map some) ((xs.map O.d).map some) := by
  induction vs generalizing xs with
  | nil => cases r; exact .nil
  | cons v vs ih => cases r with | cons a b => exact .cons (S1 := fun _ => False) (S2 := S) (fun _ z => z.elim) (fun _ z => z) (fun _ z => z.elim) (.d a) (ih b)
theorem RL.length {xs : List D} {vs : List V} (r : RL K B vs xs) : vs.length = xs.length := by
  induction vs generalizing xs with
  | nil => cases r; rfl
  | cons v vs ih => cases r with | cons a b => simp [ih b]
theorem go_tup {t : TA} (h : GoA K F B0 t T Γ fun xs Γ1 => xs.length ≤ 1000 ∧ post (.d (.tup xs)) Γ1) : Go K F B0 (tTup t) T Γ post := fun τ σ H Q hw k =>
  h τ σ H _ hw fun vs xs Γ1 H1 ⟨hz, h1⟩ ⟨_, _, w1⟩ hl => by
    obtain ⟨rl, S', w⟩ := w1.args hl
    refine ⟨Nat.le_trans (by rw [hl]; exact hz) (by decide), fun p hp => ?_⟩
    obtain ⟨S2, w⟩ := w.newd (x := .tup xs) hp (.tup (SqT.of upd_same) (rl.mono (.of_ex (.new (w.pu.back hp)))))
    exact k _ _ _ _ h1 ⟨_, _, w⟩
theorem HW.newl {p : Addr} {xs : List D} {vs : List V} (h : HW K F B0 τ T σ Γ H B S) (hp : H p = none) (rl : RL K B vs xs) : ∃ S', HW K F B0 (.ref p :: τ) (.ol (xs.map O.d) :: T) σ Γ (upd H p (.lst vs)) B S' :=
  h.newo hp (.ol (S' := fun _ => False) rfl (fun _ z => z.elim) id upd_same (fl_of rl))
theorem go_lst {t : TA} (h : GoA K F B0 t T Γ fun xs Γ1 => xs.length ≤ 1000 ∧ post (.ol (xs.map O.d)) Γ1) : Go K F B0 (tLst t) T Γ post := fun τ σ H Q hw k =>
  h τ σ H _ hw fun vs xs Γ1 H1 ⟨hz, h1⟩ ⟨_, _, w1⟩ hl => by
    obtain ⟨rl, S', w⟩ := w1.args hl
    refine ⟨Nat.le_trans (by rw [hl]; exact hz) (by decide), fun p hp => ?_⟩
    obtain ⟨S2, w⟩ := w.newl hp rl
    exact k _ _ _ _ h1 ⟨_, _, w⟩
theorem go_if (h : GoT K F B0 tt T Γ fun b Γ1 => (b = true → Go K F B0 ta T Γ1 post) ∧ (b = false → Go K F B0 tb T Γ1 post)) : Go K F B0 (tIf tt ta tb) T Γ post := fun τ σ H Q hw k =>
  h τ σ H _ hw fun b Γ1 H1 ⟨h1, h2⟩ w1 => by
    cases b with
    | true => exact iteT (h1 rfl τ σ H1 Q w1 k)
    | false => exact iteF (h2 rfl τ σ H1 Q w1 k)
theorem got_test (h : Go K F B0 te T Γ fun o Γ1 => ∃ b, o = .d (.bl b) ∧ postt b Γ1) : GoT K F B0 (tTest te) T Γ postt := fun τ σ H Q hw k =>
  h τ σ H _ hw fun v o Γ1 H1 ⟨b, e, h1⟩ ⟨_, _, w1⟩ => by
    subst e
    obtain ⟨r, _, _, w⟩ := w1.popd
    cases r
    exact ⟨b, rfl, k b Γ1 H1 h1 ⟨_, _, w⟩⟩
theorem got_B (h : Go K F B0 te T Γ fun o Γ1 => ∃ b, o = .d (.bl b) ∧ postt b Γ1) : GoT K F B0 (tB te) T Γ postt := fun τ σ H Q hw k => got_test h τ σ H Q hw k
theorem got_and (h : GoT K F B0 tt T Γ fun b Γ1 => (b = true → GoT K F B0 tu T Γ1 postt) ∧ (b = false → postt false Γ1)) : GoT K F B0 (tAnd tt tu) T Γ postt := fun τ σ H Q hw k =>
  h τ σ H _ hw fun b Γ1 H1 ⟨h1, h2⟩ w1 => by
    cases b with
    | true => exact iteT (h1 rfl τ σ H1 Q w1 k)
    | false => exact iteF (k _ _ _ (h2 rfl) w1)
theorem got_or (h : GoT K F B0 tt T Γ fun b Γ1 => (b = true → postt true Γ1) ∧ (b = false → GoT K F B0 tu T Γ1 postt)) : GoT K F B0 (tOr tt tu) T Γ postt := fun τ σ H Q hw k =>
  h τ σ H _ hw fun b Γ1 H1 ⟨h1, h2⟩ w1 => by
    cases b with
    | true => exact iteT (k _ _ _ (h1 rfl) w1)
    | false => exact iteF (h2 rfl τ σ H1 Q w1 k)
theorem got_not (h : GoT K F B0 tt T Γ fun b Γ1 => postt (!b) Γ1) : GoT K F B0 (tNot tt) T Γ postt := fun τ σ H Q hw k =>
  h τ σ H _ hw fun b Γ1 H1 h1 w1 => k _ _ _ h1 w1
theorem go_andV (h : Go K F B0 ta T Γ fun o Γ1 => ∃ b, o = .d (.bl b) ∧ (b = true → Go K F B0 tb T Γ1 post) ∧ (b = false → post (.d (.bl false)) Γ1)) : Go K F B0 (tAndV ta tb) T Γ post := fun τ σ H Q hw k =>
  h τ σ H _ hw fun v o Γ1 H1 ⟨b, e, h1, h2⟩ ⟨_, _, w1⟩ => by
    subst e
    obtain ⟨r, _, _, w⟩ := w1.popd
    cases r
    refine ⟨b, rfl, ?_⟩
    cases b with
    | true => exact iteT (h1 rfl τ σ H1 Q ⟨_, _, w⟩ k)
    | false => exact iteF (k _ _ _ _ (h2 rfl) ⟨_, _, w1⟩)
theorem go_orV (h : Go K F B0 ta T Γ fun o Γ1 => ∃ b, o = .d (.bl b) ∧ (b = true → post (.d (.bl true)) Γ1) ∧ (b = false → Go K F B0 tb T Γ1 post)) : Go K F B0 (tOrV ta tb) T Γ post := fun τ σ H Q hw k =>
  h τ σ H _ hw fun v o Γ1 H1 ⟨b, e, h1, h2⟩ ⟨_, _, w1⟩ => by
    subst e
    obtain ⟨r, _, _, w⟩ := w1.popd
    cases r
    refine ⟨b, rfl, ?_⟩
    cases b with
    | true => exact iteT (k _ _ _ _ (h1 rfl) ⟨_, _, w1⟩)
    | false => exact iteF (h2 rfl τ σ H1 Q ⟨_, _, w⟩ k)
theorem go_notV (h : Go K F B0 ta T Γ fun o Γ1 => ∃ b, o = .d (.bl b) ∧ post (.d (.bl (!b))) Γ1) : Go K F B0 (tNotV ta) T Γ post := fun τ σ H Q hw k =>
  h τ σ H _ hw fun v o Γ1 H1 ⟨b, e, h1⟩ ⟨_, _, w1⟩ => by
    subst e
    obtain ⟨r, _, _, w⟩ := w1.popd
    cases r
    exact ⟨b, rfl, k _ _ _ _ h1 ⟨_, _, w.pushd .bl⟩⟩
variable {t1 t2 : TS} {Dd : EG}
theorem gos_seq (h : GoS K F B0 t1 T Γ { Dd with nx := fun Γ1 => GoS K F B0 t2 T Γ1 Dd }) : GoS K F B0 (tSeq t1 t2) T Γ Dd := fun τ σ H De hw s =>
  h τ σ H _ hw ⟨fun σ1 Γ1 H1 q w => q τ σ1 H1 De w s, s.rt, s.bk, s.ct⟩
theorem gos_next (h : Dd.nx Γ) : GoS K F B0 tNext T Γ Dd := fun τ σ H De hw s => s.nx σ Γ H h hw
theorem gos_brk (h : Dd.bk Γ) : GoS K F B0 tBreak T Γ Dd := fun τ σ H De hw s => s.bk σ Γ H h hw
theorem gos_ret (h : Go K F B0 te T Γ Dd.rt) : GoS K F B0 (tRet te) T Γ Dd := fun τ σ H De hw s => h τ σ H _ hw fun v o Γ1 H1 h1 w1 => s.rt v o σ Γ1 H1 h1 w1
theorem gos_asg {g : TG} (h : Go K F B0 te T Γ fun o Γ1 => GoG K F B0 g o T Γ1 Dd.nx) : GoS K F B0 (tAsg te g) T Γ Dd := fun τ σ H De hw s =>
  h τ σ H _ hw fun v o Γ1 H1 h1 w1 => h1 τ σ H1 v _ w1 fun σ2 Γ2 H2 h2 w2 => s.nx σ2 Γ2 H2 h2 w2
theorem gog_name (hi : i < Γ.length) (h : posts1 (Γ.set i (some o))) : GoG K F B0 (gName i) o T Γ posts1 := fun τ σ H v Q ⟨_, _, w⟩ k => by
  obtain ⟨S', w⟩ := w.put hi
  exact k _ _ _ h ⟨_, S', w⟩
theorem gos_drop (h : Go K F B0 te T Γ fun _ Γ1 => Dd.nx Γ1) : GoS K F B0 (tDrop te) T Γ Dd := fun τ σ H De hw s =>
  h τ σ H _ hw fun v o Γ1 H1 h1 ⟨_, _, w1⟩ => by
    obtain ⟨_, _, _, _, _, _, w⟩ := w1.pop
    exact s.nx σ Γ1 H1 h1 ⟨_, _, w⟩
theorem gos_if (h : GoT K F B0 tt T Γ fun b Γ1 => (b = true → GoS K F B0 t1 T Γ1 Dd) ∧ (b = false → GoS K F B0 t2 T Γ1 Dd)) : GoS K F B0 (tIfS tt t1 t2) T Γ Dd := fun τ σ H De hw s =>
  h τ σ H _ hw fun b Γ1 H1 ⟨h1, h2⟩ w1 => by
    cases b with
    | true => exact iteT (h1 rfl τ σ H1 De w1 s)
    | false => exact iteF (h2 rfl τ σ H1 De w1 s)
/-- x op= e of a name -/
theorem gos_aug {ip : TIp} (h : ∃ x, Γ[i]? = some (some (.d x)) ∧ Go K F B0 te (.d x :: T) Γ fun o Γ1 => Op2 K F B0 ip x o.fz T Γ1 fun o2 Γ2 => i < Γ2.length ∧ Dd.nx (Γ2.set i (some o2))) : GoS K F B0 (tAug i te ip) T Γ Dd := fun τ σ H De ⟨_, _, w⟩ s => by
  obtain ⟨x, e, h⟩ := h
  obtain ⟨v, a, r⟩ := w.getd e
  refine ⟨v, a, h _ σ H _ ⟨_, _, w.pushd r⟩ fun v2 o2 Γ2 H2 h2 ⟨_, _, w2⟩ => ?_⟩
  obtain ⟨_, _, w2, r2, _⟩ := w2.fzd
  obtain ⟨r1, _, _, w2⟩ := w2.popd
  refine h2 τ σ H2 _ _ v v2 _ w2 r1 r2 fun v3 o3 Γ3 H3 ⟨hi, h3⟩ ⟨_, _, w3⟩ => ?_
  obtain ⟨S', w3⟩ := w3.put hi
  exact s.nx _ _ _ h3 ⟨_, S', w3⟩
end
end SK
namespace SK
open PySem PySem.Spec PyProof.Rows L2
section
variable {K : PySem.W.Frag} {F B0 H H' B B' : Hp} {τ τs : List V} {T os : List O} {σ : L2.St} {Γ : En} {S S1 S2 : Ad} {v : V} {o o1 o2 : O} {x : D} {post : O → En → Prop} {ta tb te : TE} {tt tu : TT} {i : Nat} {posts : List D → En → Prop} {postt : Bool → En → Prop} {posts1 : En → Prop} {Dd : EG}
/-- the pile's topmost things fall away -/
theorem HW.drop : ∀ {τs : List V} {os : List O} {S : Ad}, HW K F B0 (τs ++ τ) (os ++ T) σ Γ H B S → τs.length = os.length → ∃ S', HW K F B0 τ T σ Γ H B S'
  | [], [], S, h, _ => ⟨S, h⟩
  | v :: τs, o :: os, S, h, l => by
    obtain ⟨_, _, _, _, _, _, w⟩ := HW.pop (τ := τs ++ τ) (T := os ++ T) h
    exact w.drop (by simpa using l)
theorem RS.drop1 {a : Option V} {b : Option O} {σ : List (Option V)} {Γ : List (Option O)} {S : Ad} (h : RS K B H S (a :: σ) (b :: Γ)) : RS K B H S σ Γ := by
  cases h with
  | un r => exact r
  | cons s1 s2 dj r rs => exact rs.tr (.refl B) s2 fun _ _ _ e => e
theorem RS.drops {σ1 : List (Option V)} {Γ1 : List (Option O)} : ∀ {σ0 : List (Option V)} {Γ0 : List (Option O)} {S : Ad}, σ0.length = Γ0.length → RS K B H S (σ0 ++ σ1) (Γ0 ++ Γ1) → RS K B H S σ1 Γ1
  | [], [], _, _, h => h
  | _ :: _, _ :: _, _, l, h => RS.drops (by simpa using l) (RS.drop1 h)
/-- what lies below the first thing falls away -/
theorem HW.under (h : HW K F B0 (v :: (τs ++ τ)) (o :: (os ++ T)) σ Γ H B S) (l : τs.length = os.length) : HW K F B0 (v :: τ) (o :: T) σ Γ H B S := by
  refine ⟨h.fr, h.pu, h.b0, h.ow, h.nw, ?_, ?_⟩
  · have r := h.rs
    simp only [List.map_cons, List.map_append, List.cons_append, List.append_assoc] at r ⊢
    cases r with
    | cons s1 s2 dj a rs => exact .cons s1 s2 dj a (rs.drops (by simp [l]))
  · have := h.lt
    simp only [List.length_cons, List.length_append] at this ⊢
    omega
theorem RL.one {x : D} {vs : List V} (r : RL K B vs [x]) : ∃ v, vs = [v] ∧ R K B v x := by
  cases r with | cons r t => cases t; exact ⟨_, rfl, r⟩
theorem RL.two {x y : D} {vs : List V} (r : RL K B vs [x, y]) : ∃ v w, vs = [v, w] ∧ R K B v x ∧ R K B w y := by
  cases r with | cons r t => cases t with | cons r2 t => cases t; exact ⟨_, _, rfl, r, r2⟩
/-- J walks ds, while hs (at τs) stand -/
def Iter (K : PySem.W.Frag) (F B0 : Hp) (J : It) (τs : List V) (hs : List D) (ds : List D) : Prop :=
  ∀ (τ : List V) (T : List O) (σ : L2.St) (Γ : En) (H B : Hp) (S : Ad), HW K F B0 τ T σ Γ H B S → RL K B τs hs →
    (J.stop ds.length H) ∧ ∀ (i : Nat) (d : D), ds[i]? = some d → J.go i H ∧ ∀ x H', J.yld i H x H' → ∃ B' S', HW K F B0 (x :: τ) (.d d :: T) σ Γ H' B' S'
def GoI (K : PySem.W.Frag) (F B0 : Hp) (wi : TI) (T : List O) (Γ : En) (post : List D → List D → En → Prop) : Prop := ∀ (τ : List V) (σ : L2.St) (H : Hp) (Q : It → Hp → Prop), Ho K F B0 τ T σ Γ H →
  (∀ J τs hs ds Γ' H', post ds hs Γ' → Ho K F B0 (τs ++ τ) (hs.map O.d ++ T) σ Γ' H' → τs.length = hs.length → Iter K F B0 J τs hs ds → Q J H') → wi σ H Q
theorem HW.held : ∀ {hs : List D} {τs : List V} {S : Ad}, HW K F B0 (τs ++ τ) (hs.map O.d ++ T) σ Γ H B S → τs.length = hs.length → RL K B τs hs
  | [], [], _, _, _ => .nil
  | x :: hs, v :: τs, S, h, l => by
    obtain ⟨r, S2, _, w⟩ := HW.popd (τ := τs ++ τ) (T := hs.map O.d ++ T) h
    exact .cons r (w.held (by simpa using l))
theorem gos_for {wi : TI} {g : TG} {tb : TS} (h : GoI K F B0 wi T Γ fun ds hs Γ1 => ∃ Iv : Nat → En → Prop, Iv 0 Γ1 ∧
    (∀ i d Γ', ds[i]? = some d → Iv i Γ' → GoG K F B0 g (.d d) (hs.map O.d ++ T) Γ' fun Γ2 => GoS K F B0 tb (hs.map O.d ++ T) Γ2 { nx := Iv (i + 1), rt := Dd.rt, bk := Dd.nx, ct := Iv (i + 1) }) ∧
    ∀ Γ', Iv ds.length Γ' → Dd.nx Γ') : GoS K F B0 (tFor wi g tb) T Γ Dd := fun τ σ H De hw s =>
  h τ σ H _ hw fun J τs hs ds Γ1 H1 ⟨Iv, h0, hst, hd⟩ w1 hl it => by
    have hl' : τs.length = (hs.map O.d).length := by simp [hl]
    refine ⟨fun i m σ' H' => m = ds.length - i ∧ i ≤ ds.length ∧ ∃ Γ', Iv i Γ' ∧ Ho K F B0 (τs ++ τ) (hs.map O.d ++ T) σ' Γ' H', ⟨ds.length, by simp, Nat.zero_le _, Γ1, h0, w1⟩, ?_⟩
    rintro i m σ' H' ⟨rfl, hi, Γ', p, B', S', w⟩
    obtain ⟨q1, q2⟩ := it _ _ σ' Γ' H' B' S' w (w.held hl)
    by_cases hlt : i < ds.length
    · obtain ⟨q3, q4⟩ := q2 i ds[i] (by simp [hlt])
      refine .inr ⟨q3, fun σ2 H2 => ∃ Γ2, Iv (i + 1) Γ2 ∧ Ho K F B0 (τs ++ τ) (hs.map O.d ++ T) σ2 Γ2 H2, fun σ2 H2 z => ⟨ds.length - (i + 1), by omega, rfl, hlt, z⟩, fun x H2 y => ?_⟩
      obtain ⟨B2, S2, w2⟩ := q4 x H2 y
      refine hst i ds[i] Γ' (by simp [hlt]) p (τs ++ τ) σ' H2 x _ ⟨B2, S2, w2⟩ fun σ3 Γ3 H3 h3 w3 => h3 _ σ3 H3 _ w3 ⟨fun σ4 Γ4 H4 z w4 => ⟨Γ4, z, w4⟩, fun v o σ4 Γ4 H4 z ⟨B4, S4, w4⟩ => s.rt v o σ4 Γ4 H4 z ⟨B4, S4, w4.under hl'⟩,
        fun σ4 Γ4 H4 z ⟨B4, S4, w4⟩ => ?_, fun σ4 Γ4 H4 z w4 => ⟨Γ4, z, w4⟩⟩
      obtain ⟨S5, w5⟩ := w4.drop hl'
      exact s.nx σ4 Γ4 H4 z ⟨B4, S5, w5⟩
    · have e : i = ds.length := by omega
      subst e
      obtain ⟨S5, w5⟩ := w.drop hl'
      exact .inl ⟨q1, s.nx σ' Γ' H' (hd Γ' p) ⟨B', S5, w5⟩⟩
theorem RL.get : ∀ {vs : List V} {xs : List D} {i : Nat} {x : D}, RL K B vs xs → xs[i]? = some x → ∃ v, vs[i]? = some v ∧ R K B v x
  | _, _, _, _, .nil, h => by simp at h
  | _, _, 0, _, .cons (v := v) r _, h => by simp at h; subst h; exact ⟨v, rfl, r⟩
  | _, _, i + 1, x, .cons _ t, h => by
    obtain ⟨v, a, b⟩ := RL.get (i := i) t (by simpa using h)
    exact ⟨v, by simpa using a, b⟩
theorem Rd.inj {a : Addr} {xs ys : List V} (h : Rd H a (.lst xs)) (h' : Rd H a (.lst ys)) : xs = ys := by
  rcases h with h | ⟨o, h⟩ <;> rcases h' with h' | ⟨o', h'⟩ <;> rw [h] at h' <;> cases h' <;> rfl
theorem Ex.sqL (e : Ex H H') {a : Addr} {xs : List V} (h : SqL K H a xs) : SqL K H' a xs := h.imp e.rd id
theorem Ex.sqT (e : Ex H H') {a : Addr} {xs : List V} (h : SqT K H a xs) : SqT K H' a xs := h.imp e.rd id
/-- what a name's walk says of a list -/
def D.seq? : D → Option (List D)
  | .lst xs => some xs
  | .sq xs => some xs
  | _ => none
theorem R.seqL {xs : List D} (r : R K B v x) (q : x.seq? = some xs) : ∃ a vs, v = .ref a ∧ SqL K B a vs ∧ RL K B vs xs := by
  cases r with
  | lst h r => cases q; exact ⟨_, _, rfl, SqL.of h, r⟩
  | sq h r => cases q; exact ⟨_, _, rfl, h, r⟩
  | _ => cases q
theorem iter_list {a : Addr} {xs : List D} (q : x.seq? = some xs) : Iter K F B0 (Itl K a) [.ref a] [x] xs := by
  intro τ T σ Γ H B S h rl0
  obtain ⟨v0, e0, r⟩ := rl0.one
  cases e0
  obtain ⟨a', vs, e, sq, rl⟩ := r.seqL q
  cases e
  have sqh := h.pu.sqL sq
  refine ⟨⟨vs, sqh, by rw [rl.length]; exact Nat.le_refl _⟩, fun i d hd => ?_⟩
  obtain ⟨y, hy, ry⟩ := rl.get hd
  refine ⟨⟨vs, y, sqh, hy⟩, fun x H' ⟨e, y'⟩ => ?_⟩
  subst e
  have := y' vs sqh
  rw [hy] at this
  cases this
  exact ⟨B, _, h.pushd ry⟩
theorem iter_tup {a : Addr} {xs : List D} : Iter K F B0 (Itt K a) [.ref a] [.tup xs] xs := by
  intro τ T σ Γ H B S h rl0
  obtain ⟨v0, e0, r⟩ := rl0.one
  cases e0
  cases r with
  | @tup _ vs _ sq rl =>
  have sqh := h.pu.sqT sq
  refine ⟨⟨vs, sqh, by rw [rl.length]; exact Nat.le_refl _⟩, fun i d hd => ?_⟩
  obtain ⟨y, hy, ry⟩ := rl.get hd
  refine ⟨⟨vs, y, sqh, hy⟩, fun x H' ⟨e, y'⟩ => ?_⟩
  subst e
  have := y' vs sqh
  rw [hy] at this
  cases this
  exact ⟨B, _, h.pushd ry⟩
def rngD (lo : Int) (n : Nat) : List D := (List.range n).map fun (i : Nat) => D.int (lo + (i : Int))
theorem iter_rng {lo : Int} {n : Nat} : Iter K F B0 (Itr lo n) [] [] (rngD lo n) := by
  intro τ T σ Γ H B S h _
  refine ⟨by simp [rngD, Itr], fun i d hd => ?_⟩
  have hi : i < n := by
    have := (List.getElem?_eq_some_iff.mp hd).1
    simpa [rngD] using this
  have e : d = .int (lo + (i : Int)) := by
    simp [rngD, hi] at hd
    exact hd.symm
  refine ⟨hi, fun x H' ⟨e1, e2⟩ => ?_⟩
  subst e1 e2 e
  exact ⟨B, _, HW.pushd (τ := τ) (T := T) h .int⟩
theorem goi_rng1 {ta : TA} {posti : List D → List D → En → Prop} (h : GoA K F B0 ta T Γ fun xs Γ1 => ∃ j : Int, xs = [.int j] ∧ -(2 ^ 62) ≤ j ∧ j < 2 ^ 62 ∧ posti (rngD 0 j.toNat) [] Γ1) : GoI K F B0 (iRng1 ta) T Γ posti := fun τ σ H Q hw k =>
  h τ σ H _ hw fun vs xs Γ1 H1 ⟨j, e, q1, q2, h1⟩ ⟨_, _, w1⟩ hl => by
    subst e
    obtain ⟨rl, S', w⟩ := w1.args hl
    cases rl with | cons r rl => cases rl; cases r; exact ⟨j, rfl, q1, q2, k _ [] [] _ Γ1 H1 h1 ⟨_, _, w⟩ rfl iter_rng⟩
theorem goi_rng2 {ta : TA} {posti : List D → List D → En → Prop} (h : GoA K F B0 ta T Γ fun xs Γ1 => ∃ i j : Int, xs = [.int i, .int j] ∧ (-(2 ^ 62) ≤ i ∧ i < 2 ^ 62 ∧ -(2 ^ 62) ≤ j ∧ j < 2 ^ 62) ∧ posti (rngD i (j - i).toNat) [] Γ1) : GoI K F B0 (iRng2 ta) T Γ posti := fun τ σ H Q hw k =>
  h τ σ H _ hw fun vs xs Γ1 H1 ⟨i, j, e, q, h1⟩ ⟨_, _, w1⟩ hl => by
    subst e
    obtain ⟨rl, S', w⟩ := w1.args hl
    cases rl with | cons r rl => cases rl with | cons r2 rl => cases rl; cases r; cases r2; exact ⟨i, j, rfl, q, k _ [] [] _ Γ1 H1 h1 ⟨_, _, w⟩ rfl iter_rng⟩
def sgnD (s : Str) : List D := s.cps.toList.map fun c => D.str ⟨#[c]⟩
theorem iter_str {s : Str} : Iter K F B0 (Its s) [] [] (sgnD s) := by
  intro τ T σ Γ H B S h _
  refine ⟨by simp [sgnD, Its], fun i d hd => ?_⟩
  have hi : i < s.cps.size := by
    have := (List.getElem?_eq_some_iff.mp hd).1
    simpa [sgnD] using this
  refine ⟨hi, fun x H' ⟨e1, c, e2, e3⟩ => ?_⟩
  subst e1 e3
  have e : d = .str ⟨#[c]⟩ := by
    simp [sgnD, e2] at hd
    exact hd.symm
  subst e
  exact ⟨B, _, HW.pushd (τ := τ) (T := T) h .str⟩
def enumD (xs : List D) : List D := xs.zipIdx.map fun p => D.tup [.int (p.2 : Int), p.1]
theorem enumD_get {xs : List D} {i : Nat} : (enumD xs)[i]? = xs[i]?.map fun x => D.tup [.int (i : Int), x] := by
  simp [enumD, List.getElem?_zipIdx, Option.map_map, Function.comp_def]
theorem enumD_len {xs : List D} : (enumD xs).length = xs.length := by simp [enumD]
theorem iter_enum {a : Addr} {xs : List D} (q : x.seq? = some xs) : Iter K F B0 (Ite K a) [.ref a] [x] (enumD xs) := by
  intro τ T σ Γ H B S h rl0
  obtain ⟨v0, e0, r⟩ := rl0.one
  cases e0
  obtain ⟨a', vs, e, sq, rl⟩ := r.seqL q
  cases e
  have sqh := h.pu.sqL sq
  refine ⟨⟨vs, sqh, by rw [rl.length, enumD_len]; exact Nat.le_refl _⟩, fun i d hd => ?_⟩
  rw [enumD_get] at hd
  cases hx : xs[i]? with
  | none => rw [hx] at hd; cases hd
  | some x0 =>
  rw [hx] at hd
  cases hd
  obtain ⟨y, hy, ry⟩ := rl.get hx
  refine ⟨⟨vs, y, sqh, hy⟩, fun x H' ⟨t, x1, e1, e2, e3, y'⟩ => ?_⟩
  subst e1 e3
  have := y' vs sqh
  rw [hy] at this
  cases this
  obtain ⟨S', w'⟩ := HW.newd h e2 (x := .tup [.int (i : Int), x0]) (.tup (SqT.of upd_same) (.cons .int (.cons (ry.mono (.of_ex (.new (h.pu.back e2)))) .nil)))
  exact ⟨_, S', w'⟩
theorem goi_enum {ta : TA} {posti : List D → List D → En → Prop} (h : GoA K F B0 ta T Γ fun ys Γ1 => ∃ x xs, ys = [x] ∧ x.seq? = some xs ∧ posti (enumD xs) [x] Γ1) : GoI K F B0 (iEnum K ta) T Γ posti := fun τ σ H Q hw k =>
  h τ σ H _ hw fun vs ys Γ1 H1 ⟨x, xs, e, q, h1⟩ ⟨_, _, w1⟩ hl => by
    subst e
    obtain ⟨rl, S', w⟩ := w1.args hl
    cases rl with | cons r rl0 => cases rl0; obtain ⟨a, us, e, sq, rl2⟩ := r.seqL q; subst e; exact ⟨a, us, rfl, w.pu.sqL sq, k (Ite K a) [.ref a] [x] _ Γ1 H1 h1 ⟨_, _, w.pushd r⟩ rfl (iter_enum q)⟩
def zipD (xs ys : List D) : List D := (xs.zip ys).map fun p => D.tup [p.1, p.2]
theorem iter_zip {a b : Addr} {x y : D} {xs ys : List D} (q : x.seq? = some xs) (q2 : y.seq? = some ys) : Iter K F B0 (Itz K a b) [.ref b, .ref a] [y, x] (zipD xs ys) := by
  intro τ T σ Γ H B S h rl0
  obtain ⟨v0, v1, e0, r2, r⟩ := rl0.two
  cases e0
  obtain ⟨a', vs, e, sq, rl⟩ := r.seqL q
  cases e
  obtain ⟨b', us, e, sq2, rl2⟩ := r2.seqL q2
  cases e
  have sqh := h.pu.sqL sq
  have sqh2 := h.pu.sqL sq2
  refine ⟨⟨vs, us, sqh, sqh2, by simp only [zipD, List.length_map, List.length_zip]; have := rl.length; have := rl2.length; omega⟩, fun i d hd => ?_⟩
  have hi : i < (zipD xs ys).length := (List.getElem?_eq_some_iff.mp hd).1
  simp only [zipD, List.length_map, List.length_zip] at hi
  have hxi : i < xs.length := by omega
  have hyi : i < ys.length := by omega
  have e : d = .tup [xs[i], ys[i]] := by
    simp [zipD, hxi, hyi, List.getElem?_map, List.zip, List.getElem?_zipWith] at hd
    exact hd.symm
  subst e
  obtain ⟨x1, hx1, rx1⟩ := rl.get (i := i) (x := xs[i]) (by simp [hxi])
  obtain ⟨y1, hy1, ry1⟩ := rl2.get (i := i) (x := ys[i]) (by simp [hyi])
  refine ⟨⟨vs, us, x1, y1, sqh, sqh2, hx1, hy1⟩, fun z H' ⟨t, x2, y2, e1, e2, e3, f1, f2⟩ => ?_⟩
  subst e1 e3
  have g1 := f1 vs sqh
  rw [hx1] at g1
  cases g1
  have g2 := f2 us sqh2
  rw [hy1] at g2
  cases g2
  have ex : Ex B (upd B t (.tup [x1, y1])) := .new (h.pu.back e2)
  obtain ⟨S', w'⟩ := HW.newd h e2 (x := .tup [xs[i], ys[i]]) (.tup (SqT.of upd_same) (.cons (rx1.mono (.of_ex ex)) (.cons (ry1.mono (.of_ex ex)) .nil)))
  exact ⟨_, S', w'⟩
theorem goi_zip {ta : TA} {posti : List D → List D → En → Prop} (h : GoA K F B0 ta T Γ fun zs Γ1 => ∃ x y xs ys, zs = [x, y] ∧ x.seq? = some xs ∧ y.seq? = some ys ∧ posti (zipD xs ys) [y, x] Γ1) : GoI K F B0 (iZip K ta) T Γ posti := fun τ σ H Q hw k =>
  h τ σ H _ hw fun vs zs Γ1 H1 ⟨x, y, xs, ys, e, q, q2, h1⟩ ⟨_, _, w1⟩ hl => by
    subst e
    obtain ⟨rl, S', w⟩ := w1.args hl
    cases rl with | cons r rl0 => cases rl0 with | cons r2 rl0 => cases rl0; obtain ⟨a, us, e, sq, rl2⟩ := r.seqL q; obtain ⟨b, us2, e2, sq2, rl3⟩ := r2.seqL q2; subst e e2; exact ⟨a, b, us, us2, rfl, w.pu.sqL sq, w.pu.sqL sq2, k (Itz K a b) [.ref b, .ref a] [y, x] _ Γ1 H1 h1 ⟨_, _, (w.pushd r).pushd r2⟩ rfl (iter_zip q q2)⟩
def GoGs (K : PySem.W.Frag) (F B0 : Hp) (g : TGs) (xs : List D) (T : List O) (Γ : En) (post : En → Prop) : Prop := ∀ (τ : List V) (σ : L2.St) (H B : Hp) (S : Ad) (vs : List V) (Q : L2.St → Hp → Prop), HW K F B0 τ T σ Γ H B S → RL K B vs xs →
  (∀ σ' Γ' H', post Γ' → Ho K F B0 τ T σ' Γ' H' → Q σ' H') → g vs σ H Q
theorem gog_tup {g : TGs} {n : Nat} (h : ∃ xs, o = .d (.tup xs) ∧ xs.length = n ∧ GoGs K F B0 g xs T Γ posts1) : GoG K F B0 (gTup K n g) o T Γ posts1 := fun τ σ H v Q ⟨B, S, w⟩ k => by
  obtain ⟨xs, rfl, hn, h⟩ := h
  obtain ⟨r, S2, _, w2⟩ := w.popd
  cases r with
  | @tup a vs _ sq rl => exact ⟨a, vs, rfl, w.pu.sqT sq, by rw [rl.length, hn], h τ σ H B S2 vs Q w2 rl k⟩
theorem gogs_nil (h : posts1 Γ) : GoGs K F B0 gNil [] T Γ posts1 := fun τ σ H B S vs Q w r k => by
  cases r
  exact ⟨rfl, k σ Γ H h ⟨_, _, w⟩⟩
theorem gogs_name {xs : List D} {g : TGs} (hi : i < Γ.length) (h : GoGs K F B0 g xs T (Γ.set i (some (.d x))) posts1) : GoGs K F B0 (gCons (gName i) g) (x :: xs) T Γ posts1 := fun τ σ H B S vs Q w r k => by
  cases r with
  | cons r rl =>
    obtain ⟨S', w'⟩ := (w.pushd r).put hi
    exact ⟨_, _, rfl, h τ _ H B S' _ Q w' rl k⟩
end
end SK
namespace SK
open PySem PySem.Spec PyProof.Rows L2
/-- == of two dicts that hold the same flat things -/
def SameD (H : Hp) (x y : V) : Prop := ∃ a b ks ls, x = .ref a ∧ y = .ref b ∧ Rd H a (.dK ks) ∧ Rd H b (.dK ls) ∧ ks.length = ls.length ∧ ∀ p ∈ ks, valV ls p.1 = some p.2 ∧ flatB p.2 = true
def rEqDR : R2 := fun x y H Q => SameD H x y ∧ Q (.bl true) H
def rNeDR : R2 := fun x y H Q => SameD H x y ∧ Q (.bl false) H
theorem op_eqDR {X : Cx} (hu : X.A.units < cLine) : OpR X (compareOp .Eq) rEqDR := fun pins s σ H x y v u Q I rx ry ⟨⟨a, b, ks, ls, ex, ey, ra, rb, hl, hp⟩, q⟩ => by
  subst ex ey
  cases rx; cases ry
  obtain ⟨_, na, va, ka, da⟩ := dk_rd I.hok ra
  obtain ⟨_, nb, vb, kb, db⟩ := dk_rd I.hok rb
  have len : va.length = vb.length := (ka.length.symm.trans hl).trans kb.length
  exact PySem.W.keq_eq (knd := mixKind X.prog X.w) (r := true) na nb da db hu (fun _ => hits_all kb ka hp) (fin_bl I q (by simp [len]))
theorem op_neDR {X : Cx} (hu : X.A.units < cLine) : OpR X (compareOp .NotEq) rNeDR := fun pins s σ H x y v u Q I rx ry ⟨⟨a, b, ks, ls, ex, ey, ra, rb, hl, hp⟩, q⟩ => by
  subst ex ey
  cases rx; cases ry
  obtain ⟨_, na, va, ka, da⟩ := dk_rd I.hok ra
  obtain ⟨_, nb, vb, kb, db⟩ := dk_rd I.hok rb
  have len : va.length = vb.length := (ka.length.symm.trans hl).trans kb.length
  exact PySem.W.keq_ne (knd := mixKind X.prog X.w) (r := true) na nb da db hu (fun _ => hits_all kb ka hp) (fin_bl I q (by simp [len]))
def rAddG (K : PySem.W.Frag) : R2 := fun x y H Q => rI0 (fun i j => .int (i + j)) x y H Q ∨ ((∃ i j, x = .str i ∧ y = .str j ∧ i.length + j.length ≤ sizeLine ∧ Q (.str (i ++ j)) H) ∨ (rCat x y H Q ∨ rCatT K x y H Q))
def rSubG : R2 := rI0 fun i j => .int (i - j)
def repS (a : Str) (n : Int) : Str := ⟨(List.replicate n.toNat a.cps).foldl (· ++ ·) #[]⟩
def rMulS : R2 := fun x y H Q => ∃ a n, x = .str a ∧ y = .int n ∧ 2 ≤ n ∧ n ≤ 100000 ∧ a.length ≤ 100 ∧ 0 < a.length ∧ Q (.str (repS a n)) H
theorem repS_size (a : Str) (n : Int) : (repS a n).length = a.length * n.toNat := by
  have : ∀ (k : Nat) (z : Array Nat), ((List.replicate k a.cps).foldl (· ++ ·) z).size = z.size + a.cps.size * k := by
    intro k
    induction k with
    | zero => intro z; simp
    | succ k ih =>
      intro z
      rw [List.replicate_succ, List.foldl_cons, ih, Array.size_append, Nat.mul_succ]
      omega
  show ((List.replicate n.toNat a.cps).foldl (· ++ ·) #[]).size = _
  rw [this]
  simp [Str.length]
theorem op_mulS {X : Cx} : OpR X (binaryOp .Mult) rMulS := by
  intro pins s σ H x y v u Q I rx ry h
  obtain ⟨a, n, rfl, rfl, h1, h2, h3, h4, q⟩ := h
  obtain ⟨t, rfl⟩ := rx
  obtain ⟨t', rfl⟩ := ry
  have hn : ¬ n < 1 := by omega
  have e1 : (n == 1 || a.length == 0) = false := by
    have : n ≠ 1 := by omega
    have : a.length ≠ 0 := by omega
    simp [*]
  have hz : a.length * n.toNat ≤ sizeLine := by
    have : n.toNat ≤ 100000 := by omega
    have : a.length * n.toNat ≤ 100 * 100000 := Nat.mul_le_mul h3 this
    exact Nat.le_trans this (by decide)
  refine P.mul_str ?_ (fun _ _ => ?_) (fun _ _ => ?_) ?_
  · have q1 : ¬ n < -(2 ^ 63 : Int) := by omega
    have q2 : ¬ n ≥ 2 ^ 63 := by omega
    rw [decide_eq_false q1, decide_eq_false q2]; rfl
  · have : (100 : Int) ≤ (2 ^ 63 - 1) / n := by
      rw [Int.le_ediv_iff_mul_le (by omega)]
      omega
    omega
  · show decide (_ > sizeLine) = false
    exact decide_eq_false (by omega)
  · rw [if_neg hn, if_neg (by rw [e1]; exact Bool.false_ne_true)]
    have hs : (repS a n).length ≤ sizeLine := by rw [repS_size]; exact hz
    exact ⟨hs, ⟨.str (repS a n), H, I.tok _, ⟨_, rfl⟩, q⟩⟩
def rMulG : R2 := fun x y H Q => rI IntMulOk (fun i j => .int (i * j)) x y H Q ∨ (rRep x y H Q ∨ rMulS x y H Q)
def rDivG : R2 := rI CDivW fun i j => .int (i / j)
def rModG : R2 := rI (fun _ j => 0 < j) fun i j => .int (i % j)
def rPowG : R2 := rI CPow fun i j => .int (i ^ j.toNat)
def rEqG (K : PySem.W.Frag) : R2 := fun x y H Q => rEq x y H Q ∨ (rEqD K x y H Q ∨ rEqDR x y H Q)
def rNeG (K : PySem.W.Frag) : R2 := fun x y H Q => rNe x y H Q ∨ (rNeD K x y H Q ∨ rNeDR x y H Q)
def rLtG (K : PySem.W.Frag) : R2 := fun x y H Q => rI0 (fun i j => .bl (decide (i < j))) x y H Q ∨ rLtT K x y H Q
def rLeG : R2 := rI0 fun i j => .bl (decide (i ≤ j))
def rGtG : R2 := rI0 fun i j => .bl (decide (j < i))
def rGeG : R2 := rI0 fun i j => .bl (decide (j ≤ i))
def rIsG : R2 := fun x y H Q => y = .non ∧ Q (.bl (decide (x = .non))) H
def rNotG : R2 := fun x y H Q => y = .non ∧ Q (.bl (!decide (x = .non))) H
section
variable {X : Cx}
theorem op_addG : OpR X (binaryOp .Add) (rAddG X.K) := op_add.or (op_add_str.or (op_cat.or op_catT))
theorem op_subG : OpR X (binaryOp .Sub) rSubG := op_sub
theorem op_mulI : OpR X (binaryOp .Mult) (rI IntMulOk fun i j => .int (i * j)) := opI fun i j t u s Q E hc h => mul_int h hc
theorem op_mulG : OpR X (binaryOp .Mult) rMulG := op_mulI.or (op_rep.or op_mulS)
theorem op_divG : OpR X (binaryOp .FloorDiv) rDivG := op_fdivW
theorem op_modG : OpR X (binaryOp .Mod) rModG := op_mod
theorem op_eqG (hu : X.A.units + 64 < cLine) : OpR X (compareOp .Eq) (rEqG X.K) := op_eq.or ((op_eqD hu).or (op_eqDR (by omega)))
theorem op_neG (hu : X.A.units + 64 < cLine) : OpR X (compareOp .NotEq) (rNeG X.K) := op_ne.or ((op_neD hu).or (op_neDR (by omega)))
theorem op_ltG (hu : X.A.units < cLine) : OpR X (compareOp .Lt) (rLtG X.K) := op_lt.or (op_ltT hu)
theorem op_leG : OpR X (compareOp .LtE) rLeG := op_le
theorem op_gtG : OpR X (compareOp .Gt) rGtG := op_gt
theorem op_geG : OpR X (compareOp .GtE) rGeG := op_ge
theorem op_notG : OpR X (compareOp .IsNot) rNotG := op_notN
end
def rIxDic : R2 := fun x y H Q => ∃ a v, x = .ref a ∧ DGet H a y (some v) ∧ Q v H
section
variable {K : PySem.W.Frag} {F B0 H H' B B' : Hp} {τ τs : List V} {T os : List O} {σ : L2.St} {Γ : En} {S S1 S2 : Ad} {v : V} {o o1 o2 : O} {x : D} {post : O → En → Prop} {ta tb te : TE} {tt tu : TT} {i : Nat} {posts : List D → En → Prop} {postt : Bool → En → Prop} {posts1 : En → Prop} {Dd : EG}
theorem o2_add {a b : Int} (h : post (.d (.int (a + b))) Γ) : Op2 K F B0 (rAddG K) (.int a) (.int b) T Γ post := fun τ σ H B S v1 v2 Q w r1 r2 k => by
  cases r1; cases r2
  exact .inl ⟨a, b, rfl, rfl, k _ _ Γ H h ⟨_, _, w.pushd .int⟩⟩
theorem RL.app : ∀ {vs us : List V} {xs ys : List D}, RL K B vs xs → RL K B us ys → RL K B (vs ++ us) (xs ++ ys)
  | _, _, _, _, .nil, s => s
  | _, _, _, _, .cons r t, s => .cons r (RL.app t s)
theorem o2_addL {xs ys : List D} (hz : xs.length + ys.length ≤ 100000) (h : post (.ol ((xs ++ ys).map O.d)) Γ) : Op2 K F B0 (rAddG K) (.lst xs) (.lst ys) T Γ post := fun τ σ H B S v1 v2 Q w r1 r2 k => by
  cases r1 with | @lst a vs _ h1 l1 =>
  cases r2 with | @lst b us _ h2 l2 =>
  refine .inr (.inr (.inl ⟨a, b, vs, us, rfl, rfl, w.pu _ _ h1, w.pu _ _ h2, by rw [l1.length, l2.length]; exact Nat.le_trans hz (by decide), fun p hp => ?_⟩))
  obtain ⟨S2, w⟩ := w.newl hp (l1.app l2)
  exact k _ _ _ _ h ⟨_, _, w⟩
theorem o2_addT {xs ys : List D} (hx : xs ≠ []) (hz : xs.length + ys.length ≤ 100000) (h : post (.d (.tup (xs ++ ys))) Γ) : Op2 K F B0 (rAddG K) (.tup xs) (.tup ys) T Γ post := fun τ σ H B S v1 v2 Q w r1 r2 k => by
  cases r1 with | @tup a vs _ h1 l1 =>
  cases r2 with | @tup b us _ h2 l2 =>
  refine .inr (.inr (.inr ⟨a, b, vs, us, rfl, rfl, w.pu.sqT h1, w.pu.sqT h2, fun e => hx (List.length_eq_zero_iff.mp (by rw [← l1.length, e]; rfl)), by rw [l1.length, l2.length]; exact Nat.le_trans hz (by decide), fun e => ?_, fun e p hp => ?_⟩))
  · subst e
    cases l2
    rw [List.append_nil] at h
    exact k _ _ _ _ h ⟨_, _, w.pushd (.tup h1 l1)⟩
  · obtain ⟨S2, w⟩ := w.newd (x := .tup (xs ++ ys)) hp (.tup (SqT.of upd_same) ((l1.app l2).mono (.of_ex (.new (w.pu.back hp)))))
    exact k _ _ _ _ h ⟨_, _, w⟩
theorem o2_sub {a b : Int} (h : post (.d (.int (a - b))) Γ) : Op2 K F B0 rSubG (.int a) (.int b) T Γ post := fun τ σ H B S v1 v2 Q w r1 r2 k => by
  cases r1; cases r2
  exact ⟨a, b, rfl, rfl, k _ _ Γ H h ⟨_, _, w.pushd .int⟩⟩
theorem o2_mul {a b : Int} (hm : IntMulOk a b) (h : post (.d (.int (a * b))) Γ) : Op2 K F B0 rMulG (.int a) (.int b) T Γ post := fun τ σ H B S v1 v2 Q w r1 r2 k => by
  cases r1; cases r2
  exact .inl ⟨a, b, rfl, rfl, hm, k _ _ Γ H h ⟨_, _, w.pushd .int⟩⟩
theorem RL.rep {vs : List V} {xs : List D} (r : RL K B vs xs) : ∀ n : Nat, RL K B (List.replicate n vs).flatten (List.replicate n xs).flatten
  | 0 => .nil
  | n + 1 => by rw [List.replicate_succ, List.replicate_succ, List.flatten_cons, List.flatten_cons]; exact r.app (RL.rep r n)
theorem o2_rep {xs : List D} {n : Int} (h1 : -(2 ^ 63) ≤ n) (h2 : n < 2 ^ 63) (hz : xs.length * n.toNat ≤ 100000) (h : post (.ol ((List.replicate n.toNat xs).flatten.map O.d)) Γ) : Op2 K F B0 rMulG (.lst xs) (.int n) T Γ post := fun τ σ H B S v1 v2 Q w r1 r2 k => by
  cases r2
  cases r1 with | @lst a vs _ e l1 =>
  refine .inr (.inl ⟨a, n, vs, rfl, rfl, w.pu _ _ e, h1, h2, by rw [l1.length]; exact Nat.le_trans hz (by decide), fun p hp => ?_⟩)
  obtain ⟨S2, w⟩ := w.newl hp (l1.rep n.toNat)
  exact k _ _ _ _ h ⟨_, _, w⟩
theorem o2_div {a b : Int} (hb : 0 < b ∧ b < 2 ^ 200) (h : post (.d (.int (a / b))) Γ) : Op2 K F B0 rDivG (.int a) (.int b) T Γ post := fun τ σ H B S v1 v2 Q w r1 r2 k => by
  cases r1; cases r2
  exact ⟨a, b, rfl, rfl, wide_div (b := 200) hb.1 (by omega) (by decide) (by decide), k _ _ Γ H h ⟨_, _, w.pushd .int⟩⟩
theorem o2_mod {a b : Int} (hb : 0 < b) (h : post (.d (.int (a % b))) Γ) : Op2 K F B0 rModG (.int a) (.int b) T Γ post := fun τ σ H B S v1 v2 Q w r1 r2 k => by
  cases r1; cases r2
  exact ⟨a, b, rfl, rfl, hb, k _ _ Γ H h ⟨_, _, w.pushd .int⟩⟩
theorem o2_pow {a b : Int} (hb : 0 ≤ b ∧ b ≤ 1000000 ∧ a.natAbs < 2 ^ 64) (h : post (.d (.int (a ^ b.toNat))) Γ) : Op2 K F B0 rPowG (.int a) (.int b) T Γ post := fun τ σ H B S v1 v2 Q w r1 r2 k => by
  cases r1; cases r2
  exact ⟨a, b, rfl, rfl, hb, k _ _ Γ H h ⟨_, _, w.pushd .int⟩⟩
theorem o2_lt {a b : Int} (h : post (.d (.bl (decide (a < b)))) Γ) : Op2 K F B0 (rLtG K) (.int a) (.int b) T Γ post := fun τ σ H B S v1 v2 Q w r1 r2 k => by
  cases r1; cases r2
  exact .inl ⟨a, b, rfl, rfl, k _ _ Γ H h ⟨_, _, w.pushd .bl⟩⟩
theorem o2_le {a b : Int} (h : post (.d (.bl (decide (a ≤ b)))) Γ) : Op2 K F B0 rLeG (.int a) (.int b) T Γ post := fun τ σ H B S v1 v2 Q w r1 r2 k => by
  cases r1; cases r2
  exact ⟨a, b, rfl, rfl, k _ _ Γ H h ⟨_, _, w.pushd .bl⟩⟩
theorem o2_gt {a b : Int} (h : post (.d (.bl (decide (b < a)))) Γ) : Op2 K F B0 rGtG (.int a) (.int b) T Γ post := fun τ σ H B S v1 v2 Q w r1 r2 k => by
  cases r1; cases r2
  exact ⟨a, b, rfl, rfl, k _ _ Γ H h ⟨_, _, w.pushd .bl⟩⟩
theorem o2_ge {a b : Int} (h : post (.d (.bl (decide (b ≤ a)))) Γ) : Op2 K F B0 rGeG (.int a) (.int b) T Γ post := fun τ σ H B S v1 v2 Q w r1 r2 k => by
  cases r1; cases r2
  exact ⟨a, b, rfl, rfl, k _ _ Γ H h ⟨_, _, w.pushd .bl⟩⟩
theorem o2_eqI {a b : Int} (h : post (.d (.bl (decide (a = b)))) Γ) : Op2 K F B0 (rEqG K) (.int a) (.int b) T Γ post := fun τ σ H B S v1 v2 Q w r1 r2 k => by
  cases r1; cases r2
  refine .inl ⟨rfl, ?_⟩
  have e : decide (V.int a = V.int b) = decide (a = b) := by rw [dec_int, Bool.beq_eq_decide_eq]
  rw [e]
  exact k _ _ Γ H h ⟨_, _, w.pushd .bl⟩
theorem o2_neI {a b : Int} (h : post (.d (.bl (!decide (a = b)))) Γ) : Op2 K F B0 (rNeG K) (.int a) (.int b) T Γ post := fun τ σ H B S v1 v2 Q w r1 r2 k => by
  cases r1; cases r2
  refine .inl ⟨rfl, ?_⟩
  have e : decide (V.int a = V.int b) = decide (a = b) := by rw [dec_int, Bool.beq_eq_decide_eq]
  rw [e]
  exact k _ _ Γ H h ⟨_, _, w.pushd .bl⟩
theorem o2_eqS {a b : Str} (h : post (.d (.bl (decide (a = b)))) Γ) : Op2 K F B0 (rEqG K) (.str a) (.str b) T Γ post := fun τ σ H B S v1 v2 Q w r1 r2 k => by
  cases r1; cases r2
  refine .inl ⟨rfl, ?_⟩
  have e : decide (V.str a = V.str b) = decide (a = b) := by
    by_cases q : a = b
    · subst q; simp
    · rw [decide_eq_false q, decide_eq_false (fun z => q (V.str.inj z))]
  rw [e]
  exact k _ _ Γ H h ⟨_, _, w.pushd .bl⟩
theorem o2_neS {a b : Str} (h : post (.d (.bl (!decide (a = b)))) Γ) : Op2 K F B0 (rNeG K) (.str a) (.str b) T Γ post := fun τ σ H B S v1 v2 Q w r1 r2 k => by
  cases r1; cases r2
  refine .inl ⟨rfl, ?_⟩
  have e : decide (V.str a = V.str b) = decide (a = b) := by
    by_cases q : a = b
    · subst q; simp
    · rw [decide_eq_false q, decide_eq_false (fun z => q (V.str.inj z))]
  rw [e]
  exact k _ _ Γ H h ⟨_, _, w.pushd .bl⟩
theorem o2_eqB {a b : Bool} (h : post (.d (.bl (a == b))) Γ) : Op2 K F B0 (rEqG K) (.bl a) (.bl b) T Γ post := fun τ σ H B S v1 v2 Q w r1 r2 k => by
  cases r1; cases r2
  refine .inl ⟨rfl, ?_⟩
  rw [dec_bl]
  exact k _ _ Γ H h ⟨_, _, w.pushd .bl⟩
theorem o2_neB {a b : Bool} (h : post (.d (.bl (!(a == b)))) Γ) : Op2 K F B0 (rNeG K) (.bl a) (.bl b) T Γ post := fun τ σ H B S v1 v2 Q w r1 r2 k => by
  cases r1; cases r2
  refine .inl ⟨rfl, ?_⟩
  rw [dec_bl]
  exact k _ _ Γ H h ⟨_, _, w.pushd .bl⟩
mutual
def D.py : D → PyData
  | .non => .none
  | .bl b => .bool b
  | .int i => .int i
  | .str s => .str s
  | .tup xs => .tuple (pyL xs)
  | .lst xs => .list (pyL xs)
  | .sq xs => .list (pyL xs)
  | .ref _ => .none
  | .ty _ => .none
  | .dic _ => .none
  | .dit _ => .none
  | .ins _ _ => .none
def pyL : List D → List PyData
  | [] => []
  | x :: xs => x.py :: pyL xs
end
mutual
/-- data that == may ask -/
def D.pl : D → Bool
  | .non => true
  | .bl b => true
  | .int i => true
  | .str s => true
  | .tup xs => plL xs
  | .lst xs => plL xs
  | .sq xs => plL xs
  | .ref _ => false
  | .ty _ => false
  | .dic _ => false
  | .dit _ => false
  | .ins _ _ => false
def plL : List D → Bool
  | [] => true
  | x :: xs => x.pl && plL xs
end
mutual
theorem R.dp (pu : Ex B H) : ∀ {v : V} {x : D}, R K B v x → x.pl = true → Dp K H v x.py
  | _, _, .non, _ => .non
  | _, _, .bl, _ => .bl _
  | _, _, .int, _ => .int _
  | _, _, .str, _ => .str _
  | _, _, .tup h r, q => .tup (pu.sqT h) (RL.dp pu r q)
  | _, _, .lst h r, q => .lst (SqL.of (pu _ _ h)) (RL.dp pu r q)
  | _, _, .sq h r, q => .lst (pu.sqL h) (RL.dp pu r q)
  | _, _, .ref, q => by cases q
  | _, _, .ty, q => by cases q
  | _, _, .dic _ _ _, q => by cases q
  | _, _, .dit _ _ _, q => by cases q
  | _, _, .ins _ _, q => by cases q
theorem RL.dp (pu : Ex B H) : ∀ {v : List V} {x : List D}, RL K B v x → plL x = true → DpAll K H v (pyL x)
  | _, _, .nil, _ => .nil
  | _, _, .cons h r, q => .cons (R.dp pu h (by simp [plL] at q; exact q.1)) (RL.dp pu r (by simp [plL] at q; exact q.2))
end
/-- data that == tells -/
def D.eqs (x y : D) : Prop := x.pl = true ∧ y.pl = true ∧ SeqAt.shaped x.py = true ∧ SeqAt.shaped y.py = true
theorem o2_eqD {x y : D} (q : x.eqs y) (h : post (.d (.bl (PyData.eqv x.py y.py))) Γ) : Op2 K F B0 (rEqG K) x y T Γ post := fun τ σ H B S v1 v2 Q w r1 r2 k =>
  .inr (.inl ⟨x.py, y.py, r1.dp w.pu q.1, r2.dp w.pu q.2.1, q.2.2.1, q.2.2.2, k _ _ Γ H h ⟨_, _, w.pushd .bl⟩⟩)
theorem o2_neD {x y : D} (q : x.eqs y) (h : post (.d (.bl (!PyData.eqv x.py y.py))) Γ) : Op2 K F B0 (rNeG K) x y T Γ post := fun τ σ H B S v1 v2 Q w r1 r2 k =>
  .inr (.inl ⟨x.py, y.py, r1.dp w.pu q.1, r2.dp w.pu q.2.1, q.2.2.1, q.2.2.2, k _ _ Γ H h ⟨_, _, w.pushd .bl⟩⟩)
def D.isNon : D → Bool
  | .non => true
  | _ => false
theorem R.isNon {v : V} {x : D} (r : R K B v x) : decide (v = .non) = x.isNon := by cases r <;> rfl
theorem o2_is {x : D} (h : post (.d (.bl x.isNon)) Γ) : Op2 K F B0 rIsG x .non T Γ post := fun τ σ H B S v1 v2 Q w r1 r2 k => by
  cases r2
  refine ⟨rfl, ?_⟩
  rw [r1.isNon]
  exact k _ _ Γ H h ⟨_, _, w.pushd .bl⟩
theorem o2_not {x : D} (h : post (.d (.bl (!x.isNon))) Γ) : Op2 K F B0 rNotG x .non T Γ post := fun τ σ H B S v1 v2 Q w r1 r2 k => by
  cases r2
  refine ⟨rfl, ?_⟩
  rw [r1.isNon]
  exact k _ _ Γ H h ⟨_, _, w.pushd .bl⟩
def D.flat : D → Bool
  | .non => true
  | .bl _ => true
  | .int _ => true
  | .str _ => true
  | _ => false
def D.eq1 : D → D → Bool
  | .non, .non => true
  | .bl a, .bl b => a == b
  | .bl a, .int b => (if a then 1 else 0) == b
  | .int a, .bl b => a == (if b then 1 else 0)
  | .int a, .int b => a == b
  | .str a, .str b => a == b
  | _, _ => false
theorem R.flatV {v : V} {x : D} (r : R K B v x) (q : x.flat = true) : L2.flatV v = true := by cases r <;> first | rfl | cases q
theorem R.eqV {v u : V} {x y : D} (r : R K B v x) (s : R K B u y) (q : x.flat = true) (q2 : y.flat = true) : L2.eqV v u = x.eq1 y := by
  cases r <;> first | (cases s <;> first | rfl | cases q2) | cases q
theorem RL.flat : ∀ {vs : List V} {xs : List D}, RL K B vs xs → xs.all D.flat = true → vs.all L2.flatV = true
  | _, _, .nil, _ => rfl
  | _, _, .cons r t, q => by simp only [List.all_cons, Bool.and_eq_true] at q ⊢; exact ⟨r.flatV q.1, t.flat q.2⟩
def D.items? : D → Option (List D)
  | .lst xs => some xs
  | .sq xs => some xs
  | .tup xs => some xs
  | _ => none
theorem R.items {xs : List D} (r : R K B v x) (q : x.items? = some xs) : ∃ a vs, v = .ref a ∧ (SqL K B a vs ∨ SqT K B a vs) ∧ RL K B vs xs := by
  cases r with
  | lst h r => cases q; exact ⟨_, _, rfl, .inl (SqL.of h), r⟩
  | sq h r => cases q; exact ⟨_, _, rfl, .inl h, r⟩
  | tup h r => cases q; exact ⟨_, _, rfl, .inr h, r⟩
  | _ => cases q
def kD : Key → D
  | .inl i => .int i
  | .inr s => .str s
def dval {κ : Type} [DecidableEq κ] {α : Type} (kvs : List (κ × α)) (k : κ) : Option α := (kvs.find? fun kv => decide (kv.1 = k)).map (·.2)
theorem RK.val {k : Key} : ∀ {ws : List (Key × V)} {kvs : List (Key × D)}, RK K B ws kvs → (∃ v x, valV ws k = some v ∧ dval kvs k = some x ∧ R K B v x) ∨ (valV ws k = none ∧ dval kvs k = none)
  | _, _, .nil => .inr ⟨rfl, rfl⟩
  | _, _, .cons (k := k0) (v := v0) (x := x0) (vs := vs) (xs := xs) r t => by
    by_cases e : k0 = k
    · left
      refine ⟨v0, x0, by simp [valV, e], by simp [dval, e], r⟩
    · have e1 : valV ((k0, v0) :: vs) k = valV vs k := by simp [valV, e]
      have e2 : dval ((k0, x0) :: xs) k = dval xs k := by simp [dval, e]
      rw [e1, e2]
      exact RK.val t
theorem R.kV {k : Key} (r : R K B v (kD k)) : v = L2.kV k := by cases k <;> (cases r; rfl)
end
end SK
namespace SK
open PySem PySem.Spec PyProof.Rows L2
section
variable {K : PySem.W.Frag} {F B0 H H' B B' : Hp} {τ τs : List V} {T os : List O} {σ : L2.St} {Γ : En} {S S1 S2 : Ad} {v w : V} {o p : O} {x : D} {post : O → En → Prop} {ta tb te td ty tv : TE} {tt tu : TT} {i : Nat} {posts : List D → En → Prop} {postt : Bool → En → Prop} {posts1 : En → Prop} {Dd : EG}
theorem set_same {σ : List (Option V)} (a : σ[i]? = some (some v)) : σ.set i (some v) = σ := by
  have hl : i < σ.length := (List.getElem?_eq_some_iff.mp a).1
  apply List.ext_getElem?
  intro n
  by_cases hn : n = i
  · subst hn; rw [List.getElem?_set_self hl, a]
  · rw [List.getElem?_set_ne (Ne.symm hn)]
/-- the thing at slot i is changed, the thing held on top goes into it -/
theorem HW.mut2 (h : HW K F B0 (w :: τ) (o :: T) σ Γ H B S) (e : Γ[i]? = some (some p)) : ∃ (v : V) (S1 So : Ad), σ[i]? = some (some v) ∧ RO K B H S1 v p ∧ RO K B H So w o ∧ (∀ b, S1 b → ¬ So b) ∧ (∀ b, S1 b → H b ≠ none) ∧ (∀ b, So b → H b ≠ none) ∧
    ∀ a c p', S1 a → RO K B (upd H a c) (fun b => S1 b ∨ So b) v p' → ∃ S', HW K F B0 τ T σ (Γ.set i (some p')) (upd H a c) B S' := by
  obtain ⟨So, Sr, s1, s2, dj, ro, wr⟩ := h.pop
  obtain ⟨v, S1, S2, a1, b1, c1, d1, r1, f⟩ := wr.slot e
  refine ⟨v, S1, So, a1, r1, ro, fun b z y => dj b y (b1 b z), fun b z => (wr.ow b (b1 b z)).2.2, fun b z => (h.ow b (s1 b z)).2.2, fun a c p' ha rp => ?_⟩
  have q := f B (upd H a c) (fun b => S1 b ∨ So b) (some v) (some p') (.refl B) (fun b u z y => by
    rw [upd_ne (fun q => d1 a ha (by rw [← q]; exact z))]; exact y) (fun b z y => z.elim (fun z => d1 b z y) fun z => dj b z (c1 b y)) (fun x q => by cases q; exact ⟨v, rfl, rp⟩)
  rw [set_same a1] at q
  refine ⟨_, ⟨fun b u z => ?_, fun b u z => ?_, wr.b0, fun b z => ?_, wr.nw, q, wr.lt⟩⟩
  · have hn : b ≠ a := fun q => by rw [q, (wr.ow a (b1 a ha)).1] at z; cases z
    rw [upd_ne hn]; exact wr.fr b u z
  · have hn : b ≠ a := fun q => by rw [q, (wr.ow a (b1 a ha)).2.1] at z; cases z
    rw [upd_ne hn]; exact wr.pu b u z
  · have : F b = none ∧ B b = none ∧ H b ≠ none := by
      rcases z with (z | z) | z
      · exact wr.ow b (b1 b z)
      · exact h.ow b (s1 b z)
      · exact wr.ow b (c1 b z)
    refine ⟨this.1, this.2.1, ?_⟩
    by_cases hn : b = a
    · rw [hn, upd_same]; simp
    · rw [upd_ne hn]; exact this.2.2
/-- the thing at slot i is changed -/
theorem HW.mut1 (h : HW K F B0 τ T σ Γ H B S) (e : Γ[i]? = some (some p)) : ∃ (v : V) (S1 : Ad), σ[i]? = some (some v) ∧ RO K B H S1 v p ∧ (∀ b, S1 b → H b ≠ none) ∧
    ∀ a c p', S1 a → RO K B (upd H a c) S1 v p' → ∃ S', HW K F B0 τ T σ (Γ.set i (some p')) (upd H a c) B S' := by
  obtain ⟨v, S1, So, a1, r1, _, _, n1, _, f⟩ := HW.mut2 (h.pushd (v := .non) (x := .non) .non) e
  exact ⟨v, S1, a1, r1, n1, fun a c p' ha rp => f a c p' ha (rp.tr (.refl B) (fun _ z => .inl z) fun _ _ _ e => e)⟩
theorem RS.snoc {So : Ad} (ro : RO K B H So w o) : ∀ {σ : List (Option V)} {Γ : List (Option O)} {S : Ad}, RS K B H S σ Γ → (∀ b, S b → ¬ So b) → RS K B H (fun b => S b ∨ So b) (σ ++ [some w]) (Γ ++ [some o])
  | _, _, _, .nil, _ => .cons (S1 := So) (S2 := fun _ => False) (fun _ z => .inr z) (fun _ z => z.elim) (fun _ _ z => z) ro .nil
  | _, _, _, .un r, dj => .un (RS.snoc ro r dj)
  | _, _, _, .cons (S1 := T1) (S2 := T2) s1 s2 d r rs, dj => .cons (S1 := T1) (S2 := fun b => T2 b ∨ So b) (fun b z => .inl (s1 b z)) (fun b z => z.imp (s2 b) id) (fun b z y => y.elim (d b z) (dj b (s1 b z))) r (RS.snoc ro rs fun b z => dj b (s2 b z))
theorem RS.at (e : ∀ b u, S b → H b = some u → H' b = some u) {σ : List (Option V)} {Γ : List (Option O)} (r : RS K B H S σ Γ) : RS K B H' S σ Γ := r.tr (.refl B) (fun _ z => z) e
/-- xs.append(e), xs a name -/
theorem gos_append (h : Go K F B0 te T Γ fun o Γ1 => ∃ xs, Γ1[i]? = some (some (.ol xs)) ∧ xs.length < 100000 ∧ Dd.nx (Γ1.set i (some (.ol (xs ++ [o]))))) (h0 : ∃ xs, Γ[i]? = some (some (.ol xs))) :
    GoS K F B0 (tDrop (tBM K "list" rAppend (tVar i) (tCons te tNil))) T Γ Dd := fun τ σ H De hw s => by
  obtain ⟨B, S, w⟩ := hw
  obtain ⟨xs0, e0⟩ := h0
  obtain ⟨v, S1, a1, r1, _, _⟩ := w.mut1 e0
  cases r1 with
  | @ol _ _ a vs _ _ _ _ hc _ =>
  refine ⟨.ref a, a1, Or.inl ⟨rfl, vs, SqL.of hc⟩, h τ σ H _ ⟨B, S, w⟩ fun v2 o2 Γ2 H2 ⟨xs, e2, hz, h2⟩ ⟨B2, S2, w2⟩ => ?_⟩
  obtain ⟨v', S3, So, a2, r2, ro, dj, _, _, f⟩ := w2.mut2 e2
  rw [a1] at a2
  cases a2
  cases r2 with
  | @ol _ S4 _ us _ ha hs hn hc2 rs =>
  have len : us.length = xs.length := by simpa using rs.len
  refine ⟨a, us, v2, rfl, rfl, hc2, by rw [len]; exact Nat.lt_of_lt_of_le hz (by decide), ?_⟩
  obtain ⟨S', w3⟩ := f a (.lst (us ++ [v2])) (.ol (xs ++ [o2])) ha (.ol (S' := fun b => S4 b ∨ So b) (.inl ha) (fun b z => z.imp (hs b) id) (fun z => z.elim hn fun z => dj a ha z) upd_same (by
    rw [List.map_append, List.map_append]
    exact (rs.snoc ro fun b z => dj b (hs b z)).at fun b u z q => by
      rw [upd_ne (fun e => by subst e; exact z.elim hn fun z => dj b ha z)]; exact q))
  exact s.nx σ _ _ h2 ⟨B2, S', w3⟩
def dput {κ : Type} [DecidableEq κ] {α : Type} (kvs : List (κ × α)) (k : κ) (v : α) : List (κ × α) :=
  if (kvs.any fun kv => decide (kv.1 = k)) = true then kvs.map (fun kv => if kv.1 = k then (kv.1, v) else kv) else kvs ++ [(k, v)]
theorem any_keys {κ α β : Type} [DecidableEq κ] {k : κ} : ∀ {ws : List (κ × α)} {kvs : List (κ × β)}, ws.map (·.1) = kvs.map (·.1) → (ws.any fun kv => decide (kv.1 = k)) = kvs.any fun kv => decide (kv.1 = k)
  | [], [], _ => rfl
  | a :: ws, b :: kvs, e => by
    simp only [List.map_cons, List.cons.injEq] at e
    rw [List.any_cons, List.any_cons, any_keys e.2, e.1]
theorem repl_keys {κ α : Type} [DecidableEq κ] {k : κ} {v : α} (kvs : List (κ × α)) : (kvs.map (fun kv => if kv.1 = k then (kv.1, v) else kv)).map (·.1) = kvs.map (·.1) := by
  rw [List.map_map]
  apply List.map_congr_left
  intro a _
  show (if a.1 = k then (a.1, v) else a).1 = a.1
  split <;> rfl
theorem dput_keys {κ α β : Type} [DecidableEq κ] {k : κ} {v : α} {x : β} {ws : List (κ × α)} {kvs : List (κ × β)} (e : ws.map (·.1) = kvs.map (·.1)) : (dput ws k v).map (·.1) = (dput kvs k x).map (·.1) := by
  unfold dput
  rw [any_keys e]
  split
  · rw [repl_keys, repl_keys, e]
  · rw [List.map_append, List.map_append, e]; rfl
theorem dput_nodup {κ α : Type} [DecidableEq κ] {k : κ} {v : α} {kvs : List (κ × α)} (n : (kvs.map (·.1)).Nodup) : ((dput kvs k v).map (·.1)).Nodup := by
  unfold dput
  split
  · rw [repl_keys]; exact n
  · rename_i h
    rw [List.map_append, List.nodup_append]
    refine ⟨n, by simp, fun a ha b hb => ?_⟩
    have e : b = k := by simpa using hb
    subst e
    intro q
    subst q
    obtain ⟨kv, h1, h2⟩ := List.mem_map.mp ha
    exact h (List.any_eq_true.mpr ⟨kv, h1, by simp [h2]⟩)
theorem repl_not {κ α : Type} [DecidableEq κ] {k : κ} {v : α} : ∀ {kvs : List (κ × α)}, k ∉ kvs.map (·.1) → kvs.map (fun kv => if kv.1 = k then (kv.1, v) else kv) = kvs
  | [], _ => rfl
  | a :: r, h => by
    simp only [List.map_cons, List.mem_cons, not_or] at h
    rw [List.map_cons, repl_not h.2, if_neg (fun q => h.1 q.symm)]
theorem RS.repl {κ : Type} [DecidableEq κ] {k : κ} {So : Ad} (ro : RO K B H So w o) : ∀ {ws : List (κ × V)} {kvs : List (κ × O)} {S : Ad}, (kvs.map (·.1)).Nodup → ws.map (·.1) = kvs.map (·.1) → RS K B H S (ws.map fun p => some p.2) (kvs.map fun p => some p.2) → (∀ b, S b → ¬ So b) →
    RS K B H (fun b => S b ∨ So b) ((ws.map fun kv => if kv.1 = k then (kv.1, w) else kv).map fun p => some p.2) ((kvs.map fun kv => if kv.1 = k then (kv.1, o) else kv).map fun p => some p.2)
  | [], [], _, _, _, _, _ => .nil
  | (k1, v1) :: ws, (k2, o2) :: kvs, S, nd, e, .cons (S1 := T1) (S2 := T2) s1 s2 d r rs, dj => by
    simp only [List.map_cons, List.cons.injEq] at e
    obtain ⟨e1, e2⟩ := e
    subst e1
    simp only [List.map_cons, List.nodup_cons] at nd
    by_cases q : k1 = k
    · subst q
      have n2 : k1 ∉ ws.map (·.1) := by rw [e2]; exact nd.1
      have q1 := repl_not (v := w) n2
      have q2 := repl_not (v := o) nd.1
      simp only [List.map_cons, ↓reduceIte, q1, q2]
      exact .cons (S1 := So) (S2 := T2) (fun b z => .inr z) (fun b z => .inl (s2 b z)) (fun b z y => dj b (s2 b y) z) ro rs
    · simp only [List.map_cons, if_neg q]
      exact .cons (S1 := T1) (S2 := fun b => T2 b ∨ So b) (fun b z => .inl (s1 b z)) (fun b z => z.imp (s2 b) id) (fun b z y => y.elim (d b z) (dj b (s1 b z))) r (RS.repl ro nd.2 e2 rs fun b z => dj b (s2 b z))
theorem RS.dput {κ : Type} [DecidableEq κ] {k : κ} {So : Ad} (ro : RO K B H So w o) {ws : List (κ × V)} {kvs : List (κ × O)} {S : Ad} (nd : (kvs.map (·.1)).Nodup) (e : ws.map (·.1) = kvs.map (·.1)) (rs : RS K B H S (ws.map fun p => some p.2) (kvs.map fun p => some p.2)) (dj : ∀ b, S b → ¬ So b) :
    RS K B H (fun b => S b ∨ So b) ((SK.dput ws k w).map fun p => some p.2) ((SK.dput kvs k o).map fun p => some p.2) := by
  unfold SK.dput
  rw [any_keys e]
  split
  · exact rs.repl ro nd e dj
  · rw [List.map_append, List.map_append]
    exact rs.snoc ro dj
theorem putK_dput {κ : Type} [DecidableEq κ] (kvs : List (κ × V)) (k : κ) (v : V) : putK kvs k v = dput kvs k v := rfl
theorem go_dnew (h : post (.od []) Γ) : Go K F B0 tDNewK T Γ post := fun τ σ H Q ⟨B, S, w⟩ k p hp => by
  obtain ⟨S2, w⟩ := w.newo hp (o := .od []) (c := .dK []) (v := .ref p) (.od (S' := fun _ => False) rfl (fun _ z => z.elim) id upd_same List.nodup_nil rfl .nil)
  exact k _ _ _ _ h ⟨_, _, w⟩
abbrev Ct := List D → (O → Prop) → (Addr → Option (List (Str × D)) → Prop) → Prop
theorem HW.bare (h : HW K F B0 τ T σ Γ H B S) : Ho K F B0 [] [] σ Γ H :=
  ⟨B, S, h.fr, h.pu, h.b0, h.ow, h.nw, RS.drops (σ0 := τ.map some) (Γ0 := T.map some) (by simp [h.lt]) h.rs, rfl⟩
def noX : Addr → Option (List (Str × D)) → Prop := fun _ _ => False
/-- an exception's own dict, where it has one -/
def ExB (K : PySem.W.Frag) (H B : Hp) (d : Option Addr) (fs : Option (List (Str × D))) : Prop := match d, fs with
  | none, none => True
  | some a, some fs => ∃ ws, H a = some (.xd ws) ∧ RF K B ws fs
  | _, _ => False
/-- the slots, and an exception's own dict -/
def HoX (K : PySem.W.Frag) (F B0 : Hp) (σ : L2.St) (Γ : En) (H : Hp) (d : Option Addr) (fs : Option (List (Str × D))) : Prop := ∃ B S, HW K F B0 [] [] σ Γ H B S ∧ ExB K H B d fs
theorem HW.bareB (h : HW K F B0 τ T σ Γ H B S) : HW K F B0 [] [] σ Γ H B S :=
  ⟨h.fr, h.pu, h.b0, h.ow, h.nw, RS.drops (σ0 := τ.map some) (Γ0 := T.map some) (by simp [h.lt]) h.rs, rfl⟩
theorem HoX.none {fs : Option (List (Str × D))} (h : Ho K F B0 [] [] σ Γ H) (e : fs = none) : HoX K F B0 σ Γ H none fs := by
  subst e; obtain ⟨B, S, w⟩ := h; exact ⟨B, S, w, trivial⟩
def spP (K : PySem.W.Frag) (C : Ct) : Sp := fun vs H Q E => ∃ B xs p q, Ex B H ∧ RL K B vs xs ∧ C xs p q ∧
  (∀ v o B' S' H', p o → Ex H H' → Ex B' H' → BLe B B' → (∀ a, B' a ≠ none → B a ≠ none ∨ H a = none) → (∀ a, S' a → H a = none ∧ B' a = none ∧ H' a ≠ none) → RO K B' H' S' v o → Q v H') ∧
  (∀ Cc fs d B' H', q Cc fs → Ex H H' → Ex B' H' → BLe B B' → (∀ a, B' a ≠ none → B a ≠ none ∨ H a = none) → ExB K H' B' d fs → E (.ref Cc) d H')
theorem spP_len {C : Ct} {n : Nat} (h : ∀ xs p q, C xs p q → xs.length = n) {vs : List V} {H : Hp} {Q : VK} {E : XK} (s : spP K C vs H Q E) : vs.length = n := by
  obtain ⟨B, xs, p, q, _, rl, c, _⟩ := s
  rw [rl.length]; exact h xs p q c
theorem RL.start {n : Nat} : ∀ {vs : List V} {xs : List D}, RL K B vs xs → RS K B H (fun _ => False) (vs.map some ++ List.replicate n none) ((xs.map fun x => some (O.d x)) ++ List.replicate n none)
  | _, _, .nil => by
    show RS K B H _ (List.replicate n none) (List.replicate n none)
    induction n with
    | zero => exact .nil
    | succ n ih => rw [List.replicate_succ, List.replicate_succ]; exact .un ih
  | _, _, .cons r t => .cons (S1 := fun _ => False) (S2 := fun _ => False) (fun _ z => z) (fun _ z => z) (fun _ z => z.elim) (.d r) (RL.start t)
/-- the body's reading gives the promise: wx tells what an exception's way out asks -/
theorem sp_body {C : Ct} {N : List Str} {vs : List V} {Q : VK} {E : XK} {X : Cx} {body : List Stmt} (s : spP K C vs H Q E)
    (h : ∀ B xs p q, C xs p q → xs.length = vs.length → (∀ Cc fs d σ Γ H', q Cc fs → HoX K H B σ Γ H' d fs → E (.ref Cc) d H') →
      ∃ t, PSs X body t ∧ GoS K H B t [] ((xs.map fun x => some (O.d x)) ++ List.replicate (N.length - xs.length) none) { nx := fun _ => p (.d .non), rt := fun o' _ => p o' }) :
    ∃ t, PSs X body t ∧ t { nx := fun _ H' => Q .non H', rt := Q } (L2.start N vs) H := by
  obtain ⟨B, xs, p, q, pu, rl, c, k, kx⟩ := s
  obtain ⟨t, ht, g⟩ := h B xs p q c rl.length.symm fun Cc fs d σ Γ H' hq ⟨B', S', w, hd⟩ => kx Cc fs d B' H' hq w.fr w.pu w.b0 w.nw hd
  refine ⟨t, ht, g [] (L2.start N vs) H _ ⟨B, fun _ => False, .refl H, pu, .refl B, fun _ z => z.elim, fun _ z => .inl z, ?_, rfl⟩ ⟨fun σ Γ H' e ⟨B', S', w⟩ => ?_, fun v o' σ Γ H' e ⟨B', S', w⟩ => ?_, fun _ _ _ z => z.elim, fun _ _ _ z => z.elim⟩⟩
  · show RS K B H (fun _ => False) ([] ++ L2.start N vs) _
    rw [List.nil_append, L2.start, rl.length]
    exact rl.start
  · obtain ⟨S1, S2, s1, s2, dj, r, w2⟩ := (w.pushd (v := .non) (x := .non) .non).pop
    exact k .non _ B' S1 H' e w.fr w.pu w.b0 w.nw (fun a z => ((w.pushd (v := .non) (x := .non) .non).ow a (s1 a z))) (.d .non)
  · obtain ⟨S1, S2, s1, s2, dj, r, w2⟩ := w.pop
    exact k v o' B' S1 H' e w.fr w.pu w.b0 w.nw (fun a z => w.ow a (s1 a z)) r
/-- a call of a def that keeps such a promise and lets nothing out -/
theorem go_call {C : Ct} {dvs : List V} {dxs : List D} {E : XK} {t : TA} (h : GoA K F B0 t T Γ fun xs Γ1 => ∃ p, C (xs ++ dxs) p noX ∧ ∀ o, p o → post o Γ1) (hd : ∀ B, RL K B dvs dxs) : Go K F B0 (tCall (spP K C) dvs E t) T Γ post := fun τ σ H Q hw k =>
  h τ σ H _ hw fun vs xs Γ1 H1 ⟨p, c, h1⟩ ⟨B1, S1, w1⟩ hl => by
    obtain ⟨rl, S2, w⟩ := w1.args hl
    refine ⟨B1, xs ++ dxs, p, noX, w.pu, rl.app (hd B1), c, fun v o' B' S' H' e ex pu' le nw ow ro => ?_, fun _ _ _ _ _ e => e.elim⟩
    exact k v _ Γ1 H' (h1 _ e) ⟨B', _, w.push ex le pu' nw ow ro⟩
/-- a call of a def that may let an exception out: W is where it goes -/
theorem go_callX {C : Ct} {W : WX} {X : Addr → Option (List (Str × D)) → En → Prop} {t : TA} (wx : ∀ Cc fs d σ Γ H, X Cc fs Γ → HoX K F B0 σ Γ H d fs → W (.ref Cc) d σ H)
    (h : GoA K F B0 t T Γ fun xs Γ1 => ∃ p q, C xs p q ∧ (∀ o, p o → post o Γ1) ∧ ∀ Cc fs, q Cc fs → X Cc fs Γ1) : Go K F B0 (tCallS (spP K C) (WE W) t) T Γ post := fun τ σ H Q hw k =>
  h τ σ H _ hw fun vs xs Γ1 H1 ⟨p, q, c, h1, h2⟩ ⟨B1, S1, w1⟩ hl => by
    obtain ⟨rl, S2, w⟩ := w1.args hl
    refine ⟨B1, xs, p, q, w.pu, rl, c, fun v o' B' S' H' e ex pu' le nw ow ro => ?_, fun Cc fs d B' H' e ex pu' le nw hd => ?_⟩
    · exact k v _ Γ1 H' (h1 _ e) ⟨B', _, w.push ex le pu' nw ow ro⟩
    · exact wx Cc fs d σ Γ1 H' (h2 Cc fs e) ⟨B', _, (w.push (v := .non) (o := .d .non) (S' := fun _ => False) ex le pu' nw (fun _ z => z.elim) (.d .non)).bareB, hd⟩
end
end SK
namespace SK
open PySem PySem.Spec PyProof.Rows L2
section
variable {X : Cx}
theorem ix_dic (hu : X.A.units + 1 < cLine) : IxR X rIxDic := by
  intro value slice pins s σ H x y v u Q I rx ry h hs
  obtain ⟨a, z, rfl, g, q⟩ := h
  cases rx
  have hT := dict_typeIs I g
  unfold subscriptTail
  refine wpAny_bind ?_
  rw [getitemInPython_of_ne hT.not_modules]
  refine wpAny_bind (wpAny_specialOf hT PySem.F.slot_dict_getitem.lookup ?_)
  have fin : wpAny (model X.prog X.w) X.A (subscripted slice false (.ref a) u) (fun r s₃ => wpAny (model X.prog X.w) X.A (letTemporaryGo value (.ref a) r >>= fun _ => pure r) (EP X pins σ Q) X.xe s₃) X.xe s := by
    rw [hs]
    exact wpAny_operating (wpAny_mono (d_getItem hu I g ry fun w' s' I' r' => show EP X pins σ Q w' s' from ⟨z, H, I', r', q⟩) (fun r s₃ h₃ => wpAny_bind (wpAny_letTemporaryGo (wpAny_pure h₃))) fun _ _ x => x)
  first
    | exact wpAny_pure (wpAny_bind fin)
    | exact wpAny_bind (wpAny_pure (wpAny_bind fin))
    | exact wpAny_bind fin
def rIxG (K : PySem.W.Frag) : R2 := fun x y H Q => rIx K x y H Q ∨ rIxDic x y H Q
theorem ix_G (hu : X.A.units + 1 < cLine) : IxR X (rIxG X.K) := ix_seq.or (ix_dic hu)
def rSlG (K : PySem.W.Frag) : V → Option Int → Option Int → Hp → VK → Prop := fun x lo hi H Q => rSlL K x lo hi H Q ∨ (rSlS x lo hi H Q ∨ rSlT K x lo hi H Q)
theorem sl_G : SlR X (rSlG X.K) := sl_list.or (sl_str.or sl_tup)
end
section
variable {K : PySem.W.Frag} {F B0 H H' B B' : Hp} {τ τs : List V} {T os : List O} {σ : L2.St} {Γ : En} {S S1 S2 : Ad} {v w : V} {o p : O} {x : D} {post : O → En → Prop} {ta tb te td ty tv : TE} {tt tu : TT} {i : Nat} {posts : List D → En → Prop} {postt : Bool → En → Prop} {posts1 : En → Prop} {Dd : EG} {xs : List D} {vs : List V}
theorem RL.at {i : Int} {y : D} (r : RL K B vs xs) (h : atI xs i = some y) : ∃ v, atI vs i = some v ∧ R K B v y := by
  unfold atI at h ⊢
  rw [r.length]
  cases q : ixN xs.length i with
  | none => rw [q] at h; cases h
  | some j =>
    rw [q] at h
    exact r.get (i := j) h
theorem o2_ix {x : D} {xs : List D} {i : Int} {y : D} (q : x.items? = some xs) (hi : atI xs i = some y) (h : post (.d y) Γ) : Op2 K F B0 (rIxG K) x (.int i) T Γ post := fun τ σ H B S v1 v2 Q w r1 r2 k => by
  cases r2
  obtain ⟨a, vs, rfl, sq, rl⟩ := r1.items q
  obtain ⟨u, hu, ru⟩ := rl.at hi
  rcases sq with sq | sq
  · exact .inl (.inl ⟨a, vs, i, u, rfl, rfl, w.pu.sqL sq, hu, k _ _ Γ H h ⟨_, _, w.pushd ru⟩⟩)
  · exact .inl (.inr (.inl ⟨a, vs, i, u, rfl, rfl, w.pu.sqT sq, hu, k _ _ Γ H h ⟨_, _, w.pushd ru⟩⟩))
def cutD {α : Type} (xs : List α) (lo hi : Option Int) : List α := (xs.drop (HT.sIx xs.length 0 lo)).take (HT.sIx xs.length xs.length hi - HT.sIx xs.length 0 lo)
theorem RL.drop : ∀ {vs : List V} {xs : List D} (n : Nat), RL K B vs xs → RL K B (vs.drop n) (xs.drop n)
  | _, _, 0, r => r
  | _, _, _ + 1, .nil => .nil
  | _, _, n + 1, .cons _ t => RL.drop n t
theorem RL.take : ∀ {vs : List V} {xs : List D} (n : Nat), RL K B vs xs → RL K B (vs.take n) (xs.take n)
  | _, _, 0, _ => .nil
  | _, _, _ + 1, .nil => .nil
  | _, _, n + 1, .cons r t => .cons r (RL.take n t)
theorem RL.cut (r : RL K B vs xs) (lo hi : Option Int) : RL K B (cutV vs lo hi) (cutD xs lo hi) := by
  unfold cutV cutD
  rw [r.length]
  exact (r.drop _).take _
/-- a slice's part: left out, or a number -/
def GoO (K : PySem.W.Frag) (F B0 : Hp) (t : TO) (T : List O) (Γ : En) (post : Option Int → En → Prop) : Prop := ∀ (τ : List V) (σ : L2.St) (H : Hp) (Q : Option Int → Hp → Prop), Ho K F B0 τ T σ Γ H →
  (∀ o Γ' H', post o Γ' → Ho K F B0 τ T σ Γ' H' → Q o H') → t σ H Q
theorem goo_none {posto : Option Int → En → Prop} (h : posto none Γ) : GoO K F B0 tNoPart T Γ posto := fun τ σ H Q hw k => k none Γ H h hw
theorem goo_some {posto : Option Int → En → Prop} (h : Go K F B0 te T Γ fun o Γ1 => ∃ i, o = .d (.int i) ∧ posto (some i) Γ1) : GoO K F B0 (tPart te) T Γ posto := fun τ σ H Q hw k =>
  h τ σ H _ hw fun v o Γ1 H1 ⟨i, e, h1⟩ ⟨_, _, w1⟩ => by
    subst e
    obtain ⟨r, _, _, w⟩ := w1.popd
    cases r
    exact ⟨i, rfl, k _ _ _ h1 ⟨_, _, w⟩⟩
/-- a slice's value -/
inductive Sl : D → Option Int → Option Int → O → Prop
  | lst {x : D} {xs : List D} {lo hi : Option Int} : D.seq? x = some xs → Sl x lo hi (.ol ((cutD xs lo hi).map O.d))
  | str {z : Str} {lo hi : Option Int} : z.length ≤ 100000 → Sl (.str z) lo hi (.d (.str (cutS z lo hi)))
  | tup {xs : List D} {lo hi : Option Int} : ¬ (HT.sIx xs.length 0 lo = 0 ∧ HT.sIx xs.length xs.length hi = xs.length) → Sl (.tup xs) lo hi (.d (.tup (cutD xs lo hi)))
theorem go_sl {tl th : TO} (h : Go K F B0 te T Γ fun o Γ1 => GoO K F B0 tl (.d o.fz :: T) Γ1 fun lo Γ2 => GoO K F B0 th (.d o.fz :: T) Γ2 fun hi Γ3 => ∃ o2, Sl o.fz lo hi o2 ∧ post o2 Γ3) : Go K F B0 (tSl (rSlG K) te tl th) T Γ post := fun τ σ H Q hw k =>
  h τ σ H _ hw fun v o Γ1 H1 h1 ⟨_, _, w1⟩ => by
    obtain ⟨_, _, w1, _⟩ := w1.fz
    refine h1 _ σ H1 _ ⟨_, _, w1⟩ fun lo Γ2 H2 h2 w2 => h2 _ σ H2 _ w2 fun hi Γ3 H3 ⟨o2, sl, h3⟩ ⟨_, _, w3⟩ => ?_
    obtain ⟨r, _, _, w⟩ := w3.popd
    generalize o.fz = y at r sl
    cases sl with
    | lst q =>
      obtain ⟨a, vs, rfl, sq, rl⟩ := r.seqL q
      refine .inl ⟨a, vs, rfl, w.pu.sqL sq, fun p hp => ?_⟩
      obtain ⟨S2, w⟩ := w.newl hp (rl.cut lo hi)
      exact k _ _ _ _ h3 ⟨_, _, w⟩
    | str hz =>
      cases r
      exact .inr (.inl ⟨_, rfl, Nat.le_trans hz (by decide), k _ _ _ _ h3 ⟨_, _, w.pushd .str⟩⟩)
    | tup hn =>
      cases r with | @tup a vs _ sq rl =>
      refine .inr (.inr ⟨a, vs, rfl, w.pu.sqT sq, by rw [rl.length]; exact hn, fun p hp => ?_⟩)
      obtain ⟨S2, w⟩ := w.newd (x := .tup (cutD _ lo hi)) hp (.tup (SqT.of upd_same) ((rl.cut lo hi).mono (.of_ex (.new (w.pu.back hp)))))
      exact k _ _ _ _ h3 ⟨_, _, w⟩
def rLenG (K : PySem.W.Frag) : List V → Hp → VK → Prop := fun xs H Q => (∃ x n, xs = [x] ∧ LenV K x H n ∧ Q (.int n) H) ∨ ∃ a kvs, xs = [V.ref a] ∧ Rd H a (.dK kvs) ∧ Q (.int kvs.length) H
theorem call_lenG {X : Cx} : CallR X (.builtin "len") (rLenG X.K) := by
  intro pins s σ H xs us Q I r h
  rcases h with h | ⟨a, kvs, rfl, ha, q⟩
  · exact call_len pins s σ H xs us Q I r h
  · rw [r.ref1]
    exact d_len I ha fun t s' I' => ⟨.int kvs.length, H, I', ⟨t, rfl⟩, q⟩
inductive Ln : D → Nat → Prop
  | seq {x : D} {xs : List D} : D.items? x = some xs → Ln x xs.length
  | str {z : Str} : z.length ≤ 100000 → Ln (.str z) z.length
  | dic {kvs : List (Key × D)} : Ln (.dic kvs) kvs.length
theorem RK.length : ∀ {ws : List (Key × V)} {kvs : List (Key × D)}, RK K B ws kvs → ws.length = kvs.length
  | _, _, .nil => rfl
  | _, _, .cons _ t => by simp [RK.length t]
theorem oa_len {x : D} {n : Nat} (q : Ln x n) (h : post (.d (.int n)) Γ) : OpA K F B0 (rLenG K) [x] T Γ post := fun τ σ H B S vs Q w rl k => by
  obtain ⟨v1, rfl, r⟩ := rl.one
  have fin := fun (n : Nat) (h : post (.d (.int n)) Γ) => k (.int n) _ Γ H h ⟨_, _, w.pushd .int⟩
  cases q with
  | seq q =>
    obtain ⟨a, vs, rfl, sq, rl⟩ := r.items q
    rcases sq with sq | sq
    · exact .inl ⟨_, _, rfl, .inl ⟨vs, w.pu.sqL sq, rl.length.symm⟩, fin _ h⟩
    · exact .inl ⟨_, _, rfl, .inr ⟨vs, w.pu.sqT sq, rl.length.symm⟩, fin _ h⟩
  | str hz => cases r; exact .inl ⟨_, _, rfl, ⟨Nat.le_trans hz (by decide), rfl⟩, fin _ h⟩
  | dic => cases r with | @dic a ws _ hd _ rk => exact .inr ⟨a, ws, rfl, w.pu.rd hd, by rw [rk.length]; exact fin _ h⟩
def rMax2 : List V → Hp → VK → Prop := fun xs H Q => ∃ i j, xs = [.int i, .int j] ∧ Q (.int (if j > i then j else i)) H
def rMin2 : List V → Hp → VK → Prop := fun xs H Q => ∃ i j, xs = [.int i, .int j] ∧ Q (.int (if j < i then j else i)) H
theorem oa_max2 {a b : Int} (h : post (.d (.int (if b > a then b else a))) Γ) : OpA K F B0 rMax2 [.int a, .int b] T Γ post := fun τ σ H B S vs Q w rl k => by
  obtain ⟨v1, v2, rfl, r, r2⟩ := rl.two
  cases r; cases r2
  exact ⟨a, b, rfl, k _ _ Γ H h ⟨_, _, w.pushd .int⟩⟩
theorem oa_min2 {a b : Int} (h : post (.d (.int (if b < a then b else a))) Γ) : OpA K F B0 rMin2 [.int a, .int b] T Γ post := fun τ σ H B S vs Q w rl k => by
  obtain ⟨v1, v2, rfl, r, r2⟩ := rl.two
  cases r; cases r2
  exact ⟨a, b, rfl, k _ _ Γ H h ⟨_, _, w.pushd .int⟩⟩
def rListG (K : PySem.W.Frag) : List V → Hp → VK → Prop := fun xs H Q => (∃ p ys, xs = [.ref p] ∧ (SqL K H p ys ∨ SqT K H p ys) ∧ ∀ l, H l = none → Q (.ref l) (upd H l (.lst ys))) ∨
  ∃ (a : Addr) (kvs : List (Key × V)), xs = [.ref a] ∧ Rd H a (.dK kvs) ∧ ∀ p, H p = none → Q (.ref p) (upd H p (.lst (kvs.map fun kv => kV kv.1)))
theorem call_listG {X : Cx} (hc : X.calm = true) : CallR X (.type "list") (rListG X.K) := call_list_of.or (call_listD hc)
theorem oa_list {x : D} {xs : List D} (q : x.items? = some xs) (h : post (.ol (xs.map O.d)) Γ) : OpA K F B0 (rListG K) [x] T Γ post := fun τ σ H B S vs Q w rl k => by
  obtain ⟨v1, rfl, r⟩ := rl.one
  obtain ⟨a, vs, rfl, sq, rl⟩ := r.items q
  refine .inl ⟨a, vs, rfl, sq.imp w.pu.sqL w.pu.sqT, fun p hp => ?_⟩
  obtain ⟨S2, w⟩ := w.newl hp rl
  exact k _ _ _ _ h ⟨_, _, w⟩
theorem RK.keys : ∀ {ws : List (Key × V)} {kvs : List (Key × D)}, RK K B ws kvs → ws.map (·.1) = kvs.map (·.1)
  | _, _, .nil => rfl
  | _, _, .cons _ t => by simp [RK.keys t]
/-- dict(d) -/
def rDictD : List V → Hp → VK → Prop := fun xs H Q => ∃ (a : Addr) (kvs : List (Key × V)), xs = [.ref a] ∧ Rd H a (.dK kvs) ∧ ∀ p, H p = none → Q (.ref p) (upd H p (.dK kvs))
theorem RK.flK {S : Ad} : ∀ {ws : List (Key × V)} {kvs : List (Key × D)}, RK K B ws kvs → RS K B H S (ws.map fun p => some p.2) ((kvs.map fun p => (p.1, O.d p.2)).map fun p => some p.2)
  | _, _, .nil => .nil
  | _, _, .cons r t => .cons (S1 := fun _ => False) (S2 := S) (fun _ z => z.elim) (fun _ z => z) (fun _ z => z.elim) (.d r) (RK.flK t)
theorem oa_dictD {kvs : List (Key × D)} (h : post (.od (kvs.map fun p => (p.1, O.d p.2))) Γ) : OpA K F B0 rDictD [.dic kvs] T Γ post := fun τ σ H B S vs Q w rl k => by
  obtain ⟨v1, rfl, r⟩ := rl.one
  cases r with | @dic a ws _ hd nd rk =>
  refine ⟨a, ws, rfl, w.pu.rd hd, fun p hp => ?_⟩
  obtain ⟨S2, w⟩ := w.newo hp (v := .ref p) (c := .dK ws) (o := .od (kvs.map fun p => (p.1, O.d p.2))) (.od (S' := fun _ => False) rfl (fun _ z => z.elim) id upd_same (by rw [List.map_map]; exact nd) (by rw [rk.keys, List.map_map]; rfl) rk.flK)
  exact k _ _ _ _ h ⟨_, _, w⟩
inductive TyD : D → String → Prop
  | non : TyD .non "NoneType"
  | bl {b : Bool} : TyD (.bl b) "bool"
  | int {i : Int} : TyD (.int i) "int"
  | str {s : Str} : TyD (.str s) "str"
  | tup {xs : List D} : TyD (.tup xs) "tuple"
  | lst {xs : List D} : TyD (.lst xs) "list"
  | dic {kvs : List (Key × D)} : TyD (.dic kvs) "dict"
theorem TyD.at {n : String} (t : TyD x n) (r : R K B v x) (pu : Ex B H) : TyX K H v (.type n) := by
  cases t <;> cases r
  · exact .base .non
  · exact .base (.bl _)
  · exact .base (.int _)
  · exact .base (.str _)
  · rename_i a vs h _
    rcases h with h | ⟨o, its, n, h1, h2, _⟩
    · rcases pu.rd h with h | ⟨o, h⟩
      · exact .base (.tup h)
      · exact .fTuple h
    · exact .kTuple h1 h2
  · rename_i h _
    exact .base (.lst (pu _ _ h))
  · rename_i h _ _
    rcases pu.rd h with h | ⟨o, h⟩
    · exact .base (.dK h)
    · exact .fDict h
theorem oa_isi {x : D} {n c : String} {b : Bool} (t : TyD x n) (q : kitB n c = some b) (h : post (.d (.bl b)) Γ) : OpA K F B0 (rIsi K) [x, .ty c] T Γ post := fun τ σ H B S vs Q w rl k => by
  obtain ⟨v1, v2, rfl, r, r2⟩ := rl.two
  cases r2
  exact ⟨_, _, .type n, .type c, b, rfl, .ty c, t.at r w.pu, kit_ty q, k _ _ Γ H h ⟨_, _, w.pushd .bl⟩⟩
theorem gos_while {tc : TT} {tb : TS} (Iv : Nat → En → Prop) (h0 : ∃ m, Iv m Γ) (hs : ∀ m Γ', Iv m Γ' → GoT K F B0 tc T Γ' fun b Γ2 => (b = true → GoS K F B0 tb T Γ2 { nx := fun Γ3 => ∃ m', m' < m ∧ Iv m' Γ3, rt := Dd.rt, bk := Dd.nx, ct := fun Γ3 => ∃ m', m' < m ∧ Iv m' Γ3 }) ∧ (b = false → Dd.nx Γ2)) :
    GoS K F B0 (tWhile tc tb) T Γ Dd := fun τ σ H De hw s => by
  obtain ⟨m0, h0⟩ := h0
  refine ⟨fun m σ' H' => ∃ Γ', Iv m Γ' ∧ Ho K F B0 τ T σ' Γ' H', ⟨m0, Γ, h0, hw⟩, ?_⟩
  rintro m σ' H' ⟨Γ', p, w⟩
  refine hs m Γ' p τ σ' H' _ w fun b Γ2 H2 ⟨h1, h2⟩ w2 => ?_
  cases b with
  | true =>
    refine iteT ⟨fun σ3 H3 => ∃ m', m' < m ∧ ∃ Γ3, Iv m' Γ3 ∧ Ho K F B0 τ T σ3 Γ3 H3, fun _ _ z => z, h1 rfl τ σ' H2 _ w2 ⟨?_, s.rt, s.nx, ?_⟩⟩
    · rintro σ3 Γ3 H3 ⟨m', l, q⟩ w3; exact ⟨m', l, Γ3, q, w3⟩
    · rintro σ3 Γ3 H3 ⟨m', l, q⟩ w3; exact ⟨m', l, Γ3, q, w3⟩
  | false => exact iteF (s.nx σ' Γ2 H2 (h2 rfl) w2)
def wipeE : En → List Nat → En
  | Γ, [] => Γ
  | Γ, j :: js => (wipeE Γ js).set j none
theorem RS.unset : ∀ {σ : List (Option V)} {Γ : List (Option O)} {S : Ad} {j : Nat} {v : Option V}, RS K B H S σ Γ → RS K B H S (σ.set j v) (Γ.set j none)
  | _, _, _, _, _, .nil => .nil
  | _, _, _, 0, _, .un r => .un r
  | _, _, _, 0, _, .cons _ s2 _ _ r => .un (r.tr (.refl B) s2 fun _ _ _ e => e)
  | _, _, _, j + 1, _, .un r => .un (RS.unset r)
  | _, _, _, j + 1, _, .cons s1 s2 d r rs => .cons s1 s2 d r (RS.unset rs)
theorem HW.unset (h : HW K F B0 τ T σ Γ H B S) (j : Nat) (v : Option V) : HW K F B0 τ T (σ.set j v) (Γ.set j none) H B S := by
  refine ⟨h.fr, h.pu, h.b0, h.ow, h.nw, ?_, h.lt⟩
  have r := RS.unset (j := τ.length + j) (v := v) h.rs
  rw [List.set_append_right _ _ (by simp), List.set_append_right _ _ (by simp [h.lt]), List.length_map, List.length_map, ← h.lt, Nat.add_sub_cancel_left] at r
  exact r
theorem HW.wipe : ∀ {js : List Nat}, HW K F B0 τ T σ Γ H B S → HW K F B0 τ T (L2.wipe σ js) (wipeE Γ js) H B S
  | [], h => h
  | j :: _, h => (HW.wipe h).unset j none
/-- the slots are as they were, but for some that are forgotten -/
theorem HW.back (h : HW K F B0 τ T σ Γ H B S) {σ' : L2.St} {Γ' : En} (w : HW K F B0 τ T σ' Γ' H B S) : True := trivial
/-- a target that stores in the comprehension's own slots alone -/
def GoW (K : PySem.W.Frag) (F B0 : Hp) (js : List Nat) (g : TG) (d : D) (T : List O) (Γ : En) (post : En → Prop) : Prop := ∀ (τ : List V) (σ : L2.St) (H : Hp) (v : V) (Q : L2.St → Hp → Prop), Ho K F B0 (v :: τ) (.d d :: T) (L2.wipe σ js) Γ H →
  (∀ σ' Γ' H', post Γ' → L2.wipe σ' js = L2.wipe σ js → Ho K F B0 τ T σ' Γ' H' → Q σ' H') → g v (L2.wipe σ js) H Q
theorem wipe_set {j : Nat} : ∀ {js : List Nat} {σ : L2.St} {v : Option V}, j ∈ js → L2.wipe (σ.set j v) js = L2.wipe σ js
  | [], _, _, h => by cases h
  | k :: js, σ, v, h => by
    unfold L2.wipe
    by_cases q : j = k
    · subst q
      by_cases q2 : j ∈ js
      · rw [wipe_set q2]
      · have e : ∀ (js : List Nat) (σ : L2.St), j ∉ js → L2.wipe (σ.set j v) js = (L2.wipe σ js).set j v := by
          intro js
          induction js with
          | nil => intro σ _; rfl
          | cons k js ih =>
            intro σ h
            simp only [List.mem_cons, not_or] at h
            unfold L2.wipe
            rw [ih σ h.2, List.set_comm _ _ h.1]
        rw [e js σ q2, List.set_set]
    · have h2 : j ∈ js := (List.mem_cons.mp h).resolve_left q
      rw [wipe_set h2]
theorem wipe_wipe : ∀ {js ks : List Nat} {σ : L2.St}, (∀ k ∈ js, k ∈ ks) → L2.wipe (L2.wipe σ js) ks = L2.wipe σ ks
  | [], _, _, _ => rfl
  | j :: js, ks, σ, h => by
    show L2.wipe ((L2.wipe σ js).set j none) ks = _
    rw [wipe_set (h j (by simp)), wipe_wipe fun k hk => h k (by simp [hk])]
theorem gow_name {js : List Nat} {j : Nat} {d : D} (hj : j ∈ js) (hi : j < Γ.length) (h : posts1 (Γ.set j (some (.d d)))) : GoW K F B0 js (gName j) d T Γ posts1 := fun τ σ H v Q ⟨_, _, w⟩ k => by
  obtain ⟨S', w⟩ := w.put hi
  exact k _ _ _ h (by rw [wipe_set hj, wipe_wipe fun _ h => h]) ⟨_, S', w⟩
def GoWs (K : PySem.W.Frag) (F B0 : Hp) (js : List Nat) (g : TGs) (xs : List D) (T : List O) (Γ : En) (post : En → Prop) : Prop := ∀ (τ : List V) (σ σ0 : L2.St) (H B : Hp) (S : Ad) (vs : List V) (Q : L2.St → Hp → Prop), HW K F B0 τ T σ Γ H B S → RL K B vs xs → L2.wipe σ js = L2.wipe σ0 js →
  (∀ σ' Γ' H', post Γ' → L2.wipe σ' js = L2.wipe σ0 js → Ho K F B0 τ T σ' Γ' H' → Q σ' H') → g vs σ H Q
theorem gow_tup {js : List Nat} {g : TGs} {n : Nat} {d : D} {xs : List D} (e : d = .tup xs) (hn : xs.length = n) (h : GoWs K F B0 js g xs T Γ posts1) : GoW K F B0 js (gTup K n g) d T Γ posts1 := fun τ σ H v Q ⟨B, S, w⟩ k => by
  subst e
  obtain ⟨r, S2, _, w2⟩ := w.popd
  cases r with
  | @tup a vs _ sq rl => exact ⟨a, vs, rfl, w.pu.sqT sq, by rw [rl.length, hn], h τ _ σ H B S2 vs Q w2 rl (wipe_wipe fun _ h => h) k⟩
theorem gows_nil {js : List Nat} (h : posts1 Γ) : GoWs K F B0 js gNil [] T Γ posts1 := fun τ σ σ0 H B S vs Q w r e k => by
  cases r
  exact ⟨rfl, k σ Γ H h e ⟨_, _, w⟩⟩
theorem gows_name {js : List Nat} {xs : List D} {g : TGs} {j : Nat} (hj : j ∈ js) (hi : j < Γ.length) (h : GoWs K F B0 js g xs T (Γ.set j (some (.d x))) posts1) : GoWs K F B0 js (gCons (gName j) g) (x :: xs) T Γ posts1 := fun τ σ σ0 H B S vs Q w r e k => by
  cases r with
  | cons r rl =>
    obtain ⟨S', w'⟩ := (w.pushd r).put hi
    exact ⟨_, _, rfl, h τ _ σ0 H B S' _ Q w' rl (by rw [wipe_set hj, e]) k⟩
theorem RS.reset : ∀ {σ : List (Option V)} {Γ : List (Option O)} {S : Ad} {j : Nat}, RS K B H S (σ.set j none) Γ → Γ.set j none = Γ → RS K B H S σ Γ
  | [], _, _, _, r, _ => r
  | _ :: _, [], _, 0, r, _ => nomatch r
  | _ :: _, [], _, _ + 1, r, _ => nomatch r
  | v :: σ, g :: Γ, S, 0, r, e => by
    rw [List.set_cons_zero] at r e
    have e2 : none = g := (List.cons.inj e).1
    subst e2
    cases r with
    | un r => exact .un r
  | v :: σ, g :: Γ, S, j + 1, r, e => by
    rw [List.set_cons_succ] at r e
    have e2 := (List.cons.inj e).2
    cases r with
    | un r => exact .un (RS.reset r e2)
    | cons s1 s2 d r rs => exact .cons s1 s2 d r (RS.reset rs e2)
theorem HW.reset {j : Nat} (h : HW K F B0 τ T (σ.set j none) Γ H B S) (e : Γ.set j none = Γ) : HW K F B0 τ T σ Γ H B S := by
  refine ⟨h.fr, h.pu, h.b0, h.ow, h.nw, ?_, h.lt⟩
  refine RS.reset (j := τ.length + j) ?_ ?_
  · rw [List.set_append_right _ _ (by simp), List.length_map, Nat.add_sub_cancel_left]; exact h.rs
  · rw [List.set_append_right _ _ (by simp [h.lt]), List.length_map, ← h.lt, Nat.add_sub_cancel_left, e]
theorem HW.unwipe : ∀ {js : List Nat}, HW K F B0 τ T (L2.wipe σ js) Γ H B S → (∀ j ∈ js, Γ.set j none = Γ) → HW K F B0 τ T σ Γ H B S
  | [], h, _ => h
  | j :: js, h, e => HW.unwipe (HW.reset h (e j (by simp))) fun k hk => e k (by simp [hk])
/-- the second thing of the pile, a list, takes the first one -/
theorem HW.appTop {y : V} {D : Addr} {acc : List O} (h : HW K F B0 (y :: .ref D :: τ) (o :: .ol acc :: T) σ Γ H B S) : ∃ us S', H D = some (.lst us) ∧ us.length = acc.length ∧ HW K F B0 (.ref D :: τ) (.ol (acc ++ [o]) :: T) σ Γ (upd H D (.lst (us ++ [y]))) B S' := by
  obtain ⟨So, Sr, s1, s2, dj, ro, wr⟩ := h.pop
  obtain ⟨S1, S2, t1, t2, dj2, rl, w2⟩ := wr.pop
  cases rl with
  | @ol _ S4 _ us _ ha hs hn hc rs =>
  have len : us.length = acc.length := by simpa using rs.len
  have nb : ∀ b, S2 b → b ≠ D := fun b z e => by subst e; exact dj2 b ha z
  refine ⟨us, fun b => (S1 b ∨ So b) ∨ S2 b, hc, len, ⟨fun b u z => ?_, fun b u z => ?_, h.b0, fun b z => ?_, h.nw, .cons (S1 := fun b => S1 b ∨ So b) (S2 := S2) (fun b z => .inl z) (fun b z => .inr z) (fun b z y => z.elim (fun z => dj2 b z y) (fun z => dj b z (t2 b y)))
    (.ol (S' := fun b => S4 b ∨ So b) (.inl ha) (fun b z => z.imp (hs b) id) (fun z => z.elim hn fun z => dj D z (t1 D ha)) upd_same ?_) (w2.rs.at fun b u z q => by rw [upd_ne (nb b z)]; exact q), by have := w2.lt; simp [this]⟩⟩
  · have hn : b ≠ D := fun q => by rw [q, (wr.ow D (t1 D ha)).1] at z; cases z
    rw [upd_ne hn]; exact h.fr b u z
  · have hn : b ≠ D := fun q => by rw [q, (wr.ow D (t1 D ha)).2.1] at z; cases z
    rw [upd_ne hn]; exact h.pu b u z
  · have : F b = none ∧ B b = none ∧ H b ≠ none := by
      rcases z with (z | z) | z
      · exact wr.ow b (t1 b z)
      · exact h.ow b (s1 b z)
      · exact wr.ow b (t2 b z)
    refine ⟨this.1, this.2.1, ?_⟩
    by_cases hn : b = D
    · rw [hn, upd_same]; simp
    · rw [upd_ne hn]; exact this.2.2
  · rw [List.map_append, List.map_append]
    exact (rs.snoc ro fun b z y => dj b y (t1 b (hs b z))).at fun b u z q => by
      rw [upd_ne (fun e => by subst e; exact z.elim hn fun z => dj b z (t1 b ha))]; exact q
theorem wipeE_same : ∀ {js : List Nat}, (∀ j ∈ js, Γ.set j none = Γ) → wipeE Γ js = Γ
  | [], _ => rfl
  | j :: js, h => by
    show (wipeE Γ js).set j none = Γ
    rw [wipeE_same fun k hk => h k (by simp [hk])]
    exact h j (by simp)
/-- a comprehension: items x give f x where p x -/
theorem go_lc {α : Type} {wi : TI} {g : TG} {js : List Nat} (h : GoI K F B0 wi T Γ fun ds hs Γ1 => ∃ (xs : List α) (e : α → D) (p : α → Bool) (f : α → D), ds = xs.map e ∧ xs.length ≤ 100000 ∧ (∀ j ∈ js, Γ1.set j none = Γ1) ∧
    (∀ (k : Nat) (x : α) (acc : List O), xs[k]? = some x → GoW K F B0 js g (e x) (.ol acc :: (hs.map O.d ++ T)) Γ1 fun Γ2 => GoT K F B0 tt (.ol acc :: (hs.map O.d ++ T)) Γ2 fun b Γ3 => b = p x ∧ (p x = false → wipeE Γ3 js = Γ1) ∧
      (p x = true → Go K F B0 te (.ol acc :: (hs.map O.d ++ T)) Γ3 fun o Γ4 => o.fz = f x ∧ wipeE Γ4 js = Γ1)) ∧
    post (.ol (((xs.filter p).map f).map O.d)) Γ1) : Go K F B0 (tLc wi g tt te js) T Γ post := fun τ σ H Q hw k =>
  h τ σ H _ hw fun J τs hs ds Γ1 H1 ⟨xs, e, p, f, hds, hz, hj, hst, hp⟩ ⟨B1, S1, w1⟩ hl it D hD => by
    subst hds
    have hl' : τs.length = (hs.map O.d).length := by simp [hl]
    have hwp : wipeE Γ1 js = Γ1 := wipeE_same hj
    obtain ⟨S0, w0⟩ := w1.newl (p := D) (xs := []) (vs := []) hD .nil
    have w0' := w0.wipe (js := js)
    rw [hwp] at w0'
    let A : Nat → List O := fun i => (((xs.take i).filter p).map f).map O.d
    have A1 : ∀ (i : Nat) (x : α), xs[i]? = some x → A (i + 1) = if p x = true then A i ++ [.d (f x)] else A i := fun i x hx => by
      have e1 : xs.take (i + 1) = xs.take i ++ [x] := by rw [List.take_add_one, hx]; rfl
      show ((((xs.take (i + 1)).filter p).map f).map O.d) = _
      rw [e1, List.filter_append, List.map_append, List.map_append]
      by_cases q : p x = true
      · rw [if_pos q]; simp [q, A]
      · rw [if_neg q]; simp [q, A]
    have Al : ∀ i, (A i).length ≤ xs.length := fun i => by
      simp only [A, List.length_map]
      exact Nat.le_trans (List.length_filter_le _ _) (by simp; omega)
    refine ⟨fun i m H' => m = xs.length - i ∧ i ≤ xs.length ∧ ∃ B' S', HW K F B0 (.ref D :: (τs ++ τ)) (.ol (A i) :: (hs.map O.d ++ T)) (L2.wipe σ js) Γ1 H' B' S', ⟨xs.length, by simp, Nat.zero_le _, B1, S0, by simpa [A] using w0'⟩, ?_⟩
    rintro i m H' ⟨rfl, hi, B', S', w⟩
    obtain ⟨_, S'', _, _, _, _, wd⟩ := w.pop
    obtain ⟨q1, q2⟩ := it _ _ _ Γ1 H' B' _ w (wd.held hl)
    by_cases hlt : i < xs.length
    · obtain ⟨q3, q4⟩ := q2 i (e xs[i]) (by simp [hlt])
      refine .inr ⟨q3, fun H2 => ∃ B2 S2, HW K F B0 (.ref D :: (τs ++ τ)) (.ol (A (i + 1)) :: (hs.map O.d ++ T)) (L2.wipe σ js) Γ1 H2 B2 S2, fun H2 z => ⟨xs.length - (i + 1), by omega, rfl, hlt, z⟩, fun x H2 y => ?_⟩
      obtain ⟨B2, S2, w2⟩ := q4 x H2 y
      refine hst i xs[i] (A i) (by simp [hlt]) (.ref D :: (τs ++ τ)) σ H2 x _ ⟨B2, S2, w2⟩ fun σ3 Γ3 H3 h3 e3 w3 => ⟨e3, h3 _ σ3 H3 _ w3 fun b Γ4 H4 ⟨hb, hf, ht⟩ w4 => ?_⟩
      subst hb
      have a1 := A1 i xs[i] (by simp [hlt])
      cases hpx : p xs[i] with
      | true =>
        rw [hpx] at a1
        refine iteT (ht hpx _ σ3 H4 _ w4 fun v o Γ5 H5 ⟨eo, e5⟩ ⟨B5, S5, w5⟩ => ?_)
        obtain ⟨B6, S6, w6, _⟩ := w5.fz
        obtain ⟨us, S7, hus, hlen, w7⟩ := w6.appTop
        refine ⟨us, hus, by rw [hlen]; exact Nat.lt_of_le_of_lt (Nat.le_trans (Al i) hz) (by decide), B6, S7, ?_⟩
        have w8 := w7.wipe (js := js)
        rw [e5, e3, eo] at w8
        rw [a1]
        exact w8
      | false =>
        rw [hpx] at a1
        obtain ⟨B4, S4, w4⟩ := w4
        refine iteF ⟨B4, S4, ?_⟩
        have w8 := w4.wipe (js := js)
        rw [hf hpx, e3] at w8
        rw [a1]
        exact w8
    · have ei : i = xs.length := by omega
      subst ei
      rw [List.length_map] at q1
      refine .inl ⟨q1, k _ _ Γ1 H' hp ⟨B', S', HW.unwipe ?_ hj⟩⟩
      have e : A xs.length = ((xs.filter p).map f).map O.d := by simp [A]
      rw [e] at w
      exact w.under hl'
end
end SK
namespace SK
open PySem PySem.Spec PyProof.Rows L2
def iSeq (K : PySem.W.Frag) (tl : TE) : TI := fun σ H R => tl σ H fun x H1 => (∃ a, x = .ref a ∧ (∃ xs, SqL K H1 a xs) ∧ R (Itl K a) H1) ∨ ((∃ a, x = .ref a ∧ (∃ xs, SqT K H1 a xs) ∧ R (Itt K a) H1) ∨ ∃ s, x = .str s ∧ R (Its s) H1)
theorem pi_seq {X : Cx} {tg l : Expr} {tl : TE} (hl : PE X l tl) : PI X tg l (iSeq X.K tl) := by
  refine ⟨fun pins s σ H R I h => ?_⟩
  -- the three kinds, each by its own rule over a value that is there
  refine thn (hl.run pins s σ H _ I h) fun v s1 ⟨x, H1, I1, r1, q1⟩ => ?_
  rcases q1 with ⟨a, e, ⟨xs, hq⟩, q⟩ | ⟨a, e, ⟨xs, hq⟩, q⟩ | ⟨z, e, q⟩
  · subst e
    cases r1
    obtain ⟨its, rv, p, hz⟩ := I1.list hq
    refine wpAny_pyIter_list p.isList ?_
    refine ⟨s1.heap.objs.size, [s1.heap.objs.size], _, _, H1, rfl, I1.kept (t' := s1.toks) fun b o e => Heap.get?_push_of_some _ e, turn_list a _, ⟨_, Heap.get?_push_size _ rfl, rfl, rfl⟩, fun b hb => ?_, q⟩
    have e : b = s1.heap.objs.size := by simpa using hb
    subst e
    exact I1.fpOk (Nat.le_refl _) (I1.hok.fresh (Nat.le_refl _))
  · subst e
    cases r1
    obtain ⟨its, rv, p, hz⟩ := I1.tuple hq
    refine wpAny_pyIter_tuple (show s1.heap.IsTuple a its.toArray from p) ?_
    refine ⟨s1.heap.objs.size, [s1.heap.objs.size], _, _, H1, rfl, I1.kept (t' := s1.toks) fun b o e => Heap.get?_push_of_some _ e, turn_tuple a _, ⟨_, Heap.get?_push_size _ rfl, rfl, rfl⟩, fun b hb => ?_, q⟩
    have e : b = s1.heap.objs.size := by simpa using hb
    subst e
    exact I1.fpOk (Nat.le_refl _) (I1.hok.fresh (Nat.le_refl _))
  · subst e
    obtain ⟨t, rfl⟩ := r1
    cases ha : z.cps.all (· < 128)
    · exact wpAny_pyIter_wide ha (pi_one (tk := s1.toks) I1 _ (turn_str _ z t "str_iterator" (.inr rfl)) ⟨_, Heap.get?_push_size _ rfl, rfl, rfl⟩ q)
    · exact wpAny_pyIter_ascii ha (pi_one (tk := s1.toks) I1 _ (turn_str _ z t "str_ascii_iterator" (.inl rfl)) ⟨_, Heap.get?_push_size _ rfl, rfl, rfl⟩ q)
def rInsert : V → List V → Hp → VK → Prop := fun x vs H Q => ∃ (l : Addr) (xs : List V) (i : Int) (y : V), x = .ref l ∧ vs = [.int i, y] ∧ H l = some (.lst xs) ∧ xs.length < sizeLine ∧ 0 ≤ i ∧ i < 2 ^ 63 ∧
    Q .non (upd H l (.lst (xs.take i.toNat ++ [y] ++ xs.drop i.toNat)))
def rIsiG (K : PySem.W.Frag) : List V → Hp → VK → Prop := fun xs H Q => rIsi K xs H Q ∨ rIsiT K xs H Q
theorem call_isiG {X : Cx} : CallR X (.builtin "isinstance") (rIsiG X.K) := call_isi.or call_isiT
/-- o[i] = v of a list or a dict -/
def rSetG : TSet := fun o i v H Q => rSetL o i v H Q ∨ ∃ a H', o = .ref a ∧ DPut H a i v H' ∧ Q H'
theorem set_G {X : Cx} (hu : X.A.units + 1 < cLine) : PSet X rSetG := by
  intro pins s σ H o i v ov iv u Q I ro ri rv h
  rcases h with h | ⟨a, H', e, g, q⟩
  · exact set_list pins s σ H o i v ov iv u Q I ro ri rv h
  · subst e
    cases ro
    exact d_setItem hu I g ri rv fun s' I' => ⟨H', I', q⟩
def ipAddG : TIp := fun x y H Q => rI0 (fun i j => .int (i + j)) x y H Q ∨ ∃ i j, x = .str i ∧ y = .str j ∧ i.length + j.length ≤ sizeLine ∧ Q (.str (i ++ j)) H
theorem iop_addG {X : Cx} : PIp X .Add ipAddG := iop_add.or iop_add_str
def ipSubG : TIp := rI0 fun i j => .int (i - j)
theorem iop_subG {X : Cx} : PIp X .Sub ipSubG := iop_sub
def rSumG (K : PySem.W.Frag) : List V → Hp → VK → Prop := rSum K
theorem cr_sumG {X : Cx} (hc : X.calm = true) : CallR X (.builtin "sum") (rSumG X.K) := cr_sum hc
section
variable {K : PySem.W.Frag} {F B0 H H' B B' : Hp} {τ τs : List V} {T os : List O} {σ : L2.St} {Γ : En} {S S1 S2 : Ad} {v w : V} {o p : O} {x : D} {post : O → En → Prop} {ta tb tc te td ty tv : TE} {tt tu : TT} {i : Nat} {posts : List D → En → Prop} {postt : Bool → En → Prop} {posts1 : En → Prop} {Dd : EG} {xs : List D} {vs : List V} {r r' : R2}
/-- what a walk finds in a thing -/
inductive Wk : D → List D → Prop
  | seq {x : D} {xs : List D} : D.seq? x = some xs → Wk x xs
  | tup {xs : List D} : Wk (.tup xs) xs
  | str {s : Str} : Wk (.str s) (sgnD s)
theorem goi_seq {tl : TE} {posti : List D → List D → En → Prop} (h : Go K F B0 tl T Γ fun o Γ1 => ∃ xs, Wk o.fz xs ∧ posti xs [o.fz] Γ1) : GoI K F B0 (iSeq K tl) T Γ posti := fun τ σ H Q hw k =>
  h τ σ H _ hw fun v o Γ1 H1 ⟨xs, q, h1⟩ ⟨_, _, w1⟩ => by
    obtain ⟨B2, S2, w2, _⟩ := w1.fz
    obtain ⟨r, S3, _, w3⟩ := w2.popd
    generalize o.fz = y at r q h1 w2
    cases q with
    | seq q =>
      obtain ⟨a, vs, e, sq, rl⟩ := r.seqL q
      subst e
      exact .inl ⟨a, rfl, ⟨vs, w2.pu.sqL sq⟩, k (Itl K a) [.ref a] [y] xs Γ1 H1 h1 ⟨_, _, w2⟩ rfl (iter_list q)⟩
    | tup =>
      cases r with
      | @tup a vs _ sq rl => exact .inr (.inl ⟨a, rfl, ⟨vs, w2.pu.sqT sq⟩, k (Itt K a) [.ref a] [.tup xs] xs Γ1 H1 h1 ⟨_, _, w2⟩ rfl iter_tup⟩)
    | @str s =>
      cases r
      refine .inr (.inr ⟨s, rfl, k _ [.str s] [.str s] _ Γ1 H1 h1 ⟨_, _, w2⟩ rfl ?_⟩)
      intro τ T σ Γ H B S h _
      exact iter_str τ T σ Γ H B S h .nil
/-- a < b < c -/
theorem go_chain (h : Go K F B0 ta T Γ fun o1 Γ1 => Go K F B0 tb (.d o1.fz :: T) Γ1 fun o2 Γ2 => Op2 K F B0 r o1.fz o2.fz (.d o2.fz :: T) Γ2 fun o Γ3 => ∃ b, o = .d (.bl b) ∧
    (b = true → Go K F B0 tc (.d o2.fz :: T) Γ3 fun o3 Γ4 => Op2 K F B0 r' o2.fz o3.fz T Γ4 post) ∧ (b = false → post (.d (.bl false)) Γ3)) : Go K F B0 (tChain r r' ta tb tc) T Γ post := fun τ σ H Q hw k =>
  h τ σ H _ hw fun v1 o1 Γ1 H1 h1 ⟨_, _, w1⟩ => by
    obtain ⟨_, _, w1, _⟩ := w1.fz
    refine h1 _ σ H1 _ ⟨_, _, w1⟩ fun v2 o2 Γ2 H2 h2 ⟨_, _, w2⟩ => ?_
    obtain ⟨_, _, w2, e2⟩ := w2.fz
    obtain ⟨r2, _, _, w2'⟩ := w2.popd
    obtain ⟨r1, _, _, w0⟩ := w2'.popd
    have w3 := w0.pushd r2
    refine h2 _ σ H2 _ _ v1 v2 _ w3 r1 r2 fun v o Γ3 H3 ⟨b, eo, ht, hf⟩ ⟨_, _, w4⟩ => ?_
    subst eo
    obtain ⟨rb, _, _, w5⟩ := w4.popd
    cases rb
    refine ⟨b, rfl, ?_⟩
    cases b with
    | true =>
      refine iteT (ht rfl _ σ H3 _ ⟨_, _, w5⟩ fun v3 o3 Γ4 H4 h4 ⟨_, _, w6⟩ => ?_)
      obtain ⟨_, _, w6, r3, _⟩ := w6.fzd
      obtain ⟨r2', _, _, w6⟩ := w6.popd
      exact h4 τ σ H4 _ _ v2 v3 Q w6 r2' r3 k
    | false =>
      obtain ⟨_, _, _, w6⟩ := w5.popd
      exact iteF (k _ _ Γ3 H3 (hf rfl) ⟨_, _, w6.pushd .bl⟩)
theorem oa_isiG {x : D} {n c : String} {b : Bool} (t : TyD x n) (q : kitB n c = some b) (h : post (.d (.bl b)) Γ) : OpA K F B0 (rIsiG K) [x, .ty c] T Γ post := fun τ σ H B S vs Q w rl k =>
  .inl (oa_isi t q h τ σ H B S vs Q w rl k)
theorem oi_add {a b : Int} (h : post (.d (.int (a + b))) Γ) : Op2 K F B0 ipAddG (.int a) (.int b) T Γ post := fun τ σ H B S v1 v2 Q w r1 r2 k => by
  cases r1; cases r2
  exact .inl ⟨a, b, rfl, rfl, k _ _ Γ H h ⟨_, _, w.pushd .int⟩⟩
theorem oi_sub {a b : Int} (h : post (.d (.int (a - b))) Γ) : Op2 K F B0 ipSubG (.int a) (.int b) T Γ post := fun τ σ H B S v1 v2 Q w r1 r2 k => by
  cases r1; cases r2
  exact ⟨a, b, rfl, rfl, k _ _ Γ H h ⟨_, _, w.pushd .int⟩⟩
theorem RL.ints : ∀ {vs : List V} {ns : List Int}, RL K B vs (ns.map D.int) → vs = ns.map V.int
  | [], [], _ => rfl
  | v :: vs, n :: ns, .cons r t => by cases r; rw [RL.ints t]; rfl
  | _ :: _, [], r => by cases r
  | [], _ :: _, r => by cases r
theorem oa_sum {x : D} {ns : List Int} (q : x.seq? = some (ns.map D.int)) (h : post (.d (.int ns.sum)) Γ) : OpA K F B0 (rSumG K) [x] T Γ post := fun τ σ H B S vs Q w rl k => by
  obtain ⟨v1, rfl, r⟩ := rl.one
  obtain ⟨a, vs, rfl, sq, rl⟩ := r.seqL q
  have e := rl.ints
  subst e
  exact ⟨a, ns, rfl, w.pu.sqL sq, k _ _ Γ H h ⟨_, _, w.pushd .int⟩⟩
/-- d[k] = e, xs[i] = e, as a target -/
theorem gog_setD {ti : TE} (h : Go K F B0 ti (o :: T) Γ fun ok Γ2 => ∃ k kvs, ok = .d (kD k) ∧ Γ2[i]? = some (some (.od kvs)) ∧ kvs.length < 100000 ∧ posts1 (Γ2.set i (some (.od (dput kvs k o))))) (h0 : ∃ kvs0, Γ[i]? = some (some (.od kvs0))) :
    GoG K F B0 (gSub (tVar i) ti rSetG) o T Γ posts1 := fun τ σ H v1 Q ⟨B1, S1, w1⟩ k' => by
  obtain ⟨kvs0, e0⟩ := h0
  obtain ⟨v, T1, a1, r1, _, _⟩ := w1.mut1 e0
  refine ⟨v, a1, h (v1 :: τ) σ H _ ⟨B1, S1, w1⟩ fun v2 o2 Γ2 H2 ⟨k, kvs, eo, e2, hz, h2⟩ ⟨B2, S2, w2⟩ => ?_⟩
  subst eo
  obtain ⟨rk, S3, _, w3⟩ := w2.popd
  have ek := rk.kV
  subst ek
  obtain ⟨v', S5, So, a2, r2, ro, dj, _, _, f⟩ := w3.mut2 e2
  rw [a1] at a2
  cases a2
  cases r2 with
  | @od _ S4 a ws _ ha hs hn hc nd ek rs =>
  have len : ws.length = kvs.length := by have := congrArg List.length ek; simpa using this
  refine .inr ⟨a, _, rfl, .inl ⟨ws, k, hc, rfl, by rw [len]; exact Nat.lt_of_lt_of_le hz (by decide), rfl⟩, ?_⟩
  obtain ⟨S', w4⟩ := f a (.dK (putK ws k v1)) (.od (dput kvs k o)) ha (.od (S' := fun b => S4 b ∨ So b) (.inl ha) (fun b z => z.imp (hs b) id) (fun z => z.elim hn fun z => dj a ha z) upd_same (dput_nodup nd) (by rw [putK_dput]; exact dput_keys ek) (by
    rw [putK_dput]
    exact (rs.dput ro nd ek fun b z => dj b (hs b z)).at fun b u z q => by
      rw [upd_ne (fun e => by subst e; exact z.elim hn fun z => dj b ha z)]; exact q))
  exact k' σ _ _ h2 ⟨B2, S', w4⟩
theorem fl_ins {So : Ad} (ro : RO K B H So w o) {Si : Ad} : ∀ {vs : List V} {xs : List O} (n : Nat), RS K B H Si (vs.map some) (xs.map some) → (∀ b, Si b → ¬ So b) → RS K B H (fun b => Si b ∨ So b) ((vs.take n ++ [w] ++ vs.drop n).map some) ((xs.take n ++ [o] ++ xs.drop n).map some) := by
  intro vs xs n r dj
  induction n generalizing vs xs Si with
  | zero => exact .cons (S1 := So) (S2 := Si) (fun b z => .inr z) (fun b z => .inl z) (fun b z y => dj b y z) ro r
  | succ n ih =>
    cases vs with
    | nil =>
      cases xs with
      | nil => exact .cons (S1 := So) (S2 := Si) (fun b z => .inr z) (fun b z => .inl z) (fun b z y => dj b y z) ro r
      | cons x xs => cases r
    | cons v vs =>
      cases xs with
      | nil => cases r
      | cons x xs =>
        cases r with
        | @cons _ T1 T2 _ _ _ _ s1 s2 d r rs =>
          have := ih rs fun b z => dj b (s2 b z)
          simp only [List.take_succ_cons, List.drop_succ_cons, List.cons_append, List.map_cons]
          exact .cons (S1 := T1) (S2 := fun b => T2 b ∨ So b) (fun b z => .inl (s1 b z)) (fun b z => z.imp (s2 b) id) (fun b z y => y.elim (d b z) (dj b (s1 b z))) r this
/-- xs.insert(i, e), xs a name -/
theorem gos_insert {ti : TE} (h : Go K F B0 ti T Γ fun oi Γ1 => ∃ j : Int, oi = .d (.int j) ∧ 0 ≤ j ∧ j < 2 ^ 63 ∧ Go K F B0 te (.d (.int j) :: T) Γ1 fun o Γ2 => ∃ xs, Γ2[i]? = some (some (.ol xs)) ∧ xs.length < 100000 ∧ Dd.nx (Γ2.set i (some (.ol (xs.take j.toNat ++ [o] ++ xs.drop j.toNat))))) (h0 : ∃ xs, Γ[i]? = some (some (.ol xs))) :
    GoS K F B0 (tDrop (tBM K "list" rInsert (tVar i) (tCons ti (tCons te tNil)))) T Γ Dd := fun τ σ H De hw s => by
  obtain ⟨B, S, w⟩ := hw
  obtain ⟨xs0, e0⟩ := h0
  obtain ⟨v, S1, a1, r1, _, _⟩ := w.mut1 e0
  cases r1 with
  | @ol _ _ a vs _ _ _ _ hc _ =>
  refine ⟨.ref a, a1, Or.inl ⟨rfl, vs, SqL.of hc⟩, h τ σ H _ ⟨B, S, w⟩ fun v1 o1 Γ1 H1 ⟨j, ej, hj0, hj1, h1⟩ w1 => ?_⟩
  subst ej
  refine h1 _ σ H1 _ w1 fun v2 o2 Γ2 H2 ⟨xs, e2, hz, h2⟩ ⟨B2, S2, w2⟩ => ?_
  have rj : R K B2 v1 (.int j) := by
    obtain ⟨_, _, _, _, _, _, wt⟩ := w2.pop
    exact wt.popd.1
  cases rj
  have w2' := HW.under (τs := [.int j]) (os := [.d (.int j)]) w2 rfl
  obtain ⟨v', S3, So, a2, r2, ro, dj, _, _, f⟩ := w2'.mut2 e2
  rw [a1] at a2
  cases a2
  cases r2 with
  | @ol _ S4 _ us _ ha hs hn hc2 rs =>
  have len : us.length = xs.length := by simpa using rs.len
  refine ⟨a, us, j, v2, rfl, rfl, hc2, by rw [len]; exact Nat.lt_of_lt_of_le hz (by decide), hj0, hj1, ?_⟩
  obtain ⟨S', w3⟩ := f a (.lst (us.take j.toNat ++ [v2] ++ us.drop j.toNat)) (.ol (xs.take j.toNat ++ [o2] ++ xs.drop j.toNat)) ha (.ol (S' := fun b => S4 b ∨ So b) (.inl ha) (fun b z => z.imp (hs b) id) (fun z => z.elim hn fun z => dj a ha z) upd_same
    ((fl_ins ro j.toNat rs fun b z => dj b (hs b z)).at fun b u z q => by
      rw [upd_ne (fun e => by subst e; exact z.elim hn fun z => dj b ha z)]; exact q))
  exact s.nx σ _ _ h2 ⟨B2, S', w3⟩
end
section
variable (P : Program) (w : World) (K : PySem.W.Frag) (mg : Str → Option Value) (base : Heap)
/-- a def stands at a module's name -/
def Df (x : Str) (st : Stmt) : Prop := ∃ f fd, Fun K x x st f fd ∧ mg x = some (.ref f)
/-- .. and keeps a contract -/
def Cal (x : Str) (k : Nat) (ps : List Str) (C : Ct) : Prop := ∃ f fd, FnOk P w K mg base CX0 k f fd ps (spP K C) ∧ mg x = some (.ref f) ∧ PySem.W.keepIn K (.ref f) = true ∧ Binds K fd ps [] ∧ ∃ oc od sl, K.lookup f = some ⟨oc, od, .func fd, sl⟩
/-- .. one that may let an exception out -/
def CalX (x : Str) (k : Nat) (ps : List Str) (C : Ct) : Prop := ∃ f fd, FnOk P w K mg base (L2.CX P w) k f fd ps (spP K C) ∧ mg x = some (.ref f) ∧ PySem.W.keepIn K (.ref f) = true ∧ Binds K fd ps [] ∧ ∃ oc od sl, K.lookup f = some ⟨oc, od, .func fd, sl⟩
end
theorem df_mk {K : PySem.W.Frag} {mg : Str → Option Value} {h : Heap} (X : K.In h) (G : h.Ns mainGlobals mg) {x : Str} {st : Stmt} {f : Addr} {oc : Value} {od an : Option Addr} {sl : Array (Option Value)} {kV dc pm cd ct : Value}
    (a : PySem.W.nsIn K mainGlobals x = some (some (.ref f))) (l : K.lookup f = some ⟨oc, od, .func (PySem.W.fnOf x x (defArgs st) (defBody st) (defScope st) .none kV dc pm an cd ct), sl⟩)
    (c : PySem.W.codeIn K cd x = true) (k : PySem.W.keepIn K (.ref f) = true) : Df K mg x st := ⟨f, _, fun_mk (st := st) l c k, PySem.W.mg_of X G a⟩
theorem Fun.lk {K : PySem.W.Frag} {x : Str} {st : Stmt} {f : Addr} {fd : FuncData} (F : Fun K x x st f fd) : ∃ oc od sl, K.lookup f = some ⟨oc, od, .func fd, sl⟩ := by
  obtain ⟨oc, od, kV, doc, pm, an, cdv, ct, osl, _, l, _⟩ := F.ex
  exact ⟨oc, od, osl, l⟩
theorem fn_same {P : Program} {w : World} {K : PySem.W.Frag} {mg : Str → Option Value} {base : Heap} {CX : CXT} {k : Nat} {f : Addr} {fd fd2 : FuncData} {ps : List Str} {sp : Sp} {oc oc2 : Value} {od od2 : Option Addr} {sl sl2 : Array (Option Value)}
    (l : K.lookup f = some ⟨oc, od, .func fd, sl⟩) (l2 : K.lookup f = some ⟨oc2, od2, .func fd2, sl2⟩) (G : FnOk P w K mg base CX k f fd2 ps sp) : FnOk P w K mg base CX k f fd ps sp := by
  rw [l] at l2
  cases l2
  exact G
/-- the law's own promise -/
def lawC : Ct := fun xs p q => ∃ ns : List Int, xs = [.sq (ns.map D.int)] ∧ ns.length ≤ 63 ∧ (∀ z ∈ ns, Builtin.Int.intBits z ≤ 1048576) ∧ p = (fun o => o = .d (.bl true)) ∧ q = noX
theorem RL.ofInts {K : PySem.W.Frag} {B : Hp} : ∀ ns : List Int, RL K B (ns.map V.int) (ns.map D.int)
  | [] => .nil
  | _ :: r => .cons .int (RL.ofInts r)
theorem law_walk {l : PySem.W.OpenLaw} {q : Program} {loose : List Str} {XP : (Str → Option Value) → Heap → Prop} {YP : World → Heap → Prop} {d : DefRec} {K : Params → PySem.W.Frag} {lv : Nat} (hn : l.most = some 63) (hdf : d.params.defaults = [])
    (hr : Room lv callerA) (hY : ∀ (w : World) (h : Heap), YP w h → (K w.params).In h)
    (F : ∀ (w : World) (mg : Str → Option Value) (fa : Addr) (h : Heap), (K w.params).In h → h.Ns mainGlobals mg → mg d.name = some (.ref fa) →
      ∃ fd : FuncData, (∀ (s : Shared) (u : Value), BindsTo s fd ⟨[u], []⟩ [("_law_script", u)]) ∧ ∀ base : Heap, (K w.params).In base → base.Ns mainGlobals mg → FnOk l.prog w (K w.params) mg base CX0 lv fa fd ["_law_script"] (spP (K w.params) lawC)) :
    PySem.W.WalkO q loose XP YP l.row.toRowW d [] (fun f vs => PySem.call f vs) :=
  L2.walk_ofB (n := 63) (k := lv) (x := "_law_script") (CX := fun _ => CX0) (sp := fun w => spP (K w.params) lawC) hn (by decide) hdf hr hY F
    (fun w H a ns hl hb _ hS => ⟨H, [.sq (ns.map D.int)], _, _, .refl H, .cons (.sq hS (RL.ofInts ns)) .nil, ⟨ns, rfl, hl, hb, rfl, rfl⟩,
      (fun v o B' S' H' e _ _ _ _ _ ro => by cases e; cases ro with | d r => cases r; rfl), fun _ _ _ _ _ e => e.elim⟩) fun _ _ _ _ _ z => z
theorem fz_d {x : D} : (O.d x).fz = x := rfl
theorem fzL_fl {xs : List D} : fzL (xs.map O.d) = xs := by
  induction xs with
  | nil => rfl
  | cons x xs ih => rw [List.map_cons, fzL, ih]; rfl
theorem fz_fl {xs : List D} : (O.ol (xs.map O.d)).fz = .lst xs := by
  show D.lst (fzL (xs.map O.d)) = .lst xs
  congr 1
  induction xs with
  | nil => rfl
  | cons x xs ih => rw [List.map_cons, fzL, ih]; rfl
theorem fz_fk {xs : List (Key × D)} : (O.od (xs.map fun p => (p.1, O.d p.2))).fz = .dic xs := by
  show D.dic (fzK (xs.map fun p => (p.1, O.d p.2))) = .dic xs
  congr 1
  induction xs with
  | nil => rfl
  | cons x xs ih => rw [List.map_cons, fzK, ih]; rfl
end SK
namespace SK
open PySem PySem.Spec PyProof.Rows L2
section
variable {X : Cx} {K : PySem.W.Frag} {e l tg a b : Expr} {es : List Expr} {te tl ta tb : TE} {t : TA} {pos apos cpos tpos p : Pos}
theorem k_add (h : X.K = K) : OpR X (binaryOp .Add) (rAddG K) := by cases h; exact op_addG
theorem k_eq (h : X.K = K) (hu : X.A.units + 64 < cLine) : OpR X (compareOp .Eq) (rEqG K) := by cases h; exact op_eqG hu
theorem k_ne (h : X.K = K) (hu : X.A.units + 64 < cLine) : OpR X (compareOp .NotEq) (rNeG K) := by cases h; exact op_neG hu
theorem k_lt (h : X.K = K) (hu : X.A.units < cLine) : OpR X (compareOp .Lt) (rLtG K) := by cases h; exact op_ltG hu
theorem k_ix (h : X.K = K) (hu : X.A.units + 1 < cLine) : IxR X (rIxG K) := by cases h; exact ix_G hu
theorem k_sl (h : X.K = K) : SlR X (rSlG K) := by cases h; exact sl_G
theorem k_len (h : X.K = K) : CallR X (.builtin "len") (rLenG K) := by cases h; exact call_lenG
theorem k_list (h : X.K = K) (hc : X.calm = true) : CallR X (.type "list") (rListG K) := by cases h; exact call_listG hc
theorem k_isi (h : X.K = K) : CallR X (.builtin "isinstance") (rIsiG K) := by cases h; exact call_isiG
theorem k_sum (h : X.K = K) (hc : X.calm = true) : CallR X (.builtin "sum") (rSumG K) := by cases h; exact cr_sumG hc
theorem k_seq (h : X.K = K) (hl : PE X l tl) : PI X tg l (iSeq K tl) := by cases h; exact pi_seq hl
theorem k_tup {k n : Nat} {g : TGs} (h : X.K = K) (hc : X.calm = true) (hg : PGs X es g) (hn : (assignEach es X.env).length = n := by rfl) (hst : (assignEach es X.env).findIdx? (·.1) = none := by rfl) : PG X (.Tuple es k pos) (gTup K n g) := by cases h; exact pg_tup hc hg hn hst
theorem k_enum {elts : List Expr} {kk : Nat} (h : X.K = K) (hg : Gl X "enumerate") (hm : X.mg "enumerate" = none) (ha : PA X [e] t) (hs : starEach [e] X.env = [(false, eval e X.env)] := by rfl) : PI X (.Tuple elts kk tpos) (.Call (.Name "enumerate" p) [e] [] pos) (iEnum K t) := by cases h; exact pi_enum hg hm ha hs
theorem k_zip {e2 : Expr} {elts : List Expr} {kk : Nat} (h : X.K = K) (hg : Gl X "zip") (hm : X.mg "zip" = none) (ha : PA X [e, e2] t) (hs : starEach [e, e2] X.env = (false, eval e X.env) :: starEach [e2] X.env := by rfl) (hpl : (backTo pos (starEach [e2] X.env)).any (·.1) = false := by rfl) :
    PI X (.Tuple elts kk tpos) (.Call (.Name "zip" p) [e, e2] [] pos) (iZip K t) := by cases h; exact pi_zip hg hm ha hs hpl
theorem k_bm {to : TE} {T : String} {r : V → List V → Hp → VK → Prop} (h : X.K = K) (q : PE X e (tBM X.K T r to t)) : PE X e (tBM K T r to t) := by cases h; exact q
theorem k_bm0 {to : TE} {T : String} {r : V → List V → Hp → VK → Prop} (h : X.K = K) (q : PE X e (tBM0 X.K T r to)) : PE X e (tBM0 K T r to) := by cases h; exact q
end
end SK
namespace SK
open PySem PySem.Spec PyProof.Rows L2
section
variable {K : PySem.W.Frag} {F B0 H H' B B' : Hp} {τ τs : List V} {T os : List O} {σ : L2.St} {Γ : En} {S S1 S2 : Ad} {v w : V} {o p : O} {x : D} {post : O → En → Prop} {ta : TA} {tb tc te td ty tv tl : TE} {tt tu : TT} {i j : Nat} {posts : List D → En → Prop} {postt : Bool → En → Prop} {posts1 : En → Prop} {Dd : EG} {xs : List D} {vs : List V} {r r' : R2}
theorem atI_map {α : Type} {xs : List α} {e : α → D} {d : α} {i : Int} (h0 : 0 ≤ i) (h1 : i < xs.length) : atI (xs.map e) i = some (e (xs.getD i.toNat d)) := by
  have h2 : i.toNat < xs.length := by omega
  unfold atI ixN
  rw [if_pos h0, List.length_map, if_pos h1]
  simp [h2]
theorem o2_ixN {α : Type} {xs : List α} {e : α → D} (d : α) {x : D} {i : Int} (q : x.items? = some (xs.map e)) (h0 : 0 ≤ i) (h1 : i < xs.length) (h : post (.d (e (xs.getD i.toNat d))) Γ) : Op2 K F B0 (rIxG K) x (.int i) T Γ post :=
  o2_ix q (atI_map h0 h1) h
theorem got_yes (h : postt true Γ) : GoT K F B0 tYes T Γ postt := fun τ σ H Q hw k => k true Γ H h hw
/-- [f(x) for x in xs if p(x)], the name alone -/
theorem go_lcS {α : Type} (e : α → D) (p : α → Bool) (f : α → D) (h : Go K F B0 tl T Γ fun o Γ1 => ∃ ys : List α, Wk o.fz (ys.map e) ∧ ys.length ≤ 100000 ∧ j < Γ1.length ∧ Γ1.set j none = Γ1 ∧
    (∀ (x : α) (acc : List O), x ∈ ys → GoT K F B0 tt (.ol acc :: .d o.fz :: T) (Γ1.set j (some (.d (e x)))) fun b Γ3 => b = p x ∧ (p x = false → wipeE Γ3 [j] = Γ1) ∧
      (p x = true → Go K F B0 te (.ol acc :: .d o.fz :: T) Γ3 fun o Γ4 => o.fz = f x ∧ wipeE Γ4 [j] = Γ1)) ∧
    post (.ol (((ys.filter p).map f).map O.d)) Γ1) : Go K F B0 (tLc (iSeq K tl) (gName j) tt te [j]) T Γ post := by
  refine go_lc (goi_seq fun τ σ H Q hw k => h τ σ H Q hw fun v o Γ1 H1 ⟨ys, wk, hz, hj, hs, hb, hp⟩ w => k v o Γ1 H1 ⟨ys.map e, wk, ys, e, p, f, rfl, hz, ?_, ?_, hp⟩ w)
  · intro j' hj'
    have e : j' = j := by simpa using hj'
    subst e
    exact hs
  · intro m y acc hy
    exact gow_name (by simp) hj (hb y acc (List.mem_of_getElem? hy))
variable {t1 t2 : TS} {g : TG} {wi : TI} {tgt : TG} {ip : TIp}
theorem gos_sA (h : GoS K F B0 (tAsg te g) T Γ { Dd with nx := fun Γ1 => GoS K F B0 t2 T Γ1 Dd }) : GoS K F B0 (tSeq (tAsg te g) t2) T Γ Dd := gos_seq h
theorem gos_sD (h : GoS K F B0 (tDrop te) T Γ { Dd with nx := fun Γ1 => GoS K F B0 t2 T Γ1 Dd }) : GoS K F B0 (tSeq (tDrop te) t2) T Γ Dd := gos_seq h
theorem gos_sN (h : GoS K F B0 t2 T Γ Dd) : GoS K F B0 (tSeq tNext t2) T Γ Dd := gos_seq (gos_next h)
theorem gos_sU (h : GoS K F B0 (tAug i te ip) T Γ { Dd with nx := fun Γ1 => GoS K F B0 t2 T Γ1 Dd }) : GoS K F B0 (tSeq (tAug i te ip) t2) T Γ Dd := gos_seq h
theorem gos_sF (h : GoS K F B0 (tFor wi g t1) T Γ { Dd with nx := fun Γ1 => GoS K F B0 t2 T Γ1 Dd }) : GoS K F B0 (tSeq (tFor wi g t1) t2) T Γ Dd := gos_seq h
theorem gos_sW (h : GoS K F B0 (tWhile tt t1) T Γ { Dd with nx := fun Γ1 => GoS K F B0 t2 T Γ1 Dd }) : GoS K F B0 (tSeq (tWhile tt t1) t2) T Γ Dd := gos_seq h
theorem gos_sIR {u : TS} (h : GoS K F B0 (tIfS tt (tRet te) u) T Γ { Dd with nx := fun Γ1 => GoS K F B0 t2 T Γ1 Dd }) : GoS K F B0 (tSeq (tIfS tt (tRet te) u) t2) T Γ Dd := gos_seq h
theorem gos_sIC {u : TS} (h : GoS K F B0 (tIfS tt tCont u) T Γ { Dd with nx := fun Γ1 => GoS K F B0 t2 T Γ1 Dd }) : GoS K F B0 (tSeq (tIfS tt tCont u) t2) T Γ Dd := gos_seq h
theorem gos_sIB {u : TS} (h : GoS K F B0 (tIfS tt tBreak u) T Γ { Dd with nx := fun Γ1 => GoS K F B0 t2 T Γ1 Dd }) : GoS K F B0 (tSeq (tIfS tt tBreak u) t2) T Γ Dd := gos_seq h
theorem rngD_get {lo : Int} {n k : Nat} {d : D} (h : (rngD lo n)[k]? = some d) : k < n ∧ d = .int (lo + (k : Int)) := by
  have hi : k < n := by
    have := (List.getElem?_eq_some_iff.mp h).1
    simpa [rngD] using this
  refine ⟨hi, ?_⟩
  simp [rngD, hi] at h
  exact h.symm
theorem mapD_get {α : Type} {xs : List α} {e : α → D} {k : Nat} {d : D} (h : (xs.map e)[k]? = some d) : ∃ x, xs[k]? = some x ∧ d = e x := by
  rw [List.getElem?_map] at h
  cases q : xs[k]? with
  | none => rw [q] at h; cases h
  | some x => rw [q] at h; exact ⟨x, rfl, (Option.some.inj h).symm⟩
/-- d[n] = e, d a name, n a number -/
theorem gog_setDI {ti : TE} (h : Go K F B0 ti (o :: T) Γ fun ok Γ2 => ∃ n kvs, ok = .d (.int n) ∧ Γ2[i]? = some (some (.od kvs)) ∧ kvs.length < 100000 ∧ posts1 (Γ2.set i (some (.od (dput kvs (.inl n) o))))) (h0 : ∃ kvs0, Γ[i]? = some (some (.od kvs0))) :
    GoG K F B0 (gSub (tVar i) ti rSetG) o T Γ posts1 :=
  gog_setD (fun τ σ H Q hw k => h τ σ H Q hw fun v ok Γ2 H2 ⟨n, kvs, e, q⟩ w => k v ok Γ2 H2 ⟨.inl n, kvs, e, q⟩ w) h0
/-- data of nesting n at most that == tells -/
def Shp (n : Nat) (x : D) : Prop := x.pl = true ∧ x.py.canLay0 = true ∧ x.py.depth ≤ n
theorem Shp.mono {n m : Nat} {x : D} (h : Shp n x) (l : n ≤ m) : Shp m x := ⟨h.1, h.2.1, Nat.le_trans h.2.2 l⟩
theorem Shp.int {n : Nat} {i : Int} : Shp n (.int i) := ⟨rfl, by simp [D.py, PyData.canLay0], by simp [D.py, PyData.depth]⟩
theorem Shp.bl {n : Nat} {i : Bool} : Shp n (.bl i) := ⟨rfl, by simp [D.py, PyData.canLay0], by simp [D.py, PyData.depth]⟩
theorem Shp.non {n : Nat} : Shp n .non := ⟨rfl, by simp [D.py, PyData.canLay0], by simp [D.py, PyData.depth]⟩
theorem Shp.str {n : Nat} {s : Str} (h : PyData.strOk s = true) : Shp n (.str s) := ⟨rfl, by simpa [D.py, PyData.canLay0] using h, by simp [D.py, PyData.depth]⟩
theorem Shp.all {n : Nat} : ∀ {xs : List D}, (∀ x ∈ xs, Shp n x) → plL xs = true ∧ PyData.canLayAll0 (pyL xs) = true ∧ PyData.depthAll (pyL xs) ≤ n
  | [], _ => ⟨rfl, by simp [pyL, PyData.canLayAll0], by simp [pyL, PyData.depthAll]⟩
  | x :: xs, h => by
    obtain ⟨a, b, c⟩ := h x (by simp)
    obtain ⟨d, e, f⟩ := Shp.all (xs := xs) fun y hy => h y (List.mem_cons_of_mem _ hy)
    refine ⟨by simp [plL, a, d], by simp [pyL, PyData.canLayAll0, b, e], ?_⟩
    simp only [pyL, PyData.depthAll]
    omega
theorem Shp.lst {n : Nat} {xs : List D} (h : ∀ x ∈ xs, Shp n x) : Shp (n + 1) (.lst xs) := by
  obtain ⟨d, e, f⟩ := Shp.all h
  exact ⟨by simpa [D.pl] using d, by simpa [D.py, PyData.canLay0] using e, by simpa [D.py, PyData.depth] using f⟩
theorem Shp.tup {n : Nat} {xs : List D} (h : ∀ x ∈ xs, Shp n x) : Shp (n + 1) (.tup xs) := by
  obtain ⟨d, e, f⟩ := Shp.all h
  exact ⟨by simpa [D.pl] using d, by simpa [D.py, PyData.canLay0] using e, by simpa [D.py, PyData.depth] using f⟩
theorem Shp.lstM {α : Type} {n : Nat} {xs : List α} {e : α → D} (h : ∀ x, Shp n (e x)) : Shp (n + 1) (.lst (xs.map e)) := Shp.lst fun x hx => by
  obtain ⟨y, _, rfl⟩ := List.mem_map.mp hx
  exact h y
theorem Shp.ints {ns : List Int} : Shp 1 (.lst (ns.map D.int)) := Shp.lstM fun _ => Shp.int
theorem Shp.eqs {x y : D} (h : Shp 60 x) (h' : Shp 60 y) : x.eqs y := ⟨h.1, h'.1, by simp only [SeqAt.shaped, h.2.1, Bool.true_and, decide_eq_true_eq]; exact Nat.le_trans h.2.2 (by decide), by simp only [SeqAt.shaped, h'.2.1, Bool.true_and, decide_eq_true_eq]; exact Nat.le_trans h'.2.2 (by decide)⟩
theorem o2_eqSame (n : Nat) (hs : Shp n x) (hn : n ≤ 60) (h : post (.d (.bl true)) Γ) : Op2 K F B0 (rEqG K) x x T Γ post :=
  o2_eqD ((hs.mono hn).eqs (hs.mono hn)) (by rw [SeqAt.eqv_refl _ hs.2.1]; exact h)
theorem o2_neSame (n : Nat) (hs : Shp n x) (hn : n ≤ 60) (h : post (.d (.bl false)) Γ) : Op2 K F B0 (rNeG K) x x T Γ post :=
  o2_neD ((hs.mono hn).eqs (hs.mono hn)) (by rw [SeqAt.eqv_refl _ hs.2.1]; exact h)
end
end SK
namespace SK
open PySem PySem.Spec PyProof.Rows L2
section
variable {K : PySem.W.Frag} {F B0 H H' B B' : Hp} {τ τs : List V} {T os : List O} {σ : L2.St} {Γ : En} {S S1 S2 : Ad} {v w : V} {o p : O} {x : D} {post : O → En → Prop} {ta : TA} {tb tc te td ty tv tl : TE} {tt tu : TT} {i j : Nat} {posts : List D → En → Prop} {postt : Bool → En → Prop} {posts1 : En → Prop} {Dd : EG} {xs : List D} {vs : List V} {r r' : R2} {s : TS}
theorem HW.frz (w : HW K F B0 τ T σ Γ H B S) (e : Γ[i]? = some (some o)) : Ho K F B0 τ T σ (Γ.set i (some (.d o.fz))) H := by
  obtain ⟨v, S', a, w⟩ := w.take e
  obtain ⟨B', S'', w, _⟩ := w.fz
  obtain ⟨S3, w3⟩ := w.put (i := i) (by simpa using (List.getElem?_eq_some_iff.mp e).1)
  have hl : i < σ.length := (List.getElem?_eq_some_iff.mp a).1
  have e2 : σ.set i (some v) = σ := by
    apply List.ext_getElem?
    intro n
    by_cases hn : n = i
    · subst hn; rw [List.getElem?_set_self hl, a]
    · rw [List.getElem?_set_ne (Ne.symm hn)]
  rw [e2, List.set_set] at w3
  exact ⟨B', _, w3⟩
/-- from here on the slot's thing is not changed any more -/
theorem gos_frz (i : Nat) (e : Γ[i]? = some (some o)) (h : GoS K F B0 s T (Γ.set i (some (.d o.fz))) Dd) : GoS K F B0 s T Γ Dd := fun τ σ H De ⟨B, S, w⟩ q => h τ σ H De (w.frz e) q
theorem fzK_d {xs : List (Key × D)} : fzK (xs.map fun p => (p.1, O.d p.2)) = xs := by
  induction xs with
  | nil => rfl
  | cons x xs ih => rw [List.map_cons, fzK, ih]; rfl
theorem rngD_len {lo : Int} {n : Nat} : (rngD lo n).length = n := by simp [rngD]
theorem cutD_map {α : Type} (e : α → D) (xs : List α) (lo hi : Option Int) : cutD (xs.map e) lo hi = (cutD xs lo hi).map e := by
  simp [cutD]
theorem sIx_n {n d k : Nat} : HT.sIx n d (some (k : Int)) = min k n := by
  simp [HT.sIx]
  omega
theorem cutD_take {α : Type} {xs : List α} {k : Nat} : cutD xs none (some (k : Int)) = xs.take k := by
  unfold cutD
  rw [sIx_n]
  show (xs.drop 0).take (min k xs.length - 0) = _
  rcases Nat.le_total k xs.length with h | h
  · rw [Nat.min_eq_left h]; rfl
  · rw [Nat.min_eq_right h]; exact List.take_length.trans (List.take_of_length_le h).symm
theorem cutD_drop {α : Type} {xs : List α} {k : Nat} : cutD xs (some (k : Int)) none = xs.drop k := by
  unfold cutD
  rw [sIx_n]
  show (xs.drop (min k xs.length)).take (xs.length - min k xs.length) = _
  rcases Nat.le_total k xs.length with h | h
  · rw [Nat.min_eq_left h]
    apply List.take_of_length_le
    simp
  · rw [Nat.min_eq_right h]
    simp [List.drop_of_length_le h]
theorem cutD_mid {α : Type} {xs : List α} {j k : Nat} : cutD xs (some (j : Int)) (some (k : Int)) = (xs.take k).drop j := by
  unfold cutD
  rw [sIx_n, sIx_n]
  rw [List.drop_take]
  rcases Nat.le_total j xs.length with h | h
  · rw [Nat.min_eq_left h]
    rcases Nat.le_total k xs.length with h' | h'
    · rw [Nat.min_eq_left h']
    · rw [Nat.min_eq_right h']
      rw [List.take_of_length_le (by simp), List.take_of_length_le (by simp; omega)]
  · rw [Nat.min_eq_right h, List.drop_of_length_le h, List.drop_of_length_le (Nat.le_refl _)]
    simp
/-- [f(x) for x in xs] -/
theorem go_lcY {α : Type} (e : α → D) (f : α → D) (h : Go K F B0 tl T Γ fun o Γ1 => ∃ ys : List α, Wk o.fz (ys.map e) ∧ ys.length ≤ 100000 ∧ j < Γ1.length ∧ Γ1.set j none = Γ1 ∧
    (∀ (x : α) (acc : List O), x ∈ ys → Go K F B0 te (.ol acc :: .d o.fz :: T) (Γ1.set j (some (.d (e x)))) fun o Γ4 => o.fz = f x ∧ wipeE Γ4 [j] = Γ1) ∧
    post (.ol ((ys.map f).map O.d)) Γ1) : Go K F B0 (tLc (iSeq K tl) (gName j) tYes te [j]) T Γ post :=
  go_lcS e (fun _ => true) f fun τ σ H Q hw k => h τ σ H Q hw fun v o Γ1 H1 ⟨ys, q1, q2, q3, q4, q5, q6⟩ w => k v o Γ1 H1 ⟨ys, q1, q2, q3, q4, fun x acc hx => got_yes ⟨rfl, (fun z => Bool.noConfusion z), fun _ => q5 x acc hx⟩, by
    have e1 : (ys.filter fun _ => true) = ys := List.filter_eq_self.mpr fun _ _ => rfl
    rw [e1]
    exact q6⟩ w
end
end SK
namespace SK
open PySem PySem.Spec PyProof.Rows L2
section
variable {K : PySem.W.Frag} {F B0 H H' B B' : Hp} {τ τs : List V} {T os : List O} {σ : L2.St} {Γ : En} {S S1 S2 : Ad} {v w : V} {o p : O} {x : D} {post : O → En → Prop} {ta : TA} {tb tc te td ty tv tl : TE} {tt tu : TT} {i j : Nat} {posts : List D → En → Prop} {postt : Bool → En → Prop} {posts1 : En → Prop} {Dd : EG} {xs : List D} {vs : List V} {r r' : R2} {s : TS}
/-- d.get(k, e) -/
theorem go_dget2 (h : Go K F B0 td T Γ fun o Γ1 => ∃ kvs, o.fz = .dic kvs ∧ Go K F B0 ty (.d (.dic kvs) :: T) Γ1 fun ok Γ2 => ∃ k, ok = .d (kD k) ∧ Go K F B0 te (.d (kD k) :: .d (.dic kvs) :: T) Γ2 fun oz Γ3 => post (.d ((dval kvs k).getD oz.fz)) Γ3) :
    Go K F B0 (tDGet2 td ty te) T Γ post := fun τ σ H Q hw kk =>
  h τ σ H _ hw fun v1 o1 Γ1 H1 ⟨kvs, e1, h1⟩ ⟨_, _, w1⟩ => by
    obtain ⟨B2, S2, w1, _⟩ := w1.fz
    rw [e1] at w1
    obtain ⟨r1, _⟩ := w1.popd
    cases r1 with | @dic a ws _ hd _ rk =>
    refine ⟨a, rfl, .inl ⟨ws, w1.pu.rd hd⟩, h1 _ σ H1 _ ⟨_, _, w1⟩ fun v2 o2 Γ2 H2 ⟨k, e2, h2⟩ w2 => ?_⟩
    subst e2
    refine h2 _ σ H2 _ w2 fun v3 o3 Γ3 H3 h3 ⟨_, _, w3⟩ => ?_
    obtain ⟨_, _, w3, r3, _⟩ := w3.fzd
    obtain ⟨r2, _, _, w4⟩ := w3.popd
    obtain ⟨r1, _, _, w5⟩ := w4.popd
    have ek := r2.kV
    subst ek
    cases r1 with | @dic _ ws2 _ hd2 _ rk2 =>
    refine ⟨valV ws2 k, .inl ⟨ws2, k, w5.pu.rd hd2, rfl, rfl⟩, ?_⟩
    rcases rk2.val (k := k) with ⟨u, z, q1, q2, r⟩ | ⟨q1, q2⟩
    · rw [q1]
      rw [q2] at h3
      exact kk _ _ _ _ h3 ⟨_, _, w5.pushd r⟩
    · rw [q1]
      rw [q2] at h3
      exact kk _ _ _ _ h3 ⟨_, _, w5.pushd r3⟩
theorem RS.split {σ1 : List (Option V)} {Γ1 : List (Option O)} : ∀ {σ0 : List (Option V)} {Γ0 : List (Option O)} {S : Ad}, σ0.length = Γ0.length → RS K B H S (σ0 ++ σ1) (Γ0 ++ Γ1) →
    ∃ S1 S2 : Ad, (∀ b, S1 b → S b) ∧ (∀ b, S2 b → S b) ∧ (∀ b, S1 b → ¬ S2 b) ∧ RS K B H S1 σ0 Γ0 ∧ RS K B H S2 σ1 Γ1
  | [], [], S, _, h => ⟨fun _ => False, S, fun _ z => z.elim, fun _ z => z, fun _ z => z.elim, .nil, h⟩
  | a :: σ0, b :: Γ0, S, l, h => by
    cases h with
    | un r =>
      obtain ⟨S1, S2, a1, a2, a3, a4, a5⟩ := RS.split (by simpa using l) r
      exact ⟨S1, S2, a1, a2, a3, .un a4, a5⟩
    | @cons _ T1 T2 _ _ _ _ s1 s2 dj h0 r =>
      obtain ⟨S1, S2, a1, a2, a3, a4, a5⟩ := RS.split (by simpa using l) r
      exact ⟨fun b => T1 b ∨ S1 b, S2, fun b z => z.elim (s1 b) fun z => s2 b (a1 b z), fun b z => s2 b (a2 b z), fun b z y => z.elim (fun z => dj b z (a2 b y)) fun z => a3 b z y, .cons (S1 := T1) (S2 := S1) (fun _ z => .inl z) (fun _ z => .inr z) (fun b z y => dj b z (a1 b y)) h0 a4, a5⟩
theorem RS.join {σ1 : List (Option V)} {Γ1 : List (Option O)} {S2 : Ad} (q : RS K B H S2 σ1 Γ1) : ∀ {σ0 : List (Option V)} {Γ0 : List (Option O)} {S1 : Ad}, (∀ b, S1 b → ¬ S2 b) → RS K B H S1 σ0 Γ0 → RS K B H (fun b => S1 b ∨ S2 b) (σ0 ++ σ1) (Γ0 ++ Γ1)
  | _, _, _, _, .nil => q.tr (.refl B) (fun _ z => .inr z) fun _ _ _ e => e
  | _, _, _, dj, .un r => .un (RS.join q dj r)
  | _, _, S1, dj, .cons (S1 := T1) (S2 := T2) s1 s2 d h r => .cons (S1 := T1) (S2 := fun b => T2 b ∨ S2 b) (fun b z => .inl (s1 b z)) (fun b z => z.imp (s2 b) id) (fun b z y => y.elim (d b z) (dj b (s1 b z))) h (RS.join q (fun b z => dj b (s2 b z)) r)
open Classical in
noncomputable def offH (H : Hp) (S : Ad) : Hp := fun a => if S a then none else H a
theorem offH_at {a : Addr} (h : S a) : offH H S a = none := if_pos h
theorem offH_no {a : Addr} (h : ¬ S a) : offH H S a = H a := if_neg h
/-- what stands at a cell of an owned thing -/
def Cell (H : Hp) (a : Addr) : Prop := (∃ vs, H a = some (.lst vs)) ∨ (∃ ws, H a = some (.dK ws)) ∨ (∃ ws, H a = some (.dT ws)) ∨ (∃ C dx ws, H a = some (.ins C dx ws)) ∨ ∃ b, H a = some (.own b)
mutual
theorem RO.tight : ∀ {S : Ad} {v : V} {o : O}, RO K B H S v o → ∃ S' : Ad, (∀ b, S' b → S b) ∧ RO K B H S' v o ∧ ∀ b, S' b → Cell H b
  | _, _, _, .d r => ⟨fun _ => False, fun _ z => z.elim, .d r, fun _ z => z.elim⟩
  | S, _, _, .ol (a := a) ha hs hn h r => by
    obtain ⟨S', q1, q2, q3⟩ := RS.tight r
    refine ⟨fun b => b = a ∨ S' b, fun b z => z.elim (fun e => e ▸ ha) fun z => hs b (q1 b z), .ol (.inl rfl) (fun _ z => .inr z) (fun z => hn (q1 _ z)) h q2, fun b z => z.elim (fun e => .inl ⟨_, e ▸ h⟩) (q3 b)⟩
  | S, _, _, .od (a := a) ha hs hn h nd e r => by
    obtain ⟨S', q1, q2, q3⟩ := RS.tight r
    refine ⟨fun b => b = a ∨ S' b, fun b z => z.elim (fun e => e ▸ ha) fun z => hs b (q1 b z), .od (.inl rfl) (fun _ z => .inr z) (fun z => hn (q1 _ z)) h nd e q2, fun b z => z.elim (fun e => .inr (.inl ⟨_, e ▸ h⟩)) (q3 b)⟩
  | S, _, _, .ot (a := a) ha hs hn h nd e r => by
    obtain ⟨S', q1, q2, q3⟩ := RS.tight r
    refine ⟨fun b => b = a ∨ S' b, fun b z => z.elim (fun e => e ▸ ha) fun z => hs b (q1 b z), .ot (.inl rfl) (fun _ z => .inr z) (fun z => hn (q1 _ z)) h nd e q2, fun b z => z.elim (fun e => .inr (.inr (.inl ⟨_, e ▸ h⟩))) (q3 b)⟩
  | S, _, _, .oi (a := a) (dx := dx) ha hd hs hn hn2 ne h h2 e r => by
    obtain ⟨S', q1, q2, q3⟩ := RS.tight r
    refine ⟨fun b => (b = a ∨ b = dx) ∨ S' b, fun b z => z.elim (fun e => e.elim (fun e => e ▸ ha) fun e => e ▸ hd) fun z => hs b (q1 b z), .oi (.inl (.inl rfl)) (.inl (.inr rfl)) (fun _ z => .inr z) (fun z => hn (q1 _ z)) (fun z => hn2 (q1 _ z)) ne h h2 e q2,
      fun b z => z.elim (fun e => e.elim (fun e => .inr (.inr (.inr (.inl ⟨_, _, _, e ▸ h⟩)))) fun e => .inr (.inr (.inr (.inr ⟨_, e ▸ h2⟩)))) (q3 b)⟩
  | S, _, _, .op h r => by
    obtain ⟨S', q1, q2, q3⟩ := RS.tight r
    exact ⟨S', q1, .op h q2, q3⟩
  | S, _, _, .atA r => by
    obtain ⟨S', q1, q2, q3⟩ := RO.tight r
    exact ⟨S', q1, .atA q2, q3⟩
theorem RS.tight : ∀ {S : Ad} {σ : List (Option V)} {Γ : List (Option O)}, RS K B H S σ Γ → ∃ S' : Ad, (∀ b, S' b → S b) ∧ RS K B H S' σ Γ ∧ ∀ b, S' b → Cell H b
  | _, _, _, .nil => ⟨fun _ => False, fun _ z => z.elim, .nil, fun _ z => z.elim⟩
  | _, _, _, .un r => by
    obtain ⟨S', q1, q2, q3⟩ := RS.tight r
    exact ⟨S', q1, .un q2, q3⟩
  | _, _, _, .cons s1 s2 d r t => by
    obtain ⟨S1, q1, q2, q3⟩ := RO.tight r
    obtain ⟨S2, p1, p2, p3⟩ := RS.tight t
    exact ⟨fun b => S1 b ∨ S2 b, fun b z => z.elim (fun z => s1 b (q1 b z)) fun z => s2 b (p1 b z), .cons (fun _ z => .inl z) (fun _ z => .inr z) (fun b z y => d b (q1 b z) (p1 b y)) q2 p2, fun b z => z.elim (q3 b) (p3 b)⟩
end
theorem HW.tightB (h : HW K F B0 τ T σ Γ H B S) : ∃ S', HW K F B0 τ T σ Γ H B S' ∧ ∀ b, S' b → Cell H b := by
  obtain ⟨S', s1, r, c⟩ := RS.tight h.rs
  exact ⟨S', ⟨h.fr, h.pu, h.b0, fun a z => h.ow a (s1 a z), h.nw, r, h.lt⟩, c⟩
theorem HW.frameB (h : HW K F B0 τ T σ Γ H B S) : ∃ F' S', HW K F' B [] [] σ Γ H B S' ∧ (∀ a, ¬ S' a → F' a = H a) ∧ (∀ a, S' a → S a) ∧ ∀ τs Ts σ' Γ' H' B' S'', HW K F' B τs Ts σ' Γ' H' B' S'' → ∃ S3, HW K F B0 (τs ++ τ) (Ts ++ T) σ' Γ' H' B' S3 := by
  obtain ⟨S1, S2, a1, a2, a3, a4, a5⟩ := RS.split (σ0 := τ.map some) (Γ0 := T.map some) (by simp [h.lt]) h.rs
  refine ⟨offH H S2, S2, ⟨fun a u e => ?_, h.pu, .refl B, fun a z => ⟨offH_at z, (h.ow a (a2 a z)).2⟩, fun a z => .inl z, a5, rfl⟩, fun a z => offH_no z, a2, fun τs Ts σ' Γ' H' B' S' w => ?_⟩
  · by_cases z : S2 a
    · rw [offH_at z] at e; cases e
    · rw [offH_no z] at e; exact e
  have f1 : ∀ a, F a ≠ none → offH H S2 a = F a := fun a q => by
    have z : ¬ S2 a := fun z => q (h.ow a (a2 a z)).1
    rw [offH_no z]
    cases e : F a with
    | none => exact absurd e q
    | some u => exact h.fr a u e
  have s1 : ∀ a, S1 a → offH H S2 a = H a := fun a z => offH_no (a3 a z)
  have d1 : ∀ a, S1 a → ¬ S' a := fun a z y => by
    have q := (w.ow a y).1
    rw [s1 a z] at q
    exact (h.ow a (a1 a z)).2.2 q
  refine ⟨fun a => S1 a ∨ S' a, fun a u e => w.fr a u (by rw [f1 a (by rw [e]; simp)]; exact e), w.pu, h.b0.trans w.b0, fun a z => ?_, fun a z => ?_, ?_, by simp [w.lt, h.lt]⟩
  · rcases z with z | z
    · obtain ⟨q1, q2, q3⟩ := h.ow a (a1 a z)
      refine ⟨q1, ?_, ?_⟩
      · cases e : B' a with
        | none => rfl
        | some u =>
          rcases w.nw a (by rw [e]; simp) with y | y
          · exact absurd q2 y
          · rw [s1 a z] at y; exact absurd y q3
      · cases e : H a with
        | none => exact absurd e q3
        | some u => rw [w.fr a u (by rw [s1 a z]; exact e)]; simp
    · obtain ⟨q1, q2, q3⟩ := w.ow a z
      refine ⟨?_, q2, q3⟩
      cases e : F a with
      | none => rfl
      | some u =>
        have := f1 a (by rw [e]; simp)
        rw [q1, e] at this
        cases this
  · rcases w.nw a z with y | y
    · exact h.nw a y
    · right
      cases e : F a with
      | none => rfl
      | some u =>
        have := f1 a (by rw [e]; simp)
        rw [y, e] at this
        cases this
  · have r1 : RS K B' H' S1 (τ.map some) (T.map some) := a4.tr w.b0 (fun _ z => z) fun a u z e => w.fr a u (by rw [s1 a z]; exact e)
    obtain ⟨T1, T2, b1, b2, b3, b4, b5⟩ := RS.split (σ0 := τs.map some) (Γ0 := Ts.map some) (by simp [w.lt]) w.rs
    have r2 := RS.join b5 (S1 := S1) (fun b z y => d1 b z (b2 b y)) r1
    have r3 := RS.join r2 (S1 := T1) (fun b z y => y.elim (fun y => d1 b y (b1 b z)) (b3 b z)) b4
    rw [← List.append_assoc, ← List.append_assoc, ← List.map_append, ← List.map_append] at r3
    exact r3.tr (.refl B') (fun b z => z.elim (fun z => .inr (b1 b z)) fun z => z.imp id (b2 b)) fun _ _ _ e => e
theorem HW.frame (h : HW K F B0 τ T σ Γ H B S) : ∃ F' S', HW K F' B [] [] σ Γ H B S' ∧ ∀ τs Ts σ' Γ' H', Ho K F' B τs Ts σ' Γ' H' → Ho K F B0 (τs ++ τ) (Ts ++ T) σ' Γ' H' := by
  obtain ⟨F', S', w, _, _, k⟩ := h.frameB
  exact ⟨F', S', w, fun τs Ts σ' Γ' H' ⟨B', S2, w2⟩ => by obtain ⟨S3, w3⟩ := k τs Ts σ' Γ' H' B' S2 w2; exact ⟨B', S3, w3⟩⟩
theorem Sat.frame {De : Ends} {F' : Hp} (s : Sat K F B0 τ T De Dd) (back : ∀ τs Ts σ' Γ' H', Ho K F' B τs Ts σ' Γ' H' → Ho K F B0 (τs ++ τ) (Ts ++ T) σ' Γ' H') : Sat K F' B [] [] De Dd :=
  ⟨fun σ Γ H n w => s.nx σ Γ H n (back [] [] σ Γ H w), fun v o σ Γ H n w => s.rt v o σ Γ H n (back [v] [o] σ Γ H w), fun σ Γ H n w => s.bk σ Γ H n (back [] [] σ Γ H w), fun σ Γ H n w => s.ct σ Γ H n (back [] [] σ Γ H w)⟩
def tRaise (W : WX) (C : Addr) : TS := fun _ σ H => W (.ref C) none σ H
theorem gos_raise {W : WX} {X : Addr → Option (List (Str × D)) → En → Prop} {C : Addr} (wx : ∀ Cc fs d σ Γ H, X Cc fs Γ → HoX K F B0 σ Γ H d fs → W (.ref Cc) d σ H) (h : X C none Γ) : GoS K F B0 (tRaise W C) T Γ Dd :=
  fun τ σ H De ⟨B, S, w⟩ s => wx C none none σ Γ H h (.none w.bare rfl)
def tTry (K : PySem.W.Frag) (c : Value) (ts : Addr → Value → Option Addr → TS) (Wout : WX) (tb : WX → TS) : TS := fun De σ H => tb (wOnly K c ts Wout De) De σ H
def tTryAs (K : PySem.W.Frag) (c : Value) (i : Nat) (ts : Addr → Value → Option Addr → TS) (Wout : WX) (tb : WX → TS) : TS := fun De σ H => tb (wAs K c i ts Wout De) De σ H
/-- try .. except X as n, n in slot i -/
theorem gos_tryAs {c : Value} {ts : Addr → Value → Option Addr → TS} {Wout : WX} {tw : WX → TS} (X : Addr → Option (List (Str × D)) → En → Prop)
    (hb : ∀ F' B' W, (∀ Cc fs d σ Γ H, X Cc fs Γ → HoX K F' B' σ Γ H d fs → W (.ref Cc) d σ H) → GoS K F' B' (tw W) [] Γ Dd)
    (hx : ∀ F' B' Cc fs Γ', X Cc fs Γ' → PySem.W.exmOne K (.ref Cc) c = some true ∧ i < Γ'.length ∧ ∀ a d, ExB K F' B' d fs → GoS K F' B' (ts a (.ref Cc) d) [] (Γ'.set i (some (.d (.ref a)))) { nx := fun Γ2 => Dd.nx (Γ2.set i none), rt := Dd.rt, bk := fun Γ2 => Dd.bk (Γ2.set i none), ct := fun Γ2 => Dd.ct (Γ2.set i none) }) :
    GoS K F B0 (tTryAs K c i ts Wout tw) T Γ Dd := fun τ σ H De ⟨B, S, w⟩ s => by
  obtain ⟨F', S', w', back⟩ := w.frame
  have s' := s.frame back
  refine hb F' B _ (fun Cc fs d σ2 Γ2 H2 hX ⟨B2, S2, w2, hd⟩ => ?_) [] σ H De ⟨B, S', w'⟩ s'
  obtain ⟨S2', w2, cell⟩ := w2.tightB
  obtain ⟨F3, S3, w3, f3, sub3, back3⟩ := w2.frameB
  have back3' : ∀ τs Ts σ' Γ' H', Ho K F3 B2 τs Ts σ' Γ' H' → Ho K F' B (τs ++ []) (Ts ++ []) σ' Γ' H' := fun τs Ts σ' Γ' H' ⟨B', S4, w4⟩ => by obtain ⟨S5, w5⟩ := back3 τs Ts σ' Γ' H' B' S4 w4; exact ⟨B', S5, w5⟩
  have s3 := s'.frame back3'
  obtain ⟨e, hi, q⟩ := hx F3 B2 Cc fs Γ2 hX
  refine ⟨true, e, fun _ a ha => ?_, fun z => Bool.noConfusion z⟩
  obtain ⟨S6, w6⟩ := (w3.pushd (v := .ref a) (x := .ref a) .ref).put hi
  refine q a d ?_ [] _ H2 _ ⟨B2, S6, w6⟩ ⟨fun σ Γ H n ⟨B4, S4, w4⟩ => s3.nx _ _ _ n ⟨B4, S4, w4.unset i none⟩, s3.rt, fun σ Γ H n ⟨B4, S4, w4⟩ => s3.bk _ _ _ n ⟨B4, S4, w4.unset i none⟩, fun σ Γ H n ⟨B4, S4, w4⟩ => s3.ct _ _ _ n ⟨B4, S4, w4.unset i none⟩⟩
  cases d with
  | none => cases fs with | none => trivial | some _ => exact hd.elim
  | some dd =>
    cases fs with
    | none => exact hd.elim
    | some fs =>
      obtain ⟨ws, h1, h2⟩ := hd
      refine ⟨ws, ?_, h2⟩
      rw [f3 dd fun z => by
        rcases cell dd (sub3 dd z) with ⟨_, e⟩ | ⟨_, e⟩ | ⟨_, e⟩ | ⟨_, _, _, e⟩ | ⟨_, e⟩ <;> · rw [h1] at e; cases e]
      exact h1
/-- xs[i], some item of it -/
theorem o2_ixr {x : D} {xs : List D} {i : Int} (q : x.items? = some xs) (h0 : 0 ≤ i) (h1 : i < xs.length) (h : ∀ y ∈ xs, post (.d y) Γ) : Op2 K F B0 (rIxG K) x (.int i) T Γ post := by
  have h2 : i.toNat < xs.length := by omega
  have := o2_ixN (e := id) (D.non) (x := x) (xs := xs) (i := i) (K := K) (F := F) (B0 := B0) (T := T) (Γ := Γ) (post := post) (by simpa using q) h0 h1
  refine this ?_
  have e : xs.getD i.toNat D.non = xs[i.toNat] := by simp [h2]
  rw [e]
  exact h _ (List.getElem_mem h2)
theorem gog_setDS {ti : TE} (h : Go K F B0 ti (o :: T) Γ fun ok Γ2 => ∃ n kvs, ok = .d (.str n) ∧ Γ2[i]? = some (some (.od kvs)) ∧ kvs.length < 100000 ∧ posts1 (Γ2.set i (some (.od (dput kvs (.inr n) o))))) (h0 : ∃ kvs0, Γ[i]? = some (some (.od kvs0))) :
    GoG K F B0 (gSub (tVar i) ti rSetG) o T Γ posts1 :=
  gog_setD (fun τ σ H Q hw k => h τ σ H Q hw fun v ok Γ2 H2 ⟨n, kvs, e, q⟩ w => k v ok Γ2 H2 ⟨.inr n, kvs, e, q⟩ w) h0
structure Sm (n : Nat) (x : Int) : Prop where
  h : x.natAbs < 2 ^ (1048576 + n)
theorem natAbs_of {x : Int} {m : Nat} (h : Builtin.Int.intBits x ≤ m) : x.natAbs < 2 ^ m := by
  unfold Builtin.Int.intBits at h
  split at h
  · rename_i hx
    have : x = 0 := by simpa using hx
    subst this
    exact Nat.pow_pos (by decide)
  · rename_i hx
    have : x.natAbs ≠ 0 := by
      intro q
      apply hx
      have : x = 0 := by omega
      simp [this]
    exact (Nat.log2_lt this).mp h
theorem Sm.of {x : Int} (h : Builtin.Int.intBits x ≤ 1048576) : Sm 0 x := ⟨natAbs_of h⟩
theorem Sm.mono {x : Int} {n m : Nat} (h : Sm n x) (l : n ≤ m) : Sm m x := ⟨Nat.lt_of_lt_of_le h.h (Nat.pow_le_pow_right (by decide) (by omega))⟩
theorem cutD_takeI {α : Type} {xs : List α} {k : Int} (h : 0 ≤ k) : cutD xs none (some k) = xs.take k.toNat := by
  obtain ⟨n, rfl⟩ := Int.eq_ofNat_of_zero_le h
  exact cutD_take
theorem cutD_dropI {α : Type} {xs : List α} {k : Int} (h : 0 ≤ k) : cutD xs (some k) none = xs.drop k.toNat := by
  obtain ⟨n, rfl⟩ := Int.eq_ofNat_of_zero_le h
  exact cutD_drop
theorem cutD_midI {α : Type} {xs : List α} {j k : Int} (h0 : 0 ≤ j) (h : 0 ≤ k) : cutD xs (some j) (some k) = (xs.take k.toNat).drop j.toNat := by
  obtain ⟨n, rfl⟩ := Int.eq_ofNat_of_zero_le h
  obtain ⟨m, rfl⟩ := Int.eq_ofNat_of_zero_le h0
  exact cutD_mid
end
end SK
namespace SK
open PySem PySem.Spec PyProof.Rows L2
def fput {α : Type} (f : Str) (v : α) : List (Str × α) → List (Str × α)
  | [] => [(f, v)]
  | (g, x) :: r => if g = f then (g, v) :: r else (g, x) :: fput f v r
theorem putF_fput (f : Str) (v : V) : ∀ fs : List (Str × V), putF f v fs = fput f v fs
  | [] => rfl
  | (g, x) :: r => by unfold putF fput; rw [putF_fput f v r]
theorem fput_keys {α β : Type} {f : Str} {v : α} {w : β} : ∀ {xs : List (Str × α)} {ys : List (Str × β)}, xs.map (·.1) = ys.map (·.1) → (fput f v xs).map (·.1) = (fput f w ys).map (·.1)
  | [], [], _ => rfl
  | (g, x) :: xs, (g', y) :: ys, e => by
    simp only [List.map_cons, List.cons.injEq] at e
    obtain ⟨rfl, e⟩ := e
    unfold fput
    split
    · simp [e]
    · simp [fput_keys (v := v) (w := w) e]
section
variable {K : PySem.W.Frag} {F B0 H H' B B' : Hp} {τ τs : List V} {T os : List O} {σ : L2.St} {Γ : En} {S S1 S2 : Ad} {v w : V} {o p : O} {x : D} {post : O → En → Prop} {ta : TA} {tb tc te td ty tv tl : TE} {tt tu : TT} {i j : Nat} {posts : List D → En → Prop} {postt : Bool → En → Prop} {posts1 : En → Prop} {Dd : EG} {xs : List D} {vs : List V} {r r' : R2} {s : TS} {C : Addr} {f : Str}
theorem RS.fput {So : Ad} (ro : RO K B H So w o) : ∀ {ws : List (Str × V)} {kvs : List (Str × O)} {S : Ad}, ws.map (·.1) = kvs.map (·.1) → RS K B H S (ws.map fun p => some p.2) (kvs.map fun p => some p.2) → (∀ b, S b → ¬ So b) →
    RS K B H (fun b => S b ∨ So b) ((SK.fput f w ws).map fun p => some p.2) ((SK.fput f o kvs).map fun p => some p.2)
  | [], [], _, _, _, _ => .cons (S1 := So) (S2 := fun _ => False) (fun b z => .inr z) (fun _ z => z.elim) (fun _ _ z => z) ro .nil
  | (g, x) :: ws, (g', y) :: kvs, S, e, .cons (S1 := T1) (S2 := T2) s1 s2 d r rs, dj => by
    simp only [List.map_cons, List.cons.injEq] at e
    obtain ⟨rfl, e⟩ := e
    unfold SK.fput
    by_cases q : g = f
    · rw [if_pos q, if_pos q]
      exact .cons (S1 := So) (S2 := T2) (fun b z => .inr z) (fun b z => .inl (s2 b z)) (fun b z y => dj b (s2 b y) z) ro rs
    · rw [if_neg q, if_neg q]
      exact .cons (S1 := T1) (S2 := fun b => T2 b ∨ So b) (fun b z => .inl (s1 b z)) (fun b z => z.imp (s2 b) id) (fun b z y => y.elim (d b z) (dj b (s1 b z))) r (RS.fput ro e rs fun b z => dj b (s2 b z))
/-- o.f = e, o a name of an owned instance -/
theorem gos_fld (h : Go K F B0 tv T Γ fun o Γ1 => ∃ a C fs, Γ1[i]? = some (some (.oi a C fs)) ∧ Cls K C ∧ NoAttr K C f ∧ fs.length < 1000 ∧ Dd.nx (Γ1.set i (some (.oi a C (SK.fput f o fs))))) : GoS K F B0 (sFld K (tVar i) tv f) T Γ Dd := fun τ σ H De hw s =>
  h τ σ H _ hw fun v1 o1 Γ1 H1 ⟨a, C, fs, e1, hc, hn, hl, h1⟩ ⟨B1, S1, w1⟩ => by
    obtain ⟨v', S3, So, a2, r2, ro, dj, _, _, fm⟩ := w1.mut2 e1
    cases r2 with
    | @oi _ S4 _ dx _ ws _ ha hd hs hn1 hn2 ne hca hcd ek rs =>
    have len : ws.length = fs.length := by have := congrArg List.length ek; simpa using this
    refine ⟨.ref a, a2, a, C, dx, ws, rfl, hca, hc, hn, by rw [len]; exact hl, ?_⟩
    obtain ⟨S', w3⟩ := fm a (.ins C dx (putF f v1 ws)) (.oi a C (SK.fput f o1 fs)) ha (by
      rw [putF_fput]
      refine .oi (S' := fun b => S4 b ∨ So b) (.inl ha) (.inl hd) (fun b z => z.imp (hs b) id) (fun z => z.elim hn1 fun z => dj a ha z) (fun z => z.elim hn2 fun z => dj dx hd z) ne upd_same (by rw [upd_ne (Ne.symm ne)]; exact hcd) (fput_keys ek) ?_
      exact (RS.fput ro ek rs fun b z => dj b (hs b z)).at fun b u z q => by
        rw [upd_ne (fun e => by subst e; exact z.elim hn1 fun z => dj b ha z)]; exact q)
    exact s.nx σ _ _ h1 ⟨B1, S', w3⟩
theorem RF.look : ∀ {ws : List (Str × V)} {fs : List (Str × D)} {y : D}, RF K B ws fs → fs.lookup f = some y → ∃ v, ws.lookup f = some v ∧ R K B v y
  | _, _, _, .nil, h => by simp at h
  | _, _, y, .cons (k := k) (v := v) r t, h => by
    rw [List.lookup_cons] at h ⊢
    cases e : f == k with
    | true => rw [e] at h; cases h; exact ⟨v, by simp, r⟩
    | false => rw [e] at h; obtain ⟨u, a, b⟩ := RF.look t h; exact ⟨u, by simpa using a, b⟩
/-- e.f of an instance -/
theorem go_fld (h : Go K F B0 te T Γ fun o Γ1 => ∃ C fs y, o.fz = .ins C fs ∧ fs.lookup f = some y ∧ Cls K C ∧ NoAttr K C f ∧ post (.d y) Γ1) : Go K F B0 (tFld K te f) T Γ post := fun τ σ H Q hw kk =>
  h τ σ H _ hw fun v1 o1 Γ1 H1 ⟨C, fs, y, e1, l, hc, hn, h1⟩ ⟨_, _, w1⟩ => by
    obtain ⟨B2, S2, w1, _⟩ := w1.fz
    rw [e1] at w1
    obtain ⟨r1, _, _, w2⟩ := w1.popd
    cases r1 with | @ins a _ dx ws _ hb rf =>
    obtain ⟨v, l2, ry⟩ := rf.look l
    exact ⟨a, C, dx, ws, v, rfl, w1.pu a _ hb, hc, hn, l2, kk _ _ _ _ h1 ⟨_, _, w2.pushd ry⟩⟩
/-- what stands behind a call: the heap H' over H, the first thing's cells S0 may have changed -/
structure Bh (K : PySem.W.Frag) (H H' B B' : Hp) (S0 S0' S1 : Ad) : Prop where
  fr : ∀ a u, ¬ S0 a → H a = some u → H' a = some u
  pu : Ex B' H'
  le : BLe B B'
  nw : ∀ a, B' a ≠ none → B a ≠ none ∨ H a = none ∨ S0 a
  o0 : ∀ a, S0' a → (S0 a ∨ H a = none) ∧ B' a = none ∧ H' a ≠ none
  o1 : ∀ a, S1 a → (S0 a ∨ H a = none) ∧ B' a = none ∧ H' a ≠ none
  dj : ∀ a, S1 a → ¬ S0' a
end
end SK
namespace SK
open PySem PySem.Spec PyProof.Rows L2
abbrev Fs := List (Str × O)
abbrev Cs := Addr → Fs → List D → (O → Fs → Prop) → (Addr → Option (List (Str × D)) → Fs → Prop) → Prop
end SK
namespace SK
open PySem PySem.Spec PyProof.Rows L2
section
variable {K : PySem.W.Frag} {F B0 H H' B B' : Hp} {τ τs : List V} {T os : List O} {σ : L2.St} {Γ : En} {S S1 S2 : Ad} {v w : V} {o p : O} {x : D} {post : O → En → Prop} {ta : TA} {tb tc te td ty tv tl : TE} {tt tu : TT} {i j : Nat} {posts : List D → En → Prop} {postt : Bool → En → Prop} {posts1 : En → Prop} {Dd : EG} {xs : List D} {vs : List V} {r r' : R2} {s : TS}
theorem and_im {M N P Q : Prop} (h1 : M → P) (h2 : N → Q) : (M → P) ∧ (N → Q) := ⟨h1, h2⟩
theorem o1_neg {n : Int} (h : post (.d (.int (-n))) Γ) : Op1 K F B0 (rU fun i => V.int (-i)) (.int n) T Γ post := fun τ σ H B S v1 Q w r1 k => by
  cases r1
  exact ⟨n, rfl, k _ _ Γ H h ⟨_, _, w.pushd .int⟩⟩
end
end SK
namespace SK
open PySem PySem.Spec PyProof.Rows L2 Builtin.Str
def rStrG : List V → Hp → VK → Prop := fun xs H Q => (∃ i, xs = [.int i] ∧ i.natAbs.log2 < 1920 ∧ Q (.str (toString i)) H) ∨ ∃ a, xs = [.str a] ∧ Q (.str a) H
def rIntG : List V → Hp → VK → Prop := fun xs H Q => ((∃ i, xs = [.int i] ∧ Q (.int i) H) ∨ ∃ k, xs = [.bl k] ∧ Q (.int (if k then 1 else 0)) H) ∨ ∃ a n, xs = [.str a] ∧ PySem.intText? a = some n ∧ a.length ≤ 640 ∧ Q (.int n) H
def rJoinG (K : PySem.W.Frag) : V → List V → Hp → VK → Prop := fun x xs H Q => ∃ a p, ∃ ys : List Str, x = .str a ∧ xs = [.ref p] ∧ (SqL K H p (ys.map V.str) ∨ SqT K H p (ys.map V.str)) ∧ (ys.map (·.length)).sum + ys.length * a.length ≤ 16777216 ∧ Q (.str (Txt.join a ys)) H
def rSplitG : V → List V → Hp → VK → Prop := fun x xs H Q => ∃ a b, x = .str a ∧ xs = [.str b] ∧ (b.length == 0) = false ∧ a.length + 2 ≤ sizeLine ∧ rNewStrs (Txt.split a b) H Q
def rPartG : V → List V → Hp → VK → Prop := fun x xs H Q => ∃ a b, x = .str a ∧ xs = [.str b] ∧ (b.length == 0) = false ∧ a.length ≤ sizeLine ∧ ∀ p, H p = none → Q (.ref p) (upd H p (.tup [.str (Txt.partition a b).1, .str (Txt.partition a b).2.1, .str (Txt.partition a b).2.2]))
def rStartsG : V → List V → Hp → VK → Prop := fun x xs H Q => ∃ a b, x = .str a ∧ xs = [.str b] ∧ Q (.bl (Txt.startswith a b)) H
section
variable {K : PySem.W.Frag} {F B0 H H' B B' : Hp} {τ τs : List V} {T os : List O} {σ : L2.St} {Γ : En} {S S1 S2 : Ad} {v w : V} {o p : O} {x : D} {post : O → En → Prop} {ta : TA} {tb tc te td ty tv tl : TE} {tt tu : TT} {i j : Nat} {posts : List D → En → Prop} {postt : Bool → En → Prop} {posts1 : En → Prop} {Dd : EG} {xs : List D} {vs : List V} {s : TS}
theorem oa_strS {n : Str} (h : post (.d (.str n)) Γ) : OpA K F B0 rStrG [.str n] T Γ post := fun τ σ H B S vs Q w rl k => by
  obtain ⟨v1, rfl, r⟩ := rl.one
  cases r
  exact .inr ⟨n, rfl, k _ _ Γ H h ⟨_, _, w.pushd .str⟩⟩
theorem oa_intB {b : Bool} (h : post (.d (.int (if b then 1 else 0))) Γ) : OpA K F B0 rIntG [.bl b] T Γ post := fun τ σ H B S vs Q w rl k => by
  obtain ⟨v1, rfl, r⟩ := rl.one
  cases r
  exact .inl (.inr ⟨b, rfl, k _ _ Γ H h ⟨_, _, w.pushd .int⟩⟩)
theorem RL.strs : ∀ {vs : List V} {ys : List Str}, RL K B vs (ys.map D.str) → vs = ys.map V.str
  | [], [], _ => rfl
  | _ :: _, y :: ys, .cons r t => by cases r; rw [List.map_cons, RL.strs t]
theorem RL.ofStrs : ∀ ys : List Str, RL K B (ys.map V.str) (ys.map D.str)
  | [] => .nil
  | _ :: r => .cons .str (RL.ofStrs r)
/-- a.join(ys) -/
theorem go_join (h : Go K F B0 te T Γ fun o Γ1 => ∃ a, o = .d (.str a) ∧ GoA K F B0 ta (.d (.str a) :: T) Γ1 fun xs Γ2 => ∃ l ys, xs = [l] ∧ l.items? = some (List.map D.str ys) ∧ (ys.map (·.length)).sum + ys.length * a.length ≤ 16777216 ∧ post (.d (.str (Txt.join a ys))) Γ2) :
    Go K F B0 (tBM K "str" (rJoinG K) te ta) T Γ post := fun τ σ H Q hw k =>
  h τ σ H _ hw fun v1 o1 Γ1 H1 ⟨a, e, h1⟩ ⟨_, _, w1⟩ => by
    subst e
    obtain ⟨r1, _⟩ := w1.popd
    cases r1
    refine ⟨rfl, h1 _ σ H1 _ ⟨_, _, w1⟩ fun vs xs Γ2 H2 ⟨l, ys, e, q, hz, h2⟩ ⟨_, _, w2⟩ hl => ?_⟩
    subst e
    obtain ⟨rl, S2, w3⟩ := w2.args hl
    obtain ⟨_, _, _, w4⟩ := w3.popd
    obtain ⟨u, rfl, r⟩ := rl.one
    obtain ⟨p, us, rfl, sq, rl2⟩ := r.items q
    have e2 := rl2.strs
    subst e2
    exact ⟨a, p, ys, rfl, rfl, sq.imp w4.pu.sqL w4.pu.sqT, hz, k _ _ _ _ h2 ⟨_, _, w4.pushd .str⟩⟩
/-- a.split(b) -/
theorem go_split (h : Go K F B0 te T Γ fun o Γ1 => ∃ a, o = .d (.str a) ∧ GoA K F B0 ta (.d (.str a) :: T) Γ1 fun xs Γ2 => ∃ b, xs = [.str b] ∧ (b.length == 0) = false ∧ a.length ≤ 1000000 ∧ post (.ol (((Txt.split a b).map D.str).map O.d)) Γ2) :
    Go K F B0 (tBM K "str" rSplitG te ta) T Γ post := fun τ σ H Q hw k =>
  h τ σ H _ hw fun v1 o1 Γ1 H1 ⟨a, e, h1⟩ ⟨_, _, w1⟩ => by
    subst e
    obtain ⟨r1, _⟩ := w1.popd
    cases r1
    refine ⟨rfl, h1 _ σ H1 _ ⟨_, _, w1⟩ fun vs xs Γ2 H2 ⟨b, e, hb, hz, h2⟩ ⟨_, _, w2⟩ hl => ?_⟩
    subst e
    obtain ⟨rl, S2, w3⟩ := w2.args hl
    obtain ⟨_, _, _, w4⟩ := w3.popd
    obtain ⟨u, rfl, r⟩ := rl.one
    cases r
    refine ⟨a, b, rfl, rfl, hb, ?_, fun p hp => ?_⟩
    · rw [sizeLine_eq]; omega
    · obtain ⟨S5, w5⟩ := w4.newl hp (RL.ofStrs (Txt.split a b))
      exact k _ _ _ _ h2 ⟨_, _, w5⟩
/-- a.partition(b) -/
theorem go_part (h : Go K F B0 te T Γ fun o Γ1 => ∃ a, o = .d (.str a) ∧ GoA K F B0 ta (.d (.str a) :: T) Γ1 fun xs Γ2 => ∃ b, xs = [.str b] ∧ (b.length == 0) = false ∧ a.length ≤ 1000000 ∧ post (.d (.tup [.str (Txt.partition a b).1, .str (Txt.partition a b).2.1, .str (Txt.partition a b).2.2])) Γ2) :
    Go K F B0 (tBM K "str" rPartG te ta) T Γ post := fun τ σ H Q hw k =>
  h τ σ H _ hw fun v1 o1 Γ1 H1 ⟨a, e, h1⟩ ⟨_, _, w1⟩ => by
    subst e
    obtain ⟨r1, _⟩ := w1.popd
    cases r1
    refine ⟨rfl, h1 _ σ H1 _ ⟨_, _, w1⟩ fun vs xs Γ2 H2 ⟨b, e, hb, hz, h2⟩ ⟨_, _, w2⟩ hl => ?_⟩
    subst e
    obtain ⟨rl, S2, w3⟩ := w2.args hl
    obtain ⟨_, _, _, w4⟩ := w3.popd
    obtain ⟨u, rfl, r⟩ := rl.one
    cases r
    refine ⟨a, b, rfl, rfl, hb, ?_, fun p hp => ?_⟩
    · rw [sizeLine_eq]; omega
    · obtain ⟨S5, w5⟩ := w4.newd (v := .ref p) (x := .tup [.str (Txt.partition a b).1, .str (Txt.partition a b).2.1, .str (Txt.partition a b).2.2]) hp (.tup (SqT.of upd_same) (.cons .str (.cons .str (.cons .str .nil))))
      exact k _ _ _ _ h2 ⟨_, _, w5⟩
/-- a.startswith(b) -/
theorem go_starts (h : Go K F B0 te T Γ fun o Γ1 => ∃ a, o = .d (.str a) ∧ GoA K F B0 ta (.d (.str a) :: T) Γ1 fun xs Γ2 => ∃ b, xs = [.str b] ∧ post (.d (.bl (Txt.startswith a b))) Γ2) :
    Go K F B0 (tBM K "str" rStartsG te ta) T Γ post := fun τ σ H Q hw k =>
  h τ σ H _ hw fun v1 o1 Γ1 H1 ⟨a, e, h1⟩ ⟨_, _, w1⟩ => by
    subst e
    obtain ⟨r1, _⟩ := w1.popd
    cases r1
    refine ⟨rfl, h1 _ σ H1 _ ⟨_, _, w1⟩ fun vs xs Γ2 H2 ⟨b, e, h2⟩ ⟨_, _, w2⟩ hl => ?_⟩
    subst e
    obtain ⟨rl, S2, w3⟩ := w2.args hl
    obtain ⟨_, _, _, w4⟩ := w3.popd
    obtain ⟨u, rfl, r⟩ := rl.one
    cases r
    exact ⟨a, b, rfl, rfl, k _ _ _ _ h2 ⟨_, _, w4.pushd .bl⟩⟩
end
end SK
namespace SK
open PySem PySem.Spec PyProof.Rows L2
def rTupG (K : PySem.W.Frag) : List V → Hp → VK → Prop := fun xs H Q => ∃ p ys, xs = [.ref p] ∧ ((SqL K H p ys ∧ ∀ l, H l = none → Q (.ref l) (upd H l (.tup ys))) ∨ (SqT K H p ys ∧ Q (.ref p) H))
section
variable {K : PySem.W.Frag} {F B0 H H' B B' : Hp} {τ τs : List V} {T os : List O} {σ : L2.St} {Γ : En} {S S1 S2 : Ad} {v w : V} {o p : O} {x : D} {post : O → En → Prop} {ta : TA} {tb tc te td ty tv tl : TE} {tt tu : TT} {i j : Nat} {posts : List D → En → Prop} {postt : Bool → En → Prop} {posts1 : En → Prop} {Dd : EG} {xs : List D} {vs : List V} {r r' : R2} {s : TS}
theorem oa_tupL (q : x.seq? = some xs) (h : post (.d (.tup xs)) Γ) : OpA K F B0 (rTupG K) [x] T Γ post := fun τ σ H B S vs Q w rl k => by
  obtain ⟨v1, rfl, r⟩ := rl.one
  obtain ⟨a, us, rfl, sq, rl2⟩ := r.seqL q
  refine ⟨a, us, rfl, .inl ⟨w.pu.sqL sq, fun p hp => ?_⟩⟩
  obtain ⟨S2, w⟩ := w.newd (v := .ref p) (x := .tup xs) hp (.tup (SqT.of upd_same) (rl2.mono (.of_ex (.new (w.pu.back hp)))))
  exact k _ _ _ _ h ⟨_, _, w⟩
theorem oa_tupT (h : post (.d (.tup xs)) Γ) : OpA K F B0 (rTupG K) [.tup xs] T Γ post := fun τ σ H B S vs Q w rl k => by
  obtain ⟨v1, rfl, r⟩ := rl.one
  cases r with | @tup a vs _ sq rl2 =>
  exact ⟨a, vs, rfl, .inr ⟨w.pu.sqT sq, k _ _ _ _ h ⟨_, _, w.pushd (.tup sq rl2)⟩⟩⟩
theorem Sl.tupM {xs : List D} {lo : Int} {hi : Option Int} (h0 : 0 < lo) (h1 : xs ≠ []) : Sl (.tup xs) (some lo) hi (.d (.tup (cutD xs (some lo) hi))) := by
  refine .tup fun ⟨h, _⟩ => ?_
  obtain ⟨n, rfl⟩ := Int.eq_ofNat_of_zero_le (Int.le_of_lt h0)
  rw [sIx_n] at h
  have : 0 < xs.length := List.length_pos_iff.mpr h1
  omega
theorem atI_ofN {α : Type} {xs : List α} {k : Nat} : atI xs (Int.ofNat k) = xs[k]? := by
  show atI xs (k : Int) = xs[k]?
  unfold atI ixN
  rw [if_pos (Int.natCast_nonneg k)]
  by_cases h : k < xs.length
  · rw [if_pos (by omega)]
    rfl
  · rw [if_neg (by omega)]
    exact (List.getElem?_eq_none (by omega)).symm
end
end SK
namespace SK
open PySem PySem.Spec PyProof.Rows L2
/-- its own dict, if it has one, is told -/
def XdAt (H : Hp) (d : Option Addr) : Prop := match d with | none => True | some dd => ∃ fs, H dd = some (.xd fs)
def rIsX (K : PySem.W.Frag) (a : Addr) (cls : Value) (d : Option Addr) : List V → Hp → VK → Prop := fun xs H Q => ∃ D c b, cls = .ref D ∧ XdAt H d ∧ L2.ExcC K D ∧ xs = [.ref a, c] ∧
  ((∃ cv, ClsV c cv ∧ PySem.W.kitOne K (.ref D) cv = some b) ∨ (∃ tp cs us, c = .ref tp ∧ SqT K H tp cs ∧ Paired ClsV cs us ∧ PySem.W.kitAny K (.ref D) us = some b)) ∧ Q (.bl b) H
section
variable {X : Cx}
theorem call_isX {a : Addr} {oe : Obj} {cls : Value} {d : Option Addr} {pn : List (Addr × Obj)} (hz : Zc cls d oe) (hf : ∃ vs, oe.data = .fields vs) : CallR (X.suite a ((a, oe) :: pn)) (.builtin "isinstance") (rIsX X.K a cls d) := by
  intro pins s σ H xs us Q I r h
  obtain ⟨D, c, b, rfl, hx, C, rfl, way, q⟩ := h
  obtain ⟨u1, u2, rfl, r1, r2⟩ := vals2 r
  cases (show u1 = Value.ref a from r1)
  obtain ⟨hget, _⟩ := I.pin (a, oe) (List.mem_append_left _ List.mem_cons_self)
  obtain ⟨vs, hv⟩ := hf
  have J : ∃ od, PySem.W.InstAt s.heap a oe D od := by
    cases d with
    | none =>
      obtain ⟨oc, odd, oda, osl⟩ := oe
      obtain ⟨h1, h2⟩ := hz
      dsimp only at h1 h2 hv
      subst h1 h2 hv
      exact ⟨none, hget, rfl, rfl, trivial⟩
    | some dd =>
      obtain ⟨fs, hd⟩ := hx
      obtain ⟨mA, hns, _⟩ := (show ObjOk X.prog X.w H s.heap dd (.xd fs) from I.hok dd _ hd)
      obtain ⟨od, ho, _⟩ := lookIn_ns hns
      exact ⟨some od, hget, hz.1, by unfold PySem.W.notCls; rw [hv] <;> rfl, by rw [hz.2]; exact ho⟩
  obtain ⟨od, J⟩ := J
  obtain ⟨cd, hc, _⟩ := PySem.W.any_some C.hd
  have Z := PySem.W.kitx_exc (x := a) (od := od) (ox := oe) (by rw [hc]; rfl) C.hg C.hk C.hs C.ha C.hn C.ht C.hm
  rcases way with ⟨cv, k, e⟩ | ⟨tp, cs, ws, rfl, hT, k, e⟩
  · have e2 := k.eq r2
    subst e2
    exact PySem.W.kia_one Z I.kIn J e (fun z => nomatch z) fun tk => ⟨.bl b, H, I.kept (t' := tk) fun _ _ z => z, rfl, q⟩
  · cases (show u2 = Value.ref tp from r2)
    obtain ⟨its, rv, p, _⟩ := I.tuple hT
    obtain ⟨o, h1, h2, n, h3⟩ := p
    have e3 := ClsV.all k rv
    subst e3
    obtain ⟨oc, od2, dt, sl⟩ := o
    simp only at h2 h3
    subst h2 h3
    exact PySem.W.kia_tup Z I.kIn J h1 e (fun z => nomatch z) fun tk => ⟨.bl b, H, I.kept (t' := tk) fun _ _ z => z, rfl, q⟩
theorem k_isX {K : PySem.W.Frag} {a : Addr} {oe : Obj} {cls : Value} {d : Option Addr} {pn : List (Addr × Obj)} (h : X.K = K) (hz : Zc cls d oe) (hf : ∃ vs, oe.data = .fields vs) : CallR (X.suite a ((a, oe) :: pn)) (.builtin "isinstance") (rIsX K a cls d) := by cases h; exact call_isX hz hf
end
section
variable {K : PySem.W.Frag} {F B0 H H' B B' : Hp} {τ τs : List V} {T os : List O} {σ : L2.St} {Γ : En} {S S1 S2 : Ad} {v w : V} {o p : O} {x : D} {post : O → En → Prop} {ta : TA} {tb tc te td ty tv tl : TE} {tt tu : TT} {i j : Nat} {posts : List D → En → Prop} {postt : Bool → En → Prop} {posts1 : En → Prop} {Dd : EG} {xs : List D} {vs : List V} {r r' : R2} {s : TS}
/-- isinstance(e, C) -/
theorem oa_isX {a D C : Addr} {b : Bool} (E : L2.ExcC K D) (q : PySem.W.kitOne K (.ref D) (.ref C) = some b) (h : post (.d (.bl b)) Γ) : OpA K F B0 (rIsX K a (.ref D) none) [.ref a, .ref C] T Γ post := fun τ σ H B S vs Q w rl k => by
  obtain ⟨v1, v2, rfl, r, r2⟩ := rl.two
  cases r
  cases r2
  exact ⟨D, _, b, rfl, trivial, E, rfl, .inl ⟨_, .own C, q⟩, k _ _ Γ H h ⟨_, _, w.pushd .bl⟩⟩
theorem oa_isXt {a D : Addr} {n : String} {b : Bool} (E : L2.ExcC K D) (q : PySem.W.kitOne K (.ref D) (.type n) = some b) (h : post (.d (.bl b)) Γ) : OpA K F B0 (rIsX K a (.ref D) none) [.ref a, .ty n] T Γ post := fun τ σ H B S vs Q w rl k => by
  obtain ⟨v1, v2, rfl, r, r2⟩ := rl.two
  cases r
  cases r2
  exact ⟨D, _, b, rfl, trivial, E, rfl, .inl ⟨_, .ty n, q⟩, k _ _ Γ H h ⟨_, _, w.pushd .bl⟩⟩
theorem RL.cls : ∀ {vs : List V} {Cs : List Addr}, RL K B vs (Cs.map SK.D.ref) → Paired ClsV vs (Cs.map Value.ref)
  | [], [], _ => .nil
  | _ :: _, C :: Cs, .cons r t => by cases r; exact .cons (.own C) (RL.cls t)
end
end SK
namespace SK
open PySem PySem.Spec PyProof.Rows L2
end SK
namespace SK
open PySem PySem.Spec PyProof.Rows L2
structure XCls (K : PySem.W.Frag) (mg : Str → Option Value) (x : Str) (C : Addr) : Prop where
  g : mg x = some (.ref C)
  q : PySem.W.excIn K C [.type "ValueError", .type "Exception", .type "BaseException", .type "object"] "ValueError.__new__" = true
  k : PySem.W.keepIn K (.ref C) = true
  b : PySem.W.subIn K (.ref C) (.type "BaseException") = some true
  t : PySem.W.typeIn K (.ref C) = some (.type "type")
section
variable {X : Cx} {W : WX} {K : PySem.W.Frag} {mg : Str → Option Value} {x m : Str} {C : Addr} {j : Nat} {p p2 pos pos2 : Pos}
theorem k_raise (hc : X.calm = true) (tk : L2.Takes X W) (T : XCls K mg x C) (hK : X.K = K := by rfl) (hm : X.mg = mg := by rfl) (hg : Gl X x := by rfl) (hd : (x == ("__debug__" : Str)) = false := by decide) :
    PS X (.Raise (some (.Call (.Name x p) [.Constant (.str m) j p2] [] pos)) none pos2) (tRaise W C) := by
  subst hK hm
  exact L2.ps_raise hc tk (L2.pmk_own PySem.F.excBase_ValueError T.q T.g T.k (raises_own T.b T.t) hg hd)
end
section
variable {K : PySem.W.Frag} {F B0 : Hp} {T : List O} {Γ : En} {Dd : EG} {c : Value} {ts : Addr → Value → Option Addr → TS} {Wout : WX} {tw : WX → TS} {u : TS} {i : Nat}
def tTryE (K : PySem.W.Frag) (c : Value) (ts : Addr → Value → Option Addr → TS) (Wout : WX) (tb : WX → TS) (u : TS) : TS := fun De σ H => tb (wOnly K c ts Wout De) { De with nx := u De } σ H
end
end SK
namespace SK
open PySem PySem.Spec PyProof.Rows L2
theorem gos_sIW {K : PySem.W.Frag} {F B0 : Hp} {T : List O} {Γ : En} {Dd : EG} {tt : TT} {u t2 : TS} {W : WX} {C : Addr} (h : GoS K F B0 (tIfS tt (tRaise W C) u) T Γ { Dd with nx := fun Γ1 => GoS K F B0 t2 T Γ1 Dd }) : GoS K F B0 (tSeq (tIfS tt (tRaise W C) u) t2) T Γ Dd := gos_seq h
end SK
namespace SK
open PySem PySem.Spec PyProof.Rows L2
section
variable {X : Cx} {K : PySem.W.Frag} {x n : Str} {c : Value} {i : Nat} {body suite orelse : List Stmt} {b₀ : Stmt} {np pos pos' : Pos} {tb : WX → TS} {ts : Addr → Value → Option Addr → TS} {Wout : WX} {u : TS}
theorem k_tryAs (hN : X.N.Nodup) (hc : Names X x c) (tk : L2.Takes X Wout)
    (hb : ∀ (W : WX) (pn : List (Addr × Obj)) (xe : Value → Shared → Prop), L2.Takes (X.tr pn xe) W → PassesOwn (model X.prog X.w) X.A X.env xe → PSs (X.tr pn xe) body (tb W))
    (hsu : ∀ (a : Addr) (oe : Obj) (cls : Value) (d : Option Addr) (pn : List (Addr × Obj)), Zc cls d oe → (∃ vs, oe.data = .fields vs) → PSs (X.suite a ((a, oe) :: pn)) (b₀ :: suite) (ts a cls d))
    (hK : X.K = K := by rfl) (hs : X.stack = X.env :: X.outer := by rfl) (hf : X.env.frame = some X.env.locals := by rfl) (hi : X.N[i]? = some n := by rfl) (hln : X.env.kindOf n = some .local := by rfl) :
    PS X (.Try body [.ExceptHandler (some (.Name x np)) (some n) (b₀ :: suite) pos'] [] [] pos) (tTryAs K c i ts Wout tb) := by
  subst hK
  exact L2.ps_try_as hs hf hN hi hln hc tk hb hsu
end
section
variable {K : PySem.W.Frag} {F B0 : Hp} {T : List O} {Γ : En} {Dd : EG} {c : Value} {ts : Addr → Value → Option Addr → TS} {Wout : WX} {tw : WX → TS} {u t2 : TS} {i : Nat}
theorem gos_sTA (h : GoS K F B0 (tTryAs K c i ts Wout tw) T Γ { Dd with nx := fun Γ1 => GoS K F B0 t2 T Γ1 Dd }) : GoS K F B0 (tSeq (tTryAs K c i ts Wout tw) t2) T Γ Dd := gos_seq h
theorem gos_sTO (h : GoS K F B0 (tTry K c ts Wout tw) T Γ { Dd with nx := fun Γ1 => GoS K F B0 t2 T Γ1 Dd }) : GoS K F B0 (tSeq (tTry K c ts Wout tw) t2) T Γ Dd := gos_seq h
theorem gos_sTE (h : GoS K F B0 (tTryE K c ts Wout tw u) T Γ { Dd with nx := fun Γ1 => GoS K F B0 t2 T Γ1 Dd }) : GoS K F B0 (tSeq (tTryE K c ts Wout tw u) t2) T Γ Dd := gos_seq h
end
end SK
namespace SK
open PySem PySem.Spec PyProof.Rows L2
end SK
namespace SK
open PySem PySem.Spec PyProof.Rows L2 TL
def rSIndexG : V → List V → Hp → VK → Prop := fun x xs H Q => ∃ a b i rest, x = .str a ∧ xs = [.str b] ∧ Builtin.Str.occurrences a b 0 a.length 1 = i :: rest ∧ Q (.int (i : Nat)) H
def rFindG : V → List V → Hp → VK → Prop := fun x xs H Q => ∃ a b, x = .str a ∧ xs = [.str b] ∧ Q (.int (Txt.find a b)) H
section
variable {K : PySem.W.Frag} {F B0 H H' B B' : Hp} {τ τs : List V} {T os : List O} {σ : L2.St} {Γ : En} {S S1 S2 : Ad} {v w : V} {post : O → En → Prop} {ta : TA} {te : TE}
/-- a.index(b) of a text that has it -/
theorem go_sindex (h : Go K F B0 te T Γ fun o Γ1 => ∃ a, o = .d (.str a) ∧ GoA K F B0 ta (.d (.str a) :: T) Γ1 fun xs Γ2 => ∃ b i rest, xs = [.str b] ∧ Builtin.Str.occurrences a b 0 a.length 1 = i :: rest ∧ post (.d (.int (i : Nat))) Γ2) :
    Go K F B0 (tBM K "str" rSIndexG te ta) T Γ post := fun τ σ H Q hw k =>
  h τ σ H _ hw fun v1 o1 Γ1 H1 ⟨a, e, h1⟩ ⟨_, _, w1⟩ => by
    subst e
    obtain ⟨r1, _⟩ := w1.popd
    cases r1
    refine ⟨rfl, h1 _ σ H1 _ ⟨_, _, w1⟩ fun vs xs Γ2 H2 ⟨b, i, rest, e, oc, h2⟩ ⟨_, _, w2⟩ hl => ?_⟩
    subst e
    obtain ⟨rl, S2, w3⟩ := w2.args hl
    obtain ⟨_, _, _, w4⟩ := w3.popd
    obtain ⟨u, rfl, r⟩ := rl.one
    cases r
    exact ⟨a, b, i, rest, rfl, rfl, oc, k _ _ _ _ h2 ⟨_, _, w4.pushd .int⟩⟩
theorem go_find (h : Go K F B0 te T Γ fun o Γ1 => ∃ a, o = .d (.str a) ∧ GoA K F B0 ta (.d (.str a) :: T) Γ1 fun xs Γ2 => ∃ b, xs = [.str b] ∧ post (.d (.int (Txt.find a b))) Γ2) :
    Go K F B0 (tBM K "str" rFindG te ta) T Γ post := fun τ σ H Q hw k =>
  h τ σ H _ hw fun v1 o1 Γ1 H1 ⟨a, e, h1⟩ ⟨_, _, w1⟩ => by
    subst e
    obtain ⟨r1, _⟩ := w1.popd
    cases r1
    refine ⟨rfl, h1 _ σ H1 _ ⟨_, _, w1⟩ fun vs xs Γ2 H2 ⟨b, e, h2⟩ ⟨_, _, w2⟩ hl => ?_⟩
    subst e
    obtain ⟨rl, S2, w3⟩ := w2.args hl
    obtain ⟨_, _, _, w4⟩ := w3.popd
    obtain ⟨u, rfl, r⟩ := rl.one
    cases r
    exact ⟨a, b, rfl, rfl, k _ _ _ _ h2 ⟨_, _, w4.pushd .int⟩⟩
end
end SK
namespace SK
open PySem PySem.Spec PyProof.Rows L2
/-- an exception of the body is always one that the clause names -/
def wAll (K : PySem.W.Frag) (c : Value) (ts : Addr → Value → Option Addr → TS) (De : Ends) : WX := fun cls d σ H => PySem.W.exmOne K cls c = some true ∧ ∀ a, H a = none → ts a cls d De σ H
def tTryXE (K : PySem.W.Frag) (c : Value) (ts : Addr → Value → Option Addr → TS) (tb : WX → TS) (u : TS) : TS := fun De σ H => tb (wAll K c ts De) { De with nx := u De } σ H
section
variable {K : PySem.W.Frag} {F B0 : Hp} {T : List O} {Γ : En} {Dd : EG} {c : Value} {ts : Addr → Value → Option Addr → TS} {Wout : WX} {tw : WX → TS} {u t2 : TS}
theorem gos_sTX (h : GoS K F B0 (tTryXE K c ts tw u) T Γ { Dd with nx := fun Γ1 => GoS K F B0 t2 T Γ1 Dd }) : GoS K F B0 (tSeq (tTryXE K c ts tw u) t2) T Γ Dd := gos_seq h
end
end SK
namespace SK
open PySem PySem.Spec PyProof.Rows L2 TL
end SK
namespace SK
open PySem PySem.Spec PyProof.Rows L2
end SK
namespace SK
open PySem PySem.Spec PyProof.Rows L2 TL
def rUpperG : V → List V → Hp → VK → Prop := fun x xs H Q => ∃ a, x = .str a ∧ xs = [] ∧ a.length ≤ 5592405 ∧ Q (.str (Txt.upper a)) H
section
variable {K : PySem.W.Frag} {F B0 H H' B B' : Hp} {τ τs : List V} {T os : List O} {σ : L2.St} {Γ : En} {S S1 S2 : Ad} {v w : V} {post : O → En → Prop} {ta : TA} {te : TE} {i : Nat} {Dd : EG}
theorem go_upper (h : Go K F B0 te T Γ fun o Γ1 => ∃ a, o = .d (.str a) ∧ a.length ≤ 100000 ∧ post (.d (.str (Txt.upper a))) Γ1) :
    Go K F B0 (tBM0 K "str" rUpperG te) T Γ post := fun τ σ H Q hw k =>
  h τ σ H _ hw fun v1 o1 Γ1 H1 ⟨a, e, hz, h1⟩ ⟨_, _, w1⟩ => by
    subst e
    obtain ⟨r1, _, _, w2⟩ := w1.popd
    cases r1
    exact ⟨rfl, a, rfl, rfl, Nat.le_trans hz (by decide), k _ _ _ _ h1 ⟨_, _, w2.pushd .str⟩⟩
/-- xs.clear(), xs a name -/
theorem gos_clear (h : ∃ xs, Γ[i]? = some (some (.ol xs)) ∧ Dd.nx (Γ.set i (some (.ol [])))) :
    GoS K F B0 (tDrop (tBM0 K "list" rClear (tVar i))) T Γ Dd := fun τ σ H De hw s => by
  obtain ⟨B, S, w⟩ := hw
  obtain ⟨xs, e0, h⟩ := h
  obtain ⟨v, S1, a1, r1, _, f⟩ := w.mut1 e0
  cases r1 with
  | @ol _ S4 a vs _ ha hs hn hc rs =>
  refine ⟨.ref a, a1, Or.inl ⟨rfl, vs, SqL.of hc⟩, a, vs, rfl, rfl, hc, ?_⟩
  obtain ⟨S', w3⟩ := f a (.lst []) (.ol []) ha (.ol (S' := fun _ => False) ha (fun b z => False.elim z) id upd_same .nil)
  exact s.nx σ _ _ h ⟨B, S', w3⟩
theorem RS.app0 : ∀ {σ : List (Option V)} {Γ : List (Option O)} {S : Ad} {vs : List V} {xs : List D}, RS K B H S σ Γ → RL K B vs xs → RS K B H S (σ ++ vs.map some) (Γ ++ (xs.map O.d).map some)
  | _, _, _, _, _, .nil, rl => by simpa using fl_of rl
  | _, _, _, _, _, .un r, rl => .un (RS.app0 r rl)
  | _, _, _, _, _, .cons s1 s2 d r rs, rl => .cons s1 s2 d r (RS.app0 rs rl)
/-- xs.extend(e), xs a name -/
theorem gos_extend (h : Go K F B0 te T Γ fun o Γ1 => ∃ xs zs, o.fz = .lst zs ∧ Γ1[i]? = some (some (.ol xs)) ∧ xs.length + zs.length ≤ 100000 ∧ Dd.nx (Γ1.set i (some (.ol (xs ++ zs.map O.d))))) (h0 : ∃ xs, Γ[i]? = some (some (.ol xs))) :
    GoS K F B0 (tDrop (tBM K "list" rExtend (tVar i) (tCons te tNil))) T Γ Dd := fun τ σ H De hw s => by
  obtain ⟨B, S, w⟩ := hw
  obtain ⟨xs0, e0⟩ := h0
  obtain ⟨v, S1, a1, r1, _, _⟩ := w.mut1 e0
  cases r1 with
  | @ol _ _ a vs _ _ _ _ hc _ =>
  refine ⟨.ref a, a1, Or.inl ⟨rfl, vs, SqL.of hc⟩, h τ σ H _ ⟨B, S, w⟩ fun v2 o2 Γ2 H2 ⟨xs, zs, ez, e2, hz, h2⟩ ⟨B2, S2, w2⟩ => ?_⟩
  obtain ⟨B3, S3, w3, r3, _⟩ := w2.fzd
  rw [ez] at r3
  cases r3 with
  | @lst b us _ hb rl =>
  obtain ⟨v', S5, a2, r2, _, f⟩ := w3.mut1 e2
  rw [a1] at a2
  cases a2
  cases r2 with
  | @ol _ S4 _ ws _ ha hs hn hc2 rs =>
  have len : ws.length = xs.length := by simpa using rs.len
  have len2 : us.length = zs.length := rl.length
  refine ⟨a, b, ws, us, rfl, rfl, hc2, w3.pu _ _ hb, by rw [len, len2]; exact Nat.le_trans hz (by decide), ?_⟩
  obtain ⟨S', w4⟩ := f a (.lst (ws ++ us)) (.ol (xs ++ zs.map O.d)) ha (.ol (S' := S4) ha hs hn upd_same (by
    rw [List.map_append, List.map_append]
    exact (rs.app0 rl).at fun b u z q => by
      rw [upd_ne (fun e => by subst e; exact hn z)]; exact q))
  exact s.nx σ _ _ h2 ⟨_, S', w4⟩
end
end SK
namespace SK
open PySem PySem.Spec PyProof.Rows L2
section
variable {K : PySem.W.Frag} {F B0 H H' B B' : Hp} {τ τs : List V} {T os : List O} {σ : L2.St} {Γ : En} {S S1 S2 : Ad} {v w : V}
theorem iter_zipT {a b : Addr} {xs ys : List D} : Iter K F B0 (RZ.ItzT K a b) [.ref b, .ref a] [.tup ys, .tup xs] (zipD xs ys) := by
  intro τ T σ Γ H B S h rl0
  obtain ⟨v0, v1, e0, r2, r⟩ := rl0.two
  cases e0
  cases r with | @tup _ vs _ sq rl =>
  cases r2 with | @tup _ us _ sq2 rl2 =>
  have sqh := h.pu.sqT sq
  have sqh2 := h.pu.sqT sq2
  refine ⟨⟨vs, us, sqh, sqh2, by simp only [zipD, List.length_map, List.length_zip]; have := rl.length; have := rl2.length; omega⟩, fun i d hd => ?_⟩
  have hi : i < (zipD xs ys).length := (List.getElem?_eq_some_iff.mp hd).1
  simp only [zipD, List.length_map, List.length_zip] at hi
  have hxi : i < xs.length := by omega
  have hyi : i < ys.length := by omega
  have e : d = .tup [xs[i], ys[i]] := by
    simp [zipD, hxi, hyi, List.getElem?_map, List.zip, List.getElem?_zipWith] at hd
    exact hd.symm
  subst e
  obtain ⟨x1, hx1, rx1⟩ := rl.get (i := i) (x := xs[i]) (by simp [hxi])
  obtain ⟨y1, hy1, ry1⟩ := rl2.get (i := i) (x := ys[i]) (by simp [hyi])
  refine ⟨⟨vs, us, x1, y1, sqh, sqh2, hx1, hy1⟩, fun z H' ⟨t, x2, y2, e1, e2, e3, f1, f2⟩ => ?_⟩
  subst e1 e3
  have g1 := f1 vs sqh
  rw [hx1] at g1
  cases g1
  have g2 := f2 us sqh2
  rw [hy1] at g2
  cases g2
  have ex : Ex B (upd B t (.tup [x1, y1])) := .new (h.pu.back e2)
  obtain ⟨S', w'⟩ := HW.newd h e2 (x := .tup [xs[i], ys[i]]) (.tup (SqT.of upd_same) (.cons (rx1.mono (.of_ex ex)) (.cons (ry1.mono (.of_ex ex)) .nil)))
  exact ⟨_, S', w'⟩
theorem goi_zipT {ta : TA} {posti : List D → List D → En → Prop} (h : GoA K F B0 ta T Γ fun zs Γ1 => ∃ xs ys, zs = [.tup xs, .tup ys] ∧ posti (zipD xs ys) [.tup ys, .tup xs] Γ1) : GoI K F B0 (RZ.iZipA K ta) T Γ posti := fun τ σ H Q hw k =>
  h τ σ H _ hw fun vs zs Γ1 H1 ⟨xs, ys, e, h1⟩ ⟨_, _, w1⟩ hl => by
    subst e
    obtain ⟨rl, S', w⟩ := w1.args hl
    cases rl with | cons r rl0 => cases rl0 with | cons r2 rl0 =>
      cases rl0
      have r' := r
      have r2' := r2
      cases r with | @tup a us _ sq rl2 =>
      cases r2 with | @tup b us2 _ sq2 rl3 =>
      exact ⟨a, b, us, us2, rfl, .inr ⟨w.pu.sqT sq, w.pu.sqT sq2, k (RZ.ItzT K a b) [.ref b, .ref a] [.tup ys, .tup xs] _ Γ1 H1 h1 ⟨_, _, (w.pushd r').pushd r2'⟩ rfl iter_zipT⟩⟩
end
end SK
set_option maxHeartbeats 1000000
namespace SK
open PySem PySem.Spec PyProof.Rows L2
mutual
/-- no list, dict or instance is in it -/
def D.lf : D → Bool
  | .non => true
  | .bl _ => true
  | .int _ => true
  | .str _ => true
  | .ref _ => true
  | .ty _ => true
  | .tup xs => lfL xs
  | _ => false
def lfL : List D → Bool
  | [] => true
  | x :: xs => x.lf && lfL xs
end
mutual
def O.lf : O → Bool
  | .d x => x.lf
  | .ol xs => lfOL xs
  | .od kvs => lfOK kvs
  | .oi _ _ fs => lfOF fs
  | .op xs => lfOL xs
  | .atA _ o => o.lf
  | _ => false
def lfOL : List O → Bool
  | [] => true
  | x :: xs => x.lf && lfOL xs
def lfOK : List (Key × O) → Bool
  | [] => true
  | (_, x) :: xs => x.lf && lfOK xs
def lfOF : List (Str × O) → Bool
  | [] => true
  | (_, x) :: xs => x.lf && lfOF xs
end
section
variable {K : PySem.W.Frag} {B B2 H : Hp}
mutual
theorem R.lfD (hB : ∀ a xs, SqT K B a xs → SqT K B2 a xs) : ∀ (x : D) {v : V}, R K B v x → x.lf = true → R K B2 v x
  | .non, _, r, _ => by cases r; exact .non
  | .bl _, _, r, _ => by cases r; exact .bl
  | .int _, _, r, _ => by cases r; exact .int
  | .str _, _, r, _ => by cases r; exact .str
  | .ref _, _, r, _ => by cases r; exact .ref
  | .ty _, _, r, _ => by cases r; exact .ty
  | .tup xs, _, r, q => by
    cases r with
    | tup h rl => exact .tup (hB _ _ h) (RL.lfD hB xs rl (by simpa [D.lf] using q))
  | .lst _, _, _, q => by simp [D.lf] at q
  | .sq _, _, _, q => by simp [D.lf] at q
  | .dic _, _, _, q => by simp [D.lf] at q
  | .dit _, _, _, q => by simp [D.lf] at q
  | .ins _ _, _, _, q => by simp [D.lf] at q
theorem RL.lfD (hB : ∀ a xs, SqT K B a xs → SqT K B2 a xs) : ∀ (xs : List D) {vs : List V}, RL K B vs xs → lfL xs = true → RL K B2 vs xs
  | [], _, r, _ => by cases r; exact .nil
  | x :: xs, _, r, q => by
    simp only [lfL, Bool.and_eq_true] at q
    cases r with
    | cons r t => exact .cons (R.lfD hB x r q.1) (RL.lfD hB xs t q.2)
end
theorem R.lf (hB : ∀ a xs, SqT K B a xs → SqT K B2 a xs) {v : V} {x : D} (r : R K B v x) (q : x.lf = true) : R K B2 v x := R.lfD hB x r q
theorem lfOL_map : ∀ {xs : List O}, lfOL xs = true → ∀ o ∈ xs, o.lf = true
  | x :: xs, q, o, h => by
    simp only [lfOL, Bool.and_eq_true] at q
    rcases List.mem_cons.mp h with rfl | h
    · exact q.1
    · exact lfOL_map q.2 o h
theorem lfOK_map : ∀ {xs : List (Key × O)}, lfOK xs = true → ∀ p ∈ xs, p.2.lf = true
  | (k, x) :: xs, q, p, h => by
    simp only [lfOK, Bool.and_eq_true] at q
    rcases List.mem_cons.mp h with rfl | h
    · exact q.1
    · exact lfOK_map q.2 p h
theorem lfOF_map : ∀ {xs : List (Str × O)}, lfOF xs = true → ∀ p ∈ xs, p.2.lf = true
  | (k, x) :: xs, q, p, h => by
    simp only [lfOF, Bool.and_eq_true] at q
    rcases List.mem_cons.mp h with rfl | h
    · exact q.1
    · exact lfOF_map q.2 p h
mutual
theorem RO.lf (hB : ∀ a xs, SqT K B a xs → SqT K B2 a xs) : ∀ {S : Ad} {v : V} {o : O}, RO K B H S v o → o.lf = true → RO K B2 H S v o
  | _, _, _, .d r, q => .d (r.lf hB (by simpa [O.lf] using q))
  | _, _, _, .ol (xs := xs) ha hs hn h r, q => .ol ha hs hn h (RS.lf hB r fun o ho => by
      obtain ⟨y, hy, e⟩ := List.mem_map.mp ho
      cases e
      exact lfOL_map (by simpa [O.lf] using q) o hy)
  | _, _, _, .od (kvs := kvs) ha hs hn h nd e r, q => .od ha hs hn h nd e (RS.lf hB r fun o ho => by
      obtain ⟨y, hy, e⟩ := List.mem_map.mp ho
      cases e
      exact lfOK_map (by simpa [O.lf] using q) y hy)
  | _, _, _, .oi (kvs := kvs) ha hd hs hn hn2 ne h h2 e r, q => .oi ha hd hs hn hn2 ne h h2 e (RS.lf hB r fun o ho => by
      obtain ⟨y, hy, e⟩ := List.mem_map.mp ho
      cases e
      exact lfOF_map (by simpa [O.lf] using q) y hy)
  | _, _, _, .op (xs := xs) h r, q => .op (hB _ _ h) (RS.lf hB r fun o ho => by
      obtain ⟨y, hy, e⟩ := List.mem_map.mp ho
      cases e
      exact lfOL_map (by simpa [O.lf] using q) o hy)
  | _, _, _, .atA r, q => .atA (RO.lf hB r (by simpa [O.lf] using q))
theorem RS.lf (hB : ∀ a xs, SqT K B a xs → SqT K B2 a xs) : ∀ {S : Ad} {σ : List (Option V)} {Γ : List (Option O)}, RS K B H S σ Γ → (∀ o, some o ∈ Γ → o.lf = true) → RS K B2 H S σ Γ
  | _, _, _, .nil, _ => .nil
  | _, _, _, .un r, q => .un (RS.lf hB r fun o h => q o (List.mem_cons_of_mem _ h))
  | _, _, _, .cons s1 s2 d r t, q => .cons s1 s2 d (RO.lf hB r (q _ List.mem_cons_self)) (RS.lf hB t fun o h => q o (List.mem_cons_of_mem _ h))
end
end
end SK
namespace SK
open PySem PySem.Spec PyProof.Rows L2
def rMinD (K : PySem.W.Frag) : List V → List V → Hp → VK → Prop := fun vs zs H Q => ∃ (a : Addr) (ns : List Int) (d : V), vs = [V.ref a] ∧ zs = [d] ∧ SqL K H a (ns.map V.int) ∧ (ns = [] → Q d H) ∧ ∀ m, m ∈ ns → (∀ y, y ∈ ns → m ≤ y) → Q (.int m) H
section
variable {K : PySem.W.Frag} {F B0 H H' B B' : Hp} {τ : List V} {T : List O} {σ : L2.St} {Γ : En} {post : O → En → Prop} {t tk : TA}
theorem go_minD (h : GoA K F B0 t T Γ fun xs Γ1 => ∃ x ns, xs = [x] ∧ x.seq? = some (ns.map D.int) ∧ GoA K F B0 tk (.d x :: T) Γ1 fun zs Γ2 => ∃ y, zs = [y] ∧ (ns = [] → post (.d y) Γ2) ∧ ∀ m, m ∈ ns → (∀ y, y ∈ ns → m ≤ y) → post (.d (.int m)) Γ2) :
    Go K F B0 (tCKw (rMinD K) t tk) T Γ post := fun τ σ H Q hw k =>
  h τ σ H _ hw fun vs xs Γ1 H1 ⟨x, ns, e, q, h1⟩ w1 hl => by
    subst e
    obtain ⟨v, rfl⟩ : ∃ v, vs = [v] := List.length_eq_one_iff.mp hl
    refine h1 _ σ H1 _ w1 fun zs ys Γ2 H2 ⟨y, e2, h0, h2⟩ ⟨B2, S2, w2⟩ hl2 => ?_
    subst e2
    obtain ⟨z, rfl⟩ : ∃ z, zs = [z] := List.length_eq_one_iff.mp hl2
    obtain ⟨ry, _, _, w3⟩ := w2.popd
    obtain ⟨rx, _, _, w4⟩ := w3.popd
    obtain ⟨a, us, rfl, sq, rl⟩ := rx.seqL q
    have eu : us = ns.map V.int := by
      have : ∀ {us : List V} {ns : List Int}, RL K B2 us (ns.map D.int) → us = ns.map V.int := by
        intro us ns r
        induction ns generalizing us with
        | nil => cases r; rfl
        | cons n ns ih =>
          cases r with
          | cons r t => cases r; rw [ih t]; rfl
      exact this rl
    subst eu
    exact ⟨a, ns, z, rfl, rfl, w4.pu.sqL sq, fun hz => k _ _ _ _ (h0 hz) ⟨_, _, w4.pushd ry⟩, fun m hm hall => k _ _ _ _ (h2 m hm hall) ⟨_, _, w4.pushd .int⟩⟩
end
end SK
namespace SK
open PySem PySem.Spec PyProof.Rows L2
/-- the class facts of a record: its fields are its own -/
structure Rec (K : PySem.W.Frag) (Ci : Addr) (fs : List Str) : Prop where
  cls : Cls K Ci
  no : ∀ f, fs.contains f = true → NoAttr K Ci f
section
variable {K : PySem.W.Frag} {F B0 H H' B B' : Hp} {τ : List V} {T : List O} {σ : L2.St} {Γ : En} {post : O → En → Prop} {te tv : TE} {Ci : Addr} {fl : List Str} {f : Str} {Dd : EG} {i : Nat}
/-- e.f of a frozen record -/
theorem go_fldR (R : Rec K Ci fl) (h : Go K F B0 te T Γ fun o Γ1 => ∃ fs y, o.fz = .ins Ci fs ∧ fs.lookup f = some y ∧ fl.contains f = true ∧ post (.d y) Γ1) : Go K F B0 (tFld K te f) T Γ post :=
  go_fld fun τ σ H Q hw k => h τ σ H Q hw fun v o Γ1 H1 ⟨fs, y, e1, e2, e3, e4⟩ w => k v o Γ1 H1 ⟨Ci, fs, y, e1, e2, R.cls, R.no f e3, e4⟩ w
/-- self.f = e in __init__ -/
theorem gos_fldR (R : Rec K Ci fl) (h : Go K F B0 tv T Γ fun o Γ1 => ∃ a fs, Γ1[i]? = some (some (.oi a Ci fs)) ∧ fl.contains f = true ∧ fs.length < 1000 ∧ Dd.nx (Γ1.set i (some (.oi a Ci (SK.fput f o fs))))) : GoS K F B0 (sFld K (tVar i) tv f) T Γ Dd :=
  gos_fld fun τ σ H Q hw k => h τ σ H Q hw fun v o Γ1 H1 ⟨a, fs, e1, e2, e3, e4⟩ w => k v o Γ1 H1 ⟨a, Ci, fs, e1, R.cls, R.no f e2, e3, e4⟩ w
end
end SK
namespace SK
open PySem PySem.Spec PyProof.Rows L2
end SK
namespace SK
open PySem PySem.Spec PyProof.Rows L2
section
variable {prog : Program} {w : World} {A : Around} {E : Value → Shared → Prop} {s : Shared} {r : Addr}
theorem rev_noLen : typeLookup (.type "list_reverseiterator") "__len__" = pure none := by rw [typeLookup_type, builtinLookup_eq_fast]; kernel_rfl
theorem rev_hint : typeLookup (.type "list_reverseiterator") "__length_hint__" = pure (some (.builtin "list_reverseiterator.__length_hint__")) := by rw [typeLookup_type, builtinLookup_eq_fast]; kernel_rfl
theorem hint_rev {Q : Bool → Shared → Prop} (hT : s.TypeIs (.ref r) "list_reverseiterator") (h : Q false s) : wpAny (model prog w) A (Builtin.List.listLengthHint (.ref r)) Q E s := by
  unfold Builtin.List.listLengthHint
  refine wpAny_bind (wpAny_specialOf hT rev_noLen ?_)
  wp_delta
  refine wpAny_ite_split (fun no => absurd no (by decide)) fun _ => ?_
  wp_delta
  refine wpAny_ite_split (fun no => absurd no (by decide)) fun _ => wpAny_bind (wpAny_specialOf hT rev_hint ?_)
  generalize hx : ("list_reverseiterator.__length_hint__" : String) = x
  wp_delta
  rw [show splitId x = some ("list_reverseiterator", "__length_hint__") from by subst hx; decide +kernel]
  subst hx
  refine wpAny_bind (wpAny_isInstance (T := "list_reverseiterator") (b := true) hT (by rw [isSubtype_type]; kernel_rfl) (wpAny_ite_split (fun no => absurd no (by decide)) fun _ => ?_))
  refine wpAny_ite_split (fun _ => ?_) fun no => absurd (by decide +kernel) no
  exact wpAny_ite_split (fun no => absurd no (by decide +kernel)) fun _ => wpAny_pure h
theorem rev_ext {R : Result → Shared → Prop} {S it l : Addr} {items : Array Value} {c0 : Nat} (hh : A.handled = none) (hit : s.heap.IsRevIter it l ((items.size : Int) - 1)) (hl : s.heap.IsList l items) (hne : l ≠ it) (hSi : S ≠ it) (hSl : S ≠ l)
    (hS : s.heap.get? S = some { cls := .type "list", data := .seq #[] c0 }) (hn : items.size ≤ sizeLine)
    (hR : ∀ h' tk acc c, (∀ b o, b ≠ S → b ≠ it → s.heap.get? b = some o → h'.get? b = some o) → h'.get? S = some { cls := .type "list", dict := none, data := .seq acc c, slots := #[] } → ItemsOf (fun i v => items[items.size - 1 - i]? = some v) acc items.size →
      R (.ok (.ret .none)) { s with heap := h', toks := tk }) :
    wpAny (model prog w) A.in1 (Builtin.List.listExtendWith (.ref S) (.ref it) .none)
      (fun fin s' => match fin with | .done f => R (.ok f) s' | .again c' => c'.quiet = true ∧ codeAny (model prog w) A c' R s') (fun e s' => R (.error e) s') s := by
  have W := Walks.listRev (prog := prog) (w := w) (A := A.in1) hh it l hne items
  have hSf : S ∉ [it, l] := by simp [hSi, hSl]
  have st : (0 : Nat) ≤ items.size ∧ s.heap.IsRevIter it l ((items.size : Int) - 1 - ((0 : Nat) : Int)) ∧ s.heap.IsList l items := ⟨Nat.zero_le _, by simpa using hit, hl⟩
  unfold Builtin.List.listExtendWith
  refine wpAny_bind (wpAny_typeOf hit.typeIs ?_)
  have h1 : Builtin.List.listSameRef (.ref S) (.ref it) = false := by simp [Builtin.List.listSameRef, hSi]
  have h2 : (Value.type "list_reverseiterator" == Value.type "list") = false ∧ (Value.type "list_reverseiterator" == Value.type "tuple") = false := by decide
  simp only [h1, h2.1, h2.2, Bool.or_false, Bool.false_eq_true, if_false]
  refine wpAny_bind (wpAny_pyIter_revIter hit (wpAny_bind (wpAny_holding (hint_rev hit.typeIs ?_))))
  refine wpAny_ite_split (fun no => absurd no (by decide)) fun _ => wpAny_pure ⟨plainId_quiet PySem.F.plain_extend_loop _, ?_⟩
  refine codeAny_extend_loopS W.toS hn S hSf .none items.size 0 _ #[] c0 rfl (Nat.zero_le _) st hS (ItemsOf.nil _) fun s' acc c hm hS' hacc => ?_
  rw [Moved.eq_with hm]
  exact hR s'.heap s'.toks acc c (fun b o hb hb2 e => hm.heap b o (by simp [hb, hb2]) e) hS' hacc
theorem call_list_rev {Q : Value → Shared → Prop} {it l : Addr} {items : Array Value} (hh : A.handled = none) (hit : s.heap.IsRevIter it l ((items.size : Int) - 1)) (hl : s.heap.IsList l items) (hne : l ≠ it) (hn : items.size ≤ sizeLine)
    (hQ : ∀ h' tk acc c, (∀ b o, b ≠ it → s.heap.get? b = some o → h'.get? b = some o) → h'.get? s.heap.objs.size = some { cls := .type "list", dict := none, data := .seq acc c, slots := #[] } →
      ItemsOf (fun i v => items[items.size - 1 - i]? = some v) acc items.size → Q (.ref s.heap.objs.size) { s with heap := h', toks := tk }) :
    wpAny (model prog w) A (call (.type "list") [.ref it]) Q E s := by
  have hitl : it < s.heap.objs.size := by obtain ⟨_, e, _⟩ := hit; exact Heap.lt_size e
  have hll : l < s.heap.objs.size := by obtain ⟨_, e, _⟩ := hl; exact Heap.lt_size e
  refine callType_codes (Q₁ := fun x s1 => x = .ref s.heap.objs.size ∧ s1 = { s with heap := s.heap.push { cls := .type "list", data := .seq #[] } }) PySem.F.called_list (PySem.F.typeCall_list_1 _) PySem.F.entry_list_init (code_list_new _ ⟨rfl, rfl⟩) fun x s1 h1 => ?_
  obtain ⟨rfl, rfl⟩ := h1
  have hS : (s.heap.push { cls := .type "list", data := .seq #[] }).get? s.heap.objs.size = some { cls := .type "list", data := .seq #[] } := Heap.get?_push_size _ rfl
  have kp : ∀ b o, s.heap.get? b = some o → ((s.heap.push { cls := .type "list", data := .seq #[] }).update s.heap.objs.size (Obj.mapSeq fun _ => (#[] : Array Value))).get? b = some o := fun b o e =>
    (Heap.get?_update_other _ _ (Nat.ne_of_gt (Heap.lt_size e))).trans (Heap.get?_push_of_some _ e)
  refine ⟨⟨_, hS, rfl⟩, PySem.F.args_list_init_2 _ _, ?_⟩
  show wpAny _ _ (do let old ← Builtin.List.listItems (.ref s.heap.objs.size); Builtin.List.listUpdate (.ref s.heap.objs.size) (fun _ => #[]); letGo old.toList.reverse; Builtin.List.listExtendWith (.ref s.heap.objs.size) (.ref it) .none) _ _ _
  unfold Builtin.List.listItems
  refine wpAny_bind (wpAny_bind (wpAny_seqItems hS rfl (wpAny_pure ?_)))
  show wpAny _ _ (updateSeq s.heap.objs.size (fun _ => #[]) >>= fun _ => letGo (#[] : Array Value).toList.reverse >>= fun _ => Builtin.List.listExtendWith (.ref s.heap.objs.size) (.ref it) .none) _ _ _
  refine wpAny_bind (wpAny_updateSeq hS rfl (wpAny_bind (wpAny_letGo ?_)))
  refine rev_ext hh (hit.at fun o e => kp _ o e) (hl.at fun o e => kp _ o e) hne (Nat.ne_of_gt hitl) (Nat.ne_of_gt hll) (Heap.get?_update_self (Obj.mapSeq fun _ => (#[] : Array Value)) hS rfl) hn fun h' tk acc c hk hS' hacc => ⟨rfl, hQ h' tk acc c (fun b o hb e => hk b o (Nat.ne_of_lt (Heap.lt_size e)) hb (kp b o e)) hS' hacc⟩
end
end SK
namespace SK
open PySem PySem.Spec PyProof.Rows L2 RT
def tListRev (K : PySem.W.Frag) (te : TE) : TE := fun σ H Q => te σ H fun v H1 => ∃ (a : Addr) (xs : List V), v = .ref a ∧ SqL K H1 a xs ∧ ∀ q, H1 q = none → Q (.ref q) (upd H1 q (.lst xs.reverse))
theorem pe_listRev {X : Cx} {K : PySem.W.Frag} {e : Expr} {te : TE} {p p2 pos pos2 : Pos} (hK : X.K = K) (hc : X.calm = true) (hg : Gl X "list") (hm : X.mg "list" = none) (hg2 : Gl X "reversed") (hm2 : X.mg "reversed" = none) (he : PE X e te)
    (hs : starEach [e] X.env = (false, eval e X.env) :: starEach [] X.env := by rfl)
    (hs2 : starEach [.Call (.Name "reversed" p2) [e] [] pos2] X.env = (false, eval (.Call (.Name "reversed" p2) [e] [] pos2) X.env) :: starEach [] X.env := by rfl) :
    PE X (.Call (.Name "list" p) [.Call (.Name "reversed" p2) [e] [] pos2] [] pos) (tListRev K te) := by
  subst hK
  refine ⟨fun pins s σ H Q I h => ?_⟩
  refine Call_ (ld_blt I hg hm PyProof.Rows.boot_list (PyProof.Rows.callWith_type1 (PyProof.Rows.args_cons (Call_ (ld_blt I hg2 hm2 PyProof.Rows.boot_reversed (PyProof.Rows.callWith_type1 (PyProof.Rows.args_cons (thn (he.run pins s σ H _ I h) fun u s1 ⟨v, H1, I1, r1, q1⟩ => PyProof.Rows.args_nil ?_) hs) hs rfl))) hs2) hs2 rfl))
  obtain ⟨a, xs, rfl, hq, q⟩ := q1
  obtain rfl : u = Value.ref a := r1
  obtain ⟨its, rv, pl, hz⟩ := I1.list hq
  refine call_reversed_list pl.isList (PyProof.Rows.args_nil ?_)
  have I2 : Inv X pins σ H1 { s1 with heap := s1.heap.push (revObj a ((its.toArray.size : Int) - 1)) } := I1.kept (t' := s1.toks) fun b o z => Heap.get?_push_of_some _ z
  obtain ⟨f0, f1, f2, f3, f4, f5⟩ := I1.fpOk (H' := H1) (b := s1.heap.objs.size) (Nat.le_refl _) (I1.hok.fresh (Nat.le_refl _))
  obtain ⟨ol, hol, _⟩ := id pl.isList
  have hn : its.toArray.size ≤ sizeLine := by rw [List.size_toArray, ← rv.length]; exact hz
  have hne : a ≠ s1.heap.objs.size := fun z => Nat.lt_irrefl _ (z ▸ Heap.lt_size hol)
  refine call_list_rev (s := { s1 with heap := s1.heap.push (revObj a ((its.toArray.size : Int) - 1)) }) (I1.ok.hd hc) ⟨_, Heap.get?_push_size _ rfl, rfl, rfl⟩ (pl.isList.push _) hne hn fun h' tk acc c hk hS hi => ?_
  have hA : s1.heap.objs.size ≤ (s1.heap.push (revObj a ((its.toArray.size : Int) - 1))).objs.size := by rw [Heap.size_push]; exact Nat.le_succ _
  refine ⟨.ref _, upd H1 _ (.lst xs.reverse), I1.laid (t' := tk) (fun b o z => hk b o (Nat.ne_of_lt (Heap.lt_size z)) (Heap.get?_push_of_some _ z)) hA ?_, rfl, q _ (I1.hok.fresh hA)⟩
  exact ⟨by rw [List.length_reverse]; exact hz, acc.toList, c, RT.vals_rev rv hi, by rw [Array.toArray_toList]; exact hS⟩
section
variable {K : PySem.W.Frag} {F B0 H H' B B' : Hp} {τ : List V} {T : List O} {σ : L2.St} {Γ : En} {post : O → En → Prop} {te : TE}
theorem RL.rev {vs : List V} {xs : List D} (r : RL K B vs xs) : RL K B vs.reverse xs.reverse := by
  induction vs generalizing xs with
  | nil => cases r; exact .nil
  | cons v vs ih =>
    cases r with
    | cons r t =>
      rw [List.reverse_cons, List.reverse_cons]
      exact (ih t).app (.cons r .nil)
/-- list(reversed(xs)) -/
theorem go_listRev (h : Go K F B0 te T Γ fun o Γ1 => ∃ xs, o.fz.seq? = some xs ∧ post (.ol (xs.reverse.map O.d)) Γ1) : Go K F B0 (tListRev K te) T Γ post := fun τ σ H Q hw k =>
  h τ σ H _ hw fun v1 o1 Γ1 H1 ⟨xs, e1, h1⟩ ⟨_, _, w1⟩ => by
    obtain ⟨B2, S2, w2, r, _⟩ := w1.fzd
    obtain ⟨a, vs, rfl, sq, rl⟩ := r.seqL e1
    refine ⟨a, vs, rfl, w2.pu.sqL sq, fun p hp => ?_⟩
    obtain ⟨S3, w3⟩ := w2.newl hp rl.rev
    exact k _ _ _ _ h1 ⟨_, _, w3⟩
end
end SK
namespace SK
open PySem PySem.Spec PyProof.Rows L2
section
variable {K : PySem.W.Frag} {F B0 H B : Hp} {τ : List V} {T : List O} {σ : L2.St} {Γ : En} {S : Ad} {o : O} {i : Nat} {te : TE} {tt : TT} {post : O → En → Prop} {postt : Bool → En → Prop}
theorem HW.lendA (w : HW K F B0 τ T σ Γ H B S) : ∃ Bf, Ho K H Bf [] [] σ (fzE Γ) H ∧
    (∀ Γ1 H1, Ho K H Bf [] [] σ Γ1 H1 → Ho K F B0 τ T σ Γ H1) ∧
    ∀ v' o' Γ1 H1, Ho K H Bf [v'] [o'] σ Γ1 H1 → o'.lf = true → Ho K F B0 (v' :: τ) (o' :: T) σ Γ H1 := by
  obtain ⟨Sp, Ss, p1, p2, p3, rp, rsl⟩ := RS.split (σ0 := τ.map some) (Γ0 := T.map some) (by simp [w.lt]) w.rs
  obtain ⟨L, l1, r2, l3⟩ := rsl.tight
  have bn : ∀ a, L a → B a = none ∧ H a ≠ none := fun a z => (w.ow a (p2 a (l1 a z))).2
  have ex : Ex B (SK.frz B H L) := frz_ex fun a z => (bn a z).1
  have le0 : BLe B (SK.frz B H L) := .of_ex ex
  have main : ∀ v' o' Γ1 H1, Ho K H (SK.frz B H L) [v'] [o'] σ Γ1 H1 → o'.lf = true → Ho K F B0 (v' :: τ) (o' :: T) σ Γ H1 := by
    intro v' o' Γ1 H1 ⟨B1, Sr, w1⟩ lf
    obtain ⟨T1, T2, t1, t2, dj, ro, _⟩ := w1.pop
    have hB : ∀ a u, B a = some u → ¬ L a := fun a u q z => by rw [(bn a z).1] at q; cases q
    have off : ∀ a u, ¬ L a → B1 a = some u → offH B1 L a = some u := fun a u z q => by rw [offH_no z]; exact q
    have offR : ∀ a u, ¬ L a → Rd B1 a u → Rd (offH B1 L) a u := fun a u z q => q.elim (fun q => .inl (off a _ z q)) fun ⟨o, q⟩ => .inr ⟨o, off a _ z q⟩
    have nL : ∀ a u, Rd B a u → ¬ L a := fun a u q => q.elim (hB a _) fun ⟨o, q⟩ => hB a _ q
    have le : BLe B (offH B1 L) := by
      have l := le0.trans w1.b0
      exact ⟨fun a xs q => offR a _ (nL a _ q) (l.tup a xs q), fun a xs q => offR a _ (nL a _ q) (l.lst a xs q), fun a xs q => off a _ (hB a _ q) (l.ls a xs q), fun a xs q => offR a _ (nL a _ q) (l.dK a xs q), fun a xs q => offR a _ (nL a _ q) (l.dT a xs q), fun a C dx fs q => off a _ (hB a _ q) (l.ins a C dx fs q)⟩
    have pu : Ex (offH B1 L) H1 := fun a u q => by
      by_cases z : L a
      · rw [offH_at z] at q; cases q
      · rw [offH_no z] at q; exact w1.pu a u q
    have sq : ∀ a xs, SqT K B1 a xs → SqT K (offH B1 L) a xs := fun a xs q => q.imp (fun q => by
      refine offR a _ (fun z => ?_) q
      have q2 : ∃ u, B1 a = some u ∧ (u = .tup xs ∨ ∃ o, u = .frz o (.tup xs)) := q.elim (fun q => ⟨_, q, .inl rfl⟩) fun ⟨o, q⟩ => ⟨_, q, .inr ⟨o, rfl⟩⟩
      obtain ⟨u, q3, q4⟩ := q2
      have q5 := w1.pu a u q3
      rcases l3 a z with ⟨_, y⟩ | ⟨_, y⟩ | ⟨_, y⟩ | ⟨_, _, _, y⟩ | ⟨_, y⟩ <;>
        (rw [w1.fr a _ y] at q5
         cases q5
         rcases q4 with q4 | ⟨_, q4⟩ <;> cases q4)) id
    refine ⟨offH B1 L, fun a => T1 a ∨ S a, w.fr.trans w1.fr, pu, w.b0.trans le, fun a z => ?_, fun a z => ?_, .cons (S1 := T1) (S2 := S) (fun _ z => .inl z) (fun _ z => .inr z) (fun a z y => ?_) (ro.lf sq lf) (w.rs.tr le (fun _ z => z) fun a u _ q => w1.fr a u q), by simp [w.lt]⟩
    · rcases z with z | z
      · obtain ⟨q1, q2, q3⟩ := w1.ow a (t1 a z)
        refine ⟨w.fr.back q1, ?_, q3⟩
        by_cases y : L a
        · exact offH_at y
        · rw [offH_no y]; exact q2
      · obtain ⟨q1, q2, q3⟩ := w.ow a z
        refine ⟨q1, ?_, fun q => q3 (w1.fr.back q)⟩
        by_cases y : L a
        · exact offH_at y
        · rw [offH_no y]
          cases q : B1 a with
          | none => rfl
          | some u =>
            rcases w1.nw a (by rw [q]; simp) with x | x
            · rw [frz_no y] at x; exact absurd q2 x
            · exact absurd x q3
    · by_cases y : L a
      · exact absurd (offH_at y) z
      · rw [offH_no y] at z
        rcases w1.nw a z with x | x
        · rw [frz_no y] at x; exact w.nw a x
        · exact .inr (w.fr.back x)
    · exact (w.ow a y).2.2 (w1.ow a (t1 a z)).1
  refine ⟨SK.frz B H L, ⟨SK.frz B H L, fun _ => False, .refl H, fun a u q => ?_, .refl _, fun _ z => z.elim, fun _ z => .inl z, ?_, rfl⟩, fun Γ1 H1 ⟨B1, S1, w1⟩ => ?_, main⟩
  · by_cases z : L a
    · rw [frz_at z] at q; exact q
    · rw [frz_no z] at q; exact w.pu a u q
  · exact RS.fzE (S := L) le0 (fun a u z q => by rw [frz_at z]; exact q) r2
  · obtain ⟨B2, S2, w2⟩ := main .non (.d .non) Γ1 H1 ⟨_, _, w1.pushd .non⟩ rfl
    obtain ⟨_, _, _, _, _, _, w3⟩ := w2.pop
    exact ⟨_, _, w3⟩
/-- all slots are read as data in an expression whose value has no part of them -/
theorem go_lendA (h : ∀ F' B', Go K F' B' te [] (fzE Γ) fun o' _ => o'.lf = true ∧ post o' Γ) : Go K F B0 te T Γ post := fun τ σ H Q ⟨B, S, w⟩ k => by
  obtain ⟨Bf, w0, _, back⟩ := w.lendA
  exact h H Bf [] σ H _ w0 fun v o' Γ1 H1 ⟨lf, hp⟩ how => k v o' Γ H1 hp (back v o' Γ1 H1 how lf)
theorem got_lendA (h : ∀ F' B', GoT K F' B' tt [] (fzE Γ) fun b _ => postt b Γ) : GoT K F B0 tt T Γ postt := fun τ σ H Q ⟨B, S, w⟩ k => by
  obtain ⟨Bf, w0, back, _⟩ := w.lendA
  exact h H Bf [] σ H _ w0 fun b Γ1 H1 hp how => k b Γ H1 hp (back Γ1 H1 how)
end
def frO : Option O → Option O
  | none => none
  | some o => some (.d o.fz)
theorem fzE_cons {x : Option O} {r : En} : fzE (x :: r) = frO x :: fzE r := by cases x <;> rfl
theorem fzE_nil : fzE [] = [] := rfl
theorem frO_none : frO none = none := rfl
theorem frO_some {o : O} : frO (some o) = some (.d o.fz) := rfl
def tLendE (t : TE) : TE := t
def tLendT (t : TT) : TT := t
theorem pe_lend {X : Cx} {e : Expr} {t : TE} (h : PE X e t) : PE X e (tLendE t) := h
theorem pt_lend {X : Cx} {e : Expr} {t : TT} (h : PT X e t) : PT X e (tLendT t) := h
section
variable {K : PySem.W.Frag} {F B0 : Hp} {T : List O} {Γ : En} {te : TE} {tt : TT} {post : O → En → Prop} {postt : Bool → En → Prop}
theorem go_lend' (h : ∀ F' B', Go K F' B' te [] (fzE Γ) fun o' _ => o'.lf = true ∧ post o' Γ) : Go K F B0 (tLendE te) T Γ post := go_lendA h
theorem got_lend' (h : ∀ F' B', GoT K F' B' tt [] (fzE Γ) fun b _ => postt b Γ) : GoT K F B0 (tLendT tt) T Γ postt := got_lendA h
end
section
variable {K : PySem.W.Frag} {F B0 H B : Hp} {τ : List V} {T : List O} {σ : L2.St} {Γ : En} {S : Ad} {o : O} {i : Nat} {te : TE} {ta : TA} {post : O → En → Prop} {posts : List O → En → Prop} {Dd : EG}
/-- arguments that stay what they are -/
def GoAO (K : PySem.W.Frag) (F B0 : Hp) (t : TA) (T : List O) (Γ : En) (post : List O → En → Prop) : Prop := ∀ (τ : List V) (σ : L2.St) (H : Hp) (Q : List V → Hp → Prop), Ho K F B0 τ T σ Γ H →
  (∀ vs xs Γ' H', post xs Γ' → Ho K F B0 (vs.reverse ++ τ) (xs.reverse ++ T) σ Γ' H' → vs.length = xs.length → Q vs H') → t σ H Q
theorem goao_nil (h : posts [] Γ) : GoAO K F B0 tNil T Γ posts := fun τ σ H Q hw k => k [] [] Γ H h hw rfl
theorem goao_cons {tr : TA} (h : Go K F B0 te T Γ fun o1 Γ1 => GoAO K F B0 tr (o1 :: T) Γ1 fun xs Γ2 => posts (o1 :: xs) Γ2) : GoAO K F B0 (tCons te tr) T Γ posts := fun τ σ H Q hw k =>
  h τ σ H _ hw fun v1 o1 Γ1 H1 h1 w1 => by
    refine h1 _ σ H1 _ w1 fun vs xs Γ2 H2 h2 w2 hl => ?_
    refine k (v1 :: vs) (o1 :: xs) Γ2 H2 h2 ?_ (by simp [hl])
    simpa using w2
theorem RS.rev : ∀ {σ : List V} {Γ : List O} {S : Ad}, RS K B H S (σ.map some) (Γ.map some) → RS K B H S (σ.reverse.map some) (Γ.reverse.map some)
  | [], [], _, _ => .nil
  | v :: σ, o :: Γ, S, .cons (S1 := T1) (S2 := T2) s1 s2 d r t => by
    rw [List.reverse_cons, List.reverse_cons, List.map_append, List.map_append]
    exact (RS.snoc r t.rev fun b z y => d b y z).tr (.refl B) (fun b z => z.elim (s2 b) (s1 b)) fun _ _ _ e => e
theorem HW.pack {vs : List V} {xs : List O} {p : Addr} {c : HO} (w : HW K F B0 (vs.reverse ++ τ) (xs.reverse ++ T) σ Γ H B S) (hl : vs.length = xs.length) (hp : H p = none) :
    (∃ S', HW K F B0 (.ref p :: τ) (.ol xs :: T) σ Γ (upd H p (.lst vs)) B S') ∧ ∃ S', HW K F B0 (.ref p :: τ) (.op xs :: T) σ Γ (upd H p (.tup vs)) (upd B p (.tup vs)) S' := by
  have rs0 := w.rs
  rw [List.map_append, List.map_append, List.append_assoc, List.append_assoc] at rs0
  obtain ⟨S1, S2, a1, a2, a3, r1, r2⟩ := RS.split (σ0 := vs.reverse.map some) (Γ0 := xs.reverse.map some) (by simp [hl]) rs0
  have r1 := r1.rev
  rw [List.reverse_reverse, List.reverse_reverse] at r1
  have nq : ∀ b, S b → b ≠ p := fun b z e => (w.ow b z).2.2 (e ▸ hp)
  have bp : B p = none := w.pu.back hp
  have lt2 : τ.length = T.length := by have := w.lt; simp [hl] at this; exact this
  constructor
  · have ex : Ex H (upd H p (.lst vs)) := .new hp
    refine ⟨fun b => b = p ∨ S b, w.fr.trans ex, fun a u e => ex a u (w.pu a u e), w.b0, fun b z => ?_, w.nw,
      .cons (S1 := fun b => b = p ∨ S1 b) (S2 := S2) (fun b z => z.imp id (a1 b)) (fun b z => .inr (a2 b z)) (fun b z y => ?_)
        (.ol (S' := S1) (.inl rfl) (fun b z => .inr z) (fun z => nq p (a1 p z) rfl) upd_same (r1.tr (.refl B) (fun _ z => z) fun b u _ e => ex b u e))
        (r2.tr (.refl B) (fun _ z => z) fun b u _ e => ex b u e), by simp [lt2]⟩
    · rcases z with rfl | z
      · exact ⟨w.fr.back hp, bp, by rw [upd_same]; simp⟩
      · obtain ⟨q1, q2, q3⟩ := w.ow b z
        exact ⟨q1, q2, fun q => q3 (ex.back q)⟩
    · rcases z with rfl | z
      · exact nq b (a2 b y) rfl
      · exact a3 b z y
  · have ex : Ex H (upd H p (.tup vs)) := .new hp
    have exB : Ex B (upd B p (.tup vs)) := .new bp
    refine ⟨S, w.fr.trans ex, fun a u e => ?_, w.b0.trans (.of_ex exB), fun b z => ?_, fun b z => ?_,
      .cons (S1 := S1) (S2 := S2) a1 a2 a3
        (.op (SqT.of upd_same) (r1.tr (.of_ex exB) (fun _ z => z) fun b u _ e => ex b u e))
        (r2.tr (.of_ex exB) (fun _ z => z) fun b u _ e => ex b u e), by simp [lt2]⟩
    · by_cases q : a = p
      · subst q; rw [upd_same] at e ⊢; exact e
      · rw [upd_ne q] at e ⊢; exact w.pu a u e
    · obtain ⟨q1, q2, q3⟩ := w.ow b z
      exact ⟨q1, by rw [upd_ne (nq b z)]; exact q2, fun q => q3 (ex.back q)⟩
    · by_cases q : b = p
      · subst q; exact .inr (w.fr.back hp)
      · rw [upd_ne q] at z; exact w.nw b z
/-- (e, ..), its parts its own -/
theorem go_tupO (h : GoAO K F B0 ta T Γ fun xs Γ1 => xs.length ≤ 1000 ∧ post (.op xs) Γ1) : Go K F B0 (tTup ta) T Γ post := fun τ σ H Q hw k =>
  h τ σ H _ hw fun vs xs Γ1 H1 ⟨hz, h1⟩ ⟨_, _, w1⟩ hl => by
    refine ⟨Nat.le_trans (by rw [hl]; exact hz) (by decide), fun p hp => ?_⟩
    obtain ⟨_, S2, w⟩ := w1.pack (c := .lst []) hl hp
    exact k _ _ _ _ h1 ⟨_, _, w⟩
/-- [e, ..], its parts its own -/
theorem go_lstO (h : GoAO K F B0 ta T Γ fun xs Γ1 => xs.length ≤ 1000 ∧ post (.ol xs) Γ1) : Go K F B0 (tLst ta) T Γ post := fun τ σ H Q hw k =>
  h τ σ H _ hw fun vs xs Γ1 H1 ⟨hz, h1⟩ ⟨_, _, w1⟩ hl => by
    refine ⟨Nat.le_trans (by rw [hl]; exact hz) (by decide), fun p hp => ?_⟩
    obtain ⟨⟨S2, w⟩, _⟩ := w1.pack (c := .lst []) hl hp
    exact k _ _ _ _ h1 ⟨_, _, w⟩
/-- a raise that is never reached -/
theorem gos_raise0 {C : Addr} (h : False) : GoS K F B0 (tRaise (fun _ _ _ _ => False) C) T Γ Dd := h.elim
def tTupO (t : TA) : TE := tTup t
def tLstO (t : TA) : TE := tLst t
theorem go_tupO' (h : GoAO K F B0 ta T Γ fun xs Γ1 => xs.length ≤ 1000 ∧ post (.op xs) Γ1) : Go K F B0 (tTupO ta) T Γ post := go_tupO h
theorem go_lstO' (h : GoAO K F B0 ta T Γ fun xs Γ1 => xs.length ≤ 1000 ∧ post (.ol xs) Γ1) : Go K F B0 (tLstO ta) T Γ post := go_lstO h
/-- t[k].clear(), t a name of a tuple whose list is its own -/
theorem gos_clearT {n : Int} (k : Nat) {xs : List O} {ys : List O} (e0 : Γ[i]? = some (some (.op xs))) (hk : xs[k]? = some (.ol ys)) (hn : n = (k : Int))
    (h : Dd.nx (Γ.set i (some (.op (xs.set k (.ol [])))))) :
    GoS K F B0 (tDrop (tBM0 K "list" rClear (tOp (rIxG K) (tVar i) (tC (.int n))))) T Γ Dd := fun τ σ H De hw s => by
  obtain ⟨B, S, w⟩ := hw
  obtain ⟨v, S1, a1, r1, _, f⟩ := w.mut1 e0
  cases r1 with
  | @op _ a vs _ hc rs =>
  have hk2 : (xs.map some)[k]? = some (some (.ol ys)) := by rw [List.getElem?_map, hk]; rfl
  obtain ⟨u, U1, U2, c1, c2, c3, c4, ru, g⟩ := rs.focus hk2
  cases ru with
  | @ol _ U4 b us _ hb hbs hbn hbc brs =>
  have hvk : vs[k]? = some (.ref b) := by
    rw [List.getElem?_map] at c1
    cases q : vs[k]? with
    | none => rw [q] at c1; cases c1
    | some x => rw [q] at c1; cases c1; rfl
  subst hn
  have hat : atI vs (k : Int) = some (.ref b) := by
    unfold atI ixN
    have hlt := (List.getElem?_eq_some_iff.mp hvk).1
    rw [if_pos (by omega), if_pos (by omega)]
    exact hvk
  have rs2 := g B (upd H b (.lst [])) U1 (some (.ref b)) (some (.ol [])) (.refl B) (fun c u z e => by
    have hne : c ≠ b := fun q => by
      rw [q] at z
      exact c4 b hb z
    rw [upd_ne hne]; exact e) c4 (fun x q => by
    cases q
    exact ⟨.ref b, rfl, .ol (S' := fun _ => False) hb (fun _ z => z.elim) id upd_same .nil⟩)
  rw [set_same c1, ← List.map_set] at rs2
  obtain ⟨S', w3⟩ := f b (.lst []) (.op (xs.set k (.ol []))) (c2 b hb) (.op hc (rs2.tr (.refl B) (fun c z => z.elim (c2 c) (c3 c)) fun _ _ _ e => e))
  have hcH : SqT K H a vs := w.pu.sqT hc
  exact ⟨.ref a, a1, .inl (.inr (.inl ⟨a, vs, (k : Int), .ref b, rfl, rfl, hcH, hat, Or.inl ⟨rfl, us, SqL.of hbc⟩, b, us, rfl, rfl, hbc, s.nx σ _ _ h ⟨B, S', w3⟩⟩))⟩
end
end SK
namespace SK
open PySem PySem.Spec PyProof.Rows L2
section
variable {K : PySem.W.Frag} {F B0 H B : Hp} {τ τs : List V} {T : List O} {σ : L2.St} {Γ Γ1 : En} {S : Ad} {i : Nat} {Dd : EG} {g : TG} {tb : TS} {De : Ends}
def tLockG (t : TS) : TS := fun D σ H => tLock t D σ H ∨ t D σ H
theorem RK.at {B : Hp} {i : Nat} : ∀ {ws : List (Key × V)} {kvs : List (Key × D)} {k : Key} {x : D}, RK K B ws kvs → kvs[i]? = some (k, x) → ∃ v, ws[i]? = some (k, v) ∧ R K B v x := by
  induction i with
  | zero =>
    intro ws kvs k x r h
    cases r with
    | nil => simp at h
    | cons r t => simp at h; obtain ⟨rfl, rfl⟩ := h; exact ⟨_, rfl, r⟩
  | succ i ih =>
    intro ws kvs k x r h
    cases r with
    | nil => simp at h
    | cons r t =>
      obtain ⟨v, a, b⟩ := ih t (by simpa using h)
      exact ⟨v, by simpa using a, b⟩
theorem gos_sLG {t1 t2 : TS} (h : GoS K F B0 (tLockG t1) T Γ { Dd with nx := fun Γ1 => GoS K F B0 t2 T Γ1 Dd }) : GoS K F B0 (tSeq (tLockG t1) t2) T Γ Dd := gos_seq h
end
end SK
namespace SK
theorem lf_mapI : ∀ ns : List Int, lfL (ns.map D.int) = true
  | [] => rfl
  | n :: ns => lf_mapI ns
end SK
namespace SK
open PySem PySem.Spec PyProof.Rows L2
inductive Sel where
  | fld (f : Str) | key (k : Key) | idx (n : Nat) | un
def kval {α : Type} (kvs : List (Key × α)) (k : Key) : Option α := (kvs.find? fun kv => decide (kv.1 = k)).map (·.2)
def O.get1 : O → Sel → Option O
  | .oi _ _ fs, .fld f => fs.lookup f
  | .od kvs, .key k => kval kvs k
  | .ol xs, .idx n => xs[n]?
  | .op xs, .idx n => xs[n]?
  | .atA _ o, .un => some o
  | .atA _ o, s => o.get1 s
  | _, _ => none
def O.set1 : O → O → Sel → O
  | .oi a C fs, y, .fld f => .oi a C (SK.fput f y fs)
  | .od kvs, y, .key k => .od (SK.dput kvs k y)
  | .ol xs, y, .idx n => .ol (xs.set n y)
  | .op xs, y, .idx n => .op (xs.set n y)
  | .atA a _, y, .un => .atA a y
  | .atA a o, y, s => .atA a (o.set1 y s)
  | o, _, _ => o
def O.getP : O → List Sel → Option O
  | o, [] => some o
  | o, s :: p => match o.get1 s with
    | some u => u.getP p
    | none => none
def O.setP : O → O → List Sel → O
  | _, y, [] => y
  | o, y, s :: p => match o.get1 s with
    | some u => o.set1 (u.setP y p) s
    | none => o
def okS (K : PySem.W.Frag) : O → Sel → Prop
  | .oi _ C _, .fld f => Cls K C ∧ NoAttr K C f
  | .atA _ _, .un => True
  | .atA _ o, s => okS K o s
  | .op _, _ => False
  | _, .fld _ => False
  | _, _ => True
def okPth (K : PySem.W.Frag) : O → List Sel → Prop
  | _, [] => True
  | o, s :: p => okS K o s ∧ match o.get1 s with
    | some u => okPth K u p
    | none => False
def Stp (K : PySem.W.Frag) (H : Hp) (v : V) (s : Sel) (v' : V) : Prop := match s with
  | .fld f => ∃ a C dx ws, v = .ref a ∧ H a = some (.ins C dx ws) ∧ Cls K C ∧ NoAttr K C f ∧ ws.lookup f = some v'
  | .key k => ∃ a ws, v = .ref a ∧ Rd H a (.dK ws) ∧ valV ws k = some v'
  | .idx n => ∃ a vs, v = .ref a ∧ H a = some (.lst vs) ∧ vs[n]? = some v'
  | .un => v' = v
def Wlk (K : PySem.W.Frag) (H : Hp) : V → List Sel → V → Prop
  | v, [], w => v = w
  | v, s :: p, w => ∃ u, Stp K H v s u ∧ Wlk K H u p w
section
variable {K : PySem.W.Frag} {B H H' : Hp} {S : Ad} {v w : V} {o o1 : O}
theorem Stp.ex (e : Ex H H') {s : Sel} (h : Stp K H v s w) : Stp K H' v s w := by
  cases s with
  | fld f => obtain ⟨a, C, dx, ws, q1, q2, q3⟩ := h; exact ⟨a, C, dx, ws, q1, e _ _ q2, q3⟩
  | key k => obtain ⟨a, ws, q1, q2, q3⟩ := h; exact ⟨a, ws, q1, e.rd q2, q3⟩
  | idx n => obtain ⟨a, vs, q1, q2, q3⟩ := h; exact ⟨a, vs, q1, e _ _ q2, q3⟩
  | un => exact h
theorem Wlk.ex (e : Ex H H') : ∀ {p : List Sel} {v w : V}, Wlk K H v p w → Wlk K H' v p w
  | [], _, _, h => h
  | _ :: _, _, _, ⟨u, h1, h2⟩ => ⟨u, h1.ex e, Wlk.ex e h2⟩
theorem Wlk.snoc : ∀ {p : List Sel} {v u w : V} {s : Sel}, Wlk K H v p u → Stp K H u s w → Wlk K H v (p ++ [s]) w
  | [], v, u, w, s, h, h2 => by cases h; exact ⟨w, h2, rfl⟩
  | _ :: _, _, _, _, _, ⟨x, h1, h3⟩, h2 => ⟨x, h1, Wlk.snoc h3 h2⟩
theorem look2 : ∀ {ws : List (Str × V)} {fs : List (Str × O)} {f : Str} {o : O}, ws.map (·.1) = fs.map (·.1) → fs.lookup f = some o → ∃ (i : Nat) (u : V), fs[i]? = some (f, o) ∧ ws[i]? = some (f, u) ∧ ws.lookup f = some u ∧ ∀ y, SK.fput f y fs = fs.set i (f, y)
  | [], [], _, _, _, h => by simp at h
  | (g, x) :: ws, (g', y) :: fs, f, o, e, h => by
    simp only [List.map_cons, List.cons.injEq] at e
    obtain ⟨rfl, e⟩ := e
    rw [List.lookup_cons] at h
    cases q : f == g with
    | true =>
      rw [q] at h
      cases h
      have : f = g := by simpa using q
      subst this
      exact ⟨0, x, rfl, rfl, by rw [List.lookup_cons, q], fun z => by unfold SK.fput; rw [if_pos rfl]; rfl⟩
    | false =>
      rw [q] at h
      have n : ¬ g = f := fun z => by subst z; simp at q
      obtain ⟨i, u, h1, h2, h3, h4⟩ := look2 e h
      exact ⟨i + 1, u, by simpa using h1, by simpa using h2, by rw [List.lookup_cons, q]; exact h3, fun z => by unfold SK.fput; rw [if_neg n, h4 z]; rfl⟩
theorem kval_mem {α : Type} {k : Key} {x : α} {kvs : List (Key × α)} (h : kval kvs k = some x) : ∃ i : Nat, kvs[i]? = some (k, x) := by
  induction kvs with
  | nil => cases h
  | cons p r ih =>
    unfold kval at h
    rw [List.find?_cons] at h
    by_cases e : p.1 = k
    · rw [decide_eq_true e] at h
      cases h
      exact ⟨0, by rw [← e]; rfl⟩
    · rw [decide_eq_false e] at h
      obtain ⟨i, hi⟩ := ih h
      exact ⟨i + 1, by simpa using hi⟩
theorem kval2 : ∀ {ws : List (Key × V)} {kvs : List (Key × O)} {k : Key} {o : O}, (kvs.map (·.1)).Nodup → ws.map (·.1) = kvs.map (·.1) → kval kvs k = some o → ∃ (i : Nat) (u : V), kvs[i]? = some (k, o) ∧ ws[i]? = some (k, u) ∧ valV ws k = some u ∧ ∀ y, SK.dput kvs k y = kvs.set i (k, y)
  | [], [], _, _, _, _, h => by cases h
  | (g, x) :: ws, (g', y) :: kvs, k, o, nd, e, h => by
    simp only [List.map_cons, List.cons.injEq] at e
    obtain ⟨rfl, e⟩ := e
    simp only [List.map_cons, List.nodup_cons] at nd
    by_cases q : g = k
    · subst q
      have : y = o := by simpa [kval] using h
      subst this
      refine ⟨0, x, rfl, rfl, valV_pos rfl, fun z => ?_⟩
      unfold SK.dput
      rw [if_pos (by simp), List.map_cons, if_pos rfl, repl_not nd.1]
      rfl
    · have h' : kval kvs k = some o := by simpa [kval, q] using h
      obtain ⟨i, u, h1, h2, h3, h4⟩ := kval2 nd.2 e h'
      refine ⟨i + 1, u, by simpa using h1, by simpa using h2, by rw [valV_neg q]; exact h3, fun z => ?_⟩
      have h5 := h4 z
      have ha : (kvs.any fun kv => decide (kv.1 = k)) = true := List.any_eq_true.mpr ⟨(k, o), List.mem_of_getElem? h1, by simp⟩
      unfold SK.dput at h5 ⊢
      rw [if_pos ha] at h5
      rw [if_pos (by rw [List.any_cons, ha, Bool.or_true]), List.map_cons, if_neg q, h5]
      rfl
theorem set_same' {α : Type} {l : List α} {i : Nat} {x : α} (h : l[i]? = some x) : l.set i x = l := by
  have hl := (List.getElem?_eq_some_iff.mp h).1
  apply List.ext_getElem?
  intro n
  by_cases hn : n = i
  · subst hn; rw [List.getElem?_set_self hl, h]
  · rw [List.getElem?_set_ne (Ne.symm hn)]
theorem RO.focus0 {s : Sel} (nat : ∀ a u, o ≠ .atA a u) (pu : Ex B H) (r : RO K B H S v o) (g : o.get1 s = some o1) (ok : okS K o s) : ∃ (v1 : V) (S1 S2 : Ad), Stp K H v s v1 ∧ (∀ b, S1 b → S b) ∧ (∀ b, S2 b → S b) ∧ (∀ b, S1 b → ¬ S2 b) ∧ RO K B H S1 v1 o1 ∧
    ∀ B' H' S1' y, BLe B B' → (∀ b u, S2 b → H b = some u → H' b = some u) → (∀ b, S1' b → ¬ S2 b) → RO K B' H' S1' v1 y → RO K B' H' (fun b => S1' b ∨ S2 b) v (o.set1 y s) ∧ Stp K H' v s v1 := by
  cases r with
  | d r => cases s <;> cases g
  | ot => cases s <;> cases g
  | @ol _ S4 a vs xs ha hs hn hc rs =>
    cases s with
    | fld f => cases g
    | key k => cases g
    | un => cases g
    | idx n =>
      have g : xs[n]? = some o1 := g
      obtain ⟨u, U1, U2, c1, c2, c3, c4, ru, f⟩ := rs.focus (i := n) (o := o1) (by rw [List.getElem?_map, g]; rfl)
      have hv : vs[n]? = some u := by
        rw [List.getElem?_map] at c1
        cases q : vs[n]? with
        | none => rw [q] at c1; cases c1
        | some x => rw [q] at c1; cases c1; rfl
      refine ⟨u, U1, fun b => b = a ∨ U2 b, ⟨a, vs, rfl, hc, hv⟩, fun b z => hs b (c2 b z), fun b z => z.elim (fun e => e ▸ ha) fun z => hs b (c3 b z), fun b z y => y.elim (fun e => hn (e ▸ c2 b z)) (c4 b z), ru, fun B' H' S1' y eb k dj ry => ?_⟩
      have q := f B' H' S1' (some u) (some y) eb (fun b x z => k b x (.inr z)) (fun b z w => dj b z (.inr w)) (fun x e => by cases e; exact ⟨u, rfl, ry⟩)
      rw [set_same c1, ← List.map_set] at q
      exact ⟨.ol (S' := fun b => S1' b ∨ U2 b) (.inr (.inl rfl)) (fun b z => z.imp id .inr) (fun z => z.elim (fun z => dj a z (.inl rfl)) fun z => hn (c3 a z)) (k a _ (.inl rfl) hc) q, a, vs, rfl, k a _ (.inl rfl) hc, hv⟩
  | @od _ S4 a ws kvs ha hs hn hc nd ek rs =>
    cases s with
    | fld f => cases g
    | idx k => cases g
    | un => cases g
    | key k =>
      have g : kval kvs k = some o1 := g
      obtain ⟨n, u, g1, g2, g3, g4⟩ := kval2 nd ek g
      obtain ⟨u', U1, U2, c1, c2, c3, c4, ru, f⟩ := rs.focus (i := n) (o := o1) (by rw [List.getElem?_map, g1]; rfl)
      have hv : u' = u := by
        rw [List.getElem?_map, g2] at c1
        cases c1; rfl
      subst hv
      refine ⟨u', U1, fun b => b = a ∨ U2 b, ⟨a, ws, rfl, .inl hc, g3⟩, fun b z => hs b (c2 b z), fun b z => z.elim (fun e => e ▸ ha) fun z => hs b (c3 b z), fun b z y => y.elim (fun e => hn (e ▸ c2 b z)) (c4 b z), ru, fun B' H' S1' y eb k' dj ry => ?_⟩
      have q := f B' H' S1' (some u') (some y) eb (fun b x z => k' b x (.inr z)) (fun b z w => dj b z (.inr w)) (fun x e => by cases e; exact ⟨u', rfl, ry⟩)
      have e2 : (kvs.map fun p => some p.2).set n (some y) = (SK.dput kvs k y).map fun p => some p.2 := by rw [g4 y, List.map_set]
      rw [set_same c1, e2] at q
      have e3 : (SK.dput kvs k y).map (·.1) = kvs.map (·.1) := by
        rw [g4 y, List.map_set]
        exact set_same' (by rw [List.getElem?_map, g1]; rfl)
      exact ⟨.od (S' := fun b => S1' b ∨ U2 b) (.inr (.inl rfl)) (fun b z => z.imp id .inr) (fun z => z.elim (fun z => dj a z (.inl rfl)) fun z => hn (c3 a z)) (k' a _ (.inl rfl) hc) (by rw [e3]; exact nd) (by rw [e3]; exact ek) q, a, ws, rfl, .inl (k' a _ (.inl rfl) hc), g3⟩
  | @oi _ S4 a dx C ws kvs ha hd hs hn hn2 ne hc hcd ek rs =>
    cases s with
    | key k => cases g
    | idx k => cases g
    | un => cases g
    | fld fl =>
      have g : kvs.lookup fl = some o1 := g
      obtain ⟨n, u, g1, g2, g3, g4⟩ := look2 ek g
      obtain ⟨u', U1, U2, c1, c2, c3, c4, ru, f⟩ := rs.focus (i := n) (o := o1) (by rw [List.getElem?_map, g1]; rfl)
      have hv : u' = u := by
        rw [List.getElem?_map, g2] at c1
        cases c1; rfl
      subst hv
      refine ⟨u', U1, fun b => (b = a ∨ b = dx) ∨ U2 b, ⟨a, C, dx, ws, rfl, hc, ok.1, ok.2, g3⟩, fun b z => hs b (c2 b z), fun b z => z.elim (fun e => e.elim (fun e => e ▸ ha) fun e => e ▸ hd) fun z => hs b (c3 b z),
        fun b z y => y.elim (fun e => e.elim (fun e => hn (e ▸ c2 b z)) fun e => hn2 (e ▸ c2 b z)) (c4 b z), ru, fun B' H' S1' y eb k' dj ry => ?_⟩
      have q := f B' H' S1' (some u') (some y) eb (fun b x z => k' b x (.inr z)) (fun b z w => dj b z (.inr w)) (fun x e => by cases e; exact ⟨u', rfl, ry⟩)
      have e2 : (kvs.map fun p => some p.2).set n (some y) = (SK.fput fl y kvs).map fun p => some p.2 := by rw [g4 y, List.map_set]
      rw [set_same c1, e2] at q
      have e3 : (SK.fput fl y kvs).map (·.1) = kvs.map (·.1) := by
        rw [g4 y, List.map_set]
        exact set_same' (by rw [List.getElem?_map, g1]; rfl)
      exact ⟨.oi (S' := fun b => S1' b ∨ U2 b) (.inr (.inl (.inl rfl))) (.inr (.inl (.inr rfl))) (fun b z => z.imp id .inr) (fun z => z.elim (fun z => dj a z (.inl (.inl rfl))) fun z => hn (c3 a z)) (fun z => z.elim (fun z => dj dx z (.inl (.inr rfl))) fun z => hn2 (c3 dx z)) ne
        (k' a _ (.inl (.inl rfl)) hc) (k' dx _ (.inl (.inr rfl)) hcd) (by rw [e3]; exact ek) q, a, C, dx, ws, rfl, k' a _ (.inl (.inl rfl)) hc, ok.1, ok.2, g3⟩
  | op => exact ok.elim
  | atA => exact absurd rfl (nat _ _)
theorem RO.focus1 {s : Sel} (pu : Ex B H) : ∀ {o : O} {S : Ad} {v : V}, RO K B H S v o → o.get1 s = some o1 → okS K o s → ∃ (v1 : V) (S1 S2 : Ad), Stp K H v s v1 ∧ (∀ b, S1 b → S b) ∧ (∀ b, S2 b → S b) ∧ (∀ b, S1 b → ¬ S2 b) ∧ RO K B H S1 v1 o1 ∧
    ∀ B' H' S1' y, BLe B B' → (∀ b u, S2 b → H b = some u → H' b = some u) → (∀ b, S1' b → ¬ S2 b) → RO K B' H' S1' v1 y → RO K B' H' (fun b => S1' b ∨ S2 b) v (o.set1 y s) ∧ Stp K H' v s v1
  | .atA a o, S, v, r, g, ok => by
    cases r with
    | atA r =>
      by_cases hs : s = .un
      · subst hs
        cases (show some o = some o1 from g)
        exact ⟨.ref a, S, fun _ => False, rfl, fun _ z => z, fun _ z => z.elim, fun _ _ z => z, r, fun B' H' S1' y eb k dj ry => ⟨.atA (ry.tr (.refl B') (fun _ z => .inl z) fun _ _ _ e => e), rfl⟩⟩
      have g' : o.get1 s = some o1 := by cases s <;> first | exact g | exact absurd rfl hs
      have ok' : okS K o s := by cases s <;> first | exact ok | exact absurd rfl hs
      obtain ⟨v1, S1, S2, h1, h2, h3, h4, h5, h6⟩ := RO.focus1 pu (o := o) r g' ok'
      refine ⟨v1, S1, S2, h1, h2, h3, h4, h5, fun B' H' S1' y eb k dj ry => ?_⟩
      obtain ⟨q1, q2⟩ := h6 B' H' S1' y eb k dj ry
      have e : (O.atA a o).set1 y s = .atA a (o.set1 y s) := by cases s <;> first | rfl | exact absurd rfl hs
      rw [e]
      exact ⟨.atA q1, q2⟩
  | .d _, _, _, r, g, ok => RO.focus0 (fun _ _ z => by cases z) pu r g ok
  | .ol _, _, _, r, g, ok => RO.focus0 (fun _ _ z => by cases z) pu r g ok
  | .od _, _, _, r, g, ok => RO.focus0 (fun _ _ z => by cases z) pu r g ok
  | .ot _, _, _, r, g, ok => RO.focus0 (fun _ _ z => by cases z) pu r g ok
  | .oi _ _ _, _, _, r, g, ok => RO.focus0 (fun _ _ z => by cases z) pu r g ok
  | .op _, _, _, r, g, ok => RO.focus0 (fun _ _ z => by cases z) pu r g ok
theorem RO.focusP (pu : Ex B H) : ∀ {p : List Sel} {S : Ad} {v : V} {o : O}, RO K B H S v o → o.getP p = some o1 → okPth K o p → ∃ (v1 : V) (S1 S2 : Ad), Wlk K H v p v1 ∧ (∀ b, S1 b → S b) ∧ (∀ b, S2 b → S b) ∧ (∀ b, S1 b → ¬ S2 b) ∧ RO K B H S1 v1 o1 ∧
    ∀ B' H' S1' y, BLe B B' → (∀ b u, S2 b → H b = some u → H' b = some u) → (∀ b, S1' b → ¬ S2 b) → RO K B' H' S1' v1 y → RO K B' H' (fun b => S1' b ∨ S2 b) v (o.setP y p) ∧ Wlk K H' v p v1
  | [], S, v, o, r, g, _ => by
    cases g
    exact ⟨v, S, fun _ => False, rfl, fun _ z => z, fun _ z => z.elim, fun _ _ z => z, r, fun B' H' S1' y _ _ _ ry => ⟨ry.tr (.refl B') (fun _ z => .inl z) fun _ _ _ e => e, rfl⟩⟩
  | s :: p, S, v, o, r, g, ok => by
    unfold O.getP at g
    unfold okPth at ok
    cases e : o.get1 s with
    | none => rw [e] at g; cases g
    | some u =>
      rw [e] at g ok
      obtain ⟨v1, S1, S2, h1, h2, h3, h4, h5, h6⟩ := r.focus1 pu e ok.1
      obtain ⟨v2, T1, T2, k1, k2, k3, k4, k5, k6⟩ := RO.focusP pu h5 g ok.2
      refine ⟨v2, T1, fun b => T2 b ∨ S2 b, ⟨v1, h1, k1⟩, fun b z => h2 b (k2 b z), fun b z => z.elim (fun z => h2 b (k3 b z)) (h3 b), fun b z y => y.elim (k4 b z) (h4 b (k2 b z)), k5, fun B' H' S1' y eb k dj ry => ?_⟩
      obtain ⟨q1, wq⟩ := k6 B' H' S1' y eb (fun b x z => k b x (.inl z)) (fun b z w => dj b z (.inl w)) ry
      obtain ⟨q2, sq⟩ := h6 B' H' _ _ eb (fun b x z => k b x (.inr z)) (fun b z w => z.elim (fun z => dj b z (.inr w)) fun z => h4 b (k3 b z) w) q1
      unfold O.setP
      rw [e]
      exact ⟨q2.tr (.refl B') (fun b z => z.elim (fun z => z.imp id .inl) fun z => .inr (.inr z)) fun _ _ _ e => e, v1, sq, wq⟩
end
section
variable {K : PySem.W.Frag} {F B0 H B : Hp} {τ : List V} {T : List O} {σ : L2.St} {Γ : En} {S : Ad} {v w : V} {o oe o1 : O} {i : Nat} {te ti ty tv : TE} {p : List Sel} {posts1 : En → Prop} {Dd : EG} {post : O → En → Prop}
/-- the thing at a place of slot i is changed, the thing held on top goes into it -/
theorem HW.mutP (h : HW K F B0 (w :: τ) (oe :: T) σ Γ H B S) (e : Γ[i]? = some (some o)) (g : o.getP p = some o1) (ok : okPth K o p) : ∃ (v v1 : V) (S1 So : Ad), σ[i]? = some (some v) ∧ Wlk K H v p v1 ∧ RO K B H S1 v1 o1 ∧ RO K B H So w oe ∧ (∀ b, S1 b → ¬ So b) ∧ (∀ b, S1 b → H b ≠ none) ∧ (∀ b, So b → H b ≠ none) ∧
    ∀ a c y, S1 a → RO K B (upd H a c) (fun b => S1 b ∨ So b) v1 y → ∃ S', HW K F B0 τ T σ (Γ.set i (some (o.setP y p))) (upd H a c) B S' ∧ Wlk K (upd H a c) v p v1 := by
  obtain ⟨v, S1, So, a1, r1, ro, dj, n1, n2, f⟩ := h.mut2 e
  obtain ⟨v1, T1, T2, k1, k2, k3, k4, k5, k6⟩ := RO.focusP h.pu r1 g ok
  refine ⟨v, v1, T1, So, a1, k1, k5, ro, fun b z => dj b (k2 b z), fun b z => n1 b (k2 b z), n2, fun a c y ha ry => ?_⟩
  obtain ⟨q, wq⟩ := k6 B (upd H a c) _ y (.refl B) (fun b u z e => by rw [upd_ne (fun q => k4 a ha (by rw [← q]; exact z))]; exact e) (fun b z y => z.elim (fun z => k4 b z y) fun z => dj b (k3 b y) z) ry
  obtain ⟨S', wf⟩ := f a c _ (k2 a ha) (q.tr (.refl B) (fun b z => z.elim (fun z => z.imp (k2 b) id) fun z => .inl (k3 b z)) fun _ _ _ e => e)
  exact ⟨S', wf, wq⟩
theorem HW.mutP1 (h : HW K F B0 τ T σ Γ H B S) (e : Γ[i]? = some (some o)) (g : o.getP p = some o1) (ok : okPth K o p) : ∃ (v v1 : V) (S1 : Ad), σ[i]? = some (some v) ∧ Wlk K H v p v1 ∧ RO K B H S1 v1 o1 ∧ (∀ b, S1 b → H b ≠ none) ∧
    ∀ a c y, S1 a → RO K B (upd H a c) S1 v1 y → ∃ S', HW K F B0 τ T σ (Γ.set i (some (o.setP y p))) (upd H a c) B S' ∧ Wlk K (upd H a c) v p v1 := by
  obtain ⟨v, v1, S1, So, a1, wk, r1, _, _, n1, _, f⟩ := HW.mutP (h.pushd (v := .non) (x := .non) .non) e g ok
  exact ⟨v, v1, S1, a1, wk, r1, n1, fun a c y ha ry => f a c y ha (ry.tr (.refl B) (fun _ z => .inl z) fun _ _ _ e => e)⟩
/-- te tells the thing at a place of slot i -/
def EvP (K : PySem.W.Frag) (te : TE) (i : Nat) (p : List Sel) : Prop := ∀ (σ : L2.St) (H : Hp) (v v1 : V) (Q : VK), σ[i]? = some (some v) → Wlk K H v p v1 → Q v1 H → te σ H Q
theorem evp_var : EvP K (tVar i) i [] := fun σ H v v1 Q a e q => by cases e; exact ⟨v, a, q⟩
theorem Wlk.split : ∀ {p : List Sel} {v w : V} {s : Sel}, Wlk K H v (p ++ [s]) w → ∃ u, Wlk K H v p u ∧ Stp K H u s w
  | [], v, w, s, ⟨u, h1, h2⟩ => by cases h2; exact ⟨v, rfl, h1⟩
  | _ :: _, _, _, _, ⟨x, h1, h2⟩ => by
    obtain ⟨u, a, b⟩ := Wlk.split h2
    exact ⟨u, ⟨x, h1, a⟩, b⟩
theorem evp_fld {f : Str} (h : EvP K te i p) : EvP K (tFld K te f) i (p ++ [.fld f]) := fun σ H v v1 Q a e q => by
  obtain ⟨u, h1, h2⟩ := e.split
  obtain ⟨a', C, dx, ws, rfl, q2, q3, q4, q5⟩ := h2
  exact h σ H v _ _ a h1 ⟨a', C, dx, ws, v1, rfl, q2, q3, q4, q5, q⟩
/-- all slots are read as data for an expression; the heap has only grown -/
theorem HW.lendX (w : HW K F B0 τ T σ Γ H B S) : ∃ Bf, Ho K H Bf [] [] σ (fzE Γ) H ∧ ∀ v' o' Γ1 H1, Ho K H Bf [v'] [o'] σ Γ1 H1 → Ex H H1 ∧ (o'.lf = true → Ho K F B0 (v' :: τ) (o' :: T) σ Γ H1) := by
  obtain ⟨Bf, w0, _, back⟩ := w.lendA
  exact ⟨Bf, w0, fun v' o' Γ1 H1 h => ⟨h.choose_spec.choose_spec.fr, fun l => back v' o' Γ1 H1 h l⟩⟩
theorem Wlk.det {H : Hp} : ∀ {p : List Sel} {v w w' : V}, Wlk K H v p w → Wlk K H v p w' → w' = w
  | [], v, w, w', h, h' => by cases h; cases h'; rfl
  | s :: p, v, w, w', ⟨u, h1, h2⟩, ⟨u', h1', h2'⟩ => by
    have : u' = u := by
      cases s with
      | fld f =>
        obtain ⟨a, C, dx, ws, q1, q2, _, _, q3⟩ := h1
        obtain ⟨a', C', dx', ws', q1', q2', _, _, q3'⟩ := h1'
        subst q1; cases q1'
        rw [q2] at q2'; cases q2'
        rw [q3] at q3'; cases q3'; rfl
      | key k =>
        obtain ⟨a, ws, q1, q2, q3⟩ := h1
        obtain ⟨a', ws', q1', q2', q3'⟩ := h1'
        subst q1; cases q1'
        have : ws = ws' := by
          rcases q2 with q2 | ⟨_, q2⟩ <;> rcases q2' with q2' | ⟨_, q2'⟩ <;> rw [q2] at q2' <;> cases q2' <;> rfl
        subst this
        rw [q3] at q3'; cases q3'; rfl
      | idx n =>
        obtain ⟨a, vs, q1, q2, q3⟩ := h1
        obtain ⟨a', vs', q1', q2', q3'⟩ := h1'
        subst q1; cases q1'
        rw [q2] at q2'; cases q2'
        rw [q3] at q3'; cases q3'; rfl
      | un => cases h1; cases h1'; rfl
    subst this
    exact Wlk.det h2 h2'
/-- te[k] = e, a dict at a place -/
theorem gog_setDP (ev : EvP K te i p) {kvs : List (Key × O)} (e0 : Γ[i]? = some (some o1)) (g : o1.getP p = some (.od kvs)) (ok : okPth K o1 p) (hz : kvs.length < 100000)
    (h : ∀ F' B', Go K F' B' ti [] (fzE Γ) fun ok _ => ∃ k, ok = .d (kD k) ∧ posts1 (Γ.set i (some (o1.setP (.od (dput kvs k o)) p)))) : GoG K F B0 (gSub te ti rSetG) o T Γ posts1 := fun τ σ H v1 Q ⟨B1, S1, w1⟩ k' => by
  obtain ⟨v, u, T1, To, a1, wk, r1, _, _, _, _, _⟩ := w1.mutP e0 g ok
  obtain ⟨Bf, w0, back⟩ := w1.lendX
  refine ev σ H v u _ a1 wk (h H Bf [] σ H _ w0 fun v2 o2 Γ2 H2 ⟨k, eo, h2⟩ how => ?_)
  subst eo
  obtain ⟨ex, hb⟩ := back v2 _ Γ2 H2 how
  obtain ⟨B2, S2, w2⟩ := hb (by cases k <;> rfl)
  obtain ⟨rk, S3, _, w3⟩ := w2.popd
  have ek := rk.kV
  subst ek
  obtain ⟨v', u', S5, So, a2, wk2, r2, ro, dj, _, _, f⟩ := w3.mutP e0 g ok
  rw [a1] at a2
  cases a2
  have eu : u' = u := Wlk.det (wk.ex ex) wk2
  subst eu
  cases r2 with
  | @od _ S4 a ws _ ha hs hn hc nd ek rs =>
  have len : ws.length = kvs.length := by have := congrArg List.length ek; simpa using this
  refine .inr ⟨a, _, rfl, .inl ⟨ws, k, hc, rfl, by rw [len]; exact Nat.lt_of_lt_of_le hz (by decide), rfl⟩, ?_⟩
  obtain ⟨S', w4, _⟩ := f a (.dK (putK ws k v1)) (.od (dput kvs k o)) ha (.od (S' := fun b => S4 b ∨ So b) (.inl ha) (fun b z => z.imp (hs b) id) (fun z => z.elim hn fun z => dj a ha z) upd_same (dput_nodup nd) (by rw [putK_dput]; exact dput_keys ek) (by
    rw [putK_dput]
    exact (rs.dput ro nd ek fun b z => dj b (hs b z)).at fun b u z q => by
      rw [upd_ne (fun e => by subst e; exact z.elim hn fun z => dj b ha z)]; exact q))
  exact k' σ _ _ h2 ⟨B2, S', w4⟩
end
end SK
namespace SK
open PySem PySem.Spec PyProof.Rows L2
section
variable {K : PySem.W.Frag} {F B0 H B : Hp} {τ : List V} {T : List O} {σ : L2.St} {Γ : En} {S : Ad} {v w : V} {o oe o1 : O} {i : Nat} {te ti ty tv : TE} {p : List Sel} {posts1 : En → Prop} {Dd : EG} {post : O → En → Prop} {Ci : Addr}
theorem RF.none {f : Str} : ∀ {ws : List (Str × V)} {fs : List (Str × D)}, RF K B ws fs → fs.lookup f = none → ws.lookup f = none
  | _, _, .nil, _ => rfl
  | _, _, .cons (k := k) r t, h => by
    rw [List.lookup_cons] at h ⊢
    cases e : f == k with
    | true => rw [e] at h; cases h
    | false => rw [e] at h; exact RF.none t h
theorem HW.unsets (h : HW K F B0 τ T σ Γ H B S) (j : Nat) : HW K F B0 τ T σ (Γ.set j none) H B S := by
  by_cases hl : j < σ.length
  · have q := h.unset j (σ[j])
    have e : σ.set j (σ[j]) = σ := by
      apply List.ext_getElem?
      intro n
      by_cases hn : n = j
      · subst hn; rw [List.getElem?_set_self hl]; simp [hl]
      · rw [List.getElem?_set_ne (Ne.symm hn)]
    rw [e] at q; exact q
  · have : Γ.set j none = Γ := by
      rw [List.set_eq_of_length_le]
      rw [← h.len]; omega
    rw [this]; exact h
theorem fzE_set {x : Option O} : ∀ {Γ : En} {i : Nat}, fzE (Γ.set i x) = (fzE Γ).set i (frO x)
  | [], _ => rfl
  | y :: r, 0 => by rw [List.set_cons_zero, fzE_cons, fzE_cons, List.set_cons_zero]
  | y :: r, i + 1 => by rw [List.set_cons_succ, fzE_cons, fzE_cons, List.set_cons_succ, fzE_set]
/-- the value that is in the dict, or the empty list that is put in -/
def lstAt (kvs : List (Key × O)) (k : Key) (ys : List O) : Prop := kval kvs k = some (.ol ys) ∨ (kval kvs k = none ∧ ys = [])
theorem kval_keys {k : Key} : ∀ {ws : List (Key × V)} {kvs : List (Key × O)}, ws.map (·.1) = kvs.map (·.1) → ((kval kvs k).isSome = (valV ws k).isSome)
  | [], [], _ => rfl
  | (g, x) :: ws, (g', y) :: kvs, e => by
    simp only [List.map_cons, List.cons.injEq] at e
    obtain ⟨rfl, e⟩ := e
    by_cases q : g = k
    · subst q; rw [valV_pos rfl]; simp [kval]
    · rw [valV_neg q, ← kval_keys e]; simp [kval, q]
theorem dput_new {κ α : Type} [DecidableEq κ] {k : κ} {x : α} {kvs : List (κ × α)} (h : ∀ p ∈ kvs, p.1 ≠ k) : SK.dput kvs k x = kvs ++ [(k, x)] := by
  unfold SK.dput
  rw [if_neg]
  simp only [List.any_eq_true, decide_eq_true_eq, not_exists, not_and]
  exact fun p hp => h p hp
theorem kval_none {α : Type} {k : Key} : ∀ {kvs : List (Key × α)}, kval kvs k = none → ∀ p ∈ kvs, p.1 ≠ k
  | q :: kvs, h, p, hp => by
    by_cases e : q.1 = k
    · simp [kval, e] at h
    · have h' : kval kvs k = none := by simpa [kval, e] using h
      rcases List.mem_cons.mp hp with rfl | hp
      · exact e
      · exact kval_none h' p hp
theorem kval_snoc {α : Type} {k : Key} {x : α} : ∀ {kvs : List (Key × α)}, (∀ p ∈ kvs, p.1 ≠ k) → kval (kvs ++ [(k, x)]) k = some x
  | [], _ => by simp [kval]
  | q :: kvs, h => by
    have e := h q List.mem_cons_self
    have := kval_snoc (x := x) fun p hp => h p (List.mem_cons_of_mem _ hp)
    simpa [kval, e] using this
theorem dput_put {κ α : Type} [DecidableEq κ] {k : κ} {x y : α} {kvs : List (κ × α)} : SK.dput (SK.dput kvs k x) k y = SK.dput kvs k y := by
  by_cases h : (kvs.any fun kv => decide (kv.1 = k)) = true
  · have h2 : ((SK.dput kvs k x).any fun kv => decide (kv.1 = k)) = true := by
      unfold SK.dput
      rw [if_pos h]
      obtain ⟨p, hp, e⟩ := List.any_eq_true.mp h
      have e : p.1 = k := by simpa using e
      exact List.any_eq_true.mpr ⟨(p.1, x), List.mem_map.mpr ⟨p, hp, by rw [if_pos e]⟩, by simpa using e⟩
    have e1 : SK.dput (SK.dput kvs k x) k y = (SK.dput kvs k x).map fun kv => if kv.1 = k then (kv.1, y) else kv := by
      rw [SK.dput, if_pos h2]
    rw [e1]
    unfold SK.dput
    rw [if_pos h, if_pos h, List.map_map]
    apply List.map_congr_left
    intro p _
    by_cases q : p.1 = k
    · simp [q]
    · simp [q]
  · have hn : ∀ p ∈ kvs, p.1 ≠ k := fun p hp q => h (List.any_eq_true.mpr ⟨p, hp, by simpa using q⟩)
    rw [dput_new hn, dput_new hn]
    have h2 : ((kvs ++ [(k, x)]).any fun kv => decide (kv.1 = k)) = true := by simp
    unfold SK.dput
    rw [if_pos h2, List.map_append, repl_not]
    · simp only [List.map_cons, List.map_nil, if_true]
    · intro hm
      obtain ⟨p, hp, e⟩ := List.mem_map.mp hm
      exact hn p hp e
theorem getP_snoc {s : Sel} : ∀ {p : List Sel} {o u : O}, o.getP p = some u → o.getP (p ++ [s]) = match u.get1 s with | some x => some x | none => none
  | [], o, u, h => by
    cases h
    show (match o.get1 s with | some u => u.getP [] | none => none) = _
    cases o.get1 s <;> rfl
  | q :: p, o, u, h => by
    unfold O.getP at h
    rw [List.cons_append]
    unfold O.getP
    cases e : o.get1 q with
    | none => rw [e] at h; cases h
    | some x => rw [e] at h; exact getP_snoc h
theorem okPth_snoc {s : Sel} : ∀ {p : List Sel} {o u x : O}, o.getP p = some u → okPth K o p → okS K u s → u.get1 s = some x → okPth K o (p ++ [s])
  | [], o, u, x, h, _, h2, h3 => by
    cases h
    show okS K o s ∧ match o.get1 s with | some u => okPth K u [] | none => False
    rw [h3]
    exact ⟨h2, trivial⟩
  | q :: p, o, u, x, h, h1, h2, h3 => by
    unfold O.getP at h
    unfold okPth at h1
    rw [List.cons_append]
    unfold okPth
    cases e : o.get1 q with
    | none => rw [e] at h; cases h
    | some z => rw [e] at h h1; exact ⟨h1.1, okPth_snoc h h1.2 h2 h3⟩
theorem setP_snoc {s : Sel} {y : O} : ∀ {p : List Sel} {o u : O}, o.getP p = some u → (∃ x, u.get1 s = some x) → o.setP y (p ++ [s]) = o.setP (u.set1 y s) p
  | [], o, u, h, ⟨x, hx⟩ => by
    cases h
    show (match o.get1 s with | some u => o.set1 (u.setP y []) s | none => o) = _
    rw [hx]; rfl
  | q :: p, o, u, h, hx => by
    unfold O.getP at h
    rw [List.cons_append]
    unfold O.setP
    cases e : o.get1 q with
    | none => (rw [e] at h; try cases h)
    | some z =>
      rw [e] at h
      show o.set1 (z.setP y (p ++ [s])) q = o.set1 (z.setP (u.set1 y s) p) q
      rw [setP_snoc h hx]
theorem get_set0 {s : Sel} {y x : O} {o : O} (nat : ∀ a u, o ≠ .atA a u) (h : o.get1 s = some x) : (o.set1 y s).get1 s = some y := by
  cases o <;> cases s <;> try first | (cases h; done) | (exact absurd rfl (nat _ _))
  · rename_i xs n
    have h : xs[n]? = some x := h
    show (xs.set n y)[n]? = some y
    rw [List.getElem?_set_self (List.getElem?_eq_some_iff.mp h).1]
  · rename_i kvs k
    have h : kval kvs k = some x := h
    show kval (SK.dput kvs k y) k = some y
    have : ∀ {kvs : List (Key × O)}, kval kvs k = some x → kval (kvs.map fun kv => if kv.1 = k then (kv.1, y) else kv) k = some y := by
      intro kvs
      induction kvs with
      | nil => intro h; cases h
      | cons p r ih =>
        intro h
        by_cases e : p.1 = k
        · simp [kval, e]
        · have h' : kval r k = some x := by simpa [kval, e] using h
          have := ih h'
          simpa [kval, e] using this
    unfold SK.dput
    rw [if_pos]
    · exact this h
    · obtain ⟨i, hi⟩ := kval_mem h
      exact List.any_eq_true.mpr ⟨_, List.mem_of_getElem? hi, by simp⟩
  · rename_i a C fs f
    have h : fs.lookup f = some x := h
    show (SK.fput f y fs).lookup f = some y
    clear nat
    induction fs with
    | nil => cases h
    | cons p r ih =>
      obtain ⟨g, z⟩ := p
      unfold SK.fput
      by_cases e : g = f
      · subst e; simp
      · rw [if_neg e]
        have e2 : (f == g) = false := by simpa using fun q => e q.symm
        rw [List.lookup_cons, e2] at h
        rw [List.lookup_cons, e2]
        exact ih h h
  · rename_i xs n
    have h : xs[n]? = some x := h
    show (xs.set n y)[n]? = some y
    rw [List.getElem?_set_self (List.getElem?_eq_some_iff.mp h).1]
theorem get_set1 {s : Sel} {y x : O} : ∀ {o : O}, o.get1 s = some x → (o.set1 y s).get1 s = some y
  | .atA a o, h => by
    by_cases hs : s = .un
    · subst hs; rfl
    have h' : o.get1 s = some x := by cases s <;> first | exact h | exact absurd rfl hs
    have e := get_set1 (y := y) (o := o) h'
    cases s <;> first | exact e | exact absurd rfl hs
  | .d _, h => get_set0 (fun _ _ z => by cases z) h
  | .ol _, h => get_set0 (fun _ _ z => by cases z) h
  | .od _, h => get_set0 (fun _ _ z => by cases z) h
  | .ot _, h => get_set0 (fun _ _ z => by cases z) h
  | .oi _ _ _, h => get_set0 (fun _ _ z => by cases z) h
  | .op _, h => get_set0 (fun _ _ z => by cases z) h
theorem getP_setP {y : O} : ∀ {p : List Sel} {o u : O}, o.getP p = some u → (o.setP y p).getP p = some y
  | [], o, u, _ => rfl
  | s :: p, o, u, h => by
    unfold O.getP at h
    cases e : o.get1 s with
    | none => rw [e] at h; cases h
    | some z =>
      rw [e] at h
      unfold O.setP
      rw [e]
      show (o.set1 (z.setP y p) s).getP (s :: p) = some y
      unfold O.getP
      rw [get_set1 e]
      exact getP_setP h
theorem set1_set0 {s : Sel} {x y z : O} {o : O} (nat : ∀ a u, o ≠ .atA a u) (h : o.get1 s = some z) : (o.set1 x s).set1 y s = o.set1 y s := by
  cases o <;> cases s <;> try first | (cases h; done) | (exact absurd rfl (nat _ _))
  · rename_i xs n
    show O.ol ((xs.set n x).set n y) = O.ol (xs.set n y)
    rw [List.set_set]
  · show O.od _ = O.od _
    rw [dput_put]
  · rename_i a C fs f
    show O.oi a C _ = O.oi a C _
    congr 1
    clear h nat
    induction fs with
    | nil => simp [SK.fput]
    | cons p r ih =>
      obtain ⟨g, z⟩ := p
      by_cases e : g = f
      · subst e; simp [SK.fput]
      · simp [SK.fput, e, ih]
  · rename_i xs n
    show O.op ((xs.set n x).set n y) = O.op (xs.set n y)
    rw [List.set_set]
theorem set1_set1 {s : Sel} {x y z : O} : ∀ {o : O}, o.get1 s = some z → (o.set1 x s).set1 y s = o.set1 y s
  | .atA a o, h => by
    by_cases hs : s = .un
    · subst hs; rfl
    have h' : o.get1 s = some z := by cases s <;> first | exact h | exact absurd rfl hs
    have e := set1_set1 (x := x) (y := y) (o := o) h'
    cases s <;> first | exact congrArg (O.atA a) e | exact absurd rfl hs
  | .d _, h => set1_set0 (fun _ _ z => by cases z) h
  | .ol _, h => set1_set0 (fun _ _ z => by cases z) h
  | .od _, h => set1_set0 (fun _ _ z => by cases z) h
  | .ot _, h => set1_set0 (fun _ _ z => by cases z) h
  | .oi _ _ _, h => set1_set0 (fun _ _ z => by cases z) h
  | .op _, h => set1_set0 (fun _ _ z => by cases z) h
theorem setP_setP {x y : O} : ∀ {p : List Sel} {o u : O}, o.getP p = some u → (o.setP x p).setP y p = o.setP y p
  | [], o, u, _ => rfl
  | s :: p, o, u, h => by
    unfold O.getP at h
    cases e : o.get1 s with
    | none => rw [e] at h; cases h
    | some z =>
      rw [e] at h
      have e1 : o.setP x (s :: p) = o.set1 (z.setP x p) s := by rw [O.setP, e]
      have e2 : o.setP y (s :: p) = o.set1 (z.setP y p) s := by rw [O.setP, e]
      rw [e1, e2, O.setP, get_set1 e]
      show (o.set1 (z.setP x p) s).set1 ((z.setP x p).setP y p) s = _
      rw [setP_setP h, set1_set1 e]
theorem okS_set0 {s : Sel} {y : O} {o : O} (nat : ∀ a u, o ≠ .atA a u) (h : okS K o s) : okS K (o.set1 y s) s := by
  cases o <;> cases s <;> first | exact h | exact trivial | exact absurd rfl (nat _ _) | exact h.elim
theorem okS_set1 {s : Sel} {y : O} : ∀ {o : O}, okS K o s → okS K (o.set1 y s) s
  | .atA a o, h => by
    by_cases hs : s = .un
    · subst hs; exact trivial
    have h' : okS K o s := by cases s <;> first | exact h | exact absurd rfl hs
    have e := okS_set1 (y := y) (o := o) h'
    cases s <;> first | exact e | exact absurd rfl hs
  | .d _, h => okS_set0 (fun _ _ z => by cases z) h
  | .ol _, h => okS_set0 (fun _ _ z => by cases z) h
  | .od _, h => okS_set0 (fun _ _ z => by cases z) h
  | .ot _, h => okS_set0 (fun _ _ z => by cases z) h
  | .oi _ _ _, h => okS_set0 (fun _ _ z => by cases z) h
  | .op _, h => okS_set0 (fun _ _ z => by cases z) h
theorem okPth_setP {y : O} : ∀ {p : List Sel} {o u : O}, o.getP p = some u → okPth K o p → okPth K (o.setP y p) p
  | [], o, u, _, _ => trivial
  | s :: p, o, u, h, h1 => by
    unfold O.getP at h
    unfold okPth at h1
    cases e : o.get1 s with
    | none => rw [e] at h; cases h
    | some z =>
      rw [e] at h h1
      have e1 : o.setP y (s :: p) = o.set1 (z.setP y p) s := by rw [O.setP, e]
      rw [e1]
      unfold okPth
      rw [get_set1 e]
      exact ⟨okS_set1 h1.1, okPth_setP h h1.2⟩
/-- the cell of a dict at a place -/
theorem HW.cellD (h : HW K F B0 τ T σ Γ H B S) {kvs : List (Key × O)} (e0 : Γ[i]? = some (some o1)) (g : o1.getP p = some (.od kvs)) (ok : okPth K o1 p) :
    ∃ v d ws, σ[i]? = some (some v) ∧ Wlk K H v p (.ref d) ∧ H d = some (.dK ws) ∧ ws.map (·.1) = kvs.map (·.1) := by
  obtain ⟨v, u, T1, a1, wk, r1, _, _⟩ := h.mutP1 e0 g ok
  cases r1 with
  | @od _ S4 a ws _ ha hs hn hc nd ek rs => exact ⟨v, a, ws, a1, wk, hc, ek⟩
/-- te.setdefault(k, []).append(e), a dict of lists at a place -/
theorem gos_setdApp (ev : EvP K te i p) {kvs : List (Key × O)} (e0 : Γ[i]? = some (some o1)) (g : o1.getP p = some (.od kvs)) (ok : okPth K o1 p) (hz : kvs.length < 100000)
    (h : ∀ F' B', Go K F' B' ty [] (fzE Γ) fun okk _ => ∃ k ys, okk = .d (kD k) ∧ lstAt kvs k ys ∧ ys.length < 100000 ∧
      ∀ F' B', Go K F' B' tv [] (fzE (Γ.set i none)) fun oe _ => oe.lf = true ∧ Dd.nx (Γ.set i (some (o1.setP (.od (dput kvs k (.ol (ys ++ [oe])))) p)))) :
    GoS K F B0 (tDrop (tBM K "list" rAppend (tDSetd te ty (tLst tNil)) (tCons tv tNil))) T Γ Dd := fun τ σ H De ⟨B, S, w⟩ s => by
  obtain ⟨v, d, ws, a1, wk, hc, ek⟩ := w.cellD e0 g ok
  obtain ⟨Bf, w0, back⟩ := w.lendX
  refine ev σ H v _ _ a1 wk ⟨d, rfl, .inl ⟨ws, .inl hc⟩, h H Bf [] σ H _ w0 fun v2 o2 Γ2 H2 ⟨k, ys, eo, hy, hyl, h2⟩ how => ⟨by decide, fun q hq => ?_⟩⟩
  subst eo
  obtain ⟨ex, hb⟩ := back v2 _ Γ2 H2 how
  obtain ⟨B2, S2, w2⟩ := hb (by cases k <;> rfl)
  obtain ⟨rk, S3, _, w3⟩ := w2.popd
  have ekk := rk.kV
  subst ekk
  have hc2 := ex _ _ hc
  have ndq : d ≠ q := fun z => by rw [← z, hc2] at hq; cases hq
  have len : ws.length = kvs.length := by have := congrArg List.length ek; simpa using this
  -- what follows: the list's cell is at the place, the element is made, the list grows
  have tail : ∀ (o' : O) (kvs1 : List (Key × O)) (u : Addr) (H4 : Hp), Ho K F B0 τ T σ (Γ.set i (some o')) H4 → o'.getP p = some (.od kvs1) → okPth K o' p → kval kvs1 k = some (.ol ys) → (∀ y, o'.setP (.od (dput kvs1 k y)) p = o1.setP (.od (dput kvs k y)) p) →
      Wlk K H4 v p (.ref d) → (∃ ws1, H4 d = some (.dK ws1) ∧ valV ws1 k = some (.ref u)) →
      (tyV K "list" (.ref u) H4 ∧ tCons tv tNil σ H4 fun xs H5 => rAppend (.ref u) xs H5 fun _ H6 => De.nx σ H6) := by
    intro o' kvs1 u H4 ⟨B4, S4, w4⟩ g' ok' hk' heq wk4 ⟨ws1, hd4, hv4⟩
    have hi : i < Γ.length := by
      have := (List.getElem?_eq_some_iff.mp e0).1
      exact this
    have e4 : (Γ.set i (some o'))[i]? = some (some o') := List.getElem?_set_self hi
    have g5 : o'.getP (p ++ [.key k]) = some (.ol ys) := by rw [getP_snoc g']; show (match kval kvs1 k with | some x => some x | none => none) = _; rw [hk']
    have ok5 : okPth K o' (p ++ [.key k]) := okPth_snoc g' ok' trivial hk'
    have wk5 : Wlk K H4 v (p ++ [.key k]) (.ref u) := wk4.snoc ⟨d, ws1, rfl, .inl hd4, hv4⟩
    obtain ⟨v', u', T1, a2, wk6, r6, _, _⟩ := w4.mutP1 e4 g5 ok5
    rw [a1] at a2
    cases a2
    have eu := Wlk.det wk5 wk6
    subst eu
    cases r6 with
    | @ol _ S6 _ us _ ha6 hs6 hn6 hc6 rs6 =>
    refine ⟨.inl ⟨rfl, us, SqL.of hc6⟩, ?_⟩
    obtain ⟨Bh, ⟨B8, S8, w8⟩, back8⟩ := w4.lendX
    refine h2 H4 Bh [] σ H4 _ ⟨B8, S8, by have := w8.unsets i; rw [fzE_set, List.set_set] at this; rw [fzE_set]; exact this⟩ fun v7 o7 Γ7 H7 ⟨lf, hn⟩ how7 => ?_
    obtain ⟨ex7, hb7⟩ := back8 v7 o7 Γ7 H7 how7
    obtain ⟨B9, S9, w9⟩ := hb7 lf
    obtain ⟨v'', u'', T2, So, a3, wk7, r7, ro, dj, _, _, f7⟩ := w9.mutP e4 g5 ok5
    rw [a1] at a3
    cases a3
    have eu2 := Wlk.det (wk5.ex ex7) wk7
    subst eu2
    cases r7 with
    | @ol _ S10 _ us2 _ ha7 hs7 hn7 hc7 rs7 =>
    have len7 : us2.length = ys.length := by simpa using rs7.len
    refine ⟨u, us2, v7, rfl, rfl, hc7, by rw [len7]; exact Nat.lt_of_lt_of_le hyl (by decide), ?_⟩
    obtain ⟨S', w10, _⟩ := f7 u (.lst (us2 ++ [v7])) (.ol (ys ++ [o7])) ha7 (.ol (S' := fun b => S10 b ∨ So b) (.inl ha7) (fun b z => z.imp (hs7 b) id) (fun z => z.elim hn7 fun z => dj u ha7 z) upd_same (by
      rw [List.map_append, List.map_append]
      exact (rs7.snoc ro fun b z => dj b (hs7 b z)).at fun b x z q => by
        rw [upd_ne (fun e => by subst e; exact z.elim hn7 fun z => dj b ha7 z)]; exact q))
    rw [List.set_set, setP_snoc (s := .key k) g' ⟨_, (show (O.od kvs1).get1 (.key k) = _ from hk')⟩] at w10
    have e11 : o'.setP (O.set1 (.od kvs1) (.ol (ys ++ [o7])) (.key k)) p = o1.setP (.od (dput kvs k (.ol (ys ++ [o7])))) p := heq _
    rw [e11] at w10
    exact s.nx σ _ _ hn ⟨_, _, w10⟩
  have exq : Ex H2 (upd H2 q (.lst [])) := .new hq
  refine ⟨ws, k, by rw [upd_ne ndq]; exact hc2, rfl, by rw [len]; exact Nat.lt_of_lt_of_le hz (by decide), fun u hu => ?_, fun hn0 => ?_⟩
  · -- it is there
    have hy' : kval kvs k = some (.ol ys) := by
      rcases hy with hy | ⟨hy, _⟩
      · exact hy
      · have := kval_keys (k := k) ek
        rw [hy, hu] at this; cases this
    have wq := (w3.push (v := .non) (o := .d .non) (S' := fun _ => False) exq (.refl B2) (fun a x e => exq a x (w3.pu a x e)) (fun _ z => .inl z) (fun _ z => z.elim) (.d .non))
    obtain ⟨_, S4, _, w4⟩ := wq.popd
    obtain ⟨n, u2, k1, k2, k3, k4⟩ : ∃ (n : Nat) (u2 : V), kvs[n]? = some (k, .ol ys) ∧ True ∧ True ∧ True := by
      obtain ⟨n, hn⟩ := kval_mem hy'
      exact ⟨n, .non, hn, trivial, trivial, trivial⟩
    have g5 : o1.getP (p ++ [.key k]) = some (.ol ys) := by rw [getP_snoc g]; show (match kval kvs k with | some x => some x | none => none) = _; rw [hy']
    have ok5 : okPth K o1 (p ++ [.key k]) := okPth_snoc g ok trivial hy'
    obtain ⟨v', u', T1, a2, wk6, r6, _, _⟩ := w4.mutP1 e0 g5 ok5
    rw [a1] at a2
    cases a2
    have wk5 : Wlk K (upd H2 q (.lst [])) v (p ++ [.key k]) u := ((wk.ex ex).ex exq).snoc ⟨d, ws, rfl, .inl (by rw [upd_ne ndq]; exact hc2), hu⟩
    have eu := Wlk.det wk5 wk6
    subst eu
    cases r6 with
    | @ol _ S6 ua us _ ha6 hs6 hn6 hc6 rs6 =>
    have same : Γ.set i (some o1) = Γ := by
      apply List.ext_getElem?
      intro n
      by_cases hn : n = i
      · subst hn; rw [List.getElem?_set_self (List.getElem?_eq_some_iff.mp e0).1, e0]
      · rw [List.getElem?_set_ne (Ne.symm hn)]
    exact tail o1 kvs ua _ ⟨B2, S4, by rw [same]; exact w4⟩ g ok hy' (fun _ => rfl) ((wk.ex ex).ex exq) ⟨ws, by rw [upd_ne ndq]; exact hc2, hu⟩
  · -- it is put in
    have hy' : kval kvs k = none ∧ ys = [] := by
      rcases hy with hy | hy
      · have := kval_keys (k := k) ek
        rw [hy, hn0] at this; cases this
      · exact hy
    obtain ⟨hy1, rfl⟩ := hy'
    obtain ⟨S4, w4⟩ := w3.newl hq (xs := []) (vs := []) .nil
    obtain ⟨v', u', T1, So, a2, wk6, r6, ro, dj, _, _, f6⟩ := w4.mutP e0 g ok
    rw [a1] at a2
    cases a2
    have eu := Wlk.det ((wk.ex ex).ex exq) wk6
    subst eu
    cases r6 with
    | @od _ S6 _ ws2 _ ha hs hn hc6 nd ek2 rs =>
    have ews : ws2 = ws := by
      rw [upd_ne ndq, hc2] at hc6
      cases hc6; rfl
    subst ews
    obtain ⟨S', w5, wk7⟩ := f6 d (.dK (putK ws2 k (.ref q))) (.od (dput kvs k (.ol []))) ha (.od (S' := fun b => S6 b ∨ So b) (.inl ha) (fun b z => z.imp (hs b) id) (fun z => z.elim hn fun z => dj d ha z) upd_same (dput_nodup nd) (by rw [putK_dput]; exact dput_keys ek2) (by
      rw [putK_dput]
      exact (rs.dput ro nd ek2 fun b z => dj b (hs b z)).at fun b x z q => by
        rw [upd_ne (fun e => by subst e; exact z.elim hn fun z => dj b ha z)]; exact q))
    have hn1 := kval_none hy1
    have g' := getP_setP (y := .od (dput kvs k (.ol []))) g
    refine tail _ (dput kvs k (.ol [])) q _ ⟨B2, S', w5⟩ g' (okPth_setP g ok) (by rw [dput_new hn1]; exact kval_snoc hn1) (fun y => ?_) wk7 ⟨_, upd_same, ?_⟩
    · rw [setP_setP g, dput_put]
    · rw [putK_dput, dput_new]
      · have : valV ws2 k = none := hn0
        unfold valV at this ⊢
        rw [List.find?_append]
        have h0 : ws2.find? (fun kv => decide (kv.1 = k)) = none := by
          cases q9 : ws2.find? (fun kv => decide (kv.1 = k)) with
          | none => rfl
          | some x => rw [q9] at this; cases this
        rw [h0]; simp
      · intro p1 hp1
        have : p1.1 ∈ kvs.map (·.1) := by rw [← ek2]; exact List.mem_map_of_mem hp1
        obtain ⟨p2, hp2, e2⟩ := List.mem_map.mp this
        rw [← e2]; exact hn1 p2 hp2
end
end SK
namespace SK
open PySem PySem.Spec PyProof.Rows L2
end SK
namespace SK
open PySem PySem.Spec PyProof.Rows L2
theorem sorted_unique : ∀ {xs ys : List Int}, xs.Perm ys → xs.Pairwise (· ≤ ·) → ys.Pairwise (· ≤ ·) → xs = ys
  | [], ys, p, _, _ => by rw [List.nil_perm] at p; exact p.symm
  | x :: xs, [], p, _, _ => by have := p.length_eq; simp at this
  | x :: xs, y :: ys, p, a, b => by
    obtain ⟨a1, a2⟩ := List.pairwise_cons.mp a
    obtain ⟨b1, b2⟩ := List.pairwise_cons.mp b
    have e : x = y := by
      have h1 : y ∈ x :: xs := p.symm.mem_iff.mp List.mem_cons_self
      have h2 : x ∈ y :: ys := p.mem_iff.mp List.mem_cons_self
      rcases List.mem_cons.mp h1 with h1 | h1
      · exact h1.symm
      · rcases List.mem_cons.mp h2 with h2 | h2
        · exact h2
        · have := a1 y h1
          have := b1 x h2
          omega
    subst e
    rw [sorted_unique ((List.perm_cons x).mp p) a2 b2]
section
variable {K : PySem.W.Frag} {F B0 H B : Hp} {τ : List V} {T : List O} {σ : L2.St} {Γ : En} {S : Ad} {v w : V} {o oe o1 : O} {i : Nat} {te ti ty tv : TE} {p : List Sel} {posts1 : En → Prop} {Dd : EG} {post : O → En → Prop} {x : D}
/-- code that is never come to -/
theorem gos_never (h : False) : GoS K F B0 tNever T Γ Dd := h.elim
theorem RS.setAt {So : Ad} {n : Nat} {vs : List V} {xs : List O} (r : RS K B H S (vs.map some) (xs.map some)) (hn : n < xs.length) (ro : RO K B H So w oe) (dj : ∀ b, S b → ¬ So b) : RS K B H (fun b => S b ∨ So b) ((vs.set n w).map some) ((xs.set n oe).map some) := by
  obtain ⟨u, U1, U2, c1, c2, c3, c4, ru, f⟩ := r.focus (i := n) (o := xs[n]) (by rw [List.getElem?_map, List.getElem?_eq_getElem hn]; rfl)
  have q := f B H So (some w) (some oe) (.refl B) (fun _ _ _ e => e) (fun b z y => dj b (c3 b y) z) (fun x e => by cases e; exact ⟨w, rfl, ro⟩)
  rw [← List.map_set, ← List.map_set] at q
  exact q.tr (.refl B) (fun b z => z.elim .inr fun z => .inl (c3 b z)) fun _ _ _ e => e
/-- te[n] = e, a list at a place -/
theorem gog_setLP (ev : EvP K te i p) {xs : List O} (e0 : Γ[i]? = some (some o1)) (g : o1.getP p = some (.ol xs)) (ok : okPth K o1 p)
    (h : ∀ F' B', Go K F' B' ti [] (fzE Γ) fun okk _ => ∃ n : Int, okk = .d (.int n) ∧ 0 ≤ n ∧ n < xs.length ∧ posts1 (Γ.set i (some (o1.setP (.ol (xs.set n.toNat o)) p)))) : GoG K F B0 (gSub te ti rSetG) o T Γ posts1 := fun τ σ H v1 Q ⟨B1, S1, w1⟩ k' => by
  obtain ⟨v, u, T1, To, a1, wk, r1, _, _, _, _, _⟩ := w1.mutP e0 g ok
  obtain ⟨Bf, w0, back⟩ := w1.lendX
  refine ev σ H v u _ a1 wk (h H Bf [] σ H _ w0 fun v2 o2 Γ2 H2 ⟨n, eo, n0, n1, h2⟩ how => ?_)
  subst eo
  obtain ⟨ex, hb⟩ := back v2 _ Γ2 H2 how
  obtain ⟨B2, S2, w2⟩ := hb rfl
  obtain ⟨rk, S3, _, w3⟩ := w2.popd
  cases rk
  obtain ⟨v', u', S5, So, a2, wk2, r2, ro, dj, _, _, f⟩ := w3.mutP e0 g ok
  rw [a1] at a2
  cases a2
  have eu : u' = u := Wlk.det (wk.ex ex) wk2
  subst eu
  cases r2 with
  | @ol _ S4 a ws _ ha hs hn hc rs =>
  have len : ws.length = xs.length := by simpa using rs.len
  refine .inl ⟨a, ws, n, n.toNat, rfl, rfl, hc, by unfold ixN; rw [if_pos n0, len, if_pos n1], ?_⟩
  obtain ⟨S', w4, _⟩ := f a (.lst (ws.set n.toNat v1)) (.ol (xs.set n.toNat o)) ha (.ol (S' := fun b => S4 b ∨ So b) (.inl ha) (fun b z => z.imp (hs b) id) (fun z => z.elim hn fun z => dj a ha z) upd_same
    ((rs.setAt (by omega) ro fun b z => dj b (hs b z)).at fun b u z q => by
      rw [upd_ne (fun e => by subst e; exact z.elim hn fun z => dj b ha z)]; exact q))
  exact k' σ _ _ h2 ⟨B2, S', w4⟩
theorem RS.filt {κ : Type} {q : κ → Bool} : ∀ {ws : List (κ × V)} {kvs : List (κ × O)} {S : Ad}, ws.map (·.1) = kvs.map (·.1) → RS K B H S (ws.map fun p => some p.2) (kvs.map fun p => some p.2) →
    RS K B H S ((ws.filter fun p => q p.1).map fun p => some p.2) ((kvs.filter fun p => q p.1).map fun p => some p.2)
  | [], [], _, _, r => r
  | (k, v) :: ws, (k', y) :: kvs, S, e, .cons (S1 := T1) (S2 := T2) s1 s2 d r rs => by
    simp only [List.map_cons, List.cons.injEq] at e
    obtain ⟨rfl, e⟩ := e
    have ih := RS.filt (q := q) e rs
    by_cases h : q k = true
    · rw [List.filter_cons_of_pos (by exact h), List.filter_cons_of_pos (by exact h)]
      exact .cons s1 s2 d r ih
    · rw [List.filter_cons_of_neg (by exact h), List.filter_cons_of_neg (by exact h)]
      exact ih.tr (.refl B) s2 fun _ _ _ e => e
theorem filt_keys {κ α β : Type} {q : κ → Bool} : ∀ {ws : List (κ × α)} {kvs : List (κ × β)}, ws.map (·.1) = kvs.map (·.1) → (ws.filter fun p => q p.1).map (·.1) = (kvs.filter fun p => q p.1).map (·.1)
  | [], [], _ => rfl
  | (k, v) :: ws, (k', y) :: kvs, e => by
    simp only [List.map_cons, List.cons.injEq] at e
    obtain ⟨rfl, e⟩ := e
    have ih := filt_keys (q := q) e
    by_cases h : q k = true
    · rw [List.filter_cons_of_pos (by exact h), List.filter_cons_of_pos (by exact h), List.map_cons, List.map_cons, ih]
    · rw [List.filter_cons_of_neg (by exact h), List.filter_cons_of_neg (by exact h), ih]
/-- te.pop(k), a dict at a place that has it -/
theorem gos_popP (ev : EvP K te i p) {kvs : List (Key × O)} (e0 : Γ[i]? = some (some o1)) (g : o1.getP p = some (.od kvs)) (ok : okPth K o1 p)
    (h : ∀ F' B', Go K F' B' ty [] (fzE Γ) fun okk _ => ∃ k, okk = .d (kD k) ∧ (kval kvs k).isSome = true ∧ Dd.nx (Γ.set i (some (o1.setP (.od (kvs.filter fun kv => decide (kv.1 ≠ k))) p)))) :
    GoS K F B0 (tDrop (tDPop1 te ty)) T Γ Dd := fun τ σ H De ⟨B, S, w⟩ s => by
  obtain ⟨v, d, ws, a1, wk, hc, ek⟩ := w.cellD e0 g ok
  obtain ⟨Bf, w0, back⟩ := w.lendX
  refine ev σ H v _ _ a1 wk ⟨d, rfl, .inl ⟨ws, .inl hc⟩, h H Bf [] σ H _ w0 fun v2 o2 Γ2 H2 ⟨k, eo, hk, h2⟩ how => ?_⟩
  subst eo
  obtain ⟨ex, hb⟩ := back v2 _ Γ2 H2 how
  obtain ⟨B2, S2, w2⟩ := hb (by cases k <;> rfl)
  obtain ⟨rk, S3, _, w3⟩ := w2.popd
  have ekk := rk.kV
  subst ekk
  have hc2 := ex _ _ hc
  rw [kval_keys ek] at hk
  obtain ⟨u, hu⟩ := Option.isSome_iff_exists.mp hk
  obtain ⟨v', u', T1, a2, wk6, r6, _, f6⟩ := w3.mutP1 e0 g ok
  rw [a1] at a2
  cases a2
  have eu := Wlk.det (wk.ex ex) wk6
  subst eu
  cases r6 with
  | @od _ S6 _ ws2 _ ha hs hn hc6 nd ek2 rs =>
  have ews : ws2 = ws := by
    rw [hc2] at hc6
    cases hc6; rfl
  subst ews
  refine ⟨ws2, k, u, hc2, rfl, hu, ?_⟩
  obtain ⟨S', w5, _⟩ := f6 d (.dK (dropK ws2 k)) (.od (kvs.filter fun kv => decide (kv.1 ≠ k))) ha (.od (S' := S6) ha hs hn upd_same (nd.sublist (List.filter_sublist.map _)) (filt_keys (q := fun z => decide (z ≠ k)) ek2) ((RS.filt (q := fun z => decide (z ≠ k)) ek2 rs).at fun b x z q => by
    rw [upd_ne (fun e => by subst e; exact hn z)]; exact q))
  exact s.nx σ _ _ h2 ⟨_, _, w5⟩
end
end SK
namespace SK
open PySem PySem.Spec PyProof.Rows L2
section
variable {K : PySem.W.Frag} {F B0 H B : Hp} {τ : List V} {T : List O} {σ : L2.St} {Γ : En} {S : Ad} {v w : V} {o oe o1 : O} {i : Nat} {te ti ty tv : TE} {posts1 : En → Prop} {Dd : EG} {post : O → En → Prop} {Ci a : Addr} {fl : List Str} {f : Str} {fs : Fs} {kvs : List (Key × O)}
theorem evp_f1 : EvP K (tFld K (tVar i) f) i [.fld f] := evp_fld (p := []) evp_var
theorem getP_f1 (hl : fs.lookup f = some o) : (O.oi a Ci fs).getP [.fld f] = some o := by
  show (match fs.lookup f with | some u => u.getP [] | none => none) = _
  rw [hl]; rfl
theorem okP_f1 (R : Rec K Ci fl) (hl : fs.lookup f = some o) (hf : fl.contains f = true) : okPth K (O.oi a Ci fs) [.fld f] := by
  refine ⟨⟨R.cls, R.no f hf⟩, ?_⟩
  show (match fs.lookup f with | some u => okPth K u [] | none => False)
  rw [hl]; trivial
theorem setP_f1 (hl : fs.lookup f = some o) : (O.oi a Ci fs).setP oe [.fld f] = .oi a Ci (SK.fput f oe fs) := by
  show (match fs.lookup f with | some u => O.set1 (O.oi a Ci fs) (u.setP oe []) (.fld f) | none => _) = _
  rw [hl]; rfl
/-- x.f.setdefault(k, []).append(e) -/
theorem gos_setdAppF (R : Rec K Ci fl) (e0 : Γ[i]? = some (some (.oi a Ci fs))) (hl : fs.lookup f = some (.od kvs)) (hf : fl.contains f = true) (hz : kvs.length < 100000)
    (h : ∀ F' B', Go K F' B' ty [] (fzE Γ) fun okk _ => ∃ k ys, okk = .d (kD k) ∧ lstAt kvs k ys ∧ ys.length < 100000 ∧
      ∀ F' B', Go K F' B' tv [] (fzE (Γ.set i none)) fun oe _ => oe.lf = true ∧ Dd.nx (Γ.set i (some (.oi a Ci (SK.fput f (.od (dput kvs k (.ol (ys ++ [oe])))) fs))))) :
    GoS K F B0 (tDrop (tBM K "list" rAppend (tDSetd (tFld K (tVar i) f) ty (tLst tNil)) (tCons tv tNil))) T Γ Dd := by
  refine gos_setdApp evp_f1 e0 (getP_f1 hl) (okP_f1 R hl hf) hz ?_
  simp only [setP_f1 hl]
  exact h
/-- x.f.pop(k) -/
theorem gos_popF (R : Rec K Ci fl) (e0 : Γ[i]? = some (some (.oi a Ci fs))) (hl : fs.lookup f = some (.od kvs)) (hf : fl.contains f = true)
    (h : ∀ F' B', Go K F' B' ty [] (fzE Γ) fun okk _ => ∃ k, okk = .d (kD k) ∧ (kval kvs k).isSome = true ∧ Dd.nx (Γ.set i (some (.oi a Ci (SK.fput f (.od (kvs.filter fun kv => decide (kv.1 ≠ k))) fs))))) :
    GoS K F B0 (tDrop (tDPop1 (tFld K (tVar i) f) ty)) T Γ Dd := by
  refine gos_popP evp_f1 e0 (getP_f1 hl) (okP_f1 R hl hf) ?_
  simp only [setP_f1 hl]
  exact h
/-- x.f[k] = e -/
theorem gog_setDF (R : Rec K Ci fl) (e0 : Γ[i]? = some (some (.oi a Ci fs))) (hl : fs.lookup f = some (.od kvs)) (hf : fl.contains f = true) (hz : kvs.length < 100000)
    (h : ∀ F' B', Go K F' B' ti [] (fzE Γ) fun okk _ => ∃ k, okk = .d (kD k) ∧ posts1 (Γ.set i (some (.oi a Ci (SK.fput f (.od (dput kvs k o)) fs))))) : GoG K F B0 (gSub (tFld K (tVar i) f) ti rSetG) o T Γ posts1 := by
  refine gog_setDP evp_f1 e0 (getP_f1 hl) (okP_f1 R hl hf) hz ?_
  simp only [setP_f1 hl]
  exact h
/-- xs[n] = e -/
theorem gog_setL {xs : List O} (e0 : Γ[i]? = some (some (.ol xs)))
    (h : ∀ F' B', Go K F' B' ti [] (fzE Γ) fun okk _ => ∃ n : Int, okk = .d (.int n) ∧ 0 ≤ n ∧ n < xs.length ∧ posts1 (Γ.set i (some (.ol (xs.set n.toNat o))))) : GoG K F B0 (gSub (tVar i) ti rSetG) o T Γ posts1 :=
  gog_setLP (p := []) evp_var e0 rfl trivial h
end
end SK
namespace SK
open PySem PySem.Spec PyProof.Rows L2
def rIsBl : R2 := fun x y H Q => ∃ a b, x = .bl a ∧ y = .bl b ∧ Q (.bl (decide (a = b))) H
def rNotBl : R2 := fun x y H Q => ∃ a b, x = .bl a ∧ y = .bl b ∧ Q (.bl (!decide (a = b))) H
section
variable {K : PySem.W.Frag} {F B0 : Hp} {T : List O} {Γ : En} {post : O → En → Prop}
theorem o2_isBl {a b : Bool} (h : post (.d (.bl (decide (a = b)))) Γ) : Op2 K F B0 rIsBl (.bl a) (.bl b) T Γ post := fun τ σ H B S v1 v2 Q w r1 r2 k => by
  cases r1; cases r2
  exact ⟨a, b, rfl, rfl, k _ _ Γ H h ⟨_, _, w.pushd .bl⟩⟩
theorem o2_notBl {a b : Bool} (h : post (.d (.bl (!decide (a = b)))) Γ) : Op2 K F B0 rNotBl (.bl a) (.bl b) T Γ post := fun τ σ H B S v1 v2 Q w r1 r2 k => by
  cases r1; cases r2
  exact ⟨a, b, rfl, rfl, k _ _ Γ H h ⟨_, _, w.pushd .bl⟩⟩
end
end SK
namespace SK
open PySem PySem.Spec PyProof.Rows L2
def tVarM (i : Nat) : TE := tVar i
theorem pe_mv {X : Cx} {e : Expr} {i : Nat} (h : PE X e (tVar i)) : PE X e (tVarM i) := h
section
variable {K : PySem.W.Frag} {F B0 : Hp} {T : List O} {Γ : En} {post : O → En → Prop} {i : Nat} {o : O}
theorem go_varM (e : Γ[i]? = some (some o)) (h : post o (Γ.set i none)) : Go K F B0 (tVarM i) T Γ post := go_move e h
end
theorem lfOLm {α : Type} {e : α → D} (h : ∀ x, (e x).lf = true) : ∀ {xs : List α}, (O.ol ((xs.map e).map O.d)).lf = true
  | [] => rfl
  | x :: xs => by
    have := lfOLm h (xs := xs)
    simp only [O.lf, List.map_cons, lfOL, h x, Bool.true_and] at this ⊢
    exact this
end SK
namespace SK
open PySem PySem.Spec PyProof.Rows L2
theorem gos_sIN {K : PySem.W.Frag} {F B0 : Hp} {T : List O} {Γ : En} {Dd : EG} {tt : TT} {u t2 : TS} (h : GoS K F B0 (tIfS tt tNever u) T Γ { Dd with nx := fun Γ1 => GoS K F B0 t2 T Γ1 Dd }) : GoS K F B0 (tSeq (tIfS tt tNever u) t2) T Γ Dd := gos_seq h
end SK
namespace SK
open PySem PySem.Spec PyProof.Rows L2
/-- dicts whose keys are numbers -/
abbrev IM (β : Type) := List (Int × β)
section
variable {β γ : Type} {f : β → D} {fo : β → O} {l : IM β} {k e : Int} {x : β}
def imK (f : β → D) (l : IM β) : List (Key × D) := l.map fun p => (Sum.inl p.1, f p.2)
def imO (f : β → O) (l : IM β) : List (Key × O) := l.map fun p => (Sum.inl p.1, f p.2)
theorem imK_od : (imK f l).map (fun p => (p.1, O.d p.2)) = imO (fun x => O.d (f x)) l := by simp [imK, imO]
end
end SK
namespace SK
open PySem PySem.Spec PyProof.Rows L2
section
variable {K : PySem.W.Frag} {F B0 : Hp} {T : List O} {Γ : En} {post : O → En → Prop} {te tl : TE} {tt : TT} {j1 j2 j3 : Nat}
/-- dict(d), keys numbers -/
theorem oa_dictI {β : Type} {f : β → D} {l : IM β} (h : post (.od (imO (fun x => O.d (f x)) l)) Γ) : OpA K F B0 rDictD [.dic (imK f l)] T Γ post := oa_dictD (by rw [imK_od]; exact h)
end
end SK
namespace SK
open PySem PySem.Spec PyProof.Rows L2
/-- sorted(set(e)), e a list of ints -/
def tSortSet (K : PySem.W.Frag) (te : TE) : TE := fun σ H Q => te σ H fun v H1 => ∃ (a : Addr) (ns : List Int), v = .ref a ∧ SqL K H1 a (ns.map V.int) ∧ ns.length ≤ 4000 ∧
  ∀ (ms : List Int) (q : Addr), ms.Pairwise (· < ·) → (∀ k, k ∈ ms ↔ k ∈ ns) → H1 q = none → Q (.ref q) (upd H1 q (.lst (ms.map V.int)))
section
variable {K : PySem.W.Frag} {F B0 : Hp} {T : List O} {Γ : En} {post : O → En → Prop} {te : TE}
theorem go_sortSet (h : Go K F B0 te T Γ fun o Γ1 => ∃ ns : List Int, o.fz.seq? = some (ns.map D.int) ∧ ns.length ≤ 4000 ∧ ∀ ms : List Int, ms.Pairwise (· < ·) → (∀ k, k ∈ ms ↔ k ∈ ns) → post (.ol ((ms.map D.int).map O.d)) Γ1) :
    Go K F B0 (tSortSet K te) T Γ post := fun τ σ H Q hw k =>
  h τ σ H _ hw fun v o Γ1 H1 ⟨ns, q1, q2, q3⟩ ⟨_, _, w1⟩ => by
    obtain ⟨_, _, w2, ex⟩ := w1.fz
    obtain ⟨r, _, _, w3⟩ := w2.popd
    generalize o.fz = y at r q1
    obtain ⟨a, us, rfl, sq, rl⟩ := r.seqL q1
    have eu := RL.ints rl
    subst eu
    refine ⟨a, ns, rfl, w3.pu.sqL sq, q2, fun ms q hp hm hn => ?_⟩
    obtain ⟨S2, w4⟩ := w3.newl hn (RL.ofInts ms)
    exact k _ _ _ _ (q3 ms hp hm) ⟨_, _, w4⟩
end
end SK
namespace SK
open PySem PySem.Spec PyProof.Rows L2
end SK
namespace SK
open PySem PySem.Spec PyProof.Rows L2
def gLst (K : PySem.W.Frag) (n : Nat) (t : TGs) : TG := fun v σ H Q => ∃ a xs, v = .ref a ∧ SqL K H a xs ∧ xs.length = n ∧ t xs σ H Q
section
variable {K : PySem.W.Frag} {F B0 H B : Hp} {τ : List V} {T : List O} {σ : L2.St} {Γ : En} {S : Ad} {o : O} {a : Addr} {i : Nat} {posts1 : En → Prop}
def GoGsO (K : PySem.W.Frag) (F B0 : Hp) (g : TGs) (os : List O) (T : List O) (Γ : En) (post : En → Prop) : Prop := ∀ (τ : List V) (σ : L2.St) (H : Hp) (vs : List V) (Q : L2.St → Hp → Prop), Ho K F B0 (vs ++ τ) (os ++ T) σ Γ H → vs.length = os.length →
  (∀ σ' Γ' H', post Γ' → Ho K F B0 τ T σ' Γ' H' → Q σ' H') → g vs σ H Q
/-- a list's parts, each by itself -/
theorem HW.spill {os : List O} {v : V} (h : HW K F B0 (v :: τ) (.ol os :: T) σ Γ H B S) : ∃ a vs S', v = .ref a ∧ H a = some (.lst vs) ∧ vs.length = os.length ∧ HW K F B0 (vs ++ τ) (os ++ T) σ Γ H B S' := by
  obtain ⟨S1, S2, c1, c2, c3, ro, w2⟩ := h.pop
  cases ro with
  | @ol _ S3 a vs _ ha hs hn hc rs =>
  have hl : vs.length = os.length := by have := RS.len rs; simpa using this
  refine ⟨a, vs, fun b => S3 b ∨ S2 b, rfl, hc, hl, w2.fr, w2.pu, w2.b0, fun b z => z.elim (fun z => h.ow b (c1 b (hs b z))) (fun z => h.ow b (c2 b z)), w2.nw, ?_, by simp [w2.lt, hl]⟩
  rw [List.map_append, List.map_append, List.append_assoc, List.append_assoc]
  exact RS.join w2.rs (fun b z => c3 b (hs b z)) rs
theorem gog_lunO {g : TGs} {n : Nat} (h : ∃ os, o = .ol os ∧ os.length = n ∧ GoGsO K F B0 g os T Γ posts1) : GoG K F B0 (gLst K n g) o T Γ posts1 := fun τ σ H v Q ⟨B, S, w⟩ k => by
  obtain ⟨os, rfl, hn, h⟩ := h
  obtain ⟨a, vs, S', rfl, hc, hl, w2⟩ := w.spill
  exact ⟨a, vs, rfl, SqL.of hc, by rw [hl, hn], h τ σ H vs Q ⟨_, _, w2⟩ hl k⟩
theorem gogso_nil (h : posts1 Γ) : GoGsO K F B0 gNil [] T Γ posts1 := fun τ σ H vs Q w hl k => by
  obtain rfl : vs = [] := List.length_eq_zero_iff.mp hl
  exact ⟨rfl, k σ Γ H h w⟩
theorem gogso_name {os : List O} {g : TGs} (hi : i < Γ.length) (h : GoGsO K F B0 g os T (Γ.set i (some o)) posts1) : GoGsO K F B0 (gCons (gName i) g) (o :: os) T Γ posts1 := fun τ σ H vs Q ⟨B, S, w⟩ hl k => by
  match vs, hl with
  | v :: vs, hl =>
    obtain ⟨S', w2⟩ := w.put hi
    exact ⟨v, vs, rfl, h τ _ H vs Q ⟨_, _, w2⟩ (by simpa using hl) k⟩
end
end SK
namespace SK
open PySem PySem.Spec PyProof.Rows L2
section
variable {K : PySem.W.Frag} {F B0 H B : Hp} {τ : List V} {T : List O} {σ : L2.St} {Γ : En} {S : Ad} {o : O} {i : Nat} {post : O → En → Prop} {td ty te : TE}
/-- d.get(k) -/
theorem go_dget1 (h : Go K F B0 td T Γ fun o Γ1 => ∃ kvs, o.fz = .dic kvs ∧ Go K F B0 ty (.d (.dic kvs) :: T) Γ1 fun ok Γ2 => ∃ k, ok = .d (kD k) ∧ post (.d ((dval kvs k).getD .non)) Γ2) :
    Go K F B0 (tDGet1 td ty) T Γ post := fun τ σ H Q hw kk =>
  h τ σ H _ hw fun v1 o1 Γ1 H1 ⟨kvs, e1, h1⟩ ⟨_, _, w1⟩ => by
    obtain ⟨B2, S2, w1, _⟩ := w1.fz
    rw [e1] at w1
    obtain ⟨r1, _⟩ := w1.popd
    cases r1 with | @dic a ws _ hd _ rk =>
    refine ⟨a, rfl, .inl ⟨ws, w1.pu.rd hd⟩, h1 _ σ H1 _ ⟨_, _, w1⟩ fun v2 o2 Γ2 H2 ⟨k, e2, h2⟩ ⟨_, _, w2⟩ => ?_⟩
    subst e2
    obtain ⟨r2, _, _, w4⟩ := w2.popd
    obtain ⟨r1, _, _, w5⟩ := w4.popd
    have ek := r2.kV
    subst ek
    cases r1 with | @dic _ ws2 _ hd2 _ rk2 =>
    refine ⟨valV ws2 k, .inl ⟨ws2, k, w5.pu.rd hd2, rfl, rfl⟩, ?_⟩
    rcases rk2.val (k := k) with ⟨u, z, q1, q2, r⟩ | ⟨q1, q2⟩
    · rw [q1]; rw [q2] at h2; exact kk _ _ _ _ h2 ⟨_, _, w5.pushd r⟩
    · rw [q1]; rw [q2] at h2; exact kk _ _ _ _ h2 ⟨_, _, w5.pushd .non⟩
end
end SK
namespace SK
open PySem PySem.Spec PyProof.Rows L2
/-- __init__ of two fields -/
def spX2 (K : PySem.W.Frag) (C : Addr) (f1 f2 : Str) : Sp := fun vs H Q _ => ∃ a y1 y2, vs = [.ref a, y1, y2] ∧ H a = some (exo a C none) ∧
  ∀ dx H', H dx = none → dx ≠ a → H' a = some (exo a C (some dx)) → H' dx = some (exd dx [(f2, y2), (f1, y1)]) → (∀ b, b ≠ a → b ≠ dx → H' b = H b) → Q .non H'
def tRaiseF (W : WX) (C : Addr) (sp : Sp) (ta : TA) : TS := fun _ σ H => tMkO C sp [] ta σ H fun cls d H' => W cls d σ H'
section
variable {K : PySem.W.Frag} {F B0 H B H' : Hp} {τ : List V} {T : List O} {σ : L2.St} {Γ : En} {S : Ad} {Dd : EG} {ta : TA} {te : TE} {post : O → En → Prop}
theorem HW.grow (w : HW K F B0 τ T σ Γ H B S) (e : Ex H H') : HW K F B0 τ T σ Γ H' B S :=
  ⟨w.fr.trans e, w.pu.trans e, w.b0, fun a z => ⟨(w.ow a z).1, (w.ow a z).2.1, fun q => (w.ow a z).2.2 (e.back q)⟩, w.nw, w.rs.tr (.refl B) (fun _ z => z) fun a u _ q => e a u q, w.lt⟩
/-- raise C(x1, x2) -/
theorem gos_raiseF {W : WX} {XX : Addr → Option (List (Str × D)) → En → Prop} {C : Addr} {f1 f2 : Str} (wx : ∀ Cc fs d σ Γ H, XX Cc fs Γ → HoX K F B0 σ Γ H d fs → W (.ref Cc) d σ H)
    (h : GoA K F B0 ta T Γ fun xs Γ1 => ∃ x1 x2, xs = [x1, x2] ∧ XX C (some [(f2, x2), (f1, x1)]) Γ1) : GoS K F B0 (tRaiseF W C (spX2 K C f1 f2) ta) T Γ Dd := fun τ σ H De hw s =>
  h τ σ H _ hw fun vs xs Γ1 H1 ⟨x1, x2, exs, hX⟩ ⟨B1, S1, w1⟩ hl => by
    subst exs
    obtain ⟨rl, S2, w⟩ := w1.args hl
    obtain ⟨v1, v2, rfl, r1, r2⟩ := rl.two
    refine ⟨Nat.le_of_ble_eq_true rfl, fun a ha => ⟨a, v1, v2, rfl, upd_same, fun dx H' hd ne e1 e2 e3 => ⟨rfl, dx, _, e1, e2, ?_, ?_⟩⟩⟩
    · rw [upd_ne ne] at hd; exact hd
    · rw [upd_ne ne] at hd
      have eH : upd (del H' a) dx (.xd [(f2, v2), (f1, v1)]) = upd H1 dx (.xd [(f2, v2), (f1, v1)]) := by
        funext b
        by_cases q1 : b = dx
        · subst q1; rw [upd_same, upd_same]
        · rw [upd_ne q1, upd_ne q1]
          by_cases q2 : b = a
          · subst q2; rw [del_same, ha]
          · rw [del_ne q2, e3 b q2 q1, upd_ne q2]
      rw [eH]
      exact wx C _ (some dx) σ Γ1 _ hX ⟨B1, _, (w.grow (Ex.new hd)).bareB, _, upd_same, .cons r2 (.cons r1 .nil)⟩
end
end SK
namespace SK
open PySem PySem.Spec PyProof.Rows L2
end SK
namespace SK
open PySem PySem.Spec PyProof.Rows L2
def tDUpd (td te : TE) : TE := fun σ H Q => td σ H fun x H1 => ∃ a, x = .ref a ∧ IsD H1 a ∧ te σ H1 fun y H2 => ∃ b kvs more, H2 a = some (.dK kvs) ∧ y = .ref b ∧ a ≠ b ∧ Rd H2 b (.dK more) ∧ kvs.length + more.length ≤ 100000 ∧ Q .non (upd H2 a (.dK (mergeK kvs more)))
section
variable {K : PySem.W.Frag} {F B0 H B : Hp} {τ : List V} {T : List O} {σ : L2.St} {Γ : En} {S : Ad} {i : Nat} {te : TE} {Dd : EG}
theorem RS.merge : ∀ {us : List (Key × V)} {more : List (Key × D)} {ws : List (Key × V)} {kvs : List (Key × O)}, RK K B us more → (kvs.map (·.1)).Nodup → ws.map (·.1) = kvs.map (·.1) → RS K B H S (ws.map fun p => some p.2) (kvs.map fun p => some p.2) →
    ((more.foldl (fun acc p => SK.dput acc p.1 (O.d p.2)) kvs).map (·.1)).Nodup ∧ (mergeK ws us).map (·.1) = (more.foldl (fun acc p => SK.dput acc p.1 (O.d p.2)) kvs).map (·.1) ∧ RS K B H S ((mergeK ws us).map fun p => some p.2) ((more.foldl (fun acc p => SK.dput acc p.1 (O.d p.2)) kvs).map fun p => some p.2)
  | [], _, ws, kvs, .nil, nd, e, rs => ⟨nd, e, rs⟩
  | (k, u) :: us, _, ws, kvs, .cons (x := x) (xs := xs) r t, nd, e, rs => by
    have r1 := RS.dput (k := k) (So := fun _ => False) (RO.d r : RO K B H (fun _ => False) u (.d x)) nd e rs (fun _ _ z => z)
    have r2 : RS K B H S ((SK.dput ws k u).map fun p => some p.2) ((SK.dput kvs k (O.d x)).map fun p => some p.2) := r1.tr (.refl B) (fun _ z => z.elim id False.elim) fun _ _ _ e => e
    have q := RS.merge t (SK.dput_nodup (k := k) (v := O.d x) nd) (SK.dput_keys (k := k) (v := u) (x := O.d x) e) r2
    rw [List.foldl_cons]
    have em : mergeK ws ((k, u) :: us) = mergeK (SK.dput ws k u) us := by
      show List.foldl _ (putK ws k u) us = _
      rw [putK_dput]; rfl
    rw [em]
    exact q
theorem gos_dupd (h : Go K F B0 te T Γ fun o Γ1 => ∃ more kvs, o.fz = .dic more ∧ Γ1[i]? = some (some (.od kvs)) ∧ kvs.length + more.length ≤ 100000 ∧ Dd.nx (Γ1.set i (some (.od (more.foldl (fun acc p => SK.dput acc p.1 (O.d p.2)) kvs))))) (h0 : ∃ kvs, Γ[i]? = some (some (.od kvs))) :
    GoS K F B0 (tDrop (tDUpd (tVar i) te)) T Γ Dd := fun τ σ H De hw s => by
  obtain ⟨B, S, w⟩ := hw
  obtain ⟨kvs0, e0⟩ := h0
  obtain ⟨v, S1, a1, r1, _, _⟩ := w.mut1 e0
  cases r1 with
  | @od _ _ a vs _ _ _ _ hc _ _ _ =>
  refine ⟨.ref a, a1, a, rfl, .inl ⟨_, .inl hc⟩, h τ σ H _ ⟨B, S, w⟩ fun v2 o2 Γ2 H2 ⟨more, kvs, ez, e2, hz, h2⟩ ⟨B2, S2, w2⟩ => ?_⟩
  obtain ⟨B3, S3, w3, r3, _⟩ := w2.fzd
  rw [ez] at r3
  cases r3 with
  | @dic b us _ hb nd2 rk =>
  obtain ⟨v', S5, a2, r2, _, f⟩ := w3.mut1 e2
  rw [a1] at a2
  cases a2
  cases r2 with
  | @od _ S4 _ ws _ ha hs hn hc2 nd ek rs =>
  have ne : a ≠ b := fun e => by
    subst e
    obtain ⟨v0, T1, T2, b1, b2, b3, b4, b5, _⟩ := w3.slot e2
    rw [a1] at b1
    cases b1
    cases b5 with
    | @od _ _ _ _ _ ha5 _ _ _ _ _ _ =>
    have q := (w3.ow _ (b2 _ ha5)).2.1
    rcases hb with hb | ⟨_, hb⟩ <;> · rw [q] at hb; cases hb
  have hl1 : ws.length = kvs.length := by have := congrArg List.length ek; simpa using this
  have hl2 : us.length = more.length := rk.length
  refine ⟨b, ws, us, hc2, rfl, ne, w3.pu.rd hb, by omega, ?_⟩
  obtain ⟨q1, q2, q3⟩ := RS.merge rk nd ek rs
  obtain ⟨S6, w6⟩ := f a (.dK (mergeK ws us)) (.od (more.foldl (fun acc p => SK.dput acc p.1 (O.d p.2)) kvs)) ha (.od (S' := S4) ha hs hn upd_same q1 q2 (q3.tr (.refl _) (fun _ z => z) fun c u hcc e => by rw [upd_ne (fun z : c = a => hn (z ▸ hcc))]; exact e))
  exact s.nx _ _ _ h2 ⟨_, _, w6⟩
end
end SK
namespace SK
open PySem PySem.Spec PyProof.Rows L2
def tIxO (K : PySem.W.Frag) (i : Nat) (ti : TE) : TE := tOp (rIxG K) (tVar i) ti
theorem pe_ixO {X : Cx} {K : PySem.W.Frag} {e : Expr} {i : Nat} {ti : TE} (h : PE X e (tOp (rIxG K) (tVar i) ti)) : PE X e (tIxO K i ti) := h
section
variable {K : PySem.W.Frag} {F B0 H B : Hp} {τ : List V} {T : List O} {σ : L2.St} {Γ : En} {S : Ad} {i : Nat} {ti : TE} {post : O → En → Prop}
theorem RS.getAt {n : Nat} {y : D} : ∀ {vs : List V} {xs : List O} {S : Ad}, RS K B H S (vs.map some) (xs.map some) → xs[n]? = some (.d y) → ∃ u, vs[n]? = some u ∧ R K B u y := fun {vs xs S} r h => by
  have h2 : (xs.map some)[n]? = some (some (O.d y)) := by rw [List.getElem?_map, h]; rfl
  obtain ⟨v, S1, S2, a, _, _, _, ro, _⟩ := r.focus h2
  rw [List.getElem?_map] at a
  cases e : vs[n]? with
  | none => rw [e] at a; cases a
  | some u => rw [e] at a; cases a; cases ro with | d r => exact ⟨_, rfl, r⟩
theorem go_ixO (e0 : ∃ xs, Γ[i]? = some (some (.ol xs))) (h : Go K F B0 ti T Γ fun o Γ1 => ∃ (n : Int) (xs : List O) (y : D), o = .d (.int n) ∧ Γ1[i]? = some (some (.ol xs)) ∧ atI xs n = some (.d y) ∧ post (.d y) Γ1) : Go K F B0 (tIxO K i ti) T Γ post := fun τ σ H Q ⟨B, S, w⟩ k => by
  obtain ⟨xs0, e0⟩ := e0
  obtain ⟨v, S1, a1, r1, _, _⟩ := w.mut1 e0
  cases r1 with
  | @ol _ _ a vs _ _ _ _ hc _ =>
  refine ⟨.ref a, a1, h τ σ H _ ⟨B, S, w⟩ fun v2 o2 Γ2 H2 ⟨n, xs, y, eo, e2, ex, hp⟩ ⟨B2, S2, w2⟩ => ?_⟩
  subst eo
  obtain ⟨r2, S3, _, w3⟩ := w2.popd
  cases r2
  obtain ⟨v', S5, a2, r3, _, f⟩ := w3.mut1 e2
  rw [a1] at a2
  cases a2
  cases r3 with
  | @ol _ S4 _ us _ ha hs hn hc2 rs =>
  have len : us.length = xs.length := by have := RS.len rs; simpa using this
  unfold atI at ex
  cases q : ixN xs.length n with
  | none => rw [q] at ex; cases ex
  | some j =>
    rw [q] at ex
    obtain ⟨u, hu, ru⟩ := RS.getAt rs ex
    have hu2 : atI us n = some u := by unfold atI; rw [len, q]; exact hu
    exact .inl (.inl ⟨a, us, n, u, rfl, rfl, SqL.of hc2, hu2, k _ _ _ _ hp ⟨_, _, w3.pushd ru⟩⟩)
end
end SK
namespace SK
open PySem PySem.Spec PyProof.Rows L2
def rEqN (K : PySem.W.Frag) : R2 := fun x y H Q => ∃ a b xs, x = .ref a ∧ y = .ref b ∧ SqL K H a xs ∧ SqL K H b [] ∧ Q (.bl xs.isEmpty) H
def rNeN (K : PySem.W.Frag) : R2 := fun x y H Q => ∃ a b xs, x = .ref a ∧ y = .ref b ∧ SqL K H a xs ∧ SqL K H b [] ∧ Q (.bl (!xs.isEmpty)) H
section
variable {K : PySem.W.Frag} {F B0 : Hp} {T : List O} {Γ : En} {post : O → En → Prop} {x : D} {xs : List D}
theorem RL.emp {B : Hp} {vs : List V} {xs : List D} (r : RL K B vs xs) : vs.isEmpty = xs.isEmpty := by cases r <;> rfl
theorem o2_eqN (q : x.seq? = some xs) (h : post (.d (.bl xs.isEmpty)) Γ) : Op2 K F B0 (rEqN K) x (.lst []) T Γ post := fun τ σ H B S v1 v2 Q w r1 r2 k => by
  obtain ⟨a, us, rfl, sq, rl⟩ := r1.seqL q
  obtain ⟨b, ws, rfl, sq2, rl2⟩ := r2.seqL rfl
  cases rl2
  exact ⟨a, b, us, rfl, rfl, w.pu.sqL sq, w.pu.sqL sq2, k _ _ _ _ h ⟨_, _, w.pushd (by rw [rl.emp]; exact .bl)⟩⟩
theorem o2_neN (q : x.seq? = some xs) (h : post (.d (.bl (!xs.isEmpty))) Γ) : Op2 K F B0 (rNeN K) x (.lst []) T Γ post := fun τ σ H B S v1 v2 Q w r1 r2 k => by
  obtain ⟨a, us, rfl, sq, rl⟩ := r1.seqL q
  obtain ⟨b, ws, rfl, sq2, rl2⟩ := r2.seqL rfl
  cases rl2
  exact ⟨a, b, us, rfl, rfl, w.pu.sqL sq, w.pu.sqL sq2, k _ _ _ _ h ⟨_, _, w.pushd (by rw [rl.emp]; exact .bl)⟩⟩
end
theorem emp_map {α β : Type} {f : α → β} {xs : List α} : (xs.map f).isEmpty = xs.isEmpty := by cases xs <;> rfl
end SK
namespace SK
open PySem PySem.Spec PyProof.Rows L2
theorem gos_sIF {K : PySem.W.Frag} {F B0 : Hp} {T : List O} {Γ : En} {Dd : EG} {tt : TT} {u t2 : TS} {W : WX} {C : Addr} {sp : Sp} {ta : TA} (h : GoS K F B0 (tIfS tt (tRaiseF W C sp ta) u) T Γ { Dd with nx := fun Γ1 => GoS K F B0 t2 T Γ1 Dd }) : GoS K F B0 (tSeq (tIfS tt (tRaiseF W C sp ta) u) t2) T Γ Dd := gos_seq h
end SK
namespace SK
open PySem PySem.Spec PyProof.Rows L2
def tTryAsE (K : PySem.W.Frag) (c : Value) (i : Nat) (ts : Addr → Value → Option Addr → TS) (Wout : WX) (tb : WX → TS) (u : TS) : TS := fun De σ H => tb (wAs K c i ts Wout De) { De with nx := u De } σ H
section
variable {K : PySem.W.Frag} {F B0 : Hp} {T : List O} {Γ : En} {Dd : EG} {c : Value} {ts : Addr → Value → Option Addr → TS} {Wout : WX} {tw : WX → TS} {u t2 : TS} {i : Nat}
theorem gos_sTAE (h : GoS K F B0 (tTryAsE K c i ts Wout tw u) T Γ { Dd with nx := fun Γ1 => GoS K F B0 t2 T Γ1 Dd }) : GoS K F B0 (tSeq (tTryAsE K c i ts Wout tw u) t2) T Γ Dd := gos_seq h
end
end SK
namespace SK
open PySem PySem.Spec PyProof.Rows L2
end SK
namespace SK
open PySem PySem.Spec PyProof.Rows L2
def tMake0 (C : Addr) : TE := fun σ H Q => ∀ x dx, H x = none → H dx = none → dx ≠ x → Q (.ref x) (upd (upd H dx (.own x)) x (.ins C dx []))
section
variable {K : PySem.W.Frag} {F B0 H H' B B' : Hp} {τ : List V} {T : List O} {σ : L2.St} {Γ : En} {post : O → En → Prop} {te tv : TE} {Ci Di : Addr} {S : Ad} {v : V} {x : D} {fs : List (Str × D)}
theorem go_make00 (h : post (.d (.ins Ci [])) Γ) : Go K F B0 (tMake0 Ci) T Γ post := fun τ σ H Q ⟨B, S, w⟩ k => by
  intro a dx ha hdx ne
  have ex : Ex H (upd (upd H dx (.own a)) a (.ins Ci dx [])) := fun b u e => by
    have n1 : b ≠ a := fun q => by rw [q, ha] at e; cases e
    have n2 : b ≠ dx := fun q => by rw [q, hdx] at e; cases e
    rw [upd_ne n1, upd_ne n2]; exact e
  refine k _ _ Γ _ h ⟨upd B a (.ins Ci dx []), _, w.push (S' := fun _ => False) ex (.of_ex (.new (w.pu.back ha))) (fun b u e => ?_) (fun b z => ?_) (fun _ z => z.elim) (.d (.ins upd_same .nil))⟩
  · by_cases q : b = a
    · subst q; rw [upd_same] at e ⊢; exact e
    · rw [upd_ne q] at e; exact ex b u (w.pu b u e)
  · by_cases q : b = a
    · subst q; exact .inr ha
    · rw [upd_ne q] at z; exact .inl z
structure InsX (K : PySem.W.Frag) (C : Addr) : Prop where
  cl : Cls K C
  ha : PySem.W.findIn K (.ref C) "__class__" = some (some (.builtin "object.__class__"))
  hn : PySem.W.specialIn K (.builtin "object.__class__") "__get__" = some (some (.builtin "getset_descriptor.__get__"))
  htk : PySem.W.takesIn K (.builtin "object.__class__") = some true
  hm : PySem.W.mroIn K C (.type "object") = some true
theorem oa_isiO {b : Bool} (c : InsX K Ci) (q : PySem.W.kitOne K (.ref Ci) (.ref Di) = some b) (h : post (.d (.bl b)) Γ) : OpA K F B0 (rIsiG K) [.ins Ci fs, .ref Di] T Γ post := fun τ σ H B S vs Q w rl k => by
  refine .inl ?_
  obtain ⟨v1, v2, rfl, r, r2⟩ := rl.two
  cases r2
  cases r with
  | ins hb rf => exact ⟨_, _, .ref Ci, .ref Di, b, rfl, .own Di, .base (.ins (w.pu _ _ hb) c.cl c.ha c.hn c.htk c.hm), q, k _ _ Γ H h ⟨_, _, w.pushd .bl⟩⟩
end
end SK
namespace SK
open PySem PySem.Spec PyProof.Rows L2
end SK
namespace SK
open PySem PySem.Spec PyProof.Rows L2
end SK
namespace SK
open PySem PySem.Spec PyProof.Rows L2
def tFrz (i : Nat) (s : TS) : TS := s
theorem gos_frzA {K : PySem.W.Frag} {F B0 : Hp} {T : List O} {Γ : En} {i : Nat} {s : TS} {o : O} {Dd : EG} (e : Γ[i]? = some (some o)) (h : GoS K F B0 s T (Γ.set i (some (.d o.fz))) Dd) : GoS K F B0 (tFrz i s) T Γ Dd := gos_frz i e h
end SK
namespace SK
open PySem PySem.Spec PyProof.Rows L2
def O.addr : O → Option Addr
  | .oi a _ _ => some a
  | .atA a _ => some a
  | _ => none
section
variable {K : PySem.W.Frag} {F B0 H H' B B' : Hp} {τ : List V} {T : List O} {σ : L2.St} {Γ Γv : En} {S S1 : Ad} {v w : V} {o o' o1 u : O} {i j : Nat} {a : Addr} {p : List Sel}
theorem RO.addr (r : RO K B H S v o) (h : o.addr = some a) : v = .ref a := by
  cases r <;> first | (cases h; rfl) | cases h
/-- whatever tells o tells o' -/
def Wkn (o o' : O) : Prop := ∀ (K : PySem.W.Frag) (B H : Hp) (S : Ad) (v : V), RO K B H S v o → RO K B H S v o'
theorem Wkn.refl (o : O) : Wkn o o := fun _ _ _ _ _ r => r
theorem Wkn.trans {o1 o2 o3 : O} (a : Wkn o1 o2) (b : Wkn o2 o3) : Wkn o1 o3 := fun K B H S v r => b K B H S v (a K B H S v r)
theorem wkn_ref (h : o.addr = some a) : Wkn o (.d (.ref a)) := fun K B H S v r => by
  cases r.addr h
  exact .d .ref
theorem wkn_un : Wkn (.atA a o) o := fun K B H S v r => by cases r with | atA r => exact r
theorem wkn_at (h : Wkn o o') : Wkn (.atA a o) (.atA a o') := fun K B H S v r => by cases r with | atA r => exact .atA (h _ _ _ _ _ r)
/-- a slot told weaker -/
theorem RS.wk1 (h : Wkn o o') : ∀ {σ : List (Option V)} {Γ : List (Option O)} {S : Ad} {i : Nat}, RS K B H S σ Γ → Γ[i]? = some (some o) → RS K B H S σ (Γ.set i (some o'))
  | _, some g :: Γ, _, 0, .cons s1 s2 d r t, e => by
    cases e
    exact .cons s1 s2 d (h _ _ _ _ _ r) t
  | _, some _ :: Γ, _, i + 1, .cons s1 s2 d r t, e => .cons s1 s2 d r (t.wk1 h (by simpa using e))
  | _, none :: Γ, _, i + 1, .un r, e => .un (r.wk1 h (by simpa using e))
  | _, none :: _, _, 0, .un _, e => by cases e
theorem RS.items {xs : List O} (h : xs[i]? = some o) (w : Wkn o o') {σ : List (Option V)} (r : RS K B H S σ (xs.map some)) : RS K B H S σ ((xs.set i o').map some) := by
  rw [List.map_set]
  exact r.wk1 w (by rw [List.getElem?_map, h]; rfl)
theorem lookI {fs : List (Str × O)} {f : Str} (h : fs.lookup f = some o) : ∃ i : Nat, fs[i]? = some (f, o) ∧ ∀ y, SK.fput f y fs = fs.set i (f, y) := by
  induction fs with
  | nil => cases h
  | cons p r ih =>
    obtain ⟨g, z⟩ := p
    rw [List.lookup_cons] at h
    cases q : f == g with
    | true =>
      rw [q] at h; cases h
      have : f = g := by simpa using q
      subst this
      exact ⟨0, rfl, fun y => by unfold SK.fput; rw [if_pos rfl]; rfl⟩
    | false =>
      rw [q] at h
      have n : ¬ g = f := fun z => by subst z; simp at q
      obtain ⟨i, h1, h2⟩ := ih h
      exact ⟨i + 1, by simpa using h1, fun y => by unfold SK.fput; rw [if_neg n, h2 y]; rfl⟩
theorem kvalI {kvs : List (Key × O)} {k : Key} (nd : (kvs.map (·.1)).Nodup) (h : kval kvs k = some o) : ∃ i : Nat, kvs[i]? = some (k, o) ∧ ∀ y, SK.dput kvs k y = kvs.set i (k, y) := by
  obtain ⟨i, u, h1, _, _, h4⟩ := kval2 (ws := kvs.map fun p => (p.1, V.non)) (kvs := kvs) nd (by rw [List.map_map]; rfl) h
  exact ⟨i, h1, h4⟩
theorem wkn_set0 {s : Sel} (nat : ∀ a u, o ≠ .atA a u) (g : o.get1 s = some u) (w : Wkn u o') : Wkn o (o.set1 o' s) := fun K B H S v r => by
  cases r with
  | d r => cases s <;> cases g
  | ot => cases s <;> cases g
  | atA => exact absurd rfl (nat _ _)
  | @ol _ S4 a vs xs ha hs hn hc rs =>
    cases s with
    | idx n => exact .ol ha hs hn hc (rs.items (by exact g) w)
    | _ => cases g
  | @op _ a vs xs h rs =>
    cases s with
    | idx n => exact .op h (rs.items (by exact g) w)
    | _ => cases g
  | @od _ S4 a ws kvs ha hs hn hc nd ek rs =>
    cases s with
    | key k =>
      obtain ⟨n, h1, h2⟩ := kvalI nd (show kval kvs k = some u from g)
      show RO K B H S _ (.od (SK.dput kvs k o'))
      rw [h2]
      have e1 : (kvs.set n (k, o')).map (·.1) = kvs.map (·.1) := by
        rw [List.map_set]
        exact set_same' (by rw [List.getElem?_map, h1]; rfl)
      refine .od ha hs hn hc (by rw [e1]; exact nd) (by rw [e1]; exact ek) ?_
      rw [List.map_set]
      exact rs.wk1 w (by rw [List.getElem?_map, h1]; rfl)
    | _ => cases g
  | @oi _ S4 a dx C ws kvs ha hd hs hn hn2 ne hca hcd ek rs =>
    cases s with
    | fld f =>
      obtain ⟨n, h1, h2⟩ := lookI (show kvs.lookup f = some u from g)
      show RO K B H S _ (.oi a C (SK.fput f o' kvs))
      rw [h2]
      have e1 : (kvs.set n (f, o')).map (·.1) = kvs.map (·.1) := by
        rw [List.map_set]
        exact set_same' (by rw [List.getElem?_map, h1]; rfl)
      refine .oi ha hd hs hn hn2 ne hca hcd (by rw [e1]; exact ek) ?_
      rw [List.map_set]
      exact rs.wk1 w (by rw [List.getElem?_map, h1]; rfl)
    | _ => cases g
theorem wkn_set1 {s : Sel} (w : Wkn u o') : ∀ {o : O}, o.get1 s = some u → Wkn o (o.set1 o' s)
  | .atA a o, g => by
    by_cases hs : s = .un
    · subst hs
      cases (show some o = some u from g)
      exact wkn_at w
    have g' : o.get1 s = some u := by cases s <;> first | exact g | exact absurd rfl hs
    have e := wkn_at (a := a) (wkn_set1 (o := o) w g')
    cases s <;> first | exact e | exact absurd rfl hs
  | .d _, g => wkn_set0 (fun _ _ z => by cases z) g w
  | .ol _, g => wkn_set0 (fun _ _ z => by cases z) g w
  | .od _, g => wkn_set0 (fun _ _ z => by cases z) g w
  | .ot _, g => wkn_set0 (fun _ _ z => by cases z) g w
  | .oi _ _ _, g => wkn_set0 (fun _ _ z => by cases z) g w
  | .op _, g => wkn_set0 (fun _ _ z => by cases z) g w
/-- a part told weaker -/
theorem wkn_setP (w : Wkn u o') : ∀ {p : List Sel} {o : O}, o.getP p = some u → Wkn o (o.setP o' p)
  | [], o, g => by cases g; exact w
  | s :: p, o, g => by
    unfold O.getP at g
    cases e : o.get1 s with
    | none => rw [e] at g; cases g
    | some z =>
      rw [e] at g
      unfold O.setP
      rw [e]
      exact wkn_set1 (wkn_setP w g) e
/-- a part of a thing -/
theorem RS.part : ∀ {σ : List (Option V)} {Γ : List (Option O)} {S : Ad} {i : Nat}, RS K B H S σ Γ → Γ[i]? = some (some o) → ∃ v S1, σ[i]? = some (some v) ∧ (∀ b, S1 b → S b) ∧ RO K B H S1 v o
  | _, some g :: Γ, S, 0, .cons s1 s2 d r t, e => by cases e; exact ⟨_, _, rfl, s1, r⟩
  | _, some _ :: Γ, S, i + 1, .cons s1 s2 d r t, e => by
    obtain ⟨v, S1, a1, a2, a3⟩ := t.part (i := i) (by simpa using e)
    exact ⟨v, S1, by simpa using a1, fun b z => s2 b (a2 b z), a3⟩
  | _, none :: Γ, S, i + 1, .un r, e => by
    obtain ⟨v, S1, a1, a2, a3⟩ := r.part (i := i) (by simpa using e)
    exact ⟨v, S1, by simpa using a1, a2, a3⟩
  | _, none :: _, _, 0, .un _, e => by cases e
theorem RO.part1 {s : Sel} : ∀ {o : O} {S : Ad} {v : V}, RO K B H S v o → o.get1 s = some u → ∃ v1 S1, (∀ b, S1 b → S b) ∧ RO K B H S1 v1 u
  | .atA a o, S, v, r, g => by
    cases r with
    | atA r =>
    by_cases hs : s = .un
    · subst hs; cases (show some o = some u from g); exact ⟨_, S, fun _ z => z, r⟩
    have g' : o.get1 s = some u := by cases s <;> first | exact g | exact absurd rfl hs
    exact RO.part1 (o := o) r g'
  | .d _, _, _, r, g => by cases s <;> cases g
  | .ot _, _, _, r, g => by cases s <;> cases g
  | .ol xs, S, v, r, g => by
    cases r with
    | ol ha hs hn hc rs =>
      cases s with
      | idx n =>
        obtain ⟨v1, S1, _, a2, a3⟩ := rs.part (i := n) (by rw [List.getElem?_map, show xs[n]? = some u from g]; rfl)
        exact ⟨v1, S1, fun b z => hs b (a2 b z), a3⟩
      | _ => cases g
  | .op xs, S, v, r, g => by
    cases r with
    | op h rs =>
      cases s with
      | idx n =>
        obtain ⟨v1, S1, _, a2, a3⟩ := rs.part (i := n) (by rw [List.getElem?_map, show xs[n]? = some u from g]; rfl)
        exact ⟨v1, S1, a2, a3⟩
      | _ => cases g
  | .od kvs, S, v, r, g => by
    cases r with
    | od ha hs hn hc nd ek rs =>
      cases s with
      | key k =>
        obtain ⟨n, h1, _⟩ := kvalI nd (show kval kvs k = some u from g)
        obtain ⟨v1, S1, _, a2, a3⟩ := rs.part (i := n) (by rw [List.getElem?_map, h1]; rfl)
        exact ⟨v1, S1, fun b z => hs b (a2 b z), a3⟩
      | _ => cases g
  | .oi a C fs, S, v, r, g => by
    cases r with
    | oi ha hd hs hn hn2 ne hca hcd ek rs =>
      cases s with
      | fld f =>
        obtain ⟨n, h1, _⟩ := lookI (show fs.lookup f = some u from g)
        obtain ⟨v1, S1, _, a2, a3⟩ := rs.part (i := n) (by rw [List.getElem?_map, h1]; rfl)
        exact ⟨v1, S1, fun b z => hs b (a2 b z), a3⟩
      | _ => cases g
theorem RO.partP : ∀ {p : List Sel} {o : O} {S : Ad} {v : V}, RO K B H S v o → o.getP p = some u → ∃ v1 S1, (∀ b, S1 b → S b) ∧ RO K B H S1 v1 u
  | [], o, S, v, r, g => by cases g; exact ⟨v, S, fun _ z => z, r⟩
  | s :: p, o, S, v, r, g => by
    unfold O.getP at g
    cases e : o.get1 s with
    | none => rw [e] at g; cases g
    | some z =>
      rw [e] at g
      obtain ⟨v1, S1, h1, h2⟩ := r.part1 e
      obtain ⟨v2, S2, h3, h4⟩ := RO.partP h2 g
      exact ⟨v2, S2, fun b z => h1 b (h3 b z), h4⟩
/-- data that the slots may be taken for while all owned things are read alone -/
def Views (Γ Γv : En) : Prop := ∀ (K : PySem.W.Frag) (B H Bf : Hp) (S : Ad) (σ : List (Option V)), RS K B H S σ Γ → BLe B Bf → (∀ a u, S a → H a = some u → Bf a = some u) → RS K Bf H (fun _ => False) σ Γv
theorem views_fz : Views Γ (fzE Γ) := fun K B H Bf S σ r le k => RS.fzE (S := S) le k r
theorem views_up (ej : Γ[j]? = some (some (.d (.ref a)))) (ei : Γ[i]? = some (some o)) (g : o.getP p = some o1) (ha : o1.addr = some a) (w : Wkn o1 u) (h : Views Γ Γv) : Views Γ (Γv.set j (some (.d u.fz))) := fun K B H Bf S σ r le k => by
  have rv := h K B H Bf S σ r le k
  obtain ⟨vj, _, a1, _, rj⟩ := r.part ej
  have e1 : vj = .ref a := by cases rj with | d rj => cases rj; rfl
  subst e1
  obtain ⟨v, S1, _, s1, r1⟩ := r.part ei
  obtain ⟨v1, S2, s2, r2⟩ := r1.partP g
  cases r2.addr ha
  have rz := (w _ _ _ _ _ r2).fz le fun a u z e => k a u (s1 a (s2 a z)) e
  by_cases hj : j < Γv.length
  · have q := RS.put (i := j) (v := some (.ref a)) (o := some (.d u.fz)) (S1 := fun _ => False) rv hj (fun _ z => z.elim) fun x e => by cases e; exact ⟨_, rfl, .d rz⟩
    rw [set_same a1] at q
    exact q.tr (.refl Bf) (fun b z => z.elim id id) fun _ _ _ e => e
  · rw [List.set_eq_of_length_le (by omega)]; exact rv
/-- a part of a slot for all the slot -/
theorem views_at (ei : Γ[i]? = some (some o)) (w : Wkn o o') (h : Views Γ Γv) : Views Γ (Γv.set i (some (.d o'.fz))) := fun K B H Bf S σ r le k => by
  have rv := h K B H Bf S σ r le k
  obtain ⟨v, S1, a1, s1, r1⟩ := r.part ei
  have rz := (w _ _ _ _ _ r1).fz le fun a u z e => k a u (s1 a z) e
  by_cases hj : i < Γv.length
  · have q := RS.put (i := i) (v := some v) (o := some (.d o'.fz)) (S1 := fun _ => False) rv hj (fun _ z => z.elim) fun x e => by cases e; exact ⟨_, rfl, .d rz⟩
    rw [set_same a1] at q
    exact q.tr (.refl Bf) (fun b z => z.elim id id) fun _ _ _ e => e
  · rw [List.set_eq_of_length_le (by omega)]; exact rv
end
end SK
namespace SK
open PySem PySem.Spec PyProof.Rows L2
section
variable {K : PySem.W.Frag} {F B0 H B H' B' : Hp} {τ : List V} {T : List O} {σ : L2.St} {Γ Γv Γw : En} {S S1 : Ad} {v w : V} {o oe o1 o' u : O} {i j : Nat} {a : Addr} {p : List Sel} {te tv ti : TE} {tt : TT} {post : O → En → Prop} {postt : Bool → En → Prop} {posts1 : En → Prop} {Dd : EG} {P : O → Prop}
theorem HW.lendV (hv : Views Γ Γv) (w : HW K F B0 τ T σ Γ H B S) : ∃ Bf, Ho K H Bf [] [] σ Γv H ∧
    (∀ Γ1 H1, Ho K H Bf [] [] σ Γ1 H1 → Ho K F B0 τ T σ Γ H1) ∧
    ∀ v' o' Γ1 H1, Ho K H Bf [v'] [o'] σ Γ1 H1 → o'.lf = true → Ho K F B0 (v' :: τ) (o' :: T) σ Γ H1 := by
  obtain ⟨Sp, Ss, p1, p2, p3, rp, rsl⟩ := RS.split (σ0 := τ.map some) (Γ0 := T.map some) (by simp [w.lt]) w.rs
  obtain ⟨L, l1, r2, l3⟩ := rsl.tight
  have bn : ∀ a, L a → B a = none ∧ H a ≠ none := fun a z => (w.ow a (p2 a (l1 a z))).2
  have ex : Ex B (SK.frz B H L) := frz_ex fun a z => (bn a z).1
  have le0 : BLe B (SK.frz B H L) := .of_ex ex
  have main : ∀ v' o' Γ1 H1, Ho K H (SK.frz B H L) [v'] [o'] σ Γ1 H1 → o'.lf = true → Ho K F B0 (v' :: τ) (o' :: T) σ Γ H1 := by
    intro v' o' Γ1 H1 ⟨B1, Sr, w1⟩ lf
    obtain ⟨T1, T2, t1, t2, dj, ro, _⟩ := w1.pop
    have hB : ∀ a u, B a = some u → ¬ L a := fun a u q z => by rw [(bn a z).1] at q; cases q
    have off : ∀ a u, ¬ L a → B1 a = some u → offH B1 L a = some u := fun a u z q => by rw [offH_no z]; exact q
    have offR : ∀ a u, ¬ L a → Rd B1 a u → Rd (offH B1 L) a u := fun a u z q => q.elim (fun q => .inl (off a _ z q)) fun ⟨o, q⟩ => .inr ⟨o, off a _ z q⟩
    have nL : ∀ a u, Rd B a u → ¬ L a := fun a u q => q.elim (hB a _) fun ⟨o, q⟩ => hB a _ q
    have le : BLe B (offH B1 L) := by
      have l := le0.trans w1.b0
      exact ⟨fun a xs q => offR a _ (nL a _ q) (l.tup a xs q), fun a xs q => offR a _ (nL a _ q) (l.lst a xs q), fun a xs q => off a _ (hB a _ q) (l.ls a xs q), fun a xs q => offR a _ (nL a _ q) (l.dK a xs q), fun a xs q => offR a _ (nL a _ q) (l.dT a xs q), fun a C dx fs q => off a _ (hB a _ q) (l.ins a C dx fs q)⟩
    have pu : Ex (offH B1 L) H1 := fun a u q => by
      by_cases z : L a
      · rw [offH_at z] at q; cases q
      · rw [offH_no z] at q; exact w1.pu a u q
    have sq : ∀ a xs, SqT K B1 a xs → SqT K (offH B1 L) a xs := fun a xs q => q.imp (fun q => by
      refine offR a _ (fun z => ?_) q
      have q2 : ∃ u, B1 a = some u ∧ (u = .tup xs ∨ ∃ o, u = .frz o (.tup xs)) := q.elim (fun q => ⟨_, q, .inl rfl⟩) fun ⟨o, q⟩ => ⟨_, q, .inr ⟨o, rfl⟩⟩
      obtain ⟨u, q3, q4⟩ := q2
      have q5 := w1.pu a u q3
      rcases l3 a z with ⟨_, y⟩ | ⟨_, y⟩ | ⟨_, y⟩ | ⟨_, _, _, y⟩ | ⟨_, y⟩ <;>
        (rw [w1.fr a _ y] at q5
         cases q5
         rcases q4 with q4 | ⟨_, q4⟩ <;> cases q4)) id
    refine ⟨offH B1 L, fun a => T1 a ∨ S a, w.fr.trans w1.fr, pu, w.b0.trans le, fun a z => ?_, fun a z => ?_, .cons (S1 := T1) (S2 := S) (fun _ z => .inl z) (fun _ z => .inr z) (fun a z y => ?_) (ro.lf sq lf) (w.rs.tr le (fun _ z => z) fun a u _ q => w1.fr a u q), by simp [w.lt]⟩
    · rcases z with z | z
      · obtain ⟨q1, q2, q3⟩ := w1.ow a (t1 a z)
        refine ⟨w.fr.back q1, ?_, q3⟩
        by_cases y : L a
        · exact offH_at y
        · rw [offH_no y]; exact q2
      · obtain ⟨q1, q2, q3⟩ := w.ow a z
        refine ⟨q1, ?_, fun q => q3 (w1.fr.back q)⟩
        by_cases y : L a
        · exact offH_at y
        · rw [offH_no y]
          cases q : B1 a with
          | none => rfl
          | some u =>
            rcases w1.nw a (by rw [q]; simp) with x | x
            · rw [frz_no y] at x; exact absurd q2 x
            · exact absurd x q3
    · by_cases y : L a
      · exact absurd (offH_at y) z
      · rw [offH_no y] at z
        rcases w1.nw a z with x | x
        · rw [frz_no y] at x; exact w.nw a x
        · exact .inr (w.fr.back x)
    · exact (w.ow a y).2.2 (w1.ow a (t1 a z)).1
  refine ⟨SK.frz B H L, ⟨SK.frz B H L, fun _ => False, .refl H, fun a u q => ?_, .refl _, fun _ z => z.elim, fun _ z => .inl z, ?_, rfl⟩, fun Γ1 H1 ⟨B1, S1, w1⟩ => ?_, main⟩
  · by_cases z : L a
    · rw [frz_at z] at q; exact q
    · rw [frz_no z] at q; exact w.pu a u q
  · exact hv K B H _ L σ r2 le0 (fun a u z q => by rw [frz_at z]; exact q)
  · obtain ⟨B2, S2, w2⟩ := main .non (.d .non) Γ1 H1 ⟨_, _, w1.pushd .non⟩ rfl
    obtain ⟨_, _, _, _, _, _, w3⟩ := w2.pop
    exact ⟨_, _, w3⟩
theorem go_lendV (hv : Views Γ Γv) (h : ∀ F' B', Go K F' B' te [] Γv fun o' _ => o'.lf = true ∧ post o' Γ) : Go K F B0 te T Γ post := fun τ σ H Q ⟨B, S, w⟩ k => by
  obtain ⟨Bf, w0, _, back⟩ := w.lendV hv
  exact h H Bf [] σ H _ w0 fun v o' Γ1 H1 ⟨lf, hp⟩ how => k v o' Γ H1 hp (back v o' Γ1 H1 how lf)
theorem got_lendV (hv : Views Γ Γv) (h : ∀ F' B', GoT K F' B' tt [] Γv fun b _ => postt b Γ) : GoT K F B0 tt T Γ postt := fun τ σ H Q ⟨B, S, w⟩ k => by
  obtain ⟨Bf, w0, back, _⟩ := w.lendV hv
  exact h H Bf [] σ H _ w0 fun b Γ1 H1 hp how => k b Γ H1 hp (back Γ1 H1 how)
/-- a value by a view -/
theorem HW.evL {Q : VK} (hv : Views Γ Γv) (h : ∀ F' B', Go K F' B' te [] Γv fun o _ => o.lf = true ∧ P o) (w : HW K F B0 τ T σ Γ H B S)
    (k : ∀ v o H1 B1 S1, Ex H H1 → P o → HW K F B0 (v :: τ) (o :: T) σ Γ H1 B1 S1 → Q v H1) : te σ H Q := by
  obtain ⟨Bf, w0, _, back⟩ := w.lendV hv
  exact h H Bf [] σ H _ w0 fun v o' Γ1 H1 ⟨lf, hp⟩ how => by
    obtain ⟨B1, S1, w1⟩ := back v o' Γ1 H1 how lf
    exact k v o' H1 B1 S1 how.choose_spec.choose_spec.fr hp w1
/-- an address by a view -/
theorem HW.evA {Q : VK} (hv : Views Γ Γv) (h : ∀ F' B', Go K F' B' te [] Γv fun o _ => o = .d (.ref a)) (w : HW K F B0 τ T σ Γ H B S)
    (k : ∀ H1 B1 S1, Ex H H1 → HW K F B0 τ T σ Γ H1 B1 S1 → Q (.ref a) H1) : te σ H Q :=
  HW.evL (P := fun o => o = .d (.ref a)) hv (fun F' B' τ σ H Q hw k => h F' B' τ σ H Q hw fun v o Γ' H' e w => k v o Γ' H' ⟨by rw [e]; rfl, e⟩ w) w fun v o H1 B1 S1 ex e w1 => by
    subst e
    obtain ⟨r, S2, _, w2⟩ := w1.popd
    cases r
    exact k H1 B1 S2 ex w2
/-- a part of a thing, and any other one in its place -/
theorem RO.foc0 {s : Sel} (nat : ∀ a u, o ≠ .atA a u) (r : RO K B H S v o) (g : o.get1 s = some o1) : ∃ (v1 : V) (S1 S2 : Ad), (∀ b, S1 b → S b) ∧ (∀ b, S2 b → S b) ∧ (∀ b, S1 b → ¬ S2 b) ∧ RO K B H S1 v1 o1 ∧
    ∀ B' H' S1' y, BLe B B' → (∀ b u, S2 b → H b = some u → H' b = some u) → (∀ b, S1' b → ¬ S2 b) → RO K B' H' S1' v1 y → RO K B' H' (fun b => S1' b ∨ S2 b) v (o.set1 y s) := by
  cases r with
  | d r => cases s <;> cases g
  | ot => cases s <;> cases g
  | atA => exact absurd rfl (nat _ _)
  | @op _ a vs xs h rs =>
    cases s with
    | idx n =>
      have g : xs[n]? = some o1 := g
      obtain ⟨u, U1, U2, c1, c2, c3, c4, ru, f⟩ := rs.focus (i := n) (o := o1) (by rw [List.getElem?_map, g]; rfl)
      refine ⟨u, U1, U2, c2, c3, c4, ru, fun B' H' S1' y eb k' dj ry => ?_⟩
      have q := f B' H' S1' (some u) (some y) eb k' dj (fun x e => by cases e; exact ⟨u, rfl, ry⟩)
      rw [set_same c1, ← List.map_set] at q
      exact .op (eb.sqT h) q
    | _ => cases g
  | @ol _ S4 a vs xs ha hs hn hc rs =>
    cases s with
    | idx n =>
      have g : xs[n]? = some o1 := g
      obtain ⟨u, U1, U2, c1, c2, c3, c4, ru, f⟩ := rs.focus (i := n) (o := o1) (by rw [List.getElem?_map, g]; rfl)
      refine ⟨u, U1, fun b => b = a ∨ U2 b, fun b z => hs b (c2 b z), fun b z => z.elim (fun e => e ▸ ha) fun z => hs b (c3 b z), fun b z y => y.elim (fun e => hn (e ▸ c2 b z)) (c4 b z), ru, fun B' H' S1' y eb k' dj ry => ?_⟩
      have q := f B' H' S1' (some u) (some y) eb (fun b x z => k' b x (.inr z)) (fun b z w => dj b z (.inr w)) (fun x e => by cases e; exact ⟨u, rfl, ry⟩)
      rw [set_same c1, ← List.map_set] at q
      exact .ol (S' := fun b => S1' b ∨ U2 b) (.inr (.inl rfl)) (fun b z => z.imp id .inr) (fun z => z.elim (fun z => dj a z (.inl rfl)) fun z => hn (c3 a z)) (k' a _ (.inl rfl) hc) q
    | _ => cases g
  | @od _ S4 a ws kvs ha hs hn hc nd ek rs =>
    cases s with
    | key k =>
      obtain ⟨n, g1, g4⟩ := kvalI nd (show kval kvs k = some o1 from g)
      obtain ⟨u, U1, U2, c1, c2, c3, c4, ru, f⟩ := rs.focus (i := n) (o := o1) (by rw [List.getElem?_map, g1]; rfl)
      refine ⟨u, U1, fun b => b = a ∨ U2 b, fun b z => hs b (c2 b z), fun b z => z.elim (fun e => e ▸ ha) fun z => hs b (c3 b z), fun b z y => y.elim (fun e => hn (e ▸ c2 b z)) (c4 b z), ru, fun B' H' S1' y eb k' dj ry => ?_⟩
      have q := f B' H' S1' (some u) (some y) eb (fun b x z => k' b x (.inr z)) (fun b z w => dj b z (.inr w)) (fun x e => by cases e; exact ⟨u, rfl, ry⟩)
      have e2 : (kvs.map fun p => some p.2).set n (some y) = (SK.dput kvs k y).map fun p => some p.2 := by rw [g4 y, List.map_set]
      rw [set_same c1, e2] at q
      have e3 : (SK.dput kvs k y).map (·.1) = kvs.map (·.1) := by
        rw [g4 y, List.map_set]
        exact set_same' (by rw [List.getElem?_map, g1]; rfl)
      exact .od (S' := fun b => S1' b ∨ U2 b) (.inr (.inl rfl)) (fun b z => z.imp id .inr) (fun z => z.elim (fun z => dj a z (.inl rfl)) fun z => hn (c3 a z)) (k' a _ (.inl rfl) hc) (by rw [e3]; exact nd) (by rw [e3]; exact ek) q
    | _ => cases g
  | @oi _ S4 a dx C ws kvs ha hd hs hn hn2 ne hca hcd ek rs =>
    cases s with
    | fld f0 =>
      obtain ⟨n, g1, g4⟩ := lookI (show kvs.lookup f0 = some o1 from g)
      obtain ⟨u, U1, U2, c1, c2, c3, c4, ru, f⟩ := rs.focus (i := n) (o := o1) (by rw [List.getElem?_map, g1]; rfl)
      refine ⟨u, U1, fun b => (b = a ∨ b = dx) ∨ U2 b, fun b z => hs b (c2 b z), fun b z => z.elim (fun e => e.elim (fun e => e ▸ ha) fun e => e ▸ hd) fun z => hs b (c3 b z), fun b z y => y.elim (fun e => e.elim (fun e => hn (e ▸ c2 b z)) fun e => hn2 (e ▸ c2 b z)) (c4 b z), ru, fun B' H' S1' y eb k' dj ry => ?_⟩
      have q := f B' H' S1' (some u) (some y) eb (fun b x z => k' b x (.inr z)) (fun b z w => dj b z (.inr w)) (fun x e => by cases e; exact ⟨u, rfl, ry⟩)
      have e2 : (kvs.map fun p => some p.2).set n (some y) = (SK.fput f0 y kvs).map fun p => some p.2 := by rw [g4 y, List.map_set]
      rw [set_same c1, e2] at q
      have e3 : (SK.fput f0 y kvs).map (·.1) = kvs.map (·.1) := by
        rw [g4 y, List.map_set]
        exact set_same' (by rw [List.getElem?_map, g1]; rfl)
      exact .oi (S' := fun b => S1' b ∨ U2 b) (.inr (.inl (.inl rfl))) (.inr (.inl (.inr rfl))) (fun b z => z.imp id .inr) (fun z => z.elim (fun z => dj a z (.inl (.inl rfl))) fun z => hn (c3 a z)) (fun z => z.elim (fun z => dj dx z (.inl (.inr rfl))) fun z => hn2 (c3 dx z)) ne
        (k' a _ (.inl (.inl rfl)) hca) (k' dx _ (.inl (.inr rfl)) hcd) (by rw [e3]; exact ek) q
    | _ => cases g
theorem RO.foc1 {s : Sel} : ∀ {o : O} {S : Ad} {v : V}, RO K B H S v o → o.get1 s = some o1 → ∃ (v1 : V) (S1 S2 : Ad), (∀ b, S1 b → S b) ∧ (∀ b, S2 b → S b) ∧ (∀ b, S1 b → ¬ S2 b) ∧ RO K B H S1 v1 o1 ∧
    ∀ B' H' S1' y, BLe B B' → (∀ b u, S2 b → H b = some u → H' b = some u) → (∀ b, S1' b → ¬ S2 b) → RO K B' H' S1' v1 y → RO K B' H' (fun b => S1' b ∨ S2 b) v (o.set1 y s)
  | .atA a o, S, v, r, g => by
    cases r with
    | atA r =>
      by_cases hs : s = .un
      · subst hs
        cases (show some o = some o1 from g)
        exact ⟨.ref a, S, fun _ => False, fun _ z => z, fun _ z => z.elim, fun _ _ z => z, r, fun B' H' S1' y eb k dj ry => .atA (ry.tr (.refl B') (fun _ z => .inl z) fun _ _ _ e => e)⟩
      have g' : o.get1 s = some o1 := by cases s <;> first | exact g | exact absurd rfl hs
      obtain ⟨v1, S1, S2, h2, h3, h4, h5, h6⟩ := RO.foc1 (o := o) r g'
      refine ⟨v1, S1, S2, h2, h3, h4, h5, fun B' H' S1' y eb k dj ry => ?_⟩
      have e : (O.atA a o).set1 y s = .atA a (o.set1 y s) := by cases s <;> first | rfl | exact absurd rfl hs
      rw [e]
      exact .atA (h6 B' H' S1' y eb k dj ry)
  | .d _, _, _, r, g => RO.foc0 (fun _ _ z => by cases z) r g
  | .ol _, _, _, r, g => RO.foc0 (fun _ _ z => by cases z) r g
  | .od _, _, _, r, g => RO.foc0 (fun _ _ z => by cases z) r g
  | .ot _, _, _, r, g => RO.foc0 (fun _ _ z => by cases z) r g
  | .oi _ _ _, _, _, r, g => RO.foc0 (fun _ _ z => by cases z) r g
  | .op _, _, _, r, g => RO.foc0 (fun _ _ z => by cases z) r g
theorem RO.focP : ∀ {p : List Sel} {S : Ad} {v : V} {o : O}, RO K B H S v o → o.getP p = some o1 → ∃ (v1 : V) (S1 S2 : Ad), (∀ b, S1 b → S b) ∧ (∀ b, S2 b → S b) ∧ (∀ b, S1 b → ¬ S2 b) ∧ RO K B H S1 v1 o1 ∧
    ∀ B' H' S1' y, BLe B B' → (∀ b u, S2 b → H b = some u → H' b = some u) → (∀ b, S1' b → ¬ S2 b) → RO K B' H' S1' v1 y → RO K B' H' (fun b => S1' b ∨ S2 b) v (o.setP y p)
  | [], S, v, o, r, g => by
    cases g
    exact ⟨v, S, fun _ => False, fun _ z => z, fun _ z => z.elim, fun _ _ z => z, r, fun B' H' S1' y _ _ _ ry => ry.tr (.refl B') (fun _ z => .inl z) fun _ _ _ e => e⟩
  | s :: p, S, v, o, r, g => by
    unfold O.getP at g
    cases e : o.get1 s with
    | none => rw [e] at g; cases g
    | some u =>
      rw [e] at g
      obtain ⟨v1, S1, S2, h2, h3, h4, h5, h6⟩ := r.foc1 e
      obtain ⟨v2, T1, T2, k2, k3, k4, k5, k6⟩ := RO.focP h5 g
      refine ⟨v2, T1, fun b => T2 b ∨ S2 b, fun b z => h2 b (k2 b z), fun b z => z.elim (fun z => h2 b (k3 b z)) (h3 b), fun b z y => y.elim (k4 b z) (h4 b (k2 b z)), k5, fun B' H' S1' y eb k dj ry => ?_⟩
      have q1 := k6 B' H' S1' y eb (fun b x z => k b x (.inl z)) (fun b z w => dj b z (.inl w)) ry
      have q2 := h6 B' H' _ _ eb (fun b x z => k b x (.inr z)) (fun b z w => z.elim (fun z => dj b z (.inr w)) fun z => h4 b (k3 b z) w) q1
      unfold O.setP
      rw [e]
      exact q2.tr (.refl B') (fun b z => z.elim (fun z => z.imp id .inl) fun z => .inr (.inr z)) fun _ _ _ e => e
/-- the part at a place of slot i, its cell a rewritten, what is held on top gone into it -/
theorem HW.mutA (h : HW K F B0 (w :: τ) (oe :: T) σ Γ H B S) (e : Γ[i]? = some (some o)) (g : o.getP p = some o1) : ∃ (v1 : V) (S1 So : Ad), RO K B H S1 v1 o1 ∧ RO K B H So w oe ∧ (∀ b, S1 b → ¬ So b) ∧ (∀ b, S1 b → H b ≠ none) ∧ (∀ b, So b → H b ≠ none) ∧
    ∀ a c y, S1 a → RO K B (upd H a c) (fun b => S1 b ∨ So b) v1 y → ∃ S', HW K F B0 τ T σ (Γ.set i (some (o.setP y p))) (upd H a c) B S' := by
  obtain ⟨v, S1, So, a1, r1, ro, dj, n1, n2, f⟩ := h.mut2 e
  obtain ⟨v1, T1, T2, k2, k3, k4, k5, k6⟩ := r1.focP g
  refine ⟨v1, T1, So, k5, ro, fun b z => dj b (k2 b z), fun b z => n1 b (k2 b z), n2, fun a c y ha ry => ?_⟩
  have q := k6 B (upd H a c) _ y (.refl B) (fun b u z e => by rw [upd_ne (fun q => k4 a ha (by rw [← q]; exact z))]; exact e) (fun b z y => z.elim (fun z => k4 b z y) fun z => dj b (k3 b y) z) ry
  exact f a c _ (k2 a ha) (q.tr (.refl B) (fun b z => z.elim (fun z => z.imp (k2 b) id) fun z => .inl (k3 b z)) fun _ _ _ e => e)
theorem HW.mutA1 (h : HW K F B0 τ T σ Γ H B S) (e : Γ[i]? = some (some o)) (g : o.getP p = some o1) : ∃ (v1 : V) (S1 : Ad), RO K B H S1 v1 o1 ∧ (∀ b, S1 b → H b ≠ none) ∧
    ∀ a c y, S1 a → RO K B (upd H a c) S1 v1 y → ∃ S', HW K F B0 τ T σ (Γ.set i (some (o.setP y p))) (upd H a c) B S' := by
  obtain ⟨v1, S1, So, r1, _, _, n1, _, f⟩ := HW.mutA (h.pushd (v := .non) (x := .non) .non) e g
  exact ⟨v1, S1, r1, n1, fun a c y ha ry => f a c y ha (ry.tr (.refl B) (fun _ z => .inl z) fun _ _ _ e => e)⟩
/-- te.append(e), e read by a view -/
theorem gos_appA {xs : List O} (hv : Views Γ Γv) (hw : Views Γ Γw) (ev : ∀ F' B', Go K F' B' te [] Γv fun o _ => o = .d (.ref a)) (e0 : Γ[i]? = some (some o1)) (g : o1.getP p = some (.atA a (.ol xs))) (hz : xs.length < 100000)
    (h : ∀ F' B', Go K F' B' tv [] Γw fun oe _ => oe.lf = true ∧ Dd.nx (Γ.set i (some (o1.setP (.atA a (.ol (xs ++ [oe]))) p)))) : GoS K F B0 (tDrop (tBM K "list" rAppend te (tCons tv tNil))) T Γ Dd := fun τ σ H De ⟨B1, S1, w1⟩ s => by
  refine HW.evA (te := te) hv ev w1 fun H2 B2 S2 ex2 w2 => ?_
  obtain ⟨u0, S0, r0, _, _⟩ := w2.mutA1 e0 g
  cases r0 with
  | atA r0 =>
  cases r0 with
  | @ol _ _ _ vs0 _ _ _ _ hc0 _ =>
  refine ⟨Or.inl ⟨rfl, vs0, SqL.of hc0⟩, ?_⟩
  refine HW.evL (te := tv) hw h w2 fun v2 o2 H3 B3 S3 ex3 h2 w3 => ?_
  obtain ⟨u', S5, So, r2, ro, dj, _, _, f⟩ := w3.mutA e0 g
  cases r2 with
  | atA r2 =>
  cases r2 with
  | @ol _ S6 _ us _ ha hs hn hc rs =>
  have len : us.length = xs.length := by simpa using rs.len
  refine ⟨a, us, v2, rfl, rfl, hc, by rw [len]; exact Nat.lt_of_lt_of_le hz (by decide), ?_⟩
  obtain ⟨S', w5⟩ := f a (.lst (us ++ [v2])) (.atA a (.ol (xs ++ [o2]))) ha (.atA (.ol (S' := fun b => S6 b ∨ So b) (.inl ha) (fun b z => z.imp (hs b) id) (fun z => z.elim hn fun z => dj a ha z) upd_same (by
    rw [List.map_append, List.map_append]
    exact (rs.snoc ro fun b z => dj b (hs b z)).at fun b u z q => by
      rw [upd_ne (fun e => by subst e; exact z.elim hn fun z => dj b ha z)]; exact q)))
  exact s.nx σ _ _ h2 ⟨B3, S', w5⟩
end
end SK
namespace SK
open PySem PySem.Spec PyProof.Rows L2
section
variable {K : PySem.W.Frag} {F B0 H B H' B' : Hp} {τ : List V} {T : List O} {σ : L2.St} {Γ Γv Γw : En} {S S1 : Ad} {v w : V} {o oe o1 o' u : O} {i j : Nat} {a : Addr} {p : List Sel} {te tv ti : TE} {tt : TT} {post : O → En → Prop} {postt : Bool → En → Prop} {posts1 : En → Prop} {Dd : EG} {P : O → Prop} {s : TS} {f : Str} {C : Addr} {fs : Fs}
theorem RS.erase : ∀ {n : Nat} {vs : List V} {xs : List O} {S : Ad}, RS K B H S ((vs.map some).set n none) ((xs.map some).set n none) → n < xs.length → RS K B H S ((vs.eraseIdx n).map some) ((xs.eraseIdx n).map some)
  | _, _, [], _, _, hl => by simp at hl
  | 0, v :: vs, x :: xs, _, r, _ => by
    rw [List.map_cons, List.map_cons, List.set_cons_zero, List.set_cons_zero] at r
    cases r with | un r => exact r
  | n + 1, v :: vs, x :: xs, _, r, hl => by
    rw [List.map_cons, List.map_cons, List.set_cons_succ, List.set_cons_succ] at r
    cases r with
    | cons s1 s2 d r t => exact .cons s1 s2 d r (RS.erase t (by simpa using hl))
  | 0, [], x :: xs, _, r, _ => by
    rw [List.map_cons, List.set_cons_zero] at r; cases r
  | n + 1, [], x :: xs, _, r, _ => by
    rw [List.map_cons, List.set_cons_succ] at r; cases r
/-- te.clear(), a list -/
theorem gos_clrA {xs : List O} (hv : Views Γ Γv) (ev : ∀ F' B', Go K F' B' te [] Γv fun o _ => o = .d (.ref a)) (e0 : Γ[i]? = some (some o1)) (g : o1.getP p = some (.atA a (.ol xs)))
    (h : Dd.nx (Γ.set i (some (o1.setP (.atA a (.ol [])) p)))) : GoS K F B0 (tDrop (tBM0 K "list" rClear te)) T Γ Dd := fun τ σ H De ⟨B1, S1, w1⟩ s => by
  refine HW.evA (te := te) hv ev w1 fun H2 B2 S2 ex2 w2 => ?_
  obtain ⟨u', S5, r2, _, f⟩ := w2.mutA1 e0 g
  cases r2 with
  | atA r2 =>
  cases r2 with
  | @ol _ S6 _ us _ ha hs hn hc rs =>
  refine ⟨Or.inl ⟨rfl, us, SqL.of hc⟩, a, us, rfl, rfl, hc, ?_⟩
  obtain ⟨S', w5⟩ := f a (.lst []) (.atA a (.ol [])) ha (.atA (.ol (S' := fun _ => False) ha (fun _ z => z.elim) id upd_same .nil))
  exact s.nx σ _ _ h ⟨B2, S', w5⟩
def RefO (o : O) : Prop := ∀ (K : PySem.W.Frag) (B H : Hp) (S : Ad) (v : V), RO K B H S v o → ∃ a, v = .ref a
theorem refO_ol {xs : List O} : RefO (.ol xs) := fun _ _ _ _ _ r => by cases r; exact ⟨_, rfl⟩
theorem HW.tellW (h : HW K F B0 τ T σ Γ H B S) (e : Γ[i]? = some (some o)) (w : Wkn o o') : HW K F B0 τ T σ (Γ.set i (some o')) H B S := by
  refine ⟨h.fr, h.pu, h.b0, h.ow, h.nw, ?_, h.lt⟩
  have e' : (T.map some ++ Γ)[τ.length + i]? = some (some o) := by
    rw [List.getElem?_append_right (by simp [h.lt]), List.length_map, ← h.lt, Nat.add_sub_cancel_left]
    exact e
  have q := h.rs.wk1 w e'
  rw [List.set_append_right _ _ (by simp [h.lt]), List.length_map, ← h.lt, Nat.add_sub_cancel_left] at q
  exact q
/-- .. of what stands behind -/
theorem gos_wknx (h : GoS K F B0 s T Γ { Dd with nx := fun Γ' => ∃ (i : Nat) (o o' : O), Γ'[i]? = some (some o) ∧ Wkn o o' ∧ Dd.nx (Γ'.set i (some o')) }) : GoS K F B0 s T Γ Dd := fun τ σ H De hw q =>
  h τ σ H De hw ⟨fun σ1 Γ1 H1 ⟨i, o, o', e, w, hn⟩ ⟨B1, S1, w1⟩ => q.nx σ1 _ H1 hn ⟨B1, S1, w1.tellW e w⟩, q.rt, q.bk, q.ct⟩
/-- there is a stronger telling, whatever the slots hold -/
theorem gos_lab (e : Γ[i]? = some (some o1)) (g : o1.getP p = some u) (hu : RefO u) (h : ∀ a, GoS K F B0 s T (Γ.set i (some (o1.setP (.atA a u) p))) Dd) : GoS K F B0 s T Γ Dd := fun τ σ H De ⟨B, S, hw⟩ q => by
  obtain ⟨v, S1, S2, a1, b1, c1, d1, r1, f⟩ := hw.slot e
  obtain ⟨v1, U1, U2, k2, k3, k4, k5, k6⟩ := r1.focP g
  obtain ⟨a, rfl⟩ := hu _ _ _ _ _ k5
  have q1 := k6 B H U1 (.atA a u) (.refl B) (fun _ _ _ e => e) k4 (.atA k5)
  have q2 := f B H (fun b => U1 b ∨ U2 b) (some v) (some (o1.setP (.atA a u) p)) (.refl B) (fun _ _ _ e => e) (fun b z y => z.elim (fun z => d1 b (k2 b z) y) fun z => d1 b (k3 b z) y) (fun x e => by cases e; exact ⟨v, rfl, q1⟩)
  rw [set_same a1] at q2
  exact h a τ σ H De ⟨B, _, hw.fr, hw.pu, hw.b0, fun b z => z.elim (fun z => z.elim (fun z => hw.ow b (b1 b (k2 b z))) fun z => hw.ow b (b1 b (k3 b z))) fun z => hw.ow b (c1 b z), hw.nw, q2, hw.lt⟩ q
end
end SK
namespace SK
open PySem PySem.Spec PyProof.Rows L2
section
variable {K : PySem.W.Frag} {F B0 H B H' B' : Hp} {τ : List V} {T : List O} {σ : L2.St} {Γ Γv Γh : En} {S S1 Si : Ad} {v w : V} {o oe o1 o' u : O} {i j : Nat} {a : Addr} {p : List Sel} {te tv ti : TE} {post : O → En → Prop} {vs : List V} {os os' : List O} {xs : List D}
/-- arguments: data as they are, an address for the thing itself -/
inductive SubO : List D → List O → List (Addr × O) → Prop
  | nil : SubO [] [] []
  | dat {x xs os us} : SubO xs os us → SubO (x :: xs) (.d x :: os) us
  | own {a u xs os us} : SubO xs os us → SubO (.ref a :: xs) (u :: os) ((a, u) :: us)
abbrev uV (us : List (Addr × O)) : List V := us.map fun q => .ref q.1
abbrev uO (us : List (Addr × O)) : List O := us.map (·.2)
theorem SubO.pack : ∀ {xs : List D} {os : List O} {us : List (Addr × O)} {vs : List V} {S : Ad}, SubO xs os us → RL K B vs xs → RS K B H S ((uV us).map some) ((uO us).map some) → RS K B H S (vs.map some) (os.map some)
  | _, _, _, _, _, .nil, .nil, r => r
  | _, _, _, _, S, .dat h, .cons r t, q => .cons (S1 := fun _ => False) (S2 := S) (fun _ z => z.elim) (fun _ z => z) (fun _ z => z.elim) (.d r) (h.pack t q)
  | _, _, _, _, _, .own h, .cons r t, .cons s1 s2 d ro q => by
    cases r
    exact .cons s1 s2 d ro (h.pack t q)
theorem HW.punch1 (h : HW K F B0 τ T σ Γ H B S) (e : Γ[i]? = some (some o)) (g : o.getP p = some u) (ha : u.addr = some a) : ∃ S', HW K F B0 (.ref a :: τ) (u :: T) σ (Γ.set i (some (o.setP (.d (.ref a)) p))) H B S' := by
  obtain ⟨v, S1, S2, a1, b1, c1, d1, r1, f⟩ := h.slot e
  obtain ⟨v1, U1, U2, k2, k3, k4, k5, k6⟩ := r1.focP g
  cases k5.addr ha
  have q1 := k6 B H (fun _ => False) (.d (.ref a)) (.refl B) (fun _ _ _ e => e) (fun _ z => z.elim) (.d .ref)
  have q2 := f B H (fun b => False ∨ U2 b) (some v) (some (o.setP (.d (.ref a)) p)) (.refl B) (fun _ _ _ e => e) (fun b z y => z.elim False.elim fun z => d1 b (k3 b z) y) (fun x e => by cases e; exact ⟨v, rfl, q1⟩)
  rw [set_same a1] at q2
  exact ⟨fun b => U1 b ∨ ((False ∨ U2 b) ∨ S2 b), h.fr, h.pu, h.b0, fun b z => z.elim (fun z => h.ow b (b1 b (k2 b z))) fun z => z.elim (fun z => z.elim False.elim fun z => h.ow b (b1 b (k3 b z))) fun z => h.ow b (c1 b z), h.nw,
    .cons (S1 := U1) (S2 := fun b => (False ∨ U2 b) ∨ S2 b) (fun _ z => .inl z) (fun _ z => .inr z) (fun b z y => y.elim (fun y => y.elim False.elim (k4 b z)) fun y => d1 b (k2 b z) y) k5 q2, by simp [h.lt]⟩
end
end SK
namespace SK
open PySem PySem.Spec PyProof.Rows L2
def rEqK : R2 := fun x y H Q => ∃ a b ks, x = .ref a ∧ y = .ref b ∧ Rd H a (.dK ks) ∧ Rd H b (.dK []) ∧ Q (.bl ks.isEmpty) H
def rNeK : R2 := fun x y H Q => ∃ a b ks, x = .ref a ∧ y = .ref b ∧ Rd H a (.dK ks) ∧ Rd H b (.dK []) ∧ Q (.bl (!ks.isEmpty)) H
section
variable {K : PySem.W.Frag} {F B0 H B : Hp} {τ : List V} {T : List O} {σ : L2.St} {Γ Γv : En} {S : Ad} {o o1 u : O} {i : Nat} {a : Addr} {p : List Sel} {te : TE} {post : O → En → Prop} {Dd : EG} {g : TG} {tb : TS} {kvs : List (Key × D)}
theorem RK.emp {ws : List (Key × V)} (r : RK K B ws kvs) : ws.isEmpty = kvs.isEmpty := by cases r <;> rfl
theorem o2_eqK (h : post (.d (.bl kvs.isEmpty)) Γ) : Op2 K F B0 rEqK (.dic kvs) (.dic []) T Γ post := fun τ σ H B S v1 v2 Q w r1 r2 k => by
  cases r1 with | @dic a ws _ hd nd rk =>
  cases r2 with | @dic b ws2 _ hd2 nd2 rk2 =>
  cases rk2
  exact ⟨a, b, ws, rfl, rfl, w.pu.rd hd, w.pu.rd hd2, k _ _ _ _ h ⟨_, _, w.pushd (by rw [rk.emp]; exact .bl)⟩⟩
theorem o2_neK (h : post (.d (.bl (!kvs.isEmpty))) Γ) : Op2 K F B0 rNeK (.dic kvs) (.dic []) T Γ post := fun τ σ H B S v1 v2 Q w r1 r2 k => by
  cases r1 with | @dic a ws _ hd nd rk =>
  cases r2 with | @dic b ws2 _ hd2 nd2 rk2 =>
  cases rk2
  exact ⟨a, b, ws, rfl, rfl, w.pu.rd hd, w.pu.rd hd2, k _ _ _ _ h ⟨_, _, w.pushd (by rw [rk.emp]; exact .bl)⟩⟩
end
end SK
namespace SK
open PySem PySem.Spec PyProof.Rows L2
section
variable {K : PySem.W.Frag} {F B0 H B : Hp} {τ : List V} {T : List O} {σ : L2.St} {Γ : En} {S : Ad} {post : O → En → Prop} {x : D}
def tI (ns : List Int) : D := .tup (ns.map D.int)
theorem TupI.inj {v : V} {ns ms : List Int} (pu : Ex B H) (r : R K B v (tI ns)) (h : TupI K H v ms) : True := trivial
end
def tLendVE (t : TE) : TE := t
def tLendVT (t : TT) : TT := t
theorem pe_lendV {X : Cx} {e : Expr} {t : TE} (h : PE X e t) : PE X e (tLendVE t) := h
theorem pt_lendV {X : Cx} {e : Expr} {t : TT} (h : PT X e t) : PT X e (tLendVT t) := h
section
variable {K : PySem.W.Frag} {F B0 : Hp} {T : List O} {Γ Γv : En} {te : TE} {tt : TT} {post : O → En → Prop} {postt : Bool → En → Prop}
theorem go_lendV' (hv : Views Γ Γv) (h : ∀ F' B', Go K F' B' te [] Γv fun o' _ => o'.lf = true ∧ post o' Γ) : Go K F B0 (tLendVE te) T Γ post := go_lendV hv h
theorem got_lendV' (hv : Views Γ Γv) (h : ∀ F' B', GoT K F' B' tt [] Γv fun b _ => postt b Γ) : GoT K F B0 (tLendVT tt) T Γ postt := got_lendV hv h
end
section
variable {K : PySem.W.Frag} {F B0 H B : Hp} {τ : List V} {T : List O} {σ : L2.St} {Γ Γ' Γ'' Γv : En} {S : Ad} {o o' o1 u y : O} {i : Nat} {a : Addr} {p : List Sel} {te : TE} {post : O → En → Prop} {Dd : EG} {s : TS} {g : TG} {posts1 : En → Prop}
theorem HW.lab (hw : HW K F B0 τ T σ Γ H B S) (e : Γ[i]? = some (some o1)) (g : o1.getP p = some u) (hu : RefO u) : ∃ a S', HW K F B0 τ T σ (Γ.set i (some (o1.setP (.atA a u) p))) H B S' := by
  obtain ⟨v, S1, S2, a1, b1, c1, d1, r1, f⟩ := hw.slot e
  obtain ⟨v1, U1, U2, k2, k3, k4, k5, k6⟩ := r1.focP g
  obtain ⟨a, rfl⟩ := hu _ _ _ _ _ k5
  have q1 := k6 B H U1 (.atA a u) (.refl B) (fun _ _ _ e => e) k4 (.atA k5)
  have q2 := f B H (fun b => U1 b ∨ U2 b) (some v) (some (o1.setP (.atA a u) p)) (.refl B) (fun _ _ _ e => e) (fun b z y => z.elim (fun z => d1 b (k2 b z) y) fun z => d1 b (k3 b z) y) (fun x e => by cases e; exact ⟨v, rfl, q1⟩)
  rw [set_same a1] at q2
  exact ⟨a, _, hw.fr, hw.pu, hw.b0, fun b z => z.elim (fun z => z.elim (fun z => hw.ow b (b1 b (k2 b z))) fun z => hw.ow b (b1 b (k3 b z))) fun z => hw.ow b (c1 b z), hw.nw, q2, hw.lt⟩
theorem go_lab (e : Γ[i]? = some (some o1)) (g : o1.getP p = some u) (hu : RefO u) (h : ∀ a, Go K F B0 te T (Γ.set i (some (o1.setP (.atA a u) p))) post) : Go K F B0 te T Γ post := fun τ σ H Q ⟨B, S, hw⟩ k => by
  obtain ⟨a, S', w⟩ := hw.lab e g hu
  exact h a τ σ H Q ⟨B, S', w⟩ k
theorem fzL_map {α : Type} {f : α → O} {g : α → D} (h : ∀ x, (f x).fz = g x) : ∀ {xs : List α}, fzL (xs.map f) = xs.map g
  | [] => rfl
  | x :: xs => by show (f x).fz :: fzL (xs.map f) = _; rw [h, fzL_map h]; rfl
end
end SK
namespace SK
open PySem PySem.Spec PyProof.Rows L2
def rDClr : V → List V → Hp → VK → Prop := fun x vs H Q => ∃ (a : Addr) (kvs : List (Key × V)), x = .ref a ∧ vs = [] ∧ H a = some (.dK kvs) ∧ Q .non (upd H a (.dK []))
def pickG {α : Type} (xs : List α) (lo hi st : Option Int) : List α := (sliceRange (sliceBounds lo hi st xs.length).1 (sliceBounds lo hi st xs.length).2.1 (sliceBounds lo hi st xs.length).2.2).filterMap (xs[·]?)
def rSl3 (K : PySem.W.Frag) : V → Option Int → Option Int → Option Int → Hp → VK → Prop := fun x lo hi st H Q => ∃ a xs, x = .ref a ∧ SqL K H a xs ∧ st ≠ some 0 ∧ (pickG xs lo hi st).length ≤ xs.length ∧ ∀ p, H p = none → Q (.ref p) (upd H p (.lst (pickG xs lo hi st)))
def tSl3 (K : PySem.W.Frag) (te : TE) (tl th tk : TO) : TE := fun σ H Q => te σ H fun x H1 => tl σ H1 fun l H2 => th σ H2 fun u H3 => tk σ H3 fun k H4 => rSl3 K x l u k H4 Q
section
variable {K : PySem.W.Frag} {F B0 H B : Hp} {τ : List V} {T : List O} {σ : L2.St} {Γ : En} {S : Ad} {post : O → En → Prop} {i : Nat} {te : TE} {Dd : EG}
theorem RL.pick {vs : List V} {xs : List D} (r : RL K B vs xs) (lo hi st : Option Int) : RL K B (pickG vs lo hi st) (pickG xs lo hi st) := by
  unfold pickG
  rw [r.length]
  generalize sliceRange _ _ _ = l
  induction l with
  | nil => exact .nil
  | cons i l ih =>
    have g : ∀ {vs : List V} {xs : List D} {i : Nat}, RL K B vs xs → (vs[i]? = none ∧ xs[i]? = none) ∨ ∃ x v, vs[i]? = some x ∧ xs[i]? = some v ∧ R K B x v := by
      intro vs
      induction vs with
      | nil => intro xs i r; cases r; exact .inl ⟨rfl, rfl⟩
      | cons v vs ih =>
        intro xs i r
        cases r with | cons h t =>
        cases i with
        | zero => exact .inr ⟨_, _, rfl, rfl, h⟩
        | succ i => exact ih (i := i) t
    rcases g (i := i) r with ⟨h1, h2⟩ | ⟨x, v, h1, h2, h3⟩
    · rw [List.filterMap_cons_none h1, List.filterMap_cons_none h2]; exact ih
    · rw [List.filterMap_cons_some h1, List.filterMap_cons_some h2]; exact .cons h3 ih
theorem go_sl3 {tl th tk : TO} (h : Go K F B0 te T Γ fun o Γ1 => GoO K F B0 tl (.d o.fz :: T) Γ1 fun lo Γ2 => GoO K F B0 th (.d o.fz :: T) Γ2 fun hi Γ3 => GoO K F B0 tk (.d o.fz :: T) Γ3 fun st Γ4 =>
      ∃ xs, D.seq? o.fz = some xs ∧ st ≠ some 0 ∧ (pickG xs lo hi st).length ≤ xs.length ∧ post (.ol ((pickG xs lo hi st).map O.d)) Γ4) : Go K F B0 (tSl3 K te tl th tk) T Γ post := fun τ σ H Q hw k =>
  h τ σ H _ hw fun v o Γ1 H1 h1 ⟨_, _, w1⟩ => by
    obtain ⟨_, _, w1, _⟩ := w1.fz
    refine h1 _ σ H1 _ ⟨_, _, w1⟩ fun lo Γ2 H2 h2 w2 => h2 _ σ H2 _ w2 fun hi Γ3 H3 h3 w3 => h3 _ σ H3 _ w3 fun st Γ4 H4 ⟨xs, q, h0, hle, h4⟩ ⟨_, _, w4⟩ => ?_
    obtain ⟨r, _, _, w⟩ := w4.popd
    obtain ⟨a, vs, rfl, sq, rl⟩ := r.seqL q
    have hp := rl.pick lo hi st
    refine ⟨a, vs, rfl, w.pu.sqL sq, h0, by rw [hp.length, rl.length]; exact hle, fun p hp0 => ?_⟩
    obtain ⟨S2, w⟩ := w.newl hp0 hp
    exact k _ _ _ _ h4 ⟨_, _, w⟩
theorem oa_lenD {kvs : List (Key × D)} (h : post (.d (.int kvs.length)) Γ) : OpA K F B0 (rLenG K) [.dic kvs] T Γ post := fun τ σ H B S vs Q w rl k => by
  obtain ⟨v1, rfl, r⟩ := rl.one
  cases r with | @dic a ws _ hd _ rk =>
  refine .inr ⟨a, ws, rfl, w.pu.rd hd, k _ _ _ _ h ⟨_, _, w.pushd ?_⟩⟩
  have e : ws.length = kvs.length := by
    have := congrArg List.length rk.keys
    simpa using this
  rw [e]
  exact .int
/-- xs.index(n), xs a list of numbers that has it -/
theorem go_lindex {ta : TA} (h : Go K F B0 te T Γ fun o Γ1 => ∃ ns : List Int, o.fz = .lst (ns.map D.int) ∧ GoA K F B0 ta (.d o.fz :: T) Γ1 fun xs Γ2 => ∃ (n : Int) (j : Nat), xs = [.int n] ∧ ns[j]? = some n ∧ (∀ m, m < j → ns[m]? ≠ some n) ∧ post (.d (.int (j : Nat))) Γ2) :
    Go K F B0 (tBM K "list" (rIndex K) te ta) T Γ post := fun τ σ H Q hw k =>
  h τ σ H _ hw fun v1 o1 Γ1 H1 ⟨ns, e1, h1⟩ ⟨_, _, w1⟩ => by
    obtain ⟨B2, S2, w2, _⟩ := w1.fz
    rw [e1] at h1 w2
    obtain ⟨r, _, _, _⟩ := w2.popd
    cases r with
    | @lst a vs _ hd rl =>
    have ev := RL.ints rl
    subst ev
    refine ⟨.inl ⟨rfl, _, w2.pu.sqL (SqL.of hd)⟩, h1 _ σ H1 _ ⟨_, _, w2⟩ fun us xs Γ2 H2 ⟨n, j, e, hj, hm, h2⟩ ⟨_, _, w3⟩ hl => ?_⟩
    subst e
    obtain ⟨rl2, S3, w4⟩ := w3.args hl
    obtain ⟨r4, _, _, w5⟩ := w4.popd
    obtain ⟨u, rfl, r⟩ := rl2.one
    cases r
    have sq : SqL K H2 a (ns.map V.int) := by
      cases r4 with
      | @lst _ vs2 _ hd2 rl3 =>
        have := RL.ints rl3
        subst this
        exact w5.pu.sqL (SqL.of hd2)
    refine ⟨a, ns.map V.int, .int n, j, .int n, rfl, rfl, sq, rfl, by simp [flatV], by rw [List.getElem?_map, hj]; rfl, by simp [L2.eqV], fun m z' hmj hz => ?_, k _ _ _ _ h2 ⟨_, _, w5.pushd .int⟩⟩
    rw [List.getElem?_map] at hz
    cases e : ns[m]? with
    | none => rw [e] at hz; cases hz
    | some y =>
      rw [e] at hz
      cases hz
      have : y ≠ n := fun q => hm m hmj (by rw [e, q])
      simp [L2.eqV, this]
/-- d.setdefault(k, []).append(e), d a name -/
theorem gos_setdAppV {kvs : List (Key × O)} {ty tv : TE} (e0 : Γ[i]? = some (some (.od kvs))) (hz : kvs.length < 100000)
    (h : ∀ F' B', Go K F' B' ty [] (fzE Γ) fun okk _ => ∃ k ys, okk = .d (kD k) ∧ lstAt kvs k ys ∧ ys.length < 100000 ∧
      ∀ F' B', Go K F' B' tv [] (fzE (Γ.set i none)) fun oe _ => oe.lf = true ∧ Dd.nx (Γ.set i (some (.od (dput kvs k (.ol (ys ++ [oe])))))) ) :
    GoS K F B0 (tDrop (tBM K "list" rAppend (tDSetd (tVar i) ty (tLst tNil)) (tCons tv tNil))) T Γ Dd :=
  gos_setdApp (p := []) evp_var e0 rfl trivial hz h
/-- d.clear(), d a name -/
theorem gos_dclear {kvs : List (Key × O)} (e0 : Γ[i]? = some (some (.od kvs))) (h : Dd.nx (Γ.set i (some (.od [])))) :
    GoS K F B0 (tDrop (tBM0 K "dict" rDClr (tVar i))) T Γ Dd := fun τ σ H De hw s => by
  obtain ⟨B, S, w⟩ := hw
  obtain ⟨v, S1, a1, r1, _, f⟩ := w.mut1 e0
  cases r1 with
  | @od _ S4 a ws _ ha hs hn hc nd ek rs =>
  refine ⟨.ref a, a1, .inr (.inr (.inl ⟨rfl, .inl ⟨_, hc⟩⟩)), ?_⟩
  refine ⟨a, ws, rfl, rfl, hc, ?_⟩
  obtain ⟨S', w3⟩ := f a (.dK []) (.od []) ha (.od (S' := fun _ => False) ha (fun b z => False.elim z) id upd_same List.nodup_nil rfl .nil)
  exact s.nx σ _ _ h ⟨B, S', w3⟩
end
end SK
namespace SK
open PySem PySem.Spec PyProof.Rows L2 PySem.W
end SK
namespace SK
open PySem PySem.Spec PyProof.Rows L2
open PySem.W (AllAlike Sortable dataLe)
end SK
namespace SK
open PySem PySem.Spec PyProof.Rows L2 PySem.W
mutual
theorem Dp.at {K : PySem.W.Frag} {H H' : Hp} (hT : ∀ a xs, SqT K H a xs → SqT K H' a xs) (hL : ∀ a xs, SqL K H a xs → SqL K H' a xs) : ∀ (d : PyData) {v : V}, Dp K H v d → Dp K H' v d
  | .none, _, h => by cases h; exact .non
  | .bool _, _, h => by cases h; exact .bl _
  | .int _, _, h => by cases h; exact .int _
  | .str _, _, h => by cases h; exact .str _
  | .list ds, _, h => by cases h with | lst a b => exact .lst (hL _ _ a) (DpAll.at hT hL ds b)
  | .tuple ds, _, h => by cases h with | tup a b => exact .tup (hT _ _ a) (DpAll.at hT hL ds b)
  | .dict _, _, h => by cases h
theorem DpAll.at {K : PySem.W.Frag} {H H' : Hp} (hT : ∀ a xs, SqT K H a xs → SqT K H' a xs) (hL : ∀ a xs, SqL K H a xs → SqL K H' a xs) : ∀ (ds : List PyData) {vs : List V}, DpAll K H vs ds → DpAll K H' vs ds
  | [], _, h => by cases h; exact .nil
  | d :: ds, _, h => by cases h with | cons a b => exact .cons (Dp.at hT hL d a) (DpAll.at hT hL ds b)
end
theorem Dp.ex {K : PySem.W.Frag} {H H' : Hp} (e : Ex H H') {d : PyData} {v : V} (h : Dp K H v d) : Dp K H' v d := Dp.at (fun _ _ q => e.sqT q) (fun _ _ q => e.sqL q) d h
end SK
namespace SK
open PySem PySem.Spec PyProof.Rows L2
open PySem.W (AllAlike Sortable dataLe)
end SK
namespace SK
open PySem PySem.Spec PyProof.Rows L2
/-- lo + n - 1, .., lo -/
def rvV (lo : Int) (n : Nat) : List V := (List.range n).map fun i => V.int (lo + (n : Int) - 1 - (i : Nat))
def tListRgR (te : L2.St → Hp → (Int → Int → Hp → Prop) → Prop) : TE := fun σ H Q => te σ H fun a b H1 => RgOk a b ∧ ∀ q, H1 q = none → Q (.ref q) (upd H1 q (.lst (rvV a (b - a).toNat)))
section
variable {K : PySem.W.Frag} {F B0 : Hp} {T : List O} {Γ : En} {post : O → En → Prop} {te : TE}
/-- list(reversed(range(n))) -/
theorem go_listRgR (h : Go K F B0 te T Γ fun o Γ1 => ∃ n : Int, o = .d (.int n) ∧ 0 ≤ n ∧ n ≤ 100000 ∧ post (.ol ((((List.range n.toNat).map fun (i : Nat) => n - 1 - (i : Int)).map D.int).map O.d)) Γ1) : Go K F B0 (tListRgR (tRg1 te)) T Γ post := fun τ σ H Q hw k =>
  h τ σ H _ hw fun v1 o1 Γ1 H1 ⟨n, e1, h0, h1, hp⟩ ⟨B1, S1, w1⟩ => by
    subst e1
    obtain ⟨r, S2, _, w2⟩ := w1.popd
    cases r
    refine ⟨n, rfl, ⟨by omega, by omega, by omega, by omega, by omega⟩, fun q hq => ?_⟩
    have ev : rvV 0 (n - 0).toNat = ((List.range n.toNat).map fun (i : Nat) => n - 1 - (i : Int)).map V.int := by
      unfold rvV
      rw [List.map_map, Int.sub_zero]
      refine List.map_congr_left fun i _ => ?_
      show V.int (0 + (((n.toNat : Nat)) : Int) - 1 - (i : Int)) = V.int (n - 1 - (i : Int))
      congr 1
      omega
    rw [ev]
    obtain ⟨S3, w3⟩ := w2.newl hq (RL.ofInts ((List.range n.toNat).map fun (i : Nat) => n - 1 - (i : Int)))
    exact k _ _ _ _ hp ⟨_, _, w3⟩
end
end SK
namespace SK
open PySem PySem.Spec PyProof.Rows L2
structure FunT (K : PySem.W.Frag) (x : Str) (st : Stmt) (f : Addr) (fd : FuncData) (u : Value) : Prop where
  ex : ∃ (oc : Value) (od : Option Addr) (T : Addr) (oT : Obj) (n : Nat) (kV doc pm : Value) (an : Option Addr) (cdv ct : Value) (osl : Array (Option Value)),
    fd = PySem.W.fnOf x x (defArgs st) (defBody st) (defScope st) (.ref T) kV doc pm an cdv ct ∧ K.lookup f = some ⟨oc, od, .func fd, osl⟩ ∧ PySem.W.codeIn K cdv x = true ∧ K.lookup T = some oT ∧ oT.data = .seq #[u] n
  kp : PySem.W.keepIn K (.ref f) = true
section
variable {P : Program} {w : World} {K : PySem.W.Frag} {mg : Str → Option Value} {base : Heap} {x : Str} {st : Stmt} {f : Addr} {fd : FuncData} {u : Value} {N ps : List Str} {k : Nat} {sp : Sp}
theorem FunT.ok (F : FunT K x st f fd u) (S : FnScope N ps (defScope st)) (len : ∀ vs H Q E, sp vs H Q E → vs.length = ps.length)
    (hbody : ∀ (cdv : Value) (A : Around) (outer : List Env) (s : Shared) (H : Hp) (vs : List V) (Q : VK) (E : XK), Room k (A.deeper (envOfC x (defScope st) s.heap.objs.size f cdv)) → sp vs H Q E →
      ∃ t, PSs (cxOf CX0 P w K mg base N x (defScope st) f cdv A outer s H E).nox (defBody st) t ∧ t { nx := fun _ H' => Q .non H', rt := Q } (start N vs) H) : FnOk P w K mg base CX0 (k + 1) f fd ps sp := by
  obtain ⟨oc, od, T, oT, n, kV, doc, pm, an, cdv, ct, osl, rfl, lk, hcd, _, _⟩ := F.ex
  refine fn_of lk hcd S len fun A outer s H vs Q E hr hsp => ?_
  obtain ⟨t, h, q⟩ := hbody cdv A outer s H vs Q E hr hsp
  exact ⟨t, h.nox, q⟩
theorem FunT.okX (F : FunT K x st f fd u) (S : FnScope N ps (defScope st)) (len : ∀ vs H Q E, sp vs H Q E → vs.length = ps.length)
    (hbody : ∀ (cdv : Value) (A : Around) (outer : List Env) (s : Shared) (H : Hp) (vs : List V) (Q : VK) (E : XK), Room k (A.deeper (envOfC x (defScope st) s.heap.objs.size f cdv)) → sp vs H Q E →
      ∃ t, PSs (cxOf (L2.CX P w) P w K mg base N x (defScope st) f cdv A outer s H E) (defBody st) t ∧ t { nx := fun _ H' => Q .non H', rt := Q } (start N vs) H) : FnOk P w K mg base (L2.CX P w) (k + 1) f fd ps sp := by
  obtain ⟨oc, od, T, oT, n, kV, doc, pm, an, cdv, ct, osl, rfl, lk, hcd, _, _⟩ := F.ex
  exact fn_of lk hcd S len fun A outer s H vs Q E hr hsp => hbody cdv A outer s H vs Q E hr hsp
theorem FunT.binds (F : FunT K x st f fd u) (n : Nat) (hn : n = ps.length) (h : ∀ (T : Addr) (kV doc pm : Value) (an : Option Addr) (cdv ct : Value) (us : List Value), us.length = n →
      ∃ k, bindArgs (PySem.W.fnOf x x (defArgs st) (defBody st) (defScope st) (.ref T) kV doc pm an cdv ct) ⟨us, []⟩ = seqItems? (.ref T) >>= k ∧ k (some #[u]) = pure (ps.zip us)) : Binds K fd ps [] := by
  obtain ⟨oc, od, T, oT, m, kV, doc, pm, an, cdv, ct, osl, rfl, lk, hcd, lT, eT⟩ := F.ex
  intro s us X hl
  rw [List.append_nil] at hl ⊢
  obtain ⟨k, e1, e2⟩ := h T kV doc pm an cdv ct us (by omega)
  refine BindsTo.of_looks fun M => ?_
  rw [e1]
  exact looks_items X lT eT (.of_pure e2)
theorem FunT.lk (F : FunT K x st f fd u) : ∃ oc od sl, K.lookup f = some ⟨oc, od, .func fd, sl⟩ := by
  obtain ⟨oc, od, T, oT, n, kV, doc, pm, an, cdv, ct, osl, _, l, _⟩ := F.ex
  exact ⟨oc, od, osl, l⟩
end
end SK
namespace SK
open PySem PySem.Spec PyProof.Rows L2
section
variable {K : PySem.W.Frag} {F B0 H B : Hp} {T : List O} {Γ : En} {post : O → En → Prop} {te : TE} {v v' : V}
/-- list(range(n)) -/
theorem go_listRg (h : Go K F B0 te T Γ fun o Γ1 => ∃ n : Int, o = .d (.int n) ∧ 0 ≤ n ∧ n ≤ 100000 ∧ post (.ol ((((List.range n.toNat).map fun (i : Nat) => (i : Int)).map D.int).map O.d)) Γ1) : Go K F B0 (tLstRg (tRg1 te)) T Γ post := fun τ σ H Q hw k =>
  h τ σ H _ hw fun v1 o1 Γ1 H1 ⟨n, e1, h0, h1, hp⟩ ⟨B1, S1, w1⟩ => by
    subst e1
    obtain ⟨r, S2, _, w2⟩ := w1.popd
    cases r
    refine ⟨n, rfl, ⟨by omega, by omega, by omega, by omega, by omega⟩, fun q hq => ?_⟩
    have ev : rgV 0 n = ((List.range n.toNat).map fun (i : Nat) => (i : Int)).map V.int := by
      unfold rgV
      rw [List.map_map, Int.sub_zero]
      refine List.map_congr_left fun i _ => ?_
      show V.int (0 + (i : Int)) = V.int (i : Int)
      rw [Int.zero_add]
    rw [ev]
    obtain ⟨S3, w3⟩ := w2.newl hq (RL.ofInts ((List.range n.toNat).map fun (i : Nat) => (i : Int)))
    exact k _ _ _ _ hp ⟨_, _, w3⟩
end
end SK
namespace SK
open PySem PySem.Spec PyProof.Rows L2
end SK
namespace SK
open PySem PySem.Spec PyProof.Rows L2
section
variable {K : PySem.W.Frag} {F B0 H B : Hp} {τ : List V} {T : List O} {σ : L2.St} {Γ : En} {S : Ad} {o : O} {i : Nat} {te : TE} {ta : TA} {post : O → En → Prop} {posts1 : En → Prop}
theorem go_dnewT (h : post (.ot []) Γ) : Go K F B0 tDNewT T Γ post := fun τ σ H Q ⟨B, S, w⟩ k p hp => by
  obtain ⟨S2, w2⟩ := w.newo (o := .ot []) (c := .dT []) hp (.ot (S' := fun _ => False) rfl (fun _ z => z.elim) id upd_same List.nodup_nil rfl .nil)
  exact k _ _ _ _ h ⟨_, _, w2⟩
theorem RL.keys : ∀ {ks : List Key} {vs : List V}, RL K B vs (ks.map kD) → vs = ks.map L2.kV
  | [], _, r => by cases r; rfl
  | k :: ks, _, r => by
    cases r with
    | cons r t => rw [r.kV, RL.keys t]; rfl
theorem RT.val {k : List Key} : ∀ {ws : List (List Key × V)} {kvs : List (List Key × D)}, RT K B ws kvs → (∃ v x, valV ws k = some v ∧ dval kvs k = some x ∧ R K B v x) ∨ (valV ws k = none ∧ dval kvs k = none)
  | _, _, .nil => .inr ⟨rfl, rfl⟩
  | _, _, .cons (k := k0) (v := v0) (x := x0) (vs := vs) (xs := xs) r t => by
    by_cases e : k0 = k
    · left
      refine ⟨v0, x0, by simp [valV, e], by simp [dval, e], r⟩
    · have e1 : valV ((k0, v0) :: vs) k = valV vs k := by simp [valV, e]
      have e2 : dval ((k0, x0) :: xs) k = dval xs k := by simp [dval, e]
      rw [e1, e2]
      exact RT.val t
/-- d[(a, b)], the key written out -/
theorem go_ixT (h : Go K F B0 te T Γ fun o Γ1 => ∃ kvs, o.fz = .dit kvs ∧ GoA K F B0 ta (.d (.dit kvs) :: T) Γ1 fun xs Γ2 => ∃ (ks : List Key) (y : D), xs = ks.map kD ∧ xs.length ≤ 1000 ∧ dval kvs ks = some y ∧ post (.d y) Γ2) : Go K F B0 (tOp (rIxG K) te (tTup ta)) T Γ post := fun τ σ H Q hw k =>
  h τ σ H _ hw fun v1 o1 Γ1 H1 ⟨kvs, e1, h1⟩ ⟨_, _, w1⟩ => by
    obtain ⟨_, _, w1, _⟩ := w1.fz
    rw [e1] at w1
    refine h1 _ σ H1 _ ⟨_, _, w1⟩ fun vs xs Γ2 H2 ⟨ks, y, ex, hz, hi, h2⟩ ⟨_, _, w2⟩ hl => ?_
    subst ex
    obtain ⟨rl, S3, w3⟩ := w2.args hl
    have ev := rl.keys
    subst ev
    refine ⟨Nat.le_trans (by rw [hl]; exact hz) (by decide), fun p hp => ?_⟩
    obtain ⟨S4, w4⟩ := w3.newd (x := .tup (ks.map kD)) hp (.tup (SqT.of upd_same) (rl.mono (.of_ex (.new (w3.pu.back hp)))))
    obtain ⟨_, _, _, w5⟩ := w4.popd
    obtain ⟨r1, _, _, w6⟩ := w5.popd
    cases r1 with | @dit a ws _ hd _ rt =>
    rcases rt.val (k := ks) with ⟨u, z, q1, q2, r⟩ | ⟨q1, q2⟩
    · rw [hi] at q2
      cases q2
      exact .inr ⟨a, u, rfl, .inr ⟨ws, ks, p, w6.pu.rd hd, rfl, upd_same, q1.symm⟩, k _ _ _ _ h2 ⟨_, _, w6.pushd r⟩⟩
    · rw [hi] at q2; cases q2
/-- d[(a, b)] = e, d a name, the key written out -/
theorem gog_setT (h : GoA K F B0 ta (o :: T) Γ fun xs Γ2 => ∃ (ks : List Key) (kvs : List (List Key × O)), xs = ks.map kD ∧ xs.length ≤ 1000 ∧ Γ2[i]? = some (some (.ot kvs)) ∧ kvs.length < 100000 ∧ posts1 (Γ2.set i (some (.ot (dput kvs ks o))))) (h0 : ∃ kvs0, Γ[i]? = some (some (.ot kvs0))) :
    GoG K F B0 (gSub (tVar i) (tTup ta) rSetG) o T Γ posts1 := fun τ σ H v1 Q ⟨B1, S1, w1⟩ k' => by
  obtain ⟨kvs0, e0⟩ := h0
  obtain ⟨v, T1, a1, r1, _, _⟩ := w1.mut1 e0
  refine ⟨v, a1, h (v1 :: τ) σ H _ ⟨B1, S1, w1⟩ fun vs xs Γ2 H2 ⟨ks, kvs, ex, hx, e2, hz, h2⟩ ⟨B2, S2, w2⟩ hl => ?_⟩
  subst ex
  obtain ⟨rl, S3, w3⟩ := w2.args hl
  have ev := rl.keys
  subst ev
  refine ⟨Nat.le_trans (by rw [hl]; exact hx) (by decide), fun p hp => ?_⟩
  obtain ⟨S4', w4⟩ := w3.newd (x := .tup (ks.map kD)) hp (.tup (SqT.of upd_same) (rl.mono (.of_ex (.new (w3.pu.back hp)))))
  obtain ⟨_, S5', _, w5⟩ := w4.popd
  obtain ⟨v', S5, So, a2, r2, ro, dj, _, _, f⟩ := w5.mut2 e2
  rw [a1] at a2
  cases a2
  cases r2 with
  | @ot _ S4 a ws _ ha hs hn hc nd ek rs =>
  have len : ws.length = kvs.length := by have := congrArg List.length ek; simpa using this
  refine .inr ⟨a, _, rfl, .inr ⟨ws, ks, p, hc, rfl, upd_same, by rw [len]; exact Nat.lt_of_lt_of_le hz (by decide), rfl⟩, ?_⟩
  obtain ⟨S', w6⟩ := f a (.dT (putK ws ks v1)) (.ot (dput kvs ks o)) ha (.ot (S' := fun b => S4 b ∨ So b) (.inl ha) (fun b z => z.imp (hs b) id) (fun z => z.elim hn fun z => dj a ha z) upd_same (dput_nodup nd) (by rw [putK_dput]; exact dput_keys ek) (by
    rw [putK_dput]
    exact (rs.dput ro nd ek fun b z => dj b (hs b z)).at fun b u z q => by
      rw [upd_ne (fun e => by subst e; exact z.elim hn fun z => dj b ha z)]; exact q))
  exact k' σ _ _ h2 ⟨_, S', w6⟩
/-- d[(a, b)] and its setting, marked for the walk -/
def tIxT (K : PySem.W.Frag) (te : TE) (ta : TA) : TE := tOp (rIxG K) te (tTup ta)
theorem go_ixT' (h : Go K F B0 te T Γ fun o Γ1 => ∃ kvs, o.fz = .dit kvs ∧ GoA K F B0 ta (.d (.dit kvs) :: T) Γ1 fun xs Γ2 => ∃ (ks : List Key) (y : D), xs = ks.map kD ∧ xs.length ≤ 1000 ∧ dval kvs ks = some y ∧ post (.d y) Γ2) : Go K F B0 (tIxT K te ta) T Γ post := go_ixT h
def gSubT (i : Nat) (ta : TA) : TG := gSub (tVar i) (tTup ta) rSetG
theorem gog_setT' (h : GoA K F B0 ta (o :: T) Γ fun xs Γ2 => ∃ (ks : List Key) (kvs : List (List Key × O)), xs = ks.map kD ∧ xs.length ≤ 1000 ∧ Γ2[i]? = some (some (.ot kvs)) ∧ kvs.length < 100000 ∧ posts1 (Γ2.set i (some (.ot (dput kvs ks o))))) (h0 : ∃ kvs0, Γ[i]? = some (some (.ot kvs0))) :
    GoG K F B0 (gSubT i ta) o T Γ posts1 := gog_setT h h0
end
end SK
namespace SK
open PySem PySem.Spec PyProof.Rows L2
end SK
namespace SK
open PySem PySem.Spec PyProof.Rows L2
end SK
namespace SK
open PySem PySem.Spec PyProof.Rows L2
/-- xs >= ys -/
def geL : List Int → List Int → Bool
  | _, [] => true
  | [], _ :: _ => false
  | x :: xs, y :: ys => if x = y then geL xs ys else decide (y ≤ x)
def rGeLL (K : PySem.W.Frag) : R2 := fun x y H Q => ∃ (a b : Addr) (ns ms : List Int), x = .ref a ∧ y = .ref b ∧ SqL K H a (ns.map V.int) ∧ SqL K H b (ms.map V.int) ∧ Q (.bl (geL ns ms)) H
theorem firstLt_geL : ∀ (ns ms : List Int) (e r : Nat → Bool) (k : Nat), (∀ j, j < min ns.length ms.length → e (k + j) = decide (ns.getD j 0 = ms.getD j 0) ∧ r (k + j) = decide (ms.getD j 0 ≤ ns.getD j 0)) →
    PySem.SeqAt.firstLt e r (decide (ns.length ≥ ms.length)) ((List.range (min ns.length ms.length)).map (k + ·)) = geL ns ms
  | ns, [], e, r, k, h => by
    simp [PySem.SeqAt.firstLt, geL]
  | [], m :: ms, e, r, k, h => by
    simp [PySem.SeqAt.firstLt, geL]
  | n :: ns, m :: ms, e, r, k, h => by
    have h0 := h 0 (by simp)
    have hm : min (n :: ns).length (m :: ms).length = min ns.length ms.length + 1 := by simp only [List.length_cons]; omega
    have ih := firstLt_geL ns ms e r (k + 1) fun j hj => by
      have := h (j + 1) (by omega)
      rw [show k + 1 + j = k + (j + 1) by omega]
      simpa using this
    rw [hm, List.range_succ_eq_map, List.map_cons, List.map_map]
    have hf : ((k + ·) ∘ Nat.succ : Nat → Nat) = (k + 1 + ·) := by funext j; simp; omega
    rw [hf]
    simp only [Nat.add_zero, List.getD_cons_zero] at h0
    show (if e (k + 0) = true then _ else _) = _
    rw [Nat.add_zero, h0.1, h0.2]
    unfold geL
    have hd : decide ((n :: ns).length ≥ (m :: ms).length) = decide (ns.length ≥ ms.length) := by simp
    rw [hd]
    by_cases q : n = m
    · rw [if_pos q, if_pos (decide_eq_true q)]
      exact ih
    · rw [if_neg q, if_neg (by simpa using q)]
theorem op_geLL {X : Cx} (hu : X.A.units < cLine) : OpR X (compareOp .GtE) (rGeLL X.K) := by
  intro pins s σ H x y v u Q I rx ry h
  obtain ⟨a, b, ns, ms, rfl, rfl, ha, hb, q⟩ := h
  cases rx
  cases ry
  obtain ⟨its, r1, p1, _⟩ := I.list ha
  obtain ⟨its2, r2, p2, _⟩ := I.list hb
  have i1 : IntsAre its ns := Vals.ints r1
  have i2 : IntsAre its2 ms := Vals.ints r2
  have e1 : its.toArray.size = ns.length := by rw [List.size_toArray]; exact i1.length
  have e2 : its2.toArray.size = ms.length := by rw [List.size_toArray]; exact i2.length
  have at1 : ∀ j (h1 : j < its.toArray.size), ∃ t, its.toArray[j] = .int (ns.getD j 0) t := fun j h1 => PyProof.Rows.IntsAre.int_at i1 _ _ (by simp at h1; simp [h1])
  have at2 : ∀ j (h1 : j < its2.toArray.size), ∃ t, its2.toArray[j] = .int (ms.getD j 0) t := fun j h1 => PyProof.Rows.IntsAre.int_at i2 _ _ (by simp at h1; simp [h1])
  have l1 : s.heap.IsList a its.toArray := p1.isList
  have l2 : s.heap.IsList b its2.toArray := p2.isList
  have R := PySem.SeqAt.RcOp.lists_ge (A := X.A) (s := s) (e := fun j => decide (ns.getD j 0 = ms.getD j 0)) (r := fun j => decide (ms.getD j 0 ≤ ns.getD j 0)) l1 l2 hu (fun j h1 h2 => by
    obtain ⟨t, et⟩ := at1 j h1
    obtain ⟨t', et'⟩ := at2 j h2
    rw [et, et']
    have z : (ns.getD j 0 == ms.getD j 0) = decide (ns.getD j 0 = ms.getD j 0) := by
      by_cases q : ns.getD j 0 = ms.getD j 0
      · rw [decide_eq_true q]; exact beq_iff_eq.mpr q
      · rw [decide_eq_false q]; exact beq_eq_false_iff_ne.mpr q
    rw [← z]
    exact SeqAt.EqAt.int_int _ _ _ _) (fun j h1 h2 _ => by
    obtain ⟨t, et⟩ := at1 j h1
    obtain ⟨t', et'⟩ := at2 j h2
    rw [et, et']
    exact Ob.RcOp.ge_int _ _ _ _)
  rw [e1, e2] at R
  have hf := firstLt_geL ns ms (fun j => decide (ns.getD j 0 = ms.getD j 0)) (fun j => decide (ms.getD j 0 ≤ ns.getD j 0)) 0 fun j _ => by rw [Nat.zero_add]; exact ⟨rfl, rfl⟩
  have hid : (List.range (min ns.length ms.length)).map (0 + ·) = List.range (min ns.length ms.length) := by simp
  rw [hid] at hf
  rw [hf] at R
  have z : wpAny (model X.prog X.w) X.A (compareOp .GtE (.ref a) (.ref b)) (EP X pins σ Q) X.xe s := R X.prog X.w X.xe (EP X pins σ Q) ⟨.bl _, H, I, rfl, q⟩
  exact z
theorem k_geLL {K : PySem.W.Frag} {X : Cx} (h : X.K = K) (hu : X.A.units + 1 < cLine) : OpR X (compareOp .GtE) (rGeLL K) := by cases h; exact op_geLL (by omega)
theorem o2_geLL {K : PySem.W.Frag} {F B0 : Hp} {T : List O} {Γ : En} {post : O → En → Prop} {ns ms : List Int} (h : post (.d (.bl (geL ns ms))) Γ) : Op2 K F B0 (rGeLL K) (.lst (ns.map D.int)) (.lst (ms.map D.int)) T Γ post := fun τ σ H B S v1 v2 Q w r1 r2 k => by
  cases r1 with | @lst a vs _ h1 l1 =>
  cases r2 with | @lst b us _ h2 l2 =>
  have e1 := RL.ints l1
  have e2 := RL.ints l2
  subst e1 e2
  exact ⟨a, b, ns, ms, rfl, rfl, SqL.of (w.pu _ _ h1), SqL.of (w.pu _ _ h2), k _ _ Γ H h ⟨_, _, w.pushd .bl⟩⟩
end SK
namespace SK
open PySem PySem.Spec PyProof.Rows L2
section
variable {K : PySem.W.Frag} {F B0 H B : Hp} {τ : List V} {T : List O} {σ : L2.St} {Γ : En} {S : Ad} {o u : O} {i : Nat} {a : Addr} {post : O → En → Prop} {X : Cx} {e : Expr}
def tVarR (i : Nat) : TE := tVar i
theorem pe_mvR (h : PE X e (tVar i)) : PE X e (tVarR i) := h
theorem go_varR (e : Γ[i]? = some (some u)) (ha : u.addr = some a) (h : post u (Γ.set i (some (.d (.ref a))))) : Go K F B0 (tVarR i) T Γ post := fun τ σ H Q ⟨B, S, w⟩ k => by
  obtain ⟨v, S1, S2, a1, _, _, _, r, _⟩ := w.slot e
  cases r.addr ha
  obtain ⟨S', w'⟩ := w.punch1 (p := []) e rfl ha
  exact ⟨_, a1, k _ _ _ _ h ⟨B, S', w'⟩⟩
/-- a name is labelled and handed on at once -/
theorem go_varL (e : Γ[i]? = some (some u)) (hu : RefO u) (h : ∀ a, post (.atA a u) (Γ.set i (some (.d (.ref a))))) : Go K F B0 (tVarR i) T Γ post := by
  have hi := (List.getElem?_eq_some_iff.mp e).1
  exact go_lab (p := []) e rfl hu fun a => go_varR (u := .atA a u) (by rw [List.getElem?_set_self hi]; rfl) rfl (by rw [List.set_set]; exact h a)
end
end SK
set_option maxHeartbeats 8000000
namespace Lw
open PySem PySem.Spec PyProof.Rows L2 SK TL
local macro_rules | `(tactic| walk_at "ixx") => `(tactic| fail)
local macro_rules | `(tactic| walk_at "lenx") => `(tactic| fail)
local macro_rules | `(tactic| walk_at "lendx") => `(tactic| fail)
local macro_rules | `(tactic| walk_at "vw") => `(tactic| fail)
local macro_rules | `(tactic| walk_at "vwx") => `(tactic| fail)
local macro_rules | `(tactic| walk_at "sk1") => `(tactic| first
  | ((with_reducible refine' gos_setdAppF ?hR ?he ?hl ?hf ?hz ?hk); (case hR => assumption); (case he => exact rfl); (case hl => exact rfl); (case hf => exact rfl); (case hz => first | (simp only [List.length_map]; omega) | walk_at "lenx" | skip); (intro F' B'); (try walk_at "lendx"); (try (simp only [fzE_cons, fzE_nil, frO_none, frO_some, fz_fl, fz_fk, fz_d, fzL_fl, fzK_d, O.fz, fzL, List.set])))
  | ((with_reducible refine' gos_setdAppV ?he ?hz ?hk); (case he => exact rfl); (case hz => first | (simp only [List.length_map]; omega) | walk_at "lenx" | skip); (intro F' B'); (try walk_at "lendx"); (try (simp only [fzE_cons, fzE_nil, frO_none, frO_some, fz_fl, fz_fk, fz_d, fzL_fl, fzK_d, O.fz, fzL, List.set])))
  | ((with_reducible refine' gos_popF ?hR ?he ?hl ?hf ?hk); (case hR => assumption); (case he => exact rfl); (case hl => exact rfl); (case hf => exact rfl); (intro F' B'); (try walk_at "lendx"); (try (simp only [fzE_cons, fzE_nil, frO_none, frO_some, fz_fl, fz_fk, fz_d, fzL_fl, fzK_d, O.fz, fzL, List.set])))
  | ((with_reducible refine' gog_setDF ?hR ?he ?hl ?hf ?hz ?hk); (case hR => assumption); (case he => exact rfl); (case hl => exact rfl); (case hf => exact rfl); (case hz => first | (simp only [List.length_map]; omega) | walk_at "lenx" | skip); (intro F' B'); (try walk_at "lendx"); (try (simp only [fzE_cons, fzE_nil, frO_none, frO_some, fz_fl, fz_fk, fz_d, fzL_fl, fzK_d, O.fz, fzL, List.set])))
  | ((with_reducible refine' gog_setT' ?hk ?h0); (case h0 => exact ⟨_, rfl⟩)) | ((with_reducible refine' gog_setL ?he ?hk); (case he => exact rfl); (intro F' B'); (try walk_at "lendx"); (try (simp only [fzE_cons, fzE_nil, frO_none, frO_some, fz_fl, fz_fk, fz_d, fzL_fl, fzK_d, O.fz, fzL, List.set])))
  | ((with_reducible refine gos_never ?_); first | (exact absurd (by assumption) (by assumption)) | omega | (simp_all; done) | skip) | with_reducible refine gos_sLG ?_
  | ((with_reducible refine' gos_frzA ?he ?hk); (case he => exact rfl); (try walk_at "lendx"); (try simp only [fz_fl, fz_fk, fz_d, fzL_fl, fzK_d, O.fz, fzL, List.set]))
  | with_reducible refine gos_sA ?_ | with_reducible refine gos_sD ?_ | with_reducible refine gos_sN ?_ | with_reducible refine gos_sU ?_ | with_reducible refine gos_sF ?_ | with_reducible refine gos_sW ?_ | with_reducible refine gos_sIR ?_ | with_reducible refine gos_sIC ?_ | with_reducible refine gos_sIW ?_ | with_reducible refine gos_sIN ?_ | with_reducible refine gos_sIF ?_ | ((with_reducible refine' gos_raiseF ?hw ?_); (case hw => assumption)) | with_reducible refine gos_sTA ?_ | with_reducible refine gos_sTAE ?_ | with_reducible refine gos_sTO ?_ | with_reducible refine gos_sTE ?_ | with_reducible refine gos_sTX ?_ | with_reducible refine gos_sIB ?_ | with_reducible refine gos_asg ?_ | with_reducible refine gos_ret ?_ | with_reducible refine gos_if ?_ | with_reducible refine gos_next ?_ | with_reducible refine gos_brk ?_ | ((with_reducible refine' gos_append ?ha ?h0); (case h0 => exact ⟨_, rfl⟩)) | ((with_reducible refine' gos_insert ?ha ?h0); (case h0 => exact ⟨_, rfl⟩)) | ((with_reducible refine' gos_extend ?ha ?h0); (case h0 => exact ⟨_, rfl⟩)) | ((with_reducible refine' gos_dupd ?ha ?h0); (case h0 => exact ⟨_, rfl⟩)) | ((with_reducible refine gos_clear ?_); (refine ⟨_, rfl, ?_⟩); dsimp only [List.set]) | ((with_reducible refine' gos_dclear ?he ?_); (case he => exact rfl); dsimp only [List.set]) | ((with_reducible refine' gos_clearT 0 ?he ?hk ?hn ?_); (case hn => exact rfl); (case he => exact rfl); (case hk => exact rfl); dsimp only [List.set]) | ((with_reducible refine' gos_clearT 1 ?he ?hk ?hn ?_); (case hn => exact rfl); (case he => exact rfl); (case hk => exact rfl); dsimp only [List.set]) | with_reducible refine gos_drop ?_
  | ((with_reducible refine' go_var ?hv ?_); (case hv => exact rfl))
  | ((with_reducible refine' go_fz ?hv ?_); (case hv => exact rfl); (try walk_at "lendx"); (try simp only [fz_fl, fz_fk, fz_d, fzL_fl, fzK_d, O.fz, fzL, List.set])) | with_reducible refine go_int ?_ | with_reducible refine go_dnewT ?_ | with_reducible refine go_ixT' ?_ | with_reducible refine go_bl ?_ | with_reducible refine go_str ?_ | with_reducible refine go_non ?_ | with_reducible refine go_ty ?_ | ((with_reducible refine' go_cst ?hq ?_); (case hq => assumption)) | with_reducible refine go_ref ?_ | ((with_reducible refine' gos_raise ?hw ?_); (case hw => assumption)) | ((with_reducible refine' oa_isX ?hE ?hq ?_); (case hE => assumption); (case hq => assumption)) | ((with_reducible refine' oa_isXt ?hE ?hq ?_); (case hE => assumption); (case hq => assumption))
  | ((with_reducible refine gos_raise0 ?_); first | (exact absurd (by assumption) (by assumption)) | omega | (simp_all; done) | skip)
  | with_reducible refine go_lindex ?_ | with_reducible refine go_sindex ?_ | with_reducible refine go_upper ?_ | with_reducible refine go_find ?_
  | ((with_reducible refine' go_fldR ?hR ?_); (case hR => assumption)) | ((with_reducible refine' gos_fldR ?hR ?_); (case hR => assumption)) | with_reducible refine go_minD ?_ | with_reducible refine go_listRev ?_ | with_reducible refine go_listRgR ?_ | with_reducible refine go_listRg ?_ | with_reducible refine go_sortSet ?_
  | ((with_reducible refine go_lend' fun F' B' => ?_); (try walk_at "lendx"); (try (simp only [fzE_cons, fzE_nil, frO_none, frO_some, fz_fl, fz_fk, fz_d, fzL_fl, fzK_d, O.fz, fzL, List.set]))) | ((with_reducible refine got_lend' fun F' B' => ?_); (try walk_at "lendx"); (try (simp only [fzE_cons, fzE_nil, frO_none, frO_some, fz_fl, fz_fk, fz_d, fzL_fl, fzK_d, O.fz, fzL, List.set])))
  | ((with_reducible refine' go_lendV' ?hv ?_); (case hv => walk_at "vw"); (intro F' B'); (try walk_at "vwx"); (try (simp only [fzE_cons, fzE_nil, frO_none, frO_some, fz_fl, fz_fk, fz_d, fzL_fl, fzK_d, O.fz, fzL, List.set]))) | ((with_reducible refine' got_lendV' ?hv ?_); (case hv => walk_at "vw"); (intro F' B'); (try walk_at "vwx"); (try (simp only [fzE_cons, fzE_nil, frO_none, frO_some, fz_fl, fz_fk, fz_d, fzL_fl, fzK_d, O.fz, fzL, List.set])))
  | with_reducible refine go_tupO' ?_ | with_reducible refine go_lstO' ?_ | with_reducible refine goao_nil ?_
  | ((with_reducible refine goao_cons ?_); first | ((with_reducible refine' go_var ?hv ?_); (case hv => exact rfl)) | ((with_reducible refine' go_move ?hv ?_); (case hv => exact rfl); dsimp only [List.set]) | skip)
  | ((with_reducible refine' go_varM ?hv ?_); (case hv => exact rfl); (try dsimp only [List.set]))
  | ((with_reducible refine' go_ixO ?he ?_); (case he => exact ⟨_, rfl⟩))
  | with_reducible refine go_op ?_ | with_reducible refine go_un ?_ | with_reducible refine go_cb ?_ | with_reducible refine go_tup ?_ | with_reducible refine go_lst ?_ | with_reducible refine go_chain ?_ | with_reducible refine go_dnew ?_
  | with_reducible refine goa_cons ?_ | with_reducible refine goa_nil ?_ | with_reducible refine go_andV ?_ | with_reducible refine go_orV ?_ | with_reducible refine go_notV ?_ | with_reducible refine go_if ?_
  | with_reducible refine got_test ?_ | with_reducible refine got_B ?_ | with_reducible refine got_and ?_ | with_reducible refine got_or ?_ | with_reducible refine got_not ?_ | with_reducible refine got_yes ?_
  | ((with_reducible refine' gog_name ?hi ?_); (case hi => exact Nat.le_of_ble_eq_true rfl); dsimp only [List.set])
  | ((with_reducible refine' gos_aug ⟨_, ?hx, ?_⟩); (case hx => exact rfl)) | with_reducible refine oi_add ?_ | with_reducible refine oi_sub ?_
  | ((with_reducible refine' gog_setDI ?ha ?h0); (case h0 => exact ⟨_, rfl⟩)) | ((with_reducible refine' gog_setDS ?ha ?h0); (case h0 => exact ⟨_, rfl⟩))
  | with_reducible refine gog_tup ?_ | with_reducible refine gogs_nil ?_
  | ((with_reducible refine' gogs_name ?hi ?_); (case hi => exact Nat.le_of_ble_eq_true rfl); dsimp only [List.set])
  | ((with_reducible refine' gow_name ?hj ?hi ?_); (case hj => simp); (case hi => exact Nat.le_of_ble_eq_true rfl); dsimp only [List.set])
  | ((with_reducible refine' gow_tup ?he ?hn ?_); (case he => exact rfl); (case hn => exact rfl)) | with_reducible refine gows_nil ?_
  | ((with_reducible refine' gows_name ?hj ?hi ?_); (case hj => simp); (case hi => exact Nat.le_of_ble_eq_true rfl); dsimp only [List.set])
  | (with_reducible refine ⟨_, rfl, ?_⟩)
  | ((with_reducible refine' o2_addT ?hx ?hz ?_); (case hx => exact List.cons_ne_nil _ _); (case hz => (simp only [List.length_cons, List.length_nil, List.length_map]; omega)); (try simp only [List.cons_append, List.nil_append]))
  | with_reducible refine o2_add ?_ | with_reducible refine o2_sub ?_ | with_reducible refine o1_neg ?_ | (with_reducible refine o2_is ?_; (try simp only [D.isNon])) | (with_reducible refine o2_not ?_; (try simp only [D.isNon, Bool.not_true, Bool.not_false])) | ((with_reducible refine' o2_mul ?hm ?_); (case hm => first | exact IntMulOk.of_left (by decide) | exact IntMulOk.of_right (by decide) | assumption | exact IntMulOk.of_right (intBits_le_64 (by omega) (by omega)) | exact IntMulOk.of_left (intBits_le_64 (by omega) (by omega)))) | ((with_reducible refine' o2_div ?hb ?_); (case hb => omega)) | ((with_reducible refine' o2_mod ?hb ?_); (case hb => omega))
  | ((with_reducible refine o2_pow (by decide) ?_); dsimp only [Int.reduceToNat, Int.reducePow])
  | with_reducible refine o2_lt ?_ | with_reducible refine o2_le ?_ | with_reducible refine o2_gt ?_ | with_reducible refine o2_ge ?_ | with_reducible refine o2_eqI ?_ | with_reducible refine o2_neI ?_ | with_reducible refine o2_eqB ?_ | with_reducible refine o2_neB ?_ | with_reducible refine o2_eqS ?_ | with_reducible refine o2_neS ?_
  | ((with_reducible refine' o2_eqN ?hq ?_); (case hq => exact rfl); (try simp only [emp_map])) | ((with_reducible refine' o2_neN ?hq ?_); (case hq => exact rfl); (try simp only [emp_map]))
  | with_reducible refine o2_eqK ?_ | with_reducible refine o2_neK ?_
  | with_reducible refine o2_isBl ?_ | with_reducible refine o2_notBl ?_
  | with_reducible refine oa_dictI ?_ | with_reducible refine oa_max2 ?_ | with_reducible refine oa_min2 ?_
  | with_reducible refine oa_lenD ?_ | with_reducible refine oa_len (.seq rfl) ?_ | ((with_reducible refine' oa_len (.str ?hz) ?_); (case hz => omega)) | with_reducible refine oa_tupL rfl ?_ | with_reducible refine oa_tupT ?_
  | ((with_reducible refine' oa_isiG (b := true) ?ht ?hk ?_); (case ht => constructor); (case hk => decide +kernel)) | ((with_reducible refine' oa_isiG (b := false) ?ht ?hk ?_); (case ht => constructor); (case hk => decide +kernel))
  | with_reducible refine go_join ?_ | with_reducible refine go_split ?_ | with_reducible refine go_part ?_ | with_reducible refine go_starts ?_ | with_reducible refine oa_strS ?_ | with_reducible refine oa_intB ?_
  | with_reducible refine go_dget2 ?_ | with_reducible refine go_dget1 ?_ | with_reducible refine gog_lunO ?_ | with_reducible refine gogso_nil ?_ | ((with_reducible refine' gogso_name ?hi ?_); (case hi => exact Nat.le_of_ble_eq_true rfl); dsimp only [List.set]) | (refine ⟨Sum.inl _, by exact rfl, ?_⟩) | (refine ⟨Sum.inr _, by exact rfl, ?_⟩)
  | ((with_reducible refine' o2_ix (x := _) rfl ?hi ?_); (case hi => first | walk_at "ixx" | exact rfl | exact atI_ofN.trans rfl))
  | with_reducible refine go_sl3 ?_ | with_reducible refine go_sl ?_ | with_reducible refine goo_none ?_ | with_reducible refine goo_some ?_
  | with_reducible refine goi_rng1 ?_ | with_reducible refine goi_rng2 ?_ | with_reducible refine goi_seq ?_ | with_reducible refine goi_enum ?_ | with_reducible refine goi_zip ?_ | with_reducible refine goi_zipT ?_
  | with_reducible refine gos_for ?_
  | walk_at "lendx"
  | (simp only [fz_fl, fz_fk, fz_d, fzL_fl, fzK_d, O.fz, fzL])
  | ((with_reducible refine and_im (fun hc => ?_) (fun hc => ?_)) <;> try simp only [decide_eq_true_eq, decide_eq_false_iff_not, Bool.true_eq_false, Bool.false_eq_true, Bool.not_eq_true', Bool.not_eq_false', reduceCtorEq] at hc <;> try first | exact absurd hc (by decide) | exact absurd hc (by assumption) | exact absurd (by assumption) hc | exact absurd rfl hc)
  | walk_at "skc"
  | (refine ⟨_, _, _, _, rfl, by exact rfl, by exact rfl, ?_⟩) | (with_reducible refine ⟨_, _, rfl, ?_⟩) | (with_reducible refine ⟨_, _, _, rfl, ?_⟩) | (with_reducible refine ⟨_, _, _, _, rfl, ?_⟩) | (with_reducible refine ⟨_, _, _, _, _, rfl, ?_⟩) | (with_reducible refine ⟨_, _, _, _, _, _, rfl, ?_⟩)
  | ((with_reducible refine' And.intro ?hp ?_); (case hp => first | omega | assumption | exact rfl | exact Nat.le_of_ble_eq_true rfl | exact lfOLm (fun _ => rfl) | (show O.lf _ = true; simp only [O.lf, D.lf, lfL, lfOL, lf_mapI, Bool.and_true, Bool.and_self]; done)); (try dsimp only [List.set]))
  | ((refine' ⟨_, Sl.str ?hz, ?_⟩); (case hz => omega))
  | ((refine ⟨_, Sl.tupM (by decide) (List.cons_ne_nil _ _), ?_⟩); (try simp only [cutD_takeI, cutD_dropI, cutD_midI, Int.reduceToNat, Int.reduceLE, List.take_succ_cons, List.drop_succ_cons, List.take_zero, List.drop_zero]))
  | ((refine ⟨_, Sl.lst (by exact rfl), ?_⟩); (try simp only [SK.cutD_map, cutD_takeI, cutD_dropI, cutD_midI, ← List.map_take, ← List.map_drop, Int.reduceToNat, Int.reduceLE])) | (refine ⟨_, by exact rfl, ?_⟩) | (refine ⟨_, _, by exact rfl, by exact rfl, ?_⟩)
  | fail)
/-- all steps that no choice is asked of -/
local macro_rules | `(tactic| walk_at "sk") => `(tactic| (repeat' (walk_at "sk1")))
/-- .. and ifs that go on behind, each way by itself -/
local macro_rules | `(tactic| walk_at "skb") => `(tactic| (repeat' (first | walk_at "sk1" | with_reducible refine gos_seq ?_ | fail)))
/-- slots are as told -/
local macro_rules | `(tactic| walk_at "envq") => `(tactic| ((try simp only [List.map_append, List.map_cons, List.map_nil]); rfl))
/-- .. and what is plainly true falls away -/
local macro_rules | `(tactic| walk_at "wk") => `(tactic| (repeat' (first | walk_at "sk1" | (with_reducible refine ⟨trivial, ?_⟩) | fail)))
local macro_rules | `(tactic| walk_at "wkb") => `(tactic| (repeat' (first | walk_at "sk1" | (with_reducible refine ⟨trivial, ?_⟩) | with_reducible refine gos_seq ?_ | fail)))
def topS (i : Nat) : Stmt := PySem.Challenge.pw_skewhouse_k72_all_weavings.main.body.getD i (.Pass ⟨0, 0, 0, 0⟩)
abbrev s__law_cell : Stmt := topS 9
abbrev N__law_cell : List Str := ["_law_script", "_law_k"]
theorem sc__law_cell : FnScope N__law_cell ["_law_script", "_law_k"] (defScope s__law_cell) := ⟨rfl, rfl, rfl, by decide +kernel, rfl, by decide +kernel, by decide +kernel⟩
abbrev s__law_counts : Stmt := topS 10
abbrev N__law_counts : List Str := ["_law_script", "_law_way", "_law_some", "_law_cell_here"]
theorem sc__law_counts : FnScope N__law_counts ["_law_script"] (defScope s__law_counts) := ⟨rfl, rfl, rfl, by decide +kernel, rfl, by decide +kernel, by decide +kernel⟩
abbrev s__law_factorial : Stmt := topS 11
abbrev N__law_factorial : List Str := ["_law_number", "_law_found", "_law_k"]
theorem sc__law_factorial : FnScope N__law_factorial ["_law_number"] (defScope s__law_factorial) := ⟨rfl, rfl, rfl, by decide +kernel, rfl, by decide +kernel, by decide +kernel⟩
abbrev s__law_many : Stmt := topS 12
abbrev N__law_many : List Str := ["_law_counts_here", "_law_found", "_law_count"]
theorem sc__law_many : FnScope N__law_many ["_law_counts_here"] (defScope s__law_many) := ⟨rfl, rfl, rfl, by decide +kernel, rfl, by decide +kernel, by decide +kernel⟩
abbrev s_how_many : Stmt := topS 5
abbrev N_how_many : List Str := ["counts", "ways", "whole", "count", "k"]
theorem sc_how_many : FnScope N_how_many ["counts"] (defScope s_how_many) := ⟨rfl, rfl, rfl, by decide +kernel, rfl, by decide +kernel, by decide +kernel⟩
abbrev s_next_weaving : Stmt := topS 6
abbrev N_next_weaving : List Str := ["turns", "at", "last", "rest"]
theorem sc_next_weaving : FnScope N_next_weaving ["turns"] (defScope s_next_weaving) := ⟨rfl, rfl, rfl, by decide +kernel, rfl, by decide +kernel, by decide +kernel⟩
abbrev s_weavings : Stmt := topS 7
abbrev N_weavings : List Str := ["counts", "turns", "found", "number", "count"]
theorem sc_weavings : FnScope N_weavings ["counts"] (defScope s_weavings) := ⟨rfl, rfl, rfl, by decide +kernel, rfl, by decide +kernel, by decide +kernel⟩
abbrev s__law_is_one : Stmt := topS 13
abbrev N__law_is_one : List Str := ["_law_turns", "_law_counts_here", "_law_seen", "_law_number"]
theorem sc__law_is_one : FnScope N__law_is_one ["_law_turns", "_law_counts_here"] (defScope s__law_is_one) := ⟨rfl, rfl, rfl, by decide +kernel, rfl, by decide +kernel, by decide +kernel⟩
abbrev s__law_all : Stmt := topS 14
abbrev N__law_all : List Str := ["_law_found", "_law_counts_here", "_law_turns", "_law_one", "_law_other"]
theorem sc__law_all : FnScope N__law_all ["_law_found", "_law_counts_here"] (defScope s__law_all) := ⟨rfl, rfl, rfl, by decide +kernel, rfl, by decide +kernel, by decide +kernel⟩
abbrev s_law : Stmt := topS 15
abbrev N_law : List Str := ["_law_script", "_law_counts_here", "_law_many_here", "_law_handed", "_law_found", "_law_kinds", "e", "_law_again"]
theorem sc_law : FnScope N_law ["_law_script"] (defScope s_law) := ⟨rfl, rfl, rfl, by decide +kernel, rfl, by decide +kernel, by decide +kernel⟩
structure XF (K : PySem.W.Frag) (mg : Str → Option Value) (a_SkewError a_TooMany : Addr) (t_MOST_WEAVINGS : Tok) : Prop where
  g_SkewError : mg "SkewError" = some (.ref a_SkewError)
  g_TooMany : mg "TooMany" = some (.ref a_TooMany)
  x_TooMany : XCls K mg "TooMany" a_TooMany
  e_TooMany : L2.ExcC K a_TooMany
  em_TooMany_TooMany : PySem.W.exmOne K (.ref a_TooMany) (.ref a_TooMany) = some true
  ki_TooMany_SkewError : PySem.W.kitOne K (.ref a_TooMany) (.ref a_SkewError) = some true
  kt_TooMany_ValueError : PySem.W.kitOne K (.ref a_TooMany) (.type "ValueError") = some true
  g_MOST_WEAVINGS : mg "MOST_WEAVINGS" = some (.int 2000 t_MOST_WEAVINGS)
def ch : Nat → Nat → Nat
  | _, 0 => 1
  | 0, _ + 1 => 0
  | n + 1, k + 1 => ch n k + ch n (k + 1)
def fac : Nat → Nat
  | 0 => 1
  | n + 1 => fac n * (n + 1)
theorem ch0 (n : Nat) : ch n 0 = 1 := by cases n <;> rfl
theorem ch_step : ∀ n k : Nat, (n + 1) * ch n k = (k + 1) * ch (n + 1) (k + 1)
  | 0, 0 => rfl
  | 0, k + 1 => by simp [ch]
  | n + 1, 0 => by
    have h := ch_step n 0
    simp only [ch, ch0, Nat.zero_add, Nat.one_mul, Nat.mul_one] at h ⊢
    omega
  | n + 1, k + 1 => by
    have h1 := ch_step n k
    have h2 := ch_step n (k + 1)
    have e1 : ch (n + 1) (k + 1) = ch n k + ch n (k + 1) := rfl
    have e2 : ch (n + 2) (k + 2) = ch (n + 1) (k + 1) + ch (n + 1) (k + 2) := rfl
    have e3 : (n + 1 + 1) * ch (n + 1) (k + 1) = (n + 1) * ch n k + (n + 1) * ch n (k + 1) + ch (n + 1) (k + 1) := by
      rw [Nat.succ_mul, e1, Nat.mul_add]
    show (n + 1 + 1) * ch (n + 1) (k + 1) = (k + 1 + 1) * ch (n + 2) (k + 2)
    have e4 : (k + 1 + 1) * ch (n + 2) (k + 2) = (k + 1) * ch (n + 1) (k + 1) + ch (n + 1) (k + 1) + (k + 1 + 1) * ch (n + 1) (k + 2) := by
      rw [e2, Nat.mul_add, Nat.succ_mul (k + 1) (ch (n + 1) (k + 1))]
    rw [e3, h1, h2]
    refine Eq.trans ?_ e4.symm
    exact Nat.add_right_comm _ _ _
/-- one step of the inner loop -/
theorem way_step (M s k : Nat) : M * ch (s + k) k * (s + k + 1) / (k + 1) = M * ch (s + (k + 1)) (k + 1) := by
  have h := ch_step (s + k) k
  have e : M * ch (s + k) k * (s + k + 1) = (k + 1) * (M * ch (s + (k + 1)) (k + 1)) := by
    calc M * ch (s + k) k * (s + k + 1) = M * ((s + k + 1) * ch (s + k) k) := by rw [Nat.mul_assoc, Nat.mul_comm (ch _ _)]
      _ = M * ((k + 1) * ch (s + (k + 1)) (k + 1)) := by rw [h]; rfl
      _ = _ := by rw [← Nat.mul_assoc, ← Nat.mul_assoc, Nat.mul_comm M]
  rw [e, Nat.mul_div_cancel_left _ (Nat.succ_pos k)]
theorem ch_fac (s : Nat) : ∀ k : Nat, ch (s + k) k * (fac k * fac s) = fac (s + k)
  | 0 => by simp [ch0, fac]
  | k + 1 => by
    have ih := ch_fac s k
    have h := ch_step (s + k) k
    show ch (s + (k + 1)) (k + 1) * (fac k * (k + 1) * fac s) = fac (s + k) * (s + k + 1)
    calc ch (s + (k + 1)) (k + 1) * (fac k * (k + 1) * fac s) = (k + 1) * ch (s + (k + 1)) (k + 1) * (fac k * fac s) := by
          rw [Nat.mul_right_comm (fac k) (k + 1) (fac s), Nat.mul_comm (fac k * fac s) (k + 1), ← Nat.mul_assoc, Nat.mul_comm (ch _ _) (k + 1)]
      _ = (s + k + 1) * ch (s + k) k * (fac k * fac s) := by rw [h]; rfl
      _ = fac (s + k) * (s + k + 1) := by rw [Nat.mul_assoc, ih, Nat.mul_comm]
theorem fac_pos : ∀ n, 0 < fac n
  | 0 => by decide
  | n + 1 => Nat.mul_pos (fac_pos n) (Nat.succ_pos n)
theorem fac_mono {n m : Nat} (h : n ≤ m) : fac n ≤ fac m := by
  induction h with
  | refl => exact Nat.le_refl _
  | step _ ih => exact Nat.le_trans ih (Nat.le_mul_of_pos_right _ (Nat.succ_pos _))
def hstep (p : Nat × Nat) (n : Nat) : Nat × Nat := (p.1 * ch (p.2 + n) n, p.2 + n)
def hm (c : List Nat) : Nat × Nat := c.foldl hstep (1, 0)
def fstep (p : Nat) (n : Nat) : Nat := p * fac n
theorem foldl_at {α β : Type} (f : β → α → β) (z : β) (c : List α) (i : Nat) (x : α) (h : c[i]? = some x) : (c.take (i + 1)).foldl f z = f ((c.take i).foldl f z) x := by
  rw [List.take_add_one, h]
  simp
theorem hm_fold : ∀ (c : List Nat) (p : Nat × Nat) (q : Nat), c.foldl fstep ((c.foldl hstep p).1 * q) * fac p.2 = fac (c.foldl hstep p).2 * (p.1 * q) ∧ (c.foldl hstep p).2 = p.2 + c.sum
  | [], p, q => ⟨by simp [Nat.mul_comm], by simp⟩
  | n :: c, p, q => by
    obtain ⟨h1, h2⟩ := hm_fold c (hstep p n) q
    refine ⟨?_, by rw [List.foldl_cons, h2, List.sum_cons]; simp only [hstep]; omega⟩
    simp only [List.foldl_cons]
    have e0 : ∀ (c : List Nat) (z m : Nat), c.foldl fstep (z * m) = c.foldl fstep z * m := by
      intro c
      induction c with
      | nil => intro z m; rfl
      | cons x c ih => intro z m; rw [List.foldl_cons, List.foldl_cons, fstep, fstep, Nat.mul_right_comm, ih]
    have e1 : c.foldl fstep (fstep ((c.foldl hstep (hstep p n)).1 * q) n) = c.foldl fstep ((c.foldl hstep (hstep p n)).1 * q) * fac n := by rw [fstep, e0]
    rw [e1]
    have hp : (hstep p n).2 = p.2 + n := rfl
    have hq : (hstep p n).1 = p.1 * ch (p.2 + n) n := rfl
    rw [hp, hq] at h1
    have cf := ch_fac p.2 n
    have pp := fac_pos (p.2 + n)
    apply Nat.eq_of_mul_eq_mul_right pp
    generalize c.foldl fstep ((c.foldl hstep (hstep p n)).1 * q) = A at h1 ⊢
    generalize fac (c.foldl hstep (hstep p n)).2 = D at h1 ⊢
    calc A * fac n * fac p.2 * fac (p.2 + n) = (A * fac (p.2 + n)) * (fac n * fac p.2) := by ac_rfl
      _ = D * (p.1 * ch (p.2 + n) n * q) * (fac n * fac p.2) := by rw [h1]
      _ = D * (p.1 * q) * (ch (p.2 + n) n * (fac n * fac p.2)) := by ac_rfl
      _ = _ := by rw [cf]
theorem hm_right (c : List Nat) : c.foldl fstep (hm c).1 = fac c.sum := by
  obtain ⟨h1, h2⟩ := hm_fold c (1, 0) 1
  have e : (c.foldl hstep (1, 0)) = hm c := rfl
  rw [e] at h1 h2
  simp only [Nat.mul_one, Nat.zero_add] at h1 h2
  rw [← h2]
  simpa [fac] using h1
abbrev ni (n : Nat) : D := .int n
theorem sum_ni (c : List Nat) : (c.map fun (n : Nat) => (n : Int)).sum = (c.sum : Int) := by
  induction c with
  | nil => rfl
  | cons x c ih => rw [List.map_cons, List.sum_cons, ih, List.sum_cons]; omega
def Small (c : List Nat) : Prop := c.length ≤ 8 ∧ ∀ n ∈ c, n ≤ 41
theorem sum_le : ∀ {c : List Nat} {m : Nat}, (∀ n ∈ c, n ≤ m) → c.sum ≤ m * c.length
  | [], m, h => by simp
  | x :: c, m, h => by
    have := sum_le (c := c) fun n hn => h n (List.mem_cons_of_mem _ hn)
    have := h x List.mem_cons_self
    rw [List.sum_cons, List.length_cons, Nat.mul_succ]
    omega
theorem Small.sum {c : List Nat} (h : Small c) : c.sum ≤ 328 := by
  have := sum_le h.2
  have := h.1
  omega
theorem fac41 : fac 41 < 2 ^ 200 := by decide +kernel
/-- what follows x :: t, t falling (not rising anywhere) -/
def swp (x : Int) (t : List Int) : Option (List Int) :=
  let big := t.takeWhile fun y => decide (x < y)
  match big.getLast? with
  | none => none
  | some b => some (b :: (big.dropLast ++ x :: t.dropWhile fun y => decide (x < y)).reverse)
def nxt : List Int → Option (List Int)
  | [] => none
  | x :: t => match nxt t with
    | some t' => some (x :: t')
    | none => swp x t
def Fall (l : List Int) : Prop := l.Pairwise fun a b => b ≤ a
theorem swp_none {x : Int} {t : List Int} : swp x t = none ↔ ∀ y, t.head? = some y → y ≤ x := by
  unfold swp
  cases t with
  | nil => simp
  | cons y t =>
    by_cases h : x < y
    · simp only [List.takeWhile_cons, decide_eq_true h, if_true, List.head?_cons, Option.some.injEq]
      constructor
      · intro e
        have : ((y :: List.takeWhile (fun y => decide (x < y)) t).getLast?).isSome = true := by simp [List.getLast?_isSome]
        cases q : (y :: List.takeWhile (fun y => decide (x < y)) t).getLast? with
        | none => rw [q] at this; cases this
        | some b => rw [q] at e; cases e
      · intro e
        have := e y rfl
        omega
    · simp only [List.takeWhile_cons, decide_eq_false h, List.head?_cons, Option.some.injEq]
      constructor
      · intro _ z e; subst e; omega
      · intro _; rfl
theorem nxt_none : ∀ {l : List Int}, nxt l = none ↔ Fall l
  | [] => by simp [nxt, Fall]
  | x :: t => by
    unfold nxt Fall
    rw [List.pairwise_cons]
    cases h : nxt t with
    | some t' =>
      have : ¬ Fall t := fun c => by rw [← nxt_none (l := t)] at c; rw [h] at c; cases c
      constructor
      · intro e; cases e
      · intro ⟨_, c⟩; exact absurd c this
    | none =>
      have ft : Fall t := nxt_none.mp h
      show swp x t = none ↔ _
      rw [swp_none]
      constructor
      · intro e
        refine ⟨fun y hy => ?_, ft⟩
        cases t with
        | nil => cases hy
        | cons z t =>
          have hz := e z rfl
          rcases List.mem_cons.mp hy with rfl | hy
          · exact hz
          · have := (List.pairwise_cons.mp ft).1 y hy
            omega
      · rintro ⟨e, _⟩ y hy
        cases t with
        | nil => cases hy
        | cons z t =>
          rw [List.head?_cons, Option.some.injEq] at hy
          subst hy
          exact e _ List.mem_cons_self
/-- the values of a rising list -/
def dst : List Int → List Int
  | [] => []
  | x :: t => if (dst t).head? = some x then dst t else x :: dst t
theorem dst_mem : ∀ {l : List Int} {z : Int}, z ∈ dst l ↔ z ∈ l
  | [], z => Iff.rfl
  | x :: t, z => by
    unfold dst
    split
    · rename_i h
      rw [dst_mem (l := t), List.mem_cons]
      refine ⟨.inr, fun q => q.elim (fun e => ?_) id⟩
      subst e
      exact dst_mem.mp (List.mem_of_mem_head? h)
    · rw [List.mem_cons, List.mem_cons, dst_mem (l := t)]
theorem dst_up : ∀ {l : List Int}, l.Pairwise (fun a b => a ≤ b) → (dst l).Pairwise (· < ·)
  | [], _ => .nil
  | x :: t, h => by
    rw [List.pairwise_cons] at h
    have ih := dst_up h.2
    unfold dst
    split
    · exact ih
    · rename_i q
      rw [List.pairwise_cons]
      refine ⟨fun z hz => ?_, ih⟩
      have h1 := h.1 z (dst_mem.mp hz)
      cases g : dst t with
      | nil => rw [g] at hz; cases hz
      | cons y r =>
        rw [g] at q hz ih
        have hy : x ≠ y := fun e => q (by rw [e]; rfl)
        have h2 := h.1 y (dst_mem.mp (by rw [g]; exact List.mem_cons_self))
        rcases List.mem_cons.mp hz with rfl | hz
        · omega
        · have := (List.pairwise_cons.mp ih).1 z hz
          omega
/-- all weavings of a rising list, by their first turn -/
def arr : Nat → List Int → List (List Int)
  | 0, _ => [[]]
  | n + 1, ms => (dst ms).flatMap fun x => (arr n (ms.erase x)).map (x :: ·)
theorem arr_perm : ∀ {n : Nat} {ms l : List Int}, ms.length = n → l ∈ arr n ms → l.Perm ms
  | 0, ms, l, h, hl => by
    have : ms = [] := List.length_eq_zero_iff.mp h
    subst this
    simp only [arr, List.mem_singleton] at hl
    subst hl; exact .nil
  | n + 1, ms, l, h, hl => by
    simp only [arr, List.mem_flatMap, List.mem_map] at hl
    obtain ⟨x, hx, t, ht, rfl⟩ := hl
    have hx : x ∈ ms := dst_mem.mp hx
    have hp := arr_perm (n := n) (by rw [List.length_erase_of_mem hx, h]; rfl) ht
    exact (hp.cons x).trans (List.perm_cons_erase hx).symm
def Up (l : List Int) : Prop := l.Pairwise fun a b => a ≤ b
theorem up_uniq {l m : List Int} (p : l.Perm m) (h : Up l) (h' : Up m) : l = m := SK.sorted_unique p h h'
theorem up_erase {l : List Int} {x : Int} (h : Up l) : Up (l.erase x) := h.sublist List.erase_sublist
theorem swp_up {ms : List Int} {x y : Int} (hu : Up ms) (hx : x ∈ ms) (hy : y ∈ ms) (hxy : x < y) (hb : ∀ z ∈ ms, x < z → y ≤ z) : swp x (ms.erase x).reverse = some (y :: ms.erase y) := by
  have hA : ∃ A B, ms = A ++ x :: (y :: B) ∧ (∀ z ∈ A, z ≤ x) ∧ ∀ z ∈ B, y ≤ z := by
    let P := ms.filter fun z => decide (z ≤ x)
    let Q := ms.filter fun z => !decide (z ≤ x)
    have hPQ : ms.Perm (P ++ Q) := (List.filter_append_perm _ ms).symm
    have uP : Up P := hu.sublist List.filter_sublist
    have uQ : Up Q := hu.sublist List.filter_sublist
    have mP : ∀ z ∈ P, z ∈ ms ∧ z ≤ x := fun z hz => by
      have := List.mem_filter.mp hz
      exact ⟨this.1, of_decide_eq_true this.2⟩
    have mQ : ∀ z ∈ Q, z ∈ ms ∧ x < z := fun z hz => by
      have := List.mem_filter.mp hz
      refine ⟨this.1, ?_⟩
      have h2 := this.2
      simp only [Bool.not_eq_true', decide_eq_false_iff_not] at h2
      omega
    have xP : x ∈ P := List.mem_filter.mpr ⟨hx, by simp⟩
    have yQ : y ∈ Q := List.mem_filter.mpr ⟨hy, by simp; omega⟩
    have eP : P = P.erase x ++ [x] := by
      refine up_uniq ((List.perm_cons_erase xP).trans (List.perm_append_singleton x _).symm) uP ?_
      unfold Up
      rw [List.pairwise_append]
      refine ⟨up_erase uP, by simp, fun a ha b hb => ?_⟩
      rw [List.mem_singleton.mp hb]
      exact (mP a (List.mem_of_mem_erase ha)).2
    have eQ : Q = y :: Q.erase y := by
      refine up_uniq (List.perm_cons_erase yQ) uQ ?_
      unfold Up
      rw [List.pairwise_cons]
      refine ⟨fun a ha => ?_, up_erase uQ⟩
      obtain ⟨h1, h2⟩ := mQ a (List.mem_of_mem_erase ha)
      exact hb a h1 h2
    have e : ms = P ++ Q := by
      refine up_uniq hPQ hu ?_
      unfold Up
      rw [List.pairwise_append]
      refine ⟨uP, uQ, fun a ha b hb => ?_⟩
      have := (mP a ha).2
      have := (mQ b hb).2
      omega
    refine ⟨P.erase x, Q.erase y, ?_, fun z hz => (mP z (List.mem_of_mem_erase hz)).2, fun z hz => ?_⟩
    · rw [e]
      conv => lhs; rw [eP, eQ]
      rw [List.append_assoc]; rfl
    · obtain ⟨h1, h2⟩ := mQ z (List.mem_of_mem_erase hz)
      exact hb z h1 h2
  obtain ⟨A, B, e, hA, hB⟩ := hA
  have ux : Up (A ++ y :: B) := by
    refine hu.sublist ?_
    rw [e]
    exact List.Sublist.append (List.Sublist.refl _) (List.sublist_cons_self _ _)
  have uy : Up (A ++ x :: B) := by
    refine hu.sublist ?_
    rw [e]
    exact List.Sublist.append (List.Sublist.refl _) (List.Sublist.cons_cons _ (List.sublist_cons_self _ _))
  have e1 : ms.erase x = A ++ y :: B := by
    refine up_uniq ?_ (up_erase hu) ux
    refine ((List.perm_cons x).mp ?_)
    refine (List.perm_cons_erase hx).symm.trans ?_
    rw [e]
    exact List.perm_middle
  have e2 : ms.erase y = A ++ x :: B := by
    refine up_uniq ?_ (up_erase hu) uy
    refine ((List.perm_cons y).mp ?_)
    refine (List.perm_cons_erase hy).symm.trans ?_
    rw [e]
    refine (List.Perm.append_left A (List.Perm.swap y x B)).trans List.perm_middle
  rw [e1, e2]
  have er : (A ++ y :: B).reverse = (B.reverse ++ [y]) ++ A.reverse := by simp
  have p1 : ∀ z ∈ B.reverse ++ [y], (fun z => decide (x < z)) z = true := fun z hz => by
    rcases List.mem_append.mp hz with h | h
    · have := hB z (List.mem_reverse.mp h)
      exact decide_eq_true (by omega)
    · rw [List.mem_singleton.mp h]; exact decide_eq_true hxy
  have tw : List.takeWhile (fun z => decide (x < z)) ((B.reverse ++ [y]) ++ A.reverse) = B.reverse ++ [y] ∧ List.dropWhile (fun z => decide (x < z)) ((B.reverse ++ [y]) ++ A.reverse) = A.reverse := by
    rw [List.takeWhile_append_of_pos p1, List.dropWhile_append_of_pos p1]
    cases hr : A.reverse with
    | nil => simp
    | cons z t =>
      have hz : z ≤ x := hA z (List.mem_reverse.mp (by rw [hr]; exact List.mem_cons_self))
      have hd : decide (x < z) = false := decide_eq_false (by omega)
      simp only [List.takeWhile_cons, List.dropWhile_cons, hd, Bool.false_eq_true, if_false, List.append_nil, and_self]
  unfold swp
  rw [er]
  simp only [tw.1, tw.2, List.getLast?_append, List.getLast?_singleton, Option.some_or, List.dropLast_concat]
  simp
/-- each follows the one ahead of it -/
def Ch : List (List Int) → Prop
  | [] => True
  | [_] => True
  | l :: m :: r => nxt l = some m ∧ Ch (m :: r)
theorem Ch.app : ∀ {A B : List (List Int)}, Ch A → Ch B → (∀ a b, A.getLast? = some a → B.head? = some b → nxt a = some b) → Ch (A ++ B)
  | [], B, _, h, _ => h
  | [l], [], _, _, _ => trivial
  | [l], m :: B, _, h, q => ⟨q l m rfl rfl, h⟩
  | l :: m :: A, B, h, h2, q => ⟨h.1, Ch.app (A := m :: A) h.2 h2 fun a b e1 e2 => q a b (by rw [← e1, List.getLast?_cons_cons]) e2⟩
theorem nxt_cons {x : Int} {l m : List Int} (h : nxt l = some m) : nxt (x :: l) = some (x :: m) := by unfold nxt; rw [h]
theorem nxt_fall {x : Int} {t : List Int} (h : Fall t) : nxt (x :: t) = swp x t := by
  conv => lhs; unfold nxt
  rw [nxt_none.mpr h]
theorem Ch.map {x : Int} : ∀ {A : List (List Int)}, Ch A → Ch (A.map (x :: ·))
  | [], _ => trivial
  | [_], _ => trivial
  | l :: m :: A, h => ⟨nxt_cons h.1, Ch.map (A := m :: A) h.2⟩
theorem fall_rev {l : List Int} (h : Up l) : Fall l.reverse := by
  unfold Fall
  rw [List.pairwise_reverse]; exact h
theorem Ch.get : ∀ {A : List (List Int)}, Ch A → (∀ l, A.getLast? = some l → nxt l = none) → ∀ (i : Nat) l, A[i]? = some l → nxt l = A[i + 1]?
  | [], _, _, i, l, h => by simp at h
  | [a], _, q, 0, l, h => by
    simp only [List.getElem?_cons_zero, Option.some.injEq] at h
    subst h
    exact q a rfl
  | [a], _, _, i + 1, l, h => by simp at h
  | a :: b :: A, c, q, 0, l, h => by
    simp only [List.getElem?_cons_zero, Option.some.injEq] at h
    subst h
    exact c.1
  | a :: b :: A, c, q, i + 1, l, h => Ch.get (A := b :: A) c.2 (fun l e => q l (by rw [← e, List.getLast?_cons_cons])) i l h
def blkW (n : Nat) (ms : List Int) (x : Int) : List (List Int) := (arr n (ms.erase x)).map (x :: ·)
theorem arr_all : ∀ {n : Nat} {ms : List Int}, ms.length = n → Up ms → (arr n ms).head? = some ms ∧ (arr n ms).getLast? = some ms.reverse ∧ Ch (arr n ms)
  | 0, ms, h, _ => by
    have : ms = [] := List.length_eq_zero_iff.mp h
    subst this
    exact ⟨rfl, rfl, trivial⟩
  | n + 1, ms, h, hu => by
    have ih : ∀ x ∈ ms, (blkW n ms x).head? = some (x :: ms.erase x) ∧ (blkW n ms x).getLast? = some (x :: (ms.erase x).reverse) ∧ Ch (blkW n ms x) := fun x hx => by
      obtain ⟨h1, h2, h3⟩ := arr_all (n := n) (ms := ms.erase x) (by rw [List.length_erase_of_mem hx, h]; rfl) (up_erase hu)
      unfold blkW
      exact ⟨by rw [List.head?_map, h1]; rfl, by rw [List.getLast?_map, h2]; rfl, h3.map⟩
    have go : ∀ (ds : List Int), ds ≠ [] → (∀ x ∈ ds, x ∈ ms) → ds.Pairwise (· < ·) → (∀ z ∈ ms, ∀ x ∈ ds, x ≤ z → z ∈ ds) →
        (∀ x, ds.head? = some x → (ds.flatMap (blkW n ms)).head? = some (x :: ms.erase x)) ∧ (∀ x, ds.getLast? = some x → (ds.flatMap (blkW n ms)).getLast? = some (x :: (ms.erase x).reverse)) ∧ Ch (ds.flatMap (blkW n ms)) := by
      intro ds
      induction ds with
      | nil => intro h; exact absurd rfl h
      | cons a ds ihd =>
        intro _ hm hp hseg
        obtain ⟨a1, a2, a3⟩ := ih a (hm a List.mem_cons_self)
        rw [List.pairwise_cons] at hp
        cases ds with
        | nil =>
          simp only [List.flatMap_cons, List.flatMap_nil, List.append_nil]
          refine ⟨fun x e => ?_, fun x e => ?_, a3⟩
          · cases e; exact a1
          · cases e; exact a2
        | cons b r =>
          obtain ⟨b1, b2, b3⟩ := ihd (by simp) (fun x hx => hm x (List.mem_cons_of_mem _ hx)) hp.2 fun z hz x hx hxz => by
            have := hseg z hz x (List.mem_cons_of_mem _ hx) hxz
            rcases List.mem_cons.mp this with e | e
            · have := hp.1 x hx; omega
            · exact e
          have bb := b1 b rfl
          have hbm := hm b (List.mem_cons_of_mem _ List.mem_cons_self)
          rw [List.flatMap_cons]
          refine ⟨fun x e => ?_, fun x e => ?_, a3.app b3 fun u v e1 e2 => ?_⟩
          · cases e
            rw [List.head?_append, a1]; rfl
          · rw [List.getLast?_cons_cons] at e
            rw [List.getLast?_append, b2 x e]; rfl
          · rw [a2] at e1
            rw [bb] at e2
            cases e1; cases e2
            rw [nxt_fall (fall_rev (up_erase hu))]
            refine swp_up hu (hm a List.mem_cons_self) hbm (hp.1 b List.mem_cons_self) fun z hz haz => ?_
            have := hseg z hz a List.mem_cons_self (by omega)
            rcases List.mem_cons.mp this with e | e
            · omega
            · rcases List.mem_cons.mp e with e | e
              · omega
              · have := (List.pairwise_cons.mp hp.2).1 z e; omega
    have hne : ms ≠ [] := fun e => by rw [e] at h; cases h
    have hdn : dst ms ≠ [] := fun e => by
      cases ms with
      | nil => exact hne rfl
      | cons x t =>
        have : x ∈ dst (x :: t) := dst_mem.mpr List.mem_cons_self
        rw [e] at this; cases this
    obtain ⟨g1, g2, g3⟩ := go (dst ms) hdn (fun x hx => dst_mem.mp hx) (dst_up hu) fun z hz _ _ _ => dst_mem.mpr hz
    have ea : arr (n + 1) ms = (dst ms).flatMap (blkW n ms) := rfl
    rw [ea]
    refine ⟨?_, ?_, g3⟩
    · cases e : (dst ms).head? with
      | none => exact absurd (List.head?_eq_none_iff.mp e) hdn
      | some x =>
        rw [g1 x e]
        have hx : x ∈ ms := dst_mem.mp (List.mem_of_mem_head? e)
        have : ms = x :: ms.erase x := up_uniq (List.perm_cons_erase hx) hu (by
          unfold Up
          rw [List.pairwise_cons]
          refine ⟨fun z hz => ?_, up_erase hu⟩
          have hz2 := dst_mem.mpr (List.mem_of_mem_erase hz)
          have hd := dst_up hu
          cases g : dst ms with
          | nil => exact absurd g hdn
          | cons y r =>
            rw [g] at e hz2 hd
            cases e
            rcases List.mem_cons.mp hz2 with q | q
            · omega
            · have := (List.pairwise_cons.mp hd).1 z q; omega)
        rw [← this]
    · cases e : (dst ms).getLast? with
      | none => exact absurd (List.getLast?_eq_none_iff.mp e) hdn
      | some x =>
        rw [g2 x e]
        obtain ⟨ys, g⟩ := List.getLast?_eq_some_iff.mp e
        have hx : x ∈ ms := dst_mem.mp (by rw [g]; simp)
        have : ms = ms.erase x ++ [x] := up_uniq ((List.perm_cons_erase hx).trans (List.perm_append_singleton x _).symm) hu (by
          unfold Up
          rw [List.pairwise_append]
          refine ⟨up_erase hu, by simp, fun z hz b hb => ?_⟩
          rw [List.mem_singleton.mp hb]
          have hz2 := dst_mem.mpr (List.mem_of_mem_erase hz)
          have hd := dst_up hu
          rw [g] at hz2 hd
          rcases List.mem_append.mp hz2 with q | q
          · have := (List.pairwise_append.mp hd).2.2 z q x (by simp); omega
          · rw [List.mem_singleton.mp q]; omega)
        conv => rhs; rw [this]
        rw [List.reverse_append]; rfl
def fct : Nat → Nat
  | 0 => 1
  | n + 1 => (n + 1) * fct n
def pf : List Int → List Int → Nat
  | [], _ => 1
  | v :: V, ms => fct (ms.count v) * pf V ms
theorem pf_nil : ∀ V : List Int, pf V [] = 1
  | [] => rfl
  | v :: V => by unfold pf; rw [pf_nil V, List.count_nil]; rfl
theorem pf_no {x : Int} : ∀ {V ms : List Int}, x ∉ V → pf V (ms.erase x) = pf V ms
  | [], _, _ => rfl
  | v :: V, ms, h => by
    rw [List.mem_cons, not_or] at h
    unfold pf
    rw [pf_no h.2, List.count_erase_of_ne (fun e => h.1 e.symm)]
theorem pf_er {x : Int} : ∀ {V ms : List Int}, V.Nodup → x ∈ V → x ∈ ms → pf V ms = ms.count x * pf V (ms.erase x)
  | v :: V, ms, hn, hv, hm => by
    rw [List.nodup_cons] at hn
    unfold pf
    by_cases e : v = x
    · subst e
      rw [pf_no hn.1, List.count_erase_self]
      have : 0 < ms.count v := List.count_pos_iff.mpr hm
      obtain ⟨c, hc⟩ : ∃ c, ms.count v = c + 1 := ⟨ms.count v - 1, by omega⟩
      rw [hc, Nat.add_sub_cancel]
      show (c + 1) * fct c * pf V ms = _
      rw [Nat.mul_assoc]
    · have hv2 : x ∈ V := (List.mem_cons.mp hv).resolve_left fun h => e h.symm
      rw [pf_er hn.2 hv2 hm, List.count_erase_of_ne e]
      rw [← Nat.mul_assoc, ← Nat.mul_assoc, Nat.mul_comm (fct _)]
theorem sum_one {z : Int} : ∀ {ds : List Int}, ds.Nodup → z ∈ ds → (ds.map fun x => if z = x then 1 else 0).sum = 1
  | x :: ds, hn, hz => by
    rw [List.nodup_cons] at hn
    rw [List.map_cons, List.sum_cons]
    by_cases e : z = x
    · subst e
      rw [if_pos rfl]
      have : (ds.map fun x => if z = x then 1 else 0).sum = 0 := by
        have h0 : ∀ l : List Int, z ∉ l → (l.map fun x => if z = x then 1 else 0).sum = 0 := by
          intro l
          induction l with
          | nil => intro _; rfl
          | cons y l ih =>
            intro h
            rw [List.mem_cons, not_or] at h
            rw [List.map_cons, List.sum_cons, if_neg h.1, ih h.2]
        exact h0 ds hn.1
      omega
    · rw [if_neg e, sum_one hn.2 ((List.mem_cons.mp hz).resolve_left e)]
theorem sum_count {ds : List Int} (hn : ds.Nodup) : ∀ {ms : List Int}, (∀ z ∈ ms, z ∈ ds) → (ds.map fun x => ms.count x).sum = ms.length
  | [], _ => by
    have : ∀ l : List Int, (l.map fun x => ([] : List Int).count x).sum = 0 := by
      intro l
      induction l with
      | nil => rfl
      | cons y l ih => rw [List.map_cons, List.sum_cons, ih, List.count_nil]
    exact this ds
  | z :: ms, h => by
    have ih := sum_count hn (ms := ms) fun y hy => h y (List.mem_cons_of_mem _ hy)
    have h1 := sum_one hn (h z List.mem_cons_self)
    have : ∀ l : List Int, (l.map fun x => (z :: ms).count x).sum = (l.map fun x => ms.count x).sum + (l.map fun x => if z = x then 1 else 0).sum := by
      intro l
      induction l with
      | nil => rfl
      | cons y l ih =>
        simp only [List.map_cons, List.sum_cons, ih]
        have : (z :: ms).count y = ms.count y + if z = y then 1 else 0 := by
          rw [List.count_cons]
          by_cases e : z = y <;> simp [e]
        omega
    rw [this, ih, h1, List.length_cons]
theorem arr_count {V : List Int} (hV : V.Nodup) : ∀ {n : Nat} {ms : List Int}, ms.length = n → Up ms → (∀ z ∈ ms, z ∈ V) → (arr n ms).length * pf V ms = fct n
  | 0, ms, h, _, _ => by
    have : ms = [] := List.length_eq_zero_iff.mp h
    subst this
    rw [pf_nil]; rfl
  | n + 1, ms, h, hu, hv => by
    have go : ∀ ds : List Int, (∀ x ∈ ds, x ∈ ms) → (ds.flatMap (blkW n ms)).length * pf V ms = (ds.map fun x => ms.count x).sum * fct n := by
      intro ds
      induction ds with
      | nil => intro _; simp
      | cons x ds ih =>
        intro hm
        have hx := hm x List.mem_cons_self
        have hc := arr_count hV (n := n) (ms := ms.erase x) (by rw [List.length_erase_of_mem hx, h]; rfl) (up_erase hu) fun z hz => hv z (List.mem_of_mem_erase hz)
        rw [List.flatMap_cons, List.length_append, Nat.add_mul, ih fun y hy => hm y (List.mem_cons_of_mem _ hy), List.map_cons, List.sum_cons, Nat.add_mul]
        congr 1
        unfold blkW
        rw [List.length_map, pf_er hV (hv x hx) hx, ← hc, ← Nat.mul_assoc, ← Nat.mul_assoc, Nat.mul_comm (arr n (ms.erase x)).length]
    have hd : (dst ms).Nodup := (dst_up hu).imp fun h e => by omega
    show ((dst ms).flatMap (blkW n ms)).length * pf V ms = _
    rw [go (dst ms) fun x hx => dst_mem.mp hx, sum_count hd fun z hz => dst_mem.mpr hz, h]
    rfl
def lx : List Int → List Int → Prop
  | x :: l, y :: m => x < y ∨ (x = y ∧ lx l m)
  | _, _ => False
theorem nxt_lx : ∀ {l m : List Int}, nxt l = some m → lx l m
  | x :: t, m, h => by
    unfold nxt at h
    cases q : nxt t with
    | some t' =>
      rw [q] at h; cases h
      exact .inr ⟨rfl, nxt_lx q⟩
    | none =>
      rw [q] at h
      have h : swp x t = some m := h
      unfold swp at h
      cases g : (t.takeWhile fun y => decide (x < y)).getLast? with
      | none => simp only [g] at h; cases h
      | some b =>
        simp only [g] at h
        cases h
        have hb : b ∈ t.takeWhile fun y => decide (x < y) := List.mem_of_getLast? g
        have : ∀ l : List Int, ∀ b ∈ l.takeWhile (fun y => decide (x < y)), x < b := by
          intro l
          induction l with
          | nil => intro b hb; cases hb
          | cons y l ih =>
            intro b hb
            rw [List.takeWhile_cons] at hb
            by_cases c : x < y
            · rw [decide_eq_true c, if_pos rfl] at hb
              rcases List.mem_cons.mp hb with rfl | hb
              · exact c
              · exact ih b hb
            · rw [decide_eq_false c] at hb
              simp at hb
        exact .inl (this t b hb)
/-- what the code does at the i-th place: the turns ahead, the one that rises, those behind -/
theorem nxt_code {A : List Int} {x : Int} {t : List Int} (hf : Fall t) {m : List Int} (h : swp x t = some m) : nxt (A ++ x :: t) = some (A ++ m) := by
  induction A with
  | nil => rw [List.nil_append, List.nil_append, nxt_fall hf, h]
  | cons a A ih => exact nxt_cons ih
def bas : Nat → List Nat → List Int
  | _, [] => []
  | i, n :: c => List.replicate n ((i : Int) + 1) ++ bas (i + 1) c
theorem bas_app (b : List Nat) : ∀ (a : List Nat) (i : Nat), bas i (a ++ b) = bas i a ++ bas (i + a.length) b
  | [], i => rfl
  | n :: a, i => by
    show _ ++ bas (i + 1) (a ++ b) = _
    rw [bas_app b a (i + 1)]
    simp only [bas, List.append_assoc, List.length_cons]
    rw [show i + 1 + a.length = i + (a.length + 1) by omega]
theorem bas_take {c : List Nat} {k n : Nat} (h : c[k]? = some n) : bas 0 (c.take (k + 1)) = bas 0 (c.take k) ++ List.replicate n ((k : Int) + 1) := by
  have hk := (List.getElem?_eq_some_iff.mp h).1
  rw [List.take_add_one, h, Option.toList_some, bas_app, List.length_take, Nat.min_eq_left (by omega), Nat.zero_add]
  simp [bas]
theorem bas_len : ∀ (c : List Nat) (i : Nat), (bas i c).length = c.sum
  | [], _ => rfl
  | n :: c, i => by simp [bas, bas_len c (i + 1)]
theorem bas_ge : ∀ {c : List Nat} {i : Nat} {z : Int}, z ∈ bas i c → (i : Int) + 1 ≤ z ∧ z ≤ (i : Int) + c.length
  | [], _, _, h => by simp [bas] at h
  | n :: c, i, z, h => by
    unfold bas at h
    rcases List.mem_append.mp h with h | h
    · rw [(List.mem_replicate.mp h).2]; simp only [List.length_cons]; omega
    · have := bas_ge h
      simp only [List.length_cons]
      omega
theorem bas_up : ∀ (c : List Nat) (i : Nat), Up (bas i c)
  | [], _ => .nil
  | n :: c, i => by
    unfold bas Up
    rw [List.pairwise_append]
    refine ⟨?_, bas_up c (i + 1), fun a ha b hb => ?_⟩
    · rw [List.pairwise_replicate]; exact .inr (Int.le_refl _)
    · have := bas_ge hb
      rw [(List.mem_replicate.mp ha).2]; omega
theorem bas_count : ∀ {c : List Nat} {i k n : Nat}, c[k]? = some n → (bas i c).count ((i : Int) + k + 1) = n
  | m :: c, i, 0, n, h => by
    simp only [List.getElem?_cons_zero, Option.some.injEq] at h
    subst h
    unfold bas
    rw [show ((i : Int) + ((0 : Nat) : Int) + 1) = (i : Int) + 1 by omega]
    have : List.count ((i : Int) + 1) (bas (i + 1) c) = 0 := List.count_eq_zero.mpr fun hm => by have := bas_ge hm; omega
    rw [List.count_append, this, List.count_replicate_self]; rfl
  | m :: c, i, k + 1, n, h => by
    unfold bas
    have h' : c[k]? = some n := by simpa using h
    have := bas_count (i := i + 1) h'
    rw [List.count_append, show ((i : Int) + ((k + 1 : Nat) : Int) + 1) = (((i + 1 : Nat) : Int) + k + 1) by omega, this]
    have : List.count (((i + 1 : Nat) : Int) + k + 1) (List.replicate m ((i : Int) + 1)) = 0 := List.count_eq_zero.mpr fun hm => by have := (List.mem_replicate.mp hm).2; omega
    omega
theorem fct_fac : ∀ n, fct n = fac n
  | 0 => rfl
  | n + 1 => by unfold fct fac; rw [fct_fac n, Nat.mul_comm]
theorem pf_bas {ms : List Int} : ∀ {c : List Nat} {i : Nat}, (∀ (k n : Nat), c[k]? = some n → ms.count ((i : Int) + k + 1) = n) → ∀ z, c.foldl fstep z = z * pf ((List.range' i c.length).map fun (k : Nat) => (k : Int) + 1) ms
  | [], _, _, z => by simp [pf]
  | n :: c, i, h, z => by
    rw [List.foldl_cons, pf_bas (c := c) (i := i + 1) fun k m hk => by
      have := h (k + 1) m (by simpa using hk)
      rw [← this]; congr 1; omega]
    have h0 := h 0 n rfl
    simp only [List.length_cons, List.range'_succ, List.map_cons]
    rw [pf.eq_2, show ((i : Int) + 1) = (i : Int) + ((0 : Nat) : Int) + 1 by omega, h0, fct_fac, fstep, Nat.mul_assoc]
theorem pf_pos {ms : List Int} : ∀ V, 0 < pf V ms
  | [] => Nat.zero_lt_one
  | v :: V => by unfold pf; rw [fct_fac]; exact Nat.mul_pos (fac_pos _) (pf_pos V)
/-- how many weavings there are -/
theorem arr_hm (c : List Nat) : (arr c.sum (bas 0 c)).length = (hm c).1 := by
  have h1 := hm_right c
  have e := pf_bas (ms := bas 0 c) (c := c) (i := 0) (fun k n h => by have := bas_count (i := 0) h; simpa using this) (hm c).1
  have hV : ((List.range' 0 c.length).map fun (k : Nat) => (k : Int) + 1).Nodup := by
    rw [List.Nodup, List.pairwise_map]
    exact (List.nodup_range' (s := 0) (n := c.length)).imp fun h e => h (by omega)
  have h2 := arr_count hV (n := c.sum) (ms := bas 0 c) (bas_len c 0) (bas_up c 0) fun z hz => by
    have := bas_ge hz
    rw [List.mem_map]
    exact ⟨(z - 1).toNat, by rw [List.mem_range'_1]; omega, by omega⟩
  rw [e, ← fct_fac, ← h2] at h1
  exact Nat.eq_of_mul_eq_mul_right (pf_pos _) h1.symm
def Al (c : List Nat) : List (List Int) := arr c.sum (bas 0 c)
theorem al_nxt {c : List Nat} {i : Nat} {l : List Int} (h : (Al c)[i]? = some l) : nxt l = (Al c)[i + 1]? := by
  obtain ⟨_, h2, h3⟩ := arr_all (bas_len c 0) (bas_up c 0)
  refine h3.get (fun l e => ?_) i l h
  rw [h2] at e
  cases e
  exact nxt_none.mpr (fall_rev (bas_up c 0))
theorem al_zero (c : List Nat) : (Al c)[0]? = some (bas 0 c) := by
  have := (arr_all (bas_len c 0) (bas_up c 0)).1
  rw [List.head?_eq_getElem?] at this
  exact this
theorem al_mem {c : List Nat} {l : List Int} (h : l ∈ Al c) : l.Perm (bas 0 c) := arr_perm (bas_len c 0) h
def nxD (l : List Int) : O := match nxt l with | none => .d .non | some m => .ol ((m.map SK.D.int).map O.d)
/-- what is left when the first ones are divided out -/
def lft (h : Nat) (c : List Nat) : Nat := c.foldl fstep h
theorem lft_cons {h n : Nat} {c : List Nat} : lft h (n :: c) = lft h c * fac n := by
  unfold lft
  rw [List.foldl_cons]
  have e0 : ∀ (c : List Nat) (z m : Nat), c.foldl fstep (z * m) = c.foldl fstep z * m := by
    intro c
    induction c with
    | nil => intro z m; rfl
    | cons x c ih => intro z m; rw [List.foldl_cons, List.foldl_cons, fstep, fstep, Nat.mul_right_comm, ih]
  rw [fstep, e0]
theorem lft_div {h n : Nat} {c : List Nat} : lft h (n :: c) / fac n = lft h c := by
  rw [lft_cons, Nat.mul_div_cancel _ (fac_pos n)]
abbrev alO (A : List (List Int)) : O := .ol (A.map fun l => .ol ((l.map SK.D.int).map O.d))
abbrev alD (A : List (List Int)) : D := .lst (A.map fun l => .lst (l.map SK.D.int))
theorem alO_fz {A : List (List Int)} : (alO A).fz = alD A := by
  show D.lst (fzL _) = _
  exact congrArg D.lst (fzL_map fun l => fz_fl)
theorem rep1 {x : D} : ∀ n : Nat, (List.replicate ((n : Int).toNat) [x]).flatten = List.replicate n x := fun n => by
  rw [Int.toNat_natCast]
  induction n with
  | zero => rfl
  | succ n ih => rw [List.replicate_succ, List.flatten_cons, ih, List.replicate_succ]; rfl
theorem ol_end {xs : List O} {y : O} {i : Nat} (h : xs.length = i) : (O.ol (xs ++ [y])).getP [.idx i] = some y := by
  have : (xs ++ [y])[i]? = some y := by rw [← h]; simp
  unfold O.getP
  show (match (xs ++ [y])[i]? with | some o => O.getP o [] | none => none) = _
  rw [this]; rfl
theorem ol_set {xs : List O} {y y' : O} {i : Nat} (h : xs.length = i) : (O.ol (xs ++ [y])).setP y' [.idx i] = .ol (xs ++ [y']) := by
  have h1 : (xs ++ [y])[i]? = some y := by rw [← h]; simp
  unfold O.setP
  show (match (xs ++ [y])[i]? with | some o => O.set1 (.ol (xs ++ [y])) (O.setP o y' []) (.idx i) | none => .ol (xs ++ [y])) = _
  rw [h1]
  show O.ol ((xs ++ [y]).set i y') = _
  rw [← h]; simp
theorem wkn_end {xs : List O} {y y' : O} {i : Nat} (h : xs.length = i) (w : Wkn y y') : Wkn (.ol (xs ++ [y])) (.ol (xs ++ [y'])) := by
  have := wkn_setP w (ol_end (xs := xs) (y := y) h)
  have e : (O.ol (xs ++ [y])).setP y' [.idx i] = .ol (xs ++ [y']) := by
    have h1 : (xs ++ [y])[i]? = some y := by rw [← h]; simp
    unfold O.setP
    show (match (xs ++ [y])[i]? with | some o => O.set1 (.ol (xs ++ [y])) (O.setP o y' []) (.idx i) | none => .ol (xs ++ [y])) = _
    rw [h1]
    show O.ol ((xs ++ [y]).set i y') = _
    rw [← h]; simp
  rw [e] at this; exact this
theorem cutD_last {α : Type} {xs : List α} : SK.cutD xs none (some (-1)) = xs.take (xs.length - 1) := by
  unfold SK.cutD
  show (xs.drop 0).take (HT.sIx xs.length xs.length (some (-1)) - 0) = _
  rw [List.drop_zero, Nat.sub_zero]
  congr 1
  show (if (-1 : Int) < 0 then ((-1 : Int) + (xs.length : Int)).toNat else min (-1 : Int).toNat xs.length) = _
  rw [if_pos (by omega)]; omega
theorem zipD_map {α β : Type} {f : α → D} {g : β → D} {A : List α} {Bs : List β} {i : Nat} {d : D} (h : (zipD (A.map f) (Bs.map g))[i]? = some d) : ∃ a b, A[i]? = some a ∧ Bs[i]? = some b ∧ d = .tup [f a, g b] := by
  unfold zipD at h
  rw [List.getElem?_map] at h
  cases q : ((A.map f).zip (Bs.map g))[i]? with
  | none => rw [q] at h; cases h
  | some p =>
    rw [q] at h; cases h
    rw [List.getElem?_zip_eq_some, List.getElem?_map, List.getElem?_map] at q
    obtain ⟨q1, q2⟩ := q
    cases e1 : A[i]? with
    | none => rw [e1] at q1; cases q1
    | some a =>
      cases e2 : Bs[i]? with
      | none => rw [e2] at q2; cases q2
      | some b =>
        rw [e1] at q1; rw [e2] at q2
        exact ⟨a, b, rfl, rfl, by show D.tup [p.1, p.2] = _; rw [← Option.some.inj q1, ← Option.some.inj q2]⟩
def smC : List (List Nat) := [[20, 3], [12, 4], [8, 3, 1], [9, 5], [21, 3], [1, 0, 3, 8], [3, 3, 3], [2, 2, 2, 2], [1, 1, 1, 1, 1, 1], [41, 41, 41]]
theorem smC_ok : ∀ c ∈ smC, Small c := by
  intro c hc
  have : ∀ c ∈ smC, c.length ≤ 8 ∧ ∀ n ∈ c, n ≤ 41 := by decide
  exact this c hc
local macro_rules | `(tactic| walk_at "lendx") => `(tactic| simp only [fzE_cons, fzE_nil, frO_none, frO_some, alO_fz, fz_d, List.set])
theorem atI_end {α : Type} {xs : List α} {y : α} : atI (xs ++ [y]) (-1) = some y := by
  unfold atI ixN
  rw [if_neg (by decide), if_pos (by simp; omega)]
  simp
  rw [show (-1 + ((xs.length : Int) + 1)).toNat = xs.length by omega]
  simp
theorem fzL_app : ∀ {xs ys : List O}, fzL (xs ++ ys) = fzL xs ++ fzL ys
  | [], _ => rfl
  | x :: xs, ys => by show x.fz :: fzL (xs ++ ys) = _; rw [fzL_app]; rfl
structure One (c : List Nat) (l : List Int) : Prop where
  ln : l.length = c.sum
  mem : ∀ z ∈ l, 1 ≤ z ∧ z ≤ c.length
  ct : ∀ k n : Nat, c[k]? = some n → l.count ((k : Int) + 1) = n
theorem one_of {c : List Nat} {l : List Int} (h : l ∈ Al c) : One c l := by
  have p := al_mem h
  refine ⟨by rw [p.length_eq, bas_len], fun z hz => ?_, fun k n hk => ?_⟩
  · have := bas_ge (p.mem_iff.mp hz); omega
  · rw [p.count_eq]
    have := bas_count (i := 0) hk
    simpa using this
def cnts (c : List Nat) (l : List Int) : List Int := (List.range c.length).map fun (k : Nat) => ((l.count ((k : Int) + 1) : Nat) : Int)
theorem cnts_nil {c : List Nat} : cnts c [] = List.replicate c.length 0 := by
  unfold cnts
  simp [List.map_const']
theorem cnts_len {c : List Nat} {l : List Int} : (cnts c l).length = c.length := by simp [cnts]
theorem cnts_get {c : List Nat} {l : List Int} {k : Nat} (h : k < c.length) : (cnts c l)[k]? = some (l.count ((k : Int) + 1) : Int) := by
  simp [cnts, h]
theorem cnts_put {c : List Nat} {l : List Int} {k : Nat} (h : k < c.length) : cnts c (l ++ [(k : Int) + 1]) = (cnts c l).set k ((l.count ((k : Int) + 1) : Int) + 1) := by
  refine List.ext_getElem? fun j => ?_
  by_cases hj : j < c.length
  · rw [cnts_get hj, List.getElem?_set, cnts_len]
    by_cases e : k = j
    · subst e
      rw [if_pos rfl, if_pos h, List.count_append]; simp
    · rw [if_neg e, cnts_get hj, List.count_append, List.count_singleton]
      have : ¬ ((k : Int) + 1 == (j : Int) + 1) = true := by simp; omega
      rw [if_neg this]; rfl
  · rw [List.getElem?_eq_none (by rw [cnts_len]; omega), List.getElem?_eq_none (by rw [List.length_set, cnts_len]; omega)]
theorem cnts_all {c : List Nat} {l : List Int} (h : One c l) : (cnts c l).map SK.D.int = c.map ni := by
  refine List.ext_getElem? fun j => ?_
  rw [List.getElem?_map, List.getElem?_map]
  by_cases hj : j < c.length
  · rw [cnts_get hj, List.getElem?_eq_getElem hj, h.ct j c[j] (List.getElem?_eq_getElem hj)]; rfl
  · rw [List.getElem?_eq_none (by rw [cnts_len]; omega), List.getElem?_eq_none (by omega)]; rfl
theorem lx_geL : ∀ {l m : List Int}, lx l m → geL l m = false
  | x :: l, y :: m, h => by
    rcases h with h | ⟨rfl, h⟩
    · unfold geL
      rw [if_neg (by omega)]
      exact decide_eq_false (by omega)
    · unfold geL
      rw [if_pos rfl]
      exact lx_geL h
def C__law_cell (mg : Str → Option Value) : Ct := fun zxs zp zq => ∃ (ns : List Int) (k : Int), zxs = [.sq (ns.map D.int), .int k] ∧ (0 ≤ k) ∧ (k < 1000) ∧ zp = (fun zo => ∃ (x : Int), zo = .d (.int x)) ∧ zq = noX
theorem call__law_cell {K : PySem.W.Frag} {mg : Str → Option Value} {F B0 : Hp} {T : List O} {Γ : En} {zpost : O → En → Prop} {zE : XK} {zt : TA} (zh : GoA K F B0 zt T Γ fun zxs Γ1 => ∃ (ns : List Int) (k : Int), zxs = [.sq (ns.map D.int), .int k] ∧ (0 ≤ k) ∧ (k < 1000) ∧ (∀ (x : Int), zpost (.d (.int x)) Γ1)) : Go K F B0 (tCall (spP K (C__law_cell mg)) [] zE zt) T Γ zpost := by
  refine go_call (dxs := []) (fun z0 z1 z2 z3 z4 z5 => zh z0 z1 z2 z3 z4 fun z6 z7 z8 z9 ⟨ns, k, ze, hp0, hp1, h1⟩ => z5 z6 z7 z8 z9 ⟨_, ⟨ns, k, (List.append_nil _).trans ze, hp0, hp1, rfl, rfl⟩, (fun zo ⟨x, ze⟩ => ze ▸ h1 x)⟩) (fun _ => .nil)
def C__law_counts (mg : Str → Option Value) : Ct := fun zxs zp zq => ∃ (ns : List Int), zxs = [.sq (ns.map D.int)] ∧ zp = (fun zo => ∃ c, Small c ∧ zo = .ol ((c.map ni).map O.d)) ∧ zq = noX
theorem call__law_counts {K : PySem.W.Frag} {mg : Str → Option Value} {F B0 : Hp} {T : List O} {Γ : En} {zpost : O → En → Prop} {zE : XK} {zt : TA} (zh : GoA K F B0 zt T Γ fun zxs Γ1 => ∃ (ns : List Int), zxs = [.sq (ns.map D.int)] ∧ (∀ zo, (fun zo => ∃ c, Small c ∧ zo = .ol ((c.map ni).map O.d)) zo → zpost zo Γ1)) : Go K F B0 (tCall (spP K (C__law_counts mg)) [] zE zt) T Γ zpost := by
  refine go_call (dxs := []) (fun z0 z1 z2 z3 z4 z5 => zh z0 z1 z2 z3 z4 fun z6 z7 z8 z9 ⟨ns, ze, h1⟩ => z5 z6 z7 z8 z9 ⟨_, ⟨ns, (List.append_nil _).trans ze, rfl, rfl⟩, h1⟩) (fun _ => .nil)
def C__law_factorial (mg : Str → Option Value) : Ct := fun zxs zp zq => ∃ (n : Nat), zxs = [ni n] ∧ (n ≤ 400) ∧ zp = (fun zo => zo = .d (ni (fac n))) ∧ zq = noX
theorem call__law_factorial {K : PySem.W.Frag} {mg : Str → Option Value} {F B0 : Hp} {T : List O} {Γ : En} {zpost : O → En → Prop} {zE : XK} {zt : TA} (zh : GoA K F B0 zt T Γ fun zxs Γ1 => ∃ (n : Nat), zxs = [ni n] ∧ (n ≤ 400) ∧ (zpost (.d (ni (fac n))) Γ1)) : Go K F B0 (tCall (spP K (C__law_factorial mg)) [] zE zt) T Γ zpost := by
  refine go_call (dxs := []) (fun z0 z1 z2 z3 z4 z5 => zh z0 z1 z2 z3 z4 fun z6 z7 z8 z9 ⟨n, ze, hp0, h1⟩ => z5 z6 z7 z8 z9 ⟨_, ⟨n, (List.append_nil _).trans ze, hp0, rfl, rfl⟩, (fun zo ze => ze ▸ h1)⟩) (fun _ => .nil)
def C__law_many (mg : Str → Option Value) : Ct := fun zxs zp zq => ∃ (c : List Nat), zxs = [.lst (c.map ni)] ∧ (Small c) ∧ zp = (fun zo => zo = .d (ni (hm c).1)) ∧ zq = noX
theorem call__law_many {K : PySem.W.Frag} {mg : Str → Option Value} {F B0 : Hp} {T : List O} {Γ : En} {zpost : O → En → Prop} {zE : XK} {zt : TA} (zh : GoA K F B0 zt T Γ fun zxs Γ1 => ∃ (c : List Nat), zxs = [.lst (c.map ni)] ∧ (Small c) ∧ (zpost (.d (ni (hm c).1)) Γ1)) : Go K F B0 (tCall (spP K (C__law_many mg)) [] zE zt) T Γ zpost := by
  refine go_call (dxs := []) (fun z0 z1 z2 z3 z4 z5 => zh z0 z1 z2 z3 z4 fun z6 z7 z8 z9 ⟨c, ze, hp0, h1⟩ => z5 z6 z7 z8 z9 ⟨_, ⟨c, (List.append_nil _).trans ze, hp0, rfl, rfl⟩, (fun zo ze => ze ▸ h1)⟩) (fun _ => .nil)
def C_how_many (mg : Str → Option Value) : Ct := fun zxs zp zq => ∃ (c : List Nat), zxs = [.lst (c.map ni)] ∧ (Small c) ∧ zp = (fun zo => zo = .d (ni (hm c).1)) ∧ zq = noX
theorem call_how_many {K : PySem.W.Frag} {mg : Str → Option Value} {F B0 : Hp} {T : List O} {Γ : En} {zpost : O → En → Prop} {zE : XK} {zt : TA} (zh : GoA K F B0 zt T Γ fun zxs Γ1 => ∃ (c : List Nat), zxs = [.lst (c.map ni)] ∧ (Small c) ∧ (zpost (.d (ni (hm c).1)) Γ1)) : Go K F B0 (tCall (spP K (C_how_many mg)) [] zE zt) T Γ zpost := by
  refine go_call (dxs := []) (fun z0 z1 z2 z3 z4 z5 => zh z0 z1 z2 z3 z4 fun z6 z7 z8 z9 ⟨c, ze, hp0, h1⟩ => z5 z6 z7 z8 z9 ⟨_, ⟨c, (List.append_nil _).trans ze, hp0, rfl, rfl⟩, (fun zo ze => ze ▸ h1)⟩) (fun _ => .nil)
def C_next_weaving (mg : Str → Option Value) : Ct := fun zxs zp zq => ∃ (l : List Int), zxs = [.lst (l.map D.int)] ∧ (l.length ≤ 400) ∧ zp = (fun zo => zo = nxD l) ∧ zq = noX
theorem call_next_weaving {K : PySem.W.Frag} {mg : Str → Option Value} {F B0 : Hp} {T : List O} {Γ : En} {zpost : O → En → Prop} {zE : XK} {zt : TA} (zh : GoA K F B0 zt T Γ fun zxs Γ1 => ∃ (l : List Int), zxs = [.lst (l.map D.int)] ∧ (l.length ≤ 400) ∧ (∀ zo, (fun zo => zo = nxD l) zo → zpost zo Γ1)) : Go K F B0 (tCall (spP K (C_next_weaving mg)) [] zE zt) T Γ zpost := by
  refine go_call (dxs := []) (fun z0 z1 z2 z3 z4 z5 => zh z0 z1 z2 z3 z4 fun z6 z7 z8 z9 ⟨l, ze, hp0, h1⟩ => z5 z6 z7 z8 z9 ⟨_, ⟨l, (List.append_nil _).trans ze, hp0, rfl, rfl⟩, h1⟩) (fun _ => .nil)
def C_weavings (mg : Str → Option Value) : Ct := fun zxs zp zq => ∃ (c : List Nat), zxs = [.lst (c.map ni)] ∧ (Small c) ∧ zp = (fun zo => (hm c).1 ≤ 2000 ∧ zo = alO (Al c)) ∧ zq = (fun Cc fs => fs = none ∧ mg "TooMany" = some (.ref Cc) ∧ 2000 < (hm c).1)
theorem call_weavings {K : PySem.W.Frag} {mg : Str → Option Value} {F B0 : Hp} {T : List O} {Γ : En} {zpost : O → En → Prop} {W : WX} {XX : Addr → Option (List (Str × D)) → En → Prop} {zt : TA} (wx : ∀ Cc fs d σ Γ H, XX Cc fs Γ → HoX K F B0 σ Γ H d fs → W (.ref Cc) d σ H) (zh : GoA K F B0 zt T Γ fun zxs Γ1 => ∃ (c : List Nat), zxs = [.lst (c.map ni)] ∧ (Small c) ∧ (∀ zo, (fun zo => (hm c).1 ≤ 2000 ∧ zo = alO (Al c)) zo → zpost zo Γ1) ∧ ∀ Cc fs, (fun Cc fs => fs = none ∧ mg "TooMany" = some (.ref Cc) ∧ 2000 < (hm c).1) Cc fs → XX Cc fs Γ1) : Go K F B0 (tCallS (spP K (C_weavings mg)) (WE W) zt) T Γ zpost := by
  refine go_callX wx (fun z0 z1 z2 z3 z4 z5 => zh z0 z1 z2 z3 z4 fun z6 z7 z8 z9 ⟨c, ze, hp0, h1, h2⟩ => z5 z6 z7 z8 z9 ⟨_, _, ⟨c, ze, hp0, rfl, rfl⟩, h1, h2⟩)
def C__law_is_one (mg : Str → Option Value) : Ct := fun zxs zp zq => ∃ (c : List Nat) (l : List Int), zxs = [.lst (l.map D.int), .lst (c.map ni)] ∧ (Small c) ∧ (One c l) ∧ zp = (fun zo => zo = .d (.bl true)) ∧ zq = noX
theorem call__law_is_one {K : PySem.W.Frag} {mg : Str → Option Value} {F B0 : Hp} {T : List O} {Γ : En} {zpost : O → En → Prop} {zE : XK} {zt : TA} (zh : GoA K F B0 zt T Γ fun zxs Γ1 => ∃ (c : List Nat) (l : List Int), zxs = [.lst (l.map D.int), .lst (c.map ni)] ∧ (Small c) ∧ (One c l) ∧ (zpost (.d (.bl true)) Γ1)) : Go K F B0 (tCall (spP K (C__law_is_one mg)) [] zE zt) T Γ zpost := by
  refine go_call (dxs := []) (fun z0 z1 z2 z3 z4 z5 => zh z0 z1 z2 z3 z4 fun z6 z7 z8 z9 ⟨c, l, ze, hp0, hp1, h1⟩ => z5 z6 z7 z8 z9 ⟨_, ⟨c, l, (List.append_nil _).trans ze, hp0, hp1, rfl, rfl⟩, (fun zo ze => ze ▸ h1)⟩) (fun _ => .nil)
def C__law_all (mg : Str → Option Value) : Ct := fun zxs zp zq => ∃ (c : List Nat), zxs = [alD (Al c), .lst (c.map ni)] ∧ (Small c) ∧ ((Al c).length ≤ 2000) ∧ zp = (fun zo => zo = .d (.bl true)) ∧ zq = noX
theorem call__law_all {K : PySem.W.Frag} {mg : Str → Option Value} {F B0 : Hp} {T : List O} {Γ : En} {zpost : O → En → Prop} {zE : XK} {zt : TA} (zh : GoA K F B0 zt T Γ fun zxs Γ1 => ∃ (c : List Nat), zxs = [alD (Al c), .lst (c.map ni)] ∧ (Small c) ∧ ((Al c).length ≤ 2000) ∧ (zpost (.d (.bl true)) Γ1)) : Go K F B0 (tCall (spP K (C__law_all mg)) [] zE zt) T Γ zpost := by
  refine go_call (dxs := []) (fun z0 z1 z2 z3 z4 z5 => zh z0 z1 z2 z3 z4 fun z6 z7 z8 z9 ⟨c, ze, hp0, hp1, h1⟩ => z5 z6 z7 z8 z9 ⟨_, ⟨c, (List.append_nil _).trans ze, hp0, hp1, rfl, rfl⟩, (fun zo ze => ze ▸ h1)⟩) (fun _ => .nil)
local macro_rules | `(tactic| walk_at "skc") => `(tactic| first
  | with_reducible refine call__law_cell ?_
  | with_reducible refine call__law_counts ?_
  | with_reducible refine call__law_factorial ?_
  | with_reducible refine call__law_many ?_
  | with_reducible refine call_how_many ?_
  | with_reducible refine call_next_weaving ?_
  | ((with_reducible refine' call_weavings ?hw ?_); (case hw => assumption)) | with_reducible refine call_weavings (XX := fun _ _ _ => False) (fun _ _ _ _ _ _ z _ => z.elim) ?_
  | with_reducible refine call__law_is_one ?_
  | with_reducible refine call__law_all ?_
  | with_reducible refine go_make00 ?_ | ((with_reducible refine' oa_isiO ?hc ?hq ?_); (case hc => assumption); (case hq => assumption)))
abbrev C_law := lawC
local macro_rules | `(tactic| walk_at "x0") => `(tactic| focus (((with_reducible refine' go_var ?hv ?_); (case hv => exact rfl))))
local macro_rules | `(tactic| walk_at "x1") => `(tactic| focus (with_reducible refine oa_len (.seq rfl) ?_))
local macro_rules | `(tactic| walk_at "x2") => `(tactic| focus (walk_at "lendx"))
local macro_rules | `(tactic| walk_at "x3") => `(tactic| focus ((with_reducible refine ⟨_, rfl, ?_⟩)))
local macro_rules | `(tactic| walk_at "x4") => `(tactic| focus (((with_reducible refine and_im (fun hc => ?_) (fun hc => ?_)) <;> try simp only [decide_eq_true_eq, decide_eq_false_iff_not, Bool.true_eq_false, Bool.false_eq_true, Bool.not_eq_true', Bool.not_eq_false', reduceCtorEq] at hc <;> try first | exact absurd hc (by decide) | exact absurd hc (by assumption) | exact absurd (by assumption) hc | exact absurd rfl hc)))
local macro_rules | `(tactic| walk_at "x5") => `(tactic| focus (((with_reducible refine' o2_mul ?hm ?_); (case hm => first | exact IntMulOk.of_left (by decide) | exact IntMulOk.of_right (by decide) | assumption | exact IntMulOk.of_right (intBits_le_64 (by omega) (by omega)) | exact IntMulOk.of_left (intBits_le_64 (by omega) (by omega))))))
local macro_rules | `(tactic| walk_at "x6") => `(tactic| focus (((with_reducible refine' o2_mod ?hb ?_); (case hb => omega))))
local macro_rules | `(tactic| walk_at "x7") => `(tactic| focus ((with_reducible refine ⟨_, _, rfl, ?_⟩)))
local macro_rules | `(tactic| walk_at "x8") => `(tactic| focus (((with_reducible refine' And.intro ?hp ?_); (case hp => first | omega | assumption | exact rfl | exact Nat.le_of_ble_eq_true rfl | exact lfOLm (fun _ => rfl) | (show O.lf _ = true; simp only [O.lf, D.lf, lfL, lfOL, lf_mapI, Bool.and_true, Bool.and_self]; done)); (try dsimp only [List.set]))))
local macro_rules | `(tactic| walk_at "x9") => `(tactic| focus (((with_reducible refine' gog_name ?hi ?_); (case hi => exact Nat.le_of_ble_eq_true rfl); dsimp only [List.set])))
local macro_rules | `(tactic| walk_at "x10") => `(tactic| focus (((with_reducible refine' go_fz ?hv ?_); (case hv => exact rfl); (try walk_at "lendx"); (try simp only [fz_fl, fz_fk, fz_d, fzL_fl, fzK_d, O.fz, fzL, List.set]))))
local macro_rules | `(tactic| walk_at "x11") => `(tactic| focus ((simp only [fz_fl, fz_fk, fz_d, fzL_fl, fzK_d, O.fz, fzL])))
local macro_rules | `(tactic| walk_at "x12") => `(tactic| focus (((refine ⟨_, Sl.lst (by exact rfl), ?_⟩); (try simp only [SK.cutD_map, cutD_takeI, cutD_dropI, cutD_midI, ← List.map_take, ← List.map_drop, Int.reduceToNat, Int.reduceLE]))))
local macro_rules | `(tactic| walk_at "x13") => `(tactic| focus (((with_reducible refine' o2_div ?hb ?_); (case hb => omega))))
local macro_rules | `(tactic| walk_at "x14") => `(tactic| focus (((with_reducible refine' gos_aug ⟨_, ?hx, ?_⟩); (case hx => exact rfl))))
local macro_rules | `(tactic| walk_at "x15") => `(tactic| focus (((with_reducible refine' gos_raise ?hw ?_); (case hw => assumption))))
local macro_rules | `(tactic| walk_at "x16") => `(tactic| focus ((refine ⟨_, _, by exact rfl, by exact rfl, ?_⟩)))
local macro_rules | `(tactic| walk_at "x17") => `(tactic| focus (((with_reducible refine' gogs_name ?hi ?_); (case hi => exact Nat.le_of_ble_eq_true rfl); dsimp only [List.set])))
local macro_rules | `(tactic| walk_at "x18") => `(tactic| focus ((with_reducible refine o2_not ?_; (try simp only [D.isNon, Bool.not_true, Bool.not_false]))))
local macro_rules | `(tactic| walk_at "x19") => `(tactic| focus (((with_reducible refine' gos_append ?ha ?h0); (case h0 => exact ⟨_, rfl⟩))))
local macro_rules | `(tactic| walk_at "x20") => `(tactic| focus (((with_reducible refine' go_varM ?hv ?_); (case hv => exact rfl); (try dsimp only [List.set]))))
local macro_rules | `(tactic| walk_at "x21") => `(tactic| focus (((with_reducible refine' oa_isiG (b := true) ?ht ?hk ?_); (case ht => constructor); (case hk => decide +kernel))))
local macro_rules | `(tactic| walk_at "x22") => `(tactic| focus (((with_reducible refine' oa_isiG (b := false) ?ht ?hk ?_); (case ht => constructor); (case hk => decide +kernel))))
local macro_rules | `(tactic| walk_at "x23") => `(tactic| focus (((with_reducible refine' go_ixO ?he ?_); (case he => exact ⟨_, rfl⟩))))
local macro_rules | `(tactic| walk_at "x24") => `(tactic| focus (((with_reducible refine' gog_setL ?he ?hk); (case he => exact rfl); (intro F' B'); (try walk_at "lendx"); (try (simp only [fzE_cons, fzE_nil, frO_none, frO_some, fz_fl, fz_fk, fz_d, fzL_fl, fzK_d, O.fz, fzL, List.set])))))
local macro_rules | `(tactic| walk_at "x25") => `(tactic| focus ((refine ⟨_, _, _, _, rfl, by exact rfl, by exact rfl, ?_⟩)))
local macro_rules | `(tactic| walk_at "x26") => `(tactic| focus (((with_reducible refine' call_weavings ?hw ?_); (case hw => assumption))))
local macro_rules | `(tactic| walk_at "x27") => `(tactic| focus (((with_reducible refine got_lend' fun F' B' => ?_); (try walk_at "lendx"); (try (simp only [fzE_cons, fzE_nil, frO_none, frO_some, fz_fl, fz_fk, fz_d, fzL_fl, fzK_d, O.fz, fzL, List.set])))))
local macro_rules | `(tactic| walk_at "x28") => `(tactic| focus (((with_reducible refine go_lend' fun F' B' => ?_); (try walk_at "lendx"); (try (simp only [fzE_cons, fzE_nil, frO_none, frO_some, fz_fl, fz_fk, fz_d, fzL_fl, fzK_d, O.fz, fzL, List.set])))))
local macro_rules | `(tactic| walk_at "x29") => `(tactic| focus (((with_reducible refine' o2_ix (x := _) rfl ?hi ?_); (case hi => first | walk_at "ixx" | exact rfl | exact atI_ofN.trans rfl))))
local macro_rules | `(tactic| walk_at "x30") => `(tactic| focus (((with_reducible refine gos_clear ?_); (refine ⟨_, rfl, ?_⟩); dsimp only [List.set])))
local macro_rules | `(tactic| walk_at "x31") => `(tactic| focus (with_reducible refine call_weavings (XX := fun _ _ _ => False) (fun _ _ _ _ _ _ z _ => z.elim) ?_))
local macro_rules | `(tactic| walk_at "x32") => `(tactic| focus (((with_reducible refine' oa_isX ?hE ?hq ?_); (case hE => assumption); (case hq => assumption))))
local macro_rules | `(tactic| walk_at "x33") => `(tactic| focus (((with_reducible refine' oa_isXt ?hE ?hq ?_); (case hE => assumption); (case hq => assumption))))
section
variable {P : Program} {w : World} {K : PySem.W.Frag} {mg : Str → Option Value} {base : Heap}
theorem cal__law_cell (D : Df K mg "_law_cell" s__law_cell) {a_SkewError a_TooMany : Addr} {t_MOST_WEAVINGS : Tok} (XX : XF K mg a_SkewError a_TooMany t_MOST_WEAVINGS) (b_len : mg "len" = none) : Cal P w K mg base "_law_cell" 1 ["_law_script", "_law_k"] (C__law_cell mg) := by
  obtain ⟨f, fd, F, mf⟩ := D
  refine ⟨f, fd, ?_, mf, F.kp, F.binds (ps := ["_law_script", "_law_k"]) fun _ _ _ _ _ _ us hl => match us, hl with | [_, _], _ => rfl, Fun.lk F⟩
  refine F.ok sc__law_cell (fun vs H Q E hS0 => spP_len (n := 2) (fun xs p q c0 => by unfold C__law_cell at c0; obtain ⟨_, _, rfl, _⟩ := c0; rfl) hS0) (fun cdv A outer s H vs Q E hr hS0 => ?_)
  have hu := hu_of hr
  refine sp_body hS0 (fun B xs p q c0 hl0 wx => ?_)
  obtain ⟨ns, k, rfl, hp0, hp1, rfl, rfl⟩ := c0
  refine ⟨_, (pss_cons (ps_if (pt_cmpR (k_lt (K := K) rfl hr.units0) (pv 1) (pe_callB (k_len (K := K) rfl) (by rfl) b_len (by decide +kernel) (pa_cons (pv 0) pa_nil)) (nomark _))
        (pss_one (ps_ret (pe_ix (k_ix (K := K) rfl hu) (pv 0) (pv 1) (fun _ _ => rfl))))
        pss_nil)
      (pss_one (ps_ret (pe_op op_modG (pe_op op_mulG (pe_op (k_add (K := K) rfl) (pv 1) pe_int) pe_int) pe_int)))), ?_⟩
  clear hS0 hl0 hr hu wx b_len
  simp only [List.map_cons, List.map_nil, List.length_cons, List.length_nil, List.cons_append, List.nil_append, Nat.reduceAdd, Nat.reduceSub, List.replicate_succ, List.replicate_zero, N__law_cell]
  ((with_reducible refine gos_sIR ?_); (with_reducible refine gos_if ?_); (with_reducible refine got_test ?_); (with_reducible refine go_op ?_); walk_at "x0"; (with_reducible refine go_cb ?_); (with_reducible refine goa_cons ?_); walk_at "x0"; (with_reducible refine goa_nil ?_); walk_at "x1"; walk_at "x2"; (with_reducible refine o2_lt ?_); walk_at "x3"; walk_at "x4"; (with_reducible refine gos_ret ?_); (with_reducible refine go_op ?_); walk_at "x0"; walk_at "x0"; walk_at "x2"; (focus skip); rotate_left; (with_reducible refine gos_next ?_); (with_reducible refine gos_ret ?_); (with_reducible refine go_op ?_); (with_reducible refine go_op ?_); (with_reducible refine go_op ?_); walk_at "x0"; (with_reducible refine go_int ?_); walk_at "x2"; (with_reducible refine o2_add ?_); (with_reducible refine go_int ?_); walk_at "x2"; walk_at "x5"; (with_reducible refine go_int ?_); walk_at "x2"; walk_at "x6"; (focus skip); rotate_left)
  · rename_i hc
    refine o2_ixr rfl hp0 (by simpa using hc) fun y hy => ?_
    obtain ⟨x, hx, rfl⟩ := List.mem_map.mp hy
    exact ⟨_, rfl⟩
  · exact ⟨_, rfl⟩
theorem cal__law_counts (D : Df K mg "_law_counts" s__law_counts) {a_SkewError a_TooMany : Addr} {t_MOST_WEAVINGS : Tok} (XX : XF K mg a_SkewError a_TooMany t_MOST_WEAVINGS) (c__law_cell : Cal P w K mg base "_law_cell" 1 ["_law_script", "_law_k"] (C__law_cell mg)) (b_list : mg "list" = none) : Cal P w K mg base "_law_counts" 2 ["_law_script"] (C__law_counts mg) := by
  obtain ⟨f, fd, F, mf⟩ := D
  obtain ⟨f__law_cell, fd__law_cell, G__law_cell, g__law_cell, k__law_cell, bn__law_cell, _⟩ := c__law_cell
  refine ⟨f, fd, ?_, mf, F.kp, F.binds (ps := ["_law_script"]) fun _ _ _ _ _ _ us hl => match us, hl with | [_], _ => rfl, Fun.lk F⟩
  refine F.ok sc__law_counts (fun vs H Q E hS0 => spP_len (n := 1) (fun xs p q c0 => by unfold C__law_counts at c0; obtain ⟨_, rfl, _⟩ := c0; rfl) hS0) (fun cdv A outer s H vs Q E hr hS0 => ?_)
  have hu := hu_of hr
  refine sp_body hS0 (fun B xs p q c0 hl0 wx => ?_)
  obtain ⟨ns, rfl, rfl, rfl⟩ := c0
  refine ⟨_, (pss_cons (ps_asg (pe_op op_modG (pe_call G__law_cell hr rfl g__law_cell k__law_cell bn__law_cell .nil pass0 (pa_cons (pv 0) (pa_cons pe_int pa_nil))) pe_int) (pg_name (i := 1) sc__law_counts.nd rfl (by first | exact Or.inl rfl | exact Or.inr rfl)))
      (pss_cons (ps_if (pt_cmpR (k_eq (K := K) rfl hr.units) (pv 1) pe_int (nomark _))
        (pss_one (ps_ret (pe_lc (own := [("_law_cell_here", 3)]) rfl sc__law_counts.nd (k_seq (K := K) rfl (pe_slice (k_sl (K := K) rfl) (pv 0) (po_some pe_int) (po_some pe_int))) (blkOk_by (N := N__law_counts) (sc := defScope s__law_counts) (by decide +kernel)) (fun _ _ _ _ _ => (pg_name (i := 3) sc__law_counts.nd rfl (by first | exact Or.inl rfl | exact Or.inr rfl))) (fun _ _ _ _ _ => pts_nil) (fun _ _ _ _ _ => (pe_op op_modG (pv 3) pe_int)))))
        pss_nil)
      (pss_cons (ps_if (pt_cmpR (k_eq (K := K) rfl hr.units) (pv 1) pe_int (nomark _))
        (pss_one (ps_ret (pe_lc (own := [("_law_cell_here", 3)]) rfl sc__law_counts.nd (k_seq (K := K) rfl (pe_slice (k_sl (K := K) rfl) (pv 0) (po_some pe_int) (po_some pe_int))) (blkOk_by (N := N__law_counts) (sc := defScope s__law_counts) (by decide +kernel)) (fun _ _ _ _ _ => (pg_name (i := 3) sc__law_counts.nd rfl (by first | exact Or.inl rfl | exact Or.inr rfl))) (fun _ _ _ _ _ => pts_nil) (fun _ _ _ _ _ => (pe_op op_modG (pv 3) pe_int)))))
        pss_nil)
      (pss_cons (ps_if (pt_cmpR (k_eq (K := K) rfl hr.units) (pv 1) pe_int (nomark _))
        (pss_one (ps_ret (pe_lc (own := [("_law_cell_here", 3)]) rfl sc__law_counts.nd (k_seq (K := K) rfl (pe_slice (k_sl (K := K) rfl) (pv 0) (po_some pe_int) (po_some pe_int))) (blkOk_by (N := N__law_counts) (sc := defScope s__law_counts) (by decide +kernel)) (fun _ _ _ _ _ => (pg_name (i := 3) sc__law_counts.nd rfl (by first | exact Or.inl rfl | exact Or.inr rfl))) (fun _ _ _ _ _ => pts_nil) (fun _ _ _ _ _ => (pe_op op_modG (pv 3) pe_int)))))
        pss_nil)
      (pss_cons (ps_if (pt_cmpR (k_eq (K := K) rfl hr.units) (pv 1) pe_int (nomark _))
        (pss_one (ps_ret (pe_lst (pa_cons (pe_op op_modG (pe_call G__law_cell hr rfl g__law_cell k__law_cell bn__law_cell .nil pass0 (pa_cons (pv 0) (pa_cons pe_int pa_nil))) pe_int) (pa_cons (pe_op op_modG (pe_call G__law_cell hr rfl g__law_cell k__law_cell bn__law_cell .nil pass0 (pa_cons (pv 0) (pa_cons pe_int pa_nil))) pe_int) pa_nil)))))
        pss_nil)
      (pss_cons (ps_asg (pe_lst (pa_cons (pe_tup (pa_cons pe_int (pa_cons pe_int pa_nil))) (pa_cons (pe_tup (pa_cons pe_int (pa_cons pe_int pa_nil))) (pa_cons (pe_tup (pa_cons pe_int (pa_cons pe_int (pa_cons pe_int pa_nil)))) (pa_cons (pe_tup (pa_cons pe_int (pa_cons pe_int pa_nil))) (pa_cons (pe_tup (pa_cons pe_int (pa_cons pe_int pa_nil))) (pa_cons (pe_tup (pa_cons pe_int (pa_cons pe_int (pa_cons pe_int (pa_cons pe_int pa_nil))))) (pa_cons (pe_tup (pa_cons pe_int (pa_cons pe_int (pa_cons pe_int pa_nil)))) (pa_cons (pe_tup (pa_cons pe_int (pa_cons pe_int (pa_cons pe_int (pa_cons pe_int pa_nil))))) (pa_cons (pe_tup (pa_cons pe_int (pa_cons pe_int (pa_cons pe_int (pa_cons pe_int (pa_cons pe_int (pa_cons pe_int pa_nil))))))) pa_nil)))))))))) (pg_name (i := 2) sc__law_counts.nd rfl (by first | exact Or.inl rfl | exact Or.inr rfl)))
      (pss_one (ps_ret (pe_callTy (k_list (K := K) rfl rfl) (by rfl) b_list (by decide +kernel) (pa_cons (pe_ix (k_ix (K := K) rfl hu) (pe_op (k_add (K := K) rfl) (pv 2) (pe_lst (pa_cons (pe_tup (pa_cons pe_int (pa_cons pe_int (pa_cons pe_int pa_nil)))) pa_nil))) (pe_op op_modG (pe_call G__law_cell hr rfl g__law_cell k__law_cell bn__law_cell .nil pass0 (pa_cons (pv 0) (pa_cons pe_int pa_nil))) pe_int) (fun _ _ => rfl)) pa_nil)))))))))), ?_⟩
  clear hS0 hl0 hr hu wx G__law_cell g__law_cell k__law_cell bn__law_cell b_list
  simp only [List.map_cons, List.map_nil, List.length_cons, List.length_nil, List.cons_append, List.nil_append, Nat.reduceAdd, Nat.reduceSub, List.replicate_succ, List.replicate_zero, N__law_counts]
  ((with_reducible refine gos_sA ?_); (with_reducible refine gos_asg ?_); (with_reducible refine go_op ?_); walk_at "x2"; (with_reducible refine call__law_cell ?_); (with_reducible refine goa_cons ?_); walk_at "x0"; (with_reducible refine goa_cons ?_); (with_reducible refine go_int ?_); (with_reducible refine goa_nil ?_); walk_at "x2"; walk_at "x7"; walk_at "x8"; walk_at "x8"; (focus skip); rotate_left)
  intro x
  ((with_reducible refine go_int ?_); walk_at "x2"; walk_at "x6"; walk_at "x9"; (with_reducible refine gos_sIR ?_); (with_reducible refine gos_if ?_); (with_reducible refine got_test ?_); (with_reducible refine go_op ?_); walk_at "x0"; (with_reducible refine go_int ?_); walk_at "x2"; (with_reducible refine o2_eqI ?_); walk_at "x3"; walk_at "x4"; (with_reducible refine gos_ret ?_); walk_at "x2"; (focus skip); rotate_left; (with_reducible refine gos_next ?_); (with_reducible refine gos_sIR ?_); (with_reducible refine gos_if ?_); (with_reducible refine got_test ?_); (with_reducible refine go_op ?_); walk_at "x0"; (with_reducible refine go_int ?_); walk_at "x2"; (with_reducible refine o2_eqI ?_); walk_at "x3"; walk_at "x4"; (with_reducible refine gos_ret ?_); walk_at "x2"; (focus skip); rotate_left; (with_reducible refine gos_next ?_); (with_reducible refine gos_sIR ?_); (with_reducible refine gos_if ?_); (with_reducible refine got_test ?_); (with_reducible refine go_op ?_); walk_at "x0"; (with_reducible refine go_int ?_); walk_at "x2"; (with_reducible refine o2_eqI ?_); walk_at "x3"; walk_at "x4"; (with_reducible refine gos_ret ?_); walk_at "x2"; (focus skip); rotate_left; (with_reducible refine gos_next ?_); (with_reducible refine gos_sIR ?_); (with_reducible refine gos_if ?_); (with_reducible refine got_test ?_); (with_reducible refine go_op ?_); walk_at "x0"; (with_reducible refine go_int ?_); walk_at "x2"; (with_reducible refine o2_eqI ?_); walk_at "x3"; walk_at "x4"; (with_reducible refine gos_ret ?_); (with_reducible refine go_lst ?_); (with_reducible refine goa_cons ?_); (with_reducible refine go_op ?_); walk_at "x2"; (with_reducible refine call__law_cell ?_); (with_reducible refine goa_cons ?_); walk_at "x0"; (with_reducible refine goa_cons ?_); (with_reducible refine go_int ?_); (with_reducible refine goa_nil ?_); walk_at "x2"; walk_at "x7"; walk_at "x8"; walk_at "x8"; (focus skip); rotate_left; (with_reducible refine gos_next ?_); (with_reducible refine gos_sA ?_); (with_reducible refine gos_asg ?_); (with_reducible refine go_lst ?_); (with_reducible refine goa_cons ?_); (with_reducible refine go_tup ?_); (with_reducible refine goa_cons ?_); (with_reducible refine go_int ?_); (with_reducible refine goa_cons ?_); (with_reducible refine go_int ?_); (with_reducible refine goa_nil ?_); walk_at "x2"; walk_at "x8"; (with_reducible refine goa_cons ?_); (with_reducible refine go_tup ?_); (with_reducible refine goa_cons ?_); (with_reducible refine go_int ?_); (with_reducible refine goa_cons ?_); (with_reducible refine go_int ?_); (with_reducible refine goa_nil ?_); walk_at "x2"; walk_at "x8"; (with_reducible refine goa_cons ?_); (with_reducible refine go_tup ?_); (with_reducible refine goa_cons ?_); (with_reducible refine go_int ?_); (with_reducible refine goa_cons ?_); (with_reducible refine go_int ?_); (with_reducible refine goa_cons ?_); (with_reducible refine go_int ?_); (with_reducible refine goa_nil ?_); walk_at "x2"; walk_at "x8"; (with_reducible refine goa_cons ?_); (with_reducible refine go_tup ?_); (with_reducible refine goa_cons ?_); (with_reducible refine go_int ?_); (with_reducible refine goa_cons ?_); (with_reducible refine go_int ?_); (with_reducible refine goa_nil ?_); walk_at "x2"; walk_at "x8"; (with_reducible refine goa_cons ?_); (with_reducible refine go_tup ?_); (with_reducible refine goa_cons ?_); (with_reducible refine go_int ?_); (with_reducible refine goa_cons ?_); (with_reducible refine go_int ?_); (with_reducible refine goa_nil ?_); walk_at "x2"; walk_at "x8"; (with_reducible refine goa_cons ?_); (with_reducible refine go_tup ?_); (with_reducible refine goa_cons ?_); (with_reducible refine go_int ?_); (with_reducible refine goa_cons ?_); (with_reducible refine go_int ?_); (with_reducible refine goa_cons ?_); (with_reducible refine go_int ?_); (with_reducible refine goa_cons ?_); (with_reducible refine go_int ?_); (with_reducible refine goa_nil ?_); walk_at "x2"; walk_at "x8"; (with_reducible refine goa_cons ?_); (with_reducible refine go_tup ?_); (with_reducible refine goa_cons ?_); (with_reducible refine go_int ?_); (with_reducible refine goa_cons ?_); (with_reducible refine go_int ?_); (with_reducible refine goa_cons ?_); (with_reducible refine go_int ?_); (with_reducible refine goa_nil ?_); walk_at "x2"; walk_at "x8"; (with_reducible refine goa_cons ?_); (with_reducible refine go_tup ?_); (with_reducible refine goa_cons ?_); (with_reducible refine go_int ?_); (with_reducible refine goa_cons ?_); (with_reducible refine go_int ?_); (with_reducible refine goa_cons ?_); (with_reducible refine go_int ?_); (with_reducible refine goa_cons ?_); (with_reducible refine go_int ?_); (with_reducible refine goa_nil ?_); walk_at "x2"; walk_at "x8"; (with_reducible refine goa_cons ?_); (with_reducible refine go_tup ?_); (with_reducible refine goa_cons ?_); (with_reducible refine go_int ?_); (with_reducible refine goa_cons ?_); (with_reducible refine go_int ?_); (with_reducible refine goa_cons ?_); (with_reducible refine go_int ?_); (with_reducible refine goa_cons ?_); (with_reducible refine go_int ?_); (with_reducible refine goa_cons ?_); (with_reducible refine go_int ?_); (with_reducible refine goa_cons ?_); (with_reducible refine go_int ?_); (with_reducible refine goa_nil ?_); walk_at "x2"; walk_at "x8"; (with_reducible refine goa_nil ?_); walk_at "x8"; walk_at "x9"; (with_reducible refine gos_ret ?_); (with_reducible refine go_cb ?_); (with_reducible refine goa_cons ?_); (with_reducible refine go_op ?_); (with_reducible refine go_op ?_); walk_at "x10"; (with_reducible refine go_lst ?_); (with_reducible refine goa_cons ?_); (with_reducible refine go_tup ?_); (with_reducible refine goa_cons ?_); (with_reducible refine go_int ?_); (with_reducible refine goa_cons ?_); (with_reducible refine go_int ?_); (with_reducible refine goa_cons ?_); (with_reducible refine go_int ?_); (with_reducible refine goa_nil ?_); walk_at "x2"; walk_at "x11"; walk_at "x8"; (with_reducible refine goa_nil ?_); walk_at "x8"; (focus skip); rotate_left)
  · refine go_lcY D.int (fun x => ni (x % 3).toNat) ?_
    ((with_reducible refine go_sl ?_); walk_at "x0"; (with_reducible refine goo_some ?_); (with_reducible refine go_int ?_); walk_at "x3"; (with_reducible refine goo_some ?_); (with_reducible refine go_int ?_); walk_at "x3"; walk_at "x2"; walk_at "x12"; walk_at "x11"; (focus skip); rotate_left)
    have hl : (List.drop 1 (List.take 9 ns)).length ≤ 8 := by simp; omega
    generalize List.drop 1 (List.take 9 ns) = cs at hl ⊢
    refine ⟨_, .seq rfl, by omega, Nat.le_of_ble_eq_true rfl, by first | trivial | rfl, fun x acc hx => ?_, ?_⟩
    · try dsimp only [List.set]
      ((with_reducible refine go_op ?_); walk_at "x0"; (with_reducible refine go_int ?_); walk_at "x2"; walk_at "x6"; walk_at "x2"; (focus skip); rotate_left)
      refine ⟨?_, rfl⟩
      have h0 : (0 : Int) ≤ x % 3 := by omega
      show D.int _ = D.int _
      rw [Int.toNat_of_nonneg h0]
    refine ⟨cs.map fun x => (x % 3).toNat, ⟨by simpa using hl, fun n hn => ?_⟩, by simp only [List.map_map]; rfl⟩
    obtain ⟨x, _, rfl⟩ := List.mem_map.mp hn
    omega
  · refine go_lcY D.int (fun x => ni (x % 5).toNat) ?_
    ((with_reducible refine go_sl ?_); walk_at "x0"; (with_reducible refine goo_some ?_); (with_reducible refine go_int ?_); walk_at "x3"; (with_reducible refine goo_some ?_); (with_reducible refine go_int ?_); walk_at "x3"; walk_at "x2"; walk_at "x12"; walk_at "x11"; (focus skip); rotate_left)
    have hl : (List.drop 1 (List.take 4 ns)).length ≤ 8 := by simp; omega
    generalize List.drop 1 (List.take 4 ns) = cs at hl ⊢
    refine ⟨_, .seq rfl, by omega, Nat.le_of_ble_eq_true rfl, by first | trivial | rfl, fun x acc hx => ?_, ?_⟩
    · try dsimp only [List.set]
      ((with_reducible refine go_op ?_); walk_at "x0"; (with_reducible refine go_int ?_); walk_at "x2"; walk_at "x6"; walk_at "x2"; (focus skip); rotate_left)
      refine ⟨?_, rfl⟩
      have h0 : (0 : Int) ≤ x % 5 := by omega
      show D.int _ = D.int _
      rw [Int.toNat_of_nonneg h0]
    refine ⟨cs.map fun x => (x % 5).toNat, ⟨by simpa using hl, fun n hn => ?_⟩, by simp only [List.map_map]; rfl⟩
    obtain ⟨x, _, rfl⟩ := List.mem_map.mp hn
    omega
  · refine go_lcY D.int (fun x => ni (x % 10).toNat) ?_
    ((with_reducible refine go_sl ?_); walk_at "x0"; (with_reducible refine goo_some ?_); (with_reducible refine go_int ?_); walk_at "x3"; (with_reducible refine goo_some ?_); (with_reducible refine go_int ?_); walk_at "x3"; walk_at "x2"; walk_at "x12"; walk_at "x11"; (focus skip); rotate_left)
    have hl : (List.drop 1 (List.take 3 ns)).length ≤ 8 := by simp; omega
    generalize List.drop 1 (List.take 3 ns) = cs at hl ⊢
    refine ⟨_, .seq rfl, by omega, Nat.le_of_ble_eq_true rfl, by first | trivial | rfl, fun x acc hx => ?_, ?_⟩
    · try dsimp only [List.set]
      ((with_reducible refine go_op ?_); walk_at "x0"; (with_reducible refine go_int ?_); walk_at "x2"; walk_at "x6"; walk_at "x2"; (focus skip); rotate_left)
      refine ⟨?_, rfl⟩
      have h0 : (0 : Int) ≤ x % 10 := by omega
      show D.int _ = D.int _
      rw [Int.toNat_of_nonneg h0]
    refine ⟨cs.map fun x => (x % 10).toNat, ⟨by simpa using hl, fun n hn => ?_⟩, by simp only [List.map_map]; rfl⟩
    obtain ⟨x, _, rfl⟩ := List.mem_map.mp hn
    omega
  · intro x1
    ((with_reducible refine go_int ?_); walk_at "x2"; walk_at "x6"; (with_reducible refine goa_cons ?_); (with_reducible refine go_op ?_); walk_at "x2"; (with_reducible refine call__law_cell ?_); (with_reducible refine goa_cons ?_); walk_at "x0"; (with_reducible refine goa_cons ?_); (with_reducible refine go_int ?_); (with_reducible refine goa_nil ?_); walk_at "x2"; walk_at "x7"; walk_at "x8"; walk_at "x8"; (focus skip); rotate_left)
    intro x2
    ((with_reducible refine go_int ?_); walk_at "x2"; walk_at "x6"; (with_reducible refine goa_nil ?_); walk_at "x2"; walk_at "x8"; (focus skip); rotate_left)
    refine ⟨[(x1 % 42).toNat, (x2 % 3).toNat], ⟨by simp, fun n hn => ?_⟩, ?_⟩
    · simp only [List.mem_cons, List.not_mem_nil, or_false] at hn
      rcases hn with rfl | rfl <;> omega
    · have e1 : ((x1 % 42).toNat : Int) = x1 % 42 := Int.toNat_of_nonneg (by omega)
      have e2 : ((x2 % 3).toNat : Int) = x2 % 3 := Int.toNat_of_nonneg (by omega)
      simp only [List.map_cons, List.map_nil, ni, e1, e2]
  · refine o2_addL (by simp) ?_
    ((with_reducible refine go_op ?_); walk_at "x11"; (with_reducible refine call__law_cell ?_); (with_reducible refine goa_cons ?_); walk_at "x0"; (with_reducible refine goa_cons ?_); (with_reducible refine go_int ?_); (with_reducible refine goa_nil ?_); walk_at "x2"; walk_at "x7"; walk_at "x8"; walk_at "x8"; (focus skip); rotate_left)
    intro x1
    ((with_reducible refine go_int ?_); walk_at "x2"; walk_at "x6"; walk_at "x2"; (focus skip); rotate_left)
    obtain ⟨k, hk, hkl⟩ : ∃ k : Nat, x1 % 10 = (k : Int) ∧ k < 10 := ⟨(x1 % 10).toNat, by omega, by omega⟩
    rw [hk]
    have hks : k < smC.length := hkl
    have hat : atI (smC.map fun c => SK.D.tup (c.map ni)) (k : Int) = some (.tup (smC[k].map ni)) := atI_ofN.trans (by rw [List.getElem?_map, List.getElem?_eq_getElem hks]; rfl)
    refine o2_ix rfl hat ?_
    ((with_reducible refine goa_nil ?_); walk_at "x2"; (focus skip); rotate_left)
    refine oa_list rfl ?_
    exact ⟨smC[k], smC_ok _ (List.getElem_mem hks), rfl⟩
theorem cal__law_factorial (D : Df K mg "_law_factorial" s__law_factorial) {a_SkewError a_TooMany : Addr} {t_MOST_WEAVINGS : Tok} (XX : XF K mg a_SkewError a_TooMany t_MOST_WEAVINGS) (b_range : mg "range" = none) : Cal P w K mg base "_law_factorial" 1 ["_law_number"] (C__law_factorial mg) := by
  obtain ⟨f, fd, F, mf⟩ := D
  refine ⟨f, fd, ?_, mf, F.kp, F.binds (ps := ["_law_number"]) fun _ _ _ _ _ _ us hl => match us, hl with | [_], _ => rfl, Fun.lk F⟩
  refine F.ok sc__law_factorial (fun vs H Q E hS0 => spP_len (n := 1) (fun xs p q c0 => by unfold C__law_factorial at c0; obtain ⟨_, rfl, _⟩ := c0; rfl) hS0) (fun cdv A outer s H vs Q E hr hS0 => ?_)
  have hu := hu_of hr
  refine sp_body hS0 (fun B xs p q c0 hl0 wx => ?_)
  obtain ⟨n, rfl, hp0, rfl, rfl⟩ := c0
  refine ⟨_, (pss_cons (ps_asg pe_int (pg_name (i := 1) sc__law_factorial.nd rfl (by first | exact Or.inl rfl | exact Or.inr rfl)))
      (pss_cons (ps_for PassesOwn.never rfl (pi_range1 (by rfl) b_range (pa_cons (pv 0) pa_nil)) (pg_name (i := 2) sc__law_factorial.nd rfl (by first | exact Or.inl rfl | exact Or.inr rfl))
        (pss_one (ps_asg (pe_op op_mulG (pv 1) (pe_op (k_add (K := K) rfl) (pv 2) pe_int)) (pg_name (i := 1) sc__law_factorial.nd rfl (by first | exact Or.inl rfl | exact Or.inr rfl)))))
      (pss_one (ps_ret (pv 1))))), ?_⟩
  clear hS0 hl0 hr hu wx b_range
  simp only [List.map_cons, List.map_nil, List.length_cons, List.length_nil, List.cons_append, List.nil_append, Nat.reduceAdd, Nat.reduceSub, List.replicate_succ, List.replicate_zero, N__law_factorial]
  ((with_reducible refine gos_sA ?_); (with_reducible refine gos_asg ?_); (with_reducible refine go_int ?_); walk_at "x9"; (with_reducible refine gos_sF ?_); (with_reducible refine gos_for ?_); (with_reducible refine goi_rng1 ?_); (with_reducible refine goa_cons ?_); walk_at "x0"; (with_reducible refine goa_nil ?_); walk_at "x3"; walk_at "x2"; walk_at "x8"; walk_at "x8"; (focus skip); rotate_left)
  refine ⟨fun i Γ' => ∃ (a : Option O), Γ' = [some (O.d (ni n)), some (O.d (ni (fac i))), a], ⟨_, rfl⟩, ?_, ?_⟩
  · rintro i d _ hd ⟨a, rfl⟩
    obtain ⟨hk, rfl⟩ := rngD_get hd
    (walk_at "x9"; (with_reducible refine gos_asg ?_); (with_reducible refine go_op ?_); walk_at "x0"; (with_reducible refine go_op ?_); walk_at "x0"; (with_reducible refine go_int ?_); walk_at "x2"; (with_reducible refine o2_add ?_); walk_at "x2"; walk_at "x5"; walk_at "x9"; (focus skip); rotate_left)
    exact ⟨_, by simp only [ni, fac, Int.natCast_mul, Int.natCast_add, Int.natCast_one, Int.zero_add]; rfl⟩
  · rintro _ ⟨a, rfl⟩
    ((with_reducible refine gos_ret ?_); walk_at "x0"; walk_at "x2"; (focus skip); rotate_left)
    rw [rngD_len]; rfl
theorem cal__law_many (D : Df K mg "_law_many" s__law_many) {a_SkewError a_TooMany : Addr} {t_MOST_WEAVINGS : Tok} (XX : XF K mg a_SkewError a_TooMany t_MOST_WEAVINGS) (c__law_factorial : Cal P w K mg base "_law_factorial" 1 ["_law_number"] (C__law_factorial mg)) (b_sum : mg "sum" = none) : Cal P w K mg base "_law_many" 2 ["_law_counts_here"] (C__law_many mg) := by
  obtain ⟨f, fd, F, mf⟩ := D
  obtain ⟨f__law_factorial, fd__law_factorial, G__law_factorial, g__law_factorial, k__law_factorial, bn__law_factorial, _⟩ := c__law_factorial
  refine ⟨f, fd, ?_, mf, F.kp, F.binds (ps := ["_law_counts_here"]) fun _ _ _ _ _ _ us hl => match us, hl with | [_], _ => rfl, Fun.lk F⟩
  refine F.ok sc__law_many (fun vs H Q E hS0 => spP_len (n := 1) (fun xs p q c0 => by unfold C__law_many at c0; obtain ⟨_, rfl, _⟩ := c0; rfl) hS0) (fun cdv A outer s H vs Q E hr hS0 => ?_)
  have hu := hu_of hr
  refine sp_body hS0 (fun B xs p q c0 hl0 wx => ?_)
  obtain ⟨c, rfl, hp0, rfl, rfl⟩ := c0
  refine ⟨_, (pss_cons (ps_asg (pe_call G__law_factorial hr rfl g__law_factorial k__law_factorial bn__law_factorial .nil pass0 (pa_cons (pe_callB (k_sum (K := K) rfl rfl) (by rfl) b_sum (by decide +kernel) (pa_cons (pv 0) pa_nil)) pa_nil)) (pg_name (i := 1) sc__law_many.nd rfl (by first | exact Or.inl rfl | exact Or.inr rfl)))
      (pss_cons (ps_for PassesOwn.never rfl (k_seq (K := K) rfl (pv 0)) (pg_name (i := 2) sc__law_many.nd rfl (by first | exact Or.inl rfl | exact Or.inr rfl))
        (pss_one (ps_asg (pe_op op_divG (pv 1) (pe_call G__law_factorial hr rfl g__law_factorial k__law_factorial bn__law_factorial .nil pass0 (pa_cons (pv 2) pa_nil))) (pg_name (i := 1) sc__law_many.nd rfl (by first | exact Or.inl rfl | exact Or.inr rfl)))))
      (pss_one (ps_ret (pv 1))))), ?_⟩
  clear hS0 hl0 hr hu wx G__law_factorial g__law_factorial k__law_factorial bn__law_factorial b_sum
  simp only [List.map_cons, List.map_nil, List.length_cons, List.length_nil, List.cons_append, List.nil_append, Nat.reduceAdd, Nat.reduceSub, List.replicate_succ, List.replicate_zero, N__law_many]
  have hs := hp0.sum
  ((with_reducible refine gos_sA ?_); (with_reducible refine gos_asg ?_); walk_at "x2"; (with_reducible refine call__law_factorial ?_); (with_reducible refine goa_cons ?_); (with_reducible refine go_cb ?_); (with_reducible refine goa_cons ?_); walk_at "x0"; (with_reducible refine goa_nil ?_); walk_at "x2"; (focus skip); rotate_left)
  refine oa_sum (ns := c.map fun (n : Nat) => (n : Int)) (congrArg some (by rw [List.map_map]; rfl)) ?_
  rw [sum_ni]
  ((with_reducible refine goa_nil ?_); walk_at "x3"; walk_at "x8"; walk_at "x9"; (with_reducible refine gos_sF ?_); (with_reducible refine gos_for ?_); (with_reducible refine goi_seq ?_); walk_at "x0"; walk_at "x2"; (focus skip); rotate_left)
  refine ⟨_, .seq rfl, fun i Γ' => ∃ (a : Option O), Γ' = [some (O.d (.lst (c.map ni))), some (O.d (ni (lft (hm c).1 (c.drop i)))), a], ⟨_, by rw [List.drop_zero, show lft (hm c).1 c = fac c.sum from hm_right c]⟩, ?_, ?_⟩
  · rintro i d _ hd ⟨a, rfl⟩
    obtain ⟨y, hy, rfl⟩ := mapD_get hd
    have hy41 := hp0.2 y (List.mem_of_getElem? hy)
    have hil := (List.getElem?_eq_some_iff.mp hy).1
    have hdr : c.drop i = y :: c.drop (i + 1) := by rw [List.drop_eq_getElem_cons hil, (List.getElem?_eq_some_iff.mp hy).2]
    have hq : lft (hm c).1 (c.drop i) / fac y = lft (hm c).1 (c.drop (i + 1)) := by rw [hdr, lft_div]
    have hf := fac_pos y
    have hf3 := Nat.lt_of_le_of_lt (fac_mono hy41) fac41
    have hf2 : (0 : Int) < (fac y : Int) ∧ (fac y : Int) < 2 ^ 200 := ⟨by omega, by exact_mod_cast hf3⟩
    (walk_at "x9"; (with_reducible refine gos_asg ?_); (with_reducible refine go_op ?_); walk_at "x0"; walk_at "x2"; (with_reducible refine call__law_factorial ?_); (with_reducible refine goa_cons ?_); walk_at "x0"; (with_reducible refine goa_nil ?_); walk_at "x3"; walk_at "x2"; walk_at "x8"; walk_at "x13"; walk_at "x9"; (focus skip); rotate_left)
    all_goals first
      | (refine o2_div hf2 ?_; walk_at "sk"; exact ⟨_, by rw [← hq]; simp only [ni, Int.natCast_ediv]⟩)
      | exact ⟨some (O.d (ni y)), by rw [← hq]; simp only [ni, Int.natCast_ediv]⟩
      | exact ⟨by omega, _, by rw [← hq]; simp only [ni, Int.natCast_ediv]⟩
      | trace_state
  · rintro _ ⟨a, rfl⟩
    rw [List.length_map, List.drop_length]
    ((with_reducible refine gos_ret ?_); walk_at "x0"; walk_at "x2"; (focus skip); rotate_left)
    (focus (rfl))
theorem cal_how_many (D : Df K mg "how_many" s_how_many) {a_SkewError a_TooMany : Addr} {t_MOST_WEAVINGS : Tok} (XX : XF K mg a_SkewError a_TooMany t_MOST_WEAVINGS) (b_range : mg "range" = none) : Cal P w K mg base "how_many" 1 ["counts"] (C_how_many mg) := by
  obtain ⟨f, fd, F, mf⟩ := D
  refine ⟨f, fd, ?_, mf, F.kp, F.binds (ps := ["counts"]) fun _ _ _ _ _ _ us hl => match us, hl with | [_], _ => rfl, Fun.lk F⟩
  refine F.ok sc_how_many (fun vs H Q E hS0 => spP_len (n := 1) (fun xs p q c0 => by unfold C_how_many at c0; obtain ⟨_, rfl, _⟩ := c0; rfl) hS0) (fun cdv A outer s H vs Q E hr hS0 => ?_)
  have hu := hu_of hr
  refine sp_body hS0 (fun B xs p q c0 hl0 wx => ?_)
  obtain ⟨c, rfl, hp0, rfl, rfl⟩ := c0
  refine ⟨_, (pss_cons (ps_asg pe_int (pg_name (i := 1) sc_how_many.nd rfl (by first | exact Or.inl rfl | exact Or.inr rfl)))
      (pss_cons (ps_asg pe_int (pg_name (i := 2) sc_how_many.nd rfl (by first | exact Or.inl rfl | exact Or.inr rfl)))
      (pss_cons (ps_for PassesOwn.never rfl (k_seq (K := K) rfl (pv 0)) (pg_name (i := 3) sc_how_many.nd rfl (by first | exact Or.inl rfl | exact Or.inr rfl))
        (pss_one (ps_for PassesOwn.never rfl (pi_range1 (by rfl) b_range (pa_cons (pv 3) pa_nil)) (pg_name (i := 4) sc_how_many.nd rfl (by first | exact Or.inl rfl | exact Or.inr rfl))
          (pss_cons (ps_aug (i := 2) sc_how_many.nd rfl (.inl rfl) pe_int iop_addG)
          (pss_one (ps_asg (pe_op op_divG (pe_op op_mulG (pv 1) (pv 2)) (pe_op (k_add (K := K) rfl) (pv 4) pe_int)) (pg_name (i := 1) sc_how_many.nd rfl (by first | exact Or.inl rfl | exact Or.inr rfl))))))))
      (pss_one (ps_ret (pv 1)))))), ?_⟩
  clear hS0 hl0 hr hu wx b_range
  simp only [List.map_cons, List.map_nil, List.length_cons, List.length_nil, List.cons_append, List.nil_append, Nat.reduceAdd, Nat.reduceSub, List.replicate_succ, List.replicate_zero, N_how_many]
  ((with_reducible refine gos_sA ?_); (with_reducible refine gos_asg ?_); (with_reducible refine go_int ?_); walk_at "x9"; (with_reducible refine gos_sA ?_); (with_reducible refine gos_asg ?_); (with_reducible refine go_int ?_); walk_at "x9"; (with_reducible refine gos_sF ?_); (with_reducible refine gos_for ?_); (with_reducible refine goi_seq ?_); walk_at "x0"; walk_at "x2"; (focus skip); rotate_left)
  refine ⟨_, .seq rfl, fun i Γ' => ∃ (a b : Option O), Γ' = [some (O.d (.lst (c.map ni))), some (O.d (ni ((c.take i).foldl hstep (1, 0)).1)), some (O.d (ni ((c.take i).foldl hstep (1, 0)).2)), a, b], ⟨_, _, rfl⟩, ?_, ?_⟩
  · rintro i d _ hd ⟨a, b, rfl⟩
    obtain ⟨y, hy, rfl⟩ := mapD_get hd
    have hy41 := hp0.2 y (List.mem_of_getElem? hy)
    dsimp only
    rw [foldl_at hstep _ _ _ _ hy]
    generalize hg : (c.take i).foldl hstep (1, 0) = p
    have hs : p.2 ≤ 328 := by
      have h2 := (hm_fold (c.take i) (1, 0) 1).2
      rw [hg] at h2
      have h3 : Small (c.take i) := ⟨by have := hp0.1; simp; omega, fun n hn => hp0.2 n (List.mem_of_mem_take hn)⟩
      have := h3.sum
      omega
    (walk_at "x9"; (with_reducible refine gos_for ?_); (with_reducible refine goi_rng1 ?_); (with_reducible refine goa_cons ?_); walk_at "x0"; (with_reducible refine goa_nil ?_); walk_at "x3"; walk_at "x2"; walk_at "x8"; walk_at "x8"; (focus skip); rotate_left)
    refine ⟨fun k Γ' => ∃ (b : Option O), Γ' = [some (O.d (.lst (c.map ni))), some (O.d (ni (p.1 * ch (p.2 + k) k))), some (O.d (ni (p.2 + k))), some (O.d (ni y)), b], ⟨_, by simp [ch0, ni]; rfl⟩, ?_, ?_⟩
    · rintro k d _ hd ⟨b, rfl⟩
      obtain ⟨hk, rfl⟩ := rngD_get hd
      (walk_at "x9"; (with_reducible refine gos_sU ?_); walk_at "x14"; (with_reducible refine go_int ?_); walk_at "x2"; (with_reducible refine oi_add ?_); walk_at "x2"; walk_at "x8"; (with_reducible refine gos_asg ?_); (with_reducible refine go_op ?_); (with_reducible refine go_op ?_); walk_at "x0"; walk_at "x0"; walk_at "x2"; walk_at "x5"; (with_reducible refine go_op ?_); walk_at "x0"; (with_reducible refine go_int ?_); walk_at "x2"; (with_reducible refine o2_add ?_); walk_at "x2"; walk_at "x13"; walk_at "x9"; (focus skip); rotate_left)
      refine ⟨some (O.d (D.int (0 + (k : Int)))), ?_⟩
      have e := way_step p.1 p.2 k
      have e1 : (ni (p.1 * ch (p.2 + (k + 1)) (k + 1))) = .int ((((p.1 * ch (p.2 + k) k * (p.2 + k + 1) / (k + 1) : Nat)) : Int)) := by rw [e]
      rw [e1]
      simp only [ni, Int.natCast_ediv, Int.natCast_mul, Int.natCast_add, Int.natCast_one, Int.zero_add, Int.add_assoc]
    · rintro _ ⟨b, rfl⟩
      skip
      rw [rngD_len]
      exact ⟨_, _, rfl⟩
  · rintro _ ⟨a, b, rfl⟩
    ((with_reducible refine gos_ret ?_); walk_at "x0"; walk_at "x2"; (focus skip); rotate_left)
    rw [List.length_map, List.take_length]; rfl
theorem cal_next_weaving (D : Df K mg "next_weaving" s_next_weaving) {a_SkewError a_TooMany : Addr} {t_MOST_WEAVINGS : Tok} (XX : XF K mg a_SkewError a_TooMany t_MOST_WEAVINGS) (b_len : mg "len" = none) (b_list : mg "list" = none) (b_reversed : mg "reversed" = none) : Cal P w K mg base "next_weaving" 1 ["turns"] (C_next_weaving mg) := by
  obtain ⟨f, fd, F, mf⟩ := D
  refine ⟨f, fd, ?_, mf, F.kp, F.binds (ps := ["turns"]) fun _ _ _ _ _ _ us hl => match us, hl with | [_], _ => rfl, Fun.lk F⟩
  refine F.ok sc_next_weaving (fun vs H Q E hS0 => spP_len (n := 1) (fun xs p q c0 => by unfold C_next_weaving at c0; obtain ⟨_, rfl, _⟩ := c0; rfl) hS0) (fun cdv A outer s H vs Q E hr hS0 => ?_)
  have hu := hu_of hr
  refine sp_body hS0 (fun B xs p q c0 hl0 wx => ?_)
  obtain ⟨l, rfl, hp0, rfl, rfl⟩ := c0
  refine ⟨_, (pss_cons (ps_asg (pe_op op_subG (pe_callB (k_len (K := K) rfl) (by rfl) b_len (by decide +kernel) (pa_cons (pv 0) pa_nil)) pe_int) (pg_name (i := 1) sc_next_weaving.nd rfl (by first | exact Or.inl rfl | exact Or.inr rfl)))
      (pss_cons (ps_while PassesOwn.never (PW.pt (pw_and (pt_cmpR op_geG (pv 1) pe_int (nomark _)) (pw_and1 (pt_cmpR op_geG (pe_ix (k_ix (K := K) rfl hu) (pv 0) (pv 1) (fun _ _ => rfl)) (pe_ix (k_ix (K := K) rfl hu) (pv 0) (pe_op (k_add (K := K) rfl) (pv 1) pe_int) (fun _ _ => rfl)) (nomark _)))))
        (pss_one (ps_aug (i := 1) sc_next_weaving.nd rfl (.inl rfl) pe_int iop_subG)))
      (pss_cons (ps_if (pt_cmpR (k_lt (K := K) rfl hr.units0) (pv 1) pe_int (nomark _))
        (pss_one (ps_ret pe_non))
        pss_nil)
      (pss_cons (ps_asg (pe_op op_subG (pe_callB (k_len (K := K) rfl) (by rfl) b_len (by decide +kernel) (pa_cons (pv 0) pa_nil)) pe_int) (pg_name (i := 2) sc_next_weaving.nd rfl (by first | exact Or.inl rfl | exact Or.inr rfl)))
      (pss_cons (ps_while PassesOwn.never (pt_cmpR op_leG (pe_ix (k_ix (K := K) rfl hu) (pv 0) (pv 2) (fun _ _ => rfl)) (pe_ix (k_ix (K := K) rfl hu) (pv 0) (pv 1) (fun _ _ => rfl)) (nomark _))
        (pss_one (ps_aug (i := 2) sc_next_weaving.nd rfl (.inl rfl) pe_int iop_subG)))
      (pss_cons (ps_asg (pe_op (k_add (K := K) rfl) (pe_op (k_add (K := K) rfl) (pe_slice (k_sl (K := K) rfl) (pv 0) (po_some (pe_op (k_add (K := K) rfl) (pv 1) pe_int)) (po_some (pv 2))) (pe_lst (pa_cons (pe_ix (k_ix (K := K) rfl hu) (pv 0) (pv 1) (fun _ _ => rfl)) pa_nil))) (pe_slice (k_sl (K := K) rfl) (pv 0) (po_some (pe_op (k_add (K := K) rfl) (pv 2) pe_int)) po_none)) (pg_name (i := 3) sc_next_weaving.nd rfl (by first | exact Or.inl rfl | exact Or.inr rfl)))
      (pss_one (ps_ret (pe_op (k_add (K := K) rfl) (pe_op (k_add (K := K) rfl) (pe_slice (k_sl (K := K) rfl) (pv 0) po_none (po_some (pv 1))) (pe_lst (pa_cons (pe_ix (k_ix (K := K) rfl hu) (pv 0) (pv 2) (fun _ _ => rfl)) pa_nil))) (pe_listRev (K := K) rfl rfl (by rfl) b_list (by rfl) b_reversed (pv 3))))))))))), ?_⟩
  clear hS0 hl0 hr hu wx b_len b_list b_reversed
  simp only [List.map_cons, List.map_nil, List.length_cons, List.length_nil, List.cons_append, List.nil_append, Nat.reduceAdd, Nat.reduceSub, List.replicate_succ, List.replicate_zero, N_next_weaving]
  rcases List.eq_nil_or_concat l with rfl | ⟨A1, y1, rfl⟩
  · ((with_reducible refine gos_sA ?_); (with_reducible refine gos_asg ?_); (with_reducible refine go_op ?_); (with_reducible refine go_cb ?_); (with_reducible refine goa_cons ?_); walk_at "x0"; (with_reducible refine goa_nil ?_); walk_at "x1"; (with_reducible refine go_int ?_); walk_at "x2"; (with_reducible refine o2_sub ?_); walk_at "x9"; (with_reducible refine gos_sW ?_); walk_at "x2"; (focus skip); rotate_left)
    refine gos_while (fun m Γ' => m = 0 ∧ Γ' = [some (O.d (.lst [])), some (O.d (.int (-2))), none, none]) ?_ ?_
    · exact ⟨_, rfl, rfl⟩
    rintro m _ ⟨rfl, rfl⟩
    ((with_reducible refine got_and ?_); (with_reducible refine got_test ?_); (with_reducible refine go_op ?_); walk_at "x0"; (with_reducible refine go_int ?_); walk_at "x2"; (with_reducible refine o2_ge ?_); walk_at "x3"; walk_at "x4"; walk_at "x4"; (with_reducible refine gos_sIR ?_); (with_reducible refine gos_if ?_); (with_reducible refine got_test ?_); (with_reducible refine go_op ?_); walk_at "x0"; (with_reducible refine go_int ?_); walk_at "x2"; (with_reducible refine o2_lt ?_); walk_at "x3"; walk_at "x4"; (with_reducible refine gos_ret ?_); (with_reducible refine go_non ?_); walk_at "x2"; (focus skip); rotate_left)
    (focus (rfl))
  rw [List.concat_eq_append] at *
  generalize hl : A1 ++ [y1] = l at *
  ((with_reducible refine gos_sA ?_); (with_reducible refine gos_asg ?_); (with_reducible refine go_op ?_); (with_reducible refine go_cb ?_); (with_reducible refine goa_cons ?_); walk_at "x0"; (with_reducible refine goa_nil ?_); walk_at "x1"; (with_reducible refine go_int ?_); walk_at "x2"; (with_reducible refine o2_sub ?_); walk_at "x9"; (with_reducible refine gos_sW ?_); walk_at "x2"; (focus skip); rotate_left)
  refine gos_while (fun m Γ' => ∃ (A t : List Int) (y : Int), l = A ++ y :: t ∧ Fall (y :: t) ∧ m = A.length ∧ Γ' = [some (O.d (.lst (l.map D.int))), some (O.d (.int ((A.length : Int) - 1))), none, none]) ?_ ?_
  · refine ⟨_, A1, [], y1, hl.symm, by simp [Fall], rfl, ?_⟩
    have : l.length = A1.length + 1 := by rw [← hl]; simp
    simp only [List.length_map, this]
    rw [show ((A1.length + 1 : Nat) : Int) - 2 = (A1.length : Int) - 1 by omega]
  rintro m _ ⟨A, t, y, e, hf, rfl, rfl⟩
  have hdone : A.length = 0 → nxD l = .d .non := fun h0 => by
    have : A = [] := List.length_eq_zero_iff.mp h0
    subst this
    unfold nxD
    rw [e, List.nil_append, nxt_none.mpr hf]
  ((with_reducible refine got_and ?_); (with_reducible refine got_test ?_); (with_reducible refine go_op ?_); walk_at "x0"; (with_reducible refine go_int ?_); walk_at "x2"; (with_reducible refine o2_ge ?_); walk_at "x3"; walk_at "x4"; (with_reducible refine got_test ?_); (with_reducible refine go_op ?_); (with_reducible refine go_op ?_); walk_at "x0"; walk_at "x0"; walk_at "x2"; (focus skip); rotate_left; walk_at "x4"; (with_reducible refine gos_sIR ?_); (with_reducible refine gos_if ?_); (with_reducible refine got_test ?_); (with_reducible refine go_op ?_); walk_at "x0"; (with_reducible refine go_int ?_); walk_at "x2"; (with_reducible refine o2_lt ?_); walk_at "x3"; walk_at "x4"; (with_reducible refine gos_ret ?_); (with_reducible refine go_non ?_); walk_at "x2"; (focus skip); rotate_left; (with_reducible refine gos_next ?_); (with_reducible refine gos_sA ?_); (with_reducible refine gos_asg ?_); (with_reducible refine go_op ?_); (with_reducible refine go_cb ?_); (with_reducible refine goa_cons ?_); walk_at "x0"; (with_reducible refine goa_nil ?_); walk_at "x1"; (with_reducible refine go_int ?_); walk_at "x2"; (with_reducible refine o2_sub ?_); walk_at "x9"; (with_reducible refine gos_sW ?_); walk_at "x2"; (focus skip); rotate_left)
  · rcases List.eq_nil_or_concat A with rfl | ⟨A0, x, rfl⟩
    · rename_i hc; simp at hc
    rw [List.concat_eq_append] at *
    have e2 : l = A0 ++ x :: y :: t := by rw [e]; simp
    have hat : (((A0 ++ [x]).length : Nat) : Int) - 1 = (A0.length : Int) := by simp
    rw [hat]
    have hx : atI (l.map D.int) (A0.length : Int) = some (.int x) := atI_ofN.trans (by rw [e2]; simp)
    have hy : atI (l.map D.int) ((A0.length : Int) + 1) = some (.int y) := by
      rw [show (A0.length : Int) + 1 = ((A0.length + 1 : Nat) : Int) by omega]
      exact atI_ofN.trans (by rw [e2]; simp)
    refine o2_ix rfl hx ?_
    ((with_reducible refine go_op ?_); walk_at "x0"; (with_reducible refine go_op ?_); walk_at "x0"; (with_reducible refine go_int ?_); walk_at "x2"; (with_reducible refine o2_add ?_); walk_at "x2"; (focus skip); rotate_left)
    refine o2_ix rfl hy ?_
    (walk_at "x2"; (with_reducible refine o2_ge ?_); walk_at "x3"; walk_at "x4"; walk_at "x14"; (with_reducible refine go_int ?_); walk_at "x2"; (with_reducible refine oi_sub ?_); walk_at "x2"; walk_at "x8"; (focus skip); rotate_left; (with_reducible refine gos_sIR ?_); (with_reducible refine gos_if ?_); (with_reducible refine got_test ?_); (with_reducible refine go_op ?_); walk_at "x0"; (with_reducible refine go_int ?_); walk_at "x2"; (with_reducible refine o2_lt ?_); walk_at "x3"; walk_at "x4"; (with_reducible refine gos_ret ?_); (with_reducible refine go_non ?_); walk_at "x2"; (focus skip); rotate_left; (with_reducible refine gos_next ?_); (with_reducible refine gos_sA ?_); (with_reducible refine gos_asg ?_); (with_reducible refine go_op ?_); (with_reducible refine go_cb ?_); (with_reducible refine goa_cons ?_); walk_at "x0"; (with_reducible refine goa_nil ?_); walk_at "x1"; (with_reducible refine go_int ?_); walk_at "x2"; (with_reducible refine o2_sub ?_); walk_at "x9"; (with_reducible refine gos_sW ?_); walk_at "x2"; (focus skip); rotate_left)
    · rename_i hyx
      refine ⟨A0.length, by simp, A0, y :: t, x, e2, ?_, rfl, rfl⟩
      unfold Fall
      rw [List.pairwise_cons]
      refine ⟨fun z hz => ?_, hf⟩
      rcases List.mem_cons.mp hz with rfl | hz
      · exact hyx
      · have := (List.pairwise_cons.mp hf).1 z hz; omega
    · exfalso; omega
    rename_i hxy _
    have hll : l.length = A0.length + 2 + t.length := by rw [e2]; simp; omega
    refine gos_while (fun m Γ' => ∃ (u v : List Int) (b : Int), y :: t = u ++ b :: v ∧ (∀ z ∈ v, z ≤ x) ∧ m = u.length ∧ Γ' = [some (O.d (.lst (l.map D.int))), some (O.d (.int (A0.length : Int))), some (O.d (.int ((A0.length : Int) + 1 + (u.length : Int)))), none]) ?_ ?_
    · rcases List.eq_nil_or_concat (y :: t) with q | ⟨u, b, q⟩
      · cases q
      rw [List.concat_eq_append] at q
      have hq := congrArg List.length q
      simp only [List.length_cons, List.length_append, List.length_nil] at hq
      refine ⟨_, u, [], b, q, by simp, rfl, ?_⟩
      rw [List.length_map, hll, show ((A0.length + 2 + t.length : Nat) : Int) - 1 = (A0.length : Int) + 1 + (u.length : Int) by omega]
    rintro m _ ⟨u, v, b, eu, hv, rfl, rfl⟩
    have e3 : l = A0 ++ x :: (u ++ b :: v) := by rw [e2, eu]
    have hb : atI (l.map D.int) ((A0.length : Int) + 1 + (u.length : Int)) = some (.int b) := by
      rw [show (A0.length : Int) + 1 + (u.length : Int) = ((A0.length + (1 + u.length) : Nat) : Int) by omega]
      refine atI_ofN.trans ?_
      rw [e3, List.getElem?_map, List.getElem?_append_right (by omega), Nat.add_sub_cancel_left, Nat.add_comm 1, List.getElem?_cons_succ, List.getElem?_append_right (by omega), Nat.sub_self]
      rfl
    ((with_reducible refine got_test ?_); (with_reducible refine go_op ?_); (with_reducible refine go_op ?_); walk_at "x0"; walk_at "x0"; walk_at "x2"; (focus skip); rotate_left)
    refine o2_ix rfl hb ?_
    ((with_reducible refine go_op ?_); walk_at "x0"; walk_at "x0"; walk_at "x2"; (focus skip); rotate_left)
    refine o2_ix rfl hx ?_
    (walk_at "x2"; (with_reducible refine o2_le ?_); walk_at "x3"; walk_at "x4"; walk_at "x14"; (with_reducible refine go_int ?_); walk_at "x2"; (with_reducible refine oi_sub ?_); walk_at "x2"; walk_at "x8"; (focus skip); rotate_left; (with_reducible refine gos_sA ?_); (with_reducible refine gos_asg ?_); (with_reducible refine go_op ?_); (with_reducible refine go_op ?_); (with_reducible refine go_sl ?_); walk_at "x0"; (with_reducible refine goo_some ?_); (with_reducible refine go_op ?_); walk_at "x0"; (with_reducible refine go_int ?_); walk_at "x2"; (with_reducible refine o2_add ?_); walk_at "x3"; (with_reducible refine goo_some ?_); walk_at "x0"; walk_at "x3"; walk_at "x12"; (with_reducible refine go_lst ?_); (with_reducible refine goa_cons ?_); (with_reducible refine go_op ?_); walk_at "x0"; walk_at "x0"; walk_at "x2"; walk_at "x11"; (focus skip); rotate_left)
    · rename_i hbx
      rcases List.eq_nil_or_concat u with rfl | ⟨u0, b0, rfl⟩
      · rw [List.nil_append] at eu
        cases eu
        exact absurd hbx hxy
      · rw [List.concat_eq_append] at *
        refine ⟨u0.length, by simp, u0, b :: v, b0, by rw [eu]; simp, fun z hz => ?_, rfl, ?_⟩
        · rcases List.mem_cons.mp hz with rfl | hz
          · exact hbx
          · exact hv z hz
        · rw [show (A0.length : Int) + 1 + ((u0 ++ [b0]).length : Int) - 1 = (A0.length : Int) + 1 + (u0.length : Int) by simp; omega]
    rename_i hbx
    have e4 : l = ((A0 ++ [x]) ++ u) ++ b :: v := by rw [e3]; simp
    have hl4 : l.length = A0.length + 1 + u.length + 1 + v.length := by rw [e4]; simp; omega
    have c1 : SK.cutD l (some ((A0.length : Int) + 1)) (some ((A0.length : Int) + 1 + (u.length : Int))) = u := by
      rw [cutD_midI (by omega) (by omega), show ((A0.length : Int) + 1 + (u.length : Int)).toNat = A0.length + 1 + u.length by omega, show ((A0.length : Int) + 1).toNat = A0.length + 1 by omega, e4, List.take_left' (by simp; omega), List.drop_left' (by simp)]
    have c2 : SK.cutD l (some ((A0.length : Int) + 1 + (u.length : Int) + 1)) none = v := by
      rw [cutD_dropI (by omega), show ((A0.length : Int) + 1 + (u.length : Int) + 1).toNat = A0.length + 1 + u.length + 1 by omega, show l = (((A0 ++ [x]) ++ u) ++ [b]) ++ v by rw [e4]; simp, List.drop_left' (by simp; omega)]
    have c3 : SK.cutD l none (some (A0.length : Int)) = A0 := by
      rw [cutD_takeI (by omega), Int.toNat_natCast, e3, List.take_left' rfl]
    have p1 : ∀ z ∈ u ++ [b], (fun z => decide (x < z)) z = true := fun z hz => by
      refine decide_eq_true ?_
      rcases List.mem_append.mp hz with h | h
      · have hf2 := hf
        rw [eu] at hf2
        have := (List.pairwise_append.mp hf2).2.2 z h b List.mem_cons_self
        omega
      · rw [List.mem_singleton.mp h]; omega
    have hsw : swp x (y :: t) = some (b :: (u ++ x :: v).reverse) := by
      have tw : List.takeWhile (fun z => decide (x < z)) ((u ++ [b]) ++ v) = u ++ [b] ∧ List.dropWhile (fun z => decide (x < z)) ((u ++ [b]) ++ v) = v := by
        rw [List.takeWhile_append_of_pos p1, List.dropWhile_append_of_pos p1]
        cases v with
        | nil => simp
        | cons z r =>
          have hd : decide (x < z) = false := decide_eq_false (by have := hv z List.mem_cons_self; omega)
          simp only [List.takeWhile_cons, List.dropWhile_cons, hd, Bool.false_eq_true, if_false, List.append_nil, and_self]
      unfold swp
      rw [show y :: t = (u ++ [b]) ++ v by rw [eu]; simp]
      simp only [tw.1, tw.2, List.getLast?_append, List.getLast?_singleton, Option.some_or, List.dropLast_concat]
    have hnx : nxD l = .ol (((A0 ++ b :: (u ++ x :: v).reverse).map SK.D.int).map O.d) := by
      unfold nxD
      rw [e2, nxt_code hf hsw]
    rw [hnx, c1]
    refine o2_ix rfl hx ?_
    ((with_reducible refine goa_nil ?_); walk_at "x2"; walk_at "x8"; (focus skip); rotate_left)
    refine o2_addL (by simp only [List.length_map, List.length_cons, List.length_nil]; omega) ?_
    ((with_reducible refine go_sl ?_); walk_at "x0"; (with_reducible refine goo_some ?_); (with_reducible refine go_op ?_); walk_at "x0"; (with_reducible refine go_int ?_); walk_at "x2"; (with_reducible refine o2_add ?_); walk_at "x3"; (with_reducible refine goo_none ?_); walk_at "x11"; walk_at "x12"; walk_at "x11"; (focus skip); rotate_left)
    rw [c2]
    refine o2_addL (by simp only [List.length_map, List.length_append, List.length_cons, List.length_nil]; omega) ?_
    (walk_at "x9"; (with_reducible refine gos_ret ?_); (with_reducible refine go_op ?_); (with_reducible refine go_op ?_); (with_reducible refine go_sl ?_); walk_at "x0"; (with_reducible refine goo_none ?_); (with_reducible refine goo_some ?_); walk_at "x0"; walk_at "x3"; walk_at "x2"; walk_at "x12"; (with_reducible refine go_lst ?_); (with_reducible refine goa_cons ?_); (with_reducible refine go_op ?_); walk_at "x0"; walk_at "x0"; walk_at "x2"; walk_at "x11"; (focus skip); rotate_left)
    rw [c3]
    refine o2_ix rfl hb ?_
    ((with_reducible refine goa_nil ?_); walk_at "x2"; walk_at "x8"; (focus skip); rotate_left)
    refine o2_addL (by simp only [List.length_map, List.length_cons, List.length_nil]; omega) ?_
    ((with_reducible refine go_listRev ?_); walk_at "x10"; walk_at "x3"; (focus skip); rotate_left)
    refine o2_addL (by simp only [List.length_map, List.length_append, List.length_cons, List.length_nil, List.length_reverse]; omega) ?_
    first
      | (refine congrArg (fun z => O.ol (List.map O.d z)) ?_
         simp only [List.map_append, List.map_cons, List.map_nil, List.map_reverse, List.reverse_append, List.reverse_cons, List.reverse_nil, List.nil_append, List.append_assoc, List.cons_append]; done)
      | trace_state
  (focus ((rename_i h1 _ h2; rw [hdone (by omega)]))); (focus ((exfalso; omega)))
theorem cal_weavings (D : Df K mg "weavings" s_weavings) {a_SkewError a_TooMany : Addr} {t_MOST_WEAVINGS : Tok} (XX : XF K mg a_SkewError a_TooMany t_MOST_WEAVINGS) (c_how_many : Cal P w K mg base "how_many" 1 ["counts"] (C_how_many mg)) (c_next_weaving : Cal P w K mg base "next_weaving" 1 ["turns"] (C_next_weaving mg)) (b_enumerate : mg "enumerate" = none) : CalX P w K mg base "weavings" 2 ["counts"] (C_weavings mg) := by
  obtain ⟨f, fd, F, mf⟩ := D
  obtain ⟨f_how_many, fd_how_many, G_how_many, g_how_many, k_how_many, bn_how_many, _⟩ := c_how_many
  obtain ⟨f_next_weaving, fd_next_weaving, G_next_weaving, g_next_weaving, k_next_weaving, bn_next_weaving, _⟩ := c_next_weaving
  refine ⟨f, fd, ?_, mf, F.kp, F.binds (ps := ["counts"]) fun _ _ _ _ _ _ us hl => match us, hl with | [_], _ => rfl, Fun.lk F⟩
  refine F.okX sc_weavings (fun vs H Q E hS0 => spP_len (n := 1) (fun xs p q c0 => by unfold C_weavings at c0; obtain ⟨_, rfl, _⟩ := c0; rfl) hS0) (fun cdv A outer s H vs Q E hr hS0 => ?_)
  have hu := hu_of hr
  refine sp_body hS0 (fun B xs p q c0 hl0 wx => ?_)
  obtain ⟨c, rfl, hp0, rfl, rfl⟩ := c0
  refine ⟨_, (pss_cons (ps_if (pt_cmpR op_gtG (pe_call G_how_many hr rfl g_how_many k_how_many bn_how_many .nil pass0 (pa_cons (pv 0) pa_nil)) (pe_glob (v := .int 2000) (by rfl) XX.g_MOST_WEAVINGS ⟨_, rfl⟩) (nomark _))
        (pss_one (k_raise rfl (L2.takes_of rfl rfl rfl rfl) XX.x_TooMany))
        pss_nil)
      (pss_cons (ps_asg (pe_lst pa_nil) (pg_name (i := 1) sc_weavings.nd rfl (by first | exact Or.inl rfl | exact Or.inr rfl)))
      (pss_cons (ps_for (passes_of rfl) rfl (k_enum (K := K) rfl (by rfl) b_enumerate (pa_cons (pv 0) pa_nil)) (k_tup (K := K) (n := 2) rfl (by rfl) (pgs_cons (pg_name (i := 3) sc_weavings.nd rfl (by first | exact Or.inl rfl | exact Or.inr rfl)) (pgs_cons (pg_name (i := 4) sc_weavings.nd rfl (by first | exact Or.inl rfl | exact Or.inr rfl)) pgs_nil)))
        (pss_one (ps_asg (pe_lendV (pe_op (k_add (K := K) rfl) (pv 1) (pe_op op_mulG (pe_lst (pa_cons (pe_op (k_add (K := K) rfl) (pv 3) pe_int) pa_nil)) (pv 4)))) (pg_name (i := 1) sc_weavings.nd rfl (by first | exact Or.inl rfl | exact Or.inr rfl)))))
      (pss_cons (ps_asg (pe_lst pa_nil) (pg_name (i := 2) sc_weavings.nd rfl (by first | exact Or.inl rfl | exact Or.inr rfl)))
      (pss_cons (ps_while (passes_of rfl) (pt_lendV (pt_cmpR op_notG (pv 1) pe_non (nomark _)))
        (pss_cons (ps_expr (k_bm (K := K) rfl (pe_bm PySem.F.plainAttrs_list PySem.F.slot_list_append PySem.F.type_list_append mt_append (pv 2) (pa_cons (pe_mvR (pv 1)) pa_nil))))
        (pss_one (ps_asg (pe_lendV (pe_call G_next_weaving hr rfl g_next_weaving k_next_weaving bn_next_weaving .nil pass0 (pa_cons (pv 1) pa_nil))) (pg_name (i := 1) sc_weavings.nd rfl (by first | exact Or.inl rfl | exact Or.inr rfl))))))
      (pss_one (ps_ret (pe_mv (pv 2))))))))), ?_⟩
  clear hS0 hl0 hr hu G_how_many g_how_many k_how_many bn_how_many G_next_weaving g_next_weaving k_next_weaving bn_next_weaving b_enumerate
  simp only [List.map_cons, List.map_nil, List.length_cons, List.length_nil, List.cons_append, List.nil_append, Nat.reduceAdd, Nat.reduceSub, List.replicate_succ, List.replicate_zero, N_weavings]
  have hsm := hp0.sum
  have hal : (Al c).length = (hm c).1 := arr_hm c
  have hall := fun l (h : l ∈ Al c) => (one_of h).ln
  ((with_reducible refine gos_sIW ?_); (with_reducible refine gos_if ?_); (with_reducible refine got_test ?_); (with_reducible refine go_op ?_); walk_at "x2"; (with_reducible refine call_how_many ?_); (with_reducible refine goa_cons ?_); walk_at "x0"; (with_reducible refine goa_nil ?_); walk_at "x3"; walk_at "x2"; walk_at "x8"; (with_reducible refine go_int ?_); walk_at "x2"; (with_reducible refine o2_gt ?_); walk_at "x3"; walk_at "x4"; walk_at "x15"; walk_at "x2"; (focus skip); rotate_left; (with_reducible refine gos_next ?_); (with_reducible refine gos_sA ?_); (with_reducible refine gos_asg ?_); (with_reducible refine go_lst ?_); (with_reducible refine goa_nil ?_); walk_at "x2"; walk_at "x8"; walk_at "x9"; (with_reducible refine gos_sF ?_); (with_reducible refine gos_for ?_); (with_reducible refine goi_enum ?_); (with_reducible refine goa_cons ?_); walk_at "x0"; (with_reducible refine goa_nil ?_); walk_at "x2"; walk_at "x16"; (focus skip); rotate_left)
  · rename_i hc
    exact ⟨trivial, XX.g_TooMany, by omega⟩
  rename_i hc
  have hc2 : (hm c).1 ≤ 2000 := by omega
  refine ⟨fun i Γ' => ∃ a b : Option O, Γ' = [some (O.d (.lst (c.map ni))), some (.ol (((bas 0 (c.take i)).map SK.D.int).map O.d)), none, a, b], ⟨none, none, rfl⟩, ?_, ?_⟩
  · rintro i d _ hd ⟨a, b, rfl⟩
    obtain ⟨n, hn, rfl⟩ : ∃ n, c[i]? = some n ∧ d = .tup [.int i, ni n] := by
      rw [enumD_get, List.getElem?_map] at hd
      cases q : c[i]? with
      | none => rw [q] at hd; cases hd
      | some n => rw [q] at hd; cases hd; exact ⟨n, rfl, rfl⟩
    have hn41 := hp0.2 n (List.mem_of_getElem? hn)
    have hbl : (bas 0 (c.take i)).length ≤ 328 := by
      rw [bas_len]
      exact Small.sum ⟨by have := hp0.1; simp; omega, fun n hn => hp0.2 n (List.mem_of_mem_take hn)⟩
    ((with_reducible refine gog_tup ?_); walk_at "x3"; walk_at "x2"; walk_at "x8"; walk_at "x17"; walk_at "x17"; (with_reducible refine gogs_nil ?_); (with_reducible refine gos_asg ?_); walk_at "x2"; (focus skip); rotate_left)
    refine go_lendV' views_fz fun F' B' => ?_
    simp only [fzE_cons, fzE_nil, frO_none, frO_some, fz_fl, fz_fk, fz_d, fzL_fl, fzK_d, O.fz, fzL, List.set]
    ((with_reducible refine go_op ?_); walk_at "x0"; (with_reducible refine go_op ?_); (with_reducible refine go_lst ?_); (with_reducible refine goa_cons ?_); (with_reducible refine go_op ?_); walk_at "x0"; (with_reducible refine go_int ?_); walk_at "x2"; (with_reducible refine o2_add ?_); (with_reducible refine goa_nil ?_); walk_at "x2"; walk_at "x11"; walk_at "x8"; walk_at "x0"; walk_at "x2"; (focus skip); rotate_left)
    refine o2_rep (by omega) (by omega) (by simp; omega) ?_
    (walk_at "x11"; (focus skip); rotate_left)
    refine o2_addL (by simp; omega) ?_
    rw [rep1]
    skip
    have e1 : List.map D.int (bas 0 (List.take i c)) ++ List.replicate n (D.int ((i : Int) + 1)) = (bas 0 (c.take (i + 1))).map D.int := by
      rw [bas_take hn, List.map_append, List.map_replicate]
    rw [e1]
    refine ⟨lfOLm fun _ => rfl, ?_⟩
    (walk_at "x9"; (focus skip); rotate_left)
    exact ⟨_, _, rfl⟩
  · rintro _ ⟨a, b, rfl⟩
    rw [enumD_len, List.length_map, List.take_length]
    ((with_reducible refine gos_sA ?_); (with_reducible refine gos_asg ?_); (with_reducible refine go_lst ?_); (with_reducible refine goa_nil ?_); walk_at "x2"; walk_at "x8"; walk_at "x9"; (with_reducible refine gos_sW ?_); walk_at "x2"; (focus skip); rotate_left)
    refine gos_while (fun m Γ' => ∃ (i : Nat), i ≤ (Al c).length ∧ m = (Al c).length - i ∧ Γ' = [some (O.d (.lst (c.map ni))), (if h : i < (Al c).length then some (.ol ((((Al c)[i]).map SK.D.int).map O.d)) else some (O.d .non)), some (alO ((Al c).take i)), a, b]) ?_ ?_
    · refine ⟨_, 0, Nat.zero_le _, rfl, ?_⟩
      have h0 := al_zero c
      have hl : 0 < (Al c).length := (List.getElem?_eq_some_iff.mp h0).1
      rw [dif_pos hl, (List.getElem?_eq_some_iff.mp h0).2]; rfl
    rintro m _ ⟨i, hi, rfl, rfl⟩
    by_cases h : i < (Al c).length
    · simp only [dif_pos h]
      refine got_lendV' views_fz fun F' B' => ?_
      simp only [fzE_cons, fzE_nil, frO_none, frO_some, fz_fl, fz_fk, fz_d, fzL_fl, fzK_d, O.fz, fzL, List.set]
      ((with_reducible refine got_test ?_); (with_reducible refine go_op ?_); walk_at "x0"; (with_reducible refine go_non ?_); walk_at "x2"; walk_at "x18"; walk_at "x3"; walk_at "x2"; walk_at "x4"; (with_reducible refine gos_sD ?_); walk_at "x19"; walk_at "x2"; (focus skip); rotate_left)
      refine go_varL rfl refO_ol fun za => ?_
      (walk_at "x3"; walk_at "x2"; (focus skip); rotate_left)
      refine ⟨by rw [List.length_map, List.length_take]; omega, ?_⟩
      try dsimp only [List.set]
      have hmem : (Al c)[i] ∈ Al c := List.getElem_mem h
      have hln := hall _ hmem
      have hnx := al_nxt (List.getElem?_eq_getElem h)
      have htk : (Al c).take (i + 1) = (Al c).take i ++ [(Al c)[i]] := by rw [List.take_add_one, List.getElem?_eq_getElem h]; rfl
      have hat : (O.ol (((Al c).take i).map (fun l => O.ol ((l.map D.int).map O.d)) ++ [O.atA za (O.ol (((Al c)[i].map D.int).map O.d))])).getP [.idx i] = some (O.atA za (O.ol (((Al c)[i].map D.int).map O.d))) := ol_end (by rw [List.length_map, List.length_take]; omega)
      refine gos_wknx ?_
      ((with_reducible refine gos_asg ?_); walk_at "x2"; (focus skip); rotate_left)
      refine go_lendV' (views_up (j := 1) (i := 2) (p := [.idx i]) rfl rfl hat rfl wkn_un views_fz) fun F' B' => ?_
      simp only [fzE_cons, fzE_nil, frO_none, frO_some, fz_fl, fz_fk, fz_d, fzL_fl, fzK_d, O.fz, fzL, List.set]
      ((with_reducible refine call_next_weaving ?_); (with_reducible refine goa_cons ?_); walk_at "x0"; (with_reducible refine goa_nil ?_); walk_at "x3"; walk_at "x2"; walk_at "x8"; (focus skip); rotate_left)
      rintro _ rfl
      have hlf : (nxD (Al c)[i]).lf = true := by
        unfold nxD
        split
        · rfl
        · exact lfOLm fun _ => rfl
      refine ⟨hlf, ?_⟩
      (walk_at "x9"; (focus skip); rotate_left)
      refine ⟨2, _, _, rfl, wkn_end (y' := O.ol (((Al c)[i].map D.int).map O.d)) (i := i) (by rw [List.length_map, List.length_take]; omega) wkn_un, (Al c).length - (i + 1), by omega, i + 1, by omega, rfl, ?_⟩
      have e2 : List.map (fun l => O.ol (List.map O.d (List.map D.int l))) (List.take i (Al c)) ++ [O.ol (List.map O.d (List.map D.int (Al c)[i]))] = ((Al c).take (i + 1)).map fun l => O.ol (List.map O.d (List.map D.int l)) := by
        rw [htk, List.map_append]; rfl
      rw [e2]
      have e3 : some (nxD (Al c)[i]) = if h : i + 1 < (Al c).length then some (O.ol (List.map O.d (List.map D.int (Al c)[i + 1]))) else some (O.d D.non) := by
        unfold nxD
        rw [hnx]
        by_cases h1 : i + 1 < (Al c).length
        · rw [dif_pos h1, List.getElem?_eq_getElem h1]
        · rw [dif_neg h1, List.getElem?_eq_none (by omega)]
      rw [← e3]
      rfl
    · simp only [dif_neg h]
      refine got_lendV' views_fz fun F' B' => ?_
      simp only [fzE_cons, fzE_nil, frO_none, frO_some, fz_fl, fz_fk, fz_d, fzL_fl, fzK_d, O.fz, fzL, List.set]
      ((with_reducible refine got_test ?_); (with_reducible refine go_op ?_); walk_at "x0"; (with_reducible refine go_non ?_); walk_at "x2"; walk_at "x18"; walk_at "x3"; walk_at "x2"; walk_at "x4"; (with_reducible refine gos_ret ?_); walk_at "x20"; walk_at "x8"; (focus skip); rotate_left)
      have : i = (Al c).length := by omega
      subst this
      rw [List.take_length]
theorem cal__law_is_one (D : Df K mg "_law_is_one" s__law_is_one) {a_SkewError a_TooMany : Addr} {t_MOST_WEAVINGS : Tok} (XX : XF K mg a_SkewError a_TooMany t_MOST_WEAVINGS) (b_bool : mg "bool" = none) (b_int : mg "int" = none) (b_isinstance : mg "isinstance" = none) (b_len : mg "len" = none) (b_list : mg "list" = none) (b_sum : mg "sum" = none) : Cal P w K mg base "_law_is_one" 1 ["_law_turns", "_law_counts_here"] (C__law_is_one mg) := by
  obtain ⟨f, fd, F, mf⟩ := D
  refine ⟨f, fd, ?_, mf, F.kp, F.binds (ps := ["_law_turns", "_law_counts_here"]) fun _ _ _ _ _ _ us hl => match us, hl with | [_, _], _ => rfl, Fun.lk F⟩
  refine F.ok sc__law_is_one (fun vs H Q E hS0 => spP_len (n := 2) (fun xs p q c0 => by unfold C__law_is_one at c0; obtain ⟨_, _, rfl, _⟩ := c0; rfl) hS0) (fun cdv A outer s H vs Q E hr hS0 => ?_)
  have hu := hu_of hr
  refine sp_body hS0 (fun B xs p q c0 hl0 wx => ?_)
  obtain ⟨c, l, rfl, hp0, hp1, rfl, rfl⟩ := c0
  refine ⟨_, (pss_cons (ps_if (PW.pt (pw_or (pt_not (pt_val (pe_callB (k_isi (K := K) rfl) (by rfl) b_isinstance (by decide +kernel) (pa_cons (pv 0) (pa_cons (pe_bltn (v := .ty "list") (u := .type "list") (by rfl) b_list (by decide +kernel) rfl) pa_nil))))) (pw_or1 (pt_cmpR (k_ne (K := K) rfl hr.units) (pe_callB (k_len (K := K) rfl) (by rfl) b_len (by decide +kernel) (pa_cons (pv 0) pa_nil)) (pe_callB (k_sum (K := K) rfl rfl) (by rfl) b_sum (by decide +kernel) (pa_cons (pv 1) pa_nil)) (nomark _)))))
        (pss_one (ps_ret pe_bl))
        pss_nil)
      (pss_cons (ps_asg (pe_op op_mulG (pe_lst (pa_cons pe_int pa_nil)) (pe_callB (k_len (K := K) rfl) (by rfl) b_len (by decide +kernel) (pa_cons (pv 1) pa_nil))) (pg_name (i := 2) sc__law_is_one.nd rfl (by first | exact Or.inl rfl | exact Or.inr rfl)))
      (pss_cons (ps_for PassesOwn.never rfl (k_seq (K := K) rfl (pv 0)) (pg_name (i := 3) sc__law_is_one.nd rfl (by first | exact Or.inl rfl | exact Or.inr rfl))
        (pss_cons (ps_if (PW.pt (pw_or (pt_not (pt_val (pe_callB (k_isi (K := K) rfl) (by rfl) b_isinstance (by decide +kernel) (pa_cons (pv 3) (pa_cons (pe_bltn (v := .ty "int") (u := .type "int") (by rfl) b_int (by decide +kernel) rfl) pa_nil))))) (pw_or (pt_val (pe_callB (k_isi (K := K) rfl) (by rfl) b_isinstance (by decide +kernel) (pa_cons (pv 3) (pa_cons (pe_bltn (v := .ty "bool") (u := .type "bool") (by rfl) b_bool (by decide +kernel) rfl) pa_nil)))) (pw_or (pt_cmpR (k_lt (K := K) rfl hr.units0) (pv 3) pe_int (nomark _)) (pw_or1 (pt_cmpR op_gtG (pv 3) (pe_callB (k_len (K := K) rfl) (by rfl) b_len (by decide +kernel) (pa_cons (pv 1) pa_nil)) (nomark _)))))))
          (pss_one (ps_ret pe_bl))
          pss_nil)
        (pss_one (ps_asg (pe_op (k_add (K := K) rfl) (pe_ixO (K := K) (i := 2) (pe_ix (k_ix (K := K) rfl hu) (pv 2) (pe_op op_subG (pv 3) pe_int) (fun _ _ => rfl))) pe_int) (pg_sub (pv 2) (pe_op op_subG (pv 3) pe_int) (set_G hu))))))
      (pss_one (ps_ret (pe_cmpR (k_eq (K := K) rfl hr.units) (pv 2) (pv 1) (nomark _))))))), ?_⟩
  clear hS0 hl0 hr hu wx b_bool b_int b_isinstance b_len b_list b_sum
  simp only [List.map_cons, List.map_nil, List.length_cons, List.length_nil, List.cons_append, List.nil_append, Nat.reduceAdd, Nat.reduceSub, List.replicate_succ, List.replicate_zero, N__law_is_one]
  have hsm := hp0.sum
  have hc8 := hp0.1
  have hln := hp1.ln
  ((with_reducible refine gos_sIR ?_); (with_reducible refine gos_if ?_); (with_reducible refine got_or ?_); (with_reducible refine got_not ?_); (with_reducible refine got_B ?_); (with_reducible refine go_cb ?_); (with_reducible refine goa_cons ?_); walk_at "x0"; (with_reducible refine goa_cons ?_); (with_reducible refine go_ty ?_); (with_reducible refine goa_nil ?_); walk_at "x2"; walk_at "x21"; walk_at "x3"; walk_at "x4"; (with_reducible refine got_test ?_); (with_reducible refine go_op ?_); (with_reducible refine go_cb ?_); (with_reducible refine goa_cons ?_); walk_at "x0"; (with_reducible refine goa_nil ?_); walk_at "x1"; (with_reducible refine go_cb ?_); (with_reducible refine goa_cons ?_); walk_at "x0"; (with_reducible refine goa_nil ?_); walk_at "x2"; (focus skip); rotate_left)
  refine oa_sum (ns := c.map fun (n : Nat) => (n : Int)) (congrArg some (by rw [List.map_map]; rfl)) ?_
  rw [sum_ni]
  (walk_at "x2"; (with_reducible refine o2_neI ?_); walk_at "x3"; walk_at "x4"; (with_reducible refine gos_ret ?_); (with_reducible refine go_bl ?_); walk_at "x2"; (focus skip); rotate_left; (with_reducible refine gos_next ?_); (with_reducible refine gos_sA ?_); (with_reducible refine gos_asg ?_); (with_reducible refine go_op ?_); (with_reducible refine go_lst ?_); (with_reducible refine goa_cons ?_); (with_reducible refine go_int ?_); (with_reducible refine goa_nil ?_); walk_at "x2"; walk_at "x11"; walk_at "x8"; (with_reducible refine go_cb ?_); (with_reducible refine goa_cons ?_); walk_at "x0"; (with_reducible refine goa_nil ?_); walk_at "x1"; walk_at "x2"; (focus skip); rotate_left)
  · rename_i hc
    rw [List.length_map, hln] at hc; exact absurd rfl hc
  refine o2_rep (by rw [List.length_map]; omega) (by rw [List.length_map]; omega) (by simp; omega) ?_
  rw [List.length_map, rep1, show (List.replicate c.length (D.int 0)) = (cnts c (l.take 0)).map D.int by rw [List.take_zero, cnts_nil, List.map_replicate]]
  (walk_at "x9"; (with_reducible refine gos_sF ?_); (with_reducible refine gos_for ?_); (with_reducible refine goi_seq ?_); walk_at "x0"; walk_at "x2"; (focus skip); rotate_left)
  refine ⟨_, .seq rfl, fun i Γ' => ∃ a : Option O, Γ' = [some (O.d (.lst (l.map D.int))), some (O.d (.lst (c.map ni))), some (.ol (((cnts c (l.take i)).map SK.D.int).map O.d)), a], ⟨none, rfl⟩, ?_, ?_⟩
  · rintro i d _ hd ⟨a, rfl⟩
    obtain ⟨z, hz, rfl⟩ := mapD_get hd
    have hm := hp1.mem z (List.mem_of_getElem? hz)
    obtain ⟨k, rfl⟩ : ∃ k : Nat, z = (k : Int) + 1 := ⟨(z - 1).toNat, by omega⟩
    have hk : k < c.length := by omega
    have htk : l.take (i + 1) = l.take i ++ [(k : Int) + 1] := by rw [List.take_add_one, hz]; rfl
    (walk_at "x9"; (with_reducible refine gos_sIR ?_); (with_reducible refine gos_if ?_); (with_reducible refine got_or ?_); (with_reducible refine got_not ?_); (with_reducible refine got_B ?_); (with_reducible refine go_cb ?_); (with_reducible refine goa_cons ?_); walk_at "x0"; (with_reducible refine goa_cons ?_); (with_reducible refine go_ty ?_); (with_reducible refine goa_nil ?_); walk_at "x2"; walk_at "x21"; walk_at "x3"; walk_at "x4"; (with_reducible refine got_or ?_); (with_reducible refine got_B ?_); (with_reducible refine go_cb ?_); (with_reducible refine goa_cons ?_); walk_at "x0"; (with_reducible refine goa_cons ?_); (with_reducible refine go_ty ?_); (with_reducible refine goa_nil ?_); walk_at "x2"; walk_at "x22"; walk_at "x3"; walk_at "x2"; walk_at "x4"; (with_reducible refine got_or ?_); (with_reducible refine got_test ?_); (with_reducible refine go_op ?_); walk_at "x0"; (with_reducible refine go_int ?_); walk_at "x2"; (with_reducible refine o2_lt ?_); walk_at "x3"; walk_at "x4"; walk_at "x4"; (with_reducible refine gos_ret ?_); (with_reducible refine go_bl ?_); walk_at "x2"; (focus skip); rotate_left; (with_reducible refine got_test ?_); (with_reducible refine go_op ?_); walk_at "x0"; (with_reducible refine go_cb ?_); (with_reducible refine goa_cons ?_); walk_at "x0"; (with_reducible refine goa_nil ?_); walk_at "x1"; walk_at "x2"; (with_reducible refine o2_gt ?_); walk_at "x3"; walk_at "x4"; (with_reducible refine gos_ret ?_); (with_reducible refine go_bl ?_); walk_at "x2"; (focus skip); rotate_left; (with_reducible refine gos_next ?_); (with_reducible refine gos_asg ?_); (with_reducible refine go_op ?_); walk_at "x23"; (with_reducible refine go_op ?_); walk_at "x0"; (with_reducible refine go_int ?_); walk_at "x2"; (with_reducible refine o2_sub ?_); (focus skip); rotate_left)
    all_goals first
      | (exfalso; simp only [List.length_map] at *; omega)
      | skip
    rw [show (k : Int) + 1 - 1 = (k : Int) by omega]
    refine ⟨_, _, _, rfl, rfl, atI_ofN.trans (by rw [List.getElem?_map, List.getElem?_map, cnts_get hk]; rfl), ?_⟩
    ((with_reducible refine go_int ?_); walk_at "x2"; (with_reducible refine o2_add ?_); walk_at "x24"; (with_reducible refine go_op ?_); walk_at "x0"; (with_reducible refine go_int ?_); walk_at "x2"; (with_reducible refine o2_sub ?_); walk_at "x3"; walk_at "x8"; (focus skip); rotate_left)
    refine ⟨by rw [List.length_map, List.length_map, cnts_len]; omega, some (O.d (D.int ((k : Int) + 1))), ?_⟩
    rw [show ((k : Int) + 1 - 1).toNat = k by omega, htk, cnts_put hk, List.map_set, List.map_set]
  · rintro _ ⟨a, rfl⟩
    rw [List.length_map, List.take_length, cnts_all hp1]
    ((with_reducible refine gos_ret ?_); (with_reducible refine go_op ?_); walk_at "x10"; walk_at "x0"; walk_at "x2"; (focus skip); rotate_left)
    refine o2_eqSame 1 (Shp.lstM fun _ => Shp.int) (by decide) rfl
theorem cal__law_all (D : Df K mg "_law_all" s__law_all) {a_SkewError a_TooMany : Addr} {t_MOST_WEAVINGS : Tok} (XX : XF K mg a_SkewError a_TooMany t_MOST_WEAVINGS) (c__law_is_one : Cal P w K mg base "_law_is_one" 1 ["_law_turns", "_law_counts_here"] (C__law_is_one mg)) (b_zip : mg "zip" = none) : Cal P w K mg base "_law_all" 2 ["_law_found", "_law_counts_here"] (C__law_all mg) := by
  obtain ⟨f, fd, F, mf⟩ := D
  obtain ⟨f__law_is_one, fd__law_is_one, G__law_is_one, g__law_is_one, k__law_is_one, bn__law_is_one, _⟩ := c__law_is_one
  refine ⟨f, fd, ?_, mf, F.kp, F.binds (ps := ["_law_found", "_law_counts_here"]) fun _ _ _ _ _ _ us hl => match us, hl with | [_, _], _ => rfl, Fun.lk F⟩
  refine F.ok sc__law_all (fun vs H Q E hS0 => spP_len (n := 2) (fun xs p q c0 => by unfold C__law_all at c0; obtain ⟨_, rfl, _⟩ := c0; rfl) hS0) (fun cdv A outer s H vs Q E hr hS0 => ?_)
  have hu := hu_of hr
  refine sp_body hS0 (fun B xs p q c0 hl0 wx => ?_)
  obtain ⟨c, rfl, hp0, hp1, rfl, rfl⟩ := c0
  refine ⟨_, (pss_cons (ps_for PassesOwn.never rfl (k_seq (K := K) rfl (pv 0)) (pg_name (i := 2) sc__law_all.nd rfl (by first | exact Or.inl rfl | exact Or.inr rfl))
        (pss_one (ps_if (pt_not (pt_val (pe_call G__law_is_one hr rfl g__law_is_one k__law_is_one bn__law_is_one .nil pass0 (pa_cons (pv 2) (pa_cons (pv 1) pa_nil)))))
          (pss_one (ps_ret pe_bl))
          pss_nil)))
      (pss_cons (ps_for PassesOwn.never rfl (k_zip (K := K) rfl (by rfl) b_zip (pa_cons (pe_slice (k_sl (K := K) rfl) (pv 0) po_none (po_some (pe_un un_neg pe_int))) (pa_cons (pe_slice (k_sl (K := K) rfl) (pv 0) (po_some pe_int) po_none) pa_nil))) (k_tup (K := K) (n := 2) rfl (by rfl) (pgs_cons (pg_name (i := 3) sc__law_all.nd rfl (by first | exact Or.inl rfl | exact Or.inr rfl)) (pgs_cons (pg_name (i := 4) sc__law_all.nd rfl (by first | exact Or.inl rfl | exact Or.inr rfl)) pgs_nil)))
        (pss_one (ps_if (pt_cmpR (k_geLL (K := K) rfl hu) (pv 3) (pv 4) (nomark _))
          (pss_one (ps_ret pe_bl))
          pss_nil)))
      (pss_one (ps_ret pe_bl)))), ?_⟩
  clear hS0 hl0 hr hu wx G__law_is_one g__law_is_one k__law_is_one bn__law_is_one b_zip
  simp only [List.map_cons, List.map_nil, List.length_cons, List.length_nil, List.cons_append, List.nil_append, Nat.reduceAdd, Nat.reduceSub, List.replicate_succ, List.replicate_zero, N__law_all]
  ((with_reducible refine gos_sF ?_); (with_reducible refine gos_for ?_); (with_reducible refine goi_seq ?_); walk_at "x0"; walk_at "x2"; (focus skip); rotate_left)
  refine ⟨_, .seq rfl, fun i Γ' => ∃ a : Option O, Γ' = [some (O.d (alD (Al c))), some (O.d (.lst (c.map ni))), a, none, none], ⟨none, rfl⟩, ?_, ?_⟩
  · rintro i d _ hd ⟨a, rfl⟩
    obtain ⟨z, hz, rfl⟩ := mapD_get hd
    have hm := one_of (List.mem_of_getElem? hz)
    (walk_at "x9"; (with_reducible refine gos_if ?_); (with_reducible refine got_not ?_); (with_reducible refine got_B ?_); (with_reducible refine call__law_is_one ?_); (with_reducible refine goa_cons ?_); walk_at "x0"; (with_reducible refine goa_cons ?_); walk_at "x0"; (with_reducible refine goa_nil ?_); walk_at "x2"; walk_at "x7"; walk_at "x8"; walk_at "x8"; walk_at "x3"; walk_at "x4"; (with_reducible refine gos_next ?_); walk_at "x2"; (focus skip); rotate_left)
    exact ⟨_, rfl⟩
  · rintro _ ⟨a, rfl⟩
    ((with_reducible refine gos_sF ?_); (with_reducible refine gos_for ?_); (with_reducible refine goi_zip ?_); (with_reducible refine goa_cons ?_); (with_reducible refine go_sl ?_); walk_at "x0"; (with_reducible refine goo_none ?_); (with_reducible refine goo_some ?_); (with_reducible refine go_un ?_); (with_reducible refine go_int ?_); walk_at "x2"; (with_reducible refine o1_neg ?_); walk_at "x3"; walk_at "x12"; (with_reducible refine goa_cons ?_); (with_reducible refine go_sl ?_); walk_at "x0"; (with_reducible refine goo_some ?_); (with_reducible refine go_int ?_); walk_at "x3"; (with_reducible refine goo_none ?_); walk_at "x2"; walk_at "x11"; walk_at "x12"; (with_reducible refine goa_nil ?_); walk_at "x11"; walk_at "x25"; (focus skip); rotate_left)
    rw [cutD_last]
    refine ⟨fun i Γ' => ∃ a b d : Option O, Γ' = [some (O.d (alD (Al c))), some (O.d (.lst (c.map ni))), a, b, d], ⟨_, _, _, rfl⟩, ?_, ?_⟩
    · rintro i d _ hd ⟨a, b, d', rfl⟩
      obtain ⟨x, y, hx, hy, rfl⟩ := zipD_map hd
      have hx2 : (Al c)[i]? = some x := by
        rw [List.getElem?_take] at hx
        split at hx
        · exact hx
        · cases hx
      have hy2 : (Al c)[i + 1]? = some y := by
        rw [List.getElem?_drop, Nat.add_comm] at hy; exact hy
      have hn := al_nxt hx2
      rw [hy2] at hn
      have hg := lx_geL (nxt_lx hn)
      ((with_reducible refine gog_tup ?_); walk_at "x3"; walk_at "x2"; walk_at "x8"; walk_at "x17"; walk_at "x17"; (with_reducible refine gogs_nil ?_); (with_reducible refine gos_if ?_); (with_reducible refine got_test ?_); (with_reducible refine go_op ?_); walk_at "x0"; walk_at "x0"; walk_at "x2"; (focus skip); rotate_left)
      refine o2_geLL ?_
      rw [hg]
      (walk_at "x3"; walk_at "x2"; walk_at "x4"; (with_reducible refine gos_next ?_); walk_at "x2"; (focus skip); rotate_left)
      exact ⟨_, _, _, rfl⟩
    · rintro _ ⟨a, b, d', rfl⟩
      ((with_reducible refine gos_ret ?_); (with_reducible refine go_bl ?_); walk_at "x2")
theorem cal_law (D : Df K mg "law" s_law) {a_SkewError a_TooMany : Addr} {t_MOST_WEAVINGS : Tok} (XX : XF K mg a_SkewError a_TooMany t_MOST_WEAVINGS) (c__law_counts : Cal P w K mg base "_law_counts" 2 ["_law_script"] (C__law_counts mg)) (c__law_many : Cal P w K mg base "_law_many" 2 ["_law_counts_here"] (C__law_many mg)) (c_weavings : CalX P w K mg base "weavings" 2 ["counts"] (C_weavings mg)) (c__law_all : Cal P w K mg base "_law_all" 2 ["_law_found", "_law_counts_here"] (C__law_all mg)) (b_ValueError : mg "ValueError" = none) (b_isinstance : mg "isinstance" = none) (b_len : mg "len" = none) (b_list : mg "list" = none) : Cal P w K mg base "law" 3 ["_law_script"] C_law := by
  obtain ⟨f, fd, F, mf⟩ := D
  obtain ⟨f__law_counts, fd__law_counts, G__law_counts, g__law_counts, k__law_counts, bn__law_counts, _⟩ := c__law_counts
  obtain ⟨f__law_many, fd__law_many, G__law_many, g__law_many, k__law_many, bn__law_many, _⟩ := c__law_many
  obtain ⟨f_weavings, fd_weavings, G_weavings, g_weavings, k_weavings, bn_weavings, _⟩ := c_weavings
  obtain ⟨f__law_all, fd__law_all, G__law_all, g__law_all, k__law_all, bn__law_all, _⟩ := c__law_all
  refine ⟨f, fd, ?_, mf, F.kp, F.binds (ps := ["_law_script"]) fun _ _ _ _ _ _ us hl => match us, hl with | [_], _ => rfl, Fun.lk F⟩
  refine F.ok sc_law (fun vs H Q E hS0 => spP_len (n := 1) (fun xs p q c0 => by obtain ⟨ns, rfl, _⟩ := c0; rfl) hS0) (fun cdv A outer s H vs Q E hr hS0 => ?_)
  have hu := hu_of hr
  refine sp_body hS0 (fun B xs p q c0 hl0 wx => ?_)
  obtain ⟨ns, rfl, hlen, hbits, rfl, rfl⟩ := c0
  refine ⟨_, (pss_cons (ps_asg (pe_call G__law_counts hr rfl g__law_counts k__law_counts bn__law_counts .nil pass0 (pa_cons (pv 0) pa_nil)) (pg_name (i := 1) sc_law.nd rfl (by first | exact Or.inl rfl | exact Or.inr rfl)))
      (pss_cons (ps_asg (pe_call G__law_many hr rfl g__law_many k__law_many bn__law_many .nil pass0 (pa_cons (pv 1) pa_nil)) (pg_name (i := 2) sc_law.nd rfl (by first | exact Or.inl rfl | exact Or.inr rfl)))
      (pss_cons (ps_asg (pe_callTy (k_list (K := K) rfl rfl) (by rfl) b_list (by decide +kernel) (pa_cons (pv 1) pa_nil)) (pg_name (i := 3) sc_law.nd rfl (by first | exact Or.inl rfl | exact Or.inr rfl)))
      (pss_cons (ps_asg pe_non (pg_name (i := 4) sc_law.nd rfl (by first | exact Or.inl rfl | exact Or.inr rfl)))
      (pss_cons (ps_asg pe_non (pg_name (i := 5) sc_law.nd rfl (by first | exact Or.inl rfl | exact Or.inr rfl)))
      (pss_cons (k_tryAs (K := K) (i := 6) sc_law.nd ⟨rfl, by decide, .inl XX.g_TooMany⟩ takes0 (fun W pn xe tk po =>
        (pss_one (ps_asg (pe_callS G_weavings hr rfl g_weavings k_weavings bn_weavings (fun σ => L2.passAt tk σ) (pa_cons (pv 3) pa_nil)) (pg_name (i := 4) sc_law.nd rfl (by first | exact Or.inl rfl | exact Or.inr rfl))))) (fun a oe cls d pn hz hf =>
        (pss_one (ps_asg (pe_lst (pa_cons (pe_callB (k_isX (K := K) rfl hz hf) (by rfl) b_isinstance (by decide +kernel) (pa_cons (pv 6) (pa_cons (pe_glob (v := .ref a_SkewError) (by rfl) XX.g_SkewError rfl) pa_nil))) (pa_cons (pe_callB (k_isX (K := K) rfl hz hf) (by rfl) b_isinstance (by decide +kernel) (pa_cons (pv 6) (pa_cons (pe_bltn (v := .ty "ValueError") (u := .type "ValueError") (by rfl) b_ValueError (by decide +kernel) rfl) pa_nil))) pa_nil))) (pg_name (i := 5) sc_law.nd rfl (by first | exact Or.inl rfl | exact Or.inr rfl))))))
      (pss_cons (ps_if (pt_cmpR (k_ne (K := K) rfl hr.units) (pv 3) (pv 1) (nomark _))
        (pss_one (ps_ret pe_bl))
        pss_nil)
      (pss_cons (ps_if (pt_cmpR op_gtG (pv 2) pe_int (nomark _))
        (pss_one (ps_ret (pe_cmpR (k_eq (K := K) rfl hr.units) (pv 5) (pe_lst (pa_cons pe_bl (pa_cons pe_bl pa_nil))) (nomark _))))
        pss_nil)
      (pss_cons (ps_if (pt_lend (PW.pt (pw_or (pt_not (pt_val (pe_callB (k_isi (K := K) rfl) (by rfl) b_isinstance (by decide +kernel) (pa_cons (pv 4) (pa_cons (pe_bltn (v := .ty "list") (u := .type "list") (by rfl) b_list (by decide +kernel) rfl) pa_nil))))) (pw_or (pt_cmpR (k_ne (K := K) rfl hr.units) (pe_lend (pe_callB (k_len (K := K) rfl) (by rfl) b_len (by decide +kernel) (pa_cons (pv 4) pa_nil))) (pv 2) (nomark _)) (pw_or1 (pt_not (pt_val (pe_call G__law_all hr rfl g__law_all k__law_all bn__law_all .nil pass0 (pa_cons (pv 4) (pa_cons (pv 1) pa_nil))))))))))
        (pss_one (ps_ret pe_bl))
        pss_nil)
      (pss_cons (ps_expr (k_bm (K := K) rfl (pe_bm PySem.F.plainAttrs_list PySem.F.slot_list_append PySem.F.type_list_append mt_append (pe_ix (k_ix (K := K) rfl hu) (pv 4) pe_int (fun _ _ => rfl)) (pa_cons pe_int pa_nil))))
      (pss_cons (ps_expr (k_bm0 (K := K) rfl (pe_bm0 PySem.F.plainAttrs_list PySem.F.slot_list_clear PySem.F.type_list_clear mt_clear (pe_ix (k_ix (K := K) rfl hu) (pv 4) (pe_un un_neg pe_int) (fun _ _ => rfl)))))
      (pss_cons (ps_expr (k_bm0 (K := K) rfl (pe_bm0 PySem.F.plainAttrs_list PySem.F.slot_list_clear PySem.F.type_list_clear mt_clear (pv 4))))
      (pss_cons (ps_asg (pe_callS G_weavings hr rfl g_weavings k_weavings bn_weavings (fun σ => L2.passAt takes0 σ) (pa_cons (pv 3) pa_nil)) (pg_name (i := 7) sc_law.nd rfl (by first | exact Or.inl rfl | exact Or.inr rfl)))
      (pss_one (ps_ret (pe_and (pe_cmpR (k_eq (K := K) rfl hr.units) (pe_callB (k_len (K := K) rfl) (by rfl) b_len (by decide +kernel) (pa_cons (pv 7) pa_nil)) (pv 2) (nomark _)) (pe_one (pe_call G__law_all hr rfl g__law_all k__law_all bn__law_all .nil pass0 (pa_cons (pv 7) (pa_cons (pv 1) pa_nil)))))))))))))))))))), ?_⟩
  clear hS0 hl0 hr hu wx G__law_counts g__law_counts k__law_counts bn__law_counts G__law_many g__law_many k__law_many bn__law_many G_weavings g_weavings k_weavings bn_weavings G__law_all g__law_all k__law_all bn__law_all b_ValueError b_isinstance b_len b_list
  have X_g_SkewError := XX.g_SkewError
  have X_g_TooMany := XX.g_TooMany
  have X_x_TooMany := XX.x_TooMany
  have X_e_TooMany := XX.e_TooMany
  have X_em_TooMany_TooMany := XX.em_TooMany_TooMany
  have X_ki_TooMany_SkewError := XX.ki_TooMany_SkewError
  have X_kt_TooMany_ValueError := XX.kt_TooMany_ValueError
  have X_g_MOST_WEAVINGS := XX.g_MOST_WEAVINGS
  simp only [List.map_cons, List.map_nil, List.length_cons, List.length_nil, List.cons_append, List.nil_append, Nat.reduceAdd, Nat.reduceSub, List.replicate_succ, List.replicate_zero, N_law]
  have hal : ∀ c, (Al c).length = (hm c).1 := arr_hm
  ((with_reducible refine gos_sA ?_); (with_reducible refine gos_asg ?_); walk_at "x2"; (with_reducible refine call__law_counts ?_); (with_reducible refine goa_cons ?_); walk_at "x0"; (with_reducible refine goa_nil ?_); walk_at "x3"; walk_at "x2"; (focus skip); rotate_left)
  rintro _ ⟨c, hsm, rfl⟩
  (walk_at "x9"; (with_reducible refine gos_sA ?_); (with_reducible refine gos_asg ?_); walk_at "x2"; (with_reducible refine call__law_many ?_); (with_reducible refine goa_cons ?_); walk_at "x10"; (with_reducible refine goa_nil ?_); walk_at "x3"; walk_at "x8"; walk_at "x9"; (with_reducible refine gos_sA ?_); (with_reducible refine gos_asg ?_); (with_reducible refine go_cb ?_); (with_reducible refine goa_cons ?_); walk_at "x0"; (with_reducible refine goa_nil ?_); walk_at "x2"; (focus skip); rotate_left)
  refine oa_list rfl ?_
  (walk_at "x9"; (with_reducible refine gos_sA ?_); (with_reducible refine gos_asg ?_); (with_reducible refine go_non ?_); walk_at "x9"; (with_reducible refine gos_sA ?_); (with_reducible refine gos_asg ?_); (with_reducible refine go_non ?_); walk_at "x9"; (with_reducible refine gos_sTA ?_); walk_at "x2"; (focus skip); rotate_left)
  refine gos_tryAs (fun Cc fs Γ => fs = none ∧ mg "TooMany" = some (.ref Cc) ∧ 2000 < (hm c).1 ∧ Γ = [some (O.d (D.sq (List.map D.int ns))), some (O.d (.lst (c.map ni))), some (O.d (ni (hm c).1)), some (O.d (.lst (c.map ni))), some (O.d .non), some (O.d .non), none, none]) ?_ ?_
  · intro F' B' W wx
    ((with_reducible refine gos_asg ?_); walk_at "x2"; walk_at "x26"; (with_reducible refine goa_cons ?_); walk_at "x10"; (with_reducible refine goa_nil ?_); walk_at "x3"; walk_at "x2"; walk_at "x8"; (focus skip); rotate_left)
    refine ⟨?_, ?_⟩
    · rintro _ ⟨hle, rfl⟩
      have hlm : ((List.map (fun l => D.lst (List.map D.int l)) (Al c)).length : Int) = ((hm c).1 : Int) := by rw [List.length_map, hal]
      (walk_at "x9"; (with_reducible refine gos_sIR ?_); (with_reducible refine gos_if ?_); (with_reducible refine got_test ?_); (with_reducible refine go_op ?_); walk_at "x0"; walk_at "x0"; walk_at "x2"; (focus skip); rotate_left)
      refine o2_neSame 1 (Shp.lstM fun _ => Shp.int) (by decide) ?_
      (walk_at "x3"; walk_at "x2"; walk_at "x4"; (with_reducible refine gos_next ?_); (with_reducible refine gos_sIR ?_); (with_reducible refine gos_if ?_); (with_reducible refine got_test ?_); (with_reducible refine go_op ?_); walk_at "x0"; (with_reducible refine go_int ?_); walk_at "x2"; (with_reducible refine o2_gt ?_); walk_at "x3"; walk_at "x4"; (with_reducible refine gos_ret ?_); (with_reducible refine go_op ?_); walk_at "x0"; (with_reducible refine go_lst ?_); (with_reducible refine goa_cons ?_); (with_reducible refine go_bl ?_); (with_reducible refine goa_cons ?_); (with_reducible refine go_bl ?_); (with_reducible refine goa_nil ?_); walk_at "x2"; walk_at "x11"; walk_at "x8"; (focus skip); rotate_left; (with_reducible refine gos_next ?_); (with_reducible refine gos_sIR ?_); (with_reducible refine gos_if ?_); walk_at "x27"; (with_reducible refine got_or ?_); (with_reducible refine got_not ?_); (with_reducible refine got_B ?_); (with_reducible refine go_cb ?_); (with_reducible refine goa_cons ?_); walk_at "x0"; (with_reducible refine goa_cons ?_); (with_reducible refine go_ty ?_); (with_reducible refine goa_nil ?_); walk_at "x2"; walk_at "x21"; walk_at "x3"; walk_at "x4"; (with_reducible refine got_or ?_); (with_reducible refine got_test ?_); (with_reducible refine go_op ?_); walk_at "x28"; (with_reducible refine go_cb ?_); (with_reducible refine goa_cons ?_); walk_at "x0"; (with_reducible refine goa_nil ?_); walk_at "x1"; walk_at "x2"; walk_at "x8"; walk_at "x0"; walk_at "x2"; (with_reducible refine o2_neI ?_); walk_at "x3"; walk_at "x4"; (with_reducible refine got_not ?_); (with_reducible refine got_B ?_); (with_reducible refine call__law_all ?_); (with_reducible refine goa_cons ?_); walk_at "x0"; (with_reducible refine goa_cons ?_); walk_at "x0"; (with_reducible refine goa_nil ?_); walk_at "x3"; walk_at "x8"; (focus skip); rotate_left)
      all_goals first
        | (exfalso; omega)
        | exact absurd hlm (by assumption)
        | skip
      refine ⟨by rw [hal]; omega, true, rfl, ?_⟩
      refine and_im (fun h => by cases h) (fun _ => ?_)
      refine gos_next ?_
      refine gos_seq ?_
      have hz := al_zero c
      have hle2 : (Al c).length ≤ 2000 := by rw [hal]; exact hle
      obtain ⟨f0, rest, hA⟩ : ∃ f0 rest, Al c = f0 :: rest := by
        cases q : Al c with
        | nil => rw [q] at hz; cases hz
        | cons x r => exact ⟨x, r, rfl⟩
      have hf0 : f0.length ≤ 328 := by
        have := (one_of (c := c) (l := f0) (by rw [hA]; exact List.mem_cons_self)).ln
        have := hsm.sum
        omega
      have hfr : ∀ (H B : Hp) (Dd : EG), Dd.nx [some (O.d (D.sq (List.map D.int ns))), some (O.d (.lst (c.map ni))), some (O.d (ni (hm c).1)), some (O.d (.lst (c.map ni))), some (alO ((f0 ++ [1]) :: rest)), some (O.d .non), none, none] → GoS K H B (tDrop (tBM K "list" rAppend (tOp (rIxG K) (tVar 4) (tC (V.int 0))) (tCons (tC (V.int 1)) tNil))) [] [some (O.d (D.sq (List.map D.int ns))), some (O.d (.lst (c.map ni))), some (O.d (ni (hm c).1)), some (O.d (.lst (c.map ni))), some (alO (Al c)), some (O.d .non), none, none] Dd := fun H B Dd hDd => by
        rw [hA]
        refine gos_lab (i := 4) (p := [.idx 0]) rfl rfl refO_ol fun za => ?_
        refine gos_wknx ?_
        refine gos_appA (Γv := _) (Γw := _) (a := za) (i := 4) (p := [.idx 0]) (xs := (f0.map D.int).map O.d) (views_at (i := 4) rfl (wkn_setP (p := [.idx 0]) (wkn_ref (a := za) rfl) rfl) views_fz) views_fz ?_ rfl rfl (by simp; omega) ?_
        · intro F' B'
          show Go K F' B' (tOp (rIxG K) (tVar 4) (tC (V.int 0))) [] [some (O.d (D.sq (List.map D.int ns))), some (O.d (D.lst (List.map ni c))), some (O.d (ni (hm c).fst)), some (O.d (D.lst (List.map ni c))), some (O.d (.lst (.ref za :: fzL (rest.map fun l => O.ol ((l.map D.int).map O.d))))), some (O.d D.non), none, none] _
          ((with_reducible refine go_op ?_); walk_at "x0"; (with_reducible refine go_int ?_); walk_at "x2"; walk_at "x29"; walk_at "x2")
        · intro F' B'
          ((with_reducible refine go_int ?_); walk_at "x2"; walk_at "x8"; (focus skip); rotate_left)
          refine ⟨4, _, alO ((f0 ++ [1]) :: rest), rfl, ?_, hDd⟩
          refine (wkn_setP (p := [.idx 0]) (wkn_un (a := za)) rfl).trans ?_
          show Wkn (.ol (O.ol (List.map O.d (List.map D.int f0) ++ [O.d (D.int 1)]) :: rest.map fun l => O.ol ((l.map D.int).map O.d))) _
          have e : (List.map O.d (List.map D.int f0) ++ [O.d (D.int 1)]) = List.map O.d (List.map D.int (f0 ++ [1])) := by rw [List.map_append, List.map_append]; rfl
          rw [e]
          exact Wkn.refl _
      refine hfr _ _ _ ?_
      refine gos_seq ?_
      obtain ⟨pre, l, hA2⟩ : ∃ pre l, (f0 ++ [1]) :: rest = pre ++ [l] := by
        rcases List.eq_nil_or_concat ((f0 ++ [1]) :: rest) with q | ⟨u, b, q⟩
        · cases q
        · exact ⟨u, b, by rw [q, List.concat_eq_append]⟩
      rw [hA2]
      have ep : alO (pre ++ [l]) = .ol ((pre.map fun l => O.ol ((l.map D.int).map O.d)) ++ [O.ol ((l.map D.int).map O.d)]) := by
        show O.ol (List.map _ (pre ++ [l])) = _
        rw [List.map_append]; rfl
      rw [ep]
      generalize (pre.map fun l => O.ol ((l.map D.int).map O.d)) = ps
      refine gos_lab (i := 4) (p := [.idx ps.length]) rfl (ol_end rfl) refO_ol fun za => ?_
      rw [show (O.ol (ps ++ [O.ol ((l.map D.int).map O.d)])).setP (O.atA za (O.ol ((l.map D.int).map O.d))) [.idx ps.length] = .ol (ps ++ [O.atA za (O.ol ((l.map D.int).map O.d))]) from ol_set rfl]
      refine gos_clrA (a := za) (i := 4) (p := [.idx ps.length]) (xs := (l.map D.int).map O.d) (views_at (i := 4) rfl (wkn_end rfl (wkn_ref (a := za) rfl)) views_fz) ?_ rfl (ol_end rfl) ?_
      · intro F' B'
        show Go K F' B' (tOp (rIxG K) (tVar 4) (tUn (rU fun i => V.int (-i)) (tC (V.int 1)))) [] [some (O.d (D.sq (List.map D.int ns))), some (O.d (D.lst (List.map ni c))), some (O.d (ni (hm c).fst)), some (O.d (D.lst (List.map ni c))), some (O.d (.lst (fzL (ps ++ [O.d (.ref za)])))), some (O.d D.non), none, none] _
        rw [fzL_app]
        ((with_reducible refine go_op ?_); walk_at "x0"; (with_reducible refine go_un ?_); (with_reducible refine go_int ?_); walk_at "x2"; (with_reducible refine o1_neg ?_); walk_at "x2"; walk_at "x11"; (focus skip); rotate_left)
        exact o2_ix rfl atI_end rfl
      rw [show (O.ol (ps ++ [O.atA za (O.ol ((l.map D.int).map O.d))])).setP (O.atA za (O.ol [])) [.idx ps.length] = .ol (ps ++ [O.atA za (O.ol [])]) from ol_set rfl]
      ((with_reducible refine gos_sD ?_); walk_at "x30"; (with_reducible refine gos_sA ?_); (with_reducible refine gos_asg ?_); walk_at "x2"; walk_at "x31"; (with_reducible refine goa_cons ?_); walk_at "x0"; (with_reducible refine goa_nil ?_); walk_at "x3"; walk_at "x2"; walk_at "x8"; (focus skip); rotate_left)
      refine ⟨?_, ?_⟩
      · rintro _ ⟨_, rfl⟩
        (walk_at "x9"; (with_reducible refine gos_ret ?_); (with_reducible refine go_andV ?_); (with_reducible refine go_op ?_); (with_reducible refine go_cb ?_); (with_reducible refine goa_cons ?_); walk_at "x10"; (with_reducible refine goa_nil ?_); walk_at "x1"; walk_at "x0"; walk_at "x2"; (with_reducible refine o2_eqI ?_); walk_at "x3"; walk_at "x4"; (with_reducible refine call__law_all ?_); (with_reducible refine goa_cons ?_); walk_at "x0"; (with_reducible refine goa_cons ?_); walk_at "x0"; (with_reducible refine goa_nil ?_); walk_at "x3"; walk_at "x2"; walk_at "x8"; walk_at "x8")
      · rintro Cc fs ⟨h1, h2, h3⟩
        omega
    · rintro Cc fs ⟨h1, h2, h3⟩
      exact ⟨h1, h2, h3, trivial⟩
  · rintro F' B' Cc fs Γ' ⟨h1, h2, h3, rfl⟩
    have e : Cc = a_TooMany := by
      have := h2.symm.trans X_g_TooMany
      cases this; rfl
    subst e
    refine ⟨X_em_TooMany_TooMany, Nat.le_of_ble_eq_true rfl, fun a d hd => ?_⟩
    subst h1
    cases d with
    | some dd => exact absurd hd (by simp [ExB])
    | none =>
    dsimp only [List.set]
    ((with_reducible refine gos_asg ?_); (with_reducible refine go_lst ?_); (with_reducible refine goa_cons ?_); (with_reducible refine go_cb ?_); (with_reducible refine goa_cons ?_); walk_at "x0"; (with_reducible refine goa_cons ?_); (with_reducible refine go_ref ?_); (with_reducible refine goa_nil ?_); walk_at "x2"; walk_at "x32"; (with_reducible refine goa_cons ?_); (with_reducible refine go_cb ?_); (with_reducible refine goa_cons ?_); walk_at "x0"; (with_reducible refine goa_cons ?_); (with_reducible refine go_ty ?_); (with_reducible refine goa_nil ?_); walk_at "x2"; walk_at "x33"; (with_reducible refine goa_nil ?_); walk_at "x2"; walk_at "x8"; walk_at "x9"; (with_reducible refine gos_sIR ?_); (with_reducible refine gos_if ?_); (with_reducible refine got_test ?_); (with_reducible refine go_op ?_); walk_at "x0"; walk_at "x0"; walk_at "x2"; (focus skip); rotate_left)
    refine o2_neSame 1 (Shp.lstM fun _ => Shp.int) (by decide) ?_
    (walk_at "x3"; walk_at "x2"; walk_at "x4"; (with_reducible refine gos_next ?_); (with_reducible refine gos_sIR ?_); (with_reducible refine gos_if ?_); (with_reducible refine got_test ?_); (with_reducible refine go_op ?_); walk_at "x0"; (with_reducible refine go_int ?_); walk_at "x2"; (with_reducible refine o2_gt ?_); walk_at "x3"; walk_at "x4"; (with_reducible refine gos_ret ?_); (with_reducible refine go_op ?_); walk_at "x10"; (with_reducible refine go_lst ?_); (with_reducible refine goa_cons ?_); (with_reducible refine go_bl ?_); (with_reducible refine goa_cons ?_); (with_reducible refine go_bl ?_); (with_reducible refine goa_nil ?_); walk_at "x2"; walk_at "x11"; walk_at "x8"; (focus skip); rotate_left; (with_reducible refine gos_next ?_); (with_reducible refine gos_sIR ?_); (with_reducible refine gos_if ?_); walk_at "x27"; (with_reducible refine got_or ?_); (with_reducible refine got_not ?_); (with_reducible refine got_B ?_); (with_reducible refine go_cb ?_); (with_reducible refine goa_cons ?_); walk_at "x0"; (with_reducible refine goa_cons ?_); (with_reducible refine go_ty ?_); (with_reducible refine goa_nil ?_); walk_at "x2"; walk_at "x22"; walk_at "x3"; walk_at "x4"; walk_at "x4"; (with_reducible refine gos_ret ?_); (with_reducible refine go_bl ?_); walk_at "x2"; (focus skip); rotate_left)
    · exact o2_eqSame 2 (Shp.lst fun x hx => by
        simp only [List.mem_cons, List.not_mem_nil, or_false] at hx
        rcases hx with rfl | rfl <;> exact Shp.bl) (by decide) rfl
    all_goals (exfalso; omega)
end
theorem all_mk {P : Program} {w : World} {K : PySem.W.Frag} {h : Heap} {mg : Str → Option Value} {fa : Addr} (X : K.In h) (G : h.Ns mainGlobals mg) (hfa : mg "law" = some (.ref fa))
    {f0 : Addr} {oc0 kV0 dc0 pm0 cd0 ct0 : Value} {od0 an0 : Option Addr} {sl0 : Array (Option Value)}
    {f1 : Addr} {oc1 kV1 dc1 pm1 cd1 ct1 : Value} {od1 an1 : Option Addr} {sl1 : Array (Option Value)}
    {f2 : Addr} {oc2 kV2 dc2 pm2 cd2 ct2 : Value} {od2 an2 : Option Addr} {sl2 : Array (Option Value)}
    {f3 : Addr} {oc3 kV3 dc3 pm3 cd3 ct3 : Value} {od3 an3 : Option Addr} {sl3 : Array (Option Value)}
    {f4 : Addr} {oc4 kV4 dc4 pm4 cd4 ct4 : Value} {od4 an4 : Option Addr} {sl4 : Array (Option Value)}
    {f5 : Addr} {oc5 kV5 dc5 pm5 cd5 ct5 : Value} {od5 an5 : Option Addr} {sl5 : Array (Option Value)}
    {f6 : Addr} {oc6 kV6 dc6 pm6 cd6 ct6 : Value} {od6 an6 : Option Addr} {sl6 : Array (Option Value)}
    {f7 : Addr} {oc7 kV7 dc7 pm7 cd7 ct7 : Value} {od7 an7 : Option Addr} {sl7 : Array (Option Value)}
    {f8 : Addr} {oc8 kV8 dc8 pm8 cd8 ct8 : Value} {od8 an8 : Option Addr} {sl8 : Array (Option Value)}
    {f9 : Addr} {oc9 kV9 dc9 pm9 cd9 ct9 : Value} {od9 an9 : Option Addr} {sl9 : Array (Option Value)}
    {a_SkewError a_TooMany : Addr}
    {t_MOST_WEAVINGS : Tok}
    (a0 : PySem.W.nsIn K mainGlobals "_law_cell" = some (some (.ref f0))) (l0 : K.lookup f0 = some ⟨oc0, od0, .func (PySem.W.fnOf "_law_cell" "_law_cell" (defArgs s__law_cell) (defBody s__law_cell) (defScope s__law_cell) .none kV0 dc0 pm0 an0 cd0 ct0), sl0⟩) (c0 : PySem.W.codeIn K cd0 "_law_cell" = true) (k0 : PySem.W.keepIn K (.ref f0) = true)
    (a1 : PySem.W.nsIn K mainGlobals "_law_counts" = some (some (.ref f1))) (l1 : K.lookup f1 = some ⟨oc1, od1, .func (PySem.W.fnOf "_law_counts" "_law_counts" (defArgs s__law_counts) (defBody s__law_counts) (defScope s__law_counts) .none kV1 dc1 pm1 an1 cd1 ct1), sl1⟩) (c1 : PySem.W.codeIn K cd1 "_law_counts" = true) (k1 : PySem.W.keepIn K (.ref f1) = true)
    (a2 : PySem.W.nsIn K mainGlobals "_law_factorial" = some (some (.ref f2))) (l2 : K.lookup f2 = some ⟨oc2, od2, .func (PySem.W.fnOf "_law_factorial" "_law_factorial" (defArgs s__law_factorial) (defBody s__law_factorial) (defScope s__law_factorial) .none kV2 dc2 pm2 an2 cd2 ct2), sl2⟩) (c2 : PySem.W.codeIn K cd2 "_law_factorial" = true) (k2 : PySem.W.keepIn K (.ref f2) = true)
    (a3 : PySem.W.nsIn K mainGlobals "_law_many" = some (some (.ref f3))) (l3 : K.lookup f3 = some ⟨oc3, od3, .func (PySem.W.fnOf "_law_many" "_law_many" (defArgs s__law_many) (defBody s__law_many) (defScope s__law_many) .none kV3 dc3 pm3 an3 cd3 ct3), sl3⟩) (c3 : PySem.W.codeIn K cd3 "_law_many" = true) (k3 : PySem.W.keepIn K (.ref f3) = true)
    (a4 : PySem.W.nsIn K mainGlobals "how_many" = some (some (.ref f4))) (l4 : K.lookup f4 = some ⟨oc4, od4, .func (PySem.W.fnOf "how_many" "how_many" (defArgs s_how_many) (defBody s_how_many) (defScope s_how_many) .none kV4 dc4 pm4 an4 cd4 ct4), sl4⟩) (c4 : PySem.W.codeIn K cd4 "how_many" = true) (k4 : PySem.W.keepIn K (.ref f4) = true)
    (a5 : PySem.W.nsIn K mainGlobals "next_weaving" = some (some (.ref f5))) (l5 : K.lookup f5 = some ⟨oc5, od5, .func (PySem.W.fnOf "next_weaving" "next_weaving" (defArgs s_next_weaving) (defBody s_next_weaving) (defScope s_next_weaving) .none kV5 dc5 pm5 an5 cd5 ct5), sl5⟩) (c5 : PySem.W.codeIn K cd5 "next_weaving" = true) (k5 : PySem.W.keepIn K (.ref f5) = true)
    (a6 : PySem.W.nsIn K mainGlobals "weavings" = some (some (.ref f6))) (l6 : K.lookup f6 = some ⟨oc6, od6, .func (PySem.W.fnOf "weavings" "weavings" (defArgs s_weavings) (defBody s_weavings) (defScope s_weavings) .none kV6 dc6 pm6 an6 cd6 ct6), sl6⟩) (c6 : PySem.W.codeIn K cd6 "weavings" = true) (k6 : PySem.W.keepIn K (.ref f6) = true)
    (a7 : PySem.W.nsIn K mainGlobals "_law_is_one" = some (some (.ref f7))) (l7 : K.lookup f7 = some ⟨oc7, od7, .func (PySem.W.fnOf "_law_is_one" "_law_is_one" (defArgs s__law_is_one) (defBody s__law_is_one) (defScope s__law_is_one) .none kV7 dc7 pm7 an7 cd7 ct7), sl7⟩) (c7 : PySem.W.codeIn K cd7 "_law_is_one" = true) (k7 : PySem.W.keepIn K (.ref f7) = true)
    (a8 : PySem.W.nsIn K mainGlobals "_law_all" = some (some (.ref f8))) (l8 : K.lookup f8 = some ⟨oc8, od8, .func (PySem.W.fnOf "_law_all" "_law_all" (defArgs s__law_all) (defBody s__law_all) (defScope s__law_all) .none kV8 dc8 pm8 an8 cd8 ct8), sl8⟩) (c8 : PySem.W.codeIn K cd8 "_law_all" = true) (k8 : PySem.W.keepIn K (.ref f8) = true)
    (a9 : PySem.W.nsIn K mainGlobals "law" = some (some (.ref f9))) (l9 : K.lookup f9 = some ⟨oc9, od9, .func (PySem.W.fnOf "law" "law" (defArgs s_law) (defBody s_law) (defScope s_law) .none kV9 dc9 pm9 an9 cd9 ct9), sl9⟩) (c9 : PySem.W.codeIn K cd9 "law" = true) (k9 : PySem.W.keepIn K (.ref f9) = true)
    (z0 : PySem.W.nsIn K mainGlobals "len" = some none)
    (z1 : PySem.W.nsIn K mainGlobals "list" = some none)
    (z2 : PySem.W.nsIn K mainGlobals "range" = some none)
    (z3 : PySem.W.nsIn K mainGlobals "sum" = some none)
    (z4 : PySem.W.nsIn K mainGlobals "reversed" = some none)
    (z5 : PySem.W.nsIn K mainGlobals "enumerate" = some none)
    (z6 : PySem.W.nsIn K mainGlobals "bool" = some none)
    (z7 : PySem.W.nsIn K mainGlobals "int" = some none)
    (z8 : PySem.W.nsIn K mainGlobals "isinstance" = some none)
    (z9 : PySem.W.nsIn K mainGlobals "zip" = some none)
    (z10 : PySem.W.nsIn K mainGlobals "ValueError" = some none)
    (n_SkewError : PySem.W.nsIn K mainGlobals "SkewError" = some (some (.ref a_SkewError)))
    (n_TooMany : PySem.W.nsIn K mainGlobals "TooMany" = some (some (.ref a_TooMany)))
    (q_TooMany : PySem.W.excIn K a_TooMany [.type "ValueError", .type "Exception", .type "BaseException", .type "object"] "ValueError.__new__" = true)
    (k_TooMany : PySem.W.keepIn K (.ref a_TooMany) = true)
    (b_TooMany : PySem.W.subIn K (.ref a_TooMany) (.type "BaseException") = some true)
    (t_TooMany : PySem.W.typeIn K (.ref a_TooMany) = some (.type "type"))
    (hg_TooMany : PySem.W.findIn K (.ref a_TooMany) "__getattribute__" = some (some (.builtin "BaseException.__getattribute__")))
    (hk_TooMany : PySem.W.findIn K (.ref a_TooMany) "__getattr__" = some none)
    (hd_TooMany : PySem.W.hasDictIn K a_TooMany = true)
    (ha_TooMany : PySem.W.findIn K (.ref a_TooMany) "__class__" = some (some (.builtin "object.__class__")))
    (hm_TooMany : PySem.W.mroIn K a_TooMany (.type "object") = some true)
    (hn__ : PySem.W.specialIn K (.builtin "object.__class__") "__get__" = some (some (.builtin "getset_descriptor.__get__")))
    (ht__ : PySem.W.takesIn K (.builtin "object.__class__") = some true)
    (ki_TooMany_SkewError : PySem.W.kitOne K (.ref a_TooMany) (.ref a_SkewError) = some true)
    (kt_TooMany_ValueError : PySem.W.kitOne K (.ref a_TooMany) (.type "ValueError") = some true)
    (sb_TooMany_TooMany : PySem.W.subIn K (.ref a_TooMany) (.ref a_TooMany) = some true)
    (n_MOST_WEAVINGS : PySem.W.nsIn K mainGlobals "MOST_WEAVINGS" = some (some (.int 2000 t_MOST_WEAVINGS))) :
    ∃ fd : FuncData, (∀ (s : Shared) (v : Value), BindsTo s fd ⟨[v], []⟩ [("_law_script", v)]) ∧ ∀ base : Heap, K.In base → base.Ns mainGlobals mg → FnOk P w K mg base CX0 3 fa fd ["_law_script"] (spP K lawC) := by
  have D0 : Df K mg "_law_cell" s__law_cell := df_mk X G (st := s__law_cell) a0 l0 c0 k0
  have D1 : Df K mg "_law_counts" s__law_counts := df_mk X G (st := s__law_counts) a1 l1 c1 k1
  have D2 : Df K mg "_law_factorial" s__law_factorial := df_mk X G (st := s__law_factorial) a2 l2 c2 k2
  have D3 : Df K mg "_law_many" s__law_many := df_mk X G (st := s__law_many) a3 l3 c3 k3
  have D4 : Df K mg "how_many" s_how_many := df_mk X G (st := s_how_many) a4 l4 c4 k4
  have D5 : Df K mg "next_weaving" s_next_weaving := df_mk X G (st := s_next_weaving) a5 l5 c5 k5
  have D6 : Df K mg "weavings" s_weavings := df_mk X G (st := s_weavings) a6 l6 c6 k6
  have D7 : Df K mg "_law_is_one" s__law_is_one := df_mk X G (st := s__law_is_one) a7 l7 c7 k7
  have D8 : Df K mg "_law_all" s__law_all := df_mk X G (st := s__law_all) a8 l8 c8 k8
  have D9 : Df K mg "law" s_law := df_mk X G (st := s_law) a9 l9 c9 k9
  have XX : XF K mg a_SkewError a_TooMany t_MOST_WEAVINGS := ⟨(PySem.W.mg_of X G n_SkewError), (PySem.W.mg_of X G n_TooMany), ⟨PySem.W.mg_of X G n_TooMany, q_TooMany, k_TooMany, b_TooMany, t_TooMany⟩, ⟨hg_TooMany, hk_TooMany, b_TooMany, hd_TooMany, ha_TooMany, hn__, ht__, hm_TooMany⟩, (PySem.W.exm_ref b_TooMany hd_TooMany t_TooMany sb_TooMany_TooMany), ki_TooMany_SkewError, kt_TooMany_ValueError, (PySem.W.mg_of X G n_MOST_WEAVINGS)⟩
  have y0 := PySem.W.mg_none_of X G z0
  have y1 := PySem.W.mg_none_of X G z1
  have y2 := PySem.W.mg_none_of X G z2
  have y3 := PySem.W.mg_none_of X G z3
  have y4 := PySem.W.mg_none_of X G z4
  have y5 := PySem.W.mg_none_of X G z5
  have y6 := PySem.W.mg_none_of X G z6
  have y7 := PySem.W.mg_none_of X G z7
  have y8 := PySem.W.mg_none_of X G z8
  have y9 := PySem.W.mg_none_of X G z9
  have y10 := PySem.W.mg_none_of X G z10
  have e := hfa.symm.trans (PySem.W.mg_of X G a9)
  cases e
  refine ⟨PySem.W.fnOf "law" "law" (defArgs s_law) (defBody s_law) (defScope s_law) .none kV9 dc9 pm9 an9 cd9 ct9, fun s v => .of_eq rfl, fun base _ _ => ?_⟩
  have Q0 : Cal P w K mg base "_law_cell" 1 ["_law_script", "_law_k"] (C__law_cell mg) := cal__law_cell D0 XX  y0
  have Q1 : Cal P w K mg base "_law_counts" 2 ["_law_script"] (C__law_counts mg) := cal__law_counts D1 XX Q0 y1
  have Q2 : Cal P w K mg base "_law_factorial" 1 ["_law_number"] (C__law_factorial mg) := cal__law_factorial D2 XX  y2
  have Q3 : Cal P w K mg base "_law_many" 2 ["_law_counts_here"] (C__law_many mg) := cal__law_many D3 XX Q2 y3
  have Q4 : Cal P w K mg base "how_many" 1 ["counts"] (C_how_many mg) := cal_how_many D4 XX  y2
  have Q5 : Cal P w K mg base "next_weaving" 1 ["turns"] (C_next_weaving mg) := cal_next_weaving D5 XX  y0 y1 y4
  have Q6 : CalX P w K mg base "weavings" 2 ["counts"] (C_weavings mg) := cal_weavings D6 XX Q4 Q5 y5
  have Q7 : Cal P w K mg base "_law_is_one" 1 ["_law_turns", "_law_counts_here"] (C__law_is_one mg) := cal__law_is_one D7 XX  y6 y7 y8 y0 y1 y3
  have Q8 : Cal P w K mg base "_law_all" 2 ["_law_found", "_law_counts_here"] (C__law_all mg) := cal__law_all D8 XX Q7 y9
  have Q9 : Cal P w K mg base "law" 3 ["_law_script"] C_law := cal_law D9 XX Q1 Q3 Q6 Q8 y10 y8 y0 y1
  obtain ⟨f, fd, G1, m1, _, _, _, _, _, lk⟩ := Q9
  have e2 := m1.symm.trans (PySem.W.mg_of X G a9)
  cases e2
  exact fn_same l9 lk G1
end Lw
open PySem PySem.W PyProof.Rows
set_option maxRecDepth 100000 in
set_option maxHeartbeats 0 in
theorem PySem.Challenge.cw_skewhouse_k72_all_weavings_holds : PySem.Challenge.rw_skewhouse_k72_all_weavings.Holds := by
  w_on; o_law; k_head; (case hw => w_witness2)
  k_fill
  refine SK.law_walk (l := PySem.Challenge.rw_skewhouse_k72_all_weavings) (lv := 3) rfl rfl ⟨rfl, by decide, by decide⟩ (fun w h Y => PySem.W.kIn_of Y) ?F
  case F =>
    intro w mg fa h KX G hmg
    refine' Lw.all_mk KX G hmg ?a0 ?l0 ?c0 ?k0 ?a1 ?l1 ?c1 ?k1 ?a2 ?l2 ?c2 ?k2 ?a3 ?l3 ?c3 ?k3 ?a4 ?l4 ?c4 ?k4 ?a5 ?l5 ?c5 ?k5 ?a6 ?l6 ?c6 ?k6 ?a7 ?l7 ?c7 ?k7 ?a8 ?l8 ?c8 ?k8 ?a9 ?l9 ?c9 ?k9 ?z0 ?z1 ?z2 ?z3 ?z4 ?z5 ?z6 ?z7 ?z8 ?z9 ?z10 ?n_SkewError ?n_TooMany ?q_TooMany ?k_TooMany ?b_TooMany ?t_TooMany ?hg_TooMany ?hk_TooMany ?hd_TooMany ?ha_TooMany ?hm_TooMany ?hn__ ?ht__ ?ki_TooMany_SkewError ?kt_TooMany_ValueError ?sb_TooMany_TooMany ?n_MOST_WEAVINGS
    (case a0 => k_is)
    (case l0 => k_is)
    (case c0 => k_is)
    (case k0 => k_is)
    (case a1 => k_is)
    (case l1 => k_is)
    (case c1 => k_is)
    (case k1 => k_is)
    (case a2 => k_is)
    (case l2 => k_is)
    (case c2 => k_is)
    (case k2 => k_is)
    (case a3 => k_is)
    (case l3 => k_is)
    (case c3 => k_is)
    (case k3 => k_is)
    (case a4 => k_is)
    (case l4 => k_is)
    (case c4 => k_is)
    (case k4 => k_is)
    (case a5 => k_is)
    (case l5 => k_is)
    (case c5 => k_is)
    (case k5 => k_is)
    (case a6 => k_is)
    (case l6 => k_is)
    (case c6 => k_is)
    (case k6 => k_is)
    (case a7 => k_is)
    (case l7 => k_is)
    (case c7 => k_is)
    (case k7 => k_is)
    (case a8 => k_is)
    (case l8 => k_is)
    (case c8 => k_is)
    (case k8 => k_is)
    (case a9 => k_is)
    (case l9 => k_is)
    (case c9 => k_is)
    (case k9 => k_is)
    (case z0 => k_is)
    (case z1 => k_is)
    (case z2 => k_is)
    (case z3 => k_is)
    (case z4 => k_is)
    (case z5 => k_is)
    (case z6 => k_is)
    (case z7 => k_is)
    (case z8 => k_is)
    (case z9 => k_is)
    (case z10 => k_is)
    (case n_SkewError => k_is)
    (case n_TooMany => k_is)
    (case q_TooMany => first | k_is | k_exc)
    (case k_TooMany => k_is)
    (case b_TooMany => k_is)
    (case t_TooMany => k_is)
    (case hg_TooMany => k_is)
    (case hk_TooMany => k_is)
    (case hd_TooMany => k_is)
    (case ha_TooMany => k_is)
    (case hm_TooMany => k_is)
    (case hn__ => k_is)
    (case ht__ => k_is)
    (case ki_TooMany_SkewError => kit_is)
    (case kt_TooMany_ValueError => kit_is)
    (case sb_TooMany_TooMany => k_is)
    (case n_MOST_WEAVINGS => k_is)
