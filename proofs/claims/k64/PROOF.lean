import PyProof.Rows.All
import Wide.All
import OpenK.AllK
import Wide.FinOn
import HandS.ForMost
import HandS.ForExc
import HandS.ExcIs
import HandS.ExcField
import HandS.ExcInit
import HandS.TryMany
import HandS.TryElse
import HandS.SuiteRaise
import HandS.RaiseMore
import HandS.Wide
import HandS.DictComp
import HandS.IsInst
import HandS.EndBits
import KE.KExcIs
import KE.IntTextLaws
import HandS.Replace
import HandS.Zip
import HandS.SortKw
import KE.DataMinMax
import KE.KRevIter
import KE.KDictList
import HandS.Rev
import HandS.Iter
import HandS.SetKeys
import HandS.SortInts
import HandS.TupLe
import HandS.SetFor
import HandS.Strs
import KE.KUnpack
import HandS.TupSets
import KE.SortKeyHeap
import HandS.RevRange
import HandS.CallSlots
import HandS.Defaults
import KE.DataCmp
import KE.KDictDisplayH
import HandS.Deep
import HandS.Conv
import KE.DataFind
import KE.KDictSum
import PyProof.Transfer
import PySem.Challenge.RW_skewhouse_k64_least_rings
set_option Elab.async false
set_option linter.all false
set_option maxRecDepth 100000
set_option maxHeartbeats 4000000
namespace SK
open PySem PySem.Spec PyProof.Rows L2
/-- a tuple whose cell is tracked (a tuple of the module's is not: D.ctu) -/
def SqT (_ : PySem.W.Frag) (B : Hp) (a : Addr) (xs : List V) : Prop := B a = some (.tup xs)
theorem SqT.of {K : PySem.W.Frag} {B : Hp} {a : Addr} {xs : List V} (h : B a = some (.tup xs)) : SqT K B a xs := h
theorem SqT.wk {K : PySem.W.Frag} {B : Hp} {a : Addr} {xs : List V} (h : SqT K B a xs) : L2.SqT K B a xs := .inl (.inl h)
inductive D where
  | non | bl (b : Bool) | int (i : Int) | str (s : Str) | ref (a : Addr) | ty (n : String)
  | tup (xs : List D) | ctu (xs : List D) | lst (xs : List D) | sq (xs : List D) | dic (kvs : List (Key × D)) | dit (kvs : List (List Key × D)) | ins (C : Addr) (fs : List (Str × D))
inductive O where
  | d (x : D) | ol (xs : List O) | od (kvs : List (Key × O)) | ot (kvs : List (List Key × O)) | oi (a C : Addr) (fs : List (Str × O)) | op (xs : List O) | atA (a : Addr) (o : O)
mutual
inductive R (K : PySem.W.Frag) (B : Hp) : V → D → Prop
  | non : R K B .non .non
  | bl {b} : R K B (.bl b) (.bl b)
  | int {i} : R K B (.int i) (.int i)
  | str {s} : R K B (.str s) (.str s)
  | ref {a} : R K B (.ref a) (.ref a)
  | ty {n} : R K B (.ty n) (.ty n)
  | tup {a vs xs} : SqT K B a vs → RL K B vs xs → R K B (.ref a) (.tup xs)
  | ctu {a vs xs} : L2.SqT K B a vs → RL K B vs xs → R K B (.ref a) (.ctu xs)
  | lst {a vs xs} : B a = some (.lst vs) → RL K B vs xs → R K B (.ref a) (.lst xs)
  | sq {a vs xs} : SqL K B a vs → RL K B vs xs → R K B (.ref a) (.sq xs)
  | dic {a ws kvs} : Rd B a (.dK ws) → (kvs.map (·.1)).Nodup → RK K B ws kvs → R K B (.ref a) (.dic kvs)
  | dit {a ws kvs} : Rd B a (.dT ws) → (kvs.map (·.1)).Nodup → RT K B ws kvs → R K B (.ref a) (.dit kvs)
  | ins {a C dx ws fs} : B a = some (.ins C dx ws) → RF K B ws fs → R K B (.ref a) (.ins C fs)
inductive RL (K : PySem.W.Frag) (B : Hp) : List V → List D → Prop
  | nil : RL K B [] []
  | cons {v x vs xs} : R K B v x → RL K B vs xs → RL K B (v :: vs) (x :: xs)
inductive RK (K : PySem.W.Frag) (B : Hp) : List (Key × V) → List (Key × D) → Prop
  | nil : RK K B [] []
  | cons {k v x vs xs} : R K B v x → RK K B vs xs → RK K B ((k, v) :: vs) ((k, x) :: xs)
inductive RT (K : PySem.W.Frag) (B : Hp) : List (List Key × V) → List (List Key × D) → Prop
  | nil : RT K B [] []
  | cons {k v x vs xs} : R K B v x → RT K B vs xs → RT K B ((k, v) :: vs) ((k, x) :: xs)
inductive RF (K : PySem.W.Frag) (B : Hp) : List (Str × V) → List (Str × D) → Prop
  | nil : RF K B [] []
  | cons {k v x vs xs} : R K B v x → RF K B vs xs → RF K B ((k, v) :: vs) ((k, x) :: xs)
end
/-- what pure data lean on stays -/
structure BLe (B B' : Hp) : Prop where
  te : ∀ a xs, B a = some (.tup xs) → B' a = some (.tup xs)
  tup : ∀ a xs, Rd B a (.tup xs) → Rd B' a (.tup xs)
  lst : ∀ a xs, Rd B a (.lst xs) → Rd B' a (.lst xs)
  ls : ∀ a xs, B a = some (.lst xs) → B' a = some (.lst xs)
  dK : ∀ a xs, Rd B a (.dK xs) → Rd B' a (.dK xs)
  dT : ∀ a xs, Rd B a (.dT xs) → Rd B' a (.dT xs)
  ins : ∀ a C dx fs, B a = some (.ins C dx fs) → B' a = some (.ins C dx fs)
def Ex (H H' : Hp) : Prop := ∀ a o, H a = some o → H' a = some o
theorem Ex.refl (H : Hp) : Ex H H := fun _ _ h => h
theorem Ex.trans {H H1 H2 : Hp} (a : Ex H H1) (b : Ex H1 H2) : Ex H H2 := fun x o h => b x o (a x o h)
theorem Ex.rd {H H' : Hp} (e : Ex H H') {a : Addr} {u : HO} (h : Rd H a u) : Rd H' a u := by
  rcases h with h | ⟨o, h⟩
  · exact .inl (e _ _ h)
  · exact .inr ⟨o, e _ _ h⟩
theorem Ex.back {H H' : Hp} (e : Ex H H') {a : Addr} (h : H' a = none) : H a = none := by
  cases q : H a with
  | none => rfl
  | some o => rw [e a o q] at h; cases h
theorem Ex.new {H : Hp} {p : Addr} {o : HO} (h : H p = none) : Ex H (upd H p o) := fun a u e => by
  rw [upd_ne (ne_of_none e h)]; exact e
theorem BLe.of_ex {B B' : Hp} (e : Ex B B') : BLe B B' := ⟨fun _ _ h => e _ _ h, fun _ _ h => e.rd h, fun _ _ h => e.rd h, fun _ _ h => e _ _ h, fun _ _ h => e.rd h, fun _ _ h => e.rd h, fun _ _ _ _ h => e _ _ h⟩
theorem BLe.refl (B : Hp) : BLe B B := .of_ex (.refl B)
theorem BLe.trans {B B1 B2 : Hp} (a : BLe B B1) (b : BLe B1 B2) : BLe B B2 :=
  ⟨fun _ _ h => b.te _ _ (a.te _ _ h), fun _ _ h => b.tup _ _ (a.tup _ _ h), fun _ _ h => b.lst _ _ (a.lst _ _ h), fun _ _ h => b.ls _ _ (a.ls _ _ h), fun _ _ h => b.dK _ _ (a.dK _ _ h), fun _ _ h => b.dT _ _ (a.dT _ _ h), fun _ _ _ _ h => b.ins _ _ _ _ (a.ins _ _ _ _ h)⟩
theorem BLe.sqT {K : PySem.W.Frag} {B B' : Hp} (e : BLe B B') {a : Addr} {xs : List V} (h : SqT K B a xs) : SqT K B' a xs := e.te _ _ h
theorem BLe.sqT' {K : PySem.W.Frag} {B B' : Hp} (e : BLe B B') {a : Addr} {xs : List V} (h : L2.SqT K B a xs) : L2.SqT K B' a xs := h.imp (e.tup _ _) id
theorem BLe.sqL {K : PySem.W.Frag} {B B' : Hp} (e : BLe B B') {a : Addr} {xs : List V} (h : SqL K B a xs) : SqL K B' a xs := h.imp (e.lst _ _) id
section
variable {K : PySem.W.Frag} {B B' : Hp}
mutual
theorem R.mono (e : BLe B B') : ∀ {v : V} {x : D}, R K B v x → R K B' v x
  | _, _, .non => .non
  | _, _, .bl => .bl
  | _, _, .int => .int
  | _, _, .str => .str
  | _, _, .ref => .ref
  | _, _, .ty => .ty
  | _, _, .tup h r => .tup (e.sqT h) (RL.mono e r)
  | _, _, .ctu h r => .ctu (e.sqT' h) (RL.mono e r)
  | _, _, .lst h r => .lst (e.ls _ _ h) (RL.mono e r)
  | _, _, .sq h r => .sq (e.sqL h) (RL.mono e r)
  | _, _, .dic h n r => .dic (e.dK _ _ h) n (RK.mono e r)
  | _, _, .dit h n r => .dit (e.dT _ _ h) n (RT.mono e r)
  | _, _, .ins h r => .ins (e.ins _ _ _ _ h) (RF.mono e r)
theorem RL.mono (e : BLe B B') : ∀ {v : List V} {x : List D}, RL K B v x → RL K B' v x
  | _, _, .nil => .nil
  | _, _, .cons h r => .cons (R.mono e h) (RL.mono e r)
theorem RK.mono (e : BLe B B') : ∀ {v : List (Key × V)} {x : List (Key × D)}, RK K B v x → RK K B' v x
  | _, _, .nil => .nil
  | _, _, .cons h r => .cons (R.mono e h) (RK.mono e r)
theorem RT.mono (e : BLe B B') : ∀ {v : List (List Key × V)} {x : List (List Key × D)}, RT K B v x → RT K B' v x
  | _, _, .nil => .nil
  | _, _, .cons h r => .cons (R.mono e h) (RT.mono e r)
theorem RF.mono (e : BLe B B') : ∀ {v : List (Str × V)} {x : List (Str × D)}, RF K B v x → RF K B' v x
  | _, _, .nil => .nil
  | _, _, .cons h r => .cons (R.mono e h) (RF.mono e r)
end
end
end SK
namespace SK
open PySem PySem.Spec PyProof.Rows L2
abbrev Ad := Addr → Prop
mutual
inductive RO (K : PySem.W.Frag) (B H : Hp) : Ad → V → O → Prop
  | d {S : Ad} {v x} : R K B v x → RO K B H S v (.d x)
  | ol {S S' : Ad} {a vs xs} : S a → (∀ b, S' b → S b) → ¬ S' a → H a = some (.lst vs) → RS K B H S' (vs.map some) (xs.map some) → RO K B H S (.ref a) (.ol xs)
  | od {S S' : Ad} {a ws kvs} : S a → (∀ b, S' b → S b) → ¬ S' a → H a = some (.dK ws) → (kvs.map (·.1)).Nodup → ws.map (·.1) = kvs.map (·.1) → RS K B H S' (ws.map fun p => some p.2) (kvs.map fun p => some p.2) → RO K B H S (.ref a) (.od kvs)
  | ot {S S' : Ad} {a ws kvs} : S a → (∀ b, S' b → S b) → ¬ S' a → H a = some (.dT ws) → (kvs.map (·.1)).Nodup → ws.map (·.1) = kvs.map (·.1) → RS K B H S' (ws.map fun p => some p.2) (kvs.map fun p => some p.2) → RO K B H S (.ref a) (.ot kvs)
  | oi {S S' : Ad} {a dx C ws kvs} : S a → S dx → (∀ b, S' b → S b) → ¬ S' a → ¬ S' dx → a ≠ dx → H a = some (.ins C dx ws) → H dx = some (.own a) → ws.map (·.1) = kvs.map (·.1) → RS K B H S' (ws.map fun p => some p.2) (kvs.map fun p => some p.2) → RO K B H S (.ref a) (.oi a C kvs)
  | op {S : Ad} {a vs xs} : SqT K B a vs → RS K B H S (vs.map some) (xs.map some) → RO K B H S (.ref a) (.op xs)
  | atA {S : Ad} {a o} : RO K B H S (.ref a) o → RO K B H S (.ref a) (.atA a o)
inductive RS (K : PySem.W.Frag) (B H : Hp) : Ad → List (Option V) → List (Option O) → Prop
  | nil {S : Ad} : RS K B H S [] []
  | un {S : Ad} {v σ Γ} : RS K B H S σ Γ → RS K B H S (v :: σ) (none :: Γ)
  | cons {S S1 S2 : Ad} {v o σ Γ} : (∀ b, S1 b → S b) → (∀ b, S2 b → S b) → (∀ b, S1 b → ¬ S2 b) → RO K B H S1 v o → RS K B H S2 σ Γ → RS K B H S (some v :: σ) (some o :: Γ)
end
section
variable {K : PySem.W.Frag} {B B' H H' : Hp}
mutual
theorem RO.tr (e : BLe B B') : ∀ {S S' : Ad} {v : V} {o : O}, (∀ a, S a → S' a) → (∀ a u, S a → H a = some u → H' a = some u) → RO K B H S v o → RO K B' H' S' v o
  | _, _, _, _, _, _, .d r => .d (r.mono e)
  | _, _, _, _, s, k, .ol ha hs hn h r => .ol (s _ ha) (fun b z => s b (hs b z)) hn (k _ _ ha h) (RS.tr e (fun _ z => z) (fun b u z => k b u (hs b z)) r)
  | _, _, _, _, s, k, .od ha hs hn h nd q r => .od (s _ ha) (fun b z => s b (hs b z)) hn (k _ _ ha h) nd q (RS.tr e (fun _ z => z) (fun b u z => k b u (hs b z)) r)
  | _, _, _, _, s, k, .ot ha hs hn h nd q r => .ot (s _ ha) (fun b z => s b (hs b z)) hn (k _ _ ha h) nd q (RS.tr e (fun _ z => z) (fun b u z => k b u (hs b z)) r)
  | _, _, _, _, s, k, .oi ha hd hs hn hn2 ne h h2 q r => .oi (s _ ha) (s _ hd) (fun b z => s b (hs b z)) hn hn2 ne (k _ _ ha h) (k _ _ hd h2) q (RS.tr e (fun _ z => z) (fun b u z => k b u (hs b z)) r)
  | _, _, _, _, s, k, .op h r => .op (e.sqT h) (RS.tr e s k r)
  | _, _, _, _, s, k, .atA r => .atA (RO.tr e s k r)
theorem RS.tr (e : BLe B B') : ∀ {S S' : Ad} {σ : List (Option V)} {Γ : List (Option O)}, (∀ a, S a → S' a) → (∀ a u, S a → H a = some u → H' a = some u) → RS K B H S σ Γ → RS K B' H' S' σ Γ
  | _, _, _, _, _, _, .nil => .nil
  | _, _, _, _, s, k, .un r => .un (RS.tr e s k r)
  | _, _, _, _, s, k, .cons s1 s2 dj h r => .cons (fun b z => s b (s1 b z)) (fun b z => s b (s2 b z)) dj (RO.tr e (fun _ z => z) (fun b u z => k b u (s1 b z)) h) (RS.tr e (fun _ z => z) (fun b u z => k b u (s2 b z)) r)
end
end
/-- the i-th thing, and the others for any other thing in its place -/
theorem RS.focus {K : PySem.W.Frag} {B H : Hp} {o : O} : ∀ {σ : List (Option V)} {Γ : List (Option O)} {S : Ad} {i : Nat}, RS K B H S σ Γ → Γ[i]? = some (some o) →
    ∃ (v : V) (S1 S2 : Ad), σ[i]? = some (some v) ∧ (∀ b, S1 b → S b) ∧ (∀ b, S2 b → S b) ∧ (∀ b, S1 b → ¬ S2 b) ∧ RO K B H S1 v o ∧
      ∀ (B' H' : Hp) (S1' : Ad) (v' : Option V) (o' : Option O), BLe B B' → (∀ b u, S2 b → H b = some u → H' b = some u) → (∀ b, S1' b → ¬ S2 b) → (∀ x, o' = some x → ∃ w, v' = some w ∧ RO K B' H' S1' w x) →
        RS K B' H' (fun b => S1' b ∨ S2 b) (σ.set i v') (Γ.set i o') := by
  intro σ Γ
  induction Γ generalizing σ with
  | nil => intro S i _ h; simp at h
  | cons g Γ ih =>
    intro S i r h
    cases i with
    | zero =>
      rw [List.getElem?_cons_zero] at h
      cases h
      cases r with
      | cons s1 s2 dj h r =>
        refine ⟨_, _, _, rfl, s1, s2, dj, h, fun B' H' S1' v' o' e k dj' q => ?_⟩
        rw [List.set_cons_zero, List.set_cons_zero]
        cases o' with
        | none => exact .un (r.tr e (fun _ z => .inr z) k)
        | some x =>
          obtain ⟨w, rfl, q2⟩ := q x rfl
          exact .cons (fun _ z => .inl z) (fun _ z => .inr z) dj' q2 (r.tr e (fun _ z => z) k)
    | succ i =>
      rw [List.getElem?_cons_succ] at h
      cases r with
      | un r =>
        obtain ⟨v, S1, S2, a, b, c, d, e, f⟩ := ih r h
        refine ⟨v, S1, S2, by rw [List.getElem?_cons_succ]; exact a, b, c, d, e, fun B' H' S1' v' o' e k dj' q => ?_⟩
        rw [List.set_cons_succ, List.set_cons_succ]
        exact .un (f B' H' S1' v' o' e k dj' q)
      | @cons _ T1 T2 _ _ _ _ s1 s2 dj h0 r =>
        obtain ⟨v, S1, S2, a, b, c, d, e, f⟩ := ih r h
        refine ⟨v, S1, fun x => T1 x ∨ S2 x, by rw [List.getElem?_cons_succ]; exact a, fun x z => s2 x (b x z), fun x z => z.elim (s1 x) (fun z => s2 x (c x z)), fun x z w => w.elim (fun w => dj x w (b x z)) (fun w => d x z w), e, fun B' H' S1' v' o' e k dj' q => ?_⟩
        rw [List.set_cons_succ, List.set_cons_succ]
        refine .cons (S1 := T1) (S2 := fun x => S1' x ∨ S2 x) (fun x z => .inr (.inl z)) (fun x z => z.imp id .inr) (fun x z w => w.elim (fun w => dj' x w (.inl z)) fun w => dj x z (c x w)) (h0.tr e (fun _ z => z) fun x u z => k x u (.inl z)) ?_
        exact f B' H' S1' v' o' e (fun x u z => k x u (.inr z)) (fun x z w => dj' x z (.inr w)) q
/-- the things at hand: τ what is held meanwhile, σ the slots -/
structure HW (K : PySem.W.Frag) (F B0 : Hp) (τ : List V) (T : List O) (σ : L2.St) (Γ : List (Option O)) (H B : Hp) (S : Ad) : Prop where
  fr : Ex F H
  pu : Ex B H
  b0 : BLe B0 B
  ow : ∀ a, S a → F a = none ∧ B a = none ∧ H a ≠ none
  nw : ∀ a, B a ≠ none → B0 a ≠ none ∨ F a = none
  rs : RS K B H S (τ.map some ++ σ) (T.map some ++ Γ)
  lt : τ.length = T.length
  tp : ∀ a xs, F a = some (.tup xs) → B0 a = some (.tup xs)
abbrev En := List (Option O)
def Ho (K : PySem.W.Frag) (F B0 : Hp) (τ : List V) (T : List O) (σ : L2.St) (Γ : En) (H : Hp) : Prop := ∃ B S, HW K F B0 τ T σ Γ H B S
section
variable {K : PySem.W.Frag} {F B0 H H' B B' : Hp} {τ : List V} {T : List O} {σ : L2.St} {Γ : En} {S : Ad} {v : V} {o : O} {x : D}
/-- one thing more on the pile; the heap has grown -/
theorem HW.push (h : HW K F B0 τ T σ Γ H B S) {S' : Ad} (e : Ex H H') (eb : BLe B B') (pu : Ex B' H') (nw : ∀ a, B' a ≠ none → B a ≠ none ∨ H a = none) (ow : ∀ a, S' a → H a = none ∧ B' a = none ∧ H' a ≠ none) (r : RO K B' H' S' v o) :
    HW K F B0 (v :: τ) (o :: T) σ Γ H' B' (fun a => S' a ∨ S a) where
  fr := h.fr.trans e
  pu := pu
  b0 := h.b0.trans eb
  ow := fun a z => by
    rcases z with z | z
    · obtain ⟨h1, h2, h3⟩ := ow a z
      exact ⟨h.fr.back h1, h2, h3⟩
    · obtain ⟨h1, h2, h3⟩ := h.ow a z
      refine ⟨h1, ?_, fun q => h3 (e.back q)⟩
      cases q : B' a with
      | none => rfl
      | some u =>
        rcases nw a (by rw [q]; simp) with w | w
        · exact absurd h2 w
        · exact absurd w h3
  nw := fun a z => by
    rcases nw a z with w | w
    · exact h.nw a w
    · exact .inr (h.fr.back w)
  rs := .cons (fun _ z => .inl z) (fun _ z => .inr z) (fun a z w => (h.ow a w).2.2 (ow a z).1) r (h.rs.tr eb (fun _ z => z) fun a u _ q => e a u q)
  lt := by simp [h.lt]
  tp := h.tp
/-- a pure thing, nothing new -/
theorem HW.pushd (h : HW K F B0 τ T σ Γ H B S) (r : R K B v x) : HW K F B0 (v :: τ) (.d x :: T) σ Γ H B (fun a => False ∨ S a) :=
  h.push (S' := fun _ => False) (.refl H) (.refl B) h.pu (fun _ z => .inl z) (fun _ z => z.elim) (.d r)
/-- the pile's first thing falls away -/
theorem HW.pop (h : HW K F B0 (v :: τ) (o :: T) σ Γ H B S) : ∃ S1 S2 : Ad, (∀ b, S1 b → S b) ∧ (∀ b, S2 b → S b) ∧ (∀ b, S1 b → ¬ S2 b) ∧ RO K B H S1 v o ∧ HW K F B0 τ T σ Γ H B S2 := by
  have r := h.rs
  cases r with
  | cons s1 s2 dj r rs => exact ⟨_, _, s1, s2, dj, r, h.fr, h.pu, h.b0, fun a z => h.ow a (s2 a z), h.nw, rs, by simpa using h.lt, h.tp⟩
theorem HW.popd (h : HW K F B0 (v :: τ) (.d x :: T) σ Γ H B S) : R K B v x ∧ ∃ S2, (∀ b, S2 b → S b) ∧ HW K F B0 τ T σ Γ H B S2 := by
  obtain ⟨S1, S2, _, s2, _, r, w⟩ := h.pop
  cases r with
  | d r => exact ⟨r, S2, s2, w⟩
theorem HW.len (h : HW K F B0 τ T σ Γ H B S) : σ.length = Γ.length := by
  have : ∀ {σ : List (Option V)} {Γ : List (Option O)} {S : Ad}, RS K B H S σ Γ → σ.length = Γ.length := by
    intro σ Γ
    induction Γ generalizing σ with
    | nil => intro S r; cases r; rfl
    | cons g Γ ih =>
      intro S r
      cases r with
      | un r => simp [ih r]
      | cons _ _ _ _ r => simp [ih r]
  have q := this h.rs
  have l := h.lt
  simp only [List.length_append, List.length_map] at q
  omega
/-- the i-th slot -/
theorem HW.slot (h : HW K F B0 τ T σ Γ H B S) {i : Nat} (e : Γ[i]? = some (some o)) : ∃ (v : V) (S1 S2 : Ad), σ[i]? = some (some v) ∧ (∀ b, S1 b → S b) ∧ (∀ b, S2 b → S b) ∧ (∀ b, S1 b → ¬ S2 b) ∧ RO K B H S1 v o ∧
    ∀ (B' H' : Hp) (S1' : Ad) (v' : Option V) (o' : Option O), BLe B B' → (∀ b u, S2 b → H b = some u → H' b = some u) → (∀ b, S1' b → ¬ S2 b) → (∀ x, o' = some x → ∃ w, v' = some w ∧ RO K B' H' S1' w x) →
        RS K B' H' (fun b => S1' b ∨ S2 b) (τ.map some ++ σ.set i v') (T.map some ++ Γ.set i o') := by
  have e' : (T.map some ++ Γ)[τ.length + i]? = some (some o) := by
    rw [List.getElem?_append_right (by simp [h.lt]), List.length_map, ← h.lt, Nat.add_sub_cancel_left]
    exact e
  obtain ⟨v, S1, S2, a, b, c, d, r, f⟩ := h.rs.focus e'
  refine ⟨v, S1, S2, ?_, b, c, d, r, fun B' H' S1' v' o' e k dj q => ?_⟩
  · rw [List.getElem?_append_right (by simp), List.length_map, Nat.add_sub_cancel_left] at a
    exact a
  · have z := f B' H' S1' v' o' e k dj q
    rw [List.set_append_right _ _ (by simp), List.set_append_right _ _ (by simp [h.lt]), List.length_map, List.length_map, ← h.lt, Nat.add_sub_cancel_left] at z
    exact z
theorem HW.getd (h : HW K F B0 τ T σ Γ H B S) {i : Nat} (e : Γ[i]? = some (some (.d x))) : ∃ v, σ[i]? = some (some v) ∧ R K B v x := by
  obtain ⟨v, S1, S2, a, _, _, _, r, _⟩ := h.slot e
  cases r with
  | d r => exact ⟨v, a, r⟩
end
end SK
namespace SK
open PySem PySem.Spec PyProof.Rows L2
mutual
def O.fz : O → D
  | .d x => x
  | .ol xs => .lst (fzL xs)
  | .od kvs => .dic (fzK kvs)
  | .ot kvs => .dit (fzT kvs)
  | .oi _ C fs => .ins C (fzF fs)
  | .op xs => .tup (fzL xs)
  | .atA _ o => o.fz
def fzL : List O → List D
  | [] => []
  | x :: xs => x.fz :: fzL xs
def fzK : List (Key × O) → List (Key × D)
  | [] => []
  | (k, x) :: xs => (k, x.fz) :: fzK xs
def fzT : List (List Key × O) → List (List Key × D)
  | [] => []
  | (k, x) :: xs => (k, x.fz) :: fzT xs
def fzF : List (Str × O) → List (Str × D)
  | [] => []
  | (k, x) :: xs => (k, x.fz) :: fzF xs
end
theorem fzK_keys : ∀ l : List (Key × O), (fzK l).map (·.1) = l.map (·.1)
  | [] => rfl
  | (k, x) :: xs => by simp [fzK, fzK_keys xs]
theorem fzT_keys : ∀ l : List (List Key × O), (fzT l).map (·.1) = l.map (·.1)
  | [] => rfl
  | (k, x) :: xs => by simp [fzT, fzT_keys xs]
def fzE : List (Option O) → List (Option O)
  | [] => []
  | none :: r => none :: fzE r
  | some o :: r => some (.d o.fz) :: fzE r
section
variable {K : PySem.W.Frag} {B B' H H' : Hp}
mutual
theorem RO.fz (eb : BLe B B') : ∀ {S : Ad} {v : V} {o : O}, (∀ a u, S a → H a = some u → B' a = some u) → RO K B H S v o → R K B' v o.fz
  | _, _, _, _, .d r => r.mono eb
  | _, _, _, k, .ol ha hs _ h r => .lst (k _ _ ha h) (RS.fzL eb (fun b u z => k b u (hs b z)) r)
  | _, _, _, k, .od ha hs _ h nd q r => .dic (.inl (k _ _ ha h)) (by rw [fzK_keys]; exact nd) (RS.fzK eb (fun b u z => k b u (hs b z)) q r)
  | _, _, _, k, .ot ha hs _ h nd q r => .dit (.inl (k _ _ ha h)) (by rw [fzT_keys]; exact nd) (RS.fzT eb (fun b u z => k b u (hs b z)) q r)
  | _, _, _, k, .oi ha hd hs _ _ _ h _ q r => .ins (k _ _ ha h) (RS.fzF eb (fun b u z => k b u (hs b z)) q r)
  | _, _, _, k, .op h r => .tup (eb.sqT h) (RS.fzL eb k r)
  | _, _, _, k, .atA (o := o) r => (RO.fz (o := o) eb k r : R K B' _ o.fz)
theorem RS.fzL (eb : BLe B B') : ∀ {S : Ad} {vs : List V} {xs : List O}, (∀ a u, S a → H a = some u → B' a = some u) → RS K B H S (vs.map some) (xs.map some) → RL K B' vs (SK.fzL xs)
  | _, [], [], _, _ => .nil
  | _, v :: vs, x :: xs, k, .cons s1 s2 _ h r => .cons (RO.fz eb (fun b u z => k b u (s1 b z)) h) (RS.fzL eb (fun b u z => k b u (s2 b z)) r)
theorem RS.fzK (eb : BLe B B') : ∀ {S : Ad} {vs : List (Key × V)} {xs : List (Key × O)}, (∀ a u, S a → H a = some u → B' a = some u) → vs.map (·.1) = xs.map (·.1) → RS K B H S (vs.map fun p => some p.2) (xs.map fun p => some p.2) → RK K B' vs (SK.fzK xs)
  | _, [], [], _, _, _ => .nil
  | _, (kv, v) :: vs, (kx, x) :: xs, k, q, .cons s1 s2 _ h r => by
    simp only [List.map_cons, List.cons.injEq] at q
    obtain ⟨rfl, q⟩ := q
    exact .cons (RO.fz eb (fun b u z => k b u (s1 b z)) h) (RS.fzK eb (fun b u z => k b u (s2 b z)) q r)
theorem RS.fzT (eb : BLe B B') : ∀ {S : Ad} {vs : List (List Key × V)} {xs : List (List Key × O)}, (∀ a u, S a → H a = some u → B' a = some u) → vs.map (·.1) = xs.map (·.1) → RS K B H S (vs.map fun p => some p.2) (xs.map fun p => some p.2) → RT K B' vs (SK.fzT xs)
  | _, [], [], _, _, _ => .nil
  | _, (kv, v) :: vs, (kx, x) :: xs, k, q, .cons s1 s2 _ h r => by
    simp only [List.map_cons, List.cons.injEq] at q
    obtain ⟨rfl, q⟩ := q
    exact .cons (RO.fz eb (fun b u z => k b u (s1 b z)) h) (RS.fzT eb (fun b u z => k b u (s2 b z)) q r)
theorem RS.fzF (eb : BLe B B') : ∀ {S : Ad} {vs : List (Str × V)} {xs : List (Str × O)}, (∀ a u, S a → H a = some u → B' a = some u) → vs.map (·.1) = xs.map (·.1) → RS K B H S (vs.map fun p => some p.2) (xs.map fun p => some p.2) → RF K B' vs (SK.fzF xs)
  | _, [], [], _, _, _ => .nil
  | _, (kv, v) :: vs, (kx, x) :: xs, k, q, .cons s1 s2 _ h r => by
    simp only [List.map_cons, List.cons.injEq] at q
    obtain ⟨rfl, q⟩ := q
    exact .cons (RO.fz eb (fun b u z => k b u (s1 b z)) h) (RS.fzF eb (fun b u z => k b u (s2 b z)) q r)
end
end
open Classical in
/-- B with the owned cells S of H -/
noncomputable def frz (B H : Hp) (S : Ad) : Hp := fun a => if S a then H a else B a
section
variable {K : PySem.W.Frag} {F B0 H H' B B' : Hp} {τ : List V} {T : List O} {σ : L2.St} {Γ : En} {S S1 S2 : Ad} {v : V} {o : O} {x : D}
theorem frz_at {a : Addr} (h : S a) : frz B H S a = H a := if_pos h
theorem frz_no {a : Addr} (h : ¬ S a) : frz B H S a = B a := if_neg h
theorem frz_ex (h : ∀ a, S a → B a = none) : Ex B (frz B H S) := fun a o e => by
  by_cases z : S a
  · rw [h a z] at e; cases e
  · rw [frz_no z]; exact e
/-- the pile's first thing is frozen -/
theorem HW.fz (h : HW K F B0 (v :: τ) (o :: T) σ Γ H B S) : ∃ B' S', HW K F B0 (v :: τ) (.d o.fz :: T) σ Γ H B' S' ∧ BLe B B' := by
  obtain ⟨S1, S2, s1, s2, dj, r, w⟩ := h.pop
  have ex : Ex B (frz B H S1) := frz_ex fun a z => (h.ow a (s1 a z)).2.1
  refine ⟨frz B H S1, fun a => False ∨ S2 a, ⟨h.fr, fun a u e => ?_, h.b0.trans (.of_ex ex), fun a z => ?_, fun a z => ?_, .cons (S1 := fun _ => False) (fun _ z => .inl z) (fun _ z => .inr z) (fun _ z => z.elim) (.d (r.fz (.of_ex ex) fun a u z e => by rw [frz_at z]; exact e)) (w.rs.tr (.of_ex ex) (fun _ z => z) fun _ _ _ e => e), h.lt, h.tp⟩, .of_ex ex⟩
  · by_cases z : S1 a
    · rw [frz_at z] at e; exact e
    · rw [frz_no z] at e; exact h.pu a u e
  · have z : S2 a := z.elim False.elim id
    obtain ⟨q1, q2, q3⟩ := h.ow a (s2 a z)
    refine ⟨q1, ?_, q3⟩
    rw [frz_no fun y => dj a y z]
    exact q2
  · by_cases y : S1 a
    · exact .inr (h.ow a (s1 a y)).1
    · rw [frz_no y] at z; exact h.nw a z
/-- pushed frozen things, all at once: the whole state as pure -/
theorem RS.fzE {S : Ad} (eb : BLe B B') : ∀ {σ : List (Option V)} {Γ : List (Option O)} {S : Ad}, (∀ a u, S a → H a = some u → B' a = some u) → RS K B H S σ Γ → RS K B' H (fun _ => False) σ (fzE Γ) := by
  intro σ Γ
  induction Γ generalizing σ with
  | nil => intro S _ r; cases r; exact .nil
  | cons g Γ ih =>
    intro S k r
    cases r with
    | un r => exact .un (ih k r)
    | cons s1 s2 dj h r => exact .cons (S1 := fun _ => False) (S2 := fun _ => False) (fun _ z => z) (fun _ z => z) (fun _ z => z.elim) (.d (h.fz eb fun a u z => k a u (s1 a z))) (ih (fun a u z => k a u (s2 a z)) r)
end
section
variable {K : PySem.W.Frag} {F B0 H H' B B' : Hp} {τ : List V} {T : List O} {σ : L2.St} {Γ : En} {S S1 S2 : Ad} {v : V} {o : O} {x : D}
/-- what stands at a cell of an owned thing -/
def Cell (H : Hp) (a : Addr) : Prop := (∃ vs, H a = some (.lst vs)) ∨ (∃ ws, H a = some (.dK ws)) ∨ (∃ ws, H a = some (.dT ws)) ∨ (∃ C dx ws, H a = some (.ins C dx ws)) ∨ ∃ b, H a = some (.own b)
mutual
theorem RO.tight : ∀ {S : Ad} {v : V} {o : O}, RO K B H S v o → ∃ S' : Ad, (∀ b, S' b → S b) ∧ RO K B H S' v o ∧ ∀ b, S' b → Cell H b
  | _, _, _, .d r => ⟨fun _ => False, fun _ z => z.elim, .d r, fun _ z => z.elim⟩
  | S, _, _, .ol (a := a) ha hs hn h r => by
    obtain ⟨S', q1, q2, q3⟩ := RS.tight r
    refine ⟨fun b => b = a ∨ S' b, fun b z => z.elim (fun e => e ▸ ha) fun z => hs b (q1 b z), .ol (.inl rfl) (fun _ z => .inr z) (fun z => hn (q1 _ z)) h q2, fun b z => z.elim (fun e => .inl ⟨_, e ▸ h⟩) (q3 b)⟩
  | S, _, _, .od (a := a) ha hs hn h nd e r => by
    obtain ⟨S', q1, q2, q3⟩ := RS.tight r
    refine ⟨fun b => b = a ∨ S' b, fun b z => z.elim (fun e => e ▸ ha) fun z => hs b (q1 b z), .od (.inl rfl) (fun _ z => .inr z) (fun z => hn (q1 _ z)) h nd e q2, fun b z => z.elim (fun e => .inr (.inl ⟨_, e ▸ h⟩)) (q3 b)⟩
  | S, _, _, .ot (a := a) ha hs hn h nd e r => by
    obtain ⟨S', q1, q2, q3⟩ := RS.tight r
    refine ⟨fun b => b = a ∨ S' b, fun b z => z.elim (fun e => e ▸ ha) fun z => hs b (q1 b z), .ot (.inl rfl) (fun _ z => .inr z) (fun z => hn (q1 _ z)) h nd e q2, fun b z => z.elim (fun e => .inr (.inr (.inl ⟨_, e ▸ h⟩))) (q3 b)⟩
  | S, _, _, .oi (a := a) (dx := dx) ha hd hs hn hn2 ne h h2 e r => by
    obtain ⟨S', q1, q2, q3⟩ := RS.tight r
    refine ⟨fun b => (b = a ∨ b = dx) ∨ S' b, fun b z => z.elim (fun e => e.elim (fun e => e ▸ ha) fun e => e ▸ hd) fun z => hs b (q1 b z), .oi (.inl (.inl rfl)) (.inl (.inr rfl)) (fun _ z => .inr z) (fun z => hn (q1 _ z)) (fun z => hn2 (q1 _ z)) ne h h2 e q2,
      fun b z => z.elim (fun e => e.elim (fun e => .inr (.inr (.inr (.inl ⟨_, _, _, e ▸ h⟩)))) fun e => .inr (.inr (.inr (.inr ⟨_, e ▸ h2⟩)))) (q3 b)⟩
  | S, _, _, .op h r => by
    obtain ⟨S', q1, q2, q3⟩ := RS.tight r
    exact ⟨S', q1, .op h q2, q3⟩
  | S, _, _, .atA r => by
    obtain ⟨S', q1, q2, q3⟩ := RO.tight r
    exact ⟨S', q1, .atA q2, q3⟩
theorem RS.tight : ∀ {S : Ad} {σ : List (Option V)} {Γ : List (Option O)}, RS K B H S σ Γ → ∃ S' : Ad, (∀ b, S' b → S b) ∧ RS K B H S' σ Γ ∧ ∀ b, S' b → Cell H b
  | _, _, _, .nil => ⟨fun _ => False, fun _ z => z.elim, .nil, fun _ z => z.elim⟩
  | _, _, _, .un r => by
    obtain ⟨S', q1, q2, q3⟩ := RS.tight r
    exact ⟨S', q1, .un q2, q3⟩
  | _, _, _, .cons s1 s2 d r t => by
    obtain ⟨S1, q1, q2, q3⟩ := RO.tight r
    obtain ⟨S2, p1, p2, p3⟩ := RS.tight t
    exact ⟨fun b => S1 b ∨ S2 b, fun b z => z.elim (fun z => s1 b (q1 b z)) fun z => s2 b (p1 b z), .cons (fun _ z => .inl z) (fun _ z => .inr z) (fun b z y => d b (q1 b z) (p1 b y)) q2 p2, fun b z => z.elim (q3 b) (p3 b)⟩
end
theorem HW.tightB (h : HW K F B0 τ T σ Γ H B S) : ∃ S', HW K F B0 τ T σ Γ H B S' ∧ ∀ b, S' b → Cell H b := by
  obtain ⟨S', s1, r, c⟩ := RS.tight h.rs
  exact ⟨S', ⟨h.fr, h.pu, h.b0, fun a z => h.ow a (s1 a z), h.nw, r, h.lt, h.tp⟩, c⟩
/-- all tuples of H are known -/
def AllT (H B : Hp) : Prop := ∀ a xs, H a = some (.tup xs) → B a = some (.tup xs)
open Classical in
/-- B with all tuples of H -/
noncomputable def wT (H B : Hp) : Hp := fun a => if B a = none ∧ ∃ xs, H a = some (.tup xs) then H a else B a
theorem HW.allT (h : HW K F B0 τ T σ Γ H B S) : ∃ B' S', HW K F B0 τ T σ Γ H B' S' ∧ AllT H B' ∧ BLe B B' := by
  obtain ⟨S1, w, c⟩ := h.tightB
  have at1 : ∀ a xs, B a = none → H a = some (.tup xs) → wT H B a = some (.tup xs) := fun a xs n e => by
    unfold wT; rw [if_pos ⟨n, xs, e⟩]; exact e
  have at2 : ∀ a o, B a = some o → wT H B a = some o := fun a o e => by
    unfold wT; rw [if_neg (fun z => by rw [z.1] at e; cases e)]; exact e
  have at3 : ∀ a o, wT H B a = some o → B a = some o ∨ (B a = none ∧ H a = some o ∧ ∃ xs, o = .tup xs) := fun a o e => by
    unfold wT at e
    split at e
    · rename_i z
      obtain ⟨n, xs, q⟩ := z
      rw [q] at e; cases e
      exact .inr ⟨n, q, xs, rfl⟩
    · exact .inl e
  have ex : Ex B (wT H B) := at2
  have nt : ∀ a xs, S1 a → H a ≠ some (.tup xs) := fun a xs z e => by
    rcases c a z with ⟨_, y⟩ | ⟨_, y⟩ | ⟨_, y⟩ | ⟨_, _, _, y⟩ | ⟨_, y⟩ <;> (rw [y] at e; cases e)
  refine ⟨wT H B, S1, ⟨w.fr, fun a u e => ?_, w.b0.trans (.of_ex ex), fun a z => ?_, fun a z => ?_, w.rs.tr (.of_ex ex) (fun _ z => z) fun _ _ _ e => e, w.lt, w.tp⟩, fun a xs e => ?_, .of_ex ex⟩
  · rcases at3 a u e with q | ⟨_, q, _⟩
    · exact w.pu a u q
    · exact q
  · obtain ⟨q1, q2, q3⟩ := w.ow a z
    refine ⟨q1, ?_, q3⟩
    cases e : wT H B a with
    | none => rfl
    | some u =>
      rcases at3 a u e with q | ⟨_, q, xs, rfl⟩
      · rw [q2] at q; cases q
      · exact absurd q (nt a xs z)
  · cases e : wT H B a with
    | none => exact absurd e z
    | some u =>
      rcases at3 a u e with q | ⟨_, q, xs, rfl⟩
      · exact w.nw a (by rw [q]; simp)
      · cases f : F a with
        | none => exact .inr rfl
        | some y =>
          have := w.fr a y f
          rw [q] at this
          cases this
          exact .inl (by rw [w.tp a xs f]; simp)
  · cases f : B a with
    | none => exact at1 a xs f e
    | some y =>
      have := w.pu a y f
      rw [e] at this
      cases this
      exact at2 a _ f
end
structure EG where
  nx : En → Prop
  rt : O → En → Prop
  bk : En → Prop := fun _ => False
  ct : En → Prop := fun _ => False
section
variable (K : PySem.W.Frag) (F B0 : Hp)
def Go (t : TE) (T : List O) (Γ : En) (post : O → En → Prop) : Prop := ∀ (τ : List V) (σ : L2.St) (H : Hp) (Q : VK), Ho K F B0 τ T σ Γ H →
  (∀ v o Γ' H', post o Γ' → Ho K F B0 (v :: τ) (o :: T) σ Γ' H' → Q v H') → t σ H Q
def GoT (t : TT) (T : List O) (Γ : En) (post : Bool → En → Prop) : Prop := ∀ (τ : List V) (σ : L2.St) (H : Hp) (Q : Bool → Hp → Prop), Ho K F B0 τ T σ Γ H →
  (∀ b Γ' H', post b Γ' → Ho K F B0 τ T σ Γ' H' → Q b H') → t σ H Q
/-- arguments, all pure; on the pile the last one first -/
def GoA (t : TA) (T : List O) (Γ : En) (post : List D → En → Prop) : Prop := ∀ (τ : List V) (σ : L2.St) (H : Hp) (Q : List V → Hp → Prop), Ho K F B0 τ T σ Γ H →
  (∀ vs xs Γ' H', post xs Γ' → Ho K F B0 (vs.reverse ++ τ) ((xs.map O.d).reverse ++ T) σ Γ' H' → vs.length = xs.length → Q vs H') → t σ H Q
structure Sat (τ : List V) (T : List O) (De : Ends) (D : EG) : Prop where
  nx : ∀ σ Γ H, D.nx Γ → Ho K F B0 τ T σ Γ H → De.nx σ H
  rt : ∀ v o σ Γ H, D.rt o Γ → Ho K F B0 (v :: τ) (o :: T) σ Γ H → De.rt v H
  bk : ∀ σ Γ H, D.bk Γ → Ho K F B0 τ T σ Γ H → De.bk σ H
  ct : ∀ σ Γ H, D.ct Γ → Ho K F B0 τ T σ Γ H → De.ct σ H
def GoS (t : TS) (T : List O) (Γ : En) (D : EG) : Prop := ∀ (τ : List V) (σ : L2.St) (H : Hp) (De : Ends), Ho K F B0 τ T σ Γ H → Sat K F B0 τ T De D → t De σ H
/-- an operation on two pure things -/
def Op2 (r : R2) (x1 x2 : D) (T : List O) (Γ : En) (post : O → En → Prop) : Prop := ∀ (τ : List V) (σ : L2.St) (H B : Hp) (S : Ad) (v1 v2 : V) (Q : VK), HW K F B0 τ T σ Γ H B S → R K B v1 x1 → R K B v2 x2 →
  (∀ v o Γ' H', post o Γ' → Ho K F B0 (v :: τ) (o :: T) σ Γ' H' → Q v H') → r v1 v2 H Q
def Op1 (r : V → Hp → VK → Prop) (x1 : D) (T : List O) (Γ : En) (post : O → En → Prop) : Prop := ∀ (τ : List V) (σ : L2.St) (H B : Hp) (S : Ad) (v1 : V) (Q : VK), HW K F B0 τ T σ Γ H B S → R K B v1 x1 →
  (∀ v o Γ' H', post o Γ' → Ho K F B0 (v :: τ) (o :: T) σ Γ' H' → Q v H') → r v1 H Q
/-- a call by values on pure things -/
def OpA (r : List V → Hp → VK → Prop) (xs : List D) (T : List O) (Γ : En) (post : O → En → Prop) : Prop := ∀ (τ : List V) (σ : L2.St) (H B : Hp) (S : Ad) (vs : List V) (Q : VK), HW K F B0 τ T σ Γ H B S → RL K B vs xs →
  (∀ v o Γ' H', post o Γ' → Ho K F B0 (v :: τ) (o :: T) σ Γ' H' → Q v H') → r vs H Q
/-- a store into a target -/
def GoG (g : TG) (o : O) (T : List O) (Γ : En) (post : En → Prop) : Prop := ∀ (τ : List V) (σ : L2.St) (H : Hp) (v : V) (Q : L2.St → Hp → Prop), Ho K F B0 (v :: τ) (o :: T) σ Γ H →
  (∀ σ' Γ' H', post Γ' → Ho K F B0 τ T σ' Γ' H' → Q σ' H') → g v σ H Q
end
end SK
namespace SK
open PySem PySem.Spec PyProof.Rows L2
section
variable {K : PySem.W.Frag} {F B0 H H' B B' : Hp} {τ : List V} {T : List O} {σ : L2.St} {Γ : En} {S S1 S2 : Ad} {v : V} {o o1 o2 : O} {x : D} {post : O → En → Prop} {ta tb te : TE} {tt tu : TT} {i : Nat} {r : R2} {posts : List D → En → Prop} {postt : Bool → En → Prop} {posts1 : En → Prop}
theorem RS.len : ∀ {σ : List (Option V)} {Γ : List (Option O)} {S : Ad}, RS K B H S σ Γ → σ.length = Γ.length := by
  intro σ Γ
  induction Γ generalizing σ with
  | nil => intro S r; cases r; rfl
  | cons g Γ ih =>
    intro S r
    cases r with
    | un r => simp [ih r]
    | cons _ _ _ _ r => simp [ih r]
/-- a slot is written -/
theorem RS.put {v : Option V} {o : Option O} : ∀ {σ : List (Option V)} {Γ : List (Option O)} {S S1 : Ad} {i : Nat}, RS K B H S σ Γ → i < Γ.length → (∀ b, S1 b → ¬ S b) → (∀ x, o = some x → ∃ w, v = some w ∧ RO K B H S1 w x) →
    RS K B H (fun b => S1 b ∨ S b) (σ.set i v) (Γ.set i o) := by
  intro σ Γ
  induction Γ generalizing σ with
  | nil => intro S S1 i _ h; simp at h
  | cons g Γ ih =>
    intro S S1 i r hi dj q
    have ex : ∀ {a b : Option V} {σ : List (Option V)} {Γ : List (Option O)} {S2 : Ad}, (∀ z, S2 z → S z) → RS K B H S2 σ Γ → RS K B H (fun b => S1 b ∨ S b) (v :: σ) (o :: Γ) := fun s2 r => by
      cases o with
      | none => exact .un (r.tr (.refl B) (fun a z => .inr (s2 a z)) fun _ _ _ e => e)
      | some x =>
        obtain ⟨w, rfl, q2⟩ := q x rfl
        exact .cons (fun _ z => .inl z) (fun a z => .inr (s2 a z)) (fun a z y => dj a z (s2 a y)) q2 r
    cases i with
    | zero =>
      cases r with
      | un r => exact ex (a := v) (b := v) (fun _ z => z) r
      | cons _ s2 _ _ r => exact ex (a := v) (b := v) s2 r
    | succ i =>
      have hi' : i < Γ.length := by simpa using hi
      cases r with
      | un r => exact .un (ih r hi' dj q)
      | @cons _ T1 T2 _ _ _ _ s1 s2 dj0 h0 r =>
        refine .cons (S1 := T1) (S2 := fun x => S1 x ∨ T2 x) (fun x z => .inr (s1 x z)) (fun x z => z.imp id (s2 x)) (fun x z w => w.elim (fun w => dj x w (s1 x z)) (dj0 x z)) h0 (ih r hi' (fun x z w => dj x z (s2 x w)) q)
theorem HW.put (h : HW K F B0 (v :: τ) (o :: T) σ Γ H B S) (hi : i < Γ.length) : ∃ S', HW K F B0 τ T (σ.set i (some v)) (Γ.set i (some o)) H B S' := by
  obtain ⟨S1, S2, s1, s2, dj, r, w⟩ := h.pop
  have lt := w.lt
  have q := RS.put (i := τ.length + i) (v := some v) (o := some o) (S1 := S1) w.rs (by simp [w.lt]; omega) dj fun x e => by cases e; exact ⟨v, rfl, r⟩
  rw [List.set_append_right _ _ (by simp), List.set_append_right _ _ (by simp [lt]), List.length_map, List.length_map, ← lt, Nat.add_sub_cancel_left] at q
  exact ⟨_, w.fr, w.pu, w.b0, fun a z => z.elim (fun z => h.ow a (s1 a z)) (fun z => w.ow a z), w.nw, q, w.lt, w.tp⟩
/-- a slot is forgotten, its thing on the pile -/
theorem HW.take (h : HW K F B0 τ T σ Γ H B S) (e : Γ[i]? = some (some o)) : ∃ v S', σ[i]? = some (some v) ∧ HW K F B0 (v :: τ) (o :: T) σ (Γ.set i none) H B S' := by
  obtain ⟨v, S1, S2, a, b, c, d, ro, f⟩ := h.slot e
  have hl : i < σ.length := (List.getElem?_eq_some_iff.mp a).1
  have z := f B H (fun _ => False) (some v) none (.refl B) (fun _ _ _ q => q) (fun _ z => z.elim) (fun x q => by cases q)
  have e2 : σ.set i (some v) = σ := by
    apply List.ext_getElem?
    intro n
    by_cases hn : n = i
    · subst hn; rw [List.getElem?_set_self hl, a]
    · rw [List.getElem?_set_ne (Ne.symm hn)]
  rw [e2] at z
  exact ⟨v, fun b => S1 b ∨ S2 b, a, h.fr, h.pu, h.b0, fun a z => z.elim (fun z => h.ow a (b a z)) (fun z => h.ow a (c a z)), h.nw,
    .cons (fun _ z => .inl z) (fun _ z => .inr z) d ro (z.tr (.refl B) (fun a z => z.elim False.elim id) fun _ _ _ e => e), by simp [h.lt], h.tp⟩
/-- a pure name -/
theorem go_var (e : Γ[i]? = some (some (.d x))) (h : post (.d x) Γ) : Go K F B0 (tVar i) T Γ post := fun τ σ H Q ⟨B, S, w⟩ k => by
  obtain ⟨v, a, r⟩ := w.getd e
  exact ⟨v, a, k v _ Γ H h ⟨B, _, w.pushd r⟩⟩
/-- an owned thing is handed on: its name holds nothing known from then on -/
theorem go_move (e : Γ[i]? = some (some o)) (h : post o (Γ.set i none)) : Go K F B0 (tVar i) T Γ post := fun τ σ H Q ⟨B, S, w⟩ k => by
  obtain ⟨v, S', a, w⟩ := w.take e
  exact ⟨v, a, k v _ _ H h ⟨B, S', w⟩⟩
/-- an owned thing becomes pure for good -/
theorem go_fz (e : Γ[i]? = some (some o)) (h : post (.d o.fz) (Γ.set i (some (.d o.fz)))) : Go K F B0 (tVar i) T Γ post := fun τ σ H Q ⟨B, S, w⟩ k => by
  obtain ⟨v, S', a, w⟩ := w.take e
  obtain ⟨B', S'', w, _⟩ := w.fz
  obtain ⟨r, _⟩ := w.popd
  obtain ⟨S3, w3⟩ := w.put (i := i) (by simpa using (List.getElem?_eq_some_iff.mp e).1)
  have hl : i < σ.length := (List.getElem?_eq_some_iff.mp a).1
  have e2 : σ.set i (some v) = σ := by
    apply List.ext_getElem?
    intro n
    by_cases hn : n = i
    · subst hn; rw [List.getElem?_set_self hl, a]
    · rw [List.getElem?_set_ne (Ne.symm hn)]
  rw [e2, List.set_set] at w3
  exact ⟨v, a, k v _ _ H h ⟨B', _, w3.pushd r⟩⟩
theorem go_int {n : Int} (h : post (.d (.int n)) Γ) : Go K F B0 (tC (.int n)) T Γ post := fun τ σ H Q ⟨B, S, w⟩ k => k _ _ Γ H h ⟨B, _, w.pushd .int⟩
theorem go_bl {n : Bool} (h : post (.d (.bl n)) Γ) : Go K F B0 (tC (.bl n)) T Γ post := fun τ σ H Q ⟨B, S, w⟩ k => k _ _ Γ H h ⟨B, _, w.pushd .bl⟩
theorem go_str {n : Str} (h : post (.d (.str n)) Γ) : Go K F B0 (tC (.str n)) T Γ post := fun τ σ H Q ⟨B, S, w⟩ k => k _ _ Γ H h ⟨B, _, w.pushd .str⟩
theorem go_non (h : post (.d .non) Γ) : Go K F B0 (tC .non) T Γ post := fun τ σ H Q ⟨B, S, w⟩ k => k _ _ Γ H h ⟨B, _, w.pushd .non⟩
theorem go_ty {n : String} (h : post (.d (.ty n)) Γ) : Go K F B0 (tC (.ty n)) T Γ post := fun τ σ H Q ⟨B, S, w⟩ k => k _ _ Γ H h ⟨B, _, w.pushd .ty⟩
theorem go_ref {a : Addr} (h : post (.d (.ref a)) Γ) : Go K F B0 (tC (.ref a)) T Γ post := fun τ σ H Q ⟨B, S, w⟩ k => k _ _ Γ H h ⟨B, _, w.pushd .ref⟩
/-- a constant of the module that is data -/
theorem go_cst {c : V} (q : ∀ B, R K B c x) (h : post (.d x) Γ) : Go K F B0 (tC c) T Γ post := fun τ σ H Q ⟨B, S, w⟩ k => k _ _ Γ H h ⟨B, _, w.pushd (q B)⟩
theorem HW.fzd (h : HW K F B0 (v :: τ) (o :: T) σ Γ H B S) : ∃ B' S', HW K F B0 τ T σ Γ H B' S' ∧ R K B' v o.fz ∧ BLe B B' := by
  obtain ⟨B', S', w, e⟩ := h.fz
  obtain ⟨r, S2, _, w⟩ := w.popd
  exact ⟨B', S2, w, r, e⟩
theorem go_op (h : Go K F B0 ta T Γ fun o1 Γ1 => Go K F B0 tb (.d o1.fz :: T) Γ1 fun o2 Γ2 => Op2 K F B0 r o1.fz o2.fz T Γ2 post) : Go K F B0 (tOp r ta tb) T Γ post := fun τ σ H Q hw k =>
  h τ σ H _ hw fun v1 o1 Γ1 H1 h1 ⟨_, _, w1⟩ => by
    obtain ⟨_, _, w1, _⟩ := w1.fz
    refine h1 _ σ H1 _ ⟨_, _, w1⟩ fun v2 o2 Γ2 H2 h2 ⟨_, _, w2⟩ => ?_
    obtain ⟨_, _, w2, r2, _⟩ := w2.fzd
    obtain ⟨r1, _, _, w2⟩ := w2.popd
    exact h2 τ σ H2 _ _ v1 v2 Q w2 r1 r2 k
theorem go_un {r : V → Hp → VK → Prop} (h : Go K F B0 ta T Γ fun o1 Γ1 => Op1 K F B0 r o1.fz T Γ1 post) : Go K F B0 (tUn r ta) T Γ post := fun τ σ H Q hw k =>
  h τ σ H _ hw fun v1 o1 Γ1 H1 h1 ⟨_, _, w1⟩ => by
    obtain ⟨_, _, w1, r1, _⟩ := w1.fzd
    exact h1 τ σ H1 _ _ v1 Q w1 r1 k
theorem goa_nil (h : posts [] Γ) : GoA K F B0 tNil T Γ posts := fun τ σ H Q hw k => k [] [] Γ H h hw rfl
theorem goa_cons {tr : TA} (h : Go K F B0 ta T Γ fun o1 Γ1 => GoA K F B0 tr (.d o1.fz :: T) Γ1 fun xs Γ2 => posts (o1.fz :: xs) Γ2) : GoA K F B0 (tCons ta tr) T Γ posts := fun τ σ H Q hw k =>
  h τ σ H _ hw fun v1 o1 Γ1 H1 h1 ⟨_, _, w1⟩ => by
    obtain ⟨_, _, w1, _⟩ := w1.fz
    refine h1 _ σ H1 _ ⟨_, _, w1⟩ fun vs xs Γ2 H2 h2 w2 hl => ?_
    refine k (v1 :: vs) (o1.fz :: xs) Γ2 H2 h2 ?_ (by simp [hl])
    simpa using w2
/-- the held arguments, as a list -/
theorem HW.args : ∀ {xs : List D} {vs : List V} {τ : List V} {T : List O} {S : Ad}, HW K F B0 (vs.reverse ++ τ) ((xs.map O.d).reverse ++ T) σ Γ H B S → vs.length = xs.length → RL K B vs xs ∧ ∃ S', HW K F B0 τ T σ Γ H B S'
  | [], [], _, _, S, h, _ => ⟨.nil, S, h⟩
  | x :: xs, v :: vs, τ, T, S, h, hl => by
    have h' : HW K F B0 (vs.reverse ++ (v :: τ)) ((xs.map O.d).reverse ++ (.d x :: T)) σ Γ H B S := by simpa using h
    obtain ⟨r, S', w⟩ := HW.args h' (by simpa using hl)
    obtain ⟨r1, S2, _, w⟩ := w.popd
    exact ⟨.cons r1 r, S2, w⟩
theorem go_cb {r : List V → Hp → VK → Prop} {t : TA} (h : GoA K F B0 t T Γ fun xs Γ1 => OpA K F B0 r xs T Γ1 post) : Go K F B0 (tCB r t) T Γ post := fun τ σ H Q hw k =>
  h τ σ H _ hw fun vs xs Γ1 H1 h1 ⟨_, _, w1⟩ hl => by
    obtain ⟨rl, S', w⟩ := w1.args hl
    exact h1 τ σ H1 _ S' vs Q w rl k
theorem HW.newd {p : Addr} {c : HO} (h : HW K F B0 τ T σ Γ H B S) (hp : H p = none) (r : R K (upd B p c) v x) : ∃ S', HW K F B0 (v :: τ) (.d x :: T) σ Γ (upd H p c) (upd B p c) S' :=
  ⟨_, h.push (S' := fun _ => False) (.new hp) (.of_ex (.new (h.pu.back hp))) (fun a u e => by
    by_cases q : a = p
    · subst q; rw [upd_same] at e ⊢; exact e
    · rw [upd_ne q] at e ⊢; exact h.pu a u e) (fun a z => by
    by_cases q : a = p
    · subst q; exact .inr hp
    · rw [upd_ne q] at z; exact .inl z) (fun _ z => z.elim) (.d r)⟩
theorem HW.newo {p : Addr} {c : HO} (h : HW K F B0 τ T σ Γ H B S) (hp : H p = none) (r : RO K B (upd H p c) (fun a => a = p) v o) : ∃ S', HW K F B0 (v :: τ) (o :: T) σ Γ (upd H p c) B S' :=
  ⟨_, h.push (S' := fun a => a = p) (.new hp) (.refl B) (fun a u e => (Ex.new hp) a u (h.pu a u e)) (fun a z => .inl z) (fun a z => by subst z; exact ⟨hp, h.pu.back hp, by rw [upd_same]; simp⟩) r⟩
theorem fl_of {xs : List D} {vs : List V} {S : Ad} (r : RL K B vs xs) : RS K B H S (vs.map some) ((xs.map O.d).map some) := by
  induction vs generalizing xs with
  | nil => cases r; exact .nil
  | cons v vs ih => cases r with | cons a b => exact .cons (S1 := fun _ => False) (S2 := S) (fun _ z => z.elim) (fun _ z => z) (fun _ z => z.elim) (.d a) (ih b)
theorem RL.length {xs : List D} {vs : List V} (r : RL K B vs xs) : vs.length = xs.length := by
  induction vs generalizing xs with
  | nil => cases r; rfl
  | cons v vs ih => cases r with | cons a b => simp [ih b]
theorem go_tup {t : TA} (h : GoA K F B0 t T Γ fun xs Γ1 => xs.length ≤ 1000 ∧ post (.d (.tup xs)) Γ1) : Go K F B0 (tTup t) T Γ post := fun τ σ H Q hw k =>
  h τ σ H _ hw fun vs xs Γ1 H1 ⟨hz, h1⟩ ⟨_, _, w1⟩ hl => by
    obtain ⟨rl, S', w⟩ := w1.args hl
    refine ⟨Nat.le_trans (by rw [hl]; exact hz) (by decide), fun p hp => ?_⟩
    obtain ⟨S2, w⟩ := w.newd (x := .tup xs) hp (.tup (SqT.of upd_same) (rl.mono (.of_ex (.new (w.pu.back hp)))))
    exact k _ _ _ _ h1 ⟨_, _, w⟩
theorem HW.newl {p : Addr} {xs : List D} {vs : List V} (h : HW K F B0 τ T σ Γ H B S) (hp : H p = none) (rl : RL K B vs xs) : ∃ S', HW K F B0 (.ref p :: τ) (.ol (xs.map O.d) :: T) σ Γ (upd H p (.lst vs)) B S' :=
  h.newo hp (.ol (S' := fun _ => False) rfl (fun _ z => z.elim) id upd_same (fl_of rl))
theorem go_lst {t : TA} (h : GoA K F B0 t T Γ fun xs Γ1 => xs.length ≤ 1000 ∧ post (.ol (xs.map O.d)) Γ1) : Go K F B0 (tLst t) T Γ post := fun τ σ H Q hw k =>
  h τ σ H _ hw fun vs xs Γ1 H1 ⟨hz, h1⟩ ⟨_, _, w1⟩ hl => by
    obtain ⟨rl, S', w⟩ := w1.args hl
    refine ⟨Nat.le_trans (by rw [hl]; exact hz) (by decide), fun p hp => ?_⟩
    obtain ⟨S2, w⟩ := w.newl hp rl
    exact k _ _ _ _ h1 ⟨_, _, w⟩
theorem go_if (h : GoT K F B0 tt T Γ fun b Γ1 => (b = true → Go K F B0 ta T Γ1 post) ∧ (b = false → Go K F B0 tb T Γ1 post)) : Go K F B0 (tIf tt ta tb) T Γ post := fun τ σ H Q hw k =>
  h τ σ H _ hw fun b Γ1 H1 ⟨h1, h2⟩ w1 => by
    cases b with
    | true => exact iteT (h1 rfl τ σ H1 Q w1 k)
    | false => exact iteF (h2 rfl τ σ H1 Q w1 k)
theorem got_test (h : Go K F B0 te T Γ fun o Γ1 => ∃ b, o = .d (.bl b) ∧ postt b Γ1) : GoT K F B0 (tTest te) T Γ postt := fun τ σ H Q hw k =>
  h τ σ H _ hw fun v o Γ1 H1 ⟨b, e, h1⟩ ⟨_, _, w1⟩ => by
    subst e
    obtain ⟨r, _, _, w⟩ := w1.popd
    cases r
    exact ⟨b, rfl, k b Γ1 H1 h1 ⟨_, _, w⟩⟩
theorem got_B (h : Go K F B0 te T Γ fun o Γ1 => ∃ b, o = .d (.bl b) ∧ postt b Γ1) : GoT K F B0 (tB te) T Γ postt := fun τ σ H Q hw k => got_test h τ σ H Q hw k
theorem got_and (h : GoT K F B0 tt T Γ fun b Γ1 => (b = true → GoT K F B0 tu T Γ1 postt) ∧ (b = false → postt false Γ1)) : GoT K F B0 (tAnd tt tu) T Γ postt := fun τ σ H Q hw k =>
  h τ σ H _ hw fun b Γ1 H1 ⟨h1, h2⟩ w1 => by
    cases b with
    | true => exact iteT (h1 rfl τ σ H1 Q w1 k)
    | false => exact iteF (k _ _ _ (h2 rfl) w1)
theorem got_or (h : GoT K F B0 tt T Γ fun b Γ1 => (b = true → postt true Γ1) ∧ (b = false → GoT K F B0 tu T Γ1 postt)) : GoT K F B0 (tOr tt tu) T Γ postt := fun τ σ H Q hw k =>
  h τ σ H _ hw fun b Γ1 H1 ⟨h1, h2⟩ w1 => by
    cases b with
    | true => exact iteT (k _ _ _ (h1 rfl) w1)
    | false => exact iteF (h2 rfl τ σ H1 Q w1 k)
theorem got_not (h : GoT K F B0 tt T Γ fun b Γ1 => postt (!b) Γ1) : GoT K F B0 (tNot tt) T Γ postt := fun τ σ H Q hw k =>
  h τ σ H _ hw fun b Γ1 H1 h1 w1 => k _ _ _ h1 w1
theorem go_andV (h : Go K F B0 ta T Γ fun o Γ1 => ∃ b, o = .d (.bl b) ∧ (b = true → Go K F B0 tb T Γ1 post) ∧ (b = false → post (.d (.bl false)) Γ1)) : Go K F B0 (tAndV ta tb) T Γ post := fun τ σ H Q hw k =>
  h τ σ H _ hw fun v o Γ1 H1 ⟨b, e, h1, h2⟩ ⟨_, _, w1⟩ => by
    subst e
    obtain ⟨r, _, _, w⟩ := w1.popd
    cases r
    refine ⟨b, rfl, ?_⟩
    cases b with
    | true => exact iteT (h1 rfl τ σ H1 Q ⟨_, _, w⟩ k)
    | false => exact iteF (k _ _ _ _ (h2 rfl) ⟨_, _, w1⟩)
theorem go_orV (h : Go K F B0 ta T Γ fun o Γ1 => ∃ b, o = .d (.bl b) ∧ (b = true → post (.d (.bl true)) Γ1) ∧ (b = false → Go K F B0 tb T Γ1 post)) : Go K F B0 (tOrV ta tb) T Γ post := fun τ σ H Q hw k =>
  h τ σ H _ hw fun v o Γ1 H1 ⟨b, e, h1, h2⟩ ⟨_, _, w1⟩ => by
    subst e
    obtain ⟨r, _, _, w⟩ := w1.popd
    cases r
    refine ⟨b, rfl, ?_⟩
    cases b with
    | true => exact iteT (k _ _ _ _ (h1 rfl) ⟨_, _, w1⟩)
    | false => exact iteF (h2 rfl τ σ H1 Q ⟨_, _, w⟩ k)
theorem go_notV (h : Go K F B0 ta T Γ fun o Γ1 => ∃ b, o = .d (.bl b) ∧ post (.d (.bl (!b))) Γ1) : Go K F B0 (tNotV ta) T Γ post := fun τ σ H Q hw k =>
  h τ σ H _ hw fun v o Γ1 H1 ⟨b, e, h1⟩ ⟨_, _, w1⟩ => by
    subst e
    obtain ⟨r, _, _, w⟩ := w1.popd
    cases r
    exact ⟨b, rfl, k _ _ _ _ h1 ⟨_, _, w.pushd .bl⟩⟩
variable {t1 t2 : TS} {Dd : EG}
theorem gos_seq (h : GoS K F B0 t1 T Γ { Dd with nx := fun Γ1 => GoS K F B0 t2 T Γ1 Dd }) : GoS K F B0 (tSeq t1 t2) T Γ Dd := fun τ σ H De hw s =>
  h τ σ H _ hw ⟨fun σ1 Γ1 H1 q w => q τ σ1 H1 De w s, s.rt, s.bk, s.ct⟩
theorem gos_next (h : Dd.nx Γ) : GoS K F B0 tNext T Γ Dd := fun τ σ H De hw s => s.nx σ Γ H h hw
theorem gos_brk (h : Dd.bk Γ) : GoS K F B0 tBreak T Γ Dd := fun τ σ H De hw s => s.bk σ Γ H h hw
theorem gos_cont (h : Dd.ct Γ) : GoS K F B0 tCont T Γ Dd := fun τ σ H De hw s => s.ct σ Γ H h hw
theorem gos_ret (h : Go K F B0 te T Γ Dd.rt) : GoS K F B0 (tRet te) T Γ Dd := fun τ σ H De hw s => h τ σ H _ hw fun v o Γ1 H1 h1 w1 => s.rt v o σ Γ1 H1 h1 w1
theorem gos_asg {g : TG} (h : Go K F B0 te T Γ fun o Γ1 => GoG K F B0 g o T Γ1 Dd.nx) : GoS K F B0 (tAsg te g) T Γ Dd := fun τ σ H De hw s =>
  h τ σ H _ hw fun v o Γ1 H1 h1 w1 => h1 τ σ H1 v _ w1 fun σ2 Γ2 H2 h2 w2 => s.nx σ2 Γ2 H2 h2 w2
theorem gog_name (hi : i < Γ.length) (h : posts1 (Γ.set i (some o))) : GoG K F B0 (gName i) o T Γ posts1 := fun τ σ H v Q ⟨_, _, w⟩ k => by
  obtain ⟨S', w⟩ := w.put hi
  exact k _ _ _ h ⟨_, S', w⟩
theorem gos_drop (h : Go K F B0 te T Γ fun _ Γ1 => Dd.nx Γ1) : GoS K F B0 (tDrop te) T Γ Dd := fun τ σ H De hw s =>
  h τ σ H _ hw fun v o Γ1 H1 h1 ⟨_, _, w1⟩ => by
    obtain ⟨_, _, _, _, _, _, w⟩ := w1.pop
    exact s.nx σ Γ1 H1 h1 ⟨_, _, w⟩
theorem gos_if (h : GoT K F B0 tt T Γ fun b Γ1 => (b = true → GoS K F B0 t1 T Γ1 Dd) ∧ (b = false → GoS K F B0 t2 T Γ1 Dd)) : GoS K F B0 (tIfS tt t1 t2) T Γ Dd := fun τ σ H De hw s =>
  h τ σ H _ hw fun b Γ1 H1 ⟨h1, h2⟩ w1 => by
    cases b with
    | true => exact iteT (h1 rfl τ σ H1 De w1 s)
    | false => exact iteF (h2 rfl τ σ H1 De w1 s)
/-- x op= e of a name -/
theorem gos_aug {ip : TIp} (h : ∃ x, Γ[i]? = some (some (.d x)) ∧ Go K F B0 te (.d x :: T) Γ fun o Γ1 => Op2 K F B0 ip x o.fz T Γ1 fun o2 Γ2 => i < Γ2.length ∧ Dd.nx (Γ2.set i (some o2))) : GoS K F B0 (tAug i te ip) T Γ Dd := fun τ σ H De ⟨_, _, w⟩ s => by
  obtain ⟨x, e, h⟩ := h
  obtain ⟨v, a, r⟩ := w.getd e
  refine ⟨v, a, h _ σ H _ ⟨_, _, w.pushd r⟩ fun v2 o2 Γ2 H2 h2 ⟨_, _, w2⟩ => ?_⟩
  obtain ⟨_, _, w2, r2, _⟩ := w2.fzd
  obtain ⟨r1, _, _, w2⟩ := w2.popd
  refine h2 τ σ H2 _ _ v v2 _ w2 r1 r2 fun v3 o3 Γ3 H3 ⟨hi, h3⟩ ⟨_, _, w3⟩ => ?_
  obtain ⟨S', w3⟩ := w3.put hi
  exact s.nx _ _ _ h3 ⟨_, S', w3⟩
end
end SK
namespace SK
open PySem PySem.Spec PyProof.Rows L2
section
variable {K : PySem.W.Frag} {F B0 H H' B B' : Hp} {τ τs : List V} {T os : List O} {σ : L2.St} {Γ : En} {S S1 S2 : Ad} {v : V} {o o1 o2 : O} {x : D} {post : O → En → Prop} {ta tb te : TE} {tt tu : TT} {i : Nat} {posts : List D → En → Prop} {postt : Bool → En → Prop} {posts1 : En → Prop} {Dd : EG}
/-- the pile's topmost things fall away -/
theorem HW.drop : ∀ {τs : List V} {os : List O} {S : Ad}, HW K F B0 (τs ++ τ) (os ++ T) σ Γ H B S → τs.length = os.length → ∃ S', HW K F B0 τ T σ Γ H B S'
  | [], [], S, h, _ => ⟨S, h⟩
  | v :: τs, o :: os, S, h, l => by
    obtain ⟨_, _, _, _, _, _, w⟩ := HW.pop (τ := τs ++ τ) (T := os ++ T) h
    exact w.drop (by simpa using l)
theorem RS.drop1 {a : Option V} {b : Option O} {σ : List (Option V)} {Γ : List (Option O)} {S : Ad} (h : RS K B H S (a :: σ) (b :: Γ)) : RS K B H S σ Γ := by
  cases h with
  | un r => exact r
  | cons s1 s2 dj r rs => exact rs.tr (.refl B) s2 fun _ _ _ e => e
theorem RS.drops {σ1 : List (Option V)} {Γ1 : List (Option O)} : ∀ {σ0 : List (Option V)} {Γ0 : List (Option O)} {S : Ad}, σ0.length = Γ0.length → RS K B H S (σ0 ++ σ1) (Γ0 ++ Γ1) → RS K B H S σ1 Γ1
  | [], [], _, _, h => h
  | _ :: _, _ :: _, _, l, h => RS.drops (by simpa using l) (RS.drop1 h)
/-- what lies below the first thing falls away -/
theorem HW.under (h : HW K F B0 (v :: (τs ++ τ)) (o :: (os ++ T)) σ Γ H B S) (l : τs.length = os.length) : HW K F B0 (v :: τ) (o :: T) σ Γ H B S := by
  refine ⟨h.fr, h.pu, h.b0, h.ow, h.nw, ?_, ?_, h.tp⟩
  · have r := h.rs
    simp only [List.map_cons, List.map_append, List.cons_append, List.append_assoc] at r ⊢
    cases r with
    | cons s1 s2 dj a rs => exact .cons s1 s2 dj a (rs.drops (by simp [l]))
  · have := h.lt
    simp only [List.length_cons, List.length_append] at this ⊢
    omega
theorem RL.one {x : D} {vs : List V} (r : RL K B vs [x]) : ∃ v, vs = [v] ∧ R K B v x := by
  cases r with | cons r t => cases t; exact ⟨_, rfl, r⟩
theorem RL.two {x y : D} {vs : List V} (r : RL K B vs [x, y]) : ∃ v w, vs = [v, w] ∧ R K B v x ∧ R K B w y := by
  cases r with | cons r t => cases t with | cons r2 t => cases t; exact ⟨_, _, rfl, r, r2⟩
/-- J walks ds, while hs (at τs) stand -/
def Iter (K : PySem.W.Frag) (F B0 : Hp) (J : It) (τs : List V) (hs : List D) (ds : List D) : Prop :=
  ∀ (τ : List V) (T : List O) (σ : L2.St) (Γ : En) (H B : Hp) (S : Ad), HW K F B0 τ T σ Γ H B S → RL K B τs hs →
    (J.stop ds.length H) ∧ ∀ (i : Nat) (d : D), ds[i]? = some d → J.go i H ∧ ∀ x H', J.yld i H x H' → ∃ B' S', HW K F B0 (x :: τ) (.d d :: T) σ Γ H' B' S'
def GoI (K : PySem.W.Frag) (F B0 : Hp) (wi : TI) (T : List O) (Γ : En) (post : List D → List D → En → Prop) : Prop := ∀ (τ : List V) (σ : L2.St) (H : Hp) (Q : It → Hp → Prop), Ho K F B0 τ T σ Γ H →
  (∀ J τs hs ds Γ' H', post ds hs Γ' → Ho K F B0 (τs ++ τ) (hs.map O.d ++ T) σ Γ' H' → τs.length = hs.length → Iter K F B0 J τs hs ds → Q J H') → wi σ H Q
theorem HW.held : ∀ {hs : List D} {τs : List V} {S : Ad}, HW K F B0 (τs ++ τ) (hs.map O.d ++ T) σ Γ H B S → τs.length = hs.length → RL K B τs hs
  | [], [], _, _, _ => .nil
  | x :: hs, v :: τs, S, h, l => by
    obtain ⟨r, S2, _, w⟩ := HW.popd (τ := τs ++ τ) (T := hs.map O.d ++ T) h
    exact .cons r (w.held (by simpa using l))
theorem gos_for {wi : TI} {g : TG} {tb : TS} (h : GoI K F B0 wi T Γ fun ds hs Γ1 => ∃ Iv : Nat → En → Prop, Iv 0 Γ1 ∧
    (∀ i d Γ', ds[i]? = some d → Iv i Γ' → GoG K F B0 g (.d d) (hs.map O.d ++ T) Γ' fun Γ2 => GoS K F B0 tb (hs.map O.d ++ T) Γ2 { nx := Iv (i + 1), rt := Dd.rt, bk := Dd.nx, ct := Iv (i + 1) }) ∧
    ∀ Γ', Iv ds.length Γ' → Dd.nx Γ') : GoS K F B0 (tFor wi g tb) T Γ Dd := fun τ σ H De hw s =>
  h τ σ H _ hw fun J τs hs ds Γ1 H1 ⟨Iv, h0, hst, hd⟩ w1 hl it => by
    have hl' : τs.length = (hs.map O.d).length := by simp [hl]
    refine ⟨fun i m σ' H' => m = ds.length - i ∧ i ≤ ds.length ∧ ∃ Γ', Iv i Γ' ∧ Ho K F B0 (τs ++ τ) (hs.map O.d ++ T) σ' Γ' H', ⟨ds.length, by simp, Nat.zero_le _, Γ1, h0, w1⟩, ?_⟩
    rintro i m σ' H' ⟨rfl, hi, Γ', p, B', S', w⟩
    obtain ⟨q1, q2⟩ := it _ _ σ' Γ' H' B' S' w (w.held hl)
    by_cases hlt : i < ds.length
    · obtain ⟨q3, q4⟩ := q2 i ds[i] (by simp [hlt])
      refine .inr ⟨q3, fun σ2 H2 => ∃ Γ2, Iv (i + 1) Γ2 ∧ Ho K F B0 (τs ++ τ) (hs.map O.d ++ T) σ2 Γ2 H2, fun σ2 H2 z => ⟨ds.length - (i + 1), by omega, rfl, hlt, z⟩, fun x H2 y => ?_⟩
      obtain ⟨B2, S2, w2⟩ := q4 x H2 y
      refine hst i ds[i] Γ' (by simp [hlt]) p (τs ++ τ) σ' H2 x _ ⟨B2, S2, w2⟩ fun σ3 Γ3 H3 h3 w3 => h3 _ σ3 H3 _ w3 ⟨fun σ4 Γ4 H4 z w4 => ⟨Γ4, z, w4⟩, fun v o σ4 Γ4 H4 z ⟨B4, S4, w4⟩ => s.rt v o σ4 Γ4 H4 z ⟨B4, S4, w4.under hl'⟩,
        fun σ4 Γ4 H4 z ⟨B4, S4, w4⟩ => ?_, fun σ4 Γ4 H4 z w4 => ⟨Γ4, z, w4⟩⟩
      obtain ⟨S5, w5⟩ := w4.drop hl'
      exact s.nx σ4 Γ4 H4 z ⟨B4, S5, w5⟩
    · have e : i = ds.length := by omega
      subst e
      obtain ⟨S5, w5⟩ := w.drop hl'
      exact .inl ⟨q1, s.nx σ' Γ' H' (hd Γ' p) ⟨B', S5, w5⟩⟩
theorem RL.get : ∀ {vs : List V} {xs : List D} {i : Nat} {x : D}, RL K B vs xs → xs[i]? = some x → ∃ v, vs[i]? = some v ∧ R K B v x
  | _, _, _, _, .nil, h => by simp at h
  | _, _, 0, _, .cons (v := v) r _, h => by simp at h; subst h; exact ⟨v, rfl, r⟩
  | _, _, i + 1, x, .cons _ t, h => by
    obtain ⟨v, a, b⟩ := RL.get (i := i) t (by simpa using h)
    exact ⟨v, by simpa using a, b⟩
theorem Rd.inj {a : Addr} {xs ys : List V} (h : Rd H a (.lst xs)) (h' : Rd H a (.lst ys)) : xs = ys := by
  rcases h with h | ⟨o, h⟩ <;> rcases h' with h' | ⟨o', h'⟩ <;> rw [h] at h' <;> cases h' <;> rfl
theorem Ex.sqL (e : Ex H H') {a : Addr} {xs : List V} (h : SqL K H a xs) : SqL K H' a xs := h.imp e.rd id
theorem Ex.sqT (e : Ex H H') {a : Addr} {xs : List V} (h : SqT K H a xs) : L2.SqT K H' a xs := .inl (.inl (e _ _ h))
theorem Ex.sqT' (e : Ex H H') {a : Addr} {xs : List V} (h : L2.SqT K H a xs) : L2.SqT K H' a xs := h.imp e.rd id
/-- what a name's walk says of a list -/
def D.seq? : D → Option (List D)
  | .lst xs => some xs
  | .sq xs => some xs
  | _ => none
theorem R.seqL {xs : List D} (r : R K B v x) (q : x.seq? = some xs) : ∃ a vs, v = .ref a ∧ SqL K B a vs ∧ RL K B vs xs := by
  cases r with
  | lst h r => cases q; exact ⟨_, _, rfl, SqL.of h, r⟩
  | sq h r => cases q; exact ⟨_, _, rfl, h, r⟩
  | _ => cases q
theorem iter_list {a : Addr} {xs : List D} (q : x.seq? = some xs) : Iter K F B0 (Itl K a) [.ref a] [x] xs := by
  intro τ T σ Γ H B S h rl0
  obtain ⟨v0, e0, r⟩ := rl0.one
  cases e0
  obtain ⟨a', vs, e, sq, rl⟩ := r.seqL q
  cases e
  have sqh := h.pu.sqL sq
  refine ⟨⟨vs, sqh, by rw [rl.length]; exact Nat.le_refl _⟩, fun i d hd => ?_⟩
  obtain ⟨y, hy, ry⟩ := rl.get hd
  refine ⟨⟨vs, y, sqh, hy⟩, fun x H' ⟨e, y'⟩ => ?_⟩
  subst e
  have := y' vs sqh
  rw [hy] at this
  cases this
  exact ⟨B, _, h.pushd ry⟩
theorem iter_tup {a : Addr} {xs : List D} : Iter K F B0 (Itt K a) [.ref a] [.tup xs] xs := by
  intro τ T σ Γ H B S h rl0
  obtain ⟨v0, e0, r⟩ := rl0.one
  cases e0
  cases r with
  | @tup _ vs _ sq rl =>
  have sqh := h.pu.sqT sq
  refine ⟨⟨vs, sqh, by rw [rl.length]; exact Nat.le_refl _⟩, fun i d hd => ?_⟩
  obtain ⟨y, hy, ry⟩ := rl.get hd
  refine ⟨⟨vs, y, sqh, hy⟩, fun x H' ⟨e, y'⟩ => ?_⟩
  subst e
  have := y' vs sqh
  rw [hy] at this
  cases this
  exact ⟨B, _, h.pushd ry⟩
def rngD (lo : Int) (n : Nat) : List D := (List.range n).map fun (i : Nat) => D.int (lo + (i : Int))
theorem iter_rng {lo : Int} {n : Nat} : Iter K F B0 (Itr lo n) [] [] (rngD lo n) := by
  intro τ T σ Γ H B S h _
  refine ⟨by simp [rngD, Itr], fun i d hd => ?_⟩
  have hi : i < n := by
    have := (List.getElem?_eq_some_iff.mp hd).1
    simpa [rngD] using this
  have e : d = .int (lo + (i : Int)) := by
    simp [rngD, hi] at hd
    exact hd.symm
  refine ⟨hi, fun x H' ⟨e1, e2⟩ => ?_⟩
  subst e1 e2 e
  exact ⟨B, _, HW.pushd (τ := τ) (T := T) h .int⟩
theorem goi_rng1 {ta : TA} {posti : List D → List D → En → Prop} (h : GoA K F B0 ta T Γ fun xs Γ1 => ∃ j : Int, xs = [.int j] ∧ -(2 ^ 62) ≤ j ∧ j < 2 ^ 62 ∧ posti (rngD 0 j.toNat) [] Γ1) : GoI K F B0 (iRng1 ta) T Γ posti := fun τ σ H Q hw k =>
  h τ σ H _ hw fun vs xs Γ1 H1 ⟨j, e, q1, q2, h1⟩ ⟨_, _, w1⟩ hl => by
    subst e
    obtain ⟨rl, S', w⟩ := w1.args hl
    cases rl with | cons r rl => cases rl; cases r; exact ⟨j, rfl, q1, q2, k _ [] [] _ Γ1 H1 h1 ⟨_, _, w⟩ rfl iter_rng⟩
theorem goi_rng2 {ta : TA} {posti : List D → List D → En → Prop} (h : GoA K F B0 ta T Γ fun xs Γ1 => ∃ i j : Int, xs = [.int i, .int j] ∧ (-(2 ^ 62) ≤ i ∧ i < 2 ^ 62 ∧ -(2 ^ 62) ≤ j ∧ j < 2 ^ 62) ∧ posti (rngD i (j - i).toNat) [] Γ1) : GoI K F B0 (iRng2 ta) T Γ posti := fun τ σ H Q hw k =>
  h τ σ H _ hw fun vs xs Γ1 H1 ⟨i, j, e, q, h1⟩ ⟨_, _, w1⟩ hl => by
    subst e
    obtain ⟨rl, S', w⟩ := w1.args hl
    cases rl with | cons r rl => cases rl with | cons r2 rl => cases rl; cases r; cases r2; exact ⟨i, j, rfl, q, k _ [] [] _ Γ1 H1 h1 ⟨_, _, w⟩ rfl iter_rng⟩
def sgnD (s : Str) : List D := s.cps.toList.map fun c => D.str ⟨#[c]⟩
theorem iter_str {s : Str} : Iter K F B0 (Its s) [] [] (sgnD s) := by
  intro τ T σ Γ H B S h _
  refine ⟨by simp [sgnD, Its], fun i d hd => ?_⟩
  have hi : i < s.cps.size := by
    have := (List.getElem?_eq_some_iff.mp hd).1
    simpa [sgnD] using this
  refine ⟨hi, fun x H' ⟨e1, c, e2, e3⟩ => ?_⟩
  subst e1 e3
  have e : d = .str ⟨#[c]⟩ := by
    simp [sgnD, e2] at hd
    exact hd.symm
  subst e
  exact ⟨B, _, HW.pushd (τ := τ) (T := T) h .str⟩
def enumD (xs : List D) : List D := xs.zipIdx.map fun p => D.tup [.int (p.2 : Int), p.1]
theorem enumD_get {xs : List D} {i : Nat} : (enumD xs)[i]? = xs[i]?.map fun x => D.tup [.int (i : Int), x] := by
  simp [enumD, List.getElem?_zipIdx, Option.map_map, Function.comp_def]
theorem enumD_len {xs : List D} : (enumD xs).length = xs.length := by simp [enumD]
theorem iter_enum {a : Addr} {xs : List D} (q : x.seq? = some xs) : Iter K F B0 (Ite K a) [.ref a] [x] (enumD xs) := by
  intro τ T σ Γ H B S h rl0
  obtain ⟨v0, e0, r⟩ := rl0.one
  cases e0
  obtain ⟨a', vs, e, sq, rl⟩ := r.seqL q
  cases e
  have sqh := h.pu.sqL sq
  refine ⟨⟨vs, sqh, by rw [rl.length, enumD_len]; exact Nat.le_refl _⟩, fun i d hd => ?_⟩
  rw [enumD_get] at hd
  cases hx : xs[i]? with
  | none => rw [hx] at hd; cases hd
  | some x0 =>
  rw [hx] at hd
  cases hd
  obtain ⟨y, hy, ry⟩ := rl.get hx
  refine ⟨⟨vs, y, sqh, hy⟩, fun x H' ⟨t, x1, e1, e2, e3, y'⟩ => ?_⟩
  subst e1 e3
  have := y' vs sqh
  rw [hy] at this
  cases this
  obtain ⟨S', w'⟩ := HW.newd h e2 (x := .tup [.int (i : Int), x0]) (.tup (SqT.of upd_same) (.cons .int (.cons (ry.mono (.of_ex (.new (h.pu.back e2)))) .nil)))
  exact ⟨_, S', w'⟩
theorem goi_enum {ta : TA} {posti : List D → List D → En → Prop} (h : GoA K F B0 ta T Γ fun ys Γ1 => ∃ x xs, ys = [x] ∧ x.seq? = some xs ∧ posti (enumD xs) [x] Γ1) : GoI K F B0 (iEnum K ta) T Γ posti := fun τ σ H Q hw k =>
  h τ σ H _ hw fun vs ys Γ1 H1 ⟨x, xs, e, q, h1⟩ ⟨_, _, w1⟩ hl => by
    subst e
    obtain ⟨rl, S', w⟩ := w1.args hl
    cases rl with | cons r rl0 => cases rl0; obtain ⟨a, us, e, sq, rl2⟩ := r.seqL q; subst e; exact ⟨a, us, rfl, w.pu.sqL sq, k (Ite K a) [.ref a] [x] _ Γ1 H1 h1 ⟨_, _, w.pushd r⟩ rfl (iter_enum q)⟩
def zipD (xs ys : List D) : List D := (xs.zip ys).map fun p => D.tup [p.1, p.2]
theorem iter_zip {a b : Addr} {x y : D} {xs ys : List D} (q : x.seq? = some xs) (q2 : y.seq? = some ys) : Iter K F B0 (Itz K a b) [.ref b, .ref a] [y, x] (zipD xs ys) := by
  intro τ T σ Γ H B S h rl0
  obtain ⟨v0, v1, e0, r2, r⟩ := rl0.two
  cases e0
  obtain ⟨a', vs, e, sq, rl⟩ := r.seqL q
  cases e
  obtain ⟨b', us, e, sq2, rl2⟩ := r2.seqL q2
  cases e
  have sqh := h.pu.sqL sq
  have sqh2 := h.pu.sqL sq2
  refine ⟨⟨vs, us, sqh, sqh2, by simp only [zipD, List.length_map, List.length_zip]; have := rl.length; have := rl2.length; omega⟩, fun i d hd => ?_⟩
  have hi : i < (zipD xs ys).length := (List.getElem?_eq_some_iff.mp hd).1
  simp only [zipD, List.length_map, List.length_zip] at hi
  have hxi : i < xs.length := by omega
  have hyi : i < ys.length := by omega
  have e : d = .tup [xs[i], ys[i]] := by
    simp [zipD, hxi, hyi, List.getElem?_map, List.zip, List.getElem?_zipWith] at hd
    exact hd.symm
  subst e
  obtain ⟨x1, hx1, rx1⟩ := rl.get (i := i) (x := xs[i]) (by simp [hxi])
  obtain ⟨y1, hy1, ry1⟩ := rl2.get (i := i) (x := ys[i]) (by simp [hyi])
  refine ⟨⟨vs, us, x1, y1, sqh, sqh2, hx1, hy1⟩, fun z H' ⟨t, x2, y2, e1, e2, e3, f1, f2⟩ => ?_⟩
  subst e1 e3
  have g1 := f1 vs sqh
  rw [hx1] at g1
  cases g1
  have g2 := f2 us sqh2
  rw [hy1] at g2
  cases g2
  have ex : Ex B (upd B t (.tup [x1, y1])) := .new (h.pu.back e2)
  obtain ⟨S', w'⟩ := HW.newd h e2 (x := .tup [xs[i], ys[i]]) (.tup (SqT.of upd_same) (.cons (rx1.mono (.of_ex ex)) (.cons (ry1.mono (.of_ex ex)) .nil)))
  exact ⟨_, S', w'⟩
theorem goi_zip {ta : TA} {posti : List D → List D → En → Prop} (h : GoA K F B0 ta T Γ fun zs Γ1 => ∃ x y xs ys, zs = [x, y] ∧ x.seq? = some xs ∧ y.seq? = some ys ∧ posti (zipD xs ys) [y, x] Γ1) : GoI K F B0 (iZip K ta) T Γ posti := fun τ σ H Q hw k =>
  h τ σ H _ hw fun vs zs Γ1 H1 ⟨x, y, xs, ys, e, q, q2, h1⟩ ⟨_, _, w1⟩ hl => by
    subst e
    obtain ⟨rl, S', w⟩ := w1.args hl
    cases rl with | cons r rl0 => cases rl0 with | cons r2 rl0 => cases rl0; obtain ⟨a, us, e, sq, rl2⟩ := r.seqL q; obtain ⟨b, us2, e2, sq2, rl3⟩ := r2.seqL q2; subst e e2; exact ⟨a, b, us, us2, rfl, w.pu.sqL sq, w.pu.sqL sq2, k (Itz K a b) [.ref b, .ref a] [y, x] _ Γ1 H1 h1 ⟨_, _, (w.pushd r).pushd r2⟩ rfl (iter_zip q q2)⟩
def GoGs (K : PySem.W.Frag) (F B0 : Hp) (g : TGs) (xs : List D) (T : List O) (Γ : En) (post : En → Prop) : Prop := ∀ (τ : List V) (σ : L2.St) (H B : Hp) (S : Ad) (vs : List V) (Q : L2.St → Hp → Prop), HW K F B0 τ T σ Γ H B S → RL K B vs xs →
  (∀ σ' Γ' H', post Γ' → Ho K F B0 τ T σ' Γ' H' → Q σ' H') → g vs σ H Q
theorem gog_tup {g : TGs} {n : Nat} (h : ∃ xs, o = .d (.tup xs) ∧ xs.length = n ∧ GoGs K F B0 g xs T Γ posts1) : GoG K F B0 (gTup K n g) o T Γ posts1 := fun τ σ H v Q ⟨B, S, w⟩ k => by
  obtain ⟨xs, rfl, hn, h⟩ := h
  obtain ⟨r, S2, _, w2⟩ := w.popd
  cases r with
  | @tup a vs _ sq rl => exact ⟨a, vs, rfl, w.pu.sqT sq, by rw [rl.length, hn], h τ σ H B S2 vs Q w2 rl k⟩
theorem gogs_nil (h : posts1 Γ) : GoGs K F B0 gNil [] T Γ posts1 := fun τ σ H B S vs Q w r k => by
  cases r
  exact ⟨rfl, k σ Γ H h ⟨_, _, w⟩⟩
theorem gogs_name {xs : List D} {g : TGs} (hi : i < Γ.length) (h : GoGs K F B0 g xs T (Γ.set i (some (.d x))) posts1) : GoGs K F B0 (gCons (gName i) g) (x :: xs) T Γ posts1 := fun τ σ H B S vs Q w r k => by
  cases r with
  | cons r rl =>
    obtain ⟨S', w'⟩ := (w.pushd r).put hi
    exact ⟨_, _, rfl, h τ _ H B S' _ Q w' rl k⟩
end
end SK
namespace SK
open PySem PySem.Spec PyProof.Rows L2
/-- == of two dicts that hold the same flat things -/
def SameD (H : Hp) (x y : V) : Prop := ∃ a b ks ls, x = .ref a ∧ y = .ref b ∧ Rd H a (.dK ks) ∧ Rd H b (.dK ls) ∧ ks.length = ls.length ∧ ∀ p ∈ ks, valV ls p.1 = some p.2 ∧ flatB p.2 = true
def rEqDR : R2 := fun x y H Q => SameD H x y ∧ Q (.bl true) H
def rNeDR : R2 := fun x y H Q => SameD H x y ∧ Q (.bl false) H
theorem op_eqDR {X : Cx} (hu : X.A.units < cLine) : OpR X (compareOp .Eq) rEqDR := fun pins s σ H x y v u Q I rx ry ⟨⟨a, b, ks, ls, ex, ey, ra, rb, hl, hp⟩, q⟩ => by
  subst ex ey
  cases rx; cases ry
  obtain ⟨_, na, va, ka, da⟩ := dk_rd I.hok ra
  obtain ⟨_, nb, vb, kb, db⟩ := dk_rd I.hok rb
  have len : va.length = vb.length := (ka.length.symm.trans hl).trans kb.length
  exact PySem.W.keq_eq (knd := mixKind X.prog X.w) (r := true) na nb da db hu (fun _ => hits_all kb ka hp) (fin_bl I q (by simp [len]))
theorem op_neDR {X : Cx} (hu : X.A.units < cLine) : OpR X (compareOp .NotEq) rNeDR := fun pins s σ H x y v u Q I rx ry ⟨⟨a, b, ks, ls, ex, ey, ra, rb, hl, hp⟩, q⟩ => by
  subst ex ey
  cases rx; cases ry
  obtain ⟨_, na, va, ka, da⟩ := dk_rd I.hok ra
  obtain ⟨_, nb, vb, kb, db⟩ := dk_rd I.hok rb
  have len : va.length = vb.length := (ka.length.symm.trans hl).trans kb.length
  exact PySem.W.keq_ne (knd := mixKind X.prog X.w) (r := true) na nb da db hu (fun _ => hits_all kb ka hp) (fin_bl I q (by simp [len]))
def rAddG (K : PySem.W.Frag) : R2 := fun x y H Q => rI0 (fun i j => .int (i + j)) x y H Q ∨ ((∃ i j, x = .str i ∧ y = .str j ∧ i.length + j.length ≤ sizeLine ∧ Q (.str (i ++ j)) H) ∨ (rCat x y H Q ∨ rCatT K x y H Q))
def rSubG : R2 := rI0 fun i j => .int (i - j)
def repS (a : Str) (n : Int) : Str := ⟨(List.replicate n.toNat a.cps).foldl (· ++ ·) #[]⟩
def rMulS : R2 := fun x y H Q => ∃ a n, x = .str a ∧ y = .int n ∧ 2 ≤ n ∧ n ≤ 100000 ∧ a.length ≤ 100 ∧ 0 < a.length ∧ Q (.str (repS a n)) H
theorem repS_size (a : Str) (n : Int) : (repS a n).length = a.length * n.toNat := by
  have : ∀ (k : Nat) (z : Array Nat), ((List.replicate k a.cps).foldl (· ++ ·) z).size = z.size + a.cps.size * k := by
    intro k
    induction k with
    | zero => intro z; simp
    | succ k ih =>
      intro z
      rw [List.replicate_succ, List.foldl_cons, ih, Array.size_append, Nat.mul_succ]
      omega
  show ((List.replicate n.toNat a.cps).foldl (· ++ ·) #[]).size = _
  rw [this]
  simp [Str.length]
theorem op_mulS {X : Cx} : OpR X (binaryOp .Mult) rMulS := by
  intro pins s σ H x y v u Q I rx ry h
  obtain ⟨a, n, rfl, rfl, h1, h2, h3, h4, q⟩ := h
  obtain ⟨t, rfl⟩ := rx
  obtain ⟨t', rfl⟩ := ry
  have hn : ¬ n < 1 := by omega
  have e1 : (n == 1 || a.length == 0) = false := by
    have : n ≠ 1 := by omega
    have : a.length ≠ 0 := by omega
    simp [*]
  have hz : a.length * n.toNat ≤ sizeLine := by
    have : n.toNat ≤ 100000 := by omega
    have : a.length * n.toNat ≤ 100 * 100000 := Nat.mul_le_mul h3 this
    exact Nat.le_trans this (by decide)
  refine P.mul_str ?_ (fun _ _ => ?_) (fun _ _ => ?_) ?_
  · have q1 : ¬ n < -(2 ^ 63 : Int) := by omega
    have q2 : ¬ n ≥ 2 ^ 63 := by omega
    rw [decide_eq_false q1, decide_eq_false q2]; rfl
  · have : (100 : Int) ≤ (2 ^ 63 - 1) / n := by
      rw [Int.le_ediv_iff_mul_le (by omega)]
      omega
    omega
  · show decide (_ > sizeLine) = false
    exact decide_eq_false (by omega)
  · rw [if_neg hn, if_neg (by rw [e1]; exact Bool.false_ne_true)]
    have hs : (repS a n).length ≤ sizeLine := by rw [repS_size]; exact hz
    exact ⟨hs, ⟨.str (repS a n), H, I.tok _, ⟨_, rfl⟩, q⟩⟩
def rMulG : R2 := fun x y H Q => rI IntMulOk (fun i j => .int (i * j)) x y H Q ∨ (rRep x y H Q ∨ rMulS x y H Q)
def rDivG : R2 := rI CDivW fun i j => .int (i / j)
def rModG : R2 := rI (fun _ j => 0 < j) fun i j => .int (i % j)
def rPowG : R2 := rI CPow fun i j => .int (i ^ j.toNat)
def rEqG (K : PySem.W.Frag) : R2 := fun x y H Q => rEq x y H Q ∨ (rEqD K x y H Q ∨ rEqDR x y H Q)
def rNeG (K : PySem.W.Frag) : R2 := fun x y H Q => rNe x y H Q ∨ (rNeD K x y H Q ∨ rNeDR x y H Q)
def rLtG (K : PySem.W.Frag) : R2 := fun x y H Q => rI0 (fun i j => .bl (decide (i < j))) x y H Q ∨ rLtT K x y H Q
def rLeG : R2 := rI0 fun i j => .bl (decide (i ≤ j))
def rGtG : R2 := rI0 fun i j => .bl (decide (j < i))
def rGeG : R2 := rI0 fun i j => .bl (decide (j ≤ i))
def rIsG : R2 := fun x y H Q => y = .non ∧ Q (.bl (decide (x = .non))) H
def rNotG : R2 := fun x y H Q => y = .non ∧ Q (.bl (!decide (x = .non))) H
def rInDic : R2 := fun y x H Q => ∃ a o, x = .ref a ∧ DGet H a y o ∧ Q (.bl o.isSome) H
def rNotInDic : R2 := fun y x H Q => ∃ a o, x = .ref a ∧ DGet H a y o ∧ Q (.bl (!o.isSome)) H
def rInSg : R2 := fun x y H Q => ∃ (c : Nat) (z : Str), x = .str ⟨#[c]⟩ ∧ y = .str z ∧ Q (.bl (decide (c ∈ z.cps.toList))) H
def rNotInSg : R2 := fun x y H Q => ∃ (c : Nat) (z : Str), x = .str ⟨#[c]⟩ ∧ y = .str z ∧ Q (.bl (!decide (c ∈ z.cps.toList))) H
def rInG (K : PySem.W.Frag) : R2 := fun x y H Q => rIn K false x y H Q ∨ (rInDic x y H Q ∨ rInSg x y H Q)
def rNotInG (K : PySem.W.Frag) : R2 := fun x y H Q => rIn K true x y H Q ∨ (rNotInDic x y H Q ∨ rNotInSg x y H Q)
section
variable {X : Cx}
theorem op_addG : OpR X (binaryOp .Add) (rAddG X.K) := op_add.or (op_add_str.or (op_cat.or op_catT))
theorem op_subG : OpR X (binaryOp .Sub) rSubG := op_sub
theorem op_mulI : OpR X (binaryOp .Mult) (rI IntMulOk fun i j => .int (i * j)) := opI fun i j t u s Q E hc h => mul_int h hc
theorem op_mulG : OpR X (binaryOp .Mult) rMulG := op_mulI.or (op_rep.or op_mulS)
theorem op_divG : OpR X (binaryOp .FloorDiv) rDivG := op_fdivW
theorem op_modG : OpR X (binaryOp .Mod) rModG := op_mod
theorem op_powG : OpR X (binaryOp .Pow) rPowG := op_pow
theorem op_eqG (hu : X.A.units + 64 < cLine) : OpR X (compareOp .Eq) (rEqG X.K) := op_eq.or ((op_eqD hu).or (op_eqDR (by omega)))
theorem op_neG (hu : X.A.units + 64 < cLine) : OpR X (compareOp .NotEq) (rNeG X.K) := op_ne.or ((op_neD hu).or (op_neDR (by omega)))
theorem op_ltG (hu : X.A.units < cLine) : OpR X (compareOp .Lt) (rLtG X.K) := op_lt.or (op_ltT hu)
theorem op_gtG : OpR X (compareOp .Gt) rGtG := op_gt
theorem op_isG : OpR X (compareOp .Is) rIsG := op_isN
theorem op_notG : OpR X (compareOp .IsNot) rNotG := op_notN
theorem op_inDic (hu : X.A.units + 1 < cLine) : OpR X (compareOp .In) rInDic := fun pins s σ H y x u v Q I ry rx ⟨a, o, e, g, q⟩ => by
  subst e
  cases rx
  exact d_in hu I g ry fun s' I' => ⟨.bl o.isSome, H, I', rfl, q⟩
theorem op_notInDic (hu : X.A.units + 1 < cLine) : OpR X (compareOp .NotIn) rNotInDic := fun pins s σ H y x u v Q I ry rx ⟨a, o, e, g, q⟩ => by
  subst e
  cases rx
  exact d_notIn hu I g ry fun s' I' => ⟨.bl (!o.isSome), H, I', rfl, q⟩
theorem op_inG (hu : X.A.units + 1 < cLine) : OpR X (compareOp .In) (rInG X.K) := op_in_seq.or ((op_inDic hu).or op_in_sign)
theorem op_notInG (hu : X.A.units + 1 < cLine) : OpR X (compareOp .NotIn) (rNotInG X.K) := op_notIn_seq.or ((op_notInDic hu).or op_notIn_sign)
end
def rIxDic : R2 := fun x y H Q => ∃ a v, x = .ref a ∧ DGet H a y (some v) ∧ Q v H
section
variable {K : PySem.W.Frag} {F B0 H H' B B' : Hp} {τ τs : List V} {T os : List O} {σ : L2.St} {Γ : En} {S S1 S2 : Ad} {v : V} {o o1 o2 : O} {x : D} {post : O → En → Prop} {ta tb te : TE} {tt tu : TT} {i : Nat} {posts : List D → En → Prop} {postt : Bool → En → Prop} {posts1 : En → Prop} {Dd : EG}
theorem o2_add {a b : Int} (h : post (.d (.int (a + b))) Γ) : Op2 K F B0 (rAddG K) (.int a) (.int b) T Γ post := fun τ σ H B S v1 v2 Q w r1 r2 k => by
  cases r1; cases r2
  exact .inl ⟨a, b, rfl, rfl, k _ _ Γ H h ⟨_, _, w.pushd .int⟩⟩
theorem RL.app : ∀ {vs us : List V} {xs ys : List D}, RL K B vs xs → RL K B us ys → RL K B (vs ++ us) (xs ++ ys)
  | _, _, _, _, .nil, s => s
  | _, _, _, _, .cons r t, s => .cons r (RL.app t s)
theorem o2_addT {xs ys : List D} (hx : xs ≠ []) (hz : xs.length + ys.length ≤ 100000) (h : post (.d (.tup (xs ++ ys))) Γ) : Op2 K F B0 (rAddG K) (.tup xs) (.tup ys) T Γ post := fun τ σ H B S v1 v2 Q w r1 r2 k => by
  cases r1 with | @tup a vs _ h1 l1 =>
  cases r2 with | @tup b us _ h2 l2 =>
  refine .inr (.inr (.inr ⟨a, b, vs, us, rfl, rfl, w.pu.sqT h1, w.pu.sqT h2, fun e => hx (List.length_eq_zero_iff.mp (by rw [← l1.length, e]; rfl)), by rw [l1.length, l2.length]; exact Nat.le_trans hz (by decide), fun e => ?_, fun e p hp => ?_⟩))
  · subst e
    cases l2
    rw [List.append_nil] at h
    exact k _ _ _ _ h ⟨_, _, w.pushd (.tup h1 l1)⟩
  · obtain ⟨S2, w⟩ := w.newd (x := .tup (xs ++ ys)) hp (.tup (SqT.of upd_same) ((l1.app l2).mono (.of_ex (.new (w.pu.back hp)))))
    exact k _ _ _ _ h ⟨_, _, w⟩
theorem o2_sub {a b : Int} (h : post (.d (.int (a - b))) Γ) : Op2 K F B0 rSubG (.int a) (.int b) T Γ post := fun τ σ H B S v1 v2 Q w r1 r2 k => by
  cases r1; cases r2
  exact ⟨a, b, rfl, rfl, k _ _ Γ H h ⟨_, _, w.pushd .int⟩⟩
theorem o2_mul {a b : Int} (hm : IntMulOk a b) (h : post (.d (.int (a * b))) Γ) : Op2 K F B0 rMulG (.int a) (.int b) T Γ post := fun τ σ H B S v1 v2 Q w r1 r2 k => by
  cases r1; cases r2
  exact .inl ⟨a, b, rfl, rfl, hm, k _ _ Γ H h ⟨_, _, w.pushd .int⟩⟩
theorem o2_div {a b : Int} (hb : 0 < b ∧ b < 2 ^ 200) (h : post (.d (.int (a / b))) Γ) : Op2 K F B0 rDivG (.int a) (.int b) T Γ post := fun τ σ H B S v1 v2 Q w r1 r2 k => by
  cases r1; cases r2
  exact ⟨a, b, rfl, rfl, wide_div (b := 200) hb.1 (by omega) (by decide) (by decide), k _ _ Γ H h ⟨_, _, w.pushd .int⟩⟩
theorem o2_mod {a b : Int} (hb : 0 < b) (h : post (.d (.int (a % b))) Γ) : Op2 K F B0 rModG (.int a) (.int b) T Γ post := fun τ σ H B S v1 v2 Q w r1 r2 k => by
  cases r1; cases r2
  exact ⟨a, b, rfl, rfl, hb, k _ _ Γ H h ⟨_, _, w.pushd .int⟩⟩
theorem o2_pow {a b : Int} (hb : 0 ≤ b ∧ b ≤ 1000000 ∧ a.natAbs < 2 ^ 64) (h : post (.d (.int (a ^ b.toNat))) Γ) : Op2 K F B0 rPowG (.int a) (.int b) T Γ post := fun τ σ H B S v1 v2 Q w r1 r2 k => by
  cases r1; cases r2
  exact ⟨a, b, rfl, rfl, hb, k _ _ Γ H h ⟨_, _, w.pushd .int⟩⟩
theorem o2_lt {a b : Int} (h : post (.d (.bl (decide (a < b)))) Γ) : Op2 K F B0 (rLtG K) (.int a) (.int b) T Γ post := fun τ σ H B S v1 v2 Q w r1 r2 k => by
  cases r1; cases r2
  exact .inl ⟨a, b, rfl, rfl, k _ _ Γ H h ⟨_, _, w.pushd .bl⟩⟩
theorem o2_le {a b : Int} (h : post (.d (.bl (decide (a ≤ b)))) Γ) : Op2 K F B0 rLeG (.int a) (.int b) T Γ post := fun τ σ H B S v1 v2 Q w r1 r2 k => by
  cases r1; cases r2
  exact ⟨a, b, rfl, rfl, k _ _ Γ H h ⟨_, _, w.pushd .bl⟩⟩
theorem o2_gt {a b : Int} (h : post (.d (.bl (decide (b < a)))) Γ) : Op2 K F B0 rGtG (.int a) (.int b) T Γ post := fun τ σ H B S v1 v2 Q w r1 r2 k => by
  cases r1; cases r2
  exact ⟨a, b, rfl, rfl, k _ _ Γ H h ⟨_, _, w.pushd .bl⟩⟩
theorem o2_ge {a b : Int} (h : post (.d (.bl (decide (b ≤ a)))) Γ) : Op2 K F B0 rGeG (.int a) (.int b) T Γ post := fun τ σ H B S v1 v2 Q w r1 r2 k => by
  cases r1; cases r2
  exact ⟨a, b, rfl, rfl, k _ _ Γ H h ⟨_, _, w.pushd .bl⟩⟩
theorem o2_eqI {a b : Int} (h : post (.d (.bl (decide (a = b)))) Γ) : Op2 K F B0 (rEqG K) (.int a) (.int b) T Γ post := fun τ σ H B S v1 v2 Q w r1 r2 k => by
  cases r1; cases r2
  refine .inl ⟨rfl, ?_⟩
  have e : decide (V.int a = V.int b) = decide (a = b) := by rw [dec_int, Bool.beq_eq_decide_eq]
  rw [e]
  exact k _ _ Γ H h ⟨_, _, w.pushd .bl⟩
theorem o2_neI {a b : Int} (h : post (.d (.bl (!decide (a = b)))) Γ) : Op2 K F B0 (rNeG K) (.int a) (.int b) T Γ post := fun τ σ H B S v1 v2 Q w r1 r2 k => by
  cases r1; cases r2
  refine .inl ⟨rfl, ?_⟩
  have e : decide (V.int a = V.int b) = decide (a = b) := by rw [dec_int, Bool.beq_eq_decide_eq]
  rw [e]
  exact k _ _ Γ H h ⟨_, _, w.pushd .bl⟩
theorem o2_eqS {a b : Str} (h : post (.d (.bl (decide (a = b)))) Γ) : Op2 K F B0 (rEqG K) (.str a) (.str b) T Γ post := fun τ σ H B S v1 v2 Q w r1 r2 k => by
  cases r1; cases r2
  refine .inl ⟨rfl, ?_⟩
  have e : decide (V.str a = V.str b) = decide (a = b) := by
    by_cases q : a = b
    · subst q; simp
    · rw [decide_eq_false q, decide_eq_false (fun z => q (V.str.inj z))]
  rw [e]
  exact k _ _ Γ H h ⟨_, _, w.pushd .bl⟩
theorem o2_neS {a b : Str} (h : post (.d (.bl (!decide (a = b)))) Γ) : Op2 K F B0 (rNeG K) (.str a) (.str b) T Γ post := fun τ σ H B S v1 v2 Q w r1 r2 k => by
  cases r1; cases r2
  refine .inl ⟨rfl, ?_⟩
  have e : decide (V.str a = V.str b) = decide (a = b) := by
    by_cases q : a = b
    · subst q; simp
    · rw [decide_eq_false q, decide_eq_false (fun z => q (V.str.inj z))]
  rw [e]
  exact k _ _ Γ H h ⟨_, _, w.pushd .bl⟩
theorem o2_eqB {a b : Bool} (h : post (.d (.bl (a == b))) Γ) : Op2 K F B0 (rEqG K) (.bl a) (.bl b) T Γ post := fun τ σ H B S v1 v2 Q w r1 r2 k => by
  cases r1; cases r2
  refine .inl ⟨rfl, ?_⟩
  rw [dec_bl]
  exact k _ _ Γ H h ⟨_, _, w.pushd .bl⟩
theorem o2_neB {a b : Bool} (h : post (.d (.bl (!(a == b)))) Γ) : Op2 K F B0 (rNeG K) (.bl a) (.bl b) T Γ post := fun τ σ H B S v1 v2 Q w r1 r2 k => by
  cases r1; cases r2
  refine .inl ⟨rfl, ?_⟩
  rw [dec_bl]
  exact k _ _ Γ H h ⟨_, _, w.pushd .bl⟩
mutual
def D.py : D → PyData
  | .non => .none
  | .bl b => .bool b
  | .int i => .int i
  | .str s => .str s
  | .tup xs => .tuple (pyL xs)
  | .ctu xs => .tuple (pyL xs)
  | .lst xs => .list (pyL xs)
  | .sq xs => .list (pyL xs)
  | .ref _ => .none
  | .ty _ => .none
  | .dic _ => .none
  | .dit _ => .none
  | .ins _ _ => .none
def pyL : List D → List PyData
  | [] => []
  | x :: xs => x.py :: pyL xs
end
mutual
/-- data that == may ask -/
def D.pl : D → Bool
  | .non => true
  | .bl b => true
  | .int i => true
  | .str s => true
  | .tup xs => plL xs
  | .ctu xs => plL xs
  | .lst xs => plL xs
  | .sq xs => plL xs
  | .ref _ => false
  | .ty _ => false
  | .dic _ => false
  | .dit _ => false
  | .ins _ _ => false
def plL : List D → Bool
  | [] => true
  | x :: xs => x.pl && plL xs
end
mutual
theorem R.dp (pu : Ex B H) : ∀ {v : V} {x : D}, R K B v x → x.pl = true → Dp K H v x.py
  | _, _, .non, _ => .non
  | _, _, .bl, _ => .bl _
  | _, _, .int, _ => .int _
  | _, _, .str, _ => .str _
  | _, _, .tup h r, q => .tup (pu.sqT h) (RL.dp pu r q)
  | _, _, .ctu h r, q => .tup (pu.sqT' h) (RL.dp pu r q)
  | _, _, .lst h r, q => .lst (SqL.of (pu _ _ h)) (RL.dp pu r q)
  | _, _, .sq h r, q => .lst (pu.sqL h) (RL.dp pu r q)
  | _, _, .ref, q => by cases q
  | _, _, .ty, q => by cases q
  | _, _, .dic _ _ _, q => by cases q
  | _, _, .dit _ _ _, q => by cases q
  | _, _, .ins _ _, q => by cases q
theorem RL.dp (pu : Ex B H) : ∀ {v : List V} {x : List D}, RL K B v x → plL x = true → DpAll K H v (pyL x)
  | _, _, .nil, _ => .nil
  | _, _, .cons h r, q => .cons (R.dp pu h (by simp [plL] at q; exact q.1)) (RL.dp pu r (by simp [plL] at q; exact q.2))
end
/-- data that == tells -/
def D.eqs (x y : D) : Prop := x.pl = true ∧ y.pl = true ∧ SeqAt.shaped x.py = true ∧ SeqAt.shaped y.py = true
theorem o2_eqD {x y : D} (q : x.eqs y) (h : post (.d (.bl (PyData.eqv x.py y.py))) Γ) : Op2 K F B0 (rEqG K) x y T Γ post := fun τ σ H B S v1 v2 Q w r1 r2 k =>
  .inr (.inl ⟨x.py, y.py, r1.dp w.pu q.1, r2.dp w.pu q.2.1, q.2.2.1, q.2.2.2, k _ _ Γ H h ⟨_, _, w.pushd .bl⟩⟩)
theorem o2_neD {x y : D} (q : x.eqs y) (h : post (.d (.bl (!PyData.eqv x.py y.py))) Γ) : Op2 K F B0 (rNeG K) x y T Γ post := fun τ σ H B S v1 v2 Q w r1 r2 k =>
  .inr (.inl ⟨x.py, y.py, r1.dp w.pu q.1, r2.dp w.pu q.2.1, q.2.2.1, q.2.2.2, k _ _ Γ H h ⟨_, _, w.pushd .bl⟩⟩)
def D.isNon : D → Bool
  | .non => true
  | _ => false
theorem R.isNon {v : V} {x : D} (r : R K B v x) : decide (v = .non) = x.isNon := by cases r <;> rfl
theorem o2_is {x : D} (h : post (.d (.bl x.isNon)) Γ) : Op2 K F B0 rIsG x .non T Γ post := fun τ σ H B S v1 v2 Q w r1 r2 k => by
  cases r2
  refine ⟨rfl, ?_⟩
  rw [r1.isNon]
  exact k _ _ Γ H h ⟨_, _, w.pushd .bl⟩
theorem o2_not {x : D} (h : post (.d (.bl (!x.isNon))) Γ) : Op2 K F B0 rNotG x .non T Γ post := fun τ σ H B S v1 v2 Q w r1 r2 k => by
  cases r2
  refine ⟨rfl, ?_⟩
  rw [r1.isNon]
  exact k _ _ Γ H h ⟨_, _, w.pushd .bl⟩
def D.flat : D → Bool
  | .non => true
  | .bl _ => true
  | .int _ => true
  | .str _ => true
  | _ => false
def D.eq1 : D → D → Bool
  | .non, .non => true
  | .bl a, .bl b => a == b
  | .bl a, .int b => (if a then 1 else 0) == b
  | .int a, .bl b => a == (if b then 1 else 0)
  | .int a, .int b => a == b
  | .str a, .str b => a == b
  | _, _ => false
theorem R.flatV {v : V} {x : D} (r : R K B v x) (q : x.flat = true) : L2.flatV v = true := by cases r <;> first | rfl | cases q
theorem R.eqV {v u : V} {x y : D} (r : R K B v x) (s : R K B u y) (q : x.flat = true) (q2 : y.flat = true) : L2.eqV v u = x.eq1 y := by
  cases r <;> first | (cases s <;> first | rfl | cases q2) | cases q
theorem RL.flat : ∀ {vs : List V} {xs : List D}, RL K B vs xs → xs.all D.flat = true → vs.all L2.flatV = true
  | _, _, .nil, _ => rfl
  | _, _, .cons r t, q => by simp only [List.all_cons, Bool.and_eq_true] at q ⊢; exact ⟨r.flatV q.1, t.flat q.2⟩
def D.items? : D → Option (List D)
  | .lst xs => some xs
  | .sq xs => some xs
  | .tup xs => some xs
  | .ctu xs => some xs
  | _ => none
theorem R.items {xs : List D} (r : R K B v x) (q : x.items? = some xs) : ∃ a vs, v = .ref a ∧ (SqL K B a vs ∨ L2.SqT K B a vs) ∧ RL K B vs xs := by
  cases r with
  | lst h r => cases q; exact ⟨_, _, rfl, .inl (SqL.of h), r⟩
  | sq h r => cases q; exact ⟨_, _, rfl, .inl h, r⟩
  | tup h r => cases q; exact ⟨_, _, rfl, .inr h.wk, r⟩
  | ctu h r => cases q; exact ⟨_, _, rfl, .inr h, r⟩
  | _ => cases q
def kD : Key → D
  | .inl i => .int i
  | .inr s => .str s
def dval {κ : Type} [DecidableEq κ] {α : Type} (kvs : List (κ × α)) (k : κ) : Option α := (kvs.find? fun kv => decide (kv.1 = k)).map (·.2)
theorem RK.val {k : Key} : ∀ {ws : List (Key × V)} {kvs : List (Key × D)}, RK K B ws kvs → (∃ v x, valV ws k = some v ∧ dval kvs k = some x ∧ R K B v x) ∨ (valV ws k = none ∧ dval kvs k = none)
  | _, _, .nil => .inr ⟨rfl, rfl⟩
  | _, _, .cons (k := k0) (v := v0) (x := x0) (vs := vs) (xs := xs) r t => by
    by_cases e : k0 = k
    · left
      refine ⟨v0, x0, by simp [valV, e], by simp [dval, e], r⟩
    · have e1 : valV ((k0, v0) :: vs) k = valV vs k := by simp [valV, e]
      have e2 : dval ((k0, x0) :: xs) k = dval xs k := by simp [dval, e]
      rw [e1, e2]
      exact RK.val t
theorem R.kV {k : Key} (r : R K B v (kD k)) : v = L2.kV k := by cases k <;> (cases r; rfl)
end
end SK
namespace SK
open PySem PySem.Spec PyProof.Rows L2
section
variable {K : PySem.W.Frag} {F B0 H H' B B' : Hp} {τ τs : List V} {T os : List O} {σ : L2.St} {Γ : En} {S S1 S2 : Ad} {v w : V} {o p : O} {x : D} {post : O → En → Prop} {ta tb te td ty tv : TE} {tt tu : TT} {i : Nat} {posts : List D → En → Prop} {postt : Bool → En → Prop} {posts1 : En → Prop} {Dd : EG}
theorem set_same {σ : List (Option V)} (a : σ[i]? = some (some v)) : σ.set i (some v) = σ := by
  have hl : i < σ.length := (List.getElem?_eq_some_iff.mp a).1
  apply List.ext_getElem?
  intro n
  by_cases hn : n = i
  · subst hn; rw [List.getElem?_set_self hl, a]
  · rw [List.getElem?_set_ne (Ne.symm hn)]
/-- the thing at slot i is changed, the thing held on top goes into it -/
theorem HW.mut2 (h : HW K F B0 (w :: τ) (o :: T) σ Γ H B S) (e : Γ[i]? = some (some p)) : ∃ (v : V) (S1 So : Ad), σ[i]? = some (some v) ∧ RO K B H S1 v p ∧ RO K B H So w o ∧ (∀ b, S1 b → ¬ So b) ∧ (∀ b, S1 b → H b ≠ none) ∧ (∀ b, So b → H b ≠ none) ∧
    ∀ a c p', S1 a → RO K B (upd H a c) (fun b => S1 b ∨ So b) v p' → ∃ S', HW K F B0 τ T σ (Γ.set i (some p')) (upd H a c) B S' := by
  obtain ⟨So, Sr, s1, s2, dj, ro, wr⟩ := h.pop
  obtain ⟨v, S1, S2, a1, b1, c1, d1, r1, f⟩ := wr.slot e
  refine ⟨v, S1, So, a1, r1, ro, fun b z y => dj b y (b1 b z), fun b z => (wr.ow b (b1 b z)).2.2, fun b z => (h.ow b (s1 b z)).2.2, fun a c p' ha rp => ?_⟩
  have q := f B (upd H a c) (fun b => S1 b ∨ So b) (some v) (some p') (.refl B) (fun b u z y => by
    rw [upd_ne (fun q => d1 a ha (by rw [← q]; exact z))]; exact y) (fun b z y => z.elim (fun z => d1 b z y) fun z => dj b z (c1 b y)) (fun x q => by cases q; exact ⟨v, rfl, rp⟩)
  rw [set_same a1] at q
  refine ⟨_, ⟨fun b u z => ?_, fun b u z => ?_, wr.b0, fun b z => ?_, wr.nw, q, wr.lt, wr.tp⟩⟩
  · have hn : b ≠ a := fun q => by rw [q, (wr.ow a (b1 a ha)).1] at z; cases z
    rw [upd_ne hn]; exact wr.fr b u z
  · have hn : b ≠ a := fun q => by rw [q, (wr.ow a (b1 a ha)).2.1] at z; cases z
    rw [upd_ne hn]; exact wr.pu b u z
  · have : F b = none ∧ B b = none ∧ H b ≠ none := by
      rcases z with (z | z) | z
      · exact wr.ow b (b1 b z)
      · exact h.ow b (s1 b z)
      · exact wr.ow b (c1 b z)
    refine ⟨this.1, this.2.1, ?_⟩
    by_cases hn : b = a
    · rw [hn, upd_same]; simp
    · rw [upd_ne hn]; exact this.2.2
/-- the thing at slot i is changed -/
theorem HW.mut1 (h : HW K F B0 τ T σ Γ H B S) (e : Γ[i]? = some (some p)) : ∃ (v : V) (S1 : Ad), σ[i]? = some (some v) ∧ RO K B H S1 v p ∧ (∀ b, S1 b → H b ≠ none) ∧
    ∀ a c p', S1 a → RO K B (upd H a c) S1 v p' → ∃ S', HW K F B0 τ T σ (Γ.set i (some p')) (upd H a c) B S' := by
  obtain ⟨v, S1, So, a1, r1, _, _, n1, _, f⟩ := HW.mut2 (h.pushd (v := .non) (x := .non) .non) e
  exact ⟨v, S1, a1, r1, n1, fun a c p' ha rp => f a c p' ha (rp.tr (.refl B) (fun _ z => .inl z) fun _ _ _ e => e)⟩
theorem RS.snoc {So : Ad} (ro : RO K B H So w o) : ∀ {σ : List (Option V)} {Γ : List (Option O)} {S : Ad}, RS K B H S σ Γ → (∀ b, S b → ¬ So b) → RS K B H (fun b => S b ∨ So b) (σ ++ [some w]) (Γ ++ [some o])
  | _, _, _, .nil, _ => .cons (S1 := So) (S2 := fun _ => False) (fun _ z => .inr z) (fun _ z => z.elim) (fun _ _ z => z) ro .nil
  | _, _, _, .un r, dj => .un (RS.snoc ro r dj)
  | _, _, _, .cons (S1 := T1) (S2 := T2) s1 s2 d r rs, dj => .cons (S1 := T1) (S2 := fun b => T2 b ∨ So b) (fun b z => .inl (s1 b z)) (fun b z => z.imp (s2 b) id) (fun b z y => y.elim (d b z) (dj b (s1 b z))) r (RS.snoc ro rs fun b z => dj b (s2 b z))
theorem RS.at (e : ∀ b u, S b → H b = some u → H' b = some u) {σ : List (Option V)} {Γ : List (Option O)} (r : RS K B H S σ Γ) : RS K B H' S σ Γ := r.tr (.refl B) (fun _ z => z) e
/-- xs.append(e), xs a name -/
theorem gos_append (h : Go K F B0 te T Γ fun o Γ1 => ∃ xs, Γ1[i]? = some (some (.ol xs)) ∧ xs.length < 100000 ∧ Dd.nx (Γ1.set i (some (.ol (xs ++ [o]))))) (h0 : ∃ xs, Γ[i]? = some (some (.ol xs))) :
    GoS K F B0 (tDrop (tBM K "list" rAppend (tVar i) (tCons te tNil))) T Γ Dd := fun τ σ H De hw s => by
  obtain ⟨B, S, w⟩ := hw
  obtain ⟨xs0, e0⟩ := h0
  obtain ⟨v, S1, a1, r1, _, _⟩ := w.mut1 e0
  cases r1 with
  | @ol _ _ a vs _ _ _ _ hc _ =>
  refine ⟨.ref a, a1, Or.inl ⟨rfl, vs, SqL.of hc⟩, h τ σ H _ ⟨B, S, w⟩ fun v2 o2 Γ2 H2 ⟨xs, e2, hz, h2⟩ ⟨B2, S2, w2⟩ => ?_⟩
  obtain ⟨v', S3, So, a2, r2, ro, dj, _, _, f⟩ := w2.mut2 e2
  rw [a1] at a2
  cases a2
  cases r2 with
  | @ol _ S4 _ us _ ha hs hn hc2 rs =>
  have len : us.length = xs.length := by simpa using rs.len
  refine ⟨a, us, v2, rfl, rfl, hc2, by rw [len]; exact Nat.lt_of_lt_of_le hz (by decide), ?_⟩
  obtain ⟨S', w3⟩ := f a (.lst (us ++ [v2])) (.ol (xs ++ [o2])) ha (.ol (S' := fun b => S4 b ∨ So b) (.inl ha) (fun b z => z.imp (hs b) id) (fun z => z.elim hn fun z => dj a ha z) upd_same (by
    rw [List.map_append, List.map_append]
    exact (rs.snoc ro fun b z => dj b (hs b z)).at fun b u z q => by
      rw [upd_ne (fun e => by subst e; exact z.elim hn fun z => dj b ha z)]; exact q))
  exact s.nx σ _ _ h2 ⟨B2, S', w3⟩
def dput {κ : Type} [DecidableEq κ] {α : Type} (kvs : List (κ × α)) (k : κ) (v : α) : List (κ × α) :=
  if (kvs.any fun kv => decide (kv.1 = k)) = true then kvs.map (fun kv => if kv.1 = k then (kv.1, v) else kv) else kvs ++ [(k, v)]
theorem any_keys {κ α β : Type} [DecidableEq κ] {k : κ} : ∀ {ws : List (κ × α)} {kvs : List (κ × β)}, ws.map (·.1) = kvs.map (·.1) → (ws.any fun kv => decide (kv.1 = k)) = kvs.any fun kv => decide (kv.1 = k)
  | [], [], _ => rfl
  | a :: ws, b :: kvs, e => by
    simp only [List.map_cons, List.cons.injEq] at e
    rw [List.any_cons, List.any_cons, any_keys e.2, e.1]
theorem repl_keys {κ α : Type} [DecidableEq κ] {k : κ} {v : α} (kvs : List (κ × α)) : (kvs.map (fun kv => if kv.1 = k then (kv.1, v) else kv)).map (·.1) = kvs.map (·.1) := by
  rw [List.map_map]
  apply List.map_congr_left
  intro a _
  show (if a.1 = k then (a.1, v) else a).1 = a.1
  split <;> rfl
theorem dput_keys {κ α β : Type} [DecidableEq κ] {k : κ} {v : α} {x : β} {ws : List (κ × α)} {kvs : List (κ × β)} (e : ws.map (·.1) = kvs.map (·.1)) : (dput ws k v).map (·.1) = (dput kvs k x).map (·.1) := by
  unfold dput
  rw [any_keys e]
  split
  · rw [repl_keys, repl_keys, e]
  · rw [List.map_append, List.map_append, e]; rfl
theorem dput_nodup {κ α : Type} [DecidableEq κ] {k : κ} {v : α} {kvs : List (κ × α)} (n : (kvs.map (·.1)).Nodup) : ((dput kvs k v).map (·.1)).Nodup := by
  unfold dput
  split
  · rw [repl_keys]; exact n
  · rename_i h
    rw [List.map_append, List.nodup_append]
    refine ⟨n, by simp, fun a ha b hb => ?_⟩
    have e : b = k := by simpa using hb
    subst e
    intro q
    subst q
    obtain ⟨kv, h1, h2⟩ := List.mem_map.mp ha
    exact h (List.any_eq_true.mpr ⟨kv, h1, by simp [h2]⟩)
theorem repl_not {κ α : Type} [DecidableEq κ] {k : κ} {v : α} : ∀ {kvs : List (κ × α)}, k ∉ kvs.map (·.1) → kvs.map (fun kv => if kv.1 = k then (kv.1, v) else kv) = kvs
  | [], _ => rfl
  | a :: r, h => by
    simp only [List.map_cons, List.mem_cons, not_or] at h
    rw [List.map_cons, repl_not h.2, if_neg (fun q => h.1 q.symm)]
theorem RS.repl {κ : Type} [DecidableEq κ] {k : κ} {So : Ad} (ro : RO K B H So w o) : ∀ {ws : List (κ × V)} {kvs : List (κ × O)} {S : Ad}, (kvs.map (·.1)).Nodup → ws.map (·.1) = kvs.map (·.1) → RS K B H S (ws.map fun p => some p.2) (kvs.map fun p => some p.2) → (∀ b, S b → ¬ So b) →
    RS K B H (fun b => S b ∨ So b) ((ws.map fun kv => if kv.1 = k then (kv.1, w) else kv).map fun p => some p.2) ((kvs.map fun kv => if kv.1 = k then (kv.1, o) else kv).map fun p => some p.2)
  | [], [], _, _, _, _, _ => .nil
  | (k1, v1) :: ws, (k2, o2) :: kvs, S, nd, e, .cons (S1 := T1) (S2 := T2) s1 s2 d r rs, dj => by
    simp only [List.map_cons, List.cons.injEq] at e
    obtain ⟨e1, e2⟩ := e
    subst e1
    simp only [List.map_cons, List.nodup_cons] at nd
    by_cases q : k1 = k
    · subst q
      have n2 : k1 ∉ ws.map (·.1) := by rw [e2]; exact nd.1
      have q1 := repl_not (v := w) n2
      have q2 := repl_not (v := o) nd.1
      simp only [List.map_cons, ↓reduceIte, q1, q2]
      exact .cons (S1 := So) (S2 := T2) (fun b z => .inr z) (fun b z => .inl (s2 b z)) (fun b z y => dj b (s2 b y) z) ro rs
    · simp only [List.map_cons, if_neg q]
      exact .cons (S1 := T1) (S2 := fun b => T2 b ∨ So b) (fun b z => .inl (s1 b z)) (fun b z => z.imp (s2 b) id) (fun b z y => y.elim (d b z) (dj b (s1 b z))) r (RS.repl ro nd.2 e2 rs fun b z => dj b (s2 b z))
theorem RS.dput {κ : Type} [DecidableEq κ] {k : κ} {So : Ad} (ro : RO K B H So w o) {ws : List (κ × V)} {kvs : List (κ × O)} {S : Ad} (nd : (kvs.map (·.1)).Nodup) (e : ws.map (·.1) = kvs.map (·.1)) (rs : RS K B H S (ws.map fun p => some p.2) (kvs.map fun p => some p.2)) (dj : ∀ b, S b → ¬ So b) :
    RS K B H (fun b => S b ∨ So b) ((SK.dput ws k w).map fun p => some p.2) ((SK.dput kvs k o).map fun p => some p.2) := by
  unfold SK.dput
  rw [any_keys e]
  split
  · exact rs.repl ro nd e dj
  · rw [List.map_append, List.map_append]
    exact rs.snoc ro dj
theorem putK_dput {κ : Type} [DecidableEq κ] (kvs : List (κ × V)) (k : κ) (v : V) : putK kvs k v = dput kvs k v := rfl
theorem go_dnew (h : post (.od []) Γ) : Go K F B0 tDNewK T Γ post := fun τ σ H Q ⟨B, S, w⟩ k p hp => by
  obtain ⟨S2, w⟩ := w.newo hp (o := .od []) (c := .dK []) (v := .ref p) (.od (S' := fun _ => False) rfl (fun _ z => z.elim) id upd_same List.nodup_nil rfl .nil)
  exact k _ _ _ _ h ⟨_, _, w⟩
abbrev Ct := List D → (O → Prop) → (Addr → Option (List (Str × D)) → Prop) → Prop
theorem HW.bare (h : HW K F B0 τ T σ Γ H B S) : Ho K F B0 [] [] σ Γ H :=
  ⟨B, S, h.fr, h.pu, h.b0, h.ow, h.nw, RS.drops (σ0 := τ.map some) (Γ0 := T.map some) (by simp [h.lt]) h.rs, rfl, h.tp⟩
def noX : Addr → Option (List (Str × D)) → Prop := fun _ _ => False
/-- an exception's own dict, where it has one -/
def ExB (K : PySem.W.Frag) (H B : Hp) (d : Option Addr) (fs : Option (List (Str × D))) : Prop := match d, fs with
  | none, none => True
  | some a, some fs => ∃ ws, H a = some (.xd ws) ∧ RF K B ws fs
  | _, _ => False
theorem ExB.mono {K : PySem.W.Frag} {H B B' : Hp} {d : Option Addr} {fs : Option (List (Str × D))} (h : ExB K H B d fs) (e : BLe B B') : ExB K H B' d fs := by
  cases d with
  | none => cases fs with | none => trivial | some _ => exact h.elim
  | some a =>
    cases fs with
    | none => exact h.elim
    | some fs => obtain ⟨ws, h1, h2⟩ := h; exact ⟨ws, h1, h2.mono e⟩
/-- the slots, and an exception's own dict -/
def HoX (K : PySem.W.Frag) (F B0 : Hp) (σ : L2.St) (Γ : En) (H : Hp) (d : Option Addr) (fs : Option (List (Str × D))) : Prop := ∃ B S, HW K F B0 [] [] σ Γ H B S ∧ ExB K H B d fs
theorem HW.bareB (h : HW K F B0 τ T σ Γ H B S) : HW K F B0 [] [] σ Γ H B S :=
  ⟨h.fr, h.pu, h.b0, h.ow, h.nw, RS.drops (σ0 := τ.map some) (Γ0 := T.map some) (by simp [h.lt]) h.rs, rfl, h.tp⟩
theorem HoX.none {fs : Option (List (Str × D))} (h : Ho K F B0 [] [] σ Γ H) (e : fs = none) : HoX K F B0 σ Γ H none fs := by
  subst e; obtain ⟨B, S, w⟩ := h; exact ⟨B, S, w, trivial⟩
def spP (K : PySem.W.Frag) (C : Ct) : Sp := fun vs H Q E => ∃ B xs p q, (Ex B H ∧ AllT H B) ∧ RL K B vs xs ∧ C xs p q ∧
  (∀ v o B' S' H', p o → Ex H H' → Ex B' H' → BLe B B' → (∀ a, B' a ≠ none → B a ≠ none ∨ H a = none) → (∀ a, S' a → H a = none ∧ B' a = none ∧ H' a ≠ none) → RO K B' H' S' v o → Q v H') ∧
  (∀ Cc fs d B' H', q Cc fs → Ex H H' → Ex B' H' → BLe B B' → (∀ a, B' a ≠ none → B a ≠ none ∨ H a = none) → ExB K H' B' d fs → E (.ref Cc) d H')
theorem spP_len {C : Ct} {n : Nat} (h : ∀ xs p q, C xs p q → xs.length = n) {vs : List V} {H : Hp} {Q : VK} {E : XK} (s : spP K C vs H Q E) : vs.length = n := by
  obtain ⟨B, xs, p, q, _, rl, c, _⟩ := s
  rw [rl.length]; exact h xs p q c
theorem RL.start {n : Nat} : ∀ {vs : List V} {xs : List D}, RL K B vs xs → RS K B H (fun _ => False) (vs.map some ++ List.replicate n none) ((xs.map fun x => some (O.d x)) ++ List.replicate n none)
  | _, _, .nil => by
    show RS K B H _ (List.replicate n none) (List.replicate n none)
    induction n with
    | zero => exact .nil
    | succ n ih => rw [List.replicate_succ, List.replicate_succ]; exact .un ih
  | _, _, .cons r t => .cons (S1 := fun _ => False) (S2 := fun _ => False) (fun _ z => z) (fun _ z => z) (fun _ z => z.elim) (.d r) (RL.start t)
/-- the body's reading gives the promise: wx tells what an exception's way out asks -/
theorem sp_body {C : Ct} {N : List Str} {vs : List V} {Q : VK} {E : XK} {X : Cx} {body : List Stmt} (s : spP K C vs H Q E)
    (h : ∀ B xs p q, C xs p q → xs.length = vs.length → (∀ Cc fs d σ Γ H', q Cc fs → HoX K H B σ Γ H' d fs → E (.ref Cc) d H') →
      ∃ t, PSs X body t ∧ GoS K H B t [] ((xs.map fun x => some (O.d x)) ++ List.replicate (N.length - xs.length) none) { nx := fun _ => p (.d .non), rt := fun o' _ => p o' }) :
    ∃ t, PSs X body t ∧ t { nx := fun _ H' => Q .non H', rt := Q } (L2.start N vs) H := by
  obtain ⟨B, xs, p, q, ⟨pu, aT⟩, rl, c, k, kx⟩ := s
  obtain ⟨t, ht, g⟩ := h B xs p q c rl.length.symm fun Cc fs d σ Γ H' hq ⟨B', S', w, hd⟩ => kx Cc fs d B' H' hq w.fr w.pu w.b0 w.nw hd
  refine ⟨t, ht, g [] (L2.start N vs) H _ ⟨B, fun _ => False, .refl H, pu, .refl B, fun _ z => z.elim, fun _ z => .inl z, ?_, rfl, aT⟩ ⟨fun σ Γ H' e ⟨B', S', w⟩ => ?_, fun v o' σ Γ H' e ⟨B', S', w⟩ => ?_, fun _ _ _ z => z.elim, fun _ _ _ z => z.elim⟩⟩
  · show RS K B H (fun _ => False) ([] ++ L2.start N vs) _
    rw [List.nil_append, L2.start, rl.length]
    exact rl.start
  · obtain ⟨S1, S2, s1, s2, dj, r, w2⟩ := (w.pushd (v := .non) (x := .non) .non).pop
    exact k .non _ B' S1 H' e w.fr w.pu w.b0 w.nw (fun a z => ((w.pushd (v := .non) (x := .non) .non).ow a (s1 a z))) (.d .non)
  · obtain ⟨S1, S2, s1, s2, dj, r, w2⟩ := w.pop
    exact k v o' B' S1 H' e w.fr w.pu w.b0 w.nw (fun a z => w.ow a (s1 a z)) r
/-- a call of a def that keeps such a promise and lets nothing out -/
theorem go_call {C : Ct} {dvs : List V} {dxs : List D} {E : XK} {t : TA} (h : GoA K F B0 t T Γ fun xs Γ1 => ∃ p, C (xs ++ dxs) p noX ∧ ∀ o, p o → post o Γ1) (hd : ∀ B, RL K B dvs dxs) : Go K F B0 (tCall (spP K C) dvs E t) T Γ post := fun τ σ H Q hw k =>
  h τ σ H _ hw fun vs xs Γ1 H1 ⟨p, c, h1⟩ ⟨B1, S1, w1⟩ hl => by
    obtain ⟨B1, S1, w1, aT, _⟩ := w1.allT
    obtain ⟨rl, S2, w⟩ := w1.args hl
    refine ⟨B1, xs ++ dxs, p, noX, ⟨w.pu, aT⟩, rl.app (hd B1), c, fun v o' B' S' H' e ex pu' le nw ow ro => ?_, fun _ _ _ _ _ e => e.elim⟩
    exact k v _ Γ1 H' (h1 _ e) ⟨B', _, w.push ex le pu' nw ow ro⟩
end
end SK
namespace SK
open PySem PySem.Spec PyProof.Rows L2
section
variable {X : Cx}
theorem ix_dic (hu : X.A.units + 1 < cLine) : IxR X rIxDic := by
  intro value slice pins s σ H x y v u Q I rx ry h hs
  obtain ⟨a, z, rfl, g, q⟩ := h
  cases rx
  have hT := dict_typeIs I g
  unfold subscriptTail
  refine wpAny_bind ?_
  rw [getitemInPython_of_ne hT.not_modules]
  refine wpAny_bind (wpAny_specialOf hT PySem.F.slot_dict_getitem.lookup ?_)
  have fin : wpAny (model X.prog X.w) X.A (subscripted slice false (.ref a) u) (fun r s₃ => wpAny (model X.prog X.w) X.A (letTemporaryGo value (.ref a) r >>= fun _ => pure r) (EP X pins σ Q) X.xe s₃) X.xe s := by
    rw [hs]
    exact wpAny_operating (wpAny_mono (d_getItem hu I g ry fun w' s' I' r' => show EP X pins σ Q w' s' from ⟨z, H, I', r', q⟩) (fun r s₃ h₃ => wpAny_bind (wpAny_letTemporaryGo (wpAny_pure h₃))) fun _ _ x => x)
  first
    | exact wpAny_pure (wpAny_bind fin)
    | exact wpAny_bind (wpAny_pure (wpAny_bind fin))
    | exact wpAny_bind fin
def rIxG (K : PySem.W.Frag) : R2 := fun x y H Q => rIx K x y H Q ∨ rIxDic x y H Q
theorem ix_G (hu : X.A.units + 1 < cLine) : IxR X (rIxG X.K) := ix_seq.or (ix_dic hu)
def rSlG (K : PySem.W.Frag) : V → Option Int → Option Int → Hp → VK → Prop := fun x lo hi H Q => rSlL K x lo hi H Q ∨ (rSlS x lo hi H Q ∨ rSlT K x lo hi H Q)
theorem sl_G : SlR X (rSlG X.K) := sl_list.or (sl_str.or sl_tup)
end
section
variable {K : PySem.W.Frag} {F B0 H H' B B' : Hp} {τ τs : List V} {T os : List O} {σ : L2.St} {Γ : En} {S S1 S2 : Ad} {v w : V} {o p : O} {x : D} {post : O → En → Prop} {ta tb te td ty tv : TE} {tt tu : TT} {i : Nat} {posts : List D → En → Prop} {postt : Bool → En → Prop} {posts1 : En → Prop} {Dd : EG} {xs : List D} {vs : List V}
theorem RL.at {i : Int} {y : D} (r : RL K B vs xs) (h : atI xs i = some y) : ∃ v, atI vs i = some v ∧ R K B v y := by
  unfold atI at h ⊢
  rw [r.length]
  cases q : ixN xs.length i with
  | none => rw [q] at h; cases h
  | some j =>
    rw [q] at h
    exact r.get (i := j) h
theorem o2_ix {x : D} {xs : List D} {i : Int} {y : D} (q : x.items? = some xs) (hi : atI xs i = some y) (h : post (.d y) Γ) : Op2 K F B0 (rIxG K) x (.int i) T Γ post := fun τ σ H B S v1 v2 Q w r1 r2 k => by
  cases r2
  obtain ⟨a, vs, rfl, sq, rl⟩ := r1.items q
  obtain ⟨u, hu, ru⟩ := rl.at hi
  rcases sq with sq | sq
  · exact .inl (.inl ⟨a, vs, i, u, rfl, rfl, w.pu.sqL sq, hu, k _ _ Γ H h ⟨_, _, w.pushd ru⟩⟩)
  · exact .inl (.inr (.inl ⟨a, vs, i, u, rfl, rfl, w.pu.sqT' sq, hu, k _ _ Γ H h ⟨_, _, w.pushd ru⟩⟩))
def cutD {α : Type} (xs : List α) (lo hi : Option Int) : List α := (xs.drop (HT.sIx xs.length 0 lo)).take (HT.sIx xs.length xs.length hi - HT.sIx xs.length 0 lo)
theorem RL.drop : ∀ {vs : List V} {xs : List D} (n : Nat), RL K B vs xs → RL K B (vs.drop n) (xs.drop n)
  | _, _, 0, r => r
  | _, _, _ + 1, .nil => .nil
  | _, _, n + 1, .cons _ t => RL.drop n t
theorem RL.take : ∀ {vs : List V} {xs : List D} (n : Nat), RL K B vs xs → RL K B (vs.take n) (xs.take n)
  | _, _, 0, _ => .nil
  | _, _, _ + 1, .nil => .nil
  | _, _, n + 1, .cons r t => .cons r (RL.take n t)
theorem RL.cut (r : RL K B vs xs) (lo hi : Option Int) : RL K B (cutV vs lo hi) (cutD xs lo hi) := by
  unfold cutV cutD
  rw [r.length]
  exact (r.drop _).take _
/-- a slice's part: left out, or a number -/
def GoO (K : PySem.W.Frag) (F B0 : Hp) (t : TO) (T : List O) (Γ : En) (post : Option Int → En → Prop) : Prop := ∀ (τ : List V) (σ : L2.St) (H : Hp) (Q : Option Int → Hp → Prop), Ho K F B0 τ T σ Γ H →
  (∀ o Γ' H', post o Γ' → Ho K F B0 τ T σ Γ' H' → Q o H') → t σ H Q
theorem goo_none {posto : Option Int → En → Prop} (h : posto none Γ) : GoO K F B0 tNoPart T Γ posto := fun τ σ H Q hw k => k none Γ H h hw
theorem goo_some {posto : Option Int → En → Prop} (h : Go K F B0 te T Γ fun o Γ1 => ∃ i, o = .d (.int i) ∧ posto (some i) Γ1) : GoO K F B0 (tPart te) T Γ posto := fun τ σ H Q hw k =>
  h τ σ H _ hw fun v o Γ1 H1 ⟨i, e, h1⟩ ⟨_, _, w1⟩ => by
    subst e
    obtain ⟨r, _, _, w⟩ := w1.popd
    cases r
    exact ⟨i, rfl, k _ _ _ h1 ⟨_, _, w⟩⟩
/-- a slice's value -/
inductive Sl : D → Option Int → Option Int → O → Prop
  | lst {x : D} {xs : List D} {lo hi : Option Int} : D.seq? x = some xs → Sl x lo hi (.ol ((cutD xs lo hi).map O.d))
  | str {z : Str} {lo hi : Option Int} : z.length ≤ 100000 → Sl (.str z) lo hi (.d (.str (cutS z lo hi)))
  | tup {xs : List D} {lo hi : Option Int} : ¬ (HT.sIx xs.length 0 lo = 0 ∧ HT.sIx xs.length xs.length hi = xs.length) → Sl (.tup xs) lo hi (.d (.tup (cutD xs lo hi)))
theorem go_sl {tl th : TO} (h : Go K F B0 te T Γ fun o Γ1 => GoO K F B0 tl (.d o.fz :: T) Γ1 fun lo Γ2 => GoO K F B0 th (.d o.fz :: T) Γ2 fun hi Γ3 => ∃ o2, Sl o.fz lo hi o2 ∧ post o2 Γ3) : Go K F B0 (tSl (rSlG K) te tl th) T Γ post := fun τ σ H Q hw k =>
  h τ σ H _ hw fun v o Γ1 H1 h1 ⟨_, _, w1⟩ => by
    obtain ⟨_, _, w1, _⟩ := w1.fz
    refine h1 _ σ H1 _ ⟨_, _, w1⟩ fun lo Γ2 H2 h2 w2 => h2 _ σ H2 _ w2 fun hi Γ3 H3 ⟨o2, sl, h3⟩ ⟨_, _, w3⟩ => ?_
    obtain ⟨r, _, _, w⟩ := w3.popd
    generalize o.fz = y at r sl
    cases sl with
    | lst q =>
      obtain ⟨a, vs, rfl, sq, rl⟩ := r.seqL q
      refine .inl ⟨a, vs, rfl, w.pu.sqL sq, fun p hp => ?_⟩
      obtain ⟨S2, w⟩ := w.newl hp (rl.cut lo hi)
      exact k _ _ _ _ h3 ⟨_, _, w⟩
    | str hz =>
      cases r
      exact .inr (.inl ⟨_, rfl, Nat.le_trans hz (by decide), k _ _ _ _ h3 ⟨_, _, w.pushd .str⟩⟩)
    | tup hn =>
      cases r with | @tup a vs _ sq rl =>
      refine .inr (.inr ⟨a, vs, rfl, w.pu.sqT sq, by rw [rl.length]; exact hn, fun p hp => ?_⟩)
      obtain ⟨S2, w⟩ := w.newd (x := .tup (cutD _ lo hi)) hp (.tup (SqT.of upd_same) ((rl.cut lo hi).mono (.of_ex (.new (w.pu.back hp)))))
      exact k _ _ _ _ h3 ⟨_, _, w⟩
def rLenG (K : PySem.W.Frag) : List V → Hp → VK → Prop := fun xs H Q => (∃ x n, xs = [x] ∧ LenV K x H n ∧ Q (.int n) H) ∨ ∃ a kvs, xs = [V.ref a] ∧ Rd H a (.dK kvs) ∧ Q (.int kvs.length) H
theorem call_lenG {X : Cx} : CallR X (.builtin "len") (rLenG X.K) := by
  intro pins s σ H xs us Q I r h
  rcases h with h | ⟨a, kvs, rfl, ha, q⟩
  · exact call_len pins s σ H xs us Q I r h
  · rw [r.ref1]
    exact d_len I ha fun t s' I' => ⟨.int kvs.length, H, I', ⟨t, rfl⟩, q⟩
inductive Ln : D → Nat → Prop
  | seq {x : D} {xs : List D} : D.items? x = some xs → Ln x xs.length
  | str {z : Str} : z.length ≤ 100000 → Ln (.str z) z.length
  | dic {kvs : List (Key × D)} : Ln (.dic kvs) kvs.length
theorem RK.length : ∀ {ws : List (Key × V)} {kvs : List (Key × D)}, RK K B ws kvs → ws.length = kvs.length
  | _, _, .nil => rfl
  | _, _, .cons _ t => by simp [RK.length t]
theorem oa_len {x : D} {n : Nat} (q : Ln x n) (h : post (.d (.int n)) Γ) : OpA K F B0 (rLenG K) [x] T Γ post := fun τ σ H B S vs Q w rl k => by
  obtain ⟨v1, rfl, r⟩ := rl.one
  have fin := fun (n : Nat) (h : post (.d (.int n)) Γ) => k (.int n) _ Γ H h ⟨_, _, w.pushd .int⟩
  cases q with
  | seq q =>
    obtain ⟨a, vs, rfl, sq, rl⟩ := r.items q
    rcases sq with sq | sq
    · exact .inl ⟨_, _, rfl, .inl ⟨vs, w.pu.sqL sq, rl.length.symm⟩, fin _ h⟩
    · exact .inl ⟨_, _, rfl, .inr ⟨vs, w.pu.sqT' sq, rl.length.symm⟩, fin _ h⟩
  | str hz => cases r; exact .inl ⟨_, _, rfl, ⟨Nat.le_trans hz (by decide), rfl⟩, fin _ h⟩
  | dic => cases r with | @dic a ws _ hd _ rk => exact .inr ⟨a, ws, rfl, w.pu.rd hd, by rw [rk.length]; exact fin _ h⟩
def rMax2 : List V → Hp → VK → Prop := fun xs H Q => ∃ i j, xs = [.int i, .int j] ∧ Q (.int (if j > i then j else i)) H
def rMin2 : List V → Hp → VK → Prop := fun xs H Q => ∃ i j, xs = [.int i, .int j] ∧ Q (.int (if j < i then j else i)) H
theorem call_max2G {X : Cx} (hc : X.calm = true) : CallR X (.builtin "max") rMax2 := call_max2 hc
theorem call_min2G {X : Cx} (hc : X.calm = true) : CallR X (.builtin "min") rMin2 := call_min2 hc
theorem oa_max2 {a b : Int} (h : post (.d (.int (if b > a then b else a))) Γ) : OpA K F B0 rMax2 [.int a, .int b] T Γ post := fun τ σ H B S vs Q w rl k => by
  obtain ⟨v1, v2, rfl, r, r2⟩ := rl.two
  cases r; cases r2
  exact ⟨a, b, rfl, k _ _ Γ H h ⟨_, _, w.pushd .int⟩⟩
theorem oa_min2 {a b : Int} (h : post (.d (.int (if b < a then b else a))) Γ) : OpA K F B0 rMin2 [.int a, .int b] T Γ post := fun τ σ H B S vs Q w rl k => by
  obtain ⟨v1, v2, rfl, r, r2⟩ := rl.two
  cases r; cases r2
  exact ⟨a, b, rfl, k _ _ Γ H h ⟨_, _, w.pushd .int⟩⟩
def rListG (K : PySem.W.Frag) : List V → Hp → VK → Prop := fun xs H Q => (∃ p ys, xs = [.ref p] ∧ (SqL K H p ys ∨ L2.SqT K H p ys) ∧ ∀ l, H l = none → Q (.ref l) (upd H l (.lst ys))) ∨
  ∃ (a : Addr) (kvs : List (Key × V)), xs = [.ref a] ∧ Rd H a (.dK kvs) ∧ ∀ p, H p = none → Q (.ref p) (upd H p (.lst (kvs.map fun kv => kV kv.1)))
theorem call_listG {X : Cx} (hc : X.calm = true) : CallR X (.type "list") (rListG X.K) := call_list_of.or (call_listD hc)
theorem oa_list {x : D} {xs : List D} (q : x.items? = some xs) (h : post (.ol (xs.map O.d)) Γ) : OpA K F B0 (rListG K) [x] T Γ post := fun τ σ H B S vs Q w rl k => by
  obtain ⟨v1, rfl, r⟩ := rl.one
  obtain ⟨a, vs, rfl, sq, rl⟩ := r.items q
  refine .inl ⟨a, vs, rfl, sq.imp w.pu.sqL w.pu.sqT', fun p hp => ?_⟩
  obtain ⟨S2, w⟩ := w.newl hp rl
  exact k _ _ _ _ h ⟨_, _, w⟩
theorem RK.keys : ∀ {ws : List (Key × V)} {kvs : List (Key × D)}, RK K B ws kvs → ws.map (·.1) = kvs.map (·.1)
  | _, _, .nil => rfl
  | _, _, .cons _ t => by simp [RK.keys t]
/-- dict(d) -/
def rDictD : List V → Hp → VK → Prop := fun xs H Q => ∃ (a : Addr) (kvs : List (Key × V)), xs = [.ref a] ∧ Rd H a (.dK kvs) ∧ ∀ p, H p = none → Q (.ref p) (upd H p (.dK kvs))
theorem RK.flK {S : Ad} : ∀ {ws : List (Key × V)} {kvs : List (Key × D)}, RK K B ws kvs → RS K B H S (ws.map fun p => some p.2) ((kvs.map fun p => (p.1, O.d p.2)).map fun p => some p.2)
  | _, _, .nil => .nil
  | _, _, .cons r t => .cons (S1 := fun _ => False) (S2 := S) (fun _ z => z.elim) (fun _ z => z) (fun _ z => z.elim) (.d r) (RK.flK t)
theorem oa_dictD {kvs : List (Key × D)} (h : post (.od (kvs.map fun p => (p.1, O.d p.2))) Γ) : OpA K F B0 rDictD [.dic kvs] T Γ post := fun τ σ H B S vs Q w rl k => by
  obtain ⟨v1, rfl, r⟩ := rl.one
  cases r with | @dic a ws _ hd nd rk =>
  refine ⟨a, ws, rfl, w.pu.rd hd, fun p hp => ?_⟩
  obtain ⟨S2, w⟩ := w.newo hp (v := .ref p) (c := .dK ws) (o := .od (kvs.map fun p => (p.1, O.d p.2))) (.od (S' := fun _ => False) rfl (fun _ z => z.elim) id upd_same (by rw [List.map_map]; exact nd) (by rw [rk.keys, List.map_map]; rfl) rk.flK)
  exact k _ _ _ _ h ⟨_, _, w⟩
inductive TyD : D → String → Prop
  | non : TyD .non "NoneType"
  | bl {b : Bool} : TyD (.bl b) "bool"
  | int {i : Int} : TyD (.int i) "int"
  | str {s : Str} : TyD (.str s) "str"
  | tup {xs : List D} : TyD (.tup xs) "tuple"
  | ctu {xs : List D} : TyD (.ctu xs) "tuple"
  | lst {xs : List D} : TyD (.lst xs) "list"
  | dic {kvs : List (Key × D)} : TyD (.dic kvs) "dict"
theorem TyD.at {n : String} (t : TyD x n) (r : R K B v x) (pu : Ex B H) : TyX K H v (.type n) := by
  cases t <;> cases r
  · exact .base .non
  · exact .base (.bl _)
  · exact .base (.int _)
  · exact .base (.str _)
  · rename_i h _
    exact .base (.tup (pu _ _ h))
  · rename_i a vs h _
    rcases h with h | ⟨o, its, n, h1, h2, _⟩
    · rcases pu.rd h with h | ⟨o, h⟩
      · exact .base (.tup h)
      · exact .fTuple h
    · exact .kTuple h1 h2
  · rename_i h _
    exact .base (.lst (pu _ _ h))
  · rename_i h _ _
    rcases pu.rd h with h | ⟨o, h⟩
    · exact .base (.dK h)
    · exact .fDict h
theorem oa_isi {x : D} {n c : String} {b : Bool} (t : TyD x n) (q : kitB n c = some b) (h : post (.d (.bl b)) Γ) : OpA K F B0 (rIsi K) [x, .ty c] T Γ post := fun τ σ H B S vs Q w rl k => by
  obtain ⟨v1, v2, rfl, r, r2⟩ := rl.two
  cases r2
  exact ⟨_, _, .type n, .type c, b, rfl, .ty c, t.at r w.pu, kit_ty q, k _ _ Γ H h ⟨_, _, w.pushd .bl⟩⟩
theorem gos_while {tc : TT} {tb : TS} (Iv : Nat → En → Prop) (h0 : ∃ m, Iv m Γ) (hs : ∀ m Γ', Iv m Γ' → GoT K F B0 tc T Γ' fun b Γ2 => (b = true → GoS K F B0 tb T Γ2 { nx := fun Γ3 => ∃ m', m' < m ∧ Iv m' Γ3, rt := Dd.rt, bk := Dd.nx, ct := fun Γ3 => ∃ m', m' < m ∧ Iv m' Γ3 }) ∧ (b = false → Dd.nx Γ2)) :
    GoS K F B0 (tWhile tc tb) T Γ Dd := fun τ σ H De hw s => by
  obtain ⟨m0, h0⟩ := h0
  refine ⟨fun m σ' H' => ∃ Γ', Iv m Γ' ∧ Ho K F B0 τ T σ' Γ' H', ⟨m0, Γ, h0, hw⟩, ?_⟩
  rintro m σ' H' ⟨Γ', p, w⟩
  refine hs m Γ' p τ σ' H' _ w fun b Γ2 H2 ⟨h1, h2⟩ w2 => ?_
  cases b with
  | true =>
    refine iteT ⟨fun σ3 H3 => ∃ m', m' < m ∧ ∃ Γ3, Iv m' Γ3 ∧ Ho K F B0 τ T σ3 Γ3 H3, fun _ _ z => z, h1 rfl τ σ' H2 _ w2 ⟨?_, s.rt, s.nx, ?_⟩⟩
    · rintro σ3 Γ3 H3 ⟨m', l, q⟩ w3; exact ⟨m', l, Γ3, q, w3⟩
    · rintro σ3 Γ3 H3 ⟨m', l, q⟩ w3; exact ⟨m', l, Γ3, q, w3⟩
  | false => exact iteF (s.nx σ' Γ2 H2 (h2 rfl) w2)
def wipeE : En → List Nat → En
  | Γ, [] => Γ
  | Γ, j :: js => (wipeE Γ js).set j none
theorem RS.unset : ∀ {σ : List (Option V)} {Γ : List (Option O)} {S : Ad} {j : Nat} {v : Option V}, RS K B H S σ Γ → RS K B H S (σ.set j v) (Γ.set j none)
  | _, _, _, _, _, .nil => .nil
  | _, _, _, 0, _, .un r => .un r
  | _, _, _, 0, _, .cons _ s2 _ _ r => .un (r.tr (.refl B) s2 fun _ _ _ e => e)
  | _, _, _, j + 1, _, .un r => .un (RS.unset r)
  | _, _, _, j + 1, _, .cons s1 s2 d r rs => .cons s1 s2 d r (RS.unset rs)
theorem HW.unset (h : HW K F B0 τ T σ Γ H B S) (j : Nat) (v : Option V) : HW K F B0 τ T (σ.set j v) (Γ.set j none) H B S := by
  refine ⟨h.fr, h.pu, h.b0, h.ow, h.nw, ?_, h.lt, h.tp⟩
  have r := RS.unset (j := τ.length + j) (v := v) h.rs
  rw [List.set_append_right _ _ (by simp), List.set_append_right _ _ (by simp [h.lt]), List.length_map, List.length_map, ← h.lt, Nat.add_sub_cancel_left] at r
  exact r
theorem HW.wipe : ∀ {js : List Nat}, HW K F B0 τ T σ Γ H B S → HW K F B0 τ T (L2.wipe σ js) (wipeE Γ js) H B S
  | [], h => h
  | j :: _, h => (HW.wipe h).unset j none
/-- the slots are as they were, but for some that are forgotten -/
theorem HW.back (h : HW K F B0 τ T σ Γ H B S) {σ' : L2.St} {Γ' : En} (w : HW K F B0 τ T σ' Γ' H B S) : True := trivial
/-- a target that stores in the comprehension's own slots alone -/
def GoW (K : PySem.W.Frag) (F B0 : Hp) (js : List Nat) (g : TG) (d : D) (T : List O) (Γ : En) (post : En → Prop) : Prop := ∀ (τ : List V) (σ : L2.St) (H : Hp) (v : V) (Q : L2.St → Hp → Prop), Ho K F B0 (v :: τ) (.d d :: T) (L2.wipe σ js) Γ H →
  (∀ σ' Γ' H', post Γ' → L2.wipe σ' js = L2.wipe σ js → Ho K F B0 τ T σ' Γ' H' → Q σ' H') → g v (L2.wipe σ js) H Q
theorem wipe_set {j : Nat} : ∀ {js : List Nat} {σ : L2.St} {v : Option V}, j ∈ js → L2.wipe (σ.set j v) js = L2.wipe σ js
  | [], _, _, h => by cases h
  | k :: js, σ, v, h => by
    unfold L2.wipe
    by_cases q : j = k
    · subst q
      by_cases q2 : j ∈ js
      · rw [wipe_set q2]
      · have e : ∀ (js : List Nat) (σ : L2.St), j ∉ js → L2.wipe (σ.set j v) js = (L2.wipe σ js).set j v := by
          intro js
          induction js with
          | nil => intro σ _; rfl
          | cons k js ih =>
            intro σ h
            simp only [List.mem_cons, not_or] at h
            unfold L2.wipe
            rw [ih σ h.2, List.set_comm _ _ h.1]
        rw [e js σ q2, List.set_set]
    · have h2 : j ∈ js := (List.mem_cons.mp h).resolve_left q
      rw [wipe_set h2]
theorem wipe_wipe : ∀ {js ks : List Nat} {σ : L2.St}, (∀ k ∈ js, k ∈ ks) → L2.wipe (L2.wipe σ js) ks = L2.wipe σ ks
  | [], _, _, _ => rfl
  | j :: js, ks, σ, h => by
    show L2.wipe ((L2.wipe σ js).set j none) ks = _
    rw [wipe_set (h j (by simp)), wipe_wipe fun k hk => h k (by simp [hk])]
theorem gow_name {js : List Nat} {j : Nat} {d : D} (hj : j ∈ js) (hi : j < Γ.length) (h : posts1 (Γ.set j (some (.d d)))) : GoW K F B0 js (gName j) d T Γ posts1 := fun τ σ H v Q ⟨_, _, w⟩ k => by
  obtain ⟨S', w⟩ := w.put hi
  exact k _ _ _ h (by rw [wipe_set hj, wipe_wipe fun _ h => h]) ⟨_, S', w⟩
def GoWs (K : PySem.W.Frag) (F B0 : Hp) (js : List Nat) (g : TGs) (xs : List D) (T : List O) (Γ : En) (post : En → Prop) : Prop := ∀ (τ : List V) (σ σ0 : L2.St) (H B : Hp) (S : Ad) (vs : List V) (Q : L2.St → Hp → Prop), HW K F B0 τ T σ Γ H B S → RL K B vs xs → L2.wipe σ js = L2.wipe σ0 js →
  (∀ σ' Γ' H', post Γ' → L2.wipe σ' js = L2.wipe σ0 js → Ho K F B0 τ T σ' Γ' H' → Q σ' H') → g vs σ H Q
theorem gow_tup {js : List Nat} {g : TGs} {n : Nat} {d : D} {xs : List D} (e : d = .tup xs) (hn : xs.length = n) (h : GoWs K F B0 js g xs T Γ posts1) : GoW K F B0 js (gTup K n g) d T Γ posts1 := fun τ σ H v Q ⟨B, S, w⟩ k => by
  subst e
  obtain ⟨r, S2, _, w2⟩ := w.popd
  cases r with
  | @tup a vs _ sq rl => exact ⟨a, vs, rfl, w.pu.sqT sq, by rw [rl.length, hn], h τ _ σ H B S2 vs Q w2 rl (wipe_wipe fun _ h => h) k⟩
theorem gows_nil {js : List Nat} (h : posts1 Γ) : GoWs K F B0 js gNil [] T Γ posts1 := fun τ σ σ0 H B S vs Q w r e k => by
  cases r
  exact ⟨rfl, k σ Γ H h e ⟨_, _, w⟩⟩
theorem gows_name {js : List Nat} {xs : List D} {g : TGs} {j : Nat} (hj : j ∈ js) (hi : j < Γ.length) (h : GoWs K F B0 js g xs T (Γ.set j (some (.d x))) posts1) : GoWs K F B0 js (gCons (gName j) g) (x :: xs) T Γ posts1 := fun τ σ σ0 H B S vs Q w r e k => by
  cases r with
  | cons r rl =>
    obtain ⟨S', w'⟩ := (w.pushd r).put hi
    exact ⟨_, _, rfl, h τ _ σ0 H B S' _ Q w' rl (by rw [wipe_set hj, e]) k⟩
end
end SK
namespace SK
open PySem PySem.Spec PyProof.Rows L2
def iSeq (K : PySem.W.Frag) (tl : TE) : TI := fun σ H R => tl σ H fun x H1 => (∃ a, x = .ref a ∧ (∃ xs, SqL K H1 a xs) ∧ R (Itl K a) H1) ∨ ((∃ a, x = .ref a ∧ (∃ xs, L2.SqT K H1 a xs) ∧ R (Itt K a) H1) ∨ ∃ s, x = .str s ∧ R (Its s) H1)
theorem pi_seq {X : Cx} {tg l : Expr} {tl : TE} (hl : PE X l tl) : PI X tg l (iSeq X.K tl) := by
  refine ⟨fun pins s σ H R I h => ?_⟩
  -- the three kinds, each by its own rule over a value that is there
  refine thn (hl.run pins s σ H _ I h) fun v s1 ⟨x, H1, I1, r1, q1⟩ => ?_
  rcases q1 with ⟨a, e, ⟨xs, hq⟩, q⟩ | ⟨a, e, ⟨xs, hq⟩, q⟩ | ⟨z, e, q⟩
  · subst e
    cases r1
    obtain ⟨its, rv, p, hz⟩ := I1.list hq
    refine wpAny_pyIter_list p.isList ?_
    refine ⟨s1.heap.objs.size, [s1.heap.objs.size], _, _, H1, rfl, I1.kept (t' := s1.toks) fun b o e => Heap.get?_push_of_some _ e, turn_list a _, ⟨_, Heap.get?_push_size _ rfl, rfl, rfl⟩, fun b hb => ?_, q⟩
    have e : b = s1.heap.objs.size := by simpa using hb
    subst e
    exact I1.fpOk (Nat.le_refl _) (I1.hok.fresh (Nat.le_refl _))
  · subst e
    cases r1
    obtain ⟨its, rv, p, hz⟩ := I1.tuple hq
    refine wpAny_pyIter_tuple (show s1.heap.IsTuple a its.toArray from p) ?_
    refine ⟨s1.heap.objs.size, [s1.heap.objs.size], _, _, H1, rfl, I1.kept (t' := s1.toks) fun b o e => Heap.get?_push_of_some _ e, turn_tuple a _, ⟨_, Heap.get?_push_size _ rfl, rfl, rfl⟩, fun b hb => ?_, q⟩
    have e : b = s1.heap.objs.size := by simpa using hb
    subst e
    exact I1.fpOk (Nat.le_refl _) (I1.hok.fresh (Nat.le_refl _))
  · subst e
    obtain ⟨t, rfl⟩ := r1
    cases ha : z.cps.all (· < 128)
    · exact wpAny_pyIter_wide ha (pi_one (tk := s1.toks) I1 _ (turn_str _ z t "str_iterator" (.inr rfl)) ⟨_, Heap.get?_push_size _ rfl, rfl, rfl⟩ q)
    · exact wpAny_pyIter_ascii ha (pi_one (tk := s1.toks) I1 _ (turn_str _ z t "str_ascii_iterator" (.inl rfl)) ⟨_, Heap.get?_push_size _ rfl, rfl, rfl⟩ q)
def rInsert : V → List V → Hp → VK → Prop := fun x vs H Q => ∃ (l : Addr) (xs : List V) (i : Int) (y : V), x = .ref l ∧ vs = [.int i, y] ∧ H l = some (.lst xs) ∧ xs.length < sizeLine ∧ 0 ≤ i ∧ i < 2 ^ 63 ∧
    Q .non (upd H l (.lst (xs.take i.toNat ++ [y] ++ xs.drop i.toNat)))
def rIsiG (K : PySem.W.Frag) : List V → Hp → VK → Prop := fun xs H Q => rIsi K xs H Q ∨ rIsiT K xs H Q
theorem call_isiG {X : Cx} : CallR X (.builtin "isinstance") (rIsiG X.K) := call_isi.or call_isiT
/-- o[i] = v of a list or a dict -/
def rSetG : TSet := fun o i v H Q => rSetL o i v H Q ∨ ∃ a H', o = .ref a ∧ DPut H a i v H' ∧ Q H'
theorem set_G {X : Cx} (hu : X.A.units + 1 < cLine) : PSet X rSetG := by
  intro pins s σ H o i v ov iv u Q I ro ri rv h
  rcases h with h | ⟨a, H', e, g, q⟩
  · exact set_list pins s σ H o i v ov iv u Q I ro ri rv h
  · subst e
    cases ro
    exact d_setItem hu I g ri rv fun s' I' => ⟨H', I', q⟩
def ipAddG : TIp := fun x y H Q => rI0 (fun i j => .int (i + j)) x y H Q ∨ ∃ i j, x = .str i ∧ y = .str j ∧ i.length + j.length ≤ sizeLine ∧ Q (.str (i ++ j)) H
theorem iop_addG {X : Cx} : PIp X .Add ipAddG := iop_add.or iop_add_str
def ipSubG : TIp := rI0 fun i j => .int (i - j)
section
variable {K : PySem.W.Frag} {F B0 H H' B B' : Hp} {τ τs : List V} {T os : List O} {σ : L2.St} {Γ : En} {S S1 S2 : Ad} {v w : V} {o p : O} {x : D} {post : O → En → Prop} {ta tb tc te td ty tv : TE} {tt tu : TT} {i : Nat} {posts : List D → En → Prop} {postt : Bool → En → Prop} {posts1 : En → Prop} {Dd : EG} {xs : List D} {vs : List V} {r r' : R2}
/-- what a walk finds in a thing -/
inductive Wk : D → List D → Prop
  | seq {x : D} {xs : List D} : D.seq? x = some xs → Wk x xs
  | tup {xs : List D} : Wk (.tup xs) xs
  | str {s : Str} : Wk (.str s) (sgnD s)
theorem goi_seq {tl : TE} {posti : List D → List D → En → Prop} (h : Go K F B0 tl T Γ fun o Γ1 => ∃ xs, Wk o.fz xs ∧ posti xs [o.fz] Γ1) : GoI K F B0 (iSeq K tl) T Γ posti := fun τ σ H Q hw k =>
  h τ σ H _ hw fun v o Γ1 H1 ⟨xs, q, h1⟩ ⟨_, _, w1⟩ => by
    obtain ⟨B2, S2, w2, _⟩ := w1.fz
    obtain ⟨r, S3, _, w3⟩ := w2.popd
    generalize o.fz = y at r q h1 w2
    cases q with
    | seq q =>
      obtain ⟨a, vs, e, sq, rl⟩ := r.seqL q
      subst e
      exact .inl ⟨a, rfl, ⟨vs, w2.pu.sqL sq⟩, k (Itl K a) [.ref a] [y] xs Γ1 H1 h1 ⟨_, _, w2⟩ rfl (iter_list q)⟩
    | tup =>
      cases r with
      | @tup a vs _ sq rl => exact .inr (.inl ⟨a, rfl, ⟨vs, w2.pu.sqT sq⟩, k (Itt K a) [.ref a] [.tup xs] xs Γ1 H1 h1 ⟨_, _, w2⟩ rfl iter_tup⟩)
    | @str s =>
      cases r
      refine .inr (.inr ⟨s, rfl, k _ [.str s] [.str s] _ Γ1 H1 h1 ⟨_, _, w2⟩ rfl ?_⟩)
      intro τ T σ Γ H B S h _
      exact iter_str τ T σ Γ H B S h .nil
/-- a < b < c -/
theorem go_chain (h : Go K F B0 ta T Γ fun o1 Γ1 => Go K F B0 tb (.d o1.fz :: T) Γ1 fun o2 Γ2 => Op2 K F B0 r o1.fz o2.fz (.d o2.fz :: T) Γ2 fun o Γ3 => ∃ b, o = .d (.bl b) ∧
    (b = true → Go K F B0 tc (.d o2.fz :: T) Γ3 fun o3 Γ4 => Op2 K F B0 r' o2.fz o3.fz T Γ4 post) ∧ (b = false → post (.d (.bl false)) Γ3)) : Go K F B0 (tChain r r' ta tb tc) T Γ post := fun τ σ H Q hw k =>
  h τ σ H _ hw fun v1 o1 Γ1 H1 h1 ⟨_, _, w1⟩ => by
    obtain ⟨_, _, w1, _⟩ := w1.fz
    refine h1 _ σ H1 _ ⟨_, _, w1⟩ fun v2 o2 Γ2 H2 h2 ⟨_, _, w2⟩ => ?_
    obtain ⟨_, _, w2, e2⟩ := w2.fz
    obtain ⟨r2, _, _, w2'⟩ := w2.popd
    obtain ⟨r1, _, _, w0⟩ := w2'.popd
    have w3 := w0.pushd r2
    refine h2 _ σ H2 _ _ v1 v2 _ w3 r1 r2 fun v o Γ3 H3 ⟨b, eo, ht, hf⟩ ⟨_, _, w4⟩ => ?_
    subst eo
    obtain ⟨rb, _, _, w5⟩ := w4.popd
    cases rb
    refine ⟨b, rfl, ?_⟩
    cases b with
    | true =>
      refine iteT (ht rfl _ σ H3 _ ⟨_, _, w5⟩ fun v3 o3 Γ4 H4 h4 ⟨_, _, w6⟩ => ?_)
      obtain ⟨_, _, w6, r3, _⟩ := w6.fzd
      obtain ⟨r2', _, _, w6⟩ := w6.popd
      exact h4 τ σ H4 _ _ v2 v3 Q w6 r2' r3 k
    | false =>
      obtain ⟨_, _, _, w6⟩ := w5.popd
      exact iteF (k _ _ Γ3 H3 (hf rfl) ⟨_, _, w6.pushd .bl⟩)
theorem oa_isiG {x : D} {n c : String} {b : Bool} (t : TyD x n) (q : kitB n c = some b) (h : post (.d (.bl b)) Γ) : OpA K F B0 (rIsiG K) [x, .ty c] T Γ post := fun τ σ H B S vs Q w rl k =>
  .inl (oa_isi t q h τ σ H B S vs Q w rl k)
theorem oi_add {a b : Int} (h : post (.d (.int (a + b))) Γ) : Op2 K F B0 ipAddG (.int a) (.int b) T Γ post := fun τ σ H B S v1 v2 Q w r1 r2 k => by
  cases r1; cases r2
  exact .inl ⟨a, b, rfl, rfl, k _ _ Γ H h ⟨_, _, w.pushd .int⟩⟩
theorem oi_sub {a b : Int} (h : post (.d (.int (a - b))) Γ) : Op2 K F B0 ipSubG (.int a) (.int b) T Γ post := fun τ σ H B S v1 v2 Q w r1 r2 k => by
  cases r1; cases r2
  exact ⟨a, b, rfl, rfl, k _ _ Γ H h ⟨_, _, w.pushd .int⟩⟩
theorem RL.ints : ∀ {vs : List V} {ns : List Int}, RL K B vs (ns.map D.int) → vs = ns.map V.int
  | [], [], _ => rfl
  | v :: vs, n :: ns, .cons r t => by cases r; rw [RL.ints t]; rfl
  | _ :: _, [], r => by cases r
  | [], _ :: _, r => by cases r
/-- d[k] = e, xs[i] = e, as a target -/
theorem gog_setD {ti : TE} (h : Go K F B0 ti (o :: T) Γ fun ok Γ2 => ∃ k kvs, ok = .d (kD k) ∧ Γ2[i]? = some (some (.od kvs)) ∧ kvs.length < 100000 ∧ posts1 (Γ2.set i (some (.od (dput kvs k o))))) (h0 : ∃ kvs0, Γ[i]? = some (some (.od kvs0))) :
    GoG K F B0 (gSub (tVar i) ti rSetG) o T Γ posts1 := fun τ σ H v1 Q ⟨B1, S1, w1⟩ k' => by
  obtain ⟨kvs0, e0⟩ := h0
  obtain ⟨v, T1, a1, r1, _, _⟩ := w1.mut1 e0
  refine ⟨v, a1, h (v1 :: τ) σ H _ ⟨B1, S1, w1⟩ fun v2 o2 Γ2 H2 ⟨k, kvs, eo, e2, hz, h2⟩ ⟨B2, S2, w2⟩ => ?_⟩
  subst eo
  obtain ⟨rk, S3, _, w3⟩ := w2.popd
  have ek := rk.kV
  subst ek
  obtain ⟨v', S5, So, a2, r2, ro, dj, _, _, f⟩ := w3.mut2 e2
  rw [a1] at a2
  cases a2
  cases r2 with
  | @od _ S4 a ws _ ha hs hn hc nd ek rs =>
  have len : ws.length = kvs.length := by have := congrArg List.length ek; simpa using this
  refine .inr ⟨a, _, rfl, .inl ⟨ws, k, hc, rfl, by rw [len]; exact Nat.lt_of_lt_of_le hz (by decide), rfl⟩, ?_⟩
  obtain ⟨S', w4⟩ := f a (.dK (putK ws k v1)) (.od (dput kvs k o)) ha (.od (S' := fun b => S4 b ∨ So b) (.inl ha) (fun b z => z.imp (hs b) id) (fun z => z.elim hn fun z => dj a ha z) upd_same (dput_nodup nd) (by rw [putK_dput]; exact dput_keys ek) (by
    rw [putK_dput]
    exact (rs.dput ro nd ek fun b z => dj b (hs b z)).at fun b u z q => by
      rw [upd_ne (fun e => by subst e; exact z.elim hn fun z => dj b ha z)]; exact q))
  exact k' σ _ _ h2 ⟨B2, S', w4⟩
theorem fl_ins {So : Ad} (ro : RO K B H So w o) {Si : Ad} : ∀ {vs : List V} {xs : List O} (n : Nat), RS K B H Si (vs.map some) (xs.map some) → (∀ b, Si b → ¬ So b) → RS K B H (fun b => Si b ∨ So b) ((vs.take n ++ [w] ++ vs.drop n).map some) ((xs.take n ++ [o] ++ xs.drop n).map some) := by
  intro vs xs n r dj
  induction n generalizing vs xs Si with
  | zero => exact .cons (S1 := So) (S2 := Si) (fun b z => .inr z) (fun b z => .inl z) (fun b z y => dj b y z) ro r
  | succ n ih =>
    cases vs with
    | nil =>
      cases xs with
      | nil => exact .cons (S1 := So) (S2 := Si) (fun b z => .inr z) (fun b z => .inl z) (fun b z y => dj b y z) ro r
      | cons x xs => cases r
    | cons v vs =>
      cases xs with
      | nil => cases r
      | cons x xs =>
        cases r with
        | @cons _ T1 T2 _ _ _ _ s1 s2 d r rs =>
          have := ih rs fun b z => dj b (s2 b z)
          simp only [List.take_succ_cons, List.drop_succ_cons, List.cons_append, List.map_cons]
          exact .cons (S1 := T1) (S2 := fun b => T2 b ∨ So b) (fun b z => .inl (s1 b z)) (fun b z => z.imp (s2 b) id) (fun b z y => y.elim (d b z) (dj b (s1 b z))) r this
/-- xs.insert(i, e), xs a name -/
theorem gos_insert {ti : TE} (h : Go K F B0 ti T Γ fun oi Γ1 => ∃ j : Int, oi = .d (.int j) ∧ 0 ≤ j ∧ j < 2 ^ 63 ∧ Go K F B0 te (.d (.int j) :: T) Γ1 fun o Γ2 => ∃ xs, Γ2[i]? = some (some (.ol xs)) ∧ xs.length < 100000 ∧ Dd.nx (Γ2.set i (some (.ol (xs.take j.toNat ++ [o] ++ xs.drop j.toNat))))) (h0 : ∃ xs, Γ[i]? = some (some (.ol xs))) :
    GoS K F B0 (tDrop (tBM K "list" rInsert (tVar i) (tCons ti (tCons te tNil)))) T Γ Dd := fun τ σ H De hw s => by
  obtain ⟨B, S, w⟩ := hw
  obtain ⟨xs0, e0⟩ := h0
  obtain ⟨v, S1, a1, r1, _, _⟩ := w.mut1 e0
  cases r1 with
  | @ol _ _ a vs _ _ _ _ hc _ =>
  refine ⟨.ref a, a1, Or.inl ⟨rfl, vs, SqL.of hc⟩, h τ σ H _ ⟨B, S, w⟩ fun v1 o1 Γ1 H1 ⟨j, ej, hj0, hj1, h1⟩ w1 => ?_⟩
  subst ej
  refine h1 _ σ H1 _ w1 fun v2 o2 Γ2 H2 ⟨xs, e2, hz, h2⟩ ⟨B2, S2, w2⟩ => ?_
  have rj : R K B2 v1 (.int j) := by
    obtain ⟨_, _, _, _, _, _, wt⟩ := w2.pop
    exact wt.popd.1
  cases rj
  have w2' := HW.under (τs := [.int j]) (os := [.d (.int j)]) w2 rfl
  obtain ⟨v', S3, So, a2, r2, ro, dj, _, _, f⟩ := w2'.mut2 e2
  rw [a1] at a2
  cases a2
  cases r2 with
  | @ol _ S4 _ us _ ha hs hn hc2 rs =>
  have len : us.length = xs.length := by simpa using rs.len
  refine ⟨a, us, j, v2, rfl, rfl, hc2, by rw [len]; exact Nat.lt_of_lt_of_le hz (by decide), hj0, hj1, ?_⟩
  obtain ⟨S', w3⟩ := f a (.lst (us.take j.toNat ++ [v2] ++ us.drop j.toNat)) (.ol (xs.take j.toNat ++ [o2] ++ xs.drop j.toNat)) ha (.ol (S' := fun b => S4 b ∨ So b) (.inl ha) (fun b z => z.imp (hs b) id) (fun z => z.elim hn fun z => dj a ha z) upd_same
    ((fl_ins ro j.toNat rs fun b z => dj b (hs b z)).at fun b u z q => by
      rw [upd_ne (fun e => by subst e; exact z.elim hn fun z => dj b ha z)]; exact q))
  exact s.nx σ _ _ h2 ⟨B2, S', w3⟩
end
section
variable (P : Program) (w : World) (K : PySem.W.Frag) (mg : Str → Option Value) (base : Heap)
/-- a def stands at a module's name -/
def Df (x : Str) (st : Stmt) : Prop := ∃ f fd, Fun K x x st f fd ∧ mg x = some (.ref f)
/-- .. and keeps a contract -/
def Cal (x : Str) (k : Nat) (ps : List Str) (C : Ct) : Prop := ∃ f fd, FnOk P w K mg base CX0 k f fd ps (spP K C) ∧ mg x = some (.ref f) ∧ PySem.W.keepIn K (.ref f) = true ∧ Binds K fd ps [] ∧ ∃ oc od sl, K.lookup f = some ⟨oc, od, .func fd, sl⟩
end
theorem df_mk {K : PySem.W.Frag} {mg : Str → Option Value} {h : Heap} (X : K.In h) (G : h.Ns mainGlobals mg) {x : Str} {st : Stmt} {f : Addr} {oc : Value} {od an : Option Addr} {sl : Array (Option Value)} {kV dc pm cd ct : Value}
    (a : PySem.W.nsIn K mainGlobals x = some (some (.ref f))) (l : K.lookup f = some ⟨oc, od, .func (PySem.W.fnOf x x (defArgs st) (defBody st) (defScope st) .none kV dc pm an cd ct), sl⟩)
    (c : PySem.W.codeIn K cd x = true) (k : PySem.W.keepIn K (.ref f) = true) : Df K mg x st := ⟨f, _, fun_mk (st := st) l c k, PySem.W.mg_of X G a⟩
theorem Fun.lk {K : PySem.W.Frag} {x : Str} {st : Stmt} {f : Addr} {fd : FuncData} (F : Fun K x x st f fd) : ∃ oc od sl, K.lookup f = some ⟨oc, od, .func fd, sl⟩ := by
  obtain ⟨oc, od, kV, doc, pm, an, cdv, ct, osl, _, l, _⟩ := F.ex
  exact ⟨oc, od, osl, l⟩
theorem fn_same {P : Program} {w : World} {K : PySem.W.Frag} {mg : Str → Option Value} {base : Heap} {CX : CXT} {k : Nat} {f : Addr} {fd fd2 : FuncData} {ps : List Str} {sp : Sp} {oc oc2 : Value} {od od2 : Option Addr} {sl sl2 : Array (Option Value)}
    (l : K.lookup f = some ⟨oc, od, .func fd, sl⟩) (l2 : K.lookup f = some ⟨oc2, od2, .func fd2, sl2⟩) (G : FnOk P w K mg base CX k f fd2 ps sp) : FnOk P w K mg base CX k f fd ps sp := by
  rw [l] at l2
  cases l2
  exact G
/-- the law's own promise -/
def lawC : Ct := fun xs p q => ∃ ns : List Int, xs = [.sq (ns.map D.int)] ∧ ns.length ≤ 63 ∧ (∀ z ∈ ns, Builtin.Int.intBits z ≤ 1048576) ∧ p = (fun o => o = .d (.bl true)) ∧ q = noX
theorem RL.ofInts {K : PySem.W.Frag} {B : Hp} : ∀ ns : List Int, RL K B (ns.map V.int) (ns.map D.int)
  | [] => .nil
  | _ :: r => .cons .int (RL.ofInts r)
theorem law_walk {l : PySem.W.OpenLaw} {q : Program} {loose : List Str} {XP : (Str → Option Value) → Heap → Prop} {YP : World → Heap → Prop} {d : DefRec} {K : Params → PySem.W.Frag} {lv : Nat} (hn : l.most = some 63) (hdf : d.params.defaults = [])
    (hr : Room lv callerA) (hY : ∀ (w : World) (h : Heap), YP w h → (K w.params).In h)
    (F : ∀ (w : World) (mg : Str → Option Value) (fa : Addr) (h : Heap), (K w.params).In h → h.Ns mainGlobals mg → mg d.name = some (.ref fa) →
      ∃ fd : FuncData, (∀ (s : Shared) (u : Value), BindsTo s fd ⟨[u], []⟩ [("_law_script", u)]) ∧ ∀ base : Heap, (K w.params).In base → base.Ns mainGlobals mg → FnOk l.prog w (K w.params) mg base CX0 lv fa fd ["_law_script"] (spP (K w.params) lawC)) :
    PySem.W.WalkO q loose XP YP l.row.toRowW d [] (fun f vs => PySem.call f vs) :=
  L2.walk_ofB (n := 63) (k := lv) (x := "_law_script") (CX := fun _ => CX0) (sp := fun w => spP (K w.params) lawC) hn (by decide) hdf hr hY F
    (fun w H a ns hl hb _ hS => ⟨H, [.sq (ns.map D.int)], _, _, ⟨.refl H, fun _ _ e => e⟩, .cons (.sq hS (RL.ofInts ns)) .nil, ⟨ns, rfl, hl, hb, rfl, rfl⟩,
      (fun v o B' S' H' e _ _ _ _ _ ro => by cases e; cases ro with | d r => cases r; rfl), fun _ _ _ _ _ e => e.elim⟩) fun _ _ _ _ _ z => z
theorem fz_d {x : D} : (O.d x).fz = x := rfl
theorem fzL_fl {xs : List D} : fzL (xs.map O.d) = xs := by
  induction xs with
  | nil => rfl
  | cons x xs ih => rw [List.map_cons, fzL, ih]; rfl
theorem fz_fl {xs : List D} : (O.ol (xs.map O.d)).fz = .lst xs := by
  show D.lst (fzL (xs.map O.d)) = .lst xs
  congr 1
  induction xs with
  | nil => rfl
  | cons x xs ih => rw [List.map_cons, fzL, ih]; rfl
theorem fz_fk {xs : List (Key × D)} : (O.od (xs.map fun p => (p.1, O.d p.2))).fz = .dic xs := by
  show D.dic (fzK (xs.map fun p => (p.1, O.d p.2))) = .dic xs
  congr 1
  induction xs with
  | nil => rfl
  | cons x xs ih => rw [List.map_cons, fzK, ih]; rfl
end SK
namespace SK
open PySem PySem.Spec PyProof.Rows L2
section
variable {X : Cx} {K : PySem.W.Frag} {e l tg a b : Expr} {es : List Expr} {te tl ta tb : TE} {t : TA} {pos apos cpos tpos p : Pos}
theorem k_add (h : X.K = K) : OpR X (binaryOp .Add) (rAddG K) := by cases h; exact op_addG
theorem k_eq (h : X.K = K) (hu : X.A.units + 64 < cLine) : OpR X (compareOp .Eq) (rEqG K) := by cases h; exact op_eqG hu
theorem k_ne (h : X.K = K) (hu : X.A.units + 64 < cLine) : OpR X (compareOp .NotEq) (rNeG K) := by cases h; exact op_neG hu
theorem k_lt (h : X.K = K) (hu : X.A.units < cLine) : OpR X (compareOp .Lt) (rLtG K) := by cases h; exact op_ltG hu
theorem k_in (h : X.K = K) (hu : X.A.units + 1 < cLine) : OpR X (compareOp .In) (rInG K) := by cases h; exact op_inG hu
theorem k_notIn (h : X.K = K) (hu : X.A.units + 1 < cLine) : OpR X (compareOp .NotIn) (rNotInG K) := by cases h; exact op_notInG hu
theorem k_ix (h : X.K = K) (hu : X.A.units + 1 < cLine) : IxR X (rIxG K) := by cases h; exact ix_G hu
theorem k_sl (h : X.K = K) : SlR X (rSlG K) := by cases h; exact sl_G
theorem k_len (h : X.K = K) : CallR X (.builtin "len") (rLenG K) := by cases h; exact call_lenG
theorem k_list (h : X.K = K) (hc : X.calm = true) : CallR X (.type "list") (rListG K) := by cases h; exact call_listG hc
theorem k_isi (h : X.K = K) : CallR X (.builtin "isinstance") (rIsiG K) := by cases h; exact call_isiG
theorem k_seq (h : X.K = K) (hl : PE X l tl) : PI X tg l (iSeq K tl) := by cases h; exact pi_seq hl
theorem k_tup {k n : Nat} {g : TGs} (h : X.K = K) (hc : X.calm = true) (hg : PGs X es g) (hn : (assignEach es X.env).length = n := by rfl) (hst : (assignEach es X.env).findIdx? (·.1) = none := by rfl) : PG X (.Tuple es k pos) (gTup K n g) := by cases h; exact pg_tup hc hg hn hst
theorem k_bm {to : TE} {T : String} {r : V → List V → Hp → VK → Prop} (h : X.K = K) (q : PE X e (tBM X.K T r to t)) : PE X e (tBM K T r to t) := by cases h; exact q
theorem k_bm0 {to : TE} {T : String} {r : V → List V → Hp → VK → Prop} (h : X.K = K) (q : PE X e (tBM0 X.K T r to)) : PE X e (tBM0 K T r to) := by cases h; exact q
end
end SK
namespace SK
open PySem PySem.Spec PyProof.Rows L2
section
variable {K : PySem.W.Frag} {F B0 H H' B B' : Hp} {τ τs : List V} {T os : List O} {σ : L2.St} {Γ : En} {S S1 S2 : Ad} {v w : V} {o p : O} {x : D} {post : O → En → Prop} {ta : TA} {tb tc te td ty tv tl : TE} {tt tu : TT} {i j : Nat} {posts : List D → En → Prop} {postt : Bool → En → Prop} {posts1 : En → Prop} {Dd : EG} {xs : List D} {vs : List V} {r r' : R2}
theorem got_yes (h : postt true Γ) : GoT K F B0 tYes T Γ postt := fun τ σ H Q hw k => k true Γ H h hw
variable {t1 t2 : TS} {g : TG} {wi : TI} {tgt : TG} {ip : TIp}
theorem gos_sA (h : GoS K F B0 (tAsg te g) T Γ { Dd with nx := fun Γ1 => GoS K F B0 t2 T Γ1 Dd }) : GoS K F B0 (tSeq (tAsg te g) t2) T Γ Dd := gos_seq h
theorem gos_sD (h : GoS K F B0 (tDrop te) T Γ { Dd with nx := fun Γ1 => GoS K F B0 t2 T Γ1 Dd }) : GoS K F B0 (tSeq (tDrop te) t2) T Γ Dd := gos_seq h
theorem gos_sN (h : GoS K F B0 t2 T Γ Dd) : GoS K F B0 (tSeq tNext t2) T Γ Dd := gos_seq (gos_next h)
theorem gos_sU (h : GoS K F B0 (tAug i te ip) T Γ { Dd with nx := fun Γ1 => GoS K F B0 t2 T Γ1 Dd }) : GoS K F B0 (tSeq (tAug i te ip) t2) T Γ Dd := gos_seq h
theorem gos_sF (h : GoS K F B0 (tFor wi g t1) T Γ { Dd with nx := fun Γ1 => GoS K F B0 t2 T Γ1 Dd }) : GoS K F B0 (tSeq (tFor wi g t1) t2) T Γ Dd := gos_seq h
theorem gos_sW (h : GoS K F B0 (tWhile tt t1) T Γ { Dd with nx := fun Γ1 => GoS K F B0 t2 T Γ1 Dd }) : GoS K F B0 (tSeq (tWhile tt t1) t2) T Γ Dd := gos_seq h
theorem gos_sIR {u : TS} (h : GoS K F B0 (tIfS tt (tRet te) u) T Γ { Dd with nx := fun Γ1 => GoS K F B0 t2 T Γ1 Dd }) : GoS K F B0 (tSeq (tIfS tt (tRet te) u) t2) T Γ Dd := gos_seq h
theorem gos_sIC {u : TS} (h : GoS K F B0 (tIfS tt tCont u) T Γ { Dd with nx := fun Γ1 => GoS K F B0 t2 T Γ1 Dd }) : GoS K F B0 (tSeq (tIfS tt tCont u) t2) T Γ Dd := gos_seq h
theorem gos_sIB {u : TS} (h : GoS K F B0 (tIfS tt tBreak u) T Γ { Dd with nx := fun Γ1 => GoS K F B0 t2 T Γ1 Dd }) : GoS K F B0 (tSeq (tIfS tt tBreak u) t2) T Γ Dd := gos_seq h
theorem rngD_get {lo : Int} {n k : Nat} {d : D} (h : (rngD lo n)[k]? = some d) : k < n ∧ d = .int (lo + (k : Int)) := by
  have hi : k < n := by
    have := (List.getElem?_eq_some_iff.mp h).1
    simpa [rngD] using this
  refine ⟨hi, ?_⟩
  simp [rngD, hi] at h
  exact h.symm
theorem mapD_get {α : Type} {xs : List α} {e : α → D} {k : Nat} {d : D} (h : (xs.map e)[k]? = some d) : ∃ x, xs[k]? = some x ∧ d = e x := by
  rw [List.getElem?_map] at h
  cases q : xs[k]? with
  | none => rw [q] at h; cases h
  | some x => rw [q] at h; exact ⟨x, rfl, (Option.some.inj h).symm⟩
/-- d[n] = e, d a name, n a number -/
theorem gog_setDI {ti : TE} (h : Go K F B0 ti (o :: T) Γ fun ok Γ2 => ∃ n kvs, ok = .d (.int n) ∧ Γ2[i]? = some (some (.od kvs)) ∧ kvs.length < 100000 ∧ posts1 (Γ2.set i (some (.od (dput kvs (.inl n) o))))) (h0 : ∃ kvs0, Γ[i]? = some (some (.od kvs0))) :
    GoG K F B0 (gSub (tVar i) ti rSetG) o T Γ posts1 :=
  gog_setD (fun τ σ H Q hw k => h τ σ H Q hw fun v ok Γ2 H2 ⟨n, kvs, e, q⟩ w => k v ok Γ2 H2 ⟨.inl n, kvs, e, q⟩ w) h0
/-- data of nesting n at most that == tells -/
def Shp (n : Nat) (x : D) : Prop := x.pl = true ∧ x.py.canLay0 = true ∧ x.py.depth ≤ n
theorem Shp.mono {n m : Nat} {x : D} (h : Shp n x) (l : n ≤ m) : Shp m x := ⟨h.1, h.2.1, Nat.le_trans h.2.2 l⟩
theorem Shp.int {n : Nat} {i : Int} : Shp n (.int i) := ⟨rfl, by simp [D.py, PyData.canLay0], by simp [D.py, PyData.depth]⟩
theorem Shp.bl {n : Nat} {i : Bool} : Shp n (.bl i) := ⟨rfl, by simp [D.py, PyData.canLay0], by simp [D.py, PyData.depth]⟩
theorem Shp.non {n : Nat} : Shp n .non := ⟨rfl, by simp [D.py, PyData.canLay0], by simp [D.py, PyData.depth]⟩
theorem Shp.str {n : Nat} {s : Str} (h : PyData.strOk s = true) : Shp n (.str s) := ⟨rfl, by simpa [D.py, PyData.canLay0] using h, by simp [D.py, PyData.depth]⟩
theorem Shp.all {n : Nat} : ∀ {xs : List D}, (∀ x ∈ xs, Shp n x) → plL xs = true ∧ PyData.canLayAll0 (pyL xs) = true ∧ PyData.depthAll (pyL xs) ≤ n
  | [], _ => ⟨rfl, by simp [pyL, PyData.canLayAll0], by simp [pyL, PyData.depthAll]⟩
  | x :: xs, h => by
    obtain ⟨a, b, c⟩ := h x (by simp)
    obtain ⟨d, e, f⟩ := Shp.all (xs := xs) fun y hy => h y (List.mem_cons_of_mem _ hy)
    refine ⟨by simp [plL, a, d], by simp [pyL, PyData.canLayAll0, b, e], ?_⟩
    simp only [pyL, PyData.depthAll]
    omega
theorem Shp.lst {n : Nat} {xs : List D} (h : ∀ x ∈ xs, Shp n x) : Shp (n + 1) (.lst xs) := by
  obtain ⟨d, e, f⟩ := Shp.all h
  exact ⟨by simpa [D.pl] using d, by simpa [D.py, PyData.canLay0] using e, by simpa [D.py, PyData.depth] using f⟩
theorem Shp.tup {n : Nat} {xs : List D} (h : ∀ x ∈ xs, Shp n x) : Shp (n + 1) (.tup xs) := by
  obtain ⟨d, e, f⟩ := Shp.all h
  exact ⟨by simpa [D.pl] using d, by simpa [D.py, PyData.canLay0] using e, by simpa [D.py, PyData.depth] using f⟩
theorem Shp.lstM {α : Type} {n : Nat} {xs : List α} {e : α → D} (h : ∀ x, Shp n (e x)) : Shp (n + 1) (.lst (xs.map e)) := Shp.lst fun x hx => by
  obtain ⟨y, _, rfl⟩ := List.mem_map.mp hx
  exact h y
theorem Shp.eqs {x y : D} (h : Shp 60 x) (h' : Shp 60 y) : x.eqs y := ⟨h.1, h'.1, by simp only [SeqAt.shaped, h.2.1, Bool.true_and, decide_eq_true_eq]; exact Nat.le_trans h.2.2 (by decide), by simp only [SeqAt.shaped, h'.2.1, Bool.true_and, decide_eq_true_eq]; exact Nat.le_trans h'.2.2 (by decide)⟩
theorem o2_eqSame (n : Nat) (hs : Shp n x) (hn : n ≤ 60) (h : post (.d (.bl true)) Γ) : Op2 K F B0 (rEqG K) x x T Γ post :=
  o2_eqD ((hs.mono hn).eqs (hs.mono hn)) (by rw [SeqAt.eqv_refl _ hs.2.1]; exact h)
theorem o2_neSame (n : Nat) (hs : Shp n x) (hn : n ≤ 60) (h : post (.d (.bl false)) Γ) : Op2 K F B0 (rNeG K) x x T Γ post :=
  o2_neD ((hs.mono hn).eqs (hs.mono hn)) (by rw [SeqAt.eqv_refl _ hs.2.1]; exact h)
end
end SK
namespace SK
open PySem PySem.Spec PyProof.Rows L2
section
variable {K : PySem.W.Frag} {F B0 H H' B B' : Hp} {τ τs : List V} {T os : List O} {σ : L2.St} {Γ : En} {S S1 S2 : Ad} {v w : V} {o p : O} {x : D} {post : O → En → Prop} {ta : TA} {tb tc te td ty tv tl : TE} {tt tu : TT} {i j : Nat} {posts : List D → En → Prop} {postt : Bool → En → Prop} {posts1 : En → Prop} {Dd : EG} {xs : List D} {vs : List V} {r r' : R2} {s : TS}
theorem HW.frz (w : HW K F B0 τ T σ Γ H B S) (e : Γ[i]? = some (some o)) : Ho K F B0 τ T σ (Γ.set i (some (.d o.fz))) H := by
  obtain ⟨v, S', a, w⟩ := w.take e
  obtain ⟨B', S'', w, _⟩ := w.fz
  obtain ⟨S3, w3⟩ := w.put (i := i) (by simpa using (List.getElem?_eq_some_iff.mp e).1)
  have hl : i < σ.length := (List.getElem?_eq_some_iff.mp a).1
  have e2 : σ.set i (some v) = σ := by
    apply List.ext_getElem?
    intro n
    by_cases hn : n = i
    · subst hn; rw [List.getElem?_set_self hl, a]
    · rw [List.getElem?_set_ne (Ne.symm hn)]
  rw [e2, List.set_set] at w3
  exact ⟨B', _, w3⟩
/-- from here on the slot's thing is not changed any more -/
theorem gos_frz (i : Nat) (e : Γ[i]? = some (some o)) (h : GoS K F B0 s T (Γ.set i (some (.d o.fz))) Dd) : GoS K F B0 s T Γ Dd := fun τ σ H De ⟨B, S, w⟩ q => h τ σ H De (w.frz e) q
theorem fzK_d {xs : List (Key × D)} : fzK (xs.map fun p => (p.1, O.d p.2)) = xs := by
  induction xs with
  | nil => rfl
  | cons x xs ih => rw [List.map_cons, fzK, ih]; rfl
theorem rngD_len {lo : Int} {n : Nat} : (rngD lo n).length = n := by simp [rngD]
theorem cutD_map {α : Type} (e : α → D) (xs : List α) (lo hi : Option Int) : cutD (xs.map e) lo hi = (cutD xs lo hi).map e := by
  simp [cutD]
theorem sIx_n {n d k : Nat} : HT.sIx n d (some (k : Int)) = min k n := by
  simp [HT.sIx]
  omega
theorem cutD_take {α : Type} {xs : List α} {k : Nat} : cutD xs none (some (k : Int)) = xs.take k := by
  unfold cutD
  rw [sIx_n]
  show (xs.drop 0).take (min k xs.length - 0) = _
  rcases Nat.le_total k xs.length with h | h
  · rw [Nat.min_eq_left h]; rfl
  · rw [Nat.min_eq_right h]; exact List.take_length.trans (List.take_of_length_le h).symm
theorem cutD_drop {α : Type} {xs : List α} {k : Nat} : cutD xs (some (k : Int)) none = xs.drop k := by
  unfold cutD
  rw [sIx_n]
  show (xs.drop (min k xs.length)).take (xs.length - min k xs.length) = _
  rcases Nat.le_total k xs.length with h | h
  · rw [Nat.min_eq_left h]
    apply List.take_of_length_le
    simp
  · rw [Nat.min_eq_right h]
    simp [List.drop_of_length_le h]
theorem cutD_mid {α : Type} {xs : List α} {j k : Nat} : cutD xs (some (j : Int)) (some (k : Int)) = (xs.take k).drop j := by
  unfold cutD
  rw [sIx_n, sIx_n]
  rw [List.drop_take]
  rcases Nat.le_total j xs.length with h | h
  · rw [Nat.min_eq_left h]
    rcases Nat.le_total k xs.length with h' | h'
    · rw [Nat.min_eq_left h']
    · rw [Nat.min_eq_right h']
      rw [List.take_of_length_le (by simp), List.take_of_length_le (by simp; omega)]
  · rw [Nat.min_eq_right h, List.drop_of_length_le h, List.drop_of_length_le (Nat.le_refl _)]
    simp
end
end SK
namespace SK
open PySem PySem.Spec PyProof.Rows L2
section
variable {K : PySem.W.Frag} {F B0 H H' B B' : Hp} {τ τs : List V} {T os : List O} {σ : L2.St} {Γ : En} {S S1 S2 : Ad} {v w : V} {o p : O} {x : D} {post : O → En → Prop} {ta : TA} {tb tc te td ty tv tl : TE} {tt tu : TT} {i j : Nat} {posts : List D → En → Prop} {postt : Bool → En → Prop} {posts1 : En → Prop} {Dd : EG} {xs : List D} {vs : List V} {r r' : R2} {s : TS}
/-- d.get(k, e) -/
theorem go_dget2 (h : Go K F B0 td T Γ fun o Γ1 => ∃ kvs, o.fz = .dic kvs ∧ Go K F B0 ty (.d (.dic kvs) :: T) Γ1 fun ok Γ2 => ∃ k, ok = .d (kD k) ∧ Go K F B0 te (.d (kD k) :: .d (.dic kvs) :: T) Γ2 fun oz Γ3 => post (.d ((dval kvs k).getD oz.fz)) Γ3) :
    Go K F B0 (tDGet2 td ty te) T Γ post := fun τ σ H Q hw kk =>
  h τ σ H _ hw fun v1 o1 Γ1 H1 ⟨kvs, e1, h1⟩ ⟨_, _, w1⟩ => by
    obtain ⟨B2, S2, w1, _⟩ := w1.fz
    rw [e1] at w1
    obtain ⟨r1, _⟩ := w1.popd
    cases r1 with | @dic a ws _ hd _ rk =>
    refine ⟨a, rfl, .inl ⟨ws, w1.pu.rd hd⟩, h1 _ σ H1 _ ⟨_, _, w1⟩ fun v2 o2 Γ2 H2 ⟨k, e2, h2⟩ w2 => ?_⟩
    subst e2
    refine h2 _ σ H2 _ w2 fun v3 o3 Γ3 H3 h3 ⟨_, _, w3⟩ => ?_
    obtain ⟨_, _, w3, r3, _⟩ := w3.fzd
    obtain ⟨r2, _, _, w4⟩ := w3.popd
    obtain ⟨r1, _, _, w5⟩ := w4.popd
    have ek := r2.kV
    subst ek
    cases r1 with | @dic _ ws2 _ hd2 _ rk2 =>
    refine ⟨valV ws2 k, .inl ⟨ws2, k, w5.pu.rd hd2, rfl, rfl⟩, ?_⟩
    rcases rk2.val (k := k) with ⟨u, z, q1, q2, r⟩ | ⟨q1, q2⟩
    · rw [q1]
      rw [q2] at h3
      exact kk _ _ _ _ h3 ⟨_, _, w5.pushd r⟩
    · rw [q1]
      rw [q2] at h3
      exact kk _ _ _ _ h3 ⟨_, _, w5.pushd r3⟩
theorem RS.split {σ1 : List (Option V)} {Γ1 : List (Option O)} : ∀ {σ0 : List (Option V)} {Γ0 : List (Option O)} {S : Ad}, σ0.length = Γ0.length → RS K B H S (σ0 ++ σ1) (Γ0 ++ Γ1) →
    ∃ S1 S2 : Ad, (∀ b, S1 b → S b) ∧ (∀ b, S2 b → S b) ∧ (∀ b, S1 b → ¬ S2 b) ∧ RS K B H S1 σ0 Γ0 ∧ RS K B H S2 σ1 Γ1
  | [], [], S, _, h => ⟨fun _ => False, S, fun _ z => z.elim, fun _ z => z, fun _ z => z.elim, .nil, h⟩
  | a :: σ0, b :: Γ0, S, l, h => by
    cases h with
    | un r =>
      obtain ⟨S1, S2, a1, a2, a3, a4, a5⟩ := RS.split (by simpa using l) r
      exact ⟨S1, S2, a1, a2, a3, .un a4, a5⟩
    | @cons _ T1 T2 _ _ _ _ s1 s2 dj h0 r =>
      obtain ⟨S1, S2, a1, a2, a3, a4, a5⟩ := RS.split (by simpa using l) r
      exact ⟨fun b => T1 b ∨ S1 b, S2, fun b z => z.elim (s1 b) fun z => s2 b (a1 b z), fun b z => s2 b (a2 b z), fun b z y => z.elim (fun z => dj b z (a2 b y)) fun z => a3 b z y, .cons (S1 := T1) (S2 := S1) (fun _ z => .inl z) (fun _ z => .inr z) (fun b z y => dj b z (a1 b y)) h0 a4, a5⟩
theorem RS.join {σ1 : List (Option V)} {Γ1 : List (Option O)} {S2 : Ad} (q : RS K B H S2 σ1 Γ1) : ∀ {σ0 : List (Option V)} {Γ0 : List (Option O)} {S1 : Ad}, (∀ b, S1 b → ¬ S2 b) → RS K B H S1 σ0 Γ0 → RS K B H (fun b => S1 b ∨ S2 b) (σ0 ++ σ1) (Γ0 ++ Γ1)
  | _, _, _, _, .nil => q.tr (.refl B) (fun _ z => .inr z) fun _ _ _ e => e
  | _, _, _, dj, .un r => .un (RS.join q dj r)
  | _, _, S1, dj, .cons (S1 := T1) (S2 := T2) s1 s2 d h r => .cons (S1 := T1) (S2 := fun b => T2 b ∨ S2 b) (fun b z => .inl (s1 b z)) (fun b z => z.imp (s2 b) id) (fun b z y => y.elim (d b z) (dj b (s1 b z))) h (RS.join q (fun b z => dj b (s2 b z)) r)
open Classical in
noncomputable def offH (H : Hp) (S : Ad) : Hp := fun a => if S a then none else H a
theorem offH_at {a : Addr} (h : S a) : offH H S a = none := if_pos h
theorem offH_no {a : Addr} (h : ¬ S a) : offH H S a = H a := if_neg h
def tRaise (W : WX) (C : Addr) : TS := fun _ σ H => W (.ref C) none σ H
theorem gos_raise {W : WX} {X : Addr → Option (List (Str × D)) → En → Prop} {C : Addr} (wx : ∀ Cc fs d σ Γ H, X Cc fs Γ → HoX K F B0 σ Γ H d fs → W (.ref Cc) d σ H) (h : X C none Γ) : GoS K F B0 (tRaise W C) T Γ Dd :=
  fun τ σ H De ⟨B, S, w⟩ s => wx C none none σ Γ H h (.none w.bare rfl)
def tTry (K : PySem.W.Frag) (c : Value) (ts : Addr → Value → Option Addr → TS) (Wout : WX) (tb : WX → TS) : TS := fun De σ H => tb (wOnly K c ts Wout De) De σ H
def tTryAs (K : PySem.W.Frag) (c : Value) (i : Nat) (ts : Addr → Value → Option Addr → TS) (Wout : WX) (tb : WX → TS) : TS := fun De σ H => tb (wAs K c i ts Wout De) De σ H
theorem gog_setDS {ti : TE} (h : Go K F B0 ti (o :: T) Γ fun ok Γ2 => ∃ n kvs, ok = .d (.str n) ∧ Γ2[i]? = some (some (.od kvs)) ∧ kvs.length < 100000 ∧ posts1 (Γ2.set i (some (.od (dput kvs (.inr n) o))))) (h0 : ∃ kvs0, Γ[i]? = some (some (.od kvs0))) :
    GoG K F B0 (gSub (tVar i) ti rSetG) o T Γ posts1 :=
  gog_setD (fun τ σ H Q hw k => h τ σ H Q hw fun v ok Γ2 H2 ⟨n, kvs, e, q⟩ w => k v ok Γ2 H2 ⟨.inr n, kvs, e, q⟩ w) h0
structure Sm (n : Nat) (x : Int) : Prop where
  h : x.natAbs < 2 ^ (1048576 + n)
theorem natAbs_of {x : Int} {m : Nat} (h : Builtin.Int.intBits x ≤ m) : x.natAbs < 2 ^ m := by
  unfold Builtin.Int.intBits at h
  split at h
  · rename_i hx
    have : x = 0 := by simpa using hx
    subst this
    exact Nat.pow_pos (by decide)
  · rename_i hx
    have : x.natAbs ≠ 0 := by
      intro q
      apply hx
      have : x = 0 := by omega
      simp [this]
    exact (Nat.log2_lt this).mp h
theorem Sm.of {x : Int} (h : Builtin.Int.intBits x ≤ 1048576) : Sm 0 x := ⟨natAbs_of h⟩
theorem Sm.mono {x : Int} {n m : Nat} (h : Sm n x) (l : n ≤ m) : Sm m x := ⟨Nat.lt_of_lt_of_le h.h (Nat.pow_le_pow_right (by decide) (by omega))⟩
theorem Sm.add {x y : Int} {n : Nat} (h : Sm n x) (h' : Sm n y) : Sm (n + 1) (x + y) := by
  have h := h.h
  have h' := h'.h
  refine ⟨?_⟩
  have e : 2 ^ (1048576 + (n + 1)) = 2 ^ (1048576 + n) + 2 ^ (1048576 + n) := by rw [← Nat.add_assoc, Nat.pow_succ, Nat.mul_two]
  rw [e]
  generalize 2 ^ (1048576 + n) = z at *
  omega
theorem Sm.neg {x : Int} {n : Nat} (h : Sm n x) : Sm n (-x) := ⟨by rw [Int.natAbs_neg]; exact h.h⟩
theorem Sm.sub {x y : Int} {n : Nat} (h : Sm n x) (h' : Sm n y) : Sm (n + 1) (x - y) := by
  rw [Int.sub_eq_add_neg]
  exact h.add h'.neg
theorem cutD_takeI {α : Type} {xs : List α} {k : Int} (h : 0 ≤ k) : cutD xs none (some k) = xs.take k.toNat := by
  obtain ⟨n, rfl⟩ := Int.eq_ofNat_of_zero_le h
  exact cutD_take
theorem cutD_dropI {α : Type} {xs : List α} {k : Int} (h : 0 ≤ k) : cutD xs (some k) none = xs.drop k.toNat := by
  obtain ⟨n, rfl⟩ := Int.eq_ofNat_of_zero_le h
  exact cutD_drop
theorem cutD_midI {α : Type} {xs : List α} {j k : Int} (h0 : 0 ≤ j) (h : 0 ≤ k) : cutD xs (some j) (some k) = (xs.take k.toNat).drop j.toNat := by
  obtain ⟨n, rfl⟩ := Int.eq_ofNat_of_zero_le h
  obtain ⟨m, rfl⟩ := Int.eq_ofNat_of_zero_le h0
  exact cutD_mid
end
end SK
namespace SK
open PySem PySem.Spec PyProof.Rows L2
def fput {α : Type} (f : Str) (v : α) : List (Str × α) → List (Str × α)
  | [] => [(f, v)]
  | (g, x) :: r => if g = f then (g, v) :: r else (g, x) :: fput f v r
theorem putF_fput (f : Str) (v : V) : ∀ fs : List (Str × V), putF f v fs = fput f v fs
  | [] => rfl
  | (g, x) :: r => by unfold putF fput; rw [putF_fput f v r]
theorem fput_keys {α β : Type} {f : Str} {v : α} {w : β} : ∀ {xs : List (Str × α)} {ys : List (Str × β)}, xs.map (·.1) = ys.map (·.1) → (fput f v xs).map (·.1) = (fput f w ys).map (·.1)
  | [], [], _ => rfl
  | (g, x) :: xs, (g', y) :: ys, e => by
    simp only [List.map_cons, List.cons.injEq] at e
    obtain ⟨rfl, e⟩ := e
    unfold fput
    split
    · simp [e]
    · simp [fput_keys (v := v) (w := w) e]
section
variable {K : PySem.W.Frag} {F B0 H H' B B' : Hp} {τ τs : List V} {T os : List O} {σ : L2.St} {Γ : En} {S S1 S2 : Ad} {v w : V} {o p : O} {x : D} {post : O → En → Prop} {ta : TA} {tb tc te td ty tv tl : TE} {tt tu : TT} {i j : Nat} {posts : List D → En → Prop} {postt : Bool → En → Prop} {posts1 : En → Prop} {Dd : EG} {xs : List D} {vs : List V} {r r' : R2} {s : TS} {C : Addr} {f : Str}
theorem RS.fput {So : Ad} (ro : RO K B H So w o) : ∀ {ws : List (Str × V)} {kvs : List (Str × O)} {S : Ad}, ws.map (·.1) = kvs.map (·.1) → RS K B H S (ws.map fun p => some p.2) (kvs.map fun p => some p.2) → (∀ b, S b → ¬ So b) →
    RS K B H (fun b => S b ∨ So b) ((SK.fput f w ws).map fun p => some p.2) ((SK.fput f o kvs).map fun p => some p.2)
  | [], [], _, _, _, _ => .cons (S1 := So) (S2 := fun _ => False) (fun b z => .inr z) (fun _ z => z.elim) (fun _ _ z => z) ro .nil
  | (g, x) :: ws, (g', y) :: kvs, S, e, .cons (S1 := T1) (S2 := T2) s1 s2 d r rs, dj => by
    simp only [List.map_cons, List.cons.injEq] at e
    obtain ⟨rfl, e⟩ := e
    unfold SK.fput
    by_cases q : g = f
    · rw [if_pos q, if_pos q]
      exact .cons (S1 := So) (S2 := T2) (fun b z => .inr z) (fun b z => .inl (s2 b z)) (fun b z y => dj b (s2 b y) z) ro rs
    · rw [if_neg q, if_neg q]
      exact .cons (S1 := T1) (S2 := fun b => T2 b ∨ So b) (fun b z => .inl (s1 b z)) (fun b z => z.imp (s2 b) id) (fun b z y => y.elim (d b z) (dj b (s1 b z))) r (RS.fput ro e rs fun b z => dj b (s2 b z))
/-- o.f = e, o a name of an owned instance -/
theorem gos_fld (h : Go K F B0 tv T Γ fun o Γ1 => ∃ a C fs, Γ1[i]? = some (some (.oi a C fs)) ∧ Cls K C ∧ NoAttr K C f ∧ fs.length < 1000 ∧ Dd.nx (Γ1.set i (some (.oi a C (SK.fput f o fs))))) : GoS K F B0 (sFld K (tVar i) tv f) T Γ Dd := fun τ σ H De hw s =>
  h τ σ H _ hw fun v1 o1 Γ1 H1 ⟨a, C, fs, e1, hc, hn, hl, h1⟩ ⟨B1, S1, w1⟩ => by
    obtain ⟨v', S3, So, a2, r2, ro, dj, _, _, fm⟩ := w1.mut2 e1
    cases r2 with
    | @oi _ S4 _ dx _ ws _ ha hd hs hn1 hn2 ne hca hcd ek rs =>
    have len : ws.length = fs.length := by have := congrArg List.length ek; simpa using this
    refine ⟨.ref a, a2, a, C, dx, ws, rfl, hca, hc, hn, by rw [len]; exact hl, ?_⟩
    obtain ⟨S', w3⟩ := fm a (.ins C dx (putF f v1 ws)) (.oi a C (SK.fput f o1 fs)) ha (by
      rw [putF_fput]
      refine .oi (S' := fun b => S4 b ∨ So b) (.inl ha) (.inl hd) (fun b z => z.imp (hs b) id) (fun z => z.elim hn1 fun z => dj a ha z) (fun z => z.elim hn2 fun z => dj dx hd z) ne upd_same (by rw [upd_ne (Ne.symm ne)]; exact hcd) (fput_keys ek) ?_
      exact (RS.fput ro ek rs fun b z => dj b (hs b z)).at fun b u z q => by
        rw [upd_ne (fun e => by subst e; exact z.elim hn1 fun z => dj b ha z)]; exact q)
    exact s.nx σ _ _ h1 ⟨B1, S', w3⟩
theorem RF.look : ∀ {ws : List (Str × V)} {fs : List (Str × D)} {y : D}, RF K B ws fs → fs.lookup f = some y → ∃ v, ws.lookup f = some v ∧ R K B v y
  | _, _, _, .nil, h => by simp at h
  | _, _, y, .cons (k := k) (v := v) r t, h => by
    rw [List.lookup_cons] at h ⊢
    cases e : f == k with
    | true => rw [e] at h; cases h; exact ⟨v, by simp, r⟩
    | false => rw [e] at h; obtain ⟨u, a, b⟩ := RF.look t h; exact ⟨u, by simpa using a, b⟩
/-- e.f of an instance -/
theorem go_fld (h : Go K F B0 te T Γ fun o Γ1 => ∃ C fs y, o.fz = .ins C fs ∧ fs.lookup f = some y ∧ Cls K C ∧ NoAttr K C f ∧ post (.d y) Γ1) : Go K F B0 (tFld K te f) T Γ post := fun τ σ H Q hw kk =>
  h τ σ H _ hw fun v1 o1 Γ1 H1 ⟨C, fs, y, e1, l, hc, hn, h1⟩ ⟨_, _, w1⟩ => by
    obtain ⟨B2, S2, w1, _⟩ := w1.fz
    rw [e1] at w1
    obtain ⟨r1, _, _, w2⟩ := w1.popd
    cases r1 with | @ins a _ dx ws _ hb rf =>
    obtain ⟨v, l2, ry⟩ := rf.look l
    exact ⟨a, C, dx, ws, v, rfl, w1.pu a _ hb, hc, hn, l2, kk _ _ _ _ h1 ⟨_, _, w2.pushd ry⟩⟩
/-- what stands behind a call: the heap H' over H, the first thing's cells S0 may have changed -/
structure Bh (K : PySem.W.Frag) (H H' B B' : Hp) (S0 S0' S1 : Ad) : Prop where
  fr : ∀ a u, ¬ S0 a → H a = some u → H' a = some u
  pu : Ex B' H'
  le : BLe B B'
  nw : ∀ a, B' a ≠ none → B a ≠ none ∨ H a = none ∨ S0 a
  o0 : ∀ a, S0' a → (S0 a ∨ H a = none) ∧ B' a = none ∧ H' a ≠ none
  o1 : ∀ a, S1 a → (S0 a ∨ H a = none) ∧ B' a = none ∧ H' a ≠ none
  dj : ∀ a, S1 a → ¬ S0' a
end
end SK
namespace SK
open PySem PySem.Spec PyProof.Rows L2
abbrev Fs := List (Str × O)
abbrev Cs := Addr → Fs → List D → (O → Fs → Prop) → (Addr → Option (List (Str × D)) → Fs → Prop) → Prop
end SK
namespace SK
open PySem PySem.Spec PyProof.Rows L2
section
variable {K : PySem.W.Frag} {F B0 H H' B B' : Hp} {τ τs : List V} {T os : List O} {σ : L2.St} {Γ : En} {S S1 S2 : Ad} {v w : V} {o p : O} {x : D} {post : O → En → Prop} {ta : TA} {tb tc te td ty tv tl : TE} {tt tu : TT} {i j : Nat} {posts : List D → En → Prop} {postt : Bool → En → Prop} {posts1 : En → Prop} {Dd : EG} {xs : List D} {vs : List V} {r r' : R2} {s : TS}
theorem and_im {M N P Q : Prop} (h1 : M → P) (h2 : N → Q) : (M → P) ∧ (N → Q) := ⟨h1, h2⟩
theorem o1_neg {n : Int} (h : post (.d (.int (-n))) Γ) : Op1 K F B0 (rU fun i => V.int (-i)) (.int n) T Γ post := fun τ σ H B S v1 Q w r1 k => by
  cases r1
  exact ⟨n, rfl, k _ _ Γ H h ⟨_, _, w.pushd .int⟩⟩
end
end SK
namespace SK
open PySem PySem.Spec PyProof.Rows L2 Builtin.Str
def rStrG : List V → Hp → VK → Prop := fun xs H Q => (∃ i, xs = [.int i] ∧ i.natAbs.log2 < 1920 ∧ Q (.str (toString i)) H) ∨ ∃ a, xs = [.str a] ∧ Q (.str a) H
def rIntG : List V → Hp → VK → Prop := fun xs H Q => ((∃ i, xs = [.int i] ∧ Q (.int i) H) ∨ ∃ k, xs = [.bl k] ∧ Q (.int (if k then 1 else 0)) H) ∨ ∃ a n, xs = [.str a] ∧ PySem.intText? a = some n ∧ a.length ≤ 640 ∧ Q (.int n) H
def rJoinG (K : PySem.W.Frag) : V → List V → Hp → VK → Prop := fun x xs H Q => ∃ a p, ∃ ys : List Str, x = .str a ∧ xs = [.ref p] ∧ (SqL K H p (ys.map V.str) ∨ L2.SqT K H p (ys.map V.str)) ∧ (ys.map (·.length)).sum + ys.length * a.length ≤ 16777216 ∧ Q (.str (Txt.join a ys)) H
def rSplitG : V → List V → Hp → VK → Prop := fun x xs H Q => ∃ a b, x = .str a ∧ xs = [.str b] ∧ (b.length == 0) = false ∧ a.length + 2 ≤ sizeLine ∧ rNewStrs (Txt.split a b) H Q
def rPartG : V → List V → Hp → VK → Prop := fun x xs H Q => ∃ a b, x = .str a ∧ xs = [.str b] ∧ (b.length == 0) = false ∧ a.length ≤ sizeLine ∧ ∀ p, H p = none → Q (.ref p) (upd H p (.tup [.str (Txt.partition a b).1, .str (Txt.partition a b).2.1, .str (Txt.partition a b).2.2]))
def rStartsG : V → List V → Hp → VK → Prop := fun x xs H Q => ∃ a b, x = .str a ∧ xs = [.str b] ∧ Q (.bl (Txt.startswith a b)) H
section
variable {K : PySem.W.Frag} {F B0 H H' B B' : Hp} {τ τs : List V} {T os : List O} {σ : L2.St} {Γ : En} {S S1 S2 : Ad} {v w : V} {o p : O} {x : D} {post : O → En → Prop} {ta : TA} {tb tc te td ty tv tl : TE} {tt tu : TT} {i j : Nat} {posts : List D → En → Prop} {postt : Bool → En → Prop} {posts1 : En → Prop} {Dd : EG} {xs : List D} {vs : List V} {s : TS}
theorem oa_strS {n : Str} (h : post (.d (.str n)) Γ) : OpA K F B0 rStrG [.str n] T Γ post := fun τ σ H B S vs Q w rl k => by
  obtain ⟨v1, rfl, r⟩ := rl.one
  cases r
  exact .inr ⟨n, rfl, k _ _ Γ H h ⟨_, _, w.pushd .str⟩⟩
theorem oa_intB {b : Bool} (h : post (.d (.int (if b then 1 else 0))) Γ) : OpA K F B0 rIntG [.bl b] T Γ post := fun τ σ H B S vs Q w rl k => by
  obtain ⟨v1, rfl, r⟩ := rl.one
  cases r
  exact .inl (.inr ⟨b, rfl, k _ _ Γ H h ⟨_, _, w.pushd .int⟩⟩)
theorem RL.strs : ∀ {vs : List V} {ys : List Str}, RL K B vs (ys.map D.str) → vs = ys.map V.str
  | [], [], _ => rfl
  | _ :: _, y :: ys, .cons r t => by cases r; rw [List.map_cons, RL.strs t]
theorem RL.ofStrs : ∀ ys : List Str, RL K B (ys.map V.str) (ys.map D.str)
  | [] => .nil
  | _ :: r => .cons .str (RL.ofStrs r)
/-- a.join(ys) -/
theorem go_join (h : Go K F B0 te T Γ fun o Γ1 => ∃ a, o = .d (.str a) ∧ GoA K F B0 ta (.d (.str a) :: T) Γ1 fun xs Γ2 => ∃ l ys, xs = [l] ∧ l.items? = some (List.map D.str ys) ∧ (ys.map (·.length)).sum + ys.length * a.length ≤ 16777216 ∧ post (.d (.str (Txt.join a ys))) Γ2) :
    Go K F B0 (tBM K "str" (rJoinG K) te ta) T Γ post := fun τ σ H Q hw k =>
  h τ σ H _ hw fun v1 o1 Γ1 H1 ⟨a, e, h1⟩ ⟨_, _, w1⟩ => by
    subst e
    obtain ⟨r1, _⟩ := w1.popd
    cases r1
    refine ⟨rfl, h1 _ σ H1 _ ⟨_, _, w1⟩ fun vs xs Γ2 H2 ⟨l, ys, e, q, hz, h2⟩ ⟨_, _, w2⟩ hl => ?_⟩
    subst e
    obtain ⟨rl, S2, w3⟩ := w2.args hl
    obtain ⟨_, _, _, w4⟩ := w3.popd
    obtain ⟨u, rfl, r⟩ := rl.one
    obtain ⟨p, us, rfl, sq, rl2⟩ := r.items q
    have e2 := rl2.strs
    subst e2
    exact ⟨a, p, ys, rfl, rfl, sq.imp w4.pu.sqL w4.pu.sqT', hz, k _ _ _ _ h2 ⟨_, _, w4.pushd .str⟩⟩
/-- a.split(b) -/
theorem go_split (h : Go K F B0 te T Γ fun o Γ1 => ∃ a, o = .d (.str a) ∧ GoA K F B0 ta (.d (.str a) :: T) Γ1 fun xs Γ2 => ∃ b, xs = [.str b] ∧ (b.length == 0) = false ∧ a.length ≤ 1000000 ∧ post (.ol (((Txt.split a b).map D.str).map O.d)) Γ2) :
    Go K F B0 (tBM K "str" rSplitG te ta) T Γ post := fun τ σ H Q hw k =>
  h τ σ H _ hw fun v1 o1 Γ1 H1 ⟨a, e, h1⟩ ⟨_, _, w1⟩ => by
    subst e
    obtain ⟨r1, _⟩ := w1.popd
    cases r1
    refine ⟨rfl, h1 _ σ H1 _ ⟨_, _, w1⟩ fun vs xs Γ2 H2 ⟨b, e, hb, hz, h2⟩ ⟨_, _, w2⟩ hl => ?_⟩
    subst e
    obtain ⟨rl, S2, w3⟩ := w2.args hl
    obtain ⟨_, _, _, w4⟩ := w3.popd
    obtain ⟨u, rfl, r⟩ := rl.one
    cases r
    refine ⟨a, b, rfl, rfl, hb, ?_, fun p hp => ?_⟩
    · rw [sizeLine_eq]; omega
    · obtain ⟨S5, w5⟩ := w4.newl hp (RL.ofStrs (Txt.split a b))
      exact k _ _ _ _ h2 ⟨_, _, w5⟩
/-- a.partition(b) -/
theorem go_part (h : Go K F B0 te T Γ fun o Γ1 => ∃ a, o = .d (.str a) ∧ GoA K F B0 ta (.d (.str a) :: T) Γ1 fun xs Γ2 => ∃ b, xs = [.str b] ∧ (b.length == 0) = false ∧ a.length ≤ 1000000 ∧ post (.d (.tup [.str (Txt.partition a b).1, .str (Txt.partition a b).2.1, .str (Txt.partition a b).2.2])) Γ2) :
    Go K F B0 (tBM K "str" rPartG te ta) T Γ post := fun τ σ H Q hw k =>
  h τ σ H _ hw fun v1 o1 Γ1 H1 ⟨a, e, h1⟩ ⟨_, _, w1⟩ => by
    subst e
    obtain ⟨r1, _⟩ := w1.popd
    cases r1
    refine ⟨rfl, h1 _ σ H1 _ ⟨_, _, w1⟩ fun vs xs Γ2 H2 ⟨b, e, hb, hz, h2⟩ ⟨_, _, w2⟩ hl => ?_⟩
    subst e
    obtain ⟨rl, S2, w3⟩ := w2.args hl
    obtain ⟨_, _, _, w4⟩ := w3.popd
    obtain ⟨u, rfl, r⟩ := rl.one
    cases r
    refine ⟨a, b, rfl, rfl, hb, ?_, fun p hp => ?_⟩
    · rw [sizeLine_eq]; omega
    · obtain ⟨S5, w5⟩ := w4.newd (v := .ref p) (x := .tup [.str (Txt.partition a b).1, .str (Txt.partition a b).2.1, .str (Txt.partition a b).2.2]) hp (.tup (SqT.of upd_same) (.cons .str (.cons .str (.cons .str .nil))))
      exact k _ _ _ _ h2 ⟨_, _, w5⟩
/-- a.startswith(b) -/
theorem go_starts (h : Go K F B0 te T Γ fun o Γ1 => ∃ a, o = .d (.str a) ∧ GoA K F B0 ta (.d (.str a) :: T) Γ1 fun xs Γ2 => ∃ b, xs = [.str b] ∧ post (.d (.bl (Txt.startswith a b))) Γ2) :
    Go K F B0 (tBM K "str" rStartsG te ta) T Γ post := fun τ σ H Q hw k =>
  h τ σ H _ hw fun v1 o1 Γ1 H1 ⟨a, e, h1⟩ ⟨_, _, w1⟩ => by
    subst e
    obtain ⟨r1, _⟩ := w1.popd
    cases r1
    refine ⟨rfl, h1 _ σ H1 _ ⟨_, _, w1⟩ fun vs xs Γ2 H2 ⟨b, e, h2⟩ ⟨_, _, w2⟩ hl => ?_⟩
    subst e
    obtain ⟨rl, S2, w3⟩ := w2.args hl
    obtain ⟨_, _, _, w4⟩ := w3.popd
    obtain ⟨u, rfl, r⟩ := rl.one
    cases r
    exact ⟨a, b, rfl, rfl, k _ _ _ _ h2 ⟨_, _, w4.pushd .bl⟩⟩
end
end SK
namespace SK
open PySem PySem.Spec PyProof.Rows L2
def rTupG (K : PySem.W.Frag) : List V → Hp → VK → Prop := fun xs H Q => ∃ p ys, xs = [.ref p] ∧ ((SqL K H p ys ∧ ∀ l, H l = none → Q (.ref l) (upd H l (.tup ys))) ∨ (L2.SqT K H p ys ∧ Q (.ref p) H))
section
variable {K : PySem.W.Frag} {F B0 H H' B B' : Hp} {τ τs : List V} {T os : List O} {σ : L2.St} {Γ : En} {S S1 S2 : Ad} {v w : V} {o p : O} {x : D} {post : O → En → Prop} {ta : TA} {tb tc te td ty tv tl : TE} {tt tu : TT} {i j : Nat} {posts : List D → En → Prop} {postt : Bool → En → Prop} {posts1 : En → Prop} {Dd : EG} {xs : List D} {vs : List V} {r r' : R2} {s : TS}
theorem oa_tupL (q : x.seq? = some xs) (h : post (.d (.tup xs)) Γ) : OpA K F B0 (rTupG K) [x] T Γ post := fun τ σ H B S vs Q w rl k => by
  obtain ⟨v1, rfl, r⟩ := rl.one
  obtain ⟨a, us, rfl, sq, rl2⟩ := r.seqL q
  refine ⟨a, us, rfl, .inl ⟨w.pu.sqL sq, fun p hp => ?_⟩⟩
  obtain ⟨S2, w⟩ := w.newd (v := .ref p) (x := .tup xs) hp (.tup (SqT.of upd_same) (rl2.mono (.of_ex (.new (w.pu.back hp)))))
  exact k _ _ _ _ h ⟨_, _, w⟩
theorem oa_tupT (h : post (.d (.tup xs)) Γ) : OpA K F B0 (rTupG K) [.tup xs] T Γ post := fun τ σ H B S vs Q w rl k => by
  obtain ⟨v1, rfl, r⟩ := rl.one
  cases r with | @tup a vs _ sq rl2 =>
  exact ⟨a, vs, rfl, .inr ⟨w.pu.sqT sq, k _ _ _ _ h ⟨_, _, w.pushd (.tup sq rl2)⟩⟩⟩
theorem Sl.tupM {xs : List D} {lo : Int} {hi : Option Int} (h0 : 0 < lo) (h1 : xs ≠ []) : Sl (.tup xs) (some lo) hi (.d (.tup (cutD xs (some lo) hi))) := by
  refine .tup fun ⟨h, _⟩ => ?_
  obtain ⟨n, rfl⟩ := Int.eq_ofNat_of_zero_le (Int.le_of_lt h0)
  rw [sIx_n] at h
  have : 0 < xs.length := List.length_pos_iff.mpr h1
  omega
theorem atI_ofN {α : Type} {xs : List α} {k : Nat} : atI xs (Int.ofNat k) = xs[k]? := by
  show atI xs (k : Int) = xs[k]?
  unfold atI ixN
  rw [if_pos (Int.natCast_nonneg k)]
  by_cases h : k < xs.length
  · rw [if_pos (by omega)]
    rfl
  · rw [if_neg (by omega)]
    exact (List.getElem?_eq_none (by omega)).symm
end
end SK
namespace SK
open PySem PySem.Spec PyProof.Rows L2
/-- its own dict, if it has one, is told -/
def XdAt (H : Hp) (d : Option Addr) : Prop := match d with | none => True | some dd => ∃ fs, H dd = some (.xd fs)
def rIsX (K : PySem.W.Frag) (a : Addr) (cls : Value) (d : Option Addr) : List V → Hp → VK → Prop := fun xs H Q => ∃ D c b, cls = .ref D ∧ XdAt H d ∧ L2.ExcC K D ∧ xs = [.ref a, c] ∧
  ((∃ cv, ClsV c cv ∧ PySem.W.kitOne K (.ref D) cv = some b) ∨ (∃ tp cs us, c = .ref tp ∧ L2.SqT K H tp cs ∧ Paired ClsV cs us ∧ PySem.W.kitAny K (.ref D) us = some b)) ∧ Q (.bl b) H
section
variable {K : PySem.W.Frag} {F B0 H H' B B' : Hp} {τ τs : List V} {T os : List O} {σ : L2.St} {Γ : En} {S S1 S2 : Ad} {v w : V} {o p : O} {x : D} {post : O → En → Prop} {ta : TA} {tb tc te td ty tv tl : TE} {tt tu : TT} {i j : Nat} {posts : List D → En → Prop} {postt : Bool → En → Prop} {posts1 : En → Prop} {Dd : EG} {xs : List D} {vs : List V} {r r' : R2} {s : TS}
/-- isinstance(e, C) -/
theorem oa_isX {a D C : Addr} {b : Bool} (E : L2.ExcC K D) (q : PySem.W.kitOne K (.ref D) (.ref C) = some b) (h : post (.d (.bl b)) Γ) : OpA K F B0 (rIsX K a (.ref D) none) [.ref a, .ref C] T Γ post := fun τ σ H B S vs Q w rl k => by
  obtain ⟨v1, v2, rfl, r, r2⟩ := rl.two
  cases r
  cases r2
  exact ⟨D, _, b, rfl, trivial, E, rfl, .inl ⟨_, .own C, q⟩, k _ _ Γ H h ⟨_, _, w.pushd .bl⟩⟩
theorem oa_isXt {a D : Addr} {n : String} {b : Bool} (E : L2.ExcC K D) (q : PySem.W.kitOne K (.ref D) (.type n) = some b) (h : post (.d (.bl b)) Γ) : OpA K F B0 (rIsX K a (.ref D) none) [.ref a, .ty n] T Γ post := fun τ σ H B S vs Q w rl k => by
  obtain ⟨v1, v2, rfl, r, r2⟩ := rl.two
  cases r
  cases r2
  exact ⟨D, _, b, rfl, trivial, E, rfl, .inl ⟨_, .ty n, q⟩, k _ _ Γ H h ⟨_, _, w.pushd .bl⟩⟩
theorem RL.cls : ∀ {vs : List V} {Cs : List Addr}, RL K B vs (Cs.map SK.D.ref) → Paired ClsV vs (Cs.map Value.ref)
  | [], [], _ => .nil
  | _ :: _, C :: Cs, .cons r t => by cases r; exact .cons (.own C) (RL.cls t)
end
end SK
namespace SK
open PySem PySem.Spec PyProof.Rows L2
end SK
namespace SK
open PySem PySem.Spec PyProof.Rows L2
section
variable {K : PySem.W.Frag} {F B0 : Hp} {T : List O} {Γ : En} {Dd : EG} {c : Value} {ts : Addr → Value → Option Addr → TS} {Wout : WX} {tw : WX → TS} {u : TS} {i : Nat}
def tTryE (K : PySem.W.Frag) (c : Value) (ts : Addr → Value → Option Addr → TS) (Wout : WX) (tb : WX → TS) (u : TS) : TS := fun De σ H => tb (wOnly K c ts Wout De) { De with nx := u De } σ H
end
end SK
namespace SK
open PySem PySem.Spec PyProof.Rows L2
theorem gos_sIW {K : PySem.W.Frag} {F B0 : Hp} {T : List O} {Γ : En} {Dd : EG} {tt : TT} {u t2 : TS} {W : WX} {C : Addr} (h : GoS K F B0 (tIfS tt (tRaise W C) u) T Γ { Dd with nx := fun Γ1 => GoS K F B0 t2 T Γ1 Dd }) : GoS K F B0 (tSeq (tIfS tt (tRaise W C) u) t2) T Γ Dd := gos_seq h
end SK
namespace SK
open PySem PySem.Spec PyProof.Rows L2
section
variable {K : PySem.W.Frag} {F B0 : Hp} {T : List O} {Γ : En} {Dd : EG} {c : Value} {ts : Addr → Value → Option Addr → TS} {Wout : WX} {tw : WX → TS} {u t2 : TS} {i : Nat}
theorem gos_sTA (h : GoS K F B0 (tTryAs K c i ts Wout tw) T Γ { Dd with nx := fun Γ1 => GoS K F B0 t2 T Γ1 Dd }) : GoS K F B0 (tSeq (tTryAs K c i ts Wout tw) t2) T Γ Dd := gos_seq h
theorem gos_sTO (h : GoS K F B0 (tTry K c ts Wout tw) T Γ { Dd with nx := fun Γ1 => GoS K F B0 t2 T Γ1 Dd }) : GoS K F B0 (tSeq (tTry K c ts Wout tw) t2) T Γ Dd := gos_seq h
theorem gos_sTE (h : GoS K F B0 (tTryE K c ts Wout tw u) T Γ { Dd with nx := fun Γ1 => GoS K F B0 t2 T Γ1 Dd }) : GoS K F B0 (tSeq (tTryE K c ts Wout tw u) t2) T Γ Dd := gos_seq h
end
end SK
namespace SK
open PySem PySem.Spec PyProof.Rows L2
theorem gos_mid {K : PySem.W.Frag} {F B0 : Hp} {T : List O} {Γ : En} {Dd : EG} {t : TS} (M : En → Prop) (h : GoS K F B0 t T Γ { Dd with nx := M }) (h2 : ∀ Γ', M Γ' → Dd.nx Γ') : GoS K F B0 t T Γ Dd :=
  fun τ σ H De hw s => h τ σ H De hw ⟨fun σ1 Γ1 H1 q w => s.nx σ1 Γ1 H1 (h2 Γ1 q) w, s.rt, s.bk, s.ct⟩
end SK
namespace SK
open PySem PySem.Spec PyProof.Rows L2 TL
def rSIndexG : V → List V → Hp → VK → Prop := fun x xs H Q => ∃ a b i rest, x = .str a ∧ xs = [.str b] ∧ Builtin.Str.occurrences a b 0 a.length 1 = i :: rest ∧ Q (.int (i : Nat)) H
def rFindG : V → List V → Hp → VK → Prop := fun x xs H Q => ∃ a b, x = .str a ∧ xs = [.str b] ∧ Q (.int (Txt.find a b)) H
section
variable {K : PySem.W.Frag} {F B0 H H' B B' : Hp} {τ τs : List V} {T os : List O} {σ : L2.St} {Γ : En} {S S1 S2 : Ad} {v w : V} {post : O → En → Prop} {ta : TA} {te : TE}
/-- a.index(b) of a text that has it -/
theorem go_sindex (h : Go K F B0 te T Γ fun o Γ1 => ∃ a, o = .d (.str a) ∧ GoA K F B0 ta (.d (.str a) :: T) Γ1 fun xs Γ2 => ∃ b i rest, xs = [.str b] ∧ Builtin.Str.occurrences a b 0 a.length 1 = i :: rest ∧ post (.d (.int (i : Nat))) Γ2) :
    Go K F B0 (tBM K "str" rSIndexG te ta) T Γ post := fun τ σ H Q hw k =>
  h τ σ H _ hw fun v1 o1 Γ1 H1 ⟨a, e, h1⟩ ⟨_, _, w1⟩ => by
    subst e
    obtain ⟨r1, _⟩ := w1.popd
    cases r1
    refine ⟨rfl, h1 _ σ H1 _ ⟨_, _, w1⟩ fun vs xs Γ2 H2 ⟨b, i, rest, e, oc, h2⟩ ⟨_, _, w2⟩ hl => ?_⟩
    subst e
    obtain ⟨rl, S2, w3⟩ := w2.args hl
    obtain ⟨_, _, _, w4⟩ := w3.popd
    obtain ⟨u, rfl, r⟩ := rl.one
    cases r
    exact ⟨a, b, i, rest, rfl, rfl, oc, k _ _ _ _ h2 ⟨_, _, w4.pushd .int⟩⟩
theorem go_find (h : Go K F B0 te T Γ fun o Γ1 => ∃ a, o = .d (.str a) ∧ GoA K F B0 ta (.d (.str a) :: T) Γ1 fun xs Γ2 => ∃ b, xs = [.str b] ∧ post (.d (.int (Txt.find a b))) Γ2) :
    Go K F B0 (tBM K "str" rFindG te ta) T Γ post := fun τ σ H Q hw k =>
  h τ σ H _ hw fun v1 o1 Γ1 H1 ⟨a, e, h1⟩ ⟨_, _, w1⟩ => by
    subst e
    obtain ⟨r1, _⟩ := w1.popd
    cases r1
    refine ⟨rfl, h1 _ σ H1 _ ⟨_, _, w1⟩ fun vs xs Γ2 H2 ⟨b, e, h2⟩ ⟨_, _, w2⟩ hl => ?_⟩
    subst e
    obtain ⟨rl, S2, w3⟩ := w2.args hl
    obtain ⟨_, _, _, w4⟩ := w3.popd
    obtain ⟨u, rfl, r⟩ := rl.one
    cases r
    exact ⟨a, b, rfl, rfl, k _ _ _ _ h2 ⟨_, _, w4.pushd .int⟩⟩
end
end SK
namespace SK
open PySem PySem.Spec PyProof.Rows L2
/-- an exception of the body is always one that the clause names -/
def wAll (K : PySem.W.Frag) (c : Value) (ts : Addr → Value → Option Addr → TS) (De : Ends) : WX := fun cls d σ H => PySem.W.exmOne K cls c = some true ∧ ∀ a, H a = none → ts a cls d De σ H
def tTryXE (K : PySem.W.Frag) (c : Value) (ts : Addr → Value → Option Addr → TS) (tb : WX → TS) (u : TS) : TS := fun De σ H => tb (wAll K c ts De) { De with nx := u De } σ H
section
variable {K : PySem.W.Frag} {F B0 : Hp} {T : List O} {Γ : En} {Dd : EG} {c : Value} {ts : Addr → Value → Option Addr → TS} {Wout : WX} {tw : WX → TS} {u t2 : TS}
theorem gos_sTX (h : GoS K F B0 (tTryXE K c ts tw u) T Γ { Dd with nx := fun Γ1 => GoS K F B0 t2 T Γ1 Dd }) : GoS K F B0 (tSeq (tTryXE K c ts tw u) t2) T Γ Dd := gos_seq h
end
end SK
namespace SK
open PySem PySem.Spec PyProof.Rows L2 TL
end SK
namespace SK
open PySem PySem.Spec PyProof.Rows L2
mutual
/-- no truth stands where the other one has a number -/
def D.cmp : D → D → Bool
  | .bl _, .int _ => false
  | .int _, .bl _ => false
  | .sq _, _ => false
  | _, .sq _ => false
  | .ctu _, _ => false
  | _, .ctu _ => false
  | .tup xs, .tup ys => cmpL xs ys
  | .lst xs, .lst ys => cmpL xs ys
  | _, _ => true
def cmpL : List D → List D → Bool
  | x :: xs, y :: ys => x.cmp y && cmpL xs ys
  | _, _ => true
end
mutual
theorem eqv_iff : ∀ (x y : D), x.pl = true → y.pl = true → x.cmp y = true → (PyData.eqv x.py y.py = true ↔ x = y)
  | .tup xs, y, p, q, c => by
    cases y with
    | tup ys =>
      simp only [D.pl] at p q
      simp only [D.cmp] at c
      simp only [D.py, PyData.eqv, D.tup.injEq]
      exact eqvL_iff xs ys p q c
    | _ => first | (simp [D.pl] at q; done) | (simp [D.cmp] at c; done) | simp [D.py, PyData.eqv]
  | .lst xs, y, p, q, c => by
    cases y with
    | lst ys =>
      simp only [D.pl] at p q
      simp only [D.cmp] at c
      simp only [D.py, PyData.eqv, D.lst.injEq]
      exact eqvL_iff xs ys p q c
    | _ => first | (simp [D.pl] at q; done) | (simp [D.cmp] at c; done) | simp [D.py, PyData.eqv]
  | .non, y, p, q, c => by
    cases y <;> first | (simp [D.pl] at q; done) | (simp [D.cmp] at c; done) | simp [D.py, PyData.eqv]
  | .bl b, y, p, q, c => by
    cases y <;> first | (simp [D.pl] at q; done) | (simp [D.cmp] at c; done) | simp [D.py, PyData.eqv]
  | .int i, y, p, q, c => by
    cases y <;> first | (simp [D.pl] at q; done) | (simp [D.cmp] at c; done) | simp [D.py, PyData.eqv]
  | .str s, y, p, q, c => by
    cases y <;> first | (simp [D.pl] at q; done) | (simp [D.cmp] at c; done) | simp [D.py, PyData.eqv]
  | .sq xs, y, p, q, c => by simp [D.cmp] at c
  | .ctu xs, y, p, q, c => by cases y <;> simp [D.cmp] at c
  | .ref _, y, p, q, c => by simp [D.pl] at p
  | .ty _, y, p, q, c => by simp [D.pl] at p
  | .dic _, y, p, q, c => by simp [D.pl] at p
  | .dit _, y, p, q, c => by simp [D.pl] at p
  | .ins _ _, y, p, q, c => by simp [D.pl] at p
theorem eqvL_iff : ∀ (xs ys : List D), plL xs = true → plL ys = true → cmpL xs ys = true → (PyData.eqvAll (pyL xs) (pyL ys) = true ↔ xs = ys)
  | [], ys, p, q, c => by cases ys <;> simp [pyL, PyData.eqvAll]
  | x :: xs, ys, p, q, c => by
    cases ys with
    | nil => simp [pyL, PyData.eqvAll]
    | cons y ys =>
      simp only [plL, Bool.and_eq_true] at p q
      simp only [cmpL, Bool.and_eq_true] at c
      simp only [pyL, PyData.eqvAll, Bool.and_eq_true, List.cons.injEq]
      rw [eqv_iff x y p.1 q.1 c.1, eqvL_iff xs ys p.2 q.2 c.2]
end
section
variable {K : PySem.W.Frag} {F B0 : Hp} {T : List O} {Γ : En} {post : O → En → Prop} {x y : D}
theorem eqv_told (n : Nat) {x y : D} (hx : Shp n x) (hy : Shp n y) (c : x.cmp y = true) {b : Bool} (hb : b = true ↔ x = y) : PyData.eqv x.py y.py = b := by
  rw [Bool.eq_iff_iff, eqv_iff x y hx.1 hy.1 c, hb]
theorem o2_neP (n : Nat) (hx : Shp n x) (hy : Shp n y) (hn : n ≤ 60) (c : x.cmp y = true) (b : Bool) (hb : b = true ↔ x = y) (h : post (.d (.bl (!b))) Γ) : Op2 K F B0 (rNeG K) x y T Γ post :=
  o2_neD ((hx.mono hn).eqs (hy.mono hn)) (by rw [eqv_told n hx hy c hb]; exact h)
end
end SK
namespace SK
open PySem PySem.Spec PyProof.Rows L2 TL
def rUpperG : V → List V → Hp → VK → Prop := fun x xs H Q => ∃ a, x = .str a ∧ xs = [] ∧ a.length ≤ 5592405 ∧ Q (.str (Txt.upper a)) H
section
variable {K : PySem.W.Frag} {F B0 H H' B B' : Hp} {τ τs : List V} {T os : List O} {σ : L2.St} {Γ : En} {S S1 S2 : Ad} {v w : V} {post : O → En → Prop} {ta : TA} {te : TE} {i : Nat} {Dd : EG}
theorem go_upper (h : Go K F B0 te T Γ fun o Γ1 => ∃ a, o = .d (.str a) ∧ a.length ≤ 100000 ∧ post (.d (.str (Txt.upper a))) Γ1) :
    Go K F B0 (tBM0 K "str" rUpperG te) T Γ post := fun τ σ H Q hw k =>
  h τ σ H _ hw fun v1 o1 Γ1 H1 ⟨a, e, hz, h1⟩ ⟨_, _, w1⟩ => by
    subst e
    obtain ⟨r1, _, _, w2⟩ := w1.popd
    cases r1
    exact ⟨rfl, a, rfl, rfl, Nat.le_trans hz (by decide), k _ _ _ _ h1 ⟨_, _, w2.pushd .str⟩⟩
/-- xs.clear(), xs a name -/
theorem gos_clear (h : ∃ xs, Γ[i]? = some (some (.ol xs)) ∧ Dd.nx (Γ.set i (some (.ol [])))) :
    GoS K F B0 (tDrop (tBM0 K "list" rClear (tVar i))) T Γ Dd := fun τ σ H De hw s => by
  obtain ⟨B, S, w⟩ := hw
  obtain ⟨xs, e0, h⟩ := h
  obtain ⟨v, S1, a1, r1, _, f⟩ := w.mut1 e0
  cases r1 with
  | @ol _ S4 a vs _ ha hs hn hc rs =>
  refine ⟨.ref a, a1, Or.inl ⟨rfl, vs, SqL.of hc⟩, a, vs, rfl, rfl, hc, ?_⟩
  obtain ⟨S', w3⟩ := f a (.lst []) (.ol []) ha (.ol (S' := fun _ => False) ha (fun b z => False.elim z) id upd_same .nil)
  exact s.nx σ _ _ h ⟨B, S', w3⟩
theorem RS.app0 : ∀ {σ : List (Option V)} {Γ : List (Option O)} {S : Ad} {vs : List V} {xs : List D}, RS K B H S σ Γ → RL K B vs xs → RS K B H S (σ ++ vs.map some) (Γ ++ (xs.map O.d).map some)
  | _, _, _, _, _, .nil, rl => by simpa using fl_of rl
  | _, _, _, _, _, .un r, rl => .un (RS.app0 r rl)
  | _, _, _, _, _, .cons s1 s2 d r rs, rl => .cons s1 s2 d r (RS.app0 rs rl)
/-- xs.extend(e), xs a name -/
theorem gos_extend (h : Go K F B0 te T Γ fun o Γ1 => ∃ xs zs, o.fz = .lst zs ∧ Γ1[i]? = some (some (.ol xs)) ∧ xs.length + zs.length ≤ 100000 ∧ Dd.nx (Γ1.set i (some (.ol (xs ++ zs.map O.d))))) (h0 : ∃ xs, Γ[i]? = some (some (.ol xs))) :
    GoS K F B0 (tDrop (tBM K "list" rExtend (tVar i) (tCons te tNil))) T Γ Dd := fun τ σ H De hw s => by
  obtain ⟨B, S, w⟩ := hw
  obtain ⟨xs0, e0⟩ := h0
  obtain ⟨v, S1, a1, r1, _, _⟩ := w.mut1 e0
  cases r1 with
  | @ol _ _ a vs _ _ _ _ hc _ =>
  refine ⟨.ref a, a1, Or.inl ⟨rfl, vs, SqL.of hc⟩, h τ σ H _ ⟨B, S, w⟩ fun v2 o2 Γ2 H2 ⟨xs, zs, ez, e2, hz, h2⟩ ⟨B2, S2, w2⟩ => ?_⟩
  obtain ⟨B3, S3, w3, r3, _⟩ := w2.fzd
  rw [ez] at r3
  cases r3 with
  | @lst b us _ hb rl =>
  obtain ⟨v', S5, a2, r2, _, f⟩ := w3.mut1 e2
  rw [a1] at a2
  cases a2
  cases r2 with
  | @ol _ S4 _ ws _ ha hs hn hc2 rs =>
  have len : ws.length = xs.length := by simpa using rs.len
  have len2 : us.length = zs.length := rl.length
  refine ⟨a, b, ws, us, rfl, rfl, hc2, w3.pu _ _ hb, by rw [len, len2]; exact Nat.le_trans hz (by decide), ?_⟩
  obtain ⟨S', w4⟩ := f a (.lst (ws ++ us)) (.ol (xs ++ zs.map O.d)) ha (.ol (S' := S4) ha hs hn upd_same (by
    rw [List.map_append, List.map_append]
    exact (rs.app0 rl).at fun b u z q => by
      rw [upd_ne (fun e => by subst e; exact hn z)]; exact q))
  exact s.nx σ _ _ h2 ⟨_, S', w4⟩
end
end SK
namespace SK
open PySem PySem.Spec PyProof.Rows L2
section
variable {K : PySem.W.Frag} {F B0 H H' B B' : Hp} {τ τs : List V} {T os : List O} {σ : L2.St} {Γ : En} {S S1 S2 : Ad} {v w : V}
theorem iter_zipT {a b : Addr} {xs ys : List D} : Iter K F B0 (RZ.ItzT K a b) [.ref b, .ref a] [.tup ys, .tup xs] (zipD xs ys) := by
  intro τ T σ Γ H B S h rl0
  obtain ⟨v0, v1, e0, r2, r⟩ := rl0.two
  cases e0
  cases r with | @tup _ vs _ sq rl =>
  cases r2 with | @tup _ us _ sq2 rl2 =>
  have sqh := h.pu.sqT sq
  have sqh2 := h.pu.sqT sq2
  refine ⟨⟨vs, us, sqh, sqh2, by simp only [zipD, List.length_map, List.length_zip]; have := rl.length; have := rl2.length; omega⟩, fun i d hd => ?_⟩
  have hi : i < (zipD xs ys).length := (List.getElem?_eq_some_iff.mp hd).1
  simp only [zipD, List.length_map, List.length_zip] at hi
  have hxi : i < xs.length := by omega
  have hyi : i < ys.length := by omega
  have e : d = .tup [xs[i], ys[i]] := by
    simp [zipD, hxi, hyi, List.getElem?_map, List.zip, List.getElem?_zipWith] at hd
    exact hd.symm
  subst e
  obtain ⟨x1, hx1, rx1⟩ := rl.get (i := i) (x := xs[i]) (by simp [hxi])
  obtain ⟨y1, hy1, ry1⟩ := rl2.get (i := i) (x := ys[i]) (by simp [hyi])
  refine ⟨⟨vs, us, x1, y1, sqh, sqh2, hx1, hy1⟩, fun z H' ⟨t, x2, y2, e1, e2, e3, f1, f2⟩ => ?_⟩
  subst e1 e3
  have g1 := f1 vs sqh
  rw [hx1] at g1
  cases g1
  have g2 := f2 us sqh2
  rw [hy1] at g2
  cases g2
  have ex : Ex B (upd B t (.tup [x1, y1])) := .new (h.pu.back e2)
  obtain ⟨S', w'⟩ := HW.newd h e2 (x := .tup [xs[i], ys[i]]) (.tup (SqT.of upd_same) (.cons (rx1.mono (.of_ex ex)) (.cons (ry1.mono (.of_ex ex)) .nil)))
  exact ⟨_, S', w'⟩
theorem goi_zipT {ta : TA} {posti : List D → List D → En → Prop} (h : GoA K F B0 ta T Γ fun zs Γ1 => ∃ xs ys, zs = [.tup xs, .tup ys] ∧ posti (zipD xs ys) [.tup ys, .tup xs] Γ1) : GoI K F B0 (RZ.iZipA K ta) T Γ posti := fun τ σ H Q hw k =>
  h τ σ H _ hw fun vs zs Γ1 H1 ⟨xs, ys, e, h1⟩ ⟨_, _, w1⟩ hl => by
    subst e
    obtain ⟨rl, S', w⟩ := w1.args hl
    cases rl with | cons r rl0 => cases rl0 with | cons r2 rl0 =>
      cases rl0
      have r' := r
      have r2' := r2
      cases r with | @tup a us _ sq rl2 =>
      cases r2 with | @tup b us2 _ sq2 rl3 =>
      exact ⟨a, b, us, us2, rfl, .inr ⟨w.pu.sqT sq, w.pu.sqT sq2, k (RZ.ItzT K a b) [.ref b, .ref a] [.tup ys, .tup xs] _ Γ1 H1 h1 ⟨_, _, (w.pushd r').pushd r2'⟩ rfl iter_zipT⟩⟩
end
end SK
set_option maxHeartbeats 1000000
namespace SK
open PySem PySem.Spec PyProof.Rows L2
mutual
/-- no list, dict or instance is in it -/
def D.lf : D → Bool
  | .non => true
  | .bl _ => true
  | .int _ => true
  | .str _ => true
  | .ref _ => true
  | .ty _ => true
  | .tup xs => lfL xs
  | .ctu xs => lfL xs
  | _ => false
def lfL : List D → Bool
  | [] => true
  | x :: xs => x.lf && lfL xs
end
mutual
def O.lf : O → Bool
  | .d x => x.lf
  | .ol xs => lfOL xs
  | .od kvs => lfOK kvs
  | .oi _ _ fs => lfOF fs
  | .op xs => lfOL xs
  | .atA _ o => o.lf
  | _ => false
def lfOL : List O → Bool
  | [] => true
  | x :: xs => x.lf && lfOL xs
def lfOK : List (Key × O) → Bool
  | [] => true
  | (_, x) :: xs => x.lf && lfOK xs
def lfOF : List (Str × O) → Bool
  | [] => true
  | (_, x) :: xs => x.lf && lfOF xs
end
section
variable {K : PySem.W.Frag} {B B2 H : Hp}
def LfB (K : PySem.W.Frag) (B B2 : Hp) : Prop := (∀ a xs, SqT K B a xs → SqT K B2 a xs) ∧ ∀ a xs, L2.SqT K B a xs → L2.SqT K B2 a xs
mutual
theorem R.lfD (hB : LfB K B B2) : ∀ (x : D) {v : V}, R K B v x → x.lf = true → R K B2 v x
  | .non, _, r, _ => by cases r; exact .non
  | .bl _, _, r, _ => by cases r; exact .bl
  | .int _, _, r, _ => by cases r; exact .int
  | .str _, _, r, _ => by cases r; exact .str
  | .ref _, _, r, _ => by cases r; exact .ref
  | .ty _, _, r, _ => by cases r; exact .ty
  | .tup xs, _, r, q => by
    cases r with
    | tup h rl => exact .tup (hB.1 _ _ h) (RL.lfD hB xs rl (by simpa [D.lf] using q))
  | .ctu xs, _, r, q => by
    cases r with
    | ctu h rl => exact .ctu (hB.2 _ _ h) (RL.lfD hB xs rl (by simpa [D.lf] using q))
  | .lst _, _, _, q => by simp [D.lf] at q
  | .sq _, _, _, q => by simp [D.lf] at q
  | .dic _, _, _, q => by simp [D.lf] at q
  | .dit _, _, _, q => by simp [D.lf] at q
  | .ins _ _, _, _, q => by simp [D.lf] at q
theorem RL.lfD (hB : LfB K B B2) : ∀ (xs : List D) {vs : List V}, RL K B vs xs → lfL xs = true → RL K B2 vs xs
  | [], _, r, _ => by cases r; exact .nil
  | x :: xs, _, r, q => by
    simp only [lfL, Bool.and_eq_true] at q
    cases r with
    | cons r t => exact .cons (R.lfD hB x r q.1) (RL.lfD hB xs t q.2)
end
theorem R.lf (hB : LfB K B B2) {v : V} {x : D} (r : R K B v x) (q : x.lf = true) : R K B2 v x := R.lfD hB x r q
theorem lfOL_map : ∀ {xs : List O}, lfOL xs = true → ∀ o ∈ xs, o.lf = true
  | x :: xs, q, o, h => by
    simp only [lfOL, Bool.and_eq_true] at q
    rcases List.mem_cons.mp h with rfl | h
    · exact q.1
    · exact lfOL_map q.2 o h
theorem lfOK_map : ∀ {xs : List (Key × O)}, lfOK xs = true → ∀ p ∈ xs, p.2.lf = true
  | (k, x) :: xs, q, p, h => by
    simp only [lfOK, Bool.and_eq_true] at q
    rcases List.mem_cons.mp h with rfl | h
    · exact q.1
    · exact lfOK_map q.2 p h
theorem lfOF_map : ∀ {xs : List (Str × O)}, lfOF xs = true → ∀ p ∈ xs, p.2.lf = true
  | (k, x) :: xs, q, p, h => by
    simp only [lfOF, Bool.and_eq_true] at q
    rcases List.mem_cons.mp h with rfl | h
    · exact q.1
    · exact lfOF_map q.2 p h
mutual
theorem RO.lf (hB : LfB K B B2) : ∀ {S : Ad} {v : V} {o : O}, RO K B H S v o → o.lf = true → RO K B2 H S v o
  | _, _, _, .d r, q => .d (r.lf hB (by simpa [O.lf] using q))
  | _, _, _, .ol (xs := xs) ha hs hn h r, q => .ol ha hs hn h (RS.lf hB r fun o ho => by
      obtain ⟨y, hy, e⟩ := List.mem_map.mp ho
      cases e
      exact lfOL_map (by simpa [O.lf] using q) o hy)
  | _, _, _, .od (kvs := kvs) ha hs hn h nd e r, q => .od ha hs hn h nd e (RS.lf hB r fun o ho => by
      obtain ⟨y, hy, e⟩ := List.mem_map.mp ho
      cases e
      exact lfOK_map (by simpa [O.lf] using q) y hy)
  | _, _, _, .oi (kvs := kvs) ha hd hs hn hn2 ne h h2 e r, q => .oi ha hd hs hn hn2 ne h h2 e (RS.lf hB r fun o ho => by
      obtain ⟨y, hy, e⟩ := List.mem_map.mp ho
      cases e
      exact lfOF_map (by simpa [O.lf] using q) y hy)
  | _, _, _, .op (xs := xs) h r, q => .op (hB.1 _ _ h) (RS.lf hB r fun o ho => by
      obtain ⟨y, hy, e⟩ := List.mem_map.mp ho
      cases e
      exact lfOL_map (by simpa [O.lf] using q) o hy)
  | _, _, _, .atA r, q => .atA (RO.lf hB r (by simpa [O.lf] using q))
theorem RS.lf (hB : LfB K B B2) : ∀ {S : Ad} {σ : List (Option V)} {Γ : List (Option O)}, RS K B H S σ Γ → (∀ o, some o ∈ Γ → o.lf = true) → RS K B2 H S σ Γ
  | _, _, _, .nil, _ => .nil
  | _, _, _, .un r, q => .un (RS.lf hB r fun o h => q o (List.mem_cons_of_mem _ h))
  | _, _, _, .cons s1 s2 d r t, q => .cons s1 s2 d (RO.lf hB r (q _ List.mem_cons_self)) (RS.lf hB t fun o h => q o (List.mem_cons_of_mem _ h))
end
end
end SK
namespace SK
open PySem PySem.Spec PyProof.Rows L2
def rMinD (K : PySem.W.Frag) : List V → List V → Hp → VK → Prop := fun vs zs H Q => ∃ (a : Addr) (ns : List Int) (d : V), vs = [V.ref a] ∧ zs = [d] ∧ SqL K H a (ns.map V.int) ∧ (ns = [] → Q d H) ∧ ∀ m, m ∈ ns → (∀ y, y ∈ ns → m ≤ y) → Q (.int m) H
section
variable {K : PySem.W.Frag} {F B0 H H' B B' : Hp} {τ : List V} {T : List O} {σ : L2.St} {Γ : En} {post : O → En → Prop} {t tk : TA}
theorem go_minD (h : GoA K F B0 t T Γ fun xs Γ1 => ∃ x ns, xs = [x] ∧ x.seq? = some (ns.map D.int) ∧ GoA K F B0 tk (.d x :: T) Γ1 fun zs Γ2 => ∃ y, zs = [y] ∧ (ns = [] → post (.d y) Γ2) ∧ ∀ m, m ∈ ns → (∀ y, y ∈ ns → m ≤ y) → post (.d (.int m)) Γ2) :
    Go K F B0 (tCKw (rMinD K) t tk) T Γ post := fun τ σ H Q hw k =>
  h τ σ H _ hw fun vs xs Γ1 H1 ⟨x, ns, e, q, h1⟩ w1 hl => by
    subst e
    obtain ⟨v, rfl⟩ : ∃ v, vs = [v] := List.length_eq_one_iff.mp hl
    refine h1 _ σ H1 _ w1 fun zs ys Γ2 H2 ⟨y, e2, h0, h2⟩ ⟨B2, S2, w2⟩ hl2 => ?_
    subst e2
    obtain ⟨z, rfl⟩ : ∃ z, zs = [z] := List.length_eq_one_iff.mp hl2
    obtain ⟨ry, _, _, w3⟩ := w2.popd
    obtain ⟨rx, _, _, w4⟩ := w3.popd
    obtain ⟨a, us, rfl, sq, rl⟩ := rx.seqL q
    have eu : us = ns.map V.int := by
      have : ∀ {us : List V} {ns : List Int}, RL K B2 us (ns.map D.int) → us = ns.map V.int := by
        intro us ns r
        induction ns generalizing us with
        | nil => cases r; rfl
        | cons n ns ih =>
          cases r with
          | cons r t => cases r; rw [ih t]; rfl
      exact this rl
    subst eu
    exact ⟨a, ns, z, rfl, rfl, w4.pu.sqL sq, fun hz => k _ _ _ _ (h0 hz) ⟨_, _, w4.pushd ry⟩, fun m hm hall => k _ _ _ _ (h2 m hm hall) ⟨_, _, w4.pushd .int⟩⟩
end
end SK
namespace SK
open PySem PySem.Spec PyProof.Rows L2
/-- the class facts of a record: its fields are its own -/
structure Rec (K : PySem.W.Frag) (Ci : Addr) (fs : List Str) : Prop where
  cls : Cls K Ci
  no : ∀ f, fs.contains f = true → NoAttr K Ci f
section
variable {K : PySem.W.Frag} {F B0 H H' B B' : Hp} {τ : List V} {T : List O} {σ : L2.St} {Γ : En} {post : O → En → Prop} {te tv : TE} {Ci : Addr} {fl : List Str} {f : Str} {Dd : EG} {i : Nat}
/-- e.f of a frozen record -/
theorem go_fldR (R : Rec K Ci fl) (h : Go K F B0 te T Γ fun o Γ1 => ∃ fs y, o.fz = .ins Ci fs ∧ fs.lookup f = some y ∧ fl.contains f = true ∧ post (.d y) Γ1) : Go K F B0 (tFld K te f) T Γ post :=
  go_fld fun τ σ H Q hw k => h τ σ H Q hw fun v o Γ1 H1 ⟨fs, y, e1, e2, e3, e4⟩ w => k v o Γ1 H1 ⟨Ci, fs, y, e1, e2, R.cls, R.no f e3, e4⟩ w
/-- self.f = e in __init__ -/
theorem gos_fldR (R : Rec K Ci fl) (h : Go K F B0 tv T Γ fun o Γ1 => ∃ a fs, Γ1[i]? = some (some (.oi a Ci fs)) ∧ fl.contains f = true ∧ fs.length < 1000 ∧ Dd.nx (Γ1.set i (some (.oi a Ci (SK.fput f o fs))))) : GoS K F B0 (sFld K (tVar i) tv f) T Γ Dd :=
  gos_fld fun τ σ H Q hw k => h τ σ H Q hw fun v o Γ1 H1 ⟨a, fs, e1, e2, e3, e4⟩ w => k v o Γ1 H1 ⟨a, Ci, fs, e1, R.cls, R.no f e2, e3, e4⟩ w
end
end SK
namespace SK
open PySem PySem.Spec PyProof.Rows L2
end SK
namespace SK
open PySem PySem.Spec PyProof.Rows L2
end SK
namespace SK
open PySem PySem.Spec PyProof.Rows L2 RT
def tListRev (K : PySem.W.Frag) (te : TE) : TE := fun σ H Q => te σ H fun v H1 => ∃ (a : Addr) (xs : List V), v = .ref a ∧ SqL K H1 a xs ∧ ∀ q, H1 q = none → Q (.ref q) (upd H1 q (.lst xs.reverse))
section
variable {K : PySem.W.Frag} {F B0 H H' B B' : Hp} {τ : List V} {T : List O} {σ : L2.St} {Γ : En} {post : O → En → Prop} {te : TE}
theorem RL.rev {vs : List V} {xs : List D} (r : RL K B vs xs) : RL K B vs.reverse xs.reverse := by
  induction vs generalizing xs with
  | nil => cases r; exact .nil
  | cons v vs ih =>
    cases r with
    | cons r t =>
      rw [List.reverse_cons, List.reverse_cons]
      exact (ih t).app (.cons r .nil)
/-- list(reversed(xs)) -/
theorem go_listRev (h : Go K F B0 te T Γ fun o Γ1 => ∃ xs, o.fz.seq? = some xs ∧ post (.ol (xs.reverse.map O.d)) Γ1) : Go K F B0 (tListRev K te) T Γ post := fun τ σ H Q hw k =>
  h τ σ H _ hw fun v1 o1 Γ1 H1 ⟨xs, e1, h1⟩ ⟨_, _, w1⟩ => by
    obtain ⟨B2, S2, w2, r, _⟩ := w1.fzd
    obtain ⟨a, vs, rfl, sq, rl⟩ := r.seqL e1
    refine ⟨a, vs, rfl, w2.pu.sqL sq, fun p hp => ?_⟩
    obtain ⟨S3, w3⟩ := w2.newl hp rl.rev
    exact k _ _ _ _ h1 ⟨_, _, w3⟩
end
end SK
namespace SK
open PySem PySem.Spec PyProof.Rows L2
section
variable {K : PySem.W.Frag} {F B0 H B : Hp} {τ : List V} {T : List O} {σ : L2.St} {Γ : En} {S : Ad} {o : O} {i : Nat} {te : TE} {tt : TT} {post : O → En → Prop} {postt : Bool → En → Prop}
theorem HW.lendA (w : HW K F B0 τ T σ Γ H B S) : ∃ Bf, Ho K H Bf [] [] σ (fzE Γ) H ∧
    (∀ Γ1 H1, Ho K H Bf [] [] σ Γ1 H1 → Ho K F B0 τ T σ Γ H1) ∧
    ∀ v' o' Γ1 H1, Ho K H Bf [v'] [o'] σ Γ1 H1 → o'.lf = true → Ho K F B0 (v' :: τ) (o' :: T) σ Γ H1 := by
  obtain ⟨B, S, w, aT, _⟩ := w.allT
  obtain ⟨Sp, Ss, p1, p2, p3, rp, rsl⟩ := RS.split (σ0 := τ.map some) (Γ0 := T.map some) (by simp [w.lt]) w.rs
  obtain ⟨L, l1, r2, l3⟩ := rsl.tight
  have bn : ∀ a, L a → B a = none ∧ H a ≠ none := fun a z => (w.ow a (p2 a (l1 a z))).2
  have ex : Ex B (SK.frz B H L) := frz_ex fun a z => (bn a z).1
  have le0 : BLe B (SK.frz B H L) := .of_ex ex
  have main : ∀ v' o' Γ1 H1, Ho K H (SK.frz B H L) [v'] [o'] σ Γ1 H1 → o'.lf = true → Ho K F B0 (v' :: τ) (o' :: T) σ Γ H1 := by
    intro v' o' Γ1 H1 ⟨B1, Sr, w1⟩ lf
    obtain ⟨T1, T2, t1, t2, dj, ro, _⟩ := w1.pop
    have hB : ∀ a u, B a = some u → ¬ L a := fun a u q z => by rw [(bn a z).1] at q; cases q
    have off : ∀ a u, ¬ L a → B1 a = some u → offH B1 L a = some u := fun a u z q => by rw [offH_no z]; exact q
    have offR : ∀ a u, ¬ L a → Rd B1 a u → Rd (offH B1 L) a u := fun a u z q => q.elim (fun q => .inl (off a _ z q)) fun ⟨o, q⟩ => .inr ⟨o, off a _ z q⟩
    have nL : ∀ a u, Rd B a u → ¬ L a := fun a u q => q.elim (hB a _) fun ⟨o, q⟩ => hB a _ q
    have le : BLe B (offH B1 L) := by
      have l := le0.trans w1.b0
      exact ⟨fun a xs q => off a _ (hB a _ q) (l.te a xs q), fun a xs q => offR a _ (nL a _ q) (l.tup a xs q), fun a xs q => offR a _ (nL a _ q) (l.lst a xs q), fun a xs q => off a _ (hB a _ q) (l.ls a xs q), fun a xs q => offR a _ (nL a _ q) (l.dK a xs q), fun a xs q => offR a _ (nL a _ q) (l.dT a xs q), fun a C dx fs q => off a _ (hB a _ q) (l.ins a C dx fs q)⟩
    have pu : Ex (offH B1 L) H1 := fun a u q => by
      by_cases z : L a
      · rw [offH_at z] at q; cases q
      · rw [offH_no z] at q; exact w1.pu a u q
    have sqr : ∀ a xs, Rd B1 a (.tup xs) → ¬ L a := fun a xs q z => by
      have q2 : ∃ u, B1 a = some u ∧ (u = .tup xs ∨ ∃ o, u = .frz o (.tup xs)) := q.elim (fun q => ⟨_, q, .inl rfl⟩) fun ⟨o, q⟩ => ⟨_, q, .inr ⟨o, rfl⟩⟩
      obtain ⟨u, q3, q4⟩ := q2
      have q5 := w1.pu a u q3
      rcases l3 a z with ⟨_, y⟩ | ⟨_, y⟩ | ⟨_, y⟩ | ⟨_, _, _, y⟩ | ⟨_, y⟩ <;>
        (rw [w1.fr a _ y] at q5
         cases q5
         rcases q4 with q4 | ⟨_, q4⟩ <;> cases q4)
    have sq : LfB K B1 (offH B1 L) := ⟨fun a xs q => off a _ (sqr a xs (.inl q)) q, fun a xs q => q.imp (fun q => offR a _ (sqr a xs q) q) id⟩
    refine ⟨offH B1 L, fun a => T1 a ∨ S a, w.fr.trans w1.fr, pu, w.b0.trans le, fun a z => ?_, fun a z => ?_, .cons (S1 := T1) (S2 := S) (fun _ z => .inl z) (fun _ z => .inr z) (fun a z y => ?_) (ro.lf sq lf) (w.rs.tr le (fun _ z => z) fun a u _ q => w1.fr a u q), by simp [w.lt], w.tp⟩
    · rcases z with z | z
      · obtain ⟨q1, q2, q3⟩ := w1.ow a (t1 a z)
        refine ⟨w.fr.back q1, ?_, q3⟩
        by_cases y : L a
        · exact offH_at y
        · rw [offH_no y]; exact q2
      · obtain ⟨q1, q2, q3⟩ := w.ow a z
        refine ⟨q1, ?_, fun q => q3 (w1.fr.back q)⟩
        by_cases y : L a
        · exact offH_at y
        · rw [offH_no y]
          cases q : B1 a with
          | none => rfl
          | some u =>
            rcases w1.nw a (by rw [q]; simp) with x | x
            · rw [frz_no y] at x; exact absurd q2 x
            · exact absurd x q3
    · by_cases y : L a
      · exact absurd (offH_at y) z
      · rw [offH_no y] at z
        rcases w1.nw a z with x | x
        · rw [frz_no y] at x; exact w.nw a x
        · exact .inr (w.fr.back x)
    · exact (w.ow a y).2.2 (w1.ow a (t1 a z)).1
  refine ⟨SK.frz B H L, ⟨SK.frz B H L, fun _ => False, .refl H, fun a u q => ?_, .refl _, fun _ z => z.elim, fun _ z => .inl z, ?_, rfl, fun a xs e => frz_ex (fun a z => (bn a z).1) a _ (aT a xs e)⟩, fun Γ1 H1 ⟨B1, S1, w1⟩ => ?_, main⟩
  · by_cases z : L a
    · rw [frz_at z] at q; exact q
    · rw [frz_no z] at q; exact w.pu a u q
  · exact RS.fzE (S := L) le0 (fun a u z q => by rw [frz_at z]; exact q) r2
  · obtain ⟨B2, S2, w2⟩ := main .non (.d .non) Γ1 H1 ⟨_, _, w1.pushd .non⟩ rfl
    obtain ⟨_, _, _, _, _, _, w3⟩ := w2.pop
    exact ⟨_, _, w3⟩
/-- all slots are read as data in an expression whose value has no part of them -/
theorem go_lendA (h : ∀ F' B', Go K F' B' te [] (fzE Γ) fun o' _ => o'.lf = true ∧ post o' Γ) : Go K F B0 te T Γ post := fun τ σ H Q ⟨B, S, w⟩ k => by
  obtain ⟨Bf, w0, _, back⟩ := w.lendA
  exact h H Bf [] σ H _ w0 fun v o' Γ1 H1 ⟨lf, hp⟩ how => k v o' Γ H1 hp (back v o' Γ1 H1 how lf)
theorem got_lendA (h : ∀ F' B', GoT K F' B' tt [] (fzE Γ) fun b _ => postt b Γ) : GoT K F B0 tt T Γ postt := fun τ σ H Q ⟨B, S, w⟩ k => by
  obtain ⟨Bf, w0, back, _⟩ := w.lendA
  exact h H Bf [] σ H _ w0 fun b Γ1 H1 hp how => k b Γ H1 hp (back Γ1 H1 how)
end
def frO : Option O → Option O
  | none => none
  | some o => some (.d o.fz)
theorem fzE_cons {x : Option O} {r : En} : fzE (x :: r) = frO x :: fzE r := by cases x <;> rfl
theorem fzE_nil : fzE [] = [] := rfl
theorem frO_none : frO none = none := rfl
theorem frO_some {o : O} : frO (some o) = some (.d o.fz) := rfl
def tLendE (t : TE) : TE := t
def tLendT (t : TT) : TT := t
theorem pe_lend {X : Cx} {e : Expr} {t : TE} (h : PE X e t) : PE X e (tLendE t) := h
theorem pt_lend {X : Cx} {e : Expr} {t : TT} (h : PT X e t) : PT X e (tLendT t) := h
section
variable {K : PySem.W.Frag} {F B0 : Hp} {T : List O} {Γ : En} {te : TE} {tt : TT} {post : O → En → Prop} {postt : Bool → En → Prop}
theorem go_lend' (h : ∀ F' B', Go K F' B' te [] (fzE Γ) fun o' _ => o'.lf = true ∧ post o' Γ) : Go K F B0 (tLendE te) T Γ post := go_lendA h
theorem got_lend' (h : ∀ F' B', GoT K F' B' tt [] (fzE Γ) fun b _ => postt b Γ) : GoT K F B0 (tLendT tt) T Γ postt := got_lendA h
end
section
variable {K : PySem.W.Frag} {F B0 H B : Hp} {τ : List V} {T : List O} {σ : L2.St} {Γ : En} {S : Ad} {o : O} {i : Nat} {te : TE} {ta : TA} {post : O → En → Prop} {posts : List O → En → Prop} {Dd : EG}
/-- arguments that stay what they are -/
def GoAO (K : PySem.W.Frag) (F B0 : Hp) (t : TA) (T : List O) (Γ : En) (post : List O → En → Prop) : Prop := ∀ (τ : List V) (σ : L2.St) (H : Hp) (Q : List V → Hp → Prop), Ho K F B0 τ T σ Γ H →
  (∀ vs xs Γ' H', post xs Γ' → Ho K F B0 (vs.reverse ++ τ) (xs.reverse ++ T) σ Γ' H' → vs.length = xs.length → Q vs H') → t σ H Q
theorem goao_nil (h : posts [] Γ) : GoAO K F B0 tNil T Γ posts := fun τ σ H Q hw k => k [] [] Γ H h hw rfl
theorem goao_cons {tr : TA} (h : Go K F B0 te T Γ fun o1 Γ1 => GoAO K F B0 tr (o1 :: T) Γ1 fun xs Γ2 => posts (o1 :: xs) Γ2) : GoAO K F B0 (tCons te tr) T Γ posts := fun τ σ H Q hw k =>
  h τ σ H _ hw fun v1 o1 Γ1 H1 h1 w1 => by
    refine h1 _ σ H1 _ w1 fun vs xs Γ2 H2 h2 w2 hl => ?_
    refine k (v1 :: vs) (o1 :: xs) Γ2 H2 h2 ?_ (by simp [hl])
    simpa using w2
theorem RS.rev : ∀ {σ : List V} {Γ : List O} {S : Ad}, RS K B H S (σ.map some) (Γ.map some) → RS K B H S (σ.reverse.map some) (Γ.reverse.map some)
  | [], [], _, _ => .nil
  | v :: σ, o :: Γ, S, .cons (S1 := T1) (S2 := T2) s1 s2 d r t => by
    rw [List.reverse_cons, List.reverse_cons, List.map_append, List.map_append]
    exact (RS.snoc r t.rev fun b z y => d b y z).tr (.refl B) (fun b z => z.elim (s2 b) (s1 b)) fun _ _ _ e => e
theorem HW.pack {vs : List V} {xs : List O} {p : Addr} {c : HO} (w : HW K F B0 (vs.reverse ++ τ) (xs.reverse ++ T) σ Γ H B S) (hl : vs.length = xs.length) (hp : H p = none) :
    (∃ S', HW K F B0 (.ref p :: τ) (.ol xs :: T) σ Γ (upd H p (.lst vs)) B S') ∧ ∃ S', HW K F B0 (.ref p :: τ) (.op xs :: T) σ Γ (upd H p (.tup vs)) (upd B p (.tup vs)) S' := by
  have rs0 := w.rs
  rw [List.map_append, List.map_append, List.append_assoc, List.append_assoc] at rs0
  obtain ⟨S1, S2, a1, a2, a3, r1, r2⟩ := RS.split (σ0 := vs.reverse.map some) (Γ0 := xs.reverse.map some) (by simp [hl]) rs0
  have r1 := r1.rev
  rw [List.reverse_reverse, List.reverse_reverse] at r1
  have nq : ∀ b, S b → b ≠ p := fun b z e => (w.ow b z).2.2 (e ▸ hp)
  have bp : B p = none := w.pu.back hp
  have lt2 : τ.length = T.length := by have := w.lt; simp [hl] at this; exact this
  constructor
  · have ex : Ex H (upd H p (.lst vs)) := .new hp
    refine ⟨fun b => b = p ∨ S b, w.fr.trans ex, fun a u e => ex a u (w.pu a u e), w.b0, fun b z => ?_, w.nw,
      .cons (S1 := fun b => b = p ∨ S1 b) (S2 := S2) (fun b z => z.imp id (a1 b)) (fun b z => .inr (a2 b z)) (fun b z y => ?_)
        (.ol (S' := S1) (.inl rfl) (fun b z => .inr z) (fun z => nq p (a1 p z) rfl) upd_same (r1.tr (.refl B) (fun _ z => z) fun b u _ e => ex b u e))
        (r2.tr (.refl B) (fun _ z => z) fun b u _ e => ex b u e), by simp [lt2], w.tp⟩
    · rcases z with rfl | z
      · exact ⟨w.fr.back hp, bp, by rw [upd_same]; simp⟩
      · obtain ⟨q1, q2, q3⟩ := w.ow b z
        exact ⟨q1, q2, fun q => q3 (ex.back q)⟩
    · rcases z with rfl | z
      · exact nq b (a2 b y) rfl
      · exact a3 b z y
  · have ex : Ex H (upd H p (.tup vs)) := .new hp
    have exB : Ex B (upd B p (.tup vs)) := .new bp
    refine ⟨S, w.fr.trans ex, fun a u e => ?_, w.b0.trans (.of_ex exB), fun b z => ?_, fun b z => ?_,
      .cons (S1 := S1) (S2 := S2) a1 a2 a3
        (.op (SqT.of upd_same) (r1.tr (.of_ex exB) (fun _ z => z) fun b u _ e => ex b u e))
        (r2.tr (.of_ex exB) (fun _ z => z) fun b u _ e => ex b u e), by simp [lt2], w.tp⟩
    · by_cases q : a = p
      · subst q; rw [upd_same] at e ⊢; exact e
      · rw [upd_ne q] at e ⊢; exact w.pu a u e
    · obtain ⟨q1, q2, q3⟩ := w.ow b z
      exact ⟨q1, by rw [upd_ne (nq b z)]; exact q2, fun q => q3 (ex.back q)⟩
    · by_cases q : b = p
      · subst q; exact .inr (w.fr.back hp)
      · rw [upd_ne q] at z; exact w.nw b z
/-- (e, ..), its parts its own -/
theorem go_tupO (h : GoAO K F B0 ta T Γ fun xs Γ1 => xs.length ≤ 1000 ∧ post (.op xs) Γ1) : Go K F B0 (tTup ta) T Γ post := fun τ σ H Q hw k =>
  h τ σ H _ hw fun vs xs Γ1 H1 ⟨hz, h1⟩ ⟨_, _, w1⟩ hl => by
    refine ⟨Nat.le_trans (by rw [hl]; exact hz) (by decide), fun p hp => ?_⟩
    obtain ⟨_, S2, w⟩ := w1.pack (c := .lst []) hl hp
    exact k _ _ _ _ h1 ⟨_, _, w⟩
/-- [e, ..], its parts its own -/
theorem go_lstO (h : GoAO K F B0 ta T Γ fun xs Γ1 => xs.length ≤ 1000 ∧ post (.ol xs) Γ1) : Go K F B0 (tLst ta) T Γ post := fun τ σ H Q hw k =>
  h τ σ H _ hw fun vs xs Γ1 H1 ⟨hz, h1⟩ ⟨_, _, w1⟩ hl => by
    refine ⟨Nat.le_trans (by rw [hl]; exact hz) (by decide), fun p hp => ?_⟩
    obtain ⟨⟨S2, w⟩, _⟩ := w1.pack (c := .lst []) hl hp
    exact k _ _ _ _ h1 ⟨_, _, w⟩
/-- a raise that is never reached -/
theorem gos_raise0 {C : Addr} (h : False) : GoS K F B0 (tRaise (fun _ _ _ _ => False) C) T Γ Dd := h.elim
def tTupO (t : TA) : TE := tTup t
def tLstO (t : TA) : TE := tLst t
theorem pe_lstO {X : Cx} {ta : TA} {e : Expr} (h : PE X e (tLst ta)) : PE X e (tLstO ta) := h
theorem go_tupO' (h : GoAO K F B0 ta T Γ fun xs Γ1 => xs.length ≤ 1000 ∧ post (.op xs) Γ1) : Go K F B0 (tTupO ta) T Γ post := go_tupO h
theorem go_lstO' (h : GoAO K F B0 ta T Γ fun xs Γ1 => xs.length ≤ 1000 ∧ post (.ol xs) Γ1) : Go K F B0 (tLstO ta) T Γ post := go_lstO h
/-- t[k].clear(), t a name of a tuple whose list is its own -/
theorem gos_clearT {n : Int} (k : Nat) {xs : List O} {ys : List O} (e0 : Γ[i]? = some (some (.op xs))) (hk : xs[k]? = some (.ol ys)) (hn : n = (k : Int))
    (h : Dd.nx (Γ.set i (some (.op (xs.set k (.ol [])))))) :
    GoS K F B0 (tDrop (tBM0 K "list" rClear (tOp (rIxG K) (tVar i) (tC (.int n))))) T Γ Dd := fun τ σ H De hw s => by
  obtain ⟨B, S, w⟩ := hw
  obtain ⟨v, S1, a1, r1, _, f⟩ := w.mut1 e0
  cases r1 with
  | @op _ a vs _ hc rs =>
  have hk2 : (xs.map some)[k]? = some (some (.ol ys)) := by rw [List.getElem?_map, hk]; rfl
  obtain ⟨u, U1, U2, c1, c2, c3, c4, ru, g⟩ := rs.focus hk2
  cases ru with
  | @ol _ U4 b us _ hb hbs hbn hbc brs =>
  have hvk : vs[k]? = some (.ref b) := by
    rw [List.getElem?_map] at c1
    cases q : vs[k]? with
    | none => rw [q] at c1; cases c1
    | some x => rw [q] at c1; cases c1; rfl
  subst hn
  have hat : atI vs (k : Int) = some (.ref b) := by
    unfold atI ixN
    have hlt := (List.getElem?_eq_some_iff.mp hvk).1
    rw [if_pos (by omega), if_pos (by omega)]
    exact hvk
  have rs2 := g B (upd H b (.lst [])) U1 (some (.ref b)) (some (.ol [])) (.refl B) (fun c u z e => by
    have hne : c ≠ b := fun q => by
      rw [q] at z
      exact c4 b hb z
    rw [upd_ne hne]; exact e) c4 (fun x q => by
    cases q
    exact ⟨.ref b, rfl, .ol (S' := fun _ => False) hb (fun _ z => z.elim) id upd_same .nil⟩)
  rw [set_same c1, ← List.map_set] at rs2
  obtain ⟨S', w3⟩ := f b (.lst []) (.op (xs.set k (.ol []))) (c2 b hb) (.op hc (rs2.tr (.refl B) (fun c z => z.elim (c2 c) (c3 c)) fun _ _ _ e => e))
  have hcH : L2.SqT K H a vs := w.pu.sqT hc
  exact ⟨.ref a, a1, .inl (.inr (.inl ⟨a, vs, (k : Int), .ref b, rfl, rfl, hcH, hat, Or.inl ⟨rfl, us, SqL.of hbc⟩, b, us, rfl, rfl, hbc, s.nx σ _ _ h ⟨B, S', w3⟩⟩))⟩
end
end SK
namespace SK
open PySem PySem.Spec PyProof.Rows L2
def Dk (u : HO) : Prop := (∃ ws, u = .dK ws) ∨ ∃ ws, u = .dT ws
section
variable {K : PySem.W.Frag} {F B0 H B : Hp} {τ : List V} {T : List O} {σ : L2.St} {Γ : En} {S : Ad} {d : Addr} {od : Obj} {u : HO}
theorem Rd.of_plain {B : Hp} {a : Addr} {u y : HO} (e : B a = some u) (nf : ∀ o z, u ≠ .frz o z) (h : Rd B a y) : u = y := by
  rcases h with h | ⟨o, h⟩
  · rw [e] at h; cases h; rfl
  · rw [e] at h; cases h; exact absurd rfl (nf _ _)
theorem Rd.of_frz {B : Hp} {a : Addr} {u y : HO} {od : Obj} (e : B a = some (.frz od u)) (nf : ∀ o z, y ≠ .frz o z) (h : Rd B a y) : u = y := by
  rcases h with h | ⟨o, h⟩
  · rw [e] at h; cases h; exact absurd rfl (nf _ _)
  · rw [e] at h; cases h; rfl
theorem Dk.nf (h : Dk u) : ∀ o z, u ≠ .frz o z := fun o z e => by
  subst e
  rcases h with ⟨_, h⟩ | ⟨_, h⟩ <;> cases h
theorem BLe.lock (hb : B d = some u) (hu : Dk u) : BLe B (upd B d (.frz od u)) := by
  have oth : ∀ {a : Addr} {y : HO}, a ≠ d → Rd B a y → Rd (upd B d (.frz od u)) a y := fun n h => by
    rcases h with h | ⟨o, h⟩
    · exact .inl (by rw [upd_ne n]; exact h)
    · exact .inr ⟨o, by rw [upd_ne n]; exact h⟩
  have same : ∀ {y : HO}, Rd B d y → Rd (upd B d (.frz od u)) d y := fun h => by
    obtain rfl := Rd.of_plain hb hu.nf h
    exact .inr ⟨od, upd_same⟩
  have rd : ∀ {a : Addr} {y : HO}, Rd B a y → Rd (upd B d (.frz od u)) a y := fun {a y} h => by
    by_cases q : a = d
    · subst q; exact same h
    · exact oth q h
  refine ⟨fun a xs h => ?_, fun a xs h => rd h, fun a xs h => rd h, fun a xs h => ?_, fun a xs h => rd h, fun a xs h => rd h, fun a C dx fs h => ?_⟩
  · by_cases q : a = d
    · subst q; rw [hb] at h; cases h; rcases hu with ⟨_, e⟩ | ⟨_, e⟩ <;> cases e
    · rw [upd_ne q]; exact h
  · by_cases q : a = d
    · subst q; rw [hb] at h; cases h; rcases hu with ⟨_, e⟩ | ⟨_, e⟩ <;> cases e
    · rw [upd_ne q]; exact h
  · by_cases q : a = d
    · subst q; rw [hb] at h; cases h; rcases hu with ⟨_, e⟩ | ⟨_, e⟩ <;> cases e
    · rw [upd_ne q]; exact h
theorem BLe.unlock (hb : B d = some (.frz od u)) (hu : Dk u) : BLe B (upd B d u) := by
  have oth : ∀ {a : Addr} {y : HO}, a ≠ d → Rd B a y → Rd (upd B d u) a y := fun n h => by
    rcases h with h | ⟨o, h⟩
    · exact .inl (by rw [upd_ne n]; exact h)
    · exact .inr ⟨o, by rw [upd_ne n]; exact h⟩
  have rd : ∀ {a : Addr} {y : HO}, (∀ o z, y ≠ .frz o z) → Rd B a y → Rd (upd B d u) a y := fun {a y} nf h => by
    by_cases q : a = d
    · subst q
      obtain rfl := Rd.of_frz hb nf h
      exact .inl upd_same
    · exact oth q h
  refine ⟨fun a xs h => ?_, fun a xs h => rd (fun _ _ e => by cases e) h, fun a xs h => rd (fun _ _ e => by cases e) h, fun a xs h => ?_, fun a xs h => rd (fun _ _ e => by cases e) h, fun a xs h => rd (fun _ _ e => by cases e) h, fun a C dx fs h => ?_⟩
  · by_cases q : a = d
    · subst q; rw [hb] at h; cases h
    · rw [upd_ne q]; exact h
  · by_cases q : a = d
    · subst q; rw [hb] at h; cases h
    · rw [upd_ne q]; exact h
  · by_cases q : a = d
    · subst q; rw [hb] at h; cases h
    · rw [upd_ne q]; exact h
/-- a pure dict is locked for a while -/
theorem HW.lock (w : HW K F B0 τ T σ Γ H B S) (hb : B d = some u) (hu : Dk u) (od : Obj) :
    HW K (upd F d (.frz od u)) (upd B d (.frz od u)) τ T σ Γ (upd H d (.frz od u)) (upd B d (.frz od u)) S ∧
    ∀ τ1 T1 σ1 Γ1 H1, Ho K (upd F d (.frz od u)) (upd B d (.frz od u)) τ1 T1 σ1 Γ1 H1 → H1 d = some (.frz od u) ∧ Ho K F B0 τ1 T1 σ1 Γ1 (upd H1 d u) := by
  have nd : ¬ S d := fun z => by have := (w.ow d z).2.1; rw [hb] at this; cases this
  have hne : ∀ a, S a → a ≠ d := fun a z e => nd (e ▸ z)
  constructor
  · refine ⟨fun a x e => ?_, fun a x e => ?_, .refl _, fun a z => ?_, fun a z => .inl z, w.rs.tr (.lock hb hu) (fun _ z => z) fun a x z e => by rw [upd_ne (hne a z)]; exact e, w.lt, fun a xs e => by
      by_cases q : a = d
      · subst q; rw [upd_same] at e; cases e
      · rw [upd_ne q] at e ⊢; exact w.b0.te a xs (w.tp a xs e)⟩
    · by_cases q : a = d
      · subst q; rw [upd_same] at e ⊢; exact e
      · rw [upd_ne q] at e ⊢; exact w.fr a x e
    · by_cases q : a = d
      · subst q; rw [upd_same] at e ⊢; exact e
      · rw [upd_ne q] at e ⊢; exact w.pu a x e
    · rw [upd_ne (hne a z), upd_ne (hne a z), upd_ne (hne a z)]; exact w.ow a z
  · intro τ1 T1 σ1 Γ1 H1 ⟨B1, S1, w1⟩
    have e1 : H1 d = some (.frz od u) := w1.fr d _ upd_same
    have rb : ∃ y, B1 d = some y := by
      rcases hu with ⟨ws, rfl⟩ | ⟨ws, rfl⟩
      · rcases w1.b0.dK d ws (.inr ⟨od, upd_same⟩) with h | ⟨o, h⟩ <;> exact ⟨_, h⟩
      · rcases w1.b0.dT d ws (.inr ⟨od, upd_same⟩) with h | ⟨o, h⟩ <;> exact ⟨_, h⟩
    have eB : B1 d = some (.frz od u) := by
      obtain ⟨y, hy⟩ := rb
      have := w1.pu d y hy
      rw [e1] at this
      cases this; exact hy
    have nd1 : ∀ a, S1 a → a ≠ d := fun a z e => by
      have := (w1.ow a z).2.1
      rw [e, eB] at this; cases this
    refine ⟨e1, upd B1 d u, S1, fun a x e => ?_, fun a x e => ?_, w.b0.trans ((BLe.lock hb hu).trans (w1.b0.trans (.unlock eB hu))), fun a z => ?_, fun a z => ?_, w1.rs.tr (.unlock eB hu) (fun _ z => z) fun a x z e => by rw [upd_ne (nd1 a z)]; exact e, w1.lt, w.tp⟩
    · by_cases q : a = d
      · subst q
        have h1 := w.fr a x e
        have h2 := w.pu a u hb
        rw [h1] at h2; cases h2
        exact upd_same
      · rw [upd_ne q]; exact w1.fr a x (by rw [upd_ne q]; exact e)
    · by_cases q : a = d
      · subst q; rw [upd_same] at e ⊢; exact e
      · rw [upd_ne q] at e ⊢; exact w1.pu a x e
    · obtain ⟨q1, q2, q3⟩ := w1.ow a z
      have n := nd1 a z
      rw [upd_ne n] at q1
      rw [upd_ne n, upd_ne n]
      exact ⟨q1, q2, q3⟩
    · by_cases q : a = d
      · subst q; exact w.nw a (by rw [hb]; simp)
      · rw [upd_ne q] at z
        rcases w1.nw a z with h | h
        · rw [upd_ne q] at h; exact w.nw a h
        · rw [upd_ne q] at h; exact .inr h
/-- .. that is locked already -/
theorem HW.locked (w : HW K F B0 τ T σ Γ H B S) (hb : B d = some (.frz od u)) :
    HW K (upd F d (.frz od u)) B τ T σ Γ H B S ∧
    ∀ τ1 T1 σ1 Γ1 H1, Ho K (upd F d (.frz od u)) B τ1 T1 σ1 Γ1 H1 → Ho K F B0 τ1 T1 σ1 Γ1 H1 := by
  have nd : ¬ S d := fun z => by have := (w.ow d z).2.1; rw [hb] at this; cases this
  have hne : ∀ a, S a → a ≠ d := fun a z e => nd (e ▸ z)
  have hH := w.pu d _ hb
  constructor
  · refine ⟨fun a x e => ?_, w.pu, .refl _, fun a z => ?_, fun a z => .inl z, w.rs, w.lt, fun a xs e => by
      by_cases q : a = d
      · subst q; rw [upd_same] at e; cases e
      · rw [upd_ne q] at e; exact w.b0.te a xs (w.tp a xs e)⟩
    · by_cases q : a = d
      · subst q; rw [upd_same] at e; cases e; exact hH
      · rw [upd_ne q] at e; exact w.fr a x e
    · rw [upd_ne (hne a z)]; exact w.ow a z
  · intro τ1 T1 σ1 Γ1 H1 ⟨B1, S1, w1⟩
    refine ⟨B1, S1, fun a x e => ?_, w1.pu, w.b0.trans w1.b0, fun a z => ?_, fun a z => ?_, w1.rs, w1.lt, w.tp⟩
    · by_cases q : a = d
      · subst q
        have h1 := w.fr a x e
        rw [hH] at h1; cases h1
        exact w1.fr a _ upd_same
      · exact w1.fr a x (by rw [upd_ne q]; exact e)
    · obtain ⟨q1, q2, q3⟩ := w1.ow a z
      refine ⟨?_, q2, q3⟩
      by_cases q : a = d
      · subst q; rw [upd_same] at q1; cases q1
      · rw [upd_ne q] at q1; exact q1
    · rcases w1.nw a z with h | h
      · exact w.nw a h
      · by_cases q : a = d
        · subst q; rw [upd_same] at h; cases h
        · rw [upd_ne q] at h; exact .inr h
end
section
variable {K : PySem.W.Frag} {F B0 H B : Hp} {τ τs : List V} {T : List O} {σ : L2.St} {Γ Γ1 : En} {S : Ad} {i : Nat} {Dd : EG} {g : TG} {tb : TS} {De : Ends}
theorem for_core {J : It} {hs ds : List D} (Iv : Nat → En → Prop) (h0 : Iv 0 Γ1)
    (hst : ∀ i d Γ', ds[i]? = some d → Iv i Γ' → GoG K F B0 g (.d d) (hs.map O.d ++ T) Γ' fun Γ2 => GoS K F B0 tb (hs.map O.d ++ T) Γ2 { nx := Iv (i + 1), rt := Dd.rt, bk := Dd.nx, ct := Iv (i + 1) })
    (hd : ∀ Γ', Iv ds.length Γ' → Dd.nx Γ') (w1 : Ho K F B0 (τs ++ τ) (hs.map O.d ++ T) σ Γ1 H) (hl : τs.length = hs.length) (it : Iter K F B0 J τs hs ds) (s : Sat K F B0 τ T De Dd) :
    ∃ W : Nat → Nat → L2.St → Hp → Prop, (∃ m, W 0 m σ H) ∧ ∀ i m σ H, W i m σ H →
      (J.stop i H ∧ De.nx σ H) ∨ (J.go i H ∧ ∃ N : L2.St → Hp → Prop, (∀ σ' H', N σ' H' → ∃ m', m' < m ∧ W (i + 1) m' σ' H') ∧ ∀ x H', J.yld i H x H' → g x σ H' fun σ2 H2 => tb { De with nx := N, ct := N, bk := De.nx } σ2 H2) := by
  have hl' : τs.length = (hs.map O.d).length := by simp [hl]
  refine ⟨fun i m σ' H' => m = ds.length - i ∧ i ≤ ds.length ∧ ∃ Γ', Iv i Γ' ∧ Ho K F B0 (τs ++ τ) (hs.map O.d ++ T) σ' Γ' H', ⟨ds.length, by simp, Nat.zero_le _, Γ1, h0, w1⟩, ?_⟩
  rintro i m σ' H' ⟨rfl, hi, Γ', p, B', S', w⟩
  obtain ⟨q1, q2⟩ := it _ _ σ' Γ' H' B' S' w (w.held hl)
  by_cases hlt : i < ds.length
  · obtain ⟨q3, q4⟩ := q2 i ds[i] (by simp [hlt])
    refine .inr ⟨q3, fun σ2 H2 => ∃ Γ2, Iv (i + 1) Γ2 ∧ Ho K F B0 (τs ++ τ) (hs.map O.d ++ T) σ2 Γ2 H2, fun σ2 H2 z => ⟨ds.length - (i + 1), by omega, rfl, hlt, z⟩, fun x H2 y => ?_⟩
    obtain ⟨B2, S2, w2⟩ := q4 x H2 y
    refine hst i ds[i] Γ' (by simp [hlt]) p (τs ++ τ) σ' H2 x _ ⟨B2, S2, w2⟩ fun σ3 Γ3 H3 h3 w3 => h3 _ σ3 H3 _ w3 ⟨fun σ4 Γ4 H4 z w4 => ⟨Γ4, z, w4⟩, fun v o σ4 Γ4 H4 z ⟨B4, S4, w4⟩ => s.rt v o σ4 Γ4 H4 z ⟨B4, S4, w4.under hl'⟩,
      fun σ4 Γ4 H4 z ⟨B4, S4, w4⟩ => ?_, fun σ4 Γ4 H4 z w4 => ⟨Γ4, z, w4⟩⟩
    obtain ⟨S5, w5⟩ := w4.drop hl'
    exact s.nx σ4 Γ4 H4 z ⟨B4, S5, w5⟩
  · have e : i = ds.length := by omega
    subst e
    obtain ⟨S5, w5⟩ := w.drop hl'
    exact .inl ⟨q1, s.nx σ' Γ' H' (hd Γ' p) ⟨B', S5, w5⟩⟩
def tLockG (t : TS) : TS := fun D σ H => tLock t D σ H ∨ t D σ H
theorem ps_lockG {X : Cx} {st : Stmt} {t : TS} (h : PS X st t) : PS X st (tLockG t) := by
  refine ⟨fun pins s σ H D I hw => ?_⟩
  rcases hw with hw | hw
  · exact (ps_lock h).run pins s σ H D I hw
  · exact h.run pins s σ H D I hw
theorem RK.at {B : Hp} {i : Nat} : ∀ {ws : List (Key × V)} {kvs : List (Key × D)} {k : Key} {x : D}, RK K B ws kvs → kvs[i]? = some (k, x) → ∃ v, ws[i]? = some (k, v) ∧ R K B v x := by
  induction i with
  | zero =>
    intro ws kvs k x r h
    cases r with
    | nil => simp at h
    | cons r t => simp at h; obtain ⟨rfl, rfl⟩ := h; exact ⟨_, rfl, r⟩
  | succ i ih =>
    intro ws kvs k x r h
    cases r with
    | nil => simp at h
    | cons r t =>
      obtain ⟨v, a, b⟩ := ih t (by simpa using h)
      exact ⟨v, by simpa using a, b⟩
theorem R.ofKey {B : Hp} : ∀ k : Key, R K B (L2.kV k) (kD k)
  | .inl _ => .int
  | .inr _ => .str
theorem gos_sLG {t1 t2 : TS} (h : GoS K F B0 (tLockG t1) T Γ { Dd with nx := fun Γ1 => GoS K F B0 t2 T Γ1 Dd }) : GoS K F B0 (tSeq (tLockG t1) t2) T Γ Dd := gos_seq h
end
end SK
namespace SK
theorem lf_mapI : ∀ ns : List Int, lfL (ns.map D.int) = true
  | [] => rfl
  | n :: ns => lf_mapI ns
end SK
namespace SK
open PySem PySem.Spec PyProof.Rows L2
inductive Sel where
  | fld (f : Str) | key (k : Key) | idx (n : Nat) | un
def kval {α : Type} (kvs : List (Key × α)) (k : Key) : Option α := (kvs.find? fun kv => decide (kv.1 = k)).map (·.2)
def O.get1 : O → Sel → Option O
  | .oi _ _ fs, .fld f => fs.lookup f
  | .od kvs, .key k => kval kvs k
  | .ol xs, .idx n => xs[n]?
  | .op xs, .idx n => xs[n]?
  | .atA _ o, .un => some o
  | .atA _ o, s => o.get1 s
  | _, _ => none
def O.set1 : O → O → Sel → O
  | .oi a C fs, y, .fld f => .oi a C (SK.fput f y fs)
  | .od kvs, y, .key k => .od (SK.dput kvs k y)
  | .ol xs, y, .idx n => .ol (xs.set n y)
  | .op xs, y, .idx n => .op (xs.set n y)
  | .atA a _, y, .un => .atA a y
  | .atA a o, y, s => .atA a (o.set1 y s)
  | o, _, _ => o
def O.getP : O → List Sel → Option O
  | o, [] => some o
  | o, s :: p => match o.get1 s with
    | some u => u.getP p
    | none => none
def O.setP : O → O → List Sel → O
  | _, y, [] => y
  | o, y, s :: p => match o.get1 s with
    | some u => o.set1 (u.setP y p) s
    | none => o
def okS (K : PySem.W.Frag) : O → Sel → Prop
  | .oi _ C _, .fld f => Cls K C ∧ NoAttr K C f
  | .atA _ _, .un => True
  | .atA _ o, s => okS K o s
  | .op _, _ => False
  | _, .fld _ => False
  | _, _ => True
def okPth (K : PySem.W.Frag) : O → List Sel → Prop
  | _, [] => True
  | o, s :: p => okS K o s ∧ match o.get1 s with
    | some u => okPth K u p
    | none => False
def Stp (K : PySem.W.Frag) (H : Hp) (v : V) (s : Sel) (v' : V) : Prop := match s with
  | .fld f => ∃ a C dx ws, v = .ref a ∧ H a = some (.ins C dx ws) ∧ Cls K C ∧ NoAttr K C f ∧ ws.lookup f = some v'
  | .key k => ∃ a ws, v = .ref a ∧ Rd H a (.dK ws) ∧ valV ws k = some v'
  | .idx n => ∃ a vs, v = .ref a ∧ H a = some (.lst vs) ∧ vs[n]? = some v'
  | .un => v' = v
def Wlk (K : PySem.W.Frag) (H : Hp) : V → List Sel → V → Prop
  | v, [], w => v = w
  | v, s :: p, w => ∃ u, Stp K H v s u ∧ Wlk K H u p w
section
variable {K : PySem.W.Frag} {B H H' : Hp} {S : Ad} {v w : V} {o o1 : O}
theorem Stp.ex (e : Ex H H') {s : Sel} (h : Stp K H v s w) : Stp K H' v s w := by
  cases s with
  | fld f => obtain ⟨a, C, dx, ws, q1, q2, q3⟩ := h; exact ⟨a, C, dx, ws, q1, e _ _ q2, q3⟩
  | key k => obtain ⟨a, ws, q1, q2, q3⟩ := h; exact ⟨a, ws, q1, e.rd q2, q3⟩
  | idx n => obtain ⟨a, vs, q1, q2, q3⟩ := h; exact ⟨a, vs, q1, e _ _ q2, q3⟩
  | un => exact h
theorem Wlk.ex (e : Ex H H') : ∀ {p : List Sel} {v w : V}, Wlk K H v p w → Wlk K H' v p w
  | [], _, _, h => h
  | _ :: _, _, _, ⟨u, h1, h2⟩ => ⟨u, h1.ex e, Wlk.ex e h2⟩
theorem Wlk.snoc : ∀ {p : List Sel} {v u w : V} {s : Sel}, Wlk K H v p u → Stp K H u s w → Wlk K H v (p ++ [s]) w
  | [], v, u, w, s, h, h2 => by cases h; exact ⟨w, h2, rfl⟩
  | _ :: _, _, _, _, _, ⟨x, h1, h3⟩, h2 => ⟨x, h1, Wlk.snoc h3 h2⟩
theorem look2 : ∀ {ws : List (Str × V)} {fs : List (Str × O)} {f : Str} {o : O}, ws.map (·.1) = fs.map (·.1) → fs.lookup f = some o → ∃ (i : Nat) (u : V), fs[i]? = some (f, o) ∧ ws[i]? = some (f, u) ∧ ws.lookup f = some u ∧ ∀ y, SK.fput f y fs = fs.set i (f, y)
  | [], [], _, _, _, h => by simp at h
  | (g, x) :: ws, (g', y) :: fs, f, o, e, h => by
    simp only [List.map_cons, List.cons.injEq] at e
    obtain ⟨rfl, e⟩ := e
    rw [List.lookup_cons] at h
    cases q : f == g with
    | true =>
      rw [q] at h
      cases h
      have : f = g := by simpa using q
      subst this
      exact ⟨0, x, rfl, rfl, by rw [List.lookup_cons, q], fun z => by unfold SK.fput; rw [if_pos rfl]; rfl⟩
    | false =>
      rw [q] at h
      have n : ¬ g = f := fun z => by subst z; simp at q
      obtain ⟨i, u, h1, h2, h3, h4⟩ := look2 e h
      exact ⟨i + 1, u, by simpa using h1, by simpa using h2, by rw [List.lookup_cons, q]; exact h3, fun z => by unfold SK.fput; rw [if_neg n, h4 z]; rfl⟩
theorem kval_mem {α : Type} {k : Key} {x : α} {kvs : List (Key × α)} (h : kval kvs k = some x) : ∃ i : Nat, kvs[i]? = some (k, x) := by
  induction kvs with
  | nil => cases h
  | cons p r ih =>
    unfold kval at h
    rw [List.find?_cons] at h
    by_cases e : p.1 = k
    · rw [decide_eq_true e] at h
      cases h
      exact ⟨0, by rw [← e]; rfl⟩
    · rw [decide_eq_false e] at h
      obtain ⟨i, hi⟩ := ih h
      exact ⟨i + 1, by simpa using hi⟩
theorem kval2 : ∀ {ws : List (Key × V)} {kvs : List (Key × O)} {k : Key} {o : O}, (kvs.map (·.1)).Nodup → ws.map (·.1) = kvs.map (·.1) → kval kvs k = some o → ∃ (i : Nat) (u : V), kvs[i]? = some (k, o) ∧ ws[i]? = some (k, u) ∧ valV ws k = some u ∧ ∀ y, SK.dput kvs k y = kvs.set i (k, y)
  | [], [], _, _, _, _, h => by cases h
  | (g, x) :: ws, (g', y) :: kvs, k, o, nd, e, h => by
    simp only [List.map_cons, List.cons.injEq] at e
    obtain ⟨rfl, e⟩ := e
    simp only [List.map_cons, List.nodup_cons] at nd
    by_cases q : g = k
    · subst q
      have : y = o := by simpa [kval] using h
      subst this
      refine ⟨0, x, rfl, rfl, valV_pos rfl, fun z => ?_⟩
      unfold SK.dput
      rw [if_pos (by simp), List.map_cons, if_pos rfl, repl_not nd.1]
      rfl
    · have h' : kval kvs k = some o := by simpa [kval, q] using h
      obtain ⟨i, u, h1, h2, h3, h4⟩ := kval2 nd.2 e h'
      refine ⟨i + 1, u, by simpa using h1, by simpa using h2, by rw [valV_neg q]; exact h3, fun z => ?_⟩
      have h5 := h4 z
      have ha : (kvs.any fun kv => decide (kv.1 = k)) = true := List.any_eq_true.mpr ⟨(k, o), List.mem_of_getElem? h1, by simp⟩
      unfold SK.dput at h5 ⊢
      rw [if_pos ha] at h5
      rw [if_pos (by rw [List.any_cons, ha, Bool.or_true]), List.map_cons, if_neg q, h5]
      rfl
theorem set_same' {α : Type} {l : List α} {i : Nat} {x : α} (h : l[i]? = some x) : l.set i x = l := by
  have hl := (List.getElem?_eq_some_iff.mp h).1
  apply List.ext_getElem?
  intro n
  by_cases hn : n = i
  · subst hn; rw [List.getElem?_set_self hl, h]
  · rw [List.getElem?_set_ne (Ne.symm hn)]
theorem RO.focus0 {s : Sel} (nat : ∀ a u, o ≠ .atA a u) (pu : Ex B H) (r : RO K B H S v o) (g : o.get1 s = some o1) (ok : okS K o s) : ∃ (v1 : V) (S1 S2 : Ad), Stp K H v s v1 ∧ (∀ b, S1 b → S b) ∧ (∀ b, S2 b → S b) ∧ (∀ b, S1 b → ¬ S2 b) ∧ RO K B H S1 v1 o1 ∧
    ∀ B' H' S1' y, BLe B B' → (∀ b u, S2 b → H b = some u → H' b = some u) → (∀ b, S1' b → ¬ S2 b) → RO K B' H' S1' v1 y → RO K B' H' (fun b => S1' b ∨ S2 b) v (o.set1 y s) ∧ Stp K H' v s v1 := by
  cases r with
  | d r => cases s <;> cases g
  | ot => cases s <;> cases g
  | @ol _ S4 a vs xs ha hs hn hc rs =>
    cases s with
    | fld f => cases g
    | key k => cases g
    | un => cases g
    | idx n =>
      have g : xs[n]? = some o1 := g
      obtain ⟨u, U1, U2, c1, c2, c3, c4, ru, f⟩ := rs.focus (i := n) (o := o1) (by rw [List.getElem?_map, g]; rfl)
      have hv : vs[n]? = some u := by
        rw [List.getElem?_map] at c1
        cases q : vs[n]? with
        | none => rw [q] at c1; cases c1
        | some x => rw [q] at c1; cases c1; rfl
      refine ⟨u, U1, fun b => b = a ∨ U2 b, ⟨a, vs, rfl, hc, hv⟩, fun b z => hs b (c2 b z), fun b z => z.elim (fun e => e ▸ ha) fun z => hs b (c3 b z), fun b z y => y.elim (fun e => hn (e ▸ c2 b z)) (c4 b z), ru, fun B' H' S1' y eb k dj ry => ?_⟩
      have q := f B' H' S1' (some u) (some y) eb (fun b x z => k b x (.inr z)) (fun b z w => dj b z (.inr w)) (fun x e => by cases e; exact ⟨u, rfl, ry⟩)
      rw [set_same c1, ← List.map_set] at q
      exact ⟨.ol (S' := fun b => S1' b ∨ U2 b) (.inr (.inl rfl)) (fun b z => z.imp id .inr) (fun z => z.elim (fun z => dj a z (.inl rfl)) fun z => hn (c3 a z)) (k a _ (.inl rfl) hc) q, a, vs, rfl, k a _ (.inl rfl) hc, hv⟩
  | @od _ S4 a ws kvs ha hs hn hc nd ek rs =>
    cases s with
    | fld f => cases g
    | idx k => cases g
    | un => cases g
    | key k =>
      have g : kval kvs k = some o1 := g
      obtain ⟨n, u, g1, g2, g3, g4⟩ := kval2 nd ek g
      obtain ⟨u', U1, U2, c1, c2, c3, c4, ru, f⟩ := rs.focus (i := n) (o := o1) (by rw [List.getElem?_map, g1]; rfl)
      have hv : u' = u := by
        rw [List.getElem?_map, g2] at c1
        cases c1; rfl
      subst hv
      refine ⟨u', U1, fun b => b = a ∨ U2 b, ⟨a, ws, rfl, .inl hc, g3⟩, fun b z => hs b (c2 b z), fun b z => z.elim (fun e => e ▸ ha) fun z => hs b (c3 b z), fun b z y => y.elim (fun e => hn (e ▸ c2 b z)) (c4 b z), ru, fun B' H' S1' y eb k' dj ry => ?_⟩
      have q := f B' H' S1' (some u') (some y) eb (fun b x z => k' b x (.inr z)) (fun b z w => dj b z (.inr w)) (fun x e => by cases e; exact ⟨u', rfl, ry⟩)
      have e2 : (kvs.map fun p => some p.2).set n (some y) = (SK.dput kvs k y).map fun p => some p.2 := by rw [g4 y, List.map_set]
      rw [set_same c1, e2] at q
      have e3 : (SK.dput kvs k y).map (·.1) = kvs.map (·.1) := by
        rw [g4 y, List.map_set]
        exact set_same' (by rw [List.getElem?_map, g1]; rfl)
      exact ⟨.od (S' := fun b => S1' b ∨ U2 b) (.inr (.inl rfl)) (fun b z => z.imp id .inr) (fun z => z.elim (fun z => dj a z (.inl rfl)) fun z => hn (c3 a z)) (k' a _ (.inl rfl) hc) (by rw [e3]; exact nd) (by rw [e3]; exact ek) q, a, ws, rfl, .inl (k' a _ (.inl rfl) hc), g3⟩
  | @oi _ S4 a dx C ws kvs ha hd hs hn hn2 ne hc hcd ek rs =>
    cases s with
    | key k => cases g
    | idx k => cases g
    | un => cases g
    | fld fl =>
      have g : kvs.lookup fl = some o1 := g
      obtain ⟨n, u, g1, g2, g3, g4⟩ := look2 ek g
      obtain ⟨u', U1, U2, c1, c2, c3, c4, ru, f⟩ := rs.focus (i := n) (o := o1) (by rw [List.getElem?_map, g1]; rfl)
      have hv : u' = u := by
        rw [List.getElem?_map, g2] at c1
        cases c1; rfl
      subst hv
      refine ⟨u', U1, fun b => (b = a ∨ b = dx) ∨ U2 b, ⟨a, C, dx, ws, rfl, hc, ok.1, ok.2, g3⟩, fun b z => hs b (c2 b z), fun b z => z.elim (fun e => e.elim (fun e => e ▸ ha) fun e => e ▸ hd) fun z => hs b (c3 b z),
        fun b z y => y.elim (fun e => e.elim (fun e => hn (e ▸ c2 b z)) fun e => hn2 (e ▸ c2 b z)) (c4 b z), ru, fun B' H' S1' y eb k' dj ry => ?_⟩
      have q := f B' H' S1' (some u') (some y) eb (fun b x z => k' b x (.inr z)) (fun b z w => dj b z (.inr w)) (fun x e => by cases e; exact ⟨u', rfl, ry⟩)
      have e2 : (kvs.map fun p => some p.2).set n (some y) = (SK.fput fl y kvs).map fun p => some p.2 := by rw [g4 y, List.map_set]
      rw [set_same c1, e2] at q
      have e3 : (SK.fput fl y kvs).map (·.1) = kvs.map (·.1) := by
        rw [g4 y, List.map_set]
        exact set_same' (by rw [List.getElem?_map, g1]; rfl)
      exact ⟨.oi (S' := fun b => S1' b ∨ U2 b) (.inr (.inl (.inl rfl))) (.inr (.inl (.inr rfl))) (fun b z => z.imp id .inr) (fun z => z.elim (fun z => dj a z (.inl (.inl rfl))) fun z => hn (c3 a z)) (fun z => z.elim (fun z => dj dx z (.inl (.inr rfl))) fun z => hn2 (c3 dx z)) ne
        (k' a _ (.inl (.inl rfl)) hc) (k' dx _ (.inl (.inr rfl)) hcd) (by rw [e3]; exact ek) q, a, C, dx, ws, rfl, k' a _ (.inl (.inl rfl)) hc, ok.1, ok.2, g3⟩
  | op => exact ok.elim
  | atA => exact absurd rfl (nat _ _)
theorem RO.focus1 {s : Sel} (pu : Ex B H) : ∀ {o : O} {S : Ad} {v : V}, RO K B H S v o → o.get1 s = some o1 → okS K o s → ∃ (v1 : V) (S1 S2 : Ad), Stp K H v s v1 ∧ (∀ b, S1 b → S b) ∧ (∀ b, S2 b → S b) ∧ (∀ b, S1 b → ¬ S2 b) ∧ RO K B H S1 v1 o1 ∧
    ∀ B' H' S1' y, BLe B B' → (∀ b u, S2 b → H b = some u → H' b = some u) → (∀ b, S1' b → ¬ S2 b) → RO K B' H' S1' v1 y → RO K B' H' (fun b => S1' b ∨ S2 b) v (o.set1 y s) ∧ Stp K H' v s v1
  | .atA a o, S, v, r, g, ok => by
    cases r with
    | atA r =>
      by_cases hs : s = .un
      · subst hs
        cases (show some o = some o1 from g)
        exact ⟨.ref a, S, fun _ => False, rfl, fun _ z => z, fun _ z => z.elim, fun _ _ z => z, r, fun B' H' S1' y eb k dj ry => ⟨.atA (ry.tr (.refl B') (fun _ z => .inl z) fun _ _ _ e => e), rfl⟩⟩
      have g' : o.get1 s = some o1 := by cases s <;> first | exact g | exact absurd rfl hs
      have ok' : okS K o s := by cases s <;> first | exact ok | exact absurd rfl hs
      obtain ⟨v1, S1, S2, h1, h2, h3, h4, h5, h6⟩ := RO.focus1 pu (o := o) r g' ok'
      refine ⟨v1, S1, S2, h1, h2, h3, h4, h5, fun B' H' S1' y eb k dj ry => ?_⟩
      obtain ⟨q1, q2⟩ := h6 B' H' S1' y eb k dj ry
      have e : (O.atA a o).set1 y s = .atA a (o.set1 y s) := by cases s <;> first | rfl | exact absurd rfl hs
      rw [e]
      exact ⟨.atA q1, q2⟩
  | .d _, _, _, r, g, ok => RO.focus0 (fun _ _ z => by cases z) pu r g ok
  | .ol _, _, _, r, g, ok => RO.focus0 (fun _ _ z => by cases z) pu r g ok
  | .od _, _, _, r, g, ok => RO.focus0 (fun _ _ z => by cases z) pu r g ok
  | .ot _, _, _, r, g, ok => RO.focus0 (fun _ _ z => by cases z) pu r g ok
  | .oi _ _ _, _, _, r, g, ok => RO.focus0 (fun _ _ z => by cases z) pu r g ok
  | .op _, _, _, r, g, ok => RO.focus0 (fun _ _ z => by cases z) pu r g ok
theorem RO.focusP (pu : Ex B H) : ∀ {p : List Sel} {S : Ad} {v : V} {o : O}, RO K B H S v o → o.getP p = some o1 → okPth K o p → ∃ (v1 : V) (S1 S2 : Ad), Wlk K H v p v1 ∧ (∀ b, S1 b → S b) ∧ (∀ b, S2 b → S b) ∧ (∀ b, S1 b → ¬ S2 b) ∧ RO K B H S1 v1 o1 ∧
    ∀ B' H' S1' y, BLe B B' → (∀ b u, S2 b → H b = some u → H' b = some u) → (∀ b, S1' b → ¬ S2 b) → RO K B' H' S1' v1 y → RO K B' H' (fun b => S1' b ∨ S2 b) v (o.setP y p) ∧ Wlk K H' v p v1
  | [], S, v, o, r, g, _ => by
    cases g
    exact ⟨v, S, fun _ => False, rfl, fun _ z => z, fun _ z => z.elim, fun _ _ z => z, r, fun B' H' S1' y _ _ _ ry => ⟨ry.tr (.refl B') (fun _ z => .inl z) fun _ _ _ e => e, rfl⟩⟩
  | s :: p, S, v, o, r, g, ok => by
    unfold O.getP at g
    unfold okPth at ok
    cases e : o.get1 s with
    | none => rw [e] at g; cases g
    | some u =>
      rw [e] at g ok
      obtain ⟨v1, S1, S2, h1, h2, h3, h4, h5, h6⟩ := r.focus1 pu e ok.1
      obtain ⟨v2, T1, T2, k1, k2, k3, k4, k5, k6⟩ := RO.focusP pu h5 g ok.2
      refine ⟨v2, T1, fun b => T2 b ∨ S2 b, ⟨v1, h1, k1⟩, fun b z => h2 b (k2 b z), fun b z => z.elim (fun z => h2 b (k3 b z)) (h3 b), fun b z y => y.elim (k4 b z) (h4 b (k2 b z)), k5, fun B' H' S1' y eb k dj ry => ?_⟩
      obtain ⟨q1, wq⟩ := k6 B' H' S1' y eb (fun b x z => k b x (.inl z)) (fun b z w => dj b z (.inl w)) ry
      obtain ⟨q2, sq⟩ := h6 B' H' _ _ eb (fun b x z => k b x (.inr z)) (fun b z w => z.elim (fun z => dj b z (.inr w)) fun z => h4 b (k3 b z) w) q1
      unfold O.setP
      rw [e]
      exact ⟨q2.tr (.refl B') (fun b z => z.elim (fun z => z.imp id .inl) fun z => .inr (.inr z)) fun _ _ _ e => e, v1, sq, wq⟩
end
section
variable {K : PySem.W.Frag} {F B0 H B : Hp} {τ : List V} {T : List O} {σ : L2.St} {Γ : En} {S : Ad} {v w : V} {o oe o1 : O} {i : Nat} {te ti ty tv : TE} {p : List Sel} {posts1 : En → Prop} {Dd : EG} {post : O → En → Prop}
/-- the thing at a place of slot i is changed, the thing held on top goes into it -/
theorem HW.mutP (h : HW K F B0 (w :: τ) (oe :: T) σ Γ H B S) (e : Γ[i]? = some (some o)) (g : o.getP p = some o1) (ok : okPth K o p) : ∃ (v v1 : V) (S1 So : Ad), σ[i]? = some (some v) ∧ Wlk K H v p v1 ∧ RO K B H S1 v1 o1 ∧ RO K B H So w oe ∧ (∀ b, S1 b → ¬ So b) ∧ (∀ b, S1 b → H b ≠ none) ∧ (∀ b, So b → H b ≠ none) ∧
    ∀ a c y, S1 a → RO K B (upd H a c) (fun b => S1 b ∨ So b) v1 y → ∃ S', HW K F B0 τ T σ (Γ.set i (some (o.setP y p))) (upd H a c) B S' ∧ Wlk K (upd H a c) v p v1 := by
  obtain ⟨v, S1, So, a1, r1, ro, dj, n1, n2, f⟩ := h.mut2 e
  obtain ⟨v1, T1, T2, k1, k2, k3, k4, k5, k6⟩ := RO.focusP h.pu r1 g ok
  refine ⟨v, v1, T1, So, a1, k1, k5, ro, fun b z => dj b (k2 b z), fun b z => n1 b (k2 b z), n2, fun a c y ha ry => ?_⟩
  obtain ⟨q, wq⟩ := k6 B (upd H a c) _ y (.refl B) (fun b u z e => by rw [upd_ne (fun q => k4 a ha (by rw [← q]; exact z))]; exact e) (fun b z y => z.elim (fun z => k4 b z y) fun z => dj b (k3 b y) z) ry
  obtain ⟨S', wf⟩ := f a c _ (k2 a ha) (q.tr (.refl B) (fun b z => z.elim (fun z => z.imp (k2 b) id) fun z => .inl (k3 b z)) fun _ _ _ e => e)
  exact ⟨S', wf, wq⟩
theorem HW.mutP1 (h : HW K F B0 τ T σ Γ H B S) (e : Γ[i]? = some (some o)) (g : o.getP p = some o1) (ok : okPth K o p) : ∃ (v v1 : V) (S1 : Ad), σ[i]? = some (some v) ∧ Wlk K H v p v1 ∧ RO K B H S1 v1 o1 ∧ (∀ b, S1 b → H b ≠ none) ∧
    ∀ a c y, S1 a → RO K B (upd H a c) S1 v1 y → ∃ S', HW K F B0 τ T σ (Γ.set i (some (o.setP y p))) (upd H a c) B S' ∧ Wlk K (upd H a c) v p v1 := by
  obtain ⟨v, v1, S1, So, a1, wk, r1, _, _, n1, _, f⟩ := HW.mutP (h.pushd (v := .non) (x := .non) .non) e g ok
  exact ⟨v, v1, S1, a1, wk, r1, n1, fun a c y ha ry => f a c y ha (ry.tr (.refl B) (fun _ z => .inl z) fun _ _ _ e => e)⟩
/-- te tells the thing at a place of slot i -/
def EvP (K : PySem.W.Frag) (te : TE) (i : Nat) (p : List Sel) : Prop := ∀ (σ : L2.St) (H : Hp) (v v1 : V) (Q : VK), σ[i]? = some (some v) → Wlk K H v p v1 → Q v1 H → te σ H Q
theorem evp_var : EvP K (tVar i) i [] := fun σ H v v1 Q a e q => by cases e; exact ⟨v, a, q⟩
theorem Wlk.split : ∀ {p : List Sel} {v w : V} {s : Sel}, Wlk K H v (p ++ [s]) w → ∃ u, Wlk K H v p u ∧ Stp K H u s w
  | [], v, w, s, ⟨u, h1, h2⟩ => by cases h2; exact ⟨v, rfl, h1⟩
  | _ :: _, _, _, _, ⟨x, h1, h2⟩ => by
    obtain ⟨u, a, b⟩ := Wlk.split h2
    exact ⟨u, ⟨x, h1, a⟩, b⟩
theorem evp_fld {f : Str} (h : EvP K te i p) : EvP K (tFld K te f) i (p ++ [.fld f]) := fun σ H v v1 Q a e q => by
  obtain ⟨u, h1, h2⟩ := e.split
  obtain ⟨a', C, dx, ws, rfl, q2, q3, q4, q5⟩ := h2
  exact h σ H v _ _ a h1 ⟨a', C, dx, ws, v1, rfl, q2, q3, q4, q5, q⟩
/-- all slots are read as data for an expression; the heap has only grown -/
theorem HW.lendX (w : HW K F B0 τ T σ Γ H B S) : ∃ Bf, Ho K H Bf [] [] σ (fzE Γ) H ∧ ∀ v' o' Γ1 H1, Ho K H Bf [v'] [o'] σ Γ1 H1 → Ex H H1 ∧ (o'.lf = true → Ho K F B0 (v' :: τ) (o' :: T) σ Γ H1) := by
  obtain ⟨Bf, w0, _, back⟩ := w.lendA
  exact ⟨Bf, w0, fun v' o' Γ1 H1 h => ⟨h.choose_spec.choose_spec.fr, fun l => back v' o' Γ1 H1 h l⟩⟩
theorem Wlk.det {H : Hp} : ∀ {p : List Sel} {v w w' : V}, Wlk K H v p w → Wlk K H v p w' → w' = w
  | [], v, w, w', h, h' => by cases h; cases h'; rfl
  | s :: p, v, w, w', ⟨u, h1, h2⟩, ⟨u', h1', h2'⟩ => by
    have : u' = u := by
      cases s with
      | fld f =>
        obtain ⟨a, C, dx, ws, q1, q2, _, _, q3⟩ := h1
        obtain ⟨a', C', dx', ws', q1', q2', _, _, q3'⟩ := h1'
        subst q1; cases q1'
        rw [q2] at q2'; cases q2'
        rw [q3] at q3'; cases q3'; rfl
      | key k =>
        obtain ⟨a, ws, q1, q2, q3⟩ := h1
        obtain ⟨a', ws', q1', q2', q3'⟩ := h1'
        subst q1; cases q1'
        have : ws = ws' := by
          rcases q2 with q2 | ⟨_, q2⟩ <;> rcases q2' with q2' | ⟨_, q2'⟩ <;> rw [q2] at q2' <;> cases q2' <;> rfl
        subst this
        rw [q3] at q3'; cases q3'; rfl
      | idx n =>
        obtain ⟨a, vs, q1, q2, q3⟩ := h1
        obtain ⟨a', vs', q1', q2', q3'⟩ := h1'
        subst q1; cases q1'
        rw [q2] at q2'; cases q2'
        rw [q3] at q3'; cases q3'; rfl
      | un => cases h1; cases h1'; rfl
    subst this
    exact Wlk.det h2 h2'
/-- te[k] = e, a dict at a place -/
theorem gog_setDP (ev : EvP K te i p) {kvs : List (Key × O)} (e0 : Γ[i]? = some (some o1)) (g : o1.getP p = some (.od kvs)) (ok : okPth K o1 p) (hz : kvs.length < 100000)
    (h : ∀ F' B', Go K F' B' ti [] (fzE Γ) fun ok _ => ∃ k, ok = .d (kD k) ∧ posts1 (Γ.set i (some (o1.setP (.od (dput kvs k o)) p)))) : GoG K F B0 (gSub te ti rSetG) o T Γ posts1 := fun τ σ H v1 Q ⟨B1, S1, w1⟩ k' => by
  obtain ⟨v, u, T1, To, a1, wk, r1, _, _, _, _, _⟩ := w1.mutP e0 g ok
  obtain ⟨Bf, w0, back⟩ := w1.lendX
  refine ev σ H v u _ a1 wk (h H Bf [] σ H _ w0 fun v2 o2 Γ2 H2 ⟨k, eo, h2⟩ how => ?_)
  subst eo
  obtain ⟨ex, hb⟩ := back v2 _ Γ2 H2 how
  obtain ⟨B2, S2, w2⟩ := hb (by cases k <;> rfl)
  obtain ⟨rk, S3, _, w3⟩ := w2.popd
  have ek := rk.kV
  subst ek
  obtain ⟨v', u', S5, So, a2, wk2, r2, ro, dj, _, _, f⟩ := w3.mutP e0 g ok
  rw [a1] at a2
  cases a2
  have eu : u' = u := Wlk.det (wk.ex ex) wk2
  subst eu
  cases r2 with
  | @od _ S4 a ws _ ha hs hn hc nd ek rs =>
  have len : ws.length = kvs.length := by have := congrArg List.length ek; simpa using this
  refine .inr ⟨a, _, rfl, .inl ⟨ws, k, hc, rfl, by rw [len]; exact Nat.lt_of_lt_of_le hz (by decide), rfl⟩, ?_⟩
  obtain ⟨S', w4, _⟩ := f a (.dK (putK ws k v1)) (.od (dput kvs k o)) ha (.od (S' := fun b => S4 b ∨ So b) (.inl ha) (fun b z => z.imp (hs b) id) (fun z => z.elim hn fun z => dj a ha z) upd_same (dput_nodup nd) (by rw [putK_dput]; exact dput_keys ek) (by
    rw [putK_dput]
    exact (rs.dput ro nd ek fun b z => dj b (hs b z)).at fun b u z q => by
      rw [upd_ne (fun e => by subst e; exact z.elim hn fun z => dj b ha z)]; exact q))
  exact k' σ _ _ h2 ⟨B2, S', w4⟩
end
end SK
namespace SK
open PySem PySem.Spec PyProof.Rows L2
section
variable {K : PySem.W.Frag} {F B0 H B : Hp} {τ : List V} {T : List O} {σ : L2.St} {Γ : En} {S : Ad} {v w : V} {o oe o1 : O} {i : Nat} {te ti ty tv : TE} {p : List Sel} {posts1 : En → Prop} {Dd : EG} {post : O → En → Prop} {Ci : Addr}
theorem RF.none {f : Str} : ∀ {ws : List (Str × V)} {fs : List (Str × D)}, RF K B ws fs → fs.lookup f = none → ws.lookup f = none
  | _, _, .nil, _ => rfl
  | _, _, .cons (k := k) r t, h => by
    rw [List.lookup_cons] at h ⊢
    cases e : f == k with
    | true => rw [e] at h; cases h
    | false => rw [e] at h; exact RF.none t h
theorem HW.unsets (h : HW K F B0 τ T σ Γ H B S) (j : Nat) : HW K F B0 τ T σ (Γ.set j none) H B S := by
  by_cases hl : j < σ.length
  · have q := h.unset j (σ[j])
    have e : σ.set j (σ[j]) = σ := by
      apply List.ext_getElem?
      intro n
      by_cases hn : n = j
      · subst hn; rw [List.getElem?_set_self hl]; simp [hl]
      · rw [List.getElem?_set_ne (Ne.symm hn)]
    rw [e] at q; exact q
  · have : Γ.set j none = Γ := by
      rw [List.set_eq_of_length_le]
      rw [← h.len]; omega
    rw [this]; exact h
theorem fzE_set {x : Option O} : ∀ {Γ : En} {i : Nat}, fzE (Γ.set i x) = (fzE Γ).set i (frO x)
  | [], _ => rfl
  | y :: r, 0 => by rw [List.set_cons_zero, fzE_cons, fzE_cons, List.set_cons_zero]
  | y :: r, i + 1 => by rw [List.set_cons_succ, fzE_cons, fzE_cons, List.set_cons_succ, fzE_set]
/-- the value that is in the dict, or the empty list that is put in -/
def lstAt (kvs : List (Key × O)) (k : Key) (ys : List O) : Prop := kval kvs k = some (.ol ys) ∨ (kval kvs k = none ∧ ys = [])
theorem kval_keys {k : Key} : ∀ {ws : List (Key × V)} {kvs : List (Key × O)}, ws.map (·.1) = kvs.map (·.1) → ((kval kvs k).isSome = (valV ws k).isSome)
  | [], [], _ => rfl
  | (g, x) :: ws, (g', y) :: kvs, e => by
    simp only [List.map_cons, List.cons.injEq] at e
    obtain ⟨rfl, e⟩ := e
    by_cases q : g = k
    · subst q; rw [valV_pos rfl]; simp [kval]
    · rw [valV_neg q, ← kval_keys e]; simp [kval, q]
theorem dput_new {κ α : Type} [DecidableEq κ] {k : κ} {x : α} {kvs : List (κ × α)} (h : ∀ p ∈ kvs, p.1 ≠ k) : SK.dput kvs k x = kvs ++ [(k, x)] := by
  unfold SK.dput
  rw [if_neg]
  simp only [List.any_eq_true, decide_eq_true_eq, not_exists, not_and]
  exact fun p hp => h p hp
theorem kval_none {α : Type} {k : Key} : ∀ {kvs : List (Key × α)}, kval kvs k = none → ∀ p ∈ kvs, p.1 ≠ k
  | q :: kvs, h, p, hp => by
    by_cases e : q.1 = k
    · simp [kval, e] at h
    · have h' : kval kvs k = none := by simpa [kval, e] using h
      rcases List.mem_cons.mp hp with rfl | hp
      · exact e
      · exact kval_none h' p hp
theorem kval_snoc {α : Type} {k : Key} {x : α} : ∀ {kvs : List (Key × α)}, (∀ p ∈ kvs, p.1 ≠ k) → kval (kvs ++ [(k, x)]) k = some x
  | [], _ => by simp [kval]
  | q :: kvs, h => by
    have e := h q List.mem_cons_self
    have := kval_snoc (x := x) fun p hp => h p (List.mem_cons_of_mem _ hp)
    simpa [kval, e] using this
theorem dput_put {κ α : Type} [DecidableEq κ] {k : κ} {x y : α} {kvs : List (κ × α)} : SK.dput (SK.dput kvs k x) k y = SK.dput kvs k y := by
  by_cases h : (kvs.any fun kv => decide (kv.1 = k)) = true
  · have h2 : ((SK.dput kvs k x).any fun kv => decide (kv.1 = k)) = true := by
      unfold SK.dput
      rw [if_pos h]
      obtain ⟨p, hp, e⟩ := List.any_eq_true.mp h
      have e : p.1 = k := by simpa using e
      exact List.any_eq_true.mpr ⟨(p.1, x), List.mem_map.mpr ⟨p, hp, by rw [if_pos e]⟩, by simpa using e⟩
    have e1 : SK.dput (SK.dput kvs k x) k y = (SK.dput kvs k x).map fun kv => if kv.1 = k then (kv.1, y) else kv := by
      rw [SK.dput, if_pos h2]
    rw [e1]
    unfold SK.dput
    rw [if_pos h, if_pos h, List.map_map]
    apply List.map_congr_left
    intro p _
    by_cases q : p.1 = k
    · simp [q]
    · simp [q]
  · have hn : ∀ p ∈ kvs, p.1 ≠ k := fun p hp q => h (List.any_eq_true.mpr ⟨p, hp, by simpa using q⟩)
    rw [dput_new hn, dput_new hn]
    have h2 : ((kvs ++ [(k, x)]).any fun kv => decide (kv.1 = k)) = true := by simp
    unfold SK.dput
    rw [if_pos h2, List.map_append, repl_not]
    · simp only [List.map_cons, List.map_nil, if_true]
    · intro hm
      obtain ⟨p, hp, e⟩ := List.mem_map.mp hm
      exact hn p hp e
theorem getP_snoc {s : Sel} : ∀ {p : List Sel} {o u : O}, o.getP p = some u → o.getP (p ++ [s]) = match u.get1 s with | some x => some x | none => none
  | [], o, u, h => by
    cases h
    show (match o.get1 s with | some u => u.getP [] | none => none) = _
    cases o.get1 s <;> rfl
  | q :: p, o, u, h => by
    unfold O.getP at h
    rw [List.cons_append]
    unfold O.getP
    cases e : o.get1 q with
    | none => rw [e] at h; cases h
    | some x => rw [e] at h; exact getP_snoc h
theorem okPth_snoc {s : Sel} : ∀ {p : List Sel} {o u x : O}, o.getP p = some u → okPth K o p → okS K u s → u.get1 s = some x → okPth K o (p ++ [s])
  | [], o, u, x, h, _, h2, h3 => by
    cases h
    show okS K o s ∧ match o.get1 s with | some u => okPth K u [] | none => False
    rw [h3]
    exact ⟨h2, trivial⟩
  | q :: p, o, u, x, h, h1, h2, h3 => by
    unfold O.getP at h
    unfold okPth at h1
    rw [List.cons_append]
    unfold okPth
    cases e : o.get1 q with
    | none => rw [e] at h; cases h
    | some z => rw [e] at h h1; exact ⟨h1.1, okPth_snoc h h1.2 h2 h3⟩
theorem setP_snoc {s : Sel} {y : O} : ∀ {p : List Sel} {o u : O}, o.getP p = some u → (∃ x, u.get1 s = some x) → o.setP y (p ++ [s]) = o.setP (u.set1 y s) p
  | [], o, u, h, ⟨x, hx⟩ => by
    cases h
    show (match o.get1 s with | some u => o.set1 (u.setP y []) s | none => o) = _
    rw [hx]; rfl
  | q :: p, o, u, h, hx => by
    unfold O.getP at h
    rw [List.cons_append]
    unfold O.setP
    cases e : o.get1 q with
    | none => (rw [e] at h; try cases h)
    | some z =>
      rw [e] at h
      show o.set1 (z.setP y (p ++ [s])) q = o.set1 (z.setP (u.set1 y s) p) q
      rw [setP_snoc h hx]
theorem get_set0 {s : Sel} {y x : O} {o : O} (nat : ∀ a u, o ≠ .atA a u) (h : o.get1 s = some x) : (o.set1 y s).get1 s = some y := by
  cases o <;> cases s <;> try first | (cases h; done) | (exact absurd rfl (nat _ _))
  · rename_i xs n
    have h : xs[n]? = some x := h
    show (xs.set n y)[n]? = some y
    rw [List.getElem?_set_self (List.getElem?_eq_some_iff.mp h).1]
  · rename_i kvs k
    have h : kval kvs k = some x := h
    show kval (SK.dput kvs k y) k = some y
    have : ∀ {kvs : List (Key × O)}, kval kvs k = some x → kval (kvs.map fun kv => if kv.1 = k then (kv.1, y) else kv) k = some y := by
      intro kvs
      induction kvs with
      | nil => intro h; cases h
      | cons p r ih =>
        intro h
        by_cases e : p.1 = k
        · simp [kval, e]
        · have h' : kval r k = some x := by simpa [kval, e] using h
          have := ih h'
          simpa [kval, e] using this
    unfold SK.dput
    rw [if_pos]
    · exact this h
    · obtain ⟨i, hi⟩ := kval_mem h
      exact List.any_eq_true.mpr ⟨_, List.mem_of_getElem? hi, by simp⟩
  · rename_i a C fs f
    have h : fs.lookup f = some x := h
    show (SK.fput f y fs).lookup f = some y
    clear nat
    induction fs with
    | nil => cases h
    | cons p r ih =>
      obtain ⟨g, z⟩ := p
      unfold SK.fput
      by_cases e : g = f
      · subst e; simp
      · rw [if_neg e]
        have e2 : (f == g) = false := by simpa using fun q => e q.symm
        rw [List.lookup_cons, e2] at h
        rw [List.lookup_cons, e2]
        exact ih h h
  · rename_i xs n
    have h : xs[n]? = some x := h
    show (xs.set n y)[n]? = some y
    rw [List.getElem?_set_self (List.getElem?_eq_some_iff.mp h).1]
theorem get_set1 {s : Sel} {y x : O} : ∀ {o : O}, o.get1 s = some x → (o.set1 y s).get1 s = some y
  | .atA a o, h => by
    by_cases hs : s = .un
    · subst hs; rfl
    have h' : o.get1 s = some x := by cases s <;> first | exact h | exact absurd rfl hs
    have e := get_set1 (y := y) (o := o) h'
    cases s <;> first | exact e | exact absurd rfl hs
  | .d _, h => get_set0 (fun _ _ z => by cases z) h
  | .ol _, h => get_set0 (fun _ _ z => by cases z) h
  | .od _, h => get_set0 (fun _ _ z => by cases z) h
  | .ot _, h => get_set0 (fun _ _ z => by cases z) h
  | .oi _ _ _, h => get_set0 (fun _ _ z => by cases z) h
  | .op _, h => get_set0 (fun _ _ z => by cases z) h
theorem getP_setP {y : O} : ∀ {p : List Sel} {o u : O}, o.getP p = some u → (o.setP y p).getP p = some y
  | [], o, u, _ => rfl
  | s :: p, o, u, h => by
    unfold O.getP at h
    cases e : o.get1 s with
    | none => rw [e] at h; cases h
    | some z =>
      rw [e] at h
      unfold O.setP
      rw [e]
      show (o.set1 (z.setP y p) s).getP (s :: p) = some y
      unfold O.getP
      rw [get_set1 e]
      exact getP_setP h
theorem set1_set0 {s : Sel} {x y z : O} {o : O} (nat : ∀ a u, o ≠ .atA a u) (h : o.get1 s = some z) : (o.set1 x s).set1 y s = o.set1 y s := by
  cases o <;> cases s <;> try first | (cases h; done) | (exact absurd rfl (nat _ _))
  · rename_i xs n
    show O.ol ((xs.set n x).set n y) = O.ol (xs.set n y)
    rw [List.set_set]
  · show O.od _ = O.od _
    rw [dput_put]
  · rename_i a C fs f
    show O.oi a C _ = O.oi a C _
    congr 1
    clear h nat
    induction fs with
    | nil => simp [SK.fput]
    | cons p r ih =>
      obtain ⟨g, z⟩ := p
      by_cases e : g = f
      · subst e; simp [SK.fput]
      · simp [SK.fput, e, ih]
  · rename_i xs n
    show O.op ((xs.set n x).set n y) = O.op (xs.set n y)
    rw [List.set_set]
theorem set1_set1 {s : Sel} {x y z : O} : ∀ {o : O}, o.get1 s = some z → (o.set1 x s).set1 y s = o.set1 y s
  | .atA a o, h => by
    by_cases hs : s = .un
    · subst hs; rfl
    have h' : o.get1 s = some z := by cases s <;> first | exact h | exact absurd rfl hs
    have e := set1_set1 (x := x) (y := y) (o := o) h'
    cases s <;> first | exact congrArg (O.atA a) e | exact absurd rfl hs
  | .d _, h => set1_set0 (fun _ _ z => by cases z) h
  | .ol _, h => set1_set0 (fun _ _ z => by cases z) h
  | .od _, h => set1_set0 (fun _ _ z => by cases z) h
  | .ot _, h => set1_set0 (fun _ _ z => by cases z) h
  | .oi _ _ _, h => set1_set0 (fun _ _ z => by cases z) h
  | .op _, h => set1_set0 (fun _ _ z => by cases z) h
theorem setP_setP {x y : O} : ∀ {p : List Sel} {o u : O}, o.getP p = some u → (o.setP x p).setP y p = o.setP y p
  | [], o, u, _ => rfl
  | s :: p, o, u, h => by
    unfold O.getP at h
    cases e : o.get1 s with
    | none => rw [e] at h; cases h
    | some z =>
      rw [e] at h
      have e1 : o.setP x (s :: p) = o.set1 (z.setP x p) s := by rw [O.setP, e]
      have e2 : o.setP y (s :: p) = o.set1 (z.setP y p) s := by rw [O.setP, e]
      rw [e1, e2, O.setP, get_set1 e]
      show (o.set1 (z.setP x p) s).set1 ((z.setP x p).setP y p) s = _
      rw [setP_setP h, set1_set1 e]
theorem okS_set0 {s : Sel} {y : O} {o : O} (nat : ∀ a u, o ≠ .atA a u) (h : okS K o s) : okS K (o.set1 y s) s := by
  cases o <;> cases s <;> first | exact h | exact trivial | exact absurd rfl (nat _ _) | exact h.elim
theorem okS_set1 {s : Sel} {y : O} : ∀ {o : O}, okS K o s → okS K (o.set1 y s) s
  | .atA a o, h => by
    by_cases hs : s = .un
    · subst hs; exact trivial
    have h' : okS K o s := by cases s <;> first | exact h | exact absurd rfl hs
    have e := okS_set1 (y := y) (o := o) h'
    cases s <;> first | exact e | exact absurd rfl hs
  | .d _, h => okS_set0 (fun _ _ z => by cases z) h
  | .ol _, h => okS_set0 (fun _ _ z => by cases z) h
  | .od _, h => okS_set0 (fun _ _ z => by cases z) h
  | .ot _, h => okS_set0 (fun _ _ z => by cases z) h
  | .oi _ _ _, h => okS_set0 (fun _ _ z => by cases z) h
  | .op _, h => okS_set0 (fun _ _ z => by cases z) h
theorem okPth_setP {y : O} : ∀ {p : List Sel} {o u : O}, o.getP p = some u → okPth K o p → okPth K (o.setP y p) p
  | [], o, u, _, _ => trivial
  | s :: p, o, u, h, h1 => by
    unfold O.getP at h
    unfold okPth at h1
    cases e : o.get1 s with
    | none => rw [e] at h; cases h
    | some z =>
      rw [e] at h h1
      have e1 : o.setP y (s :: p) = o.set1 (z.setP y p) s := by rw [O.setP, e]
      rw [e1]
      unfold okPth
      rw [get_set1 e]
      exact ⟨okS_set1 h1.1, okPth_setP h h1.2⟩
/-- the cell of a dict at a place -/
theorem HW.cellD (h : HW K F B0 τ T σ Γ H B S) {kvs : List (Key × O)} (e0 : Γ[i]? = some (some o1)) (g : o1.getP p = some (.od kvs)) (ok : okPth K o1 p) :
    ∃ v d ws, σ[i]? = some (some v) ∧ Wlk K H v p (.ref d) ∧ H d = some (.dK ws) ∧ ws.map (·.1) = kvs.map (·.1) := by
  obtain ⟨v, u, T1, a1, wk, r1, _, _⟩ := h.mutP1 e0 g ok
  cases r1 with
  | @od _ S4 a ws _ ha hs hn hc nd ek rs => exact ⟨v, a, ws, a1, wk, hc, ek⟩
/-- te.setdefault(k, []).append(e), a dict of lists at a place -/
theorem gos_setdApp (ev : EvP K te i p) {kvs : List (Key × O)} (e0 : Γ[i]? = some (some o1)) (g : o1.getP p = some (.od kvs)) (ok : okPth K o1 p) (hz : kvs.length < 100000)
    (h : ∀ F' B', Go K F' B' ty [] (fzE Γ) fun okk _ => ∃ k ys, okk = .d (kD k) ∧ lstAt kvs k ys ∧ ys.length < 100000 ∧
      ∀ F' B', Go K F' B' tv [] (fzE (Γ.set i none)) fun oe _ => oe.lf = true ∧ Dd.nx (Γ.set i (some (o1.setP (.od (dput kvs k (.ol (ys ++ [oe])))) p)))) :
    GoS K F B0 (tDrop (tBM K "list" rAppend (tDSetd te ty (tLst tNil)) (tCons tv tNil))) T Γ Dd := fun τ σ H De ⟨B, S, w⟩ s => by
  obtain ⟨v, d, ws, a1, wk, hc, ek⟩ := w.cellD e0 g ok
  obtain ⟨Bf, w0, back⟩ := w.lendX
  refine ev σ H v _ _ a1 wk ⟨d, rfl, .inl ⟨ws, .inl hc⟩, h H Bf [] σ H _ w0 fun v2 o2 Γ2 H2 ⟨k, ys, eo, hy, hyl, h2⟩ how => ⟨by decide, fun q hq => ?_⟩⟩
  subst eo
  obtain ⟨ex, hb⟩ := back v2 _ Γ2 H2 how
  obtain ⟨B2, S2, w2⟩ := hb (by cases k <;> rfl)
  obtain ⟨rk, S3, _, w3⟩ := w2.popd
  have ekk := rk.kV
  subst ekk
  have hc2 := ex _ _ hc
  have ndq : d ≠ q := fun z => by rw [← z, hc2] at hq; cases hq
  have len : ws.length = kvs.length := by have := congrArg List.length ek; simpa using this
  -- what follows: the list's cell is at the place, the element is made, the list grows
  have tail : ∀ (o' : O) (kvs1 : List (Key × O)) (u : Addr) (H4 : Hp), Ho K F B0 τ T σ (Γ.set i (some o')) H4 → o'.getP p = some (.od kvs1) → okPth K o' p → kval kvs1 k = some (.ol ys) → (∀ y, o'.setP (.od (dput kvs1 k y)) p = o1.setP (.od (dput kvs k y)) p) →
      Wlk K H4 v p (.ref d) → (∃ ws1, H4 d = some (.dK ws1) ∧ valV ws1 k = some (.ref u)) →
      (tyV K "list" (.ref u) H4 ∧ tCons tv tNil σ H4 fun xs H5 => rAppend (.ref u) xs H5 fun _ H6 => De.nx σ H6) := by
    intro o' kvs1 u H4 ⟨B4, S4, w4⟩ g' ok' hk' heq wk4 ⟨ws1, hd4, hv4⟩
    have hi : i < Γ.length := by
      have := (List.getElem?_eq_some_iff.mp e0).1
      exact this
    have e4 : (Γ.set i (some o'))[i]? = some (some o') := List.getElem?_set_self hi
    have g5 : o'.getP (p ++ [.key k]) = some (.ol ys) := by rw [getP_snoc g']; show (match kval kvs1 k with | some x => some x | none => none) = _; rw [hk']
    have ok5 : okPth K o' (p ++ [.key k]) := okPth_snoc g' ok' trivial hk'
    have wk5 : Wlk K H4 v (p ++ [.key k]) (.ref u) := wk4.snoc ⟨d, ws1, rfl, .inl hd4, hv4⟩
    obtain ⟨v', u', T1, a2, wk6, r6, _, _⟩ := w4.mutP1 e4 g5 ok5
    rw [a1] at a2
    cases a2
    have eu := Wlk.det wk5 wk6
    subst eu
    cases r6 with
    | @ol _ S6 _ us _ ha6 hs6 hn6 hc6 rs6 =>
    refine ⟨.inl ⟨rfl, us, SqL.of hc6⟩, ?_⟩
    obtain ⟨Bh, ⟨B8, S8, w8⟩, back8⟩ := w4.lendX
    refine h2 H4 Bh [] σ H4 _ ⟨B8, S8, by have := w8.unsets i; rw [fzE_set, List.set_set] at this; rw [fzE_set]; exact this⟩ fun v7 o7 Γ7 H7 ⟨lf, hn⟩ how7 => ?_
    obtain ⟨ex7, hb7⟩ := back8 v7 o7 Γ7 H7 how7
    obtain ⟨B9, S9, w9⟩ := hb7 lf
    obtain ⟨v'', u'', T2, So, a3, wk7, r7, ro, dj, _, _, f7⟩ := w9.mutP e4 g5 ok5
    rw [a1] at a3
    cases a3
    have eu2 := Wlk.det (wk5.ex ex7) wk7
    subst eu2
    cases r7 with
    | @ol _ S10 _ us2 _ ha7 hs7 hn7 hc7 rs7 =>
    have len7 : us2.length = ys.length := by simpa using rs7.len
    refine ⟨u, us2, v7, rfl, rfl, hc7, by rw [len7]; exact Nat.lt_of_lt_of_le hyl (by decide), ?_⟩
    obtain ⟨S', w10, _⟩ := f7 u (.lst (us2 ++ [v7])) (.ol (ys ++ [o7])) ha7 (.ol (S' := fun b => S10 b ∨ So b) (.inl ha7) (fun b z => z.imp (hs7 b) id) (fun z => z.elim hn7 fun z => dj u ha7 z) upd_same (by
      rw [List.map_append, List.map_append]
      exact (rs7.snoc ro fun b z => dj b (hs7 b z)).at fun b x z q => by
        rw [upd_ne (fun e => by subst e; exact z.elim hn7 fun z => dj b ha7 z)]; exact q))
    rw [List.set_set, setP_snoc (s := .key k) g' ⟨_, (show (O.od kvs1).get1 (.key k) = _ from hk')⟩] at w10
    have e11 : o'.setP (O.set1 (.od kvs1) (.ol (ys ++ [o7])) (.key k)) p = o1.setP (.od (dput kvs k (.ol (ys ++ [o7])))) p := heq _
    rw [e11] at w10
    exact s.nx σ _ _ hn ⟨_, _, w10⟩
  have exq : Ex H2 (upd H2 q (.lst [])) := .new hq
  refine ⟨ws, k, by rw [upd_ne ndq]; exact hc2, rfl, by rw [len]; exact Nat.lt_of_lt_of_le hz (by decide), fun u hu => ?_, fun hn0 => ?_⟩
  · -- it is there
    have hy' : kval kvs k = some (.ol ys) := by
      rcases hy with hy | ⟨hy, _⟩
      · exact hy
      · have := kval_keys (k := k) ek
        rw [hy, hu] at this; cases this
    have wq := (w3.push (v := .non) (o := .d .non) (S' := fun _ => False) exq (.refl B2) (fun a x e => exq a x (w3.pu a x e)) (fun _ z => .inl z) (fun _ z => z.elim) (.d .non))
    obtain ⟨_, S4, _, w4⟩ := wq.popd
    obtain ⟨n, u2, k1, k2, k3, k4⟩ : ∃ (n : Nat) (u2 : V), kvs[n]? = some (k, .ol ys) ∧ True ∧ True ∧ True := by
      obtain ⟨n, hn⟩ := kval_mem hy'
      exact ⟨n, .non, hn, trivial, trivial, trivial⟩
    have g5 : o1.getP (p ++ [.key k]) = some (.ol ys) := by rw [getP_snoc g]; show (match kval kvs k with | some x => some x | none => none) = _; rw [hy']
    have ok5 : okPth K o1 (p ++ [.key k]) := okPth_snoc g ok trivial hy'
    obtain ⟨v', u', T1, a2, wk6, r6, _, _⟩ := w4.mutP1 e0 g5 ok5
    rw [a1] at a2
    cases a2
    have wk5 : Wlk K (upd H2 q (.lst [])) v (p ++ [.key k]) u := ((wk.ex ex).ex exq).snoc ⟨d, ws, rfl, .inl (by rw [upd_ne ndq]; exact hc2), hu⟩
    have eu := Wlk.det wk5 wk6
    subst eu
    cases r6 with
    | @ol _ S6 ua us _ ha6 hs6 hn6 hc6 rs6 =>
    have same : Γ.set i (some o1) = Γ := by
      apply List.ext_getElem?
      intro n
      by_cases hn : n = i
      · subst hn; rw [List.getElem?_set_self (List.getElem?_eq_some_iff.mp e0).1, e0]
      · rw [List.getElem?_set_ne (Ne.symm hn)]
    exact tail o1 kvs ua _ ⟨B2, S4, by rw [same]; exact w4⟩ g ok hy' (fun _ => rfl) ((wk.ex ex).ex exq) ⟨ws, by rw [upd_ne ndq]; exact hc2, hu⟩
  · -- it is put in
    have hy' : kval kvs k = none ∧ ys = [] := by
      rcases hy with hy | hy
      · have := kval_keys (k := k) ek
        rw [hy, hn0] at this; cases this
      · exact hy
    obtain ⟨hy1, rfl⟩ := hy'
    obtain ⟨S4, w4⟩ := w3.newl hq (xs := []) (vs := []) .nil
    obtain ⟨v', u', T1, So, a2, wk6, r6, ro, dj, _, _, f6⟩ := w4.mutP e0 g ok
    rw [a1] at a2
    cases a2
    have eu := Wlk.det ((wk.ex ex).ex exq) wk6
    subst eu
    cases r6 with
    | @od _ S6 _ ws2 _ ha hs hn hc6 nd ek2 rs =>
    have ews : ws2 = ws := by
      rw [upd_ne ndq, hc2] at hc6
      cases hc6; rfl
    subst ews
    obtain ⟨S', w5, wk7⟩ := f6 d (.dK (putK ws2 k (.ref q))) (.od (dput kvs k (.ol []))) ha (.od (S' := fun b => S6 b ∨ So b) (.inl ha) (fun b z => z.imp (hs b) id) (fun z => z.elim hn fun z => dj d ha z) upd_same (dput_nodup nd) (by rw [putK_dput]; exact dput_keys ek2) (by
      rw [putK_dput]
      exact (rs.dput ro nd ek2 fun b z => dj b (hs b z)).at fun b x z q => by
        rw [upd_ne (fun e => by subst e; exact z.elim hn fun z => dj b ha z)]; exact q))
    have hn1 := kval_none hy1
    have g' := getP_setP (y := .od (dput kvs k (.ol []))) g
    refine tail _ (dput kvs k (.ol [])) q _ ⟨B2, S', w5⟩ g' (okPth_setP g ok) (by rw [dput_new hn1]; exact kval_snoc hn1) (fun y => ?_) wk7 ⟨_, upd_same, ?_⟩
    · rw [setP_setP g, dput_put]
    · rw [putK_dput, dput_new]
      · have : valV ws2 k = none := hn0
        unfold valV at this ⊢
        rw [List.find?_append]
        have h0 : ws2.find? (fun kv => decide (kv.1 = k)) = none := by
          cases q9 : ws2.find? (fun kv => decide (kv.1 = k)) with
          | none => rfl
          | some x => rw [q9] at this; cases this
        rw [h0]; simp
      · intro p1 hp1
        have : p1.1 ∈ kvs.map (·.1) := by rw [← ek2]; exact List.mem_map_of_mem hp1
        obtain ⟨p2, hp2, e2⟩ := List.mem_map.mp this
        rw [← e2]; exact hn1 p2 hp2
end
end SK
namespace SK
open PySem PySem.Spec PyProof.Rows L2
end SK
namespace SK
open PySem PySem.Spec PyProof.Rows L2
section
variable {K : PySem.W.Frag} {F B0 H B : Hp} {τ : List V} {T : List O} {σ : L2.St} {Γ : En} {S : Ad} {v w : V} {o oe o1 : O} {i : Nat} {te ti ty tv : TE} {p : List Sel} {posts1 : En → Prop} {Dd : EG} {post : O → En → Prop} {x : D}
/-- code that is never come to -/
theorem gos_never (h : False) : GoS K F B0 tNever T Γ Dd := h.elim
theorem RS.setAt {So : Ad} {n : Nat} {vs : List V} {xs : List O} (r : RS K B H S (vs.map some) (xs.map some)) (hn : n < xs.length) (ro : RO K B H So w oe) (dj : ∀ b, S b → ¬ So b) : RS K B H (fun b => S b ∨ So b) ((vs.set n w).map some) ((xs.set n oe).map some) := by
  obtain ⟨u, U1, U2, c1, c2, c3, c4, ru, f⟩ := r.focus (i := n) (o := xs[n]) (by rw [List.getElem?_map, List.getElem?_eq_getElem hn]; rfl)
  have q := f B H So (some w) (some oe) (.refl B) (fun _ _ _ e => e) (fun b z y => dj b (c3 b y) z) (fun x e => by cases e; exact ⟨w, rfl, ro⟩)
  rw [← List.map_set, ← List.map_set] at q
  exact q.tr (.refl B) (fun b z => z.elim .inr fun z => .inl (c3 b z)) fun _ _ _ e => e
/-- te[n] = e, a list at a place -/
theorem gog_setLP (ev : EvP K te i p) {xs : List O} (e0 : Γ[i]? = some (some o1)) (g : o1.getP p = some (.ol xs)) (ok : okPth K o1 p)
    (h : ∀ F' B', Go K F' B' ti [] (fzE Γ) fun okk _ => ∃ n : Int, okk = .d (.int n) ∧ 0 ≤ n ∧ n < xs.length ∧ posts1 (Γ.set i (some (o1.setP (.ol (xs.set n.toNat o)) p)))) : GoG K F B0 (gSub te ti rSetG) o T Γ posts1 := fun τ σ H v1 Q ⟨B1, S1, w1⟩ k' => by
  obtain ⟨v, u, T1, To, a1, wk, r1, _, _, _, _, _⟩ := w1.mutP e0 g ok
  obtain ⟨Bf, w0, back⟩ := w1.lendX
  refine ev σ H v u _ a1 wk (h H Bf [] σ H _ w0 fun v2 o2 Γ2 H2 ⟨n, eo, n0, n1, h2⟩ how => ?_)
  subst eo
  obtain ⟨ex, hb⟩ := back v2 _ Γ2 H2 how
  obtain ⟨B2, S2, w2⟩ := hb rfl
  obtain ⟨rk, S3, _, w3⟩ := w2.popd
  cases rk
  obtain ⟨v', u', S5, So, a2, wk2, r2, ro, dj, _, _, f⟩ := w3.mutP e0 g ok
  rw [a1] at a2
  cases a2
  have eu : u' = u := Wlk.det (wk.ex ex) wk2
  subst eu
  cases r2 with
  | @ol _ S4 a ws _ ha hs hn hc rs =>
  have len : ws.length = xs.length := by simpa using rs.len
  refine .inl ⟨a, ws, n, n.toNat, rfl, rfl, hc, by unfold ixN; rw [if_pos n0, len, if_pos n1], ?_⟩
  obtain ⟨S', w4, _⟩ := f a (.lst (ws.set n.toNat v1)) (.ol (xs.set n.toNat o)) ha (.ol (S' := fun b => S4 b ∨ So b) (.inl ha) (fun b z => z.imp (hs b) id) (fun z => z.elim hn fun z => dj a ha z) upd_same
    ((rs.setAt (by omega) ro fun b z => dj b (hs b z)).at fun b u z q => by
      rw [upd_ne (fun e => by subst e; exact z.elim hn fun z => dj b ha z)]; exact q))
  exact k' σ _ _ h2 ⟨B2, S', w4⟩
theorem RS.filt {κ : Type} {q : κ → Bool} : ∀ {ws : List (κ × V)} {kvs : List (κ × O)} {S : Ad}, ws.map (·.1) = kvs.map (·.1) → RS K B H S (ws.map fun p => some p.2) (kvs.map fun p => some p.2) →
    RS K B H S ((ws.filter fun p => q p.1).map fun p => some p.2) ((kvs.filter fun p => q p.1).map fun p => some p.2)
  | [], [], _, _, r => r
  | (k, v) :: ws, (k', y) :: kvs, S, e, .cons (S1 := T1) (S2 := T2) s1 s2 d r rs => by
    simp only [List.map_cons, List.cons.injEq] at e
    obtain ⟨rfl, e⟩ := e
    have ih := RS.filt (q := q) e rs
    by_cases h : q k = true
    · rw [List.filter_cons_of_pos (by exact h), List.filter_cons_of_pos (by exact h)]
      exact .cons s1 s2 d r ih
    · rw [List.filter_cons_of_neg (by exact h), List.filter_cons_of_neg (by exact h)]
      exact ih.tr (.refl B) s2 fun _ _ _ e => e
theorem filt_keys {κ α β : Type} {q : κ → Bool} : ∀ {ws : List (κ × α)} {kvs : List (κ × β)}, ws.map (·.1) = kvs.map (·.1) → (ws.filter fun p => q p.1).map (·.1) = (kvs.filter fun p => q p.1).map (·.1)
  | [], [], _ => rfl
  | (k, v) :: ws, (k', y) :: kvs, e => by
    simp only [List.map_cons, List.cons.injEq] at e
    obtain ⟨rfl, e⟩ := e
    have ih := filt_keys (q := q) e
    by_cases h : q k = true
    · rw [List.filter_cons_of_pos (by exact h), List.filter_cons_of_pos (by exact h), List.map_cons, List.map_cons, ih]
    · rw [List.filter_cons_of_neg (by exact h), List.filter_cons_of_neg (by exact h), ih]
/-- te.pop(k), a dict at a place that has it -/
theorem gos_popP (ev : EvP K te i p) {kvs : List (Key × O)} (e0 : Γ[i]? = some (some o1)) (g : o1.getP p = some (.od kvs)) (ok : okPth K o1 p)
    (h : ∀ F' B', Go K F' B' ty [] (fzE Γ) fun okk _ => ∃ k, okk = .d (kD k) ∧ (kval kvs k).isSome = true ∧ Dd.nx (Γ.set i (some (o1.setP (.od (kvs.filter fun kv => decide (kv.1 ≠ k))) p)))) :
    GoS K F B0 (tDrop (tDPop1 te ty)) T Γ Dd := fun τ σ H De ⟨B, S, w⟩ s => by
  obtain ⟨v, d, ws, a1, wk, hc, ek⟩ := w.cellD e0 g ok
  obtain ⟨Bf, w0, back⟩ := w.lendX
  refine ev σ H v _ _ a1 wk ⟨d, rfl, .inl ⟨ws, .inl hc⟩, h H Bf [] σ H _ w0 fun v2 o2 Γ2 H2 ⟨k, eo, hk, h2⟩ how => ?_⟩
  subst eo
  obtain ⟨ex, hb⟩ := back v2 _ Γ2 H2 how
  obtain ⟨B2, S2, w2⟩ := hb (by cases k <;> rfl)
  obtain ⟨rk, S3, _, w3⟩ := w2.popd
  have ekk := rk.kV
  subst ekk
  have hc2 := ex _ _ hc
  rw [kval_keys ek] at hk
  obtain ⟨u, hu⟩ := Option.isSome_iff_exists.mp hk
  obtain ⟨v', u', T1, a2, wk6, r6, _, f6⟩ := w3.mutP1 e0 g ok
  rw [a1] at a2
  cases a2
  have eu := Wlk.det (wk.ex ex) wk6
  subst eu
  cases r6 with
  | @od _ S6 _ ws2 _ ha hs hn hc6 nd ek2 rs =>
  have ews : ws2 = ws := by
    rw [hc2] at hc6
    cases hc6; rfl
  subst ews
  refine ⟨ws2, k, u, hc2, rfl, hu, ?_⟩
  obtain ⟨S', w5, _⟩ := f6 d (.dK (dropK ws2 k)) (.od (kvs.filter fun kv => decide (kv.1 ≠ k))) ha (.od (S' := S6) ha hs hn upd_same (nd.sublist (List.filter_sublist.map _)) (filt_keys (q := fun z => decide (z ≠ k)) ek2) ((RS.filt (q := fun z => decide (z ≠ k)) ek2 rs).at fun b x z q => by
    rw [upd_ne (fun e => by subst e; exact hn z)]; exact q))
  exact s.nx σ _ _ h2 ⟨_, _, w5⟩
end
end SK
namespace SK
open PySem PySem.Spec PyProof.Rows L2
section
variable {K : PySem.W.Frag} {F B0 H B : Hp} {τ : List V} {T : List O} {σ : L2.St} {Γ : En} {S : Ad} {v w : V} {o oe o1 : O} {i : Nat} {te ti ty tv : TE} {posts1 : En → Prop} {Dd : EG} {post : O → En → Prop} {Ci a : Addr} {fl : List Str} {f : Str} {fs : Fs} {kvs : List (Key × O)}
theorem evp_f1 : EvP K (tFld K (tVar i) f) i [.fld f] := evp_fld (p := []) evp_var
theorem getP_f1 (hl : fs.lookup f = some o) : (O.oi a Ci fs).getP [.fld f] = some o := by
  show (match fs.lookup f with | some u => u.getP [] | none => none) = _
  rw [hl]; rfl
theorem okP_f1 (R : Rec K Ci fl) (hl : fs.lookup f = some o) (hf : fl.contains f = true) : okPth K (O.oi a Ci fs) [.fld f] := by
  refine ⟨⟨R.cls, R.no f hf⟩, ?_⟩
  show (match fs.lookup f with | some u => okPth K u [] | none => False)
  rw [hl]; trivial
theorem setP_f1 (hl : fs.lookup f = some o) : (O.oi a Ci fs).setP oe [.fld f] = .oi a Ci (SK.fput f oe fs) := by
  show (match fs.lookup f with | some u => O.set1 (O.oi a Ci fs) (u.setP oe []) (.fld f) | none => _) = _
  rw [hl]; rfl
/-- x.f.setdefault(k, []).append(e) -/
theorem gos_setdAppF (R : Rec K Ci fl) (e0 : Γ[i]? = some (some (.oi a Ci fs))) (hl : fs.lookup f = some (.od kvs)) (hf : fl.contains f = true) (hz : kvs.length < 100000)
    (h : ∀ F' B', Go K F' B' ty [] (fzE Γ) fun okk _ => ∃ k ys, okk = .d (kD k) ∧ lstAt kvs k ys ∧ ys.length < 100000 ∧
      ∀ F' B', Go K F' B' tv [] (fzE (Γ.set i none)) fun oe _ => oe.lf = true ∧ Dd.nx (Γ.set i (some (.oi a Ci (SK.fput f (.od (dput kvs k (.ol (ys ++ [oe])))) fs))))) :
    GoS K F B0 (tDrop (tBM K "list" rAppend (tDSetd (tFld K (tVar i) f) ty (tLst tNil)) (tCons tv tNil))) T Γ Dd := by
  refine gos_setdApp evp_f1 e0 (getP_f1 hl) (okP_f1 R hl hf) hz ?_
  simp only [setP_f1 hl]
  exact h
/-- x.f.pop(k) -/
theorem gos_popF (R : Rec K Ci fl) (e0 : Γ[i]? = some (some (.oi a Ci fs))) (hl : fs.lookup f = some (.od kvs)) (hf : fl.contains f = true)
    (h : ∀ F' B', Go K F' B' ty [] (fzE Γ) fun okk _ => ∃ k, okk = .d (kD k) ∧ (kval kvs k).isSome = true ∧ Dd.nx (Γ.set i (some (.oi a Ci (SK.fput f (.od (kvs.filter fun kv => decide (kv.1 ≠ k))) fs))))) :
    GoS K F B0 (tDrop (tDPop1 (tFld K (tVar i) f) ty)) T Γ Dd := by
  refine gos_popP evp_f1 e0 (getP_f1 hl) (okP_f1 R hl hf) ?_
  simp only [setP_f1 hl]
  exact h
/-- x.f[k] = e -/
theorem gog_setDF (R : Rec K Ci fl) (e0 : Γ[i]? = some (some (.oi a Ci fs))) (hl : fs.lookup f = some (.od kvs)) (hf : fl.contains f = true) (hz : kvs.length < 100000)
    (h : ∀ F' B', Go K F' B' ti [] (fzE Γ) fun okk _ => ∃ k, okk = .d (kD k) ∧ posts1 (Γ.set i (some (.oi a Ci (SK.fput f (.od (dput kvs k o)) fs))))) : GoG K F B0 (gSub (tFld K (tVar i) f) ti rSetG) o T Γ posts1 := by
  refine gog_setDP evp_f1 e0 (getP_f1 hl) (okP_f1 R hl hf) hz ?_
  simp only [setP_f1 hl]
  exact h
/-- xs[n] = e -/
theorem gog_setL {xs : List O} (e0 : Γ[i]? = some (some (.ol xs)))
    (h : ∀ F' B', Go K F' B' ti [] (fzE Γ) fun okk _ => ∃ n : Int, okk = .d (.int n) ∧ 0 ≤ n ∧ n < xs.length ∧ posts1 (Γ.set i (some (.ol (xs.set n.toNat o))))) : GoG K F B0 (gSub (tVar i) ti rSetG) o T Γ posts1 :=
  gog_setLP (p := []) evp_var e0 rfl trivial h
end
end SK
namespace SK
open PySem PySem.Spec PyProof.Rows L2
def rIsBl : R2 := fun x y H Q => ∃ a b, x = .bl a ∧ y = .bl b ∧ Q (.bl (decide (a = b))) H
def rNotBl : R2 := fun x y H Q => ∃ a b, x = .bl a ∧ y = .bl b ∧ Q (.bl (!decide (a = b))) H
section
variable {K : PySem.W.Frag} {F B0 : Hp} {T : List O} {Γ : En} {post : O → En → Prop}
theorem o2_isBl {a b : Bool} (h : post (.d (.bl (decide (a = b)))) Γ) : Op2 K F B0 rIsBl (.bl a) (.bl b) T Γ post := fun τ σ H B S v1 v2 Q w r1 r2 k => by
  cases r1; cases r2
  exact ⟨a, b, rfl, rfl, k _ _ Γ H h ⟨_, _, w.pushd .bl⟩⟩
theorem o2_notBl {a b : Bool} (h : post (.d (.bl (!decide (a = b)))) Γ) : Op2 K F B0 rNotBl (.bl a) (.bl b) T Γ post := fun τ σ H B S v1 v2 Q w r1 r2 k => by
  cases r1; cases r2
  exact ⟨a, b, rfl, rfl, k _ _ Γ H h ⟨_, _, w.pushd .bl⟩⟩
end
end SK
namespace SK
open PySem PySem.Spec PyProof.Rows L2
def tVarM (i : Nat) : TE := tVar i
theorem pe_mv {X : Cx} {e : Expr} {i : Nat} (h : PE X e (tVar i)) : PE X e (tVarM i) := h
section
variable {K : PySem.W.Frag} {F B0 : Hp} {T : List O} {Γ : En} {post : O → En → Prop} {i : Nat} {o : O}
theorem go_varM (e : Γ[i]? = some (some o)) (h : post o (Γ.set i none)) : Go K F B0 (tVarM i) T Γ post := go_move e h
end
theorem lfOLm {α : Type} {e : α → D} (h : ∀ x, (e x).lf = true) : ∀ {xs : List α}, (O.ol ((xs.map e).map O.d)).lf = true
  | [] => rfl
  | x :: xs => by
    have := lfOLm h (xs := xs)
    simp only [O.lf, List.map_cons, lfOL, h x, Bool.true_and] at this ⊢
    exact this
end SK
namespace SK
open PySem PySem.Spec PyProof.Rows L2
theorem gos_sIN {K : PySem.W.Frag} {F B0 : Hp} {T : List O} {Γ : En} {Dd : EG} {tt : TT} {u t2 : TS} (h : GoS K F B0 (tIfS tt tNever u) T Γ { Dd with nx := fun Γ1 => GoS K F B0 t2 T Γ1 Dd }) : GoS K F B0 (tSeq (tIfS tt tNever u) t2) T Γ Dd := gos_seq h
end SK
namespace SK
open PySem PySem.Spec PyProof.Rows L2
/-- dicts whose keys are numbers -/
abbrev IM (β : Type) := List (Int × β)
section
variable {β γ : Type} {f : β → D} {fo : β → O} {l : IM β} {k e : Int} {x : β}
def imK (f : β → D) (l : IM β) : List (Key × D) := l.map fun p => (Sum.inl p.1, f p.2)
def imO (f : β → O) (l : IM β) : List (Key × O) := l.map fun p => (Sum.inl p.1, f p.2)
theorem imK_od : (imK f l).map (fun p => (p.1, O.d p.2)) = imO (fun x => O.d (f x)) l := by simp [imK, imO]
theorem dval_mem {κ α : Type} [DecidableEq κ] {k : κ} {l : List (κ × α)} : (dval l k).isSome = true ↔ k ∈ l.map (·.1) := by
  unfold dval
  rw [Option.isSome_map, List.find?_isSome]
  simp
theorem dval_none {κ α : Type} [DecidableEq κ] {k : κ} {l : List (κ × α)} : dval l k = none ↔ k ∉ l.map (·.1) := by
  rw [← dval_mem]; cases dval l k <;> simp
end
end SK
namespace SK
open PySem PySem.Spec PyProof.Rows L2
section
variable {K : PySem.W.Frag} {F B0 : Hp} {T : List O} {Γ : En} {post : O → En → Prop} {te tl : TE} {tt : TT} {j1 j2 j3 : Nat}
/-- dict(d), keys numbers -/
theorem oa_dictI {β : Type} {f : β → D} {l : IM β} (h : post (.od (imO (fun x => O.d (f x)) l)) Γ) : OpA K F B0 rDictD [.dic (imK f l)] T Γ post := oa_dictD (by rw [imK_od]; exact h)
end
end SK
namespace SK
open PySem PySem.Spec PyProof.Rows L2
/-- sorted(set(e)), e a list of ints -/
def tSortSet (K : PySem.W.Frag) (te : TE) : TE := fun σ H Q => te σ H fun v H1 => ∃ (a : Addr) (ns : List Int), v = .ref a ∧ SqL K H1 a (ns.map V.int) ∧ ns.length ≤ 4000 ∧
  ∀ (ms : List Int) (q : Addr), ms.Pairwise (· < ·) → (∀ k, k ∈ ms ↔ k ∈ ns) → H1 q = none → Q (.ref q) (upd H1 q (.lst (ms.map V.int)))
section
variable {K : PySem.W.Frag} {F B0 : Hp} {T : List O} {Γ : En} {post : O → En → Prop} {te : TE}
theorem go_sortSet (h : Go K F B0 te T Γ fun o Γ1 => ∃ ns : List Int, o.fz.seq? = some (ns.map D.int) ∧ ns.length ≤ 4000 ∧ ∀ ms : List Int, ms.Pairwise (· < ·) → (∀ k, k ∈ ms ↔ k ∈ ns) → post (.ol ((ms.map D.int).map O.d)) Γ1) :
    Go K F B0 (tSortSet K te) T Γ post := fun τ σ H Q hw k =>
  h τ σ H _ hw fun v o Γ1 H1 ⟨ns, q1, q2, q3⟩ ⟨_, _, w1⟩ => by
    obtain ⟨_, _, w2, ex⟩ := w1.fz
    obtain ⟨r, _, _, w3⟩ := w2.popd
    generalize o.fz = y at r q1
    obtain ⟨a, us, rfl, sq, rl⟩ := r.seqL q1
    have eu := RL.ints rl
    subst eu
    refine ⟨a, ns, rfl, w3.pu.sqL sq, q2, fun ms q hp hm hn => ?_⟩
    obtain ⟨S2, w4⟩ := w3.newl hn (RL.ofInts ms)
    exact k _ _ _ _ (q3 ms hp hm) ⟨_, _, w4⟩
end
end SK
namespace SK
open PySem PySem.Spec PyProof.Rows L2
end SK
namespace SK
open PySem PySem.Spec PyProof.Rows L2
def gLst (K : PySem.W.Frag) (n : Nat) (t : TGs) : TG := fun v σ H Q => ∃ a xs, v = .ref a ∧ SqL K H a xs ∧ xs.length = n ∧ t xs σ H Q
section
variable {K : PySem.W.Frag} {F B0 H B : Hp} {τ : List V} {T : List O} {σ : L2.St} {Γ : En} {S : Ad} {o : O} {a : Addr} {i : Nat} {posts1 : En → Prop}
def GoGsO (K : PySem.W.Frag) (F B0 : Hp) (g : TGs) (os : List O) (T : List O) (Γ : En) (post : En → Prop) : Prop := ∀ (τ : List V) (σ : L2.St) (H : Hp) (vs : List V) (Q : L2.St → Hp → Prop), Ho K F B0 (vs ++ τ) (os ++ T) σ Γ H → vs.length = os.length →
  (∀ σ' Γ' H', post Γ' → Ho K F B0 τ T σ' Γ' H' → Q σ' H') → g vs σ H Q
/-- a list's parts, each by itself -/
theorem HW.spill {os : List O} {v : V} (h : HW K F B0 (v :: τ) (.ol os :: T) σ Γ H B S) : ∃ a vs S', v = .ref a ∧ H a = some (.lst vs) ∧ vs.length = os.length ∧ HW K F B0 (vs ++ τ) (os ++ T) σ Γ H B S' := by
  obtain ⟨S1, S2, c1, c2, c3, ro, w2⟩ := h.pop
  cases ro with
  | @ol _ S3 a vs _ ha hs hn hc rs =>
  have hl : vs.length = os.length := by have := RS.len rs; simpa using this
  refine ⟨a, vs, fun b => S3 b ∨ S2 b, rfl, hc, hl, w2.fr, w2.pu, w2.b0, fun b z => z.elim (fun z => h.ow b (c1 b (hs b z))) (fun z => h.ow b (c2 b z)), w2.nw, ?_, by simp [w2.lt, hl], w2.tp⟩
  rw [List.map_append, List.map_append, List.append_assoc, List.append_assoc]
  exact RS.join w2.rs (fun b z => c3 b (hs b z)) rs
theorem gog_lunO {g : TGs} {n : Nat} (h : ∃ os, o = .ol os ∧ os.length = n ∧ GoGsO K F B0 g os T Γ posts1) : GoG K F B0 (gLst K n g) o T Γ posts1 := fun τ σ H v Q ⟨B, S, w⟩ k => by
  obtain ⟨os, rfl, hn, h⟩ := h
  obtain ⟨a, vs, S', rfl, hc, hl, w2⟩ := w.spill
  exact ⟨a, vs, rfl, SqL.of hc, by rw [hl, hn], h τ σ H vs Q ⟨_, _, w2⟩ hl k⟩
theorem gogso_nil (h : posts1 Γ) : GoGsO K F B0 gNil [] T Γ posts1 := fun τ σ H vs Q w hl k => by
  obtain rfl : vs = [] := List.length_eq_zero_iff.mp hl
  exact ⟨rfl, k σ Γ H h w⟩
theorem gogso_name {os : List O} {g : TGs} (hi : i < Γ.length) (h : GoGsO K F B0 g os T (Γ.set i (some o)) posts1) : GoGsO K F B0 (gCons (gName i) g) (o :: os) T Γ posts1 := fun τ σ H vs Q ⟨B, S, w⟩ hl k => by
  match vs, hl with
  | v :: vs, hl =>
    obtain ⟨S', w2⟩ := w.put hi
    exact ⟨v, vs, rfl, h τ _ H vs Q ⟨_, _, w2⟩ (by simpa using hl) k⟩
end
end SK
namespace SK
open PySem PySem.Spec PyProof.Rows L2
section
variable {K : PySem.W.Frag} {F B0 H B : Hp} {τ : List V} {T : List O} {σ : L2.St} {Γ : En} {S : Ad} {o : O} {i : Nat} {post : O → En → Prop} {td ty te : TE}
/-- d.get(k) -/
theorem go_dget1 (h : Go K F B0 td T Γ fun o Γ1 => ∃ kvs, o.fz = .dic kvs ∧ Go K F B0 ty (.d (.dic kvs) :: T) Γ1 fun ok Γ2 => ∃ k, ok = .d (kD k) ∧ post (.d ((dval kvs k).getD .non)) Γ2) :
    Go K F B0 (tDGet1 td ty) T Γ post := fun τ σ H Q hw kk =>
  h τ σ H _ hw fun v1 o1 Γ1 H1 ⟨kvs, e1, h1⟩ ⟨_, _, w1⟩ => by
    obtain ⟨B2, S2, w1, _⟩ := w1.fz
    rw [e1] at w1
    obtain ⟨r1, _⟩ := w1.popd
    cases r1 with | @dic a ws _ hd _ rk =>
    refine ⟨a, rfl, .inl ⟨ws, w1.pu.rd hd⟩, h1 _ σ H1 _ ⟨_, _, w1⟩ fun v2 o2 Γ2 H2 ⟨k, e2, h2⟩ ⟨_, _, w2⟩ => ?_⟩
    subst e2
    obtain ⟨r2, _, _, w4⟩ := w2.popd
    obtain ⟨r1, _, _, w5⟩ := w4.popd
    have ek := r2.kV
    subst ek
    cases r1 with | @dic _ ws2 _ hd2 _ rk2 =>
    refine ⟨valV ws2 k, .inl ⟨ws2, k, w5.pu.rd hd2, rfl, rfl⟩, ?_⟩
    rcases rk2.val (k := k) with ⟨u, z, q1, q2, r⟩ | ⟨q1, q2⟩
    · rw [q1]; rw [q2] at h2; exact kk _ _ _ _ h2 ⟨_, _, w5.pushd r⟩
    · rw [q1]; rw [q2] at h2; exact kk _ _ _ _ h2 ⟨_, _, w5.pushd .non⟩
end
end SK
namespace SK
open PySem PySem.Spec PyProof.Rows L2
/-- __init__ of two fields -/
def spX2 (K : PySem.W.Frag) (C : Addr) (f1 f2 : Str) : Sp := fun vs H Q _ => ∃ a y1 y2, vs = [.ref a, y1, y2] ∧ H a = some (exo a C none) ∧
  ∀ dx H', H dx = none → dx ≠ a → H' a = some (exo a C (some dx)) → H' dx = some (exd dx [(f2, y2), (f1, y1)]) → (∀ b, b ≠ a → b ≠ dx → H' b = H b) → Q .non H'
def tRaiseF (W : WX) (C : Addr) (sp : Sp) (ta : TA) : TS := fun _ σ H => tMkO C sp [] ta σ H fun cls d H' => W cls d σ H'
section
variable {K : PySem.W.Frag} {F B0 H B H' : Hp} {τ : List V} {T : List O} {σ : L2.St} {Γ : En} {S : Ad} {Dd : EG} {ta : TA} {te : TE} {post : O → En → Prop}
theorem HW.grow (w : HW K F B0 τ T σ Γ H B S) (e : Ex H H') : HW K F B0 τ T σ Γ H' B S :=
  ⟨w.fr.trans e, w.pu.trans e, w.b0, fun a z => ⟨(w.ow a z).1, (w.ow a z).2.1, fun q => (w.ow a z).2.2 (e.back q)⟩, w.nw, w.rs.tr (.refl B) (fun _ z => z) fun a u _ q => e a u q, w.lt, w.tp⟩
/-- raise C(x1, x2) -/
theorem gos_raiseF {W : WX} {XX : Addr → Option (List (Str × D)) → En → Prop} {C : Addr} {f1 f2 : Str} (wx : ∀ Cc fs d σ Γ H, XX Cc fs Γ → HoX K F B0 σ Γ H d fs → W (.ref Cc) d σ H)
    (h : GoA K F B0 ta T Γ fun xs Γ1 => ∃ x1 x2, xs = [x1, x2] ∧ XX C (some [(f2, x2), (f1, x1)]) Γ1) : GoS K F B0 (tRaiseF W C (spX2 K C f1 f2) ta) T Γ Dd := fun τ σ H De hw s =>
  h τ σ H _ hw fun vs xs Γ1 H1 ⟨x1, x2, exs, hX⟩ ⟨B1, S1, w1⟩ hl => by
    subst exs
    obtain ⟨rl, S2, w⟩ := w1.args hl
    obtain ⟨v1, v2, rfl, r1, r2⟩ := rl.two
    refine ⟨Nat.le_of_ble_eq_true rfl, fun a ha => ⟨a, v1, v2, rfl, upd_same, fun dx H' hd ne e1 e2 e3 => ⟨rfl, dx, _, e1, e2, ?_, ?_⟩⟩⟩
    · rw [upd_ne ne] at hd; exact hd
    · rw [upd_ne ne] at hd
      have eH : upd (del H' a) dx (.xd [(f2, v2), (f1, v1)]) = upd H1 dx (.xd [(f2, v2), (f1, v1)]) := by
        funext b
        by_cases q1 : b = dx
        · subst q1; rw [upd_same, upd_same]
        · rw [upd_ne q1, upd_ne q1]
          by_cases q2 : b = a
          · subst q2; rw [del_same, ha]
          · rw [del_ne q2, e3 b q2 q1, upd_ne q2]
      rw [eH]
      exact wx C _ (some dx) σ Γ1 _ hX ⟨B1, _, (w.grow (Ex.new hd)).bareB, _, upd_same, .cons r2 (.cons r1 .nil)⟩
end
end SK
namespace SK
open PySem PySem.Spec PyProof.Rows L2
end SK
namespace SK
open PySem PySem.Spec PyProof.Rows L2
def tDUpd (td te : TE) : TE := fun σ H Q => td σ H fun x H1 => ∃ a, x = .ref a ∧ IsD H1 a ∧ te σ H1 fun y H2 => ∃ b kvs more, H2 a = some (.dK kvs) ∧ y = .ref b ∧ a ≠ b ∧ Rd H2 b (.dK more) ∧ kvs.length + more.length ≤ 100000 ∧ Q .non (upd H2 a (.dK (mergeK kvs more)))
section
variable {K : PySem.W.Frag} {F B0 H B : Hp} {τ : List V} {T : List O} {σ : L2.St} {Γ : En} {S : Ad} {i : Nat} {te : TE} {Dd : EG}
theorem RS.merge : ∀ {us : List (Key × V)} {more : List (Key × D)} {ws : List (Key × V)} {kvs : List (Key × O)}, RK K B us more → (kvs.map (·.1)).Nodup → ws.map (·.1) = kvs.map (·.1) → RS K B H S (ws.map fun p => some p.2) (kvs.map fun p => some p.2) →
    ((more.foldl (fun acc p => SK.dput acc p.1 (O.d p.2)) kvs).map (·.1)).Nodup ∧ (mergeK ws us).map (·.1) = (more.foldl (fun acc p => SK.dput acc p.1 (O.d p.2)) kvs).map (·.1) ∧ RS K B H S ((mergeK ws us).map fun p => some p.2) ((more.foldl (fun acc p => SK.dput acc p.1 (O.d p.2)) kvs).map fun p => some p.2)
  | [], _, ws, kvs, .nil, nd, e, rs => ⟨nd, e, rs⟩
  | (k, u) :: us, _, ws, kvs, .cons (x := x) (xs := xs) r t, nd, e, rs => by
    have r1 := RS.dput (k := k) (So := fun _ => False) (RO.d r : RO K B H (fun _ => False) u (.d x)) nd e rs (fun _ _ z => z)
    have r2 : RS K B H S ((SK.dput ws k u).map fun p => some p.2) ((SK.dput kvs k (O.d x)).map fun p => some p.2) := r1.tr (.refl B) (fun _ z => z.elim id False.elim) fun _ _ _ e => e
    have q := RS.merge t (SK.dput_nodup (k := k) (v := O.d x) nd) (SK.dput_keys (k := k) (v := u) (x := O.d x) e) r2
    rw [List.foldl_cons]
    have em : mergeK ws ((k, u) :: us) = mergeK (SK.dput ws k u) us := by
      show List.foldl _ (putK ws k u) us = _
      rw [putK_dput]; rfl
    rw [em]
    exact q
theorem gos_dupd (h : Go K F B0 te T Γ fun o Γ1 => ∃ more kvs, o.fz = .dic more ∧ Γ1[i]? = some (some (.od kvs)) ∧ kvs.length + more.length ≤ 100000 ∧ Dd.nx (Γ1.set i (some (.od (more.foldl (fun acc p => SK.dput acc p.1 (O.d p.2)) kvs))))) (h0 : ∃ kvs, Γ[i]? = some (some (.od kvs))) :
    GoS K F B0 (tDrop (tDUpd (tVar i) te)) T Γ Dd := fun τ σ H De hw s => by
  obtain ⟨B, S, w⟩ := hw
  obtain ⟨kvs0, e0⟩ := h0
  obtain ⟨v, S1, a1, r1, _, _⟩ := w.mut1 e0
  cases r1 with
  | @od _ _ a vs _ _ _ _ hc _ _ _ =>
  refine ⟨.ref a, a1, a, rfl, .inl ⟨_, .inl hc⟩, h τ σ H _ ⟨B, S, w⟩ fun v2 o2 Γ2 H2 ⟨more, kvs, ez, e2, hz, h2⟩ ⟨B2, S2, w2⟩ => ?_⟩
  obtain ⟨B3, S3, w3, r3, _⟩ := w2.fzd
  rw [ez] at r3
  cases r3 with
  | @dic b us _ hb nd2 rk =>
  obtain ⟨v', S5, a2, r2, _, f⟩ := w3.mut1 e2
  rw [a1] at a2
  cases a2
  cases r2 with
  | @od _ S4 _ ws _ ha hs hn hc2 nd ek rs =>
  have ne : a ≠ b := fun e => by
    subst e
    obtain ⟨v0, T1, T2, b1, b2, b3, b4, b5, _⟩ := w3.slot e2
    rw [a1] at b1
    cases b1
    cases b5 with
    | @od _ _ _ _ _ ha5 _ _ _ _ _ _ =>
    have q := (w3.ow _ (b2 _ ha5)).2.1
    rcases hb with hb | ⟨_, hb⟩ <;> · rw [q] at hb; cases hb
  have hl1 : ws.length = kvs.length := by have := congrArg List.length ek; simpa using this
  have hl2 : us.length = more.length := rk.length
  refine ⟨b, ws, us, hc2, rfl, ne, w3.pu.rd hb, by omega, ?_⟩
  obtain ⟨q1, q2, q3⟩ := RS.merge rk nd ek rs
  obtain ⟨S6, w6⟩ := f a (.dK (mergeK ws us)) (.od (more.foldl (fun acc p => SK.dput acc p.1 (O.d p.2)) kvs)) ha (.od (S' := S4) ha hs hn upd_same q1 q2 (q3.tr (.refl _) (fun _ z => z) fun c u hcc e => by rw [upd_ne (fun z : c = a => hn (z ▸ hcc))]; exact e))
  exact s.nx _ _ _ h2 ⟨_, _, w6⟩
end
end SK
namespace SK
open PySem PySem.Spec PyProof.Rows L2
def tIxO (K : PySem.W.Frag) (i : Nat) (ti : TE) : TE := tOp (rIxG K) (tVar i) ti
section
variable {K : PySem.W.Frag} {F B0 H B : Hp} {τ : List V} {T : List O} {σ : L2.St} {Γ : En} {S : Ad} {i : Nat} {ti : TE} {post : O → En → Prop}
theorem RS.getAt {n : Nat} {y : D} : ∀ {vs : List V} {xs : List O} {S : Ad}, RS K B H S (vs.map some) (xs.map some) → xs[n]? = some (.d y) → ∃ u, vs[n]? = some u ∧ R K B u y := fun {vs xs S} r h => by
  have h2 : (xs.map some)[n]? = some (some (O.d y)) := by rw [List.getElem?_map, h]; rfl
  obtain ⟨v, S1, S2, a, _, _, _, ro, _⟩ := r.focus h2
  rw [List.getElem?_map] at a
  cases e : vs[n]? with
  | none => rw [e] at a; cases a
  | some u => rw [e] at a; cases a; cases ro with | d r => exact ⟨_, rfl, r⟩
theorem go_ixO (e0 : ∃ xs, Γ[i]? = some (some (.ol xs))) (h : Go K F B0 ti T Γ fun o Γ1 => ∃ (n : Int) (xs : List O) (y : D), o = .d (.int n) ∧ Γ1[i]? = some (some (.ol xs)) ∧ atI xs n = some (.d y) ∧ post (.d y) Γ1) : Go K F B0 (tIxO K i ti) T Γ post := fun τ σ H Q ⟨B, S, w⟩ k => by
  obtain ⟨xs0, e0⟩ := e0
  obtain ⟨v, S1, a1, r1, _, _⟩ := w.mut1 e0
  cases r1 with
  | @ol _ _ a vs _ _ _ _ hc _ =>
  refine ⟨.ref a, a1, h τ σ H _ ⟨B, S, w⟩ fun v2 o2 Γ2 H2 ⟨n, xs, y, eo, e2, ex, hp⟩ ⟨B2, S2, w2⟩ => ?_⟩
  subst eo
  obtain ⟨r2, S3, _, w3⟩ := w2.popd
  cases r2
  obtain ⟨v', S5, a2, r3, _, f⟩ := w3.mut1 e2
  rw [a1] at a2
  cases a2
  cases r3 with
  | @ol _ S4 _ us _ ha hs hn hc2 rs =>
  have len : us.length = xs.length := by have := RS.len rs; simpa using this
  unfold atI at ex
  cases q : ixN xs.length n with
  | none => rw [q] at ex; cases ex
  | some j =>
    rw [q] at ex
    obtain ⟨u, hu, ru⟩ := RS.getAt rs ex
    have hu2 : atI us n = some u := by unfold atI; rw [len, q]; exact hu
    exact .inl (.inl ⟨a, us, n, u, rfl, rfl, SqL.of hc2, hu2, k _ _ _ _ hp ⟨_, _, w3.pushd ru⟩⟩)
end
end SK
namespace SK
open PySem PySem.Spec PyProof.Rows L2
def rEqN (K : PySem.W.Frag) : R2 := fun x y H Q => ∃ a b xs, x = .ref a ∧ y = .ref b ∧ SqL K H a xs ∧ SqL K H b [] ∧ Q (.bl xs.isEmpty) H
def rNeN (K : PySem.W.Frag) : R2 := fun x y H Q => ∃ a b xs, x = .ref a ∧ y = .ref b ∧ SqL K H a xs ∧ SqL K H b [] ∧ Q (.bl (!xs.isEmpty)) H
section
variable {K : PySem.W.Frag} {F B0 : Hp} {T : List O} {Γ : En} {post : O → En → Prop} {x : D} {xs : List D}
theorem RL.emp {B : Hp} {vs : List V} {xs : List D} (r : RL K B vs xs) : vs.isEmpty = xs.isEmpty := by cases r <;> rfl
theorem o2_eqN (q : x.seq? = some xs) (h : post (.d (.bl xs.isEmpty)) Γ) : Op2 K F B0 (rEqN K) x (.lst []) T Γ post := fun τ σ H B S v1 v2 Q w r1 r2 k => by
  obtain ⟨a, us, rfl, sq, rl⟩ := r1.seqL q
  obtain ⟨b, ws, rfl, sq2, rl2⟩ := r2.seqL rfl
  cases rl2
  exact ⟨a, b, us, rfl, rfl, w.pu.sqL sq, w.pu.sqL sq2, k _ _ _ _ h ⟨_, _, w.pushd (by rw [rl.emp]; exact .bl)⟩⟩
theorem o2_neN (q : x.seq? = some xs) (h : post (.d (.bl (!xs.isEmpty))) Γ) : Op2 K F B0 (rNeN K) x (.lst []) T Γ post := fun τ σ H B S v1 v2 Q w r1 r2 k => by
  obtain ⟨a, us, rfl, sq, rl⟩ := r1.seqL q
  obtain ⟨b, ws, rfl, sq2, rl2⟩ := r2.seqL rfl
  cases rl2
  exact ⟨a, b, us, rfl, rfl, w.pu.sqL sq, w.pu.sqL sq2, k _ _ _ _ h ⟨_, _, w.pushd (by rw [rl.emp]; exact .bl)⟩⟩
end
theorem emp_map {α β : Type} {f : α → β} {xs : List α} : (xs.map f).isEmpty = xs.isEmpty := by cases xs <;> rfl
end SK
namespace SK
open PySem PySem.Spec PyProof.Rows L2
theorem gos_sIF {K : PySem.W.Frag} {F B0 : Hp} {T : List O} {Γ : En} {Dd : EG} {tt : TT} {u t2 : TS} {W : WX} {C : Addr} {sp : Sp} {ta : TA} (h : GoS K F B0 (tIfS tt (tRaiseF W C sp ta) u) T Γ { Dd with nx := fun Γ1 => GoS K F B0 t2 T Γ1 Dd }) : GoS K F B0 (tSeq (tIfS tt (tRaiseF W C sp ta) u) t2) T Γ Dd := gos_seq h
end SK
namespace SK
open PySem PySem.Spec PyProof.Rows L2
def tTryAsE (K : PySem.W.Frag) (c : Value) (i : Nat) (ts : Addr → Value → Option Addr → TS) (Wout : WX) (tb : WX → TS) (u : TS) : TS := fun De σ H => tb (wAs K c i ts Wout De) { De with nx := u De } σ H
section
variable {K : PySem.W.Frag} {F B0 : Hp} {T : List O} {Γ : En} {Dd : EG} {c : Value} {ts : Addr → Value → Option Addr → TS} {Wout : WX} {tw : WX → TS} {u t2 : TS} {i : Nat}
theorem gos_sTAE (h : GoS K F B0 (tTryAsE K c i ts Wout tw u) T Γ { Dd with nx := fun Γ1 => GoS K F B0 t2 T Γ1 Dd }) : GoS K F B0 (tSeq (tTryAsE K c i ts Wout tw u) t2) T Γ Dd := gos_seq h
end
end SK
namespace SK
open PySem PySem.Spec PyProof.Rows L2
end SK
namespace SK
open PySem PySem.Spec PyProof.Rows L2
def tMake0 (C : Addr) : TE := fun σ H Q => ∀ x dx, H x = none → H dx = none → dx ≠ x → Q (.ref x) (upd (upd H dx (.own x)) x (.ins C dx []))
section
variable {K : PySem.W.Frag} {F B0 H H' B B' : Hp} {τ : List V} {T : List O} {σ : L2.St} {Γ : En} {post : O → En → Prop} {te tv : TE} {Ci Di : Addr} {S : Ad} {v : V} {x : D} {fs : List (Str × D)}
theorem go_make00 (h : post (.d (.ins Ci [])) Γ) : Go K F B0 (tMake0 Ci) T Γ post := fun τ σ H Q ⟨B, S, w⟩ k => by
  intro a dx ha hdx ne
  have ex : Ex H (upd (upd H dx (.own a)) a (.ins Ci dx [])) := fun b u e => by
    have n1 : b ≠ a := fun q => by rw [q, ha] at e; cases e
    have n2 : b ≠ dx := fun q => by rw [q, hdx] at e; cases e
    rw [upd_ne n1, upd_ne n2]; exact e
  refine k _ _ Γ _ h ⟨upd B a (.ins Ci dx []), _, w.push (S' := fun _ => False) ex (.of_ex (.new (w.pu.back ha))) (fun b u e => ?_) (fun b z => ?_) (fun _ z => z.elim) (.d (.ins upd_same .nil))⟩
  · by_cases q : b = a
    · subst q; rw [upd_same] at e ⊢; exact e
    · rw [upd_ne q] at e; exact ex b u (w.pu b u e)
  · by_cases q : b = a
    · subst q; exact .inr ha
    · rw [upd_ne q] at z; exact .inl z
structure InsX (K : PySem.W.Frag) (C : Addr) : Prop where
  cl : Cls K C
  ha : PySem.W.findIn K (.ref C) "__class__" = some (some (.builtin "object.__class__"))
  hn : PySem.W.specialIn K (.builtin "object.__class__") "__get__" = some (some (.builtin "getset_descriptor.__get__"))
  htk : PySem.W.takesIn K (.builtin "object.__class__") = some true
  hm : PySem.W.mroIn K C (.type "object") = some true
theorem oa_isiO {b : Bool} (c : InsX K Ci) (q : PySem.W.kitOne K (.ref Ci) (.ref Di) = some b) (h : post (.d (.bl b)) Γ) : OpA K F B0 (rIsiG K) [.ins Ci fs, .ref Di] T Γ post := fun τ σ H B S vs Q w rl k => by
  refine .inl ?_
  obtain ⟨v1, v2, rfl, r, r2⟩ := rl.two
  cases r2
  cases r with
  | ins hb rf => exact ⟨_, _, .ref Ci, .ref Di, b, rfl, .own Di, .base (.ins (w.pu _ _ hb) c.cl c.ha c.hn c.htk c.hm), q, k _ _ Γ H h ⟨_, _, w.pushd .bl⟩⟩
end
end SK
namespace SK
open PySem PySem.Spec PyProof.Rows L2
end SK
namespace SK
open PySem PySem.Spec PyProof.Rows L2
section
variable {K : PySem.W.Frag} {F B0 H B : Hp} {τ τs : List V} {T os : List O} {σ : L2.St} {Γ : En} {S : Ad} {o : O} {i : Nat} {te te2 : TE} {ta : TA} {post : O → En → Prop} {Dd : EG} {xs : List D} {a : Addr} {g : TG} {tb : TS}
theorem RS.pure : ∀ {vs : List V} {xs : List D} {S : Ad}, RS K B H S (vs.map some) ((xs.map O.d).map some) → RL K B vs xs
  | [], [], _, _ => .nil
  | v :: vs, x :: xs, _, .cons _ _ _ (.d r) t => .cons r t.pure
end
end SK
namespace SK
open PySem PySem.Spec PyProof.Rows L2
def tFrz (i : Nat) (s : TS) : TS := s
theorem gos_frzA {K : PySem.W.Frag} {F B0 : Hp} {T : List O} {Γ : En} {i : Nat} {s : TS} {o : O} {Dd : EG} (e : Γ[i]? = some (some o)) (h : GoS K F B0 s T (Γ.set i (some (.d o.fz))) Dd) : GoS K F B0 (tFrz i s) T Γ Dd := gos_frz i e h
end SK
namespace SK
open PySem PySem.Spec PyProof.Rows L2
section
variable {K : PySem.W.Frag} {F B0 H H' B B' : Hp} {τ : List V} {T : List O} {σ : L2.St} {Γ Γv : En} {S S1 : Ad} {v w : V} {o o' o1 u : O} {i j : Nat} {a : Addr} {p : List Sel}
/-- whatever tells o tells o' -/
def Wkn (o o' : O) : Prop := ∀ (K : PySem.W.Frag) (B H : Hp) (S : Ad) (v : V), RO K B H S v o → RO K B H S v o'
theorem Wkn.refl (o : O) : Wkn o o := fun _ _ _ _ _ r => r
theorem Wkn.trans {o1 o2 o3 : O} (a : Wkn o1 o2) (b : Wkn o2 o3) : Wkn o1 o3 := fun K B H S v r => b K B H S v (a K B H S v r)
/-- a slot told weaker -/
theorem RS.wk1 (h : Wkn o o') : ∀ {σ : List (Option V)} {Γ : List (Option O)} {S : Ad} {i : Nat}, RS K B H S σ Γ → Γ[i]? = some (some o) → RS K B H S σ (Γ.set i (some o'))
  | _, some g :: Γ, _, 0, .cons s1 s2 d r t, e => by
    cases e
    exact .cons s1 s2 d (h _ _ _ _ _ r) t
  | _, some _ :: Γ, _, i + 1, .cons s1 s2 d r t, e => .cons s1 s2 d r (t.wk1 h (by simpa using e))
  | _, none :: Γ, _, i + 1, .un r, e => .un (r.wk1 h (by simpa using e))
  | _, none :: _, _, 0, .un _, e => by cases e
theorem RS.items {xs : List O} (h : xs[i]? = some o) (w : Wkn o o') {σ : List (Option V)} (r : RS K B H S σ (xs.map some)) : RS K B H S σ ((xs.set i o').map some) := by
  rw [List.map_set]
  exact r.wk1 w (by rw [List.getElem?_map, h]; rfl)
/-- data that the slots may be taken for while all owned things are read alone -/
def Views (Γ Γv : En) : Prop := ∀ (K : PySem.W.Frag) (B H Bf : Hp) (S : Ad) (σ : List (Option V)), RS K B H S σ Γ → BLe B Bf → (∀ a u, S a → H a = some u → Bf a = some u) → RS K Bf H (fun _ => False) σ Γv
end
end SK
namespace SK
open PySem PySem.Spec PyProof.Rows L2
section
variable {K : PySem.W.Frag} {F B0 H B H' B' : Hp} {τ : List V} {T : List O} {σ : L2.St} {Γ Γv Γw : En} {S S1 : Ad} {v w : V} {o oe o1 o' u : O} {i j : Nat} {a : Addr} {p : List Sel} {te tv ti : TE} {tt : TT} {post : O → En → Prop} {postt : Bool → En → Prop} {posts1 : En → Prop} {Dd : EG} {P : O → Prop}
theorem HW.lendV (hv : Views Γ Γv) (w : HW K F B0 τ T σ Γ H B S) : ∃ Bf, Ho K H Bf [] [] σ Γv H ∧
    (∀ Γ1 H1, Ho K H Bf [] [] σ Γ1 H1 → Ho K F B0 τ T σ Γ H1) ∧
    ∀ v' o' Γ1 H1, Ho K H Bf [v'] [o'] σ Γ1 H1 → o'.lf = true → Ho K F B0 (v' :: τ) (o' :: T) σ Γ H1 := by
  obtain ⟨B, S, w, aT, _⟩ := w.allT
  obtain ⟨Sp, Ss, p1, p2, p3, rp, rsl⟩ := RS.split (σ0 := τ.map some) (Γ0 := T.map some) (by simp [w.lt]) w.rs
  obtain ⟨L, l1, r2, l3⟩ := rsl.tight
  have bn : ∀ a, L a → B a = none ∧ H a ≠ none := fun a z => (w.ow a (p2 a (l1 a z))).2
  have ex : Ex B (SK.frz B H L) := frz_ex fun a z => (bn a z).1
  have le0 : BLe B (SK.frz B H L) := .of_ex ex
  have main : ∀ v' o' Γ1 H1, Ho K H (SK.frz B H L) [v'] [o'] σ Γ1 H1 → o'.lf = true → Ho K F B0 (v' :: τ) (o' :: T) σ Γ H1 := by
    intro v' o' Γ1 H1 ⟨B1, Sr, w1⟩ lf
    obtain ⟨T1, T2, t1, t2, dj, ro, _⟩ := w1.pop
    have hB : ∀ a u, B a = some u → ¬ L a := fun a u q z => by rw [(bn a z).1] at q; cases q
    have off : ∀ a u, ¬ L a → B1 a = some u → offH B1 L a = some u := fun a u z q => by rw [offH_no z]; exact q
    have offR : ∀ a u, ¬ L a → Rd B1 a u → Rd (offH B1 L) a u := fun a u z q => q.elim (fun q => .inl (off a _ z q)) fun ⟨o, q⟩ => .inr ⟨o, off a _ z q⟩
    have nL : ∀ a u, Rd B a u → ¬ L a := fun a u q => q.elim (hB a _) fun ⟨o, q⟩ => hB a _ q
    have le : BLe B (offH B1 L) := by
      have l := le0.trans w1.b0
      exact ⟨fun a xs q => off a _ (hB a _ q) (l.te a xs q), fun a xs q => offR a _ (nL a _ q) (l.tup a xs q), fun a xs q => offR a _ (nL a _ q) (l.lst a xs q), fun a xs q => off a _ (hB a _ q) (l.ls a xs q), fun a xs q => offR a _ (nL a _ q) (l.dK a xs q), fun a xs q => offR a _ (nL a _ q) (l.dT a xs q), fun a C dx fs q => off a _ (hB a _ q) (l.ins a C dx fs q)⟩
    have pu : Ex (offH B1 L) H1 := fun a u q => by
      by_cases z : L a
      · rw [offH_at z] at q; cases q
      · rw [offH_no z] at q; exact w1.pu a u q
    have sqr : ∀ a xs, Rd B1 a (.tup xs) → ¬ L a := fun a xs q z => by
      have q2 : ∃ u, B1 a = some u ∧ (u = .tup xs ∨ ∃ o, u = .frz o (.tup xs)) := q.elim (fun q => ⟨_, q, .inl rfl⟩) fun ⟨o, q⟩ => ⟨_, q, .inr ⟨o, rfl⟩⟩
      obtain ⟨u, q3, q4⟩ := q2
      have q5 := w1.pu a u q3
      rcases l3 a z with ⟨_, y⟩ | ⟨_, y⟩ | ⟨_, y⟩ | ⟨_, _, _, y⟩ | ⟨_, y⟩ <;>
        (rw [w1.fr a _ y] at q5
         cases q5
         rcases q4 with q4 | ⟨_, q4⟩ <;> cases q4)
    have sq : LfB K B1 (offH B1 L) := ⟨fun a xs q => off a _ (sqr a xs (.inl q)) q, fun a xs q => q.imp (fun q => offR a _ (sqr a xs q) q) id⟩
    refine ⟨offH B1 L, fun a => T1 a ∨ S a, w.fr.trans w1.fr, pu, w.b0.trans le, fun a z => ?_, fun a z => ?_, .cons (S1 := T1) (S2 := S) (fun _ z => .inl z) (fun _ z => .inr z) (fun a z y => ?_) (ro.lf sq lf) (w.rs.tr le (fun _ z => z) fun a u _ q => w1.fr a u q), by simp [w.lt], w.tp⟩
    · rcases z with z | z
      · obtain ⟨q1, q2, q3⟩ := w1.ow a (t1 a z)
        refine ⟨w.fr.back q1, ?_, q3⟩
        by_cases y : L a
        · exact offH_at y
        · rw [offH_no y]; exact q2
      · obtain ⟨q1, q2, q3⟩ := w.ow a z
        refine ⟨q1, ?_, fun q => q3 (w1.fr.back q)⟩
        by_cases y : L a
        · exact offH_at y
        · rw [offH_no y]
          cases q : B1 a with
          | none => rfl
          | some u =>
            rcases w1.nw a (by rw [q]; simp) with x | x
            · rw [frz_no y] at x; exact absurd q2 x
            · exact absurd x q3
    · by_cases y : L a
      · exact absurd (offH_at y) z
      · rw [offH_no y] at z
        rcases w1.nw a z with x | x
        · rw [frz_no y] at x; exact w.nw a x
        · exact .inr (w.fr.back x)
    · exact (w.ow a y).2.2 (w1.ow a (t1 a z)).1
  refine ⟨SK.frz B H L, ⟨SK.frz B H L, fun _ => False, .refl H, fun a u q => ?_, .refl _, fun _ z => z.elim, fun _ z => .inl z, ?_, rfl, fun a xs e => frz_ex (fun a z => (bn a z).1) a _ (aT a xs e)⟩, fun Γ1 H1 ⟨B1, S1, w1⟩ => ?_, main⟩
  · by_cases z : L a
    · rw [frz_at z] at q; exact q
    · rw [frz_no z] at q; exact w.pu a u q
  · exact hv K B H _ L σ r2 le0 (fun a u z q => by rw [frz_at z]; exact q)
  · obtain ⟨B2, S2, w2⟩ := main .non (.d .non) Γ1 H1 ⟨_, _, w1.pushd .non⟩ rfl
    obtain ⟨_, _, _, _, _, _, w3⟩ := w2.pop
    exact ⟨_, _, w3⟩
theorem go_lendV (hv : Views Γ Γv) (h : ∀ F' B', Go K F' B' te [] Γv fun o' _ => o'.lf = true ∧ post o' Γ) : Go K F B0 te T Γ post := fun τ σ H Q ⟨B, S, w⟩ k => by
  obtain ⟨Bf, w0, _, back⟩ := w.lendV hv
  exact h H Bf [] σ H _ w0 fun v o' Γ1 H1 ⟨lf, hp⟩ how => k v o' Γ H1 hp (back v o' Γ1 H1 how lf)
theorem got_lendV (hv : Views Γ Γv) (h : ∀ F' B', GoT K F' B' tt [] Γv fun b _ => postt b Γ) : GoT K F B0 tt T Γ postt := fun τ σ H Q ⟨B, S, w⟩ k => by
  obtain ⟨Bf, w0, back, _⟩ := w.lendV hv
  exact h H Bf [] σ H _ w0 fun b Γ1 H1 hp how => k b Γ H1 hp (back Γ1 H1 how)
end
end SK
namespace SK
open PySem PySem.Spec PyProof.Rows L2
section
variable {K : PySem.W.Frag} {F B0 H B H' B' : Hp} {τ : List V} {T : List O} {σ : L2.St} {Γ Γv Γw : En} {S S1 : Ad} {v w : V} {o oe o1 o' u : O} {i j : Nat} {a : Addr} {p : List Sel} {te tv ti : TE} {tt : TT} {post : O → En → Prop} {postt : Bool → En → Prop} {posts1 : En → Prop} {Dd : EG} {P : O → Prop} {s : TS} {f : Str} {C : Addr} {fs : Fs}
theorem RS.erase : ∀ {n : Nat} {vs : List V} {xs : List O} {S : Ad}, RS K B H S ((vs.map some).set n none) ((xs.map some).set n none) → n < xs.length → RS K B H S ((vs.eraseIdx n).map some) ((xs.eraseIdx n).map some)
  | _, _, [], _, _, hl => by simp at hl
  | 0, v :: vs, x :: xs, _, r, _ => by
    rw [List.map_cons, List.map_cons, List.set_cons_zero, List.set_cons_zero] at r
    cases r with | un r => exact r
  | n + 1, v :: vs, x :: xs, _, r, hl => by
    rw [List.map_cons, List.map_cons, List.set_cons_succ, List.set_cons_succ] at r
    cases r with
    | cons s1 s2 d r t => exact .cons s1 s2 d r (RS.erase t (by simpa using hl))
  | 0, [], x :: xs, _, r, _ => by
    rw [List.map_cons, List.set_cons_zero] at r; cases r
  | n + 1, [], x :: xs, _, r, _ => by
    rw [List.map_cons, List.set_cons_succ] at r; cases r
end
end SK
namespace SK
open PySem PySem.Spec PyProof.Rows L2
section
variable {K : PySem.W.Frag} {F B0 H B H' B' : Hp} {τ : List V} {T : List O} {σ : L2.St} {Γ Γv Γh : En} {S S1 Si : Ad} {v w : V} {o oe o1 o' u : O} {i j : Nat} {a : Addr} {p : List Sel} {te tv ti : TE} {post : O → En → Prop} {vs : List V} {os os' : List O} {xs : List D}
/-- arguments: data as they are, an address for the thing itself -/
inductive SubO : List D → List O → List (Addr × O) → Prop
  | nil : SubO [] [] []
  | dat {x xs os us} : SubO xs os us → SubO (x :: xs) (.d x :: os) us
  | own {a u xs os us} : SubO xs os us → SubO (.ref a :: xs) (u :: os) ((a, u) :: us)
abbrev uV (us : List (Addr × O)) : List V := us.map fun q => .ref q.1
abbrev uO (us : List (Addr × O)) : List O := us.map (·.2)
theorem SubO.pack : ∀ {xs : List D} {os : List O} {us : List (Addr × O)} {vs : List V} {S : Ad}, SubO xs os us → RL K B vs xs → RS K B H S ((uV us).map some) ((uO us).map some) → RS K B H S (vs.map some) (os.map some)
  | _, _, _, _, _, .nil, .nil, r => r
  | _, _, _, _, S, .dat h, .cons r t, q => .cons (S1 := fun _ => False) (S2 := S) (fun _ z => z.elim) (fun _ z => z) (fun _ z => z.elim) (.d r) (h.pack t q)
  | _, _, _, _, _, .own h, .cons r t, .cons s1 s2 d ro q => by
    cases r
    exact .cons s1 s2 d ro (h.pack t q)
end
end SK
namespace SK
open PySem PySem.Spec PyProof.Rows L2
def rEqK : R2 := fun x y H Q => ∃ a b ks, x = .ref a ∧ y = .ref b ∧ Rd H a (.dK ks) ∧ Rd H b (.dK []) ∧ Q (.bl ks.isEmpty) H
def rNeK : R2 := fun x y H Q => ∃ a b ks, x = .ref a ∧ y = .ref b ∧ Rd H a (.dK ks) ∧ Rd H b (.dK []) ∧ Q (.bl (!ks.isEmpty)) H
section
variable {K : PySem.W.Frag} {F B0 H B : Hp} {τ : List V} {T : List O} {σ : L2.St} {Γ Γv : En} {S : Ad} {o o1 u : O} {i : Nat} {a : Addr} {p : List Sel} {te : TE} {post : O → En → Prop} {Dd : EG} {g : TG} {tb : TS} {kvs : List (Key × D)}
theorem RK.emp {ws : List (Key × V)} (r : RK K B ws kvs) : ws.isEmpty = kvs.isEmpty := by cases r <;> rfl
theorem o2_eqK (h : post (.d (.bl kvs.isEmpty)) Γ) : Op2 K F B0 rEqK (.dic kvs) (.dic []) T Γ post := fun τ σ H B S v1 v2 Q w r1 r2 k => by
  cases r1 with | @dic a ws _ hd nd rk =>
  cases r2 with | @dic b ws2 _ hd2 nd2 rk2 =>
  cases rk2
  exact ⟨a, b, ws, rfl, rfl, w.pu.rd hd, w.pu.rd hd2, k _ _ _ _ h ⟨_, _, w.pushd (by rw [rk.emp]; exact .bl)⟩⟩
theorem o2_neK (h : post (.d (.bl (!kvs.isEmpty))) Γ) : Op2 K F B0 rNeK (.dic kvs) (.dic []) T Γ post := fun τ σ H B S v1 v2 Q w r1 r2 k => by
  cases r1 with | @dic a ws _ hd nd rk =>
  cases r2 with | @dic b ws2 _ hd2 nd2 rk2 =>
  cases rk2
  exact ⟨a, b, ws, rfl, rfl, w.pu.rd hd, w.pu.rd hd2, k _ _ _ _ h ⟨_, _, w.pushd (by rw [rk.emp]; exact .bl)⟩⟩
end
end SK
namespace SK
open PySem PySem.Spec PyProof.Rows L2
section
variable {K : PySem.W.Frag} {F B0 H B : Hp} {τ : List V} {T : List O} {σ : L2.St} {Γ : En} {S : Ad} {post : O → En → Prop} {x : D}
theorem RL.perm {α : Type} {e : α → D} : ∀ {vs ws : List V} {xs : List α}, ws.Perm vs → RL K B vs (xs.map e) → ∃ ys : List α, ys.Perm xs ∧ RL K B ws (ys.map e) := by
  intro vs ws xs h
  induction h generalizing xs with
  | nil => intro r; cases xs with | nil => exact ⟨[], .refl _, .nil⟩ | cons y ys => cases r
  | cons v h ih =>
    intro r
    cases xs with
    | nil => cases r
    | cons y ys =>
      cases r with | cons r t =>
      obtain ⟨zs, p, q⟩ := ih t
      exact ⟨y :: zs, p.cons y, .cons r q⟩
  | swap v w l =>
    intro r
    cases xs with
    | nil => cases r
    | cons y ys =>
      cases r with | cons r t =>
      cases ys with
      | nil => cases t
      | cons z zs =>
        cases t with | cons r2 t =>
        exact ⟨z :: y :: zs, .swap _ _ _, .cons r2 (.cons r t)⟩
  | trans h1 h2 ih1 ih2 =>
    intro r
    obtain ⟨ys, p, q⟩ := ih2 r
    obtain ⟨zs, p2, q2⟩ := ih1 q
    exact ⟨zs, p2.trans p, q2⟩
def tI (ns : List Int) : D := .tup (ns.map D.int)
theorem TupI.inj {v : V} {ns ms : List Int} (pu : Ex B H) (r : R K B v (tI ns)) (h : TupI K H v ms) : True := trivial
end
def tLendVE (t : TE) : TE := t
def tLendVT (t : TT) : TT := t
section
variable {K : PySem.W.Frag} {F B0 : Hp} {T : List O} {Γ Γv : En} {te : TE} {tt : TT} {post : O → En → Prop} {postt : Bool → En → Prop}
theorem go_lendV' (hv : Views Γ Γv) (h : ∀ F' B', Go K F' B' te [] Γv fun o' _ => o'.lf = true ∧ post o' Γ) : Go K F B0 (tLendVE te) T Γ post := go_lendV hv h
theorem got_lendV' (hv : Views Γ Γv) (h : ∀ F' B', GoT K F' B' tt [] Γv fun b _ => postt b Γ) : GoT K F B0 (tLendVT tt) T Γ postt := got_lendV hv h
end
end SK
namespace SK
open PySem PySem.Spec PyProof.Rows L2
def rDClr : V → List V → Hp → VK → Prop := fun x vs H Q => ∃ (a : Addr) (kvs : List (Key × V)), x = .ref a ∧ vs = [] ∧ H a = some (.dK kvs) ∧ Q .non (upd H a (.dK []))
def pickG {α : Type} (xs : List α) (lo hi st : Option Int) : List α := (sliceRange (sliceBounds lo hi st xs.length).1 (sliceBounds lo hi st xs.length).2.1 (sliceBounds lo hi st xs.length).2.2).filterMap (xs[·]?)
def rSl3 (K : PySem.W.Frag) : V → Option Int → Option Int → Option Int → Hp → VK → Prop := fun x lo hi st H Q => ∃ a xs, x = .ref a ∧ SqL K H a xs ∧ st ≠ some 0 ∧ (pickG xs lo hi st).length ≤ xs.length ∧ ∀ p, H p = none → Q (.ref p) (upd H p (.lst (pickG xs lo hi st)))
def tSl3 (K : PySem.W.Frag) (te : TE) (tl th tk : TO) : TE := fun σ H Q => te σ H fun x H1 => tl σ H1 fun l H2 => th σ H2 fun u H3 => tk σ H3 fun k H4 => rSl3 K x l u k H4 Q
section
variable {K : PySem.W.Frag} {F B0 H B : Hp} {τ : List V} {T : List O} {σ : L2.St} {Γ : En} {S : Ad} {post : O → En → Prop} {i : Nat} {te : TE} {Dd : EG}
theorem RL.pick {vs : List V} {xs : List D} (r : RL K B vs xs) (lo hi st : Option Int) : RL K B (pickG vs lo hi st) (pickG xs lo hi st) := by
  unfold pickG
  rw [r.length]
  generalize sliceRange _ _ _ = l
  induction l with
  | nil => exact .nil
  | cons i l ih =>
    have g : ∀ {vs : List V} {xs : List D} {i : Nat}, RL K B vs xs → (vs[i]? = none ∧ xs[i]? = none) ∨ ∃ x v, vs[i]? = some x ∧ xs[i]? = some v ∧ R K B x v := by
      intro vs
      induction vs with
      | nil => intro xs i r; cases r; exact .inl ⟨rfl, rfl⟩
      | cons v vs ih =>
        intro xs i r
        cases r with | cons h t =>
        cases i with
        | zero => exact .inr ⟨_, _, rfl, rfl, h⟩
        | succ i => exact ih (i := i) t
    rcases g (i := i) r with ⟨h1, h2⟩ | ⟨x, v, h1, h2, h3⟩
    · rw [List.filterMap_cons_none h1, List.filterMap_cons_none h2]; exact ih
    · rw [List.filterMap_cons_some h1, List.filterMap_cons_some h2]; exact .cons h3 ih
theorem go_sl3 {tl th tk : TO} (h : Go K F B0 te T Γ fun o Γ1 => GoO K F B0 tl (.d o.fz :: T) Γ1 fun lo Γ2 => GoO K F B0 th (.d o.fz :: T) Γ2 fun hi Γ3 => GoO K F B0 tk (.d o.fz :: T) Γ3 fun st Γ4 =>
      ∃ xs, D.seq? o.fz = some xs ∧ st ≠ some 0 ∧ (pickG xs lo hi st).length ≤ xs.length ∧ post (.ol ((pickG xs lo hi st).map O.d)) Γ4) : Go K F B0 (tSl3 K te tl th tk) T Γ post := fun τ σ H Q hw k =>
  h τ σ H _ hw fun v o Γ1 H1 h1 ⟨_, _, w1⟩ => by
    obtain ⟨_, _, w1, _⟩ := w1.fz
    refine h1 _ σ H1 _ ⟨_, _, w1⟩ fun lo Γ2 H2 h2 w2 => h2 _ σ H2 _ w2 fun hi Γ3 H3 h3 w3 => h3 _ σ H3 _ w3 fun st Γ4 H4 ⟨xs, q, h0, hle, h4⟩ ⟨_, _, w4⟩ => ?_
    obtain ⟨r, _, _, w⟩ := w4.popd
    obtain ⟨a, vs, rfl, sq, rl⟩ := r.seqL q
    have hp := rl.pick lo hi st
    refine ⟨a, vs, rfl, w.pu.sqL sq, h0, by rw [hp.length, rl.length]; exact hle, fun p hp0 => ?_⟩
    obtain ⟨S2, w⟩ := w.newl hp0 hp
    exact k _ _ _ _ h4 ⟨_, _, w⟩
theorem oa_lenD {kvs : List (Key × D)} (h : post (.d (.int kvs.length)) Γ) : OpA K F B0 (rLenG K) [.dic kvs] T Γ post := fun τ σ H B S vs Q w rl k => by
  obtain ⟨v1, rfl, r⟩ := rl.one
  cases r with | @dic a ws _ hd _ rk =>
  refine .inr ⟨a, ws, rfl, w.pu.rd hd, k _ _ _ _ h ⟨_, _, w.pushd ?_⟩⟩
  have e : ws.length = kvs.length := by
    have := congrArg List.length rk.keys
    simpa using this
  rw [e]
  exact .int
/-- xs.index(n), xs a list of numbers that has it -/
theorem go_lindex {ta : TA} (h : Go K F B0 te T Γ fun o Γ1 => ∃ ns : List Int, o.fz = .lst (ns.map D.int) ∧ GoA K F B0 ta (.d o.fz :: T) Γ1 fun xs Γ2 => ∃ (n : Int) (j : Nat), xs = [.int n] ∧ ns[j]? = some n ∧ (∀ m, m < j → ns[m]? ≠ some n) ∧ post (.d (.int (j : Nat))) Γ2) :
    Go K F B0 (tBM K "list" (rIndex K) te ta) T Γ post := fun τ σ H Q hw k =>
  h τ σ H _ hw fun v1 o1 Γ1 H1 ⟨ns, e1, h1⟩ ⟨_, _, w1⟩ => by
    obtain ⟨B2, S2, w2, _⟩ := w1.fz
    rw [e1] at h1 w2
    obtain ⟨r, _, _, _⟩ := w2.popd
    cases r with
    | @lst a vs _ hd rl =>
    have ev := RL.ints rl
    subst ev
    refine ⟨.inl ⟨rfl, _, w2.pu.sqL (SqL.of hd)⟩, h1 _ σ H1 _ ⟨_, _, w2⟩ fun us xs Γ2 H2 ⟨n, j, e, hj, hm, h2⟩ ⟨_, _, w3⟩ hl => ?_⟩
    subst e
    obtain ⟨rl2, S3, w4⟩ := w3.args hl
    obtain ⟨r4, _, _, w5⟩ := w4.popd
    obtain ⟨u, rfl, r⟩ := rl2.one
    cases r
    have sq : SqL K H2 a (ns.map V.int) := by
      cases r4 with
      | @lst _ vs2 _ hd2 rl3 =>
        have := RL.ints rl3
        subst this
        exact w5.pu.sqL (SqL.of hd2)
    refine ⟨a, ns.map V.int, .int n, j, .int n, rfl, rfl, sq, rfl, by simp [flatV], by rw [List.getElem?_map, hj]; rfl, by simp [L2.eqV], fun m z' hmj hz => ?_, k _ _ _ _ h2 ⟨_, _, w5.pushd .int⟩⟩
    rw [List.getElem?_map] at hz
    cases e : ns[m]? with
    | none => rw [e] at hz; cases hz
    | some y =>
      rw [e] at hz
      cases hz
      have : y ≠ n := fun q => hm m hmj (by rw [e, q])
      simp [L2.eqV, this]
/-- d.setdefault(k, []).append(e), d a name -/
theorem gos_setdAppV {kvs : List (Key × O)} {ty tv : TE} (e0 : Γ[i]? = some (some (.od kvs))) (hz : kvs.length < 100000)
    (h : ∀ F' B', Go K F' B' ty [] (fzE Γ) fun okk _ => ∃ k ys, okk = .d (kD k) ∧ lstAt kvs k ys ∧ ys.length < 100000 ∧
      ∀ F' B', Go K F' B' tv [] (fzE (Γ.set i none)) fun oe _ => oe.lf = true ∧ Dd.nx (Γ.set i (some (.od (dput kvs k (.ol (ys ++ [oe])))))) ) :
    GoS K F B0 (tDrop (tBM K "list" rAppend (tDSetd (tVar i) ty (tLst tNil)) (tCons tv tNil))) T Γ Dd :=
  gos_setdApp (p := []) evp_var e0 rfl trivial hz h
/-- d.clear(), d a name -/
theorem gos_dclear {kvs : List (Key × O)} (e0 : Γ[i]? = some (some (.od kvs))) (h : Dd.nx (Γ.set i (some (.od [])))) :
    GoS K F B0 (tDrop (tBM0 K "dict" rDClr (tVar i))) T Γ Dd := fun τ σ H De hw s => by
  obtain ⟨B, S, w⟩ := hw
  obtain ⟨v, S1, a1, r1, _, f⟩ := w.mut1 e0
  cases r1 with
  | @od _ S4 a ws _ ha hs hn hc nd ek rs =>
  refine ⟨.ref a, a1, .inr (.inr (.inl ⟨rfl, .inl ⟨_, hc⟩⟩)), ?_⟩
  refine ⟨a, ws, rfl, rfl, hc, ?_⟩
  obtain ⟨S', w3⟩ := f a (.dK []) (.od []) ha (.od (S' := fun _ => False) ha (fun b z => False.elim z) id upd_same List.nodup_nil rfl .nil)
  exact s.nx σ _ _ h ⟨B, S', w3⟩
end
end SK
namespace SK
open PySem PySem.Spec PyProof.Rows L2 PySem.W
section
variable {α β : Type} {R : α → β → Prop}
theorem each_paired : ∀ {as : List α} {bs : List β}, EachIs R as bs → Paired (fun b a => R a b) bs as
  | [], [], .nil => .nil
  | _ :: _, _ :: _, .cons h t => .cons h (each_paired t)
theorem paired_each : ∀ {as : List α} {bs : List β}, Paired (fun b a => R a b) bs as → EachIs R as bs
  | [], [], .nil => .nil
  | _ :: _, _ :: _, .cons h t => .cons h (paired_each t)
theorem paired_map {γ : Type} {f : γ → β} {S : β → α → Prop} : ∀ {cs : List γ} {as : List α}, Paired (fun c a => S (f c) a) cs as → Paired S (cs.map f) as
  | [], [], .nil => .nil
  | _ :: _, _ :: _, .cons h t => .cons h (paired_map t)
theorem paired_unmap {γ : Type} {f : γ → β} {S : β → α → Prop} : ∀ {cs : List γ} {as : List α}, Paired S (cs.map f) as → Paired (fun c a => S (f c) a) cs as
  | [], [], .nil => .nil
  | _ :: _, _ :: _, .cons h t => .cons h (paired_unmap t)
end
abbrev VP := V × PyData
/-- the items with their data, sorted by these -/
noncomputable def srtV (ts : List VP) : List V := (ts.mergeSort (dataLe false (·.2))).map (·.1)
def rSortDat (K : PySem.W.Frag) : List V → Hp → VK → Prop := fun vs H Q => ∃ (a : Addr) (ts : List VP), vs = [.ref a] ∧ SqL K H a (ts.map (·.1)) ∧ (∀ t ∈ ts, Dp K H t.1 t.2) ∧ AllAlike (ts.map (·.2)) ∧ Sortable (ts.map (·.2)) ∧ ts.length ≤ 100000 ∧ (∀ t ∈ ts, t.2.depth ≤ 60) ∧
  ∀ p, H p = none → Q (.ref p) (upd H p (.lst (srtV ts)))
theorem cr_sortDat {X : Cx} (hu : X.A.units + 64 < cLine) : CallR X (.builtin "sorted") (rSortDat X.K) := by
  intro pins s σ H xs us Q I r q
  obtain ⟨a, ts, rfl, sl, dp, hal, hsk, hl, hd, q⟩ := q
  obtain ⟨u, rfl, rx⟩ := vals1 r
  cases rx
  obtain ⟨its, rv, pl, hz⟩ := I.list sl
  have rv2 : Paired (fun (t : VP) v => RelV t.1 v) ts its := paired_unmap rv
  have e : EachIs (fun v (t : VP) => RelV t.1 v) its ts := paired_each rv2
  have hlen := e.length
  refine sorted_data (bs := ts) (enc := fun t : VP => t.2) (R := fun v (t : VP) => RelV t.1 v) pl.isList e ((each_mem e).mono fun v t ⟨h1, h2⟩ => (dp t h2).reads I _ _ _ h1) hal hsk (by rw [sizeLine_eq]; omega) (fun t ht => by have := hd t ht; omega) fun out ho he => ?_
  obtain ⟨c, hc⟩ := sortedAll_at s.heap its out.toArray
  have hv : Vals (srtV ts) out := paired_map (f := fun t : VP => t.1) (S := RelV) (each_paired he)
  have hlv : (srtV ts).length ≤ sizeLine := by rw [hv.length, ho, sizeLine_eq]; omega
  have hge : s.heap.objs.size ≤ s.heap.objs.size + 1 := Nat.le_succ _
  exact ⟨.ref _, upd H _ (.lst (srtV ts)), I.laid (t' := s.toks) (fun b o z => sortedAll_old z) hge ⟨hlv, out, c, hv, hc⟩, rfl, q _ (I.hok.fresh hge)⟩
end SK
namespace SK
open PySem PySem.Spec PyProof.Rows L2
open PySem.W (AllAlike Sortable dataLe)
section
variable {K : PySem.W.Frag} {F B0 H B : Hp} {τ : List V} {T : List O} {σ : L2.St} {Γ : En} {S : Ad} {post : O → En → Prop} {x : D}
/-- xs sorted by the data that e makes of them -/
noncomputable def srtD {α : Type} (e : α → PyData) (xs : List α) : List α := xs.mergeSort (dataLe false e)
theorem RL.ofAll {α : Type} {f : α → V} {g : α → D} : ∀ {ts : List α}, (∀ t ∈ ts, R K B (f t) (g t)) → RL K B (ts.map f) (ts.map g)
  | [], _ => .nil
  | t :: ts, h => .cons (h t (by simp)) (RL.ofAll fun u hu => h u (by simp [hu]))
theorem srt_vals {α : Type} {e : α → D} {c : α → PyData} {us : List V} {xs : List α} (rl : RL K B us (xs.map e)) :
    ∃ ts : List VP, ts.map (·.1) = us ∧ ts.map (·.2) = xs.map c ∧ (∀ t ∈ ts, ∃ x ∈ xs, t.2 = c x ∧ R K B t.1 (e x)) ∧ RL K B (srtV ts) ((srtD c xs).map e) := by
  have z : ∃ zs : List (V × α), zs.map (·.1) = us ∧ zs.map (·.2) = xs ∧ ∀ z ∈ zs, R K B z.1 (e z.2) := by
    induction xs generalizing us with
    | nil => cases rl; exact ⟨[], rfl, rfl, fun z hz => by cases hz⟩
    | cons x xs ih =>
      cases rl with
      | cons r t =>
        obtain ⟨zs, h1, h2, h3⟩ := ih t
        exact ⟨(_, x) :: zs, by rw [List.map_cons, h1], by rw [List.map_cons, h2], fun z hz => by
          rcases List.mem_cons.mp hz with rfl | hz
          · exact r
          · exact h3 z hz⟩
  obtain ⟨zs, h1, h2, h3⟩ := z
  have e1 : zs.map (fun z => ((z.1, c z.2) : VP)) = (zs.map fun z => ((z.1, c z.2) : VP)) := rfl
  refine ⟨zs.map fun z => (z.1, c z.2), by rw [List.map_map]; exact h1, by rw [List.map_map, ← h2, List.map_map]; rfl, fun t ht => ?_, ?_⟩
  · obtain ⟨z, hz, rfl⟩ := List.mem_map.mp ht
    exact ⟨z.2, by rw [← h2]; exact List.mem_map.mpr ⟨z, hz, rfl⟩, rfl, h3 z hz⟩
  · have m1 : (zs.map fun z => ((z.1, c z.2) : VP)).mergeSort (dataLe false (·.2)) = (zs.mergeSort (dataLe false fun z => c z.2)).map fun z => (z.1, c z.2) := by
      symm
      exact List.map_mergeSort fun a _ b _ => rfl
    have m2 : xs.mergeSort (dataLe false c) = (zs.mergeSort (dataLe false fun z => c z.2)).map (·.2) := by
      rw [← h2]
      symm
      exact List.map_mergeSort fun a _ b _ => rfl
    unfold srtV srtD
    rw [m1, m2, List.map_map, List.map_map]
    exact RL.ofAll fun t ht => h3 t (List.mem_mergeSort.mp ht)
theorem oa_sortDat {α : Type} {e : α → D} {xs : List α} (q : x.seq? = some (xs.map e)) (hp : ∀ y ∈ xs, (e y).pl = true) (hal : AllAlike (xs.map fun y => (e y).py)) (hk : Sortable (xs.map fun y => (e y).py)) (hl : xs.length ≤ 100000) (hd : ∀ y ∈ xs, (e y).py.depth ≤ 60)
    (h : post (.ol (((srtD (fun y => (e y).py) xs).map e).map O.d)) Γ) : OpA K F B0 (rSortDat K) [x] T Γ post := fun τ σ H B S vs Q w rl k => by
  obtain ⟨v1, rfl, r⟩ := rl.one
  obtain ⟨a, us, rfl, sq, rl⟩ := r.seqL q
  obtain ⟨ts, h1, h2, h3, h4⟩ := srt_vals (c := fun y => (e y).py) rl
  have hlen : ts.length = xs.length := by have := congrArg List.length h2; simpa using this
  refine ⟨a, ts, rfl, by rw [h1]; exact w.pu.sqL sq, fun t ht => ?_, by rw [h2]; exact hal, by rw [h2]; exact hk, by omega, fun t ht => ?_, fun p hn => ?_⟩
  · obtain ⟨y, hy, e1, e2⟩ := h3 t ht
    rw [e1]; exact e2.dp w.pu (hp y hy)
  · obtain ⟨y, hy, e1, _⟩ := h3 t ht
    rw [e1]; exact hd y hy
  · obtain ⟨S2, w2⟩ := w.newl hn h4
    exact k _ _ _ _ h ⟨_, _, w2⟩
end
theorem k_sortDat {K : PySem.W.Frag} {X : Cx} (h : X.K = K) (hu : X.A.units + 64 < cLine) : CallR X (.builtin "sorted") (rSortDat K) := by cases h; exact cr_sortDat hu
end SK
namespace SK
open PySem PySem.Spec PyProof.Rows L2 PySem.W
mutual
theorem Dp.at {K : PySem.W.Frag} {H H' : Hp} (hT : ∀ a xs, L2.SqT K H a xs → L2.SqT K H' a xs) (hL : ∀ a xs, SqL K H a xs → SqL K H' a xs) : ∀ (d : PyData) {v : V}, Dp K H v d → Dp K H' v d
  | .none, _, h => by cases h; exact .non
  | .bool _, _, h => by cases h; exact .bl _
  | .int _, _, h => by cases h; exact .int _
  | .str _, _, h => by cases h; exact .str _
  | .list ds, _, h => by cases h with | lst a b => exact .lst (hL _ _ a) (DpAll.at hT hL ds b)
  | .tuple ds, _, h => by cases h with | tup a b => exact .tup (hT _ _ a) (DpAll.at hT hL ds b)
  | .dict _, _, h => by cases h
theorem DpAll.at {K : PySem.W.Frag} {H H' : Hp} (hT : ∀ a xs, L2.SqT K H a xs → L2.SqT K H' a xs) (hL : ∀ a xs, SqL K H a xs → SqL K H' a xs) : ∀ (ds : List PyData) {vs : List V}, DpAll K H vs ds → DpAll K H' vs ds
  | [], _, h => by cases h; exact .nil
  | d :: ds, _, h => by cases h with | cons a b => exact .cons (Dp.at hT hL d a) (DpAll.at hT hL ds b)
end
theorem Dp.ex {K : PySem.W.Frag} {H H' : Hp} (e : Ex H H') {d : PyData} {v : V} (h : Dp K H v d) : Dp K H' v d := Dp.at (fun _ _ q => e.sqT' q) (fun _ _ q => e.sqL q) d h
end SK
namespace SK
open PySem PySem.Spec PyProof.Rows L2
open PySem.W (AllAlike Sortable dataLe)
end SK
namespace SK
open PySem PySem.Spec PyProof.Rows L2
/-- lo + n - 1, .., lo -/
def rvV (lo : Int) (n : Nat) : List V := (List.range n).map fun i => V.int (lo + (n : Int) - 1 - (i : Nat))
def tListRgR (te : L2.St → Hp → (Int → Int → Hp → Prop) → Prop) : TE := fun σ H Q => te σ H fun a b H1 => RgOk a b ∧ ∀ q, H1 q = none → Q (.ref q) (upd H1 q (.lst (rvV a (b - a).toNat)))
section
variable {K : PySem.W.Frag} {F B0 : Hp} {T : List O} {Γ : En} {post : O → En → Prop} {te : TE}
/-- list(reversed(range(n))) -/
theorem go_listRgR (h : Go K F B0 te T Γ fun o Γ1 => ∃ n : Int, o = .d (.int n) ∧ 0 ≤ n ∧ n ≤ 100000 ∧ post (.ol ((((List.range n.toNat).map fun (i : Nat) => n - 1 - (i : Int)).map D.int).map O.d)) Γ1) : Go K F B0 (tListRgR (tRg1 te)) T Γ post := fun τ σ H Q hw k =>
  h τ σ H _ hw fun v1 o1 Γ1 H1 ⟨n, e1, h0, h1, hp⟩ ⟨B1, S1, w1⟩ => by
    subst e1
    obtain ⟨r, S2, _, w2⟩ := w1.popd
    cases r
    refine ⟨n, rfl, ⟨by omega, by omega, by omega, by omega, by omega⟩, fun q hq => ?_⟩
    have ev : rvV 0 (n - 0).toNat = ((List.range n.toNat).map fun (i : Nat) => n - 1 - (i : Int)).map V.int := by
      unfold rvV
      rw [List.map_map, Int.sub_zero]
      refine List.map_congr_left fun i _ => ?_
      show V.int (0 + (((n.toNat : Nat)) : Int) - 1 - (i : Int)) = V.int (n - 1 - (i : Int))
      congr 1
      omega
    rw [ev]
    obtain ⟨S3, w3⟩ := w2.newl hq (RL.ofInts ((List.range n.toNat).map fun (i : Nat) => n - 1 - (i : Int)))
    exact k _ _ _ _ hp ⟨_, _, w3⟩
end
end SK
namespace SK
open PySem PySem.Spec PyProof.Rows L2
structure FunT (K : PySem.W.Frag) (x : Str) (st : Stmt) (f : Addr) (fd : FuncData) (u : Value) : Prop where
  ex : ∃ (oc : Value) (od : Option Addr) (T : Addr) (oT : Obj) (n : Nat) (kV doc pm : Value) (an : Option Addr) (cdv ct : Value) (osl : Array (Option Value)),
    fd = PySem.W.fnOf x x (defArgs st) (defBody st) (defScope st) (.ref T) kV doc pm an cdv ct ∧ K.lookup f = some ⟨oc, od, .func fd, osl⟩ ∧ PySem.W.codeIn K cdv x = true ∧ K.lookup T = some oT ∧ oT.data = .seq #[u] n
  kp : PySem.W.keepIn K (.ref f) = true
section
variable {P : Program} {w : World} {K : PySem.W.Frag} {mg : Str → Option Value} {base : Heap} {x : Str} {st : Stmt} {f : Addr} {fd : FuncData} {u : Value} {N ps : List Str} {k : Nat} {sp : Sp}
theorem FunT.ok (F : FunT K x st f fd u) (S : FnScope N ps (defScope st)) (len : ∀ vs H Q E, sp vs H Q E → vs.length = ps.length)
    (hbody : ∀ (cdv : Value) (A : Around) (outer : List Env) (s : Shared) (H : Hp) (vs : List V) (Q : VK) (E : XK), Room k (A.deeper (envOfC x (defScope st) s.heap.objs.size f cdv)) → sp vs H Q E →
      ∃ t, PSs (cxOf CX0 P w K mg base N x (defScope st) f cdv A outer s H E).nox (defBody st) t ∧ t { nx := fun _ H' => Q .non H', rt := Q } (start N vs) H) : FnOk P w K mg base CX0 (k + 1) f fd ps sp := by
  obtain ⟨oc, od, T, oT, n, kV, doc, pm, an, cdv, ct, osl, rfl, lk, hcd, _, _⟩ := F.ex
  refine fn_of lk hcd S len fun A outer s H vs Q E hr hsp => ?_
  obtain ⟨t, h, q⟩ := hbody cdv A outer s H vs Q E hr hsp
  exact ⟨t, h.nox, q⟩
theorem FunT.binds (F : FunT K x st f fd u) (n : Nat) (hn : n = ps.length) (h : ∀ (T : Addr) (kV doc pm : Value) (an : Option Addr) (cdv ct : Value) (us : List Value), us.length = n →
      ∃ k, bindArgs (PySem.W.fnOf x x (defArgs st) (defBody st) (defScope st) (.ref T) kV doc pm an cdv ct) ⟨us, []⟩ = seqItems? (.ref T) >>= k ∧ k (some #[u]) = pure (ps.zip us)) : Binds K fd ps [] := by
  obtain ⟨oc, od, T, oT, m, kV, doc, pm, an, cdv, ct, osl, rfl, lk, hcd, lT, eT⟩ := F.ex
  intro s us X hl
  rw [List.append_nil] at hl ⊢
  obtain ⟨k, e1, e2⟩ := h T kV doc pm an cdv ct us (by omega)
  refine BindsTo.of_looks fun M => ?_
  rw [e1]
  exact looks_items X lT eT (.of_pure e2)
theorem FunT.lk (F : FunT K x st f fd u) : ∃ oc od sl, K.lookup f = some ⟨oc, od, .func fd, sl⟩ := by
  obtain ⟨oc, od, T, oT, n, kV, doc, pm, an, cdv, ct, osl, _, l, _⟩ := F.ex
  exact ⟨oc, od, osl, l⟩
end
end SK
namespace SK
open PySem PySem.Spec PyProof.Rows L2
section
variable {K : PySem.W.Frag} {F B0 H B : Hp} {T : List O} {Γ : En} {post : O → En → Prop} {te : TE} {v v' : V}
/-- list(range(n)) -/
theorem go_listRg (h : Go K F B0 te T Γ fun o Γ1 => ∃ n : Int, o = .d (.int n) ∧ 0 ≤ n ∧ n ≤ 100000 ∧ post (.ol ((((List.range n.toNat).map fun (i : Nat) => (i : Int)).map D.int).map O.d)) Γ1) : Go K F B0 (tLstRg (tRg1 te)) T Γ post := fun τ σ H Q hw k =>
  h τ σ H _ hw fun v1 o1 Γ1 H1 ⟨n, e1, h0, h1, hp⟩ ⟨B1, S1, w1⟩ => by
    subst e1
    obtain ⟨r, S2, _, w2⟩ := w1.popd
    cases r
    refine ⟨n, rfl, ⟨by omega, by omega, by omega, by omega, by omega⟩, fun q hq => ?_⟩
    have ev : rgV 0 n = ((List.range n.toNat).map fun (i : Nat) => (i : Int)).map V.int := by
      unfold rgV
      rw [List.map_map, Int.sub_zero]
      refine List.map_congr_left fun i _ => ?_
      show V.int (0 + (i : Int)) = V.int (i : Int)
      rw [Int.zero_add]
    rw [ev]
    obtain ⟨S3, w3⟩ := w2.newl hq (RL.ofInts ((List.range n.toNat).map fun (i : Nat) => (i : Int)))
    exact k _ _ _ _ hp ⟨_, _, w3⟩
end
end SK
namespace SK
open PySem PySem.Spec PyProof.Rows L2
end SK
namespace SK
open PySem PySem.Spec PyProof.Rows L2
section
variable {K : PySem.W.Frag} {F B0 H B : Hp} {τ : List V} {T : List O} {σ : L2.St} {Γ : En} {S : Ad} {o : O} {i : Nat} {te : TE} {ta : TA} {post : O → En → Prop} {posts1 : En → Prop}
theorem go_dnewT (h : post (.ot []) Γ) : Go K F B0 tDNewT T Γ post := fun τ σ H Q ⟨B, S, w⟩ k p hp => by
  obtain ⟨S2, w2⟩ := w.newo (o := .ot []) (c := .dT []) hp (.ot (S' := fun _ => False) rfl (fun _ z => z.elim) id upd_same List.nodup_nil rfl .nil)
  exact k _ _ _ _ h ⟨_, _, w2⟩
theorem RL.keys : ∀ {ks : List Key} {vs : List V}, RL K B vs (ks.map kD) → vs = ks.map L2.kV
  | [], _, r => by cases r; rfl
  | k :: ks, _, r => by
    cases r with
    | cons r t => rw [r.kV, RL.keys t]; rfl
theorem RT.val {k : List Key} : ∀ {ws : List (List Key × V)} {kvs : List (List Key × D)}, RT K B ws kvs → (∃ v x, valV ws k = some v ∧ dval kvs k = some x ∧ R K B v x) ∨ (valV ws k = none ∧ dval kvs k = none)
  | _, _, .nil => .inr ⟨rfl, rfl⟩
  | _, _, .cons (k := k0) (v := v0) (x := x0) (vs := vs) (xs := xs) r t => by
    by_cases e : k0 = k
    · left
      refine ⟨v0, x0, by simp [valV, e], by simp [dval, e], r⟩
    · have e1 : valV ((k0, v0) :: vs) k = valV vs k := by simp [valV, e]
      have e2 : dval ((k0, x0) :: xs) k = dval xs k := by simp [dval, e]
      rw [e1, e2]
      exact RT.val t
/-- d[(a, b)], the key written out -/
theorem go_ixT (h : Go K F B0 te T Γ fun o Γ1 => ∃ kvs, o.fz = .dit kvs ∧ GoA K F B0 ta (.d (.dit kvs) :: T) Γ1 fun xs Γ2 => ∃ (ks : List Key) (y : D), xs = ks.map kD ∧ xs.length ≤ 1000 ∧ dval kvs ks = some y ∧ post (.d y) Γ2) : Go K F B0 (tOp (rIxG K) te (tTup ta)) T Γ post := fun τ σ H Q hw k =>
  h τ σ H _ hw fun v1 o1 Γ1 H1 ⟨kvs, e1, h1⟩ ⟨_, _, w1⟩ => by
    obtain ⟨_, _, w1, _⟩ := w1.fz
    rw [e1] at w1
    refine h1 _ σ H1 _ ⟨_, _, w1⟩ fun vs xs Γ2 H2 ⟨ks, y, ex, hz, hi, h2⟩ ⟨_, _, w2⟩ hl => ?_
    subst ex
    obtain ⟨rl, S3, w3⟩ := w2.args hl
    have ev := rl.keys
    subst ev
    refine ⟨Nat.le_trans (by rw [hl]; exact hz) (by decide), fun p hp => ?_⟩
    obtain ⟨S4, w4⟩ := w3.newd (x := .tup (ks.map kD)) hp (.tup (SqT.of upd_same) (rl.mono (.of_ex (.new (w3.pu.back hp)))))
    obtain ⟨_, _, _, w5⟩ := w4.popd
    obtain ⟨r1, _, _, w6⟩ := w5.popd
    cases r1 with | @dit a ws _ hd _ rt =>
    rcases rt.val (k := ks) with ⟨u, z, q1, q2, r⟩ | ⟨q1, q2⟩
    · rw [hi] at q2
      cases q2
      exact .inr ⟨a, u, rfl, .inr ⟨ws, ks, p, w6.pu.rd hd, rfl, upd_same, q1.symm⟩, k _ _ _ _ h2 ⟨_, _, w6.pushd r⟩⟩
    · rw [hi] at q2; cases q2
/-- d[(a, b)] = e, d a name, the key written out -/
theorem gog_setT (h : GoA K F B0 ta (o :: T) Γ fun xs Γ2 => ∃ (ks : List Key) (kvs : List (List Key × O)), xs = ks.map kD ∧ xs.length ≤ 1000 ∧ Γ2[i]? = some (some (.ot kvs)) ∧ kvs.length < 100000 ∧ posts1 (Γ2.set i (some (.ot (dput kvs ks o))))) (h0 : ∃ kvs0, Γ[i]? = some (some (.ot kvs0))) :
    GoG K F B0 (gSub (tVar i) (tTup ta) rSetG) o T Γ posts1 := fun τ σ H v1 Q ⟨B1, S1, w1⟩ k' => by
  obtain ⟨kvs0, e0⟩ := h0
  obtain ⟨v, T1, a1, r1, _, _⟩ := w1.mut1 e0
  refine ⟨v, a1, h (v1 :: τ) σ H _ ⟨B1, S1, w1⟩ fun vs xs Γ2 H2 ⟨ks, kvs, ex, hx, e2, hz, h2⟩ ⟨B2, S2, w2⟩ hl => ?_⟩
  subst ex
  obtain ⟨rl, S3, w3⟩ := w2.args hl
  have ev := rl.keys
  subst ev
  refine ⟨Nat.le_trans (by rw [hl]; exact hx) (by decide), fun p hp => ?_⟩
  obtain ⟨S4', w4⟩ := w3.newd (x := .tup (ks.map kD)) hp (.tup (SqT.of upd_same) (rl.mono (.of_ex (.new (w3.pu.back hp)))))
  obtain ⟨_, S5', _, w5⟩ := w4.popd
  obtain ⟨v', S5, So, a2, r2, ro, dj, _, _, f⟩ := w5.mut2 e2
  rw [a1] at a2
  cases a2
  cases r2 with
  | @ot _ S4 a ws _ ha hs hn hc nd ek rs =>
  have len : ws.length = kvs.length := by have := congrArg List.length ek; simpa using this
  refine .inr ⟨a, _, rfl, .inr ⟨ws, ks, p, hc, rfl, upd_same, by rw [len]; exact Nat.lt_of_lt_of_le hz (by decide), rfl⟩, ?_⟩
  obtain ⟨S', w6⟩ := f a (.dT (putK ws ks v1)) (.ot (dput kvs ks o)) ha (.ot (S' := fun b => S4 b ∨ So b) (.inl ha) (fun b z => z.imp (hs b) id) (fun z => z.elim hn fun z => dj a ha z) upd_same (dput_nodup nd) (by rw [putK_dput]; exact dput_keys ek) (by
    rw [putK_dput]
    exact (rs.dput ro nd ek fun b z => dj b (hs b z)).at fun b u z q => by
      rw [upd_ne (fun e => by subst e; exact z.elim hn fun z => dj b ha z)]; exact q))
  exact k' σ _ _ h2 ⟨_, S', w6⟩
/-- d[(a, b)] and its setting, marked for the walk -/
def tIxT (K : PySem.W.Frag) (te : TE) (ta : TA) : TE := tOp (rIxG K) te (tTup ta)
theorem go_ixT' (h : Go K F B0 te T Γ fun o Γ1 => ∃ kvs, o.fz = .dit kvs ∧ GoA K F B0 ta (.d (.dit kvs) :: T) Γ1 fun xs Γ2 => ∃ (ks : List Key) (y : D), xs = ks.map kD ∧ xs.length ≤ 1000 ∧ dval kvs ks = some y ∧ post (.d y) Γ2) : Go K F B0 (tIxT K te ta) T Γ post := go_ixT h
def gSubT (i : Nat) (ta : TA) : TG := gSub (tVar i) (tTup ta) rSetG
theorem gog_setT' (h : GoA K F B0 ta (o :: T) Γ fun xs Γ2 => ∃ (ks : List Key) (kvs : List (List Key × O)), xs = ks.map kD ∧ xs.length ≤ 1000 ∧ Γ2[i]? = some (some (.ot kvs)) ∧ kvs.length < 100000 ∧ posts1 (Γ2.set i (some (.ot (dput kvs ks o))))) (h0 : ∃ kvs0, Γ[i]? = some (some (.ot kvs0))) :
    GoG K F B0 (gSubT i ta) o T Γ posts1 := gog_setT h h0
end
end SK
namespace SK
open PySem PySem.Spec PyProof.Rows L2
end SK
namespace SK
open PySem PySem.Spec PyProof.Rows L2
end SK
namespace SK
open PySem PySem.Spec PyProof.Rows L2
end SK
namespace SK
open PySem PySem.Spec PyProof.Rows L2
end SK
namespace SK
open PySem PySem.Spec PyProof.Rows L2
section
variable {K : PySem.W.Frag} {F B0 H B : Hp} {τ : List V} {T : List O} {σ : L2.St} {Γ : En} {S : Ad} {o : O} {i : Nat} {te tk tv : TE} {ta : TA} {post : O → En → Prop} {posts1 : En → Prop} {v : V} {ks : List Key} {Dd : EG}
abbrev kT (ks : List Key) : D := .tup (ks.map kD)
theorem R.keyT (pu : Ex B H) (r : R K B v (kT ks)) : ∃ b, v = .ref b ∧ H b = some (.tup (ks.map L2.kV)) := by
  cases r with
  | tup h rl =>
    have e := rl.keys
    subst e
    exact ⟨_, rfl, pu _ _ h⟩
theorem o2_ixT {kvs : List (List Key × D)} {y : D} (hi : dval kvs ks = some y) (h : post (.d y) Γ) : Op2 K F B0 (rIxG K) (.dit kvs) (kT ks) T Γ post := fun τ σ H B S v1 v2 Q w r1 r2 k' => by
  obtain ⟨b, rfl, hb⟩ := r2.keyT w.pu
  cases r1 with | @dit a ws _ hd _ rk =>
  rcases rk.val (k := ks) with ⟨u, z, h1, h2, r⟩ | ⟨h1, h2⟩
  · rw [hi] at h2
    cases h2
    exact .inr ⟨a, u, rfl, .inr ⟨ws, ks, b, w.pu.rd hd, rfl, hb, h1.symm⟩, k' _ _ Γ H h ⟨_, _, w.pushd r⟩⟩
  · rw [hi] at h2; cases h2
theorem o2_inT {kvs : List (List Key × D)} (h : post (.d (.bl (dval kvs ks).isSome)) Γ) : Op2 K F B0 (rInG K) (kT ks) (.dit kvs) T Γ post := fun τ σ H B S v1 v2 Q w r1 r2 k' => by
  obtain ⟨b, rfl, hb⟩ := r1.keyT w.pu
  cases r2 with | @dit a ws _ hd _ rk =>
  have e : (valV ws ks).isSome = (dval kvs ks).isSome := by rcases rk.val (k := ks) with ⟨v, x, h1, h2, _⟩ | ⟨h1, h2⟩ <;> rw [h1, h2] <;> rfl
  refine .inr (.inl ⟨a, valV ws ks, rfl, .inr ⟨ws, ks, b, w.pu.rd hd, rfl, hb, rfl⟩, ?_⟩)
  rw [e]
  exact k' _ _ Γ H h ⟨_, _, w.pushd .bl⟩
theorem o2_notInT {kvs : List (List Key × D)} (h : post (.d (.bl (!(dval kvs ks).isSome))) Γ) : Op2 K F B0 (rNotInG K) (kT ks) (.dit kvs) T Γ post := fun τ σ H B S v1 v2 Q w r1 r2 k' => by
  obtain ⟨b, rfl, hb⟩ := r1.keyT w.pu
  cases r2 with | @dit a ws _ hd _ rk =>
  have e : (valV ws ks).isSome = (dval kvs ks).isSome := by rcases rk.val (k := ks) with ⟨v, x, h1, h2, _⟩ | ⟨h1, h2⟩ <;> rw [h1, h2] <;> rfl
  refine .inr (.inl ⟨a, valV ws ks, rfl, .inr ⟨ws, ks, b, w.pu.rd hd, rfl, hb, rfl⟩, ?_⟩)
  rw [e]
  exact k' _ _ Γ H h ⟨_, _, w.pushd .bl⟩
/-- d[k] = e, d a name -/
theorem gog_setK (h : Go K F B0 tk (o :: T) Γ fun ok Γ2 => ∃ (ks : List Key) (kvs : List (List Key × O)), ok = .d (kT ks) ∧ Γ2[i]? = some (some (.ot kvs)) ∧ kvs.length < 100000 ∧ posts1 (Γ2.set i (some (.ot (dput kvs ks o))))) (h0 : ∃ kvs0, Γ[i]? = some (some (.ot kvs0))) :
    GoG K F B0 (gSub (tVar i) tk rSetG) o T Γ posts1 := fun τ σ H v1 Q ⟨B1, S1, w1⟩ k' => by
  obtain ⟨kvs0, e0⟩ := h0
  obtain ⟨v, T1, a1, r1, _, _⟩ := w1.mut1 e0
  refine ⟨v, a1, h (v1 :: τ) σ H _ ⟨B1, S1, w1⟩ fun v2 ok Γ2 H2 ⟨ks, kvs, ek, e2, hz, h2⟩ ⟨B2, S2, w2⟩ => ?_⟩
  subst ek
  obtain ⟨rk, S3, _, w3⟩ := w2.popd
  obtain ⟨p, rfl, hp⟩ := rk.keyT w2.pu
  obtain ⟨v', S5, So, a2, r2, ro, dj, _, _, f⟩ := w3.mut2 e2
  rw [a1] at a2
  cases a2
  cases r2 with
  | @ot _ S4 a ws _ ha hs hn hc nd ek rs =>
  have len : ws.length = kvs.length := by have := congrArg List.length ek; simpa using this
  refine .inr ⟨a, _, rfl, .inr ⟨ws, ks, p, hc, rfl, hp, by rw [len]; exact Nat.lt_of_lt_of_le hz (by decide), rfl⟩, ?_⟩
  obtain ⟨S', w6⟩ := f a (.dT (putK ws ks v1)) (.ot (dput kvs ks o)) ha (.ot (S' := fun b => S4 b ∨ So b) (.inl ha) (fun b z => z.imp (hs b) id) (fun z => z.elim hn fun z => dj a ha z) upd_same (dput_nodup nd) (by rw [putK_dput]; exact dput_keys ek) (by
    rw [putK_dput]
    exact (rs.dput ro nd ek fun b z => dj b (hs b z)).at fun b u z q => by
      rw [upd_ne (fun e => by subst e; exact z.elim hn fun z => dj b ha z)]; exact q))
  exact k' σ _ _ h2 ⟨_, S', w6⟩
theorem otAt {ws : List (List Key × V)} {kvs : List (List Key × O)} {o1 : O} (nd : (kvs.map (·.1)).Nodup) (ek : ws.map (·.1) = kvs.map (·.1)) (h : dval kvs ks = some o1) : ∃ n u, ws[n]? = some (ks, u) ∧ valV ws ks = some u ∧ kvs[n]? = some (ks, o1) ∧ ∀ y, SK.dput kvs ks y = kvs.set n (ks, y) := by
  induction kvs generalizing ws with
  | nil => cases h
  | cons p kvs ih =>
    obtain ⟨k0, x0⟩ := p
    cases ws with
    | nil => simp at ek
    | cons q ws =>
      obtain ⟨k1, u1⟩ := q
      simp only [List.map_cons, List.cons.injEq] at ek
      obtain ⟨rfl, ek⟩ := ek
      simp only [List.map_cons, List.nodup_cons] at nd
      by_cases e : k1 = ks
      · subst e
        have hx : x0 = o1 := by simpa [dval] using h
        subst hx
        refine ⟨0, u1, rfl, by simp [valV], rfl, fun y => ?_⟩
        unfold SK.dput
        rw [if_pos (by simp)]
        simp only [List.map_cons, if_pos, List.set_cons_zero, List.cons.injEq, true_and]
        refine (List.map_congr_left fun kv hkv => ?_).trans (List.map_id _)
        rw [if_neg (fun e => nd.1 (List.mem_map.mpr ⟨kv, hkv, e⟩))]; rfl
      · have h' : dval kvs ks = some o1 := by simpa [dval, e] using h
        obtain ⟨n, u, h1, h2, h3, h4⟩ := ih nd.2 ek h'
        refine ⟨n + 1, u, by simpa using h1, by simpa [valV, e] using h2, by simpa using h3, fun y => ?_⟩
        have h5 := h4 y
        unfold SK.dput at h5 ⊢
        have ha : (kvs.any fun kv => decide (kv.1 = ks)) = true := by
          rw [List.any_eq_true]
          exact ⟨(ks, o1), List.mem_of_getElem? h3, by simp⟩
        rw [if_pos ha] at h5
        rw [if_pos (by rw [List.any_cons, ha, Bool.or_true])]
        simp only [List.map_cons, if_neg e, List.set_cons_succ, h5]
/-- d[k] op= n, d a name -/
theorem gos_augK {tip : TIp} {m : Int} {f : Int → Int → Int} (hf : ∀ a H (Q : VK), Q (.int (f a m)) H → tip (.int a) (.int m) H Q) (h : Go K F B0 tk T Γ fun ok Γ2 => ∃ (ks : List Key) (kvs : List (List Key × O)) (n : Int), ok = .d (kT ks) ∧ Γ2[i]? = some (some (.ot kvs)) ∧ dval kvs ks = some (.d (.int n)) ∧ kvs.length < 100000 ∧ Dd.nx (Γ2.set i (some (.ot (dput kvs ks (.d (.int (f n m)))))))) (h0 : ∃ kvs0, Γ[i]? = some (some (.ot kvs0))) :
    GoS K F B0 (tAugS (tVar i) tk (tC (.int m)) rIxDic tip rSetG) T Γ Dd := fun τ σ H De ⟨B1, S1, w1⟩ s => by
  obtain ⟨kvs0, e0⟩ := h0
  obtain ⟨v, T1, a1, r1, _, _⟩ := w1.mut1 e0
  refine ⟨v, a1, h τ σ H _ ⟨B1, S1, w1⟩ fun v2 ok Γ2 H2 ⟨ks, kvs, n, ek, e2, hv, hz, h2⟩ ⟨B2, S2, w2⟩ => ?_⟩
  subst ek
  obtain ⟨rk, S3, _, w3⟩ := w2.popd
  obtain ⟨p, rfl, hp⟩ := rk.keyT w2.pu
  obtain ⟨v', S5, a2, r2, _, f2⟩ := w3.mut1 e2
  rw [a1] at a2
  cases a2
  cases r2 with
  | @ot _ S4 a ws _ ha hs hn hc nd ek rs =>
  have len : ws.length = kvs.length := by have := congrArg List.length ek; simpa using this
  obtain ⟨j, u, g1, g2, g3, g4⟩ := otAt nd ek hv
  obtain ⟨u', U1, U2, c1, c2, c3, c4, ru, _⟩ := rs.focus (i := j) (o := .d (.int n)) (by rw [List.getElem?_map, g3]; rfl)
  have eu : u' = u := by
    rw [List.getElem?_map, g1] at c1
    cases c1; rfl
  subst eu
  cases ru with
  | d ru =>
  cases ru
  refine ⟨a, _, rfl, .inr ⟨ws, ks, p, .inl hc, rfl, hp, g2.symm⟩, ?_⟩
  refine hf n _ _ (.inr ⟨a, _, rfl, .inr ⟨ws, ks, p, hc, rfl, hp, by rw [len]; exact Nat.lt_of_lt_of_le hz (by decide), rfl⟩, ?_⟩)
  obtain ⟨S', w6⟩ := f2 a (.dT (putK ws ks (.int (f n m)))) (.ot (dput kvs ks (.d (.int (f n m))))) ha (.ot (S' := S4) ha hs hn upd_same (dput_nodup nd) (by rw [putK_dput]; exact dput_keys ek) (by
    rw [putK_dput]
    exact ((rs.dput (So := fun _ => False) (.d .int) nd ek fun b _ z => z).tr (.refl B2) (fun b z => z.elim id False.elim) fun _ _ _ e => e).at fun b u z q => by
      rw [upd_ne (fun e => by subst e; exact hn z)]; exact q))
  exact s.nx σ _ _ h2 ⟨_, S', w6⟩
end
end SK
namespace SK
open PySem PySem.Spec PyProof.Rows L2
section
variable {K : PySem.W.Frag} {F B0 H B : Hp} {τ : List V} {T : List O} {σ : L2.St} {Γ : En} {S : Ad} {o oe : O} {i : Nat} {te tk tv : TE} {ta : TA} {post : O → En → Prop} {posts1 : En → Prop} {v w : V} {ks : List Key} {Dd : EG} {a b : Addr}
/-- d[k].append(e), d a name of a dict with lists of its own -/
theorem RO.otLab {kvs : List (List Key × O)} {ys : List O} (r : RO K B H S v (.ot kvs)) (hv : dval kvs ks = some (.ol ys)) : ∃ a ws b us, v = .ref a ∧ H a = some (.dT ws) ∧ valV ws ks = some (.ref b) ∧ H b = some (.lst us) ∧ RO K B H S v (.ot (SK.dput kvs ks (.atA b (.ol ys)))) := by
  cases r with
  | @ot _ S4 a ws _ ha hs hn hc nd ek rs =>
  obtain ⟨j, u, g1, g2, g3, g4⟩ := otAt nd ek hv
  obtain ⟨u', U1, U2, c1, c2, c3, c4, ru, f⟩ := rs.focus (i := j) (o := .ol ys) (by rw [List.getElem?_map, g3]; rfl)
  have eu : u' = u := by
    rw [List.getElem?_map, g1] at c1
    cases c1; rfl
  subst eu
  have ru0 := ru
  cases ru with
  | @ol _ S5 b us _ hb hbs hbn hbc brs =>
  refine ⟨a, ws, b, us, rfl, hc, g2, hbc, ?_⟩
  have rs2 := f B H U1 (some (.ref b)) (some (.atA b (.ol ys))) (.refl B) (fun _ _ _ e => e) c4 (fun x q => by cases q; exact ⟨_, rfl, .atA ru0⟩)
  rw [set_same c1] at rs2
  have e1 : (SK.dput kvs ks (.atA b (.ol ys))).map (·.1) = kvs.map (·.1) := by
    rw [g4, List.map_set]; exact set_same' (by rw [List.getElem?_map, g3]; rfl)
  refine .ot (S' := S4) ha hs hn hc (by rw [e1]; exact nd) (by rw [e1]; exact ek) ?_
  rw [g4, List.map_set]
  exact rs2.tr (.refl B) (fun b z => z.elim (c2 b) (c3 b)) fun _ _ _ e => e
theorem dput_dput {κ α : Type} [DecidableEq κ] {kvs : List (κ × α)} {k : κ} {x y : α} : SK.dput (SK.dput kvs k x) k y = SK.dput kvs k y := by
  unfold SK.dput
  by_cases h : (kvs.any fun kv => decide (kv.1 = k)) = true
  · rw [if_pos h, if_pos h]
    have h2 : ((kvs.map fun kv => if kv.1 = k then (kv.1, x) else kv).any fun kv => decide (kv.1 = k)) = true := by
      rw [List.any_eq_true] at h ⊢
      obtain ⟨kv, h1, h2⟩ := h
      exact ⟨(kv.1, x), List.mem_map.mpr ⟨kv, h1, by rw [if_pos (of_decide_eq_true h2)]⟩, h2⟩
    rw [if_pos h2, List.map_map]
    refine List.map_congr_left fun kv _ => ?_
    simp only [Function.comp]
    by_cases e : kv.1 = k <;> simp [e]
  · rw [if_neg h, if_neg h]
    have h2 : ((kvs ++ [(k, x)]).any fun kv => decide (kv.1 = k)) = true := by simp
    rw [if_pos h2, List.map_append]
    congr 1
    · refine (List.map_congr_left fun kv hkv => ?_).trans (List.map_id _)
      rw [if_neg]; · rfl
      intro e
      exact h (List.any_eq_true.mpr ⟨kv, hkv, by simp [e]⟩)
    · simp
theorem dval_dput {κ α : Type} [DecidableEq κ] : ∀ {kvs : List (κ × α)} {k : κ} {x : α}, dval (SK.dput kvs k x) k = some x
  | kvs, k, x => by
    unfold SK.dput
    split
    · rename_i h
      induction kvs with
      | nil => simp at h
      | cons p kvs ih =>
        by_cases e : p.1 = k
        · simp [dval, e]
        · have : (kvs.any fun kv => decide (kv.1 = k)) = true := by simpa [e] using h
          have := ih this
          simpa [dval, e] using this
    · rename_i h
      induction kvs with
      | nil => simp [dval]
      | cons p kvs ih =>
        have h1 : ¬ p.1 = k := fun e => h (by simp [e])
        have h2 : ¬ (kvs.any fun kv => decide (kv.1 = k)) = true := fun e => h (by rw [List.any_cons, e, Bool.or_true])
        have := ih h2
        simpa [dval, h1] using this
theorem gos_appK (h : Go K F B0 tk T Γ fun ok Γ1 => ∃ (ks : List Key) (kvs : List (List Key × O)) (ys : List O), ok = .d (kT ks) ∧ Γ1[i]? = some (some (.ot kvs)) ∧ dval kvs ks = some (.ol ys) ∧ ys.length < 100000 ∧
      ∀ b, Go K F B0 tv T (Γ1.set i (some (.ot (SK.dput kvs ks (.atA b (.ol ys)))))) fun oe Γ2 => Γ2 = Γ1.set i (some (.ot (SK.dput kvs ks (.atA b (.ol ys))))) ∧ Dd.nx (Γ1.set i (some (.ot (SK.dput kvs ks (.ol (ys ++ [oe]))))))) (h0 : ∃ kvs0, Γ[i]? = some (some (.ot kvs0))) :
    GoS K F B0 (tDrop (tBM K "list" rAppend (tOp (rIxG K) (tVar i) tk) (tCons tv tNil))) T Γ Dd := fun τ σ H De ⟨B1, S1, w1⟩ s => by
  obtain ⟨kvs0, e0⟩ := h0
  obtain ⟨v, T1, a1, r1, _, _⟩ := w1.mut1 e0
  refine ⟨v, a1, h τ σ H _ ⟨B1, S1, w1⟩ fun v2 ok Γ2 H2 ⟨ks, kvs, ys, ek, e2, hv, hz, h2⟩ ⟨B2, S2, w2⟩ => ?_⟩
  subst ek
  obtain ⟨rk, S3, _, w3⟩ := w2.popd
  obtain ⟨p, rfl, hp⟩ := rk.keyT w2.pu
  obtain ⟨v', U1, U2, a2, bU1, bU2, d2, r2, f2⟩ := w3.slot e2
  rw [a1] at a2
  cases a2
  obtain ⟨a, ws, b, us, rfl, hc, hvl, hb, r3⟩ := r2.otLab hv
  refine .inr ⟨a, _, rfl, .inr ⟨ws, ks, p, .inl hc, rfl, hp, hvl.symm⟩, ?_⟩
  refine ⟨Or.inl ⟨rfl, us, SqL.of hb⟩, ?_⟩
  have hi : i < Γ2.length := (List.getElem?_eq_some_iff.mp e2).1
  have w4 : ∃ S', HW K F B0 τ T σ (Γ2.set i (some (.ot (SK.dput kvs ks (.atA b (.ol ys)))))) H2 B2 S' := by
    have q := f2 B2 H2 U1 (some (.ref a)) (some (.ot (SK.dput kvs ks (.atA b (.ol ys))))) (.refl B2) (fun _ _ _ e => e) d2 (fun x q => by cases q; exact ⟨_, rfl, r3⟩)
    rw [set_same a1] at q
    exact ⟨_, w3.fr, w3.pu, w3.b0, fun c z => z.elim (fun z => w3.ow c (bU1 c z)) fun z => w3.ow c (bU2 c z), w3.nw, q, w3.lt, w3.tp⟩
  obtain ⟨S4, w4⟩ := w4
  refine h2 b τ σ H2 _ ⟨B2, S4, w4⟩ fun ve oe Γ3 H3 ⟨eΓ, hnx⟩ ⟨B3, S5, w5⟩ => ?_
  subst eΓ
  have e3 : (Γ2.set i (some (O.ot (SK.dput kvs ks (.atA b (.ol ys))))))[i]? = some (some (.ot (SK.dput kvs ks (.atA b (.ol ys))))) := List.getElem?_set_self hi
  obtain ⟨v', S6, So, a3, r5, ro, dj, _, _, f⟩ := w5.mut2 e3
  rw [a1] at a3
  cases a3
  cases r5 with
  | @ot _ S7 _ ws' _ ha hs hn hc' nd ek rs =>
  obtain ⟨j, u, g1, g2, g3, g4⟩ := otAt nd ek dval_dput
  obtain ⟨u', V1, V2, c1, c2, c3, c4, ru, fj⟩ := rs.focus (i := j) (o := .atA b (.ol ys)) (by rw [List.getElem?_map, g3]; rfl)
  cases ru with
  | atA ru =>
  cases ru with
  | @ol _ S8 _ us' _ hb' hbs hbn hbc brs =>
  have len : us'.length = ys.length := by simpa using brs.len
  refine ⟨b, us', ve, rfl, rfl, hbc, by rw [len]; exact Nat.lt_of_lt_of_le hz (by decide), ?_⟩
  have rnew : RO K B3 (upd H3 b (.lst (us' ++ [ve]))) (fun c => V1 c ∨ So c) (.ref b) (.ol (ys ++ [oe])) := by
    refine .ol (S' := fun c => S8 c ∨ So c) (.inl hb') (fun c z => z.imp (hbs c) id) (fun z => z.elim hbn fun z => dj b (hs b (c2 b hb')) z) upd_same ?_
    rw [List.map_append, List.map_append]
    exact (brs.snoc ro fun c z y => dj c (hs c (c2 c (hbs c z))) y).at fun c u z q => by
      rw [upd_ne (fun e => by subst e; exact z.elim hbn fun z => dj c (hs c (c2 c hb')) z)]; exact q
  have nab : a ≠ b := fun e => hn (e ▸ c2 b hb')
  have rs3 := fj B3 (upd H3 b (.lst (us' ++ [ve]))) (fun c => V1 c ∨ So c) (some (.ref b)) (some (.ol (ys ++ [oe]))) (.refl B3) (fun c u z q => by
      rw [upd_ne (fun e => by subst e; exact c4 c hb' z)]; exact q) (fun c z y => z.elim (fun z => c4 c z y) fun z => dj c (hs c (c3 c y)) z) (fun x q => by cases q; exact ⟨_, rfl, rnew⟩)
  rw [set_same c1] at rs3
  have e1 : (SK.dput (SK.dput kvs ks (.atA b (.ol ys))) ks (.ol (ys ++ [oe]))).map (·.1) = (SK.dput kvs ks (.atA b (.ol ys))).map (·.1) := by
    rw [g4, List.map_set]; exact set_same' (by rw [List.getElem?_map, g3]; rfl)
  obtain ⟨S9, w9⟩ := f b (.lst (us' ++ [ve])) (.ot (SK.dput (SK.dput kvs ks (.atA b (.ol ys))) ks (.ol (ys ++ [oe])))) (hs b (c2 b hb')) (.ot (S' := fun c => (V1 c ∨ So c) ∨ V2 c) (.inl ha) (fun c z => z.elim (fun z => z.imp (fun z => hs c (c2 c z)) id) fun z => .inl (hs c (c3 c z)))
      (fun z => z.elim (fun z => z.elim (fun z => hn (c2 a z)) fun z => dj a ha z) fun z => hn (c3 a z)) (by rw [upd_ne nab]; exact hc') (by rw [e1]; exact nd) (by rw [e1]; exact ek) (by
        rw [g4, List.map_set]; exact rs3))
  rw [dput_dput, List.set_set] at w9
  exact s.nx σ _ _ hnx ⟨B3, S9, w9⟩
end
end SK
namespace SK
open PySem PySem.Spec PyProof.Rows L2
def tDispT (tk tv : TE) : TE := fun σ H Q => ∀ p, H p = none → tk σ (upd H p (.dT [])) fun x H1 => tv σ H1 fun y H2 => H2 p = some (.dT []) ∧ ∃ (ks : List Key) (b : Addr), x = .ref b ∧ H2 b = some (.tup (ks.map L2.kV)) ∧ Q (.ref p) (upd H2 p (.dT [(ks, y)]))
theorem pe_dispT {X : Cx} {pos : Pos} {k v : Expr} {tk tv : TE} (hu : X.A.units + 1 < cLine) (hk : PE X k tk) (hv : PE X v tv) : PE X (.Dict [some k] [v] pos) (tDispT tk tv) := by
  refine ⟨fun pins s σ H Q I q => ?_⟩
  have hn := I.hok.fresh (Nat.le_refl s.heap.objs.size)
  have I1 := I.laid (a := s.heap.objs.size) (o := .dT []) (h' := s.heap.push { cls := .type "dict", data := .dict #[] }) (t' := s.toks) (fun _ _ q => Heap.get?_push_of_some _ q) (Nat.le_refl _) (dt_empty s.heap I.big)
  rw [arm_eval_Dict, zip_pairTrees [some k] [v] X.env pos rfl rfl, dictDisplay_pairs (pairTrees [some k] [v] X.env pos) (fun z => by cases z) (by show (1 : Nat) < 17; decide)]
  refine wpAny_bind (wpAny_standAt (wpAny_bind (wpAny_subDictH (knd := tupleKind (mixKind X.prog X.w)) (Q := fun d s' => wpAny (model X.prog X.w) X.A (pure (Value.ref d)) (EP X pins σ Q) X.xe s') (by show X.A.units < cLine; omega) (by show (1 : Nat) ≤ 15; decide) ?_)))
  refine pairTrees_cons_walk (thn (hk.run pins _ σ _ _ I1 (q _ hn)) fun u s1 ⟨x, H1, I2, rx, q1⟩ => thn (hv.run pins s1 σ H1 _ I2 q1) fun w2 s2 ⟨y, H2, I3, ry, e, ks, b, ex, eb, q2⟩ => ?_)
  subst ex
  obtain rfl : u = Value.ref b := rx
  refine pairTrees_nil_walk ?_
  obtain ⟨z, hd, xs, rel, dd⟩ := dt_of I3.hok e
  have hx : xs = [] := by cases rel; rfl
  subst hx
  refine ⟨[(ks, b, w2)], ⟨rfl, rfl, key_of I3.hok eb, trivial⟩, dd, fun h' tk' dd' hs => wpAny_pure ?_⟩
  refine ⟨.ref s.heap.objs.size, _, ?_, rfl, q2⟩
  obtain ⟨o', es, ep, hq, h2, h3, h4, _, h5⟩ := dd'
  have rel2 : KT H2 [(ks, y)] [(ks, b, w2)] := .cons ⟨rfl, eb, ry⟩ .nil
  refine d_write I3 (by rw [e]; exact True.intro) hs ⟨o', hq⟩ ⟨(by show (1 : Nat) ≤ sizeLine; decide), hd, _, rel2.keeps fun c ys ec => ?_, o', es, ep, hq, h2, h3, h4, h5⟩
  rw [upd_ne (ne_of ec e (fun z => nomatch z))]
  exact ec
section
variable {K : PySem.W.Frag} {F B0 H B : Hp} {τ : List V} {T : List O} {σ : L2.St} {Γ : En} {S : Ad} {o oe : O} {i : Nat} {te tk tv : TE} {ta : TA} {post : O → En → Prop} {posts1 : En → Prop} {v w : V} {ks : List Key} {Dd : EG} {a b : Addr} {x y : D}
theorem go_dispT (h : Go K F B0 tk (.ot [] :: T) Γ fun ok Γ1 => ∃ ks, ok = .d (kT ks) ∧ Go K F B0 tv (.d (kT ks) :: .ot [] :: T) Γ1 fun o Γ2 => post (.ot [(ks, .d o.fz)]) Γ2) : Go K F B0 (tDispT tk tv) T Γ post := fun τ σ H Q ⟨B, S, w⟩ k p hp => by
  obtain ⟨S2, w⟩ := w.newo hp (o := .ot []) (c := .dT []) (v := .ref p) (.ot (S' := fun _ => False) rfl (fun _ z => z.elim) id upd_same List.nodup_nil rfl .nil)
  refine h _ σ _ _ ⟨_, _, w⟩ fun v1 o1 Γ1 H1 ⟨ks, e1, h1⟩ w1 => ?_
  subst e1
  refine h1 _ σ H1 _ w1 fun v2 o2 Γ2 H2 h2 ⟨B2, S2, w2⟩ => ?_
  obtain ⟨B3, S3, w3, _⟩ := w2.fz
  obtain ⟨r2, S4, _, w4⟩ := w3.popd
  obtain ⟨r1, S5, _, w5⟩ := w4.popd
  obtain ⟨b, rfl, hb⟩ := r1.keyT w4.pu
  obtain ⟨S6, S7, t1, t2, dj, ro, w6⟩ := w5.pop
  cases ro with
  | @ot _ S8 _ ws _ ha hs hn hc nd ek rs =>
  have e0 : ws = [] := by simpa using ek
  subst e0
  refine ⟨hc, ks, b, rfl, hb, k _ _ Γ2 _ h2 ⟨B3, fun b => b = p ∨ S7 b, ⟨fun b u z => ?_, fun b u z => ?_, w6.b0, fun b z => ?_, w6.nw, .cons (S1 := fun b => b = p) (S2 := S7) (fun _ z => .inl z) (fun _ z => .inr z) (fun b z y => by subst z; exact dj b ha y)
    (.ot (S' := fun _ => False) rfl (fun _ z => z.elim) id upd_same (by simp) rfl (.cons (S1 := fun _ => False) (S2 := fun _ => False) (fun _ z => z) (fun _ z => z) (fun _ z => z.elim) (.d r2) .nil))
    (w6.rs.at fun b u z q => by rw [upd_ne (fun e => by subst e; exact dj b ha z)]; exact q), by have := w6.lt; simp [this], w6.tp⟩⟩⟩
  · have hne : b ≠ p := fun q => by rw [q, (w5.ow p (t1 p ha)).1] at z; cases z
    rw [upd_ne hne]; exact w6.fr b u z
  · have hne : b ≠ p := fun q => by rw [q, (w5.ow p (t1 p ha)).2.1] at z; cases z
    rw [upd_ne hne]; exact w6.pu b u z
  · have : F b = none ∧ B3 b = none ∧ H2 b ≠ none := by
      rcases z with z | z
      · subst z; exact w5.ow b (t1 b ha)
      · exact w6.ow b z
    refine ⟨this.1, this.2.1, ?_⟩
    by_cases hne : b = p
    · rw [hne, upd_same]; simp
    · rw [upd_ne hne]; exact this.2.2
def rListT : List V → Hp → VK → Prop := fun xs H Q => ∃ d kvs, xs = [V.ref d] ∧ Rd H d (.dT kvs) ∧ ∀ p bs, H p = none → IsKeys H kvs bs → Q (.ref p) (upd H p (.lst (bs.map V.ref)))
theorem RT.keys : ∀ {ws : List (List Key × V)} {kvs : List (List Key × D)}, RT K B ws kvs → ws.map (·.1) = kvs.map (·.1)
  | _, _, .nil => rfl
  | _, _, .cons _ t => by simp [RT.keys t]
theorem RL.ofKeysK : ∀ ks : List Key, RL K B (ks.map L2.kV) (ks.map kD)
  | [] => .nil
  | k :: ks => .cons (R.ofKey k) (RL.ofKeysK ks)
theorem RL.isKeys (aT : AllT H B) : ∀ {ws : List (List Key × V)} {bs : List Addr}, IsKeys H ws bs → RL K B (bs.map V.ref) ((ws.map (·.1)).map kT)
  | [], [], .nil => .nil
  | p :: ws, b :: bs, .cons h t => .cons (.tup (SqT.of (aT _ _ h)) (RL.ofKeysK p.1)) (RL.isKeys aT t)
theorem oa_listT {kvs : List (List Key × D)} (h : post (.ol (((kvs.map (·.1)).map kT).map O.d)) Γ) : OpA K F B0 rListT [.dit kvs] T Γ post := fun τ σ H B S vs Q w rl k => by
  obtain ⟨v1, rfl, r⟩ := rl.one
  obtain ⟨B, S, w, aT, le⟩ := w.allT
  have r := r.mono le
  cases r with | @dit a ws _ hd _ rk =>
  refine ⟨a, ws, rfl, w.pu.rd hd, fun p bs hp ik => ?_⟩
  have q := RL.isKeys (K := K) aT ik
  rw [rk.keys] at q
  obtain ⟨S2, w2⟩ := w.newl hp q
  exact k _ _ _ _ h ⟨_, _, w2⟩
theorem o2_notInDat {xs : List D} (q : x.pl = true ∧ SeqAt.shaped x.py = true) (q2 : plL xs = true ∧ SeqAt.shaped (.list (pyL xs)) = true) (h : post (.d (.bl (!(pyL xs).any fun z => PyData.eqv z x.py))) Γ) : Op2 K F B0 (rNotInD K) x (.lst xs) T Γ post := fun τ σ H B S v1 v2 Q w r1 r2 k' =>
  ⟨x.py, pyL xs, r1.dp w.pu q.1, r2.dp w.pu q2.1, q.2, q2.2, k' _ _ Γ H h ⟨_, _, w.pushd .bl⟩⟩
def rLtD (K : PySem.W.Frag) : R2 := fun x y H Q => ∃ d e, Dp K H x d ∧ Dp K H y e ∧ PySem.W.alike d e = true ∧ d ≠ .none ∧ d.depth ≤ 60 ∧ Q (.bl (PySem.W.dataLt d e)) H
theorem op_ltD {X : Cx} (hu : X.A.units + 64 < cLine) : OpR X (compareOp .Lt) (rLtD X.K) := by
  intro pins s σ H x y v u Q I rx ry h
  obtain ⟨d, e, hd, he, al, hn, hdp, q⟩ := h
  obtain ⟨as, r1⟩ := Dp.reads I d x v hd rx
  obtain ⟨bs, r2⟩ := Dp.reads I e y u he ry
  exact PySem.W.lt_data r1 r2 al hn (by omega) ⟨.bl _, H, I, rfl, q⟩
theorem o2_ltD {b : Bool} (p1 : x.pl = true) (p2 : y.pl = true) (al : PySem.W.alike x.py y.py = true) (hn : x.py ≠ .none) (hd : x.py.depth ≤ 60) (h : post (.d (.bl (PySem.W.dataLt x.py y.py))) Γ) : Op2 K F B0 (rLtD K) x y T Γ post := fun τ σ H B S v1 v2 Q w r1 r2 k' =>
  ⟨x.py, y.py, r1.dp w.pu p1, r2.dp w.pu p2, al, hn, hd, k' _ _ Γ H h ⟨_, _, w.pushd .bl⟩⟩
end
theorem k_ltD {K : PySem.W.Frag} {X : Cx} (h : X.K = K) (hu : X.A.units + 64 < cLine) : OpR X (compareOp .Lt) (rLtD K) := by cases h; exact op_ltD hu
theorem k_notInDat {K : PySem.W.Frag} {X : Cx} (h : X.K = K) (hu : X.A.units + 65 < cLine) : OpR X (compareOp .NotIn) (rNotInD K) := by cases h; exact op_notInD hu
end SK
namespace SK
open PySem PySem.Spec PyProof.Rows L2
open PySem.W (minD AlikeAll)
def rRemD (K : PySem.W.Frag) : V → List V → Hp → VK → Prop := fun x vs H Q => ∃ (l : Addr) (us : List V) (y : V) (d : PyData) (ds : List PyData) (j : Nat) (z : PyData), x = .ref l ∧ vs = [y] ∧ H l = some (.lst us) ∧ DpAll K H us ds ∧ Dp K H y d ∧
  PyData.canLayAll0 ds = true ∧ d.canLay0 = true ∧ PyData.depthAll ds ≤ 60 ∧ ds[j]? = some z ∧ PyData.eqv z d = true ∧ (∀ (m : Nat) (z' : PyData), m < j → ds[m]? = some z' → PyData.eqv z' d = false) ∧ Q .non (upd H l (.lst (us.eraseIdx j)))
section
variable {K : PySem.W.Frag} {F B0 H B : Hp} {τ : List V} {T : List O} {σ : L2.St} {Γ : En} {S : Ad} {o oe : O} {i : Nat} {te tk tv : TE} {ta : TA} {post : O → En → Prop} {posts1 : En → Prop} {v w : V} {Dd : EG} {a b : Addr} {x y : D}
theorem RS.pureE {ds : List D} : ∀ {vs : List V} {S : Ad}, RS K B H S (vs.map some) ((ds.map O.d).map some) → RL K B vs ds := by
  intro vs S r
  exact RS.pure r
/-- xs.remove(y), xs a name of a list of data -/
theorem gos_remove (h : Go K F B0 te T Γ fun o Γ1 => ∃ (ds : List D) (j : Nat) (x y : D), o = .d x ∧ Γ1[i]? = some (some (.ol (ds.map O.d))) ∧ plL ds = true ∧ x.pl = true ∧ PyData.canLayAll0 (pyL ds) = true ∧ x.py.canLay0 = true ∧ PyData.depthAll (pyL ds) ≤ 60 ∧ ds[j]? = some y ∧ PyData.eqv y.py x.py = true ∧
      (∀ m z, m < j → ds[m]? = some z → PyData.eqv z.py x.py = false) ∧ Dd.nx (Γ1.set i (some (.ol ((ds.eraseIdx j).map O.d))))) (h0 : ∃ xs, Γ[i]? = some (some (.ol xs))) :
    GoS K F B0 (tDrop (tBM K "list" (rRemD K) (tVar i) (tCons te tNil))) T Γ Dd := fun τ σ H De hw s => by
  obtain ⟨B, S, w⟩ := hw
  obtain ⟨xs0, e0⟩ := h0
  obtain ⟨v, S1, a1, r1, _, _⟩ := w.mut1 e0
  cases r1 with
  | @ol _ _ a vs _ _ _ _ hc _ =>
  refine ⟨.ref a, a1, Or.inl ⟨rfl, vs, SqL.of hc⟩, h τ σ H _ ⟨B, S, w⟩ fun v1 o1 Γ1 H1 ⟨ds, j, x, y, e1, e2, p1, p2, p3, p4, p5, hj, hjy, hno, hnx⟩ ⟨B1, S1', w1⟩ => ?_⟩
  subst e1
  obtain ⟨rx, S3, _, w3⟩ := w1.popd
  obtain ⟨v', S5, a2, r2, _, f⟩ := w3.mut1 e2
  rw [a1] at a2
  cases a2
  cases r2 with
  | @ol _ S4 _ us _ ha hs hn hc2 rs =>
  have rl := RS.pureE rs
  have atP : ∀ {ds : List D} (m : Nat), (pyL ds)[m]? = ds[m]?.map D.py := by
    intro ds
    induction ds with
    | nil => intro m; simp [pyL]
    | cons z ds ih =>
      intro m
      cases m with
      | zero => simp [pyL]
      | succ m => simpa [pyL] using ih m
  refine ⟨a, us, v1, x.py, pyL ds, j, y.py, rfl, rfl, hc2, rl.dp w3.pu p1, rx.dp w1.pu p2, p3, p4, p5, by rw [atP, hj]; rfl, hjy, fun m z' hm hz => ?_, ?_⟩
  · rw [atP] at hz
    cases q : ds[m]? with
    | none => rw [q] at hz; cases hz
    | some z => rw [q] at hz; cases hz; exact hno m z hm q
  · have er : ∀ {us : List V} {ds : List D} {j : Nat}, RL K B1 us ds → RL K B1 (us.eraseIdx j) (ds.eraseIdx j) := by
      intro us ds j r
      induction r using RL.rec (motive_1 := fun _ _ _ => True) (motive_3 := fun _ _ _ => True) (motive_4 := fun _ _ _ => True) (motive_5 := fun _ _ _ => True) generalizing j <;> try trivial
      · exact .nil
      · rename_i r t _ ih
        cases j with
        | zero => exact t
        | succ j => exact .cons r ih
    obtain ⟨S', w4⟩ := f a (.lst (us.eraseIdx j)) (.ol ((ds.eraseIdx j).map O.d)) ha (.ol (S' := fun _ => False) ha (fun _ z => z.elim) id upd_same (fl_of (er rl)))
    exact s.nx σ _ _ hnx ⟨B1, S', w4⟩
end
end SK
namespace SK
open PySem PySem.Spec PyProof.Rows L2
theorem Room.units65 {k : Nat} {A : Around} (r : L2.Room k A) : A.units + 65 < cLine := by have := r.un; omega
section
variable {K : PySem.W.Frag} {F B0 : Hp} {T : List O} {Γ : En} {i : Nat} {tk : TE} {Dd : EG}
theorem ip_addG {a m : Int} {H : Hp} {Q : VK} (q : Q (.int (a + m)) H) : ipAddG (.int a) (.int m) H Q := .inl ⟨a, m, rfl, rfl, q⟩
theorem ip_subG {a m : Int} {H : Hp} {Q : VK} (q : Q (.int (a - m)) H) : ipSubG (.int a) (.int m) H Q := ⟨a, m, rfl, rfl, q⟩
/-- d[k] += m -/
theorem gos_augKA {m : Int} (h : Go K F B0 tk T Γ fun ok Γ2 => ∃ (ks : List Key) (kvs : List (List Key × O)) (n : Int), ok = .d (kT ks) ∧ Γ2[i]? = some (some (.ot kvs)) ∧ dval kvs ks = some (.d (.int n)) ∧ kvs.length < 100000 ∧ Dd.nx (Γ2.set i (some (.ot (dput kvs ks (.d (.int (n + m)))))))) (h0 : ∃ kvs0, Γ[i]? = some (some (.ot kvs0))) :
    GoS K F B0 (tAugS (tVar i) tk (tC (.int m)) rIxDic ipAddG rSetG) T Γ Dd := gos_augK (f := fun n m => n + m) (fun a H Q q => ip_addG q) h h0
theorem gos_augKS {m : Int} (h : Go K F B0 tk T Γ fun ok Γ2 => ∃ (ks : List Key) (kvs : List (List Key × O)) (n : Int), ok = .d (kT ks) ∧ Γ2[i]? = some (some (.ot kvs)) ∧ dval kvs ks = some (.d (.int n)) ∧ kvs.length < 100000 ∧ Dd.nx (Γ2.set i (some (.ot (dput kvs ks (.d (.int (n - m)))))))) (h0 : ∃ kvs0, Γ[i]? = some (some (.ot kvs0))) :
    GoS K F B0 (tAugS (tVar i) tk (tC (.int m)) rIxDic ipSubG rSetG) T Γ Dd := gos_augK (f := fun n m => n - m) (fun a H Q q => ip_subG q) h h0
theorem gos_sAug {to ti te : TE} {tget : V → V → Hp → VK → Prop} {tip : TIp} {tset : TSet} {t2 : TS} (h : GoS K F B0 (tAugS to ti te tget tip tset) T Γ { Dd with nx := fun Γ1 => GoS K F B0 t2 T Γ1 Dd }) : GoS K F B0 (tSeq (tAugS to ti te tget tip tset) t2) T Γ Dd := gos_seq h
end
section
variable {K : PySem.W.Frag} {F B0 : Hp} {T : List O} {Γ : En} {Dd : EG} {ta : TA} {i j : Nat}
/-- a, b = x, y -/
theorem gos_par (h : GoA K F B0 ta T Γ fun xs Γ1 => ∃ x y, xs = [x, y] ∧ (i < Γ1.length ∧ j < Γ1.length ∧ i ≠ j) ∧ Dd.nx ((Γ1.set i (some (.d x))).set j (some (.d y)))) : GoS K F B0 (tPar i j ta) T Γ Dd := fun τ σ H De hw s =>
  h τ σ H _ hw fun vs xs Γ1 H1 ⟨x, y, e, ⟨l1, l2, ne⟩, hn⟩ ⟨B1, S1, w1⟩ hl => by
    subst e
    obtain ⟨v, w, rfl⟩ : ∃ v w, vs = [v, w] := by
      match vs, hl with
      | [v, w], _ => exact ⟨v, w, rfl⟩
    obtain ⟨S2, w2⟩ := HW.put (v := w) (o := .d y) (τ := v :: τ) (T := .d x :: T) (i := j) w1 l2
    obtain ⟨S3, w3⟩ := w2.put (i := i) (by simpa using l1)
    rw [List.set_comm _ _ (Ne.symm ne), List.set_comm _ _ (Ne.symm ne)] at w3
    exact ⟨v, w, rfl, s.nx _ _ _ hn ⟨_, _, w3⟩⟩
theorem gos_sPar {t2 : TS} (h : GoS K F B0 (tPar i j ta) T Γ { Dd with nx := fun Γ1 => GoS K F B0 t2 T Γ1 Dd }) : GoS K F B0 (tSeq (tPar i j ta) t2) T Γ Dd := gos_seq h
end
end SK
namespace SK
open PySem PySem.Spec PyProof.Rows L2
open PySem.W (AllAlike Sortable dataLe EachIs each_mem)
end SK
namespace SK
open PySem PySem.Spec PyProof.Rows L2
section
variable {K : PySem.W.Frag} {F B0 H B : Hp} {τ : List V} {T : List O} {σ : L2.St} {Γ : En} {S : Ad} {o : O} {i : Nat} {te tk tv ty tx : TE} {post : O → En → Prop} {v : V} {k : Key}
theorem odAt {ws : List (Key × V)} {kvs : List (Key × O)} {o1 : O} (ek : ws.map (·.1) = kvs.map (·.1)) (h : kval kvs k = some o1) : ∃ (n : Nat) (u : V), valV ws k = some u ∧ ws[n]? = some (k, u) ∧ kvs[n]? = some (k, o1) := by
  induction kvs generalizing ws with
  | nil => cases h
  | cons p kvs ih =>
    obtain ⟨k0, x0⟩ := p
    cases ws with
    | nil => simp at ek
    | cons q ws =>
      obtain ⟨k1, u1⟩ := q
      simp only [List.map_cons, List.cons.injEq] at ek
      obtain ⟨rfl, ek⟩ := ek
      by_cases e : k1 = k
      · subst e
        have hx : x0 = o1 := by simpa [kval] using h
        subst hx
        exact ⟨0, u1, valV_pos rfl, rfl, rfl⟩
      · have h' : kval kvs k = some o1 := by simpa [kval, e] using h
        obtain ⟨n, u, h1, h2, h3⟩ := ih ek h'
        exact ⟨n + 1, u, by rw [valV_neg e]; exact h1, by simpa using h2, by simpa using h3⟩
theorem go_dsetdV (h : Go K F B0 ty T Γ fun ok Γ1 => ∃ k, ok = .d (kD k) ∧ Go K F B0 tx (.d (kD k) :: T) Γ1 fun oz Γ2 => ∃ (kvs : List (Key × O)) (x : D), oz = .d x ∧ Γ2[i]? = some (some (.od kvs)) ∧ kvs.length < 100000 ∧
      (∀ o, kval kvs k = some o → ∃ y, o = .d y ∧ post (.d y) Γ2) ∧ (kval kvs k = none → post (.d x) (Γ2.set i (some (.od (dput kvs k (.d x))))))) (h0 : ∃ kvs0, Γ[i]? = some (some (.od kvs0))) :
    Go K F B0 (tDSetd (tVar i) ty tx) T Γ post := fun τ σ H Q ⟨B1, S1, w1⟩ k' => by
  obtain ⟨kvs0, e0⟩ := h0
  obtain ⟨v, T1, a1, r1, _, _⟩ := w1.mut1 e0
  cases r1 with
  | @od _ _ a ws0 _ _ _ _ hc0 _ _ _ =>
  refine ⟨.ref a, a1, a, rfl, .inl ⟨_, .inl hc0⟩, h τ σ H _ ⟨B1, S1, w1⟩ fun v2 o2 Γ1 H1 ⟨k, e2, h2⟩ w2 => ?_⟩
  subst e2
  refine h2 _ σ H1 _ w2 fun v3 o3 Γ2 H2 ⟨kvs, x, e3, g2, hz, hy, hn⟩ ⟨B2, S2, w3⟩ => ?_
  subst e3
  obtain ⟨rx, S3, _, w4⟩ := w3.popd
  obtain ⟨rk, S4, _, w5⟩ := w4.popd
  have ekk := rk.kV
  subst ekk
  obtain ⟨v', S5, a2, r2, _, f⟩ := w5.mut1 g2
  rw [a1] at a2
  cases a2
  cases r2 with
  | @od _ S6 _ ws _ ha hs hno hc nd ek rs =>
  have len : ws.length = kvs.length := by have := congrArg List.length ek; simpa using this
  refine ⟨ws, k, hc, rfl, by rw [len, sizeLine_eq]; omega, fun u hu => ?_, fun hu => ?_⟩
  · have hs := kval_keys (k := k) ek
    rw [hu] at hs
    obtain ⟨o, ho⟩ := Option.isSome_iff_exists.mp hs
    obtain ⟨y, rfl, hp⟩ := hy o ho
    obtain ⟨n, u1, q1, q2, q3⟩ := odAt ek ho
    rw [hu] at q1
    cases q1
    obtain ⟨u', U1, U2, c1, c2, c3, c4, ru, _⟩ := rs.focus (i := n) (o := .d y) (by rw [List.getElem?_map, q3]; rfl)
    have eu : u' = u := by
      rw [List.getElem?_map, q2] at c1
      cases c1; rfl
    subst eu
    cases ru with
    | d ru => exact k' _ _ Γ2 _ hp ⟨_, _, w5.pushd ru⟩
  · have hs2 := kval_keys (k := k) ek
    rw [hu] at hs2
    have hkn : kval kvs k = none := by cases q : kval kvs k with | none => rfl | some _ => rw [q] at hs2; cases hs2
    obtain ⟨S', w6⟩ := f a (.dK (putK ws k v3)) (.od (dput kvs k (.d x))) ha (.od (S' := S6) ha hs hno upd_same (dput_nodup nd) (by rw [putK_dput]; exact dput_keys ek) (by
      rw [putK_dput]
      exact ((rs.dput (So := fun _ => False) (.d rx) nd ek fun b _ z => z).tr (.refl B2) (fun b z => z.elim id False.elim) fun _ _ _ e => e).at fun b u z q => by
        rw [upd_ne (fun e => by subst e; exact hno z)]; exact q))
    exact k' _ _ _ _ (hn hkn) ⟨_, _, w6.pushd rx⟩
theorem go_dsetdI (h : Go K F B0 ty T Γ fun ok Γ1 => ∃ n : Int, ok = .d (.int n) ∧ Go K F B0 tx (.d (.int n) :: T) Γ1 fun oz Γ2 => ∃ (kvs : List (Key × O)) (x : D), oz = .d x ∧ Γ2[i]? = some (some (.od kvs)) ∧ kvs.length < 100000 ∧
      (∀ o, kval kvs (.inl n) = some o → ∃ y, o = .d y ∧ post (.d y) Γ2) ∧ (kval kvs (.inl n) = none → post (.d x) (Γ2.set i (some (.od (dput kvs (.inl n) (.d x))))))) (h0 : ∃ kvs0, Γ[i]? = some (some (.od kvs0))) :
    Go K F B0 (tDSetd (tVar i) ty tx) T Γ post :=
  go_dsetdV (fun τ σ H Q hw k => h τ σ H Q hw fun v ok Γ2 H2 ⟨n, e, q⟩ w => k v ok Γ2 H2 ⟨.inl n, e, q⟩ w) h0
theorem odAt2 {ws : List (Key × V)} {kvs : List (Key × O)} {o1 : O} (nd : (kvs.map (·.1)).Nodup) (ek : ws.map (·.1) = kvs.map (·.1)) (h : kval kvs k = some o1) : ∃ (n : Nat) (u : V), ws[n]? = some (k, u) ∧ valV ws k = some u ∧ kvs[n]? = some (k, o1) ∧ ∀ y, SK.dput kvs k y = kvs.set n (k, y) := by
  induction kvs generalizing ws with
  | nil => cases h
  | cons p kvs ih =>
    obtain ⟨k0, x0⟩ := p
    cases ws with
    | nil => simp at ek
    | cons q ws =>
      obtain ⟨k1, u1⟩ := q
      simp only [List.map_cons, List.cons.injEq] at ek
      obtain ⟨rfl, ek⟩ := ek
      simp only [List.map_cons, List.nodup_cons] at nd
      by_cases e : k1 = k
      · subst e
        have hx : x0 = o1 := by simpa [kval] using h
        subst hx
        refine ⟨0, u1, rfl, valV_pos rfl, rfl, fun y => ?_⟩
        unfold SK.dput
        rw [if_pos (by simp)]
        simp only [List.map_cons, if_pos, List.set_cons_zero, List.cons.injEq, true_and]
        refine (List.map_congr_left fun kv hkv => ?_).trans (List.map_id _)
        rw [if_neg (fun e => nd.1 (List.mem_map.mpr ⟨kv, hkv, e⟩))]; rfl
      · have h' : kval kvs k = some o1 := by simpa [kval, e] using h
        obtain ⟨n, u, h1, h2, h3, h4⟩ := ih nd.2 ek h'
        refine ⟨n + 1, u, by simpa using h1, by rw [valV_neg e]; exact h2, by simpa using h3, fun y => ?_⟩
        have h5 := h4 y
        unfold SK.dput at h5 ⊢
        have ha : (kvs.any fun kv => decide (kv.1 = k)) = true := by
          rw [List.any_eq_true]
          exact ⟨(k, o1), List.mem_of_getElem? h3, by simp⟩
        rw [if_pos ha] at h5
        rw [if_pos (by rw [List.any_cons, ha, Bool.or_true])]
        simp only [List.map_cons, if_neg e, List.set_cons_succ, h5]
theorem kval_dput {kvs : List (Key × O)} {x : O} : kval (SK.dput kvs k x) k = some x := dval_dput (kvs := kvs) (k := k) (x := x)
end
section
variable {K : PySem.W.Frag} {F B0 H B : Hp} {τ : List V} {T : List O} {σ : L2.St} {Γ : En} {S : Ad} {o oe : O} {i j : Nat} {te tk tv : TE} {tt : TT} {ta : TA} {post : O → En → Prop} {v w : V} {Dd : EG} {a b : Addr}
theorem RO.odLab {kvs : List (Key × O)} {k : Key} {ys : List O} (r : RO K B H S v (.od kvs)) (hv : kval kvs k = some (.ol ys)) : ∃ a ws b us, v = .ref a ∧ H a = some (.dK ws) ∧ valV ws k = some (.ref b) ∧ H b = some (.lst us) ∧ RO K B H S v (.od (SK.dput kvs k (.atA b (.ol ys)))) := by
  cases r with
  | @od _ S4 a ws _ ha hs hn hc nd ek rs =>
  obtain ⟨j, u, g1, g2, g3, g4⟩ := odAt2 nd ek hv
  obtain ⟨u', U1, U2, c1, c2, c3, c4, ru, f⟩ := rs.focus (i := j) (o := .ol ys) (by rw [List.getElem?_map, g3]; rfl)
  have eu : u' = u := by
    rw [List.getElem?_map, g1] at c1
    cases c1; rfl
  subst eu
  have ru0 := ru
  cases ru with
  | @ol _ S5 b us _ hb hbs hbn hbc brs =>
  refine ⟨a, ws, b, us, rfl, hc, g2, hbc, ?_⟩
  have rs2 := f B H U1 (some (.ref b)) (some (.atA b (.ol ys))) (.refl B) (fun _ _ _ e => e) c4 (fun x q => by cases q; exact ⟨_, rfl, .atA ru0⟩)
  rw [set_same c1] at rs2
  have e1 : (SK.dput kvs k (.atA b (.ol ys))).map (·.1) = kvs.map (·.1) := by
    rw [g4, List.map_set]; exact set_same' (by rw [List.getElem?_map, g3]; rfl)
  refine .od (S' := S4) ha hs hn hc (by rw [e1]; exact nd) (by rw [e1]; exact ek) ?_
  rw [g4, List.map_set]
  exact rs2.tr (.refl B) (fun b z => z.elim (c2 b) (c3 b)) fun _ _ _ e => e
theorem gos_appKI (h : Go K F B0 tk T Γ fun ok Γ1 => ∃ (n : Int) (kvs : List (Key × O)) (ys : List O), ok = .d (.int n) ∧ Γ1[i]? = some (some (.od kvs)) ∧ kval kvs (.inl n) = some (.ol ys) ∧ ys.length < 100000 ∧
      ∀ b, Go K F B0 tv T (Γ1.set i (some (.od (SK.dput kvs (.inl n) (.atA b (.ol ys)))))) fun oe Γ2 => Γ2 = Γ1.set i (some (.od (SK.dput kvs (.inl n) (.atA b (.ol ys))))) ∧ Dd.nx (Γ1.set i (some (.od (SK.dput kvs (.inl n) (.ol (ys ++ [oe]))))))) (h0 : ∃ kvs0, Γ[i]? = some (some (.od kvs0))) :
    GoS K F B0 (tDrop (tBM K "list" rAppend (tOp (rIxG K) (tVar i) tk) (tCons tv tNil))) T Γ Dd := fun τ σ H De ⟨B1, S1, w1⟩ s => by
  obtain ⟨kvs0, e0⟩ := h0
  obtain ⟨v, T1, a1, r1, _, _⟩ := w1.mut1 e0
  refine ⟨v, a1, h τ σ H _ ⟨B1, S1, w1⟩ fun v2 ok Γ2 H2 ⟨n, kvs, ys, ek, e2, hv, hz, h2⟩ ⟨B2, S2, w2⟩ => ?_⟩
  subst ek
  obtain ⟨rk, S3, _, w3⟩ := w2.popd
  cases rk
  obtain ⟨v', U1, U2, a2, bU1, bU2, d2, r2, f2⟩ := w3.slot e2
  rw [a1] at a2
  cases a2
  obtain ⟨a, ws, b, us, rfl, hc, hvl, hb, r3⟩ := r2.odLab hv
  refine .inr ⟨a, _, rfl, .inl ⟨ws, .inl n, .inl hc, rfl, hvl.symm⟩, ?_⟩
  refine ⟨Or.inl ⟨rfl, us, SqL.of hb⟩, ?_⟩
  have hi : i < Γ2.length := (List.getElem?_eq_some_iff.mp e2).1
  have w4 : ∃ S', HW K F B0 τ T σ (Γ2.set i (some (.od (SK.dput kvs (.inl n) (.atA b (.ol ys)))))) H2 B2 S' := by
    have q := f2 B2 H2 U1 (some (.ref a)) (some (.od (SK.dput kvs (.inl n) (.atA b (.ol ys))))) (.refl B2) (fun _ _ _ e => e) d2 (fun x q => by cases q; exact ⟨_, rfl, r3⟩)
    rw [set_same a1] at q
    exact ⟨_, w3.fr, w3.pu, w3.b0, fun c z => z.elim (fun z => w3.ow c (bU1 c z)) fun z => w3.ow c (bU2 c z), w3.nw, q, w3.lt, w3.tp⟩
  obtain ⟨S4, w4⟩ := w4
  refine h2 b τ σ H2 _ ⟨B2, S4, w4⟩ fun ve oe Γ3 H3 ⟨eΓ, hnx⟩ ⟨B3, S5, w5⟩ => ?_
  subst eΓ
  have e3 : (Γ2.set i (some (O.od (SK.dput kvs (.inl n) (.atA b (.ol ys))))))[i]? = some (some (.od (SK.dput kvs (.inl n) (.atA b (.ol ys))))) := List.getElem?_set_self hi
  obtain ⟨v', S6, So, a3, r5, ro, dj, _, _, f⟩ := w5.mut2 e3
  rw [a1] at a3
  cases a3
  cases r5 with
  | @od _ S7 _ ws' _ ha hs hn hc' nd ek rs =>
  obtain ⟨j, u, g1, g2, g3, g4⟩ := odAt2 nd ek kval_dput
  obtain ⟨u', V1, V2, c1, c2, c3, c4, ru, fj⟩ := rs.focus (i := j) (o := .atA b (.ol ys)) (by rw [List.getElem?_map, g3]; rfl)
  cases ru with
  | atA ru =>
  cases ru with
  | @ol _ S8 _ us' _ hb' hbs hbn hbc brs =>
  have len : us'.length = ys.length := by simpa using brs.len
  refine ⟨b, us', ve, rfl, rfl, hbc, by rw [len]; exact Nat.lt_of_lt_of_le hz (by decide), ?_⟩
  have rnew : RO K B3 (upd H3 b (.lst (us' ++ [ve]))) (fun c => V1 c ∨ So c) (.ref b) (.ol (ys ++ [oe])) := by
    refine .ol (S' := fun c => S8 c ∨ So c) (.inl hb') (fun c z => z.imp (hbs c) id) (fun z => z.elim hbn fun z => dj b (hs b (c2 b hb')) z) upd_same ?_
    rw [List.map_append, List.map_append]
    exact (brs.snoc ro fun c z y => dj c (hs c (c2 c (hbs c z))) y).at fun c u z q => by
      rw [upd_ne (fun e => by subst e; exact z.elim hbn fun z => dj c (hs c (c2 c hb')) z)]; exact q
  have nab : a ≠ b := fun e => hn (e ▸ c2 b hb')
  have rs3 := fj B3 (upd H3 b (.lst (us' ++ [ve]))) (fun c => V1 c ∨ So c) (some (.ref b)) (some (.ol (ys ++ [oe]))) (.refl B3) (fun c u z q => by
      rw [upd_ne (fun e => by subst e; exact c4 c hb' z)]; exact q) (fun c z y => z.elim (fun z => c4 c z y) fun z => dj c (hs c (c3 c y)) z) (fun x q => by cases q; exact ⟨_, rfl, rnew⟩)
  rw [set_same c1] at rs3
  have e1 : (SK.dput (SK.dput kvs (.inl n) (.atA b (.ol ys))) (.inl n) (.ol (ys ++ [oe]))).map (·.1) = (SK.dput kvs (.inl n) (.atA b (.ol ys))).map (·.1) := by
    rw [g4, List.map_set]; exact set_same' (by rw [List.getElem?_map, g3]; rfl)
  obtain ⟨S9, w9⟩ := f b (.lst (us' ++ [ve])) (.od (SK.dput (SK.dput kvs (.inl n) (.atA b (.ol ys))) (.inl n) (.ol (ys ++ [oe])))) (hs b (c2 b hb')) (.od (S' := fun c => (V1 c ∨ So c) ∨ V2 c) (.inl ha) (fun c z => z.elim (fun z => z.imp (fun z => hs c (c2 c z)) id) fun z => .inl (hs c (c3 c z)))
      (fun z => z.elim (fun z => z.elim (fun z => hn (c2 a z)) fun z => dj a ha z) fun z => hn (c3 a z)) (by rw [upd_ne nab]; exact hc') (by rw [e1]; exact nd) (by rw [e1]; exact ek) (by
        rw [g4, List.map_set]; exact rs3))
  rw [dput_dput, List.set_set] at w9
  exact s.nx σ _ _ hnx ⟨B3, S9, w9⟩
end
end SK
namespace SK
open PySem PySem.Spec PyProof.Rows L2
def tLenSetT (K : PySem.W.Frag) (te : TE) : TE := fun σ H Q => te σ H fun v H1 => ∃ (l : Addr) (ks : List (Addr × List Int)), v = .ref l ∧ SqL K H1 l (ks.map fun p => V.ref p.1) ∧ (∀ p ∈ ks, L2.SqT K H1 p.1 (p.2.map V.int)) ∧ ks.length < 64 ∧
  (ks.map (·.2)).Nodup ∧ Q (.int (ks.length : Nat)) H1
theorem pe_lenSetT {X : Cx} {K : PySem.W.Frag} {a : Expr} {ta : TE} {p p2 q pos : Pos} (hK : X.K = K) (hc : X.calm = true) (hu : X.A.units + 64 < cLine) (hg : Gl X "len") (hm : X.mg "len" = none) (hg2 : Gl X "set") (hm2 : X.mg "set" = none) (ha : PE X a ta)
    (na : starEach [a] X.env = (false, eval a X.env) :: starEach [] X.env := by rfl) : PE X (.Call (.Name "len" p) [.Call (.Name "set" p2) [a] [] q] [] pos) (tLenSetT K ta) := by
  subst hK
  refine ⟨fun pins s σ H Q I h => ?_⟩
  refine Call_ (ld_blt I hg hm PySem.boot_len ?_)
  refine PyProof.Rows.callWith_builtin1 (PyProof.Rows.args_cons ?_ rfl) rfl rfl
  refine Call_ (ld_blt I hg2 hm2 PyProof.Rows.boot_set ?_)
  refine PyProof.Rows.callWith_type1 (PyProof.Rows.args_cons (thn (ha.run pins s σ H _ I h) fun v s1 ⟨x, H1, I1, r1, q1⟩ => PyProof.Rows.args_nil ?_) na) na rfl
  obtain ⟨l, ks, rfl, hq, hk, h1, hnd, q1⟩ := q1
  cases r1
  obtain ⟨its, rv, pl, hz⟩ := I1.list hq
  refine call_set_tups (P := X.prog) (w := X.w) ks (I1.ok.hd hc) pl.isList (by simpa using refs_of_vals rv) (fun p hp => I1.isT (hk p hp)) h1 (by omega) fun h' tk L es ep t R g kp => ?_
  refine PyProof.Rows.args_nil ?_
  have I2 : Inv X pins σ H1 { s1 with heap := h', toks := tk } := I1.kept fun b o e => kp b o e
  obtain ⟨o, ho, hex, hd⟩ := R.ob
  have hlen : L.length = ks.length := by
    have a1 : L.length ≤ ks.length := g.len
    have a2 : ks.length ≤ L.length := by
      have hsub : ks.map (·.2) ⊆ L.map (·.2) := fun x hx => by
        obtain ⟨p, hp, rfl⟩ := List.mem_map.mp hx
        exact g.all p (by rw [List.take_length]; exact hp)
      have := hnd.length_le_of_subset hsub
      simpa using this
    omega
  have hn : es.size = ks.length := by rw [SetTR.size (s := { s1 with heap := h', toks := tk }) R, hlen]
  refine call_len_set ho hex hd (SetTR.fits (s := { s1 with heap := h', toks := tk }) R) (by rw [hn]; omega) ⟨.int ks.length, H1, I2.tok _, ⟨_, by rw [hn]⟩, q1⟩
section
variable {K : PySem.W.Frag} {F B0 : Hp} {T : List O} {Γ : En} {post : O → En → Prop} {te : TE}
theorem RL.tups {K : PySem.W.Frag} {B : Hp} : ∀ {us : List V} {ns : List (List Int)}, RL K B us (ns.map fun l => D.tup (l.map D.int)) → ∃ ks : List (Addr × List Int), us = ks.map (fun p => V.ref p.1) ∧ ks.map (·.2) = ns ∧ ∀ p ∈ ks, SqT K B p.1 (p.2.map V.int)
  | _, [], .nil => ⟨[], rfl, rfl, fun _ h => absurd h List.not_mem_nil⟩
  | _, l :: ns, .cons r t => by
    obtain ⟨ks, h1, h2, h3⟩ := RL.tups t
    cases r with
    | tup sq rl =>
      have := RL.ints rl
      subst this
      refine ⟨(_, l) :: ks, by rw [h1]; rfl, by rw [List.map_cons, h2], fun p hp => ?_⟩
      rcases List.mem_cons.mp hp with rfl | hp
      · exact sq
      · exact h3 p hp
theorem go_lenSetT (h : Go K F B0 te T Γ fun o Γ1 => ∃ ns : List (List Int), o.fz.seq? = some (ns.map fun l => D.tup (l.map D.int)) ∧ ns.length < 64 ∧ ns.Nodup ∧ post (.d (.int ns.length)) Γ1) :
    Go K F B0 (tLenSetT K te) T Γ post := fun τ σ H Q hw k =>
  h τ σ H _ hw fun v o Γ1 H1 ⟨ns, q1, q2, q3, q4⟩ ⟨_, _, w1⟩ => by
    obtain ⟨_, _, w2, ex⟩ := w1.fz
    obtain ⟨r, _, _, w3⟩ := w2.popd
    generalize o.fz = y at r q1
    obtain ⟨a, us, rfl, sq, rl⟩ := r.seqL q1
    obtain ⟨ks, rfl, rfl, h3⟩ := RL.tups rl
    refine ⟨a, ks, rfl, w3.pu.sqL sq, fun p hp => w3.pu.sqT (h3 p hp), by simpa using q2, q3, ?_⟩
    have e : ((ks.map (·.2)).length : Int) = (ks.length : Int) := by rw [List.length_map]
    rw [e] at q4
    exact k _ _ _ _ q4 ⟨_, _, w3.pushd .int⟩
end
end SK
namespace SK
open PySem PySem.Spec PyProof.Rows L2
section
variable {K : PySem.W.Frag} {F B0 H B : Hp} {τ : List V} {T : List O} {σ : L2.St} {Γ : En} {S : Ad} {o : O} {i : Nat} {te tk tv : TE} {ta : TA} {post : O → En → Prop} {posts1 : En → Prop} {v : V} {ks : List Key} {Dd : EG} {g : TG} {tb s : TS}
theorem RS.pureO : ∀ {vs : List V} {xs : List D}, RL K B vs xs → RS K B H (fun _ => False) (vs.map some) ((xs.map O.d).map some)
  | _, _, .nil => .nil
  | _, _, .cons r t => .cons (S1 := fun _ => False) (S2 := fun _ => False) (fun _ z => z) (fun _ z => z) (fun _ z => z.elim) (.d r) (RS.pureO t)
theorem HW.frzIn {xs : List O} (h : HW K F B0 τ T σ Γ H B S) (e : Γ[i]? = some (some (.ol xs))) : ∃ B' S', HW K F B0 τ T σ (Γ.set i (some (.ol ((fzL xs).map O.d)))) H B' S' := by
  obtain ⟨v, S0, a0, w0⟩ := h.take e
  obtain ⟨S1, S2, s1, s2, dj, r, w⟩ := w0.pop
  have hi : i < (Γ.set i none).length := by simpa using (List.getElem?_eq_some_iff.mp e).1
  cases r with
  | @ol _ S3 a vs _ ha hs hn hc rs =>
  have ex : Ex B (SK.frz B H S3) := frz_ex fun b z => (w0.ow b (s1 b (hs b z))).2.1
  have w1 : HW K F B0 (.ref a :: τ) (.ol ((fzL xs).map O.d) :: T) σ (Γ.set i none) H (SK.frz B H S3) (fun b => b = a ∨ S2 b) := by
    refine ⟨w.fr, fun b u z => ?_, w.b0.trans (.of_ex ex), fun b z => ?_, fun b z => ?_, .cons (S1 := fun b => b = a) (fun _ z => .inl z) (fun _ z => .inr z) (fun b z y => by subst z; exact dj b ha y) (.ol (S' := fun _ => False) rfl (fun _ z => z.elim) (fun z => z) hc (RS.pureO (RS.fzL (.of_ex ex) (fun b u z e => by rw [frz_at z]; exact e) rs))) (w.rs.tr (.of_ex ex) (fun _ z => z) fun _ _ _ e => e), by simp [w.lt], w.tp⟩
    · by_cases y : S3 b
      · rw [frz_at y] at z; exact z
      · rw [frz_no y] at z; exact w.pu b u z
    · have z2 : S1 b ∨ S2 b := z.imp (fun q => by subst q; exact ha) id
      have q := z2.elim (fun y => w0.ow b (s1 b y)) (fun y => w0.ow b (s2 b y))
      refine ⟨q.1, ?_, q.2.2⟩
      rw [frz_no fun y => ?_]
      · exact q.2.1
      · rcases z with z | z
        · subst z; exact hn y
        · exact dj b (hs b y) z
    · by_cases y : S3 b
      · exact .inr (w0.ow b (s1 b (hs b y))).1
      · rw [frz_no y] at z; exact w.nw b z
  obtain ⟨S5, w5⟩ := w1.put hi
  rw [set_same a0, List.set_set] at w5
  exact ⟨_, _, w5⟩
theorem gos_frzIn (i : Nat) {xs : List O} (e : Γ[i]? = some (some (.ol xs))) (h : GoS K F B0 s T (Γ.set i (some (.ol ((fzL xs).map O.d)))) Dd) : GoS K F B0 s T Γ Dd := fun τ σ H De ⟨B, S, w⟩ q => by
  obtain ⟨B', S', w'⟩ := w.frzIn e
  exact h τ σ H De ⟨_, _, w'⟩ q
/-- td tells the pure dict kvs, wherever the heap is kept but at it -/
def PlT (K : PySem.W.Frag) (td : TE) (Γ : En) (kvs : List (List Key × D)) : Prop := ∀ {F B0 : Hp} {τ : List V} {T : List O} {σ : L2.St} {H B : Hp} {S : Ad}, HW K F B0 τ T σ Γ H B S →
  ∃ d ws, Rd B d (.dT ws) ∧ RT K B ws kvs ∧ (kvs.map (·.1)).Nodup ∧ ∀ (H' : Hp) (Q : VK), (∀ a u, a ≠ d → H a = some u → H' a = some u) → Rd H' d (.dT ws) → Q (.ref d) H' → td σ H' Q
theorem RT.length' : ∀ {ws : List (List Key × V)} {kvs : List (List Key × D)}, RT K B ws kvs → ws.length = kvs.length
  | _, _, .nil => rfl
  | _, _, .cons _ t => by simp [RT.length' t]
theorem RT.at {j : Nat} : ∀ {ws : List (List Key × V)} {kvs : List (List Key × D)} {k : List Key} {x : D}, RT K B ws kvs → kvs[j]? = some (k, x) → ∃ v, ws[j]? = some (k, v) ∧ R K B v x := by
  induction j with
  | zero =>
    intro ws kvs k x r h
    cases r with
    | nil => simp at h
    | cons r t => simp at h; obtain ⟨rfl, rfl⟩ := h; exact ⟨_, rfl, r⟩
  | succ i ih =>
    intro ws kvs k x r h
    cases r with
    | nil => simp at h
    | cons r t =>
      obtain ⟨v, a, b⟩ := ih t (by simpa using h)
      exact ⟨v, by simpa using a, b⟩
def keysT (kvs : List (List Key × D)) : List D := kvs.map fun p => kT p.1
theorem iter_keysT {od : Obj} {d : Addr} {ws : List (List Key × V)} {kvs : List (List Key × D)} (hF : F d = some (.frz od (.dT ws))) (rk : RT K B0 ws kvs) : Iter K F B0 (Itkt d od ws) [] [] (keysT kvs) := by
  intro τ T σ Γ H B S w _
  have hH := w.fr d _ hF
  refine ⟨⟨hH, by rw [rk.length', keysT, List.length_map]; exact Nat.le_refl _⟩, fun j e he => ?_⟩
  obtain ⟨⟨k, x⟩, hk, rfl⟩ : ∃ p, kvs[j]? = some p ∧ e = kT p.1 := by
    rw [keysT, List.getElem?_map] at he
    cases q : kvs[j]? with
    | none => rw [q] at he; cases he
    | some p => rw [q] at he; cases he; exact ⟨p, rfl, rfl⟩
  obtain ⟨v, hv, rv⟩ := rk.at hk
  refine ⟨⟨hH, (List.getElem?_eq_some_iff.mp hv).1⟩, fun y H' ⟨e4, k', v', b, e1, e2, e3⟩ => ?_⟩
  rw [hv] at e1
  cases e1
  subst e2 e4
  obtain ⟨B', S', w', aT, _⟩ := w.allT
  exact ⟨B', _, HW.pushd (τ := τ) (T := T) w' (.tup (SqT.of (aT _ _ e3)) (RL.ofKeysK k))⟩
theorem gos_forDT {td : TE} {kvs : List (List Key × D)} (hp : PlT K td Γ kvs) (Iv : Nat → En → Prop) (h0 : Iv 0 Γ)
    (hst : ∀ F B0 i d Γ', (keysT kvs)[i]? = some d → Iv i Γ' → GoG K F B0 g (.d d) T Γ' fun Γ2 => GoS K F B0 tb T Γ2 { nx := Iv (i + 1), rt := Dd.rt, bk := Dd.nx, ct := Iv (i + 1) })
    (hd : ∀ Γ', Iv kvs.length Γ' → Dd.nx Γ') : GoS K F B0 (tLockG (tFor (iKeys td) g tb)) T Γ Dd := fun τ σ H De ⟨B, S, w⟩ s => by
  obtain ⟨d, ws, rd, rk, nd, ev⟩ := hp w
  rcases rd with hb | ⟨od, hb⟩
  · refine .inl ⟨d, .dT ws, w.pu d _ hb, trivial, fun od => ?_⟩
    obtain ⟨w1, back⟩ := w.lock hb (.inr ⟨ws, rfl⟩) od
    have rk1 : RT K (upd B d (.frz od (.dT ws))) ws kvs := RT.mono (.lock hb (.inr ⟨ws, rfl⟩)) rk
    refine ev _ _ (fun a u n e => by rw [upd_ne n]; exact e) (.inr ⟨od, upd_same⟩) ⟨d, od, rfl, .inr ⟨ws, upd_same, ?_⟩⟩
    exact for_core (J := Itkt d od ws) (hs := []) (ds := keysT kvs) (τs := []) Iv h0 (fun i d Γ' => hst _ _ i d Γ') (by rw [keysT, List.length_map]; exact hd) ⟨_, _, w1⟩ rfl (iter_keysT upd_same rk1)
      ⟨fun σ1 Γ1 H1 n h => ⟨(back _ _ _ _ _ h).1, s.nx _ _ _ n (back _ _ _ _ _ h).2⟩, fun v o σ1 Γ1 H1 n h => ⟨(back _ _ _ _ _ h).1, s.rt v o _ _ _ n (back _ _ _ _ _ h).2⟩, fun σ1 Γ1 H1 n h => ⟨(back _ _ _ _ _ h).1, s.bk _ _ _ n (back _ _ _ _ _ h).2⟩, fun σ1 Γ1 H1 n h => ⟨(back _ _ _ _ _ h).1, s.ct _ _ _ n (back _ _ _ _ _ h).2⟩⟩
  · refine .inr (ev _ _ (fun a u n e => e) (.inr ⟨od, w.pu d _ hb⟩) ⟨d, od, rfl, .inr ⟨ws, w.pu d _ hb, ?_⟩⟩)
    obtain ⟨w1, back⟩ := w.locked hb
    exact for_core (J := Itkt d od ws) (hs := []) (ds := keysT kvs) (τs := []) Iv h0 (fun i d Γ' => hst _ _ i d Γ') (by rw [keysT, List.length_map]; exact hd) ⟨_, _, w1⟩ rfl (iter_keysT upd_same rk)
      ⟨fun σ1 Γ1 H1 n h => s.nx _ _ _ n (back _ _ _ _ _ h), fun v o σ1 Γ1 H1 n h => s.rt v o _ _ _ n (back _ _ _ _ _ h), fun σ1 Γ1 H1 n h => s.bk _ _ _ n (back _ _ _ _ _ h), fun σ1 Γ1 H1 n h => s.ct _ _ _ n (back _ _ _ _ _ h)⟩
/-- xs[k][t], xs a name of an owned list of pure dicts -/
theorem plt_ixT {j l : Nat} {n : Nat} {ds : List D} {kvs1 : List (List Key × D)} {kvs : List (List Key × D)} {td : TE} (e : Γ[i]? = some (some (.ol (ds.map O.d)))) (ej : Γ[j]? = some (some (.d (.int (n : Int))))) (el : Γ[l]? = some (some (.d (kT ks)))) (h1 : ds[n]? = some (.dit kvs1)) (h2 : dval kvs1 ks = some (.dit kvs)) : PlT K (tOp (rIxG K) (tOp (rIxG K) (tVar i) (tVar j)) (tVar l)) Γ kvs := fun {F B0 τ T σ H B S} w => by
  obtain ⟨v, S1, S2, a1, b1, b2, dj, r1, _⟩ := w.slot e
  obtain ⟨vj, aj, rj⟩ := w.getd ej
  obtain ⟨vl, al, rl⟩ := w.getd el
  cases rj
  obtain ⟨q, rfl, hq⟩ := rl.keyT w.pu
  cases r1 with
  | @ol _ S3 a vs _ ha hs hn hc rs =>
  have rL := rs.pure
  obtain ⟨y, hy, ry⟩ := rL.get h1
  cases ry with
  | @dit t ws1 _ ht nd1 rt1 =>
  obtain ⟨u, g1, r⟩ : ∃ u, valV ws1 ks = some u ∧ R K B u (.dit kvs) := by
    rcases rt1.val (k := ks) with ⟨u, z, g1, g2, r⟩ | ⟨g1, g2⟩
    · rw [h2] at g2
      cases g2
      exact ⟨u, g1, r⟩
    · rw [h2] at g2; cases g2
  cases r with
  | @dit d ws _ hd nd rk =>
  refine ⟨d, ws, hd, rk, nd, fun H' Q k hd' hQ => ?_⟩
  have nad : a ≠ d := fun z => by
    subst z
    rcases w.pu.rd hd with z | ⟨_, z⟩ <;> (rw [hc] at z; cases z)
  have nqd : q ≠ d := fun z => by
    subst z
    rcases w.pu.rd hd with z | ⟨_, z⟩ <;> (rw [hq] at z; cases z)
  have ht' : Rd H' t (.dT ws1) := by
    by_cases z : t = d
    · subst z
      have e1 : ws1 = ws := by
        rcases ht with x | ⟨o1, x⟩ <;> rcases hd with y | ⟨o2, y⟩ <;> (rw [x] at y; cases y <;> rfl)
      rw [e1]; exact hd'
    · rcases w.pu.rd ht with x | ⟨o1, x⟩
      · exact .inl (k _ _ z x)
      · exact .inr ⟨o1, k _ _ z x⟩
  refine ⟨.ref a, a1, .int n, aj, .inl (.inl ⟨a, vs, n, .ref t, rfl, rfl, SqL.of (k _ _ nad hc), atI_ofN.trans hy, ?_⟩)⟩
  exact ⟨.ref q, al, .inr ⟨t, .ref d, rfl, .inr ⟨ws1, ks, q, ht', rfl, k _ _ nqd hq, g1.symm⟩, hQ⟩⟩
/-- xs[n][t] = e, xs a name of an owned list, t a name -/
theorem gog_setKL {n : Int} (m : Nat) {l : Nat} {xs : List O} {kvs : List (List Key × O)} (e : Γ[i]? = some (some (.ol xs))) (hm : n = (m : Int)) (hn : xs[m]? = some (.ot kvs)) (el : Γ[l]? = some (some (.d (kT ks)))) (hz : kvs.length < 100000)
    (h : posts1 (Γ.set i (some (.ol (xs.set m (.ot (SK.dput kvs ks o))))))) : GoG K F B0 (gSub (tOp (rIxG K) (tVar i) (tC (.int n))) (tVar l) rSetG) o T Γ posts1 := fun τ σ H v1 Q ⟨B1, S1, w1⟩ k' => by
  subst hm
  obtain ⟨vl, al, rl⟩ := w1.getd el
  obtain ⟨p, rfl, hp⟩ := rl.keyT w1.pu
  obtain ⟨v', S5, So, a2, r2, ro, dj, _, _, f⟩ := w1.mut2 e
  cases r2 with
  | @ol _ S3 a vs _ ha hs hna hc rs =>
  obtain ⟨u, V1, V2, c1, c2, c3, c4, ru, fj⟩ := rs.focus (i := m) (o := .ot kvs) (by rw [List.getElem?_map, hn]; rfl)
  cases ru with
  | @ot _ S8 b ws _ hb hbs hbn hbc nd ek brs =>
  have len : ws.length = kvs.length := by have := congrArg List.length ek; simpa using this
  have hy : vs[m]? = some (.ref b) := by
    rw [List.getElem?_map] at c1
    cases q : vs[m]? with
    | none => rw [q] at c1; cases c1
    | some z => rw [q] at c1; cases c1; rfl
  refine ⟨.ref a, a2, .inl (.inl ⟨a, vs, m, .ref b, rfl, rfl, SqL.of hc, atI_ofN.trans hy, ?_⟩)⟩
  refine ⟨.ref p, al, .inr ⟨b, _, rfl, .inr ⟨ws, ks, p, hbc, rfl, hp, by rw [len]; exact Nat.lt_of_lt_of_le hz (by decide), rfl⟩, ?_⟩⟩
  have rnew : RO K B1 (upd H b (.dT (putK ws ks v1))) (fun c => V1 c ∨ So c) (.ref b) (.ot (SK.dput kvs ks o)) := by
    refine .ot (S' := fun c => S8 c ∨ So c) (.inl hb) (fun c z => z.imp (hbs c) id) (fun z => z.elim hbn fun z => dj b (hs b (c2 b hb)) z) upd_same (dput_nodup nd) (by rw [putK_dput]; exact dput_keys ek) ?_
    rw [putK_dput]
    exact (brs.dput ro nd ek fun c z => dj c (hs c (c2 c (hbs c z)))).at fun c u z q => by
      rw [upd_ne (fun e => by subst e; exact z.elim hbn fun z => dj c (hs c (c2 c hb)) z)]; exact q
  have nab : a ≠ b := fun e => hna (e ▸ c2 b hb)
  have rs3 := fj B1 (upd H b (.dT (putK ws ks v1))) (fun c => V1 c ∨ So c) (some (.ref b)) (some (.ot (SK.dput kvs ks o))) (.refl B1) (fun c u z q => by
      rw [upd_ne (fun e => by subst e; exact c4 c hb z)]; exact q) (fun c z y => z.elim (fun z => c4 c z y) fun z => dj c (hs c (c3 c y)) z) (fun x q => by cases q; exact ⟨_, rfl, rnew⟩)
  rw [set_same c1] at rs3
  obtain ⟨S9, w9⟩ := f b (.dT (putK ws ks v1)) (.ol (xs.set m (.ot (SK.dput kvs ks o)))) (hs b (c2 b hb)) (.ol (S' := fun c => (V1 c ∨ So c) ∨ V2 c) (.inl ha) (fun c z => z.elim (fun z => z.imp (fun z => hs c (c2 c z)) id) fun z => .inl (hs c (c3 c z)))
      (fun z => z.elim (fun z => z.elim (fun z => hna (c2 a z)) fun z => dj a ha z) fun z => hna (c3 a z)) (by rw [upd_ne nab]; exact hc) (by
        rw [List.map_set]; exact rs3))
  exact k' σ _ _ h ⟨_, S9, w9⟩
end
end SK
set_option maxHeartbeats 8000000
namespace Lw
open PySem PySem.Spec PyProof.Rows L2 SK TL
local macro_rules | `(tactic| walk_at "ixx") => `(tactic| fail)
local macro_rules | `(tactic| walk_at "lenx") => `(tactic| fail)
local macro_rules | `(tactic| walk_at "lendx") => `(tactic| fail)
local macro_rules | `(tactic| walk_at "vw") => `(tactic| fail)
local macro_rules | `(tactic| walk_at "vwx") => `(tactic| fail)
local macro_rules | `(tactic| walk_at "sk1") => `(tactic| first
  | with_reducible refine gos_sPar ?_ | with_reducible refine gos_par ?_ | with_reducible refine gos_sAug ?_ | ((with_reducible refine' gos_augKA ?ha ?h0); (case h0 => exact ⟨_, rfl⟩)) | ((with_reducible refine' gos_augKS ?ha ?h0); (case h0 => exact ⟨_, rfl⟩))
  | ((with_reducible refine' gog_setK ?ha ?h0); (case h0 => exact ⟨_, rfl⟩)) | ((with_reducible refine' gos_appK ?ha ?h0); (case h0 => exact ⟨_, rfl⟩)) | ((with_reducible refine' gos_appKI ?ha ?h0); (case h0 => exact ⟨_, rfl⟩)) | ((with_reducible refine' gos_remove ?ha ?h0); (case h0 => exact ⟨_, rfl⟩))
  | ((with_reducible refine' go_dsetdI ?ha ?h0); (case h0 => exact ⟨_, rfl⟩)) | with_reducible refine go_dispT ?_ | with_reducible refine oa_listT ?_ | ((with_reducible refine' o2_ixT ?hi ?_); (case hi => first | walk_at "ixx" | assumption)) | with_reducible refine o2_inT ?_ | with_reducible refine o2_notInT ?_
  | ((with_reducible refine' gos_setdAppF ?hR ?he ?hl ?hf ?hz ?hk); (case hR => assumption); (case he => exact rfl); (case hl => exact rfl); (case hf => exact rfl); (case hz => first | (simp only [List.length_map]; omega) | walk_at "lenx" | skip); (intro F' B'); (try walk_at "lendx"); (try (simp only [fzE_cons, fzE_nil, frO_none, frO_some, fz_fl, fz_fk, fz_d, fzL_fl, fzK_d, O.fz, fzL, List.set])))
  | ((with_reducible refine' gos_setdAppV ?he ?hz ?hk); (case he => exact rfl); (case hz => first | (simp only [List.length_map]; omega) | walk_at "lenx" | skip); (intro F' B'); (try walk_at "lendx"); (try (simp only [fzE_cons, fzE_nil, frO_none, frO_some, fz_fl, fz_fk, fz_d, fzL_fl, fzK_d, O.fz, fzL, List.set])))
  | ((with_reducible refine' gos_popF ?hR ?he ?hl ?hf ?hk); (case hR => assumption); (case he => exact rfl); (case hl => exact rfl); (case hf => exact rfl); (intro F' B'); (try walk_at "lendx"); (try (simp only [fzE_cons, fzE_nil, frO_none, frO_some, fz_fl, fz_fk, fz_d, fzL_fl, fzK_d, O.fz, fzL, List.set])))
  | ((with_reducible refine' gog_setDF ?hR ?he ?hl ?hf ?hz ?hk); (case hR => assumption); (case he => exact rfl); (case hl => exact rfl); (case hf => exact rfl); (case hz => first | (simp only [List.length_map]; omega) | walk_at "lenx" | skip); (intro F' B'); (try walk_at "lendx"); (try (simp only [fzE_cons, fzE_nil, frO_none, frO_some, fz_fl, fz_fk, fz_d, fzL_fl, fzK_d, O.fz, fzL, List.set])))
  | ((with_reducible refine' gog_setT' ?hk ?h0); (case h0 => exact ⟨_, rfl⟩)) | ((with_reducible refine' gog_setL ?he ?hk); (case he => exact rfl); (intro F' B'); (try walk_at "lendx"); (try (simp only [fzE_cons, fzE_nil, frO_none, frO_some, fz_fl, fz_fk, fz_d, fzL_fl, fzK_d, O.fz, fzL, List.set])))
  | ((with_reducible refine gos_never ?_); first | (exact absurd (by assumption) (by assumption)) | omega | (simp_all; done) | skip) | with_reducible refine gos_sLG ?_
  | ((with_reducible refine' gos_frzA ?he ?hk); (case he => exact rfl); (try walk_at "lendx"); (try simp only [fz_fl, fz_fk, fz_d, fzL_fl, fzK_d, O.fz, fzL, List.set]))
  | with_reducible refine gos_sA ?_ | with_reducible refine gos_sD ?_ | with_reducible refine gos_sN ?_ | with_reducible refine gos_sU ?_ | with_reducible refine gos_sF ?_ | with_reducible refine gos_sW ?_ | with_reducible refine gos_sIR ?_ | with_reducible refine gos_sIC ?_ | with_reducible refine gos_sIW ?_ | with_reducible refine gos_sIN ?_ | with_reducible refine gos_sIF ?_ | ((with_reducible refine' gos_raiseF ?hw ?_); (case hw => assumption)) | with_reducible refine gos_sTA ?_ | with_reducible refine gos_sTAE ?_ | with_reducible refine gos_sTO ?_ | with_reducible refine gos_sTE ?_ | with_reducible refine gos_sTX ?_ | with_reducible refine gos_sIB ?_ | with_reducible refine gos_asg ?_ | with_reducible refine gos_ret ?_ | with_reducible refine gos_if ?_ | with_reducible refine gos_next ?_ | with_reducible refine gos_brk ?_ | ((with_reducible refine' gos_append ?ha ?h0); (case h0 => exact ⟨_, rfl⟩)) | ((with_reducible refine' gos_insert ?ha ?h0); (case h0 => exact ⟨_, rfl⟩)) | ((with_reducible refine' gos_extend ?ha ?h0); (case h0 => exact ⟨_, rfl⟩)) | ((with_reducible refine' gos_dupd ?ha ?h0); (case h0 => exact ⟨_, rfl⟩)) | ((with_reducible refine gos_clear ?_); (refine ⟨_, rfl, ?_⟩); dsimp only [List.set]) | ((with_reducible refine' gos_dclear ?he ?_); (case he => exact rfl); dsimp only [List.set]) | ((with_reducible refine' gos_clearT 0 ?he ?hk ?hn ?_); (case hn => exact rfl); (case he => exact rfl); (case hk => exact rfl); dsimp only [List.set]) | ((with_reducible refine' gos_clearT 1 ?he ?hk ?hn ?_); (case hn => exact rfl); (case he => exact rfl); (case hk => exact rfl); dsimp only [List.set]) | with_reducible refine gos_drop ?_
  | ((with_reducible refine' go_var ?hv ?_); (case hv => exact rfl))
  | ((with_reducible refine' go_fz ?hv ?_); (case hv => exact rfl); (try walk_at "lendx"); (try simp only [fz_fl, fz_fk, fz_d, fzL_fl, fzK_d, O.fz, fzL, List.set])) | with_reducible refine go_int ?_ | with_reducible refine go_dnewT ?_ | with_reducible refine go_ixT' ?_ | with_reducible refine go_bl ?_ | with_reducible refine go_str ?_ | with_reducible refine go_non ?_ | with_reducible refine go_ty ?_ | ((with_reducible refine' go_cst ?hq ?_); (case hq => assumption)) | with_reducible refine go_ref ?_ | ((with_reducible refine' gos_raise ?hw ?_); (case hw => assumption)) | ((with_reducible refine' oa_isX ?hE ?hq ?_); (case hE => assumption); (case hq => assumption)) | ((with_reducible refine' oa_isXt ?hE ?hq ?_); (case hE => assumption); (case hq => assumption))
  | ((with_reducible refine gos_raise0 ?_); first | (exact absurd (by assumption) (by assumption)) | omega | (simp_all; done) | skip)
  | with_reducible refine go_lindex ?_ | with_reducible refine go_sindex ?_ | with_reducible refine go_upper ?_ | with_reducible refine go_find ?_
  | ((with_reducible refine' go_fldR ?hR ?_); (case hR => assumption)) | ((with_reducible refine' gos_fldR ?hR ?_); (case hR => assumption)) | with_reducible refine go_minD ?_ | with_reducible refine go_listRev ?_ | with_reducible refine go_listRgR ?_ | with_reducible refine go_listRg ?_ | with_reducible refine go_sortSet ?_ | with_reducible refine go_lenSetT ?_
  | ((with_reducible refine go_lend' fun F' B' => ?_); (try walk_at "lendx"); (try (simp only [fzE_cons, fzE_nil, frO_none, frO_some, fz_fl, fz_fk, fz_d, fzL_fl, fzK_d, O.fz, fzL, List.set]))) | ((with_reducible refine got_lend' fun F' B' => ?_); (try walk_at "lendx"); (try (simp only [fzE_cons, fzE_nil, frO_none, frO_some, fz_fl, fz_fk, fz_d, fzL_fl, fzK_d, O.fz, fzL, List.set])))
  | ((with_reducible refine' go_lendV' ?hv ?_); (case hv => walk_at "vw"); (intro F' B'); (try walk_at "vwx"); (try (simp only [fzE_cons, fzE_nil, frO_none, frO_some, fz_fl, fz_fk, fz_d, fzL_fl, fzK_d, O.fz, fzL, List.set]))) | ((with_reducible refine' got_lendV' ?hv ?_); (case hv => walk_at "vw"); (intro F' B'); (try walk_at "vwx"); (try (simp only [fzE_cons, fzE_nil, frO_none, frO_some, fz_fl, fz_fk, fz_d, fzL_fl, fzK_d, O.fz, fzL, List.set])))
  | with_reducible refine go_tupO' ?_ | with_reducible refine go_lstO' ?_ | with_reducible refine goao_nil ?_
  | ((with_reducible refine goao_cons ?_); first | ((with_reducible refine' go_var ?hv ?_); (case hv => exact rfl)) | ((with_reducible refine' go_move ?hv ?_); (case hv => exact rfl); dsimp only [List.set]) | skip)
  | ((with_reducible refine' go_varM ?hv ?_); (case hv => exact rfl); (try dsimp only [List.set]))
  | ((with_reducible refine' go_ixO ?he ?_); (case he => exact ⟨_, rfl⟩))
  | with_reducible refine go_op ?_ | with_reducible refine go_un ?_ | with_reducible refine go_cb ?_ | with_reducible refine go_tup ?_ | with_reducible refine go_lst ?_ | with_reducible refine go_chain ?_ | with_reducible refine go_dnew ?_
  | with_reducible refine goa_cons ?_ | with_reducible refine goa_nil ?_ | with_reducible refine go_andV ?_ | with_reducible refine go_orV ?_ | with_reducible refine go_notV ?_ | with_reducible refine go_if ?_
  | with_reducible refine got_test ?_ | with_reducible refine got_B ?_ | with_reducible refine got_and ?_ | with_reducible refine got_or ?_ | with_reducible refine got_not ?_ | with_reducible refine got_yes ?_
  | ((with_reducible refine' gog_name ?hi ?_); (case hi => exact Nat.le_of_ble_eq_true rfl); dsimp only [List.set])
  | ((with_reducible refine' gos_aug ⟨_, ?hx, ?_⟩); (case hx => exact rfl)) | with_reducible refine oi_add ?_ | with_reducible refine oi_sub ?_
  | ((with_reducible refine' gog_setDI ?ha ?h0); (case h0 => exact ⟨_, rfl⟩)) | ((with_reducible refine' gog_setDS ?ha ?h0); (case h0 => exact ⟨_, rfl⟩))
  | with_reducible refine gog_tup ?_ | with_reducible refine gogs_nil ?_
  | ((with_reducible refine' gogs_name ?hi ?_); (case hi => exact Nat.le_of_ble_eq_true rfl); dsimp only [List.set])
  | ((with_reducible refine' gow_name ?hj ?hi ?_); (case hj => simp); (case hi => exact Nat.le_of_ble_eq_true rfl); dsimp only [List.set])
  | ((with_reducible refine' gow_tup ?he ?hn ?_); (case he => exact rfl); (case hn => exact rfl)) | with_reducible refine gows_nil ?_
  | ((with_reducible refine' gows_name ?hj ?hi ?_); (case hj => simp); (case hi => exact Nat.le_of_ble_eq_true rfl); dsimp only [List.set])
  | (with_reducible refine ⟨_, rfl, ?_⟩)
  | ((with_reducible refine' o2_addT ?hx ?hz ?_); (case hx => exact List.cons_ne_nil _ _); (case hz => (simp only [List.length_cons, List.length_nil, List.length_map]; omega)); (try simp only [List.cons_append, List.nil_append]))
  | with_reducible refine o2_add ?_ | with_reducible refine o2_sub ?_ | with_reducible refine o1_neg ?_ | (with_reducible refine o2_is ?_; (try simp only [D.isNon])) | (with_reducible refine o2_not ?_; (try simp only [D.isNon, Bool.not_true, Bool.not_false])) | ((with_reducible refine' o2_mul ?hm ?_); (case hm => first | exact IntMulOk.of_left (by decide) | exact IntMulOk.of_right (by decide) | assumption | exact IntMulOk.of_right (intBits_le_64 (by omega) (by omega)) | exact IntMulOk.of_left (intBits_le_64 (by omega) (by omega)))) | ((with_reducible refine' o2_div ?hb ?_); (case hb => omega)) | ((with_reducible refine' o2_mod ?hb ?_); (case hb => omega))
  | ((with_reducible refine o2_pow (by decide) ?_); dsimp only [Int.reduceToNat, Int.reducePow])
  | with_reducible refine o2_lt ?_ | with_reducible refine o2_le ?_ | with_reducible refine o2_gt ?_ | with_reducible refine o2_ge ?_ | with_reducible refine o2_eqI ?_ | with_reducible refine o2_neI ?_ | with_reducible refine o2_eqB ?_ | with_reducible refine o2_neB ?_ | with_reducible refine o2_eqS ?_ | with_reducible refine o2_neS ?_
  | ((with_reducible refine' o2_eqN ?hq ?_); (case hq => exact rfl); (try simp only [emp_map])) | ((with_reducible refine' o2_neN ?hq ?_); (case hq => exact rfl); (try simp only [emp_map]))
  | with_reducible refine o2_eqK ?_ | with_reducible refine o2_neK ?_
  | with_reducible refine o2_isBl ?_ | with_reducible refine o2_notBl ?_
  | with_reducible refine oa_dictI ?_ | with_reducible refine oa_max2 ?_ | with_reducible refine oa_min2 ?_
  | with_reducible refine oa_lenD ?_ | with_reducible refine oa_len (.seq rfl) ?_ | ((with_reducible refine' oa_len (.str ?hz) ?_); (case hz => omega)) | with_reducible refine oa_tupL rfl ?_ | with_reducible refine oa_tupT ?_
  | ((with_reducible refine' oa_isiG (b := true) ?ht ?hk ?_); (case ht => constructor); (case hk => decide +kernel)) | ((with_reducible refine' oa_isiG (b := false) ?ht ?hk ?_); (case ht => constructor); (case hk => decide +kernel))
  | with_reducible refine go_join ?_ | with_reducible refine go_split ?_ | with_reducible refine go_part ?_ | with_reducible refine go_starts ?_ | with_reducible refine oa_strS ?_ | with_reducible refine oa_intB ?_
  | with_reducible refine go_dget2 ?_ | with_reducible refine go_dget1 ?_ | with_reducible refine gog_lunO ?_ | with_reducible refine gogso_nil ?_ | ((with_reducible refine' gogso_name ?hi ?_); (case hi => exact Nat.le_of_ble_eq_true rfl); dsimp only [List.set]) | (refine ⟨Sum.inl _, by exact rfl, ?_⟩) | (refine ⟨Sum.inr _, by exact rfl, ?_⟩)
  | ((with_reducible refine' o2_ix (x := _) rfl ?hi ?_); (case hi => first | walk_at "ixx" | exact rfl | exact atI_ofN.trans rfl))
  | with_reducible refine go_sl3 ?_ | with_reducible refine go_sl ?_ | with_reducible refine goo_none ?_ | with_reducible refine goo_some ?_
  | with_reducible refine goi_rng1 ?_ | with_reducible refine goi_rng2 ?_ | with_reducible refine goi_seq ?_ | with_reducible refine goi_enum ?_ | with_reducible refine goi_zip ?_ | with_reducible refine goi_zipT ?_
  | with_reducible refine gos_for ?_
  | walk_at "lendx"
  | (simp only [fz_fl, fz_fk, fz_d, fzL_fl, fzK_d, O.fz, fzL])
  | ((with_reducible refine and_im (fun hc => ?_) (fun hc => ?_)) <;> try simp only [decide_eq_true_eq, decide_eq_false_iff_not, Bool.true_eq_false, Bool.false_eq_true, Bool.not_eq_true', Bool.not_eq_false', reduceCtorEq] at hc <;> try first | exact absurd hc (by decide) | exact absurd hc (by assumption) | exact absurd (by assumption) hc | exact absurd rfl hc)
  | walk_at "skc"
  | (refine ⟨_, _, _, _, rfl, by exact rfl, by exact rfl, ?_⟩) | (with_reducible refine ⟨_, _, rfl, ?_⟩) | (with_reducible refine ⟨_, _, _, rfl, ?_⟩) | (with_reducible refine ⟨_, _, _, _, rfl, ?_⟩) | (with_reducible refine ⟨_, _, _, _, _, rfl, ?_⟩) | (with_reducible refine ⟨_, _, _, _, _, _, rfl, ?_⟩)
  | ((with_reducible refine' And.intro ?hp ?_); (case hp => first | omega | assumption | exact rfl | exact Nat.le_of_ble_eq_true rfl | exact lfOLm (fun _ => rfl) | (show O.lf _ = true; simp only [O.lf, D.lf, lfL, lfOL, lf_mapI, Bool.and_true, Bool.and_self]; done)); (try dsimp only [List.set]))
  | ((refine' ⟨_, Sl.str ?hz, ?_⟩); (case hz => omega))
  | ((refine ⟨_, Sl.tupM (by decide) (List.cons_ne_nil _ _), ?_⟩); (try simp only [cutD_takeI, cutD_dropI, cutD_midI, Int.reduceToNat, Int.reduceLE, List.take_succ_cons, List.drop_succ_cons, List.take_zero, List.drop_zero]))
  | ((refine ⟨_, Sl.lst (by exact rfl), ?_⟩); (try simp only [SK.cutD_map, cutD_takeI, cutD_dropI, cutD_midI, ← List.map_take, ← List.map_drop, Int.reduceToNat, Int.reduceLE])) | (refine ⟨_, by exact rfl, ?_⟩) | (refine ⟨_, _, by exact rfl, by exact rfl, ?_⟩)
  | fail)
/-- all steps that no choice is asked of -/
local macro_rules | `(tactic| walk_at "sk") => `(tactic| (repeat' (walk_at "sk1")))
/-- .. and ifs that go on behind, each way by itself -/
local macro_rules | `(tactic| walk_at "skb") => `(tactic| (repeat' (first | walk_at "sk1" | with_reducible refine gos_seq ?_ | fail)))
/-- slots are as told -/
local macro_rules | `(tactic| walk_at "envq") => `(tactic| ((try simp only [List.map_append, List.map_cons, List.map_nil]); rfl))
/-- .. and what is plainly true falls away -/
local macro_rules | `(tactic| walk_at "wk") => `(tactic| (repeat' (first | walk_at "sk1" | (with_reducible refine ⟨trivial, ?_⟩) | fail)))
local macro_rules | `(tactic| walk_at "wkb") => `(tactic| (repeat' (first | walk_at "sk1" | (with_reducible refine ⟨trivial, ?_⟩) | with_reducible refine gos_seq ?_ | fail)))
def topS (i : Nat) : Stmt := PySem.Challenge.pw_skewhouse_k64_least_rings.main.body.getD i (.Pass ⟨0, 0, 0, 0⟩)
abbrev s__law_cell_at : Stmt := topS 6
abbrev N__law_cell_at : List Str := ["_law_script", "_law_k"]
theorem sc__law_cell_at : FnScope N__law_cell_at ["_law_script", "_law_k"] (defScope s__law_cell_at) := ⟨rfl, rfl, rfl, by decide +kernel, rfl, by decide +kernel, by decide +kernel⟩
abbrev s__law_nodes : Stmt := topS 8
abbrev N__law_nodes : List Str := ["_law_script", "_law_most", "_law_cell", "_law_more", "_law_nodes_here", "_law_k", "_law_one", "_law_other"]
theorem sc__law_nodes : FnScope N__law_nodes ["_law_script", "_law_most"] (defScope s__law_nodes) := ⟨rfl, rfl, rfl, by decide +kernel, rfl, by decide +kernel, by decide +kernel⟩
abbrev s__law_pairs : Stmt := topS 9
abbrev N__law_pairs : List Str := ["_law_script", "_law_nodes_here", "_law_pairs_here", "_law_way", "_law_cell", "_law_one", "_law_other"]
theorem sc__law_pairs : FnScope N__law_pairs ["_law_script", "_law_nodes_here"] (defScope s__law_pairs) := ⟨rfl, rfl, rfl, by decide +kernel, rfl, by decide +kernel, by decide +kernel⟩
abbrev s__law_nexts : Stmt := topS 10
abbrev N__law_nexts : List Str := ["_law_nodes_here", "_law_pairs_here", "_law_nexts_here", "_law_node", "_law_one", "_law_other"]
theorem sc__law_nexts : FnScope N__law_nexts ["_law_nodes_here", "_law_pairs_here"] (defScope s__law_nexts) := ⟨rfl, rfl, rfl, by decide +kernel, rfl, by decide +kernel, by decide +kernel⟩
abbrev s_nearest : Stmt := topS 2
abbrev N_nearest : List Str := ["nodes", "far", "found", "node"]
theorem sc_nearest : FnScope N_nearest ["nodes", "far"] (defScope s_nearest) := ⟨rfl, rfl, rfl, by decide +kernel, rfl, by decide +kernel, by decide +kernel⟩
abbrev s_ring_through : Stmt := topS 3
abbrev N_ring_through : List Str := ["start", "behind", "far", "node", "found"]
theorem sc_ring_through : FnScope N_ring_through ["start", "behind", "far"] (defScope s_ring_through) := ⟨rfl, rfl, rfl, by decide +kernel, rfl, by decide +kernel, by decide +kernel⟩
abbrev s_steps_to : Stmt := topS 1
abbrev N_steps_to : List Str := ["goal", "ahead", "far", "line", "at", "node", "other"]
theorem sc_steps_to : FnScope N_steps_to ["goal", "ahead"] (defScope s_steps_to) := ⟨rfl, rfl, rfl, by decide +kernel, rfl, by decide +kernel, by decide +kernel⟩
abbrev s_least_ring : Stmt := topS 4
abbrev N_least_ring : List Str := ["nodes", "pairs", "ahead", "behind", "node", "best", "start", "one", "other", "found"]
theorem sc_least_ring : FnScope N_least_ring ["nodes", "pairs"] (defScope s_least_ring) := ⟨rfl, rfl, rfl, by decide +kernel, rfl, by decide +kernel, by decide +kernel⟩
abbrev s__law_walks : Stmt := topS 11
abbrev N__law_walks : List Str := ["_law_nodes_here", "_law_nexts_here", "_law_many", "_law_tables", "_law_node", "_law_k", "_law_grown", "_law_there", "_law_mid", "_law_far"]
theorem sc__law_walks : FnScope N__law_walks ["_law_nodes_here", "_law_nexts_here", "_law_many"] (defScope s__law_walks) := ⟨rfl, rfl, rfl, by decide +kernel, rfl, by decide +kernel, by decide +kernel⟩
abbrev s__law_none : Stmt := topS 14
abbrev N__law_none : List Str := ["_law_nodes_here", "_law_nexts_here", "_law_tables", "_law_k", "_law_node"]
theorem sc__law_none : FnScope N__law_none ["_law_nodes_here", "_law_nexts_here"] (defScope s__law_none) := ⟨rfl, rfl, rfl, by decide +kernel, rfl, by decide +kernel, by decide +kernel⟩
abbrev s__law_whole : Stmt := topS 7
abbrev N__law_whole : List Str := ["_law_found"]
theorem sc__law_whole : FnScope N__law_whole ["_law_found"] (defScope s__law_whole) := ⟨rfl, rfl, rfl, by decide +kernel, rfl, by decide +kernel, by decide +kernel⟩
abbrev s__law_is_chain : Stmt := topS 13
abbrev N__law_is_chain : List Str := ["_law_found", "_law_nodes_here", "_law_nexts_here", "_law_node", "_law_k"]
theorem sc__law_is_chain : FnScope N__law_is_chain ["_law_found", "_law_nodes_here", "_law_nexts_here"] (defScope s__law_is_chain) := ⟨rfl, rfl, rfl, by decide +kernel, rfl, by decide +kernel, by decide +kernel⟩
abbrev s__law_no_less : Stmt := topS 12
abbrev N__law_no_less : List Str := ["_law_nodes_here", "_law_nexts_here", "_law_chain", "_law_tables", "_law_k", "_law_node", "_law_other"]
theorem sc__law_no_less : FnScope N__law_no_less ["_law_nodes_here", "_law_nexts_here", "_law_chain"] (defScope s__law_no_less) := ⟨rfl, rfl, rfl, by decide +kernel, rfl, by decide +kernel, by decide +kernel⟩
abbrev s_law : Stmt := topS 15
abbrev N_law : List Str := ["_law_script", "_law_nodes_here", "_law_pairs_here", "_law_handed", "_law_leading", "_law_nexts_here", "_law_found", "_law_kept"]
theorem sc_law : FnScope N_law ["_law_script"] (defScope s_law) := ⟨rfl, rfl, rfl, by decide +kernel, rfl, by decide +kernel, by decide +kernel⟩
abbrev Nd := Int × Int
def nk (p : Nd) : List Key := [.inl p.1, .inl p.2]
abbrev nD (p : Nd) : D := kT (nk p)
theorem nD_tup {p : Nd} : nD p = .tup [.int p.1, .int p.2] := rfl
theorem nk_inj {p q : Nd} (h : nk p = nk q) : p = q := by
  unfold nk at h
  simp only [List.cons.injEq, Sum.inl.injEq, and_true] at h
  exact Prod.ext h.1 h.2
abbrev pD (e : Nd × Nd) : D := .tup [nD e.1, nD e.2]
/-- a dict whose keys are the nodes -/
def mo {α : Type} (h : Nd → α) (ns : List Nd) : List (List Key × α) := ns.map fun v => (nk v, h v)
theorem mo_keys {α : Type} {h : Nd → α} {ns : List Nd} : (mo h ns).map (·.1) = ns.map nk := by simp [mo]
theorem mo_len {α : Type} {h : Nd → α} {ns : List Nd} : (mo h ns).length = ns.length := by simp [mo]
theorem mo_val {α : Type} {h : Nd → α} : ∀ {ns : List Nd} {u : Nd}, u ∈ ns → dval (mo h ns) (nk u) = some (h u)
  | v :: ns, u, hu => by
    by_cases e : v = u
    · subst e; simp [mo, dval]
    · have h1 : u ∈ ns := (List.mem_cons.mp hu).resolve_left fun h => e h.symm
      have h2 : ¬ nk v = nk u := fun q => e (nk_inj q)
      have := mo_val (h := h) h1
      simpa [mo, dval, h2] using this
theorem mo_none {α : Type} {h : Nd → α} {ns : List Nd} {u : Nd} (hu : u ∉ ns) : dval (mo h ns) (nk u) = none := by
  rw [dval_none, mo_keys]
  intro hm
  obtain ⟨v, hv, e⟩ := List.mem_map.mp hm
  exact hu (nk_inj e ▸ hv)
theorem mo_put {α : Type} {h : Nd → α} {x : α} {ns : List Nd} {u : Nd} (hu : u ∈ ns) : SK.dput (mo h ns) (nk u) x = mo (fun v => if v = u then x else h v) ns := by
  unfold SK.dput
  rw [if_pos (by rw [List.any_eq_true]; exact ⟨(nk u, h u), List.mem_map.mpr ⟨u, hu, rfl⟩, by simp⟩)]
  unfold mo
  rw [List.map_map]
  refine List.map_congr_left fun v _ => ?_
  simp only [Function.comp]
  by_cases e : v = u
  · subst e; simp
  · rw [if_neg (fun q => e (nk_inj q)), if_neg e]
theorem mo_snoc {α : Type} {h : Nd → α} {ns : List Nd} {u : Nd} (hu : u ∉ ns) : SK.dput (mo h ns) (nk u) (h u) = mo h (ns ++ [u]) := by
  rw [dput_new]
  · simp [mo]
  · intro p hp e
    obtain ⟨v, hv, rfl⟩ := List.mem_map.mp hp
    exact hu (nk_inj e ▸ hv)
theorem mo_fz {h : Nd → O} {g : Nd → D} (e : ∀ v, (h v).fz = g v) : ∀ ns : List Nd, (O.ot (mo h ns)).fz = .dit (mo g ns) := by
  intro ns
  show D.dit (fzT (mo h ns)) = _
  congr 1
  induction ns with
  | nil => rfl
  | cons v ns ih =>
    show (nk v, (h v).fz) :: fzT (mo h ns) = (nk v, g v) :: mo g ns
    rw [e, ih]
theorem nD_py {p : Nd} : (nD p).py = .tuple [.int p.1, .int p.2] := rfl
theorem nD_pl {p : Nd} : (nD p).pl = true := rfl
theorem nD_shp {p : Nd} : Shp 1 (nD p) := by
  rw [nD_tup]
  refine Shp.tup fun x hx => ?_
  simp only [List.mem_cons, List.not_mem_nil, or_false] at hx
  rcases hx with rfl | rfl <;> exact Shp.int
/-- the order of nodes -/
def nlt (p q : Nd) : Prop := p.1 < q.1 ∨ (p.1 = q.1 ∧ p.2 < q.2)
instance (p q : Nd) : Decidable (nlt p q) := inferInstanceAs (Decidable (_ ∨ _))
theorem nlt_py {p q : Nd} : PySem.W.dataLt (nD p).py (nD q).py = decide (nlt p q) := by
  rw [nD_py, nD_py, PySem.W.dataLt_ii]; rfl
theorem nlt_irr {p : Nd} : ¬ nlt p p := by unfold nlt; omega
theorem nlt_tr {p q r : Nd} (a : nlt p q) (b : nlt q r) : nlt p r := by unfold nlt at *; omega
theorem nlt_tri {p q : Nd} (a : ¬ nlt p q) (b : ¬ nlt q p) : p = q := by
  unfold nlt at *
  exact Prod.ext (by omega) (by omega)
theorem eqv_nD {p q : Nd} : PyData.eqv (nD p).py (nD q).py = decide (p = q) := by
  rw [Bool.eq_iff_iff, decide_eq_true_eq, eqv_iff (nD p) (nD q) rfl rfl rfl]
  constructor
  · intro h
    rw [nD_tup, nD_tup] at h
    simp only [D.tup.injEq, List.cons.injEq, D.int.injEq, and_true] at h
    exact Prod.ext h.1 h.2
  · rintro rfl; rfl
def minN : List Nd → Option Nd
  | [] => none
  | x :: xs => match minN xs with
    | none => some x
    | some y => if nlt y x then some y else some x
theorem minN_none : ∀ {l : List Nd}, minN l = none ↔ l = []
  | [] => by simp [minN]
  | x :: xs => by
    unfold minN
    cases minN xs with
    | none => simp
    | some y => simp; split <;> simp
theorem minN_ok : ∀ {l : List Nd} {m : Nd}, minN l = some m → m ∈ l ∧ ∀ z ∈ l, ¬ nlt z m
  | x :: xs, m, h => by
    unfold minN at h
    cases q : minN xs with
    | none =>
      rw [q] at h
      cases h
      have := minN_none.mp q
      subst this
      exact ⟨List.mem_cons_self, fun z hz => by rw [List.mem_singleton.mp hz]; exact nlt_irr⟩
    | some y =>
      obtain ⟨h1, h2⟩ := minN_ok q
      rw [q] at h
      dsimp only at h
      by_cases e : nlt y x
      · rw [if_pos e] at h
        cases h
        refine ⟨List.mem_cons_of_mem _ h1, fun z hz => ?_⟩
        rcases List.mem_cons.mp hz with rfl | hz
        · exact fun q => nlt_irr (nlt_tr q e)
        · exact h2 z hz
      · rw [if_neg e] at h
        cases h
        refine ⟨List.mem_cons_self, fun z hz => ?_⟩
        rcases List.mem_cons.mp hz with rfl | hz
        · exact nlt_irr
        · intro q
          by_cases e2 : nlt x y
          · exact h2 z hz (nlt_tr q e2)
          · have := nlt_tri e e2
            subst this
            exact h2 z (by assumption) q
theorem minN_of {l : List Nd} {m : Nd} (h : m ∈ l) (h2 : ∀ z ∈ l, ¬ nlt z m) : minN l = some m := by
  cases q : minN l with
  | none => rw [minN_none.mp q] at h; cases h
  | some y =>
    obtain ⟨a, b⟩ := minN_ok q
    rw [nlt_tri (h2 y a) (b m h)]
/-- how many pairs lead from l to v -/
def cnW (ps : List (Nd × Nd)) (l : List Nd) (v : Nd) : Nat := (ps.filter fun e => decide (e.2 = v) && decide (e.1 ∈ l)).length
theorem cnW_zero {ps : List (Nd × Nd)} {l : List Nd} {v : Nd} : cnW ps l v = 0 ↔ ∀ e ∈ ps, e.2 = v → e.1 ∉ l := by
  unfold cnW
  rw [List.length_eq_zero_iff, List.filter_eq_nil_iff]
  refine forall_congr' fun e => forall_congr' fun _ => ?_
  rw [Bool.and_eq_true, decide_eq_true_eq, decide_eq_true_eq, not_and]
def frN (ps : List (Nd × Nd)) (l : List Nd) (v : Nd) : Bool := decide (cnW ps l v = 0)
def ordF (ps : List (Nd × Nd)) : Nat → List Nd → Option (List Nd)
  | 0, _ => some []
  | n + 1, l => match minN (l.filter (frN ps l)) with
    | none => none
    | some m => (ordF ps n (l.erase m)).map (m :: ·)
def ordN (ns : List Nd) (ps : List (Nd × Nd)) : Option (List Nd) := ordF ps ns.length ns
theorem ordN_step {ps : List (Nd × Nd)} {l : List Nd} {m : Nd} (hm : m ∈ l) (h0 : cnW ps l m = 0) (hl : ∀ z ∈ l, cnW ps l z = 0 → ¬ nlt z m) : ordN l ps = (ordN (l.erase m) ps).map (m :: ·) := by
  unfold ordN
  have hn : l.length = (l.erase m).length + 1 := by
    have := List.length_erase_of_mem hm
    have := List.length_pos_of_mem hm
    omega
  rw [hn]
  conv => lhs; unfold ordF
  have hmin : minN (l.filter (frN ps l)) = some m := minN_of (List.mem_filter.mpr ⟨hm, decide_eq_true h0⟩) fun z hz => hl z (List.mem_filter.mp hz).1 (of_decide_eq_true (List.mem_filter.mp hz).2)
  rw [hmin]
theorem ordN_stop {ps : List (Nd × Nd)} {l : List Nd} (hne : l ≠ []) (h : ∀ z ∈ l, cnW ps l z ≠ 0) : ordN l ps = none := by
  unfold ordN
  cases l with
  | nil => exact absurd rfl hne
  | cons x l =>
    rw [List.length_cons]
    unfold ordF
    have : (x :: l).filter (frN ps (x :: l)) = [] := List.filter_eq_nil_iff.mpr fun z hz => by
      unfold frN
      rw [decide_eq_true_eq]; exact h z hz
    rw [this]; rfl
/-- the nodes that pairs lead to from v, in order -/
def outs (ps : List (Nd × Nd)) (v : Nd) : List Nd := (ps.filter fun e => decide (e.1 = v)).map (·.2)
/-- how many pairs lead to v -/
def ins0 (ps : List (Nd × Nd)) (v : Nd) : Nat := (ps.filter fun e => decide (e.2 = v)).length
theorem cnW_erase {ps : List (Nd × Nd)} {l : List Nd} {m v : Nd} (hn : l.Nodup) (hm : m ∈ l) : cnW ps l v = cnW ps (l.erase m) v + (outs ps m).count v := by
  unfold cnW outs
  induction ps with
  | nil => rfl
  | cons e ps ih =>
    have me : e.1 ∈ l.erase m ↔ e.1 ≠ m ∧ e.1 ∈ l := by rw [hn.mem_erase_iff]
    by_cases h1 : e.2 = v
    · by_cases h2 : e.1 = m
      · have h3 : e.1 ∈ l := h2 ▸ hm
        have h4 : ¬ e.1 ∈ l.erase m := fun q => (me.mp q).1 h2
        have e1 : ((e :: ps).filter fun e => decide (e.2 = v) && decide (e.1 ∈ l)) = e :: ps.filter fun e => decide (e.2 = v) && decide (e.1 ∈ l) := by
          rw [List.filter_cons, if_pos (by rw [decide_eq_true h1, decide_eq_true h3]; rfl)]
        have e2 : ((e :: ps).filter fun e => decide (e.2 = v) && decide (e.1 ∈ l.erase m)) = ps.filter fun e => decide (e.2 = v) && decide (e.1 ∈ l.erase m) := by
          rw [List.filter_cons, if_neg (by rw [decide_eq_false h4, Bool.and_false]; simp)]
        have e3 : ((e :: ps).filter fun e => decide (e.1 = m)) = e :: ps.filter fun e => decide (e.1 = m) := by
          rw [List.filter_cons, if_pos (decide_eq_true h2)]
        rw [e1, e2, e3, List.map_cons, List.count_cons, List.length_cons, if_pos (by simp [h1])]
        omega
      · by_cases h3 : e.1 ∈ l
        · have h4 : e.1 ∈ l.erase m := me.mpr ⟨h2, h3⟩
          simp only [List.filter_cons, h1, h2, h3, h4, decide_true, decide_false, Bool.true_and, if_true, List.length_cons, Bool.false_eq_true, if_false]
          omega
        · have h4 : ¬ e.1 ∈ l.erase m := fun q => h3 (me.mp q).2
          simp only [List.filter_cons, h1, h2, h3, h4, decide_true, decide_false, Bool.true_and, Bool.false_eq_true, if_false]
          omega
    · have h5 : ((e :: ps).filter fun e => decide (e.2 = v) && decide (e.1 ∈ l)) = ps.filter fun e => decide (e.2 = v) && decide (e.1 ∈ l) := by
        simp [List.filter_cons, h1]
      have h6 : ((e :: ps).filter fun e => decide (e.2 = v) && decide (e.1 ∈ l.erase m)) = ps.filter fun e => decide (e.2 = v) && decide (e.1 ∈ l.erase m) := by
        simp [List.filter_cons, h1]
      rw [h5, h6, ih]
      congr 1
      by_cases h2 : e.1 = m
      · simp [List.filter_cons, h2, List.count_cons, h1]
      · simp [List.filter_cons, h2]
theorem outs_cons_ne {ps : List (Nd × Nd)} {e : Nd × Nd} {v : Nd} (h : e.1 ≠ v) : outs (ps ++ [e]) v = outs ps v := by
  simp [outs, List.filter_append, List.filter_cons, h]
theorem outs_snoc {ps : List (Nd × Nd)} {e : Nd × Nd} : outs (ps ++ [e]) e.1 = outs ps e.1 ++ [e.2] := by
  simp [outs, List.filter_append, List.filter_cons]
theorem cnW_all {ps : List (Nd × Nd)} {l : List Nd} {v : Nd} (h : ∀ e ∈ ps, e.1 ∈ l) : cnW ps l v = ins0 ps v := by
  unfold cnW ins0
  congr 1
  refine List.filter_congr fun e he => ?_
  rw [decide_eq_true (h e he), Bool.and_true]
theorem outs_mem {ps : List (Nd × Nd)} {m v : Nd} (h : v ∈ outs ps m) : (m, v) ∈ ps := by
  unfold outs at h
  obtain ⟨e, he, rfl⟩ := List.mem_map.mp h
  obtain ⟨h1, h2⟩ := List.mem_filter.mp he
  have := of_decide_eq_true h2
  subst this
  exact h1
theorem wt_fz {f : Nd → Int} {ns : List Nd} : (O.ot (mo (fun v => O.d (D.int (f v))) ns)).fz = .dit (mo (fun v => D.int (f v)) ns) := mo_fz (fun _ => rfl) ns
theorem bh_fz {g : Nd → List Nd} {ns : List Nd} : (O.ot (mo (fun v => O.ol (((g v).map nD).map O.d)) ns)).fz = .dit (mo (fun v => D.lst ((g v).map nD)) ns) := mo_fz (fun _ => fz_fl) ns
local macro_rules | `(tactic| walk_at "lendx") => `(tactic| simp only [fzE_cons, fzE_nil, frO_none, frO_some, wt_fz, bh_fz, fz_d, fz_fl, List.set])
local macro_rules | `(tactic| walk_at "lenx") => `(tactic| (rw [mo_len]; first | omega | (simp only [List.length_take]; omega)))
def orD : Option (List Nd) → O
  | none => .d .non
  | some l => .ol ((l.map nD).map O.d)
theorem plL_nD : ∀ ns : List Nd, plL (ns.map nD) = true
  | [] => rfl
  | n :: ns => by
    show ((nD n).pl && plL (ns.map nD)) = true
    rw [plL_nD ns]; rfl
theorem pyL_nD : ∀ ns : List Nd, pyL (ns.map nD) = ns.map fun y => (nD y).py
  | [] => rfl
  | n :: ns => by show (nD n).py :: pyL (ns.map nD) = _; rw [pyL_nD ns]; rfl
/-- how the walk stands: left, ready, found -/
structure KhI (ns : List Nd) (ps : List (Nd × Nd)) (L R Fo : List Nd) : Prop where
  nd : L.Nodup
  sub : ∀ v ∈ L, v ∈ ns
  rn : R.Nodup
  rm : ∀ v, v ∈ R ↔ v ∈ L ∧ cnW ps L v = 0
  out : ∀ v ∈ ns, v ∉ L → cnW ps L v = 0
  len : Fo.length + L.length = ns.length
  res : ordN ns ps = (ordN L ps).map (Fo ++ ·)
theorem KhI.start {ns : List Nd} {ps : List (Nd × Nd)} (hn : ns.Nodup) (hp : ∀ e ∈ ps, e.1 ∈ ns ∧ e.2 ∈ ns) : KhI ns ps ns (ns.filter fun v => decide (ins0 ps v = 0)) [] where
  nd := hn
  sub := fun _ h => h
  rn := hn.filter _
  rm := fun v => by rw [List.mem_filter, decide_eq_true_eq, cnW_all fun e he => (hp e he).1]
  out := fun v h1 h2 => absurd h1 h2
  len := by simp
  res := by
    have : (fun x : List Nd => [] ++ x) = id := rfl
    rw [this, Option.map_id]; rfl
/-- .. amid the pairs from m -/
def fJ (ps : List (Nd × Nd)) (L : List Nd) (m : Nd) (j : Nat) (v : Nd) : Nat := cnW ps L v - ((outs ps m).take j).count v
structure KhJ (ps : List (Nd × Nd)) (L : List Nd) (m : Nd) (j : Nat) (R : List Nd) : Prop where
  rn : R.Nodup
  rm : ∀ v, v ∈ R ↔ v ∈ L ∧ v ≠ m ∧ fJ ps L m j v = 0
theorem cnt_le {ps : List (Nd × Nd)} {L : List Nd} {m v : Nd} (hn : L.Nodup) (hm : m ∈ L) (j : Nat) : ((outs ps m).take j).count v ≤ cnW ps L v := by
  have h1 := cnW_erase (ps := ps) (v := v) hn hm
  have h2 : ((outs ps m).take j).count v ≤ (outs ps m).count v := (List.take_sublist j _).count_le v
  omega
theorem fJ_next {ns : List Nd} {ps : List (Nd × Nd)} {L R Fo : List Nd} (h : KhI ns ps L R Fo) {m o : Nd} (hm : m ∈ R) {j : Nat} (ho : (outs ps m)[j]? = some o) :
    (∀ v, (if v = o then ((fJ ps L m j o : Nat) : Int) - 1 else ((fJ ps L m j v : Nat) : Int)) = ((fJ ps L m (j + 1) v : Nat) : Int)) ∧ fJ ps L m j o = fJ ps L m (j + 1) o + 1 ∧ (∀ v, v ≠ o → fJ ps L m (j + 1) v = fJ ps L m j v) := by
  have hmL := ((h.rm m).mp hm).1
  have e : (outs ps m).take (j + 1) = (outs ps m).take j ++ [o] := by rw [List.take_add_one, ho]; rfl
  have h1 := cnt_le (ps := ps) (v := o) h.nd hmL (j + 1)
  have h2 : fJ ps L m j o = fJ ps L m (j + 1) o + 1 := by
    unfold fJ
    rw [e, List.count_append, List.count_singleton_self] at h1 ⊢
    omega
  have h3 : ∀ v, v ≠ o → fJ ps L m (j + 1) v = fJ ps L m j v := fun v hv => by
    unfold fJ
    rw [e, List.count_append, List.count_singleton, if_neg (by simpa using fun q => hv q.symm)]; rfl
  refine ⟨fun v => ?_, h2, h3⟩
  by_cases q : v = o
  · subst q; rw [if_pos rfl, h2]; omega
  · rw [if_neg q, h3 v q]
theorem KhI.targ {ns : List Nd} {ps : List (Nd × Nd)} {L R Fo : List Nd} (h : KhI ns ps L R Fo) (hp : ∀ e ∈ ps, e.1 ∈ ns ∧ e.2 ∈ ns) {m o : Nd} (hm : m ∈ R) {j : Nat} (ho : (outs ps m)[j]? = some o) : o ∈ ns ∧ o ∈ L ∧ o ≠ m := by
  have hmL := (h.rm m).mp hm
  have he := outs_mem (List.mem_of_getElem? ho)
  have hons := (hp _ he).2
  have hoL : o ∈ L := Classical.byContradiction fun hno => (cnW_zero.mp (h.out o hons hno)) _ he rfl hmL.1
  refine ⟨hons, hoL, fun e => ?_⟩
  subst e
  exact (cnW_zero.mp hmL.2) _ he rfl hmL.1
theorem KhJ.next {ns : List Nd} {ps : List (Nd × Nd)} {L R Fo R' : List Nd} (h : KhI ns ps L R Fo) (hp : ∀ e ∈ ps, e.1 ∈ ns ∧ e.2 ∈ ns) {m o : Nd} (hm : m ∈ R) {j : Nat} (ho : (outs ps m)[j]? = some o) (g : KhJ ps L m j R') :
    KhJ ps L m (j + 1) (if fJ ps L m (j + 1) o = 0 then R' ++ [o] else R') := by
  obtain ⟨_, h2, h3⟩ := fJ_next h hm ho
  obtain ⟨_, hoL, hom⟩ := h.targ hp hm ho
  have hoR : o ∉ R' := fun q => by have := ((g.rm o).mp q).2.2; omega
  by_cases z : fJ ps L m (j + 1) o = 0
  · rw [if_pos z]
    refine ⟨List.nodup_append.mpr ⟨g.rn, (by simp : [o].Nodup), fun a ha b hb e => ?_⟩, fun v => ?_⟩
    · rw [List.mem_singleton.mp hb] at e; exact hoR (e ▸ ha)
    · rw [List.mem_append, List.mem_singleton, g.rm]
      by_cases q : v = o
      · subst q; exact ⟨fun _ => ⟨hoL, hom, z⟩, fun _ => .inr rfl⟩
      · rw [h3 v q]; exact ⟨fun r => r.resolve_right q, .inl⟩
  · rw [if_neg z]
    refine ⟨g.rn, fun v => ?_⟩
    rw [g.rm]
    by_cases q : v = o
    · subst q; exact ⟨fun r => by omega, fun r => absurd r.2.2 z⟩
    · rw [h3 v q]
theorem KhJ.done {ns : List Nd} {ps : List (Nd × Nd)} {L R Fo R' : List Nd} (h : KhI ns ps L R Fo) {m : Nd} (hm : m ∈ R) (hmin : ∀ z ∈ R, ¬ nlt z m) (g : KhJ ps L m (outs ps m).length R') :
    (∀ v, fJ ps L m (outs ps m).length v = cnW ps (L.erase m) v) ∧ KhI ns ps (L.erase m) R' (Fo ++ [m]) ∧ (L.erase m).length + 1 = L.length := by
  have hmL := (h.rm m).mp hm
  have e : ∀ v, fJ ps L m (outs ps m).length v = cnW ps (L.erase m) v := fun v => by
    unfold fJ
    rw [List.take_length]
    have := cnW_erase (ps := ps) (v := v) h.nd hmL.1
    omega
  have hl : (L.erase m).length + 1 = L.length := by
    have := List.length_erase_of_mem hmL.1
    have := List.length_pos_of_mem hmL.1
    omega
  have le : ∀ v, cnW ps (L.erase m) v ≤ cnW ps L v := fun v => by
    have := cnW_erase (ps := ps) (v := v) h.nd hmL.1
    omega
  refine ⟨e, ⟨h.nd.erase _, fun v hv => h.sub v (List.mem_of_mem_erase hv), g.rn, fun v => ?_, fun v hv hno => ?_, by rw [List.length_append, List.length_singleton]; have := h.len; omega, ?_⟩, hl⟩
  · rw [g.rm, h.nd.mem_erase_iff, e]
    constructor
    · rintro ⟨a, b, c⟩; exact ⟨⟨b, a⟩, c⟩
    · rintro ⟨⟨a, b⟩, c⟩; exact ⟨b, a, c⟩
  · by_cases q : v ∈ L
    · have : v = m := Classical.byContradiction fun z => hno ((h.nd.mem_erase_iff).mpr ⟨z, q⟩)
      subst this
      have := le v
      omega
    · have h1 := h.out v hv q
      have := le v
      omega
  · rw [h.res, ordN_step hmL.1 hmL.2 fun z hz h0 => hmin z ((h.rm z).mpr ⟨hz, h0⟩), Option.map_map]
    congr 1
    funext x
    simp
theorem KhI.end {ns : List Nd} {ps : List (Nd × Nd)} {L Fo : List Nd} (h : KhI ns ps L [] Fo) : ordN ns ps = if Fo.length < ns.length then none else some Fo := by
  rw [h.res]
  have hl := h.len
  by_cases q : L = []
  · subst q
    have : ordN [] ps = some [] := rfl
    rw [this, if_neg (by simp at hl; omega)]
    simp
  · rw [if_pos (by have := List.length_pos_iff.mpr q; omega), ordN_stop q fun z hz h0 => by
      have := (h.rm z).mpr ⟨hz, h0⟩
      cases this]
    rfl
theorem nd_len {α : Type} [DecidableEq α] : ∀ {R L : List α}, R.Nodup → (∀ v ∈ R, v ∈ L) → R.length ≤ L.length
  | [], _, _, _ => Nat.zero_le _
  | r :: R, L, hn, hs => by
    rw [List.nodup_cons] at hn
    have h1 := nd_len (R := R) (L := L.erase r) hn.2 fun v hv => (List.mem_erase_of_ne (fun e : v = r => hn.1 (e ▸ hv))).mpr (hs v (List.mem_cons_of_mem _ hv))
    have h2 := hs r List.mem_cons_self
    have := List.length_erase_of_mem h2
    have := List.length_pos_of_mem h2
    rw [List.length_cons]; omega
theorem le_nD : PySem.W.dataLe false (fun y : Nd => (nD y).py) = fun a b => !decide (nlt b a) := by
  funext a b
  show (!PySem.W.dataLt (nD b).py (nD a).py) = _
  rw [nlt_py]
noncomputable def srtN (ns : List Nd) : List Nd := ns.mergeSort fun a b => !decide (nlt b a)
theorem srt_nD {ns : List Nd} : srtD (fun y : Nd => (nD y).py) ns = srtN ns := by
  unfold srtD srtN
  rw [le_nD]
theorem srtN_perm (ns : List Nd) : (srtN ns).Perm ns := List.mergeSort_perm _ _
theorem srtN_up (ns : List Nd) : (srtN ns).Pairwise fun a b => ¬ nlt b a := by
  have h := List.pairwise_mergeSort (le := fun a b : Nd => !decide (nlt b a)) (fun a b c h1 h2 => by
    simp only [Bool.not_eq_true', decide_eq_false_iff_not] at *
    intro q
    by_cases e : nlt a b
    · exact h2 (nlt_tr q e)
    · rw [nlt_tri h1 e] at h2
      exact h2 q) (fun a b => by
    simp only [Bool.or_eq_true, Bool.not_eq_true', decide_eq_false_iff_not]
    by_cases e : nlt b a
    · exact .inr fun q => nlt_irr (nlt_tr e q)
    · exact .inl e) ns
  exact h.imp fun q => by simpa using q
theorem all_nD (ns : List Nd) : PySem.W.AllAlike (ns.map fun y => (nD y).py) := fun d hd d' hd' => by
  obtain ⟨a, _, rfl⟩ := List.mem_map.mp hd
  obtain ⟨b, _, rfl⟩ := List.mem_map.mp hd'
  rfl
theorem sortable_nD (ns : List Nd) : PySem.W.Sortable (ns.map fun y => (nD y).py) := .inl fun d hd => by
  obtain ⟨a, _, rfl⟩ := List.mem_map.mp hd
  exact ⟨_, _, nD_py⟩
theorem dep_nD {y : Nd} : (nD y).py.depth ≤ 60 := by rw [nD_py]; simp [PyData.depth, PyData.depthAll]
theorem shp_nDL (ns : List Nd) : plL (ns.map nD) = true ∧ SeqAt.shaped (.list (pyL (ns.map nD))) = true := by
  have h : Shp 2 (.lst (ns.map nD)) := Shp.lstM fun _ => nD_shp
  have h2 := h.mono (m := 60) (by decide)
  exact ⟨plL_nD ns, by
    have := (h2.eqs h2).2.2.1
    exact this⟩
theorem shp_nD1 {y : Nd} : (nD y).pl = true ∧ SeqAt.shaped (nD y).py = true := by
  have h2 := (nD_shp (p := y)).mono (m := 60) (by decide)
  exact ⟨rfl, (h2.eqs h2).2.2.1⟩
theorem any_nD {ns : List Nd} {x : Nd} : ((pyL (ns.map nD)).any fun z => PyData.eqv z (nD x).py) = decide (x ∈ ns) := by
  rw [pyL_nD, List.any_map, Bool.eq_iff_iff, List.any_eq_true, decide_eq_true_eq]
  constructor
  · rintro ⟨y, hy, e⟩
    have e : PyData.eqv (nD y).py (nD x).py = true := e
    rw [eqv_nD, decide_eq_true_eq] at e
    exact e ▸ hy
  · intro h
    exact ⟨x, h, by show PyData.eqv (nD x).py (nD x).py = true; rw [eqv_nD, decide_eq_true rfl]⟩
theorem shp_pD {e : Nd × Nd} : Shp 2 (pD e) := by
  refine Shp.tup fun x hx => ?_
  simp only [List.mem_cons, List.not_mem_nil, or_false] at hx
  rcases hx with rfl | rfl <;> exact nD_shp
def cel (ns : List Int) (k : Nat) : Int := (ns[k]?).getD 0
def ndF (c1 c m : Int) (k : Nat) : Nd := if c1 / 3 % 2 = 1 then (1 + m + (5 * (k : Int) + c / 7) % 13 / 3, (5 * (k : Int) + c / 7) % 13 % 3 * 1000003 - 1000003) else (1 + m + (5 * (k : Int) + c / 7) % 13, c1 / ((k : Int) + 1) % 4)
theorem ndF_inj {c1 c m : Int} {i j : Nat} (hi : i < 13) (hj : j < 13) (h : ndF c1 c m i = ndF c1 c m j) : i = j := by
  unfold ndF at h
  split at h
  · have h1 := congrArg Prod.fst h
    have h2 := congrArg Prod.snd h
    dsimp only at h1 h2
    have e : (5 * (i : Int) + c / 7) % 13 = (5 * (j : Int) + c / 7) % 13 := by
      have a := Int.emod_add_mul_ediv ((5 * (i : Int) + c / 7) % 13) 3
      have b := Int.emod_add_mul_ediv ((5 * (j : Int) + c / 7) % 13) 3
      omega
    generalize c / 7 = t at e
    omega
  · have h1 := congrArg Prod.fst h
    dsimp only at h1
    generalize c / 7 = t at h1
    omega
theorem ndF_nd (c1 c m : Int) {n : Nat} (hn : n ≤ 13) : ((List.range n).map (ndF c1 c m)).Nodup := by
  rw [List.Nodup, List.pairwise_map]
  refine (List.pairwise_lt_range (n := n)).imp_of_mem fun ha hb hab e => ?_
  have := ndF_inj (by have := List.mem_range.mp ha; omega) (by have := List.mem_range.mp hb; omega) e
  omega
structure NdOk (q : Nat) (ns : List Nd) : Prop where
  nd : ns.Nodup
  ln : ns.length ≤ q
abbrev Nx := Nd → List Nd
def nearN (xs l : List Nd) (h : Nd → Int) : Option Nd := xs.foldl (fun f o => if o ∈ l then (match f with | none => some o | some z => if h o < h z ∨ (h o = h z ∧ nlt o z) then some o else some z) else f) none
theorem nearN_snoc {xs l : List Nd} {h : Nd → Int} {o : Nd} : nearN (xs ++ [o]) l h = if o ∈ l then (match nearN xs l h with | none => some o | some z => if h o < h z ∨ (h o = h z ∧ nlt o z) then some o else some z) else nearN xs l h := by
  unfold nearN; rw [List.foldl_append]; rfl
theorem snocN {α : Type} {P : List α → Prop} (h0 : P []) (h1 : ∀ l x, P l → P (l ++ [x])) (l : List α) : P l := by
  rw [← l.reverse_reverse]
  induction l.reverse with
  | nil => exact h0
  | cons x l ih => rw [List.reverse_cons]; exact h1 _ _ ih
theorem nearN_spec {l : List Nd} {h : Nd → Int} (xs : List Nd) : (nearN xs l h = none ∧ ∀ o ∈ xs, o ∉ l) ∨ ∃ z, nearN xs l h = some z ∧ z ∈ xs ∧ z ∈ l ∧ ∀ o ∈ xs, o ∈ l → h z < h o ∨ (h z = h o ∧ ¬ nlt o z) := by
  induction xs using snocN with
  | h0 => exact .inl ⟨rfl, fun _ h => absurd h List.not_mem_nil⟩
  | h1 xs o ih =>
    rw [nearN_snoc]
    by_cases ho : o ∈ l
    · rw [if_pos ho]
      rcases ih with ⟨e, h1⟩ | ⟨z, e, h1, h2, h3⟩
      · rw [e]
        refine .inr ⟨o, rfl, by simp, ho, fun p hp hpl => ?_⟩
        rcases List.mem_append.mp hp with q | q
        · exact absurd hpl (h1 p q)
        · rw [List.mem_singleton.mp q]; exact .inr ⟨rfl, nlt_irr⟩
      · rw [e]
        dsimp only
        by_cases c : h o < h z ∨ (h o = h z ∧ nlt o z)
        · rw [if_pos c]
          refine .inr ⟨o, rfl, by simp, ho, fun p hp hpl => ?_⟩
          rcases List.mem_append.mp hp with q | q
          · rcases h3 p q hpl with k | ⟨k1, k2⟩
            · exact .inl (by omega)
            · rcases c with c | ⟨c1, c2⟩
              · exact .inl (by omega)
              · exact .inr ⟨by omega, fun t => k2 (nlt_tr t c2)⟩
          · rw [List.mem_singleton.mp q]; exact .inr ⟨rfl, nlt_irr⟩
        · rw [if_neg c]
          refine .inr ⟨z, rfl, List.mem_append.mpr (.inl h1), h2, fun p hp hpl => ?_⟩
          rcases List.mem_append.mp hp with q | q
          · exact h3 p q hpl
          · rw [List.mem_singleton.mp q]
            by_cases c1 : h z < h o
            · exact .inl c1
            · refine .inr ⟨?_, fun t => ?_⟩
              · have : ¬ h o < h z := fun t => c (.inl t)
                omega
              · have : ¬ h o < h z := fun t => c (.inl t)
                exact c (.inr ⟨by omega, t⟩)
    · rw [if_neg ho]
      rcases ih with ⟨e, h1⟩ | ⟨z, e, h1, h2, h3⟩
      · refine .inl ⟨e, fun p hp => ?_⟩
        rcases List.mem_append.mp hp with q | q
        · exact h1 p q
        · rw [List.mem_singleton.mp q]; exact ho
      · refine .inr ⟨z, e, List.mem_append.mpr (.inl h1), h2, fun p hp hpl => ?_⟩
        rcases List.mem_append.mp hp with q | q
        · exact h3 p q hpl
        · rw [List.mem_singleton.mp q] at hpl; exact absurd hpl ho
structure FarOk (W : Nx) (g : Nd) (l : List Nd) (h : Nd → Int) : Prop where
  nd : l.Nodup
  hd : g ∈ l
  g0 : h g = 0
  st : ∀ x ∈ l, x ≠ g → 1 ≤ h x ∧ ∃ y ∈ W x, y ∈ l ∧ h y = h x - 1
  cl : ∀ y ∈ l, ∀ x, y ∈ W x → x ∈ l ∧ h x ≤ h y + 1
  bd : ∀ x ∈ l, h x < l.length
/-- under way: the nodes ahead of the first i of the line are there -/
structure FarI (W : Nx) (g : Nd) (l : List Nd) (h : Nd → Int) (i : Nat) : Prop where
  nd : l.Nodup
  hd : g ∈ l
  g0 : h g = 0
  up : ∀ (a b : Nat) x y, a ≤ b → l[a]? = some x → l[b]? = some y → h x ≤ h y
  st : ∀ x ∈ l, x ≠ g → 1 ≤ h x ∧ ∃ y ∈ W x, y ∈ l ∧ h y = h x - 1
  top : ∀ y, l[i]? = some y → ∀ x ∈ l, h x ≤ h y + 1
  bd : ∀ (a : Nat) x, l[a]? = some x → h x ≤ a
  cl : ∀ (a : Nat) y, a < i → l[a]? = some y → ∀ x, y ∈ W x → x ∈ l ∧ h x ≤ h y + 1
theorem FarI.start {W : Nx} {g : Nd} {h : Nd → Int} (h0 : h g = 0) : FarI W g [g] h 0 := by
  have one : ∀ (a : Nat) x, [g][a]? = some x → x = g := fun a x e => by
    cases a with
    | zero => simpa using e.symm
    | succ a => simp at e
  refine ⟨by simp, by simp, h0, fun a b x y _ ea eb => ?_, fun x hx ne => absurd (List.mem_singleton.mp hx) ne, fun y e x hx => ?_, fun a x e => ?_, fun a y hlt => absurd hlt (Nat.not_lt_zero _)⟩
  · rw [one a x ea, one b y eb]; exact Int.le_refl _
  · rw [one 0 y e, List.mem_singleton.mp hx]; omega
  · rw [one a x e, h0]; omega
/-- within a step: the first j nodes ahead of y = l[i] are done -/
structure FarJ (W : Nx) (A : Nx) (g : Nd) (y : Nd) (l : List Nd) (h : Nd → Int) (i j : Nat) : Prop where
  fi : FarI W g l h i
  at_ : l[i]? = some y
  dn : ∀ x ∈ (A y).take j, x ∈ l
theorem FarI.ext {W : Nx} {g x y : Nd} {l : List Nd} {h : Nd → Int} {i : Nat} (f : FarI W g l h i) (hy : l[i]? = some y) (hx : x ∉ l) (hw : y ∈ W x) : FarI W g (l ++ [x]) (fun v => if v = x then h y + 1 else h v) i := by
  have hyl := List.mem_of_getElem? hy
  have ne : ∀ z ∈ l, z ≠ x := fun z hz e => hx (e ▸ hz)
  have hv : ∀ z ∈ l, (if z = x then h y + 1 else h z) = h z := fun z hz => if_neg (ne z hz)
  have cs : ∀ (a : Nat) z, (l ++ [x])[a]? = some z → (l[a]? = some z) ∨ (a = l.length ∧ z = x) := fun a z e => by
    by_cases q : a < l.length
    · rw [List.getElem?_append_left q] at e; exact .inl e
    · rw [List.getElem?_append_right (by omega)] at e
      refine .inr ?_
      cases q2 : a - l.length with
      | zero => rw [q2] at e; exact ⟨by omega, by simpa using e.symm⟩
      | succ k => rw [q2] at e; simp at e
  have hil := (List.getElem?_eq_some_iff.mp hy).1
  refine ⟨?_, List.mem_append.mpr (.inl f.hd), by rw [hv g f.hd]; exact f.g0, fun a b u v hab ea eb => ?_, fun z hz ng => ?_, fun z e u hu => ?_, fun a u e => ?_, fun a z hlt e u hu => ?_⟩
  · rw [List.nodup_append]
    exact ⟨f.nd, by simp, fun a ha b hb e => hx (by rw [List.mem_singleton.mp hb] at e; exact e ▸ ha)⟩
  · rcases cs b v eb with q | ⟨q1, q2⟩
    · have := (List.getElem?_eq_some_iff.mp q).1
      rcases cs a u ea with p | ⟨p1, _⟩
      · rw [hv u (List.mem_of_getElem? p), hv v (List.mem_of_getElem? q)]; exact f.up a b u v hab p q
      · omega
    · subst q2
      rw [if_pos rfl]
      rcases cs a u ea with p | ⟨_, p2⟩
      · rw [hv u (List.mem_of_getElem? p)]; exact f.top y hy u (List.mem_of_getElem? p)
      · rw [if_pos p2]; exact Int.le_refl _
  · rcases List.mem_append.mp hz with q | q
    · obtain ⟨h1, w, h2, h3, h4⟩ := f.st z q ng
      exact ⟨by rw [hv z q]; exact h1, w, h2, List.mem_append.mpr (.inl h3), by rw [hv z q, hv w h3]; exact h4⟩
    · have := List.mem_singleton.mp q
      subst this
      rw [if_pos rfl]
      have h0 : 0 ≤ h y := by
        by_cases q : y = g
        · rw [q, f.g0]; exact Int.le_refl _
        · have := (f.st y hyl q).1; omega
      exact ⟨by omega, y, hw, List.mem_append.mpr (.inl hyl), by rw [hv y hyl]; omega⟩
  · rcases cs i z e with q | ⟨q, _⟩
    · rw [hy] at q; cases q
      rw [hv y hyl]
      rcases List.mem_append.mp hu with p | p
      · rw [hv u p]; exact f.top y hy u p
      · rw [if_pos (List.mem_singleton.mp p)]; exact Int.le_refl _
    · omega
  · rcases cs a u e with q | ⟨q1, q2⟩
    · rw [hv u (List.mem_of_getElem? q)]; exact f.bd a u q
    · rw [if_pos q2]
      have := f.bd i y hy
      omega
  · rcases cs a z e with q | ⟨q, _⟩
    · obtain ⟨h1, h2⟩ := f.cl a z hlt q u hu
      exact ⟨List.mem_append.mpr (.inl h1), by rw [hv u h1, hv z (List.mem_of_getElem? q)]; exact h2⟩
    · omega
theorem FarJ.next {W A : Nx} {g x y : Nd} {l : List Nd} {h : Nd → Int} {i j : Nat} (f : FarJ W A g y l h i j) (hx : (A y)[j]? = some x) (hw : y ∈ W x) :
    FarJ W A g y (if x ∈ l then l else l ++ [x]) (fun v => if x ∈ l then h v else if v = x then h y + 1 else h v) i (j + 1) := by
  have htk : (A y).take (j + 1) = (A y).take j ++ [x] := by rw [List.take_add_one, hx]; rfl
  by_cases q : x ∈ l
  · simp only [if_pos q]
    refine ⟨f.fi, f.at_, fun z hz => ?_⟩
    rw [htk] at hz
    rcases List.mem_append.mp hz with hz | hz
    · exact f.dn z hz
    · rw [List.mem_singleton.mp hz]; exact q
  · simp only [if_neg q]
    refine ⟨f.fi.ext f.at_ q hw, ?_, fun z hz => ?_⟩
    · rw [List.getElem?_append_left (List.getElem?_eq_some_iff.mp f.at_).1]; exact f.at_
    rw [htk] at hz
    rcases List.mem_append.mp hz with hz | hz
    · exact List.mem_append.mpr (.inl (f.dn z hz))
    · rw [List.mem_singleton.mp hz]; simp
theorem FarJ.done {W A : Nx} {g y : Nd} {l : List Nd} {h : Nd → Int} {i : Nat} (f : FarJ W A g y l h i (A y).length) (ha : ∀ x, y ∈ W x → x ∈ A y) : FarI W g l h (i + 1) := by
  refine ⟨f.fi.nd, f.fi.hd, f.fi.g0, f.fi.up, f.fi.st, fun z e x hx => ?_, f.fi.bd, fun a z hlt e x hx => ?_⟩
  · have h1 := f.fi.top y f.at_ x hx
    have h2 := f.fi.up i (i + 1) y z (by omega) f.at_ e
    omega
  · by_cases q : a < i
    · exact f.fi.cl a z q e x hx
    · have : a = i := by omega
      subst this
      have hz : z = y := Option.some.inj (e.symm.trans f.at_)
      rw [hz] at hx ⊢
      have h1 := f.dn x (by rw [List.take_length]; exact ha x hx)
      exact ⟨h1, f.fi.top y f.at_ x h1⟩
theorem FarI.end {W : Nx} {g : Nd} {l : List Nd} {h : Nd → Int} {i : Nat} (f : FarI W g l h i) (hi : l.length ≤ i) : FarOk W g l h := by
  refine ⟨f.nd, f.hd, f.g0, f.st, fun y hy x hx => ?_, fun x hx => ?_⟩
  · obtain ⟨a, ha⟩ := List.mem_iff_getElem?.mp hy
    have := (List.getElem?_eq_some_iff.mp ha).1
    exact f.cl a y (by omega) ha x hx
  · obtain ⟨a, ha⟩ := List.mem_iff_getElem?.mp hx
    have := (List.getElem?_eq_some_iff.mp ha).1
    have := f.bd a x ha
    omega
def toN (W : Nx) (g : Nd) : List Nd → Prop
  | [] => False
  | [x] => g ∈ W x
  | x :: y :: r => y ∈ W x ∧ toN W g (y :: r)
theorem toN_low {W : Nx} {g : Nd} {l0 : List Nd} {h : Nd → Int} (f : FarOk W g l0 h) : ∀ {l : List Nd} {x : Nd}, toN W g (x :: l) → x ∈ l0 ∧ h x ≤ (l.length : Int) + 1
  | [], x, t => by
    obtain ⟨h1, h2⟩ := f.cl g f.hd x t
    rw [f.g0] at h2
    exact ⟨h1, by simpa using h2⟩
  | y :: r, x, t => by
    obtain ⟨h1, h2⟩ := toN_low f t.2
    obtain ⟨h3, h4⟩ := f.cl y h1 x t.1
    exact ⟨h3, by simp only [List.length_cons]; omega⟩
def lexN : List Nd → List Nd → Prop
  | [], _ => False
  | _ :: _, [] => False
  | x :: l, y :: m => nlt x y ∨ (x = y ∧ lexN l m)
def slN (l m : List Nd) : Prop := l.length < m.length ∨ (l.length = m.length ∧ (l = m ∨ lexN l m))
theorem lexN_asym : ∀ {l m : List Nd}, lexN l m → ¬ lexN m l
  | x :: l, y :: m, h, h' => by
    rcases h with h | ⟨e, h⟩
    · rcases h' with h' | ⟨e', h'⟩
      · exact nlt_irr (nlt_tr h h')
      · rw [e'] at h; exact nlt_irr h
    · rcases h' with h' | ⟨e', h'⟩
      · rw [e] at h'; exact nlt_irr h'
      · exact lexN_asym h h'
theorem slN_antisymm {l m : List Nd} (h : slN l m) (h' : slN m l) : l = m := by
  rcases h with h | ⟨e, h⟩
  · rcases h' with h' | ⟨e', _⟩ <;> omega
  · rcases h with h | h
    · exact h
    · rcases h' with h' | ⟨e', h'⟩
      · omega
      · rcases h' with h' | h'
        · exact h'.symm
        · exact absurd h' (lexN_asym h)
theorem slN_cons {x : Nd} {l m : List Nd} (h : slN l m) : slN (x :: l) (x :: m) := by
  rcases h with h | ⟨e, h⟩
  · exact .inl (by simpa using h)
  · refine .inr ⟨by simpa using e, ?_⟩
    rcases h with h | h
    · exact .inl (by rw [h])
    · exact .inr (.inr ⟨rfl, h⟩)
def lpN (W : Nx) (l0 : List Nd) (h : Nd → Int) : Nat → Nd → List Nd
  | 0, _ => []
  | d + 1, x => x :: lpN W l0 h d ((nearN (W x) l0 h).getD (0, 0))
theorem lpN_len {W : Nx} {l0 : List Nd} {h : Nd → Int} : ∀ {d : Nat} {x : Nd}, (lpN W l0 h d x).length = d
  | 0, _ => rfl
  | d + 1, x => by show (_ :: _).length = _; rw [List.length_cons, lpN_len]
theorem nearN_step {W : Nx} {g : Nd} {l0 : List Nd} {h : Nd → Int} (f : FarOk W g l0 h) {x : Nd} {d : Nat} (hx : x ∈ l0) (e : h x = (d : Int) + 1) :
    ∃ z, nearN (W x) l0 h = some z ∧ z ∈ W x ∧ z ∈ l0 ∧ h z = (d : Int) ∧ ∀ o ∈ W x, o ∈ l0 → (d : Int) < h o ∨ ((d : Int) = h o ∧ ¬ nlt o z) := by
  have ng : x ≠ g := fun q => by rw [q, f.g0] at e; omega
  obtain ⟨_, y, h2, h3, h4⟩ := f.st x hx ng
  rcases nearN_spec (l := l0) (h := h) (W x) with ⟨_, n2⟩ | ⟨z, n1, n2, n3, n4⟩
  · exact absurd h3 (n2 y h2)
  · have c1 : h z ≤ (d : Int) := by
      rcases n4 y h2 h3 with q | ⟨q, _⟩ <;> omega
    have c2 := (f.cl z n3 x n2).2
    have e2 : h z = (d : Int) := by omega
    exact ⟨z, n1, n2, n3, e2, fun o ho hol => by rw [← e2]; exact n4 o ho hol⟩
theorem lpN_to {W : Nx} {g : Nd} {l0 : List Nd} {h : Nd → Int} (f : FarOk W g l0 h) : ∀ {d : Nat} {x : Nd}, x ∈ l0 → h x = (d : Int) + 1 → toN W g (lpN W l0 h (d + 1) x)
  | 0, x, hx, e => by
    obtain ⟨z, n1, n2, n3, n4, _⟩ := nearN_step f hx e
    show g ∈ W x
    by_cases q : z = g
    · rw [← q]; exact n2
    · have := (f.st z n3 q).1
      omega
  | d + 1, x, hx, e => by
    obtain ⟨z, n1, n2, n3, n4, _⟩ := nearN_step f (d := d + 1) hx (by rw [e])
    have ih := lpN_to f (d := d) (x := z) n3 (by rw [n4]; omega)
    show toN W g (x :: lpN W l0 h (d + 1) ((nearN (W x) l0 h).getD (0, 0)))
    rw [n1]
    exact ⟨n2, ih⟩
theorem lpN_least {W : Nx} {g : Nd} {l0 : List Nd} {h : Nd → Int} (f : FarOk W g l0 h) : ∀ {d : Nat} {x : Nd}, x ∈ l0 → h x = (d : Int) + 1 → ∀ l, toN W g (x :: l) → slN (lpN W l0 h (d + 1) x) (x :: l)
  | 0, x, hx, e, l, t => by
    cases l with
    | nil => exact .inr ⟨rfl, .inl rfl⟩
    | cons y r => exact .inl (by rw [lpN_len]; simp)
  | d + 1, x, hx, e, l, t => by
    obtain ⟨z, n1, n2, n3, n4, n5⟩ := nearN_step f (d := d + 1) hx (by rw [e])
    have hl : lpN W l0 h (d + 1 + 1) x = x :: lpN W l0 h (d + 1) z := by show x :: lpN W l0 h (d + 1) ((nearN (W x) l0 h).getD (0, 0)) = _; rw [n1]; rfl
    rw [hl]
    cases l with
    | nil =>
      obtain ⟨c1, c2⟩ := toN_low f t
      rw [e] at c2
      exact absurd c2 (by simp only [List.length_nil]; omega)
    | cons y r =>
      obtain ⟨c1, c2⟩ := toN_low f t.2
      rcases n5 y t.1 c1 with q | ⟨q, q2⟩
      · exact .inl (by rw [List.length_cons, lpN_len, List.length_cons, List.length_cons]; omega)
      · by_cases hlen : d + 1 < (y :: r).length
        · exact .inl (by rw [List.length_cons, lpN_len, List.length_cons]; omega)
        · have hl2 : (y :: r).length = d + 1 := by simp only [List.length_cons] at c2 hlen ⊢; omega
          by_cases c : z = y
          · subst c
            exact slN_cons (lpN_least f (d := d) n3 (by rw [n4]; omega) r t.2)
          · refine .inr ⟨by rw [List.length_cons, lpN_len, List.length_cons, hl2], .inr (.inr ⟨rfl, ?_⟩)⟩
            show lexN (z :: lpN W l0 h d ((nearN (W z) l0 h).getD (0, 0))) (y :: r)
            refine .inl (Classical.byContradiction fun k => c (nlt_tri k q2))
theorem lpN_val {W : Nx} {g : Nd} {l0 : List Nd} {h : Nd → Int} (f : FarOk W g l0 h) : ∀ {d : Nat} {x : Nd}, x ∈ l0 → h x = (d : Int) + 1 → ∀ y ∈ lpN W l0 h (d + 1) x, y ∈ l0 ∧ 1 ≤ h y ∧ h y ≤ (d : Int) + 1
  | 0, x, hx, e, y, hy => by
    have : y = x := by simpa [lpN] using hy
    subst this
    exact ⟨hx, by omega, by omega⟩
  | d + 1, x, hx, e, y, hy => by
    obtain ⟨z, n1, n2, n3, n4, _⟩ := nearN_step f (d := d + 1) hx (by rw [e])
    have hl : lpN W l0 h (d + 1 + 1) x = x :: lpN W l0 h (d + 1) z := by show x :: lpN W l0 h (d + 1) ((nearN (W x) l0 h).getD (0, 0)) = _; rw [n1]; rfl
    rw [hl] at hy
    rcases List.mem_cons.mp hy with rfl | hy
    · exact ⟨hx, by omega, by omega⟩
    · obtain ⟨h1, h2, h3⟩ := lpN_val f (d := d) n3 (by rw [n4]; omega) y hy
      exact ⟨h1, h2, by omega⟩
theorem lpN_nodup {W : Nx} {g : Nd} {l0 : List Nd} {h : Nd → Int} (f : FarOk W g l0 h) : ∀ {d : Nat} {x : Nd}, x ∈ l0 → h x = (d : Int) + 1 → (lpN W l0 h (d + 1) x).Nodup
  | 0, x, hx, e => by simp [lpN]
  | d + 1, x, hx, e => by
    obtain ⟨z, n1, n2, n3, n4, _⟩ := nearN_step f (d := d + 1) hx (by rw [e])
    have hl : lpN W l0 h (d + 1 + 1) x = x :: lpN W l0 h (d + 1) z := by show x :: lpN W l0 h (d + 1) ((nearN (W x) l0 h).getD (0, 0)) = _; rw [n1]; rfl
    rw [hl, List.nodup_cons]
    refine ⟨fun q => ?_, lpN_nodup f (d := d) n3 (by rw [n4]; omega)⟩
    obtain ⟨_, _, h3⟩ := lpN_val f (d := d) n3 (by rw [n4]; omega) x q
    omega
/-- a walk from s back to s -/
def RgN (W : Nx) (s : Nd) (c : List Nd) : Prop := ∃ y r, c = s :: y :: r ∧ y ∈ W s ∧ toN W s (y :: r)
structure RgNk (W : Nx) (s : Nd) (r : Option (List Nd)) : Prop where
  no : r = none → ∀ c, ¬ RgN W s c
  ye : ∀ c, r = some c → RgN W s c ∧ c.Nodup ∧ ∀ c', RgN W s c' → slN c c'
def ringN (W : Nx) (l0 : List Nd) (h : Nd → Int) (s : Nd) : Option (List Nd) := (nearN (W s) l0 h).map fun z => s :: lpN W l0 h (h z).toNat z
theorem ringN_ok {W : Nx} {s : Nd} {l0 : List Nd} {h : Nd → Int} (hs : s ∉ W s) (f : FarOk W s l0 h) : RgNk W s (ringN W l0 h s) := by
  unfold ringN
  rcases nearN_spec (l := l0) (h := h) (W s) with ⟨n1, n2⟩ | ⟨z, n1, n2, n3, n4⟩
  · rw [n1]
    refine ⟨fun _ c ⟨y, r, e, h1, h2⟩ => ?_, fun c e => (by cases e)⟩
    exact n2 y h1 (toN_low f h2).1
  · rw [n1, Option.map_some]
    have hzs : z ≠ s := fun e => hs (e ▸ n2)
    obtain ⟨k, hk⟩ : ∃ k : Nat, h z = (k : Int) + 1 := by
      have := (f.st z n3 hzs).1
      exact ⟨(h z - 1).toNat, by omega⟩
    have ek : (h z).toNat = k + 1 := by omega
    rw [ek]
    refine ⟨fun e => (by cases e), fun c e => ?_⟩
    cases e
    refine ⟨⟨z, _, rfl, n2, lpN_to f n3 hk⟩, ?_, fun c' ⟨y, r, e, h1, h2⟩ => ?_⟩
    · rw [List.nodup_cons]
      refine ⟨fun hx => ?_, lpN_nodup f n3 hk⟩
      obtain ⟨_, h2, _⟩ := lpN_val f n3 hk s hx
      rw [f.g0] at h2
      omega
    · subst e
      obtain ⟨c1, c2⟩ := toN_low f h2
      rcases n4 y h1 c1 with q | ⟨q, q2⟩
      · exact .inl (by rw [List.length_cons, lpN_len, List.length_cons, List.length_cons]; omega)
      · by_cases hlen : k + 1 < (y :: r).length
        · exact .inl (by rw [List.length_cons, lpN_len, List.length_cons]; omega)
        · have hl2 : (y :: r).length = k + 1 := by simp only [List.length_cons] at c2 hlen ⊢; omega
          by_cases c : z = y
          · subst c
            exact slN_cons (lpN_least f n3 hk r h2)
          · refine .inr ⟨by rw [List.length_cons, lpN_len, List.length_cons, hl2], .inr (.inr ⟨rfl, ?_⟩)⟩
            show lexN (z :: lpN W l0 h k ((nearN (W z) l0 h).getD (0, 0))) (y :: r)
            refine .inl (Classical.byContradiction fun t => c (nlt_tri t q2))
theorem slN_trans_len {c c' : List Nd} (h : slN c c') : c.length ≤ c'.length := by
  rcases h with h | ⟨h, _⟩ <;> omega
/-- the least of the shortest rings -/
structure LrOk (W : Nx) (ns : List Nd) (r : Option (List Nd)) : Prop where
  no : r = none → ∀ s ∈ ns, ∀ c, ¬ RgN W s c
  ye : ∀ c, r = some c → ∃ s ∈ ns, RgN W s c ∧ c.Nodup ∧ ∀ s' ∈ ns, ∀ c', RgN W s' c' → slN c c'
/-- under way, the starts rising -/
theorem LrOk.add {W : Nx} {ns : List Nd} {b r : Option (List Nd)} {s : Nd} (h : LrOk W ns b) (hup : ∀ x ∈ ns, ¬ nlt s x) (hr : RgNk W s r) :
    LrOk W (ns ++ [s]) (match r with | none => b | some c => match b with | none => some c | some d => if c.length < d.length then some c else some d) := by
  have rgh : ∀ {x : Nd} {c : List Nd}, RgN W x c → ∃ t, c = x :: t := fun ⟨y, r, e, _⟩ => ⟨_, e⟩
  cases r with
  | none =>
    refine ⟨fun e x hx c hc => ?_, fun c e => ?_⟩
    · rcases List.mem_append.mp hx with hx | hx
      · exact h.no e x hx c hc
      · rw [List.mem_singleton.mp hx] at hc; exact hr.no rfl c hc
    · obtain ⟨x, hx, h1, h2, h3⟩ := h.ye c e
      refine ⟨x, List.mem_append.mpr (.inl hx), h1, h2, fun y hy c' hc' => ?_⟩
      rcases List.mem_append.mp hy with hy | hy
      · exact h3 y hy c' hc'
      · rw [List.mem_singleton.mp hy] at hc'; exact absurd hc' (hr.no rfl c')
  | some c =>
    obtain ⟨r1, r2, r3⟩ := hr.ye c rfl
    cases b with
    | none =>
      refine ⟨fun e => (by cases e), fun c2 e => ?_⟩
      cases e
      refine ⟨s, by simp, r1, r2, fun y hy c' hc' => ?_⟩
      rcases List.mem_append.mp hy with hy | hy
      · exact absurd hc' (h.no rfl y hy c')
      · rw [List.mem_singleton.mp hy] at hc'; exact r3 c' hc'
    | some d =>
      obtain ⟨x, hx, h1, h2, h3⟩ := h.ye d rfl
      dsimp only
      refine ⟨fun e => (by split at e <;> cases e), fun c2 e => ?_⟩
      by_cases q : c.length < d.length
      · rw [if_pos q] at e
        cases e
        refine ⟨s, by simp, r1, r2, fun y hy c' hc' => ?_⟩
        rcases List.mem_append.mp hy with hy | hy
        · exact .inl (Nat.lt_of_lt_of_le q (slN_trans_len (h3 y hy c' hc')))
        · rw [List.mem_singleton.mp hy] at hc'; exact r3 c' hc'
      · rw [if_neg q] at e
        cases e
        refine ⟨x, List.mem_append.mpr (.inl hx), h1, h2, fun y hy c' hc' => ?_⟩
        rcases List.mem_append.mp hy with hy | hy
        · exact h3 y hy c' hc'
        · rw [List.mem_singleton.mp hy] at hc'
          have l1 := slN_trans_len (r3 c' hc')
          by_cases q2 : d.length < c'.length
          · exact .inl q2
          · obtain ⟨t, rfl⟩ := rgh h1
            obtain ⟨t', rfl⟩ := rgh hc'
            by_cases q3 : x = s
            · subst q3
              exact h3 x hx _ hc'
            · refine .inr ⟨by omega, .inr (.inl (Classical.byContradiction fun k => q3 (nlt_tri k (hup x hx))))⟩
theorem LrOk.zero {W : Nx} : LrOk W [] none := ⟨fun _ _ h => absurd h List.not_mem_nil, fun _ e => by cases e⟩
theorem LrOk.perm {W : Nx} {ns ms : List Nd} {r : Option (List Nd)} (h : LrOk W ns r) (p : ∀ x, x ∈ ns ↔ x ∈ ms) : LrOk W ms r :=
  ⟨fun e s hs c => h.no e s ((p s).mpr hs) c, fun c e => by
    obtain ⟨s, hs, h1, h2, h3⟩ := h.ye c e
    exact ⟨s, (p s).mp hs, h1, h2, fun y hy => h3 y ((p y).mpr hy)⟩⟩
theorem toN_rel {W N : Nx} (h : ∀ v x, x ∈ W v ↔ x ∈ N v) {g : Nd} : ∀ {c : List Nd}, toN W g c → toN N g c
  | [_], t => (h _ _).mp t
  | _ :: y :: r, t => ⟨(h _ _).mp t.1, toN_rel h (c := y :: r) t.2⟩
theorem RgN.rel {W N : Nx} (h : ∀ v x, x ∈ W v ↔ x ∈ N v) {s : Nd} {c : List Nd} (r : RgN W s c) : RgN N s c := by
  obtain ⟨y, r, e, h1, h2⟩ := r
  exact ⟨y, r, e, (h _ _).mp h1, toN_rel h h2⟩
theorem LrOk.rel {W N : Nx} {ns : List Nd} {r : Option (List Nd)} (k : LrOk W ns r) (h : ∀ v x, x ∈ W v ↔ x ∈ N v) : LrOk N ns r :=
  ⟨fun e s hs c hc => k.no e s hs c (hc.rel fun v x => (h v x).symm), fun c e => by
    obtain ⟨s, hs, h1, h2, h3⟩ := k.ye c e
    exact ⟨s, hs, h1.rel h, h2, fun s' hs' c' hc' => h3 s' hs' c' (hc'.rel fun v x => (h v x).symm)⟩⟩
theorem LrOk.uniq {W : Nx} {ns : List Nd} {r r' : Option (List Nd)} (h : LrOk W ns r) (h' : LrOk W ns r') : r = r' := by
  cases r with
  | none =>
    cases r' with
    | none => rfl
    | some c =>
      obtain ⟨s, hs, h1, _⟩ := h'.ye c rfl
      exact absurd h1 (h.no rfl s hs c)
  | some c =>
    obtain ⟨s, hs, h1, _, h3⟩ := h.ye c rfl
    cases r' with
    | none => exact absurd h1 (h'.no rfl s hs c)
    | some d =>
      obtain ⟨s', hs', k1, _, k3⟩ := h'.ye d rfl
      rw [slN_antisymm (h3 s' hs' d k1) (k3 s hs c h1)]
def wkN (W : Nx) : Nat → Nd → Nd → Prop
  | 0, u, v => u = v
  | k + 1, u, v => ∃ m, wkN W k u m ∧ v ∈ W m
theorem wkN_front {W : Nx} : ∀ {k : Nat} {u v : Nd}, wkN W (k + 1) u v → ∃ m ∈ W u, wkN W k m v
  | 0, u, v, ⟨m, h1, h2⟩ => by
    have : u = m := h1
    subst this
    exact ⟨v, h2, rfl⟩
  | k + 1, u, v, ⟨m, h1, h2⟩ => by
    obtain ⟨x, h3, h4⟩ := wkN_front h1
    exact ⟨x, h3, m, h4, h2⟩
theorem wkN_to {W : Nx} {g : Nd} : ∀ {k : Nat} {u : Nd}, wkN W (k + 1) u g → ∃ r, r.length = k ∧ toN W g (u :: r)
  | 0, u, h => by
    obtain ⟨m, h1, h2⟩ := wkN_front h
    have : m = g := h2
    subst this
    exact ⟨[], rfl, h1⟩
  | k + 1, u, h => by
    obtain ⟨m, h1, h2⟩ := wkN_front h
    obtain ⟨r, h3, h4⟩ := wkN_to h2
    exact ⟨m :: r, by simp [h3], h1, h4⟩
theorem wkN_ring {W : Nx} {s : Nd} {k : Nat} (hs : s ∉ W s) (h : wkN W (k + 1) s s) : ∃ c, RgN W s c ∧ c.length = k + 1 := by
  obtain ⟨r, h1, h2⟩ := wkN_to h
  cases r with
  | nil => exact absurd h2 hs
  | cons y r => exact ⟨s :: y :: r, ⟨y, r, rfl, h2.1, h2.2⟩, by simp only [List.length_cons] at *; omega⟩
theorem RgN.to {W : Nx} {s : Nd} {c : List Nd} (h : RgN W s c) : toN W s c := by
  obtain ⟨y, r, rfl, h1, h2⟩ := h
  exact ⟨h1, h2⟩
theorem toN_splice {W : Nx} {g : Nd} {o : Nd} {t : List Nd} (ht : toN W g (o :: t)) : ∀ {c : List Nd} {k : Nat} {x : Nd}, toN W g c → c[k]? = some x → o ∈ W x → toN W g (c.take (k + 1) ++ o :: t)
  | [], k, x, h, e, _ => by simp at e
  | [z], k, x, h, e, ho => by
    cases k with
    | zero =>
      have : z = x := by simpa using e
      subst this
      exact ⟨ho, ht⟩
    | succ k => simp at e
  | z :: w :: r, 0, x, h, e, ho => by
    have : z = x := by simpa using e
    subst this
    exact ⟨ho, ht⟩
  | z :: w :: r, k + 1, x, h, e, ho => by
    have ih := toN_splice ht (c := w :: r) (k := k) h.2 (by simpa using e) ho
    rw [List.take_succ_cons] at ih ⊢
    exact ⟨h.1, ih⟩
theorem lexN_app {a b : List Nd} {x y : Nd} : ∀ {p : List Nd}, lexN (p ++ x :: a) (p ++ y :: b) → ¬ nlt y x
  | [], h => by
    rcases h with h | ⟨h, _⟩
    · exact fun q => nlt_irr (nlt_tr q h)
    · rw [h]; exact nlt_irr
  | z :: p, h => by
    rcases h with h | ⟨_, h⟩
    · exact absurd h nlt_irr
    · exact lexN_app h
/-- at no place a lesser one -/
theorem rg_no_less {W : Nx} {s : Nd} {c : List Nd} (h : RgN W s c) (hl : ∀ c', RgN W s c' → slN c c') {k : Nat} {x y o : Nd} (hx : c[k]? = some x) (hy : c[k + 1]? = some y) (ho : o ∈ W x) (hlt : nlt o y) : ¬ wkN W (c.length - (k + 1)) o s := by
  intro hw
  have hk := (List.getElem?_eq_some_iff.mp hy).1
  obtain ⟨m, hm⟩ : ∃ m, c.length - (k + 1) = m + 1 := ⟨c.length - (k + 1) - 1, by omega⟩
  rw [hm] at hw
  obtain ⟨t, h1, h2⟩ := wkN_to hw
  have h3 := toN_splice h2 h.to hx ho
  have hc' : RgN W s (c.take (k + 1) ++ o :: t) := by
    obtain ⟨y0, r, rfl, _⟩ := h
    cases k with
    | zero => exact ⟨o, t, rfl, h3.1, h3.2⟩
    | succ k => exact ⟨y0, r.take k ++ o :: t, by simp, h3.1, h3.2⟩
  have hd : c.drop (k + 1) = y :: c.drop (k + 2) := by
    have := List.drop_eq_getElem_cons hk
    rw [(List.getElem?_eq_some_iff.mp hy).2] at this
    exact this
  have he : c = c.take (k + 1) ++ y :: c.drop (k + 2) := by rw [← hd, List.take_append_drop]
  have hlen : (c.take (k + 1) ++ o :: t).length = c.length := by
    rw [List.length_append, List.length_take, List.length_cons]; omega
  rcases hl _ hc' with q | ⟨_, q | q⟩
  · omega
  · have : y = o := by
      have e1 : c[k + 1]? = some o := by
        rw [q, List.getElem?_append_right (by rw [List.length_take]; omega), List.length_take, show k + 1 - min (k + 1) c.length = 0 by omega]; rfl
      rw [hy] at e1
      exact Option.some.inj e1
    rw [this] at hlt; exact nlt_irr hlt
  · have q2 : lexN (c.take (k + 1) ++ y :: c.drop (k + 2)) (c.take (k + 1) ++ o :: t) := by rw [← he]; exact q
    exact lexN_app q2 hlt
theorem toN_all {W : Nx} {g : Nd} {P : Nd → Prop} (hW : ∀ x, P x → ∀ y ∈ W x, P y) : ∀ {c : List Nd} {x : Nd}, P x → toN W g (x :: c) → ∀ y ∈ x :: c, P y
  | [], x, hx, _, y, hy => by rw [List.mem_singleton.mp hy]; exact hx
  | z :: c, x, hx, h, y, hy => by
    rcases List.mem_cons.mp hy with rfl | hy
    · exact hx
    · exact toN_all hW (hW x hx z h.1) h.2 y hy
theorem RgN.mem {W : Nx} {ns : List Nd} {s : Nd} {c : List Nd} (h : RgN W s c) (hs : s ∈ ns) (hW : ∀ v ∈ ns, ∀ x ∈ W v, x ∈ ns) : ∀ x ∈ c, x ∈ ns := by
  have h1 := h.to
  obtain ⟨y, r, rfl, _⟩ := h
  exact toN_all (P := fun z => z ∈ ns) hW hs h1
theorem RgN.head {W : Nx} {s : Nd} {c : List Nd} (h : RgN W s c) : c[0]? = some s ∧ 2 ≤ c.length := by
  obtain ⟨y, r, rfl, _⟩ := h
  exact ⟨rfl, by simp⟩
theorem toN_next {W : Nx} {g : Nd} : ∀ {c : List Nd} {k : Nat} {x y : Nd}, toN W g c → c[k]? = some x → c[k + 1]? = some y → y ∈ W x
  | [], k, x, y, h, e, _ => by simp at e
  | [z], k, x, y, h, e, e2 => by simp at e2
  | z :: w :: r, 0, x, y, h, e, e2 => by
    have h1 : z = x := by simpa using e
    have h2 : w = y := by simpa using e2
    rw [← h1, ← h2]; exact h.1
  | z :: w :: r, k + 1, x, y, h, e, e2 => toN_next (c := w :: r) (k := k) h.2 (by simpa using e) (by simpa using e2)
theorem toN_last {W : Nx} {g : Nd} : ∀ {c : List Nd} {x : Nd}, toN W g c → c[c.length - 1]? = some x → g ∈ W x
  | [], x, h, e => by simp at e
  | [z], x, h, e => by
    have h1 : z = x := by simpa using e
    rw [← h1]; exact h
  | z :: w :: r, x, h, e => toN_last (c := w :: r) h.2 (by simpa using e)
def preds (ps : List (Nd × Nd)) (v : Nd) : List Nd := (ps.filter fun e => decide (e.2 = v)).map (·.1)
theorem preds_mem {ps : List (Nd × Nd)} {v x : Nd} : x ∈ preds ps v ↔ (x, v) ∈ ps := by
  unfold preds
  constructor
  · intro h
    obtain ⟨e, he, rfl⟩ := List.mem_map.mp h
    obtain ⟨h1, h2⟩ := List.mem_filter.mp he
    have := of_decide_eq_true h2
    subst this
    exact h1
  · intro h
    exact List.mem_map.mpr ⟨_, List.mem_filter.mpr ⟨h, decide_eq_true rfl⟩, rfl⟩
theorem outs_iff {ps : List (Nd × Nd)} {v x : Nd} : x ∈ outs ps v ↔ (v, x) ∈ ps := by
  constructor
  · exact outs_mem
  · intro h
    unfold outs
    exact List.mem_map.mpr ⟨_, List.mem_filter.mpr ⟨h, decide_eq_true rfl⟩, rfl⟩
theorem preds_ne {ps : List (Nd × Nd)} {e : Nd × Nd} {v : Nd} (h : e.2 ≠ v) : preds (ps ++ [e]) v = preds ps v := by
  simp [preds, List.filter_append, List.filter_cons, h]
theorem preds_snoc {ps : List (Nd × Nd)} {e : Nd × Nd} : preds (ps ++ [e]) e.2 = preds ps e.2 ++ [e.1] := by
  simp [preds, List.filter_append, List.filter_cons]
abbrev nlD (f : Nx) (ns : List Nd) : D := .dit (mo (fun v => D.lst ((f v).map nD)) ns)
abbrev nlO (f : Nx) (ns : List Nd) : O := .ot (mo (fun v => O.ol (((f v).map nD).map O.d)) ns)
abbrev farD (h : Nd → Int) (l : List Nd) : D := .dit (mo (fun v => D.int (h v)) l)
abbrev farO (h : Nd → Int) (l : List Nd) : O := .ot (mo (fun v => O.d (D.int (h v))) l)
def onD : Option Nd → D
  | none => .non
  | some p => nD p
def insN (l : List Nd) (x : Nd) : List Nd := if x ∈ l then l else l ++ [x]
theorem mem_insN {l : List Nd} {x y : Nd} : y ∈ insN l x ↔ y ∈ l ∨ y = x := by
  unfold insN
  split
  · rename_i h
    constructor
    · exact .inl
    · rintro (h2 | rfl) <;> assumption
  · simp
theorem mem_foldN : ∀ {P l : List Nd} {y : Nd}, y ∈ P.foldl insN l ↔ y ∈ l ∨ y ∈ P
  | [], l, y => by simp
  | p :: P, l, y => by
    rw [List.foldl_cons, mem_foldN, mem_insN, List.mem_cons, or_assoc]
theorem nodup_insN {l : List Nd} {x : Nd} (h : l.Nodup) : (insN l x).Nodup := by
  unfold insN
  split
  · exact h
  · rename_i hx
    rw [List.nodup_append]
    exact ⟨h, by simp, fun a ha b hb => by rw [List.mem_singleton.mp hb]; exact fun e => hx (e ▸ ha)⟩
theorem nodup_foldN : ∀ {P l : List Nd}, l.Nodup → (P.foldl insN l).Nodup
  | [], _, h => h
  | p :: P, l, h => nodup_foldN (P := P) (nodup_insN h)
def nxs (ps : List (Nd × Nd)) (v : Nd) : List Nd := (outs ps v).foldl insN []
theorem nxs_mem {ps : List (Nd × Nd)} {v x : Nd} : x ∈ nxs ps v ↔ (v, x) ∈ ps := by
  unfold nxs
  rw [mem_foldN, outs_iff]
  simp
theorem nxs_ne {ps : List (Nd × Nd)} {e : Nd × Nd} {v : Nd} (h : e.1 ≠ v) : nxs (ps ++ [e]) v = nxs ps v := by
  unfold nxs; rw [outs_cons_ne h]
theorem nxs_snoc {ps : List (Nd × Nd)} {e : Nd × Nd} : nxs (ps ++ [e]) e.1 = insN (nxs ps e.1) e.2 := by
  unfold nxs; rw [outs_snoc, List.foldl_append]; rfl
theorem foldN_len : ∀ {P l : List Nd}, (P.foldl insN l).length ≤ l.length + P.length
  | [], l => Nat.le_refl _
  | p :: P, l => by
    rw [List.foldl_cons, List.length_cons]
    have h1 := foldN_len (P := P) (l := insN l p)
    have h2 : (insN l p).length ≤ l.length + 1 := by unfold insN; split <;> simp
    omega
theorem nxs_len {ps : List (Nd × Nd)} {v : Nd} : (nxs ps v).length ≤ ps.length := by
  unfold nxs
  have h1 := foldN_len (P := outs ps v) (l := [])
  have h2 : (outs ps v).length ≤ ps.length := by unfold outs; rw [List.length_map]; exact List.length_filter_le _ _
  simp only [List.length_nil] at h1
  omega
/-- what so many steps lead to -/
def rchN (W : Nx) : Nat → Nd → List Nd
  | 0, u => [u]
  | k + 1, u => ((rchN W k u).flatMap W).foldl insN []
theorem rchN_mem {W : Nx} : ∀ {k : Nat} {u v : Nd}, v ∈ rchN W k u ↔ wkN W k u v
  | 0, u, v => by
    show v ∈ [u] ↔ u = v
    rw [List.mem_singleton]
    exact eq_comm
  | k + 1, u, v => by
    show v ∈ ((rchN W k u).flatMap W).foldl insN [] ↔ ∃ m, wkN W k u m ∧ v ∈ W m
    rw [mem_foldN, List.mem_flatMap]
    constructor
    · rintro (h | ⟨m, h1, h2⟩)
      · cases h
      · exact ⟨m, rchN_mem.mp h1, h2⟩
    · rintro ⟨m, h1, h2⟩
      exact .inr ⟨m, rchN_mem.mpr h1, h2⟩
theorem rchN_sub {W : Nx} {ns : List Nd} (hW : ∀ v ∈ ns, ∀ x ∈ W v, x ∈ ns) : ∀ {k : Nat} {u : Nd}, u ∈ ns → (rchN W k u).Nodup ∧ ∀ v ∈ rchN W k u, v ∈ ns
  | 0, u, h => ⟨by simp [rchN], fun v hv => by rw [List.mem_singleton.mp hv]; exact h⟩
  | k + 1, u, h => ⟨nodup_foldN List.nodup_nil, fun v hv => by
    obtain ⟨m, h1, h2⟩ := rchN_mem.mp hv
    exact hW m ((rchN_sub hW h).2 m (rchN_mem.mpr h1)) v h2⟩
abbrev dsN (l : List Nd) : O := .ot (mo (fun _ => O.d (.bl true)) l)
abbrev tbD (W : Nx) (ns : List Nd) (k : Nat) : D := .dit (mo (fun u => D.dit (mo (fun _ => D.bl true) (rchN W k u))) ns)
theorem fzT_mo {f : Nd → D} : ∀ {ns : List Nd}, fzT (mo (fun u => O.d (f u)) ns) = mo f ns
  | [] => rfl
  | v :: ns => by show (nk v, f v) :: fzT (mo (fun u => O.d (f u)) ns) = _; rw [fzT_mo]; rfl
theorem fzT_moT {f : Nd → List Nd} : ∀ {ns : List Nd}, fzT (mo (fun u => dsN (f u)) ns) = mo (fun u => D.dit (mo (fun _ => D.bl true) (f u))) ns
  | [] => rfl
  | v :: ns => by
    show (nk v, D.dit (fzT (mo (fun _ => O.d (.bl true)) (f v)))) :: fzT (mo (fun u => dsN (f u)) ns) = _
    rw [fzT_moT, fzT_mo]; rfl
theorem keysT_mo {f : Nd → D} {l : List Nd} : keysT (mo f l) = l.map nD := by unfold keysT mo; rw [List.map_map]; rfl
theorem foldN_sub {ns : List Nd} {P l : List Nd} (h : ∀ x ∈ l, x ∈ ns) (h2 : ∀ x ∈ P, x ∈ ns) : ∀ x ∈ P.foldl insN l, x ∈ ns := fun x hx => (mem_foldN.mp hx).elim (h x) (h2 x)
theorem atI_last {α : Type} {f : α → SK.D} {z : α} {ls : List α} (h : ls ≠ []) : atI (ls.map f) (-1) = some (f (ls.getLastD z)) := by
  have hl : 0 < ls.length := List.length_pos_iff.mpr h
  unfold atI ixN
  rw [if_neg (by decide), if_pos (by rw [List.length_map]; omega)]
  show (ls.map f)[((-1 : Int) + ((ls.map f).length : Int)).toNat]? = _
  rw [show ((-1 : Int) + ((ls.map f).length : Int)).toNat = ls.length - 1 by rw [List.length_map]; omega, List.getElem?_map]
  have e : ls[ls.length - 1]? = some (ls.getLastD z) := by
    cases ls with
    | nil => exact absurd rfl h
    | cons x r => rw [List.getLastD_cons, ← List.getLast?_eq_getElem?]; simp [List.getLast?_cons, List.getLastD_eq_getLast?]
  rw [e]; rfl
theorem dsN_put {l : List Nd} {x : Nd} : SK.dput (mo (fun _ => O.d (.bl true)) l) (nk x) (O.d (.bl true)) = mo (fun _ => O.d (.bl true)) (insN l x) := by
  unfold insN
  by_cases h : x ∈ l
  · rw [if_pos h, mo_put h]
    congr 1
    funext v
    split <;> rfl
  · rw [if_neg h]
    exact mo_snoc (h := fun _ => O.d (.bl true)) h
theorem mo_congr {α : Type} {f g : Nd → α} {l : List Nd} (h : ∀ v ∈ l, f v = g v) : mo f l = mo g l := List.map_congr_left fun v hv => by rw [h v hv]
theorem orD_lf : ∀ {r : Option (List Nd)}, (orD r).lf = true
  | none => rfl
  | some _ => lfOLm fun _ => rfl
/-- x and the number under it -/
theorem lt_hn {a b : Int} {p q : Nd} : PySem.W.dataLt (D.tup [.int a, nD p]).py (D.tup [.int b, nD q]).py = decide (a < b ∨ (a = b ∧ nlt p q)) := by
  have e1 : (D.tup [.int a, nD p]).py = .tuple [.int a, (nD p).py] := rfl
  have e2 : (D.tup [.int b, nD q]).py = .tuple [.int b, (nD q).py] := rfl
  rw [e1, e2, PySem.W.dataLt_pair (by rfl) (by rfl), eqv_nD, nlt_py, PySem.W.dataLt_int]
  have e3 : PyData.eqv (.int a) (.int b) = decide (a = b) := rfl
  rw [e3]
  by_cases h : a = b
  · subst h
    by_cases h2 : p = q
    · subst h2
      have := nlt_irr (p := p)
      simp [this]
    · simp [h2]
  · simp [h]
/-- the checks of a ring hold -/
structure ChOk (ns : List Nd) (W : Nx) (c : List Nd) : Prop where
  ex : ∃ s ∈ ns, RgN W s c ∧ c.Nodup ∧ ∀ s' ∈ ns, ∀ c', RgN W s' c' → slN c c'
theorem no_walk {W : Nx} {ns : List Nd} (hs : ∀ v ∈ ns, v ∉ W v) (h : LrOk W ns none) {k : Nat} {u : Nd} (hu : u ∈ ns) : ¬ wkN W (k + 1) u u := fun q => by
  obtain ⟨c, hc, _⟩ := wkN_ring (hs u hu) q
  exact h.no rfl u hu c hc
def C__law_cell_at (mg : Str → Option Value) : Ct := fun zxs zp zq => ∃ (ns : List Int) (k : Nat), zxs = [.sq (ns.map D.int), .int k] ∧ (k < 1000) ∧ zp = (fun zo => zo = .d (.int (cel ns k))) ∧ zq = noX
theorem call__law_cell_at {K : PySem.W.Frag} {mg : Str → Option Value} {F B0 : Hp} {T : List O} {Γ : En} {zpost : O → En → Prop} {zE : XK} {zt : TA} (zh : GoA K F B0 zt T Γ fun zxs Γ1 => ∃ (ns : List Int) (k : Nat), zxs = [.sq (ns.map D.int), .int k] ∧ (k < 1000) ∧ (zpost (.d (.int (cel ns k))) Γ1)) : Go K F B0 (tCall (spP K (C__law_cell_at mg)) [] zE zt) T Γ zpost := by
  refine go_call (dxs := []) (fun z0 z1 z2 z3 z4 z5 => zh z0 z1 z2 z3 z4 fun z6 z7 z8 z9 ⟨ns, k, ze, hp0, h1⟩ => z5 z6 z7 z8 z9 ⟨_, ⟨ns, k, (List.append_nil _).trans ze, hp0, rfl, rfl⟩, (fun zo ze => ze ▸ h1)⟩) (fun _ => .nil)
def C__law_nodes (mg : Str → Option Value) : Ct := fun zxs zp zq => ∃ (ns : List Int) (q : Nat), zxs = [.sq (ns.map D.int), .int q] ∧ (q ≤ 12) ∧ zp = (fun zo => ∃ l, NdOk q l ∧ zo = .ol ((l.map nD).map O.d)) ∧ zq = noX
theorem call__law_nodes {K : PySem.W.Frag} {mg : Str → Option Value} {F B0 : Hp} {T : List O} {Γ : En} {zpost : O → En → Prop} {zE : XK} {zt : TA} (zh : GoA K F B0 zt T Γ fun zxs Γ1 => ∃ (ns : List Int) (q : Nat), zxs = [.sq (ns.map D.int), .int q] ∧ (q ≤ 12) ∧ (∀ zo, (fun zo => ∃ l, NdOk q l ∧ zo = .ol ((l.map nD).map O.d)) zo → zpost zo Γ1)) : Go K F B0 (tCall (spP K (C__law_nodes mg)) [] zE zt) T Γ zpost := by
  refine go_call (dxs := []) (fun z0 z1 z2 z3 z4 z5 => zh z0 z1 z2 z3 z4 fun z6 z7 z8 z9 ⟨ns, q, ze, hp0, h1⟩ => z5 z6 z7 z8 z9 ⟨_, ⟨ns, q, (List.append_nil _).trans ze, hp0, rfl, rfl⟩, h1⟩) (fun _ => .nil)
def C__law_pairs (mg : Str → Option Value) : Ct := fun zxs zp zq => ∃ (ns : List Int) (l : List Nd), zxs = [.sq (ns.map D.int), .lst (l.map nD)] ∧ (ns.length ≤ 63) ∧ (l.length ≤ 12) ∧ (l.Nodup) ∧ zp = (fun zo => ∃ ps : List (Nd × Nd), ps.length ≤ 60 ∧ (∀ e ∈ ps, e.1 ∈ l ∧ e.2 ∈ l) ∧ (∀ e ∈ ps, e.1 ≠ e.2) ∧ zo = .ol ((ps.map pD).map O.d)) ∧ zq = noX
theorem call__law_pairs {K : PySem.W.Frag} {mg : Str → Option Value} {F B0 : Hp} {T : List O} {Γ : En} {zpost : O → En → Prop} {zE : XK} {zt : TA} (zh : GoA K F B0 zt T Γ fun zxs Γ1 => ∃ (ns : List Int) (l : List Nd), zxs = [.sq (ns.map D.int), .lst (l.map nD)] ∧ (ns.length ≤ 63) ∧ (l.length ≤ 12) ∧ (l.Nodup) ∧ (∀ zo, (fun zo => ∃ ps : List (Nd × Nd), ps.length ≤ 60 ∧ (∀ e ∈ ps, e.1 ∈ l ∧ e.2 ∈ l) ∧ (∀ e ∈ ps, e.1 ≠ e.2) ∧ zo = .ol ((ps.map pD).map O.d)) zo → zpost zo Γ1)) : Go K F B0 (tCall (spP K (C__law_pairs mg)) [] zE zt) T Γ zpost := by
  refine go_call (dxs := []) (fun z0 z1 z2 z3 z4 z5 => zh z0 z1 z2 z3 z4 fun z6 z7 z8 z9 ⟨ns, l, ze, hp0, hp1, hp2, h1⟩ => z5 z6 z7 z8 z9 ⟨_, ⟨ns, l, (List.append_nil _).trans ze, hp0, hp1, hp2, rfl, rfl⟩, h1⟩) (fun _ => .nil)
def C__law_nexts (mg : Str → Option Value) : Ct := fun zxs zp zq => ∃ (ns : List Nd) (ps : List (Nd × Nd)), zxs = [.lst (ns.map nD), .lst (ps.map pD)] ∧ (ns.Nodup) ∧ (ns.length ≤ 12) ∧ (ps.length ≤ 60) ∧ (∀ e ∈ ps, e.1 ∈ ns ∧ e.2 ∈ ns) ∧ zp = (fun zo => zo = nlO (nxs ps) ns) ∧ zq = noX
theorem call__law_nexts {K : PySem.W.Frag} {mg : Str → Option Value} {F B0 : Hp} {T : List O} {Γ : En} {zpost : O → En → Prop} {zE : XK} {zt : TA} (zh : GoA K F B0 zt T Γ fun zxs Γ1 => ∃ (ns : List Nd) (ps : List (Nd × Nd)), zxs = [.lst (ns.map nD), .lst (ps.map pD)] ∧ (ns.Nodup) ∧ (ns.length ≤ 12) ∧ (ps.length ≤ 60) ∧ (∀ e ∈ ps, e.1 ∈ ns ∧ e.2 ∈ ns) ∧ (zpost (nlO (nxs ps) ns) Γ1)) : Go K F B0 (tCall (spP K (C__law_nexts mg)) [] zE zt) T Γ zpost := by
  refine go_call (dxs := []) (fun z0 z1 z2 z3 z4 z5 => zh z0 z1 z2 z3 z4 fun z6 z7 z8 z9 ⟨ns, ps, ze, hp0, hp1, hp2, hp3, h1⟩ => z5 z6 z7 z8 z9 ⟨_, ⟨ns, ps, (List.append_nil _).trans ze, hp0, hp1, hp2, hp3, rfl, rfl⟩, (fun zo ze => ze ▸ h1)⟩) (fun _ => .nil)
def C_nearest (mg : Str → Option Value) : Ct := fun zxs zp zq => ∃ (xs l : List Nd) (h : Nd → Int), zxs = [.lst (xs.map nD), farD h l] ∧ (l.length ≤ 1000) ∧ zp = (fun zo => zo = .d (onD (nearN xs l h))) ∧ zq = noX
theorem call_nearest {K : PySem.W.Frag} {mg : Str → Option Value} {F B0 : Hp} {T : List O} {Γ : En} {zpost : O → En → Prop} {zE : XK} {zt : TA} (zh : GoA K F B0 zt T Γ fun zxs Γ1 => ∃ (xs l : List Nd) (h : Nd → Int), zxs = [.lst (xs.map nD), farD h l] ∧ (l.length ≤ 1000) ∧ (zpost (.d (onD (nearN xs l h))) Γ1)) : Go K F B0 (tCall (spP K (C_nearest mg)) [] zE zt) T Γ zpost := by
  refine go_call (dxs := []) (fun z0 z1 z2 z3 z4 z5 => zh z0 z1 z2 z3 z4 fun z6 z7 z8 z9 ⟨xs, l, h, ze, hp0, h1⟩ => z5 z6 z7 z8 z9 ⟨_, ⟨xs, l, h, (List.append_nil _).trans ze, hp0, rfl, rfl⟩, (fun zo ze => ze ▸ h1)⟩) (fun _ => .nil)
def C_ring_through (mg : Str → Option Value) : Ct := fun zxs zp zq => ∃ (W : Nx) (ns l : List Nd) (h : Nd → Int) (s : Nd), zxs = [nD s, nlD W ns, farD h l] ∧ (s ∈ ns) ∧ (s ∉ W s) ∧ (FarOk W s l h) ∧ (∀ x ∈ l, x ∈ ns) ∧ (ns.length ≤ 1000) ∧ zp = (fun zo => zo = orD (ringN W l h s)) ∧ zq = noX
theorem call_ring_through {K : PySem.W.Frag} {mg : Str → Option Value} {F B0 : Hp} {T : List O} {Γ : En} {zpost : O → En → Prop} {zE : XK} {zt : TA} (zh : GoA K F B0 zt T Γ fun zxs Γ1 => ∃ (W : Nx) (ns l : List Nd) (h : Nd → Int) (s : Nd), zxs = [nD s, nlD W ns, farD h l] ∧ (s ∈ ns) ∧ (s ∉ W s) ∧ (FarOk W s l h) ∧ (∀ x ∈ l, x ∈ ns) ∧ (ns.length ≤ 1000) ∧ (zpost (orD (ringN W l h s)) Γ1)) : Go K F B0 (tCall (spP K (C_ring_through mg)) [] zE zt) T Γ zpost := by
  refine go_call (dxs := []) (fun z0 z1 z2 z3 z4 z5 => zh z0 z1 z2 z3 z4 fun z6 z7 z8 z9 ⟨W, ns, l, h, s, ze, hp0, hp1, hp2, hp3, hp4, h1⟩ => z5 z6 z7 z8 z9 ⟨_, ⟨W, ns, l, h, s, (List.append_nil _).trans ze, hp0, hp1, hp2, hp3, hp4, rfl, rfl⟩, (fun zo ze => ze ▸ h1)⟩) (fun _ => .nil)
def C_steps_to (mg : Str → Option Value) : Ct := fun zxs zp zq => ∃ (W A : Nx) (ns : List Nd) (g : Nd), zxs = [nD g, nlD A ns] ∧ (ns.Nodup) ∧ (ns.length ≤ 1000) ∧ (g ∈ ns) ∧ (∀ v ∈ ns, ∀ x ∈ A v, x ∈ ns ∧ v ∈ W x) ∧ (∀ x v, v ∈ W x → x ∈ A v) ∧ zp = (fun zo => ∃ l h, FarOk W g l h ∧ (∀ x ∈ l, x ∈ ns) ∧ zo = farO h l) ∧ zq = noX
theorem call_steps_to {K : PySem.W.Frag} {mg : Str → Option Value} {F B0 : Hp} {T : List O} {Γ : En} {zpost : O → En → Prop} {zE : XK} {zt : TA} (zh : GoA K F B0 zt T Γ fun zxs Γ1 => ∃ (W A : Nx) (ns : List Nd) (g : Nd), zxs = [nD g, nlD A ns] ∧ (ns.Nodup) ∧ (ns.length ≤ 1000) ∧ (g ∈ ns) ∧ (∀ v ∈ ns, ∀ x ∈ A v, x ∈ ns ∧ v ∈ W x) ∧ (∀ x v, v ∈ W x → x ∈ A v) ∧ (∀ zo, (fun zo => ∃ l h, FarOk W g l h ∧ (∀ x ∈ l, x ∈ ns) ∧ zo = farO h l) zo → zpost zo Γ1)) : Go K F B0 (tCall (spP K (C_steps_to mg)) [] zE zt) T Γ zpost := by
  refine go_call (dxs := []) (fun z0 z1 z2 z3 z4 z5 => zh z0 z1 z2 z3 z4 fun z6 z7 z8 z9 ⟨W, A, ns, g, ze, hp0, hp1, hp2, hp3, hp4, h1⟩ => z5 z6 z7 z8 z9 ⟨_, ⟨W, A, ns, g, (List.append_nil _).trans ze, hp0, hp1, hp2, hp3, hp4, rfl, rfl⟩, h1⟩) (fun _ => .nil)
def C_least_ring (mg : Str → Option Value) : Ct := fun zxs zp zq => ∃ (ns : List Nd) (ps : List (Nd × Nd)), zxs = [.lst (ns.map nD), .lst (ps.map pD)] ∧ (ns.Nodup) ∧ (ns.length ≤ 1000) ∧ (ps.length ≤ 90000) ∧ (∀ e ∈ ps, e.1 ∈ ns ∧ e.2 ∈ ns) ∧ (∀ e ∈ ps, e.1 ≠ e.2) ∧ zp = (fun zo => ∃ r, LrOk (outs ps) ns r ∧ zo = orD r) ∧ zq = noX
theorem call_least_ring {K : PySem.W.Frag} {mg : Str → Option Value} {F B0 : Hp} {T : List O} {Γ : En} {zpost : O → En → Prop} {zE : XK} {zt : TA} (zh : GoA K F B0 zt T Γ fun zxs Γ1 => ∃ (ns : List Nd) (ps : List (Nd × Nd)), zxs = [.lst (ns.map nD), .lst (ps.map pD)] ∧ (ns.Nodup) ∧ (ns.length ≤ 1000) ∧ (ps.length ≤ 90000) ∧ (∀ e ∈ ps, e.1 ∈ ns ∧ e.2 ∈ ns) ∧ (∀ e ∈ ps, e.1 ≠ e.2) ∧ (∀ zo, (fun zo => ∃ r, LrOk (outs ps) ns r ∧ zo = orD r) zo → zpost zo Γ1)) : Go K F B0 (tCall (spP K (C_least_ring mg)) [] zE zt) T Γ zpost := by
  refine go_call (dxs := []) (fun z0 z1 z2 z3 z4 z5 => zh z0 z1 z2 z3 z4 fun z6 z7 z8 z9 ⟨ns, ps, ze, hp0, hp1, hp2, hp3, hp4, h1⟩ => z5 z6 z7 z8 z9 ⟨_, ⟨ns, ps, (List.append_nil _).trans ze, hp0, hp1, hp2, hp3, hp4, rfl, rfl⟩, h1⟩) (fun _ => .nil)
def C__law_walks (mg : Str → Option Value) : Ct := fun zxs zp zq => ∃ (ns : List Nd) (N : Nx) (m : Nat), zxs = [.lst (ns.map nD), nlD N ns, .int m] ∧ (ns.Nodup) ∧ (ns.length ≤ 12) ∧ (m ≤ 12) ∧ (∀ v ∈ ns, ∀ x ∈ N v, x ∈ ns) ∧ (∀ v, (N v).length ≤ 60) ∧ zp = (fun zo => zo = .ol (((List.range (m + 1)).map (tbD N ns)).map O.d)) ∧ zq = noX
theorem call__law_walks {K : PySem.W.Frag} {mg : Str → Option Value} {F B0 : Hp} {T : List O} {Γ : En} {zpost : O → En → Prop} {zE : XK} {zt : TA} (zh : GoA K F B0 zt T Γ fun zxs Γ1 => ∃ (ns : List Nd) (N : Nx) (m : Nat), zxs = [.lst (ns.map nD), nlD N ns, .int m] ∧ (ns.Nodup) ∧ (ns.length ≤ 12) ∧ (m ≤ 12) ∧ (∀ v ∈ ns, ∀ x ∈ N v, x ∈ ns) ∧ (∀ v, (N v).length ≤ 60) ∧ (zpost (.ol (((List.range (m + 1)).map (tbD N ns)).map O.d)) Γ1)) : Go K F B0 (tCall (spP K (C__law_walks mg)) [] zE zt) T Γ zpost := by
  refine go_call (dxs := []) (fun z0 z1 z2 z3 z4 z5 => zh z0 z1 z2 z3 z4 fun z6 z7 z8 z9 ⟨ns, N, m, ze, hp0, hp1, hp2, hp3, hp4, h1⟩ => z5 z6 z7 z8 z9 ⟨_, ⟨ns, N, m, (List.append_nil _).trans ze, hp0, hp1, hp2, hp3, hp4, rfl, rfl⟩, (fun zo ze => ze ▸ h1)⟩) (fun _ => .nil)
def C__law_none (mg : Str → Option Value) : Ct := fun zxs zp zq => ∃ (ns : List Nd) (N : Nx), zxs = [.lst (ns.map nD), nlD N ns] ∧ (ns.Nodup) ∧ (ns.length ≤ 12) ∧ (∀ v ∈ ns, ∀ x ∈ N v, x ∈ ns) ∧ (∀ v, (N v).length ≤ 60) ∧ (∀ v ∈ ns, v ∉ N v) ∧ (LrOk N ns none) ∧ zp = (fun zo => zo = .d (.bl true)) ∧ zq = noX
theorem call__law_none {K : PySem.W.Frag} {mg : Str → Option Value} {F B0 : Hp} {T : List O} {Γ : En} {zpost : O → En → Prop} {zE : XK} {zt : TA} (zh : GoA K F B0 zt T Γ fun zxs Γ1 => ∃ (ns : List Nd) (N : Nx), zxs = [.lst (ns.map nD), nlD N ns] ∧ (ns.Nodup) ∧ (ns.length ≤ 12) ∧ (∀ v ∈ ns, ∀ x ∈ N v, x ∈ ns) ∧ (∀ v, (N v).length ≤ 60) ∧ (∀ v ∈ ns, v ∉ N v) ∧ (LrOk N ns none) ∧ (zpost (.d (.bl true)) Γ1)) : Go K F B0 (tCall (spP K (C__law_none mg)) [] zE zt) T Γ zpost := by
  refine go_call (dxs := []) (fun z0 z1 z2 z3 z4 z5 => zh z0 z1 z2 z3 z4 fun z6 z7 z8 z9 ⟨ns, N, ze, hp0, hp1, hp2, hp3, hp4, hp5, h1⟩ => z5 z6 z7 z8 z9 ⟨_, ⟨ns, N, (List.append_nil _).trans ze, hp0, hp1, hp2, hp3, hp4, hp5, rfl, rfl⟩, (fun zo ze => ze ▸ h1)⟩) (fun _ => .nil)
def C__law_whole (mg : Str → Option Value) : Ct := fun zxs zp zq => ∃ (n : Int), zxs = [.int n] ∧ zp = (fun zo => zo = .d (.bl true)) ∧ zq = noX
theorem call__law_whole {K : PySem.W.Frag} {mg : Str → Option Value} {F B0 : Hp} {T : List O} {Γ : En} {zpost : O → En → Prop} {zE : XK} {zt : TA} (zh : GoA K F B0 zt T Γ fun zxs Γ1 => ∃ (n : Int), zxs = [.int n] ∧ (zpost (.d (.bl true)) Γ1)) : Go K F B0 (tCall (spP K (C__law_whole mg)) [] zE zt) T Γ zpost := by
  refine go_call (dxs := []) (fun z0 z1 z2 z3 z4 z5 => zh z0 z1 z2 z3 z4 fun z6 z7 z8 z9 ⟨n, ze, h1⟩ => z5 z6 z7 z8 z9 ⟨_, ⟨n, (List.append_nil _).trans ze, rfl, rfl⟩, (fun zo ze => ze ▸ h1)⟩) (fun _ => .nil)
def C__law_is_chain (mg : Str → Option Value) : Ct := fun zxs zp zq => ∃ (ns : List Nd) (N : Nx) (c : List Nd), zxs = [.lst (c.map nD), .lst (ns.map nD), nlD N ns] ∧ (ns.Nodup) ∧ (ns.length ≤ 12) ∧ (c.length ≤ 12) ∧ (∀ v ∈ ns, ∀ x ∈ N v, x ∈ ns) ∧ (∀ v, (N v).length ≤ 60) ∧ (ChOk ns N c) ∧ zp = (fun zo => zo = .d (.bl true)) ∧ zq = noX
theorem call__law_is_chain {K : PySem.W.Frag} {mg : Str → Option Value} {F B0 : Hp} {T : List O} {Γ : En} {zpost : O → En → Prop} {zE : XK} {zt : TA} (zh : GoA K F B0 zt T Γ fun zxs Γ1 => ∃ (ns : List Nd) (N : Nx) (c : List Nd), zxs = [.lst (c.map nD), .lst (ns.map nD), nlD N ns] ∧ (ns.Nodup) ∧ (ns.length ≤ 12) ∧ (c.length ≤ 12) ∧ (∀ v ∈ ns, ∀ x ∈ N v, x ∈ ns) ∧ (∀ v, (N v).length ≤ 60) ∧ (ChOk ns N c) ∧ (zpost (.d (.bl true)) Γ1)) : Go K F B0 (tCall (spP K (C__law_is_chain mg)) [] zE zt) T Γ zpost := by
  refine go_call (dxs := []) (fun z0 z1 z2 z3 z4 z5 => zh z0 z1 z2 z3 z4 fun z6 z7 z8 z9 ⟨ns, N, c, ze, hp0, hp1, hp2, hp3, hp4, hp5, h1⟩ => z5 z6 z7 z8 z9 ⟨_, ⟨ns, N, c, (List.append_nil _).trans ze, hp0, hp1, hp2, hp3, hp4, hp5, rfl, rfl⟩, (fun zo ze => ze ▸ h1)⟩) (fun _ => .nil)
def C__law_no_less (mg : Str → Option Value) : Ct := fun zxs zp zq => ∃ (ns : List Nd) (N : Nx) (c : List Nd), zxs = [.lst (ns.map nD), nlD N ns, .lst (c.map nD)] ∧ (ns.Nodup) ∧ (ns.length ≤ 12) ∧ (c.length ≤ 12) ∧ (∀ v ∈ ns, ∀ x ∈ N v, x ∈ ns) ∧ (∀ v, (N v).length ≤ 60) ∧ (∀ v ∈ ns, v ∉ N v) ∧ (ChOk ns N c) ∧ zp = (fun zo => zo = .d (.bl true)) ∧ zq = noX
theorem call__law_no_less {K : PySem.W.Frag} {mg : Str → Option Value} {F B0 : Hp} {T : List O} {Γ : En} {zpost : O → En → Prop} {zE : XK} {zt : TA} (zh : GoA K F B0 zt T Γ fun zxs Γ1 => ∃ (ns : List Nd) (N : Nx) (c : List Nd), zxs = [.lst (ns.map nD), nlD N ns, .lst (c.map nD)] ∧ (ns.Nodup) ∧ (ns.length ≤ 12) ∧ (c.length ≤ 12) ∧ (∀ v ∈ ns, ∀ x ∈ N v, x ∈ ns) ∧ (∀ v, (N v).length ≤ 60) ∧ (∀ v ∈ ns, v ∉ N v) ∧ (ChOk ns N c) ∧ (zpost (.d (.bl true)) Γ1)) : Go K F B0 (tCall (spP K (C__law_no_less mg)) [] zE zt) T Γ zpost := by
  refine go_call (dxs := []) (fun z0 z1 z2 z3 z4 z5 => zh z0 z1 z2 z3 z4 fun z6 z7 z8 z9 ⟨ns, N, c, ze, hp0, hp1, hp2, hp3, hp4, hp5, hp6, h1⟩ => z5 z6 z7 z8 z9 ⟨_, ⟨ns, N, c, (List.append_nil _).trans ze, hp0, hp1, hp2, hp3, hp4, hp5, hp6, rfl, rfl⟩, (fun zo ze => ze ▸ h1)⟩) (fun _ => .nil)
local macro_rules | `(tactic| walk_at "skc") => `(tactic| first
  | with_reducible refine call__law_cell_at ?_
  | with_reducible refine call__law_nodes ?_
  | with_reducible refine call__law_pairs ?_
  | with_reducible refine call__law_nexts ?_
  | with_reducible refine call_nearest ?_
  | with_reducible refine call_ring_through ?_
  | with_reducible refine call_steps_to ?_
  | with_reducible refine call_least_ring ?_
  | with_reducible refine call__law_walks ?_
  | with_reducible refine call__law_none ?_
  | with_reducible refine call__law_whole ?_
  | with_reducible refine call__law_is_chain ?_
  | with_reducible refine call__law_no_less ?_
  | with_reducible refine go_make00 ?_ | ((with_reducible refine' oa_isiO ?hc ?hq ?_); (case hc => assumption); (case hq => assumption)))
abbrev C_law := lawC
local macro_rules | `(tactic| walk_at "x0") => `(tactic| focus (((with_reducible refine' go_var ?hv ?_); (case hv => exact rfl))))
local macro_rules | `(tactic| walk_at "x1") => `(tactic| focus (with_reducible refine oa_len (.seq rfl) ?_))
local macro_rules | `(tactic| walk_at "x2") => `(tactic| focus (walk_at "lendx"))
local macro_rules | `(tactic| walk_at "x3") => `(tactic| focus ((with_reducible refine ⟨_, rfl, ?_⟩)))
local macro_rules | `(tactic| walk_at "x4") => `(tactic| focus (((with_reducible refine and_im (fun hc => ?_) (fun hc => ?_)) <;> try simp only [decide_eq_true_eq, decide_eq_false_iff_not, Bool.true_eq_false, Bool.false_eq_true, Bool.not_eq_true', Bool.not_eq_false', reduceCtorEq] at hc <;> try first | exact absurd hc (by decide) | exact absurd hc (by assumption) | exact absurd (by assumption) hc | exact absurd rfl hc)))
local macro_rules | `(tactic| walk_at "x5") => `(tactic| focus ((with_reducible refine ⟨_, _, rfl, ?_⟩)))
local macro_rules | `(tactic| walk_at "x6") => `(tactic| focus (((with_reducible refine' And.intro ?hp ?_); (case hp => first | omega | assumption | exact rfl | exact Nat.le_of_ble_eq_true rfl | exact lfOLm (fun _ => rfl) | (show O.lf _ = true; simp only [O.lf, D.lf, lfL, lfOL, lf_mapI, Bool.and_true, Bool.and_self]; done)); (try dsimp only [List.set]))))
local macro_rules | `(tactic| walk_at "x7") => `(tactic| focus (((with_reducible refine' gog_name ?hi ?_); (case hi => exact Nat.le_of_ble_eq_true rfl); dsimp only [List.set])))
local macro_rules | `(tactic| walk_at "x8") => `(tactic| focus (((with_reducible refine' o2_div ?hb ?_); (case hb => omega))))
local macro_rules | `(tactic| walk_at "x9") => `(tactic| focus (((with_reducible refine' o2_mod ?hb ?_); (case hb => omega))))
local macro_rules | `(tactic| walk_at "x10") => `(tactic| focus (((with_reducible refine o2_pow (by decide) ?_); dsimp only [Int.reduceToNat, Int.reducePow])))
local macro_rules | `(tactic| walk_at "x11") => `(tactic| focus (((with_reducible refine' o2_mul ?hm ?_); (case hm => first | exact IntMulOk.of_left (by decide) | exact IntMulOk.of_right (by decide) | assumption | exact IntMulOk.of_right (intBits_le_64 (by omega) (by omega)) | exact IntMulOk.of_left (intBits_le_64 (by omega) (by omega))))))
local macro_rules | `(tactic| walk_at "x12") => `(tactic| focus (((with_reducible refine' gos_append ?ha ?h0); (case h0 => exact ⟨_, rfl⟩))))
local macro_rules | `(tactic| walk_at "x13") => `(tactic| focus (((with_reducible refine' go_varM ?hv ?_); (case hv => exact rfl); (try dsimp only [List.set]))))
local macro_rules | `(tactic| walk_at "x14") => `(tactic| focus (((refine ⟨_, Sl.lst (by exact rfl), ?_⟩); (try simp only [SK.cutD_map, cutD_takeI, cutD_dropI, cutD_midI, ← List.map_take, ← List.map_drop, Int.reduceToNat, Int.reduceLE]))))
local macro_rules | `(tactic| walk_at "x15") => `(tactic| focus (((with_reducible refine' gog_setK ?ha ?h0); (case h0 => exact ⟨_, rfl⟩))))
local macro_rules | `(tactic| walk_at "x16") => `(tactic| focus ((refine ⟨_, _, by exact rfl, by exact rfl, ?_⟩)))
local macro_rules | `(tactic| walk_at "x17") => `(tactic| focus (((with_reducible refine' gogs_name ?hi ?_); (case hi => exact Nat.le_of_ble_eq_true rfl); dsimp only [List.set])))
local macro_rules | `(tactic| walk_at "x18") => `(tactic| focus (((with_reducible refine got_lend' fun F' B' => ?_); (try walk_at "lendx"); (try (simp only [fzE_cons, fzE_nil, frO_none, frO_some, fz_fl, fz_fk, fz_d, fzL_fl, fzK_d, O.fz, fzL, List.set])))))
local macro_rules | `(tactic| walk_at "x19") => `(tactic| focus (((with_reducible refine' gos_appK ?ha ?h0); (case h0 => exact ⟨_, rfl⟩))))
local macro_rules | `(tactic| walk_at "x20") => `(tactic| focus ((with_reducible refine o2_is ?_; (try simp only [D.isNon]))))
local macro_rules | `(tactic| walk_at "x21") => `(tactic| focus (((with_reducible refine' o2_ixT ?hi ?_); (case hi => first | walk_at "ixx" | assumption))))
local macro_rules | `(tactic| walk_at "x22") => `(tactic| focus ((with_reducible refine ⟨_, _, _, rfl, ?_⟩)))
local macro_rules | `(tactic| walk_at "x23") => `(tactic| focus (((with_reducible refine go_lend' fun F' B' => ?_); (try walk_at "lendx"); (try (simp only [fzE_cons, fzE_nil, frO_none, frO_some, fz_fl, fz_fk, fz_d, fzL_fl, fzK_d, O.fz, fzL, List.set])))))
local macro_rules | `(tactic| walk_at "x24") => `(tactic| focus (((with_reducible refine' gos_aug ⟨_, ?hx, ?_⟩); (case hx => exact rfl))))
local macro_rules | `(tactic| walk_at "x25") => `(tactic| focus ((with_reducible refine ⟨_, _, _, _, _, rfl, ?_⟩)))
local macro_rules | `(tactic| walk_at "x26") => `(tactic| focus ((with_reducible refine o2_not ?_; (try simp only [D.isNon, Bool.not_true, Bool.not_false]))))
local macro_rules | `(tactic| walk_at "x27") => `(tactic| focus (((with_reducible refine goao_cons ?_); first | ((with_reducible refine' go_var ?hv ?_); (case hv => exact rfl)) | ((with_reducible refine' go_move ?hv ?_); (case hv => exact rfl); dsimp only [List.set]) | skip)))
local macro_rules | `(tactic| walk_at "x28") => `(tactic| focus (((with_reducible refine' go_fz ?hv ?_); (case hv => exact rfl); (try walk_at "lendx"); (try simp only [fz_fl, fz_fk, fz_d, fzL_fl, fzK_d, O.fz, fzL, List.set]))))
local macro_rules | `(tactic| walk_at "x29") => `(tactic| focus (((with_reducible refine' oa_isiG (b := true) ?ht ?hk ?_); (case ht => constructor); (case hk => decide +kernel))))
local macro_rules | `(tactic| walk_at "x30") => `(tactic| focus (((with_reducible refine' oa_isiG (b := false) ?ht ?hk ?_); (case ht => constructor); (case hk => decide +kernel))))
local macro_rules | `(tactic| walk_at "x31") => `(tactic| focus (((with_reducible refine' o2_ix (x := _) rfl ?hi ?_); (case hi => first | walk_at "ixx" | exact rfl | exact atI_ofN.trans rfl))))
local macro_rules | `(tactic| walk_at "x32") => `(tactic| focus (((with_reducible refine gos_clear ?_); (refine ⟨_, rfl, ?_⟩); dsimp only [List.set])))
section
variable {P : Program} {w : World} {K : PySem.W.Frag} {mg : Str → Option Value} {base : Heap}
theorem cal__law_cell_at (D : Df K mg "_law_cell_at" s__law_cell_at) (b_len : mg "len" = none) : Cal P w K mg base "_law_cell_at" 1 ["_law_script", "_law_k"] (C__law_cell_at mg) := by
  obtain ⟨f, fd, F, mf⟩ := D
  refine ⟨f, fd, ?_, mf, F.kp, F.binds (ps := ["_law_script", "_law_k"]) fun _ _ _ _ _ _ us hl => match us, hl with | [_, _], _ => rfl, Fun.lk F⟩
  refine F.ok sc__law_cell_at (fun vs H Q E hS0 => spP_len (n := 2) (fun xs p q c0 => by unfold C__law_cell_at at c0; obtain ⟨_, _, rfl, _⟩ := c0; rfl) hS0) (fun cdv A outer s H vs Q E hr hS0 => ?_)
  have hu := hu_of hr
  refine sp_body hS0 (fun B xs p q c0 hl0 wx => ?_)
  obtain ⟨ns, k, rfl, hp0, rfl, rfl⟩ := c0
  refine ⟨_, (pss_cons (ps_if (pt_cmpR (k_lt (K := K) rfl hr.units0) (pv 1) (pe_callB (k_len (K := K) rfl) (by rfl) b_len (by decide +kernel) (pa_cons (pv 0) pa_nil)) (nomark _))
        (pss_one (ps_ret (pe_ix (k_ix (K := K) rfl hu) (pv 0) (pv 1) (fun _ _ => rfl))))
        pss_nil)
      (pss_one (ps_ret pe_int))), ?_⟩
  clear hS0 hl0 hr hu wx b_len
  simp only [List.map_cons, List.map_nil, List.length_cons, List.length_nil, List.cons_append, List.nil_append, Nat.reduceAdd, Nat.reduceSub, List.replicate_succ, List.replicate_zero, N__law_cell_at]
  ((with_reducible refine gos_sIR ?_); (with_reducible refine gos_if ?_); (with_reducible refine got_test ?_); (with_reducible refine go_op ?_); walk_at "x0"; (with_reducible refine go_cb ?_); (with_reducible refine goa_cons ?_); walk_at "x0"; (with_reducible refine goa_nil ?_); walk_at "x1"; walk_at "x2"; (with_reducible refine o2_lt ?_); walk_at "x3"; walk_at "x4"; (with_reducible refine gos_ret ?_); (with_reducible refine go_op ?_); walk_at "x0"; walk_at "x0"; walk_at "x2"; (focus skip); rotate_left; (with_reducible refine gos_next ?_); (with_reducible refine gos_ret ?_); (with_reducible refine go_int ?_); walk_at "x2"; (focus skip); rotate_left)
  · have h : k < ns.length := by simp only [List.length_map] at *; omega
    refine o2_ix (x := _) rfl (atI_ofN.trans (by rw [List.getElem?_map, List.getElem?_eq_getElem h]; rfl)) ?_
    unfold cel
    rw [List.getElem?_eq_getElem h]; rfl
  · unfold cel
    rw [List.getElem?_eq_none (by simp only [List.length_map] at *; omega)]; rfl
theorem cal__law_nodes (D : Df K mg "_law_nodes" s__law_nodes) (c__law_cell_at : Cal P w K mg base "_law_cell_at" 1 ["_law_script", "_law_k"] (C__law_cell_at mg)) (b_range : mg "range" = none) : Cal P w K mg base "_law_nodes" 2 ["_law_script", "_law_most"] (C__law_nodes mg) := by
  obtain ⟨f, fd, F, mf⟩ := D
  obtain ⟨f__law_cell_at, fd__law_cell_at, G__law_cell_at, g__law_cell_at, k__law_cell_at, bn__law_cell_at, _⟩ := c__law_cell_at
  refine ⟨f, fd, ?_, mf, F.kp, F.binds (ps := ["_law_script", "_law_most"]) fun _ _ _ _ _ _ us hl => match us, hl with | [_, _], _ => rfl, Fun.lk F⟩
  refine F.ok sc__law_nodes (fun vs H Q E hS0 => spP_len (n := 2) (fun xs p q c0 => by unfold C__law_nodes at c0; obtain ⟨_, _, rfl, _⟩ := c0; rfl) hS0) (fun cdv A outer s H vs Q E hr hS0 => ?_)
  have hu := hu_of hr
  refine sp_body hS0 (fun B xs p q c0 hl0 wx => ?_)
  obtain ⟨ns, q, rfl, hp0, rfl, rfl⟩ := c0
  refine ⟨_, (pss_cons (ps_asg (pe_call G__law_cell_at hr rfl g__law_cell_at k__law_cell_at bn__law_cell_at .nil pass0 (pa_cons (pv 0) (pa_cons pe_int pa_nil))) (pg_name (i := 2) sc__law_nodes.nd rfl (by first | exact Or.inl rfl | exact Or.inr rfl)))
      (pss_cons (ps_asg pe_int (pg_name (i := 3) sc__law_nodes.nd rfl (by first | exact Or.inl rfl | exact Or.inr rfl)))
      (pss_cons (ps_if (pt_cmpR (k_eq (K := K) rfl hr.units) (pe_op op_modG (pe_op op_divG (pv 2) pe_int) pe_int) pe_int (nomark _))
        (pss_one (ps_asg (pe_op op_modG (pe_op op_divG (pv 2) pe_int) (pe_op op_powG pe_int pe_int)) (pg_name (i := 3) sc__law_nodes.nd rfl (by first | exact Or.inl rfl | exact Or.inr rfl))))
        pss_nil)
      (pss_cons (ps_asg (pe_lst pa_nil) (pg_name (i := 4) sc__law_nodes.nd rfl (by first | exact Or.inl rfl | exact Or.inr rfl)))
      (pss_cons (ps_for PassesOwn.never rfl (pi_range1 (by rfl) b_range (pa_cons (pe_op op_modG (pv 2) (pe_op (k_add (K := K) rfl) (pv 1) pe_int)) pa_nil)) (pg_name (i := 5) sc__law_nodes.nd rfl (by first | exact Or.inl rfl | exact Or.inr rfl))
        (pss_cons (ps_asg (pe_op op_modG (pe_op (k_add (K := K) rfl) (pe_op op_mulG pe_int (pv 5)) (pe_op op_divG (pv 2) pe_int)) pe_int) (pg_name (i := 6) sc__law_nodes.nd rfl (by first | exact Or.inl rfl | exact Or.inr rfl)))
        (pss_cons (ps_asg (pe_op op_modG (pe_op op_divG (pe_call G__law_cell_at hr rfl g__law_cell_at k__law_cell_at bn__law_cell_at .nil pass0 (pa_cons (pv 0) (pa_cons pe_int pa_nil))) (pe_op (k_add (K := K) rfl) (pv 5) pe_int)) pe_int) (pg_name (i := 7) sc__law_nodes.nd rfl (by first | exact Or.inl rfl | exact Or.inr rfl)))
        (pss_cons (ps_if (pt_cmpR (k_eq (K := K) rfl hr.units) (pe_op op_modG (pe_op op_divG (pe_call G__law_cell_at hr rfl g__law_cell_at k__law_cell_at bn__law_cell_at .nil pass0 (pa_cons (pv 0) (pa_cons pe_int pa_nil))) pe_int) pe_int) pe_int (nomark _))
          (pss_cons (ps_asg (pe_op op_subG (pe_op op_mulG (pe_op op_modG (pv 6) pe_int) pe_int) pe_int) (pg_name (i := 7) sc__law_nodes.nd rfl (by first | exact Or.inl rfl | exact Or.inr rfl)))
          (pss_one (ps_asg (pe_op op_divG (pv 6) pe_int) (pg_name (i := 6) sc__law_nodes.nd rfl (by first | exact Or.inl rfl | exact Or.inr rfl)))))
          pss_nil)
        (pss_one (ps_expr (k_bm (K := K) rfl (pe_bm PySem.F.plainAttrs_list PySem.F.slot_list_append PySem.F.type_list_append mt_append (pv 4) (pa_cons (pe_tup (pa_cons (pe_op (k_add (K := K) rfl) (pe_op (k_add (K := K) rfl) pe_int (pv 3)) (pv 6)) (pa_cons (pv 7) pa_nil))) pa_nil)))))))))
      (pss_one (ps_ret (pe_mv (pv 4))))))))), ?_⟩
  clear hS0 hl0 hr hu wx G__law_cell_at g__law_cell_at k__law_cell_at bn__law_cell_at b_range
  simp only [List.map_cons, List.map_nil, List.length_cons, List.length_nil, List.cons_append, List.nil_append, Nat.reduceAdd, Nat.reduceSub, List.replicate_succ, List.replicate_zero, N__law_nodes]
  ((with_reducible refine gos_sA ?_); (with_reducible refine gos_asg ?_); walk_at "x2"; (with_reducible refine call__law_cell_at ?_); (with_reducible refine goa_cons ?_); walk_at "x0"; (with_reducible refine goa_cons ?_); (with_reducible refine go_int ?_); (with_reducible refine goa_nil ?_); walk_at "x2"; walk_at "x5"; walk_at "x2"; walk_at "x6"; walk_at "x7"; (with_reducible refine gos_sA ?_); (with_reducible refine gos_asg ?_); (with_reducible refine go_int ?_); walk_at "x7"; (focus skip); rotate_left)
  refine gos_seq ?_
  refine gos_mid (fun Γ' => ∃ m : Int, Γ' = [some (O.d (.sq (ns.map D.int))), some (O.d (.int q)), some (O.d (.int (cel ns 0))), some (O.d (.int m)), none, none, none, none]) ?_ ?_
  · ((with_reducible refine gos_if ?_); (with_reducible refine got_test ?_); (with_reducible refine go_op ?_); (with_reducible refine go_op ?_); (with_reducible refine go_op ?_); walk_at "x0"; (with_reducible refine go_int ?_); walk_at "x2"; walk_at "x8"; (with_reducible refine go_int ?_); walk_at "x2"; walk_at "x9"; (with_reducible refine go_int ?_); walk_at "x2"; (with_reducible refine o2_eqI ?_); walk_at "x3"; walk_at "x4"; (with_reducible refine gos_asg ?_); (with_reducible refine go_op ?_); (with_reducible refine go_op ?_); walk_at "x0"; (with_reducible refine go_int ?_); walk_at "x2"; walk_at "x8"; (with_reducible refine go_op ?_); (with_reducible refine go_int ?_); (with_reducible refine go_int ?_); walk_at "x2"; walk_at "x10"; walk_at "x2"; walk_at "x9"; walk_at "x7"; (focus skip); rotate_left; (with_reducible refine gos_next ?_); walk_at "x2"; (focus skip); rotate_left)
    all_goals exact ⟨_, rfl⟩
  rintro _ ⟨m, rfl⟩
  ((with_reducible refine gos_sA ?_); (with_reducible refine gos_asg ?_); (with_reducible refine go_lst ?_); (with_reducible refine goa_nil ?_); walk_at "x2"; walk_at "x6"; walk_at "x7"; (with_reducible refine gos_sF ?_); (with_reducible refine gos_for ?_); (with_reducible refine goi_rng1 ?_); (with_reducible refine goa_cons ?_); (with_reducible refine go_op ?_); walk_at "x0"; (with_reducible refine go_op ?_); walk_at "x0"; (with_reducible refine go_int ?_); walk_at "x2"; (with_reducible refine o2_add ?_); walk_at "x2"; walk_at "x9"; (with_reducible refine goa_nil ?_); walk_at "x3"; (focus skip); rotate_left)
  have hq : (0 : Int) < (q : Int) + 1 := by omega
  have hm0 := Int.emod_nonneg (cel ns 0) (by omega : (q : Int) + 1 ≠ 0)
  have hm1 := Int.emod_lt_of_pos (cel ns 0) hq
  refine ⟨by omega, by omega, fun i Γ' => ∃ a b c : Option O, Γ' = [some (O.d (.sq (ns.map D.int))), some (O.d (.int q)), some (O.d (.int (cel ns 0))), some (O.d (.int m)), some (.ol ((((List.range i).map (ndF (cel ns 1) (cel ns 0) m)).map nD).map O.d)), a, b, c], ⟨_, _, _, rfl⟩, ?_, ?_⟩
  · rintro i d _ hd ⟨a, b, c, rfl⟩
    obtain ⟨hi, rfl⟩ := rngD_get hd
    have hi12 : i < 13 := by omega
    (walk_at "x7"; (with_reducible refine gos_sA ?_); (with_reducible refine gos_asg ?_); (with_reducible refine go_op ?_); (with_reducible refine go_op ?_); (with_reducible refine go_op ?_); (with_reducible refine go_int ?_); walk_at "x0"; walk_at "x2"; walk_at "x11"; (with_reducible refine go_op ?_); walk_at "x0"; (with_reducible refine go_int ?_); walk_at "x2"; walk_at "x8"; walk_at "x2"; (with_reducible refine o2_add ?_); (with_reducible refine go_int ?_); walk_at "x2"; walk_at "x9"; walk_at "x7"; (with_reducible refine gos_sA ?_); (with_reducible refine gos_asg ?_); (with_reducible refine go_op ?_); (with_reducible refine go_op ?_); walk_at "x2"; (with_reducible refine call__law_cell_at ?_); (with_reducible refine goa_cons ?_); walk_at "x0"; (with_reducible refine goa_cons ?_); (with_reducible refine go_int ?_); (with_reducible refine goa_nil ?_); walk_at "x2"; walk_at "x5"; walk_at "x2"; walk_at "x6"; (with_reducible refine go_op ?_); walk_at "x0"; (with_reducible refine go_int ?_); walk_at "x2"; (with_reducible refine o2_add ?_); walk_at "x2"; walk_at "x8"; (with_reducible refine go_int ?_); walk_at "x2"; walk_at "x9"; walk_at "x7"; (focus skip); rotate_left)
    refine gos_seq ?_
    refine gos_mid (fun Γ' => Γ' = [some (O.d (.sq (ns.map D.int))), some (O.d (.int q)), some (O.d (.int (cel ns 0))), some (O.d (.int m)), some (.ol ((((List.range i).map (ndF (cel ns 1) (cel ns 0) m)).map nD).map O.d)), some (O.d (.int (0 + (i : Int)))), some (O.d (.int ((ndF (cel ns 1) (cel ns 0) m i).1 - 1 - m))), some (O.d (.int (ndF (cel ns 1) (cel ns 0) m i).2))]) ?_ ?_
    · ((with_reducible refine gos_if ?_); (with_reducible refine got_test ?_); (with_reducible refine go_op ?_); (with_reducible refine go_op ?_); (with_reducible refine go_op ?_); walk_at "x2"; (with_reducible refine call__law_cell_at ?_); (with_reducible refine goa_cons ?_); walk_at "x0"; (with_reducible refine goa_cons ?_); (with_reducible refine go_int ?_); (with_reducible refine goa_nil ?_); walk_at "x2"; walk_at "x5"; walk_at "x2"; walk_at "x6"; (with_reducible refine go_int ?_); walk_at "x2"; walk_at "x8"; (with_reducible refine go_int ?_); walk_at "x2"; walk_at "x9"; (with_reducible refine go_int ?_); walk_at "x2"; (with_reducible refine o2_eqI ?_); walk_at "x3"; walk_at "x4"; (with_reducible refine gos_sA ?_); (with_reducible refine gos_asg ?_); (with_reducible refine go_op ?_); (with_reducible refine go_op ?_); (with_reducible refine go_op ?_); walk_at "x0"; (with_reducible refine go_int ?_); walk_at "x2"; walk_at "x9"; (with_reducible refine go_int ?_); walk_at "x2"; walk_at "x11"; (with_reducible refine go_int ?_); walk_at "x2"; (with_reducible refine o2_sub ?_); walk_at "x7"; (with_reducible refine gos_asg ?_); (with_reducible refine go_op ?_); walk_at "x0"; (with_reducible refine go_int ?_); walk_at "x2"; walk_at "x8"; walk_at "x7"; (focus skip); rotate_left; (with_reducible refine gos_next ?_); walk_at "x2"; (focus skip); rotate_left)
      · rename_i h
        have e : ndF (cel ns 1) (cel ns 0) m i = (1 + m + (5 * (i : Int) + cel ns 0 / 7) % 13 / 3, (5 * (i : Int) + cel ns 0 / 7) % 13 % 3 * 1000003 - 1000003) := by unfold ndF; rw [if_pos h]
        rw [e, Int.zero_add]
        dsimp only
        simp only [List.cons.injEq, Option.some.injEq, O.d.injEq, D.int.injEq, and_true, true_and]
        omega
      · rename_i h
        have e : ndF (cel ns 1) (cel ns 0) m i = (1 + m + (5 * (i : Int) + cel ns 0 / 7) % 13, cel ns 1 / ((i : Int) + 1) % 4) := by unfold ndF; rw [if_neg h]
        rw [e, Int.zero_add]
        dsimp only
        simp only [List.cons.injEq, Option.some.injEq, O.d.injEq, D.int.injEq, and_true, true_and]
        omega
    rintro _ rfl
    (walk_at "x12"; (with_reducible refine go_tup ?_); (with_reducible refine goa_cons ?_); (with_reducible refine go_op ?_); (with_reducible refine go_op ?_); (with_reducible refine go_int ?_); walk_at "x0"; walk_at "x2"; (with_reducible refine o2_add ?_); walk_at "x0"; walk_at "x2"; (with_reducible refine o2_add ?_); (with_reducible refine goa_cons ?_); walk_at "x0"; (with_reducible refine goa_nil ?_); walk_at "x2"; walk_at "x6"; walk_at "x3"; (focus skip); rotate_left)
    refine ⟨by simp only [List.length_map, List.length_range]; omega, some (O.d (.int (0 + (i : Int)))), some (O.d (.int ((ndF (cel ns 1) (cel ns 0) m i).1 - 1 - m))), some (O.d (.int (ndF (cel ns 1) (cel ns 0) m i).2)), ?_⟩
    rw [show D.tup [D.int (1 + m + ((ndF (cel ns 1) (cel ns 0) m i).fst - 1 - m)), D.int (ndF (cel ns 1) (cel ns 0) m i).snd] = nD (ndF (cel ns 1) (cel ns 0) m i) by rw [nD_tup, show 1 + m + ((ndF (cel ns 1) (cel ns 0) m i).fst - 1 - m) = (ndF (cel ns 1) (cel ns 0) m i).fst by omega]]
    rw [List.range_succ]
    simp only [List.map_append, List.map_cons, List.map_nil]
  · rintro _ ⟨a, b, c, rfl⟩
    rw [rngD_len]
    ((with_reducible refine gos_ret ?_); walk_at "x13"; (focus skip); rotate_left)
    refine ⟨_, ⟨ndF_nd (cel ns 1) (cel ns 0) m (n := (cel ns 0 % ((q : Int) + 1)).toNat) (by omega), by simp; omega⟩, rfl⟩
theorem cal__law_pairs (D : Df K mg "_law_pairs" s__law_pairs) (c__law_cell_at : Cal P w K mg base "_law_cell_at" 1 ["_law_script", "_law_k"] (C__law_cell_at mg)) (b_len : mg "len" = none) (b_max : mg "max" = none) (b_min : mg "min" = none) : Cal P w K mg base "_law_pairs" 2 ["_law_script", "_law_nodes_here"] (C__law_pairs mg) := by
  obtain ⟨f, fd, F, mf⟩ := D
  obtain ⟨f__law_cell_at, fd__law_cell_at, G__law_cell_at, g__law_cell_at, k__law_cell_at, bn__law_cell_at, _⟩ := c__law_cell_at
  refine ⟨f, fd, ?_, mf, F.kp, F.binds (ps := ["_law_script", "_law_nodes_here"]) fun _ _ _ _ _ _ us hl => match us, hl with | [_, _], _ => rfl, Fun.lk F⟩
  refine F.ok sc__law_pairs (fun vs H Q E hS0 => spP_len (n := 2) (fun xs p q c0 => by unfold C__law_pairs at c0; obtain ⟨_, _, rfl, _⟩ := c0; rfl) hS0) (fun cdv A outer s H vs Q E hr hS0 => ?_)
  have hu := hu_of hr
  refine sp_body hS0 (fun B xs p q c0 hl0 wx => ?_)
  obtain ⟨ns, l, rfl, hp0, hp1, hp2, rfl, rfl⟩ := c0
  refine ⟨_, (pss_cons (ps_asg (pe_lst pa_nil) (pg_name (i := 2) sc__law_pairs.nd rfl (by first | exact Or.inl rfl | exact Or.inr rfl)))
      (pss_cons (ps_asg (pe_op op_modG (pe_call G__law_cell_at hr rfl g__law_cell_at k__law_cell_at bn__law_cell_at .nil pass0 (pa_cons (pv 0) (pa_cons pe_int pa_nil))) pe_int) (pg_name (i := 3) sc__law_pairs.nd rfl (by first | exact Or.inl rfl | exact Or.inr rfl)))
      (pss_cons (ps_for PassesOwn.never rfl (k_seq (K := K) rfl (pe_slice (k_sl (K := K) rfl) (pv 0) (po_some pe_int) (po_some pe_int))) (pg_name (i := 4) sc__law_pairs.nd rfl (by first | exact Or.inl rfl | exact Or.inr rfl))
        (pss_one (ps_if (pt_cmpR op_gtG (pe_callB (k_len (K := K) rfl) (by rfl) b_len (by decide +kernel) (pa_cons (pv 1) pa_nil)) pe_int (nomark _))
          (pss_cons (ps_asg (pe_op op_modG (pv 4) (pe_callB (k_len (K := K) rfl) (by rfl) b_len (by decide +kernel) (pa_cons (pv 1) pa_nil))) (pg_name (i := 5) sc__law_pairs.nd rfl (by first | exact Or.inl rfl | exact Or.inr rfl)))
          (pss_cons (ps_asg (pe_op op_modG (pe_op op_divG (pv 4) pe_int) (pe_callB (k_len (K := K) rfl) (by rfl) b_len (by decide +kernel) (pa_cons (pv 1) pa_nil))) (pg_name (i := 6) sc__law_pairs.nd rfl (by first | exact Or.inl rfl | exact Or.inr rfl)))
          (pss_cons (ps_if (pt_cmpR (k_eq (K := K) rfl hr.units) (pv 5) (pv 6) (nomark _))
            (pss_one (ps_asg (pe_op op_modG (pe_op (k_add (K := K) rfl) (pv 5) pe_int) (pe_callB (k_len (K := K) rfl) (by rfl) b_len (by decide +kernel) (pa_cons (pv 1) pa_nil))) (pg_name (i := 6) sc__law_pairs.nd rfl (by first | exact Or.inl rfl | exact Or.inr rfl))))
            pss_nil)
          (pss_cons (ps_if (PW.pt (pw_or (pt_cmpR (k_eq (K := K) rfl hr.units) (pv 3) pe_int (nomark _)) (pw_or1 (PW.pt (pw_and (pt_cmpR (k_eq (K := K) rfl hr.units) (pv 3) pe_int (nomark _)) (pw_and1 (pt_cmpR op_gtG (pe_op op_modG (pe_op op_divG (pv 4) pe_int) pe_int) pe_int (nomark _))))))))
            (pss_one (ps_par (i := 5) (j := 6) rfl sc__law_pairs.nd rfl rfl (by decide) rfl rfl (pa_cons (pe_callB (call_min2G rfl) (by rfl) b_min (by decide +kernel) (pa_cons (pv 5) (pa_cons (pv 6) pa_nil))) (pa_cons (pe_callB (call_max2G rfl) (by rfl) b_max (by decide +kernel) (pa_cons (pv 5) (pa_cons (pv 6) pa_nil))) pa_nil)) rfl))
            pss_nil)
          (pss_one (ps_expr (k_bm (K := K) rfl (pe_bm PySem.F.plainAttrs_list PySem.F.slot_list_append PySem.F.type_list_append mt_append (pv 2) (pa_cons (pe_tup (pa_cons (pe_ix (k_ix (K := K) rfl hu) (pv 1) (pv 5) (fun _ _ => rfl)) (pa_cons (pe_ix (k_ix (K := K) rfl hu) (pv 1) (pv 6) (fun _ _ => rfl)) pa_nil))) pa_nil)))))))))
          pss_nil)))
      (pss_one (ps_ret (pe_mv (pv 2))))))), ?_⟩
  clear hS0 hl0 hr hu wx G__law_cell_at g__law_cell_at k__law_cell_at bn__law_cell_at b_len b_max b_min
  simp only [List.map_cons, List.map_nil, List.length_cons, List.length_nil, List.cons_append, List.nil_append, Nat.reduceAdd, Nat.reduceSub, List.replicate_succ, List.replicate_zero, N__law_pairs]
  ((with_reducible refine gos_sA ?_); (with_reducible refine gos_asg ?_); (with_reducible refine go_lst ?_); (with_reducible refine goa_nil ?_); walk_at "x2"; walk_at "x6"; walk_at "x7"; (with_reducible refine gos_sA ?_); (with_reducible refine gos_asg ?_); (with_reducible refine go_op ?_); walk_at "x2"; (with_reducible refine call__law_cell_at ?_); (with_reducible refine goa_cons ?_); walk_at "x0"; (with_reducible refine goa_cons ?_); (with_reducible refine go_int ?_); (with_reducible refine goa_nil ?_); walk_at "x2"; walk_at "x5"; walk_at "x2"; walk_at "x6"; (with_reducible refine go_int ?_); walk_at "x2"; walk_at "x9"; walk_at "x7"; (with_reducible refine gos_sF ?_); (with_reducible refine gos_for ?_); (with_reducible refine goi_seq ?_); (with_reducible refine go_sl ?_); walk_at "x0"; (with_reducible refine goo_some ?_); (with_reducible refine go_int ?_); walk_at "x3"; (with_reducible refine goo_some ?_); (with_reducible refine go_int ?_); walk_at "x3"; walk_at "x2"; walk_at "x14"; walk_at "x2"; (focus skip); rotate_left)
  have h60 : (List.drop 2 (List.take 62 ns)).length ≤ 60 := by simp; omega
  generalize List.drop 2 (List.take 62 ns) = cs at h60
  refine ⟨_, .seq rfl, fun i Γ' => ∃ (ps : List (Nd × Nd)) (a b c : Option O), ps.length ≤ i ∧ (∀ e ∈ ps, e.1 ∈ l ∧ e.2 ∈ l) ∧ (∀ e ∈ ps, e.1 ≠ e.2) ∧ Γ' = [some (O.d (.sq (ns.map D.int))), some (O.d (.lst (l.map nD))), some (.ol ((ps.map pD).map O.d)), some (O.d (.int (cel ns 1 % 3))), a, b, c], ⟨[], none, none, none, Nat.le_refl _, (fun _ h => absurd h List.not_mem_nil), (fun _ h => absurd h List.not_mem_nil), rfl⟩, ?_, ?_⟩
  · rintro i d _ hd ⟨ps, a, b, c, hl, hm, hq, rfl⟩
    obtain ⟨z, hz, rfl⟩ := mapD_get hd
    have hil := (List.getElem?_eq_some_iff.mp hz).1
    (walk_at "x7"; (with_reducible refine gos_if ?_); (with_reducible refine got_test ?_); (with_reducible refine go_op ?_); (with_reducible refine go_cb ?_); (with_reducible refine goa_cons ?_); walk_at "x0"; (with_reducible refine goa_nil ?_); walk_at "x1"; (with_reducible refine go_int ?_); walk_at "x2"; (with_reducible refine o2_gt ?_); walk_at "x3"; walk_at "x4"; (with_reducible refine gos_sA ?_); (with_reducible refine gos_asg ?_); (with_reducible refine go_op ?_); walk_at "x0"; (with_reducible refine go_cb ?_); (with_reducible refine goa_cons ?_); walk_at "x0"; (with_reducible refine goa_nil ?_); walk_at "x1"; walk_at "x2"; walk_at "x9"; walk_at "x7"; (with_reducible refine gos_sA ?_); (with_reducible refine gos_asg ?_); (with_reducible refine go_op ?_); (with_reducible refine go_op ?_); walk_at "x0"; (with_reducible refine go_int ?_); walk_at "x2"; walk_at "x8"; (with_reducible refine go_cb ?_); (with_reducible refine goa_cons ?_); walk_at "x0"; (with_reducible refine goa_nil ?_); walk_at "x1"; walk_at "x2"; walk_at "x9"; walk_at "x7"; (focus skip); rotate_left; (with_reducible refine gos_next ?_); walk_at "x2"; (focus skip); rotate_left)
    · have h2 : (1 : Int) < l.length := by simp only [List.length_map] at *; omega
      have hl0 : ((l.map nD).length : Int) = l.length := by rw [List.length_map]
      have b1 := Int.emod_nonneg z (by omega : (l.length : Int) ≠ 0)
      have b2 := Int.emod_lt_of_pos z (by omega : (0 : Int) < l.length)
      have b3 := Int.emod_nonneg (z / 13) (by omega : (l.length : Int) ≠ 0)
      have b4 := Int.emod_lt_of_pos (z / 13) (by omega : (0 : Int) < l.length)
      have b5 := Int.emod_nonneg (z % (l.length : Int) + 1) (by omega : (l.length : Int) ≠ 0)
      have b6 := Int.emod_lt_of_pos (z % (l.length : Int) + 1) (by omega : (0 : Int) < l.length)
      have ne1 : z % (l.length : Int) ≠ (z % (l.length : Int) + 1) % (l.length : Int) := fun h => by
        by_cases q : z % (l.length : Int) + 1 = (l.length : Int)
        · rw [q, Int.emod_self] at h; omega
        · rw [Int.emod_eq_of_lt (a := z % (l.length : Int) + 1) (by omega) (by omega)] at h; omega
      rw [hl0] at *
      refine gos_seq ?_
      refine gos_mid (fun Γ' => ∃ x y : Int, (0 ≤ x ∧ x < l.length) ∧ (0 ≤ y ∧ y < l.length) ∧ x ≠ y ∧ Γ' = [some (O.d (.sq (ns.map D.int))), some (O.d (.lst (l.map nD))), some (.ol ((ps.map pD).map O.d)), some (O.d (.int (cel ns 1 % 3))), some (O.d (.int z)), some (O.d (.int x)), some (O.d (.int y))]) ?_ ?_
      · ((with_reducible refine gos_if ?_); (with_reducible refine got_test ?_); (with_reducible refine go_op ?_); walk_at "x0"; walk_at "x0"; walk_at "x2"; (with_reducible refine o2_eqI ?_); walk_at "x3"; walk_at "x4"; (with_reducible refine gos_asg ?_); (with_reducible refine go_op ?_); (with_reducible refine go_op ?_); walk_at "x0"; (with_reducible refine go_int ?_); walk_at "x2"; (with_reducible refine o2_add ?_); (with_reducible refine go_cb ?_); (with_reducible refine goa_cons ?_); walk_at "x0"; (with_reducible refine goa_nil ?_); walk_at "x1"; walk_at "x2"; walk_at "x9"; walk_at "x7"; (focus skip); rotate_left; (with_reducible refine gos_next ?_); walk_at "x2"; (focus skip); rotate_left)
        · refine ⟨_, _, ⟨b1, b2⟩, ⟨b5, b6⟩, ne1, ?_⟩
          rw [List.length_map]
        · exact ⟨_, _, ⟨b1, b2⟩, ⟨b3, b4⟩, by assumption, rfl⟩
      rintro _ ⟨x, y, hx, hy, hxy, rfl⟩
      refine gos_seq ?_
      refine gos_mid (fun Γ' => ∃ x y : Int, (0 ≤ x ∧ x < l.length) ∧ (0 ≤ y ∧ y < l.length) ∧ x ≠ y ∧ Γ' = [some (O.d (.sq (ns.map D.int))), some (O.d (.lst (l.map nD))), some (.ol ((ps.map pD).map O.d)), some (O.d (.int (cel ns 1 % 3))), some (O.d (.int z)), some (O.d (.int x)), some (O.d (.int y))]) ?_ ?_
      · ((with_reducible refine gos_if ?_); (with_reducible refine got_or ?_); (with_reducible refine got_test ?_); (with_reducible refine go_op ?_); walk_at "x0"; (with_reducible refine go_int ?_); walk_at "x2"; (with_reducible refine o2_eqI ?_); walk_at "x3"; walk_at "x4"; walk_at "x4"; (with_reducible refine gos_par ?_); (with_reducible refine goa_cons ?_); (with_reducible refine go_cb ?_); (with_reducible refine goa_cons ?_); walk_at "x0"; (with_reducible refine goa_cons ?_); walk_at "x0"; (with_reducible refine goa_nil ?_); walk_at "x2"; (with_reducible refine oa_min2 ?_); (with_reducible refine goa_cons ?_); (with_reducible refine go_cb ?_); (with_reducible refine goa_cons ?_); walk_at "x0"; (with_reducible refine goa_cons ?_); walk_at "x0"; (with_reducible refine goa_nil ?_); walk_at "x2"; (with_reducible refine oa_max2 ?_); (with_reducible refine goa_nil ?_); walk_at "x2"; walk_at "x5"; (focus skip); rotate_left; (with_reducible refine got_and ?_); (with_reducible refine got_test ?_); (with_reducible refine go_op ?_); walk_at "x0"; (with_reducible refine go_int ?_); walk_at "x2"; (with_reducible refine o2_eqI ?_); walk_at "x3"; walk_at "x4"; (with_reducible refine got_test ?_); (with_reducible refine go_op ?_); (with_reducible refine go_op ?_); (with_reducible refine go_op ?_); walk_at "x0"; (with_reducible refine go_int ?_); walk_at "x2"; walk_at "x8"; (with_reducible refine go_int ?_); walk_at "x2"; walk_at "x9"; (with_reducible refine go_int ?_); walk_at "x2"; (with_reducible refine o2_gt ?_); walk_at "x3"; walk_at "x4"; (with_reducible refine gos_par ?_); (with_reducible refine goa_cons ?_); (with_reducible refine go_cb ?_); (with_reducible refine goa_cons ?_); walk_at "x0"; (with_reducible refine goa_cons ?_); walk_at "x0"; (with_reducible refine goa_nil ?_); walk_at "x2"; (with_reducible refine oa_min2 ?_); (with_reducible refine goa_cons ?_); (with_reducible refine go_cb ?_); (with_reducible refine goa_cons ?_); walk_at "x0"; (with_reducible refine goa_cons ?_); walk_at "x0"; (with_reducible refine goa_nil ?_); walk_at "x2"; (with_reducible refine oa_max2 ?_); (with_reducible refine goa_nil ?_); walk_at "x2"; walk_at "x5"; (focus skip); rotate_left; (with_reducible refine gos_next ?_); walk_at "x2"; (focus skip); rotate_left; walk_at "x4"; (with_reducible refine gos_next ?_); walk_at "x2"; (focus skip); rotate_left)
        all_goals first
          | exact ⟨x, y, hx, hy, hxy, rfl⟩
          | (refine ⟨⟨Nat.le_of_ble_eq_true rfl, Nat.le_of_ble_eq_true rfl, by decide⟩, _, _, ?_, ?_, ?_, rfl⟩ <;> (repeat' split) <;> omega)
      rintro _ ⟨x, y, hx, hy, hxy, rfl⟩
      obtain ⟨i1, rfl⟩ := Int.eq_ofNat_of_zero_le hx.1
      obtain ⟨i2, rfl⟩ := Int.eq_ofNat_of_zero_le hy.1
      have j1 : i1 < l.length := by omega
      have j2 : i2 < l.length := by omega
      have a1 : atI (l.map nD) (i1 : Int) = some (nD l[i1]) := atI_ofN.trans (by rw [List.getElem?_map, List.getElem?_eq_getElem j1]; rfl)
      have a2 : atI (l.map nD) (i2 : Int) = some (nD l[i2]) := atI_ofN.trans (by rw [List.getElem?_map, List.getElem?_eq_getElem j2]; rfl)
      (walk_at "x12"; (with_reducible refine go_tup ?_); (with_reducible refine goa_cons ?_); (with_reducible refine go_op ?_); walk_at "x0"; walk_at "x0"; walk_at "x2"; (focus skip); rotate_left)
      refine o2_ix rfl a1 ?_
      ((with_reducible refine goa_cons ?_); (with_reducible refine go_op ?_); walk_at "x0"; walk_at "x0"; walk_at "x2"; (focus skip); rotate_left)
      refine o2_ix rfl a2 ?_
      ((with_reducible refine goa_nil ?_); walk_at "x2"; walk_at "x6"; walk_at "x3"; (focus skip); rotate_left)
      refine ⟨by simp only [List.length_map]; omega, ps ++ [(l[i1], l[i2])], some (O.d (.int z)), some (O.d (.int i1)), some (O.d (.int i2)), by simp only [List.length_append, List.length_cons, List.length_nil]; omega, fun e he => ?_, fun e he => ?_, ?_⟩
      · rcases List.mem_append.mp he with he | he
        · exact hm e he
        · rw [List.mem_singleton.mp he]; exact ⟨List.getElem_mem j1, List.getElem_mem j2⟩
      · rcases List.mem_append.mp he with he | he
        · exact hq e he
        · rw [List.mem_singleton.mp he]
          intro e2
          rcases Nat.lt_trichotomy i1 i2 with q | q | q
          · exact (List.pairwise_iff_getElem.mp hp2 i1 i2 j1 j2 q) e2
          · exact hxy (by rw [q])
          · exact (List.pairwise_iff_getElem.mp hp2 i2 i1 j2 j1 q) e2.symm
      · simp only [List.map_append, List.map_cons, List.map_nil]
    · exact ⟨ps, some (O.d (.int z)), b, c, by omega, hm, hq, rfl⟩
  · rintro _ ⟨ps, a, b, c, hl, hm, hq, rfl⟩
    rw [List.length_map] at hl
    ((with_reducible refine gos_ret ?_); walk_at "x13"; (focus skip); rotate_left)
    exact ⟨ps, by omega, hm, hq, rfl⟩
theorem cal__law_nexts (D : Df K mg "_law_nexts" s__law_nexts) : Cal P w K mg base "_law_nexts" 1 ["_law_nodes_here", "_law_pairs_here"] (C__law_nexts mg) := by
  obtain ⟨f, fd, F, mf⟩ := D
  refine ⟨f, fd, ?_, mf, F.kp, F.binds (ps := ["_law_nodes_here", "_law_pairs_here"]) fun _ _ _ _ _ _ us hl => match us, hl with | [_, _], _ => rfl, Fun.lk F⟩
  refine F.ok sc__law_nexts (fun vs H Q E hS0 => spP_len (n := 2) (fun xs p q c0 => by unfold C__law_nexts at c0; obtain ⟨_, _, rfl, _⟩ := c0; rfl) hS0) (fun cdv A outer s H vs Q E hr hS0 => ?_)
  have hu := hu_of hr
  refine sp_body hS0 (fun B xs p q c0 hl0 wx => ?_)
  obtain ⟨ns, ps, rfl, hp0, hp1, hp2, hp3, rfl, rfl⟩ := c0
  refine ⟨_, (pss_cons (ps_asg pe_dnewT (pg_name (i := 2) sc__law_nexts.nd rfl (by first | exact Or.inl rfl | exact Or.inr rfl)))
      (pss_cons (ps_for PassesOwn.never rfl (k_seq (K := K) rfl (pv 0)) (pg_name (i := 3) sc__law_nexts.nd rfl (by first | exact Or.inl rfl | exact Or.inr rfl))
        (pss_one (ps_asg (pe_lst pa_nil) (pg_sub (pv 2) (pv 3) (set_G hu)))))
      (pss_cons (ps_for PassesOwn.never rfl (k_seq (K := K) rfl (pv 1)) (k_tup (K := K) (n := 2) rfl (by rfl) (pgs_cons (pg_name (i := 4) sc__law_nexts.nd rfl (by first | exact Or.inl rfl | exact Or.inr rfl)) (pgs_cons (pg_name (i := 5) sc__law_nexts.nd rfl (by first | exact Or.inl rfl | exact Or.inr rfl)) pgs_nil)))
        (pss_one (ps_if (pt_lend (pt_cmpR (k_notInDat (K := K) rfl (Room.units65 hr)) (pv 5) (pe_ix (k_ix (K := K) rfl hu) (pv 2) (pv 4) (fun _ _ => rfl)) (by rfl)))
          (pss_one (ps_expr (k_bm (K := K) rfl (pe_bm PySem.F.plainAttrs_list PySem.F.slot_list_append PySem.F.type_list_append mt_append (pe_ix (k_ix (K := K) rfl hu) (pv 2) (pv 4) (fun _ _ => rfl)) (pa_cons (pv 5) pa_nil)))))
          pss_nil)))
      (pss_one (ps_ret (pe_mv (pv 2))))))), ?_⟩
  clear hS0 hl0 hr hu wx
  simp only [List.map_cons, List.map_nil, List.length_cons, List.length_nil, List.cons_append, List.nil_append, Nat.reduceAdd, Nat.reduceSub, List.replicate_succ, List.replicate_zero, N__law_nexts]
  have hsnoc : ∀ {i : Nat} {v : Nd}, ns[i]? = some v → v ∉ ns.take i ∧ ns.take (i + 1) = ns.take i ++ [v] := fun {i v} hv => by
    have hi := (List.getElem?_eq_some_iff.mp hv).1
    refine ⟨fun hm => ?_, by rw [List.take_add_one, hv]; rfl⟩
    obtain ⟨j, hj, e⟩ := List.mem_iff_getElem.mp hm
    rw [List.length_take] at hj
    rw [List.getElem_take] at e
    have h2 := (List.getElem?_eq_some_iff.mp hv).2
    exact (List.pairwise_iff_getElem.mp hp0 j i (by omega) hi (by omega)) (by rw [e, h2])
  ((with_reducible refine gos_sA ?_); (with_reducible refine gos_asg ?_); (with_reducible refine go_dnewT ?_); walk_at "x7"; (with_reducible refine gos_sF ?_); (with_reducible refine gos_for ?_); (with_reducible refine goi_seq ?_); walk_at "x0"; walk_at "x2"; (focus skip); rotate_left)
  refine ⟨_, .seq rfl, fun i Γ' => ∃ a : Option O, Γ' = [some (O.d (.lst (ns.map nD))), some (O.d (.lst (ps.map pD))), some (.ot (mo (fun _ => O.ol ((([] : List Nd).map nD).map O.d)) (ns.take i))), a, none, none], ⟨none, rfl⟩, ?_, ?_⟩
  · rintro i d _ hd ⟨a, rfl⟩
    obtain ⟨v, hv, rfl⟩ := mapD_get hd
    obtain ⟨hnm, htk⟩ := hsnoc hv
    (walk_at "x7"; (with_reducible refine gos_asg ?_); (with_reducible refine go_lst ?_); (with_reducible refine goa_nil ?_); walk_at "x2"; walk_at "x6"; walk_at "x15"; walk_at "x0"; walk_at "x2"; walk_at "x16"; (focus skip); rotate_left)
    refine ⟨by rw [mo_len, List.length_take]; omega, some (O.d (nD v)), ?_⟩
    have e2 := mo_snoc (h := fun _ => O.ol ((([] : List Nd).map nD).map O.d)) hnm
    rw [htk, ← e2]
    rfl
  · rintro _ ⟨a, rfl⟩
    rw [List.length_map, List.take_length]
    ((with_reducible refine gos_sF ?_); (with_reducible refine gos_for ?_); (with_reducible refine goi_seq ?_); walk_at "x0"; walk_at "x2"; (focus skip); rotate_left)
    refine ⟨_, .seq rfl, fun i Γ' => ∃ b c : Option O, Γ' = [some (O.d (.lst (ns.map nD))), some (O.d (.lst (ps.map pD))), some (nlO (nxs (ps.take i)) ns), a, b, c], ⟨none, none, rfl⟩, ?_, ?_⟩
    · rintro i d _ hd ⟨b, c, rfl⟩
      obtain ⟨e, he, rfl⟩ := mapD_get hd
      obtain ⟨m1, m2⟩ := hp3 e (List.mem_of_getElem? he)
      have htk : ps.take (i + 1) = ps.take i ++ [e] := by rw [List.take_add_one, he]; rfl
      have hil := (List.getElem?_eq_some_iff.mp he).1
      have hxl := nxs_len (ps := ps.take i) (v := e.1)
      rw [List.length_take] at hxl
      have f0 : ∀ v, v ≠ e.1 → nxs (ps.take (i + 1)) v = nxs (ps.take i) v := fun v q => by rw [htk, nxs_ne (fun z => q z.symm)]
      have f1 : nxs (ps.take (i + 1)) e.1 = insN (nxs (ps.take i) e.1) e.2 := by rw [htk, nxs_snoc]
      ((with_reducible refine gog_tup ?_); walk_at "x3"; walk_at "x2"; walk_at "x6"; walk_at "x17"; walk_at "x17"; (with_reducible refine gogs_nil ?_); (with_reducible refine gos_if ?_); walk_at "x18"; (with_reducible refine got_test ?_); (with_reducible refine go_op ?_); walk_at "x0"; (with_reducible refine go_op ?_); walk_at "x0"; walk_at "x0"; walk_at "x2"; (focus skip); rotate_left)
      refine o2_ixT (mo_val m1) ?_
      (walk_at "x2"; (focus skip); rotate_left)
      refine o2_notInDat shp_nD1 (shp_nDL _) ?_
      rw [any_nD]
      by_cases hm : e.2 ∈ nxs (ps.take i) e.1
      · rw [decide_eq_true hm]
        (walk_at "x3"; walk_at "x4"; (with_reducible refine gos_next ?_); walk_at "x2"; (focus skip); rotate_left)
        refine ⟨some (O.d (nD e.1)), some (O.d (nD e.2)), ?_⟩
        have f2 : nlO (nxs (ps.take (i + 1))) ns = nlO (nxs (ps.take i)) ns := by
          show O.ot _ = O.ot _
          congr 1
          refine mo_congr fun v hv => ?_
          by_cases q : v = e.1
          · rw [q, f1]; unfold insN; rw [if_pos hm]
          · rw [f0 v q]
        rw [f2]
      · rw [decide_eq_false hm]
        (walk_at "x3"; walk_at "x4"; walk_at "x19"; walk_at "x0"; walk_at "x2"; (focus skip); rotate_left)
        refine ⟨nk e.1, mo (fun v => O.ol (((nxs (ps.take i) v).map nD).map O.d)) ns, _, rfl, rfl, mo_val m1, by rw [List.length_map, List.length_map]; omega, fun za => ?_⟩
        (walk_at "x0"; walk_at "x2"; walk_at "x6"; (focus skip); rotate_left)
        refine ⟨some (O.d (nD e.1)), some (O.d (nD e.2)), ?_⟩
        rw [mo_put m1]
        have f2 : mo (fun v => if v = e.1 then O.ol (((nxs (ps.take i) e.1).map nD).map O.d ++ [O.d (nD e.2)]) else O.ol (((nxs (ps.take i) v).map nD).map O.d)) ns = mo (fun v => O.ol (((nxs (ps.take (i + 1)) v).map nD).map O.d)) ns := mo_congr fun v hv => by
          by_cases q : v = e.1
          · rw [if_pos q, q, f1]; unfold insN; rw [if_neg hm]; simp only [List.map_append, List.map_cons, List.map_nil]
          · rw [if_neg q, f0 v q]
        rw [f2]
    · rintro _ ⟨b, c, rfl⟩
      rw [List.length_map, List.take_length]
      ((with_reducible refine gos_ret ?_); walk_at "x13")
theorem cal_nearest (D : Df K mg "nearest" s_nearest) : Cal P w K mg base "nearest" 1 ["nodes", "far"] (C_nearest mg) := by
  obtain ⟨f, fd, F, mf⟩ := D
  refine ⟨f, fd, ?_, mf, F.kp, F.binds (ps := ["nodes", "far"]) fun _ _ _ _ _ _ us hl => match us, hl with | [_, _], _ => rfl, Fun.lk F⟩
  refine F.ok sc_nearest (fun vs H Q E hS0 => spP_len (n := 2) (fun xs p q c0 => by unfold C_nearest at c0; obtain ⟨_, _, _, rfl, _⟩ := c0; rfl) hS0) (fun cdv A outer s H vs Q E hr hS0 => ?_)
  have hu := hu_of hr
  refine sp_body hS0 (fun B xs p q c0 hl0 wx => ?_)
  obtain ⟨xs, l, h, rfl, hp0, rfl, rfl⟩ := c0
  refine ⟨_, (pss_cons (ps_asg pe_non (pg_name (i := 2) sc_nearest.nd rfl (by first | exact Or.inl rfl | exact Or.inr rfl)))
      (pss_cons (ps_for PassesOwn.never rfl (k_seq (K := K) rfl (pv 0)) (pg_name (i := 3) sc_nearest.nd rfl (by first | exact Or.inl rfl | exact Or.inr rfl))
        (pss_cons (ps_if (pt_cmpR (k_notIn (K := K) rfl hu) (pv 3) (pv 1) (by rfl))
          (pss_one ps_continue)
          pss_nil)
        (pss_one (ps_if (PW.pt (pw_or (pt_cmpR op_isG (pv 2) pe_non (nomark _)) (pw_or1 (pt_cmpR (k_ltD (K := K) rfl hr.units) (pe_tup (pa_cons (pe_ix (k_ix (K := K) rfl hu) (pv 1) (pv 3) (fun _ _ => rfl)) (pa_cons (pv 3) pa_nil))) (pe_tup (pa_cons (pe_ix (k_ix (K := K) rfl hu) (pv 1) (pv 2) (fun _ _ => rfl)) (pa_cons (pv 2) pa_nil))) (nomark _)))))
          (pss_one (ps_asg (pv 3) (pg_name (i := 2) sc_nearest.nd rfl (by first | exact Or.inl rfl | exact Or.inr rfl))))
          pss_nil))))
      (pss_one (ps_ret (pv 2))))), ?_⟩
  clear hS0 hl0 hr hu wx
  simp only [List.map_cons, List.map_nil, List.length_cons, List.length_nil, List.cons_append, List.nil_append, Nat.reduceAdd, Nat.reduceSub, List.replicate_succ, List.replicate_zero, N_nearest]
  ((with_reducible refine gos_sA ?_); (with_reducible refine gos_asg ?_); (with_reducible refine go_non ?_); walk_at "x7"; (with_reducible refine gos_sF ?_); (with_reducible refine gos_for ?_); (with_reducible refine goi_seq ?_); walk_at "x0"; walk_at "x2"; (focus skip); rotate_left)
  refine ⟨_, .seq rfl, fun i Γ' => ∃ (a : Option O), Γ' = [some (O.d (.lst (xs.map nD))), some (O.d (farD h l)), some (O.d (onD (nearN (xs.take i) l h))), a], ⟨none, rfl⟩, ?_, ?_⟩
  · rintro i d _ hd ⟨a, rfl⟩
    obtain ⟨o, ho, rfl⟩ := mapD_get hd
    have htk : xs.take (i + 1) = xs.take i ++ [o] := by rw [List.take_add_one, ho]; rfl
    have hnx := nearN_snoc (xs := xs.take i) (l := l) (h := h) (o := o)
    rw [← htk] at hnx
    have hsp := nearN_spec (l := l) (h := h) (xs.take i)
    by_cases hol : o ∈ l
    · have hv := mo_val (h := fun v => D.int (h v)) hol
      have hvn : ¬ (dval (mo (fun v => D.int (h v)) l) (nk o)).isSome = false := by rw [hv]; simp
      rw [if_pos hol] at hnx
      generalize nearN (xs.take i) l h = f at hnx hsp
      cases f with
      | none =>
        dsimp only at hnx
        simp only [onD]
        (walk_at "x7"; (with_reducible refine gos_sIC ?_); (with_reducible refine gos_if ?_); (with_reducible refine got_test ?_); (with_reducible refine go_op ?_); walk_at "x0"; walk_at "x0"; walk_at "x2"; (with_reducible refine o2_notInT ?_); walk_at "x3"; walk_at "x4"; (with_reducible refine gos_next ?_); (with_reducible refine gos_if ?_); (with_reducible refine got_or ?_); (with_reducible refine got_test ?_); (with_reducible refine go_op ?_); walk_at "x0"; (with_reducible refine go_non ?_); walk_at "x2"; walk_at "x20"; walk_at "x3"; walk_at "x2"; walk_at "x4"; walk_at "x4"; (with_reducible refine gos_asg ?_); walk_at "x0"; walk_at "x7"; (focus skip); rotate_left)
        all_goals exact ⟨_, by rw [hnx]⟩
      | some z =>
        have hzl : z ∈ l := by
          rcases hsp with ⟨e, _⟩ | ⟨z', e, _, h2, _⟩
          · cases e
          · cases e; exact h2
        have hvz := mo_val (h := fun v => D.int (h v)) hzl
        dsimp only at hnx
        simp only [onD]
        (walk_at "x7"; (with_reducible refine gos_sIC ?_); (with_reducible refine gos_if ?_); (with_reducible refine got_test ?_); (with_reducible refine go_op ?_); walk_at "x0"; walk_at "x0"; walk_at "x2"; (with_reducible refine o2_notInT ?_); walk_at "x3"; walk_at "x4"; (with_reducible refine gos_next ?_); (with_reducible refine gos_if ?_); (with_reducible refine got_or ?_); (with_reducible refine got_test ?_); (with_reducible refine go_op ?_); walk_at "x0"; (with_reducible refine go_non ?_); walk_at "x2"; walk_at "x20"; walk_at "x3"; walk_at "x2"; walk_at "x4"; (with_reducible refine got_test ?_); (with_reducible refine go_op ?_); (with_reducible refine go_tup ?_); (with_reducible refine goa_cons ?_); (with_reducible refine go_op ?_); walk_at "x0"; walk_at "x0"; walk_at "x2"; walk_at "x21"; (with_reducible refine goa_cons ?_); walk_at "x0"; (with_reducible refine goa_nil ?_); walk_at "x2"; walk_at "x6"; (with_reducible refine go_tup ?_); (with_reducible refine goa_cons ?_); (with_reducible refine go_op ?_); walk_at "x0"; walk_at "x0"; walk_at "x2"; walk_at "x21"; (with_reducible refine goa_cons ?_); walk_at "x0"; (with_reducible refine goa_nil ?_); walk_at "x2"; walk_at "x6"; (focus skip); rotate_left)
        refine o2_ltD (b := true) rfl rfl rfl (fun e => by cases e) (by show PyData.depth (.tuple [.int _, .tuple [.int _, .int _]]) ≤ 60; simp [PyData.depth, PyData.depthAll]) ?_
        rw [lt_hn]
        (walk_at "x3"; walk_at "x4"; (with_reducible refine gos_asg ?_); walk_at "x0"; walk_at "x7"; (focus skip); rotate_left; (with_reducible refine gos_next ?_); walk_at "x2"; (focus skip); rotate_left)
        · rename_i hc
          exact ⟨_, by rw [hnx, if_pos hc]⟩
        · rename_i hc
          exact ⟨_, by rw [hnx, if_neg hc]⟩
    · have hv := mo_none (h := fun v => D.int (h v)) hol
      have hvn : ¬ (dval (mo (fun v => D.int (h v)) l) (nk o)).isSome = true := by rw [hv]; simp
      rw [if_neg hol] at hnx
      (walk_at "x7"; (with_reducible refine gos_sIC ?_); (with_reducible refine gos_if ?_); (with_reducible refine got_test ?_); (with_reducible refine go_op ?_); walk_at "x0"; walk_at "x0"; walk_at "x2"; (with_reducible refine o2_notInT ?_); walk_at "x3"; walk_at "x4"; (focus skip); rotate_left)
      refine gos_cont ?_
      exact ⟨_, by rw [hnx]⟩
  · rintro _ ⟨a, rfl⟩
    rw [List.length_map, List.take_length]
    ((with_reducible refine gos_ret ?_); walk_at "x0"; walk_at "x2")
theorem cal_ring_through (D : Df K mg "ring_through" s_ring_through) (c_nearest : Cal P w K mg base "nearest" 1 ["nodes", "far"] (C_nearest mg)) : Cal P w K mg base "ring_through" 2 ["start", "behind", "far"] (C_ring_through mg) := by
  obtain ⟨f, fd, F, mf⟩ := D
  obtain ⟨f_nearest, fd_nearest, G_nearest, g_nearest, k_nearest, bn_nearest, _⟩ := c_nearest
  refine ⟨f, fd, ?_, mf, F.kp, F.binds (ps := ["start", "behind", "far"]) fun _ _ _ _ _ _ us hl => match us, hl with | [_, _, _], _ => rfl, Fun.lk F⟩
  refine F.ok sc_ring_through (fun vs H Q E hS0 => spP_len (n := 3) (fun xs p q c0 => by unfold C_ring_through at c0; obtain ⟨_, _, _, _, _, rfl, _⟩ := c0; rfl) hS0) (fun cdv A outer s H vs Q E hr hS0 => ?_)
  have hu := hu_of hr
  refine sp_body hS0 (fun B xs p q c0 hl0 wx => ?_)
  obtain ⟨W, ns, l, h, s, rfl, hp0, hp1, hp2, hp3, hp4, rfl, rfl⟩ := c0
  refine ⟨_, (pss_cons (ps_asg (pe_call G_nearest hr rfl g_nearest k_nearest bn_nearest .nil pass0 (pa_cons (pe_ix (k_ix (K := K) rfl hu) (pv 1) (pv 0) (fun _ _ => rfl)) (pa_cons (pv 2) pa_nil))) (pg_name (i := 3) sc_ring_through.nd rfl (by first | exact Or.inl rfl | exact Or.inr rfl)))
      (pss_cons (ps_if (pt_cmpR op_isG (pv 3) pe_non (nomark _))
        (pss_one (ps_ret pe_non))
        pss_nil)
      (pss_cons (ps_asg (pe_lst (pa_cons (pv 0) pa_nil)) (pg_name (i := 4) sc_ring_through.nd rfl (by first | exact Or.inl rfl | exact Or.inr rfl)))
      (pss_cons (ps_while PassesOwn.never (pt_cmpR (k_ne (K := K) rfl hr.units) (pv 3) (pv 0) (nomark _))
        (pss_cons (ps_expr (k_bm (K := K) rfl (pe_bm PySem.F.plainAttrs_list PySem.F.slot_list_append PySem.F.type_list_append mt_append (pv 4) (pa_cons (pv 3) pa_nil))))
        (pss_one (ps_asg (pe_call G_nearest hr rfl g_nearest k_nearest bn_nearest .nil pass0 (pa_cons (pe_ix (k_ix (K := K) rfl hu) (pv 1) (pv 3) (fun _ _ => rfl)) (pa_cons (pv 2) pa_nil))) (pg_name (i := 3) sc_ring_through.nd rfl (by first | exact Or.inl rfl | exact Or.inr rfl))))))
      (pss_one (ps_ret (pe_mv (pv 4)))))))), ?_⟩
  clear hS0 hl0 hr hu wx G_nearest g_nearest k_nearest bn_nearest
  simp only [List.map_cons, List.map_nil, List.length_cons, List.length_nil, List.cons_append, List.nil_append, Nat.reduceAdd, Nat.reduceSub, List.replicate_succ, List.replicate_zero, N_ring_through]
  have hlen := nd_len hp2.nd hp3
  refine gos_seq ?_
  refine gos_mid (fun Γ' => Γ' = [some (O.d (nD s)), some (O.d (nlD W ns)), some (O.d (farD h l)), some (O.d (onD (nearN (W s) l h))), none]) ?_ ?_
  · ((with_reducible refine gos_asg ?_); walk_at "x2"; (with_reducible refine call_nearest ?_); (with_reducible refine goa_cons ?_); (with_reducible refine go_op ?_); walk_at "x0"; walk_at "x0"; walk_at "x2"; (focus skip); rotate_left)
    refine o2_ixT (mo_val hp0) ?_
    ((with_reducible refine goa_cons ?_); walk_at "x0"; (with_reducible refine goa_nil ?_); walk_at "x2"; walk_at "x22"; walk_at "x6"; walk_at "x7")
  rintro _ rfl
  rcases nearN_spec (l := l) (h := h) (W s) with ⟨n1, n2⟩ | ⟨z, n1, n2, n3, n4⟩
  · unfold ringN
    rw [n1]
    simp only [onD, Option.map_none, orD]
    ((with_reducible refine gos_sIR ?_); (with_reducible refine gos_if ?_); (with_reducible refine got_test ?_); (with_reducible refine go_op ?_); walk_at "x0"; (with_reducible refine go_non ?_); walk_at "x2"; walk_at "x20"; walk_at "x3"; walk_at "x2"; walk_at "x4"; (with_reducible refine gos_ret ?_); (with_reducible refine go_non ?_); walk_at "x2")
  · unfold ringN
    rw [n1]
    simp only [onD, Option.map_some, orD]
    ((with_reducible refine gos_sIR ?_); (with_reducible refine gos_if ?_); (with_reducible refine got_test ?_); (with_reducible refine go_op ?_); walk_at "x0"; (with_reducible refine go_non ?_); walk_at "x2"; walk_at "x20"; walk_at "x3"; walk_at "x2"; walk_at "x4"; (with_reducible refine gos_next ?_); (with_reducible refine gos_sA ?_); (with_reducible refine gos_asg ?_); (with_reducible refine go_lst ?_); (with_reducible refine goa_cons ?_); walk_at "x0"; (with_reducible refine goa_nil ?_); walk_at "x2"; walk_at "x6"; walk_at "x7"; (with_reducible refine gos_sW ?_); walk_at "x2"; (focus skip); rotate_left)
    refine gos_while (fun m Γ' => ∃ (pre : List Nd) (y : Nd), y ∈ l ∧ m = (h y).toNat ∧ pre ++ lpN W l h (h y).toNat y = lpN W l h (h z).toNat z ∧ pre.length ≤ (h z).toNat ∧ Γ' = [some (O.d (nD s)), some (O.d (nlD W ns)), some (O.d (farD h l)), some (O.d (nD y)), some (.ol (((s :: pre).map nD).map O.d))]) ?_ ?_
    · exact ⟨_, [], z, n3, rfl, rfl, Nat.zero_le _, rfl⟩
    rintro m _ ⟨pre, y, hy, rfl, hpre, hpl, rfl⟩
    have hyn := hp3 y hy
    have hbd := hp2.bd z n3
    ((with_reducible refine got_test ?_); (with_reducible refine go_op ?_); walk_at "x0"; walk_at "x0"; walk_at "x2"; (focus skip); rotate_left)
    refine o2_neP 1 nD_shp nD_shp (by decide) rfl (decide (y = s)) ?_ ?_
    · rw [decide_eq_true_eq]
      exact ⟨fun e => by rw [e], fun e => nk_inj (by
        have := congrArg D.py e
        rw [nD_py, nD_py] at this
        simp only [PyData.tuple.injEq, List.cons.injEq, PyData.int.injEq, and_true] at this
        rw [show y = s from Prod.ext this.1 this.2])⟩
    by_cases hys : y = s
    · subst hys
      rw [hp2.g0] at hpre
      rw [decide_eq_true rfl]
      (walk_at "x3"; walk_at "x4"; (with_reducible refine gos_ret ?_); walk_at "x13"; (focus skip); rotate_left)
      rw [← hpre]
      simp [lpN]
    · rw [decide_eq_false hys]
      have h1 := (hp2.st y hy hys).1
      obtain ⟨k, hk⟩ : ∃ k : Nat, h y = (k : Int) + 1 := ⟨(h y - 1).toNat, by omega⟩
      obtain ⟨x, x1, x2, x3, x4, _⟩ := nearN_step hp2 hy hk
      have hk2 : (h y).toNat = k + 1 := by omega
      have hlp : lpN W l h (k + 1) y = y :: lpN W l h k x := by show y :: lpN W l h k ((nearN (W y) l h).getD (0, 0)) = _; rw [x1]; rfl
      rw [hk2, hlp] at hpre
      (walk_at "x3"; walk_at "x4"; (with_reducible refine gos_sD ?_); walk_at "x12"; walk_at "x0"; walk_at "x3"; walk_at "x2"; (focus skip); rotate_left)
      refine ⟨by rw [List.length_map, List.length_map, List.length_cons]; omega, ?_⟩
      ((with_reducible refine gos_asg ?_); walk_at "x2"; (with_reducible refine call_nearest ?_); (with_reducible refine goa_cons ?_); (with_reducible refine go_op ?_); walk_at "x0"; walk_at "x0"; walk_at "x2"; (focus skip); rotate_left)
      refine o2_ixT (mo_val hyn) ?_
      ((with_reducible refine goa_cons ?_); walk_at "x0"; (with_reducible refine goa_nil ?_); walk_at "x2"; walk_at "x22"; walk_at "x6"; walk_at "x7"; (focus skip); rotate_left)
      rw [x1]
      have hk3 : (h x).toNat = k := by omega
      have hle := congrArg List.length hpre
      rw [List.length_append, List.length_cons, lpN_len, lpN_len] at hle
      refine ⟨k, by omega, pre ++ [y], x, x3, by omega, by rw [hk3, List.append_assoc]; exact hpre, by rw [List.length_append, List.length_singleton]; omega, ?_⟩
      simp only [onD, List.map_append, List.map_cons, List.map_nil, List.cons_append]
theorem cal_steps_to (D : Df K mg "steps_to" s_steps_to) (b_len : mg "len" = none) : Cal P w K mg base "steps_to" 1 ["goal", "ahead"] (C_steps_to mg) := by
  obtain ⟨f, fd, F, mf⟩ := D
  refine ⟨f, fd, ?_, mf, F.kp, F.binds (ps := ["goal", "ahead"]) fun _ _ _ _ _ _ us hl => match us, hl with | [_, _], _ => rfl, Fun.lk F⟩
  refine F.ok sc_steps_to (fun vs H Q E hS0 => spP_len (n := 2) (fun xs p q c0 => by unfold C_steps_to at c0; obtain ⟨_, _, _, _, rfl, _⟩ := c0; rfl) hS0) (fun cdv A outer s H vs Q E hr hS0 => ?_)
  have hu := hu_of hr
  refine sp_body hS0 (fun B xs p q c0 hl0 wx => ?_)
  obtain ⟨W, A, ns, g, rfl, hp0, hp1, hp2, hp3, hp4, rfl, rfl⟩ := c0
  refine ⟨_, (pss_cons (ps_asg (pe_dispT hu (pv 0) pe_int) (pg_name (i := 2) sc_steps_to.nd rfl (by first | exact Or.inl rfl | exact Or.inr rfl)))
      (pss_cons (ps_asg (pe_lst (pa_cons (pv 0) pa_nil)) (pg_name (i := 3) sc_steps_to.nd rfl (by first | exact Or.inl rfl | exact Or.inr rfl)))
      (pss_cons (ps_asg pe_int (pg_name (i := 4) sc_steps_to.nd rfl (by first | exact Or.inl rfl | exact Or.inr rfl)))
      (pss_cons (ps_while PassesOwn.never (pt_lend (pt_cmpR (k_lt (K := K) rfl hr.units0) (pv 4) (pe_lend (pe_callB (k_len (K := K) rfl) (by rfl) b_len (by decide +kernel) (pa_cons (pv 3) pa_nil))) (nomark _)))
        (pss_cons (ps_asg (pe_lend (pe_ix (k_ix (K := K) rfl hu) (pv 3) (pv 4) (fun _ _ => rfl))) (pg_name (i := 5) sc_steps_to.nd rfl (by first | exact Or.inl rfl | exact Or.inr rfl)))
        (pss_cons (ps_aug (i := 4) sc_steps_to.nd rfl (.inl rfl) pe_int iop_addG)
        (pss_one (ps_for PassesOwn.never rfl (k_seq (K := K) rfl (pe_ix (k_ix (K := K) rfl hu) (pv 1) (pv 5) (fun _ _ => rfl))) (pg_name (i := 6) sc_steps_to.nd rfl (by first | exact Or.inl rfl | exact Or.inr rfl))
          (pss_one (ps_if (pt_lend (pt_cmpR (k_notIn (K := K) rfl hu) (pv 6) (pv 2) (by rfl)))
            (pss_cons (ps_asg (pe_lend (pe_op (k_add (K := K) rfl) (pe_ix (k_ix (K := K) rfl hu) (pv 2) (pv 5) (fun _ _ => rfl)) pe_int)) (pg_sub (pv 2) (pv 6) (set_G hu)))
            (pss_one (ps_expr (k_bm (K := K) rfl (pe_bm PySem.F.plainAttrs_list PySem.F.slot_list_append PySem.F.type_list_append mt_append (pv 3) (pa_cons (pv 6) pa_nil))))))
            pss_nil)))))))
      (pss_one (ps_ret (pe_mv (pv 2)))))))), ?_⟩
  clear hS0 hl0 hr hu wx b_len
  simp only [List.map_cons, List.map_nil, List.length_cons, List.length_nil, List.cons_append, List.nil_append, Nat.reduceAdd, Nat.reduceSub, List.replicate_succ, List.replicate_zero, N_steps_to]
  ((with_reducible refine gos_sA ?_); (with_reducible refine gos_asg ?_); (with_reducible refine go_dispT ?_); walk_at "x0"; walk_at "x3"; (with_reducible refine go_int ?_); walk_at "x7"; (with_reducible refine gos_sA ?_); (with_reducible refine gos_asg ?_); (with_reducible refine go_lst ?_); (with_reducible refine goa_cons ?_); walk_at "x0"; (with_reducible refine goa_nil ?_); walk_at "x2"; walk_at "x6"; walk_at "x7"; (with_reducible refine gos_sA ?_); (with_reducible refine gos_asg ?_); (with_reducible refine go_int ?_); walk_at "x7"; (with_reducible refine gos_sW ?_); walk_at "x2"; (focus skip); rotate_left)
  refine gos_while (fun m Γ' => ∃ (l : List Nd) (h : Nd → Int) (i : Nat) (a b : Option O), FarI W g l h i ∧ (∀ x ∈ l, x ∈ ns) ∧ i ≤ l.length ∧ m = ns.length - i ∧ Γ' = [some (O.d (nD g)), some (O.d (nlD A ns)), some (farO h l), some (.ol ((l.map nD).map O.d)), some (O.d (.int (i : Int))), a, b]) ?_ ?_
  · exact ⟨_, [g], fun _ => 0, 0, none, none, FarI.start rfl, fun x hx => by rw [List.mem_singleton.mp hx]; exact hp2, Nat.zero_le _, rfl, rfl⟩
  rintro m _ ⟨l, h, i, a, b, fi, hsub, hil, rfl, rfl⟩
  have hll := nd_len fi.nd hsub
  have hlm : (l.map nD).length = l.length := List.length_map _
  (walk_at "x18"; (with_reducible refine got_test ?_); (with_reducible refine go_op ?_); walk_at "x0"; walk_at "x23"; (with_reducible refine go_cb ?_); (with_reducible refine goa_cons ?_); walk_at "x0"; (with_reducible refine goa_nil ?_); walk_at "x1"; walk_at "x2"; walk_at "x6"; (with_reducible refine o2_lt ?_); walk_at "x3"; walk_at "x4"; (with_reducible refine gos_sA ?_); (with_reducible refine gos_asg ?_); walk_at "x23"; (with_reducible refine go_op ?_); walk_at "x0"; walk_at "x0"; walk_at "x2"; (focus skip); rotate_left; (with_reducible refine gos_ret ?_); walk_at "x13"; (focus skip); rotate_left)
  · have hi : i < l.length := by omega
    have hy : l[i]? = some l[i] := List.getElem?_eq_getElem hi
    generalize l[i] = y at hy
    have hyl := List.mem_of_getElem? hy
    have hyn := hsub y hyl
    refine o2_ix rfl (atI_ofN.trans (by rw [List.getElem?_map, hy]; rfl)) ?_
    (walk_at "x6"; walk_at "x7"; (with_reducible refine gos_sU ?_); walk_at "x24"; (with_reducible refine go_int ?_); walk_at "x2"; (with_reducible refine oi_add ?_); walk_at "x2"; walk_at "x6"; (with_reducible refine gos_for ?_); (with_reducible refine goi_seq ?_); (with_reducible refine go_op ?_); walk_at "x0"; walk_at "x0"; walk_at "x2"; (focus skip); rotate_left)
    refine o2_ixT (mo_val hyn) ?_
    (walk_at "x2"; (focus skip); rotate_left)
    refine ⟨_, .seq rfl, fun j Γ' => ∃ (l : List Nd) (h : Nd → Int) (b : Option O), FarJ W A g y l h i j ∧ (∀ x ∈ l, x ∈ ns) ∧ i < l.length ∧ Γ' = [some (O.d (nD g)), some (O.d (nlD A ns)), some (farO h l), some (.ol ((l.map nD).map O.d)), some (O.d (.int ((i : Int) + 1))), some (O.d (nD y)), b], ⟨l, h, b, ⟨fi, hy, fun x hx => by simp at hx⟩, hsub, hi, rfl⟩, ?_, ?_⟩
    · rintro j d _ hd ⟨l, h, b, fj, hsub, hi, rfl⟩
      obtain ⟨o, ho, rfl⟩ := mapD_get hd
      have hon := hp3 y hyn o (List.mem_of_getElem? ho)
      have fk := fj.next ho hon.2
      have hll := nd_len fj.fi.nd hsub
      have hyl := List.mem_of_getElem? fj.at_
      have hvy := mo_val (h := fun v => D.int (h v)) hyl
      by_cases hol : o ∈ l
      · have hv := mo_val (h := fun v => D.int (h v)) hol
        have hvn : ¬ (dval (mo (fun v => D.int (h v)) l) (nk o)).isSome = false := by rw [hv]; simp
        simp only [if_pos hol] at fk
        (walk_at "x7"; (with_reducible refine gos_if ?_); walk_at "x18"; (with_reducible refine got_test ?_); (with_reducible refine go_op ?_); walk_at "x0"; walk_at "x0"; walk_at "x2"; (with_reducible refine o2_notInT ?_); walk_at "x3"; walk_at "x4"; (with_reducible refine gos_next ?_); walk_at "x2"; (focus skip); rotate_left)
        exact ⟨l, h, _, fk, hsub, hi, rfl⟩
      · have hv := mo_none (h := fun v => D.int (h v)) hol
        have hvn : ¬ (dval (mo (fun v => D.int (h v)) l) (nk o)).isSome = true := by rw [hv]; simp
        simp only [if_neg hol] at fk
        (walk_at "x7"; (with_reducible refine gos_if ?_); walk_at "x18"; (with_reducible refine got_test ?_); (with_reducible refine go_op ?_); walk_at "x0"; walk_at "x0"; walk_at "x2"; (with_reducible refine o2_notInT ?_); walk_at "x3"; walk_at "x4"; (with_reducible refine gos_sA ?_); (with_reducible refine gos_asg ?_); walk_at "x23"; (with_reducible refine go_op ?_); (with_reducible refine go_op ?_); walk_at "x0"; walk_at "x0"; walk_at "x2"; walk_at "x21"; (with_reducible refine go_int ?_); walk_at "x2"; (with_reducible refine o2_add ?_); walk_at "x6"; walk_at "x15"; walk_at "x0"; walk_at "x2"; walk_at "x16"; (focus skip); rotate_left)
        have e1 : SK.dput (mo (fun v => O.d (D.int (h v))) l) (nk o) (O.d (D.int (h y + 1))) = mo (fun v => O.d (D.int (if v = o then h y + 1 else h v))) (l ++ [o]) := by
          rw [← mo_snoc (h := fun v => O.d (D.int (if v = o then h y + 1 else h v))) hol, if_pos rfl]
          congr 1
          exact mo_congr fun v hv => by rw [if_neg (show ¬ v = o from fun e => hol (e ▸ hv))]
        rw [e1]
        refine ⟨by rw [mo_len]; omega, ?_⟩
        (walk_at "x12"; walk_at "x0"; walk_at "x3"; walk_at "x2"; (focus skip); rotate_left)
        refine ⟨by rw [List.length_map, List.length_map]; omega, l ++ [o], _, some (O.d (nD o)), fk, fun x hx => ?_, by rw [List.length_append]; omega, ?_⟩
        · rcases List.mem_append.mp hx with hx | hx
          · exact hsub x hx
          · rw [List.mem_singleton.mp hx]; exact hon.1
        · simp only [List.map_append, List.map_cons, List.map_nil, List.set]
    · rintro _ ⟨l, h, b, fj, hsub, hi, rfl⟩
      rw [List.length_map] at fj
      have hll := nd_len fj.fi.nd hsub
      exact ⟨ns.length - (i + 1), by omega, l, h, i + 1, _, b, fj.done fun x hx => hp4 x y hx, hsub, hi, rfl, rfl⟩
  all_goals
    exact ⟨l, h, fi.end (by omega), hsub, rfl⟩
theorem cal_least_ring (D : Df K mg "least_ring" s_least_ring) (c_ring_through : Cal P w K mg base "ring_through" 2 ["start", "behind", "far"] (C_ring_through mg)) (c_steps_to : Cal P w K mg base "steps_to" 1 ["goal", "ahead"] (C_steps_to mg)) (b_len : mg "len" = none) (b_sorted : mg "sorted" = none) : Cal P w K mg base "least_ring" 3 ["nodes", "pairs"] (C_least_ring mg) := by
  obtain ⟨f, fd, F, mf⟩ := D
  obtain ⟨f_ring_through, fd_ring_through, G_ring_through, g_ring_through, k_ring_through, bn_ring_through, _⟩ := c_ring_through
  obtain ⟨f_steps_to, fd_steps_to, G_steps_to, g_steps_to, k_steps_to, bn_steps_to, _⟩ := c_steps_to
  refine ⟨f, fd, ?_, mf, F.kp, F.binds (ps := ["nodes", "pairs"]) fun _ _ _ _ _ _ us hl => match us, hl with | [_, _], _ => rfl, Fun.lk F⟩
  refine F.ok sc_least_ring (fun vs H Q E hS0 => spP_len (n := 2) (fun xs p q c0 => by unfold C_least_ring at c0; obtain ⟨_, _, rfl, _⟩ := c0; rfl) hS0) (fun cdv A outer s H vs Q E hr hS0 => ?_)
  have hu := hu_of hr
  refine sp_body hS0 (fun B xs p q c0 hl0 wx => ?_)
  obtain ⟨ns, ps, rfl, hp0, hp1, hp2, hp3, hp4, rfl, rfl⟩ := c0
  refine ⟨_, (pss_cons (ps_asg pe_dnewT (pg_name (i := 2) sc_least_ring.nd rfl (by first | exact Or.inl rfl | exact Or.inr rfl)))
      (pss_cons (ps_asg pe_dnewT (pg_name (i := 3) sc_least_ring.nd rfl (by first | exact Or.inl rfl | exact Or.inr rfl)))
      (pss_cons (ps_for PassesOwn.never rfl (k_seq (K := K) rfl (pv 0)) (pg_name (i := 4) sc_least_ring.nd rfl (by first | exact Or.inl rfl | exact Or.inr rfl))
        (pss_cons (ps_asg (pe_lst pa_nil) (pg_sub (pv 2) (pv 4) (set_G hu)))
        (pss_one (ps_asg (pe_lst pa_nil) (pg_sub (pv 3) (pv 4) (set_G hu))))))
      (pss_cons (ps_for PassesOwn.never rfl (k_seq (K := K) rfl (pv 1)) (k_tup (K := K) (n := 2) rfl (by rfl) (pgs_cons (pg_name (i := 7) sc_least_ring.nd rfl (by first | exact Or.inl rfl | exact Or.inr rfl)) (pgs_cons (pg_name (i := 8) sc_least_ring.nd rfl (by first | exact Or.inl rfl | exact Or.inr rfl)) pgs_nil)))
        (pss_cons (ps_expr (k_bm (K := K) rfl (pe_bm PySem.F.plainAttrs_list PySem.F.slot_list_append PySem.F.type_list_append mt_append (pe_ix (k_ix (K := K) rfl hu) (pv 3) (pv 7) (fun _ _ => rfl)) (pa_cons (pv 8) pa_nil))))
        (pss_one (ps_expr (k_bm (K := K) rfl (pe_bm PySem.F.plainAttrs_list PySem.F.slot_list_append PySem.F.type_list_append mt_append (pe_ix (k_ix (K := K) rfl hu) (pv 2) (pv 8) (fun _ _ => rfl)) (pa_cons (pv 7) pa_nil)))))))
      (pss_cons (ps_asg pe_non (pg_name (i := 5) sc_least_ring.nd rfl (by first | exact Or.inl rfl | exact Or.inr rfl)))
      (pss_cons (ps_for PassesOwn.never rfl (k_seq (K := K) rfl (pe_callB (k_sortDat (K := K) rfl hr.units) (by rfl) b_sorted (by decide +kernel) (pa_cons (pv 0) pa_nil))) (pg_name (i := 6) sc_least_ring.nd rfl (by first | exact Or.inl rfl | exact Or.inr rfl))
        (pss_cons (ps_asg (pe_lend (pe_call G_ring_through hr rfl g_ring_through k_ring_through bn_ring_through .nil pass0 (pa_cons (pv 6) (pa_cons (pv 3) (pa_cons (pe_call G_steps_to (hr.mono (by decide)) rfl g_steps_to k_steps_to bn_steps_to .nil pass0 (pa_cons (pv 6) (pa_cons (pv 2) pa_nil))) pa_nil))))) (pg_name (i := 9) sc_least_ring.nd rfl (by first | exact Or.inl rfl | exact Or.inr rfl)))
        (pss_one (ps_if (pt_lend (PW.pt (pw_and (pt_cmpR op_notG (pv 9) pe_non (nomark _)) (pw_and1 (PW.pt (pw_or (pt_cmpR op_isG (pv 5) pe_non (nomark _)) (pw_or1 (pt_cmpR (k_lt (K := K) rfl hr.units0) (pe_lend (pe_callB (k_len (K := K) rfl) (by rfl) b_len (by decide +kernel) (pa_cons (pv 9) pa_nil))) (pe_lend (pe_callB (k_len (K := K) rfl) (by rfl) b_len (by decide +kernel) (pa_cons (pv 5) pa_nil))) (nomark _)))))))))
          (pss_one (ps_asg (pe_mv (pv 9)) (pg_name (i := 5) sc_least_ring.nd rfl (by first | exact Or.inl rfl | exact Or.inr rfl))))
          pss_nil))))
      (pss_one (ps_ret (pe_mv (pv 5)))))))))), ?_⟩
  clear hS0 hl0 hr hu wx G_ring_through g_ring_through k_ring_through bn_ring_through G_steps_to g_steps_to k_steps_to bn_steps_to b_len b_sorted
  simp only [List.map_cons, List.map_nil, List.length_cons, List.length_nil, List.cons_append, List.nil_append, Nat.reduceAdd, Nat.reduceSub, List.replicate_succ, List.replicate_zero, N_least_ring]
  have hsnoc : ∀ {i : Nat} {v : Nd}, ns[i]? = some v → v ∉ ns.take i ∧ ns.take (i + 1) = ns.take i ++ [v] := fun {i v} hv => by
    have hi := (List.getElem?_eq_some_iff.mp hv).1
    refine ⟨fun hm => ?_, by rw [List.take_add_one, hv]; rfl⟩
    obtain ⟨j, hj, e⟩ := List.mem_iff_getElem.mp hm
    rw [List.length_take] at hj
    rw [List.getElem_take] at e
    have h2 := (List.getElem?_eq_some_iff.mp hv).2
    exact (List.pairwise_iff_getElem.mp hp0 j i (by omega) hi (by omega)) (by rw [e, h2])
  ((with_reducible refine gos_sA ?_); (with_reducible refine gos_asg ?_); (with_reducible refine go_dnewT ?_); walk_at "x7"; (with_reducible refine gos_sA ?_); (with_reducible refine gos_asg ?_); (with_reducible refine go_dnewT ?_); walk_at "x7"; (with_reducible refine gos_sF ?_); (with_reducible refine gos_for ?_); (with_reducible refine goi_seq ?_); walk_at "x0"; walk_at "x2"; (focus skip); rotate_left)
  refine ⟨_, .seq rfl, fun i Γ' => ∃ a : Option O, Γ' = [some (O.d (.lst (ns.map nD))), some (O.d (.lst (ps.map pD))), some (.ot (mo (fun _ => O.ol ((([] : List Nd).map nD).map O.d)) (ns.take i))), some (.ot (mo (fun _ => O.ol ((([] : List Nd).map nD).map O.d)) (ns.take i))), a, none, none, none, none, none], ⟨none, rfl⟩, ?_, ?_⟩
  · rintro i d _ hd ⟨a, rfl⟩
    obtain ⟨v, hv, rfl⟩ := mapD_get hd
    obtain ⟨hnm, htk⟩ := hsnoc hv
    (walk_at "x7"; (with_reducible refine gos_sA ?_); (with_reducible refine gos_asg ?_); (with_reducible refine go_lst ?_); (with_reducible refine goa_nil ?_); walk_at "x2"; walk_at "x6"; walk_at "x15"; walk_at "x0"; walk_at "x2"; walk_at "x16"; (focus skip); rotate_left)
    refine ⟨by rw [mo_len, List.length_take]; omega, ?_⟩
    ((with_reducible refine gos_asg ?_); (with_reducible refine go_lst ?_); (with_reducible refine goa_nil ?_); walk_at "x2"; walk_at "x6"; walk_at "x15"; walk_at "x0"; walk_at "x2"; walk_at "x16"; (focus skip); rotate_left)
    refine ⟨by rw [mo_len, List.length_take]; omega, some (O.d (nD v)), ?_⟩
    have e2 := mo_snoc (h := fun _ => O.ol ((([] : List Nd).map nD).map O.d)) hnm
    rw [htk, ← e2]
    rfl
  · rintro _ ⟨a, rfl⟩
    rw [List.length_map, List.take_length]
    ((with_reducible refine gos_sF ?_); (with_reducible refine gos_for ?_); (with_reducible refine goi_seq ?_); walk_at "x0"; walk_at "x2"; (focus skip); rotate_left)
    refine ⟨_, .seq rfl, fun i Γ' => ∃ a b c : Option O, Γ' = [some (O.d (.lst (ns.map nD))), some (O.d (.lst (ps.map pD))), some (.ot (mo (fun v => O.ol (((preds (ps.take i) v).map nD).map O.d)) ns)), some (.ot (mo (fun v => O.ol (((outs (ps.take i) v).map nD).map O.d)) ns)), a, none, none, b, c, none], ⟨_, _, _, rfl⟩, ?_, ?_⟩
    · rintro i d _ hd ⟨a, b, c, rfl⟩
      obtain ⟨e, he, rfl⟩ := mapD_get hd
      obtain ⟨m1, m2⟩ := hp3 e (List.mem_of_getElem? he)
      have htk : ps.take (i + 1) = ps.take i ++ [e] := by rw [List.take_add_one, he]; rfl
      have hil := (List.getElem?_eq_some_iff.mp he).1
      have f1 : (fun v => if v = e.2 then O.ol (((preds (ps.take i) e.2).map nD).map O.d ++ [O.d (nD e.1)]) else O.ol (((preds (ps.take i) v).map nD).map O.d)) = fun v => O.ol (((preds (ps.take (i + 1)) v).map nD).map O.d) := by
        funext v
        rw [htk]
        by_cases q : v = e.2
        · subst q; rw [if_pos rfl, preds_snoc, List.map_append, List.map_append]; rfl
        · rw [if_neg q, preds_ne (fun z => q z.symm)]
      have f2 : (fun v => if v = e.1 then O.ol (((outs (ps.take i) e.1).map nD).map O.d ++ [O.d (nD e.2)]) else O.ol (((outs (ps.take i) v).map nD).map O.d)) = fun v => O.ol (((outs (ps.take (i + 1)) v).map nD).map O.d) := by
        funext v
        rw [htk]
        by_cases q : v = e.1
        · subst q; rw [if_pos rfl, outs_snoc, List.map_append, List.map_append]; rfl
        · rw [if_neg q, outs_cons_ne (fun z => q z.symm)]
      have hol : (outs (ps.take i) e.1).length ≤ 90000 := by
        unfold outs
        rw [List.length_map]
        refine Nat.le_trans (List.length_filter_le _ _) ?_
        rw [List.length_take]; omega
      have hol2 : (preds (ps.take i) e.2).length ≤ 90000 := by
        unfold preds
        rw [List.length_map]
        refine Nat.le_trans (List.length_filter_le _ _) ?_
        rw [List.length_take]; omega
      ((with_reducible refine gog_tup ?_); walk_at "x3"; walk_at "x2"; walk_at "x6"; walk_at "x17"; walk_at "x17"; (with_reducible refine gogs_nil ?_); (with_reducible refine gos_sD ?_); walk_at "x19"; walk_at "x0"; walk_at "x2"; (focus skip); rotate_left)
      refine ⟨nk e.1, mo (fun v => O.ol (((outs (ps.take i) v).map nD).map O.d)) ns, _, rfl, rfl, mo_val m1, by rw [List.length_map, List.length_map]; omega, fun za => ?_⟩
      (walk_at "x0"; walk_at "x2"; (focus skip); rotate_left)
      refine ⟨trivial, ?_⟩
      rw [mo_put m1, f2]
      (walk_at "x19"; walk_at "x0"; walk_at "x2"; (focus skip); rotate_left)
      refine ⟨nk e.2, mo (fun v => O.ol (((preds (ps.take i) v).map nD).map O.d)) ns, _, rfl, rfl, mo_val m2, by rw [List.length_map, List.length_map]; omega, fun za => ?_⟩
      (walk_at "x0"; walk_at "x2"; (focus skip); rotate_left)
      refine ⟨trivial, a, some (O.d (nD e.1)), some (O.d (nD e.2)), ?_⟩
      rw [mo_put m2, f1]
    · rintro _ ⟨a, b, c, rfl⟩
      rw [List.length_map, List.take_length]
      refine gos_frz 2 rfl ?_
      rw [bh_fz]
      dsimp only [List.set]
      refine gos_frz 3 rfl ?_
      rw [bh_fz]
      dsimp only [List.set]
      ((with_reducible refine gos_sA ?_); (with_reducible refine gos_asg ?_); (with_reducible refine go_non ?_); walk_at "x7"; (with_reducible refine gos_sF ?_); (with_reducible refine gos_for ?_); (with_reducible refine goi_seq ?_); (with_reducible refine go_cb ?_); (with_reducible refine goa_cons ?_); walk_at "x0"; (with_reducible refine goa_nil ?_); walk_at "x2"; (focus skip); rotate_left)
      refine oa_sortDat (e := nD) rfl (fun _ _ => nD_pl) (all_nD ns) (sortable_nD ns) (by omega) (fun _ _ => dep_nD) ?_
      rw [srt_nD]
      have hpm := srtN_perm ns
      have hsu := srtN_up ns
      have hsl := hpm.length_eq
      have hsm : ∀ v ∈ srtN ns, v ∈ ns := fun v hv => hpm.mem_iff.mp hv
      generalize srtN ns = ss at hpm hsu hsl hsm
      refine ⟨_, .seq (congrArg D.seq? fz_fl), fun i Γ' => ∃ (r : Option (List Nd)) (d e : Option O), LrOk (outs ps) (ss.take i) r ∧ Γ' = [some (O.d (.lst (ns.map nD))), some (O.d (.lst (ps.map pD))), some (O.d (nlD (preds ps) ns)), some (O.d (nlD (outs ps) ns)), a, some (orD r), d, b, c, e], ⟨none, none, none, LrOk.zero, rfl⟩, ?_, ?_⟩
      · rintro i d _ hd ⟨r, d1, e1, hr, rfl⟩
        obtain ⟨s, hs, rfl⟩ := mapD_get hd
        have hsn := hsm s (List.mem_of_getElem? hs)
        have hss : s ∉ outs ps s := fun h => hp4 _ (outs_mem h) rfl
        have htk : ss.take (i + 1) = ss.take i ++ [s] := by rw [List.take_add_one, hs]; rfl
        have hup : ∀ x ∈ ss.take i, ¬ nlt s x := fun x hx => by
          obtain ⟨j, hj, e⟩ := List.mem_take_iff_getElem.mp hx
          have hi2 := (List.getElem?_eq_some_iff.mp hs).1
          have h2 := List.pairwise_iff_getElem.mp hsu j i (by omega) hi2 (by omega)
          rw [(List.getElem?_eq_some_iff.mp hs).2, e] at h2
          exact h2
        have hA : ∀ v ∈ ns, ∀ x ∈ preds ps v, x ∈ ns ∧ v ∈ outs ps x := fun v hv x hx => ⟨(hp3 _ (preds_mem.mp hx)).1, outs_iff.mpr (preds_mem.mp hx)⟩
        have hB : ∀ x v, v ∈ outs ps x → x ∈ preds ps v := fun x v hv => preds_mem.mpr (outs_iff.mp hv)
        have hadd := fun r' => hr.add (r := r') hup
        rw [← htk] at hadd
        walk_at "sk1"
        refine gos_seq ?_
        refine gos_mid (fun Γ' => ∃ r', RgNk (outs ps) s r' ∧ Γ' = [some (O.d (.lst (ns.map nD))), some (O.d (.lst (ps.map pD))), some (O.d (nlD (preds ps) ns)), some (O.d (nlD (outs ps) ns)), a, some (orD r), some (O.d (nD s)), b, c, some (orD r')]) ?_ ?_
        · ((with_reducible refine gos_asg ?_); walk_at "x23"; (with_reducible refine call_ring_through ?_); (with_reducible refine goa_cons ?_); walk_at "x0"; (with_reducible refine goa_cons ?_); walk_at "x0"; (with_reducible refine goa_cons ?_); walk_at "x2"; (with_reducible refine call_steps_to ?_); (with_reducible refine goa_cons ?_); walk_at "x0"; (with_reducible refine goa_cons ?_); walk_at "x0"; (with_reducible refine goa_nil ?_); walk_at "x2"; (focus skip); rotate_left)
          refine ⟨outs ps, preds ps, ns, s, rfl, hp0, hp1, hsn, hA, hB, ?_⟩
          rintro _ ⟨l, h, hf, hln, rfl⟩
          rw [wt_fz]
          ((with_reducible refine goa_nil ?_); walk_at "x25"; walk_at "x6"; walk_at "x6"; walk_at "x6"; walk_at "x6"; walk_at "x6"; (focus skip); rotate_left)
          refine ⟨orD_lf, ?_⟩
          (walk_at "x7"; (focus skip); rotate_left)
          first | done | exact ⟨_, ringN_ok hss hf, rfl⟩
        rintro _ ⟨r', hr', rfl⟩
        have hfin := hadd r' hr'
        cases r with
        | none =>
          cases r' with
          | none =>
            simp only [orD]
            ((with_reducible refine gos_if ?_); walk_at "x18"; (with_reducible refine got_and ?_); (with_reducible refine got_test ?_); (with_reducible refine go_op ?_); walk_at "x0"; (with_reducible refine go_non ?_); walk_at "x2"; walk_at "x26"; walk_at "x3"; walk_at "x2"; walk_at "x4"; walk_at "x4"; (with_reducible refine gos_next ?_); walk_at "x2"; (focus skip); rotate_left)
            exact ⟨none, _, _, hfin, rfl⟩
          | some l2 =>
            simp only [orD]
            ((with_reducible refine gos_if ?_); walk_at "x18"; (with_reducible refine got_and ?_); (with_reducible refine got_test ?_); (with_reducible refine go_op ?_); walk_at "x0"; (with_reducible refine go_non ?_); walk_at "x2"; walk_at "x26"; walk_at "x3"; walk_at "x2"; walk_at "x4"; (with_reducible refine got_or ?_); (with_reducible refine got_test ?_); (with_reducible refine go_op ?_); walk_at "x0"; (with_reducible refine go_non ?_); walk_at "x2"; walk_at "x20"; walk_at "x3"; walk_at "x2"; walk_at "x4"; walk_at "x4"; (with_reducible refine gos_asg ?_); walk_at "x13"; walk_at "x7"; (focus skip); rotate_left)
            exact ⟨some l2, _, _, hfin, rfl⟩
        | some bc =>
          cases r' with
          | none =>
            simp only [orD]
            ((with_reducible refine gos_if ?_); walk_at "x18"; (with_reducible refine got_and ?_); (with_reducible refine got_test ?_); (with_reducible refine go_op ?_); walk_at "x0"; (with_reducible refine go_non ?_); walk_at "x2"; walk_at "x26"; walk_at "x3"; walk_at "x2"; walk_at "x4"; walk_at "x4"; (with_reducible refine gos_next ?_); walk_at "x2"; (focus skip); rotate_left)
            exact ⟨some bc, _, _, hfin, rfl⟩
          | some l2 =>
            simp only [orD]
            ((with_reducible refine gos_if ?_); walk_at "x18"; (with_reducible refine got_and ?_); (with_reducible refine got_test ?_); (with_reducible refine go_op ?_); walk_at "x0"; (with_reducible refine go_non ?_); walk_at "x2"; walk_at "x26"; walk_at "x3"; walk_at "x2"; walk_at "x4"; (with_reducible refine got_or ?_); (with_reducible refine got_test ?_); (with_reducible refine go_op ?_); walk_at "x0"; (with_reducible refine go_non ?_); walk_at "x2"; walk_at "x20"; walk_at "x3"; walk_at "x2"; walk_at "x4"; (with_reducible refine got_test ?_); (with_reducible refine go_op ?_); walk_at "x23"; (with_reducible refine go_cb ?_); (with_reducible refine goa_cons ?_); walk_at "x0"; (with_reducible refine goa_nil ?_); walk_at "x1"; walk_at "x2"; walk_at "x6"; walk_at "x23"; (with_reducible refine go_cb ?_); (with_reducible refine goa_cons ?_); walk_at "x0"; (with_reducible refine goa_nil ?_); walk_at "x1"; walk_at "x2"; walk_at "x6"; (with_reducible refine o2_lt ?_); walk_at "x3"; walk_at "x4"; (with_reducible refine gos_asg ?_); walk_at "x13"; walk_at "x7"; (focus skip); rotate_left; (with_reducible refine gos_next ?_); walk_at "x2"; (focus skip); rotate_left)
            · refine ⟨some l2, _, _, ?_, rfl⟩
              simp only [List.length_map] at *
              rw [if_pos (by omega)] at hfin
              exact hfin
            · refine ⟨some bc, _, _, ?_, rfl⟩
              simp only [List.length_map] at *
              rw [if_neg (by omega)] at hfin
              exact hfin
      · rintro _ ⟨r, d1, e1, hr, rfl⟩
        rw [List.length_map, List.take_length] at hr
        ((with_reducible refine gos_ret ?_); walk_at "x13"; (focus skip); rotate_left)
        exact ⟨r, hr.perm fun x => hpm.mem_iff, rfl⟩
theorem cal__law_walks (D : Df K mg "_law_walks" s__law_walks) (b_range : mg "range" = none) : Cal P w K mg base "_law_walks" 1 ["_law_nodes_here", "_law_nexts_here", "_law_many"] (C__law_walks mg) := by
  obtain ⟨f, fd, F, mf⟩ := D
  refine ⟨f, fd, ?_, mf, F.kp, F.binds (ps := ["_law_nodes_here", "_law_nexts_here", "_law_many"]) fun _ _ _ _ _ _ us hl => match us, hl with | [_, _, _], _ => rfl, Fun.lk F⟩
  refine F.ok sc__law_walks (fun vs H Q E hS0 => spP_len (n := 3) (fun xs p q c0 => by unfold C__law_walks at c0; obtain ⟨_, _, _, rfl, _⟩ := c0; rfl) hS0) (fun cdv A outer s H vs Q E hr hS0 => ?_)
  have hu := hu_of hr
  refine sp_body hS0 (fun B xs p q c0 hl0 wx => ?_)
  obtain ⟨ns, N, m, rfl, hp0, hp1, hp2, hp3, hp4, rfl, rfl⟩ := c0
  refine ⟨_, (pss_cons (ps_asg (pe_lstO (pe_lst (pa_cons pe_dnewT pa_nil))) (pg_name (i := 3) sc__law_walks.nd rfl (by first | exact Or.inl rfl | exact Or.inr rfl)))
      (pss_cons (ps_for PassesOwn.never rfl (k_seq (K := K) rfl (pv 0)) (pg_name (i := 4) sc__law_walks.nd rfl (by first | exact Or.inl rfl | exact Or.inr rfl))
        (pss_one (ps_asg (pe_dispT hu (pv 4) pe_bl) (pg_sub (pe_ix (k_ix (K := K) rfl hu) (pv 3) pe_int (fun _ _ => rfl)) (pv 4) (set_G hu)))))
      (pss_cons (ps_for PassesOwn.never rfl (pi_range1 (by rfl) b_range (pa_cons (pv 2) pa_nil)) (pg_name (i := 5) sc__law_walks.nd rfl (by first | exact Or.inl rfl | exact Or.inr rfl))
        (pss_cons (ps_asg pe_dnewT (pg_name (i := 6) sc__law_walks.nd rfl (by first | exact Or.inl rfl | exact Or.inr rfl)))
        (pss_cons (ps_for PassesOwn.never rfl (k_seq (K := K) rfl (pv 0)) (pg_name (i := 4) sc__law_walks.nd rfl (by first | exact Or.inl rfl | exact Or.inr rfl))
          (pss_cons (ps_asg pe_dnewT (pg_name (i := 7) sc__law_walks.nd rfl (by first | exact Or.inl rfl | exact Or.inr rfl)))
          (pss_cons (ps_lockG (ps_for PassesOwn.never rfl (pi_keys (pe_ix (k_ix (K := K) rfl hu) (pe_ix (k_ix (K := K) rfl hu) (pv 3) (pv 5) (fun _ _ => rfl)) (pv 4) (fun _ _ => rfl))) (pg_name (i := 8) sc__law_walks.nd rfl (by first | exact Or.inl rfl | exact Or.inr rfl))
            (pss_one (ps_for PassesOwn.never rfl (k_seq (K := K) rfl (pe_ix (k_ix (K := K) rfl hu) (pv 1) (pv 8) (fun _ _ => rfl))) (pg_name (i := 9) sc__law_walks.nd rfl (by first | exact Or.inl rfl | exact Or.inr rfl))
              (pss_one (ps_asg pe_bl (pg_sub (pv 7) (pv 9) (set_G hu))))))))
          (pss_one (ps_asg (pv 7) (pg_sub (pv 6) (pv 4) (set_G hu)))))))
        (pss_one (ps_expr (k_bm (K := K) rfl (pe_bm PySem.F.plainAttrs_list PySem.F.slot_list_append PySem.F.type_list_append mt_append (pv 3) (pa_cons (pv 6) pa_nil))))))))
      (pss_one (ps_ret (pe_mv (pv 3))))))), ?_⟩
  clear hS0 hl0 hr hu wx b_range
  simp only [List.map_cons, List.map_nil, List.length_cons, List.length_nil, List.cons_append, List.nil_append, Nat.reduceAdd, Nat.reduceSub, List.replicate_succ, List.replicate_zero, N__law_walks]
  have hsnoc : ∀ {i : Nat} {v : Nd}, ns[i]? = some v → v ∉ ns.take i ∧ ns.take (i + 1) = ns.take i ++ [v] := fun {i v} hv => by
    have hi := (List.getElem?_eq_some_iff.mp hv).1
    refine ⟨fun hm => ?_, by rw [List.take_add_one, hv]; rfl⟩
    obtain ⟨j, hj, e⟩ := List.mem_iff_getElem.mp hm
    rw [List.length_take] at hj
    rw [List.getElem_take] at e
    have h2 := (List.getElem?_eq_some_iff.mp hv).2
    exact (List.pairwise_iff_getElem.mp hp0 j i (by omega) hi (by omega)) (by rw [e, h2])
  ((with_reducible refine gos_sA ?_); (with_reducible refine gos_asg ?_); (with_reducible refine go_lstO' ?_); walk_at "x27"; (with_reducible refine go_dnewT ?_); (with_reducible refine goao_nil ?_); walk_at "x2"; walk_at "x6"; walk_at "x7"; (with_reducible refine gos_sF ?_); (with_reducible refine gos_for ?_); (with_reducible refine goi_seq ?_); walk_at "x0"; walk_at "x2"; (focus skip); rotate_left)
  refine ⟨_, .seq rfl, fun i Γ' => ∃ a : Option O, Γ' = [some (O.d (.lst (ns.map nD))), some (O.d (nlD N ns)), some (O.d (.int m)), some (.ol [.ot (mo (fun u => dsN [u]) (ns.take i))]), a, none, none, none, none, none], ⟨none, rfl⟩, ?_, ?_⟩
  · rintro i d _ hd ⟨a, rfl⟩
    obtain ⟨v, hv, rfl⟩ := mapD_get hd
    obtain ⟨hnm, htk⟩ := hsnoc hv
    (walk_at "x7"; (with_reducible refine gos_asg ?_); (with_reducible refine go_dispT ?_); walk_at "x0"; walk_at "x3"; (with_reducible refine go_bl ?_); walk_at "x2"; (focus skip); rotate_left)
    refine gog_setKL 0 rfl rfl rfl (ks := nk v) rfl (by rw [mo_len, List.length_take]; omega) ?_
    refine ⟨some (O.d (nD v)), ?_⟩
    have e2 := mo_snoc (h := fun u => dsN [u]) hnm
    rw [htk, ← e2]
    rfl
  rintro _ ⟨a, rfl⟩
  rw [List.length_map, List.take_length]
  refine gos_frzIn 3 rfl ?_
  dsimp only [List.set]
  rw [show fzL [O.ot (mo (fun u => dsN [u]) ns)] = [D.dit (fzT (mo (fun u => dsN [u]) ns))] from rfl, fzT_moT (f := fun u => [u])]
  ((with_reducible refine gos_sF ?_); (with_reducible refine gos_for ?_); (with_reducible refine goi_rng1 ?_); (with_reducible refine goa_cons ?_); walk_at "x0"; (with_reducible refine goa_nil ?_); walk_at "x3"; walk_at "x2"; walk_at "x6"; walk_at "x6"; (focus skip); rotate_left)
  refine ⟨fun i Γ' => ∃ a b c d e f : Option O, Γ' = [some (O.d (.lst (ns.map nD))), some (O.d (nlD N ns)), some (O.d (.int m)), some (.ol (((List.range (i + 1)).map (tbD N ns)).map O.d)), a, b, c, d, e, f], ⟨a, none, none, none, none, none, rfl⟩, ?_, ?_⟩
  · rintro i x _ hx ⟨a, b, c, d, e, f, rfl⟩
    obtain ⟨hi, rfl⟩ := rngD_get hx
    (walk_at "x7"; (with_reducible refine gos_sA ?_); (with_reducible refine gos_asg ?_); (with_reducible refine go_dnewT ?_); walk_at "x7"; (with_reducible refine gos_sF ?_); (with_reducible refine gos_for ?_); (with_reducible refine goi_seq ?_); walk_at "x0"; walk_at "x2"; (focus skip); rotate_left)
    refine ⟨_, .seq rfl, fun j Γ' => ∃ a d e f : Option O, Γ' = [some (O.d (.lst (ns.map nD))), some (O.d (nlD N ns)), some (O.d (.int m)), some (.ol (((List.range (i + 1)).map (tbD N ns)).map O.d)), a, some (O.d (.int (0 + (i : Int)))), some (.ot (mo (fun u => O.d (D.dit (mo (fun _ => D.bl true) (rchN N (i + 1) u)))) (ns.take j))), d, e, f], ⟨a, d, e, f, rfl⟩, ?_, ?_⟩
    · rintro j x _ hx ⟨a, d, e, f, rfl⟩
      obtain ⟨v, hv, rfl⟩ := mapD_get hx
      obtain ⟨hnm, htk⟩ := hsnoc hv
      have hvn := List.mem_of_getElem? hv
      obtain ⟨hr1, hr2⟩ := rchN_sub (k := i) hp3 hvn
      (walk_at "x7"; (with_reducible refine gos_sA ?_); (with_reducible refine gos_asg ?_); (with_reducible refine go_dnewT ?_); walk_at "x7"; (with_reducible refine gos_sLG ?_); walk_at "x2"; (focus skip); rotate_left)
      refine gos_forDT (kvs := mo (fun _ => D.bl true) (rchN N i v)) (plt_ixT (td := tVar 0) (n := i) (ks := nk v) (ds := (List.range (i + 1)).map (tbD N ns)) rfl (by rw [Int.zero_add]; rfl) rfl (by rw [List.getElem?_map, List.getElem?_range (by omega)]; rfl) (mo_val hvn)) (fun q Γ' => ∃ e f : Option O, Γ' = [some (O.d (.lst (ns.map nD))), some (O.d (nlD N ns)), some (O.d (.int m)), some (.ol (((List.range (i + 1)).map (tbD N ns)).map O.d)), some (O.d (nD v)), some (O.d (.int (0 + (i : Int)))), some (.ot (mo (fun u => O.d (D.dit (mo (fun _ => D.bl true) (rchN N (i + 1) u)))) (ns.take j))), some (dsN ((((rchN N i v).take q).flatMap N).foldl insN [])), e, f]) ⟨e, f, rfl⟩ ?_ ?_
      · rintro F' B' q d Γ' hd ⟨e, f, rfl⟩
        rw [keysT_mo] at hd
        obtain ⟨u, hu, rfl⟩ := mapD_get hd
        have hun := hr2 u (List.mem_of_getElem? hu)
        have htq : (rchN N i v).take (q + 1) = (rchN N i v).take q ++ [u] := by rw [List.take_add_one, hu]; rfl
        have hsub : ∀ x ∈ ((rchN N i v).take q).flatMap N, x ∈ ns := fun x hx => by
          obtain ⟨y, hy, hx⟩ := List.mem_flatMap.mp hx
          exact hp3 y (hr2 y (List.mem_of_mem_take hy)) x hx
        (walk_at "x7"; (with_reducible refine gos_for ?_); (with_reducible refine goi_seq ?_); (with_reducible refine go_op ?_); walk_at "x0"; walk_at "x0"; walk_at "x2"; (focus skip); rotate_left)
        refine o2_ixT (mo_val hun) ?_
        (walk_at "x2"; (focus skip); rotate_left)
        refine ⟨_, .seq rfl, fun r Γ' => ∃ f : Option O, Γ' = [some (O.d (.lst (ns.map nD))), some (O.d (nlD N ns)), some (O.d (.int m)), some (.ol (((List.range (i + 1)).map (tbD N ns)).map O.d)), some (O.d (nD v)), some (O.d (.int (0 + (i : Int)))), some (.ot (mo (fun u => O.d (D.dit (mo (fun _ => D.bl true) (rchN N (i + 1) u)))) (ns.take j))), some (dsN (((N u).take r).foldl insN ((((rchN N i v).take q).flatMap N).foldl insN []))), some (O.d (nD u)), f], ⟨f, rfl⟩, ?_, ?_⟩
        · rintro r d _ hd ⟨f, rfl⟩
          obtain ⟨x, hx, rfl⟩ := mapD_get hd
          have htr : (N u).take (r + 1) = (N u).take r ++ [x] := by rw [List.take_add_one, hx]; rfl
          have hl := nd_len (L := ns) (nodup_foldN (P := (N u).take r) (nodup_foldN (P := ((rchN N i v).take q).flatMap N) List.nodup_nil)) (foldN_sub (foldN_sub (fun x hx => absurd hx List.not_mem_nil) hsub) fun x hx => hp3 u hun x (List.mem_of_mem_take hx))
          (walk_at "x7"; (with_reducible refine gos_asg ?_); (with_reducible refine go_bl ?_); walk_at "x15"; walk_at "x0"; walk_at "x2"; walk_at "x16"; (focus skip); rotate_left)
          refine ⟨by rw [mo_len]; omega, some (O.d (nD x)), ?_⟩
          rw [dsN_put, htr, List.foldl_append]
          rfl
        · rintro _ ⟨f, rfl⟩
          rw [List.length_map, List.take_length]
          refine ⟨some (O.d (nD u)), f, ?_⟩
          rw [htq, List.flatMap_append, List.foldl_append]
          simp only [List.flatMap_cons, List.flatMap_nil, List.append_nil]
      · rintro _ ⟨e, f, rfl⟩
        rw [mo_len, List.take_length]
        ((with_reducible refine gos_asg ?_); walk_at "x28"; walk_at "x15"; walk_at "x0"; walk_at "x2"; walk_at "x16"; (focus skip); rotate_left)
        refine ⟨by rw [mo_len, List.length_take]; omega, ?_⟩
        rw [fzT_mo]
        have e2 := mo_snoc (h := fun u => O.d (D.dit (mo (fun _ => D.bl true) (rchN N (i + 1) u)))) hnm
        rw [htk, ← e2]
        exact ⟨_, _, _, _, rfl⟩
    · rintro _ ⟨a, d, e, f, rfl⟩
      rw [List.length_map, List.take_length]
      (walk_at "x12"; walk_at "x28"; walk_at "x3"; (focus skip); rotate_left)
      refine ⟨by rw [List.length_map, List.length_map, List.length_range]; omega, ?_⟩
      rw [fzT_mo, List.range_succ (n := i + 1), List.map_append, List.map_append]
      exact ⟨_, _, _, _, _, _, rfl⟩
  · rintro _ ⟨a, b, c, d, e, f, rfl⟩
    ((with_reducible refine gos_ret ?_); walk_at "x13"; (focus skip); rotate_left)
    rw [rngD_len, Int.toNat_natCast]
theorem cal__law_none (D : Df K mg "_law_none" s__law_none) (c__law_walks : Cal P w K mg base "_law_walks" 1 ["_law_nodes_here", "_law_nexts_here", "_law_many"] (C__law_walks mg)) (b_len : mg "len" = none) (b_range : mg "range" = none) : Cal P w K mg base "_law_none" 2 ["_law_nodes_here", "_law_nexts_here"] (C__law_none mg) := by
  obtain ⟨f, fd, F, mf⟩ := D
  obtain ⟨f__law_walks, fd__law_walks, G__law_walks, g__law_walks, k__law_walks, bn__law_walks, _⟩ := c__law_walks
  refine ⟨f, fd, ?_, mf, F.kp, F.binds (ps := ["_law_nodes_here", "_law_nexts_here"]) fun _ _ _ _ _ _ us hl => match us, hl with | [_, _], _ => rfl, Fun.lk F⟩
  refine F.ok sc__law_none (fun vs H Q E hS0 => spP_len (n := 2) (fun xs p q c0 => by unfold C__law_none at c0; obtain ⟨_, _, rfl, _⟩ := c0; rfl) hS0) (fun cdv A outer s H vs Q E hr hS0 => ?_)
  have hu := hu_of hr
  refine sp_body hS0 (fun B xs p q c0 hl0 wx => ?_)
  obtain ⟨ns, N, rfl, hp0, hp1, hp2, hp3, hp4, hp5, rfl, rfl⟩ := c0
  refine ⟨_, (pss_cons (ps_asg (pe_call G__law_walks hr rfl g__law_walks k__law_walks bn__law_walks .nil pass0 (pa_cons (pv 0) (pa_cons (pv 1) (pa_cons (pe_callB (k_len (K := K) rfl) (by rfl) b_len (by decide +kernel) (pa_cons (pv 0) pa_nil)) pa_nil)))) (pg_name (i := 2) sc__law_none.nd rfl (by first | exact Or.inl rfl | exact Or.inr rfl)))
      (pss_cons (ps_for PassesOwn.never rfl (pi_range2 (by rfl) b_range (pa_cons pe_int (pa_cons (pe_op (k_add (K := K) rfl) (pe_callB (k_len (K := K) rfl) (by rfl) b_len (by decide +kernel) (pa_cons (pv 0) pa_nil)) pe_int) pa_nil))) (pg_name (i := 3) sc__law_none.nd rfl (by first | exact Or.inl rfl | exact Or.inr rfl))
        (pss_one (ps_for PassesOwn.never rfl (k_seq (K := K) rfl (pv 0)) (pg_name (i := 4) sc__law_none.nd rfl (by first | exact Or.inl rfl | exact Or.inr rfl))
          (pss_one (ps_if (pt_cmpR (k_in (K := K) rfl hu) (pv 4) (pe_ix (k_ix (K := K) rfl hu) (pe_ix (k_ix (K := K) rfl hu) (pv 2) (pv 3) (fun _ _ => rfl)) (pv 4) (fun _ _ => rfl)) (by rfl))
            (pss_one (ps_ret pe_bl))
            pss_nil)))))
      (pss_one (ps_ret pe_bl)))), ?_⟩
  clear hS0 hl0 hr hu wx G__law_walks g__law_walks k__law_walks bn__law_walks b_len b_range
  simp only [List.map_cons, List.map_nil, List.length_cons, List.length_nil, List.cons_append, List.nil_append, Nat.reduceAdd, Nat.reduceSub, List.replicate_succ, List.replicate_zero, N__law_none]
  have hlm : (ns.map nD).length = ns.length := List.length_map _
  refine gos_seq ?_
  refine gos_mid (fun Γ' => Γ' = [some (O.d (.lst (ns.map nD))), some (O.d (nlD N ns)), some (.ol (((List.range (ns.length + 1)).map (tbD N ns)).map O.d)), none, none]) ?_ ?_
  · ((with_reducible refine gos_asg ?_); walk_at "x2"; (with_reducible refine call__law_walks ?_); (with_reducible refine goa_cons ?_); walk_at "x0"; (with_reducible refine goa_cons ?_); walk_at "x0"; (with_reducible refine goa_cons ?_); (with_reducible refine go_cb ?_); (with_reducible refine goa_cons ?_); walk_at "x0"; (with_reducible refine goa_nil ?_); walk_at "x1"; (with_reducible refine goa_nil ?_); walk_at "x2"; walk_at "x22"; walk_at "x6"; walk_at "x6"; walk_at "x6"; walk_at "x6"; walk_at "x6"; walk_at "x7"; (focus skip); rotate_left)
    rw [hlm]
  rintro _ rfl
  refine gos_frz 2 rfl ?_
  rw [fz_fl]
  dsimp only [List.set]
  have htb : ∀ k, k ≤ ns.length → atI ((List.range (ns.length + 1)).map (tbD N ns)) (k : Int) = some (tbD N ns k) := fun k hk => atI_ofN.trans (by rw [List.getElem?_map, List.getElem?_range (by omega)]; rfl)
  ((with_reducible refine gos_sF ?_); (with_reducible refine gos_for ?_); (with_reducible refine goi_rng2 ?_); (with_reducible refine goa_cons ?_); (with_reducible refine go_int ?_); (with_reducible refine goa_cons ?_); (with_reducible refine go_op ?_); (with_reducible refine go_cb ?_); (with_reducible refine goa_cons ?_); walk_at "x0"; (with_reducible refine goa_nil ?_); walk_at "x1"; (with_reducible refine go_int ?_); walk_at "x2"; (with_reducible refine o2_add ?_); (with_reducible refine goa_nil ?_); walk_at "x2"; walk_at "x5"; walk_at "x6"; (focus skip); rotate_left)
  refine ⟨fun i Γ' => ∃ a b : Option O, Γ' = [some (O.d (.lst (ns.map nD))), some (O.d (nlD N ns)), some (O.d (.lst ((List.range (ns.length + 1)).map (tbD N ns)))), a, b], ⟨none, none, rfl⟩, ?_, ?_⟩
  · rintro i x _ hx ⟨a, b, rfl⟩
    obtain ⟨hi, rfl⟩ := rngD_get hx
    rw [hlm] at hi
    (walk_at "x7"; (with_reducible refine gos_for ?_); (with_reducible refine goi_seq ?_); walk_at "x0"; walk_at "x2"; (focus skip); rotate_left)
    refine ⟨_, .seq rfl, fun j Γ' => ∃ b : Option O, Γ' = [some (O.d (.lst (ns.map nD))), some (O.d (nlD N ns)), some (O.d (.lst ((List.range (ns.length + 1)).map (tbD N ns)))), some (O.d (.int (1 + (i : Int)))), b], ⟨b, rfl⟩, ?_, ?_⟩
    · rintro j x _ hx ⟨b, rfl⟩
      obtain ⟨v, hv, rfl⟩ := mapD_get hx
      have hvn := List.mem_of_getElem? hv
      have hnw := no_walk hp4 hp5 (k := i) hvn
      have hnm : v ∉ rchN N (i + 1) v := fun h => hnw (rchN_mem.mp h)
      have hdn := mo_none (h := fun _ => D.bl true) hnm
      have hd2 : ¬ (dval (mo (fun _ => D.bl true) (rchN N (i + 1) v)) (nk v)).isSome = true := by rw [hdn]; simp
      (walk_at "x7"; (with_reducible refine gos_if ?_); (with_reducible refine got_test ?_); (with_reducible refine go_op ?_); walk_at "x0"; (with_reducible refine go_op ?_); (with_reducible refine go_op ?_); walk_at "x0"; walk_at "x0"; walk_at "x2"; (focus skip); rotate_left)
      refine o2_ix rfl (by rw [show (1 : Int) + (i : Int) = ((i + 1 : Nat) : Int) by omega]; exact htb _ (by omega)) ?_
      (walk_at "x0"; walk_at "x2"; (focus skip); rotate_left)
      refine o2_ixT (mo_val hvn) ?_
      (walk_at "x2"; (with_reducible refine o2_inT ?_); walk_at "x3"; walk_at "x4"; (with_reducible refine gos_ret ?_); (with_reducible refine go_bl ?_); walk_at "x2"; (focus skip); rotate_left; (with_reducible refine gos_next ?_); walk_at "x2"; (focus skip); rotate_left)
      · rename_i hc; exact absurd hc hd2
      exact ⟨some (O.d (nD v)), rfl⟩
    · rintro _ ⟨b, rfl⟩
      exact ⟨_, _, rfl⟩
  · rintro _ ⟨a, b, rfl⟩
    ((with_reducible refine gos_ret ?_); (with_reducible refine go_bl ?_); walk_at "x2")
theorem cal__law_whole (D : Df K mg "_law_whole" s__law_whole) (b_bool : mg "bool" = none) (b_int : mg "int" = none) (b_isinstance : mg "isinstance" = none) : Cal P w K mg base "_law_whole" 1 ["_law_found"] (C__law_whole mg) := by
  obtain ⟨f, fd, F, mf⟩ := D
  refine ⟨f, fd, ?_, mf, F.kp, F.binds (ps := ["_law_found"]) fun _ _ _ _ _ _ us hl => match us, hl with | [_], _ => rfl, Fun.lk F⟩
  refine F.ok sc__law_whole (fun vs H Q E hS0 => spP_len (n := 1) (fun xs p q c0 => by unfold C__law_whole at c0; obtain ⟨_, rfl, _⟩ := c0; rfl) hS0) (fun cdv A outer s H vs Q E hr hS0 => ?_)
  have hu := hu_of hr
  refine sp_body hS0 (fun B xs p q c0 hl0 wx => ?_)
  obtain ⟨n, rfl, rfl, rfl⟩ := c0
  refine ⟨_, (pss_one (ps_ret (pe_and (pe_callB (k_isi (K := K) rfl) (by rfl) b_isinstance (by decide +kernel) (pa_cons (pv 0) (pa_cons (pe_bltn (v := .ty "int") (u := .type "int") (by rfl) b_int (by decide +kernel) rfl) pa_nil))) (pe_one (pe_not (pe_callB (k_isi (K := K) rfl) (by rfl) b_isinstance (by decide +kernel) (pa_cons (pv 0) (pa_cons (pe_bltn (v := .ty "bool") (u := .type "bool") (by rfl) b_bool (by decide +kernel) rfl) pa_nil)))))))), ?_⟩
  clear hS0 hl0 hr hu wx b_bool b_int b_isinstance
  simp only [List.map_cons, List.map_nil, List.length_cons, List.length_nil, List.cons_append, List.nil_append, Nat.reduceAdd, Nat.reduceSub, List.replicate_succ, List.replicate_zero, N__law_whole]
  ((with_reducible refine gos_ret ?_); (with_reducible refine go_andV ?_); (with_reducible refine go_cb ?_); (with_reducible refine goa_cons ?_); walk_at "x0"; (with_reducible refine goa_cons ?_); (with_reducible refine go_ty ?_); (with_reducible refine goa_nil ?_); walk_at "x2"; walk_at "x29"; walk_at "x3"; walk_at "x2"; walk_at "x4"; (with_reducible refine go_notV ?_); (with_reducible refine go_cb ?_); (with_reducible refine goa_cons ?_); walk_at "x0"; (with_reducible refine goa_cons ?_); (with_reducible refine go_ty ?_); (with_reducible refine goa_nil ?_); walk_at "x2"; walk_at "x30"; walk_at "x3"; (focus skip); rotate_left)
  all_goals rfl
theorem cal__law_is_chain (D : Df K mg "_law_is_chain" s__law_is_chain) (c__law_whole : Cal P w K mg base "_law_whole" 1 ["_law_found"] (C__law_whole mg)) (b_isinstance : mg "isinstance" = none) (b_len : mg "len" = none) (b_list : mg "list" = none) (b_range : mg "range" = none) (b_set : mg "set" = none) (b_tuple : mg "tuple" = none) : Cal P w K mg base "_law_is_chain" 2 ["_law_found", "_law_nodes_here", "_law_nexts_here"] (C__law_is_chain mg) := by
  obtain ⟨f, fd, F, mf⟩ := D
  obtain ⟨f__law_whole, fd__law_whole, G__law_whole, g__law_whole, k__law_whole, bn__law_whole, _⟩ := c__law_whole
  refine ⟨f, fd, ?_, mf, F.kp, F.binds (ps := ["_law_found", "_law_nodes_here", "_law_nexts_here"]) fun _ _ _ _ _ _ us hl => match us, hl with | [_, _, _], _ => rfl, Fun.lk F⟩
  refine F.ok sc__law_is_chain (fun vs H Q E hS0 => spP_len (n := 3) (fun xs p q c0 => by unfold C__law_is_chain at c0; obtain ⟨_, _, _, rfl, _⟩ := c0; rfl) hS0) (fun cdv A outer s H vs Q E hr hS0 => ?_)
  have hu := hu_of hr
  refine sp_body hS0 (fun B xs p q c0 hl0 wx => ?_)
  obtain ⟨ns, N, c, rfl, hp0, hp1, hp2, hp3, hp4, hp5, rfl, rfl⟩ := c0
  refine ⟨_, (pss_cons (ps_if (PW.pt (pw_or (pt_not (pt_val (pe_callB (k_isi (K := K) rfl) (by rfl) b_isinstance (by decide +kernel) (pa_cons (pv 0) (pa_cons (pe_bltn (v := .ty "list") (u := .type "list") (by rfl) b_list (by decide +kernel) rfl) pa_nil))))) (pw_or (pt_cmpR (k_lt (K := K) rfl hr.units0) (pe_callB (k_len (K := K) rfl) (by rfl) b_len (by decide +kernel) (pa_cons (pv 0) pa_nil)) pe_int (nomark _)) (pw_or1 (pt_cmpR (k_ne (K := K) rfl hr.units) (pe_lenSetT (K := K) rfl rfl hr.units (by rfl) b_len (by rfl) b_set (pv 0)) (pe_callB (k_len (K := K) rfl) (by rfl) b_len (by decide +kernel) (pa_cons (pv 0) pa_nil)) (nomark _))))))
        (pss_one (ps_ret pe_bl))
        pss_nil)
      (pss_cons (ps_for PassesOwn.never rfl (k_seq (K := K) rfl (pv 0)) (pg_name (i := 3) sc__law_is_chain.nd rfl (by first | exact Or.inl rfl | exact Or.inr rfl))
        (pss_one (ps_if (PW.pt (pw_or (pt_not (pt_val (pe_callB (k_isi (K := K) rfl) (by rfl) b_isinstance (by decide +kernel) (pa_cons (pv 3) (pa_cons (pe_bltn (v := .ty "tuple") (u := .type "tuple") (by rfl) b_tuple (by decide +kernel) rfl) pa_nil))))) (pw_or (pt_not (pt_val (pe_call G__law_whole hr rfl g__law_whole k__law_whole bn__law_whole .nil pass0 (pa_cons (pe_ix (k_ix (K := K) rfl hu) (pv 3) pe_int (fun _ _ => rfl)) pa_nil)))) (pw_or (pt_not (pt_val (pe_call G__law_whole hr rfl g__law_whole k__law_whole bn__law_whole .nil pass0 (pa_cons (pe_ix (k_ix (K := K) rfl hu) (pv 3) pe_int (fun _ _ => rfl)) pa_nil)))) (pw_or1 (pt_cmpR (k_notInDat (K := K) rfl (Room.units65 hr)) (pv 3) (pv 1) (by rfl)))))))
          (pss_one (ps_ret pe_bl))
          pss_nil)))
      (pss_cons (ps_for PassesOwn.never rfl (pi_range1 (by rfl) b_range (pa_cons (pe_callB (k_len (K := K) rfl) (by rfl) b_len (by decide +kernel) (pa_cons (pv 0) pa_nil)) pa_nil)) (pg_name (i := 4) sc__law_is_chain.nd rfl (by first | exact Or.inl rfl | exact Or.inr rfl))
        (pss_one (ps_if (pt_cmpR (k_notInDat (K := K) rfl (Room.units65 hr)) (pe_ix (k_ix (K := K) rfl hu) (pv 0) (pv 4) (fun _ _ => rfl)) (pe_ix (k_ix (K := K) rfl hu) (pv 2) (pe_ix (k_ix (K := K) rfl hu) (pv 0) (pe_op op_subG (pv 4) pe_int) (fun _ _ => rfl)) (fun _ _ => rfl)) (by rfl))
          (pss_one (ps_ret pe_bl))
          pss_nil)))
      (pss_one (ps_ret pe_bl))))), ?_⟩
  clear hS0 hl0 hr hu wx G__law_whole g__law_whole k__law_whole bn__law_whole b_isinstance b_len b_list b_range b_set b_tuple
  simp only [List.map_cons, List.map_nil, List.length_cons, List.length_nil, List.cons_append, List.nil_append, Nat.reduceAdd, Nat.reduceSub, List.replicate_succ, List.replicate_zero, N__law_is_chain]
  have hlm : (c.map nD).length = c.length := List.length_map _
  obtain ⟨s, hs, hR, hnd, hleast⟩ := hp5.ex
  obtain ⟨hc0, hlen2⟩ := hR.head
  have hcn := hR.mem hs hp3
  have hto := hR.to
  have hge : ¬ ((c.map nD).length : Int) < 2 := by rw [hlm]; omega
  ((with_reducible refine gos_sIR ?_); (with_reducible refine gos_if ?_); (with_reducible refine got_or ?_); (with_reducible refine got_not ?_); (with_reducible refine got_B ?_); (with_reducible refine go_cb ?_); (with_reducible refine goa_cons ?_); walk_at "x0"; (with_reducible refine goa_cons ?_); (with_reducible refine go_ty ?_); (with_reducible refine goa_nil ?_); walk_at "x2"; walk_at "x29"; walk_at "x3"; walk_at "x4"; (with_reducible refine got_or ?_); (with_reducible refine got_test ?_); (with_reducible refine go_op ?_); (with_reducible refine go_cb ?_); (with_reducible refine goa_cons ?_); walk_at "x0"; (with_reducible refine goa_nil ?_); walk_at "x1"; (with_reducible refine go_int ?_); walk_at "x2"; (with_reducible refine o2_lt ?_); walk_at "x3"; walk_at "x4"; (with_reducible refine got_test ?_); (with_reducible refine go_op ?_); (with_reducible refine go_lenSetT ?_); walk_at "x0"; walk_at "x2"; (focus skip); rotate_left)
  refine ⟨c.map fun p => [p.1, p.2], by rw [List.map_map]; rfl, by rw [List.length_map]; omega, ?_, ?_⟩
  · rw [List.Nodup, List.pairwise_map]
    exact hnd.imp fun ne e => ne (by simp only [List.cons.injEq, and_true] at e; exact Prod.ext e.1 e.2)
  have hle : ((c.map fun p : Nd => [p.1, p.2]).length : Int) = ((c.map nD).length : Int) := by rw [List.length_map, List.length_map]
  rw [hle]
  ((with_reducible refine go_cb ?_); (with_reducible refine goa_cons ?_); walk_at "x0"; (with_reducible refine goa_nil ?_); walk_at "x1"; walk_at "x2"; (with_reducible refine o2_neI ?_); walk_at "x3"; walk_at "x2"; walk_at "x4"; (with_reducible refine gos_next ?_); (with_reducible refine gos_sF ?_); (with_reducible refine gos_for ?_); (with_reducible refine goi_seq ?_); walk_at "x0"; walk_at "x2"; (focus skip); rotate_left)
  refine ⟨_, .seq rfl, fun i Γ' => ∃ a : Option O, Γ' = [some (O.d (.lst (c.map nD))), some (O.d (.lst (ns.map nD))), some (O.d (nlD N ns)), a, none], ⟨none, rfl⟩, ?_, ?_⟩
  · rintro i d _ hd ⟨a, rfl⟩
    obtain ⟨v, hv, rfl⟩ := mapD_get hd
    have hvn := hcn v (List.mem_of_getElem? hv)
    (walk_at "x7"; (with_reducible refine gos_if ?_); (with_reducible refine got_or ?_); (with_reducible refine got_not ?_); (with_reducible refine got_B ?_); (with_reducible refine go_cb ?_); (with_reducible refine goa_cons ?_); walk_at "x0"; (with_reducible refine goa_cons ?_); (with_reducible refine go_ty ?_); (with_reducible refine goa_nil ?_); walk_at "x2"; walk_at "x29"; walk_at "x3"; walk_at "x4"; (with_reducible refine got_or ?_); (with_reducible refine got_not ?_); (with_reducible refine got_B ?_); walk_at "x2"; (with_reducible refine call__law_whole ?_); (with_reducible refine goa_cons ?_); (with_reducible refine go_op ?_); walk_at "x0"; (with_reducible refine go_int ?_); walk_at "x2"; walk_at "x31"; (with_reducible refine goa_nil ?_); walk_at "x3"; walk_at "x3"; walk_at "x4"; (with_reducible refine got_or ?_); (with_reducible refine got_not ?_); (with_reducible refine got_B ?_); walk_at "x2"; (with_reducible refine call__law_whole ?_); (with_reducible refine goa_cons ?_); (with_reducible refine go_op ?_); walk_at "x0"; (with_reducible refine go_int ?_); walk_at "x2"; walk_at "x31"; (with_reducible refine goa_nil ?_); walk_at "x3"; walk_at "x3"; walk_at "x4"; (with_reducible refine got_test ?_); (with_reducible refine go_op ?_); walk_at "x0"; walk_at "x0"; walk_at "x2"; (focus skip); rotate_left)
    refine o2_notInDat shp_nD1 (shp_nDL _) ?_
    rw [any_nD, decide_eq_true hvn]
    (walk_at "x3"; walk_at "x4"; (with_reducible refine gos_next ?_); walk_at "x2"; (focus skip); rotate_left)
    exact ⟨_, rfl⟩
  rintro _ ⟨a, rfl⟩
  ((with_reducible refine gos_sF ?_); (with_reducible refine gos_for ?_); (with_reducible refine goi_rng1 ?_); (with_reducible refine goa_cons ?_); (with_reducible refine go_cb ?_); (with_reducible refine goa_cons ?_); walk_at "x0"; (with_reducible refine goa_nil ?_); walk_at "x1"; (with_reducible refine goa_nil ?_); walk_at "x3"; walk_at "x2"; walk_at "x6"; walk_at "x6"; (focus skip); rotate_left)
  refine ⟨fun i Γ' => ∃ b : Option O, Γ' = [some (O.d (.lst (c.map nD))), some (O.d (.lst (ns.map nD))), some (O.d (nlD N ns)), a, b], ⟨none, rfl⟩, ?_, ?_⟩
  · rintro i x _ hx ⟨b, rfl⟩
    obtain ⟨hi, rfl⟩ := rngD_get hx
    rw [hlm] at hi
    have hy1 : c[i]? = some c[i] := List.getElem?_eq_getElem (by omega)
    generalize c[i] = y1 at hy1
    obtain ⟨x1, hx1, hx1c, hxy⟩ : ∃ x1, atI (c.map nD) (0 + (i : Int) - 1) = some (nD x1) ∧ x1 ∈ c ∧ y1 ∈ N x1 := by
      cases i with
      | zero =>
        have hz : c[c.length - 1]? = some c[c.length - 1] := List.getElem?_eq_getElem (by omega)
        generalize c[c.length - 1] = z at hz
        refine ⟨z, ?_, List.mem_of_getElem? hz, ?_⟩
        · show atI (c.map nD) (-1) = _
          rw [atI_last (z := z) (fun e => by rw [e] at hlen2; simp at hlen2), List.getLastD_eq_getLast?, List.getLast?_eq_getElem?, hz]; rfl
        · rw [hc0] at hy1
          cases hy1
          exact toN_last hto hz
      | succ i =>
        have hz : c[i]? = some c[i] := List.getElem?_eq_getElem (by omega)
        generalize c[i] = z at hz
        refine ⟨z, ?_, List.mem_of_getElem? hz, toN_next hto hz hy1⟩
        rw [show (0 : Int) + ((i + 1 : Nat) : Int) - 1 = (i : Int) by omega]
        exact atI_ofN.trans (by rw [List.getElem?_map, hz]; rfl)
    have hya : atI (c.map nD) (0 + (i : Int)) = some (nD y1) := by rw [Int.zero_add]; exact atI_ofN.trans (by rw [List.getElem?_map, hy1]; rfl)
    (walk_at "x7"; (with_reducible refine gos_if ?_); (with_reducible refine got_test ?_); (with_reducible refine go_op ?_); (with_reducible refine go_op ?_); walk_at "x0"; walk_at "x0"; walk_at "x2"; (focus skip); rotate_left)
    refine o2_ix rfl hya ?_
    ((with_reducible refine go_op ?_); walk_at "x0"; (with_reducible refine go_op ?_); walk_at "x0"; (with_reducible refine go_op ?_); walk_at "x0"; (with_reducible refine go_int ?_); walk_at "x2"; (with_reducible refine o2_sub ?_); walk_at "x2"; (focus skip); rotate_left)
    refine o2_ix rfl hx1 ?_
    (walk_at "x2"; (focus skip); rotate_left)
    refine o2_ixT (mo_val (hcn x1 hx1c)) ?_
    (walk_at "x2"; (focus skip); rotate_left)
    refine o2_notInDat shp_nD1 (shp_nDL _) ?_
    rw [any_nD, decide_eq_true hxy]
    (walk_at "x3"; walk_at "x4"; (with_reducible refine gos_next ?_); walk_at "x2"; (focus skip); rotate_left)
    exact ⟨_, rfl⟩
  rintro _ ⟨b, rfl⟩
  ((with_reducible refine gos_ret ?_); (with_reducible refine go_bl ?_); walk_at "x2")
theorem cal__law_no_less (D : Df K mg "_law_no_less" s__law_no_less) (c__law_walks : Cal P w K mg base "_law_walks" 1 ["_law_nodes_here", "_law_nexts_here", "_law_many"] (C__law_walks mg)) (b_len : mg "len" = none) (b_range : mg "range" = none) : Cal P w K mg base "_law_no_less" 2 ["_law_nodes_here", "_law_nexts_here", "_law_chain"] (C__law_no_less mg) := by
  obtain ⟨f, fd, F, mf⟩ := D
  obtain ⟨f__law_walks, fd__law_walks, G__law_walks, g__law_walks, k__law_walks, bn__law_walks, _⟩ := c__law_walks
  refine ⟨f, fd, ?_, mf, F.kp, F.binds (ps := ["_law_nodes_here", "_law_nexts_here", "_law_chain"]) fun _ _ _ _ _ _ us hl => match us, hl with | [_, _, _], _ => rfl, Fun.lk F⟩
  refine F.ok sc__law_no_less (fun vs H Q E hS0 => spP_len (n := 3) (fun xs p q c0 => by unfold C__law_no_less at c0; obtain ⟨_, _, _, rfl, _⟩ := c0; rfl) hS0) (fun cdv A outer s H vs Q E hr hS0 => ?_)
  have hu := hu_of hr
  refine sp_body hS0 (fun B xs p q c0 hl0 wx => ?_)
  obtain ⟨ns, N, c, rfl, hp0, hp1, hp2, hp3, hp4, hp5, hp6, rfl, rfl⟩ := c0
  refine ⟨_, (pss_cons (ps_asg (pe_call G__law_walks hr rfl g__law_walks k__law_walks bn__law_walks .nil pass0 (pa_cons (pv 0) (pa_cons (pv 1) (pa_cons (pe_callB (k_len (K := K) rfl) (by rfl) b_len (by decide +kernel) (pa_cons (pv 2) pa_nil)) pa_nil)))) (pg_name (i := 3) sc__law_no_less.nd rfl (by first | exact Or.inl rfl | exact Or.inr rfl)))
      (pss_cons (ps_for PassesOwn.never rfl (pi_range2 (by rfl) b_range (pa_cons pe_int (pa_cons (pe_callB (k_len (K := K) rfl) (by rfl) b_len (by decide +kernel) (pa_cons (pv 2) pa_nil)) pa_nil))) (pg_name (i := 4) sc__law_no_less.nd rfl (by first | exact Or.inl rfl | exact Or.inr rfl))
        (pss_one (ps_for PassesOwn.never rfl (k_seq (K := K) rfl (pv 0)) (pg_name (i := 5) sc__law_no_less.nd rfl (by first | exact Or.inl rfl | exact Or.inr rfl))
          (pss_one (ps_if (pt_cmpR (k_in (K := K) rfl hu) (pv 5) (pe_ix (k_ix (K := K) rfl hu) (pe_ix (k_ix (K := K) rfl hu) (pv 3) (pv 4) (fun _ _ => rfl)) (pv 5) (fun _ _ => rfl)) (by rfl))
            (pss_one (ps_ret pe_bl))
            pss_nil)))))
      (pss_cons (ps_for PassesOwn.never rfl (k_seq (K := K) rfl (pv 0)) (pg_name (i := 5) sc__law_no_less.nd rfl (by first | exact Or.inl rfl | exact Or.inr rfl))
        (pss_one (ps_if (PW.pt (pw_and (pt_cmpR (k_ltD (K := K) rfl hr.units) (pv 5) (pe_ix (k_ix (K := K) rfl hu) (pv 2) pe_int (fun _ _ => rfl)) (nomark _)) (pw_and1 (pt_cmpR (k_in (K := K) rfl hu) (pv 5) (pe_ix (k_ix (K := K) rfl hu) (pe_ix (k_ix (K := K) rfl hu) (pv 3) (pe_callB (k_len (K := K) rfl) (by rfl) b_len (by decide +kernel) (pa_cons (pv 2) pa_nil)) (fun _ _ => rfl)) (pv 5) (fun _ _ => rfl)) (by rfl)))))
          (pss_one (ps_ret pe_bl))
          pss_nil)))
      (pss_cons (ps_for PassesOwn.never rfl (pi_range2 (by rfl) b_range (pa_cons pe_int (pa_cons (pe_callB (k_len (K := K) rfl) (by rfl) b_len (by decide +kernel) (pa_cons (pv 2) pa_nil)) pa_nil))) (pg_name (i := 4) sc__law_no_less.nd rfl (by first | exact Or.inl rfl | exact Or.inr rfl))
        (pss_one (ps_for PassesOwn.never rfl (k_seq (K := K) rfl (pe_ix (k_ix (K := K) rfl hu) (pv 1) (pe_ix (k_ix (K := K) rfl hu) (pv 2) (pe_op op_subG (pv 4) pe_int) (fun _ _ => rfl)) (fun _ _ => rfl))) (pg_name (i := 6) sc__law_no_less.nd rfl (by first | exact Or.inl rfl | exact Or.inr rfl))
          (pss_one (ps_if (PW.pt (pw_and (pt_cmpR (k_ltD (K := K) rfl hr.units) (pv 6) (pe_ix (k_ix (K := K) rfl hu) (pv 2) (pv 4) (fun _ _ => rfl)) (nomark _)) (pw_and1 (pt_cmpR (k_in (K := K) rfl hu) (pe_ix (k_ix (K := K) rfl hu) (pv 2) pe_int (fun _ _ => rfl)) (pe_ix (k_ix (K := K) rfl hu) (pe_ix (k_ix (K := K) rfl hu) (pv 3) (pe_op op_subG (pe_callB (k_len (K := K) rfl) (by rfl) b_len (by decide +kernel) (pa_cons (pv 2) pa_nil)) (pv 4)) (fun _ _ => rfl)) (pv 6) (fun _ _ => rfl)) (by rfl)))))
            (pss_one (ps_ret pe_bl))
            pss_nil)))))
      (pss_one (ps_ret pe_bl)))))), ?_⟩
  clear hS0 hl0 hr hu wx G__law_walks g__law_walks k__law_walks bn__law_walks b_len b_range
  simp only [List.map_cons, List.map_nil, List.length_cons, List.length_nil, List.cons_append, List.nil_append, Nat.reduceAdd, Nat.reduceSub, List.replicate_succ, List.replicate_zero, N__law_no_less]
  have hlm : (c.map nD).length = c.length := List.length_map _
  obtain ⟨s, hs, hR, hnd, hleast⟩ := hp6.ex
  obtain ⟨hc0, hlen2⟩ := hR.head
  have hcn := hR.mem hs hp3
  have hl2 : ∀ c', RgN N s c' → slN c c' := hleast s hs
  refine gos_seq ?_
  refine gos_mid (fun Γ' => Γ' = [some (O.d (.lst (ns.map nD))), some (O.d (nlD N ns)), some (O.d (.lst (c.map nD))), some (.ol (((List.range (c.length + 1)).map (tbD N ns)).map O.d)), none, none, none]) ?_ ?_
  · ((with_reducible refine gos_asg ?_); walk_at "x2"; (with_reducible refine call__law_walks ?_); (with_reducible refine goa_cons ?_); walk_at "x0"; (with_reducible refine goa_cons ?_); walk_at "x0"; (with_reducible refine goa_cons ?_); (with_reducible refine go_cb ?_); (with_reducible refine goa_cons ?_); walk_at "x0"; (with_reducible refine goa_nil ?_); walk_at "x1"; (with_reducible refine goa_nil ?_); walk_at "x2"; walk_at "x22"; walk_at "x6"; walk_at "x6"; walk_at "x6"; walk_at "x6"; walk_at "x6"; walk_at "x7"; (focus skip); rotate_left)
    rw [hlm]
  rintro _ rfl
  refine gos_frz 3 rfl ?_
  rw [fz_fl]
  dsimp only [List.set]
  have hc0a : atI (c.map nD) 0 = some (nD s) := (atI_ofN (k := 0)).trans (by rw [List.getElem?_map, hc0]; rfl)
  have htb : ∀ k, k ≤ c.length → atI ((List.range (c.length + 1)).map (tbD N ns)) (k : Int) = some (tbD N ns k) := fun k hk => atI_ofN.trans (by rw [List.getElem?_map, List.getElem?_range (by omega)]; rfl)
  ((with_reducible refine gos_sF ?_); (with_reducible refine gos_for ?_); (with_reducible refine goi_rng2 ?_); (with_reducible refine goa_cons ?_); (with_reducible refine go_int ?_); (with_reducible refine goa_cons ?_); (with_reducible refine go_cb ?_); (with_reducible refine goa_cons ?_); walk_at "x0"; (with_reducible refine goa_nil ?_); walk_at "x1"; (with_reducible refine goa_nil ?_); walk_at "x2"; walk_at "x5"; walk_at "x6"; (focus skip); rotate_left)
  refine ⟨fun i Γ' => ∃ a b : Option O, Γ' = [some (O.d (.lst (ns.map nD))), some (O.d (nlD N ns)), some (O.d (.lst (c.map nD))), some (O.d (.lst ((List.range (c.length + 1)).map (tbD N ns)))), a, b, none], ⟨none, none, rfl⟩, ?_, ?_⟩
  · rintro i x _ hx ⟨a, b, rfl⟩
    obtain ⟨hi, rfl⟩ := rngD_get hx
    rw [hlm] at hi
    (walk_at "x7"; (with_reducible refine gos_for ?_); (with_reducible refine goi_seq ?_); walk_at "x0"; walk_at "x2"; (focus skip); rotate_left)
    refine ⟨_, .seq rfl, fun j Γ' => ∃ b : Option O, Γ' = [some (O.d (.lst (ns.map nD))), some (O.d (nlD N ns)), some (O.d (.lst (c.map nD))), some (O.d (.lst ((List.range (c.length + 1)).map (tbD N ns)))), some (O.d (.int (1 + (i : Int)))), b, none], ⟨b, rfl⟩, ?_, ?_⟩
    · rintro j x _ hx ⟨b, rfl⟩
      obtain ⟨v, hv, rfl⟩ := mapD_get hx
      have hvn := List.mem_of_getElem? hv
      have hnm : v ∉ rchN N (i + 1) v := fun h => by
        obtain ⟨c', h1, h2⟩ := wkN_ring (hp5 v hvn) (rchN_mem.mp h)
        have := slN_trans_len (hleast v hvn c' h1)
        omega
      have hdn := mo_none (h := fun _ => D.bl true) hnm
      have hd2 : ¬ (dval (mo (fun _ => D.bl true) (rchN N (i + 1) v)) (nk v)).isSome = true := by rw [hdn]; simp
      (walk_at "x7"; (with_reducible refine gos_if ?_); (with_reducible refine got_test ?_); (with_reducible refine go_op ?_); walk_at "x0"; (with_reducible refine go_op ?_); (with_reducible refine go_op ?_); walk_at "x0"; walk_at "x0"; walk_at "x2"; (focus skip); rotate_left)
      refine o2_ix rfl (by rw [show (1 : Int) + (i : Int) = ((i + 1 : Nat) : Int) by omega]; exact htb _ (by omega)) ?_
      (walk_at "x0"; walk_at "x2"; (focus skip); rotate_left)
      refine o2_ixT (mo_val hvn) ?_
      (walk_at "x2"; (with_reducible refine o2_inT ?_); walk_at "x3"; walk_at "x4"; (with_reducible refine gos_ret ?_); (with_reducible refine go_bl ?_); walk_at "x2"; (focus skip); rotate_left; (with_reducible refine gos_next ?_); walk_at "x2"; (focus skip); rotate_left)
      · rename_i hc; exact absurd hc hd2
      exact ⟨some (O.d (nD v)), rfl⟩
    · rintro _ ⟨b, rfl⟩
      exact ⟨_, _, rfl⟩
  rintro _ ⟨a, b, rfl⟩
  ((with_reducible refine gos_sF ?_); (with_reducible refine gos_for ?_); (with_reducible refine goi_seq ?_); walk_at "x0"; walk_at "x2"; (focus skip); rotate_left)
  refine ⟨_, .seq rfl, fun j Γ' => ∃ b : Option O, Γ' = [some (O.d (.lst (ns.map nD))), some (O.d (nlD N ns)), some (O.d (.lst (c.map nD))), some (O.d (.lst ((List.range (c.length + 1)).map (tbD N ns)))), a, b, none], ⟨b, rfl⟩, ?_, ?_⟩
  · rintro j x _ hx ⟨b, rfl⟩
    obtain ⟨v, hv, rfl⟩ := mapD_get hx
    have hvn := List.mem_of_getElem? hv
    have hnm : nlt v s → v ∉ rchN N c.length v := fun hlt h => by
      obtain ⟨k, hk⟩ : ∃ k, c.length = k + 1 := ⟨c.length - 1, by omega⟩
      rw [hk] at h
      obtain ⟨c', h1, h2⟩ := wkN_ring (hp5 v hvn) (rchN_mem.mp h)
      obtain ⟨y, r, e1, _⟩ := hR
      obtain ⟨y', r', e2, _⟩ := id h1
      rcases hleast v hvn c' h1 with q | ⟨_, q | q⟩
      · omega
      · rw [e1, e2] at q
        have : s = v := by injection q
        rw [this] at hlt; exact nlt_irr hlt
      · rw [e1, e2] at q
        rcases q with q | ⟨q, _⟩
        · exact nlt_irr (nlt_tr q hlt)
        · rw [q] at hlt; exact nlt_irr hlt
    have hd2 : nlt v s → ¬ (dval (mo (fun _ => D.bl true) (rchN N c.length v)) (nk v)).isSome = true := fun hlt => by rw [mo_none (h := fun _ => D.bl true) (hnm hlt)]; simp
    (walk_at "x7"; (with_reducible refine gos_if ?_); (with_reducible refine got_and ?_); (with_reducible refine got_test ?_); (with_reducible refine go_op ?_); walk_at "x0"; (with_reducible refine go_op ?_); walk_at "x0"; (with_reducible refine go_int ?_); walk_at "x2"; (focus skip); rotate_left)
    refine o2_ix rfl hc0a ?_
    (walk_at "x2"; (focus skip); rotate_left)
    refine o2_ltD (b := true) rfl rfl rfl (fun e => by cases e) dep_nD ?_
    rw [nlt_py]
    (walk_at "x3"; walk_at "x4"; (with_reducible refine got_test ?_); (with_reducible refine go_op ?_); walk_at "x0"; (with_reducible refine go_op ?_); (with_reducible refine go_op ?_); walk_at "x0"; (with_reducible refine go_cb ?_); (with_reducible refine goa_cons ?_); walk_at "x0"; (with_reducible refine goa_nil ?_); walk_at "x1"; walk_at "x2"; (focus skip); rotate_left; walk_at "x4"; (with_reducible refine gos_next ?_); walk_at "x2"; (focus skip); rotate_left)
    · rename_i hlt
      refine o2_ix rfl (by rw [hlm]; exact htb _ (Nat.le_refl _)) ?_
      (walk_at "x0"; walk_at "x2"; (focus skip); rotate_left)
      refine o2_ixT (mo_val hvn) ?_
      (walk_at "x2"; (with_reducible refine o2_inT ?_); walk_at "x3"; walk_at "x4"; (with_reducible refine gos_ret ?_); (with_reducible refine go_bl ?_); walk_at "x2"; (focus skip); rotate_left; (with_reducible refine gos_next ?_); walk_at "x2"; (focus skip); rotate_left)
      · rename_i hc; exact absurd hc (hd2 hlt)
      exact ⟨some (O.d (nD v)), rfl⟩
    · exact ⟨some (O.d (nD v)), rfl⟩
  rintro _ ⟨b, rfl⟩
  ((with_reducible refine gos_sF ?_); (with_reducible refine gos_for ?_); (with_reducible refine goi_rng2 ?_); (with_reducible refine goa_cons ?_); (with_reducible refine go_int ?_); (with_reducible refine goa_cons ?_); (with_reducible refine go_cb ?_); (with_reducible refine goa_cons ?_); walk_at "x0"; (with_reducible refine goa_nil ?_); walk_at "x1"; (with_reducible refine goa_nil ?_); walk_at "x2"; walk_at "x5"; walk_at "x6"; (focus skip); rotate_left)
  refine ⟨fun i Γ' => ∃ a b c2 : Option O, Γ' = [some (O.d (.lst (ns.map nD))), some (O.d (nlD N ns)), some (O.d (.lst (c.map nD))), some (O.d (.lst ((List.range (c.length + 1)).map (tbD N ns)))), a, b, c2], ⟨a, b, none, rfl⟩, ?_, ?_⟩
  · rintro i x _ hx ⟨a, b, c2, rfl⟩
    obtain ⟨hi, rfl⟩ := rngD_get hx
    rw [hlm] at hi
    have hi1 : i + 1 < c.length := by omega
    have hx1 : c[i]? = some c[i] := List.getElem?_eq_getElem (by omega)
    have hy1 : c[i + 1]? = some c[i + 1] := List.getElem?_eq_getElem hi1
    generalize c[i] = x1 at hx1
    generalize c[i + 1] = y1 at hy1
    have hax : atI (c.map nD) (1 + (i : Int) - 1) = some (nD x1) := by rw [show (1 : Int) + (i : Int) - 1 = (i : Int) by omega]; exact atI_ofN.trans (by rw [List.getElem?_map, hx1]; rfl)
    have hay : atI (c.map nD) (1 + (i : Int)) = some (nD y1) := by rw [show (1 : Int) + (i : Int) = ((i + 1 : Nat) : Int) by omega]; exact atI_ofN.trans (by rw [List.getElem?_map, hy1]; rfl)
    have hx1n := hcn x1 (List.mem_of_getElem? hx1)
    (walk_at "x7"; (with_reducible refine gos_for ?_); (with_reducible refine goi_seq ?_); (with_reducible refine go_op ?_); walk_at "x0"; (with_reducible refine go_op ?_); walk_at "x0"; (with_reducible refine go_op ?_); walk_at "x0"; (with_reducible refine go_int ?_); walk_at "x2"; (with_reducible refine o2_sub ?_); walk_at "x2"; (focus skip); rotate_left)
    refine o2_ix rfl hax ?_
    (walk_at "x2"; (focus skip); rotate_left)
    refine o2_ixT (mo_val hx1n) ?_
    (walk_at "x2"; (focus skip); rotate_left)
    refine ⟨_, .seq rfl, fun j Γ' => ∃ c2 : Option O, Γ' = [some (O.d (.lst (ns.map nD))), some (O.d (nlD N ns)), some (O.d (.lst (c.map nD))), some (O.d (.lst ((List.range (c.length + 1)).map (tbD N ns)))), some (O.d (.int (1 + (i : Int)))), b, c2], ⟨c2, rfl⟩, ?_, ?_⟩
    · rintro j x _ hx ⟨c2, rfl⟩
      obtain ⟨o, ho, rfl⟩ := mapD_get hx
      have hoN := List.mem_of_getElem? ho
      have hon := hp3 x1 hx1n o hoN
      have hd2 : nlt o y1 → ¬ (dval (mo (fun _ => D.bl true) (rchN N (c.length - (i + 1)) o)) (nk s)).isSome = true := fun hlt => by rw [mo_none (h := fun _ => D.bl true) fun q => rg_no_less hR hl2 hx1 hy1 hoN hlt (rchN_mem.mp q)]; simp
      (walk_at "x7"; (with_reducible refine gos_if ?_); (with_reducible refine got_and ?_); (with_reducible refine got_test ?_); (with_reducible refine go_op ?_); walk_at "x0"; (with_reducible refine go_op ?_); walk_at "x0"; walk_at "x0"; walk_at "x2"; (focus skip); rotate_left)
      refine o2_ix rfl hay ?_
      (walk_at "x2"; (focus skip); rotate_left)
      refine o2_ltD (b := true) rfl rfl rfl (fun e => by cases e) dep_nD ?_
      rw [nlt_py]
      (walk_at "x3"; walk_at "x4"; (with_reducible refine got_test ?_); (with_reducible refine go_op ?_); (with_reducible refine go_op ?_); walk_at "x0"; (with_reducible refine go_int ?_); walk_at "x2"; (focus skip); rotate_left; walk_at "x4"; (with_reducible refine gos_next ?_); walk_at "x2"; (focus skip); rotate_left)
      · rename_i hlt
        refine o2_ix rfl hc0a ?_
        ((with_reducible refine go_op ?_); (with_reducible refine go_op ?_); walk_at "x0"; (with_reducible refine go_op ?_); (with_reducible refine go_cb ?_); (with_reducible refine goa_cons ?_); walk_at "x0"; (with_reducible refine goa_nil ?_); walk_at "x1"; walk_at "x0"; walk_at "x2"; (with_reducible refine o2_sub ?_); walk_at "x2"; (focus skip); rotate_left)
        refine o2_ix rfl (by rw [hlm, show (c.length : Int) - (1 + (i : Int)) = ((c.length - (i + 1) : Nat) : Int) by omega]; exact htb _ (by omega)) ?_
        (walk_at "x0"; walk_at "x2"; (focus skip); rotate_left)
        refine o2_ixT (mo_val hon) ?_
        (walk_at "x2"; (with_reducible refine o2_inT ?_); walk_at "x3"; walk_at "x4"; (with_reducible refine gos_ret ?_); (with_reducible refine go_bl ?_); walk_at "x2"; (focus skip); rotate_left; (with_reducible refine gos_next ?_); walk_at "x2"; (focus skip); rotate_left)
        · rename_i hc; exact absurd hc (hd2 hlt)
        exact ⟨some (O.d (nD o)), rfl⟩
      · exact ⟨some (O.d (nD o)), rfl⟩
    · rintro _ ⟨c2, rfl⟩
      exact ⟨_, _, _, rfl⟩
  rintro _ ⟨a, b, c2, rfl⟩
  ((with_reducible refine gos_ret ?_); (with_reducible refine go_bl ?_); walk_at "x2")
theorem cal_law (D : Df K mg "law" s_law) (c__law_nodes : Cal P w K mg base "_law_nodes" 2 ["_law_script", "_law_most"] (C__law_nodes mg)) (c__law_pairs : Cal P w K mg base "_law_pairs" 2 ["_law_script", "_law_nodes_here"] (C__law_pairs mg)) (c__law_nexts : Cal P w K mg base "_law_nexts" 1 ["_law_nodes_here", "_law_pairs_here"] (C__law_nexts mg)) (c_least_ring : Cal P w K mg base "least_ring" 3 ["nodes", "pairs"] (C_least_ring mg)) (c__law_none : Cal P w K mg base "_law_none" 2 ["_law_nodes_here", "_law_nexts_here"] (C__law_none mg)) (c__law_is_chain : Cal P w K mg base "_law_is_chain" 2 ["_law_found", "_law_nodes_here", "_law_nexts_here"] (C__law_is_chain mg)) (c__law_no_less : Cal P w K mg base "_law_no_less" 2 ["_law_nodes_here", "_law_nexts_here", "_law_chain"] (C__law_no_less mg)) (b_list : mg "list" = none) : Cal P w K mg base "law" 4 ["_law_script"] C_law := by
  obtain ⟨f, fd, F, mf⟩ := D
  obtain ⟨f__law_nodes, fd__law_nodes, G__law_nodes, g__law_nodes, k__law_nodes, bn__law_nodes, _⟩ := c__law_nodes
  obtain ⟨f__law_pairs, fd__law_pairs, G__law_pairs, g__law_pairs, k__law_pairs, bn__law_pairs, _⟩ := c__law_pairs
  obtain ⟨f__law_nexts, fd__law_nexts, G__law_nexts, g__law_nexts, k__law_nexts, bn__law_nexts, _⟩ := c__law_nexts
  obtain ⟨f_least_ring, fd_least_ring, G_least_ring, g_least_ring, k_least_ring, bn_least_ring, _⟩ := c_least_ring
  obtain ⟨f__law_none, fd__law_none, G__law_none, g__law_none, k__law_none, bn__law_none, _⟩ := c__law_none
  obtain ⟨f__law_is_chain, fd__law_is_chain, G__law_is_chain, g__law_is_chain, k__law_is_chain, bn__law_is_chain, _⟩ := c__law_is_chain
  obtain ⟨f__law_no_less, fd__law_no_less, G__law_no_less, g__law_no_less, k__law_no_less, bn__law_no_less, _⟩ := c__law_no_less
  refine ⟨f, fd, ?_, mf, F.kp, F.binds (ps := ["_law_script"]) fun _ _ _ _ _ _ us hl => match us, hl with | [_], _ => rfl, Fun.lk F⟩
  refine F.ok sc_law (fun vs H Q E hS0 => spP_len (n := 1) (fun xs p q c0 => by obtain ⟨ns, rfl, _⟩ := c0; rfl) hS0) (fun cdv A outer s H vs Q E hr hS0 => ?_)
  have hu := hu_of hr
  refine sp_body hS0 (fun B xs p q c0 hl0 wx => ?_)
  obtain ⟨ns, rfl, hlen, hbits, rfl, rfl⟩ := c0
  refine ⟨_, (pss_cons (ps_asg (pe_call G__law_nodes (hr.mono (by decide)) rfl g__law_nodes k__law_nodes bn__law_nodes .nil pass0 (pa_cons (pv 0) (pa_cons pe_int pa_nil))) (pg_name (i := 1) sc_law.nd rfl (by first | exact Or.inl rfl | exact Or.inr rfl)))
      (pss_cons (ps_asg (pe_call G__law_pairs (hr.mono (by decide)) rfl g__law_pairs k__law_pairs bn__law_pairs .nil pass0 (pa_cons (pv 0) (pa_cons (pv 1) pa_nil))) (pg_name (i := 2) sc_law.nd rfl (by first | exact Or.inl rfl | exact Or.inr rfl)))
      (pss_cons (ps_asg (pe_callTy (k_list (K := K) rfl rfl) (by rfl) b_list (by decide +kernel) (pa_cons (pv 1) pa_nil)) (pg_name (i := 3) sc_law.nd rfl (by first | exact Or.inl rfl | exact Or.inr rfl)))
      (pss_cons (ps_asg (pe_callTy (k_list (K := K) rfl rfl) (by rfl) b_list (by decide +kernel) (pa_cons (pv 2) pa_nil)) (pg_name (i := 4) sc_law.nd rfl (by first | exact Or.inl rfl | exact Or.inr rfl)))
      (pss_cons (ps_asg (pe_call G__law_nexts (hr.mono (by decide)) rfl g__law_nexts k__law_nexts bn__law_nexts .nil pass0 (pa_cons (pv 1) (pa_cons (pv 2) pa_nil))) (pg_name (i := 5) sc_law.nd rfl (by first | exact Or.inl rfl | exact Or.inr rfl)))
      (pss_cons (ps_asg (pe_call G_least_ring hr rfl g_least_ring k_least_ring bn_least_ring .nil pass0 (pa_cons (pv 3) (pa_cons (pv 4) pa_nil))) (pg_name (i := 6) sc_law.nd rfl (by first | exact Or.inl rfl | exact Or.inr rfl)))
      (pss_cons (ps_if (PW.pt (pw_or (pt_cmpR (k_ne (K := K) rfl hr.units) (pv 3) (pv 1) (nomark _)) (pw_or1 (pt_cmpR (k_ne (K := K) rfl hr.units) (pv 4) (pv 2) (nomark _)))))
        (pss_one (ps_ret pe_bl))
        pss_nil)
      (pss_cons (ps_if (pt_lend (pt_cmpR op_isG (pv 6) pe_non (nomark _)))
        (pss_one (ps_ret (pe_and (pe_call G__law_none (hr.mono (by decide)) rfl g__law_none k__law_none bn__law_none .nil pass0 (pa_cons (pv 1) (pa_cons (pv 5) pa_nil))) (pe_one (pe_cmpR op_isG (pe_call G_least_ring hr rfl g_least_ring k_least_ring bn_least_ring .nil pass0 (pa_cons (pv 3) (pa_cons (pv 4) pa_nil))) pe_non (nomark _))))))
        pss_nil)
      (pss_cons (ps_if (pt_lend (PW.pt (pw_or (pt_not (pt_val (pe_call G__law_is_chain (hr.mono (by decide)) rfl g__law_is_chain k__law_is_chain bn__law_is_chain .nil pass0 (pa_cons (pv 6) (pa_cons (pv 1) (pa_cons (pv 5) pa_nil)))))) (pw_or1 (pt_not (pt_val (pe_call G__law_no_less (hr.mono (by decide)) rfl g__law_no_less k__law_no_less bn__law_no_less .nil pass0 (pa_cons (pv 1) (pa_cons (pv 5) (pa_cons (pv 6) pa_nil))))))))))
        (pss_one (ps_ret pe_bl))
        pss_nil)
      (pss_cons (ps_asg (pe_lend (pe_lend (pe_callTy (k_list (K := K) rfl rfl) (by rfl) b_list (by decide +kernel) (pa_cons (pv 6) pa_nil)))) (pg_name (i := 7) sc_law.nd rfl (by first | exact Or.inl rfl | exact Or.inr rfl)))
      (pss_cons (ps_expr (k_bm0 (K := K) rfl (pe_bm0 PySem.F.plainAttrs_list PySem.F.slot_list_clear PySem.F.type_list_clear mt_clear (pv 6))))
      (pss_one (ps_ret (pe_cmpR (k_eq (K := K) rfl hr.units) (pe_call G_least_ring hr rfl g_least_ring k_least_ring bn_least_ring .nil pass0 (pa_cons (pv 3) (pa_cons (pv 4) pa_nil))) (pv 7) (nomark _))))))))))))))), ?_⟩
  clear hS0 hl0 hr hu wx G__law_nodes g__law_nodes k__law_nodes bn__law_nodes G__law_pairs g__law_pairs k__law_pairs bn__law_pairs G__law_nexts g__law_nexts k__law_nexts bn__law_nexts G_least_ring g_least_ring k_least_ring bn_least_ring G__law_none g__law_none k__law_none bn__law_none G__law_is_chain g__law_is_chain k__law_is_chain bn__law_is_chain G__law_no_less g__law_no_less k__law_no_less bn__law_no_less b_list
  simp only [List.map_cons, List.map_nil, List.length_cons, List.length_nil, List.cons_append, List.nil_append, Nat.reduceAdd, Nat.reduceSub, List.replicate_succ, List.replicate_zero, N_law]
  ((with_reducible refine gos_sA ?_); (with_reducible refine gos_asg ?_); walk_at "x2"; (with_reducible refine call__law_nodes ?_); (with_reducible refine goa_cons ?_); walk_at "x0"; (with_reducible refine goa_cons ?_); (with_reducible refine go_int ?_); (with_reducible refine goa_nil ?_); walk_at "x2"; walk_at "x5"; walk_at "x2"; walk_at "x6"; (focus skip); rotate_left)
  rintro _ ⟨l, hok, rfl⟩
  have hl9 := hok.ln
  have hnd := hok.nd
  (walk_at "x7"; (with_reducible refine gos_sA ?_); (with_reducible refine gos_asg ?_); walk_at "x2"; (with_reducible refine call__law_pairs ?_); (with_reducible refine goa_cons ?_); walk_at "x0"; (with_reducible refine goa_cons ?_); walk_at "x28"; (with_reducible refine goa_nil ?_); walk_at "x5"; walk_at "x6"; walk_at "x6"; walk_at "x6"; (focus skip); rotate_left)
  rintro _ ⟨ps, hps, hmem, hne, rfl⟩
  have hN1 : ∀ v ∈ l, ∀ x ∈ nxs ps v, x ∈ l := fun v _ x hx => (hmem _ (nxs_mem.mp hx)).2
  have hN2 : ∀ v, (nxs ps v).length ≤ 60 := fun v => Nat.le_trans nxs_len hps
  have hN3 : ∀ v ∈ l, v ∉ nxs ps v := fun v _ h => hne _ (nxs_mem.mp h) rfl
  (walk_at "x7"; (with_reducible refine gos_sA ?_); (with_reducible refine gos_asg ?_); (with_reducible refine go_cb ?_); (with_reducible refine goa_cons ?_); walk_at "x0"; (with_reducible refine goa_nil ?_); walk_at "x2"; (focus skip); rotate_left)
  refine oa_list rfl ?_
  (walk_at "x7"; (with_reducible refine gos_sA ?_); (with_reducible refine gos_asg ?_); (with_reducible refine go_cb ?_); (with_reducible refine goa_cons ?_); walk_at "x28"; (with_reducible refine goa_nil ?_); (focus skip); rotate_left)
  refine oa_list rfl ?_
  (walk_at "x7"; (with_reducible refine gos_sA ?_); (with_reducible refine gos_asg ?_); walk_at "x2"; (with_reducible refine call__law_nexts ?_); (with_reducible refine goa_cons ?_); walk_at "x0"; (with_reducible refine goa_cons ?_); walk_at "x0"; (with_reducible refine goa_nil ?_); walk_at "x2"; walk_at "x5"; walk_at "x6"; walk_at "x6"; walk_at "x6"; walk_at "x6"; walk_at "x7"; (with_reducible refine gos_sA ?_); (with_reducible refine gos_asg ?_); walk_at "x2"; (with_reducible refine call_least_ring ?_); (with_reducible refine goa_cons ?_); walk_at "x28"; (with_reducible refine goa_cons ?_); walk_at "x28"; (with_reducible refine goa_nil ?_); walk_at "x5"; walk_at "x6"; walk_at "x6"; walk_at "x6"; walk_at "x6"; walk_at "x6"; (focus skip); rotate_left)
  rintro _ ⟨r, hr, rfl⟩
  have hrN : LrOk (nxs ps) l r := hr.rel fun v x => by rw [outs_iff, nxs_mem]
  (walk_at "x7"; (with_reducible refine gos_sIR ?_); (with_reducible refine gos_if ?_); (with_reducible refine got_or ?_); (with_reducible refine got_test ?_); (with_reducible refine go_op ?_); walk_at "x0"; walk_at "x0"; walk_at "x2"; (focus skip); rotate_left)
  refine o2_neSame 2 (Shp.lstM fun _ => nD_shp) (by decide) ?_
  (walk_at "x3"; walk_at "x2"; walk_at "x4"; (with_reducible refine got_test ?_); (with_reducible refine go_op ?_); walk_at "x0"; walk_at "x0"; walk_at "x2"; (focus skip); rotate_left)
  cases r with
  | none =>
    simp only [orD]
    refine o2_neSame 3 (Shp.lstM fun _ => shp_pD) (by decide) ?_
    (walk_at "x3"; walk_at "x2"; walk_at "x4"; (with_reducible refine gos_next ?_); (with_reducible refine gos_sIR ?_); (with_reducible refine gos_if ?_); walk_at "x18"; (with_reducible refine got_test ?_); (with_reducible refine go_op ?_); walk_at "x0"; (with_reducible refine go_non ?_); walk_at "x2"; walk_at "x20"; walk_at "x3"; walk_at "x2"; walk_at "x4"; (with_reducible refine gos_ret ?_); (with_reducible refine go_andV ?_); walk_at "x2"; (with_reducible refine call__law_none ?_); (with_reducible refine goa_cons ?_); walk_at "x0"; (with_reducible refine goa_cons ?_); walk_at "x28"; (with_reducible refine goa_nil ?_); walk_at "x5"; walk_at "x6"; walk_at "x6"; walk_at "x6"; walk_at "x6"; walk_at "x6"; walk_at "x6"; walk_at "x3"; walk_at "x2"; walk_at "x4"; (with_reducible refine go_op ?_); (with_reducible refine call_least_ring ?_); (with_reducible refine goa_cons ?_); walk_at "x0"; (with_reducible refine goa_cons ?_); walk_at "x0"; (with_reducible refine goa_nil ?_); walk_at "x2"; walk_at "x5"; walk_at "x6"; walk_at "x6"; walk_at "x6"; walk_at "x6"; walk_at "x6"; (focus skip); rotate_left)
    rintro _ ⟨r', hr', rfl⟩
    rw [← hr.uniq hr']
    simp only [orD]
    ((with_reducible refine go_non ?_); walk_at "x2"; walk_at "x20")
  | some c =>
    have hch : ChOk l (nxs ps) c := ⟨hrN.ye c rfl⟩
    have hc12 : c.length ≤ 12 := by
      obtain ⟨s, hs, hR, hcn, _⟩ := hrN.ye c rfl
      have := nd_len hcn (hR.mem hs hN1)
      omega
    simp only [orD]
    refine o2_neSame 3 (Shp.lstM fun _ => shp_pD) (by decide) ?_
    (walk_at "x3"; walk_at "x2"; walk_at "x4"; (with_reducible refine gos_next ?_); (with_reducible refine gos_sIR ?_); (with_reducible refine gos_if ?_); walk_at "x18"; (with_reducible refine got_test ?_); (with_reducible refine go_op ?_); walk_at "x0"; (with_reducible refine go_non ?_); walk_at "x2"; walk_at "x20"; walk_at "x3"; walk_at "x2"; walk_at "x4"; (with_reducible refine gos_next ?_); (with_reducible refine gos_sIR ?_); (with_reducible refine gos_if ?_); walk_at "x18"; (with_reducible refine got_or ?_); (with_reducible refine got_not ?_); (with_reducible refine got_B ?_); walk_at "x2"; (with_reducible refine call__law_is_chain ?_); (with_reducible refine goa_cons ?_); walk_at "x0"; (with_reducible refine goa_cons ?_); walk_at "x0"; (with_reducible refine goa_cons ?_); walk_at "x0"; (with_reducible refine goa_nil ?_); walk_at "x2"; walk_at "x22"; walk_at "x6"; walk_at "x6"; walk_at "x6"; walk_at "x6"; walk_at "x6"; walk_at "x6"; walk_at "x3"; walk_at "x4"; (with_reducible refine got_not ?_); (with_reducible refine got_B ?_); (with_reducible refine call__law_no_less ?_); (with_reducible refine goa_cons ?_); walk_at "x0"; (with_reducible refine goa_cons ?_); walk_at "x0"; (with_reducible refine goa_cons ?_); walk_at "x0"; (with_reducible refine goa_nil ?_); walk_at "x2"; walk_at "x22"; walk_at "x6"; walk_at "x6"; walk_at "x6"; walk_at "x6"; walk_at "x6"; walk_at "x6"; walk_at "x6"; walk_at "x3"; walk_at "x4"; (with_reducible refine gos_next ?_); (with_reducible refine gos_sA ?_); (with_reducible refine gos_asg ?_); walk_at "x23"; walk_at "x23"; (with_reducible refine go_cb ?_); (with_reducible refine goa_cons ?_); walk_at "x0"; (with_reducible refine goa_nil ?_); walk_at "x2"; (focus skip); rotate_left)
    refine oa_list rfl ?_
    refine ⟨lfOLm fun _ => rfl, lfOLm fun _ => rfl, ?_⟩
    (walk_at "x7"; (with_reducible refine gos_sD ?_); walk_at "x32"; (with_reducible refine gos_ret ?_); (with_reducible refine go_op ?_); walk_at "x2"; (with_reducible refine call_least_ring ?_); (with_reducible refine goa_cons ?_); walk_at "x0"; (with_reducible refine goa_cons ?_); walk_at "x0"; (with_reducible refine goa_nil ?_); walk_at "x2"; walk_at "x5"; walk_at "x6"; walk_at "x6"; walk_at "x6"; walk_at "x6"; walk_at "x6"; (focus skip); rotate_left)
    rintro _ ⟨r', hr', rfl⟩
    rw [← hr.uniq hr']
    simp only [orD]
    (walk_at "x28"; (focus skip); rotate_left)
    exact o2_eqSame 2 (Shp.lstM fun _ => nD_shp) (by decide) rfl
end
theorem all_mk {P : Program} {w : World} {K : PySem.W.Frag} {h : Heap} {mg : Str → Option Value} {fa : Addr} (X : K.In h) (G : h.Ns mainGlobals mg) (hfa : mg "law" = some (.ref fa))
    {f0 : Addr} {oc0 kV0 dc0 pm0 cd0 ct0 : Value} {od0 an0 : Option Addr} {sl0 : Array (Option Value)}
    {f1 : Addr} {oc1 kV1 dc1 pm1 cd1 ct1 : Value} {od1 an1 : Option Addr} {sl1 : Array (Option Value)}
    {f2 : Addr} {oc2 kV2 dc2 pm2 cd2 ct2 : Value} {od2 an2 : Option Addr} {sl2 : Array (Option Value)}
    {f3 : Addr} {oc3 kV3 dc3 pm3 cd3 ct3 : Value} {od3 an3 : Option Addr} {sl3 : Array (Option Value)}
    {f4 : Addr} {oc4 kV4 dc4 pm4 cd4 ct4 : Value} {od4 an4 : Option Addr} {sl4 : Array (Option Value)}
    {f5 : Addr} {oc5 kV5 dc5 pm5 cd5 ct5 : Value} {od5 an5 : Option Addr} {sl5 : Array (Option Value)}
    {f6 : Addr} {oc6 kV6 dc6 pm6 cd6 ct6 : Value} {od6 an6 : Option Addr} {sl6 : Array (Option Value)}
    {f7 : Addr} {oc7 kV7 dc7 pm7 cd7 ct7 : Value} {od7 an7 : Option Addr} {sl7 : Array (Option Value)}
    {f8 : Addr} {oc8 kV8 dc8 pm8 cd8 ct8 : Value} {od8 an8 : Option Addr} {sl8 : Array (Option Value)}
    {f9 : Addr} {oc9 kV9 dc9 pm9 cd9 ct9 : Value} {od9 an9 : Option Addr} {sl9 : Array (Option Value)}
    {f10 : Addr} {oc10 kV10 dc10 pm10 cd10 ct10 : Value} {od10 an10 : Option Addr} {sl10 : Array (Option Value)}
    {f11 : Addr} {oc11 kV11 dc11 pm11 cd11 ct11 : Value} {od11 an11 : Option Addr} {sl11 : Array (Option Value)}
    {f12 : Addr} {oc12 kV12 dc12 pm12 cd12 ct12 : Value} {od12 an12 : Option Addr} {sl12 : Array (Option Value)}
    {f13 : Addr} {oc13 kV13 dc13 pm13 cd13 ct13 : Value} {od13 an13 : Option Addr} {sl13 : Array (Option Value)}
    (a0 : PySem.W.nsIn K mainGlobals "_law_cell_at" = some (some (.ref f0))) (l0 : K.lookup f0 = some ⟨oc0, od0, .func (PySem.W.fnOf "_law_cell_at" "_law_cell_at" (defArgs s__law_cell_at) (defBody s__law_cell_at) (defScope s__law_cell_at) .none kV0 dc0 pm0 an0 cd0 ct0), sl0⟩) (c0 : PySem.W.codeIn K cd0 "_law_cell_at" = true) (k0 : PySem.W.keepIn K (.ref f0) = true)
    (a1 : PySem.W.nsIn K mainGlobals "_law_nodes" = some (some (.ref f1))) (l1 : K.lookup f1 = some ⟨oc1, od1, .func (PySem.W.fnOf "_law_nodes" "_law_nodes" (defArgs s__law_nodes) (defBody s__law_nodes) (defScope s__law_nodes) .none kV1 dc1 pm1 an1 cd1 ct1), sl1⟩) (c1 : PySem.W.codeIn K cd1 "_law_nodes" = true) (k1 : PySem.W.keepIn K (.ref f1) = true)
    (a2 : PySem.W.nsIn K mainGlobals "_law_pairs" = some (some (.ref f2))) (l2 : K.lookup f2 = some ⟨oc2, od2, .func (PySem.W.fnOf "_law_pairs" "_law_pairs" (defArgs s__law_pairs) (defBody s__law_pairs) (defScope s__law_pairs) .none kV2 dc2 pm2 an2 cd2 ct2), sl2⟩) (c2 : PySem.W.codeIn K cd2 "_law_pairs" = true) (k2 : PySem.W.keepIn K (.ref f2) = true)
    (a3 : PySem.W.nsIn K mainGlobals "_law_nexts" = some (some (.ref f3))) (l3 : K.lookup f3 = some ⟨oc3, od3, .func (PySem.W.fnOf "_law_nexts" "_law_nexts" (defArgs s__law_nexts) (defBody s__law_nexts) (defScope s__law_nexts) .none kV3 dc3 pm3 an3 cd3 ct3), sl3⟩) (c3 : PySem.W.codeIn K cd3 "_law_nexts" = true) (k3 : PySem.W.keepIn K (.ref f3) = true)
    (a4 : PySem.W.nsIn K mainGlobals "nearest" = some (some (.ref f4))) (l4 : K.lookup f4 = some ⟨oc4, od4, .func (PySem.W.fnOf "nearest" "nearest" (defArgs s_nearest) (defBody s_nearest) (defScope s_nearest) .none kV4 dc4 pm4 an4 cd4 ct4), sl4⟩) (c4 : PySem.W.codeIn K cd4 "nearest" = true) (k4 : PySem.W.keepIn K (.ref f4) = true)
    (a5 : PySem.W.nsIn K mainGlobals "ring_through" = some (some (.ref f5))) (l5 : K.lookup f5 = some ⟨oc5, od5, .func (PySem.W.fnOf "ring_through" "ring_through" (defArgs s_ring_through) (defBody s_ring_through) (defScope s_ring_through) .none kV5 dc5 pm5 an5 cd5 ct5), sl5⟩) (c5 : PySem.W.codeIn K cd5 "ring_through" = true) (k5 : PySem.W.keepIn K (.ref f5) = true)
    (a6 : PySem.W.nsIn K mainGlobals "steps_to" = some (some (.ref f6))) (l6 : K.lookup f6 = some ⟨oc6, od6, .func (PySem.W.fnOf "steps_to" "steps_to" (defArgs s_steps_to) (defBody s_steps_to) (defScope s_steps_to) .none kV6 dc6 pm6 an6 cd6 ct6), sl6⟩) (c6 : PySem.W.codeIn K cd6 "steps_to" = true) (k6 : PySem.W.keepIn K (.ref f6) = true)
    (a7 : PySem.W.nsIn K mainGlobals "least_ring" = some (some (.ref f7))) (l7 : K.lookup f7 = some ⟨oc7, od7, .func (PySem.W.fnOf "least_ring" "least_ring" (defArgs s_least_ring) (defBody s_least_ring) (defScope s_least_ring) .none kV7 dc7 pm7 an7 cd7 ct7), sl7⟩) (c7 : PySem.W.codeIn K cd7 "least_ring" = true) (k7 : PySem.W.keepIn K (.ref f7) = true)
    (a8 : PySem.W.nsIn K mainGlobals "_law_walks" = some (some (.ref f8))) (l8 : K.lookup f8 = some ⟨oc8, od8, .func (PySem.W.fnOf "_law_walks" "_law_walks" (defArgs s__law_walks) (defBody s__law_walks) (defScope s__law_walks) .none kV8 dc8 pm8 an8 cd8 ct8), sl8⟩) (c8 : PySem.W.codeIn K cd8 "_law_walks" = true) (k8 : PySem.W.keepIn K (.ref f8) = true)
    (a9 : PySem.W.nsIn K mainGlobals "_law_none" = some (some (.ref f9))) (l9 : K.lookup f9 = some ⟨oc9, od9, .func (PySem.W.fnOf "_law_none" "_law_none" (defArgs s__law_none) (defBody s__law_none) (defScope s__law_none) .none kV9 dc9 pm9 an9 cd9 ct9), sl9⟩) (c9 : PySem.W.codeIn K cd9 "_law_none" = true) (k9 : PySem.W.keepIn K (.ref f9) = true)
    (a10 : PySem.W.nsIn K mainGlobals "_law_whole" = some (some (.ref f10))) (l10 : K.lookup f10 = some ⟨oc10, od10, .func (PySem.W.fnOf "_law_whole" "_law_whole" (defArgs s__law_whole) (defBody s__law_whole) (defScope s__law_whole) .none kV10 dc10 pm10 an10 cd10 ct10), sl10⟩) (c10 : PySem.W.codeIn K cd10 "_law_whole" = true) (k10 : PySem.W.keepIn K (.ref f10) = true)
    (a11 : PySem.W.nsIn K mainGlobals "_law_is_chain" = some (some (.ref f11))) (l11 : K.lookup f11 = some ⟨oc11, od11, .func (PySem.W.fnOf "_law_is_chain" "_law_is_chain" (defArgs s__law_is_chain) (defBody s__law_is_chain) (defScope s__law_is_chain) .none kV11 dc11 pm11 an11 cd11 ct11), sl11⟩) (c11 : PySem.W.codeIn K cd11 "_law_is_chain" = true) (k11 : PySem.W.keepIn K (.ref f11) = true)
    (a12 : PySem.W.nsIn K mainGlobals "_law_no_less" = some (some (.ref f12))) (l12 : K.lookup f12 = some ⟨oc12, od12, .func (PySem.W.fnOf "_law_no_less" "_law_no_less" (defArgs s__law_no_less) (defBody s__law_no_less) (defScope s__law_no_less) .none kV12 dc12 pm12 an12 cd12 ct12), sl12⟩) (c12 : PySem.W.codeIn K cd12 "_law_no_less" = true) (k12 : PySem.W.keepIn K (.ref f12) = true)
    (a13 : PySem.W.nsIn K mainGlobals "law" = some (some (.ref f13))) (l13 : K.lookup f13 = some ⟨oc13, od13, .func (PySem.W.fnOf "law" "law" (defArgs s_law) (defBody s_law) (defScope s_law) .none kV13 dc13 pm13 an13 cd13 ct13), sl13⟩) (c13 : PySem.W.codeIn K cd13 "law" = true) (k13 : PySem.W.keepIn K (.ref f13) = true)
    (z0 : PySem.W.nsIn K mainGlobals "len" = some none)
    (z1 : PySem.W.nsIn K mainGlobals "range" = some none)
    (z2 : PySem.W.nsIn K mainGlobals "max" = some none)
    (z3 : PySem.W.nsIn K mainGlobals "min" = some none)
    (z4 : PySem.W.nsIn K mainGlobals "sorted" = some none)
    (z5 : PySem.W.nsIn K mainGlobals "bool" = some none)
    (z6 : PySem.W.nsIn K mainGlobals "int" = some none)
    (z7 : PySem.W.nsIn K mainGlobals "isinstance" = some none)
    (z8 : PySem.W.nsIn K mainGlobals "list" = some none)
    (z9 : PySem.W.nsIn K mainGlobals "set" = some none)
    (z10 : PySem.W.nsIn K mainGlobals "tuple" = some none) :
    ∃ fd : FuncData, (∀ (s : Shared) (v : Value), BindsTo s fd ⟨[v], []⟩ [("_law_script", v)]) ∧ ∀ base : Heap, K.In base → base.Ns mainGlobals mg → FnOk P w K mg base CX0 4 fa fd ["_law_script"] (spP K lawC) := by
  have D0 : Df K mg "_law_cell_at" s__law_cell_at := df_mk X G (st := s__law_cell_at) a0 l0 c0 k0
  have D1 : Df K mg "_law_nodes" s__law_nodes := df_mk X G (st := s__law_nodes) a1 l1 c1 k1
  have D2 : Df K mg "_law_pairs" s__law_pairs := df_mk X G (st := s__law_pairs) a2 l2 c2 k2
  have D3 : Df K mg "_law_nexts" s__law_nexts := df_mk X G (st := s__law_nexts) a3 l3 c3 k3
  have D4 : Df K mg "nearest" s_nearest := df_mk X G (st := s_nearest) a4 l4 c4 k4
  have D5 : Df K mg "ring_through" s_ring_through := df_mk X G (st := s_ring_through) a5 l5 c5 k5
  have D6 : Df K mg "steps_to" s_steps_to := df_mk X G (st := s_steps_to) a6 l6 c6 k6
  have D7 : Df K mg "least_ring" s_least_ring := df_mk X G (st := s_least_ring) a7 l7 c7 k7
  have D8 : Df K mg "_law_walks" s__law_walks := df_mk X G (st := s__law_walks) a8 l8 c8 k8
  have D9 : Df K mg "_law_none" s__law_none := df_mk X G (st := s__law_none) a9 l9 c9 k9
  have D10 : Df K mg "_law_whole" s__law_whole := df_mk X G (st := s__law_whole) a10 l10 c10 k10
  have D11 : Df K mg "_law_is_chain" s__law_is_chain := df_mk X G (st := s__law_is_chain) a11 l11 c11 k11
  have D12 : Df K mg "_law_no_less" s__law_no_less := df_mk X G (st := s__law_no_less) a12 l12 c12 k12
  have D13 : Df K mg "law" s_law := df_mk X G (st := s_law) a13 l13 c13 k13
  have y0 := PySem.W.mg_none_of X G z0
  have y1 := PySem.W.mg_none_of X G z1
  have y2 := PySem.W.mg_none_of X G z2
  have y3 := PySem.W.mg_none_of X G z3
  have y4 := PySem.W.mg_none_of X G z4
  have y5 := PySem.W.mg_none_of X G z5
  have y6 := PySem.W.mg_none_of X G z6
  have y7 := PySem.W.mg_none_of X G z7
  have y8 := PySem.W.mg_none_of X G z8
  have y9 := PySem.W.mg_none_of X G z9
  have y10 := PySem.W.mg_none_of X G z10
  have e := hfa.symm.trans (PySem.W.mg_of X G a13)
  cases e
  refine ⟨PySem.W.fnOf "law" "law" (defArgs s_law) (defBody s_law) (defScope s_law) .none kV13 dc13 pm13 an13 cd13 ct13, fun s v => .of_eq rfl, fun base _ _ => ?_⟩
  have Q0 : Cal P w K mg base "_law_cell_at" 1 ["_law_script", "_law_k"] (C__law_cell_at mg) := cal__law_cell_at D0  y0
  have Q1 : Cal P w K mg base "_law_nodes" 2 ["_law_script", "_law_most"] (C__law_nodes mg) := cal__law_nodes D1 Q0 y1
  have Q2 : Cal P w K mg base "_law_pairs" 2 ["_law_script", "_law_nodes_here"] (C__law_pairs mg) := cal__law_pairs D2 Q0 y0 y2 y3
  have Q3 : Cal P w K mg base "_law_nexts" 1 ["_law_nodes_here", "_law_pairs_here"] (C__law_nexts mg) := cal__law_nexts D3  
  have Q4 : Cal P w K mg base "nearest" 1 ["nodes", "far"] (C_nearest mg) := cal_nearest D4  
  have Q5 : Cal P w K mg base "ring_through" 2 ["start", "behind", "far"] (C_ring_through mg) := cal_ring_through D5 Q4 
  have Q6 : Cal P w K mg base "steps_to" 1 ["goal", "ahead"] (C_steps_to mg) := cal_steps_to D6  y0
  have Q7 : Cal P w K mg base "least_ring" 3 ["nodes", "pairs"] (C_least_ring mg) := cal_least_ring D7 Q5 Q6 y0 y4
  have Q8 : Cal P w K mg base "_law_walks" 1 ["_law_nodes_here", "_law_nexts_here", "_law_many"] (C__law_walks mg) := cal__law_walks D8  y1
  have Q9 : Cal P w K mg base "_law_none" 2 ["_law_nodes_here", "_law_nexts_here"] (C__law_none mg) := cal__law_none D9 Q8 y0 y1
  have Q10 : Cal P w K mg base "_law_whole" 1 ["_law_found"] (C__law_whole mg) := cal__law_whole D10  y5 y6 y7
  have Q11 : Cal P w K mg base "_law_is_chain" 2 ["_law_found", "_law_nodes_here", "_law_nexts_here"] (C__law_is_chain mg) := cal__law_is_chain D11 Q10 y7 y0 y8 y1 y9 y10
  have Q12 : Cal P w K mg base "_law_no_less" 2 ["_law_nodes_here", "_law_nexts_here", "_law_chain"] (C__law_no_less mg) := cal__law_no_less D12 Q8 y0 y1
  have Q13 : Cal P w K mg base "law" 4 ["_law_script"] C_law := cal_law D13 Q1 Q2 Q3 Q7 Q9 Q11 Q12 y8
  obtain ⟨f, fd, G1, m1, _, _, _, _, _, lk⟩ := Q13
  have e2 := m1.symm.trans (PySem.W.mg_of X G a13)
  cases e2
  exact fn_same l13 lk G1
end Lw
open PySem PySem.W PyProof.Rows
set_option maxRecDepth 100000 in
set_option maxHeartbeats 0 in
theorem PySem.Challenge.cw_skewhouse_k64_least_rings_holds : PySem.Challenge.rw_skewhouse_k64_least_rings.Holds := by
  w_on; o_law; k_head; (case hw => w_witness2)
  k_fill
  refine SK.law_walk (l := PySem.Challenge.rw_skewhouse_k64_least_rings) (lv := 4) rfl rfl ⟨rfl, by decide, by decide⟩ (fun w h Y => PySem.W.kIn_of Y) ?F
  case F =>
    intro w mg fa h KX G hmg
    refine' Lw.all_mk KX G hmg ?a0 ?l0 ?c0 ?k0 ?a1 ?l1 ?c1 ?k1 ?a2 ?l2 ?c2 ?k2 ?a3 ?l3 ?c3 ?k3 ?a4 ?l4 ?c4 ?k4 ?a5 ?l5 ?c5 ?k5 ?a6 ?l6 ?c6 ?k6 ?a7 ?l7 ?c7 ?k7 ?a8 ?l8 ?c8 ?k8 ?a9 ?l9 ?c9 ?k9 ?a10 ?l10 ?c10 ?k10 ?a11 ?l11 ?c11 ?k11 ?a12 ?l12 ?c12 ?k12 ?a13 ?l13 ?c13 ?k13 ?z0 ?z1 ?z2 ?z3 ?z4 ?z5 ?z6 ?z7 ?z8 ?z9 ?z10
    (case a0 => k_is)
    (case l0 => k_is)
    (case c0 => k_is)
    (case k0 => k_is)
    (case a1 => k_is)
    (case l1 => k_is)
    (case c1 => k_is)
    (case k1 => k_is)
    (case a2 => k_is)
    (case l2 => k_is)
    (case c2 => k_is)
    (case k2 => k_is)
    (case a3 => k_is)
    (case l3 => k_is)
    (case c3 => k_is)
    (case k3 => k_is)
    (case a4 => k_is)
    (case l4 => k_is)
    (case c4 => k_is)
    (case k4 => k_is)
    (case a5 => k_is)
    (case l5 => k_is)
    (case c5 => k_is)
    (case k5 => k_is)
    (case a6 => k_is)
    (case l6 => k_is)
    (case c6 => k_is)
    (case k6 => k_is)
    (case a7 => k_is)
    (case l7 => k_is)
    (case c7 => k_is)
    (case k7 => k_is)
    (case a8 => k_is)
    (case l8 => k_is)
    (case c8 => k_is)
    (case k8 => k_is)
    (case a9 => k_is)
    (case l9 => k_is)
    (case c9 => k_is)
    (case k9 => k_is)
    (case a10 => k_is)
    (case l10 => k_is)
    (case c10 => k_is)
    (case k10 => k_is)
    (case a11 => k_is)
    (case l11 => k_is)
    (case c11 => k_is)
    (case k11 => k_is)
    (case a12 => k_is)
    (case l12 => k_is)
    (case c12 => k_is)
    (case k12 => k_is)
    (case a13 => k_is)
    (case l13 => k_is)
    (case c13 => k_is)
    (case k13 => k_is)
    (case z0 => k_is)
    (case z1 => k_is)
    (case z2 => k_is)
    (case z3 => k_is)
    (case z4 => k_is)
    (case z5 => k_is)
    (case z6 => k_is)
    (case z7 => k_is)
    (case z8 => k_is)
    (case z9 => k_is)
    (case z10 => k_is)
