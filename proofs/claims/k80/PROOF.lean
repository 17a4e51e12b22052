import PyProof.Rows.All
import Wide.All
import OpenK.AllK
import Wide.FinOn
import HandS.ForMost
import HandS.Conv
import HandS.Zip
import HandS.TupAny
import HandS.AnyAll
import HandS.TupMul
import HandS.IsInst
import HandS.Deep
import HandS.SortRule
import HandS.SortInts
import HandS.Style
import KE.GoesMore
import HandS.Walk
import HandS.Words
import HandS.More
import HandS.GenList
import PyProof.TupleOfGen
import PyProof.GenQ
import PyProof.SumAnyB
import PyProof.SumAny
import HandS.EndOwn
import PySem.Challenge.RW_whoseitis_k80_what_a_pair_bears
set_option Elab.async false
set_option linter.all false
set_option maxRecDepth 100000
/-! Dn1: values as trees, lists by value with ownership; the state's relation to the hand layer's slots and heap. -/
namespace Dn
open PySem PySem.Spec PyProof.Rows L2

inductive T where
  | non | bl (b : Bool) | int (i : Int) | str (x : Str) | tup (xs : List T)
inductive D where
  | t (x : T) | lst (xs : List D) | frz (xs : List D) | tupM (xs : List D) | scr (xs : List D)

/-! ### heaps -/
/-- all but lists is kept -/
def KT (H H' : Hp) : Prop := ∀ b o, (∀ xs, o ≠ .lst xs) → (∀ ps, o ≠ .tbl ps) → H b = some o → H' b = some o
theorem KT.of {H H' : Hp} (h : Same H H') : KT H H' := fun b o _ _ e => h b o e
theorem KT.refl (H : Hp) : KT H H := fun _ _ _ _ e => e
theorem KT.upd {H : Hp} {a : Addr} {vs ws : List V} (h : H a = some (.lst vs)) : KT H (upd H a (.lst ws)) := fun b o n _ e => by
  rw [upd_ne (fun z => by subst z; rw [h] at e; exact n vs (Option.some.inj e).symm)]; exact e
theorem KT.tup {H H' : Hp} {a : Addr} {xs : List V} (e : KT H H') (h : H a = some (.tup xs)) : H' a = some (.tup xs) := e _ _ (fun _ q => nomatch q) (fun _ q => nomatch q) h
theorem same_new {H : Hp} {p : Addr} {o : HO} (h : H p = none) : Same H (upd H p o) := fun b x e => by
  rw [upd_ne (ne_of_none e h)]; exact e

/-! ### trees -/
mutual
def TR (K : PySem.W.Frag) (H : Hp) : T → V → Prop
  | .non, v => v = .non
  | .bl b, v => v = .bl b
  | .int i, v => v = .int i
  | .str x, v => v = .str x
  | .tup xs, v => ∃ a vs, v = .ref a ∧ H a = some (.tup vs) ∧ TRs K H xs vs
def TRs (K : PySem.W.Frag) (H : Hp) : List T → List V → Prop
  | [], vs => vs = []
  | x :: xs, vs => ∃ v r, vs = v :: r ∧ TR K H x v ∧ TRs K H xs r
end
mutual
theorem TR.mono {K : PySem.W.Frag} {H H' : Hp} (k : KT H H') : ∀ (t : T) (v : V), TR K H t v → TR K H' t v
  | .non, _, h => h
  | .bl _, _, h => h
  | .int _, _, h => h
  | .str _, _, h => h
  | .tup xs, v, h => by
    obtain ⟨a, vs, e, s, r⟩ := h
    exact ⟨a, vs, e, k.tup s, TRs.mono k xs vs r⟩
theorem TRs.mono {K : PySem.W.Frag} {H H' : Hp} (k : KT H H') : ∀ (ts : List T) (vs : List V), TRs K H ts vs → TRs K H' ts vs
  | [], _, h => h
  | x :: xs, vs, h => by
    obtain ⟨v, r, e, h1, h2⟩ := h
    exact ⟨v, r, e, TR.mono k x v h1, TRs.mono k xs r h2⟩
end

mutual
/-- a view: what can be read now -/
def VB (K : PySem.W.Frag) (B : Hp) : Hp → D → V → Prop
  | H, .t x, v => TR K H x v
  | H, .lst xs, v => ∃ a vs, v = .ref a ∧ H a = some (.lst vs) ∧ VBs K B H xs vs
  | _, .frz xs, v => ∃ a vs, v = .ref a ∧ B a = some (.lst vs) ∧ VBs K B B xs vs
  | _, .scr xs, v => ∃ a vs, v = .ref a ∧ SqL K B a vs ∧ VBs K B B xs vs
  | H, .tupM xs, v => ∃ a vs, v = .ref a ∧ H a = some (.tup vs) ∧ VBs K B H xs vs
def VBs (K : PySem.W.Frag) (B : Hp) : Hp → List D → List V → Prop
  | _, [], vs => vs = []
  | H, x :: xs, vs => ∃ v r, vs = v :: r ∧ VB K B H x v ∧ VBs K B H xs r
end
mutual
theorem VB.mono {K : PySem.W.Frag} {B B' : Hp} (kb : Same B B') : ∀ {H H' : Hp} (_ : Same H H') (d : D) (v : V), VB K B H d v → VB K B' H' d v
  | H, H', k, .t x, v, h => TR.mono (.of k) x v h
  | H, H', k, .lst xs, v, h => by
    obtain ⟨a, vs, e, s, r⟩ := h
    exact ⟨a, vs, e, k _ _ s, VBs.mono kb k xs vs r⟩
  | H, H', k, .frz xs, v, h => by
    obtain ⟨a, vs, e, s, r⟩ := h
    exact ⟨a, vs, e, kb _ _ s, VBs.mono kb kb xs vs r⟩
  | H, H', k, .scr xs, v, h => by
    obtain ⟨a, vs, e, s, r⟩ := h
    exact ⟨a, vs, e, kb.seq s, VBs.mono kb kb xs vs r⟩
  | H, H', k, .tupM xs, v, h => by
    obtain ⟨a, vs, e, s, r⟩ := h
    exact ⟨a, vs, e, k _ _ s, VBs.mono kb k xs vs r⟩
theorem VBs.mono {K : PySem.W.Frag} {B B' : Hp} (kb : Same B B') : ∀ {H H' : Hp} (_ : Same H H') (ds : List D) (vs : List V), VBs K B H ds vs → VBs K B' H' ds vs
  | _, _, _, [], _, h => h
  | H, H', k, x :: xs, vs, h => by
    obtain ⟨v, r, e, h1, h2⟩ := h
    exact ⟨v, r, e, VB.mono kb k x v h1, VBs.mono kb k xs r h2⟩
end

/-- owned lists' addresses, counted -/
abbrev Fp := Addr → Nat
def one (a : Addr) : Fp := fun b => if b = a then 1 else 0
def z0 : Fp := fun _ => 0
mutual
/-- a value that is held: its owned lists stand at F -/
def DR (K : PySem.W.Frag) (B H : Hp) : D → V → Fp → Prop
  | .t x, v, F => TR K H x v ∧ F = z0
  | .lst xs, v, F => ∃ a vs G, v = .ref a ∧ H a = some (.lst vs) ∧ DRs K B H xs vs G ∧ F = fun b => one a b + G b
  | .frz xs, v, F => (∃ a vs, v = .ref a ∧ B a = some (.lst vs) ∧ VBs K B B xs vs) ∧ F = z0
  | .scr xs, v, F => (∃ a vs, v = .ref a ∧ SqL K B a vs ∧ VBs K B B xs vs) ∧ F = z0
  | .tupM xs, v, F => ∃ a vs, v = .ref a ∧ H a = some (.tup vs) ∧ DRs K B H xs vs F
def DRs (K : PySem.W.Frag) (B H : Hp) : List D → List V → Fp → Prop
  | [], vs, F => vs = [] ∧ F = z0
  | x :: xs, vs, F => ∃ v r F1 F2, vs = v :: r ∧ DR K B H x v F1 ∧ DRs K B H xs r F2 ∧ F = fun b => F1 b + F2 b
end
mutual
theorem DR.mono {K : PySem.W.Frag} {B B' H H' : Hp} (kb : Same B B') (k : KT H H') : ∀ (d : D) (v : V) (F : Fp), (∀ b xs, 0 < F b → H b = some (.lst xs) → H' b = some (.lst xs)) → DR K B H d v F → DR K B' H' d v F
  | .t x, v, F, _, h => ⟨TR.mono k x v h.1, h.2⟩
  | .lst xs, v, F, hf, h => by
    obtain ⟨a, vs, G, e, s, r, rfl⟩ := h
    exact ⟨a, vs, G, e, hf a vs (by simp [one]; omega) s, DRs.mono kb k xs vs G (fun b ys hb q => hf b ys (by show 0 < one a b + G b; omega) q) r, rfl⟩
  | .frz xs, v, F, _, h => by
    obtain ⟨⟨a, vs, e, s, r⟩, rfl⟩ := h
    exact ⟨⟨a, vs, e, kb _ _ s, VBs.mono kb kb xs vs r⟩, rfl⟩
  | .scr xs, v, F, _, h => by
    obtain ⟨⟨a, vs, e, s, r⟩, rfl⟩ := h
    exact ⟨⟨a, vs, e, kb.seq s, VBs.mono kb kb xs vs r⟩, rfl⟩
  | .tupM xs, v, F, hf, h => by
    obtain ⟨a, vs, e, s, r⟩ := h
    exact ⟨a, vs, e, k.tup s, DRs.mono kb k xs vs F hf r⟩
theorem DRs.mono {K : PySem.W.Frag} {B B' H H' : Hp} (kb : Same B B') (k : KT H H') : ∀ (ds : List D) (vs : List V) (F : Fp), (∀ b xs, 0 < F b → H b = some (.lst xs) → H' b = some (.lst xs)) → DRs K B H ds vs F → DRs K B' H' ds vs F
  | [], vs, F, _, h => h
  | x :: xs, vs, F, hf, h => by
    obtain ⟨v, r, F1, F2, e, h1, h2, rfl⟩ := h
    exact ⟨v, r, F1, F2, e, DR.mono kb k x v F1 (fun b ys hb q => hf b ys (by show 0 < F1 b + F2 b; omega) q) h1, DRs.mono kb k xs r F2 (fun b ys hb q => hf b ys (by show 0 < F1 b + F2 b; omega) q) h2, rfl⟩
end
theorem DR.same {K : PySem.W.Frag} {B B' H H' : Hp} (kb : Same B B') (k : Same H H') {d : D} {v : V} {F : Fp} (h : DR K B H d v F) : DR K B' H' d v F := DR.mono kb (.of k) d v F (fun b xs _ e => k b _ e) h
theorem DRs.same {K : PySem.W.Frag} {B B' H H' : Hp} (kb : Same B B') (k : Same H H') {d : List D} {v : List V} {F : Fp} (h : DRs K B H d v F) : DRs K B' H' d v F := DRs.mono kb (.of k) d v F (fun b xs _ e => k b _ e) h
mutual
theorem DR.view {K : PySem.W.Frag} {B H : Hp} : ∀ (d : D) (v : V) (F : Fp), DR K B H d v F → VB K B H d v
  | .t x, v, F, h => h.1
  | .lst xs, v, F, h => by
    obtain ⟨a, vs, G, e, s, r, rfl⟩ := h
    exact ⟨a, vs, e, s, DRs.view xs vs G r⟩
  | .frz xs, v, F, h => h.1
  | .scr xs, v, F, h => h.1
  | .tupM xs, v, F, h => by
    obtain ⟨a, vs, e, s, r⟩ := h
    exact ⟨a, vs, e, s, DRs.view xs vs F r⟩
theorem DRs.view {K : PySem.W.Frag} {B H : Hp} : ∀ (ds : List D) (vs : List V) (F : Fp), DRs K B H ds vs F → VBs K B H ds vs
  | [], vs, F, h => h.1
  | x :: xs, vs, F, h => by
    obtain ⟨v, r, F1, F2, e, h1, h2, rfl⟩ := h
    exact ⟨v, r, e, DR.view x v F1 h1, DRs.view xs r F2 h2⟩
end
mutual
/-- what stands at the owned addresses are lists -/
theorem DR.there {K : PySem.W.Frag} {B H : Hp} : ∀ (d : D) (v : V) (F : Fp), DR K B H d v F → ∀ b, 0 < F b → ∃ xs, H b = some (.lst xs)
  | .t x, v, F, h, b, hb => by rw [h.2] at hb; exact absurd hb (Nat.lt_irrefl 0)
  | .lst xs, v, F, h, b, hb => by
    obtain ⟨a, vs, G, e, s, r, rfl⟩ := h
    by_cases q : b = a
    · subst q; exact ⟨vs, s⟩
    · exact DRs.there xs vs G r b (by have hb : 0 < one a b + G b := hb; simp only [one, if_neg q] at hb; omega)
  | .frz xs, v, F, h, b, hb => by rw [h.2] at hb; exact absurd hb (Nat.lt_irrefl 0)
  | .scr xs, v, F, h, b, hb => by rw [h.2] at hb; exact absurd hb (Nat.lt_irrefl 0)
  | .tupM xs, v, F, h, b, hb => by
    obtain ⟨a, vs, e, s, r⟩ := h
    exact DRs.there xs vs F r b hb
theorem DRs.there {K : PySem.W.Frag} {B H : Hp} : ∀ (ds : List D) (vs : List V) (F : Fp), DRs K B H ds vs F → ∀ b, 0 < F b → ∃ xs, H b = some (.lst xs)
  | [], vs, F, h, b, hb => by rw [h.2] at hb; exact absurd hb (Nat.lt_irrefl 0)
  | x :: xs, vs, F, h, b, hb => by
    obtain ⟨v, r, F1, F2, e, h1, h2, rfl⟩ := h
    have hb : 0 < F1 b + F2 b := hb
    by_cases q : 0 < F1 b
    · exact DR.there x v F1 h1 b q
    · exact DRs.there xs r F2 h2 b (by omega)
end
mutual
/-- no owned list within: may be copied -/
def cp : D → Bool
  | .t _ => true
  | .lst _ => false
  | .frz _ => true
  | .scr _ => true
  | .tupM xs => cps xs
def cps : List D → Bool
  | [] => true
  | x :: xs => cp x && cps xs
end
mutual
theorem VB.held {K : PySem.W.Frag} {B H : Hp} : ∀ (d : D) (v : V), cp d = true → VB K B H d v → DR K B H d v z0
  | .t x, v, _, h => ⟨h, rfl⟩
  | .lst _, _, c, _ => by simp [cp] at c
  | .frz xs, v, _, h => ⟨h, rfl⟩
  | .scr xs, v, _, h => ⟨h, rfl⟩
  | .tupM xs, v, c, h => by
    obtain ⟨a, vs, e, s, r⟩ := h
    exact ⟨a, vs, e, s, VBs.held xs vs (by simpa [cp] using c) r⟩
theorem VBs.held {K : PySem.W.Frag} {B H : Hp} : ∀ (ds : List D) (vs : List V), cps ds = true → VBs K B H ds vs → DRs K B H ds vs z0
  | [], vs, _, h => ⟨h, rfl⟩
  | x :: xs, vs, c, h => by
    obtain ⟨v, r, e, h1, h2⟩ := h
    simp only [cps, Bool.and_eq_true] at c
    exact ⟨v, r, z0, z0, e, VB.held x v c.1 h1, VBs.held xs r c.2 h2, rfl⟩
end
mutual
theorem DR.cp0 {K : PySem.W.Frag} {B H : Hp} : ∀ (d : D) (v : V) (F : Fp), cp d = true → DR K B H d v F → F = z0
  | .t x, v, F, _, h => h.2
  | .lst _, _, _, c, _ => by simp [cp] at c
  | .frz xs, v, F, _, h => h.2
  | .scr xs, v, F, _, h => h.2
  | .tupM xs, v, F, c, h => by
    obtain ⟨a, vs, e, s, r⟩ := h
    exact DRs.cp0 xs vs F (by simpa [cp] using c) r
theorem DRs.cp0 {K : PySem.W.Frag} {B H : Hp} : ∀ (ds : List D) (vs : List V) (F : Fp), cps ds = true → DRs K B H ds vs F → F = z0
  | [], vs, F, _, h => h.2
  | x :: xs, vs, F, c, h => by
    obtain ⟨v, r, F1, F2, e, h1, h2, rfl⟩ := h
    simp only [cps, Bool.and_eq_true] at c
    rw [DR.cp0 x v F1 c.1 h1, DRs.cp0 xs r F2 c.2 h2]; rfl
end
mutual
/-- frozen: to be copied as it is -/
def fz : D → D
  | .t x => .t x
  | .lst xs => .frz xs
  | .frz xs => .frz xs
  | .scr xs => .scr xs
  | .tupM xs => .tupM (fzs xs)
def fzs : List D → List D
  | [] => []
  | x :: xs => fz x :: fzs xs
end
mutual
theorem cp_fz : ∀ d : D, cp (fz d) = true
  | .t _ => rfl
  | .lst _ => rfl
  | .frz _ => rfl
  | .scr _ => rfl
  | .tupM xs => by simp only [fz, cp]; exact cps_fzs xs
theorem cps_fzs : ∀ ds : List D, cps (fzs ds) = true
  | [] => rfl
  | x :: xs => by simp only [fzs, cps, cp_fz x, cps_fzs xs, Bool.and_self]
end
mutual
theorem VB.fz {K : PySem.W.Frag} {B : Hp} : ∀ (d : D) (v : V), VB K B B d v → VB K B B (fz d) v
  | .t _, _, h => h
  | .lst _, _, h => h
  | .frz _, _, h => h
  | .scr _, _, h => h
  | .tupM xs, v, h => by
    obtain ⟨a, vs, e, s, r⟩ := h
    exact ⟨a, vs, e, s, VBs.fz xs vs r⟩
theorem VBs.fz {K : PySem.W.Frag} {B : Hp} : ∀ (ds : List D) (vs : List V), VBs K B B ds vs → VBs K B B (fzs ds) vs
  | [], _, h => h
  | x :: xs, vs, h => by
    obtain ⟨v, r, e, h1, h2⟩ := h
    exact ⟨v, r, e, VB.fz x v h1, VBs.fz xs r h2⟩
end
theorem fzs_eq : ∀ ds : List D, fzs ds = ds.map fz
  | [] => rfl
  | x :: xs => by simp only [fzs, List.map_cons, fzs_eq xs]
theorem cps_eq : ∀ ds : List D, cps ds = ds.all cp
  | [] => rfl
  | x :: xs => by simp only [cps, List.all_cons, cps_eq xs]

/-! ### lists of these -/
theorem TRs.length {K : PySem.W.Frag} {H : Hp} : ∀ {ts : List T} {vs : List V}, TRs K H ts vs → ts.length = vs.length
  | [], vs, h => by rw [show vs = [] from h]; rfl
  | x :: xs, vs, h => by
    obtain ⟨v, r, rfl, h1, h2⟩ := h
    simp only [List.length_cons, TRs.length h2]
theorem VBs.length {K : PySem.W.Frag} {B H : Hp} : ∀ {ts : List D} {vs : List V}, VBs K B H ts vs → ts.length = vs.length
  | [], vs, h => by rw [show vs = [] from h]; rfl
  | x :: xs, vs, h => by
    obtain ⟨v, r, rfl, h1, h2⟩ := h
    simp only [List.length_cons, VBs.length h2]
theorem DRs.length {K : PySem.W.Frag} {B H : Hp} {ts : List D} {vs : List V} {F : Fp} (h : DRs K B H ts vs F) : ts.length = vs.length := (DRs.view _ _ _ h).length
theorem TRs.get {K : PySem.W.Frag} {H : Hp} : ∀ {ts : List T} {vs : List V} {i : Nat} {t : T}, TRs K H ts vs → ts[i]? = some t → ∃ v, vs[i]? = some v ∧ TR K H t v
  | [], vs, i, t, _, e => by simp at e
  | x :: xs, vs, 0, t, h, e => by
    obtain ⟨v, r, rfl, h1, h2⟩ := h
    simp at e; subst e
    exact ⟨v, rfl, h1⟩
  | x :: xs, vs, i + 1, t, h, e => by
    obtain ⟨v, r, rfl, h1, h2⟩ := h
    obtain ⟨u, a, b⟩ := TRs.get (i := i) h2 (by simpa using e)
    exact ⟨u, by simpa using a, b⟩
theorem VBs.get {K : PySem.W.Frag} {B H : Hp} : ∀ {ts : List D} {vs : List V} {i : Nat} {t : D}, VBs K B H ts vs → ts[i]? = some t → ∃ v, vs[i]? = some v ∧ VB K B H t v
  | [], vs, i, t, _, e => by simp at e
  | x :: xs, vs, 0, t, h, e => by
    obtain ⟨v, r, rfl, h1, h2⟩ := h
    simp at e; subst e
    exact ⟨v, rfl, h1⟩
  | x :: xs, vs, i + 1, t, h, e => by
    obtain ⟨v, r, rfl, h1, h2⟩ := h
    obtain ⟨u, a, b⟩ := VBs.get (i := i) h2 (by simpa using e)
    exact ⟨u, by simpa using a, b⟩
theorem TRs.append {K : PySem.W.Frag} {H : Hp} : ∀ {ts us : List T} {vs ws : List V}, TRs K H ts vs → TRs K H us ws → TRs K H (ts ++ us) (vs ++ ws)
  | [], us, vs, ws, h, h' => by rw [show vs = [] from h]; exact h'
  | x :: xs, us, vs, ws, h, h' => by
    obtain ⟨v, r, rfl, h1, h2⟩ := h
    exact ⟨v, r ++ ws, rfl, h1, TRs.append h2 h'⟩
theorem VBs.append {K : PySem.W.Frag} {B H : Hp} : ∀ {ts us : List D} {vs ws : List V}, VBs K B H ts vs → VBs K B H us ws → VBs K B H (ts ++ us) (vs ++ ws)
  | [], us, vs, ws, h, h' => by rw [show vs = [] from h]; exact h'
  | x :: xs, us, vs, ws, h, h' => by
    obtain ⟨v, r, rfl, h1, h2⟩ := h
    exact ⟨v, r ++ ws, rfl, h1, VBs.append h2 h'⟩
theorem DRs.append {K : PySem.W.Frag} {B H : Hp} : ∀ {ts us : List D} {vs ws : List V} {F G : Fp}, DRs K B H ts vs F → DRs K B H us ws G → DRs K B H (ts ++ us) (vs ++ ws) (fun b => F b + G b)
  | [], us, vs, ws, F, G, h, h' => by
    obtain ⟨rfl, rfl⟩ := h
    have e : (fun b => z0 b + G b) = G := by funext b; simp [z0]
    rw [e]; exact h'
  | x :: xs, us, vs, ws, F, G, h, h' => by
    obtain ⟨v, r, F1, F2, rfl, h1, h2, rfl⟩ := h
    exact ⟨v, r ++ ws, F1, _, rfl, h1, DRs.append h2 h', by funext b; show F1 b + F2 b + G b = F1 b + (F2 b + G b); omega⟩
/-- a place of a list taken out: what is there, what remains -/
theorem DRs.split {K : PySem.W.Frag} {B H : Hp} : ∀ {ts : List D} {vs : List V} {F : Fp} {i : Nat} {t : D}, DRs K B H ts vs F → ts[i]? = some t → ∃ v F1 F2, vs[i]? = some v ∧ DR K B H t v F1 ∧ F = (fun b => F1 b + F2 b) ∧
    DRs K B H (ts.eraseIdx i) (vs.eraseIdx i) F2 ∧ ∀ B' H' t' v' F', DR K B' H' t' v' F' → Same B B' → KT H H' → (∀ b xs, 0 < F2 b → H b = some (.lst xs) → H' b = some (.lst xs)) → DRs K B' H' (ts.set i t') (vs.set i v') (fun b => F' b + F2 b)
  | [], vs, F, i, t, _, e => by simp at e
  | x :: xs, vs, F, 0, t, h, e => by
    obtain ⟨v, r, F1, F2, rfl, h1, h2, rfl⟩ := h
    simp at e; subst e
    exact ⟨v, F1, F2, rfl, h1, rfl, h2, fun B' H' t' v' F' q kb k kf => ⟨v', r, F', F2, rfl, q, DRs.mono kb k _ _ _ kf h2, rfl⟩⟩
  | x :: xs, vs, F, i + 1, t, h, e => by
    obtain ⟨v, r, F1, F2, rfl, h1, h2, rfl⟩ := h
    obtain ⟨u, G1, G2, a, b, rfl, c, d⟩ := DRs.split (i := i) h2 (by simpa using e)
    refine ⟨u, G1, fun b => F1 b + G2 b, by simpa using a, b, by funext b; show F1 b + (G1 b + G2 b) = G1 b + (F1 b + G2 b); omega, ⟨v, _, F1, G2, rfl, h1, c, rfl⟩, fun B' H' t' v' F' q kb k kf => ?_⟩
    exact ⟨v, _, F1, _, rfl, DR.mono kb k _ _ _ (fun b ys hb z => kf b ys (by show 0 < F1 b + G2 b; omega) z) h1, d B' H' t' v' F' q kb k (fun b ys hb z => kf b ys (by show 0 < F1 b + G2 b; omega) z), by funext b; show F' b + (F1 b + G2 b) = F1 b + (F' b + G2 b); omega⟩
theorem VBs.of_get {K : PySem.W.Frag} {B H : Hp} : ∀ {ts : List D} {vs : List V}, ts.length = vs.length → (∀ (i : Nat) (t : D) (v : V), ts[i]? = some t → vs[i]? = some v → VB K B H t v) → VBs K B H ts vs
  | [], [], _, _ => rfl
  | [], _ :: _, e, _ => by simp at e
  | _ :: _, [], e, _ => by simp at e
  | x :: xs, v :: vs, e, h => ⟨v, vs, rfl, h 0 x v rfl rfl, VBs.of_get (by simpa using e) fun i t u a b => h (i + 1) t u (by simpa using a) (by simpa using b)⟩
theorem TRs.of_get {K : PySem.W.Frag} {H : Hp} : ∀ {ts : List T} {vs : List V}, ts.length = vs.length → (∀ (i : Nat) (t : T) (v : V), ts[i]? = some t → vs[i]? = some v → TR K H t v) → TRs K H ts vs
  | [], [], _, _ => rfl
  | [], _ :: _, e, _ => by simp at e
  | _ :: _, [], e, _ => by simp at e
  | x :: xs, v :: vs, e, h => ⟨v, vs, rfl, h 0 x v rfl rfl, TRs.of_get (by simpa using e) fun i t u a b => h (i + 1) t u (by simpa using a) (by simpa using b)⟩
theorem VBs.take {K : PySem.W.Frag} {B H : Hp} : ∀ {ts : List D} {vs : List V} (n : Nat), VBs K B H ts vs → VBs K B H (ts.take n) (vs.take n)
  | _, _, 0, _ => rfl
  | [], vs, n + 1, h => by rw [show vs = [] from h]; rfl
  | x :: xs, vs, n + 1, h => by
    obtain ⟨v, r, rfl, h1, h2⟩ := h
    exact ⟨v, r.take n, rfl, h1, VBs.take n h2⟩
theorem VBs.drop {K : PySem.W.Frag} {B H : Hp} : ∀ {ts : List D} {vs : List V} (n : Nat), VBs K B H ts vs → VBs K B H (ts.drop n) (vs.drop n)
  | _, _, 0, h => h
  | [], vs, n + 1, h => by rw [show vs = [] from h]; rfl
  | x :: xs, vs, n + 1, h => by
    obtain ⟨v, r, rfl, h1, h2⟩ := h
    exact VBs.drop n h2
theorem TRs.take {K : PySem.W.Frag} {H : Hp} : ∀ {ts : List T} {vs : List V} (n : Nat), TRs K H ts vs → TRs K H (ts.take n) (vs.take n)
  | _, _, 0, _ => rfl
  | [], vs, n + 1, h => by rw [show vs = [] from h]; rfl
  | x :: xs, vs, n + 1, h => by
    obtain ⟨v, r, rfl, h1, h2⟩ := h
    exact ⟨v, r.take n, rfl, h1, TRs.take n h2⟩
theorem TRs.drop {K : PySem.W.Frag} {H : Hp} : ∀ {ts : List T} {vs : List V} (n : Nat), TRs K H ts vs → TRs K H (ts.drop n) (vs.drop n)
  | _, _, 0, h => h
  | [], vs, n + 1, h => by rw [show vs = [] from h]; rfl
  | x :: xs, vs, n + 1, h => by
    obtain ⟨v, r, rfl, h1, h2⟩ := h
    exact TRs.drop n h2
/-- trees as held things -/
theorem VBs_t {K : PySem.W.Frag} {B H : Hp} : ∀ {ts : List T} {vs : List V}, VBs K B H (ts.map D.t) vs ↔ TRs K H ts vs
  | [], vs => Iff.rfl
  | x :: xs, vs => by
    constructor
    · rintro ⟨v, r, rfl, h1, h2⟩
      exact ⟨v, r, rfl, h1, VBs_t.mp h2⟩
    · rintro ⟨v, r, rfl, h1, h2⟩
      exact ⟨v, r, rfl, h1, VBs_t.mpr h2⟩
theorem cps_t : ∀ ts : List T, cps (ts.map D.t) = true
  | [] => rfl
  | x :: xs => by simp only [List.map_cons, cps, cp, cps_t xs, Bool.and_self]
theorem fzs_t : ∀ ts : List T, fzs (ts.map D.t) = ts.map D.t
  | [] => rfl
  | x :: xs => by simp only [List.map_cons, fzs, fz, fzs_t xs]
end Dn

set_option Elab.async false
set_option linter.all false
set_option maxRecDepth 100000
/-! Dn2: the state: slots and temporaries. -/
namespace Dn
open PySem PySem.Spec PyProof.Rows L2

abbrev DS := List (Option D)
/-- an operand that has been reckoned: held, a name's value, a view -/
inductive Tm where
  | own (d : D) | nm (i : Nat) | vw (d : D) | pl (i : Nat) (p : List Nat)
abbrev Tms := List (V × Tm)
/-- a def's running: what must stay, the slots that must stay -/
structure FC where
  B0 : Hp
  mx : List Nat
  pv : List V
  tabs : List Addr := []
  ex : List (Addr × Addr × Nat) := []
  trk : Nat → Addr → Prop := fun _ _ => False
/-- all but tables is kept -/
def SameT (H H' : Hp) : Prop := ∀ b o, (∀ ps, o ≠ .tbl ps) → H b = some o → H' b = some o
theorem SameT.of {H H' : Hp} (h : Same H H') : SameT H H' := fun b o _ e => h b o e
theorem SameT.kt {H H' : Hp} (h : SameT H H') : KT H H' := fun b o _ n e => h b o n e
theorem SameT.trans {H H1 H2 : Hp} (a : SameT H H1) (b : SameT H1 H2) : SameT H H2 := fun c o n h => b c o n (a c o n h)
/-- the table at P, level n: each code that it names is there, with a table of the level below -/
def TabN : Nat → Hp → Addr → Prop
  | 0, H, P => GxR.TabG H P
  | n + 1, H, P => ∃ ps : Array Value, H P = some (.tbl ps) ∧ TriplesOk ps.toList ∧ ∀ pos c, codeAmong pos ps.toList = some c → ∃ c' P', c = .ref c' ∧ H c' = some (.ext fun h => PySem.W.CodeHd h c' P') ∧ TabN n H P'
theorem TabN.tab {H : Hp} {P : Addr} : ∀ {n : Nat}, TabN n H P → GxR.TabG H P
  | 0, h => h
  | n + 1, h => let ⟨ps, e, t, _⟩ := h; ⟨ps, e, t⟩
theorem TabN.mono {H H' : Hp} (k1 : ∀ b ps, H b = some (.tbl ps) → H' b = some (.tbl ps)) (k2 : ∀ b φ, H b = some (.ext φ) → H' b = some (.ext φ)) : ∀ {n : Nat} {P : Addr}, TabN n H P → TabN n H' P
  | 0, P, h => let ⟨ps, e, t⟩ := h; ⟨ps, k1 _ _ e, t⟩
  | n + 1, P, h => by
    obtain ⟨ps, e, t, z⟩ := h
    refine ⟨ps, k1 _ _ e, t, fun pos c hc => ?_⟩
    obtain ⟨c', P', e1, e2, e3⟩ := z pos c hc
    exact ⟨c', P', e1, k2 _ _ e2, TabN.mono k1 k2 e3⟩
theorem TabN.empty {H : Hp} {P : Addr} (h : H P = some (.tbl #[])) : ∀ n, TabN n H P
  | 0 => ⟨#[], h, by simp [TriplesOk]⟩
  | n + 1 => ⟨#[], h, by simp [TriplesOk], fun pos c hc => by simp [codeAmong] at hc⟩
/-- all tables stand, grown perhaps -/
def KeepT (H H' : Hp) : Prop := ∀ n P, TabN n H P → TabN n H' P
theorem KeepT.refl {H : Hp} : KeepT H H := fun _ _ h => h
theorem KeepT.trans {H H1 H2 : Hp} (a : KeepT H H1) (b : KeepT H1 H2) : KeepT H H2 := fun n P h => b n P (a n P h)
theorem KeepT.of {H H' : Hp} (k : Same H H') : KeepT H H' := fun n P h => h.mono (fun b _ e => k b _ e) fun b _ e => k b _ e
theorem KeepT.upd {H : Hp} {a : Addr} {vs ws : List V} (h : H a = some (.lst vs)) : KeepT H (L2.upd H a (.lst ws)) := fun n P t => t.mono (fun b ps e => by rw [upd_ne (fun q => by subst q; rw [h] at e; cases e)]; exact e) fun b ps e => by rw [upd_ne (fun q => by subst q; rw [h] at e; cases e)]; exact e
/-- code, table, level -/
abbrev XT := Addr × Addr × Nat
/-- the tables of the code objects stand; what stays for good has none -/
structure Tb (tabs : List Addr) (ex : List XT) (trk : Nat → Addr → Prop) (B H : Hp) : Prop where
  at_ : ∀ P ∈ tabs, TabN 4 H P
  ex : ∀ q ∈ ex, H q.1 = some (.ext fun h => PySem.W.CodeHd h q.1 q.2.1) ∧ TabN q.2.2 H q.2.1
  all : ∀ n P, trk n P → TabN n H P
  no : ∀ b ps, B b ≠ some (.tbl ps)
section
variable {tabs : List Addr} {ex : List XT} {trk : Nat → Addr → Prop} {B H H' : Hp}
theorem Tb.keep (t : Tb tabs ex trk B H) (k : KT H H') (h : KeepT H H') : Tb tabs ex trk B H' := ⟨fun P hP => h _ _ (t.at_ P hP), fun q hq => ⟨k _ _ (fun _ z => nomatch z) (fun _ z => nomatch z) (t.ex q hq).1, h _ _ (t.ex q hq).2⟩, fun n P hP => h _ _ (t.all n P hP), t.no⟩
theorem Tb.same (t : Tb tabs ex trk B H) (k : Same H H') : Tb tabs ex trk B H' := t.keep (SameT.of k).kt (.of k)
theorem Tb.upd (t : Tb tabs ex trk B H) {a : Addr} {vs ws : List V} (h : H a = some (.lst vs)) : Tb tabs ex trk B (L2.upd H a (.lst ws)) := ⟨fun P hP => KeepT.upd h _ _ (t.at_ P hP), fun q hq => ⟨by
  obtain ⟨e, _⟩ := t.ex q hq
  rw [upd_ne (fun z => by rw [z, h] at e; cases e)]; exact e, KeepT.upd h _ _ (t.ex q hq).2⟩, fun n P hP => KeepT.upd h _ _ (t.all n P hP), t.no⟩
theorem Tb.sameB (t : Tb tabs ex trk B H) (k : SameT H H') (bh : Same B H) : Same B H' := fun b o e => k b o (fun ps z => t.no b ps (by rw [e, z])) (bh b o e)
end

/-- a place within a value -/
def pget : D → List Nat → Option D
  | d, [] => some d
  | .lst xs, j :: p => (xs[j]?).bind fun x => pget x p
  | .tupM xs, j :: p => (xs[j]?).bind fun x => pget x p
  | _, _ :: _ => none
def pset : D → List Nat → D → D
  | _, [], e => e
  | .lst xs, j :: p, e => match xs[j]? with
    | some x => .lst (xs.set j (pset x p e))
    | none => .lst xs
  | .tupM xs, j :: p, e => match xs[j]? with
    | some x => .tupM (xs.set j (pset x p e))
    | none => .tupM xs
  | d, _ :: _, _ => d
/-- the same of values -/
def VP (H : Hp) : V → List Nat → V → Prop
  | v, [], w => w = v
  | v, j :: p, w => ∃ a vs u, v = .ref a ∧ (H a = some (.lst vs) ∨ H a = some (.tup vs)) ∧ vs[j]? = some u ∧ VP H u p w
theorem VP.mono {H H' : Hp} (k : Same H H') : ∀ {p : List Nat} {v w : V}, VP H v p w → VP H' v p w
  | [], _, _, h => h
  | j :: p, v, w, ⟨a, vs, u, e, h, g, r⟩ => ⟨a, vs, u, e, h.imp (k _ _) (k _ _), g, VP.mono k r⟩
theorem VP.append {H : Hp} : ∀ {p q : List Nat} {v u w : V}, VP H v p u → VP H u q w → VP H v (p ++ q) w
  | [], q, v, u, w, h, h' => by rw [show u = v from h] at h'; exact h'
  | j :: p, q, v, u, w, ⟨a, vs, x, e, h, g, r⟩, h' => ⟨a, vs, x, e, h, g, VP.append r h'⟩
theorem pget_append : ∀ {p q : List Nat} {d e : D}, pget d p = some e → pget d (p ++ q) = pget e q
  | [], q, d, e, h => by cases h; rfl
  | j :: p, q, d, e, h => by
    cases d with
    | lst xs =>
      simp only [pget, List.cons_append] at h ⊢
      cases z : xs[j]? with
      | none => rw [z] at h; cases h
      | some x => rw [z] at h; exact pget_append (p := p) h
    | tupM xs =>
      simp only [pget, List.cons_append] at h ⊢
      cases z : xs[j]? with
      | none => rw [z] at h; cases h
      | some x => rw [z] at h; exact pget_append (p := p) h
    | t x => cases h
    | frz x => cases h
    | scr x => cases h

def SlR (K : PySem.W.Frag) (B H : Hp) : DS → L2.St → Fp → Prop
  | [], σ, F => σ = [] ∧ F = z0
  | none :: ds, σ, F => ∃ s r, σ = s :: r ∧ SlR K B H ds r F
  | some d :: ds, σ, F => ∃ v r F1 F2, σ = some v :: r ∧ DR K B H d v F1 ∧ SlR K B H ds r F2 ∧ F = fun b => F1 b + F2 b
def TmR (K : PySem.W.Frag) (B H : Hp) (σ : L2.St) : Tms → Fp → Prop
  | [], F => F = z0
  | (v, .own d) :: ts, F => ∃ F1 F2, DR K B H d v F1 ∧ TmR K B H σ ts F2 ∧ F = fun b => F1 b + F2 b
  | (v, .nm i) :: ts, F => σ[i]? = some (some v) ∧ TmR K B H σ ts F
  | (v, .vw d) :: ts, F => VB K B H d v ∧ TmR K B H σ ts F
  | (v, .pl i p) :: ts, F => (∃ v0, σ[i]? = some (some v0) ∧ VP H v0 p v) ∧ TmR K B H σ ts F
/-- no view waits -/
def novw : Tms → Prop
  | [] => True
  | (_, .vw _) :: _ => False
  | (_, .pl _ _) :: _ => False
  | _ :: ts => novw ts

section
variable {K : PySem.W.Frag} {B B' H H' : Hp} {σ : L2.St} {ds : DS} {ts : Tms} {F : Fp}
theorem SlR.length : ∀ {ds : DS} {σ : L2.St} {F : Fp}, SlR K B H ds σ F → ds.length = σ.length
  | [], σ, F, h => by rw [h.1]; rfl
  | none :: ds, σ, F, h => by
    obtain ⟨s, r, rfl, h⟩ := h
    simp only [List.length_cons, h.length]
  | some d :: ds, σ, F, h => by
    obtain ⟨v, r, F1, F2, rfl, _, h, _⟩ := h
    simp only [List.length_cons, h.length]
theorem SlR.mono (kb : Same B B') (k : KT H H') : ∀ {ds : DS} {σ : L2.St} {F : Fp}, (∀ b xs, 0 < F b → H b = some (.lst xs) → H' b = some (.lst xs)) → SlR K B H ds σ F → SlR K B' H' ds σ F
  | [], σ, F, _, h => h
  | none :: ds, σ, F, hf, h => by
    obtain ⟨s, r, e, h⟩ := h
    exact ⟨s, r, e, h.mono kb k hf⟩
  | some d :: ds, σ, F, hf, h => by
    obtain ⟨v, r, F1, F2, e, h1, h2, rfl⟩ := h
    exact ⟨v, r, F1, F2, e, DR.mono kb k d v F1 (fun b ys hb q => hf b ys (by show 0 < F1 b + F2 b; omega) q) h1, h2.mono kb k (fun b ys hb q => hf b ys (by show 0 < F1 b + F2 b; omega) q), rfl⟩
theorem SlR.there : ∀ {ds : DS} {σ : L2.St} {F : Fp}, SlR K B H ds σ F → ∀ b, 0 < F b → ∃ xs, H b = some (.lst xs)
  | [], σ, F, h, b, hb => by rw [h.2] at hb; exact absurd hb (Nat.lt_irrefl 0)
  | none :: ds, σ, F, h, b, hb => by
    obtain ⟨s, r, e, h⟩ := h
    exact h.there b hb
  | some d :: ds, σ, F, h, b, hb => by
    obtain ⟨v, r, F1, F2, e, h1, h2, rfl⟩ := h
    have hb : 0 < F1 b + F2 b := hb
    by_cases q : 0 < F1 b
    · exact DR.there d v F1 h1 b q
    · exact h2.there b (by omega)
/-- a slot taken out -/
theorem SlR.at : ∀ {ds : DS} {σ : L2.St} {F : Fp} {i : Nat} {d : D}, SlR K B H ds σ F → ds[i]? = some (some d) → ∃ v F1 F2, σ[i]? = some (some v) ∧ DR K B H d v F1 ∧ (F = fun b => F1 b + F2 b) ∧
    (∀ s, SlR K B H (ds.set i none) (σ.set i s) F2) ∧ SlR K B H (ds.set i none) σ F2
  | [], _, _, _, _, _, e => by simp at e
  | none :: ds, σ, F, 0, d, h, e => by simp at e
  | some d' :: ds, σ, F, 0, d, h, e => by
    obtain ⟨v, r, F1, F2, rfl, h1, h2, rfl⟩ := h
    simp at e; subst e
    exact ⟨v, F1, F2, rfl, h1, rfl, fun s => ⟨s, r, rfl, h2⟩, ⟨some v, r, rfl, h2⟩⟩
  | none :: ds, σ, F, i + 1, d, h, e => by
    obtain ⟨s, r, rfl, h⟩ := h
    obtain ⟨v, F1, F2, a, b, c, g, g'⟩ := h.at (i := i) (by simpa using e)
    exact ⟨v, F1, F2, by simpa using a, b, c, fun s' => ⟨s, _, rfl, g s'⟩, ⟨s, _, rfl, g'⟩⟩
  | some d' :: ds, σ, F, i + 1, d, h, e => by
    obtain ⟨v', r, F1', F2', rfl, h1, h2, rfl⟩ := h
    obtain ⟨v, F1, F2, a, b, rfl, g, g'⟩ := h2.at (i := i) (by simpa using e)
    refine ⟨v, F1, fun b => F1' b + F2 b, by simpa using a, b, ?_, fun s' => ⟨v', _, F1', F2, rfl, h1, g s', rfl⟩, ⟨v', _, F1', F2, rfl, h1, g', rfl⟩⟩
    funext b; show F1' b + (F1 b + F2 b) = F1 b + (F1' b + F2 b); omega
/-- any slot forgotten -/
theorem SlR.clear : ∀ {ds : DS} {σ : L2.St} {F : Fp} (i : Nat) (s : Option V), SlR K B H ds σ F → ∃ F2, (∀ b, F2 b ≤ F b) ∧ SlR K B H (ds.set i none) (σ.set i s) F2
  | [], σ, F, i, s, h => by
    obtain ⟨rfl, rfl⟩ := h
    exact ⟨z0, fun _ => Nat.le_refl _, by simp [SlR]⟩
  | none :: ds, σ, F, 0, s, h => by
    obtain ⟨s', r, rfl, h⟩ := h
    exact ⟨F, fun _ => Nat.le_refl _, s, r, rfl, h⟩
  | some d' :: ds, σ, F, 0, s, h => by
    obtain ⟨v, r, F1, F2, rfl, h1, h2, rfl⟩ := h
    exact ⟨F2, fun b => by show F2 b ≤ F1 b + F2 b; omega, s, r, rfl, h2⟩
  | none :: ds, σ, F, i + 1, s, h => by
    obtain ⟨s', r, rfl, h⟩ := h
    obtain ⟨F2, a, b⟩ := h.clear i s
    exact ⟨F2, a, s', _, rfl, b⟩
  | some d' :: ds, σ, F, i + 1, s, h => by
    obtain ⟨v', r, F1, F2', rfl, h1, h2, rfl⟩ := h
    obtain ⟨F2, a, b⟩ := h2.clear i s
    exact ⟨fun b => F1 b + F2 b, fun b => by have := a b; show F1 b + F2 b ≤ F1 b + F2' b; omega, v', _, F1, F2, rfl, h1, b, rfl⟩
/-- an empty slot filled -/
theorem SlR.fill : ∀ {ds : DS} {σ : L2.St} {F F' : Fp} {i : Nat} {d : D} {v : V}, SlR K B H ds σ F → ds[i]? = some none → σ[i]? = some (some v) → DR K B H d v F' → SlR K B H (ds.set i (some d)) σ (fun b => F' b + F b)
  | [], _, _, _, _, _, _, _, e, _, _ => by simp at e
  | some d' :: ds, σ, F, F', 0, d, v, h, e, _, _ => by simp at e
  | none :: ds, σ, F, F', 0, d, v, h, e, e', hd => by
    obtain ⟨s, r, rfl, h⟩ := h
    simp at e'; subst e'
    exact ⟨v, r, F', F, rfl, hd, h, rfl⟩
  | none :: ds, σ, F, F', i + 1, d, v, h, e, e', hd => by
    obtain ⟨s, r, rfl, h⟩ := h
    exact ⟨s, r, rfl, h.fill (by simpa using e) (by simpa using e') hd⟩
  | some d' :: ds, σ, F, F', i + 1, d, v, h, e, e', hd => by
    obtain ⟨v', r, F1, F2, rfl, h1, h2, rfl⟩ := h
    exact ⟨v', r, F1, _, rfl, h1, h2.fill (by simpa using e) (by simpa using e') hd, by funext b; show F' b + (F1 b + F2 b) = F1 b + (F' b + F2 b); omega⟩
theorem SlR.lt {ds : DS} {σ : L2.St} {F : Fp} (h : SlR K B H ds σ F) {i : Nat} {o : Option D} (e : ds[i]? = some o) : i < σ.length := by
  rw [← h.length]; exact (List.getElem?_eq_some_iff.mp e).1
theorem SlR.put {ds : DS} {σ : L2.St} {F F' : Fp} {i : Nat} {d : D} {v : V} (h : SlR K B H ds σ F) (hi : i < ds.length) (hd : DR K B H d v F') : ∃ F2 : Fp, (∀ b, F2 b ≤ F b) ∧ SlR K B H (ds.set i (some d)) (σ.set i (some v)) (fun b => F' b + F2 b) := by
  obtain ⟨F2, a, b⟩ := h.clear i (some v)
  have hi' : i < σ.length := by rw [← h.length]; exact hi
  have q := b.fill (i := i) (d := d) (v := v) (F' := F') (by simp [hi]) (by simp [hi']) hd
  rw [List.set_set] at q
  exact ⟨F2, a, q⟩

theorem TmR.mono (kb : Same B B') (k : Same H H') : ∀ {ts : Tms} {F : Fp}, TmR K B H σ ts F → TmR K B' H' σ ts F
  | [], F, h => h
  | (v, .own d) :: ts, F, h => by
    obtain ⟨F1, F2, h1, h2, rfl⟩ := h
    exact ⟨F1, F2, h1.same kb k, h2.mono kb k, rfl⟩
  | (v, .nm i) :: ts, F, h => ⟨h.1, h.2.mono kb k⟩
  | (v, .vw d) :: ts, F, h => ⟨VB.mono kb k d v h.1, h.2.mono kb k⟩
  | (v, .pl i p) :: ts, F, h => ⟨let ⟨v0, e, w⟩ := h.1; ⟨v0, e, w.mono k⟩, h.2.mono kb k⟩
theorem TmR.kt (kb : Same B B') (k : KT H H') : ∀ {ts : Tms} {F : Fp}, novw ts → (∀ b xs, 0 < F b → H b = some (.lst xs) → H' b = some (.lst xs)) → TmR K B H σ ts F → TmR K B' H' σ ts F
  | [], F, _, _, h => h
  | (v, .own d) :: ts, F, nv, hf, h => by
    obtain ⟨F1, F2, h1, h2, rfl⟩ := h
    exact ⟨F1, F2, DR.mono kb k d v F1 (fun b ys hb q => hf b ys (by show 0 < F1 b + F2 b; omega) q) h1, h2.kt kb k nv (fun b ys hb q => hf b ys (by show 0 < F1 b + F2 b; omega) q), rfl⟩
  | (v, .nm i) :: ts, F, nv, hf, h => ⟨h.1, h.2.kt kb k nv hf⟩
  | (v, .vw d) :: ts, F, nv, _, h => absurd nv id
  | (v, .pl i p) :: ts, F, nv, _, h => absurd nv id
theorem TmR.there : ∀ {ts : Tms} {F : Fp}, TmR K B H σ ts F → ∀ b, 0 < F b → ∃ xs, H b = some (.lst xs)
  | [], F, h, b, hb => by rw [show F = z0 from h] at hb; exact absurd hb (Nat.lt_irrefl 0)
  | (v, .own d) :: ts, F, h, b, hb => by
    obtain ⟨F1, F2, h1, h2, rfl⟩ := h
    have hb : 0 < F1 b + F2 b := hb
    by_cases q : 0 < F1 b
    · exact DR.there d v F1 h1 b q
    · exact h2.there b (by omega)
  | (v, .nm i) :: ts, F, h, b, hb => h.2.there b hb
  | (v, .vw d) :: ts, F, h, b, hb => h.2.there b hb
  | (v, .pl i p) :: ts, F, h, b, hb => h.2.there b hb
end

structure RS (K : PySem.W.Frag) (C : FC) (B : Hp) (σ : L2.St) (H : Hp) (ds : DS) (ts : Tms) : Prop where
  ex : ∃ F1 F2, SlR K B H ds σ F1 ∧ TmR K B H σ ts F2 ∧ (∀ b, F1 b + F2 b ≤ 1) ∧ ∀ b, 0 < F1 b + F2 b → B b = none
  bh : Same B H
  b0 : Same C.B0 B
  pin : ∀ p ∈ C.mx.zip C.pv, σ[p.1]? = some (some p.2)
  tb : Tb C.tabs C.ex C.trk B H

/-- a new value: what it owns is new -/
def Fresh (K : PySem.W.Frag) (B H H' : Hp) (d : D) (v : V) : Prop := ∃ F, DR K B H' d v F ∧ (∀ b, F b ≤ 1) ∧ ∀ b, 0 < F b → H b = none
theorem Fresh.cp {K : PySem.W.Frag} {B H H' : Hp} {d : D} {v : V} (h : VB K B H' d v) (c : cp d = true) : Fresh K B H H' d v := ⟨z0, VB.held d v c h, fun _ => Nat.zero_le _, fun _ hb => absurd hb (Nat.lt_irrefl 0)⟩
theorem Fresh.t {K : PySem.W.Frag} {B H H' : Hp} {x : T} {v : V} (h : TR K H' x v) : Fresh K B H H' (.t x) v := ⟨z0, ⟨h, rfl⟩, fun _ => Nat.zero_le _, fun _ hb => absurd hb (Nat.lt_irrefl 0)⟩

section
variable {K : PySem.W.Frag} {C : FC} {B B' H H' : Hp} {σ : L2.St} {ds : DS} {ts : Tms} {v : V} {d : D} {x y : V × Tm}
theorem RS.push (r : RS K C B σ H ds ts) (k : Same H H') (f : Fresh K B H H' d v) : RS K C B σ H' ds ((v, .own d) :: ts) := by
  obtain ⟨F1, F2, h1, h2, h3, h4⟩ := r.ex
  obtain ⟨F, f1, f2, f3⟩ := f
  refine ⟨⟨F1, _, h1.mono (Same.refl B) (.of k) (fun b xs _ e => k b _ e), ⟨F, F2, f1, h2.mono (Same.refl B) k, rfl⟩, fun b => ?_, fun b hb => ?_⟩, r.bh.trans k, r.b0, r.pin, r.tb.same k⟩
  · show F1 b + (F b + F2 b) ≤ 1
    by_cases q : 0 < F b
    · have hn := f3 b q
      have n1 : F1 b = 0 := by
        by_cases z : 0 < F1 b
        · obtain ⟨xs, e⟩ := h1.there b z; rw [hn] at e; cases e
        · omega
      have n2 : F2 b = 0 := by
        by_cases z : 0 < F2 b
        · obtain ⟨xs, e⟩ := h2.there b z; rw [hn] at e; cases e
        · omega
      have := f2 b; omega
    · have := h3 b; omega
  · have hb : 0 < F1 b + (F b + F2 b) := hb
    by_cases q : 0 < F b
    · exact r.bh.free (f3 b q)
    · exact h4 b (by omega)
mutual
theorem VB.monoT {K : PySem.W.Frag} {B : Hp} : ∀ {H H' : Hp} (_ : SameT H H') (d : D) (v : V), VB K B H d v → VB K B H' d v
  | H, H', k, .t x, v, h => TR.mono k.kt x v h
  | H, H', k, .lst xs, v, h => by
    obtain ⟨a, vs, e, s, r⟩ := h
    exact ⟨a, vs, e, k _ _ (fun _ q => nomatch q) s, VBs.monoT k xs vs r⟩
  | H, H', k, .frz xs, v, h => h
  | H, H', k, .scr xs, v, h => h
  | H, H', k, .tupM xs, v, h => by
    obtain ⟨a, vs, e, s, r⟩ := h
    exact ⟨a, vs, e, k _ _ (fun _ q => nomatch q) s, VBs.monoT k xs vs r⟩
theorem VBs.monoT {K : PySem.W.Frag} {B : Hp} : ∀ {H H' : Hp} (_ : SameT H H') (ds : List D) (vs : List V), VBs K B H ds vs → VBs K B H' ds vs
  | _, _, _, [], _, h => h
  | H, H', k, x :: xs, vs, h => by
    obtain ⟨v, r, e, h1, h2⟩ := h
    exact ⟨v, r, e, VB.monoT k x v h1, VBs.monoT k xs r h2⟩
end
theorem VP.monoT {H H' : Hp} (k : SameT H H') : ∀ {p : List Nat} {v w : V}, VP H v p w → VP H' v p w
  | [], _, _, h => h
  | j :: p, v, w, ⟨a, vs, u, e, h, g, r⟩ => ⟨a, vs, u, e, h.imp (k _ _ fun _ q => nomatch q) (k _ _ fun _ q => nomatch q), g, VP.monoT k r⟩
theorem TmR.monoT {K : PySem.W.Frag} {B H H' : Hp} {σ : L2.St} (k : SameT H H') : ∀ {ts : Tms} {F : Fp}, TmR K B H σ ts F → TmR K B H' σ ts F
  | [], F, h => h
  | (v, .own d) :: ts, F, h => by
    obtain ⟨F1, F2, h1, h2, rfl⟩ := h
    exact ⟨F1, F2, DR.mono (Same.refl B) k.kt d v F1 (fun b xs _ e => k b _ (fun _ q => nomatch q) e) h1, h2.monoT k, rfl⟩
  | (v, .nm i) :: ts, F, h => ⟨h.1, h.2.monoT k⟩
  | (v, .vw d) :: ts, F, h => ⟨VB.monoT k d v h.1, h.2.monoT k⟩
  | (v, .pl i p) :: ts, F, h => ⟨let ⟨v0, e, w⟩ := h.1; ⟨v0, e, w.monoT k⟩, h.2.monoT k⟩
/-- new, but for what was a table's -/
def FreshT (K : PySem.W.Frag) (B H H' : Hp) (d : D) (v : V) : Prop := ∃ F, DR K B H' d v F ∧ (∀ b, F b ≤ 1) ∧ ∀ b, 0 < F b → H b = none ∨ ∃ ps, H b = some (.tbl ps)
/-- a new value, tables may have grown -/
theorem RS.pushT (r : RS K C B σ H ds ts) (k : SameT H H') (ht : KeepT H H') (f : FreshT K B H H' d v) : RS K C B σ H' ds ((v, .own d) :: ts) := by
  obtain ⟨F1, F2, h1, h2, h3, h4⟩ := r.ex
  obtain ⟨F, f1, f2, f3⟩ := f
  refine ⟨⟨F1, _, h1.mono (Same.refl B) k.kt (fun b xs _ e => k b _ (fun _ q => nomatch q) e), ⟨F, F2, f1, h2.monoT k, rfl⟩, fun b => ?_, fun b hb => ?_⟩, r.tb.sameB k r.bh, r.b0, r.pin, r.tb.keep k.kt ht⟩
  · show F1 b + (F b + F2 b) ≤ 1
    by_cases q : 0 < F b
    · have hn := f3 b q
      have n1 : F1 b = 0 := by
        by_cases z : 0 < F1 b
        · obtain ⟨xs, e⟩ := h1.there b z; rcases hn with hn | ⟨_, hn⟩ <;> (rw [hn] at e; cases e)
        · omega
      have n2 : F2 b = 0 := by
        by_cases z : 0 < F2 b
        · obtain ⟨xs, e⟩ := h2.there b z; rcases hn with hn | ⟨_, hn⟩ <;> (rw [hn] at e; cases e)
        · omega
      have := f2 b; omega
    · have := h3 b; omega
  · have hb : 0 < F1 b + (F b + F2 b) := hb
    by_cases q : 0 < F b
    · rcases f3 b q with e | ⟨ps, e⟩
      · exact r.bh.free e
      · cases z : B b with
        | none => rfl
        | some o =>
          have := r.bh _ _ z
          rw [e] at this; cases this
          exact (r.tb.no b ps z).elim
    · exact h4 b (by omega)
/-- tables alone have grown -/
theorem RS.grewT (r : RS K C B σ H ds ts) (k : SameT H H') (ht : KeepT H H') : RS K C B σ H' ds ts := by
  obtain ⟨F1, F2, h1, h2, h3, h4⟩ := r.ex
  exact ⟨⟨F1, F2, h1.mono (Same.refl B) k.kt (fun b xs _ e => k b _ (fun _ q => nomatch q) e), h2.monoT k, h3, h4⟩, r.tb.sameB k r.bh, r.b0, r.pin, r.tb.keep k.kt ht⟩
theorem RS.drop (r : RS K C B σ H ds (x :: ts)) : RS K C B σ H ds ts := by
  obtain ⟨F1, F2, h1, h2, h3, h4⟩ := r.ex
  obtain ⟨v, tm⟩ := x
  cases tm with
  | own d =>
    obtain ⟨G1, G2, g1, g2, rfl⟩ := h2
    exact ⟨⟨F1, G2, h1, g2, fun b => by have : F1 b + (G1 b + G2 b) ≤ 1 := h3 b; omega, fun b hb => h4 b (by show 0 < F1 b + (G1 b + G2 b); omega)⟩, r.bh, r.b0, r.pin, r.tb⟩
  | nm i => exact ⟨⟨F1, F2, h1, h2.2, h3, h4⟩, r.bh, r.b0, r.pin, r.tb⟩
  | pl i p => exact ⟨⟨F1, F2, h1, h2.2, h3, h4⟩, r.bh, r.b0, r.pin, r.tb⟩
  | vw d => exact ⟨⟨F1, F2, h1, h2.2, h3, h4⟩, r.bh, r.b0, r.pin, r.tb⟩
/-- the second dropped -/
theorem RS.drop2 (r : RS K C B σ H ds (x :: y :: ts)) : RS K C B σ H ds (x :: ts) := by
  obtain ⟨F1, F2, h1, h2, h3, h4⟩ := r.ex
  have key : ∀ (G : Fp), TmR K B H σ (y :: ts) G → ∃ G', (∀ b, G' b ≤ G b) ∧ TmR K B H σ ts G' := fun G h => by
    obtain ⟨w, tm⟩ := y
    cases tm with
    | own d =>
      obtain ⟨G1, G2, g1, g2, rfl⟩ := h
      exact ⟨G2, fun b => by show G2 b ≤ G1 b + G2 b; omega, g2⟩
    | nm i => exact ⟨G, fun _ => Nat.le_refl _, h.2⟩
    | pl i p => exact ⟨G, fun _ => Nat.le_refl _, h.2⟩
    | vw d => exact ⟨G, fun _ => Nat.le_refl _, h.2⟩
  obtain ⟨v, tm⟩ := x
  cases tm with
  | own d =>
    obtain ⟨G1, G2, g1, g2, rfl⟩ := h2
    obtain ⟨G', le, g⟩ := key G2 g2
    exact ⟨⟨F1, _, h1, ⟨G1, G', g1, g, rfl⟩, fun b => by have := le b; have : F1 b + (G1 b + G2 b) ≤ 1 := h3 b; show F1 b + (G1 b + G' b) ≤ 1; omega, fun b hb => h4 b (by have := le b; have hb : 0 < F1 b + (G1 b + G' b) := hb; show 0 < F1 b + (G1 b + G2 b); omega)⟩, r.bh, r.b0, r.pin, r.tb⟩
  | nm i =>
    obtain ⟨G', le, g⟩ := key F2 h2.2
    exact ⟨⟨F1, G', h1, ⟨h2.1, g⟩, fun b => by have := le b; have := h3 b; omega, fun b hb => h4 b (by have := le b; omega)⟩, r.bh, r.b0, r.pin, r.tb⟩
  | pl i p =>
    obtain ⟨G', le, g⟩ := key F2 h2.2
    exact ⟨⟨F1, G', h1, ⟨h2.1, g⟩, fun b => by have := le b; have := h3 b; omega, fun b hb => h4 b (by have := le b; omega)⟩, r.bh, r.b0, r.pin, r.tb⟩
  | vw d =>
    obtain ⟨G', le, g⟩ := key F2 h2.2
    exact ⟨⟨F1, G', h1, ⟨h2.1, g⟩, fun b => by have := le b; have := h3 b; omega, fun b hb => h4 b (by have := le b; omega)⟩, r.bh, r.b0, r.pin, r.tb⟩
theorem RS.nm (r : RS K C B σ H ds ts) {i : Nat} (e : ds[i]? = some (some d)) : ∃ v, σ[i]? = some (some v) ∧ VB K B H d v := by
  obtain ⟨F1, F2, h1, _⟩ := r.ex
  obtain ⟨v, G1, G2, a, b, _⟩ := h1.at e
  exact ⟨v, a, DR.view _ _ _ b⟩
theorem RS.length (r : RS K C B σ H ds ts) : ds.length = σ.length := by
  obtain ⟨F1, F2, h1, _⟩ := r.ex
  exact h1.length
def Tm.get (ds : DS) : Tm → Option D
  | .own d => some d
  | .nm i => (ds[i]?).join
  | .vw d => some d
  | .pl i p => ((ds[i]?).join).bind fun d => pget d p
/-- a view of a place -/
theorem VB.path {K : PySem.W.Frag} {B H : Hp} : ∀ {p : List Nat} {d e : D} {v w : V}, VB K B H d v → pget d p = some e → VP H v p w → VB K B H e w
  | [], d, e, v, w, h, g, q => by cases g; rw [show w = v from q]; exact h
  | j :: p, d, e, v, w, h, g, ⟨a, vs, u, ev, ha, hg, r⟩ => by
    have key : ∀ {xs : List D} {vs' : List V}, VBs K B H xs vs' → vs' = vs → ((xs[j]?).bind fun x => pget x p) = some e → VB K B H e w := fun {xs vs'} hx hv he => by
      cases z : xs[j]? with
      | none => rw [z] at he; cases he
      | some x =>
        rw [z] at he
        obtain ⟨u', a1, a2⟩ := hx.get z
        rw [hv, hg] at a1; cases a1
        exact VB.path a2 he r
    cases d with
    | lst xs =>
      obtain ⟨a', vs', ev', s, hx⟩ := h
      rw [ev] at ev'; cases ev'
      rcases ha with ha | ha
      · rw [s] at ha; cases ha; exact key hx rfl g
      · rw [s] at ha; cases ha
    | tupM xs =>
      obtain ⟨a', vs', ev', s, hx⟩ := h
      rw [ev] at ev'; cases ev'
      rcases ha with ha | ha
      · rw [s] at ha; cases ha
      · rw [s] at ha; cases ha; exact key hx rfl g
    | t x => cases g
    | frz x => cases g
    | scr x => cases g
/-- what the temporaries give now -/
theorem RS.see (r : RS K C B σ H ds ts) {tm : Tm} : ∀ {ts0 : Tms}, ts = ts0 ++ (v, tm) :: ts0' → tm.get ds = some d → VB K B H d v := by
  intro ts0 e hd
  subst e
  induction ts0 with
  | nil =>
    obtain ⟨F1, F2, h1, h2, _⟩ := r.ex
    cases tm with
    | own d' =>
      obtain ⟨G1, G2, g1, _⟩ := h2
      cases hd
      exact DR.view _ _ _ g1
    | nm i =>
      have e : ds[i]? = some (some d) := by
        simp only [Tm.get] at hd
        cases q : ds[i]? with
        | none => rw [q] at hd; simp at hd
        | some o => rw [q] at hd; simp at hd; rw [hd]
      obtain ⟨w, a, b⟩ := r.nm e
      rw [h2.1] at a; cases a
      exact b
    | vw d' => cases hd; exact h2.1
    | pl i p =>
      obtain ⟨⟨v0, e0, w0⟩, _⟩ := h2
      simp only [Tm.get] at hd
      cases q : ds[i]? with
      | none => rw [q] at hd; simp at hd
      | some o =>
        rw [q] at hd
        cases o with
        | none => simp at hd
        | some d0 =>
          obtain ⟨w, a, b⟩ := r.nm q
          rw [e0] at a; cases a
          exact VB.path b (by simpa using hd) w0
  | cons z ts0 ih => exact ih r.drop
theorem RS.see0 (r : RS K C B σ H ds ((v, tm) :: ts)) (h : tm.get ds = some d) : VB K B H d v := r.see (ts0 := []) rfl h
theorem RS.see1 (r : RS K C B σ H ds (x :: (v, tm) :: ts)) (h : tm.get ds = some d) : VB K B H d v := r.see (ts0 := [x]) rfl h
theorem RS.see2 (r : RS K C B σ H ds (x :: y :: (v, tm) :: ts)) (h : tm.get ds = some d) : VB K B H d v := r.see (ts0 := [x, y]) rfl h
theorem RS.tnm (r : RS K C B σ H ds ts) {i : Nat} (e : σ[i]? = some (some v)) : RS K C B σ H ds ((v, .nm i) :: ts) := by
  obtain ⟨F1, F2, h1, h2, h3, h4⟩ := r.ex
  exact ⟨⟨F1, F2, h1, ⟨e, h2⟩, h3, h4⟩, r.bh, r.b0, r.pin, r.tb⟩
theorem RS.tpl (r : RS K C B σ H ds ts) {i : Nat} {p : List Nat} {v0 : V} (e : σ[i]? = some (some v0)) (h : VP H v0 p v) : RS K C B σ H ds ((v, .pl i p) :: ts) := by
  obtain ⟨F1, F2, h1, h2, h3, h4⟩ := r.ex
  exact ⟨⟨F1, F2, h1, ⟨⟨v0, e, h⟩, h2⟩, h3, h4⟩, r.bh, r.b0, r.pin, r.tb⟩
theorem RS.tvw (r : RS K C B σ H ds ts) (e : VB K B H d v) : RS K C B σ H ds ((v, .vw d) :: ts) := by
  obtain ⟨F1, F2, h1, h2, h3, h4⟩ := r.ex
  exact ⟨⟨F1, F2, h1, ⟨e, h2⟩, h3, h4⟩, r.bh, r.b0, r.pin, r.tb⟩
/-- the heap grows -/
theorem RS.grow (r : RS K C B σ H ds ts) (k : Same H H') : RS K C B σ H' ds ts := (r.push (d := .t .non) (v := .non) k (Fresh.t rfl)).drop
/-- the last temporary is stored -/
theorem RS.store {i : Nat} (r : RS K C B σ H ds [(v, .own d)]) (hi : i < ds.length) (hp : i ∉ C.mx) : RS K C B (σ.set i (some v)) H (ds.set i (some d)) [] := by
  obtain ⟨F1, F2, h1, h2, h3, h4⟩ := r.ex
  obtain ⟨G1, G2, g1, g2, rfl⟩ := h2
  obtain rfl : G2 = z0 := g2
  obtain ⟨F', le, q⟩ := h1.put hi g1
  refine ⟨⟨_, z0, q, rfl, fun b => ?_, fun b hb => h4 b ?_⟩, r.bh, r.b0, fun p hp' => ?_, r.tb⟩
  · have := le b; have : F1 b + (G1 b + z0 b) ≤ 1 := h3 b; show G1 b + F' b + z0 b ≤ 1; simp only [z0] at *; omega
  · have := le b; have hb : 0 < G1 b + F' b + z0 b := hb; show 0 < F1 b + (G1 b + z0 b); simp only [z0] at *; omega
  · have hne : i ≠ p.1 := fun e => hp (by rw [e]; exact (List.of_mem_zip hp').1)
    rw [List.getElem?_set_ne hne]
    exact r.pin p hp'
/-- a slot's lists are frozen -/
def Hp.more (B H : Hp) (F : Fp) : Hp := fun b => if 0 < F b then H b else B b
mutual
theorem DR.freeze {K : PySem.W.Frag} {B B' H : Hp} (kb : Same B B') (kt : KT H B') : ∀ (d : D) (v : V) (F : Fp), (∀ b xs, 0 < F b → H b = some (.lst xs) → B' b = some (.lst xs)) → DR K B H d v F → VB K B' B' d v
  | .t x, v, F, _, h => TR.mono kt x v h.1
  | .lst xs, v, F, hf, h => by
    obtain ⟨a, vs, G, e, s, r, rfl⟩ := h
    exact ⟨a, vs, e, hf a vs (by simp [one]; omega) s, DRs.freeze kb kt xs vs G (fun b ys hb q => hf b ys (by show 0 < one a b + G b; omega) q) r⟩
  | .frz xs, v, F, hf, h => by
    obtain ⟨⟨a, vs, e, s, r⟩, _⟩ := h
    exact ⟨a, vs, e, kb _ _ s, VBs.mono kb kb xs vs r⟩
  | .scr xs, v, F, hf, h => by
    obtain ⟨⟨a, vs, e, s, r⟩, _⟩ := h
    exact ⟨a, vs, e, kb.seq s, VBs.mono kb kb xs vs r⟩
  | .tupM xs, v, F, hf, h => by
    obtain ⟨a, vs, e, s, r⟩ := h
    exact ⟨a, vs, e, kt.tup s, DRs.freeze kb kt xs vs F hf r⟩
theorem DRs.freeze {K : PySem.W.Frag} {B B' H : Hp} (kb : Same B B') (kt : KT H B') : ∀ (d : List D) (v : List V) (F : Fp), (∀ b xs, 0 < F b → H b = some (.lst xs) → B' b = some (.lst xs)) → DRs K B H d v F → VBs K B' B' d v
  | [], vs, F, _, h => h.1
  | x :: xs, vs, F, hf, h => by
    obtain ⟨v, r, F1, F2, e, h1, h2, rfl⟩ := h
    exact ⟨v, r, e, DR.freeze kb kt x v F1 (fun b ys hb q => hf b ys (by show 0 < F1 b + F2 b; omega) q) h1, DRs.freeze kb kt xs r F2 (fun b ys hb q => hf b ys (by show 0 < F1 b + F2 b; omega) q) h2⟩
end
/-- what is no list, and the lists at F, stay from now on -/
def firm (B H : Hp) (F : Fp) : Hp := fun b => match H b with
  | some (.lst xs) => if 0 < F b then some (.lst xs) else B b
  | some (.tbl _) => B b
  | o => o
theorem firm_same {F : Fp} (k : Same B H) : Same B (firm B H F) := fun b o e => by
  have e' := k b o e
  unfold firm
  rw [e']
  cases o with
  | lst xs =>
    show (if 0 < F b then some (HO.lst xs) else B b) = _
    split
    · rfl
    · exact e
  | tbl ps => exact e
  | _ => rfl
theorem firm_le {F : Fp} (k : Same B H) : Same (firm B H F) H := fun b o e => by
  unfold firm at e
  cases q : H b with
  | none => rw [q] at e; cases e
  | some u =>
    rw [q] at e
    cases u with
    | lst xs =>
      have e : (if 0 < F b then some (HO.lst xs) else B b) = some o := e
      split at e
      · exact e
      · have := k b o e; rw [q] at this; exact this
    | tbl ps => have := k b o e; rw [q] at this; exact this
    | _ => exact e
theorem firm_kt {F : Fp} : KT H (firm B H F) := fun b o n n2 e => by
  unfold firm
  rw [e]
  cases o <;> first | rfl | exact absurd rfl (n _) | exact absurd rfl (n2 _)
theorem firm_lst {F : Fp} (b : Addr) (xs : List V) (hb : 0 < F b) (e : H b = some (.lst xs)) : firm B H F b = some (.lst xs) := by
  unfold firm
  rw [e]
  simp only [if_pos hb]
theorem firm_none {F : Fp} {b : Addr} {xs : List V} (hb : F b = 0) (e : H b = some (.lst xs)) : firm B H F b = B b := by
  unfold firm
  rw [e]
  simp only [hb, Nat.lt_irrefl, if_false]
theorem Tb.firm {tabs : List Addr} {ex : List XT} {trk : Nat → Addr → Prop} {B H : Hp} {F : Fp} (t : Tb tabs ex trk B H) : Tb tabs ex trk (Dn.firm B H F) H := ⟨t.at_, t.ex, t.all, fun b ps e => by
  unfold Dn.firm at e
  cases q : H b with
  | none => rw [q] at e; cases e
  | some u =>
    rw [q] at e
    cases u with
    | lst xs =>
      have e : (if 0 < F b then some (HO.lst xs) else B b) = some (.tbl ps) := e
      split at e
      · cases e
      · exact t.no b ps e
    | tbl qs => exact t.no b ps e
    | _ => cases e⟩
/-- all that is no list becomes firm -/
theorem RS.firm0 (r : RS K C B σ H ds ts) : RS K C (firm B H z0) σ H ds ts := by
  obtain ⟨F1, F2, h1, h2, h3, h4⟩ := r.ex
  refine ⟨⟨F1, F2, h1.mono (firm_same r.bh) (KT.refl H) (fun _ _ _ e => e), h2.mono (firm_same r.bh) (Same.refl H), h3, fun b hb => ?_⟩, firm_le r.bh, r.b0.trans (firm_same r.bh), r.pin, r.tb.firm⟩
  have : ∃ xs, H b = some (.lst xs) := by
    by_cases q : 0 < F1 b
    · exact h1.there b q
    · exact h2.there b (by omega)
  obtain ⟨xs, e⟩ := this
  rw [firm_none rfl e]
  exact h4 b hb
/-- a slot becomes frozen -/
theorem RS.freeze (r : RS K C B σ H ds ts) {i : Nat} (e : ds[i]? = some (some d)) : ∃ B' v, Same B B' ∧ σ[i]? = some (some v) ∧ VB K B' B' d v ∧ VB K B' B' (fz d) v ∧ RS K C B' σ H (ds.set i (some (fz d))) ts := by
  obtain ⟨F1, F2, h1, h2, h3, h4⟩ := r.ex
  obtain ⟨v, G1, G2, a, b, rfl, _, g⟩ := h1.at e
  have kb : Same B (firm B H G1) := firm_same r.bh
  have w := DR.freeze (B' := firm B H G1) kb firm_kt d v G1 (fun b xs hb e => firm_lst b xs hb e) b
  have w' : VB K (firm B H G1) H (fz d) v := VB.mono (Same.refl _) (firm_le r.bh) _ _ (VB.fz d v w)
  have w2 := VB.held (fz d) v (cp_fz d) w'
  refine ⟨firm B H G1, v, kb, a, w, VB.fz d v w, ⟨⟨fun b => z0 b + G2 b, F2, ?_, h2.mono kb (Same.refl H), fun b => ?_, fun b hb => ?_⟩, firm_le r.bh, r.b0.trans kb, r.pin, r.tb.firm⟩⟩
  · have q := SlR.fill (i := i) (d := fz d) (v := v) (F' := z0) (g.mono kb (KT.refl H) (fun _ _ _ e => e)) (by simp [(List.getElem?_eq_some_iff.mp e).1]) a w2
    rw [List.set_set] at q
    exact q
  · have : G1 b + G2 b + F2 b ≤ 1 := h3 b
    show z0 b + G2 b + F2 b ≤ 1; simp only [z0]; omega
  · have hb : 0 < z0 b + G2 b + F2 b := hb
    have h3b : G1 b + G2 b + F2 b ≤ 1 := h3 b
    have hg : G1 b = 0 := by simp only [z0] at hb; omega
    have : ∃ xs, H b = some (.lst xs) := by
      by_cases q : 0 < G2 b
      · exact g.there b q
      · exact h2.there b (by simp only [z0] at hb; omega)
    obtain ⟨xs, e'⟩ := this
    rw [firm_none hg e']
    exact h4 b (by show 0 < G1 b + G2 b + F2 b; simp only [z0] at hb; omega)
/-- a slot's value is moved out -/
theorem RS.move (r : RS K C B σ H ds ts) {i : Nat} (e : ds[i]? = some (some d)) : ∃ v, σ[i]? = some (some v) ∧ RS K C B σ H (ds.set i none) ((v, .own d) :: ts) := by
  obtain ⟨F1, F2, h1, h2, h3, h4⟩ := r.ex
  obtain ⟨v, G1, G2, a, b, rfl, _, g⟩ := h1.at e
  exact ⟨v, a, ⟨G2, _, g, ⟨G1, F2, b, h2, rfl⟩, fun c => by have : G1 c + G2 c + F2 c ≤ 1 := h3 c; show G2 c + (G1 c + F2 c) ≤ 1; omega, fun c hc => h4 c (by have hc : 0 < G2 c + (G1 c + F2 c) := hc; show 0 < G1 c + G2 c + F2 c; omega)⟩, r.bh, r.b0, r.pin, r.tb⟩
end
end Dn

set_option Elab.async false
set_option linter.all false
set_option maxRecDepth 100000
/-! Dn3: readings over values; operands; the pure operations. -/
namespace L2
open PySem PySem.Spec PyProof.Rows
section
variable {X : Cx}
theorem PE.imp {e : Expr} {t t' : TE} (h : PE X e t) (f : ∀ σ H Q, t' σ H Q → t σ H Q) : PE X e t' := ⟨fun pins s σ H Q I q => h.run pins s σ H Q I (f _ _ _ q)⟩
theorem PT.imp {e : Expr} {t t' : TT} (h : PT X e t) (f : ∀ σ H Q, t' σ H Q → t σ H Q) : PT X e t' := ⟨fun pins s σ H Q I q => h.run pins s σ H Q I (f _ _ _ q)⟩
theorem PW.imp {e : Expr} {t t' : TT} (h : PW X e t) (f : ∀ σ H Q, t' σ H Q → t σ H Q) : PW X e t' := ⟨fun w pins s σ H Q I q => h.run w pins s σ H Q I (f _ _ _ q)⟩
theorem PA.imp {e : List Expr} {t t' : TA} (h : PA X e t) (f : ∀ σ H Q, t' σ H Q → t σ H Q) : PA X e t' := ⟨fun pos pins s σ H Q I q => h.run pos pins s σ H Q I (f _ _ _ q)⟩
theorem PS.imp {e : Stmt} {t t' : TS} (h : PS X e t) (f : ∀ D σ H, t' D σ H → t D σ H) : PS X e t' := ⟨fun pins s σ H D I q => h.run pins s σ H D I (f _ _ _ q)⟩
theorem PSs.imp {e : List Stmt} {t t' : TS} (h : PSs X e t) (f : ∀ D σ H, t' D σ H → t D σ H) : PSs X e t' := ⟨fun pins s σ H D I q => h.run pins s σ H D I (f _ _ _ q)⟩
theorem PI.imp {tg e : Expr} {t t' : TI} (h : PI X tg e t) (f : ∀ σ H R, t' σ H R → t σ H R) : PI X tg e t' := ⟨fun pins s σ H R I q => h.run pins s σ H R I (f _ _ _ q)⟩
end

end L2
namespace Dn
open PySem PySem.Spec PyProof.Rows L2

abbrev ED := DS → (D → DS → Prop) → Prop
abbrev OD := DS → (Tm → DS → Prop) → Prop
abbrev QD := DS → (Bool → DS → Prop) → Prop
structure DE where
  nx : DS → Prop
  rt : D → DS → Prop
  bk : DS → Prop := fun _ => False
  ct : DS → Prop := fun _ => False
abbrev SD := DE → DS → Prop

section
variable (K : PySem.W.Frag) (C : FC) (p : Bool)
def LE (t : ED) : TE := fun σ H Q => ∃ B ds ts P, RS K C B σ H ds ts ∧ (p = false → novw ts) ∧ t ds P ∧ ∀ d ds', P d ds' → ∀ v H' B', Same B B' → RS K C B' σ H' ds' ((v, .own d) :: ts) → Q v H'
def LO (t : OD) : TE := fun σ H Q => ∃ B ds ts P, RS K C B σ H ds ts ∧ (p = false → novw ts) ∧ t ds P ∧ ∀ tm ds', P tm ds' → ∀ v H' B', Same B B' → RS K C B' σ H' ds' ((v, tm) :: ts) → Q v H'
def LT (t : QD) : TT := fun σ H Q => ∃ B ds ts P, RS K C B σ H ds ts ∧ (p = false → novw ts) ∧ t ds P ∧ ∀ b ds', P b ds' → ∀ H' B', Same B B' → RS K C B' σ H' ds' ts → Q b H'
def LS (t : SD) : TS := fun D σ H => ∃ B ds E, RS K C B σ H ds [] ∧ t E ds ∧
  (∀ ds', E.nx ds' → ∀ σ' H' B', Same B B' → RS K C B' σ' H' ds' [] → D.nx σ' H') ∧
  (∀ d ds', E.rt d ds' → ∀ v σ' H' B', Same B B' → RS K C B' σ' H' ds' [(v, .own d)] → D.rt v H') ∧
  (∀ ds', E.bk ds' → ∀ σ' H' B', Same B B' → RS K C B' σ' H' ds' [] → D.bk σ' H') ∧
  (∀ ds', E.ct ds' → ∀ σ' H' B', Same B B' → RS K C B' σ' H' ds' [] → D.ct σ' H')
end

section
variable {X : Cx} {C : FC} {p : Bool}
/-! ### constants, names -/
def dC (x : T) : ED := fun ds Q => Q (.t x) ds
theorem e_const {e : Expr} {v : V} {x : T} (h : PE X e (tC v)) (hx : ∀ H, TR X.K H x v) : PE X e (LE X.K C p (dC x)) :=
  h.imp fun σ H Q ⟨B, ds, ts, P, r, nv, t, q⟩ => q _ _ t v H B (Same.refl _) (r.push (Same.refl _) (Fresh.t (hx H)))
theorem e_int {i j pos} : PE X (.Constant (.int i) j pos) (LE X.K C p (dC (.int i))) := e_const pe_int fun _ => rfl
theorem e_bl {b j pos} : PE X (.Constant (.bool b) j pos) (LE X.K C p (dC (.bl b))) := e_const pe_bl fun _ => rfl
theorem e_non {j pos} : PE X (.Constant .none j pos) (LE X.K C p (dC .non)) := e_const pe_non fun _ => rfl
theorem e_str {x j pos} : PE X (.Constant (.str x) j pos) (LE X.K C p (dC (.str x))) := e_const pe_str fun _ => rfl
/-- a name, its value copied -/
def dN (i : Nat) : ED := fun ds Q => ∃ d, ds[i]? = some (some d) ∧ cp d = true ∧ Q d ds
/-- .. its list frozen -/
def dNf (i : Nat) : ED := fun ds Q => ∃ d, ds[i]? = some (some d) ∧ Q (fz d) (ds.set i (some (fz d)))
/-- .. moved out -/
def dNm (i : Nat) : ED := fun ds Q => ∃ d, ds[i]? = some (some d) ∧ Q d (ds.set i none)
theorem e_n {e : Expr} {i : Nat} (h : PE X e (tVar i)) : PE X e (LE X.K C p (dN i)) :=
  h.imp fun σ H Q ⟨B, ds, ts, P, r, nv, ⟨d, e, c, t⟩, q⟩ => by
    obtain ⟨v, a, b⟩ := r.nm e
    exact ⟨v, a, q _ _ t v H B (Same.refl _) (r.push (Same.refl _) (Fresh.cp b c))⟩
theorem e_nf {e : Expr} {i : Nat} (h : PE X e (tVar i)) : PE X e (LE X.K C p (dNf i)) :=
  h.imp fun σ H Q ⟨B, ds, ts, P, r, nv, ⟨d, e, t⟩, q⟩ => by
    obtain ⟨B', v, kb, a, w, w', r'⟩ := r.freeze e
    exact ⟨v, a, q _ _ t v H B' kb (r'.push (Same.refl _) (Fresh.cp (VB.mono (Same.refl _) r'.bh _ _ w') (cp_fz d)))⟩
theorem e_nm {e : Expr} {i : Nat} (h : PE X e (tVar i)) : PE X e (LE X.K C p (dNm i)) :=
  h.imp fun σ H Q ⟨B, ds, ts, P, r, nv, ⟨d, e, t⟩, q⟩ => by
    obtain ⟨v, a, r'⟩ := r.move e
    exact ⟨v, a, q _ _ t v H B (Same.refl _) r'⟩

/-! ### operands -/
def oE (t : ED) : OD := fun ds Q => t ds fun d ds' => Q (.own d) ds'
def oN (i : Nat) : OD := fun ds Q => ∃ d, ds[i]? = some (some d) ∧ Q (.nm i) ds
theorem o_e {e : Expr} {t : ED} (h : PE X e (LE X.K C p t)) : PE X e (LO X.K C p (oE t)) :=
  h.imp fun σ H Q ⟨B, ds, ts, P, r, nv, t, q⟩ => ⟨B, ds, ts, _, r, nv, t, fun d ds' z => q _ _ z⟩
theorem o_n {e : Expr} {i : Nat} (h : PE X e (tVar i)) : PE X e (LO X.K C p (oN i)) :=
  h.imp fun σ H Q ⟨B, ds, ts, P, r, nv, ⟨d, e, t⟩, q⟩ => by
    obtain ⟨v, a, b⟩ := r.nm e
    exact ⟨v, a, q _ _ t v H B (Same.refl _) (r.tnm a)⟩

/-! ### operations by values -/
abbrev F1 := D → (D → Prop) → Prop
abbrev F2 := D → D → (D → Prop) → Prop
abbrev FN := List D → (D → Prop) → Prop
/-- what an operation's rule asks is given by what f says -/
def R1 (K : PySem.W.Frag) (f : F1) (r : V → Hp → VK → Prop) : Prop := ∀ B H v d Q' Q, Same B H → VB K B H d v → f d Q' → (∀ d' v' H', Same H H' → Fresh K B H H' d' v' → Q' d' → Q v' H') → r v H Q
def R2' (K : PySem.W.Frag) (f : F2) (r : R2) : Prop := ∀ B H v1 v2 d1 d2 Q' Q, Same B H → VB K B H d1 v1 → VB K B H d2 v2 → f d1 d2 Q' → (∀ d' v' H', Same H H' → Fresh K B H H' d' v' → Q' d' → Q v' H') → r v1 v2 H Q
def RN (K : PySem.W.Frag) (f : FN) (r : List V → Hp → VK → Prop) : Prop := ∀ B H vs ds Q' Q, Same B H → VBs K B H ds vs → f ds Q' → (∀ d' v' H', Same H H' → Fresh K B H H' d' v' → Q' d' → Q v' H') → r vs H Q
/-- a later operand may change things only where no view waits -/
def nvs : Bool → Tm → Prop
  | false, .vw _ => False
  | false, .pl _ _ => False
  | _, _ => True
def d1 (f : F1) (a : OD) : ED := fun ds Q => a ds fun x ds1 => ∃ d, x.get ds1 = some d ∧ f d fun d' => Q d' ds1
def d2 (p : Bool) (f : F2) (a b : OD) : ED := fun ds Q => a ds fun x ds1 => nvs p x ∧ b ds1 fun y ds2 => ∃ d d', x.get ds2 = some d ∧ y.get ds2 = some d' ∧ f d d' fun d'' => Q d'' ds2
theorem nv_cons {p : Bool} {v : V} {x : Tm} {ts : Tms} (h : nvs p x) (n : p = false → novw ts) : p = false → novw ((v, x) :: ts) := fun e => by
  subst e
  cases x with
  | vw d => exact h.elim
  | pl i p => exact h.elim
  | own d => exact n rfl
  | nm i => exact n rfl
variable {ta tb : OD} {pos : Pos} {ea eb : Expr} {p2 : Bool}
theorem un_run {K : PySem.W.Frag} {f : F1} {r : V → Hp → VK → Prop} (hr : R1 K f r) {σ : L2.St} {H : Hp} {Q : VK} (h : LE K C p (d1 f ta) σ H Q) : tUn r (LO K C p ta) σ H Q := by
  obtain ⟨B, ds, ts, P, rs, nv, t, q⟩ := h
  refine ⟨B, ds, ts, _, rs, nv, t, fun tm ds1 ⟨d, e1, ht⟩ v1 H1 B1 kb1 r1 => ?_⟩
  exact hr B1 H1 v1 d _ _ r1.bh (r1.see0 e1) ht fun d' v' H' k fr z => q _ _ z v' H' B1 kb1 ((r1.push k fr).drop2)
theorem bi_run {K : PySem.W.Frag} {f : F2} {r : R2} (hr : R2' K f r) (hp : p = true → p2 = true) {σ : L2.St} {H : Hp} {Q : VK} (h : LE K C p (d2 p2 f ta tb) σ H Q) : tOp r (LO K C p ta) (LO K C p2 tb) σ H Q := by
  obtain ⟨B, ds, ts, P, rs, nv, t, q⟩ := h
  refine ⟨B, ds, ts, _, rs, nv, t, fun tm ds1 ⟨n1, ht⟩ v1 H1 B1 kb1 r1 => ?_⟩
  have nv2 : p2 = false → novw ts := fun e => nv (by cases p; rfl; exact absurd (hp rfl) (by rw [e]; decide))
  refine ⟨B1, ds1, _, _, r1, nv_cons n1 nv2, ht, fun tm2 ds2 ⟨d, d', e1, e2, hf⟩ v2 H2 B2 kb2 r2 => ?_⟩
  exact hr B2 H2 v1 v2 d d' _ _ r2.bh (r2.see1 e1) (r2.see0 e2) hf fun d'' v' H' k fr z => q _ _ z v' H' B2 (kb1.trans kb2) (((r2.push k fr).drop2).drop2)
theorem e_un {op : UnaryOp} {f : F1} {r : V → Hp → VK → Prop} (ho : UnR X (unaryOp op) r) (hr : R1 X.K f r) (ha : PE X ea (LO X.K C p ta)) : PE X (.UnaryOp op ea pos) (LE X.K C p (d1 f ta)) :=
  (pe_un ho ha).imp fun _ _ _ h => un_run hr h
theorem e_op {op : Operator} {f : F2} {r : R2} (ho : OpR X (binaryOp op) r) (hr : R2' X.K f r) (ha : PE X ea (LO X.K C p ta)) (hb : PE X eb (LO X.K C p2 tb)) (hp : p = true → p2 = true := by decide) : PE X (.BinOp ea op eb pos) (LE X.K C p (d2 p2 f ta tb)) :=
  (pe_op ho ha hb).imp fun _ _ _ h => bi_run hr hp h
theorem e_cmp {op : CmpOp} {f : F2} {r : R2} (ho : OpR X (compareOp op) r) (hr : R2' X.K f r) (ha : PE X ea (LO X.K C p ta)) (hb : PE X eb (LO X.K C p2 tb)) (hm : behindInMarks op eb = false) (hp : p = true → p2 = true := by decide) :
    PE X (.Compare ea [op] [eb] pos) (LE X.K C p (d2 p2 f ta tb)) :=
  (pe_cmpR ho ha hb hm).imp fun _ _ _ h => bi_run hr hp h
/-! ### tests -/
/-- a value that is a bool, as a test -/
def qB (t : ED) : QD := fun ds Q => t ds fun d ds' => ∃ b, d = .t (.bl b) ∧ Q b ds'
theorem lt_bl {K : PySem.W.Frag} {t : ED} {σ : L2.St} {H : Hp} {Q : Bool → Hp → Prop} (h : LT K C p (qB t) σ H Q) : LE K C p t σ H fun x H' => ∃ k, x = .bl k ∧ Q k H' := by
  obtain ⟨B, ds, ts, P, rs, nv, t, q⟩ := h
  refine ⟨B, ds, ts, _, rs, nv, t, fun d ds' ⟨b, e, z⟩ v H' B' kb r => ?_⟩
  subst e
  have e : v = .bl b := r.see0 (d := .t (.bl b)) rfl
  subst e
  exact ⟨b, rfl, q _ _ z H' B' kb r.drop⟩
theorem q_cmp {op : CmpOp} {f : F2} {r : R2} (ho : OpR X (compareOp op) r) (hr : R2' X.K f r) (ha : PE X ea (LO X.K C p ta)) (hb : PE X eb (LO X.K C p2 tb)) (hm : behindInMarks op eb = false) (hp : p = true → p2 = true := by decide) :
    PT X (.Compare ea [op] [eb] pos) (LT X.K C p (qB (d2 p2 f ta tb))) :=
  (pt_cmpR ho ha hb hm).imp fun _ _ _ h => bi_run hr hp (lt_bl h)
theorem q_val {e : Expr} {t : ED} (h : PE X e (LE X.K C p t)) (he : ∀ whole, isTrue e X.env whole = (do let v ← whole; standAt e.pos; holding [v] (truthy v)) := by intro _; rfl) : PT X e (LT X.K C p (qB t)) :=
  (pt_val h he).imp fun _ _ _ h => lt_bl h
/-- the truth of a value -/
def truD : D → Option Bool
  | .t .non => some false
  | .t (.bl b) => some b
  | .t (.int i) => some (i != 0)
  | .t (.str x) => if x.length ≤ sizeLine then some (x.length != 0) else none
  | .t (.tup xs) => some (!xs.isEmpty)
  | .lst xs => some (!xs.isEmpty)
  | .frz xs => some (!xs.isEmpty)
  | .tupM xs => some (!xs.isEmpty)
  | .scr xs => some (!xs.isEmpty)
def qV (t : OD) : QD := fun ds Q => t ds fun x ds' => ∃ d b, x.get ds' = some d ∧ truD d = some b ∧ Q b ds'
end
end Dn

set_option Elab.async false
set_option linter.all false
set_option maxRecDepth 100000
/-! Dn4: tests, argument lists, displays, operators, subscripts. -/
namespace Dn
open PySem PySem.Spec PyProof.Rows L2
section
variable {X : Cx} {C : FC} {p p2 p3 : Bool} {pos : Pos} {ea eb ec : Expr}
/-! ### tests -/
theorem q_truth {ta : OD} (ha : PE X ea (LO X.K C p ta)) (he : ∀ whole, isTrue ea X.env whole = (do let v ← whole; standAt ea.pos; holding [v] (truthy v)) := by intro _; rfl) : PT X ea (LT X.K C p (qV ta)) :=
  (pt_truth ha he).imp fun σ H Q ⟨B, ds, ts, P, r, nv, t, q⟩ => by
    refine ⟨B, ds, ts, _, r, nv, t, fun tm ds1 ⟨d, b, e1, e2, z⟩ v1 H1 B1 kb1 r1 => ⟨b, ?_, q _ _ z H1 B1 kb1 r1.drop⟩⟩
    have w := r1.see0 e1
    cases d with
    | t x =>
      cases x with
      | non => rw [show v1 = .non from w]; exact (Option.some.inj e2).symm
      | bl c => rw [show v1 = .bl c from w]; exact (Option.some.inj e2).symm
      | int i => rw [show v1 = .int i from w]; exact (Option.some.inj e2).symm
      | str x =>
        rw [show v1 = .str x from w]
        simp only [truD] at e2
        split at e2
        · rename_i hl
          refine ⟨hl, (Option.some.inj e2).symm.trans ?_⟩
          rw [Bool.eq_iff_iff]
          simp only [bne_iff_ne, ne_eq]
          omega
        · cases e2
      | tup xs =>
        obtain ⟨a, vs, rfl, hs, hr⟩ := w
        refine .inr (.inl ⟨vs, SqT.of hs, (Option.some.inj e2).symm.trans ?_⟩)
        have := hr.length
        cases xs <;> cases vs <;> first | rfl | simp at this
    | lst xs =>
      obtain ⟨a, vs, rfl, hs, hr⟩ := w
      refine .inl ⟨vs, SqL.of hs, (Option.some.inj e2).symm.trans ?_⟩
      have := hr.length
      cases xs <;> cases vs <;> first | rfl | simp at this
    | frz xs =>
      obtain ⟨a, vs, rfl, hs, hr⟩ := w
      refine .inl ⟨vs, SqL.of (r1.bh _ _ hs), (Option.some.inj e2).symm.trans ?_⟩
      have := hr.length
      cases xs <;> cases vs <;> first | rfl | simp at this
    | scr xs =>
      obtain ⟨a, vs, rfl, hs, hr⟩ := w
      refine .inl ⟨vs, r1.bh.seq hs, (Option.some.inj e2).symm.trans ?_⟩
      have := hr.length
      cases xs <;> cases vs <;> first | rfl | simp at this
    | tupM xs =>
      obtain ⟨a, vs, rfl, hs, hr⟩ := w
      refine .inr (.inl ⟨vs, SqT.of hs, (Option.some.inj e2).symm.trans ?_⟩)
      have := hr.length
      cases xs <;> cases vs <;> first | rfl | simp at this
def qAnd (a b : QD) : QD := fun ds Q => a ds fun c ds1 => if c = true then b ds1 Q else Q false ds1
def qOr (a b : QD) : QD := fun ds Q => a ds fun c ds1 => if c = true then Q true ds1 else b ds1 Q
def qNot (a : QD) : QD := fun ds Q => a ds fun c ds1 => Q (!c) ds1
variable {qa qb qc : QD} {rest : List Expr}
theorem w_and1 (ha : PT X ea (LT X.K C p qa)) : PW X (.BoolOp .And [ea] pos) (LT X.K C p qa) := pw_and1 ha
theorem w_or1 (ha : PT X ea (LT X.K C p qa)) : PW X (.BoolOp .Or [ea] pos) (LT X.K C p qa) := pw_or1 ha
theorem lt_and {K : PySem.W.Frag} {σ : L2.St} {H : Hp} {Q : Bool → Hp → Prop} (h : LT K C p (qAnd qa qb) σ H Q) : tAnd (LT K C p qa) (LT K C p qb) σ H Q := by
  obtain ⟨B, ds, ts, P, r, nv, t, q⟩ := h
  refine ⟨B, ds, ts, _, r, nv, t, fun b ds1 z H1 B1 kb1 r1 => ?_⟩
  cases b with
  | true =>
    rw [if_pos rfl] at z ⊢
    exact ⟨B1, ds1, ts, P, r1, nv, z, fun b ds' z H' B' kb r' => q _ _ z H' B' (kb1.trans kb) r'⟩
  | false =>
    rw [if_neg Bool.false_ne_true] at z ⊢
    exact q _ _ z H1 B1 kb1 r1
theorem lt_or {K : PySem.W.Frag} {σ : L2.St} {H : Hp} {Q : Bool → Hp → Prop} (h : LT K C p (qOr qa qb) σ H Q) : tOr (LT K C p qa) (LT K C p qb) σ H Q := by
  obtain ⟨B, ds, ts, P, r, nv, t, q⟩ := h
  refine ⟨B, ds, ts, _, r, nv, t, fun b ds1 z H1 B1 kb1 r1 => ?_⟩
  cases b with
  | true =>
    rw [if_pos rfl] at z ⊢
    exact q _ _ z H1 B1 kb1 r1
  | false =>
    rw [if_neg Bool.false_ne_true] at z ⊢
    exact ⟨B1, ds1, ts, P, r1, nv, z, fun b ds' z H' B' kb r' => q _ _ z H' B' (kb1.trans kb) r'⟩
theorem w_and (ha : PT X ea (LT X.K C p qa)) (hb : PW X (.BoolOp .And (eb :: rest) pos) (LT X.K C p qb)) : PW X (.BoolOp .And (ea :: eb :: rest) pos) (LT X.K C p (qAnd qa qb)) :=
  (pw_and ha hb).imp fun _ _ _ h => lt_and h
theorem w_or (ha : PT X ea (LT X.K C p qa)) (hb : PW X (.BoolOp .Or (eb :: rest) pos) (LT X.K C p qb)) : PW X (.BoolOp .Or (ea :: eb :: rest) pos) (LT X.K C p (qOr qa qb)) :=
  (pw_or ha hb).imp fun _ _ _ h => lt_or h
theorem q_w {e : Expr} (h : PW X e (LT X.K C p qa)) : PT X e (LT X.K C p qa) := h.pt
theorem q_not (ha : PT X ea (LT X.K C p qa)) : PT X (.UnaryOp .Not ea pos) (LT X.K C p (qNot qa)) :=
  (pt_not ha).imp fun σ H Q ⟨B, ds, ts, P, r, nv, t, q⟩ => ⟨B, ds, ts, _, r, nv, t, fun b ds1 z H1 B1 kb1 r1 => q _ _ z H1 B1 kb1 r1⟩
/-- if-expressions -/
def dIf (c : QD) (a b : ED) : ED := fun ds Q => c ds fun k ds1 => if k = true then a ds1 Q else b ds1 Q
variable {ta tb : ED}
theorem e_if (hc : PT X ec (LT X.K C p qc)) (ha : PE X ea (LE X.K C p ta)) (hb : PE X eb (LE X.K C p tb)) : PE X (.IfExp ec ea eb pos) (LE X.K C p (dIf qc ta tb)) :=
  (pe_ifExp hc ha hb).imp fun σ H Q ⟨B, ds, ts, P, r, nv, t, q⟩ => by
    refine ⟨B, ds, ts, _, r, nv, t, fun b ds1 z H1 B1 kb1 r1 => ?_⟩
    cases b with
    | true =>
      rw [if_pos rfl] at z ⊢
      exact ⟨B1, ds1, ts, P, r1, nv, z, fun d ds' z v H' B' kb r' => q _ _ z v H' B' (kb1.trans kb) r'⟩
    | false =>
      rw [if_neg Bool.false_ne_true] at z ⊢
      exact ⟨B1, ds1, ts, P, r1, nv, z, fun d ds' z v H' B' kb r' => q _ _ z v H' B' (kb1.trans kb) r'⟩
/-- and, or, not as values of bools -/
def dAnd (a b : ED) : ED := fun ds Q => a ds fun d ds1 => ∃ c, d = .t (.bl c) ∧ if c = true then b ds1 Q else Q (.t (.bl false)) ds1
def dOr (a b : ED) : ED := fun ds Q => a ds fun d ds1 => ∃ c, d = .t (.bl c) ∧ if c = true then Q (.t (.bl true)) ds1 else b ds1 Q
def dNot (a : ED) : ED := fun ds Q => a ds fun d ds1 => ∃ c, d = .t (.bl c) ∧ Q (.t (.bl (!c))) ds1
theorem e_one {op} (h : PE X ea (LE X.K C p ta)) : PE X (.BoolOp op [ea] pos) (LE X.K C p ta) := pe_one h
theorem e_and (ha : PE X ea (LE X.K C p ta)) (hb : PE X (.BoolOp .And (eb :: rest) pos) (LE X.K C p tb)) : PE X (.BoolOp .And (ea :: eb :: rest) pos) (LE X.K C p (dAnd ta tb)) :=
  (pe_and ha hb).imp fun σ H Q ⟨B, ds, ts, P, r, nv, t, q⟩ => by
    refine ⟨B, ds, ts, _, r, nv, t, fun d ds1 ⟨c, e, z⟩ v1 H1 B1 kb1 r1 => ?_⟩
    subst e
    have e : v1 = .bl c := r1.see0 (d := .t (.bl c)) rfl
    subst e
    refine ⟨c, rfl, ?_⟩
    cases c with
    | true =>
      rw [if_pos rfl] at z ⊢
      exact ⟨B1, ds1, ts, P, r1.drop, nv, z, fun d ds' z v H' B' kb r' => q _ _ z v H' B' (kb1.trans kb) r'⟩
    | false =>
      rw [if_neg Bool.false_ne_true] at z ⊢
      exact q _ _ z _ H1 B1 kb1 r1
theorem e_or (ha : PE X ea (LE X.K C p ta)) (hb : PE X (.BoolOp .Or (eb :: rest) pos) (LE X.K C p tb)) : PE X (.BoolOp .Or (ea :: eb :: rest) pos) (LE X.K C p (dOr ta tb)) :=
  (pe_or ha hb).imp fun σ H Q ⟨B, ds, ts, P, r, nv, t, q⟩ => by
    refine ⟨B, ds, ts, _, r, nv, t, fun d ds1 ⟨c, e, z⟩ v1 H1 B1 kb1 r1 => ?_⟩
    subst e
    have e : v1 = .bl c := r1.see0 (d := .t (.bl c)) rfl
    subst e
    refine ⟨c, rfl, ?_⟩
    cases c with
    | true =>
      rw [if_pos rfl] at z ⊢
      exact q _ _ z _ H1 B1 kb1 r1
    | false =>
      rw [if_neg Bool.false_ne_true] at z ⊢
      exact ⟨B1, ds1, ts, P, r1.drop, nv, z, fun d ds' z v H' B' kb r' => q _ _ z v H' B' (kb1.trans kb) r'⟩
theorem e_not (ha : PE X ea (LE X.K C p ta)) : PE X (.UnaryOp .Not ea pos) (LE X.K C p (dNot ta)) :=
  (pe_not ha).imp fun σ H Q ⟨B, ds, ts, P, r, nv, t, q⟩ => by
    refine ⟨B, ds, ts, _, r, nv, t, fun d ds1 ⟨c, e, z⟩ v1 H1 B1 kb1 r1 => ?_⟩
    subst e
    have e : v1 = .bl c := r1.see0 (d := .t (.bl c)) rfl
    subst e
    exact ⟨c, rfl, q _ _ z _ H1 B1 kb1 (r1.drop.push (Same.refl _) (Fresh.t (x := .bl (!c)) rfl))⟩
end

/-! ### what is held beside -/
structure RSF (K : PySem.W.Frag) (C : FC) (B : Hp) (σ : L2.St) (H : Hp) (ds : DS) (ts : Tms) (F : Fp) : Prop where
  ex : ∃ F1 F2, SlR K B H ds σ F1 ∧ TmR K B H σ ts F2 ∧ (∀ b, F1 b + F2 b + F b ≤ 1) ∧ ∀ b, 0 < F1 b + F2 b + F b → B b = none
  bh : Same B H
  b0 : Same C.B0 B
  pin : ∀ p ∈ C.mx.zip C.pv, σ[p.1]? = some (some p.2)
  tb : Tb C.tabs C.ex C.trk B H
section
variable {K : PySem.W.Frag} {C : FC} {B H H' : Hp} {σ : L2.St} {ds : DS} {ts : Tms} {F : Fp} {v : V} {d : D}
theorem RS.rsf (r : RS K C B σ H ds ts) : RSF K C B σ H ds ts z0 := by
  obtain ⟨F1, F2, h1, h2, h3, h4⟩ := r.ex
  exact ⟨⟨F1, F2, h1, h2, h3, h4⟩, r.bh, r.b0, r.pin, r.tb⟩
/-- a temporary is taken up -/
def Tm.take (ds : DS) : Tm → Option D
  | .own d => some d
  | .nm i => ((ds[i]?).join).bind fun d => if cp d = true then some d else none
  | .vw d => if cp d = true then some d else none
  | .pl _ _ => none
theorem RSF.take {tm : Tm} (r : RSF K C B σ H ds ((v, tm) :: ts) F) (h : tm.take ds = some d) : ∃ G, DR K B H d v G ∧ RSF K C B σ H ds ts (fun b => G b + F b) := by
  obtain ⟨F1, F2, h1, h2, h3, h4⟩ := r.ex
  cases tm with
  | own d' =>
    cases h
    obtain ⟨G1, G2, g1, g2, rfl⟩ := h2
    refine ⟨G1, g1, ⟨F1, G2, h1, g2, fun b => ?_, fun b hb => h4 b ?_⟩, r.bh, r.b0, r.pin, r.tb⟩
    · have : F1 b + (G1 b + G2 b) + F b ≤ 1 := h3 b; show F1 b + G2 b + (G1 b + F b) ≤ 1; omega
    · have hb : 0 < F1 b + G2 b + (G1 b + F b) := hb; show 0 < F1 b + (G1 b + G2 b) + F b; omega
  | nm i =>
    have e : ds[i]? = some (some d) ∧ cp d = true := by
      simp only [Tm.take] at h
      cases q : ds[i]? with
      | none => rw [q] at h; simp at h
      | some o =>
        rw [q] at h
        cases o with
        | none => simp at h
        | some d' => simp at h; exact ⟨by rw [h.2], h.2 ▸ h.1⟩
    obtain ⟨w, G1, G2, a, b, _⟩ := h1.at e.1
    rw [h2.1] at a; cases a
    refine ⟨z0, VB.held d v e.2 (DR.view _ _ _ b), ⟨F1, F2, h1, h2.2, fun b => ?_, fun b hb => h4 b ?_⟩, r.bh, r.b0, r.pin, r.tb⟩
    · have := h3 b; show F1 b + F2 b + (z0 b + F b) ≤ 1; simp only [z0]; omega
    · have hb : 0 < F1 b + F2 b + (z0 b + F b) := hb; simp only [z0] at hb; omega
  | pl i p => cases h
  | vw d' =>
    have e : d' = d ∧ cp d' = true := by
      simp only [Tm.take] at h
      split at h
      · rename_i c; cases h; exact ⟨rfl, c⟩
      · cases h
    obtain ⟨rfl, c⟩ := e
    refine ⟨z0, VB.held d' v c h2.1, ⟨F1, F2, h1, h2.2, fun b => ?_, fun b hb => h4 b ?_⟩, r.bh, r.b0, r.pin, r.tb⟩
    · have := h3 b; show F1 b + F2 b + (z0 b + F b) ≤ 1; simp only [z0]; omega
    · have hb : 0 < F1 b + F2 b + (z0 b + F b) := hb; simp only [z0] at hb; omega
/-- what is held becomes a temporary; G: what is new -/
theorem RSF.back {G : Fp} (r : RSF K C B σ H ds ts F) (k : Same H H') (g : DR K B H' d v (fun b => G b + F b)) (g1 : ∀ b, G b ≤ 1) (g2 : ∀ b, 0 < G b → H b = none) (g3 : ∀ b, 0 < F b → H b ≠ none) : RS K C B σ H' ds ((v, .own d) :: ts) := by
  obtain ⟨F1, F2, h1, h2, h3, h4⟩ := r.ex
  have n : ∀ b, 0 < G b → F1 b = 0 ∧ F2 b = 0 ∧ F b = 0 := fun b q => by
    have hn := g2 b q
    refine ⟨?_, ?_, ?_⟩
    · by_cases z : 0 < F1 b
      · obtain ⟨xs, e⟩ := h1.there b z; rw [hn] at e; cases e
      · omega
    · by_cases z : 0 < F2 b
      · obtain ⟨xs, e⟩ := h2.there b z; rw [hn] at e; cases e
      · omega
    · by_cases z : 0 < F b
      · exact absurd hn (g3 b z)
      · omega
  refine ⟨⟨F1, _, h1.mono (Same.refl B) (.of k) (fun b xs _ e => k b _ e), ⟨_, F2, g, h2.mono (Same.refl B) k, rfl⟩, fun b => ?_, fun b hb => ?_⟩, r.bh.trans k, r.b0, r.pin, r.tb.same k⟩
  · show F1 b + (G b + F b + F2 b) ≤ 1
    by_cases q : 0 < G b
    · have := n b q; have := g1 b; omega
    · have := h3 b; omega
  · have hb : 0 < F1 b + (G b + F b + F2 b) := hb
    by_cases q : 0 < G b
    · exact r.bh.free (g2 b q)
    · exact h4 b (by omega)
def takes (ds : DS) : List Tm → Option (List D)
  | [] => some []
  | x :: xs => match x.take ds, takes ds xs with
    | some d, some l => some (d :: l)
    | _, _ => none
def gets (ds : DS) : List Tm → Option (List D)
  | [] => some []
  | x :: xs => match x.get ds, gets ds xs with
    | some d, some l => some (d :: l)
    | _, _ => none
theorem RSF.collect : ∀ {tms : List Tm} {vs : List V} {l : List D} {ts : Tms} {F : Fp}, RSF K C B σ H ds ((vs.zip tms).reverse ++ ts) F → vs.length = tms.length → takes ds tms = some l → ∃ G, DRs K B H l vs G ∧ RSF K C B σ H ds ts (fun b => G b + F b)
  | [], [], l, ts, F, r, _, e => by
    cases e
    refine ⟨z0, ⟨rfl, rfl⟩, ?_⟩
    have e : (fun b => z0 b + F b) = F := by funext b; simp [z0]
    rw [e]; exact r
  | [], _ :: _, _, _, _, _, h, _ => by simp at h
  | _ :: _, [], _, _, _, _, h, _ => by simp at h
  | x :: xs, v :: vs, l, ts, F, r, h, e => by
    simp only [takes] at e
    split at e
    · rename_i d l' e1 e2
      cases e
      rw [List.zip_cons_cons, List.reverse_cons, List.append_assoc] at r
      obtain ⟨G, g, r1⟩ := RSF.collect (ts := (v, x) :: ts) r (by simpa using h) e2
      obtain ⟨G1, g1, r2⟩ := r1.take e1
      refine ⟨fun b => G1 b + G b, ⟨v, vs, G1, G, rfl, g1, g, rfl⟩, ?_⟩
      have e : (fun b => G1 b + (fun b => G b + F b) b) = (fun b => (fun b => G1 b + G b) b + F b) := by funext b; show G1 b + (G b + F b) = G1 b + G b + F b; omega
      rw [e] at r2
      exact r2
    · cases e
theorem RS.views : ∀ {tms : List Tm} {vs : List V} {l : List D} {ts : Tms}, RS K C B σ H ds ((vs.zip tms).reverse ++ ts) → vs.length = tms.length → gets ds tms = some l → VBs K B H l vs
  | [], [], l, ts, r, _, e => by cases e; rfl
  | [], _ :: _, _, _, _, h, _ => by simp at h
  | _ :: _, [], _, _, _, h, _ => by simp at h
  | x :: xs, v :: vs, l, ts, r, h, e => by
    simp only [gets] at e
    split at e
    · rename_i d l' e1 e2
      cases e
      rw [List.zip_cons_cons, List.reverse_cons, List.append_assoc] at r
      exact ⟨v, vs, rfl, r.see (ts0 := (vs.zip xs).reverse) rfl e1, RS.views (ts := (v, x) :: ts) r (by simpa using h) e2⟩
    · cases e
theorem RS.drops : ∀ {t0 ts : Tms}, RS K C B σ H ds (t0 ++ ts) → RS K C B σ H ds ts
  | [], _, r => r
  | _ :: t0, _, r => RS.drops (t0 := t0) r.drop
/-- the second to the n-th dropped -/
theorem RS.drops2 {x : V × Tm} : ∀ {t0 ts : Tms}, RS K C B σ H ds (x :: (t0 ++ ts)) → RS K C B σ H ds (x :: ts)
  | [], _, r => r
  | _ :: t0, _, r => RS.drops2 (t0 := t0) r.drop2
end

/-! ### argument lists -/
abbrev AD := DS → (List Tm → DS → Prop) → Prop
def LA (K : PySem.W.Frag) (C : FC) (p : Bool) (t : AD) : TA := fun σ H Q => ∃ B ds ts P, RS K C B σ H ds ts ∧ (p = false → novw ts) ∧ t ds P ∧ ∀ tms ds', P tms ds' → ∀ vs H' B', Same B B' → vs.length = tms.length → RS K C B' σ H' ds' ((vs.zip tms).reverse ++ ts) → Q vs H'
def aNil : AD := fun ds Q => Q [] ds
def aCons (p2 : Bool) (o : OD) (r : AD) : AD := fun ds Q => o ds fun x ds1 => nvs p2 x ∧ r ds1 fun xs ds2 => Q (x :: xs) ds2
section
variable {X : Cx} {C : FC} {p p2 p3 : Bool} {pos : Pos} {e ea eb ec : Expr} {es : List Expr} {o : OD} {a : AD}
theorem a_nil : PA X [] (LA X.K C p aNil) := PA.imp (t := tNil) pa_nil fun σ H Q ⟨B, ds, ts, P, r, nv, t, q⟩ => q _ _ t [] H B (Same.refl _) rfl r
theorem a_cons (ha : PE X e (LO X.K C p o)) (hr : PA X es (LA X.K C p2 a)) (hp : p = true → p2 = true := by decide) (hs : starEach (e :: es) X.env = (false, eval e X.env) :: starEach es X.env := by rfl) : PA X (e :: es) (LA X.K C p (aCons p2 o a)) :=
  PA.imp (pa_cons ha hr hs) fun σ H Q ⟨B, ds, ts, P, r, nv, t, q⟩ => by
    refine ⟨B, ds, ts, _, r, nv, t, fun tm ds1 ⟨n1, z⟩ v1 H1 B1 kb1 r1 => ?_⟩
    have nv2 : p2 = false → novw ts := fun e => nv (by cases p; rfl; exact absurd (hp rfl) (by rw [e]; decide))
    refine ⟨B1, ds1, _, _, r1, nv_cons n1 nv2, z, fun tms ds2 z2 vs H2 B2 kb2 hl r2 => ?_⟩
    refine q _ _ z2 (v1 :: vs) H2 B2 (kb1.trans kb2) (by simp [hl]) ?_
    rw [List.zip_cons_cons, List.reverse_cons, List.append_assoc]
    exact r2

/-! ### displays -/
def asT : List D → Option (List T)
  | [] => some []
  | .t x :: ds => (asT ds).map (x :: ·)
  | _ :: _ => none
theorem asT_t : ∀ ts : List T, asT (ts.map D.t) = some ts
  | [] => rfl
  | x :: xs => by simp only [List.map_cons, asT, asT_t xs, Option.map_some]
theorem asT_of : ∀ {ds : List D} {ts : List T}, asT ds = some ts → ds = ts.map D.t
  | [], ts, h => by cases h; rfl
  | .t x :: ds, ts, h => by
    simp only [asT] at h
    cases q : asT ds with
    | none => rw [q] at h; cases h
    | some r => rw [q] at h; cases h; rw [asT_of q]; rfl
  | .lst _ :: _, _, h => by cases h
  | .frz _ :: _, _, h => by cases h
  | .tupM _ :: _, _, h => by cases h
  | .scr _ :: _, _, h => by cases h
def mkTup (l : List D) : D := match asT l with
  | some ts => .t (.tup ts)
  | none => .tupM l
theorem mkTup_t (ts : List T) : mkTup (ts.map D.t) = .t (.tup ts) := by unfold mkTup; rw [asT_t]
theorem mkTup_held {K : PySem.W.Frag} {B H : Hp} {l : List D} {vs : List V} {F : Fp} {a : Addr} (h : DRs K B H l vs F) (s : H a = some (.tup vs)) : DR K B H (mkTup l) (.ref a) F := by
  unfold mkTup
  cases q : asT l with
  | none => exact ⟨a, vs, rfl, s, h⟩
  | some ts =>
    have e := asT_of q
    subst e
    refine ⟨⟨a, vs, rfl, s, VBs_t.mp (DRs.view _ _ _ h)⟩, DRs.cp0 _ _ _ (cps_t ts) h⟩
def dTup (a : AD) : ED := fun ds Q => a ds fun xs ds1 => ∃ l, takes ds1 xs = some l ∧ l.length ≤ sizeLine ∧ Q (mkTup l) ds1
def dLst (a : AD) : ED := fun ds Q => a ds fun xs ds1 => ∃ l, takes ds1 xs = some l ∧ l.length ≤ sizeLine ∧ Q (.lst l) ds1
theorem e_tup {k} (h : PA X es (LA X.K C p a)) : PE X (.Tuple es k pos) (LE X.K C p (dTup a)) :=
  (pe_tup h).imp fun σ H Q ⟨B, ds, ts, P, r, nv, t, q⟩ => by
    refine ⟨B, ds, ts, _, r, nv, t, fun tms ds1 ⟨l, e, hl, z⟩ vs H1 B1 kb1 hv r1 => ?_⟩
    obtain ⟨G, g, r2⟩ := r1.rsf.collect hv e
    have hlen : vs.length = l.length := g.length.symm
    refine ⟨by rw [hlen]; exact hl, fun a' ha => q _ _ z _ _ B1 kb1 ?_⟩
    have k := same_new (o := .tup vs) ha
    refine r2.back (G := z0) k ?_ (fun _ => Nat.zero_le _) (fun _ hb => absurd hb (Nat.lt_irrefl 0)) fun b hb => ?_
    · have := mkTup_held (g.same (Same.refl _) k) (a := a') upd_same
      have e : (fun b => z0 b + (fun b => G b + z0 b) b) = G := by funext b; simp [z0]
      rw [e]; exact this
    · obtain ⟨xs, e⟩ := DRs.there _ _ _ g b (by simpa [z0] using hb)
      rw [e]; exact fun q => nomatch q
theorem e_lst (h : PA X es (LA X.K C p a)) : PE X (.List es pos) (LE X.K C p (dLst a)) :=
  (pe_lst h).imp fun σ H Q ⟨B, ds, ts, P, r, nv, t, q⟩ => by
    refine ⟨B, ds, ts, _, r, nv, t, fun tms ds1 ⟨l, e, hl, z⟩ vs H1 B1 kb1 hv r1 => ?_⟩
    obtain ⟨G, g, r2⟩ := r1.rsf.collect hv e
    have hlen : vs.length = l.length := g.length.symm
    refine ⟨by rw [hlen]; exact hl, fun a' ha => q _ _ z _ _ B1 kb1 ?_⟩
    have k := same_new (o := .lst vs) ha
    refine r2.back (G := one a') k ?_ (fun b => by simp only [one]; split <;> omega) (fun b hb => ?_) fun b hb => ?_
    · refine ⟨a', vs, G, rfl, upd_same, g.same (Same.refl _) k, ?_⟩
      funext b; show one a' b + (G b + z0 b) = one a' b + G b; simp [z0]
    · simp only [one] at hb
      split at hb
      · rename_i e; rw [e]; exact ha
      · omega
    · obtain ⟨xs, e⟩ := DRs.there _ _ _ g b (by simpa [z0] using hb)
      rw [e]; exact fun q => nomatch q
/-- a call by values -/
def dF (f : FN) (a : AD) : ED := fun ds Q => a ds fun xs ds1 => ∃ l, gets ds1 xs = some l ∧ f l fun d => Q d ds1
theorem call_run {K : PySem.W.Frag} {f : FN} {r : List V → Hp → VK → Prop} (hr : RN K f r) {σ : L2.St} {H : Hp} {Q : VK} (h : LE K C p (dF f a) σ H Q) : LA K C p a σ H fun vs H1 => r vs H1 Q := by
  obtain ⟨B, ds, ts, P, rs, nv, t, q⟩ := h
  refine ⟨B, ds, ts, _, rs, nv, t, fun tms ds1 ⟨l, e, z⟩ vs H1 B1 kb1 hv r1 => ?_⟩
  exact hr B1 H1 vs l _ _ r1.bh (r1.views hv e) z fun d' v' H' k fr z => q _ _ z v' H' B1 kb1 ((r1.push k fr).drops2)
theorem e_callB {x : Str} {p' : Pos} {id : String} {f : FN} {r : List V → Hp → VK → Prop} (hc : CallR X (.builtin id) r) (hr : RN X.K f r) (hg : Gl X x) (hm : X.mg x = none) (hv : bootBuiltins x = some (.builtin id)) (ha : PA X (e :: es) (LA X.K C p a)) (hn : x ≠ "__name__" := by decide) (hdb : (x == ("__debug__" : Str)) = false := by decide)
    (he : starEach (e :: es) X.env = (false, eval e X.env) :: starEach es X.env := by rfl) (hpl : (backTo pos (starEach es X.env)).any (·.1) = false := by rfl) : PE X (.Call (.Name x p') (e :: es) [] pos) (LE X.K C p (dF f a)) :=
  (pe_callB hc hg hm hv ha hn hdb he hpl).imp fun _ _ _ h => call_run hr h
theorem e_callT {x : Str} {p' : Pos} {T : String} {f : FN} {r : List V → Hp → VK → Prop} (hc : CallR X (.type T) r) (hr : RN X.K f r) (hg : Gl X x) (hm : X.mg x = none) (hv : bootBuiltins x = some (.type T)) (ha : PA X (e :: es) (LA X.K C p a)) (hn : x ≠ "__name__" := by decide) (hdb : (x == ("__debug__" : Str)) = false := by decide)
    (he : starEach (e :: es) X.env = (false, eval e X.env) :: starEach es X.env := by rfl) (hpl : (backTo pos (starEach es X.env)).any (·.1) = false := by rfl) : PE X (.Call (.Name x p') (e :: es) [] pos) (LE X.K C p (dF f a)) :=
  (pe_callTy hc hg hm hv ha hn hdb he hpl).imp fun _ _ _ h => call_run hr h
end
end Dn

set_option Elab.async false
set_option linter.all false
set_option maxRecDepth 100000
/-! Dn5: the operations. -/
namespace Dn
open PySem PySem.Spec PyProof.Rows L2
section
variable {K : PySem.W.Frag} {B H : Hp} {d : D} {v : V}
/-- a list's items, to be copied; a tuple's -/
def lits : D → Option (List D)
  | .lst xs => some xs
  | .frz xs => some (fzs xs)
  | _ => none
def tits : D → Option (List D)
  | .t (.tup xs) => some (xs.map .t)
  | .tupM xs => some xs
  | _ => none
theorem VB.lits {xs : List D} (w : VB K B H d v) (k : Same B H) (h : lits d = some xs) : ∃ a vs, v = .ref a ∧ H a = some (.lst vs) ∧ VBs K B H xs vs := by
  cases d with
  | t x => cases h
  | lst ys => cases h; exact w
  | frz ys =>
    cases h
    obtain ⟨a, vs, e, s, r⟩ := w
    exact ⟨a, vs, e, k _ _ s, VBs.mono (Same.refl _) k _ _ (VBs.fz _ _ r)⟩
  | tupM ys => cases h
  | scr ys => cases h
theorem VB.tits {xs : List D} (w : VB K B H d v) (h : tits d = some xs) : ∃ a vs, v = .ref a ∧ H a = some (.tup vs) ∧ VBs K B H xs vs := by
  cases d with
  | t x =>
    cases x with
    | tup ys =>
      cases h
      obtain ⟨a, vs, e, s, r⟩ := w
      exact ⟨a, vs, e, s, VBs_t.mpr r⟩
    | _ => cases h
  | tupM ys => cases h; exact w
  | lst ys => cases h
  | frz ys => cases h
  | scr ys => cases h
/-- any sequence's items -/
def sits : D → Option (List D)
  | .scr xs => some (fzs xs)
  | d => match lits d with
    | some xs => some xs
    | none => tits d
theorem VB.sits {xs : List D} (w : VB K B H d v) (k : Same B H) (h : sits d = some xs) : ∃ a vs, v = .ref a ∧ (SqL K H a vs ∨ SqT K H a vs) ∧ VBs K B H xs vs := by
  cases d with
  | scr ys =>
    cases h
    obtain ⟨a, vs, e, s, r⟩ := w
    exact ⟨a, vs, e, .inl (k.seq s), VBs.mono (Same.refl _) k _ _ (VBs.fz _ _ r)⟩
  | lst ys =>
    obtain ⟨a, vs, e, s, r⟩ := VB.lits (xs := xs) w k h
    exact ⟨a, vs, e, .inl (SqL.of s), r⟩
  | frz ys =>
    obtain ⟨a, vs, e, s, r⟩ := VB.lits (xs := xs) w k h
    exact ⟨a, vs, e, .inl (SqL.of s), r⟩
  | t x =>
    obtain ⟨a, vs, e, s, r⟩ := VB.tits (xs := xs) w h
    exact ⟨a, vs, e, .inr (SqT.of s), r⟩
  | tupM ys =>
    obtain ⟨a, vs, e, s, r⟩ := VB.tits (xs := xs) w h
    exact ⟨a, vs, e, .inr (SqT.of s), r⟩
/-- a new list, a new tuple of what may be copied -/
theorem Fresh.lst {xs : List D} {vs : List V} {a : Addr} (h : H a = none) (r : VBs K B H xs vs) (c : cps xs = true) : Fresh K B H (upd H a (.lst vs)) (.lst xs) (.ref a) := by
  refine ⟨fun b => one a b + z0 b, ⟨a, vs, z0, rfl, upd_same, (VBs.held xs vs c r).same (Same.refl _) (same_new h), rfl⟩, fun b => ?_, fun b hb => ?_⟩
  · simp only [one, z0]; split <;> omega
  · simp only [one, z0] at hb
    split at hb
    · rename_i e; rw [e]; exact h
    · omega
theorem Fresh.tup {xs : List D} {vs : List V} {a : Addr} (h : H a = none) (r : VBs K B H xs vs) (c : cps xs = true) : Fresh K B H (upd H a (.tup vs)) (mkTup xs) (.ref a) :=
  ⟨z0, mkTup_held ((VBs.held xs vs c r).same (Same.refl _) (same_new h)) upd_same, fun _ => Nat.zero_le _, fun _ hb => absurd hb (Nat.lt_irrefl 0)⟩
theorem Fresh.int {H' : Hp} {i : Int} : Fresh K B H H' (.t (.int i)) (.int i) := Fresh.t (x := .int i) rfl
theorem Fresh.bl {H' : Hp} {i : Bool} : Fresh K B H H' (.t (.bl i)) (.bl i) := Fresh.t (x := .bl i) rfl
theorem Fresh.str {H' : Hp} {i : Str} : Fresh K B H H' (.t (.str i)) (.str i) := Fresh.t (x := .str i) rfl
theorem mkTup_old {xs : List D} {vs : List V} {a : Addr} (r : VBs K B H xs vs) (s : H a = some (.tup vs)) (c : cps xs = true) : Fresh K B H H (mkTup xs) (.ref a) :=
  ⟨z0, mkTup_held (VBs.held xs vs c r) s, fun _ => Nat.zero_le _, fun _ hb => absurd hb (Nat.lt_irrefl 0)⟩
end

/-! ### arithmetic -/
/-- two ints to an int, where Cd holds -/
def fI (Cd : Int → Int → Prop) (g : Int → Int → Int) : F2
  | .t (.int i), .t (.int j), Q => Cd i j ∧ Q (.t (.int (g i j)))
  | _, _, _ => False
def fI0 (g : Int → Int → Int) : F2
  | .t (.int i), .t (.int j), Q => Q (.t (.int (g i j)))
  | _, _, _ => False
def fIB (g : Int → Int → Bool) : F2
  | .t (.int i), .t (.int j), Q => Q (.t (.bl (g i j)))
  | _, _, _ => False
section
variable {K : PySem.W.Frag}
theorem r_I {Cd : Int → Int → Prop} {g : Int → Int → Int} : R2' K (fI Cd g) (rI Cd fun i j => .int (g i j)) := by
  intro B H v1 v2 d1 d2 Q' Q k w1 w2 h q
  unfold fI at h
  split at h
  · rename_i i j
    exact ⟨i, j, w1, w2, h.1, q _ _ H (Same.refl _) Fresh.int h.2⟩
  · exact h.elim
theorem r_I0 {g : Int → Int → Int} : R2' K (fI0 g) (rI0 fun i j => .int (g i j)) := by
  intro B H v1 v2 d1 d2 Q' Q k w1 w2 h q
  unfold fI0 at h
  split at h
  · rename_i i j
    exact ⟨i, j, w1, w2, q _ _ H (Same.refl _) Fresh.int h⟩
  · exact h.elim
theorem r_IB {g : Int → Int → Bool} : R2' K (fIB g) (rI0 fun i j => .bl (g i j)) := by
  intro B H v1 v2 d1 d2 Q' Q k w1 w2 h q
  unfold fIB at h
  split at h
  · rename_i i j
    exact ⟨i, j, w1, w2, q _ _ H (Same.refl _) Fresh.bl h⟩
  · exact h.elim
def fU (g : Int → Int) : F1
  | .t (.int i), Q => Q (.t (.int (g i)))
  | _, _ => False
theorem r_U {g : Int → Int} : R1 K (fU g) (rU fun i => .int (g i)) := by
  intro B H v d Q' Q k w h q
  unfold fU at h
  split at h
  · rename_i i
    exact ⟨i, w, q _ _ H (Same.refl _) Fresh.int h⟩
  · exact h.elim
/-- a + b: ints, texts, tuples, lists -/
def fAdd : F2
  | .t (.int i), .t (.int j), Q => Q (.t (.int (i + j)))
  | .t (.str a), .t (.str b), Q => a.length + b.length ≤ sizeLine ∧ Q (.t (.str (a ++ b)))
  | .t (.tup xs), .t (.tup ys), Q => xs.length + ys.length ≤ sizeLine ∧ Q (.t (.tup (xs ++ ys)))
  | a, b, Q => ∃ xs ys, lits a = some xs ∧ lits b = some ys ∧ cps xs = true ∧ cps ys = true ∧ xs.length + ys.length ≤ sizeLine ∧ Q (.lst (xs ++ ys))
def rAddAll (K : PySem.W.Frag) : R2 := fun x y H Q => rI0 (fun i j => .int (i + j)) x y H Q ∨ (∃ i j, x = .str i ∧ y = .str j ∧ i.length + j.length ≤ sizeLine ∧ Q (.str (i ++ j)) H) ∨ rCatA K x y H Q ∨ rCat x y H Q
theorem op_addAll {X : Cx} : OpR X (binaryOp .Add) (rAddAll X.K) := op_add.or (op_add_str.or (op_catA.or op_cat))
theorem cps_append : ∀ {xs ys : List D}, cps (xs ++ ys) = (cps xs && cps ys)
  | [], ys => rfl
  | x :: xs, ys => by simp only [List.cons_append, cps, cps_append, Bool.and_assoc]
theorem r_add : R2' K fAdd (rAddAll K) := by
  intro B H v1 v2 d1 d2 Q' Q k w1 w2 h q
  have lists : (∃ xs ys, lits d1 = some xs ∧ lits d2 = some ys ∧ cps xs = true ∧ cps ys = true ∧ xs.length + ys.length ≤ sizeLine ∧ Q' (.lst (xs ++ ys))) → rAddAll K v1 v2 H Q := by
    rintro ⟨xs, ys, e1, e2, c1, c2, hl, z⟩
    obtain ⟨a, vs, rfl, s1, r1⟩ := w1.lits k e1
    obtain ⟨b, us, rfl, s2, r2⟩ := w2.lits k e2
    refine .inr (.inr (.inr ⟨a, b, vs, us, rfl, rfl, s1, s2, by rw [← r1.length, ← r2.length]; exact hl, fun p hp => ?_⟩))
    exact q _ _ _ (same_new hp) (Fresh.lst hp (r1.append r2) (by rw [cps_append, c1, c2]; rfl)) z
  unfold fAdd at h
  split at h
  · rename_i i j
    exact .inl ⟨i, j, w1, w2, q _ _ H (Same.refl _) Fresh.int h⟩
  · rename_i i j
    exact .inr (.inl ⟨i, j, w1, w2, h.1, q _ _ H (Same.refl _) Fresh.str h.2⟩)
  · rename_i xs ys
    obtain ⟨a, vs, rfl, s1, r1⟩ := w1
    obtain ⟨b, us, rfl, s2, r2⟩ := w2
    obtain ⟨hl, h⟩ := h
    have h1 := TRs.length r1
    have h2 := TRs.length r2
    refine .inr (.inr (.inl ⟨a, b, vs, us, rfl, rfl, SqT.of s1, SqT.of s2, by omega, fun e => ?_, fun _ e => ?_, fun _ _ p hp => ?_⟩))
    · have e : xs = [] := List.eq_nil_of_length_eq_zero (by rw [h1, e]; rfl)
      subst e
      exact q _ _ H (Same.refl _) (Fresh.t (x := .tup ys) ⟨b, us, rfl, s2, r2⟩) h
    · have e : ys = [] := List.eq_nil_of_length_eq_zero (by rw [h2, e]; rfl)
      subst e
      rw [List.append_nil] at h
      exact q _ _ H (Same.refl _) (Fresh.t (x := .tup xs) ⟨a, vs, rfl, s1, r1⟩) h
    · exact q _ _ _ (same_new hp) (Fresh.t (x := .tup (xs ++ ys)) ⟨p, vs ++ us, rfl, upd_same, TRs.mono (.of (same_new hp)) _ _ (TRs.append r1 r2)⟩) h
  · exact lists h
/-- a * b: ints; a list by an int -/
def fMul : F2
  | .t (.int i), .t (.int j), Q => CMul i j ∧ Q (.t (.int (i * j)))
  | .lst xs, .t (.int k), Q => cps xs = true ∧ -(2 ^ 63) ≤ k ∧ k < 2 ^ 63 ∧ xs.length * k.toNat ≤ sizeLine ∧ Q (.lst (List.replicate k.toNat xs).flatten)
  | _, _, _ => False
def rMulAll : R2 := fun x y H Q => rI CMul (fun i j => .int (i * j)) x y H Q ∨ rRep x y H Q
theorem op_mulAll {X : Cx} : OpR X (binaryOp .Mult) rMulAll := op_mul.or op_rep
theorem VBs.rep {B H : Hp} {xs : List D} {vs : List V} (r : VBs K B H xs vs) : ∀ n, VBs K B H (List.replicate n xs).flatten (List.replicate n vs).flatten
  | 0 => rfl
  | n + 1 => by rw [List.replicate_succ, List.replicate_succ, List.flatten_cons, List.flatten_cons]; exact r.append (VBs.rep r n)
theorem cps_rep {xs : List D} (c : cps xs = true) : ∀ n, cps (List.replicate n xs).flatten = true
  | 0 => rfl
  | n + 1 => by rw [List.replicate_succ, List.flatten_cons, cps_append, c, cps_rep c n]; rfl
theorem r_mul : R2' K fMul rMulAll := by
  intro B H v1 v2 d1 d2 Q' Q k w1 w2 h q
  unfold fMul at h
  split at h
  · rename_i i j
    exact .inl ⟨i, j, w1, w2, h.1, q _ _ H (Same.refl _) Fresh.int h.2⟩
  · rename_i xs n
    obtain ⟨a, vs, rfl, s, r⟩ := w1
    obtain ⟨c, b1, b2, hl, h⟩ := h
    exact .inr ⟨a, n, vs, rfl, w2, s, b1, b2, by rw [← r.length]; exact hl, fun p hp => q _ _ _ (same_new hp) (Fresh.lst hp (r.rep _) (cps_rep c _)) h⟩
  · exact h.elim
end

/-! ### data -/
mutual
def tP : T → PyData
  | .non => .none
  | .bl b => .bool b
  | .int i => .int i
  | .str x => .str x
  | .tup xs => .tuple (tPs xs)
def tPs : List T → List PyData
  | [] => []
  | x :: xs => tP x :: tPs xs
end
mutual
def dP : D → PyData
  | .t x => tP x
  | .lst xs => .list (dPs xs)
  | .frz xs => .list (dPs xs)
  | .scr xs => .list (dPs xs)
  | .tupM xs => .tuple (dPs xs)
def dPs : List D → List PyData
  | [] => []
  | x :: xs => dP x :: dPs xs
end
section
variable {K : PySem.W.Frag}
mutual
theorem TR.dp {H : Hp} : ∀ (t : T) (v : V), TR K H t v → Dp K H v (tP t)
  | .non, v, h => by rw [show v = .non from h]; exact .non
  | .bl b, v, h => by rw [show v = .bl b from h]; exact .bl b
  | .int i, v, h => by rw [show v = .int i from h]; exact .int i
  | .str x, v, h => by rw [show v = .str x from h]; exact .str x
  | .tup xs, v, h => by
    obtain ⟨a, vs, rfl, s, r⟩ := h
    exact .tup (SqT.of s) (TRs.dp xs vs r)
theorem TRs.dp {H : Hp} : ∀ (ts : List T) (vs : List V), TRs K H ts vs → DpAll K H vs (tPs ts)
  | [], vs, h => by rw [show vs = [] from h]; exact .nil
  | x :: xs, vs, h => by
    obtain ⟨v, r, rfl, h1, h2⟩ := h
    exact .cons (TR.dp x v h1) (TRs.dp xs r h2)
end
mutual
theorem VB.dp {B : Hp} : ∀ {H : Hp} (_ : Same B H) (d : D) (v : V), VB K B H d v → Dp K H v (dP d)
  | H, k, .t x, v, h => TR.dp x v h
  | H, k, .lst xs, v, h => by
    obtain ⟨a, vs, rfl, s, r⟩ := h
    exact .lst (SqL.of s) (VBs.dp k xs vs r)
  | H, k, .frz xs, v, h => by
    obtain ⟨a, vs, rfl, s, r⟩ := h
    exact .lst (SqL.of (k _ _ s)) (VBs.dp k xs vs (VBs.mono (Same.refl _) k xs vs r))
  | H, k, .scr xs, v, h => by
    obtain ⟨a, vs, rfl, s, r⟩ := h
    exact .lst (k.seq s) (VBs.dp k xs vs (VBs.mono (Same.refl _) k xs vs r))
  | H, k, .tupM xs, v, h => by
    obtain ⟨a, vs, rfl, s, r⟩ := h
    exact .tup (SqT.of s) (VBs.dp k xs vs r)
theorem VBs.dp {B : Hp} : ∀ {H : Hp} (_ : Same B H) (ds : List D) (vs : List V), VBs K B H ds vs → DpAll K H vs (dPs ds)
  | H, k, [], vs, h => by rw [show vs = [] from h]; exact .nil
  | H, k, x :: xs, vs, h => by
    obtain ⟨v, r, rfl, h1, h2⟩ := h
    exact .cons (VB.dp k x v h1) (VBs.dp k xs r h2)
end
/-- a == b, a != b -/
def fEq : F2 := fun a b Q => SeqAt.shaped (dP a) = true ∧ SeqAt.shaped (dP b) = true ∧ Q (.t (.bl (PyData.eqv (dP a) (dP b))))
def fNe : F2 := fun a b Q => SeqAt.shaped (dP a) = true ∧ SeqAt.shaped (dP b) = true ∧ Q (.t (.bl (!PyData.eqv (dP a) (dP b))))
theorem r_eq : R2' K fEq (rEqD K) := by
  intro B H v1 v2 d1 d2 Q' Q k w1 w2 h q
  exact ⟨_, _, VB.dp k _ _ w1, VB.dp k _ _ w2, h.1, h.2.1, q _ _ H (Same.refl _) Fresh.bl h.2.2⟩
theorem r_ne : R2' K fNe (rNeD K) := by
  intro B H v1 v2 d1 d2 Q' Q k w1 w2 h q
  exact ⟨_, _, VB.dp k _ _ w1, VB.dp k _ _ w2, h.1, h.2.1, q _ _ H (Same.refl _) Fresh.bl h.2.2⟩
/-- of ints alone: nothing is asked -/
theorem sh_int (i : Int) : SeqAt.shaped (dP (.t (.int i))) = true := by rfl
theorem sh_bl (i : Bool) : SeqAt.shaped (dP (.t (.bl i))) = true := by rfl
theorem sh_non : SeqAt.shaped (dP (.t .non)) = true := by rfl
/-- a in b, a not in b: a list or a tuple -/
def rInB (K : PySem.W.Frag) : R2 := fun x y H Q => ∃ d ds, Dp K H x d ∧ (Dp K H y (.list ds) ∨ Dp K H y (.tuple ds)) ∧ SeqAt.shaped d = true ∧ SeqAt.shaped (.tuple ds) = true ∧ Q (.bl (ds.any fun z => PyData.eqv z d)) H
def rNotInB (K : PySem.W.Frag) : R2 := fun x y H Q => ∃ d ds, Dp K H x d ∧ (Dp K H y (.list ds) ∨ Dp K H y (.tuple ds)) ∧ SeqAt.shaped d = true ∧ SeqAt.shaped (.tuple ds) = true ∧ Q (.bl (!ds.any fun z => PyData.eqv z d)) H
theorem op_inB {X : Cx} (hu : X.A.units + 65 < cLine) : OpR X (compareOp .In) (rInB X.K) := by
  intro pins s σ H x y v u Q I rx ry h
  obtain ⟨d, ds, hd, he, sd, se, q⟩ := h
  obtain ⟨as, r1⟩ := Dp.reads I d x v hd rx
  have room := PyProof.Rows.room_in_shaped (xs := ds) sd hu
  rcases he with he | he
  · obtain ⟨bs, r2⟩ := Dp.reads I (.list ds) y u he ry
    exact SeqAt.in_list_reads r2 r1 (SeqAt.canLay_of_shaped se) (SeqAt.canLay_of_shaped sd) room ⟨.bl _, H, I, rfl, q⟩
  · obtain ⟨bs, r2⟩ := Dp.reads I (.tuple ds) y u he ry
    exact SeqAt.in_tuple_reads r2 r1 (SeqAt.canLay_of_shaped se) (SeqAt.canLay_of_shaped sd) room ⟨.bl _, H, I, rfl, q⟩
theorem op_notInB {X : Cx} (hu : X.A.units + 65 < cLine) : OpR X (compareOp .NotIn) (rNotInB X.K) := by
  intro pins s σ H x y v u Q I rx ry h
  obtain ⟨d, ds, hd, he, sd, se, q⟩ := h
  obtain ⟨as, r1⟩ := Dp.reads I d x v hd rx
  have room := PyProof.Rows.room_in_shaped (xs := ds) sd hu
  rcases he with he | he
  · obtain ⟨bs, r2⟩ := Dp.reads I (.list ds) y u he ry
    exact SeqAt.notIn_list_reads r2 r1 (SeqAt.canLay_of_shaped se) (SeqAt.canLay_of_shaped sd) room ⟨.bl _, H, I, rfl, q⟩
  · obtain ⟨bs, r2⟩ := Dp.reads I (.tuple ds) y u he ry
    exact SeqAt.notIn_tuple_reads r2 r1 (SeqAt.canLay_of_shaped se) (SeqAt.canLay_of_shaped sd) room ⟨.bl _, H, I, rfl, q⟩
def itP : D → Option (List PyData)
  | .t (.tup xs) => some (tPs xs)
  | .t _ => none
  | .lst xs => some (dPs xs)
  | .frz xs => some (dPs xs)
  | .scr xs => some (dPs xs)
  | .tupM xs => some (dPs xs)
def fIn : F2 := fun a b Q => ∃ ds, itP b = some ds ∧ SeqAt.shaped (dP a) = true ∧ SeqAt.shaped (.tuple ds) = true ∧ Q (.t (.bl (ds.any fun z => PyData.eqv z (dP a))))
def fNotIn : F2 := fun a b Q => ∃ ds, itP b = some ds ∧ SeqAt.shaped (dP a) = true ∧ SeqAt.shaped (.tuple ds) = true ∧ Q (.t (.bl (!ds.any fun z => PyData.eqv z (dP a))))
theorem itP_dp {H : Hp} {b : D} {v : V} {ds : List PyData} (h : Dp K H v (dP b)) (e : itP b = some ds) : Dp K H v (.list ds) ∨ Dp K H v (.tuple ds) := by
  cases b with
  | t x =>
    cases x with
    | tup xs => cases e; exact .inr h
    | _ => cases e
  | lst xs => cases e; exact .inl h
  | frz xs => cases e; exact .inl h
  | scr xs => cases e; exact .inl h
  | tupM xs => cases e; exact .inr h
theorem r_in : R2' K fIn (rInB K) := by
  intro B H v1 v2 d1 d2 Q' Q k w1 w2 h q
  obtain ⟨ds, e, h1, h2, h⟩ := h
  exact ⟨_, ds, VB.dp k _ _ w1, itP_dp (VB.dp k _ _ w2) e, h1, h2, q _ _ H (Same.refl _) Fresh.bl h⟩
theorem r_notIn : R2' K fNotIn (rNotInB K) := by
  intro B H v1 v2 d1 d2 Q' Q k w1 w2 h q
  obtain ⟨ds, e, h1, h2, h⟩ := h
  exact ⟨_, ds, VB.dp k _ _ w1, itP_dp (VB.dp k _ _ w2) e, h1, h2, q _ _ H (Same.refl _) Fresh.bl h⟩
/-- a is None, a is not None -/
def isNon : D → Bool
  | .t .non => true
  | _ => false
theorem isNon_v {B H : Hp} {d : D} {v : V} (h : VB K B H d v) : decide (v = .non) = isNon d := by
  cases d with
  | t x =>
    cases x with
    | non => rw [show v = .non from h]; rfl
    | bl b => rw [show v = .bl b from h]; rfl
    | int i => rw [show v = .int i from h]; rfl
    | str i => rw [show v = .str i from h]; rfl
    | tup xs => obtain ⟨a, vs, rfl, _⟩ := h; rfl
  | lst _ => obtain ⟨a, vs, rfl, _⟩ := h; rfl
  | frz _ => obtain ⟨a, vs, rfl, _⟩ := h; rfl
  | scr _ => obtain ⟨a, vs, rfl, _⟩ := h; rfl
  | tupM _ => obtain ⟨a, vs, rfl, _⟩ := h; rfl
def fIsN : F2 := fun a b Q => b = .t .non ∧ Q (.t (.bl (isNon a)))
def fNotN : F2 := fun a b Q => b = .t .non ∧ Q (.t (.bl (!isNon a)))
theorem r_isN : R2' K fIsN (fun x y H Q => y = .non ∧ Q (.bl (decide (x = .non))) H) := by
  intro B H v1 v2 d1 d2 Q' Q k w1 w2 h q
  obtain ⟨rfl, h⟩ := h
  exact ⟨w2, by rw [isNon_v w1]; exact q _ _ H (Same.refl _) Fresh.bl h⟩
theorem r_notN : R2' K fNotN (fun x y H Q => y = .non ∧ Q (.bl (!decide (x = .non))) H) := by
  intro B H v1 v2 d1 d2 Q' Q k w1 w2 h q
  obtain ⟨rfl, h⟩ := h
  exact ⟨w2, by rw [isNon_v w1]; exact q _ _ H (Same.refl _) Fresh.bl h⟩
end

/-! ### subscripts, slices -/
section
variable {K : PySem.W.Frag}
def fIx : F2
  | .t (.tup xs), .t (.int i), Q => ∃ x, atI xs i = some x ∧ Q (.t x)
  | .lst xs, .t (.int i), Q => ∃ x, atI xs i = some x ∧ cp x = true ∧ Q x
  | .frz xs, .t (.int i), Q => ∃ x, atI xs i = some x ∧ Q (fz x)
  | .scr xs, .t (.int i), Q => ∃ x, atI xs i = some x ∧ Q (fz x)
  | .tupM xs, .t (.int i), Q => ∃ x, atI xs i = some x ∧ cp x = true ∧ Q x
  | .t (.str z), .t (.int i), Q => z.length ≤ sizeLine ∧ ∃ c, atI z.cps.toList i = some c ∧ Q (.t (.str ⟨#[c]⟩))
  | _, _, _ => False
theorem VBs.atI {B H : Hp} {xs : List D} {vs : List V} {i : Int} {x : D} (r : VBs K B H xs vs) (h : atI xs i = some x) : ∃ v, L2.atI vs i = some v ∧ VB K B H x v := by
  unfold L2.atI at h ⊢
  rw [← r.length]
  cases q : ixN xs.length i with
  | none => rw [q] at h; cases h
  | some j =>
    rw [q] at h
    exact r.get h
theorem TRs.atI {H : Hp} {xs : List T} {vs : List V} {i : Int} {x : T} (r : TRs K H xs vs) (h : atI xs i = some x) : ∃ v, L2.atI vs i = some v ∧ TR K H x v := by
  unfold L2.atI at h ⊢
  rw [← TRs.length r]
  cases q : ixN xs.length i with
  | none => rw [q] at h; cases h
  | some j =>
    rw [q] at h
    exact TRs.get r h
theorem r_ix : R2' K fIx (rIx K) := by
  intro B H v1 v2 d1 d2 Q' Q k w1 w2 h q
  unfold fIx at h
  split at h
  · rename_i xs i
    obtain ⟨a, vs, rfl, s, r⟩ := w1
    obtain ⟨x, e, h⟩ := h
    obtain ⟨v, e', w⟩ := TRs.atI r e
    exact .inr (.inl ⟨a, vs, i, v, rfl, w2, SqT.of s, e', q _ _ H (Same.refl _) (Fresh.t w) h⟩)
  · rename_i xs i
    obtain ⟨a, vs, rfl, s, r⟩ := w1
    obtain ⟨x, e, c, h⟩ := h
    obtain ⟨v, e', w⟩ := VBs.atI r e
    exact .inl ⟨a, vs, i, v, rfl, w2, SqL.of s, e', q _ _ H (Same.refl _) (Fresh.cp w c) h⟩
  · rename_i xs i
    obtain ⟨a, vs, rfl, s, r⟩ := w1
    obtain ⟨x, e, h⟩ := h
    obtain ⟨v, e', w⟩ := VBs.atI r e
    exact .inl ⟨a, vs, i, v, rfl, w2, SqL.of (k _ _ s), e', q _ _ H (Same.refl _) (Fresh.cp (VB.mono (Same.refl _) k _ _ (VB.fz _ _ w)) (cp_fz x)) h⟩
  · rename_i xs i
    obtain ⟨a, vs, rfl, s, r⟩ := w1
    obtain ⟨x, e, h⟩ := h
    obtain ⟨v, e', w⟩ := VBs.atI r e
    exact .inl ⟨a, vs, i, v, rfl, w2, k.seq s, e', q _ _ H (Same.refl _) (Fresh.cp (VB.mono (Same.refl _) k _ _ (VB.fz _ _ w)) (cp_fz x)) h⟩
  · rename_i xs i
    obtain ⟨a, vs, rfl, s, r⟩ := w1
    obtain ⟨x, e, c, h⟩ := h
    obtain ⟨v, e', w⟩ := VBs.atI r e
    exact .inr (.inl ⟨a, vs, i, v, rfl, w2, SqT.of s, e', q _ _ H (Same.refl _) (Fresh.cp w c) h⟩)
  · rename_i z i
    obtain ⟨hz, c, e, h⟩ := h
    exact .inr (.inr ⟨z, i, c, w1, w2, hz, e, q _ _ H (Same.refl _) Fresh.str h⟩)
  · exact h.elim
variable {X : Cx} {C : FC} {p p2 p3 : Bool} {pos : Pos} {ea eb ec : Expr} {ta tb : OD}
theorem e_ix (ha : PE X ea (LO X.K C p ta)) (hb : PE X eb (LO X.K C p2 tb)) (hs : PlainIx eb := by exact fun _ _ => rfl) (hp : p = true → p2 = true := by decide) : PE X (.Subscript ea eb pos) (LE X.K C p (d2 p2 fIx ta tb)) :=
  (pe_ix ix_seq ha hb hs).imp fun _ _ _ h => bi_run r_ix hp h
/-- a place within a name's value -/
def Tm.plc : Tm → Option (Nat × List Nat)
  | .nm i => some (i, [])
  | .pl i p => some (i, p)
  | _ => none
def mits : D → Option (List D)
  | .lst xs => some xs
  | .tupM xs => some xs
  | _ => none
def oIx (a b : OD) : OD := fun ds Q => a ds fun x ds1 => b ds1 fun y ds2 => ∃ i p d xs k j, x.plc = some (i, p) ∧ x.get ds2 = some d ∧ mits d = some xs ∧ y.get ds2 = some (.t (.int k)) ∧ ixN xs.length k = some j ∧ Q (.pl i (p ++ [j])) ds2
theorem o_ix (ha : PE X ea (LO X.K C true ta)) (hb : PE X eb (LO X.K C true tb)) (hs : PlainIx eb := by exact fun _ _ => rfl) : PE X (.Subscript ea eb pos) (LO X.K C p (oIx ta tb)) :=
  PE.imp (pe_ix ix_seq ha hb hs) fun σ H Q ⟨B, ds, ts, P, r, nv, t, q⟩ => by
    refine ⟨B, ds, ts, _, r, (fun e => nomatch e), t, fun tm ds1 ht v1 H1 B1 kb1 r1 => ?_⟩
    refine ⟨B1, ds1, _, _, r1, (fun e => nomatch e), ht, fun tm2 ds2 ⟨i, pth, d, xs, k, j, e0, e1, em, e2, e3, hf⟩ v2 H2 B2 kb2 r2 => ?_⟩
    have w1 := r2.see1 e1
    have w2 : v2 = .int k := r2.see0 e2
    have key : ∃ a vs, v1 = .ref a ∧ (H2 a = some (.lst vs) ∨ H2 a = some (.tup vs)) ∧ VBs X.K B2 H2 xs vs := by
      cases d with
      | lst ys => cases em; obtain ⟨a, vs, e, s, w⟩ := w1; exact ⟨a, vs, e, .inl s, w⟩
      | tupM ys => cases em; obtain ⟨a, vs, e, s, w⟩ := w1; exact ⟨a, vs, e, .inr s, w⟩
      | t x => cases em
      | frz x => cases em
      | scr x => cases em
    obtain ⟨a, vs, rfl, s, w⟩ := key
    have hj : j < vs.length := by
      have := (ixN_seq e3).2.1
      rw [← w.length]; exact this
    have e' : L2.atI vs k = some vs[j] := by
      unfold L2.atI
      rw [← w.length, e3]
      simp [hj]
    have pth0 : ∃ v0, σ[i]? = some (some v0) ∧ VP H2 v0 pth (.ref a) := by
      obtain ⟨F1, F2, h1, h2, _⟩ := r2.drop.ex
      cases tm with
      | own d => cases e0
      | vw d => cases e0
      | nm i' => cases e0; exact ⟨_, h2.1, rfl⟩
      | pl i' p' => cases e0; exact h2.1
    obtain ⟨v0, s0, w0⟩ := pth0
    have fin := q _ _ hf vs[j] H2 B2 (kb1.trans kb2) (r2.drop.drop.tpl s0 (w0.append ⟨a, vs, _, rfl, s, by simp [hj], rfl⟩))
    rcases s with s | s
    · exact .inl ⟨a, vs, k, _, rfl, w2, SqL.of s, e', fin⟩
    · exact .inr (.inl ⟨a, vs, k, _, rfl, w2, SqT.of s, e', fin⟩)

/-! slices -/
abbrev BD := DS → (Option Int → DS → Prop) → Prop
def LB (K : PySem.W.Frag) (C : FC) (p : Bool) (t : BD) : TO := fun σ H Q => ∃ B ds ts P, RS K C B σ H ds ts ∧ (p = false → novw ts) ∧ t ds P ∧ ∀ o ds', P o ds' → ∀ H' B', Same B B' → RS K C B' σ H' ds' ts → Q o H'
def bNo : BD := fun ds Q => Q none ds
def bSo (t : ED) : BD := fun ds Q => t ds fun d ds' => ∃ i, d = .t (.int i) ∧ Q (some i) ds'
theorem PO.imp {o : Option Expr} {t t' : TO} (h : PO X o t) (f : ∀ σ H Q, t' σ H Q → t σ H Q) : PO X o t' := ⟨fun pins s σ H Q I q => h.run pins s σ H Q I (f _ _ _ q)⟩
theorem b_no : PO X none (LB X.K C p bNo) := PO.imp po_none fun σ H Q ⟨B, ds, ts, P, r, nv, t, q⟩ => q _ _ t H B (Same.refl _) r
theorem b_so {e : Expr} {t : ED} (h : PE X e (LE X.K C p t)) : PO X (some e) (LB X.K C p (bSo t)) := PO.imp (po_some h) fun σ H Q ⟨B, ds, ts, P, r, nv, t, q⟩ => by
  refine ⟨B, ds, ts, _, r, nv, t, fun d ds' ⟨i, e, z⟩ v H' B' kb r' => ?_⟩
  subst e
  exact ⟨i, r'.see0 (d := .t (.int i)) rfl, q _ _ z H' B' kb r'.drop⟩
abbrev FSl := D → Option Int → Option Int → (D → Prop) → Prop
def cutT {α : Type} (xs : List α) (lo hi : Option Int) : List α := (xs.drop (HT.sIx xs.length 0 lo)).take (HT.sIx xs.length xs.length hi - HT.sIx xs.length 0 lo)
def fSl : FSl
  | .t (.tup xs), lo, hi, Q => Q (.t (.tup (cutT xs lo hi)))
  | .t (.str z), lo, hi, Q => z.length ≤ sizeLine ∧ Q (.t (.str (cutS z lo hi)))
  | d, lo, hi, Q => ∃ xs, lits d = some xs ∧ cps xs = true ∧ Q (.lst (cutT xs lo hi))
def rSlAll (K : PySem.W.Frag) : V → Option Int → Option Int → Hp → VK → Prop := fun x lo hi H Q => rSlL K x lo hi H Q ∨ rSlA K x lo hi H Q ∨ rSlS x lo hi H Q
theorem sl_all : L2.SlR X (rSlAll X.K) := sl_list.or (sl_tupA.or sl_str)
def dSl (p2 : Bool) (f : FSl) (a : OD) (lo hi : BD) : ED := fun ds Q => a ds fun x ds1 => nvs p2 x ∧ lo ds1 fun l ds2 => hi ds2 fun h ds3 => ∃ d, x.get ds3 = some d ∧ f d l h fun d' => Q d' ds3
theorem cps_take : ∀ {xs : List D} (n : Nat), cps xs = true → cps (xs.take n) = true
  | _, 0, _ => rfl
  | [], n + 1, _ => rfl
  | x :: xs, n + 1, c => by
    simp only [cps, Bool.and_eq_true] at c
    simp only [List.take_succ_cons, cps, c.1, cps_take n c.2, Bool.and_self]
theorem cps_drop : ∀ {xs : List D} (n : Nat), cps xs = true → cps (xs.drop n) = true
  | _, 0, c => c
  | [], n + 1, _ => rfl
  | x :: xs, n + 1, c => by
    simp only [cps, Bool.and_eq_true] at c
    exact cps_drop n c.2
theorem r_sl {B H : Hp} {v : V} {d : D} {lo hi : Option Int} {Q' : D → Prop} {Q : VK} (k : Same B H) (w : VB K B H d v) (h : fSl d lo hi Q') (q : ∀ d' v' H', Same H H' → Fresh K B H H' d' v' → Q' d' → Q v' H') : rSlAll K v lo hi H Q := by
  have lists : (∃ xs, lits d = some xs ∧ cps xs = true ∧ Q' (.lst (cutT xs lo hi))) → rSlAll K v lo hi H Q := by
    rintro ⟨xs, e, c, z⟩
    obtain ⟨a, vs, rfl, s, r⟩ := w.lits k e
    refine .inl ⟨a, vs, rfl, SqL.of s, fun p hp => q _ _ _ (same_new hp) ?_ z⟩
    have e : cutV vs lo hi = (vs.drop (HT.sIx xs.length 0 lo)).take (HT.sIx xs.length xs.length hi - HT.sIx xs.length 0 lo) := by rw [r.length]; rfl
    rw [e]
    exact Fresh.lst hp (VBs.take _ (VBs.drop _ r)) (cps_take _ (cps_drop _ c))
  unfold fSl at h
  split at h
  · rename_i xs
    obtain ⟨a, vs, rfl, s, r⟩ := w
    have hl := TRs.length r
    have e : cutV vs lo hi = (vs.drop (HT.sIx xs.length 0 lo)).take (HT.sIx xs.length xs.length hi - HT.sIx xs.length 0 lo) := by rw [hl]; rfl
    refine .inr (.inl ⟨a, vs, rfl, SqT.of s, fun ⟨e1, e2⟩ => ?_, fun _ p hp => q _ _ _ (same_new hp) ?_ h⟩)
    · have z : cutT xs lo hi = xs := by
        unfold cutT
        rw [hl, e1, e2, ← hl]
        simp
      have h : Q' (.t (.tup (cutT xs lo hi))) := h
      rw [z] at h
      exact q _ _ H (Same.refl _) (Fresh.t (x := .tup xs) ⟨a, vs, rfl, s, r⟩) h
    · rw [e]
      exact Fresh.t (x := .tup (cutT xs lo hi)) ⟨p, _, rfl, upd_same, TRs.mono (.of (same_new hp)) _ _ (TRs.take _ (TRs.drop _ r))⟩
  · rename_i z
    exact .inr (.inr ⟨z, w, h.1, q _ _ H (Same.refl _) Fresh.str h.2⟩)
  · exact lists h
theorem e_sl {lo hi : Option Expr} {tl th : BD} {ps : Pos} (ha : PE X ea (LO X.K C p ta)) (hl : PO X lo (LB X.K C p2 tl)) (hh : PO X hi (LB X.K C p2 th)) (hp : p = true → p2 = true := by decide) : PE X (.Subscript ea (.Slice lo hi none ps) pos) (LE X.K C p (dSl p2 fSl ta tl th)) :=
  (pe_slice sl_all ha hl hh).imp fun σ H Q ⟨B, ds, ts, P, rs, nv, t, q⟩ => by
    refine ⟨B, ds, ts, _, rs, nv, t, fun tm ds1 ⟨n1, ht⟩ v1 H1 B1 kb1 r1 => ?_⟩
    have nv2 : p2 = false → novw ts := fun e => nv (by cases p; rfl; exact absurd (hp rfl) (by rw [e]; decide))
    refine ⟨B1, ds1, _, _, r1, nv_cons n1 nv2, ht, fun l ds2 hh H2 B2 kb2 r2 => ?_⟩
    refine ⟨B2, ds2, _, _, r2, nv_cons n1 nv2, hh, fun u ds3 ⟨d, e, hf⟩ H3 B3 kb3 r3 => ?_⟩
    exact r_sl r3.bh (r3.see0 e) hf fun d' v' H' k fr z => q _ _ z v' H' B3 ((kb1.trans kb2).trans kb3) (r3.push k fr).drop2
end
end Dn

set_option Elab.async false
set_option linter.all false
set_option maxRecDepth 100000
/-! Dn6: built-in functions. -/
namespace Dn
open PySem PySem.Spec PyProof.Rows L2
section
variable {K : PySem.W.Frag}
/-! ### one argument -/
theorem VBs.one {B H : Hp} {d : D} {vs : List V} (h : VBs K B H [d] vs) : ∃ v, vs = [v] ∧ VB K B H d v := by
  obtain ⟨v, r, rfl, h1, h2⟩ := h
  rw [show r = [] from h2]; exact ⟨v, rfl, h1⟩
theorem VBs.two {B H : Hp} {d e : D} {vs : List V} (h : VBs K B H [d, e] vs) : ∃ v u, vs = [v, u] ∧ VB K B H d v ∧ VB K B H e u := by
  obtain ⟨v, r, rfl, h1, h2⟩ := h
  obtain ⟨u, rfl, h3⟩ := h2.one
  exact ⟨v, u, rfl, h1, h3⟩
def slen : D → Option Nat
  | .t (.tup xs) => some xs.length
  | .t (.str x) => if x.length ≤ sizeLine then some x.length else none
  | .t _ => none
  | .lst xs => some xs.length
  | .frz xs => some xs.length
  | .scr xs => some xs.length
  | .tupM xs => some xs.length
def fLen : FN := fun ds Q => ∃ d n, ds = [d] ∧ slen d = some n ∧ Q (.t (.int n))
theorem fzs_length : ∀ xs : List D, (fzs xs).length = xs.length
  | [] => rfl
  | x :: xs => by simp only [fzs, List.length_cons, fzs_length xs]
theorem slen_sits {d : D} {n : Nat} (h : slen d = some n) : (∃ xs, sits d = some xs ∧ xs.length = n) ∨ ∃ x, d = .t (.str x) ∧ x.length ≤ sizeLine ∧ x.length = n := by
  cases d with
  | t x =>
    cases x with
    | tup ys => cases h; exact .inl ⟨_, rfl, by rw [List.length_map]⟩
    | str z =>
      simp only [slen] at h
      split at h
      · rename_i hz; cases h; exact .inr ⟨z, rfl, hz, rfl⟩
      · cases h
    | _ => cases h
  | lst ys => cases h; exact .inl ⟨_, rfl, rfl⟩
  | frz ys => cases h; exact .inl ⟨_, rfl, fzs_length ys⟩
  | scr ys => cases h; exact .inl ⟨_, rfl, fzs_length ys⟩
  | tupM ys => cases h; exact .inl ⟨_, rfl, rfl⟩
theorem c_len : RN K fLen (fun xs H Q => ∃ x n, xs = [x] ∧ LenV K x H n ∧ Q (.int n) H) := by
  intro B H vs ds Q' Q k ww h q
  obtain ⟨d, n, rfl, e, h⟩ := h
  obtain ⟨v, rfl, w⟩ := ww.one
  refine ⟨v, n, rfl, ?_, q _ _ H (Same.refl _) Fresh.int h⟩
  rcases slen_sits e with ⟨xs, e, hn⟩ | ⟨x, rfl, hz, hn⟩
  · obtain ⟨a, us, rfl, s, r⟩ := w.sits k e
    have hl := r.length
    rcases s with s | s
    · exact .inl ⟨us, s, by omega⟩
    · exact .inr ⟨us, s, by omega⟩
  · rw [show v = .str x from w]
    exact ⟨hz, hn.symm⟩
def fAbs : FN := fun ds Q => ∃ i, ds = [.t (.int i)] ∧ Q (.t (.int (if i < 0 then -i else i)))
theorem c_abs : RN K fAbs (fun xs H Q => ∃ i, xs = [.int i] ∧ Q (.int (if i < 0 then -i else i)) H) := by
  intro B H vs ds Q' Q k ww h q
  obtain ⟨i, rfl, h⟩ := h
  obtain ⟨v, rfl, w⟩ := ww.one
  exact ⟨i, by rw [show v = .int i from w], q _ _ H (Same.refl _) Fresh.int h⟩
def fInt : FN := fun ds Q => (∃ i, ds = [.t (.int i)] ∧ Q (.t (.int i))) ∨ ∃ b, ds = [.t (.bl b)] ∧ Q (.t (.int (if b then 1 else 0)))
theorem c_int : RN K fInt (fun xs H Q => (∃ i, xs = [.int i] ∧ Q (.int i) H) ∨ ∃ k, xs = [.bl k] ∧ Q (.int (if k then 1 else 0)) H) := by
  intro B H vs ds Q' Q k ww h q
  rcases h with ⟨i, rfl, h⟩ | ⟨i, rfl, h⟩
  · obtain ⟨v, rfl, w⟩ := ww.one
    exact .inl ⟨i, by rw [show v = .int i from w], q _ _ H (Same.refl _) Fresh.int h⟩
  · obtain ⟨v, rfl, w⟩ := ww.one
    exact .inr ⟨i, by rw [show v = .bl i from w], q _ _ H (Same.refl _) Fresh.int h⟩
def fMax2 : FN := fun ds Q => ∃ i j, ds = [.t (.int i), .t (.int j)] ∧ Q (.t (.int (if j > i then j else i)))
def fMin2 : FN := fun ds Q => ∃ i j, ds = [.t (.int i), .t (.int j)] ∧ Q (.t (.int (if j < i then j else i)))
theorem c_max2 : RN K fMax2 (fun xs H Q => ∃ i j, xs = [.int i, .int j] ∧ Q (.int (if j > i then j else i)) H) := by
  intro B H vs ds Q' Q k ww h q
  obtain ⟨i, j, rfl, h⟩ := h
  obtain ⟨v, u, rfl, w1, w2⟩ := ww.two
  exact ⟨i, j, by rw [show v = .int i from w1, show u = .int j from w2], q _ _ H (Same.refl _) Fresh.int h⟩
theorem c_min2 : RN K fMin2 (fun xs H Q => ∃ i j, xs = [.int i, .int j] ∧ Q (.int (if j < i then j else i)) H) := by
  intro B H vs ds Q' Q k ww h q
  obtain ⟨i, j, rfl, h⟩ := h
  obtain ⟨v, u, rfl, w1, w2⟩ := ww.two
  exact ⟨i, j, by rw [show v = .int i from w1, show u = .int j from w2], q _ _ H (Same.refl _) Fresh.int h⟩
/-- tuple(x), list(x) of a list or a tuple -/
def fTuple : FN := fun ds Q => ∃ d xs, ds = [d] ∧ ((lits d = some xs ∧ cps xs = true) ∨ (tits d = some xs ∧ cps xs = true)) ∧ Q (mkTup xs)
theorem c_tuple : RN K fTuple (fun xs H Q => ∃ p ys, xs = [.ref p] ∧ ((SqL K H p ys ∧ ∀ l, H l = none → Q (.ref l) (upd H l (.tup ys))) ∨ (SqT K H p ys ∧ Q (.ref p) H))) := by
  intro B H vs ds Q' Q k ww h q
  obtain ⟨d, xs, rfl, e, h⟩ := h
  obtain ⟨v, rfl, w⟩ := ww.one
  rcases e with ⟨e, c⟩ | ⟨e, c⟩
  · obtain ⟨a, us, rfl, s, r⟩ := w.lits k e
    exact ⟨a, us, rfl, .inl ⟨SqL.of s, fun l hl => q _ _ _ (same_new hl) (Fresh.tup hl r c) h⟩⟩
  · obtain ⟨a, us, rfl, s, r⟩ := w.tits e
    exact ⟨a, us, rfl, .inr ⟨SqT.of s, q _ _ _ (Same.refl _) (mkTup_old r s c) h⟩⟩
def fList : FN := fun ds Q => ∃ d xs, ds = [d] ∧ sits d = some xs ∧ cps xs = true ∧ Q (.lst xs)
theorem c_list : RN K fList (fun xs H Q => ∃ p ys, xs = [.ref p] ∧ (SqL K H p ys ∨ SqT K H p ys) ∧ ∀ l, H l = none → Q (.ref l) (upd H l (.lst ys))) := by
  intro B H vs ds Q' Q k ww h q
  obtain ⟨d, xs, rfl, e, c, h⟩ := h
  obtain ⟨v, rfl, w⟩ := ww.one
  obtain ⟨a, us, rfl, s, r⟩ := w.sits k e
  exact ⟨a, us, rfl, s, fun l hl => q _ _ _ (same_new hl) (Fresh.lst hl r c) h⟩
end
/-! ### sum -/
theorem sum_tup {prog : Program} {w : World} {A : Around} {E : Value → Shared → Prop} {s : Shared} {l : Addr} {its : List Value} {ns : List Int} {Q : Value → Shared → Prop} (hh : A.handled = none) (ht : s.heap.IsTuple l its.toArray) (hv : Vals (ns.map V.int) its)
    (h : ∀ h' tk t', (∀ b o, s.heap.get? b = some o → h'.get? b = some o) → Q (.int ns.sum t') { s with heap := h', toks := tk }) : wpAny (model prog w) A (call (.builtin "sum") [.ref l]) Q E s := by
  refine call_sum_walkAnyS (wpAny_pyIter_tuple ht ?_)
  have hl : l < s.heap.objs.size := by obtain ⟨o, e, _⟩ := id ht; exact Heap.lt_size e
  have kp : ∀ (o : Obj) b u, s.heap.get? b = some u → (s.heap.push o).get? b = some u := fun o b u e => Heap.get?_push_of_some _ e
  have hlen : its.length = ns.length := by rw [← hv.length, List.length_map]
  refine ⟨s.heap.objs.size, _, _, _, _, _, _, fun i => (ns[i]?).getD 0, rfl, (Walks.tuple (A := A.in1) hh s.heap.objs.size l (Nat.ne_of_lt hl) its.toArray).toS, ⟨⟨_, Heap.get?_push_size _ rfl, rfl, rfl⟩, ?_⟩, fun b hb => ?_, fun i v e => ?_, fun s' t' hm => ?_⟩
  · obtain ⟨o, e, r⟩ := ht
    exact ⟨o, kp _ _ _ e, r⟩
  · show b < (s.heap.push _).objs.size
    rw [Heap.size_push]
    rcases List.mem_cons.mp hb with rfl | hb
    · exact Nat.lt_succ_self _
    · rcases List.mem_cons.mp hb with rfl | hb
      · exact Nat.lt_succ_of_lt hl
      · cases hb
  · have e : its[i]? = some v := by simpa using e
    have hi : i < ns.length := by rw [← hlen]; exact (List.getElem?_eq_some_iff.mp e).1
    obtain ⟨u, e', r⟩ := hv.get (i := i) (x := .int ns[i]) (by simp [hi])
    rw [e] at e'; cases e'
    obtain ⟨t, rfl⟩ := (show ∃ t, v = Value.int ns[i] t from r)
    exact ⟨t, by simp [hi]⟩
  · have hs : preSum (fun i => (ns[i]?).getD 0) its.toArray.size = ns.sum := by
      rw [List.size_toArray, hlen]
      have gen : ∀ n, n ≤ ns.length → preSum (fun i => (ns[i]?).getD 0) n = (ns.take n).sum := by
        intro n
        induction n with
        | zero => intro _; rfl
        | succ n ih =>
          intro hn
          show preSum _ n + (ns[n]?).getD 0 = _
          rw [ih (by omega), sum_take (z := ns[n]) (by simp [show n < ns.length by omega]), List.getElem?_eq_getElem (by omega)]; rfl
      rw [gen _ (Nat.le_refl _), List.take_length]
    rw [hs]
    obtain ⟨hh', g', d', tk', o'⟩ := s'
    obtain rfl : g' = s.gens := hm.gens
    obtain rfl : d' = s.drawn := hm.drawn
    obtain rfl : o' = s.os := hm.os
    exact h hh' tk' t' fun b o e => hm.heap b o (fun hb => by
      have : b = s.heap.objs.size := by simpa using hb
      rw [this] at e; exact absurd (Heap.lt_size e) (Nat.lt_irrefl _)) (kp _ _ _ e)
section
variable {X : Cx}
def rSumA (K : PySem.W.Frag) : List V → Hp → VK → Prop := fun vs H Q => ∃ (a : Addr) (ns : List Int), vs = [V.ref a] ∧ (SqL K H a (ns.map V.int) ∨ SqT K H a (ns.map V.int)) ∧ Q (.int ns.sum) H
theorem cr_sumA (hc : X.calm = true) : CallR X (.builtin "sum") (rSumA X.K) := by
  intro pins s σ H vs us Q I r h
  obtain ⟨a, ns, rfl, hs, q⟩ := h
  rcases hs with hs | hs
  · exact cr_sum hc pins s σ H _ us Q I r ⟨a, ns, rfl, hs, q⟩
  · obtain ⟨its, rv, ht, _⟩ := I.tuple hs
    rw [L2.Vals.ref1 r]
    exact sum_tup (I.ok.hd hc) ht rv fun h' tk t' hk => ⟨.int _, H, I.kept hk, ⟨_, rfl⟩, q⟩
variable {K : PySem.W.Frag}
/-- all ints -/
def intsD : List D → Option (List Int)
  | [] => some []
  | .t (.int i) :: ds => (intsD ds).map (i :: ·)
  | _ :: _ => none
theorem ints_map (ns : List Int) : intsD (ns.map fun i => D.t (.int i)) = some ns := by
  induction ns with
  | nil => rfl
  | cons n ns ih => simp only [List.map_cons, intsD, ih, Option.map_some]
theorem ints_v {B H : Hp} : ∀ {ds : List D} {ns : List Int} {vs : List V}, intsD ds = some ns → VBs K B H ds vs → vs = ns.map V.int
  | [], ns, vs, e, h => by cases e; exact h
  | .t (.int i) :: ds, ns, vs, e, h => by
    simp only [intsD] at e
    cases q : intsD ds with
    | none => rw [q] at e; cases e
    | some r =>
      rw [q] at e; cases e
      obtain ⟨v, us, rfl, h1, h2⟩ := h
      rw [show v = .int i from h1, ints_v q h2]; rfl
  | .t .non :: _, _, _, e, _ => by cases e
  | .t (.bl _) :: _, _, _, e, _ => by cases e
  | .t (.str _) :: _, _, _, e, _ => by cases e
  | .t (.tup _) :: _, _, _, e, _ => by cases e
  | .lst _ :: _, _, _, e, _ => by cases e
  | .frz _ :: _, _, _, e, _ => by cases e
  | .scr _ :: _, _, _, e, _ => by cases e
  | .tupM _ :: _, _, _, e, _ => by cases e
def fSum : FN := fun ds Q => ∃ d xs ns, ds = [d] ∧ sits d = some xs ∧ intsD xs = some ns ∧ Q (.t (.int ns.sum))
theorem c_sum : RN K fSum (rSumA K) := by
  intro B H vs ds Q' Q k ww h q
  obtain ⟨d, xs, ns, rfl, e, e2, h⟩ := h
  obtain ⟨v, rfl, w⟩ := ww.one
  obtain ⟨a, us, rfl, s, r⟩ := w.sits k e
  have := ints_v e2 r
  subst this
  exact ⟨a, ns, rfl, s, q _ _ H (Same.refl _) Fresh.int h⟩
/-- max, min of a list of ints -/
def fMaxL : FN := fun ds Q => ∃ d xs ns, ds = [d] ∧ lits d = some xs ∧ intsD xs = some ns ∧ 0 < ns.length ∧ ∀ m, m ∈ ns → (∀ y, y ∈ ns → y ≤ m) → Q (.t (.int m))
theorem c_maxL : RN K fMaxL (rMax K) := by
  intro B H vs ds Q' Q k ww h q
  obtain ⟨d, xs, ns, rfl, e, e2, h0, h⟩ := h
  obtain ⟨v, rfl, w⟩ := ww.one
  obtain ⟨a, us, rfl, s, r⟩ := w.lits k e
  have := ints_v e2 r
  subst this
  exact ⟨a, ns, rfl, SqL.of s, h0, fun m h1 h2 => q _ _ H (Same.refl _) Fresh.int (h m h1 h2)⟩
def fMinL : FN := fun ds Q => ∃ d xs ns, ds = [d] ∧ lits d = some xs ∧ intsD xs = some ns ∧ 0 < ns.length ∧ ∀ m, m ∈ ns → (∀ y, y ∈ ns → m ≤ y) → Q (.t (.int m))
theorem c_minL : RN K fMinL (rMin K) := by
  intro B H vs ds Q' Q k ww h q
  obtain ⟨d, xs, ns, rfl, e, e2, h0, h⟩ := h
  obtain ⟨v, rfl, w⟩ := ww.one
  obtain ⟨a, us, rfl, s, r⟩ := w.lits k e
  have := ints_v e2 r
  subst this
  exact ⟨a, ns, rfl, SqL.of s, h0, fun m h1 h2 => q _ _ H (Same.refl _) Fresh.int (h m h1 h2)⟩
/-- sorted of pairs of ints -/
def prs : List D → Option (List (Int × Int))
  | [] => some []
  | .t (.tup [.int i, .int j]) :: ds => (prs ds).map ((i, j) :: ·)
  | _ :: _ => none
def prD (p : Int × Int) : D := .t (.tup [.int p.1, .int p.2])
theorem prs_map (ns : List (Int × Int)) : prs (ns.map prD) = some ns := by
  induction ns with
  | nil => rfl
  | cons n ns ih => simp only [List.map_cons, prD, prs, ih, Option.map_some]
theorem prs_of : ∀ {ds : List D} {ns : List (Int × Int)}, prs ds = some ns → ds = ns.map prD
  | [], ns, e => by cases e; rfl
  | d :: ds, ns, e => by
    unfold prs at e
    split at e
    · rename_i h; cases h
    · rename_i i j ds' h
      cases h
      cases q : prs ds with
      | none => rw [q] at e; cases e
      | some r => rw [q] at e; cases e; rw [prs_of q]; rfl
    · cases e
theorem prD_v {B H : Hp} {p : Int × Int} {v : V} (h : VB K B H (prD p) v) : ∃ t, v = .ref t ∧ H t = some (.tup [.int p.1, .int p.2]) := by
  obtain ⟨a, vs, rfl, s, v1, r, rfl, h1, v2, r2, rfl, h2, h3⟩ := h
  rw [show v1 = .int p.1 from h1, show v2 = .int p.2 from h2, show r2 = [] from h3] at s
  exact ⟨a, rfl, s⟩
/-- not above, of pairs -/
def lePr (a b : Int × Int) : Prop := a.1 < b.1 ∨ (a.1 = b.1 ∧ a.2 ≤ b.2)
/-- the pair that stands at an object -/
def prAt (H : Hp) : V → Int × Int
  | .ref t => match H t with
    | some (.tup [.int i, .int j]) => (i, j)
    | _ => (0, 0)
  | _ => (0, 0)
def fSortP : FN := fun ds Q => ∃ d xs ns, ds = [d] ∧ lits d = some xs ∧ prs xs = some ns ∧ ∀ ms : List (Int × Int), ms.Perm ns → ms.Pairwise lePr → Q (.lst (ms.map prD))
theorem prs_vs {B H : Hp} : ∀ {ns : List (Int × Int)} {vs : List V}, VBs K B H (ns.map prD) vs → vs.map (prAt H) = ns ∧ ∀ v ∈ vs, ∃ t, v = V.ref t ∧ H t = some (.tup [.int (prAt H v).1, .int (prAt H v).2])
  | [], vs, h => by
    rw [show vs = [] from h]
    exact ⟨rfl, fun v hv => by cases hv⟩
  | n :: ns, vs, h => by
    obtain ⟨v, us, rfl, h1, h2⟩ := h
    obtain ⟨t, rfl, e⟩ := prD_v h1
    obtain ⟨a, b⟩ := prs_vs h2
    have e2 : prAt H (.ref t) = n := by simp only [prAt, e]
    refine ⟨by rw [List.map_cons, a, e2], fun v hv => ?_⟩
    rcases List.mem_cons.mp hv with rfl | hv
    · exact ⟨t, rfl, by rw [e2]; exact e⟩
    · exact b v hv
theorem vs_prs {B H : Hp} : ∀ {vs : List V}, (∀ v ∈ vs, ∃ t, v = V.ref t ∧ H t = some (.tup [.int (prAt H v).1, .int (prAt H v).2])) → VBs K B H ((vs.map (prAt H)).map prD) vs
  | [], _ => rfl
  | v :: vs, h => by
    obtain ⟨t, e1, e2⟩ := h v List.mem_cons_self
    exact ⟨v, vs, rfl, ⟨t, _, e1, e2, _, _, rfl, rfl, _, _, rfl, rfl, rfl⟩, vs_prs fun u hu => h u (List.mem_cons_of_mem _ hu)⟩
theorem cps_prD (ns : List (Int × Int)) : cps (ns.map prD) = true := by
  induction ns with
  | nil => rfl
  | cons n ns ih => simp only [List.map_cons, cps, prD, cp, Bool.true_and]; exact ih
theorem c_sortP : RN K fSortP (rSortedPO K) := by
  intro B H vs ds Q' Q k ww h q
  obtain ⟨d, xs, ns, rfl, e, e2, h⟩ := h
  obtain ⟨v, rfl, w⟩ := ww.one
  obtain ⟨a, us, rfl, s, r⟩ := w.lits k e
  have := prs_of e2
  subst this
  obtain ⟨m1, m2⟩ := prs_vs r
  refine ⟨a, us, prAt H, rfl, SqL.of s, m2, fun ys p srt stb hp => ?_⟩
  have m3 : ∀ v ∈ ys, ∃ t, v = V.ref t ∧ H t = some (.tup [.int (prAt H v).1, .int (prAt H v).2]) := fun v hv => m2 v (stb.perm.mem_iff.mp hv)
  refine q _ _ _ (same_new hp) (Fresh.lst hp (vs_prs m3) (cps_prD _)) (h _ ?_ ?_)
  · rw [← m1]; exact stb.perm.map _
  · rw [List.pairwise_map]
    refine srt.imp fun {x y} hxy => ?_
    have hxy : SrtO.lexB (prAt H y) (prAt H x) = false := hxy
    have hn : ¬ _ := fun z => Bool.false_ne_true (hxy.symm.trans (SrtO.lexB_iff.mpr z))
    unfold lePr
    omega
end
end Dn

set_option Elab.async false
set_option linter.all false
set_option maxRecDepth 100000
/-! Dn7: lists changed at a place; statements. -/
namespace Dn
open PySem PySem.Spec PyProof.Rows L2
section
variable {K : PySem.W.Frag} {C : FC} {B H : Hp} {σ : L2.St} {ds : DS} {ts : Tms} {v : V} {d : D}
theorem list_set_self {α : Type} : ∀ {l : List α} {j : Nat} {x : α}, l[j]? = some x → l.set j x = l
  | [], _, _, h => by simp at h
  | y :: l, 0, x, h => by simp at h; subst h; rfl
  | y :: l, j + 1, x, h => by simp at h; simp [list_set_self h]
/-- a list at a place within: taken out, another put there -/
theorem DR.at : ∀ {p : List Nat} {d : D} {v : V} {F : Fp} {xs : List D}, DR K B H d v F → pget d p = some (.lst xs) → ∃ (a : Addr) (vs : List V) (G R : Fp), VP H v p (.ref a) ∧ H a = some (.lst vs) ∧ DRs K B H xs vs G ∧ (F = fun b => one a b + G b + R b) ∧
    ∀ B' H' xs' vs' G', Same B B' → KT H H' → (∀ b ys, 0 < R b → H b = some (.lst ys) → H' b = some (.lst ys)) → H' a = some (.lst vs') → DRs K B' H' xs' vs' G' → DR K B' H' (pset d p (.lst xs')) v (fun b => one a b + G' b + R b)
  | [], d, v, F, xs, h, g => by
    cases g
    obtain ⟨a, vs, G, rfl, s, r, rfl⟩ := h
    refine ⟨a, vs, G, z0, rfl, s, r, by funext b; simp [z0], fun B' H' xs' vs' G' kb k kr s' r' => ⟨a, vs', G', rfl, s', r', by funext b; simp [z0]⟩⟩
  | j :: p, .lst ys, v, F, xs, h, g => by
    obtain ⟨a0, us, G0, rfl, s0, r0, rfl⟩ := h
    simp only [pget] at g
    cases z : ys[j]? with
    | none => rw [z] at g; cases g
    | some y =>
      rw [z] at g
      obtain ⟨u, F1, F2, eu, hu, rfl, _, put⟩ := DRs.split r0 z
      obtain ⟨a, vs, G, R, vp, s, r, rfl, back⟩ := DR.at (p := p) hu g
      refine ⟨a, vs, G, fun b => R b + one a0 b + F2 b, ⟨a0, us, u, rfl, .inl s0, eu, vp⟩, s, r, by funext b; show one a0 b + (one a b + G b + R b + F2 b) = one a b + G b + (R b + one a0 b + F2 b); omega, fun B' H' xs' vs' G' kb k kr s' r' => ?_⟩
      have q := put B' H' _ u _ (back B' H' xs' vs' G' kb k (fun b ws hb e => kr b ws (by show 0 < R b + one a0 b + F2 b; omega) e) s' r') kb k (fun b ws hb e => kr b ws (by show 0 < R b + one a0 b + F2 b; omega) e)
      rw [list_set_self eu] at q
      have s0' : H' a0 = some (.lst us) := kr a0 us (by show 0 < R a0 + one a0 a0 + F2 a0; simp [one]; omega) s0
      have e : pset (.lst ys) (j :: p) (.lst xs') = .lst (ys.set j (pset y p (.lst xs'))) := by simp only [pset, z]
      rw [e]
      exact ⟨a0, us, _, rfl, s0', q, by funext b; show one a b + G' b + (R b + one a0 b + F2 b) = one a0 b + (one a b + G' b + R b + F2 b); omega⟩
  | j :: p, .tupM ys, v, F, xs, h, g => by
    obtain ⟨a0, us, rfl, s0, r0⟩ := h
    simp only [pget] at g
    cases z : ys[j]? with
    | none => rw [z] at g; cases g
    | some y =>
      rw [z] at g
      obtain ⟨u, F1, F2, eu, hu, rfl, _, put⟩ := DRs.split r0 z
      obtain ⟨a, vs, G, R, vp, s, r, rfl, back⟩ := DR.at (p := p) hu g
      refine ⟨a, vs, G, fun b => R b + F2 b, ⟨a0, us, u, rfl, .inr s0, eu, vp⟩, s, r, by funext b; show one a b + G b + R b + F2 b = one a b + G b + (R b + F2 b); omega, fun B' H' xs' vs' G' kb k kr s' r' => ?_⟩
      have q := put B' H' _ u _ (back B' H' xs' vs' G' kb k (fun b ws hb e => kr b ws (by show 0 < R b + F2 b; omega) e) s' r') kb k (fun b ws hb e => kr b ws (by show 0 < R b + F2 b; omega) e)
      rw [list_set_self eu] at q
      have e : pset (.tupM ys) (j :: p) (.lst xs') = .tupM (ys.set j (pset y p (.lst xs'))) := by simp only [pset, z]
      rw [e]
      have q2 : DRs K B' H' (ys.set j (pset y p (.lst xs'))) us (fun b => one a b + G' b + (R b + F2 b)) := by
        have e2 : (fun b => one a b + G' b + (R b + F2 b)) = (fun b => (one a b + G' b + R b) + F2 b) := by funext b; omega
        rw [e2]; exact q
      exact ⟨a0, us, rfl, k.tup s0, q2⟩
  | _ :: _, .t _, _, _, _, _, g => by cases g
  | _ :: _, .frz _, _, _, _, _, g => by cases g
  | _ :: _, .scr _, _, _, _, _, g => by cases g
/-- the state where a list within a name's value is changed: what the list and the temporaries hold is handed on -/
theorem RS.upd {ts : Tms} (r : RS K C B σ H ds ts) {i : Nat} {p : List Nat} {d : D} {xs : List D} (e : ds[i]? = some (some d)) (g : pget d p = some (.lst xs)) :
    ∃ v0 a vs, σ[i]? = some (some v0) ∧ VP H v0 p (.ref a) ∧ H a = some (.lst vs) ∧ VBs K B H xs vs ∧
      ∀ xs' vs' ts', novw ts' → (∀ G F, DRs K B H xs vs G → TmR K B H σ ts F → ∃ G' F', DRs K B H xs' vs' G' ∧ TmR K B H σ ts' F' ∧ ∀ b, G' b + F' b ≤ G b + F b) →
        RS K C B σ (upd H a (.lst vs')) (ds.set i (some (pset d p (.lst xs')))) ts' := by
  obtain ⟨F1, F2, h1, h2, h3, h4⟩ := r.ex
  obtain ⟨v0, D1, D2, ev, hd, rfl, _, hrest⟩ := h1.at e
  obtain ⟨a, vs, G, R, vp, s, rx, rfl, back⟩ := DR.at hd g
  refine ⟨v0, a, vs, ev, vp, s, DRs.view _ _ _ rx, fun xs' vs' ts' nv' f => ?_⟩
  obtain ⟨G', F', g1, g2, le⟩ := f G F2 rx h2
  have hk : KT H (L2.upd H a (.lst vs')) := KT.upd s
  have tot : ∀ b, one a b + G b + R b + D2 b + F2 b ≤ 1 := h3
  have ta := tot a
  simp only [one, if_true] at ta
  have la := le a
  have ne : ∀ {b : Addr} {ys : List V} {P : Fp}, P a = 0 → 0 < P b → H b = some (.lst ys) → L2.upd H a (.lst vs') b = some (.lst ys) := fun {b ys P} hP hb eb => by
    rw [upd_ne (fun z => by rw [z, hP] at hb; exact Nat.lt_irrefl 0 hb)]; exact eb
  have dn : DR K B (L2.upd H a (.lst vs')) (pset d p (.lst xs')) v0 (fun b => one a b + G' b + R b) :=
    back B _ xs' vs' G' (Same.refl B) hk (fun b ys hb eb => ne (P := R) (by omega) hb eb) upd_same (DRs.mono (Same.refl B) hk _ _ _ (fun b ys hb eb => ne (P := G') (by omega) hb eb) g1)
  have hr2 := SlR.fill (i := i) (hrest.mono (Same.refl B) hk (fun b ys hb eb => ne (P := D2) (by omega) hb eb)) (by simp [(List.getElem?_eq_some_iff.mp e).1]) ev dn
  rw [List.set_set] at hr2
  refine ⟨⟨_, F', hr2, g2.kt (Same.refl B) hk nv' (fun b ys hb eb => ne (P := F') (by omega) hb eb), fun b => ?_, fun b hb => ?_⟩, fun b o eb => ?_, r.b0, r.pin, r.tb.upd s⟩
  · have := tot b; have := le b
    show one a b + G' b + R b + D2 b + F' b ≤ 1
    omega
  · have := le b
    have hb : 0 < one a b + G' b + R b + D2 b + F' b := hb
    exact h4 b (by show 0 < one a b + G b + R b + D2 b + F2 b; omega)
  · have hn : b ≠ a := fun z => by
      have := h4 a (by show 0 < one a a + G a + R a + D2 a + F2 a; simp [one]; omega)
      rw [z, this] at eb; cases eb
    rw [upd_ne hn]; exact r.bh _ _ eb
end

/-! ### a list's methods -/
abbrev MD := List D → List D → (List D → D → Prop) → Prop
/-- what a method's rule asks -/
def MOk (K : PySem.W.Frag) (f : MD) (r : V → List V → Hp → VK → Prop) : Prop := ∀ B H a vs xs us as G Fa Q' Q, H a = some (.lst vs) → DRs K B H xs vs G → DRs K B H as us Fa → f xs as Q' →
  (∀ xs' vs' d' v' Gx Gd, DRs K B H xs' vs' Gx → DR K B H d' v' Gd → (∀ b, Gx b + Gd b ≤ G b + Fa b) → Q' xs' d' → Q v' (upd H a (.lst vs'))) → r (.ref a) us H Q
section
variable {K : PySem.W.Frag}
def mAppend : MD := fun xs as Q => ∃ e, as = [e] ∧ xs.length < sizeLine ∧ Q (xs ++ [e]) (.t .non)
theorem DRs.one {B H : Hp} {d : D} {vs : List V} {F : Fp} (h : DRs K B H [d] vs F) : ∃ v, vs = [v] ∧ DR K B H d v F := by
  obtain ⟨v, r, F1, F2, rfl, h1, h2, rfl⟩ := h
  obtain ⟨rfl, rfl⟩ := h2
  refine ⟨v, rfl, ?_⟩
  have e : (fun b => F1 b + z0 b) = F1 := by funext b; simp [z0]
  rw [e]; exact h1
theorem DRs.of_one {B H : Hp} {d : D} {v : V} {F : Fp} (h : DR K B H d v F) : DRs K B H [d] [v] F := ⟨v, [], F, z0, rfl, h, ⟨rfl, rfl⟩, by funext b; simp [z0]⟩
theorem DR.of_non {B H : Hp} : DR K B H (.t .non) .non z0 := ⟨rfl, rfl⟩
theorem m_append : MOk K mAppend rAppend := by
  intro B H a vs xs us as G Fa Q' Q s rx ra h q
  obtain ⟨e, rfl, hl, h⟩ := h
  obtain ⟨u, rfl, ru⟩ := ra.one
  exact ⟨a, vs, u, rfl, rfl, s, by rw [← rx.length]; exact hl, q _ _ _ _ _ z0 (rx.append (DRs.of_one ru)) (DR.of_non) (fun b => by simp [z0]) h⟩
/-- pop(), pop(i) -/
def mPop : MD := fun xs as Q => as = [] ∧ ∃ e, xs[xs.length - 1]? = some e ∧ Q xs.dropLast e
theorem dropLast_eraseIdx {α : Type} (l : List α) : l.dropLast = l.eraseIdx (l.length - 1) := by
  rw [List.dropLast_eq_take]
  by_cases h : l = []
  · subst h; rfl
  · have : 0 < l.length := List.length_pos_iff.mpr h
    rw [List.eraseIdx_eq_take_drop_succ, show l.length - 1 + 1 = l.length by omega, List.drop_length, List.append_nil]
theorem m_pop : MOk K mPop rPop := by
  intro B H a vs xs us as G Fa Q' Q s rx ra h q
  obtain ⟨rfl, e, he, h⟩ := h
  obtain ⟨rfl, rfl⟩ := ra
  obtain ⟨v, F1, F2, ev, hv, rfl, rest, _⟩ := rx.split he
  have hl := rx.length
  refine ⟨a, vs, v, rfl, rfl, s, by rw [← hl]; exact ev, ?_⟩
  refine q _ _ _ _ F2 F1 ?_ hv (fun b => by show F2 b + F1 b ≤ F1 b + F2 b + z0 b; simp only [z0]; omega) h
  rw [dropLast_eraseIdx, dropLast_eraseIdx, ← hl]
  exact rest
def mPopAt : MD := fun xs as Q => ∃ i k e, as = [.t (.int i)] ∧ -(2 ^ 63) ≤ i ∧ i < 2 ^ 63 ∧ seqIndex? i xs.length = some k ∧ xs[k]? = some e ∧ Q (xs.eraseIdx k) e
theorem m_popAt : MOk K mPopAt rPopAt := by
  intro B H a vs xs us as G Fa Q' Q s rx ra h q
  obtain ⟨i, k, e, rfl, b1, b2, hk, he, h⟩ := h
  obtain ⟨u, rfl, ru⟩ := ra.one
  obtain ⟨ru, rfl⟩ := ru
  obtain ⟨v, F1, F2, ev, hv, rfl, rest, _⟩ := rx.split he
  exact ⟨a, vs, i, k, v, rfl, by rw [show u = .int i from ru], s, b1, b2, by rw [← rx.length]; exact hk, ev, q _ _ _ _ F2 F1 rest hv (fun b => by show F2 b + F1 b ≤ F1 b + F2 b + z0 b; simp only [z0]; omega) h⟩
/-- insert(i, e) -/
theorem DRs.cut {B H : Hp} : ∀ {xs : List D} {vs : List V} {F : Fp} (n : Nat), DRs K B H xs vs F → ∃ F1 F2, DRs K B H (xs.take n) (vs.take n) F1 ∧ DRs K B H (xs.drop n) (vs.drop n) F2 ∧ F = fun b => F1 b + F2 b
  | xs, vs, F, 0, h => ⟨z0, F, ⟨rfl, rfl⟩, h, by funext b; simp [z0]⟩
  | [], vs, F, n + 1, h => by
    obtain ⟨rfl, rfl⟩ := h
    exact ⟨z0, z0, ⟨rfl, rfl⟩, ⟨rfl, rfl⟩, by funext b; simp [z0]⟩
  | x :: xs, vs, F, n + 1, h => by
    obtain ⟨v, r, F1, F2, rfl, h1, h2, rfl⟩ := h
    obtain ⟨G1, G2, g1, g2, rfl⟩ := DRs.cut n h2
    exact ⟨fun b => F1 b + G1 b, G2, ⟨v, _, F1, G1, rfl, h1, g1, rfl⟩, g2, by funext b; show F1 b + (G1 b + G2 b) = F1 b + G1 b + G2 b; omega⟩
def mInsert : MD := fun xs as Q => ∃ i e, as = [.t (.int i), e] ∧ xs.length < sizeLine ∧ 0 ≤ i ∧ i < 2 ^ 63 ∧ Q (xs.take i.toNat ++ [e] ++ xs.drop i.toNat) (.t .non)
theorem m_insert : MOk K mInsert (fun x vs H Q => ∃ (l : Addr) (xs : List V) (i : Int) (y : V), x = .ref l ∧ vs = [.int i, y] ∧ H l = some (.lst xs) ∧ xs.length < sizeLine ∧ 0 ≤ i ∧ i < 2 ^ 63 ∧
    Q .non (upd H l (.lst (xs.take i.toNat ++ [y] ++ xs.drop i.toNat)))) := by
  intro B H a vs xs us as G Fa Q' Q s rx ra h q
  obtain ⟨i, e, rfl, hl, b1, b2, h⟩ := h
  obtain ⟨u, r, A1, A2, rfl, ⟨ru, rfl⟩, r2, rfl⟩ := ra
  obtain ⟨w, rfl, rw'⟩ := r2.one
  obtain ⟨G1, G2, g1, g2, rfl⟩ := rx.cut i.toNat
  refine ⟨a, vs, i, w, rfl, by rw [show u = .int i from ru], s, by rw [← rx.length]; exact hl, b1, b2, q _ _ _ _ _ z0 ((g1.append (DRs.of_one rw')).append g2) DR.of_non (fun b => ?_) h⟩
  show G1 b + A2 b + G2 b + z0 b ≤ G1 b + G2 b + (z0 b + A2 b)
  simp only [z0]; omega
def mReverse : MD := fun xs as Q => as = [] ∧ Q xs.reverse (.t .non)
theorem DRs.reverse {B H : Hp} : ∀ {xs : List D} {vs : List V} {F : Fp}, DRs K B H xs vs F → DRs K B H xs.reverse vs.reverse F
  | [], vs, F, h => by obtain ⟨rfl, rfl⟩ := h; exact ⟨rfl, rfl⟩
  | x :: xs, vs, F, h => by
    obtain ⟨v, r, F1, F2, rfl, h1, h2, rfl⟩ := h
    rw [List.reverse_cons, List.reverse_cons]
    have e : (fun b => F1 b + F2 b) = (fun b => F2 b + F1 b) := by funext b; omega
    rw [e]
    exact (DRs.reverse h2).append (DRs.of_one h1)
theorem m_reverse : MOk K mReverse rReverse := by
  intro B H a vs xs us as G Fa Q' Q s rx ra h q
  obtain ⟨rfl, h⟩ := h
  obtain ⟨rfl, rfl⟩ := ra
  exact ⟨a, vs, rfl, rfl, s, q _ _ _ _ _ z0 rx.reverse DR.of_non (fun b => by simp [z0]) h⟩
end
section
variable {X : Cx} {C : FC} {p p2 p3 : Bool} {pos apos cpos : Pos} {e eo ea eb ec : Expr} {es : List Expr} {o : OD} {a : AD} {name : Str} {id : String} {r : V → List V → Hp → VK → Prop} {f : MD}
def dMt (p2 : Bool) (f : MD) (o : OD) (a : AD) : ED := fun ds Q => o ds fun x ds1 => nvs p2 x ∧ (∃ l, x.get ds1 = some (.lst l)) ∧ a ds1 fun xs ds2 => ∃ i pth d0 l as, x.plc = some (i, pth) ∧ ds2[i]? = some (some d0) ∧ pget d0 pth = some (.lst l) ∧ takes ds2 xs = some as ∧
  f l as fun l' d' => Q d' (ds2.set i (some (pset d0 pth (.lst l'))))
theorem novw_app : ∀ {t0 ts : Tms}, novw (t0 ++ ts) → novw ts
  | [], _, h => h
  | (_, .own _) :: t0, _, h => novw_app (t0 := t0) h
  | (_, .nm _) :: t0, _, h => novw_app (t0 := t0) h
  | (_, .vw _) :: _, _, h => h.elim
  | (_, .pl _ _) :: _, _, h => h.elim
theorem tms_at {K : PySem.W.Frag} {B H : Hp} {σ : L2.St} {v : V} {x : Tm} {i : Nat} {pth : List Nat} (e : x.plc = some (i, pth)) : ∀ {t0 ts : Tms} {F : Fp}, TmR K B H σ (t0 ++ (v, x) :: ts) F → ∃ v0, σ[i]? = some (some v0) ∧ VP H v0 pth v
  | [], ts, F, h => by
    cases x with
    | own d => cases e
    | vw d => cases e
    | nm j => cases e; exact ⟨v, h.1, rfl⟩
    | pl j q => cases e; exact h.1
  | (_, .own _) :: t0, ts, F, h => by obtain ⟨_, _, _, h, _⟩ := h; exact tms_at e (t0 := t0) h
  | (_, .nm _) :: t0, ts, F, h => tms_at e (t0 := t0) h.2
  | (_, .vw _) :: t0, ts, F, h => tms_at e (t0 := t0) h.2
  | (_, .pl _ _) :: t0, ts, F, h => tms_at e (t0 := t0) h.2
theorem TmR.part {K : PySem.W.Frag} {B H : Hp} {σ : L2.St} : ∀ {t0 ts : Tms} {F : Fp}, TmR K B H σ (t0 ++ ts) F → ∃ F', (∀ b, F' b ≤ F b) ∧ TmR K B H σ ts F'
  | [], ts, F, h => ⟨F, fun _ => Nat.le_refl _, h⟩
  | (_, .own _) :: t0, ts, F, h => by
    obtain ⟨G1, G2, _, h, rfl⟩ := h
    obtain ⟨F', le, q⟩ := TmR.part (t0 := t0) h
    exact ⟨F', fun b => by have := le b; show F' b ≤ G1 b + G2 b; omega, q⟩
  | (_, .nm _) :: t0, ts, F, h => TmR.part (t0 := t0) h.2
  | (_, .vw _) :: t0, ts, F, h => TmR.part (t0 := t0) h.2
  | (_, .pl _ _) :: t0, ts, F, h => TmR.part (t0 := t0) h.2
/-- what arguments hold, apart from the rest -/
theorem TmR.args {K : PySem.W.Frag} {B H : Hp} {σ : L2.St} {ds : DS} {F1 : Fp} (hs : SlR K B H ds σ F1) : ∀ {tms : List Tm} {vs : List V} {l : List D} {ts : Tms} {F : Fp}, TmR K B H σ ((vs.zip tms).reverse ++ ts) F → vs.length = tms.length → takes ds tms = some l →
    ∃ G F', DRs K B H l vs G ∧ TmR K B H σ ts F' ∧ ∀ b, G b + F' b ≤ F b
  | [], [], l, ts, F, r, _, e => by cases e; exact ⟨z0, F, ⟨rfl, rfl⟩, r, fun b => by simp [z0]⟩
  | [], _ :: _, _, _, _, _, h, _ => by simp at h
  | _ :: _, [], _, _, _, _, h, _ => by simp at h
  | x :: xs, v :: vs, l, ts, F, r, h, e => by
    simp only [takes] at e
    split at e
    · rename_i d l' e1 e2
      cases e
      rw [List.zip_cons_cons, List.reverse_cons, List.append_assoc] at r
      obtain ⟨G, F', g, r1, le⟩ := TmR.args hs (ts := (v, x) :: ts) r (by simpa using h) e2
      cases x with
      | own d' =>
        cases e1
        obtain ⟨G1, G2, g1, g2, rfl⟩ := r1
        exact ⟨fun b => G1 b + G b, G2, ⟨v, vs, G1, G, rfl, g1, g, rfl⟩, g2, fun b => by have := le b; show G1 b + G b + G2 b ≤ F b; have : G b + (G1 b + G2 b) ≤ F b := this; omega⟩
      | nm i =>
        have e : ds[i]? = some (some d) ∧ cp d = true := by
          simp only [Tm.take] at e1
          cases q : ds[i]? with
          | none => rw [q] at e1; simp at e1
          | some o =>
            rw [q] at e1
            cases o with
            | none => simp at e1
            | some d' => simp at e1; exact ⟨by rw [e1.2], e1.2 ▸ e1.1⟩
        obtain ⟨w, A1, A2, a, b, _⟩ := hs.at e.1
        rw [r1.1] at a; cases a
        exact ⟨fun b => z0 b + G b, F', ⟨v, vs, z0, G, rfl, VB.held d v e.2 (DR.view _ _ _ b), g, rfl⟩, r1.2, fun b => by have := le b; show z0 b + G b + F' b ≤ F b; simp only [z0]; omega⟩
      | vw d' =>
        have e : d' = d ∧ cp d' = true := by
          simp only [Tm.take] at e1
          split at e1
          · rename_i c; cases e1; exact ⟨rfl, c⟩
          · cases e1
        obtain ⟨rfl, c⟩ := e
        exact ⟨fun b => z0 b + G b, F', ⟨v, vs, z0, G, rfl, VB.held d' v c r1.1, g, rfl⟩, r1.2, fun b => by have := le b; show z0 b + G b + F' b ≤ F b; simp only [z0]; omega⟩
      | pl i q => cases e1
    · cases e
theorem VP.fn {H : Hp} : ∀ {p : List Nat} {v w w' : V}, VP H v p w → VP H v p w' → w = w'
  | [], _, _, _, h, h' => by rw [show _ = _ from h, show _ = _ from h']
  | j :: p, v, w, w', ⟨a, vs, u, e, h, g, r⟩, ⟨a', vs', u', e', h', g', r'⟩ => by
    rw [e] at e'; cases e'
    have : vs = vs' := by
      rcases h with h | h <;> rcases h' with h' | h' <;> rw [h] at h' <;> cases h' <;> rfl
    subst this
    rw [g] at g'; cases g'
    exact VP.fn r r'
mutual
theorem DR.fn {K : PySem.W.Frag} {B H : Hp} : ∀ (d : D) (v : V) (F F' : Fp), DR K B H d v F → DR K B H d v F' → F = F'
  | .t _, _, _, _, h, h' => h.2.trans h'.2.symm
  | .frz _, _, _, _, h, h' => h.2.trans h'.2.symm
  | .scr _, _, _, _, h, h' => h.2.trans h'.2.symm
  | .lst xs, v, F, F', h, h' => by
    obtain ⟨a, vs, G, e, s, r, rfl⟩ := h
    obtain ⟨a', vs', G', e', s', r', rfl⟩ := h'
    rw [e] at e'; cases e'
    rw [s] at s'; cases s'
    rw [DRs.fn xs vs G G' r r']
  | .tupM xs, v, F, F', h, h' => by
    obtain ⟨a, vs, e, s, r⟩ := h
    obtain ⟨a', vs', e', s', r'⟩ := h'
    rw [e] at e'; cases e'
    rw [s] at s'; cases s'
    exact DRs.fn xs vs F F' r r'
theorem DRs.fn {K : PySem.W.Frag} {B H : Hp} : ∀ (d : List D) (v : List V) (F F' : Fp), DRs K B H d v F → DRs K B H d v F' → F = F'
  | [], _, _, _, h, h' => h.2.trans h'.2.symm
  | x :: xs, vs, F, F', h, h' => by
    obtain ⟨v, r, F1, F2, e, h1, h2, rfl⟩ := h
    obtain ⟨v', r', F1', F2', e', h1', h2', rfl⟩ := h'
    rw [e] at e'; cases e'
    rw [DR.fn x v F1 F1' h1 h1', DRs.fn xs r F2 F2' h2 h2']
end
theorem TmR.fn {K : PySem.W.Frag} {B H : Hp} {σ : L2.St} : ∀ {ts : Tms} {F F' : Fp}, TmR K B H σ ts F → TmR K B H σ ts F' → F = F'
  | [], _, _, h, h' => (show _ = _ from h).trans (show _ = _ from h').symm
  | (v, .own d) :: ts, _, _, h, h' => by
    obtain ⟨F1, F2, h1, h2, rfl⟩ := h
    obtain ⟨F1', F2', h1', h2', rfl⟩ := h'
    rw [DR.fn _ _ _ _ h1 h1', h2.fn h2']
  | (_, .nm _) :: _, _, _, h, h' => TmR.fn h.2 h'.2
  | (_, .vw _) :: _, _, _, h, h' => TmR.fn h.2 h'.2
  | (_, .pl _ _) :: _, _, _, h, h' => TmR.fn h.2 h'.2
theorem mt_run {K : PySem.W.Frag} (hf : MOk K f r) {o : OD} {a : AD} {σ : L2.St} {H : Hp} {Q : VK} (h : LE K C false (dMt p2 f o a) σ H Q) : tBM K "list" r (LO K C false o) (LA K C p2 a) σ H Q := by
  obtain ⟨B, ds, ts, P, rs, nv, t, q⟩ := h
  refine ⟨B, ds, ts, _, rs, nv, t, fun x ds1 ⟨n1, ⟨l0, el⟩, ht⟩ v1 H1 B1 kb1 r1 => ?_⟩
  obtain ⟨a1, vs1, ev1, s1, _⟩ := r1.see0 el
  refine ⟨by rw [ev1]; exact .inl ⟨rfl, vs1, SqL.of s1⟩, ?_⟩
  refine ⟨B1, ds1, _, _, r1, nv_cons n1 (fun _ => nv rfl), ht, fun xs ds2 ⟨i, pth, d0, l, as, e0, e1, e2, e3, hm⟩ vs2 H2 B2 kb2 hl r2 => ?_⟩
  have tsnv : novw ts := nv rfl
  obtain ⟨F1, F2, h1, h2, h3, h4⟩ := id r2.ex
  obtain ⟨v0, s0, w0⟩ := tms_at e0 h2
  obtain ⟨v0', a2, vs0, s0', w0', sa, vw0, put⟩ := r2.upd e1 e2
  rw [s0] at s0'; cases s0'
  have := w0.fn w0'
  subst this
  obtain ⟨Fa, F', ga, gt, le⟩ := h2.args h1 hl e3
  obtain ⟨_, D1, D2, ev, hd, rfl, _, _⟩ := h1.at e1
  rw [s0] at ev; cases ev
  obtain ⟨a3, vs3, G, R, vp3, s3, rx, rfl, _⟩ := DR.at hd e2
  have e4 := w0.fn vp3
  cases e4
  rw [sa] at s3; cases s3
  refine hf B2 H2 a2 vs0 l vs2 as G Fa _ Q sa rx ga hm fun xs' vs' d' v' Gx Gd gx gd le2 z => ?_
  refine q _ _ z v' _ B2 (kb1.trans kb2) (put xs' vs' ((v', .own d') :: ts) tsnv fun G0 F0 g0 f0 => ?_)
  rw [DRs.fn _ _ _ _ g0 rx, f0.fn h2]
  obtain ⟨F'', le3, gt'⟩ := TmR.part (t0 := [(Value.none, x)].map fun _ => (V.ref a2, x)) gt
  exact ⟨Gx, _, gx, ⟨Gd, F'', gd, gt', rfl⟩, fun b => by have := le b; have := le2 b; have := le3 b; show Gx b + (Gd b + F'' b) ≤ G b + F2 b; omega⟩
theorem e_mt (pa : PlainAttrs "list") (slot : Slot "list" name id) (hty : typeOf (.builtin id) = pure (.type "method_descriptor")) (hm : MtR X id r) (hf : MOk X.K f r) (ho : PE X eo (LO X.K C false o)) (ha : PA X (e :: es) (LA X.K C p2 a))
    (hbase : attributeBase eo name X.env (eval eo X.env) = eval eo X.env := by rfl)
    (hfew : ((backTo cpos (starEach (e :: es) X.env)).all (fun x => !x.1) && (backToKw cpos (keywordEach [] X.env)).all (fun x => x.1.isSome)
      && decide ((e :: es).length + ([] : List Keyword).length + (if ([] : List Keyword).isEmpty then 0 else 1) < 30)) = true := by rfl)
    (hline : (apos.endLine == cpos.line) = true := by rfl) (hs : starEach (e :: es) X.env = (false, eval e X.env) :: starEach es X.env := by rfl) (hplain : (backTo cpos (starEach es X.env)).any (·.1) = false := by rfl) :
    PE X (.Call (.Attribute eo name apos) (e :: es) [] cpos) (LE X.K C false (dMt p2 f o a)) :=
  (pe_bm pa slot hty hm ho ha hbase hfew hline hs hplain).imp fun _ _ _ h => mt_run hf h
theorem e_mt0 (pa : PlainAttrs "list") (slot : Slot "list" name id) (hty : typeOf (.builtin id) = pure (.type "method_descriptor")) (hm : MtR X id r) (hf : MOk X.K f r) (ho : PE X eo (LO X.K C false o))
    (hbase : attributeBase eo name X.env (eval eo X.env) = eval eo X.env := by rfl) (hline : (apos.endLine == cpos.line) = true := by rfl) :
    PE X (.Call (.Attribute eo name apos) [] [] cpos) (LE X.K C false (dMt true f o aNil)) :=
  (pe_bm0 pa slot hty hm ho hbase hline).imp fun σ H Q h => by
    obtain ⟨B, ds, ts, P, r, nv, t, q⟩ := mt_run (p2 := true) (a := aNil) hf h
    refine ⟨B, ds, ts, P, r, nv, t, fun x ds' hx v H1 B1 kb1 r1 => ?_⟩
    obtain ⟨ty, B2, ds2, ts2, P2, r2, _, t2, q2⟩ := q x ds' hx v H1 B1 kb1 r1
    exact ⟨ty, q2 _ _ t2 [] H1 B2 (Same.refl _) rfl r2⟩
end
end Dn

set_option Elab.async false
set_option linter.all false
set_option maxRecDepth 100000
/-! Dn8: statements. -/
namespace Dn
open PySem PySem.Spec PyProof.Rows L2
/-- no name waits -/
def nonm : Tms → Prop
  | [] => True
  | (_, .own _) :: ts => nonm ts
  | _ => False
section
variable {K : PySem.W.Frag} {C : FC} {B H : Hp} {σ : L2.St} {ds : DS} {ts : Tms} {v : V} {d : D}
theorem TmR.other {σ' : L2.St} : ∀ {ts : Tms} {F : Fp}, nonm ts → TmR K B H σ ts F → TmR K B H σ' ts F
  | [], _, _, h => h
  | (_, .own _) :: _, _, n, ⟨F1, F2, h1, h2, e⟩ => ⟨F1, F2, h1, TmR.other n h2, e⟩
  | (_, .nm _) :: _, _, n, _ => n.elim
  | (_, .vw _) :: _, _, n, _ => n.elim
  | (_, .pl _ _) :: _, _, n, _ => n.elim
theorem nonm_vw : ∀ {ts : Tms}, nonm ts → novw ts
  | [], _ => trivial
  | (_, .own _) :: ts, n => nonm_vw (ts := ts) n
  | (_, .nm _) :: _, n => n.elim
  | (_, .vw _) :: _, n => n.elim
  | (_, .pl _ _) :: _, n => n.elim
theorem RS.put {i : Nat} (r : RS K C B σ H ds ((v, .own d) :: ts)) (nn : nonm ts) (hp : i ∉ C.mx) : RS K C B (σ.set i (some v)) H (ds.set i (some d)) ts := by
  obtain ⟨F1, F2, h1, h2, h3, h4⟩ := r.ex
  obtain ⟨G1, G2, g1, g2, rfl⟩ := h2
  have pin : ∀ p ∈ C.mx.zip C.pv, (σ.set i (some v))[p.1]? = some (some p.2) := fun p hp' => by
    have hne : i ≠ p.1 := fun e => hp (by rw [e]; exact (List.of_mem_zip hp').1)
    rw [List.getElem?_set_ne hne]
    exact r.pin p hp'
  by_cases hi : i < ds.length
  · obtain ⟨F', le, q⟩ := h1.put hi g1
    refine ⟨⟨_, G2, q, g2.other nn, fun b => ?_, fun b hb => h4 b ?_⟩, r.bh, r.b0, pin, r.tb⟩
    · have := le b; have : F1 b + (G1 b + G2 b) ≤ 1 := h3 b; show G1 b + F' b + G2 b ≤ 1; omega
    · have := le b; have hb : 0 < G1 b + F' b + G2 b := hb; show 0 < F1 b + (G1 b + G2 b); omega
  · have e1 : ds.set i (some d) = ds := List.set_eq_of_length_le (by omega)
    have e2 : σ.set i (some v) = σ := List.set_eq_of_length_le (by rw [← h1.length]; omega)
    rw [e1, e2]
    exact r.drop
end

/-! ### targets -/
abbrev GD := D → DS → (DS → Prop) → Prop
abbrev GsD := List D → DS → (DS → Prop) → Prop
/-- ws: the slots that may change -/
def Out (ws : List Nat) (σ σ' : L2.St) : Prop := σ'.length = σ.length ∧ ∀ j, j ∉ ws → σ'[j]? = σ[j]?
def LG (K : PySem.W.Frag) (C : FC) (ws : List Nat) (t : GD) : TG := fun v σ H Q => ∃ B ds ts d P, RS K C B σ H ds ((v, .own d) :: ts) ∧ nonm ts ∧ t d ds P ∧ ∀ ds', P ds' → ∀ σ' H' B', Same B B' → Out ws σ σ' → RS K C B' σ' H' ds' ts → Q σ' H'
def owns : List V → List D → Tms
  | v :: vs, d :: ds => (v, .own d) :: owns vs ds
  | _, _ => []
def LGs (K : PySem.W.Frag) (C : FC) (ws : List Nat) (t : GsD) : TGs := fun vs σ H Q => ∃ B ds ts l P, vs.length = l.length ∧ RS K C B σ H ds (owns vs l ++ ts) ∧ nonm ts ∧ t l ds P ∧ ∀ ds', P ds' → ∀ σ' H' B', Same B B' → Out ws σ σ' → RS K C B' σ' H' ds' ts → Q σ' H'
def gN (i : Nat) : GD := fun d ds Q => Q (ds.set i (some d))
def gT (n : Nat) (t : GsD) : GD := fun d ds Q => ∃ xs, tits d = some xs ∧ xs.length = n ∧ t xs ds Q
def gsN : GsD := fun l ds Q => l = [] ∧ Q ds
def gsC (t : GD) (u : GsD) : GsD := fun l ds Q => ∃ d r, l = d :: r ∧ t d ds fun ds' => u r ds' Q
section
variable {X : Cx} {C : FC} {p p2 p3 : Bool} {pos : Pos} {e eo ea eb ec tg : Expr} {es : List Expr}
theorem PG.imp {t t' : TG} (h : PG X tg t) (f : ∀ v σ H Q, t' v σ H Q → t v σ H Q) : PG X tg t' := ⟨fun pins s σ H x v Q I r q => h.run pins s σ H x v Q I r (f _ _ _ _ q)⟩
theorem PGs.imp {t t' : TGs} (h : PGs X es t) (f : ∀ v σ H Q, t' v σ H Q → t v σ H Q) : PGs X es t' := ⟨fun pins s σ H x v Q I r q => h.run pins s σ H x v Q I r (f _ _ _ _ q)⟩
theorem g_n {i : Nat} (h : PG X tg (gName i)) (hp : i ∉ C.mx) : PG X tg (LG X.K C [i] (gN i)) :=
  PG.imp h fun v σ H Q ⟨B, ds, ts, d, P, r, nn, t, q⟩ => q _ t _ H B (Same.refl _) ⟨List.length_set, fun j hj => List.getElem?_set_ne (fun e => hj (by rw [e]; exact List.mem_singleton_self _))⟩ (r.put nn hp)
theorem nonm_owns : ∀ {vs : List V} {l : List D} {ts : Tms}, nonm ts → nonm (owns vs l ++ ts)
  | [], _, _, n => n
  | _ :: _, [], _, n => n
  | _ :: vs, _ :: l, _, n => nonm_owns (vs := vs) (l := l) n
theorem gs_n : PGs X [] (LGs X.K C [] gsN) :=
  PGs.imp pgs_nil fun v σ H Q ⟨B, ds, ts, l, P, hl, r, nn, ⟨e, t⟩, q⟩ => by
    subst e
    have e : v = [] := List.eq_nil_of_length_eq_zero hl
    subst e
    exact ⟨rfl, q _ t σ H B (Same.refl _) ⟨rfl, fun _ _ => rfl⟩ r⟩
theorem gs_c {t : GD} {u : GsD} {ws us : List Nat} (h1 : PG X e (LG X.K C ws t)) (h2 : PGs X es (LGs X.K C us u)) (hs : PGs X (e :: es) (gCons (LG X.K C ws t) (LGs X.K C us u)) := by exact pgs_cons (by assumption) (by assumption)) : PGs X (e :: es) (LGs X.K C (ws ++ us) (gsC t u)) :=
  PGs.imp hs fun vs σ H Q ⟨B, ds, ts, l, P, hl, r, nn, ⟨d, rest, e, t⟩, q⟩ => by
    subst e
    cases vs with
    | nil => simp at hl
    | cons v vs =>
      refine ⟨v, vs, rfl, B, ds, owns vs rest ++ ts, d, _, r, nonm_owns nn, t, fun ds1 z σ1 H1 B1 kb1 o1 r1 => ?_⟩
      exact ⟨B1, ds1, ts, rest, P, by simpa using hl, r1, nn, z, fun ds2 z2 σ2 H2 B2 kb2 o2 r2 => q _ z2 σ2 H2 B2 (kb1.trans kb2) ⟨o2.1.trans o1.1, fun j hj => (o2.2 j fun m => hj (List.mem_append_right _ m)).trans (o1.2 j fun m => hj (List.mem_append_left _ m))⟩ r2⟩
theorem DRs.owns {K : PySem.W.Frag} {B H : Hp} {σ : L2.St} : ∀ {l : List D} {vs : List V} {F : Fp} {ts : Tms} {F2 : Fp}, DRs K B H l vs F → TmR K B H σ ts F2 → TmR K B H σ (Dn.owns vs l ++ ts) (fun b => F b + F2 b)
  | [], vs, F, ts, F2, h, h2 => by
    obtain ⟨rfl, rfl⟩ := h
    have e : (fun b => z0 b + F2 b) = F2 := by funext b; simp [z0]
    rw [e]; exact h2
  | x :: xs, vs, F, ts, F2, h, h2 => by
    obtain ⟨v, r, A1, A2, rfl, h1, h3, rfl⟩ := h
    exact ⟨A1, _, h1, DRs.owns h3 h2, by funext b; show A1 b + A2 b + F2 b = A1 b + (A2 b + F2 b); omega⟩
theorem RS.open {K : PySem.W.Frag} {B H : Hp} {σ : L2.St} {ds : DS} {ts : Tms} {v : V} {d : D} {xs : List D} (r : RS K C B σ H ds ((v, .own d) :: ts)) (h : tits d = some xs) : ∃ a vs, v = .ref a ∧ H a = some (.tup vs) ∧ vs.length = xs.length ∧ RS K C B σ H ds (owns vs xs ++ ts) := by
  obtain ⟨F1, F2, h1, h2, h3, h4⟩ := r.ex
  obtain ⟨G1, G2, g1, g2, rfl⟩ := h2
  have key : ∃ a vs, v = .ref a ∧ H a = some (.tup vs) ∧ DRs K B H xs vs G1 := by
    cases d with
    | t x =>
      cases x with
      | tup ys =>
        cases h
        obtain ⟨⟨a, vs, e, s, w⟩, rfl⟩ := g1
        exact ⟨a, vs, e, s, VBs.held _ _ (cps_t ys) (VBs_t.mpr w)⟩
      | _ => cases h
    | tupM ys => cases h; exact g1
    | lst ys => cases h
    | frz ys => cases h
    | scr ys => cases h
  obtain ⟨a, vs, e, s, w⟩ := key
  exact ⟨a, vs, e, s, w.length.symm, ⟨F1, _, h1, DRs.owns w g2, h3, h4⟩, r.bh, r.b0, r.pin, r.tb⟩
theorem g_t {t : GsD} {n k : Nat} {tpos : Pos} {ws : List Nat} (h : PGs X es (LGs X.K C ws t)) (hg : PG X (.Tuple es k tpos) (gTup X.K n (LGs X.K C ws t))) : PG X (.Tuple es k tpos) (LG X.K C ws (gT n t)) :=
  PG.imp hg fun v σ H Q ⟨B, ds, ts, d, P, r, nn, ⟨xs, e, hn, t⟩, q⟩ => by
    obtain ⟨a, vs, rfl, s, hl, r1⟩ := r.open e
    exact ⟨a, vs, rfl, SqT.of s, by omega, B, ds, ts, xs, P, hl, r1, nn, t, q⟩

/-! ### statements -/
def sNil : SD := fun E ds => E.nx ds
def sSeq (a b : SD) : SD := fun E ds => a { E with nx := fun ds' => b E ds' } ds
def sDrop (e : ED) : SD := fun E ds => e ds fun _ ds' => E.nx ds'
def sRet (e : ED) : SD := fun E ds => e ds E.rt
def sRetN : SD := fun E ds => E.rt (.t .non) ds
def sBrk : SD := fun E ds => E.bk ds
def sCnt : SD := fun E ds => E.ct ds
def sIf (q : QD) (a b : SD) : SD := fun E ds => q ds fun c ds' => if c = true then a E ds' else b E ds'
def sAsg (e : ED) (g : GD) : SD := fun E ds => e ds fun d ds' => g d ds' E.nx
variable {st : Stmt} {rest sa sb : List Stmt} {a b : SD} {te : ED} {q : QD}
theorem s_nil : PSs X [] (LS X.K C sNil) := PSs.imp pss_nil fun D σ H ⟨B, ds, E, r, t, h1, h2, h3, h4⟩ => h1 _ t σ H B (Same.refl _) r
theorem s_cons (h1 : PS X st (LS X.K C a)) (h2 : PSs X rest (LS X.K C b)) : PSs X (st :: rest) (LS X.K C (sSeq a b)) :=
  PSs.imp (pss_cons h1 h2) fun D σ H ⟨B, ds, E, r, t, h1, h2, h3, h4⟩ =>
    ⟨B, ds, { E with nx := fun ds' => b E ds' }, r, t, fun ds1 z σ1 H1 B1 kb r1 => ⟨B1, ds1, E, r1, z, fun d z s h b k r => h1 d z s h b (kb.trans k) r, fun d d' z v s h b k r => h2 d d' z v s h b (kb.trans k) r, fun d z s h b k r => h3 d z s h b (kb.trans k) r, fun d z s h b k r => h4 d z s h b (kb.trans k) r⟩, h2, h3, h4⟩
theorem s_one (h1 : PS X st (LS X.K C a)) : PSs X [st] (LS X.K C a) := pss_one h1
theorem s_expr (he : PE X e (LE X.K C p te)) (hs : swapsWith e none pos.line X.env = pure false := by rfl) : PS X (.Expr e pos) (LS X.K C (sDrop te)) :=
  PS.imp (ps_expr he hs) fun D σ H ⟨B, ds, E, r, t, h1, _, _, _⟩ => ⟨B, ds, [], _, r, fun _ => trivial, t, fun d ds' z v H' B' kb r' => h1 _ z σ H' B' kb r'.drop⟩
theorem s_ret (he : PE X e (LE X.K C p te)) : PS X (.Return (some e) pos) (LS X.K C (sRet te)) :=
  PS.imp (ps_ret he) fun D σ H ⟨B, ds, E, r, t, _, h2, _, _⟩ => ⟨B, ds, [], _, r, fun _ => trivial, t, fun d ds' z v H' B' kb r' => h2 _ _ z v σ H' B' kb r'⟩
theorem s_retN : PS X (.Return none pos) (LS X.K C sRetN) :=
  PS.imp ps_retN fun D σ H ⟨B, ds, E, r, t, _, h2, _, _⟩ => h2 _ _ t .non σ H B (Same.refl _) (r.push (Same.refl _) (Fresh.t (x := .non) rfl))
theorem s_pass : PS X (.Pass pos) (LS X.K C sNil) := PS.imp ps_pass fun D σ H ⟨B, ds, E, r, t, h1, _, _, _⟩ => h1 _ t σ H B (Same.refl _) r
theorem s_brk : PS X (.Break pos) (LS X.K C sBrk) := PS.imp ps_break fun D σ H ⟨B, ds, E, r, t, _, _, h3, _⟩ => h3 _ t σ H B (Same.refl _) r
theorem s_cnt : PS X (.Continue pos) (LS X.K C sCnt) := PS.imp ps_continue fun D σ H ⟨B, ds, E, r, t, _, _, _, h4⟩ => h4 _ t σ H B (Same.refl _) r
theorem s_if (hc : PT X ec (LT X.K C p q)) (ha : PSs X sa (LS X.K C a)) (hb : PSs X sb (LS X.K C b)) : PS X (.If ec sa sb pos) (LS X.K C (sIf q a b)) :=
  PS.imp (ps_if hc ha hb) fun D σ H ⟨B, ds, E, r, t, h1, h2, h3, h4⟩ => by
    refine ⟨B, ds, [], _, r, fun _ => trivial, t, fun c ds1 z H1 B1 kb r1 => ?_⟩
    cases c with
    | true =>
      rw [if_pos rfl] at z ⊢
      exact ⟨B1, ds1, E, r1, z, fun d z s h b k r => h1 d z s h b (kb.trans k) r, fun d d' z v s h b k r => h2 d d' z v s h b (kb.trans k) r, fun d z s h b k r => h3 d z s h b (kb.trans k) r, fun d z s h b k r => h4 d z s h b (kb.trans k) r⟩
    | false =>
      rw [if_neg Bool.false_ne_true] at z ⊢
      exact ⟨B1, ds1, E, r1, z, fun d z s h b k r => h1 d z s h b (kb.trans k) r, fun d d' z v s h b k r => h2 d d' z v s h b (kb.trans k) r, fun d z s h b k r => h3 d z s h b (kb.trans k) r, fun d z s h b k r => h4 d z s h b (kb.trans k) r⟩
theorem s_asg {g : GD} {ws : List Nat} (hps : PS X st (tAsg (LE X.K C p te) (LG X.K C ws g))) : PS X st (LS X.K C (sAsg te g)) :=
  PS.imp hps fun D σ H ⟨B, ds, E, r, t, h1, _, _, _⟩ => ⟨B, ds, [], _, r, fun _ => trivial, t, fun d ds' z v H' B' kb r' =>
    ⟨B', ds', [], d, _, r', trivial, z, fun ds2 z2 σ2 H2 B2 kb2 _ r2 => h1 _ z2 σ2 H2 B2 (kb.trans kb2) r2⟩⟩
theorem s_set {i : Nat} {x : Str} {pos' : Pos} (hN : X.N.Nodup) (hi : X.N[i]? = some x) (hx : Loc X.env.scope x) (he : PE X e (LE X.K C p te)) (hp : i ∉ C.mx) (hs : swapsWith e (some (.Name x pos')) pos.line X.env = pure false := by rfl)
    (hf : X.fn x = true ∨ X.env.scope.names.lookup x = some .local := by first | exact .inl rfl | exact .inr rfl) : PS X (.Assign [.Name x pos'] e pos) (LS X.K C (sAsg te (gN i))) :=
  PS.imp (ps_set hN hi hx he hs hf) fun D σ H ⟨B, ds, E, r, t, h1, _, _, _⟩ => ⟨B, ds, [], _, r, fun _ => trivial, t, fun d ds' z v H' B' kb r' => h1 _ z _ H' B' kb (r'.put trivial hp)⟩
/-- two, three names at once -/
def sPar2 (i j : Nat) (a : AD) : SD := fun E ds => a ds fun xs ds' => ∃ d1 d2, takes ds' xs = some [d1, d2] ∧ E.nx ((ds'.set i (some d1)).set j (some d2))
def sPar3 (i j l : Nat) (a : AD) : SD := fun E ds => a ds fun xs ds' => ∃ d1 d2 d3, takes ds' xs = some [d1, d2, d3] ∧ E.nx (((ds'.set i (some d1)).set j (some d2)).set l (some d3))
theorem RS.taken {K : PySem.W.Frag} {B H : Hp} {σ : L2.St} {ds : DS} {tms : List Tm} {vs : List V} {l : List D} {ts : Tms} (r : RS K C B σ H ds ((vs.zip tms).reverse ++ ts)) (hl : vs.length = tms.length) (h : takes ds tms = some l) : vs.length = l.length ∧ RS K C B σ H ds (owns vs l ++ ts) := by
  obtain ⟨F1, F2, h1, h2, h3, h4⟩ := r.ex
  obtain ⟨G, F', g, t, le⟩ := h2.args h1 hl h
  exact ⟨g.length.symm, ⟨F1, _, h1, g.owns t, fun b => by have := le b; have := h3 b; show F1 b + (G b + F' b) ≤ 1; omega, fun b hb => h4 b (by have := le b; have hb : 0 < F1 b + (G b + F' b) := hb; omega)⟩, r.bh, r.b0, r.pin, r.tb⟩
theorem s_par2 {i j : Nat} {a' : AD} (hps : PS X st (tPar i j (LA X.K C p a'))) (hi : i ∉ C.mx) (hj : j ∉ C.mx) : PS X st (LS X.K C (sPar2 i j a')) :=
  PS.imp hps fun D σ H ⟨B, ds, E, r, t, h1, _, _, _⟩ => by
    refine ⟨B, ds, [], _, r, fun _ => trivial, t, fun tms ds' ⟨d1, d2, e, z⟩ vs H' B' kb hl r' => ?_⟩
    obtain ⟨hl2, r2⟩ := r'.taken hl e
    match vs, hl2, r2 with
    | [v1, v2], _, r2 => exact ⟨v1, v2, rfl, h1 _ z _ H' B' kb ((r2.put (nonm_owns (vs := [v2]) (l := [d2]) (ts := []) trivial) hi).put trivial hj)⟩
theorem s_par3 {i j l : Nat} {a' : AD} (hps : PS X st (L2.tPar3 i j l (LA X.K C p a'))) (hi : i ∉ C.mx) (hj : j ∉ C.mx) (hk : l ∉ C.mx) : PS X st (LS X.K C (sPar3 i j l a')) :=
  PS.imp hps fun D σ H ⟨B, ds, E, r, t, h1, _, _, _⟩ => by
    refine ⟨B, ds, [], _, r, fun _ => trivial, t, fun tms ds' ⟨d1, d2, d3, e, z⟩ vs H' B' kb hl r' => ?_⟩
    obtain ⟨hl2, r2⟩ := r'.taken hl e
    match vs, hl2, r2 with
    | [v1, v2, v3], _, r2 => exact ⟨v1, v2, v3, rfl, h1 _ z _ H' B' kb (((r2.put (nonm_owns (vs := [v2, v3]) (l := [d2, d3]) (ts := []) trivial) hi).put (nonm_owns (vs := [v3]) (l := [d3]) (ts := []) trivial) hj).put trivial hk)⟩
end
end Dn

set_option Elab.async false
set_option linter.all false
set_option maxRecDepth 100000
set_option maxHeartbeats 2000000
/-! Dn9: iterables; for. -/
namespace L2
open PySem PySem.Spec PyProof.Rows
/-- the tuple at a, each item in a new pair -/
def IteT (K : PySem.W.Frag) (a : Addr) : It :=
  ⟨fun i H => ∃ (xs : List V) (x : V), SqT K H a xs ∧ xs[i]? = some x, fun i H v H' => ∃ T x, v = .ref T ∧ H T = none ∧ H' = upd H T (.tup [.int (i : Nat), x]) ∧ ∀ xs, SqT K H a xs → xs[i]? = some x, fun i H => ∃ xs : List V, SqT K H a xs ∧ xs.length ≤ i⟩
theorem turn_enumT {P : Program} {w : World} {K : PySem.W.Frag} {elts : List Expr} {kk : Nat} {tpos : Pos} (a e it : Addr) (hea : e ≠ a) (hia : it ≠ a) :
    Turn P w K (.Tuple elts kk tpos) (IteT K a) [e, it] e (fun i h => (∃ old, IsEnum h e it ((i : Nat) : Int) old) ∧ h.IsTupleIter it a i ∧ e ≠ it) where
  mem := by simp
  obj := fun i h st b hb => by
    obtain ⟨⟨old, he⟩, ⟨o, ho, hc, hd⟩, _⟩ := st
    have e' : b = e ∨ b = it := by simpa using hb
    rcases e' with z | z
    · rw [z]; exact ⟨_, he, fun v q => nomatch q⟩
    · rw [z]; exact ⟨o, ho, fun v q => by rw [hd] at q; cases q⟩
  keep := fun i h h' st k => let ⟨⟨old, he⟩, hi, hne⟩ := st; ⟨⟨old, k e (by simp) _ he⟩, hi.at fun o q => k it (by simp) o q, hne⟩
  item := by
    intro X hP hw hK hc i pins s σ H E I hf st hg
    subst hP hw hK
    obtain ⟨⟨old, he⟩, hit, hne⟩ := st
    obtain ⟨xs, x, hq, hx⟩ := hg
    obtain ⟨its, rv, p, hz⟩ := I.tuple hq
    obtain ⟨u, hu, ru⟩ := rv.get hx
    have hel : e < s.heap.objs.size := Heap.lt_size he
    have hil : it < s.heap.objs.size := by obtain ⟨_, q, _⟩ := hit; exact Heap.lt_size q
    have hlt : i < its.toArray.size := by
      have := (List.getElem?_eq_some_iff.mp hu).1
      simpa using this
    refine wpAny_pyNext_enum_itemD (Draws.tuple (A := X.A.in1) (I.ok.hd hc) it a (Ne.symm hia) its.toArray) he ⟨hit, p⟩ hlt hne (by simp [hne, hea]) fun x' h' tk hP ho hs' hT hsz hk => ?_
    have ex : x' = u := by
      have hu' : its.toArray[i]? = some u := by simpa using hu
      rw [hu'] at hP
      exact (Option.some.inj hP).symm
    subst ex
    refine ⟨_, rfl, wpAny_letOwnedTupleGo_enum (s := { s with heap := h', toks := tk + 1 }) ho fun h'' he' sb => ?_⟩
    have hT2 : h''.get? s.heap.objs.size = some { cls := .type "tuple", data := .seq #[.int i tk, x'] } := (sb.2 _ (Nat.ne_of_gt hel)).trans hT
    have new : ObjOk X.prog X.w (upd H s.heap.objs.size (.tup [.int (i : Nat), x])) h'' s.heap.objs.size (.tup [.int (i : Nat), x]) :=
      ⟨by show 2 ≤ sizeLine; decide, [.int i tk, x'], .cons ⟨_, rfl⟩ (.cons ru .nil), ⟨_, hT2, rfl, _, rfl⟩⟩
    have I1 : Inv X pins σ (upd H s.heap.objs.size (.tup [.int (i : Nat), x])) { s with heap := h'', toks := tk + 1 } :=
      I.turnedNew (ch := [e, it]) (fun b ob hb q => (sb.2 b (fun z => hb (by simp [z]))).trans (hk b ob (fun z => hb (by simp [z])) (fun z => hb (by simp [z])) q)) hf (Nat.le_refl _) new
    refine ⟨.ref s.heap.objs.size, _, I1, rfl, ⟨_, x, rfl, I.hok.fresh (Nat.le_refl _), rfl, fun ys hy => by rw [I.tuple_inj hy hq]; exact hx⟩, ⟨⟨x', ?_⟩, hs'.1.at fun o q => (sb.2 it (Ne.symm hne)).trans q, hne⟩, fun b hb => ?_⟩
    · have e1 : ((i + 1 : Nat) : Int) = (i : Int) + 1 := by omega
      rw [e1]; exact he'
    · have hb' : b < s.heap.objs.size := by
        have e' : b = e ∨ b = it := by simpa using hb
        rcases e' with z | z
        · rw [z]; exact hel
        · rw [z]; exact hil
      rw [upd_ne (Nat.ne_of_lt hb')]
      exact (hf b hb).1
  done := by
    intro X hP hw hK hc i pins s σ H E I hf st hg
    subst hP hw hK
    obtain ⟨⟨old, he⟩, hit, hne⟩ := st
    obtain ⟨xs, hq, hx⟩ := hg
    obtain ⟨its, rv, p, hz⟩ := I.tuple hq
    obtain ⟨f0, f1, f2, f3, f4, f5⟩ := hf it (by simp)
    have hl := rv.length
    unfold pyNext
    have hT : s.TypeIs (.ref e) "enumerate" := ⟨_, he, rfl⟩
    refine wpAny_bind (wpAny_attempt (wpAny_callSpecial?_slot (name := Str.ofString "__next__") hT F.slot_enumerate_next
      (wpAny_call_entry F.slot_enumerate_next hT F.entry_enumerate_next ?_ (F.args_enumerate_next_1 _))))
    show wpAny _ _ (field (.ref e) 2 >>= _) _ _ _
    refine wpAny_bind (wpAny_field he rfl (x := .ref it) rfl ?_)
    refine wpAny_bind (wpAny_nextOf_tuple_end (A := X.A.in1) (I.ok.hd hc) hit p (by simp; omega) fun h' x he' hx' => ?_)
    obtain ⟨o, ho, hc'⟩ := hx'
    refine wpAny_bind (wpAny_isInstance (T := "StopIteration") (b := true) ⟨o, ho, hc'⟩ isSubtype_stop ?_)
    exact wpAny_pure ⟨rfl, I.turned (t' := s.toks) (fun b o hb q => he' b o hb q) f0 f1 f3 f4 f5⟩
  self := fun A i s Q E st h => let ⟨⟨_, he⟩, _⟩ := st; wpAny_pyIter_enum he h
/-- enumerate(v) begins -/
theorem meets_enumerate_new1 {v : Value} {o : Obj} {H : Heap → Prop} (B : Begins v o H) :
    Meets (Builtin.«enumerate.__new__» ⟨[.type "enumerate", v], []⟩) (fun _ R s => H s.heap ∧
      R (.ok (.ret (.ref (s.heap.push o).objs.size))) { s with heap := (s.heap.push o).push { cls := .type "enumerate", data := .fields #[.none, .bool false, .ref s.heap.objs.size, rawInt 0, .none, .none] } }) :=
  .of_wp fun prog w A R s h => by
    obtain ⟨hp, g, d, tk, os⟩ := s; obtain ⟨h1, h⟩ := h
    have hsub := sub_enumerate
    have q1 : ∀ {A' : Around} {E : Value → Shared → Prop} {Q : Value → Shared → Prop}, Q (.ref hp.objs.size) ⟨hp.push o, g, d, tk, os⟩ → wpAny (model prog w) A' (pyIter v) Q E ⟨hp, g, d, tk, os⟩ :=
      fun q => B.iter prog w _ _ ⟨hp, g, d, tk, os⟩ _ h1 q
    wp_walk using q1
    refine wpAny_stack_any fun st => wpAny_pure ?_
    split
    · rename_i c _ _ _ _ _
      cases (c == Value.type "enumerate")
      · wp_walk using q1
        exact ⟨_, rfl, h⟩
      · wp_walk using q1
        exact ⟨_, rfl, h⟩
    · wp_walk using q1
      exact ⟨_, rfl, h⟩
theorem call_enumerate_1B {prog : Program} {w : World} {A : Around} {E : Value → Shared → Prop} {s : Shared} {v : Value} {o : Obj} {H : Heap → Prop} {Q : Value → Shared → Prop} (B : Begins v o H) (h1 : H s.heap)
    (h : ∀ h', IsEnum h' (s.heap.objs.size + 1) s.heap.objs.size 0 .none → h'.get? s.heap.objs.size = some o → h'.objs.size = s.heap.objs.size + 2 →
      (∀ b o, s.heap.get? b = some o → h'.get? b = some o) → Q (.ref (s.heap.objs.size + 1)) { s with heap := h' }) :
    wpAny (model prog w) A (call (.type "enumerate") [v]) Q E s := by
  refine callType_new F.called_enumerate (by decide) (F.typeCall_enumerate_1 _) (F.newCall_enumerate_1 _) (fun obj => F.args_object_init_2 obj _) F.entry_enumerate_new
    (meets_enumerate_new1 B) ⟨h1, ?_⟩
  have hz : (s.heap.push o).objs.size = s.heap.objs.size + 1 := Heap.size_push ..
  show _ ∧ _
  rw [hz]
  have he : IsEnum ((s.heap.push o).push { cls := .type "enumerate", data := .fields #[.none, .bool false, .ref s.heap.objs.size, rawInt 0, .none, .none] }) (s.heap.objs.size + 1) s.heap.objs.size 0 .none := by
    have := Heap.get?_push_size (s.heap.push o) (o := { cls := .type "enumerate", data := .fields #[.none, .bool false, .ref s.heap.objs.size, rawInt 0, .none, .none] }) rfl
    rw [hz] at this; exact this
  refine ⟨⟨_, he, rfl⟩, h _ he (Heap.get?_push_of_some _ (Heap.get?_push_size _ B.free)) (by rw [Heap.size_push, hz]) fun b o x => Heap.get?_push_of_some _ (Heap.get?_push_of_some _ x)⟩
/-- enumerate(list or tuple) -/
def iEnumA (K : PySem.W.Frag) (ta : TA) : TI := fun σ H R => ta σ H fun vs H1 => ∃ a xs, vs = [.ref a] ∧ ((SqL K H1 a xs ∧ R (Ite K a) H1) ∨ (SqT K H1 a xs ∧ R (IteT K a) H1))
theorem pi_enumA {X : Cx} {e : Expr} {ta : TA} {p pos tpos : Pos} {elts : List Expr} {kk : Nat} (hg : Gl X "enumerate") (hm : X.mg "enumerate" = none) (ha : PA X [e] ta) (hs : starEach [e] X.env = [(false, eval e X.env)] := by rfl) :
    PI X (.Tuple elts kk tpos) (.Call (.Name "enumerate" p) [e] [] pos) (iEnumA X.K ta) := by
  refine ⟨fun pins s σ H R I h => ?_⟩
  refine Call_ (ld_blt I hg hm boot_enumerate (PyProof.Rows.callWith_type1 (thn (ha.run pos pins s σ H _ I h) fun us s1 ⟨vs, H1, I1, r1, q1⟩ => ?_) hs rfl))
  obtain ⟨a, xs, ex, q1⟩ := q1
  subst ex
  cases r1 with
  | cons r rr =>
    cases rr
    cases r
    have hfp : ∀ b ∈ [s1.heap.objs.size + 1, s1.heap.objs.size], FpOk X pins H1 b := fun b hb => by
      have e' : b = s1.heap.objs.size + 1 ∨ b = s1.heap.objs.size := by simpa using hb
      have hle : s1.heap.objs.size ≤ b := by
        rcases e' with z | z
        · rw [z]; exact Nat.le_add_right _ _
        · rw [z]; exact Nat.le_refl _
      exact I1.fpOk hle (I1.hok.fresh hle)
    rcases q1 with ⟨hq, q⟩ | ⟨hq, q⟩
    · obtain ⟨its, rv, p', hz⟩ := I1.list hq
      refine call_enumerate_list p'.isList fun h' he hit hsz hk => wpAny_pyIter_enum he ?_
      have I2 : Inv X pins σ H1 { s1 with heap := h' } := I1.kept (t' := s1.toks) hk
      exact ⟨s1.heap.objs.size + 1, [s1.heap.objs.size + 1, s1.heap.objs.size], _, _, H1, rfl, I2, turn_enum a (s1.heap.objs.size + 1) s1.heap.objs.size, ⟨⟨.none, he⟩, hit, Nat.succ_ne_self _⟩, hfp, q⟩
    · obtain ⟨its, rv, p', hz⟩ := I1.tuple hq
      have hal : a < s1.heap.objs.size := by obtain ⟨o, ho, _⟩ := id p'; exact Heap.lt_size ho
      refine call_enumerate_1B (begins_tuple a its.toArray) p' fun h' he hit hsz hk => wpAny_pyIter_enum he ?_
      have I2 : Inv X pins σ H1 { s1 with heap := h' } := I1.kept (t' := s1.toks) hk
      exact ⟨s1.heap.objs.size + 1, [s1.heap.objs.size + 1, s1.heap.objs.size], _, _, H1, rfl, I2, turn_enumT a (s1.heap.objs.size + 1) s1.heap.objs.size (Nat.ne_of_gt (Nat.lt_succ_of_lt hal)) (Nat.ne_of_gt hal), ⟨⟨.none, he⟩, ⟨_, hit, rfl, rfl⟩, Nat.succ_ne_self _⟩, hfp, q⟩
/-- a list or a tuple -/
def iSeq (K : PySem.W.Frag) (tl : TE) : TI := fun σ H R => tl σ H fun x H1 => ∃ a xs, x = .ref a ∧ ((SqL K H1 a xs ∧ R (Itl K a) H1) ∨ (SqT K H1 a xs ∧ R (Itt K a) H1))
theorem pi_seq {X : Cx} {tg l : Expr} {tl : TE} (hl : PE X l tl) : PI X tg l (iSeq X.K tl) := by
  refine ⟨fun pins s σ H R I h => ?_⟩
  refine thn (hl.run pins s σ H _ I h) fun v s1 ⟨x, H1, I1, r1, q1⟩ => ?_
  obtain ⟨a, xs, e, q⟩ := q1
  subst e
  cases r1
  have hfp : ∀ b ∈ [s1.heap.objs.size], FpOk X pins H1 b := fun b hb => by
    have e : b = s1.heap.objs.size := by simpa using hb
    subst e
    exact I1.fpOk (Nat.le_refl _) (I1.hok.fresh (Nat.le_refl _))
  rcases q with ⟨hq, q⟩ | ⟨hq, q⟩
  · obtain ⟨its, rv, p, hz⟩ := I1.list hq
    refine wpAny_pyIter_list p.isList ?_
    exact ⟨s1.heap.objs.size, [s1.heap.objs.size], _, _, H1, rfl, I1.kept (t' := s1.toks) fun b o e => Heap.get?_push_of_some _ e, turn_list a _, ⟨_, Heap.get?_push_size _ rfl, rfl, rfl⟩, hfp, q⟩
  · obtain ⟨its, rv, p, hz⟩ := I1.tuple hq
    refine wpAny_pyIter_tuple (show s1.heap.IsTuple a its.toArray from p) ?_
    exact ⟨s1.heap.objs.size, [s1.heap.objs.size], _, _, H1, rfl, I1.kept (t' := s1.toks) fun b o e => Heap.get?_push_of_some _ e, turn_tuple a _, ⟨_, Heap.get?_push_size _ rfl, rfl, rfl⟩, hfp, q⟩
theorem walk_enumT {K : PySem.W.Frag} {a : Addr} {xs : List V} : Walk (IteT K a) xs.length (fun H => SqT K H a xs) (YPair (fun i => some (.int (i : Nat))) (fun i => xs[i]?)) := by
  refine ⟨fun i _ hi q => ⟨xs, xs[i], q, by simp [hi]⟩, fun _ q => ⟨xs, q, Nat.le_refl _⟩, fun i H v H' _ q y => ?_⟩
  obtain ⟨T, x, h1, h2, h3, h4⟩ := y
  exact ⟨T, .int (i : Nat), x, h1, h2, h3, rfl, h4 xs q⟩
theorem walk_zipT {K : PySem.W.Frag} {a b : Addr} {xs ys : List V} {n : Nat} (hn : n = min xs.length ys.length) : Walk (RZ.ItzT K a b) n (fun H => SqT K H a xs ∧ SqT K H b ys) (YPair (fun i => xs[i]?) (fun i => ys[i]?)) := by
  subst hn
  refine ⟨fun i _ hi q => ?_, fun _ q => ⟨xs, ys, q.1, q.2, by omega⟩, fun i H v H' _ q y => ?_⟩
  · have h1 : i < xs.length := by omega
    have h2 : i < ys.length := by omega
    exact ⟨xs, ys, xs[i], ys[i], q.1, q.2, by simp [h1], by simp [h2]⟩
  · obtain ⟨T, x, z, h1, h2, h3, h4, h5⟩ := y
    exact ⟨T, x, z, h1, h2, h3, h4 xs q.1, h5 ys q.2⟩
end L2

set_option Elab.async false
set_option linter.all false
set_option maxRecDepth 100000
/-! Dn10: iterables by their items; for. -/
namespace Dn
open PySem PySem.Spec PyProof.Rows L2
/-- what an iterator gives, whatever happens above B -/
structure IOk (K : PySem.W.Frag) (B : Hp) (J : It) (its : List D) : Prop where
  goes : ∀ i H, i < its.length → Same B H → J.go i H
  stops : ∀ H, Same B H → J.stop its.length H
  yields : ∀ i H x H', i < its.length → Same B H → J.yld i H x H' → ∃ d, its[i]? = some d ∧ Same H H' ∧ ∀ B', Same B B' → Same B' H → VB K B' H' d x ∧ cp d = true
theorem IOk.mono {K : PySem.W.Frag} {B B' : Hp} {J : It} {its : List D} (h : IOk K B J its) (k : Same B B') : IOk K B' J its :=
  ⟨fun i H hi q => h.goes i H hi (k.trans q), fun H q => h.stops H (k.trans q), fun i H x H' hi q y => let ⟨d, e, s, f⟩ := h.yields i H x H' hi (k.trans q) y; ⟨d, e, s, fun B2 k2 k3 => f B2 (k.trans k2) k3⟩⟩
abbrev ID := DS → (List D → DS → Prop) → Prop
def LI (K : PySem.W.Frag) (C : FC) (p : Bool) (t : ID) : TI := fun σ H R => ∃ B ds ts P, RS K C B σ H ds ts ∧ (p = false → novw ts) ∧ t ds P ∧ ∀ its ds', P its ds' → ∀ H' B' J, Same B B' → RS K C B' σ H' ds' ts → IOk K B' J its → R J H'
section
variable {K : PySem.W.Frag} {C : FC} {B H : Hp} {σ : L2.St} {ds : DS} {ts : Tms} {v : V} {d : D}
/-- the last temporary's value is frozen for good -/
theorem RS.freezeT (r : RS K C B σ H ds ((v, .own d) :: ts)) : ∃ B', Same B B' ∧ VB K B' B' d v ∧ VB K B' B' (fz d) v ∧ RS K C B' σ H ds ts := by
  obtain ⟨F1, F2, h1, h2, h3, h4⟩ := r.ex
  obtain ⟨G1, G2, g1, g2, rfl⟩ := h2
  have kb : Same B (firm B H G1) := firm_same r.bh
  have w := DR.freeze (B' := firm B H G1) kb firm_kt d v G1 (fun b xs hb e => firm_lst b xs hb e) g1
  refine ⟨firm B H G1, kb, w, VB.fz d v w, ⟨⟨F1, G2, h1.mono kb (KT.refl H) (fun _ _ _ e => e), g2.mono kb (Same.refl H), fun b => ?_, fun b hb => ?_⟩, firm_le r.bh, r.b0.trans kb, r.pin, r.tb.firm⟩⟩
  · have : F1 b + (G1 b + G2 b) ≤ 1 := h3 b
    omega
  · have h3b : F1 b + (G1 b + G2 b) ≤ 1 := h3 b
    have hg : G1 b = 0 := by omega
    have : ∃ xs, H b = some (.lst xs) := by
      by_cases q : 0 < F1 b
      · exact h1.there b q
      · exact g2.there b (by omega)
    obtain ⟨xs, e'⟩ := this
    rw [firm_none hg e']
    exact h4 b (by show 0 < F1 b + (G1 b + G2 b); omega)
/-- the items of a list or tuple, as they may be copied -/
def items : D → Option (List D)
  | .t (.tup xs) => some (xs.map D.t)
  | .lst xs => some (fzs xs)
  | .frz xs => some (fzs xs)
  | .scr xs => some (fzs xs)
  | .tupM xs => some (fzs xs)
  | _ => none
def isTup : D → Bool
  | .t (.tup _) => true
  | .tupM _ => true
  | _ => false
theorem items_at {its : List D} (h : VB K B B d v) (e : items d = some its) : ∃ a vs, v = .ref a ∧ VBs K B B its vs ∧ cps its = true ∧ (∀ H, Same B H → if isTup d = true then SqT K H a vs else SqL K H a vs) := by
  cases d with
  | t x =>
    cases x with
    | tup xs =>
      cases e
      obtain ⟨a, vs, rfl, s, r⟩ := h
      exact ⟨a, vs, rfl, VBs_t.mpr r, cps_t xs, fun H k => SqT.of (k _ _ s)⟩
    | _ => cases e
  | lst xs =>
    cases e
    obtain ⟨a, vs, rfl, s, r⟩ := h
    exact ⟨a, vs, rfl, VBs.fz _ _ r, cps_fzs xs, fun H k => SqL.of (k _ _ s)⟩
  | frz xs =>
    cases e
    obtain ⟨a, vs, rfl, s, r⟩ := h
    exact ⟨a, vs, rfl, VBs.fz _ _ r, cps_fzs xs, fun H k => SqL.of (k _ _ s)⟩
  | scr xs =>
    cases e
    obtain ⟨a, vs, rfl, s, r⟩ := h
    exact ⟨a, vs, rfl, VBs.fz _ _ r, cps_fzs xs, fun H k => k.seq s⟩
  | tupM xs =>
    cases e
    obtain ⟨a, vs, rfl, s, r⟩ := h
    exact ⟨a, vs, rfl, VBs.fz _ _ r, cps_fzs xs, fun H k => SqT.of (k _ _ s)⟩
theorem cps_get {l : List D} {i : Nat} (h : cps l = true) (e : l[i]? = some d) : cp d = true := by
  rw [cps_eq, List.all_eq_true] at h
  exact h d (List.mem_of_getElem? e)
/-- a walk over what B holds -/
theorem IOk.of {J : It} {its : List D} {vs : List V} {G : Hp → Prop} (w : Walk J vs.length G (YAt vs)) (hG : ∀ H, Same B H → G H) (hv : VBs K B B its vs) (hc : cps its = true) : IOk K B J its := by
  have hl := hv.length
  refine ⟨fun i H hi q => w.goes i H (by omega) (hG H q), fun H q => by rw [hl]; exact w.stops H (hG H q), fun i H x H' hi q y => ?_⟩
  obtain ⟨rfl, hx⟩ := w.yields i H x H' (by omega) (hG H q) y
  have he : its[i]? = some its[i] := List.getElem?_eq_getElem hi
  obtain ⟨u, e, r⟩ := hv.get he
  rw [hx] at e; cases e
  exact ⟨its[i], he, Same.refl _, fun B' k k' => ⟨VB.mono k (k.trans k') _ _ r, cps_get hc he⟩⟩
def pairD (a b : D) : D := mkTup [a, b]
theorem pair_held {B H : Hp} {a b : D} {x y : V} {T : Addr} (ha : VB K B H a x) (hb : VB K B H b y) (ca : cp a = true) (cb : cp b = true) (hT : H T = some (.tup [x, y])) : VB K B H (pairD a b) (.ref T) ∧ cp (pairD a b) = true := by
  have h : DRs K B H [a, b] [x, y] z0 := VBs.held _ _ (by simp [cps, ca, cb]) ⟨x, [y], rfl, ha, y, [], rfl, hb, rfl⟩
  refine ⟨DR.view _ _ _ (mkTup_held h hT), ?_⟩
  unfold pairD mkTup
  split
  · rfl
  · simp [cp, cps, ca, cb]
/-- pairs of what B holds -/
theorem IOk.of2 {J : It} {as bs its : List D} {xs ys : Nat → Option V} {n : Nat} {G : Hp → Prop} (w : Walk J n G (YPair xs ys)) (hG : ∀ H, Same B H → G H) (hn : its.length = n)
    (hi : ∀ i, i < n → ∀ x y, xs i = some x → ys i = some y → ∃ a b, its[i]? = some (pairD a b) ∧ VB K B B a x ∧ VB K B B b y ∧ cp a = true ∧ cp b = true) : IOk K B J its := by
  refine ⟨fun i H hi' q => w.goes i H (by omega) (hG H q), fun H q => by rw [hn]; exact w.stops H (hG H q), fun i H x H' hi' q y => ?_⟩
  obtain ⟨T, u, u', rfl, hT, rfl, e1, e2⟩ := w.yields i H x H' (by omega) (hG H q) y
  obtain ⟨a, b, e, va, vb, ca, cb⟩ := hi i (by omega) u u' e1 e2
  have k0 := same_new (o := .tup [u, u']) hT
  exact ⟨_, e, k0, fun B' k k' => pair_held (VB.mono k (k.trans (k'.trans k0)) _ _ va) (VB.mono k (k.trans (k'.trans k0)) _ _ vb) ca cb upd_same⟩
end
section
variable {X : Cx} {C : FC} {p p2 p3 : Bool} {pos : Pos} {e eo ea eb ec tg : Expr} {es : List Expr}
/-- for .. in e -/
def iV (t : ED) : ID := fun ds Q => t ds fun d ds' => ∃ its, items d = some its ∧ Q its ds'
theorem i_v {t : ED} (h : PE X e (LE X.K C p t)) : PI X tg e (LI X.K C p (iV t)) :=
  (pi_seq h).imp fun σ H R ⟨B, ds, ts, P, r, nv, t, q⟩ => by
    refine ⟨B, ds, ts, _, r, nv, t, fun d ds1 ⟨its, ei, z⟩ v1 H1 B1 kb1 r1 => ?_⟩
    obtain ⟨B2, kb2, w, _, r2⟩ := r1.freezeT
    obtain ⟨a, vs, rfl, hv, hc, hs⟩ := items_at w ei
    refine ⟨a, vs, rfl, ?_⟩
    by_cases hd : isTup d = true
    · simp only [hd, if_true] at hs
      exact .inr ⟨hs H1 r2.bh, q _ _ z H1 B2 _ (kb1.trans kb2) r2 (IOk.of walk_tup hs hv hc)⟩
    · simp only [hd, if_false, Bool.false_eq_true] at hs
      exact .inl ⟨hs H1 r2.bh, q _ _ z H1 B2 _ (kb1.trans kb2) r2 (IOk.of walk_list hs hv hc)⟩
/-- enumerate(e) -/
def enumD (its : List D) : List D := (List.range its.length).zipWith (fun i d => pairD (.t (.int (i : Nat))) d) its
theorem enumD_length {its : List D} : (enumD its).length = its.length := by simp [enumD]
theorem enumD_get {its : List D} {i : Nat} {d : D} (h : its[i]? = some d) : (enumD its)[i]? = some (pairD (.t (.int (i : Nat))) d) := by
  have hl := (List.getElem?_eq_some_iff.mp h).1
  have e := (List.getElem?_eq_some_iff.mp h).2
  simp [enumD, List.getElem?_zipWith, hl, e]
def iEn (t : ED) : ID := fun ds Q => t ds fun d ds' => ∃ its, items d = some its ∧ Q (enumD its) ds'
theorem i_en {t : ED} {pp tpos : Pos} {elts : List Expr} {kk : Nat} (hg : Gl X "enumerate") (hm : X.mg "enumerate" = none) (h : PE X e (LE X.K C p t)) (hs : starEach [e] X.env = [(false, eval e X.env)] := by rfl) :
    PI X (.Tuple elts kk tpos) (.Call (.Name "enumerate" pp) [e] [] pos) (LI X.K C p (iEn t)) :=
  (pi_enumA hg hm (pa_cons h pa_nil hs) hs).imp fun σ H R ⟨B, ds, ts, P, r, nv, t, q⟩ => by
    refine ⟨B, ds, ts, _, r, nv, t, fun d ds1 ⟨its, ei, z⟩ v1 H1 B1 kb1 r1 => ?_⟩
    obtain ⟨B2, kb2, w, _, r2⟩ := r1.freezeT
    obtain ⟨a, vs, rfl, hv, hc, hs⟩ := items_at w ei
    refine ⟨a, vs, rfl, ?_⟩
    have key : ∀ {J : It} {G : Hp → Prop} (w : Walk J vs.length G (YPair (fun i => some (.int (i : Nat))) (fun i => vs[i]?))), (∀ H, Same B2 H → G H) → IOk X.K B2 J (enumD its) := fun {J G} w hG =>
      IOk.of2 (as := []) (bs := []) w hG (by rw [enumD_length, hv.length]) fun i hi x y ex ey => by
        have hl := hv.length
        have he : its[i]? = some its[i] := List.getElem?_eq_getElem (by omega)
        obtain ⟨u, e1, r'⟩ := hv.get he
        rw [ey] at e1; cases e1
        cases ex
        exact ⟨_, _, enumD_get he, rfl, r', rfl, cps_get hc he⟩
    by_cases hd : isTup d = true
    · simp only [hd, if_true] at hs
      exact .inr ⟨hs H1 r2.bh, q _ _ z H1 B2 _ (kb1.trans kb2) r2 (key walk_enumT hs)⟩
    · simp only [hd, if_false, Bool.false_eq_true] at hs
      exact .inl ⟨hs H1 r2.bh, q _ _ z H1 B2 _ (kb1.trans kb2) r2 (key walk_enum hs)⟩
/-- range -/
def rangeD (lo : Int) (n : Nat) : List D := (List.range n).map fun (i : Nat) => D.t (.int (lo + (i : Int)))
def iR1 (a : AD) : ID := fun ds Q => a ds fun xs ds1 => ∃ j, gets ds1 xs = some [.t (.int j)] ∧ -(2 ^ 62) ≤ j ∧ j < 2 ^ 62 ∧ Q (rangeD 0 j.toNat) ds1
def iR2 (a : AD) : ID := fun ds Q => a ds fun xs ds1 => ∃ i j, gets ds1 xs = some [.t (.int i), .t (.int j)] ∧ (-(2 ^ 62) ≤ i ∧ i < 2 ^ 62 ∧ -(2 ^ 62) ≤ j ∧ j < 2 ^ 62) ∧ Q (rangeD i (j - i).toNat) ds1
theorem IOk.range {K : PySem.W.Frag} {B : Hp} {lo : Int} {n : Nat} : IOk K B (Itr lo n) (rangeD lo n) := by
  have hl : (rangeD lo n).length = n := by simp [rangeD]
  refine ⟨fun i H hi q => walk_range.goes i H (by omega) trivial, fun H q => by rw [hl]; exact walk_range.stops H trivial, fun i H x H' hi q y => ?_⟩
  obtain ⟨rfl, rfl⟩ := walk_range.yields i H x H' (by omega) trivial y
  refine ⟨.t (.int (lo + i)), ?_, Same.refl _, fun B' k k' => ⟨rfl, rfl⟩⟩
  simp [rangeD, show i < n by omega]
variable {a : AD}
theorem i_r1 {pp : Pos} (hg : Gl X "range") (hm : X.mg "range" = none) (ha : PA X [e] (LA X.K C p a)) (hs : starEach [e] X.env = [(false, eval e X.env)] := by rfl) : PI X tg (.Call (.Name "range" pp) [e] [] pos) (LI X.K C p (iR1 a)) :=
  (pi_range1 hg hm ha hs).imp fun σ H R ⟨B, ds, ts, P, r, nv, t, q⟩ => by
    refine ⟨B, ds, ts, _, r, nv, t, fun tms ds1 ⟨j, eg, h1, h2, z⟩ vs H1 B1 kb1 hv r1 => ?_⟩
    obtain ⟨v, rr, rfl, w, wr⟩ := r1.views hv eg
    rw [show rr = [] from wr, show v = .int j from w]
    exact ⟨j, rfl, h1, h2, q _ _ z H1 B1 _ kb1 r1.drops IOk.range⟩
theorem i_r2 {pp : Pos} (hg : Gl X "range") (hm : X.mg "range" = none) (ha : PA X [ea, eb] (LA X.K C p a)) (hs : starEach [ea, eb] X.env = [(false, eval ea X.env), (false, eval eb X.env)] := by rfl) (hs2 : starEach [eb] X.env = [(false, eval eb X.env)] := by rfl) :
    PI X tg (.Call (.Name "range" pp) [ea, eb] [] pos) (LI X.K C p (iR2 a)) :=
  (pi_range2 hg hm ha hs hs2).imp fun σ H R ⟨B, ds, ts, P, r, nv, t, q⟩ => by
    refine ⟨B, ds, ts, _, r, nv, t, fun tms ds1 ⟨i, j, eg, h1, z⟩ vs H1 B1 kb1 hv r1 => ?_⟩
    obtain ⟨v, rr, rfl, w, v', rr', rfl, w', wr⟩ := r1.views hv eg
    rw [show rr' = [] from wr, show v = .int i from w, show v' = .int j from w']
    exact ⟨i, j, rfl, h1, q _ _ z H1 B1 _ kb1 r1.drops IOk.range⟩
/-- zip of two lists or of two tuples -/
def zipD : List D → List D → List D
  | a :: as, b :: bs => pairD a b :: zipD as bs
  | _, _ => []
theorem zipD_length : ∀ {as bs : List D}, (zipD as bs).length = min as.length bs.length
  | [], _ => by simp [zipD]
  | _ :: _, [] => by simp [zipD]
  | a :: as, b :: bs => by simp only [zipD, List.length_cons, zipD_length (as := as) (bs := bs)]; omega
theorem zipD_get : ∀ {as bs : List D} {i : Nat} {a b : D}, as[i]? = some a → bs[i]? = some b → (zipD as bs)[i]? = some (pairD a b)
  | a :: as, b :: bs, 0, _, _, h1, h2 => by simp at h1 h2; subst h1 h2; rfl
  | a :: as, b :: bs, i + 1, _, _, h1, h2 => by simp at h1 h2; simp only [zipD, List.getElem?_cons_succ]; exact zipD_get h1 h2
  | [], _, _, _, _, h1, _ => by simp at h1
  | _ :: _, [], _, _, _, _, h2 => by simp at h2
def iZ (a b : ED) : ID := fun ds Q => a ds fun d1 ds1 => b ds1 fun d2 ds2 => ∃ i1 i2, items d1 = some i1 ∧ items d2 = some i2 ∧ isTup d1 = isTup d2 ∧ Q (zipD i1 i2) ds2
theorem i_z {t u : ED} {pp tpos : Pos} {elts : List Expr} {kk : Nat} (hg : Gl X "zip") (hm : X.mg "zip" = none) (h : PE X ea (LE X.K C p t)) (h2 : PE X eb (LE X.K C p u))
    (hs : starEach [ea, eb] X.env = (false, eval ea X.env) :: starEach [eb] X.env := by rfl) (hs2 : starEach [eb] X.env = [(false, eval eb X.env)] := by rfl) (hpl : (backTo pos (starEach [eb] X.env)).any (·.1) = false := by rfl) :
    PI X (.Tuple elts kk tpos) (.Call (.Name "zip" pp) [ea, eb] [] pos) (LI X.K C p (iZ t u)) :=
  (RZ.pi_zipA hg hm (pa_cons h (pa_cons h2 pa_nil hs2) hs) hs hpl).imp fun σ H R ⟨B, ds, ts, P, r, nv, t, q⟩ => by
    refine ⟨B, ds, ts, _, r, nv, t, fun d1 ds1 t2 v1 H1 B1 kb1 r1 => ?_⟩
    have hn : p = false → novw ((v1, Tm.own d1) :: ts) := nv
    refine ⟨B1, ds1, _, _, r1, hn, t2, fun d2 ds2 ⟨i1, i2, e1, e2, ed, z⟩ v2 H2 B2 kb2 r2 => ?_⟩
    obtain ⟨B3, kb3, w2, _, r3⟩ := r2.freezeT
    obtain ⟨B4, kb4, w1, _, r4⟩ := r3.freezeT
    have w2 := VB.mono kb4 kb4 _ _ w2
    obtain ⟨a, vs, rfl, hv, hc, hs⟩ := items_at w1 e1
    obtain ⟨b, us, rfl, hv2, hc2, hs2⟩ := items_at w2 e2
    refine ⟨a, b, vs, us, rfl, ?_⟩
    have key : ∀ {J : It} {G : Hp → Prop} (w : Walk J (min vs.length us.length) G (YPair (fun i => vs[i]?) (fun i => us[i]?))), (∀ H, Same B4 H → G H) → IOk X.K B4 J (zipD i1 i2) := fun {J G} w hG =>
      IOk.of2 (as := []) (bs := []) w hG (by rw [zipD_length, hv.length, hv2.length]) fun i hi x y ex ey => by
        have hl := hv.length
        have hl2 := hv2.length
        have he : i1[i]? = some i1[i] := List.getElem?_eq_getElem (by omega)
        have he2 : i2[i]? = some i2[i] := List.getElem?_eq_getElem (by omega)
        obtain ⟨u, e1, r'⟩ := hv.get he
        obtain ⟨u2, e2, r2'⟩ := hv2.get he2
        rw [ex] at e1; cases e1
        rw [ey] at e2; cases e2
        exact ⟨_, _, zipD_get he he2, r', r2', cps_get hc he, cps_get hc2 he2⟩
    rw [← ed] at hs2
    have kb := (kb1.trans kb2).trans (kb3.trans kb4)
    by_cases hd : isTup d1 = true
    · simp only [hd, if_true] at hs hs2
      exact .inr ⟨hs H2 r4.bh, hs2 H2 r4.bh, q _ _ z H2 B4 _ kb r4 (key (walk_zipT rfl) fun H k => ⟨hs H k, hs2 H k⟩)⟩
    · simp only [hd, if_false, Bool.false_eq_true] at hs hs2
      exact .inl ⟨hs H2 r4.bh, hs2 H2 r4.bh, q _ _ z H2 B4 _ kb r4 (key (walk_zip rfl) fun H k => ⟨hs H k, hs2 H k⟩)⟩

/-! ### for -/
/-- an invariant by the turn -/
def LoopD (g : GD) (b : SD) (E : DE) (its : List D) (ds : DS) : Prop := ∃ Pv : Nat → DS → Prop, Pv 0 ds ∧
  (∀ i d ds, its[i]? = some d → Pv i ds → g d ds fun ds2 => b { E with nx := Pv (i + 1), ct := Pv (i + 1), bk := E.nx } ds2) ∧ ∀ ds, Pv its.length ds → E.nx ds
def sFor (i : ID) (g : GD) (b : SD) : SD := fun E ds => i ds fun its ds1 => LoopD g b E its ds1
theorem s_for {i : ID} {g : GD} {ws : List Nat} {b : SD} {iter : Expr} {body : List Stmt} (hp : PassesOwn (model X.prog X.w) X.A X.env X.xe) (hc : X.calm = true) (hi : PI X tg iter (LI X.K C p i)) (hg : PG X tg (LG X.K C ws g)) (hb : PSs X body (LS X.K C b))
    (hs : ∀ x, foldedSetIterable iter X.env x = pure x := by intro _; rfl) : PS X (.For tg iter body [] pos) (LS X.K C (sFor i g b)) :=
  PS.imp (ps_for hp hc hi hg hb hs) fun D σ H ⟨B, ds, E, r, t, h1, h2, h3, h4⟩ => by
    refine ⟨B, ds, [], _, r, fun _ => trivial, t, fun its ds1 ⟨Pd, z0, zs, zd⟩ H1 B1 J kb1 r1 ok => ?_⟩
    let Pv : Nat → L2.St → Hp → Prop := fun i σ H => i ≤ its.length ∧ ∃ B2 ds2, Same B1 B2 ∧ RS X.K C B2 σ H ds2 [] ∧ Pd i ds2
    refine ⟨fun i m σ H => m = its.length - i ∧ Pv i σ H, ⟨its.length, by simp, Nat.zero_le _, B1, ds1, Same.refl _, r1, z0⟩, ?_⟩
    rintro i m σ2 H2 ⟨rfl, hi, B2, ds2, kb2, r2, z2⟩
    by_cases hlt : i < its.length
    · refine .inr ⟨(ok.mono kb2).goes i H2 hlt r2.bh, Pv (i + 1), fun σ' H' p' => ⟨its.length - (i + 1), by omega, rfl, p'⟩, fun x H' y => ?_⟩
      obtain ⟨d, ed, k0, f⟩ := (ok.mono kb2).yields i H2 x H' hlt r2.bh y
      obtain ⟨w, c⟩ := f B2 (Same.refl _) r2.bh
      refine ⟨B2, ds2, [], d, _, r2.push k0 (Fresh.cp w c), trivial, zs i d ds2 ed z2, fun ds3 z3 σ3 H3 B3 kb3 _ r3 => ?_⟩
      refine ⟨B3, ds3, _, r3, z3, fun d' z s h b' k r => ⟨hlt, b', d', (kb2.trans kb3).trans k, r, z⟩, fun d d' z v s h b k r => h2 d d' z v s h b (((kb1.trans kb2).trans kb3).trans k) r, fun d z s h b k r => h1 d z s h b (((kb1.trans kb2).trans kb3).trans k) r, fun d' z s h b' k r => ⟨hlt, b', d', (kb2.trans kb3).trans k, r, z⟩⟩
    · have e : i = its.length := by omega
      subst e
      exact .inl ⟨(ok.mono kb2).stops H2 r2.bh, h1 _ (zd ds2 z2) σ2 H2 B2 (kb1.trans kb2) r2⟩
/-- turn by turn -/
def loopD (g : GD) (b : SD) (E : DE) : List D → DS → Prop
  | [], ds => E.nx ds
  | d :: r, ds => g d ds fun ds2 => b { E with nx := loopD g b E r, ct := loopD g b E r, bk := E.nx } ds2
theorem LoopD.of {g : GD} {b : SD} {E : DE} {its : List D} {ds : DS} (h : loopD g b E its ds) : LoopD g b E its ds := by
  refine ⟨fun i ds => loopD g b E (its.drop i) ds, h, fun i d ds e z => ?_, fun ds z => by
    have z : loopD g b E (its.drop its.length) ds := z
    rw [List.drop_length] at z; exact z⟩
  obtain ⟨hlt, e'⟩ := List.getElem?_eq_some_iff.mp e
  have z : loopD g b E (its.drop i) ds := z
  rw [List.drop_eq_getElem_cons hlt, e'] at z
  exact z
end
end Dn

set_option Elab.async false
set_option linter.all false
set_option maxRecDepth 100000
/-! Dn11: list comprehensions. -/
namespace Dn
open PySem PySem.Spec PyProof.Rows L2
/-- slots forgotten -/
def dwipe (ds : DS) : List Nat → DS
  | [] => ds
  | v :: vs => (dwipe ds vs).set v none
def FC.blk (C : FC) : FC := ⟨C.B0, [], [], C.tabs, C.ex, C.trk⟩
/-- what is held by itself -/
def strip : Tms → Tms
  | [] => []
  | (v, .own d) :: ts => (v, .own d) :: strip ts
  | _ :: ts => strip ts
section
variable {K : PySem.W.Frag} {C : FC} {B H : Hp} {σ : L2.St} {ds : DS} {ts : Tms} {v : V} {d : D}
theorem dwipe_length (ds : DS) : ∀ vs : List Nat, (dwipe ds vs).length = ds.length
  | [] => rfl
  | v :: vs => by unfold dwipe; rw [List.length_set, dwipe_length ds vs]
theorem nonm_strip : ∀ ts : Tms, nonm (strip ts)
  | [] => trivial
  | (_, .own _) :: ts => nonm_strip ts
  | (_, .nm _) :: ts => nonm_strip ts
  | (_, .vw _) :: ts => nonm_strip ts
  | (_, .pl _ _) :: ts => nonm_strip ts
theorem TmR.strip {σ' : L2.St} : ∀ {ts : Tms} {F : Fp}, novw ts → TmR K B H σ ts F → TmR K B H σ' (Dn.strip ts) F ∧ ∀ B' H' F', TmR K B' H' σ' (Dn.strip ts) F' → TmR K B' H' σ ts F'
  | [], F, _, h => ⟨h, fun _ _ _ z => z⟩
  | (v, .own d) :: ts, F, n, ⟨F1, F2, h1, h2, e⟩ => by
    obtain ⟨a, b⟩ := TmR.strip (ts := ts) n h2
    exact ⟨⟨F1, F2, h1, a, e⟩, fun B' H' F' ⟨G1, G2, g1, g2, e⟩ => ⟨G1, G2, g1, b _ _ _ g2, e⟩⟩
  | (v, .nm i) :: ts, F, n, h => by
    obtain ⟨a, b⟩ := TmR.strip (ts := ts) n h.2
    exact ⟨a, fun B' H' F' z => ⟨h.1, b _ _ _ z⟩⟩
  | (v, .vw d) :: ts, F, n, _ => n.elim
  | (v, .pl _ _) :: ts, F, n, _ => n.elim
theorem SlR.wipe {F : Fp} (h : SlR K B H ds σ F) : ∀ vs : List Nat, ∃ F', (∀ b, F' b ≤ F b) ∧ SlR K B H (dwipe ds vs) (L2.wipe σ vs) F'
  | [] => ⟨F, fun _ => Nat.le_refl _, h⟩
  | v :: vs => by
    obtain ⟨F1, l1, h1⟩ := h.wipe vs
    obtain ⟨F2, l2, h2⟩ := h1.clear v none
    exact ⟨F2, fun b => Nat.le_trans (l2 b) (l1 b), h2⟩
/-- only the slots that are told count -/
theorem SlR.agree : ∀ {ds : DS} {σ σ' : L2.St} {F : Fp}, σ.length = σ'.length → (∀ (i : Nat) (d : D), ds[i]? = some (some d) → σ'[i]? = σ[i]?) → SlR K B H ds σ F → SlR K B H ds σ' F
  | [], σ, σ', F, hl, _, h => by
    obtain ⟨rfl, rfl⟩ := h
    exact ⟨List.eq_nil_of_length_eq_zero hl.symm, rfl⟩
  | none :: ds, σ, σ', F, hl, ha, h => by
    obtain ⟨s, r, rfl, h⟩ := h
    cases σ' with
    | nil => simp at hl
    | cons s' r' => exact ⟨s', r', rfl, h.agree (by simpa using hl) fun i d e => by simpa using ha (i + 1) d (by simpa using e)⟩
  | some d :: ds, σ, σ', F, hl, ha, h => by
    obtain ⟨v, r, F1, F2, rfl, h1, h2, e⟩ := h
    cases σ' with
    | nil => simp at hl
    | cons s' r' =>
      have z : some s' = some (some v) := by simpa using ha 0 d rfl
      obtain rfl := Option.some.inj z
      exact ⟨v, r', F1, F2, rfl, h1, h2.agree (by simpa using hl) fun i d e => by simpa using ha (i + 1) d (by simpa using e), e⟩
theorem dwipe_some {i : Nat} {x : D} : ∀ {vs : List Nat}, (dwipe ds vs)[i]? = some (some x) → ds[i]? = some (some x) ∧ i ∉ vs
  | [], h => ⟨h, by simp⟩
  | v :: vs, h => by
    unfold dwipe at h
    by_cases hi : v = i
    · subst hi
      by_cases hv : v < (dwipe ds vs).length
      · rw [List.getElem?_set_self hv] at h; cases h
      · rw [List.getElem?_eq_none (by simpa using hv)] at h; cases h
    · rw [List.getElem?_set_ne hi] at h
      obtain ⟨h1, h2⟩ := dwipe_some h
      exact ⟨h1, by simp only [List.mem_cons, not_or]; exact ⟨fun e => hi e.symm, h2⟩⟩
/-- into a block -/
theorem RS.block (r : RS K C B σ H ds ts) (nv : novw ts) (vs : List Nat) : RS K C.blk B (wipe σ vs) H (dwipe ds vs) (strip ts) := by
  obtain ⟨F1, F2, h1, h2, h3, h4⟩ := r.ex
  obtain ⟨F', le, q⟩ := h1.wipe vs
  exact ⟨⟨F', F2, q, (h2.strip nv).1, fun b => by have := le b; have := h3 b; omega, fun b hb => h4 b (by have := le b; omega)⟩, r.bh, r.b0, fun p hp => by simp [FC.blk] at hp, r.tb⟩
/-- .. and out of it -/
theorem RS.unblock {B' H' : Hp} {ds' : DS} {vs : List Nat} {v : V} {d : D} (r : RS K C B σ H ds ts) (nv : novw ts) (kb : Same B B') (r' : RS K C.blk B' (wipe σ vs) H' ds' ((v, .own d) :: strip ts)) (hd : ∀ i x, ds'[i]? = some (some x) → i ∉ vs) :
    RS K C B' σ H' ds' ((v, .own d) :: ts) := by
  obtain ⟨F1, F2, h1, h2, h3, h4⟩ := r.ex
  obtain ⟨G1, G2, g1, g2, g3, g4⟩ := r'.ex
  obtain ⟨A1, A2, a1, a2, rfl⟩ := g2
  exact ⟨⟨G1, _, g1.agree (wipe_length _ _) fun i x e => (wipe_out (hd i x e)).symm, ⟨A1, A2, a1, (h2.strip (σ' := wipe σ vs) nv).2 _ _ _ a2, rfl⟩, g3, g4⟩, r'.bh, r.b0.trans kb, r.pin, r'.tb⟩
/-- between two turns: the block's names forgotten -/
theorem RS.wiped {vs : List Nat} {σ' : L2.St} (r : RS K C.blk B σ' H ds ts) (nn : nonm ts) (e : wipe σ' vs = wipe σ vs) : RS K C.blk B (wipe σ vs) H (dwipe ds vs) ts := by
  obtain ⟨F1, F2, h1, h2, h3, h4⟩ := r.ex
  obtain ⟨F', le, q⟩ := h1.wipe vs
  rw [e] at q
  exact ⟨⟨F', F2, q, h2.other nn, fun b => by have := le b; have := h3 b; omega, fun b hb => h4 b (by have := le b; omega)⟩, r.bh, r.b0, fun p hp => by simp [FC.blk] at hp, r.tb⟩
theorem wipe_agree {vs : List Nat} {σ σ' : L2.St} (h : Out vs (wipe σ vs) σ') : wipe σ' vs = wipe σ vs := by
  have hl : σ'.length = σ.length := by rw [h.1, wipe_length]
  have key : ∀ {vs : List Nat} {σ : L2.St} {i : Nat}, i ∈ vs → i < σ.length → (wipe σ vs)[i]? = some none := by
    intro vs
    induction vs with
    | nil => intro σ i h; simp at h
    | cons v vs ih =>
      intro σ i h hl
      unfold wipe
      by_cases e : v = i
      · subst e
        rw [List.getElem?_set_self (by rw [wipe_length]; exact hl)]
      · rw [List.getElem?_set_ne e]
        exact ih ((List.mem_cons.mp h).resolve_left fun z => e z.symm) hl
  refine List.ext_getElem? fun i => ?_
  by_cases hi : i < σ.length
  · by_cases hv : i ∈ vs
    · rw [key hv (by omega), key hv hi]
    · rw [wipe_out hv, h.2 i hv]
  · rw [List.getElem?_eq_none (by rw [wipe_length]; omega), List.getElem?_eq_none (by rw [wipe_length]; omega)]
/-- an item behind the list that is being made -/
theorem RS.app {acc : List D} {v : V} {a : Addr} {y : D} (r : RS K C B σ H ds ((v, .own y) :: (.ref a, .own (.lst acc)) :: ts)) (nv : novw ts) : ∃ vs, H a = some (.lst vs) ∧ vs.length = acc.length ∧ RS K C B σ (L2.upd H a (.lst (vs ++ [v]))) ds ((.ref a, .own (.lst (acc ++ [y]))) :: ts) := by
  obtain ⟨F1, F2, h1, h2, h3, h4⟩ := r.ex
  obtain ⟨G1, G2, g1, ⟨A1, A2, ⟨a', vs, G, ea, s, rx, rfl⟩, a2, rfl⟩, rfl⟩ := h2
  cases ea
  have tot : ∀ b, F1 b + (G1 b + (one a b + G b + A2 b)) ≤ 1 := h3
  have ta := tot a
  simp only [one, if_true] at ta
  have hk : KT H (L2.upd H a (.lst (vs ++ [v]))) := KT.upd s
  have ne : ∀ {b : Addr} {ys : List V} {P : Fp}, P a = 0 → 0 < P b → H b = some (.lst ys) → L2.upd H a (.lst (vs ++ [v])) b = some (.lst ys) := fun {b ys P} hP hb eb => by
    rw [upd_ne (fun z => by rw [z, hP] at hb; exact Nat.lt_irrefl 0 hb)]; exact eb
  refine ⟨vs, s, rx.length.symm, ⟨F1, _, h1.mono (Same.refl B) hk (fun b ys hb eb => ne (P := F1) (by omega) hb eb), ⟨_, A2, ⟨a, vs ++ [v], _, rfl, upd_same, (DRs.mono (Same.refl B) hk _ _ _ (fun b ys hb eb => ne (P := G) (by omega) hb eb) rx).append (DRs.of_one (DR.mono (Same.refl B) hk _ _ _ (fun b ys hb eb => ne (P := G1) (by omega) hb eb) g1)), rfl⟩,
    a2.kt (Same.refl B) hk nv (fun b ys hb eb => ne (P := A2) (by omega) hb eb), rfl⟩, fun b => ?_, fun b hb => ?_⟩, fun b o eb => ?_, r.b0, r.pin, r.tb.upd s⟩
  · have := tot b
    show F1 b + (one a b + (G b + G1 b) + A2 b) ≤ 1
    omega
  · have hb : 0 < F1 b + (one a b + (G b + G1 b) + A2 b) := hb
    exact h4 b (by show 0 < F1 b + (G1 b + (one a b + G b + A2 b)); omega)
  · have hn : b ≠ a := fun z => by
      have := h4 a (by show 0 < F1 a + (G1 a + (one a a + G a + A2 a)); simp [one]; omega)
      rw [z, this] at eb; cases eb
    rw [upd_ne hn]; exact r.bh _ _ eb
end
section
variable {X : Cx} {C : FC} {p : Bool} {pos : Pos} {elt tg iter e : Expr} {ifs : List Expr}
/-- turn by turn -/
def compD (g : GD) (q : QD) (e : ED) (vs : List Nat) (Q : D → DS → Prop) : List D → List D → DS → Prop
  | [], acc, ds => Q (.lst acc) ds
  | d :: r, acc, ds => g d ds fun ds1 => q ds1 fun b ds2 => if b = true then e ds2 fun y ds3 => acc.length < sizeLine ∧ compD g q e vs Q r (acc ++ [y]) (dwipe ds3 vs) else compD g q e vs Q r acc (dwipe ds2 vs)
/-- by an invariant -/
def CompD (g : GD) (q : QD) (e : ED) (vs : List Nat) (Q : D → DS → Prop) (its : List D) (ds : DS) : Prop := ∃ Pv : Nat → List D → DS → Prop, Pv 0 [] ds ∧
  (∀ i d acc ds, its[i]? = some d → Pv i acc ds → g d ds fun ds1 => q ds1 fun b ds2 => if b = true then e ds2 fun y ds3 => acc.length < sizeLine ∧ Pv (i + 1) (acc ++ [y]) (dwipe ds3 vs) else Pv (i + 1) acc (dwipe ds2 vs)) ∧
  ∀ acc ds, Pv its.length acc ds → Q (.lst acc) ds
theorem CompD.of {g : GD} {q : QD} {e : ED} {vs : List Nat} {Q : D → DS → Prop} {its : List D} {ds : DS} (h : compD g q e vs Q its [] ds) : CompD g q e vs Q its ds := by
  refine ⟨fun i acc ds => compD g q e vs Q (its.drop i) acc ds, h, fun i d acc ds e z => ?_, fun acc ds z => ?_⟩
  · obtain ⟨hlt, e'⟩ := List.getElem?_eq_some_iff.mp e
    have z : compD g q _ vs Q (its.drop i) acc ds := z
    rw [List.drop_eq_getElem_cons hlt, e'] at z
    exact z
  · have z : compD g q e vs Q (its.drop its.length) acc ds := z
    rw [List.drop_length] at z; exact z
def dLc (vs : List Nat) (i : ID) (g : GD) (q : QD) (e : ED) : ED := fun ds Q => i ds fun its ds1 => CompD g q e vs Q its (dwipe ds1 vs)
def qYes : QD := fun ds Q => Q true ds
theorem q_yes : PTs X [] (LT X.K C p qYes) := ⟨fun pins s σ H Q I ⟨B, ds, ts, P, r, nv, t, q⟩ => pts_nil.run pins s σ H Q I (q _ _ t H B (Same.refl _) r)⟩
theorem q_one {c : Expr} {q : QD} (h : PT X c (LT X.K C p q)) : PTs X [c] (LT X.K C p q) := pts_one h
-- theorem RS.slen {K : PySem.W.Frag} {B H : Hp} {σ σ' : L2.St} {ds ds' : DS} {ts ts' : Tms} {B' H' : Hp} {C' : FC} (r : RS K C B σ H ds ts) (r' : RS K C' B' σ' H' ds' ts') (h : ds.length = ds'.length) : σ'.length = σ.length := by rw [← r.length, ← r'.length, h]
/-- the block's readings -/
structure Blk (X : Cx) (C : FC) (scope : Scope) (vs : List Nat) (tg elt : Expr) (ifs : List Expr) (g : GD) (q : QD) (e : ED) : Prop where
  tg : ∃ ws, (∀ w ∈ ws, w ∈ vs) ∧ ∀ (s : Shared) (H : Hp) (A : Addr) (cl : List (Str × Addr)) (fp : List Addr), PG (X.blk s H scope (compEnvC scope cl A X.env) fp) tg (LG X.K C.blk ws g)
  ifs : ∀ (s : Shared) (H : Hp) (A : Addr) (cl : List (Str × Addr)) (fp : List Addr), PTs (X.blk s H scope (compEnvC scope cl A X.env) fp) ifs (LT X.K C.blk false q)
  elt : ∀ (s : Shared) (H : Hp) (A : Addr) (cl : List (Str × Addr)) (fp : List Addr), PE (X.blk s H scope (compEnvC scope cl A X.env) fp) elt (LE X.K C.blk false e)
theorem lc_run {K : PySem.W.Frag} {vs ws : List Nat} {i : ID} {g : GD} {q : QD} {e : ED} (hw : ∀ w ∈ ws, w ∈ vs) {σ : L2.St} {H : Hp} {Q : VK} (h : LE K C false (dLc vs i g q e) σ H Q) : tLc (LI K C false i) (LG K C.blk ws g) (LT K C.blk false q) (LE K C.blk false e) vs σ H Q := by
  obtain ⟨B, ds, ts, P, r, nv, t, qq⟩ := h
  have nv := nv rfl
  refine ⟨B, ds, ts, _, r, fun _ => nv, t, fun its ds1 ⟨Pd, z0, zs, zd⟩ H1 B1 J kb1 r1 ok A hA => ?_⟩
  have k0 := same_new (o := .lst []) hA
  have rb := (r1.block nv vs).push (d := .lst []) (v := .ref A) k0 ⟨one A, ⟨A, [], Dn.z0, rfl, upd_same, ⟨rfl, rfl⟩, by funext b; simp [Dn.z0, Dn.z0]⟩, fun b => by simp only [one]; split <;> omega, fun b hb => by
    simp only [one] at hb
    split at hb
    · rename_i e; rw [e]; exact hA
    · omega⟩
  let Pv : Nat → Hp → Prop := fun i H => i ≤ its.length ∧ ∃ B2 ds2 acc, Same B1 B2 ∧ RS K C.blk B2 (wipe σ vs) H ds2 ((.ref A, .own (.lst acc)) :: strip ts) ∧ (∀ i x, ds2[i]? = some (some x) → i ∉ vs) ∧ Pd i acc ds2
  refine ⟨fun i m H => m = its.length - i ∧ Pv i H, ⟨its.length, by simp, Nat.zero_le _, B1, _, [], Same.refl _, rb, fun i x e => (dwipe_some e).2, z0⟩, ?_⟩
  rintro i m H2 ⟨rfl, hi, B2, ds2, acc, kb2, r2, hv2, z2⟩
  by_cases hlt : i < its.length
  · refine .inr ⟨(ok.mono kb2).goes i H2 hlt r2.bh, Pv (i + 1), fun H' p' => ⟨its.length - (i + 1), by omega, rfl, p'⟩, fun x H' y => ?_⟩
    obtain ⟨d, ed, k1, f⟩ := (ok.mono kb2).yields i H2 x H' hlt r2.bh y
    obtain ⟨w, c⟩ := f B2 (Same.refl _) r2.bh
    refine ⟨B2, ds2, _, d, _, r2.push k1 (Fresh.cp w c), nonm_strip ((.ref A, .own (.lst acc)) :: ts), zs i d acc ds2 ed z2, fun ds3 z3 σ3 H3 B3 kb3 ho r3 => ?_⟩
    have hw3 : wipe σ3 vs = wipe σ vs := wipe_agree ⟨ho.1, fun j hj => ho.2 j fun m => hj (hw j m)⟩
    refine ⟨hw3, B3, ds3, _, _, r3, fun _ => nonm_vw (nonm_strip ((.ref A, .own (.lst acc)) :: ts)), z3, fun b ds4 z4 H4 B4 kb4 r4 => ?_⟩
    cases b with
    | true =>
      rw [if_pos rfl] at z4 ⊢
      refine ⟨B4, ds4, _, _, r4, fun _ => nonm_vw (nonm_strip ((.ref A, .own (.lst acc)) :: ts)), z4, fun y ds5 ⟨hz, z5⟩ v5 H5 B5 kb5 r5 => ?_⟩
      obtain ⟨us, s, hl, r6⟩ := r5.app (nonm_vw (nonm_strip ts))
      exact ⟨us, s, by omega, hlt, B5, dwipe ds5 vs, _, (((kb2.trans kb3).trans kb4).trans kb5), r6.wiped (nonm_strip ((.ref A, .own (.lst _)) :: ts)) hw3, fun i x e => (dwipe_some e).2, z5⟩
    | false =>
      rw [if_neg Bool.false_ne_true] at z4 ⊢
      exact ⟨hlt, B4, dwipe ds4 vs, _, ((kb2.trans kb3).trans kb4), r4.wiped (nonm_strip ((.ref A, .own (.lst _)) :: ts)) hw3, fun i x e => (dwipe_some e).2, z4⟩
  · have e : i = its.length := by omega
    subst e
    exact .inl ⟨(ok.mono kb2).stops H2 r2.bh, qq _ _ (zd _ _ z2) _ H2 B2 (kb1.trans kb2) (r1.unblock nv kb2 r2 hv2)⟩
end
end Dn

set_option Elab.async false
set_option linter.all false
set_option maxRecDepth 100000
set_option maxHeartbeats 2000000
/-! Dn12: comprehensions as values; stores at a place; op=; while. -/
namespace L2
open PySem PySem.Spec PyProof.Rows
/-- xs[i], as op= reads it -/
theorem get_list {X : Cx} : PGet X (rIxL X.K) := by
  intro pins s σ H x y v u Q I rx ry h
  obtain ⟨p, xs, i, z, rfl, rfl, hq, he, q⟩ := h
  cases rx
  obtain ⟨t, rfl⟩ := ry
  obtain ⟨its, r, pl, hz⟩ := I.list hq
  obtain ⟨j, h1, h2, h3, h4, h5⟩ := atI_get he
  obtain ⟨w, ew, rw'⟩ := r.get h2
  have hl := r.length
  have hn := line63
  have fin : EP X pins σ Q w s := ⟨z, H, I, rw', q⟩
  by_cases h0 : 0 ≤ i
  · have hj : i.toNat = j := by
      rw [seqIndex_of h0 h5] at h1
      exact Option.some.inj h1
    exact wpAny_getItem_list pl.isList h0 (by omega) (by rw [hj]; simpa using ew) fin
  · have hj : (i + (its.toArray.size : Int)).toNat = j := by
      rw [seqIndex_neg (by omega) h4] at h1
      rw [List.size_toArray, ← hl]
      exact Option.some.inj h1
    exact wpAny_getItem_list_neg pl.isList (by omega) (by rw [List.size_toArray] <;> omega) (by omega) (by rw [hj]; simpa using ew) fin
end L2
namespace Dn
open PySem PySem.Spec PyProof.Rows L2
section
variable {X : Cx} {C : FC} {p p2 p3 : Bool} {pos : Pos} {elt tg iter e eo ei ea eb ec : Expr} {ifs : List Expr} {st : Stmt}
theorem e_lc {scope : Scope} {own : List (Str × Nat)} {i : ID} {g : GD} {q : QD} {t : ED} (hc : X.calm = true) (hN : X.N.Nodup) (hi : PI X tg iter (LI X.K C false i)) (ok : BlkOk X.N X.env.scope scope own) (hb : Blk X C scope (own.map (·.2)) tg elt ifs g q t)
    (hs : ∀ x, foldedSetIterable iter X.env x = pure x := by intro _; rfl) : PE X (.ListComp elt [⟨tg, iter, ifs, 0⟩] scope pos) (LE X.K C false (dLc (own.map (·.2)) i g q t)) := by
  obtain ⟨ws, hw, hg⟩ := hb.tg
  exact (pe_lc hc hN hi ok hg hb.ifs hb.elt hs).imp fun _ _ _ h => lc_run hw h
theorem s_setLc {i : Nat} {y : Str} {py spos : Pos} {scope : Scope} {own : List (Str × Nat)} {it : ID} {g : GD} {q : QD} {t : ED} (hc : X.calm = true) (hN : X.N.Nodup) (hy : X.N[i]? = some y) (hyl : X.env.scope.names.lookup y = some .local)
    (hsw : swapsWith (.ListComp elt [⟨tg, iter, ifs, 0⟩] scope pos) (some (.Name y py)) spos.line X.env = pure true) (hi : PI X tg iter (LI X.K C false it)) (ok : BlkOk X.N X.env.scope scope own) (hb : Blk X C scope (own.map (·.2)) tg elt ifs g q t) (hp : i ∉ C.mx)
    (hs : ∀ x, foldedSetIterable iter X.env x = pure x := by intro _; rfl) : PS X (.Assign [.Name y py] (.ListComp elt [⟨tg, iter, ifs, 0⟩] scope pos) spos) (LS X.K C (sAsg (dLc (own.map (·.2)) it g q t) (gN i))) := by
  obtain ⟨ws, hw, hg⟩ := hb.tg
  refine PS.imp (ps_setLc hc hN hy hyl hsw hi ok hg hb.ifs hb.elt hs) fun D σ H ⟨B, ds, E, r, t, h1, _, _, _⟩ => lc_run (ws := ws) hw ⟨B, ds, [], _, r, fun _ => trivial, t, fun d ds' z v H' B' kb r' => h1 _ z _ H' B' kb (r'.put trivial hp)⟩

/-! ### x[i] = e -/
/-- what a store finds -/
structure Plc (ds : DS) (x y : Tm) (sl : Nat) (pth : List Nat) (d0 : D) (l : List D) (j : Nat) : Prop where
  plc : x.plc = some (sl, pth)
  slot : ds[sl]? = some (some d0)
  lst : pget d0 pth = some (.lst l)
  ix : ∃ k, y.get ds = some (.t (.int k)) ∧ ixN l.length k = some j
def gIx (p2 : Bool) (o i : OD) : GD := fun d ds Q => o ds fun x ds1 => nvs p2 x ∧ i ds1 fun y ds2 => ∃ sl pth d0 l j, Plc ds2 x y sl pth d0 l j ∧ Q (ds2.set sl (some (pset d0 pth (.lst (l.set j d)))))
theorem DRs.setA {K : PySem.W.Frag} {B H : Hp} {xs : List D} {vs : List V} {F G : Fp} {d : D} {v : V} {j : Nat} (h : DRs K B H xs vs F) (hd : DR K B H d v G) (hj : j < xs.length) : ∃ F', DRs K B H (xs.set j d) (vs.set j v) F' ∧ ∀ b, F' b ≤ F b + G b := by
  obtain ⟨u, F1, F2, e, r, rfl, _, put⟩ := h.split (List.getElem?_eq_getElem hj)
  exact ⟨_, put B H d v G hd (Same.refl _) (KT.refl _) (fun _ _ _ e => e), fun b => by show G b + F2 b ≤ F1 b + F2 b + G b; omega⟩
/-- the store itself; t0: what falls away -/
theorem RS.setAt {K : PySem.W.Frag} {B H : Hp} {σ : L2.St} {ds : DS} {t0 ts : Tms} {v : V} {d : D} {x y : Tm} {vx vy : V} {t1 : Tms} {sl : Nat} {pth : List Nat} {d0 : D} {l : List D} {j : Nat}
    (r : RS K C B σ H ds (t0 ++ (v, .own d) :: ts)) (nv : novw ts) (pl : Plc ds x y sl pth d0 l j) (hx : ∃ v0, σ[sl]? = some (some v0) ∧ VP H v0 pth vx) (hy : ∀ k, y.get ds = some (.t (.int k)) → vy = .int k) {Q : Hp → Prop}
    (q : ∀ H', RS K C B σ H' (ds.set sl (some (pset d0 pth (.lst (l.set j d))))) ts → Q H') : rSetL vx vy v H Q := by
  obtain ⟨k, ek, hk⟩ := pl.ix
  obtain ⟨v0, s0, w0⟩ := hx
  obtain ⟨v0', a, vs, s0', w0', sa, vw, put⟩ := r.upd pl.slot pl.lst
  rw [s0] at s0'; cases s0'
  obtain rfl := w0.fn w0'
  refine ⟨a, vs, k, j, rfl, hy k ek, sa, by rw [← vw.length]; exact hk, q _ (put _ (vs.set j v) ts nv fun G F g f => ?_)⟩
  obtain ⟨F', le, f'⟩ := TmR.part (t0 := t0) f
  obtain ⟨A1, A2, a1, a2, rfl⟩ := f'
  obtain ⟨G', g', le'⟩ := g.setA a1 (ixN_seq hk).2.1
  exact ⟨G', A2, g', a2, fun b => by have := le b; have := le' b; have : A1 b + A2 b ≤ F b := le b; omega⟩
theorem g_ix {o i : OD} (ho : PE X eo (LO X.K C false o)) (hi : PE X ei (LO X.K C p2 i))
    (ha : ∀ v, assign (.Subscript eo ei pos) X.env v = (do
      let ov ← holding [v] (eval eo X.env)
      let iv ← holding [v, ov] (eval ei X.env)
      standAt pos
      holding [v, ov, iv] (setItem ov iv v)
      release [v, ov, iv] []) := by intro _; rfl) : PG X (.Subscript eo ei pos) (LG X.K C [] (gIx p2 o i)) :=
  PG.imp (pg_sub ho hi set_list ha) fun v σ H Q ⟨B, ds, ts, d, P, r, nn, t, q⟩ => by
    have nv0 : novw ((v, Tm.own d) :: ts) := nonm_vw nn
    refine ⟨B, ds, _, _, r, fun _ => nv0, t, fun x ds1 ⟨n1, z⟩ v1 H1 B1 kb1 r1 => ?_⟩
    refine ⟨B1, ds1, _, _, r1, nv_cons n1 (fun _ => nv0), z, fun y ds2 ⟨sl, pth, d0, l, j, pl, z2⟩ v2 H2 B2 kb2 r2 => ?_⟩
    obtain ⟨F1, F2, h1, h2, _⟩ := r2.drop.ex
    refine r2.setAt (t0 := [(v2, y), (v1, x)]) (t1 := []) (nonm_vw nn) pl (tms_at (t0 := []) pl.plc h2) (fun k e => r2.see0 e) fun H' r' => q _ z2 σ H' B2 (kb1.trans kb2) ⟨rfl, fun _ _ => rfl⟩ r'
/-- x[i] op= e -/
def sAugS (p2 p3 : Bool) (f : F2) (o i e : OD) : SD := fun E ds => o ds fun x ds1 => nvs p2 x ∧ i ds1 fun y ds2 => nvs p3 x ∧ nvs p3 y ∧ ∃ sl pth d0 l j c, Plc ds2 x y sl pth d0 l j ∧ l[j]? = some c ∧ cp c = true ∧ e ds2 fun z ds3 => ∃ dz, z.get ds3 = some dz ∧
  f c dz fun d' => ∃ d0' l', Plc ds3 x y sl pth d0' l' j ∧ E.nx (ds3.set sl (some (pset d0' pth (.lst (l'.set j d')))))
theorem s_augS {o i te : OD} {f : F2} {r : R2} {op : Operator} {tpos : Pos} (ho : PE X eo (LO X.K C false o)) (hi : PE X ei (LO X.K C p2 i)) (he : PE X e (LO X.K C p3 te)) (hp : PIp X op r) (hr : R2' X.K f r) (h23 : p2 = true → p3 = true := by decide)
    (ha : ∀ ov iv new, augStore ei ov iv new = (do holding [new, ov, iv] (setItem ov iv new); release [new, ov, iv] []; pure .next) := by intros; rfl) : PS X (.AugAssign (.Subscript eo ei tpos) op e pos) (LS X.K C (sAugS p2 p3 f o i te)) :=
  PS.imp (ps_augS ho hi get_list he hp set_list ha) fun D σ H ⟨B, ds, E, rs, t, h1, _, _, _⟩ => by
    refine ⟨B, ds, [], _, rs, fun _ => trivial, t, fun x ds1 ⟨n1, z⟩ v1 H1 B1 kb1 r1 => ?_⟩
    refine ⟨B1, ds1, _, _, r1, nv_cons n1 (fun _ => trivial), z, fun y ds2 ⟨n2, n3, sl, pth, d0, l, j, c, pl, ec, cc, z2⟩ v2 H2 B2 kb2 r2 => ?_⟩
    obtain ⟨k, ek, hk⟩ := pl.ix
    obtain ⟨F1, F2, g1, g2, _⟩ := r2.drop.ex
    obtain ⟨v0, s0, w0⟩ := tms_at (t0 := []) pl.plc g2
    obtain ⟨v0', b, b0⟩ := r2.nm pl.slot
    rw [s0] at b; cases b
    obtain ⟨a, vs, ev1, sa, vw⟩ := VB.path b0 pl.lst w0
    subst ev1
    obtain ⟨vc, evc, wc⟩ := vw.get ec
    have hj := (ixN_seq hk).2.1
    have at' : L2.atI vs k = some vc := by
      unfold L2.atI
      rw [← vw.length, hk]
      exact evc
    refine ⟨a, vs, k, vc, rfl, r2.see0 ek, SqL.of sa, at', ?_⟩
    have r3 := r2.push (Same.refl _) (Fresh.cp wc cc)
    have nv3 : p3 = false → novw ((v2, y) :: (V.ref a, x) :: []) := nv_cons n3 (nv_cons n2 (fun _ => trivial))
    refine ⟨B2, ds2, _, _, r3, nv3, z2, fun w ds3 ⟨dz, ez, hf⟩ v4 H4 B4 kb4 r4 => ?_⟩
    refine hr B4 H4 vc v4 c dz _ _ r4.bh (r4.see1 (tm := .own c) rfl) (r4.see0 ez) hf fun d' v' H' kh fr ⟨d0', l', pl', zz⟩ => ?_
    have r5 := r4.push kh fr
    have r6 := (r5.drop2).drop2
    obtain ⟨F1, F2, g1, g2, _⟩ := r6.drop.drop.ex
    obtain ⟨v0'', a'', vs'', s0'', w0'', sa'', vw'', put⟩ := r6.upd pl'.slot pl'.lst
    obtain ⟨u0, su, wu⟩ := tms_at (t0 := []) pl'.plc g2
    rw [su] at s0''; cases s0''
    have e1 := wu.fn w0''
    cases e1
    obtain ⟨k', ek', hk'⟩ := pl'.ix
    refine ⟨a, vs'', k', j, rfl, r6.see1 ek', sa'', by rw [← vw''.length]; exact hk', h1 _ zz σ _ B4 ((kb1.trans kb2).trans kb4) (put _ (vs''.set j v') [] trivial fun G F g f => ?_)⟩
    obtain ⟨A1, A2, a1, a2, rfl⟩ := f
    obtain ⟨G', g', le'⟩ := g.setA a1 (ixN_seq hk').2.1
    exact ⟨G', z0, g', rfl, fun b => by have := le' b; show G' b + z0 b ≤ G b + (A1 b + A2 b); simp only [z0]; omega⟩
/-- x op= e -/
def sAug (i : Nat) (f : F2) (e : OD) : SD := fun E ds => ∃ c, ds[i]? = some (some c) ∧ cp c = true ∧ e ds fun z ds1 => ∃ dz, z.get ds1 = some dz ∧ f c dz fun d' => E.nx (ds1.set i (some d'))
theorem s_aug {i : Nat} {x : Str} {te : OD} {f : F2} {r : R2} {op : Operator} {pos' : Pos} (hN : X.N.Nodup) (hi : X.N[i]? = some x) (hx : Loc X.env.scope x) (he : PE X e (LO X.K C p te)) (ho : PIp X op r) (hr : R2' X.K f r) (hp : i ∉ C.mx) (hf : X.fn x = true ∨ X.env.scope.names.lookup x = some .local := by first | exact .inl rfl | exact .inr rfl) :
    PS X (.AugAssign (.Name x pos') op e pos) (LS X.K C (sAug i f te)) :=
  PS.imp (ps_aug hN hi hx he ho hf) fun D σ H ⟨B, ds, E, rs, ⟨c, ec, cc, t⟩, h1, _, _, _⟩ => by
    obtain ⟨v, s0, w0⟩ := rs.nm ec
    have r0 := rs.push (Same.refl _) (Fresh.cp w0 cc)
    refine ⟨v, s0, B, ds, _, _, r0, fun _ => trivial, t, fun z ds1 ⟨dz, ez, hf⟩ v1 H1 B1 kb1 r1 => ?_⟩
    exact hr B1 H1 v v1 c dz _ _ r1.bh (r1.see1 (tm := .own c) rfl) (r1.see0 ez) hf fun d' v' H' kh fr zz => h1 _ zz _ H' B1 kb1 ((((r1.push kh fr).drop2).drop2).put trivial hp)
/-! ### while -/
def sWhile (q : QD) (b : SD) : SD := fun E ds => ∃ W : Nat → DS → Prop, (∃ m, W m ds) ∧ ∀ m ds, W m ds → q ds fun c ds1 => if c = true then b { E with nx := fun ds' => ∃ m', m' < m ∧ W m' ds', ct := fun ds' => ∃ m', m' < m ∧ W m' ds', bk := E.nx } ds1 else E.nx ds1
theorem s_while {q : QD} {b : SD} {body : List Stmt} (hp : PassesOwn (model X.prog X.w) X.A X.env X.xe) (hc : PT X ec (LT X.K C p q)) (hb : PSs X body (LS X.K C b)) : PS X (.While ec body [] pos) (LS X.K C (sWhile q b)) :=
  PS.imp (ps_while hp hc hb) fun D σ H ⟨B, ds, E, r, ⟨W, ⟨m0, w0⟩, ws⟩, h1, h2, h3, h4⟩ => by
    refine ⟨fun m σ H => ∃ B2 ds2, Same B B2 ∧ RS X.K C B2 σ H ds2 [] ∧ W m ds2, ⟨m0, B, ds, Same.refl _, r, w0⟩, ?_⟩
    rintro m σ2 H2 ⟨B2, ds2, kb2, r2, w2⟩
    refine ⟨B2, ds2, [], _, r2, fun _ => trivial, ws m ds2 w2, fun c ds3 z3 H3 B3 kb3 r3 => ?_⟩
    cases c with
    | true =>
      rw [if_pos rfl] at z3 ⊢
      refine ⟨fun σ' H' => ∃ m', m' < m ∧ ∃ B2 ds2, Same B B2 ∧ RS X.K C B2 σ' H' ds2 [] ∧ W m' ds2, fun _ _ z => z, B3, ds3, _, r3, z3, fun d' ⟨m', hm, z⟩ s h b' k r => ⟨m', hm, b', d', (kb2.trans kb3).trans k, r, z⟩, fun d d' z v s h b k r => h2 d d' z v s h b ((kb2.trans kb3).trans k) r,
        fun d z s h b k r => h1 d z s h b ((kb2.trans kb3).trans k) r, fun d' ⟨m', hm, z⟩ s h b' k r => ⟨m', hm, b', d', (kb2.trans kb3).trans k, r, z⟩⟩
    | false =>
      rw [if_neg Bool.false_ne_true] at z3 ⊢
      exact h1 _ z3 σ2 H3 B3 (kb2.trans kb3) r3
end
end Dn

set_option Elab.async false
set_option linter.all false
set_option maxRecDepth 100000
set_option maxHeartbeats 2000000
/-! Dn13: defs by values; their calls. -/
namespace L2
open PySem PySem.Spec PyProof.Rows
/-- f(k = v, ..), nothing by position -/
theorem pe_callK0 {X : Cx} {CX : CXT} {k : Nat} {f : Addr} {fd : FuncData} {ps ks : List Str} {sp : Sp} {E : XK} {x : Str} {p pos : Pos} {kws : List Keyword} {tk : TA} {g : List Value → List Value → List Value} {gV : List V → List V → List V}
    (F : FnOk X.prog X.w X.K X.mg X.base CX k f fd ps sp) (hr : Room k X.A) (hg : Gl X x) (hm : X.mg x = some (.ref f)) (hk : PySem.W.keepIn X.K (.ref f) = true) (hb : KBinds X.K fd ps ks g gV) (hx : Passes CX X E)
    (hkw : PK X kws tk) (hall : (backToKw pos (keywordEach kws X.env)).all (·.1.isSome) = true := by rfl) (hks : (backToKw pos (keywordEach kws X.env)).filterMap (·.1) = ks := by rfl)
    (hdb : (x == ("__debug__" : Str)) = false := by decide)
    (hpl : ((backTo pos (starEach [] X.env)).any (·.1) || (backToKw pos (keywordEach kws X.env)).any (·.1.isNone)) = false := by rfl) :
    PE X (.Call (.Name x p) [] kws pos) (fun σ H Q => tk σ H fun zs H2 => sp (gV [] zs) H2 Q E) := by
  refine ⟨fun pins s σ H Q I h => ?_⟩
  refine wpAny_Call_Name_kw (ld_glob I hg hm ?_ hdb)
  refine PySem.W.callWith_KW0 (h₀ := X.base) I.ok.mod.kin hk hall (thn (hkw.run pos pins s σ H _ I h) fun ws s2 ⟨zs, H2, I2, rz, q2⟩ => ⟨I2.kIn, ?_⟩) hpl
  rw [hks]
  exact run_fnk F hr hb hx I2 (us := []) (vs := []) .nil rz q2
theorem PK.imp {X : Cx} {kws : List Keyword} {t t' : TA} (h : PK X kws t) (f : ∀ σ H Q, t' σ H Q → t σ H Q) : PK X kws t' := ⟨fun pos pins s σ H Q I q => h.run pos pins s σ H Q I (f _ _ _ q)⟩
end L2
namespace Dn
open PySem PySem.Spec PyProof.Rows L2
mutual
/-- nothing that is frozen within -/
def nf : D → Bool
  | .t _ => true
  | .lst xs => nfs xs
  | .frz _ => false
  | .scr _ => false
  | .tupM xs => nfs xs
def nfs : List D → Bool
  | [] => true
  | x :: xs => nf x && nfs xs
end
mutual
theorem DR.nf {K : PySem.W.Frag} {B B' H : Hp} : ∀ (d : D) (v : V) (F : Fp), Dn.nf d = true → DR K B H d v F → DR K B' H d v F
  | .t x, v, F, _, h => h
  | .lst xs, v, F, n, h => by
    obtain ⟨a, vs, G, e, s, r, e2⟩ := h
    exact ⟨a, vs, G, e, s, DRs.nf xs vs G (by simpa [Dn.nf] using n) r, e2⟩
  | .frz xs, v, F, n, h => by simp [Dn.nf] at n
  | .scr xs, v, F, n, h => by simp [Dn.nf] at n
  | .tupM xs, v, F, n, h => by
    obtain ⟨a, vs, e, s, r⟩ := h
    exact ⟨a, vs, e, s, DRs.nf xs vs F (by simpa [Dn.nf] using n) r⟩
theorem DRs.nf {K : PySem.W.Frag} {B B' H : Hp} : ∀ (d : List D) (v : List V) (F : Fp), Dn.nfs d = true → DRs K B H d v F → DRs K B' H d v F
  | [], vs, F, _, h => h
  | x :: xs, vs, F, n, h => by
    simp only [Dn.nfs, Bool.and_eq_true] at n
    obtain ⟨v, r, F1, F2, e, h1, h2, e2⟩ := h
    exact ⟨v, r, F1, F2, e, DR.nf x v F1 n.1 h1, DRs.nf xs r F2 n.2 h2, e2⟩
end
theorem nfs_t : ∀ ts : List T, nfs (ts.map D.t) = true
  | [] => rfl
  | x :: xs => by simp only [List.map_cons, nfs, nf, nfs_t xs, Bool.and_self]

/-! ### a def by values -/
/-- args, the wish of the result and of what the written args hold then -/
abbrev FD := List D → (D → List D → Prop) → Prop
def pickB {α : Type} : List Bool → List α → List α
  | true :: ms, x :: xs => x :: pickB ms xs
  | false :: ms, _ :: xs => pickB ms xs
  | _, _ => []
def mxOf : List Bool → Nat → List Nat
  | [], _ => []
  | true :: ms, i => i :: mxOf ms (i + 1)
  | false :: ms, i => mxOf ms (i + 1)
/-- what the slots hold -/
def slotsAt (ds : DS) : List Nat → Option (List D)
  | [] => some []
  | i :: is => match ds[i]? with
    | some (some d) => (slotsAt ds is).map (d :: ·)
    | _ => none
def SpD (K : PySem.W.Frag) (tabs : List Addr) (ms : List Bool) (f : FD) : Sp := fun vs H Q _ => ∃ B F l Q', vs.length = ms.length ∧ DRs K B H l vs F ∧ Same B H ∧ (∀ P ∈ tabs, TabN 4 H P) ∧ (∀ b ps, B b ≠ some (.tbl ps)) ∧ (∀ b, F b ≤ 1) ∧ (∀ b, 0 < F b → B b = none) ∧ f l Q' ∧
  ∀ d l', Q' d l' → ∀ v H' Fr F', Same B H' → KeepT H H' → nf d = true → nfs l' = true → l'.length = (mxOf ms 0).length → DR K B H' d v Fr → DRs K B H' l' (pickB ms vs) F' → (∀ b, Fr b + F' b ≤ 1) → (∀ b, 0 < Fr b + F' b → B b = none) → Q v H'
def startD (N : List Str) (l : List D) : DS := l.map some ++ List.replicate (N.length - l.length) none
def finD (ms : List Bool) (Q : D → List D → Prop) : D → DS → Prop := fun d ds => nf d = true ∧ ∃ l', slotsAt ds (mxOf ms 0) = some l' ∧ nfs l' = true ∧ Q d l'
def fnD (N : List Str) (ms : List Bool) (b : SD) : FD := fun l Q => b { nx := finD ms Q (.t .non), rt := finD ms Q } (startD N l)
section
variable {K : PySem.W.Frag} {C : FC} {B H : Hp} {σ : L2.St} {ds : DS} {ts : Tms} {v : V} {d : D}
theorem DRs.slots : ∀ {l : List D} {vs : List V} {F : Fp} {k : Nat}, DRs K B H l vs F → SlR K B H (l.map some ++ List.replicate k none) (vs.map some ++ List.replicate k none) F
  | [], vs, F, k, h => by
    obtain ⟨rfl, rfl⟩ := h
    induction k with
    | zero => exact ⟨rfl, rfl⟩
    | succ k ih => exact ⟨none, _, rfl, ih⟩
  | x :: xs, vs, F, k, h => by
    obtain ⟨v, r, F1, F2, rfl, h1, h2, rfl⟩ := h
    exact ⟨v, _, F1, F2, rfl, h1, h2.slots, rfl⟩
theorem slotsAt_set {i : Nat} : ∀ {is : List Nat}, i ∉ is → slotsAt (ds.set i none) is = slotsAt ds is
  | [], _ => rfl
  | j :: is, h => by
    have h1 : i ≠ j := fun e => h (by rw [e]; exact List.mem_cons_self)
    have h2 : i ∉ is := fun m => h (List.mem_cons_of_mem _ m)
    unfold slotsAt
    rw [List.getElem?_set_ne h1, slotsAt_set h2]
theorem SlR.picks : ∀ {is : List Nat} {ds : DS} {σ : L2.St} {F : Fp} {l : List D} {pv : List V}, SlR K B H ds σ F → is.Nodup → is.length = pv.length → (∀ p ∈ is.zip pv, σ[p.1]? = some (some p.2)) → slotsAt ds is = some l → ∃ G, DRs K B H l pv G ∧ ∀ b, G b ≤ F b
  | [], ds, σ, F, l, pv, h, _, hl, _, e => by
    cases e
    have : pv = [] := List.eq_nil_of_length_eq_zero hl.symm
    subst this
    exact ⟨z0, ⟨rfl, rfl⟩, fun b => Nat.zero_le _⟩
  | i :: is, ds, σ, F, l, [], h, _, hl, _, e => by simp at hl
  | i :: is, ds, σ, F, l, u :: pv, h, nd, hl, hp, e => by
    unfold slotsAt at e
    split at e
    · rename_i d ed
      cases q : slotsAt ds is with
      | none => rw [q] at e; cases e
      | some l0 =>
        rw [q] at e
        cases e
        obtain ⟨w, F1, F2, ew, hd, rfl, _, hr⟩ := h.at ed
        have eu := hp (i, u) (by simp)
        have eu : σ[i]? = some (some u) := eu
        rw [ew] at eu; cases eu
        obtain ⟨G, g, le⟩ := SlR.picks (is := is) hr (List.nodup_cons.mp nd).2 (by simpa using hl) (fun p hp' => hp p (by simp [hp'])) (by rw [slotsAt_set (List.nodup_cons.mp nd).1]; exact q)
        exact ⟨_, ⟨_, pv, F1, G, rfl, hd, g, rfl⟩, fun b => by have := le b; show F1 b + G b ≤ F1 b + F2 b; omega⟩
    · cases e
theorem mxOf_ge : ∀ {ms : List Bool} {i j : Nat}, j ∈ mxOf ms i → i ≤ j
  | [], _, _, h => by simp [mxOf] at h
  | true :: ms, i, j, h => by
    simp only [mxOf, List.mem_cons] at h
    rcases h with rfl | h
    · exact Nat.le_refl _
    · have := mxOf_ge h; omega
  | false :: ms, i, j, h => by
    simp only [mxOf] at h
    have := mxOf_ge h; omega
theorem mxOf_nodup : ∀ {ms : List Bool} {i : Nat}, (mxOf ms i).Nodup
  | [], _ => by simp [mxOf]
  | true :: ms, i => by
    simp only [mxOf, List.nodup_cons]
    exact ⟨fun h => by have := mxOf_ge h; omega, mxOf_nodup⟩
  | false :: ms, i => by
    simp only [mxOf]
    exact mxOf_nodup (ms := ms) (i := i + 1)
theorem mxOf_len : ∀ {ms : List Bool} {i : Nat} {vs : List V}, vs.length = ms.length → (mxOf ms i).length = (pickB ms vs).length
  | [], _, vs, h => by
    have : vs = [] := List.eq_nil_of_length_eq_zero (by simpa using h)
    subst this
    rfl
  | true :: ms, i, [], h => by simp at h
  | false :: ms, i, [], h => by simp at h
  | true :: ms, i, v :: vs, h => by simp only [mxOf, pickB, List.length_cons, mxOf_len (ms := ms) (i := i + 1) (vs := vs) (by simpa using h)]
  | false :: ms, i, v :: vs, h => by simp only [mxOf, pickB]; exact mxOf_len (by simpa using h)
theorem mxOf_pin : ∀ {ms : List Bool} {i : Nat} {vs : List V} {pre : L2.St} {post : L2.St}, vs.length = ms.length → pre.length = i → ∀ p ∈ (mxOf ms i).zip (pickB ms vs), (pre ++ vs.map some ++ post)[p.1]? = some (some p.2)
  | [], _, vs, pre, post, h, _, p, hp => by simp [mxOf] at hp
  | true :: ms, i, [], pre, post, h, _, p, hp => by simp at h
  | false :: ms, i, [], pre, post, h, _, p, hp => by simp at h
  | true :: ms, i, v :: vs, pre, post, h, hi, p, hp => by
    simp only [mxOf, pickB, List.zip_cons_cons, List.mem_cons] at hp
    rcases hp with rfl | hp
    · subst hi; simp
    · have := mxOf_pin (ms := ms) (i := i + 1) (vs := vs) (pre := pre ++ [some v]) (post := post) (by simpa using h) (by simp [hi]) p hp
      simpa using this
  | false :: ms, i, v :: vs, pre, post, h, hi, p, hp => by
    simp only [mxOf, pickB] at hp
    have := mxOf_pin (ms := ms) (i := i + 1) (vs := vs) (pre := pre ++ [some v]) (post := post) (by simpa using h) (by simp [hi]) p hp
    simpa using this
end
section
variable {P : Program} {w : World} {K : PySem.W.Frag} {mg : Str → Option Value} {base : Heap}
theorem okC {x qual : Str} {st : Stmt} {f : Addr} {fd : FuncData} {N ps : List Str} {k : Nat} {sp : Sp} (F : Fun K x qual st f fd) (S : FnScope N ps (defScope st)) (len : ∀ vs H Q E, sp vs H Q E → vs.length = ps.length)
    (hbody : ∀ (cdv : Value) (A : Around) (outer : List Env) (s : Shared) (H : Hp) (vs : List V) (Q : VK) (E : XK), fd.code = cdv → Room k (A.deeper (envOfC qual (defScope st) s.heap.objs.size f cdv)) → sp vs H Q E →
      ∃ t, PSs (cxOf CX0 P w K mg base N qual (defScope st) f cdv A outer s H E).nox (defBody st) t ∧ t { nx := fun _ H' => Q .non H', rt := Q } (L2.start N vs) H) : FnOk P w K mg base CX0 (k + 1) f fd ps sp := by
  obtain ⟨oc, od, kV, doc, pm, an, cdv, ct, osl, rfl, lk, hcd⟩ := F.ex
  refine fn_of lk hcd S len fun A outer s H vs Q E hr hsp => ?_
  obtain ⟨t, h, q⟩ := hbody cdv A outer s H vs Q E rfl hr hsp
  exact ⟨t, h.nox, q⟩
/-- a def keeps what its body, read by values, tells -/
theorem ok_D {x qual : Str} {st : Stmt} {f : Addr} {fd : FuncData} {N ps : List Str} {k : Nat} {ms : List Bool} {tabs : List Addr} {g : FD} {b : SD} (F : Fun K x qual st f fd) (S : FnScope N ps (defScope st)) (hm : ms.length = ps.length)
    (hb : ∀ (cdv : Value) (A : Around) (outer : List Env) (s : Shared) (H : Hp) (E : XK) (B : Hp) (pv : List V), fd.code = cdv → Room k (A.deeper (envOfC qual (defScope st) s.heap.objs.size f cdv)) → PSs (cxOf CX0 P w K mg base N qual (defScope st) f cdv A outer s H E).nox (defBody st) (LS K ⟨B, mxOf ms 0, pv, tabs, [], fun n P => TabN n H P⟩ b))
    (hg : ∀ l Q, g l Q → fnD N ms b l Q) : FnOk P w K mg base CX0 (k + 1) f fd ps (SpD K tabs ms g) := by
  refine okC F S (fun vs H Q E h => ?_) (fun cdv A outer s H vs Q E hcd hr h => ?_)
  · obtain ⟨_, _, _, _, h, _⟩ := h
    rw [h, hm]
  · obtain ⟨B, F0, l, Q', hl, hd, bh, ta, no, h1, h0, hf, fin⟩ := h
    have tb : Tb tabs [] (fun n P => TabN n H P) B H := ⟨ta, fun _ h => (by cases h), fun _ _ h => h, no⟩
    refine ⟨_, hb cdv A outer s H E B (pickB ms vs) hcd hr, ?_⟩
    have hll := hd.length
    have r0 : RS K ⟨B, mxOf ms 0, pickB ms vs, tabs, [], fun n P => TabN n H P⟩ B (L2.start N vs) H (startD N l) [] := by
      refine ⟨⟨F0, z0, ?_, rfl, fun b => by simp only [z0]; exact h1 b, fun b hb => h0 b (by simpa [z0] using hb)⟩, bh, Same.refl _, fun p hp => ?_, tb⟩
      · unfold L2.start startD
        rw [hll]
        exact hd.slots
      · have := mxOf_pin (ms := ms) (i := 0) (vs := vs) (pre := []) (post := List.replicate (N.length - vs.length) none) hl rfl p hp
        simpa [L2.start] using this
    have key : ∀ d ds', finD ms Q' d ds' → ∀ v σ' H' B', Same B B' → RS K ⟨B, mxOf ms 0, pickB ms vs, tabs, [], fun n P => TabN n H P⟩ B' σ' H' ds' [(v, .own d)] → Q v H' := fun d ds' ⟨nd, l', es, nl, q⟩ v σ' H' B' kb r => by
      obtain ⟨F1, F2, h1, h2, h3, h4⟩ := r.ex
      obtain ⟨G1, G2, g1, g2, rfl⟩ := h2
      obtain ⟨G, g, le⟩ := h1.picks mxOf_nodup (mxOf_len hl) r.pin es
      refine fin d l' q v H' G1 G (kb.trans r.bh) r.tb.all nd nl ?_ (DR.nf _ _ _ nd g1) (DRs.nf _ _ _ nl g) (fun b => ?_) fun b hb => ?_
      · rw [g.length]; exact (mxOf_len hl).symm
      · have := le b; have : F1 b + (G1 b + G2 b) ≤ 1 := h3 b; omega
      · exact kb.free (h4 b (by have := le b; show 0 < F1 b + (G1 b + G2 b); omega))
    refine ⟨B, _, _, r0, hg l Q' hf, fun ds' z σ' H' B' kb r => key _ ds' z .non σ' H' B' kb (r.push (Same.refl _) (Fresh.t (x := .non) rfl)), fun d ds' z v σ' H' B' kb r => key d ds' z v σ' H' B' kb r, fun _ z => z.elim, fun _ z => z.elim⟩
/-- a weaker promise -/
theorem SpD.imp {tabs : List Addr} {ms : List Bool} {f g : FD} (h : ∀ l Q, g l Q → f l Q) {vs : List V} {H : Hp} {Q : VK} {E : XK} (q : SpD K tabs ms g vs H Q E) : SpD K tabs ms f vs H Q E := by
  obtain ⟨B, F, l, Q', a, b, c, d, d2, d3, e, f', r⟩ := q
  exact ⟨B, F, l, Q', a, b, c, d, d2, d3, e, h _ _ f', r⟩
end

/-! ### calls -/
/-- may it be handed on beside what is changed -/
def okA : Tm → Bool
  | .vw _ => false
  | _ => true
/-- the names of what is changed, emptied -/
def clrM : List Bool → List Tm → DS → DS
  | true :: ms, .nm j :: xs, ds => clrM ms xs (ds.set j none)
  | true :: ms, _ :: xs, ds => clrM ms xs ds
  | false :: ms, _ :: xs, ds => clrM ms xs ds
  | _, _, ds => ds
/-- what they held -/
def getM : List Bool → List Tm → DS → Option (List D)
  | [], [], _ => some []
  | true :: ms, .nm j :: xs, ds => match ds[j]? with
    | some (some d) => (getM ms xs (ds.set j none)).map (d :: ·)
    | _ => none
  | false :: ms, _ :: xs, ds => getM ms xs ds
  | _, _, _ => none
/-- the args, as the def takes them -/
def getA : List Bool → List Tm → DS → List D → Option (List D)
  | [], [], _, _ => some []
  | true :: ms, _ :: xs, ds, d :: lm => (getA ms xs ds lm).map (d :: ·)
  | false :: ms, x :: xs, ds, lm => match x.get ds with
    | some d => if okA x = true then (getA ms xs ds lm).map (fz d :: ·) else none
    | none => none
  | _, _, _, _ => none
/-- what they hold then, put back -/
def updM : List Bool → List Tm → List D → DS → DS
  | true :: ms, .nm j :: xs, d :: l', ds => (updM ms xs l' ds).set j (some d)
  | false :: ms, _ :: xs, l', ds => updM ms xs l' ds
  | _, _, _, ds => ds
def dCall (ms : List Bool) (f : FD) (a : AD) : ED := fun ds Q => a ds fun xs ds1 => ∃ lm l, getM ms xs ds1 = some lm ∧ getA ms xs (clrM ms xs ds1) lm = some l ∧ f l fun d l' => Q d (updM ms xs l' (clrM ms xs ds1))
/-- .. that changes nothing -/
def dCallP (n : Nat) (f : FD) (a : AD) : ED := fun ds Q => a ds fun xs ds1 => ∃ l, gets ds1 xs = some l ∧ l.length = n ∧ f (fzs l) fun d _ => Q d ds1
/-- by keywords: is: where each parameter's value stands -/
def permI {α : Type} (is : List Nat) (n : Nat) (l : List α) : List α := if l.length = n then is.filterMap (l[·]?) else []
def dCallK (is : List Nat) (n : Nat) (f : FD) (a : AD) : ED := fun ds Q => a ds fun xs ds1 => ∃ l, gets ds1 xs = some l ∧ l.length = n ∧ (permI is n l).length = n ∧ f (fzs (permI is n l)) fun d _ => Q d ds1
section
variable {K : PySem.W.Frag} {C : FC} {B H : Hp} {σ : L2.St} {ds : DS} {ts : Tms} {v : V} {d : D}
theorem clrM_none {j : Nat} : ∀ {ms : List Bool} {xs : List Tm} {ds : DS}, ds[j]? = some none → (clrM ms xs ds)[j]? = some none
  | [], _, _, h => h
  | true :: ms, [], ds, h => h
  | false :: ms, [], ds, h => h
  | true :: ms, .nm i :: xs, ds, h => by
    simp only [clrM]
    refine clrM_none (ms := ms) ?_
    by_cases e : i = j
    · subst e
      rw [List.getElem?_set_self (List.getElem?_eq_some_iff.mp h).1]
    · rw [List.getElem?_set_ne e]; exact h
  | true :: ms, .own _ :: xs, ds, h => clrM_none (ms := ms) (xs := xs) h
  | true :: ms, .vw _ :: xs, ds, h => clrM_none (ms := ms) (xs := xs) h
  | true :: ms, .pl _ _ :: xs, ds, h => clrM_none (ms := ms) (xs := xs) h
  | false :: ms, _ :: xs, ds, h => clrM_none (ms := ms) (xs := xs) h
theorem updM_none {j : Nat} : ∀ {ms : List Bool} {xs : List Tm} {ds1 ds2 : DS} {lm l' : List D}, getM ms xs ds1 = some lm → ds1[j]? = some none → ds2[j]? = some none → (updM ms xs l' ds2)[j]? = some none
  | [], [], _, _, _, _, _, _, h => h
  | [], _ :: _, _, _, _, _, g, _, _ => by cases g
  | true :: ms, [], _, _, _, _, g, _, _ => by cases g
  | false :: ms, [], _, _, _, _, g, _, _ => by cases g
  | true :: ms, .own _ :: xs, _, _, _, _, g, _, _ => by cases g
  | true :: ms, .vw _ :: xs, _, _, _, _, g, _, _ => by cases g
  | true :: ms, .pl _ _ :: xs, _, _, _, _, g, _, _ => by cases g
  | false :: ms, x :: xs, ds1, ds2, lm, l', g, h1, h2 => by
    simp only [getM] at g
    simp only [updM]
    exact updM_none g h1 h2
  | true :: ms, .nm i :: xs, ds1, ds2, lm, l', g, h1, h2 => by
    simp only [getM] at g
    split at g
    · rename_i d e
      cases q : getM ms xs (ds1.set i none) with
      | none => rw [q] at g; cases g
      | some l0 =>
        have hne : i ≠ j := fun z => by rw [z, h1] at e; cases e
        cases l' with
        | nil => exact h2
        | cons d' l' =>
          simp only [updM]
          rw [List.getElem?_set_ne hne]
          exact updM_none q (by rw [List.getElem?_set_ne hne]; exact h1) h2
    · cases g
/-- what is changed, taken out and put back -/
theorem SlR.take : ∀ {ms : List Bool} {xs : List Tm} {vs : List V} {ds : DS} {F : Fp} {lm : List D}, SlR K B H ds σ F → vs.length = xs.length → (∀ v j, (v, Tm.nm j) ∈ vs.zip xs → σ[j]? = some (some v)) → getM ms xs ds = some lm →
    ∃ Fm Fr, SlR K B H (clrM ms xs ds) σ Fr ∧ DRs K B H lm (pickB ms vs) Fm ∧ (F = fun b => Fm b + Fr b) ∧ lm.length = (pickB ms vs).length ∧
      ∀ B' H' l' F' Fr', l'.length = lm.length → SlR K B' H' (clrM ms xs ds) σ Fr' → DRs K B' H' l' (pickB ms vs) F' → SlR K B' H' (updM ms xs l' (clrM ms xs ds)) σ (fun b => F' b + Fr' b)
  | [], [], vs, ds, F, lm, h, hl, hv, g => by
    cases g
    have : vs = [] := List.eq_nil_of_length_eq_zero hl
    subst this
    refine ⟨z0, F, h, ⟨rfl, rfl⟩, by funext b; simp [z0], rfl, fun B' H' l' F' Fr' e hr hd => ?_⟩
    have : l' = [] := List.eq_nil_of_length_eq_zero e
    subst this
    obtain ⟨_, rfl⟩ := hd
    have e : (fun b => z0 b + Fr' b) = Fr' := by funext b; simp [z0]
    rw [e]; exact hr
  | [], _ :: _, _, _, _, _, _, _, _, g => by cases g
  | true :: ms, [], _, _, _, _, _, _, _, g => by cases g
  | false :: ms, [], _, _, _, _, _, _, _, g => by cases g
  | true :: ms, .own _ :: xs, _, _, _, _, _, _, _, g => by cases g
  | true :: ms, .vw _ :: xs, _, _, _, _, _, _, _, g => by cases g
  | true :: ms, .pl _ _ :: xs, _, _, _, _, _, _, _, g => by cases g
  | _ :: ms, _ :: xs, [], _, _, _, _, hl, _, _ => by simp at hl
  | false :: ms, x :: xs, v :: vs, ds, F, lm, h, hl, hv, g => by
    simp only [getM] at g
    simp only [clrM, pickB, updM]
    exact SlR.take h (by simpa using hl) (fun v' j m => hv v' j (by rw [List.zip_cons_cons]; exact List.mem_cons_of_mem _ m)) g
  | true :: ms, .nm i :: xs, v :: vs, ds, F, lm, h, hl, hv, g => by
    simp only [getM] at g
    split at g
    · rename_i d e
      cases q : getM ms xs (ds.set i none) with
      | none => rw [q] at g; cases g
      | some l0 =>
        rw [q] at g
        cases g
        obtain ⟨w, F1, F2, ew, hd, rfl, _, hr⟩ := h.at e
        have ev := hv v i (by rw [List.zip_cons_cons]; exact List.mem_cons_self)
        rw [ew] at ev; cases ev
        obtain ⟨Fm, Fr, a1, a2, rfl, a4, a5⟩ := SlR.take (ms := ms) (xs := xs) (vs := vs) hr (by simpa using hl) (fun v' j m => hv v' j (by rw [List.zip_cons_cons]; exact List.mem_cons_of_mem _ m)) q
        simp only [clrM, pickB]
        refine ⟨_, Fr, a1, ⟨_, _, F1, Fm, rfl, hd, a2, rfl⟩, by funext b; show F1 b + (Fm b + Fr b) = F1 b + Fm b + Fr b; omega, by simp [a4], fun B' H' l' F' Fr' el hr' hd' => ?_⟩
        cases l' with
        | nil => simp at el
        | cons d' l' =>
          obtain ⟨u, r, G1, G2, e1, g1, g2, rfl⟩ := hd'
          cases e1
          have z := a5 B' H' l' G2 Fr' (by simpa using el) hr' g2
          have hi : i < ds.length := (List.getElem?_eq_some_iff.mp e).1
          have n0 : (ds.set i none)[i]? = some none := by simp [hi]
          have := z.fill (updM_none q n0 (clrM_none n0)) ew g1
          simp only [updM]
          have e2 : (fun b => G1 b + G2 b + Fr' b) = (fun b => G1 b + (G2 b + Fr' b)) := by funext b; omega
          rw [e2]
          exact this
    · cases g
theorem TmR.mem : ∀ {ts : Tms} {F : Fp} {y : V × Tm}, y ∈ ts → TmR K B H σ ts F → ∃ G, (∀ b, G b ≤ F b) ∧ TmR K B H σ [y] G
  | (u, .own d) :: ts, F, y, m, ⟨F1, F2, h1, h2, e⟩ => by
    subst e
    rcases List.mem_cons.mp m with rfl | m
    · exact ⟨F1, fun b => by show F1 b ≤ F1 b + F2 b; omega, F1, z0, h1, rfl, by funext b; simp [z0]⟩
    · obtain ⟨G, le, g⟩ := TmR.mem m h2
      exact ⟨G, fun b => by have := le b; show G b ≤ F1 b + F2 b; omega, g⟩
  | (u, .nm i) :: ts, F, y, m, h => by
    rcases List.mem_cons.mp m with rfl | m
    · exact ⟨z0, fun b => Nat.zero_le _, h.1, rfl⟩
    · exact TmR.mem m h.2
  | (u, .vw d) :: ts, F, y, m, h => by
    rcases List.mem_cons.mp m with rfl | m
    · exact ⟨z0, fun b => Nat.zero_le _, h.1, rfl⟩
    · exact TmR.mem m h.2
  | (u, .pl i p) :: ts, F, y, m, h => by
    rcases List.mem_cons.mp m with rfl | m
    · exact ⟨z0, fun b => Nat.zero_le _, h.1, rfl⟩
    · exact TmR.mem m h.2
theorem VB.atp : ∀ {p : List Nat} {d e : D} {v : V}, VB K B H d v → pget d p = some e → ∃ w, VP H v p w ∧ VB K B H e w
  | [], d, e, v, h, g => by cases g; exact ⟨v, rfl, h⟩
  | j :: p, .lst xs, e, v, h, g => by
    obtain ⟨a, vs, rfl, s, r⟩ := h
    simp only [pget] at g
    cases z : xs[j]? with
    | none => rw [z] at g; cases g
    | some x =>
      rw [z] at g
      obtain ⟨u, eu, hu⟩ := r.get z
      obtain ⟨w, a1, a2⟩ := VB.atp (p := p) hu g
      exact ⟨w, ⟨a, vs, u, rfl, .inl s, eu, a1⟩, a2⟩
  | j :: p, .tupM xs, e, v, h, g => by
    obtain ⟨a, vs, rfl, s, r⟩ := h
    simp only [pget] at g
    cases z : xs[j]? with
    | none => rw [z] at g; cases g
    | some x =>
      rw [z] at g
      obtain ⟨u, eu, hu⟩ := r.get z
      obtain ⟨w, a1, a2⟩ := VB.atp (p := p) hu g
      exact ⟨w, ⟨a, vs, u, rfl, .inr s, eu, a1⟩, a2⟩
  | _ :: _, .t _, _, _, _, g => by cases g
  | _ :: _, .frz _, _, _, _, g => by cases g
  | _ :: _, .scr _, _, _, _, g => by cases g
/-- all but what is changed -/
def barr (B H : Hp) (Fm : Fp) : Hp := fun b => match H b with
  | some (.lst xs) => if 0 < Fm b then none else some (.lst xs)
  | some (.tbl _) => none
  | o => o
theorem barr_le {Fm : Fp} (k : Same B H) : Same (barr B H Fm) H := fun b o e => by
  unfold barr at e
  cases q : H b with
  | none => rw [q] at e; cases e
  | some u =>
    rw [q] at e
    cases u with
    | lst xs =>
      have e : (if 0 < Fm b then none else some (HO.lst xs)) = some o := e
      split at e
      · cases e
      · exact e
    | tbl _ => cases e
    | _ => exact e
theorem barr_same {Fm : Fp} (k : Same B H) (no : ∀ b ps, B b ≠ some (.tbl ps)) (h : ∀ b, 0 < Fm b → B b = none) : Same B (barr B H Fm) := fun b o e => by
  have e' := k b o e
  unfold barr
  rw [e']
  cases o with
  | lst xs =>
    have : ¬ 0 < Fm b := fun z => by rw [h b z] at e; cases e
    show (if 0 < Fm b then none else some (HO.lst xs)) = _
    rw [if_neg this]
  | tbl ps => exact (no b ps e).elim
  | _ => rfl
theorem barr_no {Fm : Fp} : ∀ b ps, barr B H Fm b ≠ some (.tbl ps) := fun b ps e => by
  unfold barr at e
  cases q : H b with
  | none => rw [q] at e; cases e
  | some u =>
    rw [q] at e
    cases u with
    | lst xs =>
      have e : (if 0 < Fm b then none else some (HO.lst xs)) = some (.tbl ps) := e
      split at e <;> cases e
    | _ => cases e
theorem barr_none {Fm : Fp} {b : Addr} (e : barr B H Fm b = none) : H b = none ∨ (∃ ps, H b = some (.tbl ps)) ∨ 0 < Fm b := by
  unfold barr at e
  cases q : H b with
  | none => exact .inl rfl
  | some u =>
    rw [q] at e
    cases u with
    | lst xs =>
      have e : (if 0 < Fm b then none else some (HO.lst xs)) = none := e
      split at e
      · rename_i h; exact .inr (.inr h)
      · cases e
    | tbl ps => exact .inr (.inl ⟨ps, rfl⟩)
    | _ => cases e
theorem barr_kt {Fm : Fp} : KT H (barr B H Fm) := fun b o n n2 e => by
  unfold barr
  rw [e]
  cases o <;> first | rfl | exact absurd rfl (n _) | exact absurd rfl (n2 _)
theorem barr_lst {Fm : Fp} {b : Addr} {xs : List V} (hb : Fm b = 0) (e : H b = some (.lst xs)) : barr B H Fm b = some (.lst xs) := by
  unfold barr
  rw [e]
  simp [hb]
/-- an argument that is not changed -/
theorem arg_view {Fm Fr Ft G : Fp} {x : Tm} (hs : SlR K B H ds σ Fr) (h : TmR K B H σ [(v, x)] G) (ok : okA x = true) (e : x.get ds = some d) (bh : Same B H) (no : ∀ b ps, B b ≠ some (.tbl ps)) (hB : ∀ b, 0 < Fm b → B b = none) (h1 : ∀ b, 0 < Fr b → Fm b = 0) (h2 : ∀ b, 0 < G b → Fm b = 0) : VB K (barr B H Fm) (barr B H Fm) d v := by
  have kb := barr_same bh no hB
  have fr : ∀ {d : D} {v : V} {F : Fp}, DR K B H d v F → (∀ b, 0 < F b → Fm b = 0) → VB K (barr B H Fm) (barr B H Fm) d v := fun {d v F} h z =>
    DR.freeze kb barr_kt d v F (fun b xs hb e => barr_lst (z b hb) e) h
  cases x with
  | own d' =>
    cases e
    obtain ⟨A1, A2, a1, a2, rfl⟩ := h
    exact fr a1 fun b hb => h2 b (by show 0 < A1 b + A2 b; omega)
  | vw d' => cases ok
  | nm i =>
    have e' : ds[i]? = some (some d) := by
      simp only [Tm.get] at e
      cases q : ds[i]? with
      | none => rw [q] at e; simp at e
      | some o => rw [q] at e; simp at e; rw [e]
    obtain ⟨w, F1, F2, ew, hd, rfl, _⟩ := hs.at e'
    rw [h.1] at ew; cases ew
    exact fr hd fun b hb => h1 b (by show 0 < F1 b + F2 b; omega)
  | pl i p =>
    simp only [Tm.get] at e
    cases q : ds[i]? with
    | none => rw [q] at e; simp at e
    | some o =>
      rw [q] at e
      cases o with
      | none => simp at e
      | some d0 =>
        obtain ⟨w, F1, F2, ew, hd, rfl, _⟩ := hs.at q
        obtain ⟨⟨v0, e0, vp⟩, _⟩ := h
        rw [e0] at ew; cases ew
        obtain ⟨u, a1, a2⟩ := VB.atp (fr hd fun b hb => h1 b (by show 0 < F1 b + F2 b; omega)) (by simpa using e)
        have := (VP.mono (barr_le bh) a1).fn vp
        subst this
        exact a2
theorem args_held {Fm Fr Ft : Fp} (hs : SlR K B H ds σ Fr) (ht : TmR K B H σ ts Ft) (bh : Same B H) (no : ∀ b ps, B b ≠ some (.tbl ps)) (hB : ∀ b, 0 < Fm b → B b = none) (h1 : ∀ b, 0 < Fr b → Fm b = 0) (h2 : ∀ b, 0 < Ft b → Fm b = 0) :
    ∀ {ms : List Bool} {xs : List Tm} {vs : List V} {lm l : List D} {F : Fp}, vs.length = xs.length → (∀ p ∈ vs.zip xs, p ∈ ts) → getA ms xs ds lm = some l → DRs K B H lm (pickB ms vs) F → vs.length = ms.length ∧ DRs K (barr B H Fm) H l vs F
  | [], [], vs, lm, l, F, hl, hm, g, hd => by
    have : vs = [] := List.eq_nil_of_length_eq_zero hl
    subst this
    cases lm with
    | nil => cases g; exact ⟨rfl, hd⟩
    | cons d lm => cases g; obtain ⟨_, _, _, _, e, _⟩ := hd; cases e
  | [], _ :: _, _, _, _, _, _, _, g, _ => by cases g
  | true :: ms, [], _, _, _, _, _, _, g, _ => by cases g
  | false :: ms, [], _, _, _, _, _, _, g, _ => by cases g
  | _ :: ms, _ :: xs, [], _, _, _, hl, _, _, _ => by simp at hl
  | true :: ms, x :: xs, v :: vs, lm, l, F, hl, hm, g, hd => by
    cases lm with
    | nil => cases g
    | cons d lm =>
      simp only [getA] at g
      cases q : getA ms xs ds lm with
      | none => rw [q] at g; cases g
      | some l0 =>
        rw [q] at g
        cases g
        obtain ⟨u, r, F1, F2, e, a1, a2, rfl⟩ := hd
        simp only [pickB] at e
        cases e
        obtain ⟨e1, e2⟩ := args_held hs ht bh no hB h1 h2 (by simpa using hl) (fun p m => hm p (by rw [List.zip_cons_cons]; exact List.mem_cons_of_mem _ m)) q a2
        exact ⟨by simp [e1], v, vs, F1, F2, rfl, a1.same (barr_same bh no hB) (Same.refl _), e2, rfl⟩
  | false :: ms, x :: xs, v :: vs, lm, l, F, hl, hm, g, hd => by
    simp only [getA] at g
    split at g
    · rename_i d e
      split at g
      · rename_i ok
        cases q : getA ms xs ds lm with
        | none => rw [q] at g; cases g
        | some l0 =>
          rw [q] at g
          cases g
          obtain ⟨G, le, a1⟩ := ht.mem (hm (v, x) (by rw [List.zip_cons_cons]; exact List.mem_cons_self))
          have w := arg_view (Ft := Ft) hs a1 ok e bh no hB h1 fun b hb => h2 b (by have := le b; omega)
          obtain ⟨e1, e2⟩ := args_held hs ht bh no hB h1 h2 (by simpa using hl) (fun p m => hm p (by rw [List.zip_cons_cons]; exact List.mem_cons_of_mem _ m)) q (by simpa only [pickB] using hd)
          exact ⟨by simp [e1], v, vs, z0, F, rfl, VB.held _ _ (cp_fz d) (VB.mono (Same.refl _) (barr_le bh) _ _ (VB.fz _ _ w)), e2, by funext b; simp [z0]⟩
      · cases g
    · cases g
theorem call_runM {ms : List Bool} {f : FD} {a : AD} {H : Hp} {Q : VK} {E : XK} (h : LE K C false (dCall ms f a) σ H Q) : LA K C false a σ H fun vs H1 => SpD K C.tabs ms f (vs ++ []) H1 Q E := by
  obtain ⟨B, ds, ts, P, rs, nv, t, q⟩ := h
  have nv := nv rfl
  refine ⟨B, ds, ts, _, rs, fun _ => nv, t, fun xs ds1 ⟨lm, l, e1, e2, hf⟩ vs H1 B1 kb1 hl r1 => ?_⟩
  show SpD K C.tabs ms f (vs ++ []) H1 Q E
  rw [List.append_nil]
  obtain ⟨F1, F2, h1, h2, h3, h4⟩ := r1.ex
  have hmem : ∀ p ∈ vs.zip xs, p ∈ (vs.zip xs).reverse ++ ts := fun p m => List.mem_append_left _ (List.mem_reverse.mpr m)
  obtain ⟨Fm, Fr, a1, a2, rfl, a4, back⟩ := SlR.take h1 hl (fun v j m => by
    obtain ⟨G, _, g⟩ := h2.mem (hmem _ m)
    exact g.1) e1
  have tot : ∀ b, Fm b + Fr b + F2 b ≤ 1 := h3
  have hB : ∀ b, 0 < Fm b → B1 b = none := fun b hb => h4 b (by show 0 < Fm b + Fr b + F2 b; omega)
  obtain ⟨hlm, hd⟩ := args_held (Fm := Fm) (Fr := Fr) (Ft := F2) a1 h2 r1.bh r1.tb.no hB (fun b hb => by have := tot b; omega) (fun b hb => by have := tot b; omega) hl hmem e2 a2
  refine ⟨barr B1 H1 Fm, Fm, l, _, hlm, hd, barr_le r1.bh, r1.tb.at_, barr_no, fun b => by have := tot b; omega, fun b hb => ?_, hf, fun d l' z v H' G1 G2 bh' ht' nd nl ll g1 g2 gs gn => ?_⟩
  · obtain ⟨xs', e⟩ := DRs.there _ _ _ a2 b hb
    unfold barr
    rw [e]
    simp [hb]
  have kt : KT H1 H' := fun b o n n2 e => bh' b o (barr_kt b o n n2 e)
  have keep : ∀ {G : Fp}, (∀ b, 0 < G b → Fm b = 0) → ∀ b ys, 0 < G b → H1 b = some (.lst ys) → H' b = some (.lst ys) := fun {G} hG b ys hb e => bh' b _ (barr_lst (hG b hb) e)
  obtain ⟨F2', le2, h2'⟩ := TmR.part h2
  have s1 := back B1 H' l' G2 Fr (by rw [ll, a4]; exact mxOf_len hlm) (a1.mono (Same.refl _) kt (keep fun b hb => by have := tot b; omega)) (DRs.nf _ _ _ nl g2)
  have kt' : KT H1 H' := kt
  have B1b : Same B1 H' := (barr_same r1.bh r1.tb.no hB).trans bh'
  refine q _ _ z v H' B1 kb1 ⟨⟨_, _, s1, ⟨G1, F2', DR.nf _ _ _ nd g1, h2'.kt (Same.refl _) kt nv (keep fun b hb => by have := tot b; have := le2 b; omega), rfl⟩, fun b => ?_, fun b hb => ?_⟩, B1b, r1.b0, r1.pin, r1.tb.keep kt' ht'⟩
  · show G2 b + Fr b + (G1 b + F2' b) ≤ 1
    have t0 := tot b
    have t1 := le2 b
    have t2 := gs b
    by_cases hg : 0 < G1 b + G2 b
    · have n := gn b hg
      have : Fr b = 0 ∧ F2' b = 0 := by
        have key : ∀ {xs : List V}, H1 b = some (.lst xs) → Fm b = 0 → False := fun {xs} e hm => by
          rw [barr_lst hm e] at n; cases n
        refine ⟨?_, ?_⟩
        · by_cases c : 0 < Fr b
          · obtain ⟨xs, e⟩ := a1.there b c
            exact (key e (by omega)).elim
          · omega
        · by_cases c : 0 < F2' b
          · obtain ⟨xs, e⟩ := h2'.there b c
            exact (key e (by omega)).elim
          · omega
      omega
    · omega
  · have hb : 0 < G2 b + Fr b + (G1 b + F2' b) := hb
    by_cases hg : 0 < G1 b + G2 b
    · exact (barr_same r1.bh r1.tb.no hB).free (gn b hg)
    · exact h4 b (by have := le2 b; show 0 < Fm b + Fr b + F2 b; omega)
theorem pickB_false {α : Type} : ∀ {n : Nat} {l : List α}, pickB (List.replicate n false) l = []
  | 0, _ => by simp [pickB]
  | n + 1, [] => rfl
  | n + 1, x :: xs => by simp only [List.replicate_succ, pickB]; exact pickB_false
theorem mxOf_false : ∀ {n i : Nat}, mxOf (List.replicate n false) i = []
  | 0, _ => rfl
  | n + 1, i => by simp only [List.replicate_succ, mxOf]; exact mxOf_false
mutual
theorem VB.ownT (bh : Same B H) (no : ∀ b ps, B b ≠ some (.tbl ps)) : ∀ (d : D) (v : V), VB K B H d v → VB K (barr B H z0) (barr B H z0) d v
  | .t x, v, h => TR.mono barr_kt x v h
  | .lst xs, v, h => by
    obtain ⟨a, vs, e, s, r⟩ := h
    exact ⟨a, vs, e, barr_lst rfl s, VBs.ownT bh no xs vs r⟩
  | .frz xs, v, h => by
    obtain ⟨a, vs, e, s, r⟩ := h
    have k := barr_same (Fm := z0) bh no fun b hb => absurd hb (Nat.lt_irrefl 0)
    exact ⟨a, vs, e, k _ _ s, VBs.mono k k xs vs r⟩
  | .scr xs, v, h => by
    obtain ⟨a, vs, e, s, r⟩ := h
    have k := barr_same (Fm := z0) bh no fun b hb => absurd hb (Nat.lt_irrefl 0)
    exact ⟨a, vs, e, k.seq s, VBs.mono k k xs vs r⟩
  | .tupM xs, v, h => by
    obtain ⟨a, vs, e, s, r⟩ := h
    exact ⟨a, vs, e, barr_kt _ _ (fun _ q => nomatch q) (fun _ q => nomatch q) s, VBs.ownT bh no xs vs r⟩
theorem VBs.ownT (bh : Same B H) (no : ∀ b ps, B b ≠ some (.tbl ps)) : ∀ (d : List D) (v : List V), VBs K B H d v → VBs K (barr B H z0) (barr B H z0) d v
  | [], v, h => h
  | x :: xs, vs, h => by
    obtain ⟨v, r, e, h1, h2⟩ := h
    exact ⟨v, r, e, VB.ownT bh no x v h1, VBs.ownT bh no xs r h2⟩
end
mutual
theorem VB.own (bh : Same B H) : ∀ (d : D) (v : V), VB K B H d v → VB K H H d v
  | .t x, v, h => h
  | .lst xs, v, h => by
    obtain ⟨a, vs, e, s, r⟩ := h
    exact ⟨a, vs, e, s, VBs.own bh xs vs r⟩
  | .frz xs, v, h => by
    obtain ⟨a, vs, e, s, r⟩ := h
    exact ⟨a, vs, e, bh _ _ s, VBs.mono bh bh xs vs r⟩
  | .scr xs, v, h => by
    obtain ⟨a, vs, e, s, r⟩ := h
    exact ⟨a, vs, e, bh.seq s, VBs.mono bh bh xs vs r⟩
  | .tupM xs, v, h => by
    obtain ⟨a, vs, e, s, r⟩ := h
    exact ⟨a, vs, e, s, VBs.own bh xs vs r⟩
theorem VBs.own (bh : Same B H) : ∀ (d : List D) (v : List V), VBs K B H d v → VBs K H H d v
  | [], v, h => h
  | x :: xs, vs, h => by
    obtain ⟨v, r, e, h1, h2⟩ := h
    exact ⟨v, r, e, VB.own bh x v h1, VBs.own bh xs r h2⟩
end
/-- a call that changes nothing, at values that are seen -/
theorem callP_at {tabs : List Addr} {n : Nat} {f : FD} {E : XK} {B H : Hp} {l : List D} {vs : List V} {Q' : D → List D → Prop} {Q : VK} (bh : Same B H) (ta : ∀ P ∈ tabs, TabN 4 H P) (no : ∀ b ps, B b ≠ some (.tbl ps)) (w : VBs K B H l vs) (hn : l.length = n) (hf : f (fzs l) Q') (q : ∀ d v H', SameT H H' → KeepT H H' → FreshT K B H H' d v → Q' d [] → Q v H') :
    SpD K tabs (List.replicate n false) f vs H Q E := by
  have hl := w.length
  refine ⟨barr B H z0, z0, fzs l, Q', by simp [← hl, hn], VBs.held _ _ (cps_fzs l) (VBs.mono (Same.refl _) (barr_le bh) _ _ (VBs.fz _ _ (VBs.ownT bh no _ _ w))), barr_le bh, ta, barr_no, fun _ => Nat.zero_le _, fun _ hb => absurd hb (Nat.lt_irrefl 0), hf, fun d l' z v H' Fr F' k' ht' nd nl ll g1 g2 gs gn => ?_⟩
  have el : l' = [] := List.eq_nil_of_length_eq_zero (by rw [ll, mxOf_false]; rfl)
  subst el
  refine q d v H' (fun b o n e => k' b o ?_) ht' ⟨Fr, DR.nf _ _ _ nd g1, fun b => by have := gs b; omega, fun b hb => ?_⟩ z
  · unfold barr
    rw [e]
    cases o with
    | lst xs => simp [z0]
    | tbl ps => exact (n ps rfl).elim
    | _ => rfl
  · rcases barr_none (gn b (by omega)) with e | e | e
    · exact .inl e
    · exact .inr e
    · exact absurd e (by simp [z0])
variable {p : Bool}
theorem call_runP {n : Nat} {f : FD} {a : AD} {H : Hp} {Q : VK} {E : XK} (h : LE K C p (dCallP n f a) σ H Q) : LA K C p a σ H fun vs H1 => SpD K C.tabs (List.replicate n false) f (vs ++ []) H1 Q E := by
  obtain ⟨B, ds, ts, P, rs, nv, t, q⟩ := h
  refine ⟨B, ds, ts, _, rs, nv, t, fun xs ds1 ⟨l, e, hn, hf⟩ vs H1 B1 kb1 hl r1 => ?_⟩
  show SpD K C.tabs _ f (vs ++ []) H1 Q E
  rw [List.append_nil]
  exact callP_at r1.bh r1.tb.at_ r1.tb.no (r1.views hl e) hn hf fun d v H' k ht fr z => q _ _ z v H' B1 kb1 ((r1.pushT k ht fr).drops2)
theorem filterMap_views {l : List D} {vs : List V} (w : VBs K B H l vs) : ∀ (is : List Nat), VBs K B H (is.filterMap (l[·]?)) (is.filterMap (vs[·]?))
  | [] => rfl
  | i :: is => by
    cases e : l[i]? with
    | none =>
      have e' : vs[i]? = none := by rw [List.getElem?_eq_none_iff] at e ⊢; rw [← w.length]; exact e
      rw [List.filterMap_cons_none e, List.filterMap_cons_none e']
      exact filterMap_views w is
    | some d =>
      obtain ⟨v, e', wv⟩ := w.get e
      rw [List.filterMap_cons_some e, List.filterMap_cons_some e']
      exact ⟨v, _, rfl, wv, filterMap_views w is⟩
theorem call_runK {is : List Nat} {n : Nat} {f : FD} {a : AD} {H : Hp} {Q : VK} {E : XK} (h : LE K C p (dCallK is n f a) σ H Q) : LA K C p a σ H fun vs H1 => SpD K C.tabs (List.replicate n false) f (permI is n vs) H1 Q E := by
  obtain ⟨B, ds, ts, P, rs, nv, t, q⟩ := h
  refine ⟨B, ds, ts, _, rs, nv, t, fun xs ds1 ⟨l, e, hn, hn2, hf⟩ vs H1 B1 kb1 hl r1 => ?_⟩
  have w := r1.views hl e
  refine callP_at r1.bh r1.tb.at_ r1.tb.no (l := permI is n l) ?_ hn2 hf fun d v H' k ht fr z => q _ _ z v H' B1 kb1 ((r1.pushT k ht fr).drops2)
  unfold permI
  rw [if_pos hn, if_pos (by rw [← w.length]; exact hn)]
  exact filterMap_views w is
end
/-! ### the rules -/
section
variable {X : Cx} {C : FC} {p p2 : Bool} {pos pp : Pos} {e : Expr} {es : List Expr} {a : AD} {kws : List Keyword} {k : Nat} {f : Addr} {fd : FuncData} {ps ks : List Str} {x : Str} {g : FD} {ms : List Bool}
theorem e_callM (F : FnOk X.prog X.w X.K X.mg X.base CX0 k f fd ps (SpD X.K C.tabs ms g)) (hr : Room k X.A) (hg : Gl X x) (hm : X.mg x = some (.ref f)) (hk : PySem.W.keepIn X.K (.ref f) = true) (hb : Binds X.K fd ps []) (ha : PA X (e :: es) (LA X.K C false a))
    (hdb : (x == ("__debug__" : Str)) = false := by decide) (he : starEach (e :: es) X.env = (false, eval e X.env) :: starEach es X.env := by rfl) (hpl : (backTo pos (starEach es X.env)).any (·.1) = false := by rfl) : PE X (.Call (.Name x pp) (e :: es) [] pos) (LE X.K C false (dCall ms g a)) :=
  (pe_call F hr hg hm hk hb .nil pass0 ha hdb he hpl).imp fun _ _ _ h => call_runM h
theorem e_callP {n : Nat} (F : FnOk X.prog X.w X.K X.mg X.base CX0 k f fd ps (SpD X.K C.tabs (List.replicate n false) g)) (hr : Room k X.A) (hg : Gl X x) (hm : X.mg x = some (.ref f)) (hk : PySem.W.keepIn X.K (.ref f) = true) (hb : Binds X.K fd ps []) (ha : PA X (e :: es) (LA X.K C p a))
    (hdb : (x == ("__debug__" : Str)) = false := by decide) (he : starEach (e :: es) X.env = (false, eval e X.env) :: starEach es X.env := by rfl) (hpl : (backTo pos (starEach es X.env)).any (·.1) = false := by rfl) : PE X (.Call (.Name x pp) (e :: es) [] pos) (LE X.K C p (dCallP n g a)) :=
  (pe_call F hr hg hm hk hb .nil pass0 ha hdb he hpl).imp fun _ _ _ h => call_runP h
theorem k_nil : PK X [] (LA X.K C p aNil) := PK.imp (t := tNil) pk_nil fun σ H Q ⟨B, ds, ts, P, r, nv, t, q⟩ => q _ _ t [] H B (Same.refl _) rfl r
theorem k_cons {nm : Option Str} {kpos : Pos} {o : OD} (ha : PE X e (LO X.K C p o)) (hr : PK X kws (LA X.K C p2 a)) (hp : p = true → p2 = true := by decide) : PK X (⟨nm, e, kpos⟩ :: kws) (LA X.K C p (aCons p2 o a)) :=
  PK.imp (pk_cons ha hr) fun σ H Q ⟨B, ds, ts, P, r, nv, t, q⟩ => by
    refine ⟨B, ds, ts, _, r, nv, t, fun tm ds1 ⟨n1, z⟩ v1 H1 B1 kb1 r1 => ?_⟩
    have nv2 : p2 = false → novw ts := fun e => nv (by cases p; rfl; exact absurd (hp rfl) (by rw [e]; decide))
    refine ⟨B1, ds1, _, _, r1, nv_cons n1 nv2, z, fun tms ds2 z2 vs H2 B2 kb2 hl r2 => ?_⟩
    refine q _ _ z2 (v1 :: vs) H2 B2 (kb1.trans kb2) (by simp [hl]) ?_
    rw [List.zip_cons_cons, List.reverse_cons, List.append_assoc]
    exact r2
def kwG {α : Type} (is : List Nat) (n : Nat) (us ws : List α) : List α := match us with
  | [] => permI is n ws
  | _ => []
theorem e_callK {n : Nat} {is : List Nat} (F : FnOk X.prog X.w X.K X.mg X.base CX0 k f fd ps (SpD X.K C.tabs (List.replicate n false) g)) (hr : Room k X.A) (hg : Gl X x) (hm : X.mg x = some (.ref f)) (hk : PySem.W.keepIn X.K (.ref f) = true) (hb : KBinds X.K fd ps ks (kwG is n) (kwG is n)) (ha : PK X kws (LA X.K C p a))
    (hall : (backToKw pos (keywordEach kws X.env)).all (·.1.isSome) = true := by rfl) (hks : (backToKw pos (keywordEach kws X.env)).filterMap (·.1) = ks := by rfl) (hdb : (x == ("__debug__" : Str)) = false := by decide)
    (hpl : ((backTo pos (starEach [] X.env)).any (·.1) || (backToKw pos (keywordEach kws X.env)).any (·.1.isNone)) = false := by rfl) : PE X (.Call (.Name x pp) [] kws pos) (LE X.K C p (dCallK is n g a)) :=
  (pe_callK0 F hr hg hm hk hb pass0 ha hall hks hdb hpl).imp fun _ _ _ h => call_runK h
/-- how the keywords bind -/
theorem kb_mk {K : PySem.W.Frag} {qual : Str} {st : Stmt} {n : Nat} {is : List Nat} (F : Fun K x qual st f fd) (hn : 0 < ps.length) (h : ∀ (kV doc pm : Value) (an : Option Addr) (cdv ct : Value) (ws : List Value), ws.length = n → bindArgs (PySem.W.fnOf x qual (defArgs st) (defBody st) (defScope st) .none kV doc pm an cdv ct) ⟨[], ks.zip ws⟩ = pure (ps.zip (permI is n ws))) :
    KBinds K fd ps ks (kwG is n) (kwG is n) := by
  obtain ⟨oc, od, kV, doc, pm, an, cdv, ct, osl, rfl, lk, hcd⟩ := F.ex
  refine ⟨fun s us ws _ hl => ?_, fun {vs us zs ws} r rz => ?_⟩
  · cases us with
    | cons u us => simp [kwG] at hl; omega
    | nil =>
      have hw : ws.length = n := by
        by_cases e : ws.length = n
        · exact e
        · simp [kwG, permI, e] at hl; omega
      exact .of_eq (h kV doc pm an cdv ct ws hw)
  · cases r with
    | cons _ _ => exact .nil
    | nil =>
      show Vals (permI is n zs) (permI is n ws)
      unfold permI
      have hl := rz.length
      by_cases e : zs.length = n
      · rw [if_pos e, if_pos (by omega)]
        clear h F lk
        induction is with
        | nil => exact .nil
        | cons i is ih =>
          cases q : zs[i]? with
          | none =>
            have q' : ws[i]? = none := by rw [List.getElem?_eq_none_iff] at q ⊢; omega
            rw [List.filterMap_cons_none q, List.filterMap_cons_none q']
            exact ih
          | some v =>
            obtain ⟨u, q', ru⟩ := rz.get q
            rw [List.filterMap_cons_some q, List.filterMap_cons_some q']
            exact .cons ru ih
      · rw [if_neg e, if_neg (by omega)]
        exact .nil
end
end Dn

set_option Elab.async false
set_option linter.all false
set_option maxRecDepth 100000
set_option maxHeartbeats 4000000
/-! Dn14: tuple * int; isinstance. -/
namespace L2
open PySem PySem.Spec PyProof.Rows
theorem tuple_mul1 (l : Addr) (items : Array Value) (n : Nat) (dd : Option Addr) (sl : Array (Option Value)) (u : Tok) :
    Meets (Builtin.«tuple.__mul__» ⟨[.ref l, .int 1 u], []⟩) (fun _ R s => s.heap.get? l = some { cls := .type "tuple", dict := dd, data := .seq items n, slots := sl } ∧ R (.ok (.ret (Value.ref l))) s) :=
  .of_wp fun prog w A R s h => by
    obtain ⟨hp, g, d, tk, os⟩ := s
    obtain ⟨hl, h⟩ := h
    have f1 := AutoSeq1.idx_int
    have c0 : (decide ((1 : Int) < -(2 ^ 63)) || decide ((1 : Int) ≥ 2 ^ 63)) = false := by decide
    have c1 : (items.isEmpty || (1 : Int) == 1) = true := by simp
    wp_walk using wpAny_loadPart' hl
    repeat (first
      | (refine wpAny_ite_false (decide_eq_false (by rw [c0]; exact Bool.false_ne_true)) ?_; wp_walk using wpAny_loadPart' hl)
      | (refine wpAny_ite_true (decide_eq_true (by rw [c1])) ?_; wp_walk using wpAny_loadPart' hl))
    exact ⟨_, rfl, h⟩
def rRep1 (K : PySem.W.Frag) : R2 := fun x y H Q => ∃ l xs, x = .ref l ∧ y = .int 1 ∧ SqT K H l xs ∧ Q (.ref l) H
theorem op_rep1 {X : Cx} : OpR X (binaryOp .Mult) (rRep1 X.K) := by
  intro pins s σ H x y v u Q I rx ry h
  obtain ⟨l, xs, rfl, rfl, hT, q⟩ := h
  cases rx
  obtain ⟨t, rfl⟩ := ry
  obtain ⟨its, r, ⟨⟨cls, dd, data, sl⟩, ho, hc, n, hd⟩, hs⟩ := I.tuple hT
  simp only at hc hd
  subst hc hd
  refine wpAny_binaryOp_repeat_ref (T := "tuple") (U := "int") (by decide) ⟨_, ho, rfl⟩ (fun s' => typeIs_int s' 1 t) noFill_tuple_mul F.fills_int_mul F.slot_int_rmul repeat_tuple F.slot_int_index.lookup
    (call_meets F.slot_int_rmul (typeIs_int s 1 t) F.entry_int_rmul (F.args_int_rmul_2 _ _) (int_rmul_tuple 1 t l its.toArray n dd sl)
      ⟨ho, rfl, ⟨_, ho, rfl⟩, call_meets F.slot_tuple_mul ⟨_, ho, rfl⟩ F.entry_tuple_mul (F.args_tuple_mul_2 _ _) (tuple_mul1 l its.toArray n dd sl t) ⟨ho, ?_⟩⟩)
  exact ⟨.ref l, H, I, rfl, q⟩
end L2
namespace Dn
open PySem PySem.Spec PyProof.Rows L2
section
variable {K : PySem.W.Frag}
/-- a * b, tuples too -/
def fMulT : F2
  | .t (.tup xs), .t (.int k), Q => xs ≠ [] ∧ 1 ≤ k ∧ k ≤ 1000 ∧ xs.length ≤ 1000 ∧ Q (.t (.tup (List.replicate k.toNat xs).flatten))
  | a, b, Q => fMul a b Q
def rMulT (K : PySem.W.Frag) : R2 := fun x y H Q => rRep1 K x y H Q ∨ rRepT K x y H Q ∨ rMulAll x y H Q
theorem op_mulT {X : Cx} : OpR X (binaryOp .Mult) (rMulT X.K) := op_rep1.or (op_repT.or op_mulAll)
theorem TRs.rep {H : Hp} {xs : List T} {vs : List V} (r : TRs K H xs vs) : ∀ n, TRs K H (List.replicate n xs).flatten (List.replicate n vs).flatten
  | 0 => rfl
  | n + 1 => by rw [List.replicate_succ, List.replicate_succ, List.flatten_cons, List.flatten_cons]; exact r.append (TRs.rep r n)
theorem r_mulT : R2' K fMulT (rMulT K) := by
  intro B H v1 v2 d1 d2 Q' Q k w1 w2 h q
  unfold fMulT at h
  split at h
  · rename_i xs n
    obtain ⟨a, vs, rfl, s, r⟩ := w1
    obtain ⟨hn, b1, b2, hl, h⟩ := h
    have hlen := TRs.length r
    by_cases e : n = 1
    · subst e
      refine .inl ⟨a, vs, rfl, w2, SqT.of s, q _ _ H (Same.refl _) (Fresh.t (x := .tup (List.replicate (1 : Int).toNat xs).flatten) ?_) h⟩
      have e : (List.replicate (1 : Int).toNat xs).flatten = xs := by simp
      rw [e]
      exact ⟨a, vs, rfl, s, r⟩
    · refine .inr (.inl ⟨a, n, vs, rfl, w2, SqT.of s, fun z => hn (List.eq_nil_of_length_eq_zero (by rw [hlen, z]; rfl)), by omega, by omega, by omega, fun p hp => q _ _ _ (same_new hp) (Fresh.t (x := .tup (List.replicate n.toNat xs).flatten) ?_) h⟩)
      exact ⟨p, _, rfl, upd_same, TRs.mono (.of (same_new hp)) _ _ (r.rep n.toNat)⟩
  · exact .inr (.inr (r_mul B H v1 v2 d1 d2 Q' Q k w1 w2 h q))
/-! ### isinstance -/
def tyD : D → String
  | .t .non => "NoneType"
  | .t (.bl _) => "bool"
  | .t (.int _) => "int"
  | .t (.str _) => "str"
  | .t (.tup _) => "tuple"
  | .lst _ => "list"
  | .frz _ => "list"
  | .scr _ => "list"
  | .tupM _ => "tuple"
theorem tyX {B H : Hp} {d : D} {v : V} (k : Same B H) (w : VB K B H d v) : TyX K H v (.type (tyD d)) := by
  cases d with
  | t x =>
    cases x with
    | non => rw [show v = .non from w]; exact .base .non
    | bl b => rw [show v = .bl b from w]; exact .base (.bl b)
    | int i => rw [show v = .int i from w]; exact .base (.int i)
    | str x => rw [show v = .str x from w]; exact .base (.str x)
    | tup xs => obtain ⟨a, vs, rfl, s, r⟩ := w; exact .base (.tup s)
  | lst xs => obtain ⟨a, vs, rfl, s, r⟩ := w; exact .base (.lst s)
  | frz xs => obtain ⟨a, vs, rfl, s, r⟩ := w; exact .base (.lst (k _ _ s))
  | scr xs =>
    obtain ⟨a, vs, rfl, s, r⟩ := w
    rcases s with (s | ⟨o, s⟩) | ⟨o, its, n, e, c, _⟩
    · exact .base (.lst (k _ _ s))
    · exact .base (.frz (k _ _ s))
    · exact .kList e c
  | tupM xs => obtain ⟨a, vs, rfl, s, r⟩ := w; exact .base (.tup s)
/-- which of the five types -/
inductive Ty5 where
  | tuple | list | int | bool | str
def Ty5.nm : Ty5 → String
  | .tuple => "tuple" | .list => "list" | .int => "int" | .bool => "bool" | .str => "str"
def isTy : Ty5 → D → Bool
  | .tuple, .t (.tup _) => true
  | .tuple, .tupM _ => true
  | .list, .lst _ => true
  | .list, .frz _ => true
  | .list, .scr _ => true
  | .int, .t (.int _) => true
  | .int, .t (.bl _) => true
  | .bool, .t (.bl _) => true
  | .str, .t (.str _) => true
  | _, _ => false
theorem kit5 : ∀ (T : Ty5) (d : D), PySem.W.kitOne K (.type (tyD d)) (.type T.nm) = some (isTy T d) := by
  intro T d
  refine kit_ty ?_
  cases T <;> cases d with
  | t x => cases x <;> (show kitB _ _ = _) <;> simp only [tyD, Ty5.nm, isTy] <;> decide +kernel
  | _ => (show kitB _ _ = _) <;> simp only [tyD, Ty5.nm, isTy] <;> decide +kernel
variable {X : Cx} {C : FC} {p : Bool} {pos p1 p2 : Pos} {ea : Expr} {o : OD}
def dIsi (T : Ty5) (o : OD) : ED := fun ds Q => o ds fun x ds1 => ∃ d, x.get ds1 = some d ∧ Q (.t (.bl (isTy T d))) ds1
theorem e_isi {y : Str} (T : Ty5) (hg : Gl X "isinstance") (hm : X.mg "isinstance" = none) (hv : bootBuiltins "isinstance" = some (.builtin "isinstance")) (hgy : Gl X y) (hmy : X.mg y = none) (hvy : bootBuiltins y = some (.type T.nm)) (ho : PE X ea (LO X.K C p o))
    (hny : y ≠ "__name__" := by decide) (hdy : (y == ("__debug__" : Str)) = false := by decide)
    (hs1 : starEach [ea, .Name y p2] X.env = (false, eval ea X.env) :: starEach [.Name y p2] X.env := by rfl) (hpl : (backTo pos (starEach [.Name y p2] X.env)).any (·.1) = false := by rfl) :
    PE X (.Call (.Name "isinstance" p1) [ea, .Name y p2] [] pos) (LE X.K C p (dIsi T o)) :=
  (pe_callB call_isi hg hm hv (pa_cons ho (pa_cons (pe_bltn hgy hmy hvy (v := .ty T.nm) rfl hny hdy) pa_nil) hs1) (by decide) (by decide) hs1 hpl).imp fun σ H Q ⟨B, ds, ts, P, r, nv, t, q⟩ => by
    refine ⟨B, ds, ts, _, r, nv, t, fun x ds1 ⟨d, e, z⟩ v1 H1 B1 kb1 r1 => ?_⟩
    exact ⟨v1, .ty T.nm, _, _, _, rfl, .ty _, tyX r1.bh (r1.see0 e), kit5 T d, q _ _ z _ H1 B1 kb1 ((r1.push (Same.refl _) (Fresh.t (x := .bl (isTy T d)) rfl)).drop2)⟩
end
end Dn

set_option Elab.async false
set_option linter.all false
set_option maxRecDepth 100000
set_option maxHeartbeats 2000000
/-! Dn15: short words for printed texts. -/
namespace Dn
open PySem PySem.Spec PyProof.Rows L2
/-- a def that is called -/
structure Cal (P : Program) (w : World) (K : PySem.W.Frag) (mg : Str → Option Value) (base : Heap) (k : Nat) (x : Str) (f : Addr) (fd : FuncData) (ps : List Str) (tabs : List Addr) (ms : List Bool) (g : FD) : Prop where
  ok : FnOk P w K mg base CX0 k f fd ps (SpD K tabs ms g)
  mg : mg x = some (.ref f)
  kp : PySem.W.keepIn K (.ref f) = true
  bd : Binds K fd ps []
theorem Cal.imp {P : Program} {w : World} {K : PySem.W.Frag} {mg : Str → Option Value} {base : Heap} {j k : Nat} {x : Str} {f : Addr} {fd : FuncData} {ps : List Str} {tabs : List Addr} {ms : List Bool} {g g' : FD} (c : Cal P w K mg base j x f fd ps tabs ms g) (h : j ≤ k) (hg : ∀ l Q, g' l Q → g l Q) : Cal P w K mg base k x f fd ps tabs ms g' :=
  ⟨(c.ok.imp fun vs H Q E q => SpD.imp hg q).mono h, c.mg, c.kp, c.bd⟩
theorem Cal.up {P : Program} {w : World} {K : PySem.W.Frag} {mg : Str → Option Value} {base : Heap} {k : Nat} {x : Str} {f : Addr} {fd : FuncData} {ps : List Str} {tabs : List Addr} {ms : List Bool} {g : FD} (c : Cal P w K mg base k x f fd ps tabs ms g) (n : Nat) : Cal P w K mg base (k + n) x f fd ps tabs ms g := c.imp (Nat.le_add_right k n) fun _ _ h => h
section
variable {X : Cx} {C : FC} {p p2 : Bool} {pos pp p1 tpos : Pos} {e ea eb tg : Expr} {es elts : List Expr} {a : AD} {kws : List Keyword} {k kk : Nat} {f : Addr} {fd : FuncData} {ps ks : List Str} {x : Str} {g : FD} {ms : List Bool} {o oa ob : OD} {t u : ED}
theorem c_M (F : Cal X.prog X.w X.K X.mg X.base k x f fd ps C.tabs ms g) (hr : Room k X.A) (ha : PA X (e :: es) (LA X.K C false a)) (hg : Gl X x := by rfl)
    (hdb : (x == ("__debug__" : Str)) = false := by decide) (he : starEach (e :: es) X.env = (false, eval e X.env) :: starEach es X.env := by rfl) (hpl : (backTo pos (starEach es X.env)).any (·.1) = false := by rfl) : PE X (.Call (.Name x pp) (e :: es) [] pos) (LE X.K C false (dCall ms g a)) :=
  e_callM F.ok hr hg F.mg F.kp F.bd ha hdb he hpl
theorem c_P {n : Nat} (F : Cal X.prog X.w X.K X.mg X.base k x f fd ps C.tabs (List.replicate n false) g) (hr : Room k X.A) (ha : PA X (e :: es) (LA X.K C p a)) (hg : Gl X x := by rfl)
    (hdb : (x == ("__debug__" : Str)) = false := by decide) (he : starEach (e :: es) X.env = (false, eval e X.env) :: starEach es X.env := by rfl) (hpl : (backTo pos (starEach es X.env)).any (·.1) = false := by rfl) : PE X (.Call (.Name x pp) (e :: es) [] pos) (LE X.K C p (dCallP n g a)) :=
  e_callP F.ok hr hg F.mg F.kp F.bd ha hdb he hpl
theorem c_K {n : Nat} {is : List Nat} (F : Cal X.prog X.w X.K X.mg X.base k x f fd ps C.tabs (List.replicate n false) g) (hr : Room k X.A) (hb : KBinds X.K fd ps ks (kwG is n) (kwG is n)) (ha : PK X kws (LA X.K C p a)) (hg : Gl X x := by rfl)
    (hall : (backToKw pos (keywordEach kws X.env)).all (·.1.isSome) = true := by rfl) (hks : (backToKw pos (keywordEach kws X.env)).filterMap (·.1) = ks := by rfl) (hdb : (x == ("__debug__" : Str)) = false := by decide)
    (hpl : ((backTo pos (starEach [] X.env)).any (·.1) || (backToKw pos (keywordEach kws X.env)).any (·.1.isNone)) = false := by rfl) : PE X (.Call (.Name x pp) [] kws pos) (LE X.K C p (dCallK is n g a)) :=
  e_callK F.ok hr hg F.mg F.kp hb ha hall hks hdb hpl
/-! built-in functions -/
theorem b_len (hm : X.mg "len" = none) (ha : PA X (e :: es) (LA X.K C p a)) (hg : Gl X "len" := by rfl) (he : starEach (e :: es) X.env = (false, eval e X.env) :: starEach es X.env := by rfl) (hpl : (backTo pos (starEach es X.env)).any (·.1) = false := by rfl) : PE X (.Call (.Name "len" pp) (e :: es) [] pos) (LE X.K C p (dF fLen a)) :=
  e_callB call_len c_len hg hm PySem.boot_len ha (by decide) (by decide) he hpl
theorem b_abs (hm : X.mg "abs" = none) (ha : PA X (e :: es) (LA X.K C p a)) (hg : Gl X "abs" := by rfl) (he : starEach (e :: es) X.env = (false, eval e X.env) :: starEach es X.env := by rfl) (hpl : (backTo pos (starEach es X.env)).any (·.1) = false := by rfl) : PE X (.Call (.Name "abs" pp) (e :: es) [] pos) (LE X.K C p (dF fAbs a)) :=
  e_callB call_abs c_abs hg hm PyProof.Rows.boot_abs ha (by decide) (by decide) he hpl
theorem b_sum (hm : X.mg "sum" = none) (hc : X.calm = true) (ha : PA X (e :: es) (LA X.K C p a)) (hg : Gl X "sum" := by rfl) (he : starEach (e :: es) X.env = (false, eval e X.env) :: starEach es X.env := by rfl) (hpl : (backTo pos (starEach es X.env)).any (·.1) = false := by rfl) : PE X (.Call (.Name "sum" pp) (e :: es) [] pos) (LE X.K C p (dF fSum a)) :=
  e_callB (cr_sumA hc) c_sum hg hm PyProof.Rows.boot_sum ha (by decide) (by decide) he hpl
theorem b_max2 (hm : X.mg "max" = none) (hc : X.calm = true) (ha : PA X (e :: es) (LA X.K C p a)) (hg : Gl X "max" := by rfl) (he : starEach (e :: es) X.env = (false, eval e X.env) :: starEach es X.env := by rfl) (hpl : (backTo pos (starEach es X.env)).any (·.1) = false := by rfl) : PE X (.Call (.Name "max" pp) (e :: es) [] pos) (LE X.K C p (dF fMax2 a)) :=
  e_callB (call_max2 hc) c_max2 hg hm PyProof.Rows.boot_max ha (by decide) (by decide) he hpl
theorem b_min2 (hm : X.mg "min" = none) (hc : X.calm = true) (ha : PA X (e :: es) (LA X.K C p a)) (hg : Gl X "min" := by rfl) (he : starEach (e :: es) X.env = (false, eval e X.env) :: starEach es X.env := by rfl) (hpl : (backTo pos (starEach es X.env)).any (·.1) = false := by rfl) : PE X (.Call (.Name "min" pp) (e :: es) [] pos) (LE X.K C p (dF fMin2 a)) :=
  e_callB (call_min2 hc) c_min2 hg hm PyProof.Rows.boot_min ha (by decide) (by decide) he hpl
theorem b_maxL (hm : X.mg "max" = none) (hc : X.calm = true) (ha : PA X (e :: es) (LA X.K C p a)) (hg : Gl X "max" := by rfl) (he : starEach (e :: es) X.env = (false, eval e X.env) :: starEach es X.env := by rfl) (hpl : (backTo pos (starEach es X.env)).any (·.1) = false := by rfl) : PE X (.Call (.Name "max" pp) (e :: es) [] pos) (LE X.K C p (dF fMaxL a)) :=
  e_callB (cr_max hc) c_maxL hg hm PyProof.Rows.boot_max ha (by decide) (by decide) he hpl
theorem b_minL (hm : X.mg "min" = none) (hc : X.calm = true) (ha : PA X (e :: es) (LA X.K C p a)) (hg : Gl X "min" := by rfl) (he : starEach (e :: es) X.env = (false, eval e X.env) :: starEach es X.env := by rfl) (hpl : (backTo pos (starEach es X.env)).any (·.1) = false := by rfl) : PE X (.Call (.Name "min" pp) (e :: es) [] pos) (LE X.K C p (dF fMinL a)) :=
  e_callB (cr_min hc) c_minL hg hm PyProof.Rows.boot_min ha (by decide) (by decide) he hpl
theorem b_sortP (hm : X.mg "sorted" = none) (ha : PA X (e :: es) (LA X.K C p a)) (hg : Gl X "sorted" := by rfl) (he : starEach (e :: es) X.env = (false, eval e X.env) :: starEach es X.env := by rfl) (hpl : (backTo pos (starEach es X.env)).any (·.1) = false := by rfl) : PE X (.Call (.Name "sorted" pp) (e :: es) [] pos) (LE X.K C p (dF fSortP a)) :=
  e_callB cr_sortedPO c_sortP hg hm PyProof.Rows.boot_sorted ha (by decide) (by decide) he hpl
theorem b_int (hm : X.mg "int" = none) (ha : PA X (e :: es) (LA X.K C p a)) (hg : Gl X "int" := by rfl) (he : starEach (e :: es) X.env = (false, eval e X.env) :: starEach es X.env := by rfl) (hpl : (backTo pos (starEach es X.env)).any (·.1) = false := by rfl) : PE X (.Call (.Name "int" pp) (e :: es) [] pos) (LE X.K C p (dF fInt a)) :=
  e_callT call_int1 c_int hg hm PyProof.Rows.boot_int ha (by decide) (by decide) he hpl
theorem b_tuple (hm : X.mg "tuple" = none) (ha : PA X (e :: es) (LA X.K C p a)) (hg : Gl X "tuple" := by rfl) (he : starEach (e :: es) X.env = (false, eval e X.env) :: starEach es X.env := by rfl) (hpl : (backTo pos (starEach es X.env)).any (·.1) = false := by rfl) : PE X (.Call (.Name "tuple" pp) (e :: es) [] pos) (LE X.K C p (dF fTuple a)) :=
  e_callT call_tuple_of c_tuple hg hm PyProof.Rows.boot_tuple ha (by decide) (by decide) he hpl
theorem b_list (hm : X.mg "list" = none) (ha : PA X (e :: es) (LA X.K C p a)) (hg : Gl X "list" := by rfl) (he : starEach (e :: es) X.env = (false, eval e X.env) :: starEach es X.env := by rfl) (hpl : (backTo pos (starEach es X.env)).any (·.1) = false := by rfl) : PE X (.Call (.Name "list" pp) (e :: es) [] pos) (LE X.K C p (dF fList a)) :=
  e_callT call_list_of c_list hg hm PyProof.Rows.boot_list ha (by decide) (by decide) he hpl
theorem b_isi {y : Str} {pp2 : Pos} (T : Ty5) (hm : X.mg "isinstance" = none) (hmy : X.mg y = none) (hvy : bootBuiltins y = some (.type T.nm)) (ho : PE X ea (LO X.K C p o)) (hg : Gl X "isinstance" := by rfl) (hgy : Gl X y := by rfl) (hny : y ≠ "__name__" := by decide) (hdy : (y == ("__debug__" : Str)) = false := by decide)
    (hs1 : starEach [ea, .Name y pp2] X.env = (false, eval ea X.env) :: starEach [.Name y pp2] X.env := by rfl) (hpl : (backTo pos (starEach [.Name y pp2] X.env)).any (·.1) = false := by rfl) : PE X (.Call (.Name "isinstance" pp) [ea, .Name y pp2] [] pos) (LE X.K C p (dIsi T o)) :=
  e_isi T hg hm PyProof.Rows.boot_isinstance hgy hmy hvy ho hny hdy hs1 hpl
/-! iterables -/
theorem j_r1 (hm : X.mg "range" = none) (ha : PA X [e] (LA X.K C p a)) (hg : Gl X "range" := by rfl) (hs : starEach [e] X.env = [(false, eval e X.env)] := by rfl) : PI X tg (.Call (.Name "range" pp) [e] [] pos) (LI X.K C p (iR1 a)) := i_r1 hg hm ha hs
theorem j_r2 (hm : X.mg "range" = none) (ha : PA X [ea, eb] (LA X.K C p a)) (hg : Gl X "range" := by rfl) (hs : starEach [ea, eb] X.env = [(false, eval ea X.env), (false, eval eb X.env)] := by rfl) (hs2 : starEach [eb] X.env = [(false, eval eb X.env)] := by rfl) : PI X tg (.Call (.Name "range" pp) [ea, eb] [] pos) (LI X.K C p (iR2 a)) := i_r2 hg hm ha hs hs2
theorem j_en (hm : X.mg "enumerate" = none) (h : PE X e (LE X.K C p t)) (hg : Gl X "enumerate" := by rfl) (hs : starEach [e] X.env = [(false, eval e X.env)] := by rfl) : PI X (.Tuple elts kk tpos) (.Call (.Name "enumerate" pp) [e] [] pos) (LI X.K C p (iEn t)) := i_en hg hm h hs
theorem j_z (hm : X.mg "zip" = none) (h : PE X ea (LE X.K C p t)) (h2 : PE X eb (LE X.K C p u)) (hg : Gl X "zip" := by rfl) (hs : starEach [ea, eb] X.env = (false, eval ea X.env) :: starEach [eb] X.env := by rfl) (hs2 : starEach [eb] X.env = [(false, eval eb X.env)] := by rfl)
    (hpl : (backTo pos (starEach [eb] X.env)).any (·.1) = false := by rfl) : PI X (.Tuple elts kk tpos) (.Call (.Name "zip" pp) [ea, eb] [] pos) (LI X.K C p (iZ t u)) := i_z hg hm h h2 hs hs2 hpl
/-! lists' methods -/
theorem m_app {apos : Pos} (ho : PE X ea (LO X.K C false o)) (ha : PA X (e :: es) (LA X.K C p2 a))
    (hbase : attributeBase ea "append" X.env (eval ea X.env) = eval ea X.env := by rfl)
    (hfew : ((backTo pos (starEach (e :: es) X.env)).all (fun x => !x.1) && (backToKw pos (keywordEach [] X.env)).all (fun x => x.1.isSome)
      && decide ((e :: es).length + ([] : List Keyword).length + (if ([] : List Keyword).isEmpty then 0 else 1) < 30)) = true := by rfl)
    (hline : (apos.endLine == pos.line) = true := by rfl) (hs : starEach (e :: es) X.env = (false, eval e X.env) :: starEach es X.env := by rfl) (hplain : (backTo pos (starEach es X.env)).any (·.1) = false := by rfl) :
    PE X (.Call (.Attribute ea "append" apos) (e :: es) [] pos) (LE X.K C false (dMt p2 mAppend o a)) := e_mt PySem.F.plainAttrs_list PySem.F.slot_list_append PySem.F.type_list_append mt_append m_append ho ha hbase hfew hline hs hplain
theorem m_popA {apos : Pos} (ho : PE X ea (LO X.K C false o)) (ha : PA X (e :: es) (LA X.K C p2 a))
    (hbase : attributeBase ea "pop" X.env (eval ea X.env) = eval ea X.env := by rfl)
    (hfew : ((backTo pos (starEach (e :: es) X.env)).all (fun x => !x.1) && (backToKw pos (keywordEach [] X.env)).all (fun x => x.1.isSome)
      && decide ((e :: es).length + ([] : List Keyword).length + (if ([] : List Keyword).isEmpty then 0 else 1) < 30)) = true := by rfl)
    (hline : (apos.endLine == pos.line) = true := by rfl) (hs : starEach (e :: es) X.env = (false, eval e X.env) :: starEach es X.env := by rfl) (hplain : (backTo pos (starEach es X.env)).any (·.1) = false := by rfl) :
    PE X (.Call (.Attribute ea "pop" apos) (e :: es) [] pos) (LE X.K C false (dMt p2 mPopAt o a)) := e_mt PySem.F.plainAttrs_list PySem.F.slot_list_pop PySem.F.type_list_pop mt_popAt m_popAt ho ha hbase hfew hline hs hplain
theorem m_ins {apos : Pos} (ho : PE X ea (LO X.K C false o)) (ha : PA X (e :: es) (LA X.K C p2 a))
    (hbase : attributeBase ea "insert" X.env (eval ea X.env) = eval ea X.env := by rfl)
    (hfew : ((backTo pos (starEach (e :: es) X.env)).all (fun x => !x.1) && (backToKw pos (keywordEach [] X.env)).all (fun x => x.1.isSome)
      && decide ((e :: es).length + ([] : List Keyword).length + (if ([] : List Keyword).isEmpty then 0 else 1) < 30)) = true := by rfl)
    (hline : (apos.endLine == pos.line) = true := by rfl) (hs : starEach (e :: es) X.env = (false, eval e X.env) :: starEach es X.env := by rfl) (hplain : (backTo pos (starEach es X.env)).any (·.1) = false := by rfl) :
    PE X (.Call (.Attribute ea "insert" apos) (e :: es) [] pos) (LE X.K C false (dMt p2 mInsert o a)) := e_mt PySem.F.plainAttrs_list PySem.F.slot_list_insert PySem.F.type_list_insert mt_insert m_insert ho ha hbase hfew hline hs hplain
theorem mPop0 {apos : Pos} (ho : PE X ea (LO X.K C false o)) (hbase : attributeBase ea "pop" X.env (eval ea X.env) = eval ea X.env := by rfl) (hline : (apos.endLine == pos.line) = true := by rfl) :
    PE X (.Call (.Attribute ea "pop" apos) [] [] pos) (LE X.K C false (dMt true mPop o aNil)) := e_mt0 PySem.F.plainAttrs_list PySem.F.slot_list_pop PySem.F.type_list_pop mt_pop m_pop ho hbase hline
/-! targets -/
theorem h_c {ga : GD} {u : GsD} {ws us : List Nat} (h1 : PG X e (LG X.K C ws ga)) (h2 : PGs X es (LGs X.K C us u)) (hs : (assignEach (e :: es) X.env).map (·.2) = assign e X.env :: (assignEach es X.env).map (·.2) := by rfl) : PGs X (e :: es) (LGs X.K C (ws ++ us) (gsC ga u)) := gs_c h1 h2 (pgs_cons h1 h2 hs)
theorem h_t {gs : GsD} {n : Nat} {ws : List Nat} (hc : X.calm = true) (h : PGs X es (LGs X.K C ws gs)) (hn : (assignEach es X.env).length = n := by rfl) (hst : (assignEach es X.env).findIdx? (·.1) = none := by rfl) : PG X (.Tuple es kk tpos) (LG X.K C ws (gT n gs)) := g_t h (pg_tup hc h hn hst)
end
end Dn

set_option Elab.async false
set_option linter.all false
set_option maxRecDepth 100000
/-! Dn16: the readings as rows for simp. -/
namespace Dn
open PySem PySem.Spec PyProof.Rows L2
theorem ex_m1 {α : Type} {o : Option α} {P : α → Prop} : (∃ d, o = some d ∧ P d) = (match o with | some d => P d | none => False) := by cases o <;> simp
theorem ex_m2 {α : Type} {o : Option (Option α)} {P : α → Prop} : (∃ d, o = some (some d) ∧ P d) = (match o with | some (some d) => P d | _ => False) := by rcases o with _ | (_ | d) <;> simp
theorem ex_mb {d : D} {P : Bool → Prop} : (∃ b, d = .t (.bl b) ∧ P b) = (match d with | .t (.bl b) => P b | _ => False) := by
  cases d with
  | t x => cases x <;> simp
  | _ => simp
theorem ex_mi {d : D} {P : Int → Prop} : (∃ b, d = .t (.int b) ∧ P b) = (match d with | .t (.int b) => P b | _ => False) := by
  cases d with
  | t x => cases x <;> simp
  | _ => simp
theorem ex_ml {o : Option D} {P : List D → Prop} : (∃ b, o = some (.lst b) ∧ P b) = (match o with | some (.lst b) => P b | _ => False) := by
  rcases o with _ | d
  · simp
  · cases d <;> simp
section
variable {E : DE} {ds : DS} {a b : SD} {e t u : ED} {Q : D → DS → Prop} {Qo : Tm → DS → Prop} {Qb : Bool → DS → Prop} {q qa qb : QD} {Qa : List Tm → DS → Prop} {o oa ob : OD} {f : F2} {g : GD} {gs : GsD} {ad : AD} {p : Bool} {Qn : DS → Prop}
@[simp ↓] theorem x_sNil : sNil E ds = E.nx ds := rfl
@[simp ↓] theorem x_sSeq : sSeq a b E ds = a { E with nx := fun ds' => b E ds' } ds := rfl
@[simp ↓] theorem x_sDrop : sDrop e E ds = e ds fun _ ds' => E.nx ds' := rfl
@[simp ↓] theorem x_sRet : sRet e E ds = e ds E.rt := rfl
@[simp ↓] theorem x_sRetN : sRetN E ds = E.rt (.t .non) ds := rfl
@[simp ↓] theorem x_sBrk : sBrk E ds = E.bk ds := rfl
@[simp ↓] theorem x_sCnt : sCnt E ds = E.ct ds := rfl
@[simp ↓] theorem x_sIf : sIf q a b E ds = q ds fun c ds' => if c = true then a E ds' else b E ds' := rfl
@[simp ↓] theorem x_sAsg : sAsg e g E ds = e ds fun d ds' => g d ds' E.nx := rfl
@[simp ↓] theorem x_sPar2 {i j : Nat} : sPar2 i j ad E ds = ad ds fun xs ds' => match takes ds' xs with | some [d1, d2] => E.nx ((ds'.set i (some d1)).set j (some d2)) | _ => False := by
  unfold sPar2
  congr 1
  funext xs ds'
  rcases takes ds' xs with _ | (_ | ⟨d1, _ | ⟨d2, _ | ⟨d3, r⟩⟩⟩) <;> simp [and_assoc]
@[simp ↓] theorem x_sPar3 {i j l : Nat} : sPar3 i j l ad E ds = ad ds fun xs ds' => match takes ds' xs with | some [d1, d2, d3] => E.nx (((ds'.set i (some d1)).set j (some d2)).set l (some d3)) | _ => False := by
  unfold sPar3
  congr 1
  funext xs ds'
  rcases takes ds' xs with _ | (_ | ⟨d1, _ | ⟨d2, _ | ⟨d3, _ | ⟨d4, r⟩⟩⟩⟩) <;> simp [and_assoc]
@[simp ↓] theorem x_sAug {i : Nat} : sAug i f o E ds = (match ds[i]? with | some (some c) => cp c = true ∧ o ds fun z ds1 => (match z.get ds1 with | some dz => f c dz fun d' => E.nx (ds1.set i (some d')) | none => False) | _ => False) := by
  unfold sAug
  rcases ds[i]? with _ | (_ | c)
  · simp
  · simp
  · simp only [Option.some.injEq, exists_eq_left']
    congr 1
    congr 1
    funext z ds1
    rcases z.get ds1 with _ | d
    · simp
    · simp
@[simp ↓] theorem x_sFor {i : ID} : sFor i g b E ds = i ds fun its ds1 => LoopD g b E its ds1 := rfl
@[simp ↓] theorem x_gN {i : Nat} {d : D} : gN i d ds Qn = Qn (ds.set i (some d)) := rfl
@[simp ↓] theorem x_gT {n : Nat} {d : D} : gT n gs d ds Qn = (match tits d with | some xs => xs.length = n ∧ gs xs ds Qn | none => False) := by
  unfold gT
  rcases tits d with _ | d
  · simp
  · simp
@[simp ↓] theorem x_gsN {l : List D} : gsN l ds Qn = (l = [] ∧ Qn ds) := rfl
@[simp ↓] theorem x_gsC0 : gsC g gs [] ds Qn = False := by
  apply propext
  constructor
  · rintro ⟨d, r, h, _⟩; cases h
  · exact fun h => h.elim
@[simp ↓] theorem x_gsC {d : D} {r : List D} : gsC g gs (d :: r) ds Qn = g d ds fun ds' => gs r ds' Qn := by
  apply propext
  constructor
  · rintro ⟨d', r', h, z⟩; cases h; exact z
  · exact fun h => ⟨d, r, rfl, h⟩
@[simp ↓] theorem x_dC {x : T} : dC x ds Q = Q (.t x) ds := rfl
@[simp ↓] theorem x_dN {i : Nat} : dN i ds Q = (match ds[i]? with | some (some d) => cp d = true ∧ Q d ds | _ => False) := by
  unfold dN
  rcases ds[i]? with _ | (_ | d)
  · simp
  · simp
  · simp
@[simp ↓] theorem x_dNf {i : Nat} : dNf i ds Q = (match ds[i]? with | some (some d) => Q (fz d) (ds.set i (some (fz d))) | _ => False) := by
  unfold dNf
  rcases ds[i]? with _ | (_ | d)
  · simp
  · simp
  · simp
@[simp ↓] theorem x_dNm {i : Nat} : dNm i ds Q = (match ds[i]? with | some (some d) => Q d (ds.set i none) | _ => False) := by
  unfold dNm
  rcases ds[i]? with _ | (_ | d)
  · simp
  · simp
  · simp
@[simp ↓] theorem x_oE : oE e ds Qo = e ds fun d ds' => Qo (.own d) ds' := rfl
@[simp ↓] theorem x_oN {i : Nat} : oN i ds Qo = (match ds[i]? with | some (some _) => Qo (.nm i) ds | _ => False) := by
  unfold oN
  rcases ds[i]? with _ | (_ | d) <;> simp
@[simp ↓] theorem x_d1 {f : F1} : d1 f o ds Q = o ds fun x ds1 => (match x.get ds1 with | some d => f d fun d' => Q d' ds1 | none => False) := by
  unfold d1
  congr 1
  funext x ds1
  rcases x.get ds1 with _ | d
  · simp
  · simp
theorem ex_m11 {α : Type} {o o' : Option α} {P : α → α → Prop} : (∃ d d', o = some d ∧ o' = some d' ∧ P d d') = (match o with | some d => (match o' with | some d' => P d d' | none => False) | none => False) := by
  cases o <;> cases o' <;> simp
@[simp ↓] theorem x_d2 : d2 p f oa ob ds Q = oa ds fun x ds1 => nvs p x ∧ ob ds1 fun y ds2 => (match x.get ds2 with | some d => (match y.get ds2 with | some d' => f d d' fun d'' => Q d'' ds2 | none => False) | none => False) := by
  unfold d2
  congr 1
  funext x ds1
  congr 1
  congr 1
  funext y ds2
  rcases x.get ds2 with _ | e1
  · simp
  · rcases y.get ds2 with _ | e2
    · simp
    · simp
@[simp ↓] theorem x_qB : qB e ds Qb = e ds fun d ds' => (match d with | .t (.bl b) => Qb b ds' | _ => False) := by
  unfold qB
  congr 1
  funext d ds'
  cases d with
  | t x => cases x <;> simp
  | _ => simp
@[simp ↓] theorem x_qV : qV o ds Qb = o ds fun x ds' => (match x.get ds' with | some d => (match truD d with | some b => Qb b ds' | none => False) | none => False) := by
  unfold qV
  congr 1
  funext x ds'
  rcases x.get ds' with _ | d
  · simp
  · simp only [Option.some.injEq, exists_and_left, exists_eq_left']
    rcases truD d with _ | b
    · simp
    · simp
@[simp ↓] theorem x_qAnd : qAnd qa qb ds Qb = qa ds fun c ds1 => if c = true then qb ds1 Qb else Qb false ds1 := rfl
@[simp ↓] theorem x_qOr : qOr qa qb ds Qb = qa ds fun c ds1 => if c = true then Qb true ds1 else qb ds1 Qb := rfl
@[simp ↓] theorem x_qNot : qNot qa ds Qb = qa ds fun c ds1 => Qb (!c) ds1 := rfl
@[simp ↓] theorem x_qYes : qYes ds Qb = Qb true ds := rfl
@[simp ↓] theorem x_dIf : dIf q t u ds Q = q ds fun k ds1 => if k = true then t ds1 Q else u ds1 Q := rfl
@[simp ↓] theorem x_dAnd : dAnd t u ds Q = t ds fun d ds1 => (match d with | .t (.bl c) => (if c = true then u ds1 Q else Q (.t (.bl false)) ds1) | _ => False) := by
  unfold dAnd
  congr 1
  funext d ds1
  cases d with
  | t x => cases x <;> simp
  | _ => simp
@[simp ↓] theorem x_dOr : dOr t u ds Q = t ds fun d ds1 => (match d with | .t (.bl c) => (if c = true then Q (.t (.bl true)) ds1 else u ds1 Q) | _ => False) := by
  unfold dOr
  congr 1
  funext d ds1
  cases d with
  | t x => cases x <;> simp
  | _ => simp
@[simp ↓] theorem x_dNot : dNot t ds Q = t ds fun d ds1 => (match d with | .t (.bl c) => Q (.t (.bl (!c))) ds1 | _ => False) := by
  unfold dNot
  congr 1
  funext d ds1
  cases d with
  | t x => cases x <;> simp
  | _ => simp
@[simp ↓] theorem x_aNil : aNil ds Qa = Qa [] ds := rfl
@[simp ↓] theorem x_aCons : aCons p o ad ds Qa = o ds fun x ds1 => nvs p x ∧ ad ds1 fun xs ds2 => Qa (x :: xs) ds2 := rfl
@[simp ↓] theorem x_dTup : dTup ad ds Q = ad ds fun xs ds1 => (match takes ds1 xs with | some l => l.length ≤ sizeLine ∧ Q (mkTup l) ds1 | none => False) := by
  unfold dTup
  congr 1
  funext xs ds1
  rcases takes ds1 xs with _ | d
  · simp
  · simp
@[simp ↓] theorem x_dLst : dLst ad ds Q = ad ds fun xs ds1 => (match takes ds1 xs with | some l => l.length ≤ sizeLine ∧ Q (.lst l) ds1 | none => False) := by
  unfold dLst
  congr 1
  funext xs ds1
  rcases takes ds1 xs with _ | d
  · simp
  · simp
@[simp ↓] theorem x_dF {f : FN} : dF f ad ds Q = ad ds fun xs ds1 => (match gets ds1 xs with | some l => f l fun d => Q d ds1 | none => False) := by
  unfold dF
  congr 1
  funext xs ds1
  rcases gets ds1 xs with _ | d
  · simp
  · simp
@[simp ↓] theorem x_dSl {f : FSl} {lo hi : BD} : dSl p f o lo hi ds Q = o ds fun x ds1 => nvs p x ∧ lo ds1 fun l ds2 => hi ds2 fun h ds3 => (match x.get ds3 with | some d => f d l h fun d' => Q d' ds3 | none => False) := by
  unfold dSl
  congr 1
  funext x ds1
  congr 1
  congr 1
  funext l ds2
  congr 1
  funext h ds3
  rcases x.get ds3 with _ | d
  · simp
  · simp
@[simp ↓] theorem x_bNo {Qx : Option Int → DS → Prop} : bNo ds Qx = Qx none ds := rfl
@[simp ↓] theorem x_bSo {Qx : Option Int → DS → Prop} : bSo t ds Qx = t ds fun d ds' => (match d with | .t (.int i) => Qx (some i) ds' | _ => False) := by
  unfold bSo
  congr 1
  funext d ds'
  cases d with
  | t x => cases x <;> simp
  | _ => simp
theorem ex_ix {ds2 : DS} {x y : Tm} : (∃ i p d xs k j, x.plc = some (i, p) ∧ x.get ds2 = some d ∧ mits d = some xs ∧ y.get ds2 = some (.t (.int k)) ∧ ixN xs.length k = some j ∧ Qo (.pl i (p ++ [j])) ds2) =
    (match x.plc with
    | some (i, p) => (match x.get ds2 with
      | some d => (match mits d with
        | some xs => (match y.get ds2 with
          | some (.t (.int k)) => (match ixN xs.length k with
            | some j => Qo (.pl i (p ++ [j])) ds2
            | none => False)
          | _ => False)
        | none => False)
      | none => False)
    | none => False) := by
  cases x.plc with
  | none => simp
  | some ip =>
    obtain ⟨i, p⟩ := ip
    cases x.get ds2 with
    | none => simp
    | some d =>
      simp only []
      cases h : mits d with
      | none => simp [h]
      | some xs =>
        rcases y.get ds2 with _ | dy
        · simp
        · cases dy with
          | t ty =>
            cases ty with
            | int k =>
              simp only []
              cases h2 : ixN xs.length k with
              | none => simp [h, h2, and_assoc]
              | some j => simp [h, h2, and_assoc]
            | _ => simp
          | _ => simp
@[simp ↓] theorem x_oIx : oIx oa ob ds Qo = oa ds fun x ds1 => ob ds1 fun y ds2 => (match x.plc with
    | some (i, p) => (match x.get ds2 with
      | some d => (match mits d with
        | some xs => (match y.get ds2 with
          | some (.t (.int k)) => (match ixN xs.length k with
            | some j => Qo (.pl i (p ++ [j])) ds2
            | none => False)
          | _ => False)
        | none => False)
      | none => False)
    | none => False) := by
  unfold oIx
  congr 1
  funext x ds1
  congr 1
  funext y ds2
  exact ex_ix
theorem ex_mt {ds2 : DS} {x : Tm} {xs : List Tm} {f : MD} : (∃ i pth d0 l as, x.plc = some (i, pth) ∧ ds2[i]? = some (some d0) ∧ pget d0 pth = some (.lst l) ∧ takes ds2 xs = some as ∧ f l as fun l' d' => Q d' (ds2.set i (some (pset d0 pth (.lst l'))))) =
    (match x.plc with
    | some (i, pth) => (match ds2[i]? with
      | some (some d0) => (match pget d0 pth with
        | some (.lst l) => (match takes ds2 xs with
          | some as => f l as fun l' d' => Q d' (ds2.set i (some (pset d0 pth (.lst l'))))
          | none => False)
        | _ => False)
      | _ => False)
    | none => False) := by
  cases x.plc with
  | none => simp
  | some ip =>
    obtain ⟨i, p⟩ := ip
    simp only []
    cases h0 : ds2[i]? with
    | none => simp [h0]
    | some o =>
      cases o with
      | none => simp [h0]
      | some d0 =>
        simp only []
        cases h : pget d0 p with
        | none => simp [h0, h]
        | some d =>
          cases d with
          | lst l =>
            cases takes ds2 xs with
            | none => simp
            | some as => simp [h0, h, and_assoc]
          | _ => simp [h0, h]
@[simp ↓] theorem x_dMt {f : MD} : dMt p f o ad ds Q = o ds fun x ds1 => nvs p x ∧ (match x.get ds1 with | some (.lst _) => True | _ => False) ∧ ad ds1 fun xs ds2 => (match x.plc with
    | some (i, pth) => (match ds2[i]? with
      | some (some d0) => (match pget d0 pth with
        | some (.lst l) => (match takes ds2 xs with
          | some as => f l as fun l' d' => Q d' (ds2.set i (some (pset d0 pth (.lst l'))))
          | none => False)
        | _ => False)
      | _ => False)
    | none => False) := by
  unfold dMt
  congr 1
  funext x ds1
  congr 1
  congr 1
  · have := ex_ml (o := x.get ds1) (P := fun _ => True)
    simpa using this
  · congr 1
    funext xs ds2
    exact ex_mt
@[simp ↓] theorem x_dIsi {T : Ty5} : dIsi T o ds Q = o ds fun x ds1 => (match x.get ds1 with | some d => Q (.t (.bl (isTy T d))) ds1 | none => False) := by
  unfold dIsi
  congr 1
  funext x ds1
  rcases x.get ds1 with _ | d
  · simp
  · simp
@[simp ↓] theorem x_dLc {vs : List Nat} {i : ID} : dLc vs i g q e ds Q = i ds fun its ds1 => CompD g q e vs Q its (dwipe ds1 vs) := rfl
@[simp ↓] theorem x_iV {Qi : List D → DS → Prop} : iV t ds Qi = t ds fun d ds' => (match items d with | some its => Qi its ds' | none => False) := by
  unfold iV
  congr 1
  funext d ds'
  rcases items d with _ | d
  · simp
  · simp
@[simp ↓] theorem x_iEn {Qi : List D → DS → Prop} : iEn t ds Qi = t ds fun d ds' => (match items d with | some its => Qi (enumD its) ds' | none => False) := by
  unfold iEn
  congr 1
  funext d ds'
  rcases items d with _ | d
  · simp
  · simp
@[simp ↓] theorem x_iR1 {Qi : List D → DS → Prop} : iR1 ad ds Qi = ad ds fun xs ds1 => (match gets ds1 xs with | some [.t (.int j)] => -(2 ^ 62) ≤ j ∧ j < 2 ^ 62 ∧ Qi (rangeD 0 j.toNat) ds1 | _ => False) := by
  unfold iR1
  congr 1
  funext xs ds1
  rcases gets ds1 xs with _ | (_ | ⟨d, _ | ⟨d2, r⟩⟩)
  · simp
  · simp
  · cases d with
    | t x => cases x <;> simp
    | _ => simp
  · cases d with
    | t x => cases x <;> simp
    | _ => simp
@[simp ↓] theorem x_iR2 {Qi : List D → DS → Prop} : iR2 ad ds Qi = ad ds fun xs ds1 => (match gets ds1 xs with | some [.t (.int i), .t (.int j)] => (-(2 ^ 62) ≤ i ∧ i < 2 ^ 62 ∧ -(2 ^ 62) ≤ j ∧ j < 2 ^ 62) ∧ Qi (rangeD i (j - i).toNat) ds1 | _ => False) := by
  unfold iR2
  congr 1
  funext xs ds1
  rcases gets ds1 xs with _ | (_ | ⟨d, _ | ⟨d2, _ | ⟨d3, r⟩⟩⟩)
  · simp
  · simp
  · simp
  · cases d with
    | t x =>
      cases x <;> (try simp)
      cases d2 with
      | t x => cases x <;> simp [and_assoc]
      | _ => simp
    | _ => simp
  · simp
@[simp ↓] theorem x_iZ {Qi : List D → DS → Prop} : iZ t u ds Qi = t ds fun d1 ds1 => u ds1 fun d2 ds2 => (match items d1 with | some i1 => (match items d2 with | some i2 => isTup d1 = isTup d2 ∧ Qi (zipD i1 i2) ds2 | none => False) | none => False) := by
  unfold iZ
  congr 1
  funext d1 ds1
  congr 1
  funext d2 ds2
  rcases items d1 with _ | e1
  · simp
  · rcases items d2 with _ | e2
    · simp
    · simp
theorem ex_gx {d : D} {ds2 : DS} {x y : Tm} : (∃ sl pth d0 l j, Plc ds2 x y sl pth d0 l j ∧ Qn (ds2.set sl (some (pset d0 pth (.lst (l.set j d)))))) =
    (match x.plc with
    | some (i, pth) => (match ds2[i]? with
      | some (some d0) => (match pget d0 pth with
        | some (.lst l) => (match y.get ds2 with
          | some (.t (.int k)) => (match ixN l.length k with
            | some j => Qn (ds2.set i (some (pset d0 pth (.lst (l.set j d)))))
            | none => False)
          | _ => False)
        | _ => False)
      | _ => False)
    | none => False) := by
  apply propext
  constructor
  · rintro ⟨sl, pth, d0, l, j, ⟨h1, h2, h3, k, h4, h5⟩, h⟩
    simp [h1, h2, h3, h4, h5, h]
  · intro h
    cases h1 : x.plc with
    | none => rw [h1] at h; exact h.elim
    | some ip =>
      obtain ⟨i, pth⟩ := ip
      rw [h1] at h
      simp only [] at h
      split at h
      · rename_i d0 h2
        split at h
        · rename_i l h3
          split at h
          · rename_i k h4
            split at h
            · rename_i j h5
              exact ⟨i, pth, d0, l, j, ⟨h1, h2, h3, k, h4, h5⟩, h⟩
            · exact h.elim
          · exact h.elim
        · exact h.elim
      · exact h.elim
@[simp ↓] theorem x_gIx {d : D} : gIx p oa ob d ds Qn = oa ds fun x ds1 => nvs p x ∧ ob ds1 fun y ds2 => (match x.plc with
    | some (i, pth) => (match ds2[i]? with
      | some (some d0) => (match pget d0 pth with
        | some (.lst l) => (match y.get ds2 with
          | some (.t (.int k)) => (match ixN l.length k with
            | some j => Qn (ds2.set i (some (pset d0 pth (.lst (l.set j d)))))
            | none => False)
          | _ => False)
        | _ => False)
      | _ => False)
    | none => False) := by
  unfold gIx
  congr 1
  funext x ds1
  congr 1
  congr 1
  funext y ds2
  exact ex_gx
theorem Plc_iff {ds : DS} {x y : Tm} {sl : Nat} {pth : List Nat} {d0 : D} {l : List D} {j : Nat} : Plc ds x y sl pth d0 l j ↔ x.plc = some (sl, pth) ∧ ds[sl]? = some (some d0) ∧ pget d0 pth = some (.lst l) ∧ ∃ k, y.get ds = some (.t (.int k)) ∧ ixN l.length k = some j :=
  ⟨fun h => ⟨h.plc, h.slot, h.lst, h.ix⟩, fun ⟨a, b, c, d⟩ => ⟨a, b, c, d⟩⟩
theorem ex_as {f : F2} {x y : Tm} {ds2 : DS} {oa : OD} : (∃ sl pth d0 l j c, Plc ds2 x y sl pth d0 l j ∧ l[j]? = some c ∧ cp c = true ∧ oa ds2 fun z ds3 => ∃ dz, z.get ds3 = some dz ∧
  f c dz fun d' => ∃ d0' l', Plc ds3 x y sl pth d0' l' j ∧ E.nx (ds3.set sl (some (pset d0' pth (.lst (l'.set j d')))))) =
    (match x.plc with
    | some (sl, pth) => (match ds2[sl]? with
      | some (some d0) => (match pget d0 pth with
        | some (.lst l) => (match y.get ds2 with
          | some (.t (.int k)) => (match ixN l.length k with
            | some j => (match l[j]? with
              | some c => cp c = true ∧ oa ds2 fun z ds3 => (match z.get ds3 with
                | some dz => f c dz fun d' => (match ds3[sl]? with
                  | some (some d0') => (match pget d0' pth with
                    | some (.lst l') => (match y.get ds3 with
                      | some (.t (.int k')) => (match ixN l'.length k' with
                        | some j' => j' = j ∧ E.nx (ds3.set sl (some (pset d0' pth (.lst (l'.set j d')))))
                        | none => False)
                      | _ => False)
                    | _ => False)
                  | _ => False)
                | none => False)
              | none => False)
            | none => False)
          | _ => False)
        | _ => False)
      | _ => False)
    | none => False) := by
  have key : ∀ {ds3 : DS} {sl : Nat} {pth : List Nat} {j : Nat} {d' : D}, x.plc = some (sl, pth) → ((∃ d0' l', Plc ds3 x y sl pth d0' l' j ∧ E.nx (ds3.set sl (some (pset d0' pth (.lst (l'.set j d')))))) = (match ds3[sl]? with
                  | some (some d0') => (match pget d0' pth with
                    | some (.lst l') => (match y.get ds3 with
                      | some (.t (.int k')) => (match ixN l'.length k' with
                        | some j' => j' = j ∧ E.nx (ds3.set sl (some (pset d0' pth (.lst (l'.set j d')))))
                        | none => False)
                      | _ => False)
                    | _ => False)
                  | _ => False)) := by
    intro ds3 sl pth j d' hx
    apply propext
    constructor
    · rintro ⟨d0, l, ⟨h1, h2, h3, k, h4, h5⟩, h⟩
      simp [h2, h3, h4, h5, h]
    · intro h
      split at h
      · rename_i d0 h2
        split at h
        · rename_i l h3
          split at h
          · rename_i k h4
            split at h
            · rename_i j' h5
              obtain ⟨rfl, h⟩ := h
              exact ⟨d0, l, ⟨hx, h2, h3, k, h4, h5⟩, h⟩
            · exact h.elim
          · exact h.elim
        · exact h.elim
      · exact h.elim
  have kz : ∀ {c : D} {sl : Nat} {pth : List Nat} {j : Nat}, x.plc = some (sl, pth) → (fun (z : Tm) (ds3 : DS) => ∃ dz, z.get ds3 = some dz ∧ f c dz fun d' => ∃ d0' l', Plc ds3 x y sl pth d0' l' j ∧ E.nx (ds3.set sl (some (pset d0' pth (.lst (l'.set j d')))))) = (fun z ds3 => (match z.get ds3 with
                | some dz => f c dz fun d' => (match ds3[sl]? with
                  | some (some d0') => (match pget d0' pth with
                    | some (.lst l') => (match y.get ds3 with
                      | some (.t (.int k')) => (match ixN l'.length k' with
                        | some j' => j' = j ∧ E.nx (ds3.set sl (some (pset d0' pth (.lst (l'.set j d')))))
                        | none => False)
                      | _ => False)
                    | _ => False)
                  | _ => False)
                | none => False)) := by
    intro c sl pth j hx
    funext z ds3
    rcases z.get ds3 with _ | dz
    · simp
    · simp only [Option.some.injEq, exists_eq_left']
      congr 1
      funext d'
      exact key hx
  apply propext
  constructor
  · rintro ⟨sl, pth, d0, l, j, c, ⟨h1, h2, h3, k, h4, h5⟩, h6, h7, h⟩
    rw [kz h1] at h
    simp only [h1, h2, h3, h4, h5, h6]
    exact ⟨h7, h⟩
  · intro h
    cases h1 : x.plc with
    | none => rw [h1] at h; exact h.elim
    | some ip =>
      obtain ⟨i, pth⟩ := ip
      rw [h1] at h
      simp only [] at h
      split at h
      · rename_i d0 h2
        split at h
        · rename_i l h3
          split at h
          · rename_i k h4
            split at h
            · rename_i j h5
              split at h
              · rename_i c h6
                refine ⟨i, pth, d0, l, j, c, ⟨h1, h2, h3, k, h4, h5⟩, h6, h.1, ?_⟩
                rw [kz h1]
                exact h.2
              · exact h.elim
            · exact h.elim
          · exact h.elim
        · exact h.elim
      · exact h.elim
@[simp ↓] theorem x_sAugS {p2 p3 : Bool} {i : OD} : sAugS p2 p3 f o i oa E ds = o ds fun x ds1 => nvs p2 x ∧ i ds1 fun y ds2 => nvs p3 x ∧ nvs p3 y ∧ (match x.plc with
    | some (sl, pth) => (match ds2[sl]? with
      | some (some d0) => (match pget d0 pth with
        | some (.lst l) => (match y.get ds2 with
          | some (.t (.int k)) => (match ixN l.length k with
            | some j => (match l[j]? with
              | some c => cp c = true ∧ oa ds2 fun z ds3 => (match z.get ds3 with
                | some dz => f c dz fun d' => (match ds3[sl]? with
                  | some (some d0') => (match pget d0' pth with
                    | some (.lst l') => (match y.get ds3 with
                      | some (.t (.int k')) => (match ixN l'.length k' with
                        | some j' => j' = j ∧ E.nx (ds3.set sl (some (pset d0' pth (.lst (l'.set j d')))))
                        | none => False)
                      | _ => False)
                    | _ => False)
                  | _ => False)
                | none => False)
              | none => False)
            | none => False)
          | _ => False)
        | _ => False)
      | _ => False)
    | none => False) := by
  unfold sAugS
  congr 1
  funext x ds1
  congr 1
  congr 1
  funext y ds2
  congr 1
  congr 1
  exact ex_as
theorem ex_cl {ms : List Bool} {xs : List Tm} {ds1 : DS} {f : FD} : (∃ lm l, getM ms xs ds1 = some lm ∧ getA ms xs (clrM ms xs ds1) lm = some l ∧ f l fun d l' => Q d (updM ms xs l' (clrM ms xs ds1))) =
    (match getM ms xs ds1 with | some lm => (match getA ms xs (clrM ms xs ds1) lm with | some l => f l fun d l' => Q d (updM ms xs l' (clrM ms xs ds1)) | none => False) | none => False) := by
  cases getM ms xs ds1 with
  | none => simp
  | some lm =>
    simp only [Option.some.injEq, exists_and_left, exists_eq_left']
    rcases getA ms xs (clrM ms xs ds1) lm with _ | l
    · simp
    · simp
@[simp ↓] theorem x_dCall {ms : List Bool} {f : FD} : dCall ms f ad ds Q = ad ds fun xs ds1 => (match getM ms xs ds1 with | some lm => (match getA ms xs (clrM ms xs ds1) lm with | some l => f l fun d l' => Q d (updM ms xs l' (clrM ms xs ds1)) | none => False) | none => False) := by
  unfold dCall
  congr 1
  funext xs ds1
  exact ex_cl
@[simp ↓] theorem x_dCallP {n : Nat} {f : FD} : dCallP n f ad ds Q = ad ds fun xs ds1 => (match gets ds1 xs with | some l => l.length = n ∧ f (fzs l) fun d _ => Q d ds1 | none => False) := by
  unfold dCallP
  congr 1
  funext xs ds1
  rcases gets ds1 xs with _ | d
  · simp
  · simp
@[simp ↓] theorem x_dCallK {is : List Nat} {n : Nat} {f : FD} : dCallK is n f ad ds Q = ad ds fun xs ds1 => (match gets ds1 xs with | some l => l.length = n ∧ (permI is n l).length = n ∧ f (fzs (permI is n l)) fun d _ => Q d ds1 | none => False) := by
  unfold dCallK
  congr 1
  funext xs ds1
  rcases gets ds1 xs with _ | d
  · simp
  · simp
@[simp] theorem x_nvs {x : Tm} : nvs true x = True := by cases x <;> rfl
@[simp] theorem x_nvs1 {d : D} : nvs p (.own d) = True := by cases p <;> rfl
@[simp] theorem x_nvs2 {i : Nat} : nvs p (.nm i) = True := by cases p <;> rfl
@[simp] theorem x_mkTup {ts : List T} : mkTup (ts.map D.t) = .t (.tup ts) := mkTup_t ts
end
section
@[simp] theorem x_get1 {ds : DS} {d : D} : (Tm.own d).get ds = some d := rfl
@[simp] theorem x_get2 {ds : DS} {i : Nat} : (Tm.nm i).get ds = (ds[i]?).join := rfl
@[simp] theorem x_get3 {ds : DS} {i : Nat} {p : List Nat} : (Tm.pl i p).get ds = ((ds[i]?).join).bind fun d => pget d p := rfl
@[simp] theorem x_take1 {ds : DS} {d : D} : (Tm.own d).take ds = some d := rfl
@[simp] theorem x_take2 {ds : DS} {i : Nat} : (Tm.nm i).take ds = ((ds[i]?).join).bind fun d => if cp d = true then some d else none := rfl
@[simp] theorem x_plc1 {i : Nat} : (Tm.nm i).plc = some (i, []) := rfl
@[simp] theorem x_plc2 {i : Nat} {p : List Nat} : (Tm.pl i p).plc = some (i, p) := rfl
@[simp] theorem x_gets0 {ds : DS} : gets ds [] = some [] := rfl
@[simp] theorem x_takes0 {ds : DS} : takes ds [] = some [] := rfl
theorem gets_cons {ds : DS} {x : Tm} {xs : List Tm} {l : List D} : gets ds (x :: xs) = some l ↔ ∃ d r, x.get ds = some d ∧ gets ds xs = some r ∧ l = d :: r := by
  simp only [gets]
  constructor
  · intro h
    split at h
    · rename_i d r e1 e2
      cases h
      exact ⟨d, r, e1, e2, rfl⟩
    · cases h
  · rintro ⟨d, r, e1, e2, rfl⟩
    rw [e1, e2]
theorem takes_cons {ds : DS} {x : Tm} {xs : List Tm} {l : List D} : takes ds (x :: xs) = some l ↔ ∃ d r, x.take ds = some d ∧ takes ds xs = some r ∧ l = d :: r := by
  simp only [takes]
  constructor
  · intro h
    split at h
    · rename_i d r e1 e2
      cases h
      exact ⟨d, r, e1, e2, rfl⟩
    · cases h
  · rintro ⟨d, r, e1, e2, rfl⟩
    rw [e1, e2]
@[simp] theorem x_gets {ds : DS} {x : Tm} {xs : List Tm} : gets ds (x :: xs) = (x.get ds).bind fun d => (gets ds xs).map (d :: ·) := by
  simp only [gets]
  cases x.get ds <;> cases gets ds xs <;> rfl
@[simp] theorem x_takes {ds : DS} {x : Tm} {xs : List Tm} : takes ds (x :: xs) = (x.take ds).bind fun d => (takes ds xs).map (d :: ·) := by
  simp only [takes]
  cases x.take ds <;> cases takes ds xs <;> rfl
@[simp] theorem x_pget0 {d : D} : pget d [] = some d := by cases d <;> rfl
@[simp] theorem x_pset0 {d e : D} : pset d [] e = e := by cases d <;> rfl
@[simp] theorem x_fzt {x : T} : fz (.t x) = .t x := rfl
@[simp] theorem x_fzl {xs : List D} : fz (.lst xs) = .frz xs := rfl
@[simp] theorem x_fzf {xs : List D} : fz (.frz xs) = .frz xs := rfl
@[simp] theorem x_fzs0 : fzs [] = [] := rfl
@[simp] theorem x_fzs {x : D} {xs : List D} : fzs (x :: xs) = fz x :: fzs xs := rfl
@[simp] theorem x_fzst {ts : List T} : fzs (ts.map D.t) = ts.map D.t := fzs_t ts
@[simp] theorem x_cpt {x : T} : cp (.t x) = true := rfl
@[simp] theorem x_cpf {xs : List D} : cp (.frz xs) = true := rfl
@[simp] theorem x_cps0 : cps [] = true := rfl
@[simp] theorem x_cps {x : D} {xs : List D} : cps (x :: xs) = (cp x && cps xs) := rfl
@[simp] theorem x_cpst {ts : List T} : cps (ts.map D.t) = true := cps_t ts
@[simp] theorem x_itT {xs : List T} : items (.t (.tup xs)) = some (xs.map D.t) := rfl
@[simp] theorem x_itF {xs : List D} : items (.frz xs) = some (fzs xs) := rfl
@[simp] theorem x_itL {xs : List D} : items (.lst xs) = some (fzs xs) := rfl
@[simp] theorem x_isT {xs : List T} : isTup (.t (.tup xs)) = true := rfl
@[simp] theorem x_isF {xs : List D} : isTup (.frz xs) = false := rfl
@[simp] theorem x_isL {xs : List D} : isTup (.lst xs) = false := rfl
@[simp] theorem x_titT {xs : List T} : tits (.t (.tup xs)) = some (xs.map D.t) := rfl
@[simp] theorem x_litT {x : T} : lits (.t x) = none := rfl
@[simp] theorem x_litL {xs : List D} : lits (.lst xs) = some xs := rfl
@[simp] theorem x_titL {xs : List D} : tits (.lst xs) = none := rfl
@[simp] theorem x_pair {a b : T} : pairD (.t a) (.t b) = .t (.tup [a, b]) := rfl
@[simp] theorem x_mk0 : mkTup [] = .t (.tup []) := rfl
@[simp] theorem x_mk1 {a : T} : mkTup [.t a] = .t (.tup [a]) := rfl
@[simp] theorem x_mk2 {a b : T} : mkTup [.t a, .t b] = .t (.tup [a, b]) := rfl
@[simp] theorem x_mk3 {a b c : T} : mkTup [.t a, .t b, .t c] = .t (.tup [a, b, c]) := rfl
@[simp] theorem x_mk4 {a b c d : T} : mkTup [.t a, .t b, .t c, .t d] = .t (.tup [a, b, c, d]) := rfl
@[simp ↓] theorem x_fI0 {g : Int → Int → Int} {i j : Int} {Q : D → Prop} : fI0 g (.t (.int i)) (.t (.int j)) Q = Q (.t (.int (g i j))) := rfl
@[simp ↓] theorem x_fI {Cd : Int → Int → Prop} {g : Int → Int → Int} {i j : Int} {Q : D → Prop} : fI Cd g (.t (.int i)) (.t (.int j)) Q = (Cd i j ∧ Q (.t (.int (g i j)))) := rfl
@[simp ↓] theorem x_fIB {g : Int → Int → Bool} {i j : Int} {Q : D → Prop} : fIB g (.t (.int i)) (.t (.int j)) Q = Q (.t (.bl (g i j))) := rfl
@[simp ↓] theorem x_fU {g : Int → Int} {i : Int} {Q : D → Prop} : fU g (.t (.int i)) Q = Q (.t (.int (g i))) := rfl
@[simp ↓] theorem x_fAddI {i j : Int} {Q : D → Prop} : fAdd (.t (.int i)) (.t (.int j)) Q = Q (.t (.int (i + j))) := rfl
@[simp ↓] theorem x_fMulI {i j : Int} {Q : D → Prop} : fMulT (.t (.int i)) (.t (.int j)) Q = (CMul i j ∧ Q (.t (.int (i * j)))) := rfl
@[simp ↓] theorem x_fMulT {xs : List T} {k : Int} {Q : D → Prop} : fMulT (.t (.tup xs)) (.t (.int k)) Q = (xs ≠ [] ∧ 1 ≤ k ∧ k ≤ 1000 ∧ xs.length ≤ 1000 ∧ Q (.t (.tup (List.replicate k.toNat xs).flatten))) := rfl
@[simp ↓] theorem x_fIxT {xs : List T} {i : Int} {Q : D → Prop} : fIx (.t (.tup xs)) (.t (.int i)) Q = (match L2.atI xs i with | some x => Q (.t x) | none => False) := by
  show (∃ x, L2.atI xs i = some x ∧ Q (.t x)) = _
  rcases L2.atI xs i with _ | x
  · simp
  · simp
@[simp ↓] theorem x_fIxL {xs : List D} {i : Int} {Q : D → Prop} : fIx (.lst xs) (.t (.int i)) Q = (match L2.atI xs i with | some x => cp x = true ∧ Q x | none => False) := by
  show (∃ x, L2.atI xs i = some x ∧ cp x = true ∧ Q x) = _
  rcases L2.atI xs i with _ | x
  · simp
  · simp
@[simp ↓] theorem x_fIxF {xs : List D} {i : Int} {Q : D → Prop} : fIx (.frz xs) (.t (.int i)) Q = (match L2.atI xs i with | some x => Q (fz x) | none => False) := by
  show (∃ x, L2.atI xs i = some x ∧ Q (fz x)) = _
  rcases L2.atI xs i with _ | x
  · simp
  · simp
@[simp ↓] theorem x_fTuple {d : D} {Q : D → Prop} : fTuple [d] Q = (match lits d with | some xs => cps xs = true ∧ Q (mkTup xs) | none => (match tits d with | some xs => cps xs = true ∧ Q (mkTup xs) | none => False)) := by
  have e : fTuple [d] Q = ∃ xs, ((lits d = some xs ∧ cps xs = true) ∨ (tits d = some xs ∧ cps xs = true)) ∧ Q (mkTup xs) := by
    apply propext
    constructor
    · rintro ⟨d', xs, h, z⟩; cases h; exact ⟨xs, z⟩
    · rintro ⟨xs, z⟩; exact ⟨d, xs, rfl, z⟩
  rw [e]
  cases d with
  | t x => cases x <;> simp [lits, tits, and_assoc]
  | _ => simp [lits, tits, and_assoc]
@[simp ↓] theorem x_fList {d : D} {Q : D → Prop} : fList [d] Q = (match sits d with | some xs => cps xs = true ∧ Q (.lst xs) | none => False) := by
  have e : fList [d] Q = ∃ xs, sits d = some xs ∧ cps xs = true ∧ Q (.lst xs) := by
    apply propext
    constructor
    · rintro ⟨d', xs, h, z⟩; cases h; exact ⟨xs, z⟩
    · rintro ⟨xs, z⟩; exact ⟨d, xs, rfl, z⟩
  rw [e]
  rcases sits d with _ | x
  · simp
  · simp
@[simp ↓] theorem x_fLen {d : D} {Q : D → Prop} : fLen [d] Q = (match slen d with | some n => Q (.t (.int (n : Nat))) | none => False) := by
  have e : fLen [d] Q = ∃ n : Nat, slen d = some n ∧ Q (.t (.int n)) := by
    apply propext
    constructor
    · rintro ⟨d', xs, h, z⟩; cases h; exact ⟨xs, z⟩
    · rintro ⟨xs, z⟩; exact ⟨d, xs, rfl, z⟩
  rw [e]
  rcases slen d with _ | x
  · simp
  · simp
@[simp ↓] theorem x_fAbs {i : Int} {Q : D → Prop} : fAbs [.t (.int i)] Q = Q (.t (.int (if i < 0 then -i else i))) := by
  apply propext
  constructor
  · rintro ⟨j, h, z⟩; cases h; exact z
  · intro z; exact ⟨i, rfl, z⟩
@[simp ↓] theorem x_fInt {i : Int} {Q : D → Prop} : fInt [.t (.int i)] Q = Q (.t (.int i)) := by
  apply propext
  constructor
  · rintro (⟨j, h, z⟩ | ⟨j, h, z⟩)
    · cases h; exact z
    · cases h
  · intro z; exact .inl ⟨i, rfl, z⟩
@[simp ↓] theorem x_fMax2 {i j : Int} {Q : D → Prop} : fMax2 [.t (.int i), .t (.int j)] Q = Q (.t (.int (if j > i then j else i))) := by
  apply propext
  constructor
  · rintro ⟨i', j', h, z⟩; cases h; exact z
  · intro z; exact ⟨i, j, rfl, z⟩
@[simp ↓] theorem x_fMin2 {i j : Int} {Q : D → Prop} : fMin2 [.t (.int i), .t (.int j)] Q = Q (.t (.int (if j < i then j else i))) := by
  apply propext
  constructor
  · rintro ⟨i', j', h, z⟩; cases h; exact z
  · intro z; exact ⟨i, j, rfl, z⟩
@[simp ↓] theorem x_fSum {d : D} {Q : D → Prop} : fSum [d] Q = (match sits d with | some xs => (match intsD xs with | some ns => Q (.t (.int ns.sum)) | none => False) | none => False) := by
  have e : fSum [d] Q = ∃ xs ns, sits d = some xs ∧ intsD xs = some ns ∧ Q (.t (.int ns.sum)) := by
    apply propext
    constructor
    · rintro ⟨d', xs, ns, h, z⟩; cases h; exact ⟨xs, ns, z⟩
    · rintro ⟨xs, ns, z⟩; exact ⟨d, xs, ns, rfl, z⟩
  rw [e]
  rcases sits d with _ | xs
  · simp
  · simp only [Option.some.injEq, exists_and_left, exists_eq_left']
    rcases intsD xs with _ | ns
    · simp
    · simp
@[simp] theorem x_slenT {xs : List T} : slen (.t (.tup xs)) = some xs.length := rfl
@[simp] theorem x_slenL {xs : List D} : slen (.lst xs) = some xs.length := rfl
@[simp] theorem x_slenF {xs : List D} : slen (.frz xs) = some xs.length := rfl
@[simp] theorem x_sitsT {xs : List T} : sits (.t (.tup xs)) = some (xs.map D.t) := rfl
@[simp] theorem x_sitsL {xs : List D} : sits (.lst xs) = some xs := rfl
@[simp] theorem x_sitsS {xs : List D} : sits (.scr xs) = some (fzs xs) := rfl
@[simp] theorem x_slenS {xs : List D} : slen (.scr xs) = some xs.length := rfl
@[simp] theorem x_cpS {xs : List D} : cp (.scr xs) = true := rfl
@[simp] theorem x_fzS {xs : List D} : fz (.scr xs) = .scr xs := rfl
@[simp] theorem x_sitsF {xs : List D} : sits (.frz xs) = some (fzs xs) := rfl
@[simp] theorem x_nft {x : T} : nf (.t x) = true := rfl
@[simp] theorem x_nfl {xs : List D} : nf (.lst xs) = nfs xs := rfl
@[simp] theorem x_nfs0 : nfs [] = true := rfl
@[simp] theorem x_nfs {x : D} {xs : List D} : nfs (x :: xs) = (nf x && nfs xs) := rfl
@[simp] theorem x_nfst {ts : List T} : nfs (ts.map D.t) = true := nfs_t ts
@[simp] theorem x_dw0 {ds : DS} : dwipe ds [] = ds := rfl
@[simp] theorem x_dw {ds : DS} {v : Nat} {vs : List Nat} : dwipe ds (v :: vs) = (dwipe ds vs).set v none := rfl
@[simp] theorem x_sl0 {ds : DS} : slotsAt ds [] = some [] := rfl
@[simp] theorem x_sl1 {ds : DS} {i : Nat} {is : List Nat} : slotsAt ds (i :: is) = ((ds[i]?).join).bind fun d => (slotsAt ds is).map (d :: ·) := by
  simp only [slotsAt]
  cases ds[i]? with
  | none => rfl
  | some o => cases o <;> rfl
@[simp] theorem x_mx0 {i : Nat} : mxOf [] i = [] := rfl
@[simp] theorem x_mx1 {i : Nat} {ms : List Bool} : mxOf (true :: ms) i = i :: mxOf ms (i + 1) := rfl
@[simp] theorem x_mx2 {i : Nat} {ms : List Bool} : mxOf (false :: ms) i = mxOf ms (i + 1) := rfl
theorem comp_t {α : Type} {f : α → T} {xs : List α} : xs.map (D.t ∘ f) = (xs.map f).map D.t := by rw [List.map_map]
@[simp] theorem x_fzsC {α : Type} {f : α → T} {xs : List α} : fzs (xs.map (D.t ∘ f)) = xs.map (D.t ∘ f) := by rw [comp_t]; exact fzs_t _
@[simp] theorem x_cpsC {α : Type} {f : α → T} {xs : List α} : cps (xs.map (D.t ∘ f)) = true := by rw [comp_t]; exact cps_t _
@[simp] theorem x_nfsC {α : Type} {f : α → T} {xs : List α} : nfs (xs.map (D.t ∘ f)) = true := by rw [comp_t]; exact nfs_t _
@[simp] theorem x_mkTupC {α : Type} {f : α → T} {xs : List α} : mkTup (xs.map (D.t ∘ f)) = .t (.tup (xs.map f)) := by rw [comp_t]; exact mkTup_t _
@[simp] theorem x_intsD0 : intsD [] = some [] := rfl
theorem intsD_t : ∀ (xs : List Int), intsD ((xs.map T.int).map D.t) = some xs
  | [] => rfl
  | x :: xs => by simp only [List.map_cons, intsD, intsD_t xs]; rfl
@[simp] theorem x_intsDC {xs : List Int} : intsD (xs.map (D.t ∘ T.int)) = some xs := by rw [comp_t]; exact intsD_t xs
@[simp] theorem x_intsD {xs : List Int} : intsD ((xs.map T.int).map D.t) = some xs := intsD_t xs
@[simp] theorem x_finD {ms : List Bool} {Q : D → List D → Prop} {d : D} {ds : DS} : finD ms Q d ds = (nf d = true ∧ ∃ l', slotsAt ds (mxOf ms 0) = some l' ∧ nfs l' = true ∧ Q d l') := rfl
end
end Dn

set_option Elab.async false
set_option linter.all false
set_option maxRecDepth 100000
/-! Dn17: comprehensions that change nothing; what iterables give. -/
namespace Dn
open PySem PySem.Spec PyProof.Rows L2
section
variable {α : Type} {g : GD} {q : QD} {e : ED} {vs : List Nat} {Q : D → DS → Prop} {ds0 : DS} {tD F : α → D}
/-- [F x for x in xs if keep x], nothing else changed -/
theorem comp_filter (xs : List α) (keep : α → Bool) (h : ∀ x, x ∈ xs → ∀ (Z : D → DS → Prop) (W : DS → Prop), (keep x = true → ∀ ds3, dwipe ds3 vs = ds0 → Z (F x) ds3) → (keep x = false → ∀ ds2, dwipe ds2 vs = ds0 → W ds2) → g (tD x) ds0 fun ds1 => q ds1 fun b ds2 => if b = true then e ds2 Z else W ds2)
    (hl : xs.length ≤ sizeLine) (hQ : Q (.lst ((xs.filter keep).map F)) ds0) : CompD g q e vs Q (xs.map tD) ds0 := by
  refine ⟨fun i acc ds => ds = ds0 ∧ acc = ((xs.take i).filter keep).map F ∧ i ≤ xs.length, ⟨rfl, by simp, Nat.zero_le _⟩, ?_, ?_⟩
  · rintro i d acc ds hd ⟨rfl, rfl, hi⟩
    rw [List.getElem?_map] at hd
    cases ex : xs[i]? with
    | none => rw [ex] at hd; cases hd
    | some x =>
      rw [ex] at hd
      cases hd
      obtain ⟨hlt, ex'⟩ := List.getElem?_eq_some_iff.mp ex
      have hta : xs.take (i + 1) = xs.take i ++ [x] := by rw [List.take_succ, ex]; rfl
      refine h x (List.mem_of_getElem? ex) _ _ (fun hk ds3 e3 => ⟨?_, e3, ?_, hlt⟩) (fun hk ds2 e2 => ⟨e2, ?_, hlt⟩)
      · rw [List.length_map]
        have h1 : ((xs.take i).filter keep).length ≤ (xs.take i).length := List.length_filter_le _ _
        have h2 : (xs.take i).length ≤ i := by rw [List.length_take]; omega
        omega
      · rw [hta, List.filter_append, List.map_append]
        simp [hk]
      · rw [hta, List.filter_append, List.map_append]
        simp [hk]
  · rintro acc ds ⟨rfl, rfl, _⟩
    rw [List.length_map, List.take_length]
    exact hQ
theorem comp_map (xs : List α) (h : ∀ x, x ∈ xs → ∀ (Z : D → DS → Prop) (W : DS → Prop), (∀ ds3, dwipe ds3 vs = ds0 → Z (F x) ds3) → g (tD x) ds0 fun ds1 => q ds1 fun b ds2 => if b = true then e ds2 Z else W ds2)
    (hl : xs.length ≤ sizeLine) (hQ : Q (.lst (xs.map F)) ds0) : CompD g q e vs Q (xs.map tD) ds0 :=
  comp_filter xs (fun _ => true) (fun x hx Z W h1 _ => h x hx Z W (h1 rfl)) hl (by
    have : xs.filter (fun _ => true) = xs := List.filter_eq_self.mpr fun _ _ => rfl
    rw [this]; exact hQ)
end
theorem zipD_t : ∀ (as bs : List T), zipD (as.map D.t) (bs.map D.t) = (as.zip bs).map fun p => D.t (.tup [p.1, p.2])
  | [], _ => by simp [zipD]
  | _ :: _, [] => by simp [zipD]
  | a :: as, b :: bs => by simp only [List.map_cons, zipD, zipD_t as bs, List.zip_cons_cons, x_pair]
theorem enumD_t (ts : List T) : enumD (ts.map D.t) = ts.zipIdx.map fun p => D.t (.tup [.int (p.2 : Nat), p.1]) := by
  refine List.ext_getElem? fun i => ?_
  rw [List.getElem?_map, List.getElem?_zipIdx]
  cases h : ts[i]? with
  | none =>
    rw [List.getElem?_eq_none (by rw [enumD_length, List.length_map]; rw [List.getElem?_eq_none_iff] at h; exact h)]
    rfl
  | some t =>
    rw [enumD_get (d := .t t) (by rw [List.getElem?_map, h]; rfl)]
    simp
@[simp] theorem x_zipC {α β : Type} {f : α → T} {g : β → T} {as : List α} {bs : List β} : zipD (as.map (D.t ∘ f)) (bs.map (D.t ∘ g)) = (as.zip bs).map fun p => D.t (.tup [f p.1, g p.2]) := by
  rw [comp_t, comp_t, zipD_t, List.zip_map, List.map_map]; rfl
@[simp] theorem x_enumC {α : Type} {f : α → T} {as : List α} : enumD (as.map (D.t ∘ f)) = as.zipIdx.map fun p => D.t (.tup [.int (p.2 : Nat), f p.1]) := by
  rw [comp_t, enumD_t, List.zipIdx_map, List.map_map]; rfl
/-! int equality -/
theorem eqv_int (i j : Int) : PyData.eqv (dP (.t (.int i))) (dP (.t (.int j))) = decide (i = j) := by
  show PyData.eqv (.int i) (.int j) = _
  simp only [PyData.eqv]
  rw [Bool.eq_iff_iff]; simp
@[simp ↓] theorem x_fEqI {i j : Int} {Q : D → Prop} : fEq (.t (.int i)) (.t (.int j)) Q = Q (.t (.bl (decide (i = j)))) := by
  unfold fEq
  rw [eqv_int]
  simp [sh_int]
@[simp ↓] theorem x_fNeI {i j : Int} {Q : D → Prop} : fNe (.t (.int i)) (.t (.int j)) Q = Q (.t (.bl (!decide (i = j)))) := by
  unfold fNe
  rw [eqv_int]
  simp [sh_int]
/-! lists read at a place -/
theorem atN {α : Type} {xs : List α} {i : Nat} {x : α} (h : xs[i]? = some x) : L2.atI xs (i : Int) = some x := by
  have hl := (List.getElem?_eq_some_iff.mp h).1
  unfold L2.atI ixN
  have e := (List.getElem?_eq_some_iff.mp h).2
  simp [hl, e]
theorem ixN_n {n i : Nat} (h : i < n) : ixN n (i : Int) = some i := by
  unfold ixN
  simp [h]
end Dn
namespace Dn
open PySem PySem.Spec PyProof.Rows L2
@[simp ↓] theorem x_popAt0 {x : D} {xs : List D} {Q : List D → D → Prop} : mPopAt (x :: xs) [.t (.int 0)] Q = Q xs x := by
  apply propext
  constructor
  · rintro ⟨i, k, e, h, _, _, h2, h3, z⟩
    cases h
    have : k = 0 := by simp [seqIndex?] at h2; omega
    subst this
    simp at h3
    subst h3
    exact z
  · intro z
    exact ⟨0, 0, x, rfl, by decide, by decide, by simp [seqIndex?], rfl, z⟩
@[simp ↓] theorem x_ins {xs : List D} {i : Int} {e : D} {Q : List D → D → Prop} : mInsert xs [.t (.int i), e] Q = (xs.length < sizeLine ∧ 0 ≤ i ∧ i < 2 ^ 63 ∧ Q (xs.take i.toNat ++ [e] ++ xs.drop i.toNat) (.t .non)) := by
  apply propext
  constructor
  · rintro ⟨i', e', h, z⟩; cases h; exact z
  · intro z; exact ⟨i, e, rfl, z⟩
/-! sorted pairs -/
def srt (ns : List (Int × Int)) : List (Int × Int) := ns.mergeSort (fun a b => decide (a.1 < b.1 ∨ (a.1 = b.1 ∧ a.2 ≤ b.2)))
theorem srt_perm (ns : List (Int × Int)) : (srt ns).Perm ns := List.mergeSort_perm _ _
theorem srt_eq {ms ns : List (Int × Int)} (p : ms.Perm ns) (h : ms.Pairwise lePr) : ms = srt ns := by
  refine List.Perm.eq_of_pairwise (le := lePr) (fun a b _ _ h1 h2 => ?_) h ?_ (p.trans (srt_perm ns).symm)
  · obtain ⟨a1, a2⟩ := a
    obtain ⟨b1, b2⟩ := b
    simp only [lePr] at h1 h2
    have e1 : a1 = b1 := by omega
    have e2 : a2 = b2 := by omega
    rw [e1, e2]
  · have := List.pairwise_mergeSort (le := fun (a b : Int × Int) => decide (a.1 < b.1 ∨ (a.1 = b.1 ∧ a.2 ≤ b.2))) (fun a b c h1 h2 => by simp only [decide_eq_true_eq] at *; omega) (fun a b => by simp only [Bool.or_eq_true, decide_eq_true_eq]; omega) ns
    exact this.imp fun h => by simpa [lePr] using h
theorem fSortP_of {ns : List (Int × Int)} {Q : D → Prop} (h : Q (.lst ((srt ns).map prD))) : fSortP [.lst (ns.map prD)] Q :=
  ⟨_, _, ns, rfl, rfl, prs_map ns, fun ms p hp => by rw [srt_eq p hp]; exact h⟩
/-- the pairs as items -/
theorem prD_comp {ns : List (Int × Int)} : ns.map prD = ns.map (D.t ∘ fun p => T.tup [.int p.1, .int p.2]) := rfl
theorem cut_map {α β : Type} (f : α → β) (xs : List α) (lo hi : Option Int) : cutT (xs.map f) lo hi = (cutT xs lo hi).map f := by
  unfold cutT
  rw [List.length_map, ← List.map_drop, ← List.map_take]
@[simp] theorem x_cutC {α : Type} {f : α → D} {xs : List α} {lo hi : Option Int} : cutT (xs.map f) lo hi = (cutT xs lo hi).map f := cut_map f xs lo hi
@[simp ↓] theorem x_fSlL {xs : List D} {lo hi : Option Int} {Q : D → Prop} : fSl (.lst xs) lo hi Q = (cps xs = true ∧ Q (.lst (cutT xs lo hi))) := by
  apply propext
  constructor
  · rintro ⟨ys, h, z⟩; cases h; exact z
  · intro z; exact ⟨xs, rfl, z⟩
@[simp ↓] theorem x_fSlT {xs : List T} {lo hi : Option Int} {Q : D → Prop} : fSl (.t (.tup xs)) lo hi Q = Q (.t (.tup (cutT xs lo hi))) := rfl
@[simp ↓] theorem x_app {xs : List D} {e : D} {Q : List D → D → Prop} : mAppend xs [e] Q = (xs.length < sizeLine ∧ Q (xs ++ [e]) (.t .non)) := by
  apply propext
  constructor
  · rintro ⟨e', h, z⟩; cases h; exact z
  · intro z; exact ⟨e, rfl, z⟩
end Dn
namespace Dn
theorem rangeD_get {lo : Int} {n i : Nat} {d : D} (h : (rangeD lo n)[i]? = some d) : i < n ∧ d = .t (.int (lo + (i : Int))) := by
  have hlt : i < n := by
    have := (List.getElem?_eq_some_iff.mp h).1
    simpa [rangeD] using this
  refine ⟨hlt, ?_⟩
  have e := (List.getElem?_eq_some_iff.mp h).2
  rw [← e]
  simp [rangeD]
theorem rangeD_len {lo : Int} {n : Nat} : (rangeD lo n).length = n := by simp [rangeD]
theorem rangeD_map {lo : Int} {n : Nat} : rangeD lo n = (List.range n).map fun (i : Nat) => D.t (.int (lo + (i : Int))) := rfl
theorem map_get {α β : Type} {f : α → β} {xs : List α} {i : Nat} {d : β} (h : (xs.map f)[i]? = some d) : ∃ x, xs[i]? = some x ∧ d = f x := by
  rw [List.getElem?_map] at h
  cases e : xs[i]? with
  | none => rw [e] at h; cases h
  | some x => rw [e] at h; exact ⟨x, rfl, (Option.some.inj h).symm⟩
end Dn
namespace Dn
open PySem PySem.Spec PyProof.Rows L2
section
variable {α : Type} {a b c d : α} {xs : List α}
theorem at_of {i : Nat} {x : α} (h : xs[i]? = some x) {j : Int} (e : j = i) : L2.atI xs j = some x := by subst e; exact atN h
@[simp] theorem x_at0 : L2.atI (a :: xs) 0 = some a := at_of (i := 0) rfl rfl
@[simp] theorem x_at1 : L2.atI (a :: b :: xs) 1 = some b := at_of (i := 1) rfl rfl
@[simp] theorem x_at2 : L2.atI (a :: b :: c :: xs) 2 = some c := at_of (i := 2) rfl rfl
@[simp] theorem x_at3 : L2.atI (a :: b :: c :: d :: xs) 3 = some d := at_of (i := 3) rfl rfl
theorem ix_of {n i : Nat} (h : i < n) {j : Int} (e : j = i) : ixN n j = some i := by subst e; exact ixN_n h
@[simp] theorem x_ix0 {n : Nat} : ixN (n + 1) 0 = some 0 := ix_of (by omega) rfl
@[simp] theorem x_ix1 {n : Nat} : ixN (n + 1 + 1) 1 = some 1 := ix_of (by omega) rfl
@[simp] theorem x_ix2 {n : Nat} : ixN (n + 1 + 1 + 1) 2 = some 2 := ix_of (by omega) rfl
@[simp] theorem x_ix3 {n : Nat} : ixN (n + 1 + 1 + 1 + 1) 3 = some 3 := ix_of (by omega) rfl
end
@[simp] theorem x_i40 : ixN 4 0 = some 0 := rfl
@[simp] theorem x_i41 : ixN 4 1 = some 1 := rfl
@[simp] theorem x_i42 : ixN 4 2 = some 2 := rfl
@[simp] theorem x_i43 : ixN 4 3 = some 3 := rfl
end Dn

set_option Elab.async false
set_option linter.all false
set_option maxRecDepth 100000
set_option maxHeartbeats 2000000
/-! Dn3b: chained comparisons. -/
namespace Dn
open PySem PySem.Spec PyProof.Rows L2
def dCh (p2 p3 : Bool) (f f' : F2) (a b c : OD) : ED := fun ds Q => a ds fun x ds1 => nvs p2 x ∧ b ds1 fun y ds2 => ∃ d d', x.get ds2 = some d ∧ y.get ds2 = some d' ∧ f d d' fun z => ∃ k, z = .t (.bl k) ∧
  if k = true then nvs p3 y ∧ c ds2 fun w ds3 => ∃ d2 d3, y.get ds3 = some d2 ∧ w.get ds3 = some d3 ∧ f' d2 d3 fun z => Q z ds3 else Q (.t (.bl false)) ds2
section
variable {X : Cx} {C : FC} {p p2 p3 : Bool} {pos : Pos} {ea eb ec : Expr} {ta tb tc : OD}
theorem ch_run {K : PySem.W.Frag} {f f' : F2} {r r' : R2} (hr : R2' K f r) (hr' : R2' K f' r') (hp : p = true → p2 = true) (hp3 : p = true → p3 = true) {σ : L2.St} {H : Hp} {Q : VK} (h : LE K C p (dCh p2 p3 f f' ta tb tc) σ H Q) : tChain r r' (LO K C p ta) (LO K C p2 tb) (LO K C p3 tc) σ H Q := by
  obtain ⟨B, ds, ts, P, rs, nv, t, q⟩ := h
  refine ⟨B, ds, ts, _, rs, nv, t, fun tm ds1 ⟨n1, ht⟩ v1 H1 B1 kb1 r1 => ?_⟩
  have nv2 : p2 = false → novw ts := fun e => nv (by cases p; rfl; exact absurd (hp rfl) (by rw [e]; decide))
  have nv3 : p3 = false → novw ts := fun e => nv (by cases p; rfl; exact absurd (hp3 rfl) (by rw [e]; decide))
  refine ⟨B1, ds1, _, _, r1, nv_cons n1 nv2, ht, fun tm2 ds2 ⟨d, d', e1, e2, hf⟩ v2 H2 B2 kb2 r2 => ?_⟩
  refine hr B2 H2 v1 v2 d d' _ _ r2.bh (r2.see1 e1) (r2.see0 e2) hf fun z v' H' k fr ⟨b, ez, zz⟩ => ?_
  subst ez
  have r3 := r2.push k fr
  have ev : v' = .bl b := r3.see0 (d := .t (.bl b)) rfl
  subst ev
  refine ⟨b, rfl, ?_⟩
  cases b with
  | true =>
    rw [if_pos rfl] at zz ⊢
    obtain ⟨n3, zz⟩ := zz
    refine ⟨B2, ds2, _, _, (r3.drop).drop2, nv_cons n3 nv3, zz, fun w ds3 ⟨d2, d3, g1, g2, hf'⟩ v4 H4 B4 kb4 r4 => ?_⟩
    exact hr' B4 H4 v2 v4 d2 d3 _ _ r4.bh (r4.see1 g1) (r4.see0 g2) hf' fun d'' v'' H'' k' fr' z => q _ _ z v'' H'' B4 ((kb1.trans kb2).trans kb4) (((r4.push k' fr').drop2).drop2)
  | false =>
    rw [if_neg Bool.false_ne_true] at zz ⊢
    exact q _ _ zz _ H' B2 (kb1.trans kb2) ((r3.drop2).drop2)
theorem e_ch {op op' : CmpOp} {f f' : F2} {r r' : R2} (ho : OpR X (compareOp op) r) (hr : R2' X.K f r) (ho' : OpR X (compareOp op') r') (hr' : R2' X.K f' r') (ha : PE X ea (LO X.K C p ta)) (hb : PE X eb (LO X.K C p2 tb)) (hc : PE X ec (LO X.K C p3 tc)) (hp : p = true → p2 = true := by decide) (hp3 : p = true → p3 = true := by decide)
    (hm : lastMarks [op, op'] [eb, ec] = false := by with_unfolding_all rfl) : PE X (.Compare ea [op, op'] [eb, ec] pos) (LE X.K C p (dCh p2 p3 f f' ta tb tc)) :=
  (pe_chain ho ho' ha hb hc hm).imp fun _ _ _ h => ch_run hr hr' hp hp3 h
theorem q_ch {op op' : CmpOp} {f f' : F2} {r r' : R2} (ho : OpR X (compareOp op) r) (hr : R2' X.K f r) (ho' : OpR X (compareOp op') r') (hr' : R2' X.K f' r') (ha : PE X ea (LO X.K C p ta)) (hb : PE X eb (LO X.K C p2 tb)) (hc : PE X ec (LO X.K C p3 tc)) (hp : p = true → p2 = true := by decide) (hp3 : p = true → p3 = true := by decide)
    (hm : lastMarks [op, op'] [eb, ec] = false := by with_unfolding_all rfl) : PT X (.Compare ea [op, op'] [eb, ec] pos) (LT X.K C p (qB (dCh p2 p3 f f' ta tb tc))) :=
  (pt_chain ho ho' ha hb hc hm).imp fun _ _ _ h => ch_run hr hr' hp hp3 (lt_bl h)
end
end Dn

set_option Elab.async false
set_option linter.all false
set_option maxRecDepth 100000
set_option maxHeartbeats 2000000
/-! Dn3c: list(range(..)), tuple(range(..)). -/
namespace Dn
open PySem PySem.Spec PyProof.Rows L2
theorem VBs.range {K : PySem.W.Frag} {B H : Hp} (lo : Int) : ∀ n : Nat, VBs K B H (rangeD lo n) ((List.range n).map fun i => V.int (lo + (i : Nat))) := by
  have key : ∀ (l : List Nat), VBs K B H (l.map fun i => D.t (.int (lo + (i : Nat)))) (l.map fun i => V.int (lo + (i : Nat))) := fun l => by
    induction l with
    | nil => exact rfl
    | cons x l ih => exact ⟨_, _, rfl, rfl, ih⟩
  exact fun n => key _
theorem cps_range (lo : Int) (n : Nat) : cps (rangeD lo n) = true := by
  have key : ∀ (l : List Nat), cps (l.map fun i => D.t (.int (lo + (i : Nat)))) = true := fun l => by
    induction l with
    | nil => rfl
    | cons x l ih => simpa [cps, cp] using ih
  exact key _
def dRg1 (mk : List D → D) (o : OD) : ED := fun ds Q => o ds fun x ds1 => ∃ j, x.get ds1 = some (.t (.int j)) ∧ -(2 ^ 62) ≤ j ∧ j ≤ 2 ^ 24 ∧ Q (mk (rangeD 0 j.toNat)) ds1
section
variable {X : Cx} {C : FC} {p : Bool} {pos pp pp2 pos2 : Pos} {ea eb : Expr} {o : OD}
theorem rg1_run {K : PySem.W.Frag} {σ : L2.St} {H : Hp} {Q : VK} (h : LE K C p (dRg1 .lst o) σ H Q) : tLstRg (tRg1 (LO K C p o)) σ H Q := by
  obtain ⟨B, ds, ts, P, r, nv, t, q⟩ := h
  refine ⟨B, ds, ts, _, r, nv, t, fun x ds1 ⟨j, e, b1, b2, z⟩ v H1 B1 kb1 r1 => ?_⟩
  have ev : v = .int j := r1.see0 e
  subst ev
  refine ⟨j, rfl, ⟨by omega, by omega, by omega, by omega, by omega⟩, fun a ha => q _ _ z _ _ B1 kb1 ((r1.push (same_new ha) (Fresh.lst ha ?_ (cps_range 0 _))).drop2)⟩
  have e : rgV 0 j = (List.range j.toNat).map fun i => V.int (0 + (i : Nat)) := by unfold rgV; rw [Int.sub_zero]
  rw [e]
  exact VBs.range 0 _
theorem rgT_run {K : PySem.W.Frag} {σ : L2.St} {H : Hp} {Q : VK} (h : LE K C p (dRg1 mkTup o) σ H Q) : tTupRg (tRg1 (LO K C p o)) σ H Q := by
  obtain ⟨B, ds, ts, P, r, nv, t, q⟩ := h
  refine ⟨B, ds, ts, _, r, nv, t, fun x ds1 ⟨j, e, b1, b2, z⟩ v H1 B1 kb1 r1 => ?_⟩
  have ev : v = .int j := r1.see0 e
  subst ev
  refine ⟨j, rfl, ⟨by omega, by omega, by omega, by omega, by omega⟩, fun a ha => q _ _ z _ _ B1 kb1 ((r1.push (same_new ha) (Fresh.tup ha ?_ (cps_range 0 _))).drop2)⟩
  have e : rgV 0 j = (List.range j.toNat).map fun i => V.int (0 + (i : Nat)) := by unfold rgV; rw [Int.sub_zero]
  rw [e]
  exact VBs.range 0 _
theorem b_lstRg (hl : X.mg "list" = none) (hm : X.mg "range" = none) (hc : X.calm = true) (ha : PE X ea (LO X.K C p o)) (hg : Gl X "list" := by rfl) (hg2 : Gl X "range" := by rfl) (na : starEach [ea] X.env = (false, eval ea X.env) :: starEach [] X.env := by rfl)
    (na2 : starEach [.Call (.Name "range" pp2) [ea] [] pos2] X.env = (false, eval (.Call (.Name "range" pp2) [ea] [] pos2) X.env) :: starEach [] X.env := by rfl) : PE X (.Call (.Name "list" pp) [.Call (.Name "range" pp2) [ea] [] pos2] [] pos) (LE X.K C p (dRg1 .lst o)) :=
  (pe_listRg hc hg hl (prg_1 hg2 hm ha na) na2).imp fun _ _ _ h => rg1_run h
theorem b_tupRg (hl : X.mg "tuple" = none) (hm : X.mg "range" = none) (hc : X.calm = true) (ha : PE X ea (LO X.K C p o)) (hg : Gl X "tuple" := by rfl) (hg2 : Gl X "range" := by rfl) (na : starEach [ea] X.env = (false, eval ea X.env) :: starEach [] X.env := by rfl)
    (na2 : starEach [.Call (.Name "range" pp2) [ea] [] pos2] X.env = (false, eval (.Call (.Name "range" pp2) [ea] [] pos2) X.env) :: starEach [] X.env := by rfl) : PE X (.Call (.Name "tuple" pp) [.Call (.Name "range" pp2) [ea] [] pos2] [] pos) (LE X.K C p (dRg1 mkTup o)) :=
  (pe_tupRg hc hg hl (prg_1 hg2 hm ha na) na2).imp fun _ _ _ h => rgT_run h
end
end Dn

set_option Elab.async false
set_option linter.all false
set_option maxRecDepth 100000
set_option maxHeartbeats 2000000
/-! Gn1: a generator expression is made. -/
namespace L2
open PySem PySem.Spec PyProof.Rows
theorem newEnv_gen {M : Model} {A : Around} {E : Value → Shared → Prop} {s : Shared} {scope : Scope} {globals : Addr} {closure : List (Str × Addr)} {qual : Str} {func : Option Addr} {code it : Value} {builtins : Addr} {Q : Env → Shared → Prop}
    (h0 : scope.names.lookup (".0" : Str) = some NameKind.local) (hk : scope.kind = .function)
    (h : ∀ h' tk, h'.Ns s.heap.objs.size (fun y => if y = ".0" then some it else none) → Heap.SameBut s.heap.objs.size (pushCells (s.heap.push { cls := .type "frame", data := .dict #[] }) scope.names) h' →
      Q (newEnv scope s.heap.objs.size globals (cellsFrom (s.heap.objs.size + 1) scope.names closure) qual func code none builtins) { s with heap := h', toks := tk }) :
    wpAny M A (newFunctionEnv scope globals closure [(".0", it)] qual func code none builtins) Q E s := by
  simp only [newFunctionEnv, Option.isSome_none, Bool.false_eq_true, if_false]
  refine wpAny_bind (wpAny_alloc ?_)
  refine wpAny_bind (wpAny_layCells _ (fun name kind cells => by cases hkc : kind == NameKind.cell <;> simp [hkc]) scope.names closure _ _ ?_)
  rw [show ({ s with heap := s.heap.push { cls := .type "frame", data := .dict #[] } } : Shared).heap.objs.size = s.heap.objs.size + 1 from Heap.size_push ..]
  rw [List.forIn_cons]
  refine wpAny_bind (wpAny_bind (wpAny_bind (wpAny_storeName_local (env := newEnv scope s.heap.objs.size globals (cellsFrom (s.heap.objs.size + 1) scope.names closure) qual func code none builtins) (m := fun _ => none) h0
    ((Heap.Ns.new s.heap (.type "frame")).keeps (pushCells_keeps _ _)) (fun h' hn hs => ?_) (by show (scope.kind == _ || (scope.kind == _ && _)) = false; rw [hk]; rfl))))
  refine wpAny_pure ?_
  simp only [List.forIn_nil]
  exact wpAny_pure (wpAny_pure (h h' _ hn hs))
theorem eval_gx (elt target iter : Expr) (ifs : List Expr) (more : List Comprehension) (scope : Scope) (pos : Pos) (env : Env) (hco : scope.isCoroutine = false) :
    eval (.GeneratorExp elt (⟨target, iter, ifs, 0⟩ :: more) scope pos) env = (do
      let x ← eval iter env
      standAt iter.pos
      let x ← genFold iter env x
      let it ← holding [x] (pyIter x)
      enterFrame
      let cl ← closureFor scope env
      let code ← genexprCode env pos (env.qual ++ "<genexpr>") scope
      let bi ← builtinsFor env.globals env.builtins
      let cenv ← newFunctionEnv scope env.globals cl [(".0", it)] (env.qual ++ "<genexpr>.") none code none bi
      newGenerator (.compStart (.GeneratorExp elt (⟨target, iter, ifs, 0⟩ :: more) scope pos) 0 it .none cenv) "<genexpr>" (env.qual ++ "<genexpr>")) := by
  rw [arm_eval_GeneratorExp]
  simp only [hco, Bool.false_eq_true, if_false]
  cases iter <;> rfl
/-- the frame of a generator expression -/
abbrev genEnvC (scope : Scope) (env : Env) (C : Addr) (code : Value) (bi : Addr) : Env := genEnv scope (cellsFrom (C + 1) scope.names (cloFrom env.cells scope.names [])) C code bi env
theorem gen_make {M : Model} {A : Around} {E : Value → Shared → Prop} {s : Shared} {env : Env} {elt target iter : Expr} {ifs : List Expr} {more : List Comprehension} {scope : Scope} {pos : Pos} {Q : Value → Shared → Prop}
    (hco : scope.isCoroutine = false) (hclos : closureFor scope env = pure (cloFrom env.cells scope.names [])) (h0 : scope.names.lookup (".0" : Str) = some NameKind.local) (hkind : scope.kind = .function) (hroom : A.depth < recursionLimit)
    (h : wpAny M A (eval iter env) (fun xv s₁ => wpAny M A (pyIter xv) (fun it s₂ => s₂.heap.NoLimit ∧
      wpAny M A (genexprCode env pos (env.qual ++ "<genexpr>") scope) (fun code s₃ => wpAny M A (builtinsFor env.globals env.builtins) (fun bi s₄ =>
        ∀ h' tk, h'.Ns s₄.heap.objs.size (fun y => if y = ".0" then some it else none) → Heap.SameBut s₄.heap.objs.size (pushCells (s₄.heap.push { cls := .type "frame", data := .dict #[] }) scope.names) h' →
          Q (.ref h'.objs.size) { s₄ with
            gens := s₄.gens.push (.fresh (.compStart (.GeneratorExp elt (⟨target, iter, ifs, 0⟩ :: more) scope pos) 0 it .none (genEnvC scope env s₄.heap.objs.size code bi))),
            toks := tk + 1 + 1,
            heap := h'.push { cls := .type "generator", data := .fields #[.int s₄.gens.size 0, .str "<genexpr>" tk, .str (env.qual ++ "<genexpr>") (tk + 1)] } }) E s₃) E s₂) E s₁) E s)
    (hs : ∀ x, genFold iter env x = pure x) :
    wpAny M A (eval (.GeneratorExp elt (⟨target, iter, ifs, 0⟩ :: more) scope pos) env) Q E s := by
  rw [eval_gx _ _ _ _ _ _ _ _ hco, hclos]
  refine wpAny_bind (wpAny_mono h (fun xv s₁ h₁ => ?_) fun _ _ e => e)
  refine wpAny_bind (wpAny_standAt ?_)
  refine wpAny_bind (wpAny_of_eq (hs xv) ?_)
  refine wpAny_bind (wpAny_holding (wpAny_mono h₁ (fun it s₂ h₂ => ?_) fun _ _ e => e))
  refine wpAny_bind (wpAny_enterFrame h₂.1 hroom ?_)
  refine wpAny_bind (wpAny_pure ?_)
  refine wpAny_bind (wpAny_mono h₂.2 (fun code s₃ h₃ => ?_) fun _ _ e => e)
  refine wpAny_bind (wpAny_mono h₃ (fun bi s₄ h₄ => ?_) fun _ _ e => e)
  refine wpAny_bind (newEnv_gen h0 hkind fun h' tk hn' hs' => ?_)
  simp only [newGenerator, newFields]
  refine wpAny_bind (wpAny_newGen (wpAny_bind (wpAny_mkText (wpAny_bind (wpAny_mkText (wpAny_newObj_type ?_ (by size_fits)))))))
  exact h₄ h' tk hn' hs'
end L2

set_option Elab.async false
set_option linter.all false
set_option maxRecDepth 100000
set_option maxHeartbeats 2000000
/-! Gn2: the frame of a generator expression, as it first wakes. -/
namespace L2
open PySem PySem.Spec PyProof.Rows
/-- the context of a generator expression's frame, made at s, its iterator's objects at fp, running in A -/
abbrev Cx.gen (X : Cx) (A : Around) (s : Shared) (H : Hp) (scope : Scope) (genv : Env) (fp : List Addr) : Cx :=
  { X with A := A, s_0 := s, H_0 := H, env := genv, outer := X.stack, stack := genv :: X.stack, ex := fp, fn := fun x => scope.names.lookup x == some .cell, calm := true, pn := [], xe := fun _ _ => False }
section
variable {X : Cx} {pins : List (Addr × Obj)} {σ : St} {H : Hp} {s : Shared}
theorem gen_start {scope : Scope} {own : List (Str × Nat)} {fp : List Addr} {A : Around} {code it : Value} {cenv : Env} {h1 : Heap} {s' : Shared} {cp : List (Addr × Obj)} (I : Inv X pins σ H s) (ok : BlkOk X.N X.env.scope scope own) (hN : X.N.Nodup) (hfp : ∀ b ∈ fp, FpOk X pins H b ∧ b < s.heap.objs.size)
    (hcenv : genEnvC scope X.env s.heap.objs.size code builtinsNs = cenv) (hA : A.handled = none) (hF : A.frames = some (cenv :: X.stack)) (hn : h1.Ns s.heap.objs.size (fun y => if y = ".0" then some it else none)) (h0 : (".0" : Str) ∉ X.N)
    (hs : Heap.SameBut s.heap.objs.size (pushCells (s.heap.push { cls := .type "frame", data := .dict #[] }) scope.names) h1) (kp1 : ∀ b o, h1.get? b = some o → s'.heap.get? b = some o) (os : s'.os = s.os) (bare : AllBare s'.gens)
    (hcp : ∀ p ∈ cp, s'.heap.get? p.1 = some p.2 ∧ h1.objs.size ≤ p.1 ∧ ∀ v, p.2.data ≠ .cell v) :
    Inv (X.gen A s H scope cenv fp) cp (wipe σ (own.map (·.2))) H s' := by
  have hfree : ∀ y ∈ scope.names, y.2 = .free → ∃ c, X.env.cells.lookup y.1 = some c := fun y hy e => by
    rcases ok.free y hy e with k | k
    · exact I.ok.has _ (.inl k)
    · exact I.ok.has _ (.inr k)
  have kq : ∀ b o, b ≠ s.heap.objs.size → (pushCells (s.heap.push { cls := .type "frame", data := .dict #[] }) scope.names).get? b = some o → s'.heap.get? b = some o := fun b o hb e => kp1 b o (hs.extBut b o hb e)
  have kp : ∀ b o, s.heap.get? b = some o → s'.heap.get? b = some o := fun b o e => kq b o (Nat.ne_of_lt (Heap.lt_size e)) (pushCells_keeps _ _ _ _ (Heap.get?_push_of_some _ e))
  have hL : cenv.locals = s.heap.objs.size := by rw [← hcenv]; rfl
  have hcl : cenv.cells = cellsFrom (s.heap.objs.size + 1) scope.names (cloFrom X.env.cells scope.names []) := by rw [← hcenv]; rfl
  have hsc : cenv.scope = scope := by rw [← hcenv]; rfl
  have hlt1 : s.heap.objs.size < h1.objs.size := hn.lt
  rw [← Heap.size_push s.heap { cls := .type "frame", data := .dict #[] }] at hcl
  have cm : ∀ {y c}, (y, c) ∈ cloFrom X.env.cells scope.names [] → X.env.cells.lookup y = some c ∧ c < s.heap.objs.size := fun {y c} hm => by
    rcases cloFrom_mem hm with hm | ⟨h1, rfl⟩
    · cases hm
    · obtain ⟨c, hc⟩ := hfree _ h1 rfl
      rw [hc]
      obtain ⟨w, z⟩ := I.cell _ _ hc
      exact ⟨rfl, z.lt⟩
  have mem : ∀ {y c}, cenv.cells.lookup y = some c → (X.env.cells.lookup y = some c ∧ c < s.heap.objs.size) ∨ (s.heap.objs.size + 1 ≤ c ∧ CellAt (pushCells (s.heap.push { cls := .type "frame", data := .dict #[] }) scope.names) c none) := fun {y c} e => by
    rw [hcl] at e
    rcases cells_mem (PySem.mem_of_lookup e) with hm | ⟨_, h2, h3⟩
    · exact .inl (cm hm)
    · rw [Heap.size_push] at h2; exact .inr ⟨h2, h3⟩
  have look : ∀ {y}, scope.names.lookup y = some .free → ∃ c, cenv.cells.lookup y = some c ∧ X.env.cells.lookup y = some c := fun {y} hl => by
    have hy : (y, NameKind.free) ∈ scope.names := PySem.mem_of_lookup hl
    obtain ⟨c', e'⟩ := mem_lookup (cells_acc (names := scope.names) (n := (s.heap.push { cls := .type "frame", data := .dict #[] }).objs.size) (cloFrom_has (cells := X.env.cells) (acc := []) hy))
    rw [← hcl] at e'
    refine ⟨c', e', ?_⟩
    rw [hcl] at e'
    rcases cells_mem (PySem.mem_of_lookup e') with hm | ⟨h1, _, _⟩
    · exact (cm hm).1
    · have := ok.uniq _ h1
      rw [hl] at this; cases this
  have okB : (X.gen A s H scope cenv fp).Ok := by
    refine ⟨I.ok.mod, by show cenv.scope.kind = _; rw [hsc]; exact ok.kind, by show cenv.globals = _; rw [← hcenv]; exact I.ok.glob, by show cenv.builtins = _; rw [← hcenv]; rfl, by show s.heap.objs.size ≤ cenv.locals; rw [hL]; exact Nat.le_refl _,
      fun y z c e1 e2 => ?_, fun y hy => ?_, fun y c z e => ?_, fun _ => hA, hF, .inr ⟨rfl, by show cenv.frame = some cenv.locals; rw [← hcenv]; rfl⟩, fun b hb => ⟨?_, fun y c e z => ?_⟩, I.bs, Nat.le_trans I.ok.bsz I.sz, fun b o e hb => ?_, fun b hb z => ?_, I.stack, I.stkFree⟩
    · have e1 : cenv.cells.lookup y = some c := e1
      have e2 : cenv.cells.lookup z = some c := e2
      rw [hcl] at e1 e2
      refine cells_inj (fun p hp => ?_) (fun y z c a b => I.ok.inj y z c (cm a).1 (cm b).1) (PySem.mem_of_lookup e1) (PySem.mem_of_lookup e2)
      rw [Heap.size_push]
      exact Nat.lt_succ_of_lt (cm (y := p.1) (c := p.2) hp).2
    · show ∃ c, cenv.cells.lookup y = some c
      have hy : scope.names.lookup y = some .cell ∨ scope.names.lookup y = some .free := by
        unfold Env.kindOf at hy
        rw [hsc] at hy
        exact hy
      rcases hy with e | e
      · obtain ⟨c, hm⟩ := cells_has (n := (s.heap.push { cls := .type "frame", data := .dict #[] }).objs.size) (acc := cloFrom X.env.cells scope.names []) (PySem.mem_of_lookup e)
        obtain ⟨c', e'⟩ := mem_lookup hm
        exact ⟨c', by rw [hcl]; exact e'⟩
      · obtain ⟨c, h1, _⟩ := look e
        exact ⟨c, h1⟩
    · have z : (scope.names.lookup y == some NameKind.cell) = true := z
      have z : scope.names.lookup y = some .cell := by simpa using z
      have e : cenv.cells.lookup y = some c := e
      rw [hcl] at e
      rcases cells_mem (PySem.mem_of_lookup e) with hm | ⟨_, h2, _⟩
      · rcases cloFrom_mem hm with hm | ⟨h1, _⟩
        · cases hm
        · have q := ok.uniq _ h1
          rw [z] at q; cases q
      · rw [Heap.size_push] at h2
        exact Nat.le_of_succ_le h2
    · show b ≠ cenv.locals
      rw [hL]; exact Nat.ne_of_lt (hfp b hb).2
    · have e : cenv.cells.lookup y = some c := e
      rcases mem e with ⟨h1, _⟩ | ⟨h1, _⟩
      · exact (hfp b hb).1.2.2.2.2.1 y c h1 z
      · have h2 : s.heap.objs.size + 1 ≤ b := by rw [← z]; exact h1
        exact absurd (Nat.lt_of_lt_of_le (hfp b hb).2 (Nat.le_of_succ_le h2)) (Nat.lt_irrefl _)
    · rcases (hfp b hb).1.2.2.2.1 with z | z
      · exact I.ok.noex b o e z
      · exact absurd (Nat.lt_of_lt_of_le (Heap.lt_size e) (Nat.le_trans I.ok.bsz z)) (Nat.lt_irrefl _)
    · rcases List.mem_cons.mp (I.stkSub b z) with z | z
      · exact (hfp b hb).1.2.1 z
      · exact (hfp b hb).1.2.2.1 z
  refine ⟨okB, os, bare, Un.kept kp, ⟨_, (by show Heap.Ns _ cenv.locals _; rw [hL]; exact hn.keeps kp1), fun i y av e1 e2 e3 => ?_⟩, fun y c e => ?_, ?_, fun y c e => ?_, fun p hp => ?_, I.hok.kept kp, by rw [wipe_length]; exact I.len⟩
  · obtain ⟨e2, hne⟩ := wipe_some e2
    have hfr : scope.names.lookup y = some .free := by
      have e3 : Vis cenv.scope y := e3
      rw [hsc] at e3
      have no : ∀ k', scope.names.lookup y = some k' → ¬ (k' = .local ∨ k' = .cell) := fun k' e hh => by
        rcases ok.own _ (PySem.mem_of_lookup e) hh with e' | e'
        · obtain ⟨p, hp, hpy⟩ := List.mem_map.mp e'
          have e3 := ok.ix p hp
          have : p.1 = y := hpy
          rw [this] at e3
          exact hne (List.mem_map.mpr ⟨p, hp, nodup_ix hN e3 e1⟩)
        · exact e' (List.mem_of_getElem? e1)
      rcases e3 with e3 | e3 | e3
      · exact (no _ e3 (.inl rfl)).elim
      · exact (no _ e3 (.inr rfl)).elim
      · exact e3
    obtain ⟨m, hn', hl⟩ := I.loc
    have hvis : Vis X.env.scope y := (ok.free _ (PySem.mem_of_lookup hfr) rfl).elim (fun k => .inr (.inl k)) (fun k => .inr (.inr k))
    obtain ⟨w, r, q⟩ := hl i y av e1 e2 hvis
    refine ⟨w, r, .inr ⟨.inr (by show cenv.scope.names.lookup y = _; rw [hsc]; exact hfr), ?_⟩⟩
    obtain ⟨c, h1, h2⟩ := look hfr
    rcases q with ⟨k, _⟩ | ⟨_, c', e', z⟩
    · have k : X.env.scope.names.lookup y = some .local := k
      rcases ok.free _ (PySem.mem_of_lookup hfr) rfl with k' | k' <;> rw [show X.env.scope.names.lookup y = _ from k'] at k <;> cases k
    · rw [h2] at e'; cases e'
      exact ⟨c, h1, z.keeps kp⟩
  · have e : cenv.cells.lookup y = some c := e
    rcases mem e with ⟨h1, _⟩ | ⟨h2, z⟩
    · obtain ⟨w, z⟩ := I.cell y c h1
      exact ⟨w, z.keeps kp⟩
    · obtain ⟨o, eo, hd⟩ := z
      exact ⟨_, o, kq _ _ (Nat.ne_of_gt h2) eo, hd⟩
  · show H cenv.locals = none
    rw [hL]; exact I.hok.fresh (Nat.le_refl _)
  · have e : cenv.cells.lookup y = some c := e
    rcases mem e with ⟨h1, _⟩ | ⟨h1, _⟩
    · exact I.freeC y c h1
    · exact I.hok.fresh (Nat.le_of_succ_le h1)
  · have hp : p ∈ cp := by simpa using hp
    obtain ⟨p1, p2, p3⟩ := hcp p hp
    have p4 : s.heap.objs.size < p.1 := Nat.lt_of_lt_of_le hlt1 p2
    refine ⟨p1, I.hok.fresh (Nat.le_of_lt p4), ?_, fun z => ?_, p3⟩
    · show p.1 ≠ cenv.locals
      rw [hL]; exact Nat.ne_of_gt p4
    · rcases List.mem_cons.mp (I.stkSub p.1 z) with z | z
      · have := I.lt
        rw [z] at p4
        exact absurd (Nat.lt_trans p4 this) (Nat.lt_irrefl _)
      · exact I.nofs (Nat.le_of_lt p4) z
end
end L2

set_option Elab.async false
set_option linter.all false
set_option maxRecDepth 100000
set_option maxHeartbeats 2000000
/-! Gn3: the run of a generator expression. -/
namespace L2
open PySem PySem.Spec PyProof.Rows
/-- while it sleeps: the consumer's things (cp) change to cp', all else is kept -/
structure Sl (cp cp' : List (Addr × Obj)) (s s' : Shared) : Prop where
  os : s'.os = s.os
  bare : AllBare s'.gens
  keep : ∀ b o, (∀ p ∈ cp, b ≠ p.1) → s.heap.get? b = some o → s'.heap.get? b = some o
  fst : cp'.map (·.1) = cp.map (·.1)
  pin : ∀ p ∈ cp', s'.heap.get? p.1 = some p.2 ∧ ∀ v, p.2.data ≠ .cell v
/-- what a consumer asks at each item -/
abbrev OutP := List V → V → Hp → Prop → Prop
structure OutOk (Out : OutP) : Prop where
  mono : ∀ ys y H (P P' : Prop), (P → P') → Out ys y H P → Out ys y H P'
  lt : ∀ ys y H P, Out ys y H P → ys.length < sizeLine
abbrev ConsP := List V → List (Addr × Obj) → Prop
/-- woken again -/
theorem Inv.slept {X : Cx} {cp cp' ip : List (Addr × Obj)} {σ : St} {H : Hp} {s s' : Shared} (hpn : X.pn = []) (hap : ∀ p ∈ cp, X.s_0.heap.objs.size ≤ p.1) (hip : ∀ q ∈ ip, ∀ p ∈ cp, q.1 ≠ p.1) (I : Inv X (cp ++ ip) σ H s) (z : Sl cp cp' s s') : Inv X (cp' ++ ip) σ H s' := by
  obtain ⟨z1, z2, z3, z4, z5⟩ := z
  have ipn : ∀ p, p ∈ X.pn ++ (cp ++ ip) ↔ p ∈ cp ++ ip := fun p => by rw [hpn]; rfl
  have pc : ∀ p ∈ cp, s.heap.get? p.1 = some p.2 ∧ H p.1 = none ∧ p.1 ≠ X.env.locals ∧ p.1 ∉ X.fs ∧ ∀ v, p.2.data ≠ .cell v := fun p hp => I.pin p ((ipn p).mpr (List.mem_append_left _ hp))
  have I0 : Inv X ip σ H s := I.pins_of fun p hp => I.pin p ((ipn p).mpr (List.mem_append_right _ hp))
  have nt : ∀ b u, H b = some u → ∀ p ∈ cp, b ≠ p.1 := fun b u q p hp hb => by
    have := (pc p hp).2.1
    rw [← hb, q] at this; cases this
  have back : ∀ b, b ∈ cp.map (·.1) → ∃ p ∈ cp, p.1 = b := fun b hb => by
    obtain ⟨p, hp, e⟩ := List.mem_map.mp hb
    exact ⟨p, hp, e⟩
  have nc : ∀ b, b ∉ cp.map (·.1) → ∀ p ∈ cp, b ≠ p.1 := fun b hb p hp e => hb (List.mem_map.mpr ⟨p, hp, e.symm⟩)
  obtain ⟨hh, g, d, t, o⟩ := s'
  have ho : o = s.os := z1
  subst ho
  have J : Inv X ip σ H { s with heap := hh, gens := g, drawn := d, toks := t } := by
    refine I0.step (g' := g) (t' := t) (d' := d) (ch := cp.map (·.1)) (fun b hb => ?_)
      (fun b ob _ _ hc q _ => z3 b ob (nc b hc) q) (fun b ob _ _ hc q _ => ⟨ob.slots, z3 b ob (nc b hc) q⟩) (fun _ _ _ _ n => n) (fun b ob hc q => ?_)
      (fun _ _ q => q) (fun _ _ _ q => q) (fun b ps q => ⟨#[], by rw [q]; simp⟩) (fun m hm => ?_) (fun b u q => ?_) z2
    · obtain ⟨p, hp, rfl⟩ := back b hb
      obtain ⟨e1, e2, e3, e4, e5⟩ := pc p hp
      refine ⟨.inr (hap p hp), e3, fun x c ec e => ?_, fun q hq => ?_⟩
      · obtain ⟨v, ob, eo, hd⟩ := I.cell x c ec
        rw [e, e1] at eo
        cases eo
        exact e5 v hd
      · rw [hpn] at hq
        exact fun e => hip q (by simpa using hq) p hp e
    · by_cases hb : b ∈ cp.map (·.1)
      · rw [← z4] at hb
        obtain ⟨p, hp, rfl⟩ := List.mem_map.mp hb
        exact ⟨p.2, (z5 p hp).1⟩
      · exact ⟨ob, z3 b ob (nc b hb) q⟩
    · obtain ⟨ob, es, ep, ho, r⟩ := hm
      exact ⟨ob, es, ep, z3 _ ob (fun p hp => Ne.symm (pc p hp).2.2.1) ho, r⟩
    · refine (I0.hok b u q).stay (fun c v hc y => z3 c v ?_ y) (fun _ y => y) fun _ _ y => y
      rcases hc with y | y
      · rw [y]; exact nt b u q
      · exact nt c _ y
  refine J.pins_of fun p hp => ?_
  rcases List.mem_append.mp hp with hp | hp
  · have hm : p.1 ∈ cp.map (·.1) := by rw [← z4]; exact List.mem_map.mpr ⟨p, hp, rfl⟩
    obtain ⟨p0, hp0, e⟩ := back _ hm
    obtain ⟨e1, e2, e3, e4, e5⟩ := pc p0 hp0
    obtain ⟨f1, f2⟩ := z5 p hp
    rw [← e]
    rw [← e] at f1
    exact ⟨f1, e2, e3, e4, f2⟩
  · exact J.pin p (List.mem_append_right _ hp)

/-- an item is handed out -/
def YG (XG : Cx) (CP : ConsP) (Out : OutP) : Protocol := fun n s₀ v s kap =>
  ∃ ys y σ H cp, n + 1 + ys.length = sizeLine ∧ RelV y v ∧ CP ys cp ∧ (∀ p ∈ cp, XG.s_0.heap.objs.size ≤ p.1) ∧ Inv XG cp σ H s ∧ (∀ p ∈ cp, s₀.heap.get? p.1 = some p.2) ∧ Out ys y H (∀ s' cp', Sl cp cp' s s' → CP (ys ++ [y]) cp' → kap (.send .none) s')
/-- the run's end -/
def RG (XG : Cx) (CP : ConsP) (Fin : List V → Hp → Prop) : GenEnd := fun n s₀ r s =>
  r = .ok .next ∧ ∃ ys σ H cp, n + ys.length = sizeLine ∧ CP ys cp ∧ (∀ p ∈ cp, XG.s_0.heap.objs.size ≤ p.1) ∧ Inv XG cp σ H s ∧ (∀ p ∈ cp, s₀.heap.get? p.1 = some p.2) ∧ Fin ys H
section
variable {X : Cx} {elt tg iter : Expr} {ifs : List Expr} {scope : Scope} {pos : Pos} {it : Addr} {fp : List Addr} {tn : Nat → Heap → Prop} {J : It} {cenv : Env} {A0 : Around} {g : TG} {tt : TT} {te : TE} {Out : OutP} {Fin : List V → Hp → Prop} {CP : ConsP} {σ0 : St} {own : List Nat} {W : Nat → Nat → List V → Hp → Prop}
theorem seg_gen (T : Turn X.prog X.w X.K tg J fp it tn) (hc : X.calm = true) (hpn : X.pn = []) (hxe : ∀ e s, ¬ X.xe e s) (hover : A0.over (.compLoop (.GeneratorExp elt [⟨tg, iter, ifs, 0⟩] scope pos) 0 (.ref it) .none X.env) [] = X.A) (hex : X.ex = fp) (hco : X.env.scope.isCoroutine = false)
    (hfz : ∀ b ∈ fp, b < X.s_0.heap.objs.size) (ho : OutOk Out) (pg : PG X tg g) (pt : PTs X ifs tt) (pe : PE X elt te)
    (turn : ∀ i m ys H, W i m ys H → (J.stop i H ∧ Fin ys H) ∨ (J.go i H ∧ ∃ Nx : List V → Hp → Prop, (∀ ys' H', Nx ys' H' → ∃ m', m' < m ∧ W (i + 1) m' ys' H') ∧ ∀ x H', J.yld i H x H' → g x (wipe σ0 own) H' fun σ2 H2 => wipe σ2 own = wipe σ0 own ∧ tt σ2 H2 fun b H3 =>
      if b = true then te σ2 H3 fun y H4 => Out ys y H4 (Nx (ys ++ [y]) H4) else Nx ys H3)) :
    ∀ (m i n : Nat) (ys : List V) (cp : List (Addr × Obj)) (s₀ s : Shared) (H : Hp), n + ys.length = sizeLine → W i m ys H → CP ys cp → (∀ p ∈ cp, X.s_0.heap.objs.size ≤ p.1) → (∀ p ∈ cp, s₀.heap.get? p.1 = some p.2) → Inv X cp (wipe σ0 own) H s → tn i s.heap → (∀ b ∈ fp, H b = none) →
      Seg (model X.prog X.w) A0 (RG X CP Fin) (YG X CP Out) n s₀ (.compLoop (.GeneratorExp elt [⟨tg, iter, ifs, 0⟩] scope pos) 0 (.ref it) .none X.env)
        ((model X.prog X.w).den (.compLoop (.GeneratorExp elt [⟨tg, iter, ifs, 0⟩] scope pos) 0 (.ref it) .none X.env)) [] s := by
  have stat : ∀ {cp σ' : _} {H' : Hp} {s' : Shared}, (∀ p ∈ cp, X.s_0.heap.objs.size ≤ p.1) → Inv X cp σ' H' s' → (∀ b ∈ fp, H' b = none) → ∀ b ∈ fp, FpOk X cp H' b := fun {cp σ' H' s'} hap I' hn b hb => by
    have hb' : b ∈ X.ex := by rw [hex]; exact hb
    refine ⟨hn b hb, (I'.ok.exf b hb').1, I'.ok.exfs b hb', .inl hb', fun x c e => (I'.ok.exf b hb').2 x c e, fun p hp => ?_⟩
    rw [hpn] at hp
    have h1 := hap p (by simpa using hp)
    have h2 := hfz b hb
    exact fun e => absurd (Nat.lt_of_lt_of_le (by rw [e]; exact h2) h1) (Nat.lt_irrefl _)
  intro m
  induction m using Nat.strongRecOn with
  | ind m ih =>
    intro i n ys cp s₀ s H hnn w hcp hap h00 I st hn
    show Seg _ A0 _ _ _ s₀ _ ((compTurn (.GeneratorExp elt [⟨tg, iter, ifs, 0⟩] scope pos) 0 (.ref it) .none X.env).onRaise (leaving X.env)) [] s
    rw [compTurn_gen, Sem.onRaise_eq_wrap]
    refine seg_bind_wrap (wpAny_standAt ?_)
    refine seg_bind_wrap ?_
    rw [hover]
    rcases turn i m ys H w with ⟨stop, fin⟩ | ⟨go, Nx, hNx, step⟩
    · have td := T.done X rfl rfl rfl hc i cp s _ H (fun _ _ => False) I (stat hap I hn) st stop
      refine thnF td fun r s6 ⟨hr, I6⟩ => ?_
      subst hr
      exact seg_end (.ok .next) ⟨rfl, ys, _, H, cp, hnn, hcp, hap, I6, h00, fin⟩
    · have ti := T.item X rfl rfl rfl hc i cp s _ H (fun _ _ => False) I (stat hap I hn) st go
      refine thnF ti fun r s6 ⟨u, hr, h6⟩ => ?_
      subst hr
      refine seg_bind_wrap ?_
      rw [hover]
      refine thnF h6 fun _ s7 ⟨x, H7, I7, r7, y7, st7, n7⟩ => ?_
      have I7' := I7.pinned (stat hap I7 n7) (T.obj _ _ st7)
      refine seg_bind_wrap ?_
      rw [hover]
      refine wpAny_mono (pg.run _ s7 _ H7 x u _ I7' r7 (step x H7 y7)) (fun _ s8 ⟨σ8, H8, I8, hw8, q8⟩ => ?_) fun e s' z => (hxe e s' z).elim
      refine seg_bind_wrap ?_
      rw [hover]
      refine wpAny_mono (pt.run _ s8 σ8 H8 _ I8 q8) (fun b s9 ⟨H9, I9, q9⟩ => ?_) fun e s' z => (hxe e s' z).elim
      have hl : (wipe σ0 own).length = σ8.length := by rw [← hw8, wipe_length]
      have fin : ∀ {n' : Nat} {ys' : List V} {cp' : List (Addr × Obj)} {s₀' s' : Shared} {H' : Hp}, n' + ys'.length = sizeLine → CP ys' cp' → (∀ p ∈ cp', X.s_0.heap.objs.size ≤ p.1) → (∀ p ∈ cp', s₀'.heap.get? p.1 = some p.2) → Inv X (cp' ++ pinsAt fp s7.heap) σ8 H' s' → Nx ys' H' →
          Seg (model X.prog X.w) A0 (RG X CP Fin) (YG X CP Out) n' s₀' (.compLoop (.GeneratorExp elt [⟨tg, iter, ifs, 0⟩] scope pos) 0 (.ref it) .none X.env)
            ((model X.prog X.w).den (.compLoop (.GeneratorExp elt [⟨tg, iter, ifs, 0⟩] scope pos) 0 (.ref it) .none X.env)) [] s' := fun {n' ys' cp' s₀' s' H'} hn' hcp' hap' h00' I' nx => by
        obtain ⟨m', hm, w'⟩ := hNx ys' H' nx
        have pin' : ∀ b ∈ fp, ∀ o, s7.heap.get? b = some o → s'.heap.get? b = some o ∧ H' b = none := fun b hb o e =>
          let z := I'.pin (b, o) (List.mem_append_right _ (List.mem_append_right _ (mem_pinsAt hb e)))
          ⟨z.1, z.2.1⟩
        refine ih m' hm (i + 1) n' ys' cp' s₀' s' H' hn' w' hcp' hap' h00' ((I'.pins_of fun p hp => I'.pin p (List.mem_append_right _ (List.mem_append_left _ hp))).weak hl fun j v e => ?_) (T.keep _ _ _ st7 fun b hb o e => (pin' b hb o e).1) fun b hb => ?_
        · rw [← hw8] at e
          exact (wipe_some e).1
        · obtain ⟨o, e, _⟩ := T.obj _ _ st7 b hb
          exact (pin' b hb o e).2
      cases b with
      | false =>
        simp only [Bool.false_eq_true, if_false] at q9 ⊢
        exact seg_again rfl (fin hnn hcp hap h00 I9 q9)
      | true =>
        simp only [if_true] at q9 ⊢
        have hy : ∀ v, yieldOut X.env v = yieldValue v := fun v => by simp only [yieldOut, hco, Bool.false_eq_true, if_false]
        simp only [hy]
        rw [Sem.bind_eq_wrap', Sem.bind_eq_wrap', Sem.wrap_wrap, Sem.wrap_wrap]
        refine seg_wrap ?_
        rw [hover]
        refine wpAny_mono (pe.run _ s9 σ8 H9 _ I9 q9) (fun z s10 ⟨yv, H10, I10, r10, out⟩ => ?_) fun e s' z => (hxe e s' z).elim
        have hlt := ho.lt _ _ _ _ out
        obtain ⟨n1, rfl⟩ : ∃ n1, n = n1 + 1 := ⟨n - 1, by omega⟩
        have hip : ∀ q ∈ pinsAt fp s7.heap, ∀ p ∈ cp, q.1 ≠ p.1 := fun q hq p hp e => by
          have h1 := hap p hp
          have h2 := hfz q.1 (of_pinsAt hq).1
          rw [e] at h2
          exact absurd (Nat.lt_of_lt_of_le h2 h1) (Nat.lt_irrefl _)
        refine seg_at (seg_yield rfl rfl rfl ⟨ys, yv, σ8, H10, cp, by omega, r10, hcp, hap, I10.pins_of fun p hp => I10.pin p (List.mem_append_right _ (List.mem_append_left _ hp)), h00, ho.mono _ _ _ _ _ (fun nx s' cp' hs hcp' => ?_) out⟩)
        refine seg_again rfl (fin (by rw [List.length_append]; simp; omega) hcp' (fun p hp => ?_) (fun p hp => (hs.pin p hp).1) (I10.slept hpn hap hip hs) nx)
        have hm : p.1 ∈ cp.map (·.1) := by rw [← hs.fst]; exact List.mem_map.mpr ⟨p, hp, rfl⟩
        obtain ⟨p0, hp0, e⟩ := List.mem_map.mp hm
        rw [← e]; exact hap p0 hp0
end
end L2

set_option Elab.async false
set_option linter.all false
set_option maxRecDepth 100000
set_option maxHeartbeats 2000000
/-! Gn4: a generator expression evaluated. -/
namespace L2
open PySem PySem.Spec PyProof.Rows
open Dn (TabN KeepT SameT)
/-- the code object at c with its table at P, as told by the abstract heap -/
abbrev codeO (c P : Addr) : HO := .ext fun h => PySem.W.CodeHd h c P
theorem CodeHd.only {h1 h2 : Heap} {c P : Addr} (x : PySem.W.CodeHd h1 c P) (k : ∀ o, h1.get? c = some o → h2.get? c = some o) : PySem.W.CodeHd h2 c P :=
  let ⟨o, vs, file, tf, flags, tg, inF, text, tt, e, r⟩ := x; ⟨o, vs, file, tf, flags, tg, inF, text, tt, k _ e, r⟩
theorem CodeHd.there {h : Heap} {c P : Addr} (x : PySem.W.CodeHd h c P) : ∃ o, h.get? c = some o := let ⟨o, _, _, _, _, _, _, _, _, e, _⟩ := x; ⟨o, e⟩
/-- where a generator expression stands: the running code object and its table -/
def GAt (X : Cx) (c P : Addr) (H : Hp) : Prop := (∃ c0 P0, GxR.TabB X.base X.mg c0 P0) ∧ (GxR.TabB X.base X.mg c P ∨ H c = some (codeO c P))
/-- grown by a code object, perhaps, that has its own table -/
def Grown (n : Nat) (c' P' : Addr) (H1 H2 : Hp) : Prop := H2 c' = some (codeO c' P') ∧ TabN n H2 P' ∧ SameT H1 H2 ∧ KeepT H1 H2
section
variable {X : Cx} {pins : List (Addr × Obj)} {σ : L2.St} {H : Hp} {s : Shared}
/-- the table has grown by a new code object -/
theorem inv_tab2 {P c' P' : Addr} {ps more : Array Value} {h' : Heap} {g' : Array GenState} {d' : Drawn} {t' : Nat} (I : Inv X pins σ H s) (hP : H P = some (.tbl ps)) (k : ∀ b o, b ≠ P → s.heap.get? b = some o → h'.get? b = some o)
    (hm : h'.get? P = some { cls := .none, data := .fields (ps ++ more) }) (hg : AllBare g') (hc : s.heap.objs.size ≤ c') (hp : s.heap.objs.size ≤ P') (hcp : c' ≠ P') (ho : PySem.W.CodeHd h' c' P') (ht : h'.get? P' = some { cls := .none, data := .fields #[] }) :
    Inv X pins σ (upd (upd (upd H P (.tbl (ps ++ more))) c' (codeO c' P')) P' (.tbl #[])) { s with heap := h', gens := g', drawn := d', toks := t' } := by
  have hlt : ∀ b u, H b = some u → b < s.heap.objs.size := fun b u e => (I.hok b u e).lt
  have hPl := hlt P _ hP
  have nc : c' ≠ P := Nat.ne_of_gt (Nat.lt_of_lt_of_le hPl hc)
  have np : P' ≠ P := Nat.ne_of_gt (Nat.lt_of_lt_of_le hPl hp)
  have at_ : ∀ b, b ≠ P → b < s.heap.objs.size → upd (upd (upd H P (.tbl (ps ++ more))) c' (codeO c' P')) P' (.tbl #[]) b = H b := fun b h1 h2 => by
    rw [upd_ne (Nat.ne_of_lt (Nat.lt_of_lt_of_le h2 hp)), upd_ne (Nat.ne_of_lt (Nat.lt_of_lt_of_le h2 hc)), upd_ne h1]
  have atP : upd (upd (upd H P (.tbl (ps ++ more))) c' (codeO c' P')) P' (.tbl #[]) P = some (.tbl (ps ++ more)) := by
    rw [upd_ne (fun z => np z.symm), upd_ne (fun z => nc z.symm), upd_same]
  have nP : ∀ b u, H b = some u → (∀ q, u ≠ .tbl q) → b ≠ P := fun b u e q z => by
    rw [z, hP] at e
    exact q ps (Option.some.inj e).symm
  have nN : ∀ b, H b = none → b ≠ P := fun b e z => by
    rw [z, hP] at e
    cases e
  refine I.step (g' := g') (d' := d') (ch := []) (fun b hb => absurd hb (by simp)) (fun b o _ _ _ e n => k b o (nN b n) e) (fun b o _ _ _ e n => ⟨o.slots, k b o (nN b n) e⟩)
    (fun b o _ e n => by rw [at_ b (nN b n) (Heap.lt_size e)]; exact n) (fun b o _ e => ?_) (fun b xs e => by rw [at_ b (nP b _ e (fun q z => by cases z)) (hlt _ _ e)]; exact e) (fun b o u e => by rw [at_ b (nP b _ e (fun q z => by cases z)) (hlt _ _ e)]; exact e) (fun b qs e => ?_) (fun m hn => ?_) (fun b u e => ?_) hg
  · by_cases hb : b = P
    · rw [hb]
      exact ⟨_, hm⟩
    · exact ⟨o, k b o hb e⟩
  · by_cases hb : b = P
    · rw [hb, hP] at e
      cases e
      rw [hb, atP]
      exact ⟨more, rfl⟩
    · rw [at_ b hb (hlt _ _ e), e]
      exact ⟨#[], by simp⟩
  · obtain ⟨ob, es, ep, ho, r⟩ := hn
    exact ⟨ob, es, ep, k _ ob (nN _ I.free) ho, r⟩
  · by_cases hb1 : b = P'
    · rw [hb1, upd_same] at e
      cases e
      rw [hb1]
      exact ht
    · by_cases hb3 : b = c'
      · rw [hb3, upd_ne hcp, upd_same] at e
        cases e
        rw [hb3]
        exact ⟨ho, CodeHd.there ho, fun h1 h2 x kk => CodeHd.only x kk⟩
      · by_cases hb2 : b = P
        · rw [hb2, atP] at e
          cases e
          rw [hb2]
          exact hm
        · rw [upd_ne hb1, upd_ne hb3, upd_ne hb2] at e
          refine (I.hok b u e).stay (fun d v hd q => k d v ?_ q) (fun d q => by rw [at_ d (nP d _ q (fun q z => by cases z)) (hlt _ _ q)]; exact q) fun d xs q => by rw [at_ d (nP d _ q (fun q z => by cases z)) (hlt _ _ q)]; exact q
          rcases hd with z | z
          · rw [z]
            exact hb2
          · exact nP d _ z (fun q z => by cases z)
theorem among_snoc {pos pos' : Pos} {c x : Value} : ∀ (l : List Value), TriplesOk l → codeAmong pos' (l ++ [rawInt pos.line, rawInt pos.col, c]) = some x → codeAmong pos' l = some x ∨ x = c := fun l h hx => by
  fun_induction TriplesOk l with
  | case1 =>
    simp [codeAmong, rawInt] at hx
    exact .inr hx.2.symm
  | case2 a t b u z rest ih =>
    simp only [List.cons_append, codeAmong] at hx ⊢
    split
    · rename_i hh
      rw [if_pos hh] at hx
      exact .inl hx
    · rename_i hh
      rw [if_neg hh] at hx
      exact ih h hx
  | case3 l h1 h2 => exact absurd h (by simp)
/-- one table has grown: all tables stand -/
theorem keep_grow {H : Hp} {P c' P' : Addr} {ps : Array Value} {pos : Pos} (hP : H P = some (.tbl ps)) (ht : TriplesOk ps.toList) (hc : H c' = none) (hp : H P' = none) (hcp : c' ≠ P') (hht : TriplesOk (ps ++ #[rawInt pos.line, rawInt pos.col, .ref c']).toList) :
    KeepT H (upd (upd (upd H P (.tbl (ps ++ #[rawInt pos.line, rawInt pos.col, .ref c']))) c' (codeO c' P')) P' (.tbl #[])) := by
  have hcP : c' ≠ P := fun z => by rw [z, hP] at hc; cases hc
  have hpP : P' ≠ P := fun z => by rw [z, hP] at hp; cases hp
  have atP : upd (upd (upd H P (.tbl (ps ++ #[rawInt pos.line, rawInt pos.col, .ref c']))) c' (codeO c' P')) P' (.tbl #[]) P = some (.tbl (ps ++ #[rawInt pos.line, rawInt pos.col, .ref c'])) := by
    rw [upd_ne (fun z => hpP z.symm), upd_ne (fun z => hcP z.symm), upd_same]
  have atc : upd (upd (upd H P (.tbl (ps ++ #[rawInt pos.line, rawInt pos.col, .ref c']))) c' (codeO c' P')) P' (.tbl #[]) c' = some (codeO c' P') := by
    rw [upd_ne hcp, upd_same]
  have atp : upd (upd (upd H P (.tbl (ps ++ #[rawInt pos.line, rawInt pos.col, .ref c']))) c' (codeO c' P')) P' (.tbl #[]) P' = some (.tbl #[]) := upd_same
  have oth : ∀ b u, b ≠ P → H b = some u → upd (upd (upd H P (.tbl (ps ++ #[rawInt pos.line, rawInt pos.col, .ref c']))) c' (codeO c' P')) P' (.tbl #[]) b = some u := fun b u hb e => by
    rw [upd_ne (fun z => by rw [z, hp] at e; cases e), upd_ne (fun z => by rw [z, hc] at e; cases e), upd_ne hb]; exact e
  generalize upd (upd (upd H P (.tbl (ps ++ #[rawInt pos.line, rawInt pos.col, .ref c']))) c' (codeO c' P')) P' (.tbl #[]) = H2 at atP atc atp oth
  intro n
  induction n with
  | zero =>
    rintro Q ⟨qs, e, t⟩
    by_cases hQ : Q = P
    · subst hQ; exact ⟨_, atP, hht⟩
    · exact ⟨qs, oth Q _ hQ e, t⟩
  | succ n ih =>
    rintro Q ⟨qs, e, t, z⟩
    by_cases hQ : Q = P
    · subst hQ
      rw [hP] at e
      cases e
      refine ⟨_, atP, hht, fun pos' c h => ?_⟩
      rw [Array.toList_append] at h
      rcases among_snoc _ ht h with h | rfl
      · obtain ⟨c1, P1, e1, e2, e3⟩ := z pos' c h
        exact ⟨c1, P1, e1, oth c1 _ (fun z => by rw [z, hP] at e2; cases e2) e2, ih _ e3⟩
      · exact ⟨c', P', rfl, atc, TabN.empty atp n⟩
    · refine ⟨qs, oth Q _ hQ e, t, fun pos' c h => ?_⟩
      obtain ⟨c1, P1, e1, e2, e3⟩ := z pos' c h
      exact ⟨c1, P1, e1, oth c1 _ (fun z => by rw [z, hP] at e2; cases e2) e2, ih _ e3⟩
end
/-- the generator that has not begun; H the heap as it was made -/
def GenMkM (more : List Comprehension) (X : Cx) (pins : List (Addr × Obj)) (σ : St) (tg elt iter : Expr) (ifs : List Expr) (scope : Scope) (pos : Pos) (J : It) (H : Hp) (code : Value) (u : Value) (s5 : Shared) : Prop :=
  ∃ (it : Addr) (fp : List Addr) (tn : Nat → Heap → Prop) (s4 : Shared) (h1 : Heap) (tk : Nat), Inv X pins σ H s4 ∧ Turn X.prog X.w X.K tg J fp it tn ∧ tn 0 s4.heap ∧ (∀ b ∈ fp, FpOk X pins H b ∧ b < s4.heap.objs.size) ∧
    h1.Ns s4.heap.objs.size (fun y => if y = ".0" then some (.ref it) else none) ∧ Heap.SameBut s4.heap.objs.size (pushCells (s4.heap.push { cls := .type "frame", data := .dict #[] }) scope.names) h1 ∧ u = .ref h1.objs.size ∧
    s5 = { s4 with
      gens := s4.gens.push (.fresh (.compStart (.GeneratorExp elt (⟨tg, iter, ifs, 0⟩ :: more) scope pos) 0 (.ref it) .none (genEnvC scope X.env s4.heap.objs.size code builtinsNs)))
      toks := tk + 1 + 1
      heap := h1.push { cls := .type "generator", data := .fields #[.int s4.gens.size 0, .str "<genexpr>" tk, .str (X.env.qual ++ "<genexpr>") (tk + 1)] } }
abbrev GenMk (X : Cx) (pins : List (Addr × Obj)) (σ : St) (tg elt iter : Expr) (ifs : List Expr) (scope : Scope) (pos : Pos) (J : It) (H : Hp) (code : Value) (u : Value) (s5 : Shared) : Prop := GenMkM [] X pins σ tg elt iter ifs scope pos J H code u s5
section
variable {X : Cx} {pins : List (Addr × Obj)} {σ : St} {H : Hp} {s : Shared}
theorem gen_eval {more : List Comprehension} {c P : Addr} {n : Nat} {elt tg iter : Expr} {ifs : List Expr} {scope : Scope} {own : List (Str × Nat)} {pos : Pos} {wi : TI} {k : Nat} {R : It → Addr → Addr → Hp → Prop} {Q' : Value → Shared → Prop}
    (hr : Room k X.A) (hcode : X.env.code = .ref c) (hco : scope.isCoroutine = false) (h0 : scope.names.lookup (".0" : Str) = some NameKind.local) (ok : BlkOk X.N X.env.scope scope own)
    (hi : PI X tg iter wi) (hs : ∀ v, genFold iter X.env v = pure v) (I : Inv X pins σ H s) (h : wi σ H fun J H1 => (GAt X c P H1 ∧ TabN (n + 1) H1 P) ∧ ∀ H2 c' P', Grown n c' P' H1 H2 → R J c' P' H2)
    (hQ : ∀ J H2 c' P' u s5, R J c' P' H2 → GenMkM more X pins σ tg elt iter ifs scope pos J H2 (.ref c') u s5 → Q' u s5) :
    wpAny (model X.prog X.w) X.A (eval (.GeneratorExp elt (⟨tg, iter, ifs, 0⟩ :: more) scope pos) X.env) Q' X.xe s := by
  have hfree : ∀ y ∈ scope.names, y.2 = .free → ∃ c, X.env.cells.lookup y.1 = some c := fun y hy e => by
    rcases ok.free y hy e with k | k
    · exact I.ok.has _ (.inl k)
    · exact I.ok.has _ (.inr k)
  refine gen_make hco (closure_ok hfree) h0 ok.kind (by have := hr.dp; omega) ?_ hs
  refine thn (hi.run pins s σ H _ I h) fun xv s0 hx => thn hx fun itv s1 hx1 => ?_
  obtain ⟨it, fp, tn, J, H1, rfl, I1, T, st1, f1, ⟨⟨c0, P0, TB⟩, hat⟩, ⟨ps, hP, ht, hent⟩, q⟩ := (by
    obtain ⟨it, fp, tn, J, H1, e, I1, T, st1, f1, ⟨⟨g1, g2⟩, g3⟩, q⟩ := hx1
    exact ⟨it, fp, tn, J, H1, e, I1, T, st1, f1, ⟨g1, g2⟩, g3, q⟩ :
      ∃ (it : Addr) (fp : List Addr) (tn : Nat → Heap → Prop) (J : It) (H1 : Hp), itv = .ref it ∧ Inv X pins σ H1 s1 ∧ Turn X.prog X.w X.K tg J fp it tn ∧ tn 0 s1.heap ∧ (∀ b ∈ fp, FpOk X pins H1 b) ∧ GAt X c P H1 ∧ TabN (n + 1) H1 P ∧ ∀ H2 c' P', Grown n c' P' H1 H2 → R J c' P' H2)
  refine ⟨I1.nolimit, ?_⟩
  have hPs : s1.heap.get? P = some { cls := .none, data := .fields ps } := I1.hok P _ hP
  have cd : PySem.W.CodeHd s1.heap c P := by
    rcases hat with TB' | e
    · exact TB'.code.keeps fun b u e => I1.bk b u e
    · exact (I1.hok c _ e).1
  have f1' : ∀ b ∈ fp, b < s1.heap.objs.size := fun b hb => by
    obtain ⟨o, e, _⟩ := T.obj _ _ st1 b hb
    exact Heap.lt_size e
  have neP : ∀ b ∈ fp, b ≠ P := fun b hb z => by
    have := (f1 b hb).1
    rw [z, hP] at this; cases this
  have hbaseP : ∀ b u, X.base.get? b = some u → b ≠ P := fun b u e z => by
    have := (I1.bs b u e).2
    rw [z, hP] at this; cases this
  have gP : mainGlobals ≠ P := by
    obtain ⟨ob, es, ep, ho, _⟩ := I1.mod.glob
    exact hbaseP _ _ ho
  have cont : ∀ (code : Value) (h3 : Heap) (tk : Nat) (H2 : Hp) (c' P' : Addr), code = .ref c' → Heap.ExtBut P s1.heap h3 → s1.heap.objs.size ≤ h3.objs.size → Inv X pins σ H2 { s1 with heap := h3, toks := tk } → (∀ b, b ≠ P → b < s1.heap.objs.size → H2 b = H1 b) → R J c' P' H2 →
      wpAny (model X.prog X.w) X.A (builtinsFor X.env.globals X.env.builtins) (fun bi s₄ =>
        ∀ h' tk, h'.Ns s₄.heap.objs.size (fun y => if y = ".0" then some (.ref it) else none) → Heap.SameBut s₄.heap.objs.size (pushCells (s₄.heap.push { cls := .type "frame", data := .dict #[] }) scope.names) h' →
          Q' (.ref h'.objs.size) { s₄ with
            gens := s₄.gens.push (.fresh (.compStart (.GeneratorExp elt (⟨tg, iter, ifs, 0⟩ :: more) scope pos) 0 (.ref it) .none (genEnvC scope X.env s₄.heap.objs.size code bi))),
            toks := tk + 1 + 1,
            heap := h'.push { cls := .type "generator", data := .fields #[.int s₄.gens.size 0, .str "<genexpr>" tk, .str (X.env.qual ++ "<genexpr>") (tk + 1)] } }) X.xe { s1 with heap := h3, toks := tk } := by
    intro code h3 tk H2 c' P' hce hx hsz I4 hH2 hR
    subst hce
    obtain ⟨bm, ob, e1, e2, e3, e4, e5, e6, e7, e8⟩ := TB.bm
    have keep3 : ∀ b u, b ≠ P → s1.heap.get? b = some u → h3.get? b = some u := fun b u hb e => hx b u hb e
    refine wpAny_builtinsFor (m := X.mg) (by rw [I1.ok.glob]; exact (I1.mod.glob.keeps I1.bk).extBut hx gP) e1 e2 (keep3 _ _ (hbaseP _ _ e5) (I1.bk _ _ e5)) e6 e7 e8 ?_
    intro h' tk' hn' hs'
    refine hQ J _ c' P' _ _ hR ⟨it, fp, tn, _, h', tk', I4, T, T.keep _ _ _ st1 fun b hb o e => keep3 b o (neP b hb) e, fun b hb => ⟨?_, Nat.lt_of_lt_of_le (f1' b hb) hsz⟩, hn', hs', rfl, rfl⟩
    have := f1 b hb
    exact ⟨by rw [hH2 b (neP b hb) (f1' b hb)]; exact this.1, this.2⟩
  cases hf : codeAmong pos ps.toList with
  | none =>
    refine wpAny_genexprCodeX hcode (cd.code hPs ht) (cd.tab hPs) hf fun c' h' tk hx hge hlt hco' _ htab' ⟨P', hPge, hIs, hTab⟩ => ?_
    obtain ⟨o1, vs, f1, tf, fl, tg, inF, tx, tt, op, _, _, _, _, _, _, _, _, _, htr, _⟩ := hco'
    have hh : PySem.W.CodeHd h' c' P' := PySem.W.CodeHd.of hIs hTab
    have hcp : c' ≠ P' := by obtain ⟨_, _, _, _, _, _, _, _, _, _, _, _, _, _, _, _, _, _, z⟩ := hh; exact z
    have hn1 : H1 c' = none := by
      cases e : H1 c' with
      | none => rfl
      | some u => exact absurd (I1.hok c' u e).lt (Nat.not_lt.mpr hge)
    have hn2 : H1 P' = none := by
      cases e : H1 P' with
      | none => rfl
      | some u => exact absurd (I1.hok P' u e).lt (Nat.not_lt.mpr hPge)
    have hcP : c' ≠ P := fun z => by rw [z, hP] at hn1; cases hn1
    have hpP : P' ≠ P := fun z => by rw [z, hP] at hn2; cases hn2
    have atc : upd (upd (upd H1 P (.tbl (ps ++ #[rawInt pos.line, rawInt pos.col, .ref c']))) c' (codeO c' P')) P' (.tbl #[]) c' = some (codeO c' P') := by
      rw [upd_ne hcp, upd_same]
    refine cont _ h' tk _ c' P' rfl hx (Nat.le_trans hge (Nat.le_of_lt hlt)) (inv_tab2 I1 hP (fun b o hb e => hx b o hb e) htab'.2 I1.bare hge hPge hcp hh hTab.2) (fun b h1 h2 => ?_) (q _ c' P' ⟨atc, TabN.empty upd_same n, fun b o no e => ?_, keep_grow hP ht hn1 hn2 hcp htr⟩)
    · rw [upd_ne (Nat.ne_of_lt (Nat.lt_of_lt_of_le h2 hPge)), upd_ne (Nat.ne_of_lt (Nat.lt_of_lt_of_le h2 hge)), upd_ne h1]
    · rw [upd_ne (fun z => by rw [z, hn2] at e; cases e), upd_ne (fun z => by rw [z, hn1] at e; cases e), upd_ne (fun z => by rw [z, hP] at e; cases e; exact no ps rfl)]
      exact e
  | some cv =>
    obtain ⟨c', P', rfl, e1, e2⟩ := hent _ _ hf
    refine wpAny_genexprCode_hit hcode (cd.code hPs ht) hf ?_
    exact cont _ s1.heap s1.toks H1 c' P' rfl (Heap.ExtBut.refl _ _) (Nat.le_refl _) I1 (fun _ _ _ => rfl) (q _ c' P' ⟨e1, e2, fun _ _ _ e => e, KeepT.refl⟩)
end
end L2

set_option Elab.async false
set_option linter.all false
set_option maxRecDepth 100000
set_option maxHeartbeats 2000000
/-! Gn5: a generator expression woken; list(g). -/
namespace L2
open PySem PySem.Spec PyProof.Rows GenW
theorem over_gen {A : Around} {elt tg iter : Expr} {ifs : List Expr} {scope : Scope} {pos : Pos} {it : Value} {env : Env} : A.over (.compLoop (.GeneratorExp elt [⟨tg, iter, ifs, 0⟩] scope pos) 0 it .none env) [] = A.deeper env := by
  first
    | rfl
    | (obtain ⟨hd, d, fr, gs, u⟩ := A; simp [Around.over, Around.deeper, marksOver, frameCount, unitsOf, envsOf, guardsOf, pushEnvs, pushGuards, Code.envs, Code.env?, Code.isFrame, Code.guards, Code.isGuard, Code.weight, Code.frames, Code.isCreation, Code.isCaller, Code.cUnits])
/-- the block's readings, in a generator expression's frame -/
structure GBlk (X : Cx) (k : Nat) (scope : Scope) (own : List Nat) (tg elt : Expr) (ifs : List Expr) (g : TG) (tt : TT) (te : TE) (code : Value) : Prop where
  tg : ∀ (A : Around) (s : Shared) (H : Hp) (L : Addr) (fp : List Addr), Room k A → PG (X.gen A s H scope (genEnvC scope X.env L code builtinsNs) fp) tg g
  ifs : ∀ (A : Around) (s : Shared) (H : Hp) (L : Addr) (fp : List Addr), Room k A → PTs (X.gen A s H scope (genEnvC scope X.env L code builtinsNs) fp) ifs tt
  elt : ∀ (A : Around) (s : Shared) (H : Hp) (L : Addr) (fp : List Addr), Room k A → PE (X.gen A s H scope (genEnvC scope X.env L code builtinsNs) fp) elt te
/-- turn by turn, at the library's level -/
def GTurns (J : It) (g : TG) (tt : TT) (te : TE) (own : List Nat) (σ : St) (Out : OutP) (Fin : List V → Hp → Prop) (H0 : Hp) : Prop := ∃ W : Nat → Nat → List V → Hp → Prop, (∃ m, W 0 m [] H0) ∧ ∀ i m ys H, W i m ys H →
  (J.stop i H ∧ Fin ys H) ∨ (J.go i H ∧ ∃ Nx : List V → Hp → Prop, (∀ ys' H', Nx ys' H' → ∃ m', m' < m ∧ W (i + 1) m' ys' H') ∧ ∀ x H', J.yld i H x H' → g x (wipe σ own) H' fun σ2 H2 => wipe σ2 own = wipe σ own ∧ tt σ2 H2 fun b H3 =>
    if b = true then te σ2 H3 fun y H4 => Out ys y H4 (Nx (ys ++ [y]) H4) else Nx ys H3)
section
variable {X : Cx} {pins : List (Addr × Obj)} {σ : St} {H : Hp}
/-- the generator's object -/
abbrev genObj (n tk : Nat) (q : Str) : Obj := { cls := .type "generator", data := .fields #[.int n 0, .str "<genexpr>" tk, .str (q ++ "<genexpr>") (tk + 1)] }
/-- what a consumer gets: the generator, a context of its run, its first segment -/
theorem gen_wake {tg elt iter : Expr} {ifs : List Expr} {scope : Scope} {own : List (Str × Nat)} {pos : Pos} {J : It} {u : Value} {s5 : Shared} {g : TG} {tt : TT} {te : TE} {k : Nat} {Out : OutP} {Fin : List V → Hp → Prop} (hc : X.calm = true) (hN : X.N.Nodup) (h00 : (".0" : Str) ∉ X.N) (hco : scope.isCoroutine = false) (ok : BlkOk X.N X.env.scope scope own) {code : Value} (B : GBlk X k scope (own.map (·.2)) tg elt ifs g tt te code) (ho : OutOk Out)
    (G : GenMk X pins σ tg elt iter ifs scope pos J H code u s5) (h : GTurns J g tt te (own.map (·.2)) σ Out Fin H) :
    ∃ (a : Addr) (n : Nat) (go : Obj) (c : Code) (sc : Shared) (fp : List Addr), u = .ref a ∧ Inv X pins σ H sc ∧ ExOk X pins fp ∧ sc.heap.objs.size < a ∧ s5.heap.objs.size = a + 1 ∧ s5.heap.IsGen a n ∧ (∀ hh : Heap, hh.get? a = some go → hh.IsGen a n) ∧ s5.heap.get? a = some go ∧ (∀ v, go.data ≠ .cell v) ∧ s5.gens[n]? = some (.fresh c) ∧ s5.os = sc.os ∧ AllBare s5.gens ∧ s5.heap.NoLimit ∧ (∀ b o, sc.heap.get? b = some o → s5.heap.get? b = some o) ∧
      ∀ (A : Around) (s2 : Shared) (CP : ConsP) (cp : List (Addr × Obj)), Room (k + 1) A → A.frames = some X.stack → (∀ b o, s5.heap.get? b = some o → s2.heap.get? b = some o) → s2.os = sc.os → AllBare s2.gens → CP [] cp → (∀ p ∈ cp, s2.heap.get? p.1 = some p.2 ∧ a ≤ p.1 ∧ ∀ v, p.2.data ≠ .cell v) →
        ∃ XG : Cx, XG.outer = X.stack ∧ XG.H_0 = H ∧ XG.s_0 = sc ∧ XG.ex = fp ∧ XG.prog = X.prog ∧ XG.w = X.w ∧ XG.pn = [] ∧ Seg (model X.prog X.w) A (RG XG CP Fin) (YG XG CP Out) sizeLine s2 c ((model X.prog X.w).den c) [] s2 := by
  obtain ⟨it, fp, tn, s4, h1, tk, I4, T, st4, f4, hn, hs, rfl, rfl⟩ := G
  obtain ⟨W, ⟨m0, w0⟩, turn⟩ := h
  have kp1 : ∀ b o, s4.heap.get? b = some o → h1.get? b = some o := fun b o e => hs.extBut b o (Nat.ne_of_lt (Heap.lt_size e)) (pushCells_keeps _ _ _ _ (Heap.get?_push_of_some _ e))
  have kp5 : ∀ b o, s4.heap.get? b = some o → (h1.push (genObj s4.gens.size tk X.env.qual)).get? b = some o := fun b o e => Heap.get?_push_of_some _ (kp1 b o e)
  have lt4 : s4.heap.objs.size < h1.objs.size := hn.lt
  have gp : (h1.push (genObj s4.gens.size tk X.env.qual)).get? h1.objs.size = some (genObj s4.gens.size tk X.env.qual) := Heap.get?_push_size _ rfl
  have isg : ∀ hh : Heap, hh.get? h1.objs.size = some (genObj s4.gens.size tk X.env.qual) → hh.IsGen h1.objs.size s4.gens.size := fun hh e => ⟨_, _, _, e, rfl, rfl, rfl⟩
  refine ⟨h1.objs.size, s4.gens.size, genObj s4.gens.size tk X.env.qual, _, s4, fp, rfl, I4, fun b hb => ?_, lt4, Heap.size_push .., isg _ gp, isg, gp, (fun v q => by cases q), Array.getElem?_push_size .., rfl, AllBare.push I4.bare rfl, I4.nolimit.keeps kp5, kp5, ?_⟩
  · obtain ⟨⟨f0, f1, f2, f3, f5, f6⟩, _⟩ := f4 b hb
    exact ⟨f3, f1, f5, f6⟩
  intro A s2 CP cp hr hfr hk2 hos hba hcp hcp2
  generalize hcenv : genEnvC scope X.env s4.heap.objs.size code builtinsNs = cenv
  have hsc : cenv.scope = scope := by rw [← hcenv]; rfl
  have hcl : cenv.cells = cellsFrom (cenv.locals + 1) scope.names (cloFrom X.env.cells scope.names []) := by rw [← hcenv]; rfl
  have hdp : Room k (A.deeper cenv) := hr.deeper cenv
  have I0 : Inv (X.gen (A.deeper cenv) s4 H scope cenv fp) cp (wipe σ (own.map (·.2))) H s2 := gen_start (it := .ref it) I4 ok hN f4 hcenv hdp.hd (Around.frames_deeper hfr) hn h00 hs (fun b o e => hk2 b o (Heap.get?_push_of_some _ e)) hos hba hcp2
  refine ⟨X.gen (A.deeper cenv) s4 H scope cenv fp, rfl, rfl, rfl, rfl, rfl, rfl, rfl, ?_⟩
  have st2 : tn 0 s2.heap := T.keep _ _ _ st4 fun b _ o e => hk2 b o (kp5 b o e)
  have hap : ∀ p ∈ cp, s4.heap.objs.size ≤ p.1 := fun p hp => Nat.le_trans (Nat.le_of_lt lt4) (hcp2 p hp).2.1
  have h2s : ∀ p ∈ cp, s2.heap.get? p.1 = some p.2 := fun p hp => (hcp2 p hp).1
  have loop := fun (s₀ : Shared) (h00s : ∀ p ∈ cp, s₀.heap.get? p.1 = some p.2) => seg_gen (X := X.gen (A.deeper cenv) s4 H scope cenv fp) (A0 := A) (elt := elt) (iter := iter) (pos := pos) (scope := scope) (CP := CP) (fp := fp) T rfl rfl (fun _ _ z => z) over_gen rfl (by show cenv.scope.isCoroutine = _; rw [hsc]; exact hco) (fun b hb => (f4 b hb).2) ho (by have := B.tg _ s4 H s4.heap.objs.size fp hdp; rw [hcenv] at this; exact this) (by have := B.ifs _ s4 H s4.heap.objs.size fp hdp; rw [hcenv] at this; exact this) (by have := B.elt _ s4 H s4.heap.objs.size fp hdp; rw [hcenv] at this; exact this) turn
    m0 0 sizeLine [] cp s₀ s2 H rfl w0 hcp hap h00s I0 st2 (fun b hb => (f4 b hb).1.1)
  show Seg _ A _ _ _ s2 _ ((compStart (.GeneratorExp elt [⟨tg, iter, ifs, 0⟩] scope pos) 0 (.ref it) .none cenv).onRaise (leaving cenv)) [] s2
  unfold compStart
  rw [Sem.onRaise_eq_wrap]
  show Seg _ A _ _ _ s2 _ ((ask >>= _).wrap _ _ _ _) [] s2
  refine seg_bind_wrap (wpAny_askSetting ?_)
  split
  · exact seg_again rfl (loop s2 h2s)
  · first
      | exact seg_bind_wrap (wpAny_rule (seg_bind_wrap (wpAny_standAt (seg_bind_wrap (T.self _ 0 s2 _ _ st2 (seg_again rfl (loop s2 h2s)))))))
      | (refine seg_bind_wrap (wpAny_rule ?_); show Seg _ A _ _ _ s2 _ ((standAt iter.pos >>= _).wrap _ _ _ _) [] s2; exact seg_bind_wrap (wpAny_standAt (seg_bind_wrap (T.self _ 0 s2 _ _ st2 (seg_again rfl (loop s2 h2s))))))
end
end L2

set_option Elab.async false
set_option linter.all false
set_option maxRecDepth 100000
set_option maxHeartbeats 2000000
/-! Gn6: list and tuple of a generator expression. -/
namespace L2
open PySem PySem.Spec PyProof.Rows GenW
open Dn (TabN KeepT SameT)
def outAll : OutP := fun ys _ _ K => ys.length < sizeLine ∧ K
theorem outAll_ok : OutOk outAll := ⟨fun _ _ _ _ _ f h => ⟨h.1, f h.2⟩, fun _ _ _ _ h => h.1⟩
abbrev noE : XK := fun _ _ _ => False
theorem no_CX {P : Program} {w : World} {outer : List Env} {H : Hp} {s s' : Shared} {e : Value} : ¬ CX P w outer H s noE e s' := fun hc => by
  obtain ⟨_, _, _, _, _, _, _, _, _, _, _, _, hW⟩ := hc
  exact hW
section
variable {X : Cx} {pins : List (Addr × Obj)} {σ : St} {H : Hp}
theorem gmade_of {tg elt iter : Expr} {ifs : List Expr} {scope : Scope} {own : List (Str × Nat)} {pos : Pos} {J : It} {u : Value} {s5 : Shared} {g : TG} {tt : TT} {te : TE} {k : Nat} {cont : List V → Hp → Prop} (hc : X.calm = true) (hN : X.N.Nodup) (h00 : (".0" : Str) ∉ X.N) (hco : scope.isCoroutine = false) (ok : BlkOk X.N X.env.scope scope own) {code : Value} (B : GBlk X k scope (own.map (·.2)) tg elt ifs g tt te code)
    (G : GenMk X pins σ tg elt iter ifs scope pos J H code u s5) (h : GTurns J g tt te (own.map (·.2)) σ outAll cont H) :
    ∃ sc ex, Inv X pins σ H sc ∧ ExOk X pins ex ∧ GMade X.prog X.w (k + 1) X.stack H sc ex cont noE u s5 := by
  obtain ⟨a, n, go, c, sc, fp, rfl, I, hex, lt, sz, ig, igo, gget, gnc, gs, os, bare, lim, kp, wake⟩ := gen_wake hc hN h00 hco ok B outAll_ok G h
  refine ⟨sc, fp, I, hex, a, n, c, rfl, Nat.le_of_lt lt, by rw [sz]; exact Nat.lt_succ_self _, ig, gs, os, bare, lim, kp, fun A S s2 hr hf hS hk hSo hos hba => ?_⟩
  obtain ⟨c0, eS⟩ := hSo
  have haS : a < S := by rw [sz] at hS; exact hS
  obtain ⟨XG, x1, x2, x3, x4, x5, x6, x7, seg⟩ := wake A s2 (fun ys cp => ∃ acc c, cp = [(a, go), (S, lstObj acc c)] ∧ Vals ys acc.toList) [(a, go), (S, lstObj #[] c0)] hr hf hk hos hba ⟨#[], c0, rfl, .nil⟩ (fun p hp => by
    rcases List.mem_cons.mp hp with rfl | hp
    · exact ⟨hk _ _ gget, Nat.le_refl _, gnc⟩
    · obtain rfl := List.mem_singleton.mp hp
      exact ⟨eS, Nat.le_of_lt haS, fun v q => by cases q⟩)
  refine seg_imp (fun n' s₀ r s1 ⟨er, ys, σ1, H1, cp, hn, ⟨acc, c1, ecp, hv⟩, hap, I1, _, fin⟩ => ?_) (fun n' s₀ v s1 kap kap' hkk ⟨ys, y, σ1, H1, cp, hn, rv, ⟨acc, c1, ecp, hv⟩, hap, I1, _, out⟩ => ?_) sizeLine seg
  · subst ecp
    have pS := I1.pin (S, lstObj acc c1) (List.mem_append_right _ (by simp))
    refine .inl ⟨.inr er, H1, ys, acc, c1, I1.os.trans (by rw [x3]), I1.bare, ?_, by have := I1.hok; rw [x5, x6] at this; exact this, pS.2.1, pS.1, hv, by omega, fin⟩
    have := I1.base
    unfold Cx.fs at this
    rw [x1, x2, x3, x4] at this
    exact this
  · subst ecp
    have pS := I1.pin (S, lstObj acc c1) (List.mem_append_right _ (by simp))
    have pa := I1.pin (a, go) (List.mem_append_right _ (by simp))
    have hl := hv.length
    refine ⟨I1.os.trans (by rw [x3]), I1.bare, I1.nolimit, igo _ pa.1, ⟨acc, c1, pS.1, by rw [hl] at hn; simpa using hn⟩, fun s' sl => hkk _ _ ?_⟩
    obtain ⟨z1, z2, z3, z4⟩ := sl
    obtain ⟨c', e'⟩ := z4 _ _ pS.1
    refine out.2 s' [(a, go), (S, lstObj (acc.push v) c')] ⟨z1, z2, fun b o hb e => z3 b o (hb _ (by simp : (S, lstObj acc c1) ∈ [(a, go), (S, lstObj acc c1)])) e, rfl, fun p hp => ?_⟩ ⟨_, _, rfl, by rw [Array.toList_push]; exact hv.append (.cons rv .nil)⟩
    rcases List.mem_cons.mp hp with rfl | hp
    · exact ⟨z3 _ _ (Nat.ne_of_lt haS) pa.1, gnc⟩
    · obtain rfl := List.mem_singleton.mp hp
      exact ⟨e', fun v q => by cases q⟩
/-- the readings, by the code object that runs and its table -/
abbrev PGx := Addr × Addr → TG
abbrev PTx := Addr × Addr → TT
abbrev PEx := Addr × Addr → TE
/-- what it will hand out -/
def tGenX (X : Cx) (c P : Addr) (n : Nat) (wi : TI) (g : PGx) (tt : PTx) (te : PEx) (own : List Nat) : TGen := fun σ H cont => wi σ H fun J H1 => (GAt X c P H1 ∧ TabN (n + 1) H1 P) ∧ ∀ H2 c' P', Grown n c' P' H1 H2 → GTurns J (g (c', P')) (tt (c', P')) (te (c', P')) own σ outAll cont H2
theorem pgen_gx {c P : Addr} {n : Nat} {elt tg iter : Expr} {ifs : List Expr} {scope : Scope} {own : List (Str × Nat)} {pos : Pos} {wi : TI} {g : PGx} {tt : PTx} {te : PEx} {k j : Nat}
    (hr : Room j X.A) (hcode : X.env.code = .ref c) (hc : X.calm = true) (hN : X.N.Nodup) (h00 : (".0" : Str) ∉ X.N) (hco : scope.isCoroutine = false) (h0 : scope.names.lookup (".0" : Str) = some NameKind.local) (ok : BlkOk X.N X.env.scope scope own)
    (hi : PI X tg iter wi) (B : ∀ c' P', GBlk X k scope (own.map (·.2)) tg elt ifs (g (c', P')) (tt (c', P')) (te (c', P')) (.ref c')) (hs : ∀ v, genFold iter X.env v = pure v) : PGen X (k + 1) (.GeneratorExp elt [⟨tg, iter, ifs, 0⟩] scope pos) (tGenX X c P n wi g tt te (own.map (·.2))) noE := by
  refine ⟨fun pins s σ H cont I h => ?_⟩
  refine gen_eval hr hcode hco h0 ok hi hs I h fun J H2 c' P' u s5 q G => ?_
  obtain ⟨sc, ex, I2, hex, gm⟩ := gmade_of hc hN h00 hco ok (B c' P') G q
  exact ⟨H2, sc, ex, I2, hex, gm⟩
end
end L2

set_option Elab.async false
set_option linter.all false
set_option maxRecDepth 100000
set_option maxHeartbeats 2000000
/-! Gn7: tuple(g). -/
namespace L2
open PySem PySem.Spec PyProof.Rows GenW
/-- behind the draining into a list that is let go -/
abbrev Drained (P : Program) (w : World) (outer : List Env) (H : Hp) (sc s : Shared) (ex : List Addr) (Q : List V → Hp → Prop) (s' : Shared) (acc : Array Value) : Prop :=
  ∃ H' ys, s.heap.objs.size ≤ s'.heap.objs.size ∧ Vals ys acc.toList ∧ ys.length ≤ sizeLine ∧ s'.os = sc.os ∧ AllBare s'.gens ∧ Un (frs outer) ex H H' sc.heap s'.heap ∧ HOk P w H' s'.heap ∧ Q ys H'
theorem collect_gm {P : Program} {w : World} {outer : List Env} {H : Hp} {sc s : Shared} {ex : List Addr} {cont : List V → Hp → Prop} {A : Around} {k : Nat} {a : Addr} {Q : List Value → Shared → Prop} {E : Value → Shared → Prop}
    (hr : Room (k + 3) A) (hfr : A.frames = some outer) (h : GMade P w k outer H sc ex cont noE (.ref a) s)
    (hQ : ∀ (s' : Shared) (acc : Array Value), Drained P w outer H sc s ex cont s' acc → Q acc.toList s') :
    wpAny (model P w) A (collect (.ref a)) Q E s := by
  obtain ⟨a', g, c, ea, ha1, ha2, hg, hgs, hos, hb, hl, hkp, wake⟩ := h
  cases ea
  have hSa : s.heap.objs.size ≠ a := Nat.ne_of_gt ha2
  have hcl : cStatics < s.heap.objs.size := let ⟨_, hn, _⟩ := hl; hn.lt
  have hSc : s.heap.objs.size ≠ cStatics := Nat.ne_of_gt hcl
  unfold collect
  refine wpAny_bind (wpAny_runValue (codeAny_builtin F.entry_proto_collect ?_))
  rw [Around.under_plainId F.plain_proto_collect _]
  show wpAny _ A.in1 (newList [] >>= fun l => again (.builtin "list.__iadd__" ⟨[l, .ref a], []⟩)) _ _ s
  refine wpAny_bind (wpAny_newObj_type ?_)
  refine wpAny_pure ⟨plainId_quiet F.plain_list_iadd _, codeAny_builtin F.entry_list_iadd ?_⟩
  rw [Around.under_plainId F.plain_list_iadd _]
  show wpAny _ A.in1 (Builtin.List.listExtendWith (.ref s.heap.objs.size) (.ref a) (.ref s.heap.objs.size)) _ _ _
  unfold Builtin.List.listExtendWith
  have hS1 : (s.heap.push { cls := .type "list", data := .seq ([] : List Value).toArray }).get? s.heap.objs.size = some { cls := .type "list", data := .seq ([] : List Value).toArray } := Heap.get?_push_size _ rfl
  have up : ∀ (h : Heap) (f : Obj → Obj), (∀ b o, s.heap.get? b = some o → h.get? b = some o) → ∀ b o, s.heap.get? b = some o → (h.update s.heap.objs.size f).get? b = some o := fun h f q b o e =>
    (Heap.get?_update_other _ _ (Ne.symm (Nat.ne_of_lt (Heap.lt_size e)))).trans (q b o e)
  have k1 : ∀ b o, s.heap.get? b = some o → (s.heap.push { cls := .type "list", data := .seq ([] : List Value).toArray }).get? b = some o := fun b o e => Heap.get?_push_of_some _ e
  have gty : ∀ {h : Heap}, (∀ b o, s.heap.get? b = some o → h.get? b = some o) → h.IsGen a g := fun {h} q => hg.keeps q
  refine wpAny_bind (wpAny_typeOf (Heap.IsGen.typeIs (s := { s with heap := _ }) (gty k1)) ?_)
  have h1 : Builtin.List.listSameRef (.ref s.heap.objs.size) (.ref a) = false := by simp [Builtin.List.listSameRef, hSa]
  have h2 : (Value.type "generator" == Value.type "list") = false := by decide
  have h3 : (Value.type "generator" == Value.type "tuple") = false := by decide
  simp only [h1, h2, h3, Bool.or_false, Bool.false_eq_true, if_false]
  refine wpAny_bind (wpAny_pyIter_gen (s := { s with heap := _ }) (gty k1) ?_)
  refine wpAny_bind (wpAny_holding ?_)
  unfold Builtin.List.listLengthHint
  refine wpAny_bind (wpAny_specialOf (Heap.IsGen.typeIs (s := { s with heap := _ }) (gty k1)) F.gen_no_len ?_)
  show wpAny _ A.in1 (specialOf (Value.ref a) (Str.ofString "__length_hint__") >>= _) _ _ _
  refine wpAny_bind (wpAny_specialOf (Heap.IsGen.typeIs (s := { s with heap := _ }) (gty k1)) F.gen_no_hint ?_)
  refine wpAny_pure ?_
  show wpAny _ A.in1 (rule "list.extend.makes-room" >>= fun _ => Builtin.List.listTouch (.ref s.heap.objs.size) >>= fun _ =>
    again (.builtin "list.extend.loop" ⟨[.ref s.heap.objs.size, .ref a, .ref s.heap.objs.size], []⟩)) _ _ _
  refine wpAny_bind (wpAny_rule ?_)
  refine wpAny_bind ?_
  show wpAny _ A.in1 (updateSeq s.heap.objs.size (·.push .none) >>= fun _ => updateSeq s.heap.objs.size (·.pop)) _ _ _
  refine wpAny_bind (wpAny_updateSeq hS1 rfl ?_)
  have hS3 := Heap.get?_update_self (Obj.mapSeq (·.push Value.none)) hS1 rfl
  refine wpAny_updateSeq (hz := by seq_fits) hS3 rfl ?_
  have hS4 := Heap.get?_update_self (Obj.mapSeq (·.pop)) hS3 rfl
  have k4 := up _ (Obj.mapSeq (·.pop)) (up _ (Obj.mapSeq (·.push Value.none)) k1)
  refine wpAny_pure ⟨plainId_quiet F.plain_extend_loop _, ?_⟩
  refine drain (P := P) (w := w) (outer := outer) (H := H) (sc := sc) (ex := ex) (Q := cont) (EX := noE) (A := A) (g := g) hr.hd (by have := hr.dp; omega) hSa hSc
    (fun s' acc c H' ys q1 q2 q3 q4 q5 q6 q7 q8 q9 => ?_) (fun e s' hc => (no_CX hc).elim)
    sizeLine _ (gty k4) (hl.keeps k4) ⟨_, hgs, rfl, ?_⟩
  · show wpAny _ A (load s.heap.objs.size >>= _) _ _ s'
    refine wpAny_bind (wpAny_load q1 ?_)
    exact wpAny_pure (hQ s' acc ⟨H', ys, Nat.le_of_lt (Heap.lt_size q1), q2, q3, q4, q5, q6, q7, q9⟩)
  · refine wake _ _ _ ⟨hr.hd, ?_, ?_⟩ hfr (Nat.le_refl _) k4 ⟨_, hS4⟩ hos (allBare_setGen (s := { s with heap := _ }) hb rfl)
    · have := hr.dp
      show A.depth + 3 * k + 5 < _
      omega
    · have := hr.un
      show A.units + 1 + 1 + 16 * k + 200 < _
      omega
/-- tuple(g) -/
theorem call_tuple_new {P : Program} {w : World} {outer : List Env} {H : Hp} {sc s : Shared} {ex : List Addr} {cont : List V → Hp → Prop} {A : Around} {k : Nat} {u : Value} {Q' : Value → Shared → Prop} {E : Value → Shared → Prop}
    (hr : Room (k + 5) A) (hfr : A.frames = some outer) (h : GMade P w k outer H sc ex cont noE u s)
    (hQ : ∀ (s' : Shared) (acc : Array Value), Drained P w outer H sc s ex cont s' acc → Q' (.ref s'.heap.objs.size) { s' with heap := s'.heap.push { cls := .type "tuple", data := .seq acc } }) :
    wpAny (model P w) A (call (.type "tuple") [u]) Q' E s := by
  obtain ⟨a, g, c, rfl, ha1, ha2, hg, r⟩ := id h
  refine callType_codes (Q₁ := fun obj s₁ => s₁.TypeIs obj "tuple" ∧ Q' obj s₁) F.called_tuple (F.typeCall_tuple_1 _) F.entry_object_init ?_ fun obj s₁ h₁ => ⟨h₁.1, F.args_object_init_2 obj _, object_init_meets F.called_tuple.init.lookup F.called_tuple.made (by decide) P w A.in1 _ s₁ ⟨h₁.1, rfl, h₁.2⟩⟩
  refine codeAny_of_tree ?_
  show wpAny _ A.in1.in1 (do checkBuiltinCall "tuple.__new__" ⟨[.type "tuple", .ref a], []⟩; again (.builtin "tuple.__new__" ⟨[.type "tuple", .ref a], []⟩)) _ _ s
  refine wpAny_bind (wpAny_of_eq (F.newCall_tuple_1 _) (wpAny_pure ⟨plainId_quiet F.plain_tuple_new _, codeAny_builtin F.entry_tuple_new ?_⟩))
  rw [Around.under_plainId F.plain_tuple_new _]
  have hsub := sub_tuple_self
  have hinit := init_tuple_lookup
  have hmh := madeHere_tuple
  have hTI : s.TypeIs (.ref a) "generator" := Heap.IsGen.typeIs hg
  have hr2 : Room (k + 3) A.in1.in1 := (Room.in1 (k := k + 3) (Room.in1 (k := k + 4) hr))
  have hco : ∀ {Q : List Value → Shared → Prop} {E : Value → Shared → Prop}, (∀ (s' : Shared) (acc : Array Value), Drained P w outer H sc s ex cont s' acc → Q acc.toList s') → wpAny (model P w) A.in1.in1 (collect (.ref a)) Q E s := fun q => collect_gm hr2 hfr h q
  wp_walk using wpAny_typeOf hTI, hco
  intro s' acc hd
  show wpAny _ _ (Builtin.Tuple.tupleExact acc.toList.toArray >>= fun v => ret v) _ _ _
  unfold Builtin.Tuple.tupleExact
  obtain ⟨H', ys, d1, d2, d3, d4⟩ := id hd
  have hl := d2.length
  refine wpAny_bind (wpAny_newObj_type ?_ (by show acc.toList.toArray.size ≤ sizeLine; simp only [Array.toArray_toList]; rw [← Array.length_toList, ← hl]; exact d3))
  refine wpAny_pure ?_
  have e : acc.toList.toArray = acc := by simp
  rw [e]
  exact ⟨⟨_, Heap.get?_push_size _ rfl, rfl⟩, hQ s' acc hd⟩
section
variable {X : Cx} {k : Nat} {p pos : Pos}
/-- behind a draining that ends in a tuple -/
theorem Inv.tupled {pins : List (Addr × Obj)} {σ : L2.St} {H H' : Hp} {sc s' : Shared} {ex : List Addr} {acc : Array Value} {out : List V} (I : Inv X pins σ H sc) (hlen : out.length ≤ sizeLine) (r : Vals out acc.toList)
    (hex : ExOk X pins ex) (os : s'.os = sc.os) (hb : AllBare s'.gens) (un : Un (frs X.stack) ex H H' sc.heap s'.heap) (hok : HOk X.prog X.w H' s'.heap) : H' s'.heap.objs.size = none ∧ Inv X pins σ (upd H' s'.heap.objs.size (.tup out)) { s' with heap := s'.heap.push { cls := .type "tuple", data := .seq acc } } := by
  have J : Inv X pins σ H' s' := I.call' (ch := ex) os un hok hb hex
  have hn := J.hok.fresh (Nat.le_refl s'.heap.objs.size)
  refine ⟨hn, J.laid (t' := s'.toks) (fun b o e => Heap.get?_push_of_some _ e) (Nat.le_refl _) ⟨hlen, acc.toList, r, ?_⟩⟩
  have e : acc.toList.toArray = acc := by simp
  rw [e]
  exact ⟨_, Heap.get?_push_size _ rfl, rfl, 0, rfl⟩
def tTupG (tg : TGen) : TE := fun σ H Q => tg σ H fun out H2 => ∀ p, H2 p = none → Q (.ref p) (upd H2 p (.tup out))
theorem pe_tupG {e : Expr} {tg : TGen} {nm : Str} (h : PGen X k e tg noE) (hr : Room (k + 5) X.A) (hg : Gl X nm) (hmg : X.mg nm = none) (hv : bootBuiltins nm = some (.type "tuple")) (hnm : nm ≠ "__name__" := by decide) (hdb : (nm == ("__debug__" : Str)) = false := by decide)
    (he : starEach [e] X.env = (false, eval e X.env) :: starEach [] X.env := by rfl) : PE X (.Call (.Name nm p) [e] [] pos) (tTupG tg) := by
  refine ⟨fun pins s σ H Q I hq => ?_⟩
  refine wpAny_Call_Name_kw (ld_blt I hg hmg hv ?_ hnm hdb)
  refine PyProof.Rows.callWith_type1 ?_ he rfl
  rw [he]
  show wpAny _ _ (spliced ((false, eval e X.env) :: backTo pos (starEach [] X.env))) _ _ s
  refine Calls.spliced_cons (thn (h.run pins s σ H _ I hq) fun u s1 ⟨H1, sc, ex, I1, hex, hG⟩ => ?_)
  refine Calls.spliced_nil ?_
  refine call_tuple_new hr I1.ok.frames hG fun s' acc ⟨H', ys, d1, d2, d3, d4, d5, d6, d7, d8⟩ => ?_
  obtain ⟨hn, J⟩ := I1.tupled d3 d2 hex d4 d5 d6 d7
  exact ⟨.ref s'.heap.objs.size, _, J, rfl, d8 _ hn⟩
end
end L2

set_option Elab.async false
set_option linter.all false
set_option maxRecDepth 100000
set_option maxHeartbeats 2000000
/-! Gn8: tuple of a generator expression by values. -/
namespace Dn
open PySem PySem.Spec PyProof.Rows L2
/-- within a generator expression whose code object is x.1, its table x.2 -/
def FC.gb (C : FC) (n : Nat) (x : Addr × Addr) : FC := ⟨C.B0, [], [], C.tabs, (x.1, x.2, n) :: C.ex, C.trk⟩
section
variable {K : PySem.W.Frag} {C : FC} {B H : Hp} {σ : L2.St} {ds : DS} {ts : Tms} {n : Nat} {x : Addr × Addr}
theorem RS.toG (r : RS K C.blk B σ H ds ts) (h : H x.1 = some (codeO x.1 x.2) ∧ TabN n H x.2) : RS K (C.gb n x) B σ H ds ts :=
  ⟨r.ex, r.bh, r.b0, r.pin, r.tb.at_, fun q hq => by
    rcases List.mem_cons.mp hq with rfl | hq
    · exact h
    · exact r.tb.ex q hq, r.tb.all, r.tb.no⟩
theorem RS.ofG (r : RS K (C.gb n x) B σ H ds ts) : RS K C.blk B σ H ds ts := ⟨r.ex, r.bh, r.b0, r.pin, r.tb.at_, fun q hq => r.tb.ex q (List.mem_cons_of_mem _ hq), r.tb.all, r.tb.no⟩
theorem RS.here (r : RS K (C.gb n x) B σ H ds ts) : H x.1 = some (codeO x.1 x.2) ∧ TabN n H x.2 := r.tb.ex (x.1, x.2, n) List.mem_cons_self
theorem RS.wipedG {vs : List Nat} {σ' : L2.St} (r : RS K (C.gb n x) B σ' H ds ts) (nn : nonm ts) (e : wipe σ' vs = wipe σ vs) : RS K (C.gb n x) B (wipe σ vs) H (dwipe ds vs) ts := (r.ofG.wiped nn e).toG r.here
end
/-- where a generator expression stands: the running code object and its table; n levels below -/
structure GCode (X : Cx) (C : FC) (c P : Addr) (n : Nat) : Prop where
  code : X.env.code = .ref c
  base : ∃ c0 P0, GxR.TabB X.base X.mg c0 P0
  at_ : (GxR.TabB X.base X.mg c P ∧ P ∈ C.tabs ∧ n = 3) ∨ (c, P, n + 1) ∈ C.ex
theorem GCode.tb {X : Cx} {C : FC} {c P : Addr} {n : Nat} {B H : Hp} (G : GCode X C c P n) (t : Tb C.tabs C.ex C.trk B H) : GAt X c P H ∧ TabN (n + 1) H P := by
  rcases G.at_ with ⟨h1, h2, rfl⟩ | h
  · exact ⟨⟨G.base, .inl h1⟩, t.at_ P h2⟩
  · exact ⟨⟨G.base, .inr (t.ex _ h).1⟩, (t.ex _ h).2⟩
/-- a tuple of what a generator expression hands out -/
def dTupG (vs : List Nat) (i : ID) (g : GD) (q : QD) (e : ED) : ED := fun ds Q => i ds fun its ds1 => CompD g q e vs (fun r ds2 => ∃ xs, r = .lst xs ∧ cps xs = true ∧ Q (mkTup xs) ds2) its (dwipe ds1 vs)
/-- what has been handed out -/
def outT (ys : List V) (acc : List D) : Tms := (ys.zip (acc.map Tm.own)).reverse
theorem outT_snoc {ys : List V} {acc : List D} (h : ys.length = acc.length) (y : V) (d : D) : outT (ys ++ [y]) (acc ++ [d]) = (y, .own d) :: outT ys acc := by
  unfold outT
  rw [List.map_append, List.zip_append (by simpa using h), List.reverse_append]
  rfl
theorem outT_nonm : ∀ {ys : List V} {acc : List D} {ts : Tms}, nonm ts → nonm (outT ys acc ++ ts) := fun {ys acc ts} h => by
  have key : ∀ (l : List (V × Tm)), (∀ x ∈ l, ∃ d, x.2 = .own d) → nonm (l ++ ts) := fun l => by
    induction l with
    | nil => intro _; exact h
    | cons x l ih =>
      intro hx
      obtain ⟨d, e⟩ := hx x List.mem_cons_self
      obtain ⟨v, t⟩ := x
      simp only at e
      subst e
      exact ih fun y hy => hx y (List.mem_cons_of_mem _ hy)
  refine key _ fun x hx => ?_
  have hx := List.mem_reverse.mp hx
  obtain ⟨v, t⟩ := x
  have := (List.of_mem_zip hx).2
  obtain ⟨d, _, e⟩ := List.mem_map.mp this
  exact ⟨d, e.symm⟩
theorem gets_own {ds : DS} : ∀ acc : List D, gets ds (acc.map Tm.own) = some acc
  | [] => rfl
  | d :: acc => by
    show (match (Tm.own d).get ds, gets ds (acc.map Tm.own) with
      | some d, some l => some (d :: l)
      | _, _ => none) = _
    rw [gets_own acc]
    rfl
theorem tg_run {X : Cx} {K : PySem.W.Frag} {C : FC} {c P : Addr} {n : Nat} {vs ws : List Nat} {i : ID} {g : GD} {q : QD} {e : ED} (hP : GCode X C c P n) (hw : ∀ w ∈ ws, w ∈ vs) {σ : L2.St} {H : Hp} {Q : VK} (h : LE K C false (dTupG vs i g q e) σ H Q) :
    tTupG (tGenX X c P n (LI K C false i) (fun x => LG K (C.gb n x) ws g) (fun x => LT K (C.gb n x) false q) (fun x => LE K (C.gb n x) false e) vs) σ H Q := by
  obtain ⟨B, ds, ts, P0, r, nv, t, qq⟩ := h
  have nv := nv rfl
  refine ⟨B, ds, ts, _, r, fun _ => nv, t, fun its ds1 ⟨Pd, z0, zs, zd⟩ H1 B1 J kb1 r1 ok => ⟨hP.tb r1.tb, fun H2 c' P' hT => ?_⟩⟩
  have r1' := r1.grewT hT.2.2.1 hT.2.2.2
  have rb := (r1'.block nv vs).toG (n := n) (x := (c', P')) ⟨hT.1, hT.2.1⟩
  have nn : ∀ {ys : List V} {acc : List D}, nonm (outT ys acc ++ strip ts) := fun {ys acc} => outT_nonm (nonm_strip ts)
  let Pv : Nat → List V → Hp → Prop := fun i ys H => i ≤ its.length ∧ ∃ B2 ds2 acc, Same B1 B2 ∧ ys.length = acc.length ∧ RS K (C.gb n (c', P')) B2 (wipe σ vs) H ds2 (outT ys acc ++ strip ts) ∧ (∀ i x, ds2[i]? = some (some x) → i ∉ vs) ∧ Pd i acc ds2
  refine ⟨fun i m ys H => m = its.length - i ∧ Pv i ys H, ⟨its.length, by simp, Nat.zero_le _, B1, _, [], Same.refl _, rfl, rb, fun i x e => (dwipe_some e).2, z0⟩, ?_⟩
  rintro i m ys H2 ⟨rfl, hi, B2, ds2, acc, kb2, hl2, r2, hv2, z2⟩
  by_cases hlt : i < its.length
  · refine .inr ⟨(ok.mono kb2).goes i H2 hlt r2.bh, Pv (i + 1), fun ys' H' p' => ⟨its.length - (i + 1), by omega, rfl, p'⟩, fun x H' y => ?_⟩
    obtain ⟨d, ed, k1, f⟩ := (ok.mono kb2).yields i H2 x H' hlt r2.bh y
    obtain ⟨w, c⟩ := f B2 (Same.refl _) r2.bh
    refine ⟨B2, ds2, _, d, _, r2.push k1 (Fresh.cp w c), nn, zs i d acc ds2 ed z2, fun ds3 z3 σ3 H3 B3 kb3 ho r3 => ?_⟩
    have hw3 : wipe σ3 vs = wipe σ vs := wipe_agree ⟨ho.1, fun j hj => ho.2 j fun m => hj (hw j m)⟩
    refine ⟨hw3, B3, ds3, _, _, r3, fun _ => nonm_vw nn, z3, fun b ds4 z4 H4 B4 kb4 r4 => ?_⟩
    cases b with
    | true =>
      rw [if_pos rfl] at z4 ⊢
      refine ⟨B4, ds4, _, _, r4, fun _ => nonm_vw nn, z4, fun y ds5 ⟨hz, z5⟩ v5 H5 B5 kb5 r5 => ?_⟩
      refine ⟨by omega, hlt, B5, dwipe ds5 vs, acc ++ [y], (((kb2.trans kb3).trans kb4).trans kb5), by simp [hl2], ?_, fun i x e => (dwipe_some e).2, z5⟩
      rw [outT_snoc hl2]
      exact r5.wipedG (ts := (v5, .own y) :: (outT ys acc ++ strip ts)) nn hw3
    | false =>
      rw [if_neg Bool.false_ne_true] at z4 ⊢
      exact ⟨hlt, B4, dwipe ds4 vs, _, ((kb2.trans kb3).trans kb4), hl2, r4.wipedG nn hw3, fun i x e => (dwipe_some e).2, z4⟩
  · have e : i = its.length := by omega
    subst e
    refine .inl ⟨(ok.mono kb2).stops H2 r2.bh, fun p hp => ?_⟩
    obtain ⟨xs, ex, hc, z⟩ := zd _ _ z2
    cases ex
    have w : VBs K B2 H2 acc ys := r2.views (by simpa using hl2) (gets_own acc)
    have r3 := (r2.push (same_new hp) (Fresh.tup hp w hc)).drops2
    exact qq _ _ z _ _ B2 (kb1.trans kb2) (r1.unblock nv kb2 r3.ofG hv2)
end Dn
namespace Dn
open PySem PySem.Spec PyProof.Rows L2
/-- the readings within a generator expression -/
structure GBlkD (X : Cx) (C : FC) (n k : Nat) (scope : Scope) (vs : List Nat) (tg elt : Expr) (ifs : List Expr) (g : GD) (q : QD) (e : ED) : Prop where
  tg : ∃ ws, (∀ w ∈ ws, w ∈ vs) ∧ ∀ (x : Addr × Addr) (A : Around) (s : Shared) (H : Hp) (L : Addr) (fp : List Addr), Room k A → PG (X.gen A s H scope (genEnvC scope X.env L (.ref x.1) builtinsNs) fp) tg (LG X.K (C.gb n x) ws g)
  ifs : ∀ (x : Addr × Addr) (A : Around) (s : Shared) (H : Hp) (L : Addr) (fp : List Addr), Room k A → PTs (X.gen A s H scope (genEnvC scope X.env L (.ref x.1) builtinsNs) fp) ifs (LT X.K (C.gb n x) false q)
  elt : ∀ (x : Addr × Addr) (A : Around) (s : Shared) (H : Hp) (L : Addr) (fp : List Addr), Room k A → PE (X.gen A s H scope (genEnvC scope X.env L (.ref x.1) builtinsNs) fp) elt (LE X.K (C.gb n x) false e)
/-- the scope of a generator expression -/
structure GSc (N : List Str) (sc scope : Scope) (own : List (Str × Nat)) : Prop where
  blk : BlkOk N sc scope own
  h00 : (".0" : Str) ∉ N
  h0 : scope.names.lookup (".0" : Str) = some NameKind.local
  co : scope.isCoroutine = false
variable {X : Cx} {C : FC} {pp gpos : Pos} {elt tg iter : Expr} {ifs : List Expr} {scope : Scope} {own : List (Str × Nat)} {i : ID} {g : GD} {q : QD} {t : ED} {c P : Addr} {n k : Nat}
theorem b_tupG (hm : X.mg "tuple" = none) (hr : Room (k + 6) X.A) (G : GCode X C c P n) (hc : X.calm = true) (hN : X.N.Nodup) (S : GSc X.N X.env.scope scope own) (hi : PI X tg iter (LI X.K C false i)) (B : GBlkD X C n k scope (own.map (·.2)) tg elt ifs g q t)
    (hs : ∀ v, genFold iter X.env v = pure v := by intro _; rfl) (hg : Gl X "tuple" := by rfl)
    (he : starEach [.GeneratorExp elt [⟨tg, iter, ifs, 0⟩] scope gpos] X.env = (false, eval (.GeneratorExp elt [⟨tg, iter, ifs, 0⟩] scope gpos) X.env) :: starEach [] X.env := by rfl) :
    PE X (.Call (.Name "tuple" pp) [.GeneratorExp elt [⟨tg, iter, ifs, 0⟩] scope gpos] [] pos) (LE X.K C false (dTupG (own.map (·.2)) i g q t)) := by
  obtain ⟨ws, hw, ht⟩ := B.tg
  exact (pe_tupG (pgen_gx hr G.code hc hN S.h00 S.co S.h0 S.blk hi (g := fun x => LG X.K (C.gb n x) ws g) (tt := fun x => LT X.K (C.gb n x) false q) (te := fun x => LE X.K (C.gb n x) false t) (fun c' P' => ⟨ht (c', P'), B.ifs (c', P'), B.elt (c', P')⟩) hs) hr hg hm PyProof.Rows.boot_tuple (he := he)).imp fun _ _ _ h => tg_run G hw h
end Dn

set_option Elab.async false
set_option linter.all false
set_option maxRecDepth 100000
set_option maxHeartbeats 2000000
/-! Gn9: a result frozen; rows for simp. -/
namespace Dn
open PySem PySem.Spec PyProof.Rows L2
def dFz (t : ED) : ED := fun ds Q => t ds fun d ds' => Q (fz d) ds'
theorem e_fz {X : Cx} {C : FC} {p : Bool} {e : Expr} {t : ED} (h : PE X e (LE X.K C p t)) : PE X e (LE X.K C p (dFz t)) :=
  h.imp fun σ H Q ⟨B, ds, ts, P, r, nv, t, q⟩ => by
    refine ⟨B, ds, ts, _, r, nv, t, fun d ds' z v H' B' kb r1 => ?_⟩
    obtain ⟨B2, kb2, w, w', r2⟩ := r1.freezeT
    exact q _ _ z v H' B2 (kb.trans kb2) (r2.push (Same.refl _) (Fresh.cp (VB.mono (Same.refl _) r2.bh _ _ w') (cp_fz d)))
section
variable {E : DE} {ds : DS} {a b : SD} {e t u : ED} {Q : D → DS → Prop} {q : QD} {oa ob oc : OD} {f f' : F2} {p2 p3 : Bool}
@[simp ↓] theorem x_dFz : dFz t ds Q = t ds fun d ds' => Q (fz d) ds' := rfl
@[simp ↓] theorem x_dCh : dCh p2 p3 f f' oa ob oc ds Q = oa ds fun x ds1 => nvs p2 x ∧ ob ds1 fun y ds2 => (match x.get ds2 with | some d => (match y.get ds2 with | some d' => f d d' fun z => (match z with | .t (.bl k) => (if k = true then nvs p3 y ∧ oc ds2 fun w ds3 => (match y.get ds3 with | some d2 => (match w.get ds3 with | some d3 => f' d2 d3 fun z => Q z ds3 | none => False) | none => False) else Q (.t (.bl false)) ds2) | _ => False) | none => False) | none => False) := by
  unfold dCh
  congr 1
  funext x ds1
  congr 1
  congr 1
  funext y ds2
  rcases x.get ds2 with _ | d
  · simp
  · rcases y.get ds2 with _ | d'
    · simp
    · simp only [Option.some.injEq, exists_and_left, exists_eq_left']
      congr 1
      funext z
      rw [ex_mb]
      cases z with
      | t x =>
        cases x with
        | bl k =>
          simp only []
          cases k with
          | true =>
            simp only [if_true]
            congr 1
            congr 1
            funext w ds3
            cases y.get ds3 <;> cases w.get ds3 <;> simp
          | false => rfl
        | _ => rfl
      | _ => rfl
@[simp ↓] theorem x_dTupG {vs : List Nat} {i : ID} {g : GD} : dTupG vs i g q e ds Q = i ds fun its ds1 => CompD g q e vs (fun r ds2 => ∃ xs, r = .lst xs ∧ cps xs = true ∧ Q (mkTup xs) ds2) its (dwipe ds1 vs) := rfl
@[simp ↓] theorem x_dRg1 {mk : List D → D} : dRg1 mk oa ds Q = oa ds fun x ds1 => (match x.get ds1 with | some (.t (.int j)) => -(2 ^ 62) ≤ j ∧ j ≤ 2 ^ 24 ∧ Q (mk (rangeD 0 j.toNat)) ds1 | _ => False) := by
  unfold dRg1
  congr 1
  funext x ds1
  rcases x.get ds1 with _ | d
  · simp
  · cases d with
    | t y => cases y <;> simp
    | _ => simp
@[simp ↓] theorem x_fIntB {b : Bool} {Q : D → Prop} : fInt [.t (.bl b)] Q = Q (.t (.int (if b = true then 1 else 0))) := by
  apply propext
  constructor
  · rintro (⟨j, h, z⟩ | ⟨j, h, z⟩)
    · cases h
    · cases h; exact z
  · intro z; exact .inr ⟨b, rfl, z⟩
end
@[simp] theorem x_litF {xs : List D} : lits (.frz xs) = some (fzs xs) := rfl
@[simp] theorem x_titF {xs : List D} : tits (.frz xs) = none := rfl
@[simp] theorem x_titM {xs : List D} : tits (.tupM xs) = some xs := rfl
@[simp] theorem x_litM {xs : List D} : lits (.tupM xs) = none := rfl
@[simp] theorem x_nfM {xs : List D} : nf (.tupM xs) = nfs xs := rfl
@[simp] theorem x_fzM {xs : List D} : fz (.tupM xs) = .tupM (fzs xs) := rfl
@[simp] theorem x_cpM {xs : List D} : cp (.tupM xs) = cps xs := rfl
@[simp ↓] theorem x_fIxM {xs : List D} {i : Int} {Q : D → Prop} : fIx (.tupM xs) (.t (.int i)) Q = (match L2.atI xs i with | some x => cp x = true ∧ Q x | none => False) := by
  show (∃ x, L2.atI xs i = some x ∧ cp x = true ∧ Q x) = _
  rcases L2.atI xs i with _ | x
  · simp
  · simp
/-! a list's item, for proofs -/
def nth {α : Type} (z : α) (xs : List α) (i : Nat) : α := xs.getD i z
section
variable {α β : Type} {xs : List α} {z x : α} {i : Nat}
theorem nth_some (h : i < xs.length) : xs[i]? = some (nth z xs i) := by
  unfold nth
  rw [List.getD_eq_getElem?_getD, List.getElem?_eq_getElem h]; rfl
theorem nth_of (h : xs[i]? = some x) : nth z xs i = x := by
  unfold nth
  rw [List.getD_eq_getElem?_getD, h]; rfl
theorem nth_mem (h : i < xs.length) : nth z xs i ∈ xs := List.mem_of_getElem? (nth_some h)
theorem at_nth (z : α) {f : α → β} (h : i < xs.length) {j : Int} (e : j = i) : L2.atI (xs.map f) j = some (f (nth z xs i)) := at_of (i := i) (by rw [List.getElem?_map, nth_some (z := z) h]; rfl) e
theorem at_nth0 (z : α) (h : i < xs.length) {j : Int} (e : j = i) : L2.atI xs j = some (nth z xs i) := at_of (i := i) (nth_some (z := z) h) e
end
section
variable {α : Type} {a b c d e f g h : α} {xs : List α}
@[simp] theorem x_at4 : L2.atI (a :: b :: c :: d :: e :: xs) 4 = some e := at_of (i := 4) rfl rfl
@[simp] theorem x_at5 : L2.atI (a :: b :: c :: d :: e :: f :: xs) 5 = some f := at_of (i := 5) rfl rfl
@[simp] theorem x_at6 : L2.atI (a :: b :: c :: d :: e :: f :: g :: xs) 6 = some g := at_of (i := 6) rfl rfl
@[simp] theorem x_at7 : L2.atI (a :: b :: c :: d :: e :: f :: g :: h :: xs) 7 = some h := at_of (i := 7) rfl rfl
@[simp] theorem x_i50 : ixN 5 0 = some 0 := rfl
@[simp] theorem x_i51 : ixN 5 1 = some 1 := rfl
@[simp] theorem x_i52 : ixN 5 2 = some 2 := rfl
@[simp] theorem x_i53 : ixN 5 3 = some 3 := rfl
@[simp] theorem x_i54 : ixN 5 4 = some 4 := rfl
end
end Dn

set_option Elab.async false
set_option linter.all false
set_option maxRecDepth 100000
set_option maxHeartbeats 2000000
/-! Gn10: any, all, sum of a generator expression. -/
namespace L2
open PySem PySem.Spec PyProof.Rows GenW
section
variable {X : Cx} {pins : List (Addr × Obj)} {σ : St} {H : Hp}
/-- how it ends for those around -/
structure Ended (X : Cx) (H : Hp) (sc : Shared) (ex : List Addr) (H' : Hp) (s' : Shared) : Prop where
  os : s'.os = sc.os
  bare : AllBare s'.gens
  un : Un (frs X.stack) ex H H' sc.heap s'.heap
  hok : HOk X.prog X.w H' s'.heap
theorem Ended.kept {sc s' s'' : Shared} {ex : List Addr} {H' : Hp} (e : Ended X H sc ex H' s') (h1 : s''.os = s'.os) (h2 : AllBare s''.gens) (k : ∀ b o, s'.heap.get? b = some o → s''.heap.get? b = some o) : Ended X H sc ex H' s'' :=
  ⟨h1.trans e.os, h2, e.un.trans (Un.kept k), e.hok.kept k⟩
/-- a context of the generator's run, seen from the consumer -/
structure XGOk (X XG : Cx) (H : Hp) (sc : Shared) (ex : List Addr) : Prop where
  outer : XG.outer = X.stack
  H0 : XG.H_0 = H
  s0 : XG.s_0 = sc
  ex : XG.ex = ex
  prog : XG.prog = X.prog
  w : XG.w = X.w
  pn : XG.pn = []
theorem XGOk.ended {XG : Cx} {sc : Shared} {ex : List Addr} (x : XGOk X XG H sc ex) {cp : List (Addr × Obj)} {σ1 : St} {H1 : Hp} {s1 : Shared} (I1 : Inv XG cp σ1 H1 s1) : Ended X H sc ex H1 s1 := by
  refine ⟨I1.os.trans (by rw [x.s0]), I1.bare, ?_, by have := I1.hok; rw [x.prog, x.w] at this; exact this⟩
  have := I1.base
  unfold Cx.fs at this
  rw [x.outer, x.H0, x.s0, x.ex] at this
  exact this
/-- a test's element -/
def outB (stop : Bool) (QT : Hp → Prop) : OutP := fun ys y H K => ys.length < sizeLine ∧ ∃ b, y = .bl b ∧ if b = stop then QT H else K
theorem outB_ok {stop : Bool} {QT : Hp → Prop} : OutOk (outB stop QT) := ⟨fun _ _ _ _ _ f ⟨h1, b, e, h⟩ => ⟨h1, b, e, by
  split at h
  · rename_i z; rw [if_pos z]; exact h
  · rename_i z; rw [if_neg z]; exact f h⟩, fun _ _ _ _ h => h.1⟩
/-- nothing of the consumer's is changed -/
theorem Sl.same {P : Program} {w : World} {cp : List (Addr × Obj)} {s s' : Shared} (h1 : s'.os = s.os) (h2 : AllBare s'.gens) (h3 : ∀ b o, s.heap.get? b = some o → s'.heap.get? b = some o) (hp : ∀ p ∈ cp, s.heap.get? p.1 = some p.2 ∧ ∀ v, p.2.data ≠ .cell v) : Sl cp cp s s' :=
  ⟨h1, h2, fun b o _ e => h3 b o e, rfl, fun p m => ⟨h3 _ _ (hp p m).1, (hp p m).2⟩⟩
section
variable {XG : Cx} {Fin : List V → Hp → Prop} {sc : Shared} {ex : List Addr} {A : Around} {a : Addr} {g : Nat} {go : Obj} {Res : Result → Shared → Prop} {QT : Hp → Prop}
theorem any_loop (x : XGOk X XG H sc ex) (hh : A.handled = none) (hd : A.depth < recursionLimit) (hig : ∀ hh : Heap, hh.get? a = some go → hh.IsGen a g) (hgc : ∀ v, go.data ≠ .cell v)
    (hT : ∀ H' s', Ended X H sc ex H' s' → QT H' → Res (.ok (.ret (.bool true))) s') (hF : ∀ H' s' ys, Ended X H sc ex H' s' → Fin ys H' → Res (.ok (.ret (.bool false))) s') :
    ∀ (m : Nat) (s : Shared), s.heap.IsGen a g → s.heap.NoLimit →
      (∃ gs, s.gens[g]? = some gs ∧ gs.Goes (model XG.prog XG.w) A.in1.in1 (RG XG (fun _ cp => cp = [(a, go)]) Fin) (YG XG (fun _ cp => cp = [(a, go)]) (outB true QT)) m (.send .none) (s.setGen g .running)) →
      codeAny (model XG.prog XG.w) A (.builtin "any.loop" ⟨[.ref a], []⟩) Res s := by
  have goes : ∀ {gs : GenState} {B : Around} {n : Nat} {r : Resume} {s : Shared}, gs.Goes (model XG.prog XG.w) B (RG XG (fun _ cp => cp = [(a, go)]) Fin) (YG XG (fun _ cp => cp = [(a, go)]) (outB true QT)) n r s →
      gs.Goes (model XG.prog XG.w) B (fun n s₀ r s => r = .ok .next ∧ ∃ ys σ H cp, n + ys.length = sizeLine ∧ cp = [(a, go)] ∧ (∀ p ∈ cp, XG.s_0.heap.objs.size ≤ p.1) ∧ Inv XG cp σ H s ∧ (∀ p ∈ cp, s₀.heap.get? p.1 = some p.2) ∧ Fin ys H) (YG XG (fun _ cp => cp = [(a, go)]) (outB true QT)) n r s := fun h => h
  have hpin : ∀ {σ1 : St} {H1 : Hp} {s1 : Shared}, Inv XG [(a, go)] σ1 H1 s1 → s1.heap.get? a = some go := fun I1 => (I1.pin (a, go) (List.mem_append_right _ (by simp))).1
  intro m
  induction m with
  | zero =>
    intro s hg hl ⟨gs, hgs, hgo⟩
    refine codeAny_builtin F.entry_any_loop ?_
    rw [Around.under_plainId F.plain_any_loop _]
    show wpAny _ A.in1 (pyNext (.ref a) >>= _) _ _ s
    refine wpAny_bind (wpAny_pyNext_genexpQ (A := A.in1) (P := fun n s₀ s => ∃ ys σ H cp, n + ys.length = sizeLine ∧ cp = [(a, go)] ∧ (∀ p ∈ cp, XG.s_0.heap.objs.size ≤ p.1) ∧ Inv XG cp σ H s ∧ (∀ p ∈ cp, s₀.heap.get? p.1 = some p.2) ∧ Fin ys H) hh hl hd hg hgs (goes hgo) (fun v s1 gs' hb hv => ?_) (fun s1 hp h' hk => ?_))
    · obtain ⟨ys, y, σ1, H1, cp, hn, rv, rfl, hap, I1, _, hlt, b, rfl, out⟩ := hv
      cases rv
      refine wpAny_bind (wpAny_holding (wpAny_truthy_bool ?_))
      refine wpAny_bind (wpAny_letGo ?_)
      by_cases hbs : b = true
      · subst hbs
        rw [if_pos rfl] at out
        first | rw [if_pos rfl] | rw [if_neg Bool.false_ne_true]
        refine wpAny_bind (wpAny_rule (wpAny_pure ?_))
        exact hT H1 _ ((x.ended I1).kept rfl (allBare_setGen I1.bare hb) fun _ _ e => e) out
      · rw [if_neg hbs] at out
        exact (out s1 [(a, go)] (Sl.same (P := XG.prog) (w := XG.w) rfl I1.bare (fun _ _ e => e) fun p hp => by rw [List.mem_singleton.mp hp]; exact ⟨hpin I1, hgc⟩) rfl).elim
    · obtain ⟨ys, σ1, H1, cp, hn, rfl, hap, I1, _, fin⟩ := hp
      refine wpAny_bind (wpAny_rule (wpAny_pure ?_))
      exact hF H1 _ ys ((x.ended I1).kept rfl (allBare_setGen I1.bare rfl) hk) fin
  | succ m ih =>
    intro s hg hl ⟨gs, hgs, hgo⟩
    have hgl : g < s.gens.size := (Array.getElem?_eq_some_iff.mp hgs).1
    refine codeAny_builtin F.entry_any_loop ?_
    rw [Around.under_plainId F.plain_any_loop _]
    show wpAny _ A.in1 (pyNext (.ref a) >>= _) _ _ s
    refine wpAny_bind (wpAny_gsz (n := g + 1) hgl (wpAny_pyNext_genexpQ (A := A.in1) (P := fun n s₀ s => ∃ ys σ H cp, n + ys.length = sizeLine ∧ cp = [(a, go)] ∧ (∀ p ∈ cp, XG.s_0.heap.objs.size ≤ p.1) ∧ Inv XG cp σ H s ∧ (∀ p ∈ cp, s₀.heap.get? p.1 = some p.2) ∧ Fin ys H) hh hl hd hg hgs (goes hgo) (fun v s1 gs' hb hv => ?_) (fun s1 hp h' hk => ?_)))
    · intro hsz
      obtain ⟨ys, y, σ1, H1, cp, hn, rv, rfl, hap, I1, _, hlt, b, rfl, out⟩ := hv
      cases rv
      refine wpAny_bind (wpAny_holding (wpAny_truthy_bool ?_))
      refine wpAny_bind (wpAny_letGo ?_)
      by_cases hbs : b = true
      · subst hbs
        rw [if_pos rfl] at out
        first | rw [if_pos rfl] | rw [if_neg Bool.false_ne_true]
        refine wpAny_bind (wpAny_rule (wpAny_pure ?_))
        exact hT H1 _ ((x.ended I1).kept rfl (allBare_setGen I1.bare hb) fun _ _ e => e) out
      · rw [if_neg hbs] at out
        have hbs' : b = false := by cases b <;> simp_all
        subst hbs'
        first | rw [if_pos rfl] | rw [if_neg Bool.false_ne_true]
        have hsz1 : g < s1.gens.size := by
          have q : (s1.setGen g gs').gens.size = s1.gens.size := setGen_size _ _ _
          have hsz' : g + 1 ≤ (s1.setGen g gs').gens.size := hsz
          omega
        refine wpAny_pure ⟨plainId_quiet F.plain_any_loop _, ih (s1.setGen g gs') (show (s1.setGen g gs').heap.IsGen a g from hig s1.heap (hpin I1)) (show (s1.setGen g gs').heap.NoLimit from I1.nolimit) ⟨gs', setGen_at hsz1, ?_⟩⟩
        exact out _ [(a, go)] (Sl.same (P := XG.prog) (w := XG.w) rfl (allBare_setGen (s := s1.setGen g gs') (allBare_setGen I1.bare hb) rfl) (fun _ _ e => e) fun p hp => by rw [List.mem_singleton.mp hp]; exact ⟨hpin I1, hgc⟩) rfl
    · intro hsz
      obtain ⟨ys, σ1, H1, cp, hn, rfl, hap, I1, _, fin⟩ := hp
      refine wpAny_bind (wpAny_rule (wpAny_pure ?_))
      exact hF H1 _ ys ((x.ended I1).kept rfl (allBare_setGen I1.bare rfl) hk) fin
theorem all_loop (x : XGOk X XG H sc ex) (hh : A.handled = none) (hd : A.depth < recursionLimit) (hig : ∀ hh : Heap, hh.get? a = some go → hh.IsGen a g) (hgc : ∀ v, go.data ≠ .cell v)
    (hT : ∀ H' s', Ended X H sc ex H' s' → QT H' → Res (.ok (.ret (.bool false))) s') (hF : ∀ H' s' ys, Ended X H sc ex H' s' → Fin ys H' → Res (.ok (.ret (.bool true))) s') :
    ∀ (m : Nat) (s : Shared), s.heap.IsGen a g → s.heap.NoLimit →
      (∃ gs, s.gens[g]? = some gs ∧ gs.Goes (model XG.prog XG.w) A.in1.in1 (RG XG (fun _ cp => cp = [(a, go)]) Fin) (YG XG (fun _ cp => cp = [(a, go)]) (outB false QT)) m (.send .none) (s.setGen g .running)) →
      codeAny (model XG.prog XG.w) A (.builtin "all.loop" ⟨[.ref a], []⟩) Res s := by
  have goes : ∀ {gs : GenState} {B : Around} {n : Nat} {r : Resume} {s : Shared}, gs.Goes (model XG.prog XG.w) B (RG XG (fun _ cp => cp = [(a, go)]) Fin) (YG XG (fun _ cp => cp = [(a, go)]) (outB false QT)) n r s →
      gs.Goes (model XG.prog XG.w) B (fun n s₀ r s => r = .ok .next ∧ ∃ ys σ H cp, n + ys.length = sizeLine ∧ cp = [(a, go)] ∧ (∀ p ∈ cp, XG.s_0.heap.objs.size ≤ p.1) ∧ Inv XG cp σ H s ∧ (∀ p ∈ cp, s₀.heap.get? p.1 = some p.2) ∧ Fin ys H) (YG XG (fun _ cp => cp = [(a, go)]) (outB false QT)) n r s := fun h => h
  have hpin : ∀ {σ1 : St} {H1 : Hp} {s1 : Shared}, Inv XG [(a, go)] σ1 H1 s1 → s1.heap.get? a = some go := fun I1 => (I1.pin (a, go) (List.mem_append_right _ (by simp))).1
  intro m
  induction m with
  | zero =>
    intro s hg hl ⟨gs, hgs, hgo⟩
    refine codeAny_builtin F.entry_all_loop ?_
    rw [Around.under_plainId F.plain_all_loop _]
    show wpAny _ A.in1 (pyNext (.ref a) >>= _) _ _ s
    refine wpAny_bind (wpAny_pyNext_genexpQ (A := A.in1) (P := fun n s₀ s => ∃ ys σ H cp, n + ys.length = sizeLine ∧ cp = [(a, go)] ∧ (∀ p ∈ cp, XG.s_0.heap.objs.size ≤ p.1) ∧ Inv XG cp σ H s ∧ (∀ p ∈ cp, s₀.heap.get? p.1 = some p.2) ∧ Fin ys H) hh hl hd hg hgs (goes hgo) (fun v s1 gs' hb hv => ?_) (fun s1 hp h' hk => ?_))
    · obtain ⟨ys, y, σ1, H1, cp, hn, rv, rfl, hap, I1, _, hlt, b, rfl, out⟩ := hv
      cases rv
      refine wpAny_bind (wpAny_holding (wpAny_truthy_bool ?_))
      refine wpAny_bind (wpAny_letGo ?_)
      by_cases hbs : b = false
      · subst hbs
        rw [if_pos rfl] at out
        first | rw [if_pos rfl] | rw [if_neg Bool.false_ne_true]
        refine wpAny_bind (wpAny_rule (wpAny_pure ?_))
        exact hT H1 _ ((x.ended I1).kept rfl (allBare_setGen I1.bare hb) fun _ _ e => e) out
      · rw [if_neg hbs] at out
        exact (out s1 [(a, go)] (Sl.same (P := XG.prog) (w := XG.w) rfl I1.bare (fun _ _ e => e) fun p hp => by rw [List.mem_singleton.mp hp]; exact ⟨hpin I1, hgc⟩) rfl).elim
    · obtain ⟨ys, σ1, H1, cp, hn, rfl, hap, I1, _, fin⟩ := hp
      refine wpAny_bind (wpAny_rule (wpAny_pure ?_))
      exact hF H1 _ ys ((x.ended I1).kept rfl (allBare_setGen I1.bare rfl) hk) fin
  | succ m ih =>
    intro s hg hl ⟨gs, hgs, hgo⟩
    have hgl : g < s.gens.size := (Array.getElem?_eq_some_iff.mp hgs).1
    refine codeAny_builtin F.entry_all_loop ?_
    rw [Around.under_plainId F.plain_all_loop _]
    show wpAny _ A.in1 (pyNext (.ref a) >>= _) _ _ s
    refine wpAny_bind (wpAny_gsz (n := g + 1) hgl (wpAny_pyNext_genexpQ (A := A.in1) (P := fun n s₀ s => ∃ ys σ H cp, n + ys.length = sizeLine ∧ cp = [(a, go)] ∧ (∀ p ∈ cp, XG.s_0.heap.objs.size ≤ p.1) ∧ Inv XG cp σ H s ∧ (∀ p ∈ cp, s₀.heap.get? p.1 = some p.2) ∧ Fin ys H) hh hl hd hg hgs (goes hgo) (fun v s1 gs' hb hv => ?_) (fun s1 hp h' hk => ?_)))
    · intro hsz
      obtain ⟨ys, y, σ1, H1, cp, hn, rv, rfl, hap, I1, _, hlt, b, rfl, out⟩ := hv
      cases rv
      refine wpAny_bind (wpAny_holding (wpAny_truthy_bool ?_))
      refine wpAny_bind (wpAny_letGo ?_)
      by_cases hbs : b = false
      · subst hbs
        rw [if_pos rfl] at out
        first | rw [if_pos rfl] | rw [if_neg Bool.false_ne_true]
        refine wpAny_bind (wpAny_rule (wpAny_pure ?_))
        exact hT H1 _ ((x.ended I1).kept rfl (allBare_setGen I1.bare hb) fun _ _ e => e) out
      · rw [if_neg hbs] at out
        have hbs' : b = true := by cases b <;> simp_all
        subst hbs'
        first | rw [if_pos rfl] | rw [if_neg Bool.false_ne_true]
        have hsz1 : g < s1.gens.size := by
          have q : (s1.setGen g gs').gens.size = s1.gens.size := setGen_size _ _ _
          have hsz' : g + 1 ≤ (s1.setGen g gs').gens.size := hsz
          omega
        refine wpAny_pure ⟨plainId_quiet F.plain_all_loop _, ih (s1.setGen g gs') (show (s1.setGen g gs').heap.IsGen a g from hig s1.heap (hpin I1)) (show (s1.setGen g gs').heap.NoLimit from I1.nolimit) ⟨gs', setGen_at hsz1, ?_⟩⟩
        exact out _ [(a, go)] (Sl.same (P := XG.prog) (w := XG.w) rfl (allBare_setGen (s := s1.setGen g gs') (allBare_setGen I1.bare hb) rfl) (fun _ _ e => e) fun p hp => by rw [List.mem_singleton.mp hp]; exact ⟨hpin I1, hgc⟩) rfl
    · intro hsz
      obtain ⟨ys, σ1, H1, cp, hn, rfl, hap, I1, _, fin⟩ := hp
      refine wpAny_bind (wpAny_rule (wpAny_pure ?_))
      exact hF H1 _ ys ((x.ended I1).kept rfl (allBare_setGen I1.bare rfl) hk) fin
end
theorem call_any_gen {tg elt iter : Expr} {ifs : List Expr} {scope : Scope} {own : List (Str × Nat)} {pos : Pos} {J : It} {u : Value} {s5 : Shared} {g : TG} {tt : TT} {te : TE} {k : Nat} {Fin : List V → Hp → Prop} {QT : Hp → Prop} {Q' E : Value → Shared → Prop} (hr : Room (k + 3) X.A) (hc : X.calm = true) (hN : X.N.Nodup) (h00 : (".0" : Str) ∉ X.N) (hco : scope.isCoroutine = false) (ok : BlkOk X.N X.env.scope scope own) {code : Value} (B : GBlk X k scope (own.map (·.2)) tg elt ifs g tt te code)
    (G : GenMk X pins σ tg elt iter ifs scope pos J H code u s5) (h : GTurns J g tt te (own.map (·.2)) σ (outB true QT) Fin H)
    (hT : ∀ H' s', Inv X pins σ H' s' → QT H' → Q' (.bool true) s') (hF : ∀ H' s' ys, Inv X pins σ H' s' → Fin ys H' → Q' (.bool false) s') :
    wpAny (model X.prog X.w) X.A (call (.builtin "any") [u]) Q' E s5 := by
  obtain ⟨a, n, go, c, sc, fp, rfl, I, hex, lt, sz, ig, igo, gget, gnc, gs, os, bare, lim, kp, wake⟩ := gen_wake hc hN h00 hco ok B outB_ok G h
  obtain ⟨XG, x1, x2, x3, x4, x5, x6, x7, seg⟩ := wake X.A.in1.in1 (s5.setGen n .running) (fun ys cp => cp = [(a, go)]) [(a, go)] (Room.in1 (k := k + 1) (Room.in1 (k := k + 2) hr)) I.ok.frames (fun _ _ e => e) os (allBare_setGen bare rfl) rfl (fun p hp => by
    rw [List.mem_singleton.mp hp]
    exact ⟨gget, Nat.le_refl _, gnc⟩)
  have x : XGOk X XG H sc fp := ⟨x1, x2, x3, x4, x5, x6, x7⟩
  have inv : ∀ {H' : Hp} {s' : Shared}, Ended X H sc fp H' s' → Inv X pins σ H' s' := fun e => I.call' (ch := fp) e.os e.un e.hok e.bare hex
  refine call_function_tree F.kind_any F.plain_any F.entry_any (F.args_any1 _) ?_
  unfold Builtin.«any»
  refine wpAny_bind (m := oneArg "any" _) (wpAny_pure ?_)
  refine wpAny_bind (wpAny_pyIter_gen ig ?_)
  refine wpAny_pure ⟨plainId_quiet F.plain_any_loop _, ?_⟩
  have lp := fun Res hT hF => any_loop (Fin := Fin) (QT := QT) (Res := Res) (A := X.A) (go := go) x hr.hd (by have := hr.dp; omega) igo gnc hT hF sizeLine s5 ig lim ⟨_, gs, rfl, by rw [x5, x6]; exact seg⟩
  rw [x5, x6] at lp
  exact lp _ (fun H' s' e q => hT H' s' (inv e) q) fun H' s' ys e q => hF H' s' ys (inv e) q
def tAnyG (X : Cx) (c P : Addr) (n : Nat) (wi : TI) (g : PGx) (tt : PTx) (te : PEx) (own : List Nat) : TE := fun σ H Q => wi σ H fun J H1 => (GAt X c P H1 ∧ Dn.TabN (n + 1) H1 P) ∧ ∀ H2 c' P', Grown n c' P' H1 H2 → GTurns J (g (c', P')) (tt (c', P')) (te (c', P')) own σ (outB true fun H' => Q (.bl true) H') (fun _ H' => Q (.bl false) H') H2
theorem pe_anyG {c P : Addr} {n : Nat} {elt tg iter : Expr} {ifs : List Expr} {scope : Scope} {own : List (Str × Nat)} {pos p gpos : Pos} {nm : Str} {wi : TI} {g : PGx} {tt : PTx} {te : PEx} {k : Nat}
    (hr : Room (k + 3) X.A) (hcode : X.env.code = .ref c) (hc : X.calm = true) (hN : X.N.Nodup) (h00 : (".0" : Str) ∉ X.N) (hco : scope.isCoroutine = false) (h0 : scope.names.lookup (".0" : Str) = some NameKind.local) (ok : BlkOk X.N X.env.scope scope own)
    (hi : PI X tg iter wi) (B : ∀ c' P', GBlk X k scope (own.map (·.2)) tg elt ifs (g (c', P')) (tt (c', P')) (te (c', P')) (.ref c')) (hs : ∀ v, genFold iter X.env v = pure v) (hg : Gl X nm) (hmg : X.mg nm = none) (hv : bootBuiltins nm = some (.builtin "any")) (hnm : nm ≠ "__name__" := by decide) (hdb : (nm == ("__debug__" : Str)) = false := by decide)
    (he : starEach [.GeneratorExp elt [⟨tg, iter, ifs, 0⟩] scope gpos] X.env = (false, eval (.GeneratorExp elt [⟨tg, iter, ifs, 0⟩] scope gpos) X.env) :: starEach [] X.env := by rfl) : PE X (.Call (.Name nm p) [.GeneratorExp elt [⟨tg, iter, ifs, 0⟩] scope gpos] [] pos) (tAnyG X c P n wi g tt te (own.map (·.2))) := by
  refine ⟨fun pins s σ H Q I hq => ?_⟩
  refine wpAny_Call_Name_kw (ld_blt I hg hmg hv ?_ hnm hdb)
  refine PyProof.Rows.callWith_builtin1 ?_ he rfl
  rw [he]
  show wpAny _ _ (spliced ((false, eval (.GeneratorExp elt [⟨tg, iter, ifs, 0⟩] scope gpos) X.env) :: backTo pos (starEach [] X.env))) _ _ s
  refine Calls.spliced_cons (gen_eval hr hcode hco h0 ok hi hs I hq fun J H2 c' P' u s5 q G => ?_)
  refine Calls.spliced_nil ?_
  exact call_any_gen hr hc hN h00 hco ok (B c' P') G q (fun H' s' I' q => ⟨.bl _, H', I', rfl, q⟩) fun H' s' ys I' q => ⟨.bl _, H', I', rfl, q⟩
theorem call_all_gen {tg elt iter : Expr} {ifs : List Expr} {scope : Scope} {own : List (Str × Nat)} {pos : Pos} {J : It} {u : Value} {s5 : Shared} {g : TG} {tt : TT} {te : TE} {k : Nat} {Fin : List V → Hp → Prop} {QT : Hp → Prop} {Q' E : Value → Shared → Prop} (hr : Room (k + 3) X.A) (hc : X.calm = true) (hN : X.N.Nodup) (h00 : (".0" : Str) ∉ X.N) (hco : scope.isCoroutine = false) (ok : BlkOk X.N X.env.scope scope own) {code : Value} (B : GBlk X k scope (own.map (·.2)) tg elt ifs g tt te code)
    (G : GenMk X pins σ tg elt iter ifs scope pos J H code u s5) (h : GTurns J g tt te (own.map (·.2)) σ (outB false QT) Fin H)
    (hT : ∀ H' s', Inv X pins σ H' s' → QT H' → Q' (.bool false) s') (hF : ∀ H' s' ys, Inv X pins σ H' s' → Fin ys H' → Q' (.bool true) s') :
    wpAny (model X.prog X.w) X.A (call (.builtin "all") [u]) Q' E s5 := by
  obtain ⟨a, n, go, c, sc, fp, rfl, I, hex, lt, sz, ig, igo, gget, gnc, gs, os, bare, lim, kp, wake⟩ := gen_wake hc hN h00 hco ok B outB_ok G h
  obtain ⟨XG, x1, x2, x3, x4, x5, x6, x7, seg⟩ := wake X.A.in1.in1 (s5.setGen n .running) (fun ys cp => cp = [(a, go)]) [(a, go)] (Room.in1 (k := k + 1) (Room.in1 (k := k + 2) hr)) I.ok.frames (fun _ _ e => e) os (allBare_setGen bare rfl) rfl (fun p hp => by
    rw [List.mem_singleton.mp hp]
    exact ⟨gget, Nat.le_refl _, gnc⟩)
  have x : XGOk X XG H sc fp := ⟨x1, x2, x3, x4, x5, x6, x7⟩
  have inv : ∀ {H' : Hp} {s' : Shared}, Ended X H sc fp H' s' → Inv X pins σ H' s' := fun e => I.call' (ch := fp) e.os e.un e.hok e.bare hex
  refine call_function_tree F.kind_all F.plain_all F.entry_all (F.args_all1 _) ?_
  unfold Builtin.«all»
  refine wpAny_bind (m := oneArg "all" _) (wpAny_pure ?_)
  refine wpAny_bind (wpAny_pyIter_gen ig ?_)
  refine wpAny_pure ⟨plainId_quiet F.plain_all_loop _, ?_⟩
  have lp := fun Res hT hF => all_loop (Fin := Fin) (QT := QT) (Res := Res) (A := X.A) (go := go) x hr.hd (by have := hr.dp; omega) igo gnc hT hF sizeLine s5 ig lim ⟨_, gs, rfl, by rw [x5, x6]; exact seg⟩
  rw [x5, x6] at lp
  exact lp _ (fun H' s' e q => hT H' s' (inv e) q) fun H' s' ys e q => hF H' s' ys (inv e) q
def tAllG (X : Cx) (c P : Addr) (n : Nat) (wi : TI) (g : PGx) (tt : PTx) (te : PEx) (own : List Nat) : TE := fun σ H Q => wi σ H fun J H1 => (GAt X c P H1 ∧ Dn.TabN (n + 1) H1 P) ∧ ∀ H2 c' P', Grown n c' P' H1 H2 → GTurns J (g (c', P')) (tt (c', P')) (te (c', P')) own σ (outB false fun H' => Q (.bl false) H') (fun _ H' => Q (.bl true) H') H2
theorem pe_allG {c P : Addr} {n : Nat} {elt tg iter : Expr} {ifs : List Expr} {scope : Scope} {own : List (Str × Nat)} {pos p gpos : Pos} {nm : Str} {wi : TI} {g : PGx} {tt : PTx} {te : PEx} {k : Nat}
    (hr : Room (k + 3) X.A) (hcode : X.env.code = .ref c) (hc : X.calm = true) (hN : X.N.Nodup) (h00 : (".0" : Str) ∉ X.N) (hco : scope.isCoroutine = false) (h0 : scope.names.lookup (".0" : Str) = some NameKind.local) (ok : BlkOk X.N X.env.scope scope own)
    (hi : PI X tg iter wi) (B : ∀ c' P', GBlk X k scope (own.map (·.2)) tg elt ifs (g (c', P')) (tt (c', P')) (te (c', P')) (.ref c')) (hs : ∀ v, genFold iter X.env v = pure v) (hg : Gl X nm) (hmg : X.mg nm = none) (hv : bootBuiltins nm = some (.builtin "all")) (hnm : nm ≠ "__name__" := by decide) (hdb : (nm == ("__debug__" : Str)) = false := by decide)
    (he : starEach [.GeneratorExp elt [⟨tg, iter, ifs, 0⟩] scope gpos] X.env = (false, eval (.GeneratorExp elt [⟨tg, iter, ifs, 0⟩] scope gpos) X.env) :: starEach [] X.env := by rfl) : PE X (.Call (.Name nm p) [.GeneratorExp elt [⟨tg, iter, ifs, 0⟩] scope gpos] [] pos) (tAllG X c P n wi g tt te (own.map (·.2))) := by
  refine ⟨fun pins s σ H Q I hq => ?_⟩
  refine wpAny_Call_Name_kw (ld_blt I hg hmg hv ?_ hnm hdb)
  refine PyProof.Rows.callWith_builtin1 ?_ he rfl
  rw [he]
  show wpAny _ _ (spliced ((false, eval (.GeneratorExp elt [⟨tg, iter, ifs, 0⟩] scope gpos) X.env) :: backTo pos (starEach [] X.env))) _ _ s
  refine Calls.spliced_cons (gen_eval hr hcode hco h0 ok hi hs I hq fun J H2 c' P' u s5 q G => ?_)
  refine Calls.spliced_nil ?_
  exact call_all_gen hr hc hN h00 hco ok (B c' P') G q (fun H' s' I' q => ⟨.bl _, H', I', rfl, q⟩) fun H' s' ys I' q => ⟨.bl _, H', I', rfl, q⟩
end
end L2

set_option Elab.async false
set_option linter.all false
set_option maxRecDepth 100000
set_option maxHeartbeats 2000000
/-! Gn11: sum of a generator expression. -/
namespace L2
open PySem PySem.Spec PyProof.Rows GenW
def outI : OutP := fun ys y H K => ys.length < sizeLine ∧ ∃ i, y = .int i ∧ K
theorem outI_ok : OutOk outI := ⟨fun _ _ _ _ _ f ⟨h1, i, e, h⟩ => ⟨h1, i, e, f h⟩, fun _ _ _ _ h => h.1⟩
/-- the summing's own list -/
abbrev accObj (i : Int) (t : Tok) (c : Nat) : Obj := { cls := .type "list", dict := none, data := .seq #[.int i t] c, slots := #[] }
/-- what the summing has -/
def CPs (a : Addr) (go : Obj) (S : Addr) : ConsP := fun ys cp => ∃ (ns : List Int) (acc : Int) (t : Tok) (c : Nat), ys = ns.map V.int ∧ acc = ns.sum ∧ cp = [(a, go), (S, accObj acc t c)]
theorem map_int_inj : ∀ {ns ms : List Int}, ns.map V.int = ms.map V.int → ns = ms
  | [], [], _ => rfl
  | [], _ :: _, h => by simp at h
  | _ :: _, [], h => by simp at h
  | n :: ns, m :: ms, h => by
    simp only [List.map_cons, List.cons.injEq, V.int.injEq] at h
    rw [h.1, map_int_inj h.2]
section
variable {X : Cx} {pins : List (Addr × Obj)} {σ : St} {H : Hp}
variable {XG : Cx} {Fin : List V → Hp → Prop} {sc : Shared} {ex : List Addr} {A : Around} {a S : Addr} {g : Nat} {go : Obj} {Res : Result → Shared → Prop}
theorem sum_loop (x : XGOk X XG H sc ex) (hh : A.handled = none) (hd : A.depth < recursionLimit) (haS : a ≠ S) (hcS : cStatics ≠ S) (hig : ∀ hh : Heap, hh.get? a = some go → hh.IsGen a g) (hgc : ∀ v, go.data ≠ .cell v)
    (hF : ∀ H' s' (ns : List Int) (t : Tok), Ended X H sc ex H' s' → Fin (ns.map V.int) H' → Res (.ok (.ret (.int ns.sum t))) s') :
    ∀ (m : Nat) (s : Shared) (acc : Int) (tA : Tok) (c : Nat) (st : Int), (st = 0 ∨ st = 2) → s.heap.IsGen a g → s.heap.NoLimit → s.heap.get? S = some (accObj acc tA c) →
      (∃ gs, s.gens[g]? = some gs ∧ gs.Goes (model XG.prog XG.w) A.in1.in1 (RG XG (CPs a go S) Fin) (YG XG (CPs a go S) outI) m (.send .none) (s.setGen g .running)) →
      codeAny (model XG.prog XG.w) A (.builtin "sum.loop" ⟨[.ref a, .ref S, rawInt st, rawInt 0], []⟩) Res s := by
  have goes : ∀ {gs : GenState} {B : Around} {n : Nat} {r : Resume} {s : Shared}, gs.Goes (model XG.prog XG.w) B (RG XG (CPs a go S) Fin) (YG XG (CPs a go S) outI) n r s →
      gs.Goes (model XG.prog XG.w) B (fun n s₀ r s => r = .ok .next ∧ ∃ ys σ H cp, n + ys.length = sizeLine ∧ CPs a go S ys cp ∧ (∀ p ∈ cp, XG.s_0.heap.objs.size ≤ p.1) ∧ Inv XG cp σ H s ∧ (∀ p ∈ cp, s₀.heap.get? p.1 = some p.2) ∧ Fin ys H) (YG XG (CPs a go S) outI) n r s := fun h => h
  intro m
  induction m with
  | zero =>
    intro s acc tA c st hst2 hg hl hS ⟨gs, hgs, hgo⟩
    refine codeAny_builtin F.entry_sum_loop ?_
    rw [Around.under_plainId F.plain_sum_loop _]
    show wpAny _ A.in1 (seqItems? (.ref S) >>= _) _ _ s
    refine wpAny_bind (wpAny_seqItems hS rfl ?_)
    show wpAny _ A.in1 (tryCatch (pyNext (.ref a)) _ >>= _) _ _ s
    refine wpAny_bind (wpAny_tryCatch (wpAny_pyNext_genexpQ (A := A.in1) (P := fun n s₀ s => ∃ ys σ H cp, n + ys.length = sizeLine ∧ CPs a go S ys cp ∧ (∀ p ∈ cp, XG.s_0.heap.objs.size ≤ p.1) ∧ Inv XG cp σ H s ∧ (∀ p ∈ cp, s₀.heap.get? p.1 = some p.2) ∧ Fin ys H) hh hl hd hg hgs (goes hgo) (fun v s1 gs' hb hv => ?_) (fun s1 hp h' hk => ?_)))
    · obtain ⟨ys, y, σ1, H1, cp, hn, rv, ⟨ns, ac, t, c', rfl, hac, rfl⟩, hap, I1, h0, hlt, i, rfl, out⟩ := hv
      exfalso
      have pS := I1.pin (S, accObj ac t c') (List.mem_append_right _ (by simp))
      have pa := I1.pin (a, go) (List.mem_append_right _ (by simp))
      obtain ⟨c3, e3⟩ : ∃ c3, (s1.heap.update S (Obj.mapSeq fun _ => #[.int (ac + i) t])).get? S = some (accObj (ac + i) t c3) := ⟨_, Heap.get?_update_self (Obj.mapSeq fun _ => #[Value.int (ac + i) t]) pS.1 rfl⟩
      refine out { s1 with heap := s1.heap.update S (Obj.mapSeq fun _ => #[.int (ac + i) t]) } [(a, go), (S, accObj (ac + i) t c3)] ⟨rfl, I1.bare, fun b o hb e => ?_, rfl, fun p hp => ?_⟩ ⟨ns ++ [i], ac + i, t, c3, by simp, by simp [hac], rfl⟩
      · exact (Heap.get?_update_other _ _ (Ne.symm (hb _ (by simp : (S, accObj ac t c') ∈ [(a, go), (S, accObj ac t c')])))).trans e
      · rcases List.mem_cons.mp hp with rfl | hp
        · exact ⟨(Heap.get?_update_other _ _ (Ne.symm haS)).trans pa.1, hgc⟩
        · obtain rfl := List.mem_singleton.mp hp
          exact ⟨e3, fun v q => by cases q⟩
    · obtain ⟨ys, σ1, H1, cp, hn, ⟨ns, ac, t, c', rfl, hac, rfl⟩, hap, I1, h0, fin⟩ := hp
      have e0 : s.heap.get? S = some (accObj ac t c') := h0 (S, accObj ac t c') (by simp)
      rw [hS] at e0
      cases e0
      subst hac
      exact wpAny_pure (hF H1 _ ns tA ((x.ended I1).kept rfl (allBare_setGen I1.bare rfl) hk) fin)
  | succ m ih =>
    intro s acc tA c st hst2 hg hl hS ⟨gs, hgs, hgo⟩
    have hgl : g < s.gens.size := (Array.getElem?_eq_some_iff.mp hgs).1
    refine codeAny_builtin F.entry_sum_loop ?_
    rw [Around.under_plainId F.plain_sum_loop _]
    show wpAny _ A.in1 (seqItems? (.ref S) >>= _) _ _ s
    refine wpAny_bind (wpAny_seqItems hS rfl ?_)
    show wpAny _ A.in1 (tryCatch (pyNext (.ref a)) _ >>= _) _ _ s
    refine wpAny_bind (wpAny_tryCatch (wpAny_gsz (n := g + 1) hgl (wpAny_pyNext_genexpQ (A := A.in1) (P := fun n s₀ s => ∃ ys σ H cp, n + ys.length = sizeLine ∧ CPs a go S ys cp ∧ (∀ p ∈ cp, XG.s_0.heap.objs.size ≤ p.1) ∧ Inv XG cp σ H s ∧ (∀ p ∈ cp, s₀.heap.get? p.1 = some p.2) ∧ Fin ys H) hh hl hd hg hgs (goes hgo) (fun v s1 gs' hb hv => ?_) (fun s1 hp h' hk => ?_))))
    · intro hsz
      obtain ⟨ys, y, σ1, H1, cp, hn, rv, ⟨ns, ac, t, c', rfl, hac, rfl⟩, hap, I1, h0, hlt, i, rfl, out⟩ := hv
      have e0 : s.heap.get? S = some (accObj ac t c') := h0 (S, accObj ac t c') (by simp)
      rw [hS] at e0
      cases e0
      have pS := I1.pin (S, accObj acc tA c) (List.mem_append_right _ (by simp))
      have pa := I1.pin (a, go) (List.mem_append_right _ (by simp))
      obtain ⟨tv, rfl⟩ : ∃ tv, v = .int i tv := rv
      have hsz1 : g < s1.gens.size := by
        have q : (s1.setGen g gs').gens.size = s1.gens.size := setGen_size _ _ _
        have hsz' : g + 1 ≤ (s1.setGen g gs').gens.size := hsz
        omega
      have next : ∀ (h3 : Heap) (tk : Nat) (t3 : Tok) (c3 : Nat) (st : Int), (st = 0 ∨ st = 2) → (∀ b o, b ≠ S → s1.heap.get? b = some o → h3.get? b = some o) → h3.get? S = some (accObj (acc + i) t3 c3) →
          codeAny (model XG.prog XG.w) A (.builtin "sum.loop" ⟨[.ref a, .ref S, rawInt st, rawInt 0], []⟩) Res { s1.setGen g gs' with heap := h3, toks := tk } := fun h3 tk t3 c3 st hst k3 e3 => by
        refine ih { s1.setGen g gs' with heap := h3, toks := tk } (acc + i) t3 c3 st hst (hig _ (k3 a go haS pa.1)) ?_ e3 ⟨gs', setGen_at hsz1, ?_⟩
        · obtain ⟨mc, hns, hnn⟩ := I1.nolimit
          exact ⟨mc, hns.at' fun o e => k3 _ o hcS e, hnn⟩
        · refine out _ [(a, go), (S, accObj (acc + i) t3 c3)] ⟨rfl, allBare_setGen (s := { s1.setGen g gs' with heap := h3, toks := tk }) (allBare_setGen I1.bare hb) rfl, fun b o hb e => k3 b o (hb _ (by simp : (S, accObj acc tA c) ∈ [(a, go), (S, accObj acc tA c)])) e, rfl, fun p hp => ?_⟩ ⟨ns ++ [i], acc + i, t3, c3, by simp, by simp [hac], rfl⟩
          rcases List.mem_cons.mp hp with rfl | hp
          · exact ⟨k3 _ _ haS pa.1, hgc⟩
          · obtain rfl := List.mem_singleton.mp hp
            exact ⟨e3, fun v q => by cases q⟩
      have oth : ∀ (h : Heap) (f : Obj → Obj) b o, b ≠ S → h.get? b = some o → (h.update S f).get? b = some o := fun h f b o hb e => (Heap.get?_update_other _ _ (Ne.symm hb)).trans e
      have hS' : (s1.setGen g gs').heap.get? S = some (accObj acc tA c) := pS.1
      rcases hst2 with rfl | rfl
      · show wpAny _ A.in1 (if (_ : Bool) = true then (mkInt (acc + i) >>= _) else _) _ _ _
        split
        · refine wpAny_bind (wpAny_mkInt ?_)
          show wpAny _ A.in1 (updateSeq S (fun _ => #[.int (acc + i) s1.toks]) >>= _) _ _ _
          refine wpAny_bind ?_
          refine wpAny_updateSeq hS' rfl (wpAny_pure ⟨plainId_quiet F.plain_sum_loop _, next _ _ s1.toks _ 0 (.inl rfl) (oth _ _) (Heap.get?_update_self _ hS' rfl)⟩)
        · refine wpAny_bind (wpAny_rule ?_)
          refine wpAny_bind (wpAny_attempt (wpAny_holding (wpAny_add_int ?_)))
          show wpAny _ A.in1 (updateSeq S (fun _ => #[.int (acc + i) s1.toks]) >>= _) _ _ _
          refine wpAny_bind (wpAny_updateSeq hS' rfl ?_)
          have hS₂ := Heap.get?_update_self (Obj.mapSeq fun _ => #[Value.int (acc + i) s1.toks]) hS' rfl
          refine wpAny_bind (wpAny_letGo ?_)
          refine wpAny_bind (wpAny_updateSeq hS₂ rfl (wpAny_pure ⟨plainId_quiet F.plain_sum_loop _, next _ _ s1.toks _ 2 (.inr rfl) (fun b o hb e => oth _ _ b o hb (oth _ _ b o hb e)) (Heap.get?_update_self _ hS₂ rfl)⟩))
      · show wpAny _ A.in1 ((holding [Value.int i tv] (binaryOp .Add (.int acc tA) (.int i tv))).attempt >>= _) _ _ _
        refine wpAny_bind (wpAny_attempt (wpAny_holding (wpAny_add_int ?_)))
        show wpAny _ A.in1 (updateSeq S (fun _ => #[.int (acc + i) s1.toks]) >>= _) _ _ _
        refine wpAny_bind (wpAny_updateSeq hS' rfl ?_)
        have hS₂ := Heap.get?_update_self (Obj.mapSeq fun _ => #[Value.int (acc + i) s1.toks]) hS' rfl
        refine wpAny_bind (wpAny_letGo ?_)
        refine wpAny_bind (wpAny_updateSeq hS₂ rfl (wpAny_pure ⟨plainId_quiet F.plain_sum_loop _, next _ _ s1.toks _ 2 (.inr rfl) (fun b o hb e => oth _ _ b o hb (oth _ _ b o hb e)) (Heap.get?_update_self _ hS₂ rfl)⟩))
    · intro hsz
      obtain ⟨ys, σ1, H1, cp, hn, ⟨ns, ac, t, c', rfl, hac, rfl⟩, hap, I1, h0, fin⟩ := hp
      have e0 : s.heap.get? S = some (accObj ac t c') := h0 (S, accObj ac t c') (by simp)
      rw [hS] at e0
      cases e0
      subst hac
      exact wpAny_pure (hF H1 _ ns tA ((x.ended I1).kept rfl (allBare_setGen I1.bare rfl) hk) fin)
theorem call_sum_gen {pins : List (Addr × Obj)} {σ : St} {tg elt iter : Expr} {ifs : List Expr} {scope : Scope} {own : List (Str × Nat)} {pos : Pos} {J : It} {u : Value} {s5 : Shared} {g : TG} {tt : TT} {te : TE} {k : Nat} {Fin : List V → Hp → Prop} {Q' E : Value → Shared → Prop} (hr : Room (k + 3) X.A) (hc : X.calm = true) (hN : X.N.Nodup) (h00 : (".0" : Str) ∉ X.N) (hco : scope.isCoroutine = false) (ok : BlkOk X.N X.env.scope scope own) {code : Value} (B : GBlk X k scope (own.map (·.2)) tg elt ifs g tt te code)
    (G : GenMk X pins σ tg elt iter ifs scope pos J H code u s5) (h : GTurns J g tt te (own.map (·.2)) σ outI Fin H)
    (hF : ∀ H' s' (ns : List Int) (t : Tok), Inv X pins σ H' s' → Fin (ns.map V.int) H' → Q' (.int ns.sum t) s') :
    wpAny (model X.prog X.w) X.A (call (.builtin "sum") [u]) Q' E s5 := by
  obtain ⟨a, n, go, c, sc, fp, rfl, I, hex, lt, sz, ig, igo, gget, gnc, gs, os, bare, lim, kp, wake⟩ := gen_wake hc hN h00 hco ok B outI_ok G h
  have hcl : cStatics < s5.heap.objs.size := let ⟨_, hn, _⟩ := lim; hn.lt
  refine call_function_tree F.kind_sum F.plain_sum F.entry_sum (F.args_sum1 _) ?_
  unfold Builtin.«sum»
  simp only [List.length_cons, List.length_nil]
  rw [if_neg (by decide)]
  refine wpAny_bind (wpAny_of_eq (show Builtin.Builtins.bindParams "sum" ["start"] 0 { } = pure [none] from rfl) ?_)
  refine wpAny_bind (wpAny_pyIter_gen ig ?_)
  refine wpAny_bind (wpAny_mkInt ?_)
  refine wpAny_bind (wpAny_pure ?_)
  simp only [List.forIn_cons, List.forIn_nil]
  refine wpAny_bind (wpAny_bind (wpAny_bind (wpAny_isInstance (T := "int") (b := false) (typeIs_int _ _ _) PySem.sub_int_str ?_)))
  simp only [Bool.false_eq_true, if_false]
  refine wpAny_pure (wpAny_bind (wpAny_bind (wpAny_isInstance (T := "int") (b := false) (typeIs_int _ _ _) PySem.sub_int_bytes ?_)))
  simp only [Bool.false_eq_true, if_false]
  refine wpAny_pure (wpAny_bind (wpAny_bind (wpAny_isInstance (T := "int") (b := false) (typeIs_int _ _ _) PySem.sub_int_bytearray ?_)))
  simp only [Bool.false_eq_true, if_false]
  refine wpAny_pure (wpAny_pure ?_)
  refine wpAny_bind (wpAny_newObj_type ?_)
  refine wpAny_pure ⟨plainId_quiet F.plain_sum_loop _, ?_⟩
  have kp6 : ∀ b o, s5.heap.get? b = some o → (s5.heap.push { cls := .type "list", data := .seq #[Value.int 0 s5.toks] }).get? b = some o := fun b o e => Heap.get?_push_of_some _ e
  have hS : (s5.heap.push { cls := .type "list", data := .seq #[Value.int 0 s5.toks] }).get? s5.heap.objs.size = some (accObj 0 s5.toks 0) := Heap.get?_push_size _ rfl
  have haS : a ≠ s5.heap.objs.size := by rw [sz]; exact Nat.ne_of_lt (Nat.lt_succ_self _)
  obtain ⟨XG, x1, x2, x3, x4, x5, x6, x7, seg⟩ := wake X.A.in1.in1 ({ s5 with heap := s5.heap.push { cls := .type "list", data := .seq #[Value.int 0 s5.toks] }, toks := s5.toks + 1 }.setGen n .running) (CPs a go s5.heap.objs.size) [(a, go), (s5.heap.objs.size, accObj 0 s5.toks 0)] (Room.in1 (k := k + 1) (Room.in1 (k := k + 2) hr)) I.ok.frames kp6 os (allBare_setGen (s := { s5 with heap := s5.heap.push { cls := .type "list", data := .seq #[Value.int 0 s5.toks] }, toks := s5.toks + 1 }) bare rfl) ⟨[], 0, s5.toks, 0, rfl, rfl, rfl⟩ (fun p hp => by
    rcases List.mem_cons.mp hp with rfl | hp
    · exact ⟨kp6 _ _ gget, Nat.le_refl _, gnc⟩
    · obtain rfl := List.mem_singleton.mp hp
      exact ⟨hS, by rw [sz]; exact Nat.le_succ _, fun v q => by cases q⟩)
  have x : XGOk X XG H sc fp := ⟨x1, x2, x3, x4, x5, x6, x7⟩
  have inv : ∀ {H' : Hp} {s' : Shared}, Ended X H sc fp H' s' → Inv X pins σ H' s' := fun e => I.call' (ch := fp) e.os e.un e.hok e.bare hex
  have lp := fun Res hF => sum_loop (Fin := Fin) (Res := Res) (A := X.A) (go := go) (S := s5.heap.objs.size) x hr.hd (by have := hr.dp; omega) haS (Nat.ne_of_lt hcl) igo gnc hF sizeLine { s5 with heap := s5.heap.push { cls := .type "list", data := .seq #[Value.int 0 s5.toks] }, toks := s5.toks + 1 } 0 s5.toks 0 0 (.inl rfl) (ig.keeps kp6) (lim.keeps kp6) hS ⟨_, gs, rfl, by rw [x5, x6]; exact seg⟩
  rw [x5, x6] at lp
  exact lp _ fun H' s' ns t e q => hF H' s' ns t (inv e) q
def tSumG (X : Cx) (c P : Addr) (n : Nat) (wi : TI) (g : PGx) (tt : PTx) (te : PEx) (own : List Nat) : TE := fun σ H Q => wi σ H fun J H1 => (GAt X c P H1 ∧ Dn.TabN (n + 1) H1 P) ∧ ∀ H2 c' P', Grown n c' P' H1 H2 → GTurns J (g (c', P')) (tt (c', P')) (te (c', P')) own σ outI (fun ys H' => ∀ ns : List Int, ys = ns.map V.int → Q (.int ns.sum) H') H2
theorem pe_sumG {c P : Addr} {n : Nat} {elt tg iter : Expr} {ifs : List Expr} {scope : Scope} {own : List (Str × Nat)} {pos p gpos : Pos} {nm : Str} {wi : TI} {g : PGx} {tt : PTx} {te : PEx} {k : Nat}
    (hr : Room (k + 3) X.A) (hcode : X.env.code = .ref c) (hc : X.calm = true) (hN : X.N.Nodup) (h00 : (".0" : Str) ∉ X.N) (hco : scope.isCoroutine = false) (h0 : scope.names.lookup (".0" : Str) = some NameKind.local) (ok : BlkOk X.N X.env.scope scope own)
    (hi : PI X tg iter wi) (B : ∀ c' P', GBlk X k scope (own.map (·.2)) tg elt ifs (g (c', P')) (tt (c', P')) (te (c', P')) (.ref c')) (hs : ∀ v, genFold iter X.env v = pure v) (hg : Gl X nm) (hmg : X.mg nm = none) (hv : bootBuiltins nm = some (.builtin "sum")) (hnm : nm ≠ "__name__" := by decide) (hdb : (nm == ("__debug__" : Str)) = false := by decide)
    (he : starEach [.GeneratorExp elt [⟨tg, iter, ifs, 0⟩] scope gpos] X.env = (false, eval (.GeneratorExp elt [⟨tg, iter, ifs, 0⟩] scope gpos) X.env) :: starEach [] X.env := by rfl) : PE X (.Call (.Name nm p) [.GeneratorExp elt [⟨tg, iter, ifs, 0⟩] scope gpos] [] pos) (tSumG X c P n wi g tt te (own.map (·.2))) := by
  refine ⟨fun pins s σ H Q I hq => ?_⟩
  refine wpAny_Call_Name_kw (ld_blt I hg hmg hv ?_ hnm hdb)
  refine PyProof.Rows.callWith_builtin1 ?_ he rfl
  rw [he]
  show wpAny _ _ (spliced ((false, eval (.GeneratorExp elt [⟨tg, iter, ifs, 0⟩] scope gpos) X.env) :: backTo pos (starEach [] X.env))) _ _ s
  refine Calls.spliced_cons (gen_eval hr hcode hco h0 ok hi hs I hq fun J H2 c' P' u s5 q G => ?_)
  refine Calls.spliced_nil ?_
  exact call_sum_gen hr hc hN h00 hco ok (B c' P') G q fun H' s' ns t I' q => ⟨.int ns.sum, H', I', ⟨t, rfl⟩, q ns rfl⟩
end
end L2

set_option Elab.async false
set_option linter.all false
set_option maxRecDepth 100000
set_option maxHeartbeats 2000000
/-! Gn12: any, all, sum of a generator expression by values. -/
namespace Dn
open PySem PySem.Spec PyProof.Rows L2
/-- the test, item by item: stop: what ends it -/
def TestD (stop : Bool) (g : GD) (q : QD) (e : ED) (vs : List Nat) (Q : D → DS → Prop) (its : List D) (ds : DS) : Prop := its.length ≤ sizeLine ∧ ∃ Pv : Nat → DS → Prop, Pv 0 ds ∧
  (∀ i d ds, its[i]? = some d → Pv i ds → g d ds fun ds1 => q ds1 fun b ds2 => if b = true then e ds2 fun y ds3 => ∃ t, y = .t (.bl t) ∧ if t = stop then Q (.t (.bl stop)) (dwipe ds3 vs) else Pv (i + 1) (dwipe ds3 vs) else Pv (i + 1) (dwipe ds2 vs)) ∧
  ∀ ds, Pv its.length ds → Q (.t (.bl (!stop))) ds
def dTestG (stop : Bool) (vs : List Nat) (i : ID) (g : GD) (q : QD) (e : ED) : ED := fun ds Q => i ds fun its ds1 => TestD stop g q e vs Q its (dwipe ds1 vs)
def SumD (g : GD) (q : QD) (e : ED) (vs : List Nat) (Q : D → DS → Prop) (its : List D) (ds : DS) : Prop := its.length ≤ sizeLine ∧ ∃ Pv : Nat → List Int → DS → Prop, Pv 0 [] ds ∧
  (∀ i d acc ds, its[i]? = some d → Pv i acc ds → g d ds fun ds1 => q ds1 fun b ds2 => if b = true then e ds2 fun y ds3 => ∃ n, y = .t (.int n) ∧ Pv (i + 1) (acc ++ [n]) (dwipe ds3 vs) else Pv (i + 1) acc (dwipe ds2 vs)) ∧
  ∀ acc ds, Pv its.length acc ds → Q (.t (.int acc.sum)) ds
def dSumG (vs : List Nat) (i : ID) (g : GD) (q : QD) (e : ED) : ED := fun ds Q => i ds fun its ds1 => SumD g q e vs Q its (dwipe ds1 vs)
theorem test_run {X : Cx} {stop : Bool} {K : PySem.W.Frag} {C : FC} {c P : Addr} {n : Nat} {vs ws : List Nat} {i : ID} {g : GD} {q : QD} {e : ED} (hP : GCode X C c P n) (hw : ∀ w ∈ ws, w ∈ vs) {σ : L2.St} {H : Hp} {Q : VK} (h : LE K C false (dTestG stop vs i g q e) σ H Q) :
    LI K C false i σ H fun J H1 => (GAt X c P H1 ∧ TabN (n + 1) H1 P) ∧ ∀ H2 c' P', Grown n c' P' H1 H2 → GTurns J (LG K (C.gb n (c', P')) ws g) (LT K (C.gb n (c', P')) false q) (LE K (C.gb n (c', P')) false e) vs σ (outB stop fun H' => Q (.bl stop) H') (fun _ H' => Q (.bl (!stop)) H') H2 := by
  obtain ⟨B, ds, ts, P0, r, nv, t, qq⟩ := h
  have nv := nv rfl
  refine ⟨B, ds, ts, _, r, fun _ => nv, t, fun its ds1 ⟨hsz, Pd, z0, zs, zd⟩ H1 B1 J kb1 r1 ok => ⟨hP.tb r1.tb, fun H2 c' P' hT => ?_⟩⟩
  have r1' := r1.grewT hT.2.2.1 hT.2.2.2
  have rb := (r1'.block nv vs).toG (n := n) (x := (c', P')) ⟨hT.1, hT.2.1⟩
  have nn : nonm (strip ts) := nonm_strip ts
  have out : ∀ {B2 : Hp} {ds2 : DS} {H2 : Hp} {b : Bool}, Same B1 B2 → RS K (C.gb n (c', P')) B2 (wipe σ vs) H2 ds2 (strip ts) → (∀ i x, ds2[i]? = some (some x) → i ∉ vs) → P0 (.t (.bl b)) ds2 → Q (.bl b) H2 := fun {B2 ds2 H2 b} kb2 r2 hv2 z =>
    qq _ _ z _ _ B2 (kb1.trans kb2) (r1.unblock nv kb2 (r2.ofG.push (Same.refl _) (Fresh.t (x := .bl b) rfl)) hv2)
  let Pv : Nat → List V → Hp → Prop := fun i ys H => i ≤ its.length ∧ ys.length ≤ i ∧ ∃ B2 ds2, Same B1 B2 ∧ RS K (C.gb n (c', P')) B2 (wipe σ vs) H ds2 (strip ts) ∧ (∀ i x, ds2[i]? = some (some x) → i ∉ vs) ∧ Pd i ds2
  refine ⟨fun i m ys H => m = its.length - i ∧ Pv i ys H, ⟨its.length, by simp, Nat.zero_le _, Nat.le_refl _, B1, _, Same.refl _, rb, fun i x e => (dwipe_some e).2, z0⟩, ?_⟩
  rintro i m ys H2 ⟨rfl, hi, hly, B2, ds2, kb2, r2, hv2, z2⟩
  by_cases hlt : i < its.length
  · refine .inr ⟨(ok.mono kb2).goes i H2 hlt r2.bh, Pv (i + 1), fun ys' H' p' => ⟨its.length - (i + 1), by omega, rfl, p'⟩, fun x H' y => ?_⟩
    obtain ⟨d, ed, k1, f⟩ := (ok.mono kb2).yields i H2 x H' hlt r2.bh y
    obtain ⟨w, c⟩ := f B2 (Same.refl _) r2.bh
    refine ⟨B2, ds2, _, d, _, r2.push k1 (Fresh.cp w c), nn, zs i d ds2 ed z2, fun ds3 z3 σ3 H3 B3 kb3 ho r3 => ?_⟩
    have hw3 : wipe σ3 vs = wipe σ vs := wipe_agree ⟨ho.1, fun j hj => ho.2 j fun m => hj (hw j m)⟩
    refine ⟨hw3, B3, ds3, _, _, r3, fun _ => nonm_vw nn, z3, fun b ds4 z4 H4 B4 kb4 r4 => ?_⟩
    cases b with
    | true =>
      rw [if_pos rfl] at z4 ⊢
      refine ⟨B4, ds4, _, _, r4, fun _ => nonm_vw nn, z4, fun y ds5 ⟨t, et, z5⟩ v5 H5 B5 kb5 r5 => ?_⟩
      subst et
      have ev : v5 = .bl t := r5.see0 (d := .t (.bl t)) rfl
      subst ev
      have r6 := (r5.drop).wipedG nn hw3
      have kb6 := ((kb2.trans kb3).trans kb4).trans kb5
      refine ⟨by omega, t, rfl, ?_⟩
      by_cases hts : t = stop
      · rw [if_pos hts] at z5 ⊢
        exact out kb6 r6 (fun i x e => (dwipe_some e).2) z5
      · rw [if_neg hts] at z5 ⊢
        exact ⟨hlt, by simp; omega, B5, dwipe ds5 vs, kb6, r6, fun i x e => (dwipe_some e).2, z5⟩
    | false =>
      rw [if_neg Bool.false_ne_true] at z4 ⊢
      exact ⟨hlt, by omega, B4, dwipe ds4 vs, ((kb2.trans kb3).trans kb4), r4.wipedG nn hw3, fun i x e => (dwipe_some e).2, z4⟩
  · have e : i = its.length := by omega
    subst e
    exact .inl ⟨(ok.mono kb2).stops H2 r2.bh, out kb2 r2 hv2 (zd _ z2)⟩
theorem sum_run {X : Cx} {K : PySem.W.Frag} {C : FC} {c P : Addr} {n : Nat} {vs ws : List Nat} {i : ID} {g : GD} {q : QD} {e : ED} (hP : GCode X C c P n) (hw : ∀ w ∈ ws, w ∈ vs) {σ : L2.St} {H : Hp} {Q : VK} (h : LE K C false (dSumG vs i g q e) σ H Q) :
    tSumG X c P n (LI K C false i) (fun x => LG K (C.gb n x) ws g) (fun x => LT K (C.gb n x) false q) (fun x => LE K (C.gb n x) false e) vs σ H Q := by
  obtain ⟨B, ds, ts, P0, r, nv, t, qq⟩ := h
  have nv := nv rfl
  refine ⟨B, ds, ts, _, r, fun _ => nv, t, fun its ds1 ⟨hsz, Pd, z0, zs, zd⟩ H1 B1 J kb1 r1 ok => ⟨hP.tb r1.tb, fun H2 c' P' hT => ?_⟩⟩
  have r1' := r1.grewT hT.2.2.1 hT.2.2.2
  have rb := (r1'.block nv vs).toG (n := n) (x := (c', P')) ⟨hT.1, hT.2.1⟩
  have nn : nonm (strip ts) := nonm_strip ts
  let Pv : Nat → List V → Hp → Prop := fun i ys H => i ≤ its.length ∧ ys.length ≤ i ∧ ∃ B2 ds2 acc, ys = acc.map V.int ∧ Same B1 B2 ∧ RS K (C.gb n (c', P')) B2 (wipe σ vs) H ds2 (strip ts) ∧ (∀ i x, ds2[i]? = some (some x) → i ∉ vs) ∧ Pd i acc ds2
  refine ⟨fun i m ys H => m = its.length - i ∧ Pv i ys H, ⟨its.length, by simp, Nat.zero_le _, Nat.le_refl _, B1, _, [], rfl, Same.refl _, rb, fun i x e => (dwipe_some e).2, z0⟩, ?_⟩
  rintro i m ys H2 ⟨rfl, hi, hly, B2, ds2, acc, rfl, kb2, r2, hv2, z2⟩
  by_cases hlt : i < its.length
  · refine .inr ⟨(ok.mono kb2).goes i H2 hlt r2.bh, Pv (i + 1), fun ys' H' p' => ⟨its.length - (i + 1), by omega, rfl, p'⟩, fun x H' y => ?_⟩
    obtain ⟨d, ed, k1, f⟩ := (ok.mono kb2).yields i H2 x H' hlt r2.bh y
    obtain ⟨w, c⟩ := f B2 (Same.refl _) r2.bh
    refine ⟨B2, ds2, _, d, _, r2.push k1 (Fresh.cp w c), nn, zs i d acc ds2 ed z2, fun ds3 z3 σ3 H3 B3 kb3 ho r3 => ?_⟩
    have hw3 : wipe σ3 vs = wipe σ vs := wipe_agree ⟨ho.1, fun j hj => ho.2 j fun m => hj (hw j m)⟩
    refine ⟨hw3, B3, ds3, _, _, r3, fun _ => nonm_vw nn, z3, fun b ds4 z4 H4 B4 kb4 r4 => ?_⟩
    cases b with
    | true =>
      rw [if_pos rfl] at z4 ⊢
      refine ⟨B4, ds4, _, _, r4, fun _ => nonm_vw nn, z4, fun y ds5 ⟨n, et, z5⟩ v5 H5 B5 kb5 r5 => ?_⟩
      subst et
      have ev : v5 = .int n := r5.see0 (d := .t (.int n)) rfl
      subst ev
      have r6 := (r5.drop).wipedG nn hw3
      have kb6 := ((kb2.trans kb3).trans kb4).trans kb5
      exact ⟨by simp at hly ⊢; omega, n, rfl, hlt, by simp at hly ⊢; omega, B5, dwipe ds5 vs, acc ++ [n], by simp, kb6, r6, fun i x e => (dwipe_some e).2, z5⟩
    | false =>
      rw [if_neg Bool.false_ne_true] at z4 ⊢
      exact ⟨hlt, by omega, B4, dwipe ds4 vs, acc, rfl, ((kb2.trans kb3).trans kb4), r4.wipedG nn hw3, fun i x e => (dwipe_some e).2, z4⟩
  · have e : i = its.length := by omega
    subst e
    refine .inl ⟨(ok.mono kb2).stops H2 r2.bh, fun ns ens => ?_⟩
    have := map_int_inj ens
    subst this
    exact qq _ _ (zd _ _ z2) _ _ B2 (kb1.trans kb2) (r1.unblock nv kb2 (r2.ofG.push (Same.refl _) (Fresh.t (x := .int acc.sum) rfl)) hv2)
section
variable {X : Cx} {C : FC} {pp gpos pos : Pos} {elt tg iter : Expr} {ifs : List Expr} {scope : Scope} {own : List (Str × Nat)} {i : ID} {g : GD} {q : QD} {t : ED} {c P : Addr} {n k : Nat}
theorem b_anyG (hm : X.mg "any" = none) (hr : Room (k + 6) X.A) (G : GCode X C c P n) (hc : X.calm = true) (hN : X.N.Nodup) (S : GSc X.N X.env.scope scope own) (hi : PI X tg iter (LI X.K C false i)) (B : GBlkD X C n k scope (own.map (·.2)) tg elt ifs g q t)
    (hs : ∀ v, genFold iter X.env v = pure v := by intro _; rfl) (hg : Gl X "any" := by rfl)
    (he : starEach [.GeneratorExp elt [⟨tg, iter, ifs, 0⟩] scope gpos] X.env = (false, eval (.GeneratorExp elt [⟨tg, iter, ifs, 0⟩] scope gpos) X.env) :: starEach [] X.env := by rfl) :
    PE X (.Call (.Name "any" pp) [.GeneratorExp elt [⟨tg, iter, ifs, 0⟩] scope gpos] [] pos) (LE X.K C false (dTestG true (own.map (·.2)) i g q t)) := by
  obtain ⟨ws, hw, ht⟩ := B.tg
  exact (pe_anyG (hr.mono (by omega)) G.code hc hN S.h00 S.co S.h0 S.blk hi (g := fun x => LG X.K (C.gb n x) ws g) (tt := fun x => LT X.K (C.gb n x) false q) (te := fun x => LE X.K (C.gb n x) false t) (fun c' P' => ⟨ht (c', P'), B.ifs (c', P'), B.elt (c', P')⟩) hs hg hm PyProof.Rows.boot_any (he := he)).imp fun _ _ _ h => test_run G hw h
theorem b_allG (hm : X.mg "all" = none) (hr : Room (k + 6) X.A) (G : GCode X C c P n) (hc : X.calm = true) (hN : X.N.Nodup) (S : GSc X.N X.env.scope scope own) (hi : PI X tg iter (LI X.K C false i)) (B : GBlkD X C n k scope (own.map (·.2)) tg elt ifs g q t)
    (hs : ∀ v, genFold iter X.env v = pure v := by intro _; rfl) (hg : Gl X "all" := by rfl)
    (he : starEach [.GeneratorExp elt [⟨tg, iter, ifs, 0⟩] scope gpos] X.env = (false, eval (.GeneratorExp elt [⟨tg, iter, ifs, 0⟩] scope gpos) X.env) :: starEach [] X.env := by rfl) :
    PE X (.Call (.Name "all" pp) [.GeneratorExp elt [⟨tg, iter, ifs, 0⟩] scope gpos] [] pos) (LE X.K C false (dTestG false (own.map (·.2)) i g q t)) := by
  obtain ⟨ws, hw, ht⟩ := B.tg
  exact (pe_allG (hr.mono (by omega)) G.code hc hN S.h00 S.co S.h0 S.blk hi (g := fun x => LG X.K (C.gb n x) ws g) (tt := fun x => LT X.K (C.gb n x) false q) (te := fun x => LE X.K (C.gb n x) false t) (fun c' P' => ⟨ht (c', P'), B.ifs (c', P'), B.elt (c', P')⟩) hs hg hm PyProof.Rows.boot_all (he := he)).imp fun _ _ _ h => test_run G hw h
theorem b_sumG (hm : X.mg "sum" = none) (hr : Room (k + 6) X.A) (G : GCode X C c P n) (hc : X.calm = true) (hN : X.N.Nodup) (S : GSc X.N X.env.scope scope own) (hi : PI X tg iter (LI X.K C false i)) (B : GBlkD X C n k scope (own.map (·.2)) tg elt ifs g q t)
    (hs : ∀ v, genFold iter X.env v = pure v := by intro _; rfl) (hg : Gl X "sum" := by rfl)
    (he : starEach [.GeneratorExp elt [⟨tg, iter, ifs, 0⟩] scope gpos] X.env = (false, eval (.GeneratorExp elt [⟨tg, iter, ifs, 0⟩] scope gpos) X.env) :: starEach [] X.env := by rfl) :
    PE X (.Call (.Name "sum" pp) [.GeneratorExp elt [⟨tg, iter, ifs, 0⟩] scope gpos] [] pos) (LE X.K C false (dSumG (own.map (·.2)) i g q t)) := by
  obtain ⟨ws, hw, ht⟩ := B.tg
  exact (pe_sumG (hr.mono (by omega)) G.code hc hN S.h00 S.co S.h0 S.blk hi (g := fun x => LG X.K (C.gb n x) ws g) (tt := fun x => LT X.K (C.gb n x) false q) (te := fun x => LE X.K (C.gb n x) false t) (fun c' P' => ⟨ht (c', P'), B.ifs (c', P'), B.elt (c', P')⟩) hs hg hm PyProof.Rows.boot_sum (he := he)).imp fun _ _ _ h => sum_run G hw h
end
/-! for proofs -/
section
variable {E : DE} {ds : DS} {t : ED} {Q : D → DS → Prop} {q : QD} {stop : Bool} {vs : List Nat} {i : ID} {g : GD}
@[simp ↓] theorem x_dTestG : dTestG stop vs i g q t ds Q = i ds fun its ds1 => TestD stop g q t vs Q its (dwipe ds1 vs) := rfl
@[simp ↓] theorem x_dSumG : dSumG vs i g q t ds Q = i ds fun its ds1 => SumD g q t vs Q its (dwipe ds1 vs) := rfl
end
section
variable {α : Type} {g : GD} {q : QD} {e : ED} {vs : List Nat} {Q : D → DS → Prop} {ds0 : DS} {tD : α → D}
/-- any(f x for x in xs if keep x), nothing else changed -/
theorem test_any (xs : List α) (keep f : α → Bool) (h : ∀ x, x ∈ xs → ∀ (Z : D → DS → Prop) (W : DS → Prop), (keep x = true → ∀ ds3, dwipe ds3 vs = ds0 → Z (.t (.bl (f x))) ds3) → (keep x = false → ∀ ds2, dwipe ds2 vs = ds0 → W ds2) → g (tD x) ds0 fun ds1 => q ds1 fun b ds2 => if b = true then e ds2 Z else W ds2)
    (hl : xs.length ≤ sizeLine) (hQ : Q (.t (.bl (xs.any fun x => keep x && f x))) ds0) : TestD true g q e vs Q (xs.map tD) ds0 := by
  refine ⟨by rw [List.length_map]; exact hl, fun i ds => ds = ds0 ∧ (xs.take i).any (fun x => keep x && f x) = false, ⟨rfl, by simp⟩, ?_, ?_⟩
  · rintro i d ds hd ⟨rfl, ha⟩
    rw [List.getElem?_map] at hd
    cases ex : xs[i]? with
    | none => rw [ex] at hd; cases hd
    | some x =>
      rw [ex] at hd
      cases hd
      have hta : xs.take (i + 1) = xs.take i ++ [x] := by rw [List.take_succ, ex]; rfl
      refine h x (List.mem_of_getElem? ex) _ _ (fun hk ds3 e3 => ⟨_, rfl, ?_⟩) (fun hk ds2 e2 => ⟨e2, ?_⟩)
      · by_cases hf : f x = true
        · rw [if_pos hf, e3]
          have : xs.any (fun x => keep x && f x) = true := List.any_eq_true.mpr ⟨x, List.mem_of_getElem? ex, by simp [hk, hf]⟩
          rw [this] at hQ
          exact hQ
        · rw [if_neg hf]
          exact ⟨e3, by rw [hta, List.any_append, ha]; simp [hf]⟩
      · rw [hta, List.any_append, ha]; simp [hk]
  · rintro ds ⟨rfl, ha⟩
    rw [List.length_map, List.take_length] at ha
    rw [ha] at hQ
    exact hQ
/-- all(f x for x in xs if keep x) -/
theorem test_all (xs : List α) (keep f : α → Bool) (h : ∀ x, x ∈ xs → ∀ (Z : D → DS → Prop) (W : DS → Prop), (keep x = true → ∀ ds3, dwipe ds3 vs = ds0 → Z (.t (.bl (f x))) ds3) → (keep x = false → ∀ ds2, dwipe ds2 vs = ds0 → W ds2) → g (tD x) ds0 fun ds1 => q ds1 fun b ds2 => if b = true then e ds2 Z else W ds2)
    (hl : xs.length ≤ sizeLine) (hQ : Q (.t (.bl (xs.all fun x => !keep x || f x))) ds0) : TestD false g q e vs Q (xs.map tD) ds0 := by
  refine ⟨by rw [List.length_map]; exact hl, fun i ds => ds = ds0 ∧ (xs.take i).all (fun x => !keep x || f x) = true, ⟨rfl, by simp⟩, ?_, ?_⟩
  · rintro i d ds hd ⟨rfl, ha⟩
    rw [List.getElem?_map] at hd
    cases ex : xs[i]? with
    | none => rw [ex] at hd; cases hd
    | some x =>
      rw [ex] at hd
      cases hd
      have hta : xs.take (i + 1) = xs.take i ++ [x] := by rw [List.take_succ, ex]; rfl
      refine h x (List.mem_of_getElem? ex) _ _ (fun hk ds3 e3 => ⟨_, rfl, ?_⟩) (fun hk ds2 e2 => ⟨e2, ?_⟩)
      · by_cases hf : f x = false
        · rw [if_pos hf, e3]
          have : xs.all (fun x => !keep x || f x) = false := by
            rw [Bool.eq_false_iff]
            intro z
            have := List.all_eq_true.mp z x (List.mem_of_getElem? ex)
            simp [hk, hf] at this
          rw [this] at hQ
          exact hQ
        · rw [if_neg hf]
          exact ⟨e3, by rw [hta, List.all_append, ha]; simp at hf; simp [hf]⟩
      · rw [hta, List.all_append, ha]; simp [hk]
  · rintro ds ⟨rfl, ha⟩
    rw [List.length_map, List.take_length] at ha
    rw [ha] at hQ
    exact hQ
/-- sum(f x for x in xs if keep x) -/
theorem sum_gen (xs : List α) (keep : α → Bool) (f : α → Int) (h : ∀ x, x ∈ xs → ∀ (Z : D → DS → Prop) (W : DS → Prop), (keep x = true → ∀ ds3, dwipe ds3 vs = ds0 → Z (.t (.int (f x))) ds3) → (keep x = false → ∀ ds2, dwipe ds2 vs = ds0 → W ds2) → g (tD x) ds0 fun ds1 => q ds1 fun b ds2 => if b = true then e ds2 Z else W ds2)
    (hl : xs.length ≤ sizeLine) (hQ : Q (.t (.int ((xs.filter keep).map f).sum)) ds0) : SumD g q e vs Q (xs.map tD) ds0 := by
  refine ⟨by rw [List.length_map]; exact hl, fun i acc ds => ds = ds0 ∧ acc = ((xs.take i).filter keep).map f, ⟨rfl, by simp⟩, ?_, ?_⟩
  · rintro i d acc ds hd ⟨rfl, rfl⟩
    rw [List.getElem?_map] at hd
    cases ex : xs[i]? with
    | none => rw [ex] at hd; cases hd
    | some x =>
      rw [ex] at hd
      cases hd
      have hta : xs.take (i + 1) = xs.take i ++ [x] := by rw [List.take_succ, ex]; rfl
      refine h x (List.mem_of_getElem? ex) _ _ (fun hk ds3 e3 => ⟨_, rfl, e3, ?_⟩) (fun hk ds2 e2 => ⟨e2, ?_⟩)
      · rw [hta, List.filter_append, List.map_append]; simp [hk]
      · rw [hta, List.filter_append, List.map_append]; simp [hk]
  · rintro acc ds ⟨rfl, rfl⟩
    rw [List.length_map, List.take_length]
    exact hQ
end
end Dn

set_option Elab.async false
set_option linter.all false
set_option maxRecDepth 100000
set_option maxHeartbeats 2000000
/-! Gn13: list comprehensions of two clauses. -/
namespace Dn
open PySem PySem.Spec PyProof.Rows L2
theorem set_wipe {x : Option V} {v : Nat} : ∀ {vs : List Nat} {σ : L2.St}, v ∈ vs → wipe (σ.set v x) vs = wipe σ vs
  | [], _, h => by simp at h
  | u :: vs, σ, h => by
    simp only [wipe]
    by_cases e : v ∈ vs
    · rw [set_wipe e]
    · have e2 : v = u := (List.mem_cons.mp h).resolve_right e
      subst e2
      have : ∀ (ws : List Nat) (σ : L2.St), v ∉ ws → wipe (σ.set v x) ws = (wipe σ ws).set v x := fun ws => by
        induction ws with
        | nil => intro σ _; rfl
        | cons w ws ih =>
          intro σ hw
          simp only [wipe]
          rw [ih σ fun z => hw (List.mem_cons_of_mem _ z), List.set_comm _ _ (fun z => hw (by rw [z]; exact List.mem_cons_self))]
      rw [this vs σ e, List.set_set]
theorem wipe_wipe {vs : List Nat} : ∀ {us : List Nat} {σ : L2.St}, (∀ u ∈ us, u ∈ vs) → wipe (wipe σ us) vs = wipe σ vs
  | [], _, _ => rfl
  | u :: us, σ, h => by
    simp only [wipe]
    rw [set_wipe (h u List.mem_cons_self), wipe_wipe fun w hw => h w (List.mem_cons_of_mem _ hw)]
/-- the second clause's loop -/
def Comp1D (g1 : GD) (q1 : QD) (e : ED) (vs1 : List Nat) (N : List D → DS → Prop) (its1 : List D) (acc0 : List D) (ds : DS) : Prop := ∃ Pv1 : Nat → List D → DS → Prop, Pv1 0 acc0 ds ∧
  (∀ j d acc ds, its1[j]? = some d → Pv1 j acc ds → g1 d ds fun ds1 => q1 ds1 fun b ds2 => if b = true then e ds2 fun y ds3 => acc.length < sizeLine ∧ Pv1 (j + 1) (acc ++ [y]) (dwipe ds3 vs1) else Pv1 (j + 1) acc (dwipe ds2 vs1)) ∧
  ∀ acc ds, Pv1 its1.length acc ds → N acc ds
def Comp2D (g : GD) (q : QD) (i1 : ID) (g1 : GD) (q1 : QD) (e : ED) (vs vs1 : List Nat) (Q : D → DS → Prop) (its : List D) (ds : DS) : Prop := ∃ Pv : Nat → List D → DS → Prop, Pv 0 [] ds ∧
  (∀ i d acc ds, its[i]? = some d → Pv i acc ds → g d ds fun ds1 => q ds1 fun b ds2 => if b = true then i1 ds2 fun its1 ds3 => Comp1D g1 q1 e vs1 (fun acc' ds' => Pv (i + 1) acc' (dwipe ds' vs)) its1 acc (dwipe ds3 vs1) else Pv (i + 1) acc (dwipe ds2 vs)) ∧
  ∀ acc ds, Pv its.length acc ds → Q (.lst acc) ds
def dLc2 (vs vs1 : List Nat) (i : ID) (g : GD) (q : QD) (i1 : ID) (g1 : GD) (q1 : QD) (e : ED) : ED := fun ds Q => i ds fun its ds1 => Comp2D g q i1 g1 q1 e vs vs1 Q its (dwipe ds1 vs)
theorem lc2_run {K : PySem.W.Frag} {C : FC} {vs vs1 ws ws1 : List Nat} {i i1 : ID} {g g1 : GD} {q q1 : QD} {e : ED} (hw : ∀ w ∈ ws, w ∈ vs) (hw1 : ∀ w ∈ ws1, w ∈ vs1) (hv : ∀ u ∈ vs1, u ∈ vs) {σ : L2.St} {H : Hp} {Q : VK} (h : LE K C false (dLc2 vs vs1 i g q i1 g1 q1 e) σ H Q) :
    tLc2 (LI K C false i) (LG K C.blk ws g) (LT K C.blk false q) (LI K C.blk false i1) (LG K C.blk ws1 g1) (LT K C.blk false q1) (LE K C.blk false e) vs vs1 σ H Q := by
  obtain ⟨B, ds, ts, P, r, nv, t, qq⟩ := h
  have nv := nv rfl
  refine ⟨B, ds, ts, _, r, fun _ => nv, t, fun its ds1 ⟨Pd, z0, zs, zd⟩ H1 B1 J kb1 r1 ok A hA => ?_⟩
  have k0 := same_new (o := .lst []) hA
  have rb := (r1.block nv vs).push (d := .lst []) (v := .ref A) k0 ⟨one A, ⟨A, [], Dn.z0, rfl, upd_same, ⟨rfl, rfl⟩, by funext b; simp [Dn.z0, Dn.z0]⟩, fun b => by simp only [one]; split <;> omega, fun b hb => by
    simp only [one] at hb
    split at hb
    · rename_i e; rw [e]; exact hA
    · omega⟩
  let Pv : Nat → Hp → Prop := fun i H => i ≤ its.length ∧ ∃ B2 ds2 acc, Same B1 B2 ∧ RS K C.blk B2 (wipe σ vs) H ds2 ((.ref A, .own (.lst acc)) :: strip ts) ∧ (∀ i x, ds2[i]? = some (some x) → i ∉ vs) ∧ Pd i acc ds2
  refine ⟨fun i m H => m = its.length - i ∧ Pv i H, ⟨its.length, by simp, Nat.zero_le _, B1, _, [], Same.refl _, rb, fun i x e => (dwipe_some e).2, z0⟩, ?_⟩
  rintro i m H2 ⟨rfl, hi, B2, ds2, acc, kb2, r2, hv2, z2⟩
  by_cases hlt : i < its.length
  · refine .inr ⟨(ok.mono kb2).goes i H2 hlt r2.bh, Pv (i + 1), fun H' p' => ⟨its.length - (i + 1), by omega, rfl, p'⟩, fun x H' y => ?_⟩
    obtain ⟨d, ed, k1, f⟩ := (ok.mono kb2).yields i H2 x H' hlt r2.bh y
    obtain ⟨w, c⟩ := f B2 (Same.refl _) r2.bh
    refine ⟨B2, ds2, _, d, _, r2.push k1 (Fresh.cp w c), nonm_strip ((.ref A, .own (.lst acc)) :: ts), zs i d acc ds2 ed z2, fun ds3 z3 σ3 H3 B3 kb3 ho r3 => ?_⟩
    have hw3 : wipe σ3 vs = wipe σ vs := wipe_agree ⟨ho.1, fun j hj => ho.2 j fun m => hj (hw j m)⟩
    refine ⟨hw3, B3, ds3, _, _, r3, fun _ => nonm_vw (nonm_strip ((.ref A, .own (.lst acc)) :: ts)), z3, fun b ds4 z4 H4 B4 kb4 r4 => ?_⟩
    cases b with
    | true =>
      rw [if_pos rfl] at z4 ⊢
      refine ⟨B4, ds4, _, _, r4, fun _ => nonm_vw (nonm_strip ((.ref A, .own (.lst acc)) :: ts)), z4, fun its1 ds5 ⟨Pd1, y0, ys, yd⟩ H5 B5 J1 kb5 r5 ok1 => ?_⟩
      have kb25 := ((kb2.trans kb3).trans kb4).trans kb5
      have r5' := r5.wiped (vs := vs1) (nonm_strip ((.ref A, .own (.lst acc)) :: ts)) rfl
      let Pv1 : Nat → Hp → Prop := fun j H => j ≤ its1.length ∧ ∃ B6 ds6 acc6, Same B5 B6 ∧ RS K C.blk B6 (wipe σ3 vs1) H ds6 ((.ref A, .own (.lst acc6)) :: strip ts) ∧ Pd1 j acc6 ds6
      refine ⟨fun j m H => m = its1.length - j ∧ Pv1 j H, ⟨its1.length, by simp, Nat.zero_le _, B5, _, acc, Same.refl _, r5', y0⟩, ?_⟩
      rintro j m H6 ⟨rfl, hj, B6, ds6, acc6, kb6, r6, z6⟩
      by_cases hlt1 : j < its1.length
      · refine .inr ⟨(ok1.mono kb6).goes j H6 hlt1 r6.bh, Pv1 (j + 1), fun H' p' => ⟨its1.length - (j + 1), by omega, rfl, p'⟩, fun x H' y => ?_⟩
        obtain ⟨d', ed', k1', f'⟩ := (ok1.mono kb6).yields j H6 x H' hlt1 r6.bh y
        obtain ⟨w', c'⟩ := f' B6 (Same.refl _) r6.bh
        refine ⟨B6, ds6, _, d', _, r6.push k1' (Fresh.cp w' c'), nonm_strip ((.ref A, .own (.lst acc6)) :: ts), ys j d' acc6 ds6 ed' z6, fun ds7 z7 σ7 H7 B7 kb7 ho7 r7 => ?_⟩
        have hw7 : wipe σ7 vs1 = wipe σ3 vs1 := wipe_agree ⟨ho7.1, fun j hj => ho7.2 j fun m => hj (hw1 j m)⟩
        refine ⟨hw7, B7, ds7, _, _, r7, fun _ => nonm_vw (nonm_strip ((.ref A, .own (.lst acc6)) :: ts)), z7, fun b ds8 z8 H8 B8 kb8 r8 => ?_⟩
        cases b with
        | true =>
          rw [if_pos rfl] at z8 ⊢
          refine ⟨B8, ds8, _, _, r8, fun _ => nonm_vw (nonm_strip ((.ref A, .own (.lst acc6)) :: ts)), z8, fun y ds9 ⟨hz, z9⟩ v9 H9 B9 kb9 r9 => ?_⟩
          obtain ⟨us, s, hl, r10⟩ := r9.app (nonm_vw (nonm_strip ts))
          exact ⟨us, s, by omega, hlt1, B9, dwipe ds9 vs1, _, (((kb6.trans kb7).trans kb8).trans kb9), r10.wiped (nonm_strip ((.ref A, .own (.lst _)) :: ts)) hw7, z9⟩
        | false =>
          rw [if_neg Bool.false_ne_true] at z8 ⊢
          exact ⟨hlt1, B8, dwipe ds8 vs1, _, ((kb6.trans kb7).trans kb8), r8.wiped (nonm_strip ((.ref A, .own (.lst _)) :: ts)) hw7, z8⟩
      · have e : j = its1.length := by omega
        subst e
        refine .inl ⟨(ok1.mono kb6).stops H6 r6.bh, hlt, B6, dwipe ds6 vs, _, kb25.trans kb6, r6.wiped (vs := vs) (nonm_strip ((.ref A, .own (.lst _)) :: ts)) ?_, fun i x e => (dwipe_some e).2, yd _ _ z6⟩
        rw [wipe_wipe hv, hw3]
    | false =>
      rw [if_neg Bool.false_ne_true] at z4 ⊢
      exact ⟨hlt, B4, dwipe ds4 vs, _, ((kb2.trans kb3).trans kb4), r4.wiped (nonm_strip ((.ref A, .own (.lst _)) :: ts)) hw3, fun i x e => (dwipe_some e).2, z4⟩
  · have e : i = its.length := by omega
    subst e
    exact .inl ⟨(ok.mono kb2).stops H2 r2.bh, qq _ _ (zd _ _ z2) _ H2 B2 (kb1.trans kb2) (r1.unblock nv kb2 r2 hv2)⟩
section
variable {X : Cx} {C : FC} {pos : Pos} {elt tg iter tg1 iter1 : Expr} {ifs ifs1 : List Expr}
structure Blk2 (X : Cx) (C : FC) (scope : Scope) (vs vs1 : List Nat) (tg tg1 iter1 elt : Expr) (ifs ifs1 : List Expr) (g : GD) (q : QD) (i1 : ID) (g1 : GD) (q1 : QD) (e : ED) : Prop where
  tg : ∃ ws, (∀ w ∈ ws, w ∈ vs) ∧ ∀ (s : Shared) (H : Hp) (A : Addr) (cl : List (Str × Addr)) (fp : List Addr), PG (X.blk s H scope (compEnvC scope cl A X.env) fp) tg (LG X.K C.blk ws g)
  ifs : ∀ (s : Shared) (H : Hp) (A : Addr) (cl : List (Str × Addr)) (fp : List Addr), PTs (X.blk s H scope (compEnvC scope cl A X.env) fp) ifs (LT X.K C.blk false q)
  it1 : ∀ (s : Shared) (H : Hp) (A : Addr) (cl : List (Str × Addr)) (fp : List Addr), PI (X.blk s H scope (compEnvC scope cl A X.env) fp) tg1 iter1 (LI X.K C.blk false i1)
  tg1 : ∃ ws, (∀ w ∈ ws, w ∈ vs1) ∧ ∀ (s : Shared) (H : Hp) (A : Addr) (cl : List (Str × Addr)) (fp : List Addr), PG (X.blk s H scope (compEnvC scope cl A X.env) fp) tg1 (LG X.K C.blk ws g1)
  ifs1 : ∀ (s : Shared) (H : Hp) (A : Addr) (cl : List (Str × Addr)) (fp : List Addr), PTs (X.blk s H scope (compEnvC scope cl A X.env) fp) ifs1 (LT X.K C.blk false q1)
  elt : ∀ (s : Shared) (H : Hp) (A : Addr) (cl : List (Str × Addr)) (fp : List Addr), PE (X.blk s H scope (compEnvC scope cl A X.env) fp) elt (LE X.K C.blk false e)
  hv : ∀ u ∈ vs1, u ∈ vs
theorem e_lc2 {scope : Scope} {own : List (Str × Nat)} {vs1 : List Nat} {i i1 : ID} {g g1 : GD} {q q1 : QD} {t : ED} (hc : X.calm = true) (hN : X.N.Nodup) (hi : PI X tg iter (LI X.K C false i)) (ok : BlkOk X.N X.env.scope scope own) (hb : Blk2 X C scope (own.map (·.2)) vs1 tg tg1 iter1 elt ifs ifs1 g q i1 g1 q1 t)
    (hs : ∀ x, foldedSetIterable iter X.env x = pure x := by intro _; rfl) (hs1 : ∀ env x, foldedSetIterable iter1 env x = pure x := by intro _ _; rfl) : PE X (.ListComp elt [⟨tg, iter, ifs, 0⟩, ⟨tg1, iter1, ifs1, 0⟩] scope pos) (LE X.K C false (dLc2 (own.map (·.2)) vs1 i g q i1 g1 q1 t)) := by
  obtain ⟨ws, hw, hg⟩ := hb.tg
  obtain ⟨ws1, hw1, hg1⟩ := hb.tg1
  exact (pe_lc2 hc hN hi ok hb.hv hg hb.ifs hb.it1 hg1 hb.ifs1 hb.elt hs hs1).imp fun _ _ _ h => lc2_run hw hw1 hb.hv h
theorem s_setLc2 {p : Nat} {y : Str} {py spos : Pos} {scope : Scope} {own : List (Str × Nat)} {vs1 : List Nat} {i i1 : ID} {g g1 : GD} {q q1 : QD} {t : ED} (hc : X.calm = true) (hN : X.N.Nodup) (hy : X.N[p]? = some y) (hyl : X.env.scope.names.lookup y = some .local)
    (hsw : swapsWith (.ListComp elt [⟨tg, iter, ifs, 0⟩, ⟨tg1, iter1, ifs1, 0⟩] scope pos) (some (.Name y py)) spos.line X.env = pure true) (hi : PI X tg iter (LI X.K C false i)) (ok : BlkOk X.N X.env.scope scope own) (hb : Blk2 X C scope (own.map (·.2)) vs1 tg tg1 iter1 elt ifs ifs1 g q i1 g1 q1 t) (hp : p ∉ C.mx)
    (hs : ∀ x, foldedSetIterable iter X.env x = pure x := by intro _; rfl) (hs1 : ∀ env x, foldedSetIterable iter1 env x = pure x := by intro _ _; rfl) : PS X (.Assign [.Name y py] (.ListComp elt [⟨tg, iter, ifs, 0⟩, ⟨tg1, iter1, ifs1, 0⟩] scope pos) spos) (LS X.K C (sAsg (dLc2 (own.map (·.2)) vs1 i g q i1 g1 q1 t) (gN p))) := by
  obtain ⟨ws, hw, hg⟩ := hb.tg
  obtain ⟨ws1, hw1, hg1⟩ := hb.tg1
  refine PS.imp (ps_setLc2 hc hN hy hyl hsw hi ok hb.hv hg hb.ifs hb.it1 hg1 hb.ifs1 hb.elt hs hs1) fun D σ H ⟨B, ds, E, r, t, h1, _, _, _⟩ => lc2_run hw hw1 hb.hv ⟨B, ds, [], _, r, fun _ => trivial, t, fun d ds' z v H' B' kb r' => h1 _ z _ H' B' kb (r'.put trivial hp)⟩
end
section
variable {ds : DS} {Q : D → DS → Prop} {i i1 : ID} {g g1 : GD} {q q1 : QD} {e : ED} {vs vs1 : List Nat}
@[simp ↓] theorem x_dLc2 : dLc2 vs vs1 i g q i1 g1 q1 e ds Q = i ds fun its ds1 => Comp2D g q i1 g1 q1 e vs vs1 Q its (dwipe ds1 vs) := rfl
end
end Dn

set_option Elab.async false
set_option linter.all false
set_option maxRecDepth 100000
set_option maxHeartbeats 2000000
/-! Gn14: xs += ys; xs[::-1]. -/
namespace Dn
open PySem PySem.Spec PyProof.Rows L2
theorem set_same {α : Type} {xs : List α} {i : Nat} {x : α} (h : xs[i]? = some x) : xs.set i x = xs := by
  refine List.ext_getElem? fun j => ?_
  rw [List.getElem?_set]
  by_cases e : i = j
  · subst e
    rw [if_pos rfl, if_pos (List.getElem?_eq_some_iff.mp h).1, h]
  · rw [if_neg e]
def sAugL (i : Nat) (e : OD) : SD := fun E ds => (∃ l, ds[i]? = some (some (.lst l))) ∧ e ds fun z ds1 => ∃ xs dz ys, ds1[i]? = some (some (.lst xs)) ∧ z.get ds1 = some dz ∧ lits dz = some ys ∧ cps ys = true ∧ xs.length + ys.length ≤ sizeLine ∧ E.nx (ds1.set i (some (.lst (xs ++ ys))))
section
variable {X : Cx} {C : FC} {p : Bool} {pos : Pos} {e : Expr}
theorem s_augL {i : Nat} {x : Str} {te : OD} {pos' : Pos} (hN : X.N.Nodup) (hi : X.N[i]? = some x) (hx : Loc X.env.scope x) (he : PE X e (LO X.K C p te)) (hf : X.fn x = true ∨ X.env.scope.names.lookup x = some .local := by first | exact .inl rfl | exact .inr rfl) :
    PS X (.AugAssign (.Name x pos') .Add e pos) (LS X.K C (sAugL i te)) :=
  PS.imp (ps_aug hN hi hx he iop_ext hf) fun D σ H ⟨B, ds, E, rs, ⟨⟨l, ec⟩, t⟩, h1, _, _, _⟩ => by
    obtain ⟨v, s0, w0⟩ := rs.nm ec
    refine ⟨v, s0, B, ds, _, _, rs.tnm s0, fun _ => trivial, t, fun z ds1 ⟨xs, dz, ys, e1, ez, el, cy, hl, q⟩ v1 H1 B1 kb1 r1 => ?_⟩
    obtain ⟨b, us, rfl, sb, wy⟩ := VB.lits (r1.see0 ez) r1.bh el
    obtain ⟨v0, a, vs, ev, vp, sa, wx, back⟩ := r1.upd e1 (p := []) (by rfl)
    have ev0 : v = .ref a := by
      obtain ⟨F1, F2, q1, q2, _⟩ := r1.ex
      have hz := tms_at (x := .nm i) (i := i) (pth := []) rfl (t0 := [(V.ref b, z)]) q2
      obtain ⟨v2, e2, vp2⟩ := hz
      rw [ev] at e2
      cases e2
      rw [show _ = _ from vp2, ← show _ = _ from vp]
    subst ev0
    refine ⟨a, b, vs, us, rfl, rfl, sa, sb, by rw [← wx.length, ← wy.length]; exact hl, ?_⟩
    have r2 := back (xs ++ ys) (vs ++ us) [] trivial fun G F g f => ⟨_, z0, g.append (VBs.held ys us cy wy), rfl, fun b => by simp [z0]⟩
    have es : σ[i]? = some (some (.ref a)) := by rw [ev, show _ = _ from vp]
    have h2 := h1 _ q σ _ B1 kb1 r2
    show D.nx (σ.set i (some (.ref a))) _
    rw [set_same es]
    exact h2
end
section
variable {E : DE} {ds : DS} {o : OD}
@[simp ↓] theorem x_sAugL {i : Nat} : sAugL i o E ds = (match ds[i]? with | some (some (.lst _)) => o ds fun z ds1 => (match ds1[i]? with | some (some (.lst xs)) => (match z.get ds1 with | some dz => (match lits dz with | some ys => cps ys = true ∧ xs.length + ys.length ≤ sizeLine ∧ E.nx (ds1.set i (some (.lst (xs ++ ys)))) | none => False) | none => False) | _ => False) | _ => False) := by
  unfold sAugL
  have key : ∀ (z : Tm) (ds1 : DS), (∃ xs dz ys, ds1[i]? = some (some (.lst xs)) ∧ z.get ds1 = some dz ∧ lits dz = some ys ∧ cps ys = true ∧ xs.length + ys.length ≤ sizeLine ∧ E.nx (ds1.set i (some (.lst (xs ++ ys))))) = (match ds1[i]? with | some (some (.lst xs)) => (match z.get ds1 with | some dz => (match lits dz with | some ys => cps ys = true ∧ xs.length + ys.length ≤ sizeLine ∧ E.nx (ds1.set i (some (D.lst (xs ++ ys)))) | none => False) | none => False) | _ => False) := fun z ds1 => by
    rcases ds1[i]? with _ | (_ | d)
    · simp
    · simp
    · cases d with
      | lst xs =>
        rcases z.get ds1 with _ | dz
        · simp
        · simp only [Option.some.injEq, exists_and_left, exists_eq_left', D.lst.injEq]
          rcases lits dz with _ | ys
          · simp
          · simp
      | _ => simp
  simp only [key]
  rcases ds[i]? with _ | (_ | d)
  · simp
  · simp
  · cases d <;> simp
end
/-! xs[::-1] -/
def dRev (t : ED) : ED := fun ds Q => t ds fun d ds1 => ∃ xs, ((∃ ys, d = .scr ys ∧ xs = fzs ys) ∨ lits d = some xs) ∧ cps xs = true ∧ Q (.lst xs.reverse) ds1
section
variable {X : Cx} {C : FC} {p : Bool} {pos p1 p2 p3 : Pos} {e : Expr} {t : ED} {k : Nat}
theorem cps_rev {xs : List D} (h : cps xs = true) : cps xs.reverse = true := by
  rw [cps_eq] at h ⊢
  rw [List.all_reverse]; exact h
theorem VBs.rev {K : PySem.W.Frag} {B H : Hp} : ∀ {xs : List D} {vs : List V}, VBs K B H xs vs → VBs K B H xs.reverse vs.reverse
  | [], vs, h => by rw [show vs = [] from h]; rfl
  | x :: xs, vs, h => by
    obtain ⟨v, r, rfl, h1, h2⟩ := h
    rw [List.reverse_cons, List.reverse_cons]
    exact (VBs.rev h2).append ⟨v, [], rfl, h1, rfl⟩
theorem e_rev (he : PE X e (LE X.K C p t)) : PE X (.Subscript e (.Slice none none (some (.UnaryOp .USub (.Constant (.int 1) k p1) p2)) p3) pos) (LE X.K C p (dRev t)) :=
  (pe_revL he).imp fun σ H Q ⟨B, ds, ts, P, r, nv, t, q⟩ => by
    refine ⟨B, ds, ts, _, r, nv, t, fun d ds1 ⟨xs, hx, hc, z⟩ v1 H1 B1 kb1 r1 => ?_⟩
    have w := r1.see0 (d := d) rfl
    have : ∃ a vs, v1 = .ref a ∧ SqL X.K H1 a vs ∧ VBs X.K B1 H1 xs vs := by
      rcases hx with ⟨ys, rfl, rfl⟩ | el
      · obtain ⟨a, vs, e, s, rr⟩ := w
        exact ⟨a, vs, e, r1.bh.seq s, VBs.mono (Same.refl _) r1.bh _ _ (VBs.fz _ _ rr)⟩
      · obtain ⟨a, vs, e, s, rr⟩ := VB.lits w r1.bh el
        exact ⟨a, vs, e, SqL.of s, rr⟩
    obtain ⟨a, vs, rfl, s, w2⟩ := this
    exact ⟨a, vs, rfl, s, fun p' hp => q _ _ z _ _ B1 kb1 ((r1.push (same_new hp) (Fresh.lst hp w2.rev (cps_rev hc))).drop2)⟩
@[simp ↓] theorem x_dRev {ds : DS} {Q : D → DS → Prop} : dRev t ds Q = t ds fun d ds1 => (match d with | .scr ys => cps (fzs ys) = true ∧ Q (.lst (fzs ys).reverse) ds1 | d => (match lits d with | some xs => cps xs = true ∧ Q (.lst xs.reverse) ds1 | none => False)) := by
  unfold dRev
  congr 1
  funext d ds1
  cases d with
  | scr ys => simp [lits]
  | t x => simp [lits]
  | lst xs => simp [lits]
  | frz xs => simp [lits]
  | tupM xs => simp [lits]
end
end Dn

set_option Elab.async false
set_option linter.all false
set_option maxRecDepth 100000
set_option maxHeartbeats 2000000
/-! Gn15: calls without arguments; more rows. -/
namespace Dn
open PySem PySem.Spec PyProof.Rows L2
section
variable {X : Cx} {C : FC} {p : Bool} {pos pp : Pos} {k : Nat} {f : Addr} {fd : FuncData} {ps : List Str} {x : Str} {g : FD}
theorem c_P0 (F : Cal X.prog X.w X.K X.mg X.base k x f fd ps C.tabs (List.replicate 0 false) g) (hr : Room k X.A) (hg : Gl X x := by rfl) (hdb : (x == ("__debug__" : Str)) = false := by decide) : PE X (.Call (.Name x pp) [] [] pos) (LE X.K C p (dCallP 0 g aNil)) :=
  (pe_call0 F.ok hr hg F.mg F.kp F.bd .nil pass0 hdb).imp fun σ H Q h => by
    obtain ⟨B, ds, ts, P, r, nv, t, q⟩ := call_runP (n := 0) (f := g) (E := fun _ _ _ => False) h
    exact q _ _ t [] H B (Same.refl _) rfl r
end
theorem inU {k : Nat} {A : Around} (h : Room k A) : A.units + 65 < cLine := by have := h.un; omega
theorem zidx_get {α β : Type} {f : α × Nat → β} {xs : List α} {i : Nat} {d : β} (h : (xs.zipIdx.map f)[i]? = some d) : ∃ x, xs[i]? = some x ∧ d = f (x, i) := by
  obtain ⟨p, e, rfl⟩ := map_get h
  rw [List.getElem?_zipIdx] at e
  cases ex : xs[i]? with
  | none => rw [ex] at e; cases e
  | some x =>
    rw [ex] at e
    simp at e
    subst e
    exact ⟨x, rfl, rfl⟩
theorem take_snoc {α : Type} {xs : List α} {i : Nat} {x : α} (h : xs[i]? = some x) : xs.take (i + 1) = xs.take i ++ [x] := by rw [List.take_succ, h]; rfl
theorem repD {α : Type} (n : Nat) (x : α) : (List.replicate n [x]).flatten = List.replicate n x := by
  induction n with
  | zero => rfl
  | succ n ih => rw [List.replicate_succ, List.flatten_cons, ih, List.replicate_succ]; rfl
theorem repI (n : Nat) (i : Int) : List.replicate n (D.t (T.int i)) = (List.replicate n i).map (D.t ∘ T.int) := by simp
theorem repT {α : Type} {f : α → T} (n : Nat) (i : α) : List.replicate n (D.t (f i)) = (List.replicate n i).map (D.t ∘ f) := by simp
theorem mapC {α β : Type} (f : β → T) (h : α → β) (xs : List α) : xs.map (fun x => D.t (f (h x))) = (xs.map h).map (D.t ∘ f) := by rw [List.map_map]; rfl
theorem mapT {α : Type} (f : α → T) (xs : List α) : xs.map (fun x => D.t (f x)) = xs.map (D.t ∘ f) := rfl
end Dn

set_option Elab.async false
set_option linter.all false
set_option maxRecDepth 100000
set_option maxHeartbeats 2000000
/-! Gn16: equality and membership of trees of ints. -/
namespace Dn
open PySem PySem.Spec PyProof.Rows L2
noncomputable instance : DecidableEq T := fun a b => Classical.propDecidable _
mutual
/-- no text, no bool within -/
def plain : T → Bool
  | .non => true
  | .bl _ => false
  | .int _ => true
  | .str _ => false
  | .tup xs => plains xs
def plains : List T → Bool
  | [] => true
  | x :: xs => plain x && plains xs
end
mutual
def dep : T → Nat
  | .tup xs => deps xs + 1
  | .non => 0
  | .bl _ => 0
  | .int _ => 0
  | .str _ => 0
def deps : List T → Nat
  | [] => 0
  | x :: xs => max (dep x) (deps xs)
end
mutual
theorem canLay_plain : ∀ t : T, plain t = true → (tP t).canLay0 = true
  | .non, _ => by simp only [tP, PyData.canLay0]
  | .int _, _ => by simp only [tP, PyData.canLay0]
  | .bl _, h => by simp [plain] at h
  | .str _, h => by simp [plain] at h
  | .tup xs, h => by
    simp only [plain] at h
    simp only [tP, PyData.canLay0]
    exact canLay_plains xs h
theorem canLay_plains : ∀ ts : List T, plains ts = true → PyData.canLayAll0 (tPs ts) = true
  | [], _ => by simp only [tPs, PyData.canLayAll0]
  | x :: xs, h => by
    simp only [plains, Bool.and_eq_true] at h
    simp only [tPs, PyData.canLayAll0, canLay_plain x h.1, canLay_plains xs h.2, Bool.and_self]
end
mutual
theorem depth_dep : ∀ t : T, (tP t).depth = dep t
  | .non => by simp only [tP, PyData.depth, dep]
  | .int _ => by simp only [tP, PyData.depth, dep]
  | .bl _ => by simp only [tP, PyData.depth, dep]
  | .str _ => by simp only [tP, PyData.depth, dep]
  | .tup xs => by simp only [tP, PyData.depth, dep, depth_deps xs]
theorem depth_deps : ∀ ts : List T, PyData.depthAll (tPs ts) = deps ts
  | [] => by simp only [tPs, PyData.depthAll, deps]
  | x :: xs => by simp only [tPs, PyData.depthAll, deps, depth_dep x, depth_deps xs]
end
theorem shaped_plain {t : T} (h : plain t = true) (d : dep t ≤ 64) : SeqAt.shaped (tP t) = true := by
  unfold SeqAt.shaped
  rw [canLay_plain t h, depth_dep t]
  simp [d]
mutual
theorem eqv_plain : ∀ a b : T, plain a = true → plain b = true → PyData.eqv (tP a) (tP b) = decide (a = b)
  | .non, b, _, hb => by cases b <;> simp_all [tP, PyData.eqv, plain]
  | .int i, b, _, hb => by cases b <;> simp_all [tP, PyData.eqv, plain] <;> rfl
  | .bl _, _, h, _ => by simp [plain] at h
  | .str _, _, h, _ => by simp [plain] at h
  | .tup xs, b, ha, hb => by
    cases b with
    | tup ys =>
      simp only [tP, PyData.eqv]
      rw [eqv_plains xs ys (by simpa [plain] using ha) (by simpa [plain] using hb)]
      simp
    | non => simp [tP, PyData.eqv]
    | int _ => simp [tP, PyData.eqv]
    | bl _ => simp [plain] at hb
    | str _ => simp [plain] at hb
theorem eqv_plains : ∀ as bs : List T, plains as = true → plains bs = true → PyData.eqvAll (tPs as) (tPs bs) = decide (as = bs)
  | [], [], _, _ => by simp [tPs, PyData.eqvAll]
  | [], _ :: _, _, _ => by simp [tPs, PyData.eqvAll]
  | _ :: _, [], _, _ => by simp [tPs, PyData.eqvAll]
  | a :: as, b :: bs, ha, hb => by
    simp only [plains, Bool.and_eq_true] at ha hb
    simp only [tPs, PyData.eqvAll, eqv_plain a b ha.1 hb.1, eqv_plains as bs ha.2 hb.2]
    rw [Bool.eq_iff_iff]
    simp
end
theorem any_plain {a : T} (ha : plain a = true) : ∀ {xs : List T}, plains xs = true → (tPs xs).any (fun z => PyData.eqv z (tP a)) = decide (a ∈ xs)
  | [], _ => by simp [tPs]
  | x :: xs, h => by
    simp only [plains, Bool.and_eq_true] at h
    simp only [tPs, List.any_cons, eqv_plain x a h.1 ha, any_plain ha h.2]
    rw [Bool.eq_iff_iff, Bool.or_eq_true, decide_eq_true_eq, decide_eq_true_eq, decide_eq_true_eq, List.mem_cons]
    exact or_congr ⟨Eq.symm, Eq.symm⟩ Iff.rfl
theorem dPs_t : ∀ ts : List T, dPs (ts.map D.t) = tPs ts
  | [] => rfl
  | x :: xs => by simp only [List.map_cons, dPs, dP, tPs, dPs_t xs]
theorem shaped_plains {ts : List T} (h : plains ts = true) (d : deps ts ≤ 60) : SeqAt.shaped (.tuple (tPs ts)) = true := shaped_plain (t := .tup ts) (by simp only [plain, h]) (by simp only [dep]; omega)
section
variable {α : Type} {f : α → T} {xs : List α}
@[simp] theorem plain_int {i : Int} : plain (.int i) = true := rfl
@[simp] theorem plain_non : plain .non = true := rfl
@[simp] theorem plain_tup {ts : List T} : plain (.tup ts) = plains ts := rfl
@[simp] theorem plains_nil : plains [] = true := rfl
@[simp] theorem plains_cons {x : T} {ts : List T} : plains (x :: ts) = (plain x && plains ts) := rfl
@[simp] theorem dep_int {i : Int} : dep (.int i) = 0 := rfl
@[simp] theorem dep_non : dep .non = 0 := rfl
@[simp] theorem dep_tup {ts : List T} : dep (.tup ts) = deps ts + 1 := rfl
@[simp] theorem deps_nil : deps [] = 0 := rfl
@[simp] theorem deps_cons {x : T} {ts : List T} : deps (x :: ts) = max (dep x) (deps ts) := rfl
theorem plains_map (h : ∀ x ∈ xs, plain (f x) = true) : plains (xs.map f) = true := by
  induction xs with
  | nil => rfl
  | cons x xs ih => simp only [List.map_cons, plains_cons, h x List.mem_cons_self, ih fun y hy => h y (List.mem_cons_of_mem _ hy), Bool.and_self]
theorem deps_map {n : Nat} (h : ∀ x ∈ xs, dep (f x) ≤ n) : deps (xs.map f) ≤ n := by
  induction xs with
  | nil => exact Nat.zero_le _
  | cons x xs ih =>
    have h1 := h x List.mem_cons_self
    have h2 := ih fun y hy => h y (List.mem_cons_of_mem _ hy)
    simp only [List.map_cons, deps_cons]
    omega
@[simp] theorem plains_ints {ns : List Int} : plains (ns.map T.int) = true := plains_map fun _ _ => rfl
@[simp] theorem deps_ints {ns : List Int} : deps (ns.map T.int) = 0 := Nat.le_zero.mp (deps_map fun _ _ => Nat.le_refl _)
end
section
variable {a b : T} {xs : List T} {Q : D → Prop}
theorem fInT (ha : plain a = true) (da : dep a ≤ 60) (hx : plains xs = true) (dx : deps xs ≤ 60) (h : Q (.t (.bl (decide (a ∈ xs))))) : fIn (.t a) (.t (.tup xs)) Q :=
  ⟨_, rfl, shaped_plain ha (by omega), shaped_plains hx dx, by show Q (.t (.bl ((tPs xs).any fun z => PyData.eqv z (tP a)))); rw [any_plain ha hx]; exact h⟩
theorem fNotInT (ha : plain a = true) (da : dep a ≤ 60) (hx : plains xs = true) (dx : deps xs ≤ 60) (h : Q (.t (.bl (!decide (a ∈ xs))))) : fNotIn (.t a) (.t (.tup xs)) Q :=
  ⟨_, rfl, shaped_plain ha (by omega), shaped_plains hx dx, by show Q (.t (.bl (!(tPs xs).any fun z => PyData.eqv z (tP a)))); rw [any_plain ha hx]; exact h⟩
theorem fInL (ha : plain a = true) (da : dep a ≤ 60) (hx : plains xs = true) (dx : deps xs ≤ 60) (h : Q (.t (.bl (decide (a ∈ xs))))) : fIn (.t a) (.lst (xs.map D.t)) Q :=
  ⟨_, rfl, shaped_plain ha (by omega), by rw [dPs_t]; exact shaped_plains hx dx, by show Q (.t (.bl ((dPs (xs.map D.t)).any fun z => PyData.eqv z (tP a)))); rw [dPs_t, any_plain ha hx]; exact h⟩
theorem fInF (ha : plain a = true) (da : dep a ≤ 60) (hx : plains xs = true) (dx : deps xs ≤ 60) (h : Q (.t (.bl (decide (a ∈ xs))))) : fIn (.t a) (.frz (xs.map D.t)) Q :=
  ⟨_, rfl, shaped_plain ha (by omega), by rw [dPs_t]; exact shaped_plains hx dx, by show Q (.t (.bl ((dPs (xs.map D.t)).any fun z => PyData.eqv z (tP a)))); rw [dPs_t, any_plain ha hx]; exact h⟩
theorem fEqT (ha : plain a = true) (da : dep a ≤ 60) (hb : plain b = true) (db : dep b ≤ 60) (h : Q (.t (.bl (decide (a = b))))) : fEq (.t a) (.t b) Q :=
  ⟨shaped_plain ha (by omega), shaped_plain hb (by omega), by show Q (.t (.bl (PyData.eqv (tP a) (tP b)))); rw [eqv_plain a b ha hb]; exact h⟩
theorem fNeT (ha : plain a = true) (da : dep a ≤ 60) (hb : plain b = true) (db : dep b ≤ 60) (h : Q (.t (.bl (!decide (a = b))))) : fNe (.t a) (.t b) Q :=
  ⟨shaped_plain ha (by omega), shaped_plain hb (by omega), by show Q (.t (.bl (!PyData.eqv (tP a) (tP b)))); rw [eqv_plain a b ha hb]; exact h⟩
theorem iff_of {P R : Prop} (f : P → R) (g : R → P) : P = R := propext ⟨f, g⟩
/-- ints in a tuple, a list of ints -/
@[simp ↓] theorem x_fInI {i : Int} {ns : List Int} : fIn (.t (.int i)) (.t (.tup (ns.map T.int))) Q = Q (.t (.bl (decide (i ∈ ns)))) := by
  have e : decide (T.int i ∈ ns.map T.int) = decide (i ∈ ns) := by rw [Bool.eq_iff_iff]; simp
  refine iff_of (fun ⟨ds, h1, _, _, z⟩ => ?_) fun z => fInT rfl (Nat.zero_le _) plains_ints (by rw [deps_ints]; omega) (by rw [e]; exact z)
  cases h1
  have := any_plain (a := .int i) rfl (xs := ns.map T.int) plains_ints
  rw [show dP (.t (.int i)) = tP (.int i) from rfl, this, e] at z
  exact z
@[simp ↓] theorem x_fNotInI {i : Int} {ns : List Int} : fNotIn (.t (.int i)) (.t (.tup (ns.map T.int))) Q = Q (.t (.bl (!decide (i ∈ ns)))) := by
  have e : decide (T.int i ∈ ns.map T.int) = decide (i ∈ ns) := by rw [Bool.eq_iff_iff]; simp
  refine iff_of (fun ⟨ds, h1, _, _, z⟩ => ?_) fun z => fNotInT rfl (Nat.zero_le _) plains_ints (by rw [deps_ints]; omega) (by rw [e]; exact z)
  cases h1
  have := any_plain (a := .int i) rfl (xs := ns.map T.int) plains_ints
  rw [show dP (.t (.int i)) = tP (.int i) from rfl, this, e] at z
  exact z
@[simp ↓] theorem x_fInIL {i : Int} {ns : List Int} : fIn (.t (.int i)) (.lst (ns.map (D.t ∘ T.int))) Q = Q (.t (.bl (decide (i ∈ ns)))) := by
  have e : decide (T.int i ∈ ns.map T.int) = decide (i ∈ ns) := by rw [Bool.eq_iff_iff]; simp
  rw [comp_t]
  refine iff_of (fun ⟨ds, h1, _, _, z⟩ => ?_) fun z => fInL rfl (Nat.zero_le _) plains_ints (by rw [deps_ints]; omega) (by rw [e]; exact z)
  cases h1
  have := any_plain (a := .int i) rfl (xs := ns.map T.int) plains_ints
  rw [dPs_t, show dP (.t (.int i)) = tP (.int i) from rfl, this, e] at z
  exact z
@[simp ↓] theorem x_fInIF {i : Int} {ns : List Int} : fIn (.t (.int i)) (.frz (ns.map (D.t ∘ T.int))) Q = Q (.t (.bl (decide (i ∈ ns)))) := by
  have e : decide (T.int i ∈ ns.map T.int) = decide (i ∈ ns) := by rw [Bool.eq_iff_iff]; simp
  rw [comp_t]
  refine iff_of (fun ⟨ds, h1, _, _, z⟩ => ?_) fun z => fInF rfl (Nat.zero_le _) plains_ints (by rw [deps_ints]; omega) (by rw [e]; exact z)
  cases h1
  have := any_plain (a := .int i) rfl (xs := ns.map T.int) plains_ints
  rw [dPs_t, show dP (.t (.int i)) = tP (.int i) from rfl, this, e] at z
  exact z
end
end Dn

set_option Elab.async false
set_option linter.all false
set_option maxRecDepth 100000
/-! Gn17: comprehensions that go from state to state; slices from the front, from behind. -/
namespace Dn
open PySem PySem.Spec PyProof.Rows L2
section
variable {α β γ : Type} {g : GD} {q : QD} {e : ED} {vs : List Nat} {Q : D → DS → Prop}
theorem comp_st {st : α → DS} {R : Nat → α → Prop} {Pe : β → Prop} {F : β → D} {tD : γ → D} (xs : List γ) (a0 : α) (h0 : R 0 a0)
    (h : ∀ i x a, xs[i]? = some x → R i a → ∀ (Z : D → DS → Prop) (W : DS → Prop), (∀ a' y ds3, R (i + 1) a' → Pe y → dwipe ds3 vs = st a' → Z (F y) ds3) → g (tD x) (st a) fun ds1 => q ds1 fun b ds2 => if b = true then e ds2 Z else W ds2)
    (hl : xs.length ≤ sizeLine) (hQ : ∀ a' (ys : List β), R xs.length a' → ys.length = xs.length → (∀ y, y ∈ ys → Pe y) → Q (.lst (ys.map F)) (st a')) : CompD g q e vs Q (xs.map tD) (st a0) := by
  refine ⟨fun i acc ds => ∃ a ys, ds = st a ∧ acc = ys.map F ∧ ys.length = i ∧ R i a ∧ ∀ y, y ∈ ys → Pe y, ⟨a0, [], rfl, rfl, rfl, h0, fun y hy => by cases hy⟩, ?_, ?_⟩
  · rintro i d acc ds hd ⟨a, ys, rfl, rfl, hi, hR, hp⟩
    obtain ⟨x, ex, rfl⟩ := map_get hd
    have hlt := (List.getElem?_eq_some_iff.mp ex).1
    refine h i x a ex hR _ _ fun a' y ds3 hR' hy e3 => ⟨?_, a', ys ++ [y], e3, by rw [List.map_append]; rfl, by rw [List.length_append, hi]; rfl, hR', fun z hz => ?_⟩
    · rw [List.length_map]; omega
    · rcases List.mem_append.mp hz with hz | hz
      · exact hp z hz
      · rw [List.mem_singleton.mp hz]; exact hy
  · rintro acc ds ⟨a, ys, rfl, rfl, hi, hR, hp⟩
    rw [List.length_map] at hi hR
    exact hQ a ys hR hi hp
end
section
variable {α γ : Type} {g : GD} {q : QD} {e : ED} {vs : List Nat} {Q : D → DS → Prop}
/-- those that are kept, going from state to state -/
theorem comp_filter_st {st : α → DS} {R : α → Prop} {F tD : γ → D} (xs : List γ) (keep : γ → Bool) (a0 : α) (h0 : R a0)
    (h : ∀ x, x ∈ xs → ∀ a, R a → ∀ (Z : D → DS → Prop) (W : DS → Prop), (keep x = true → ∀ a' ds3, R a' → dwipe ds3 vs = st a' → Z (F x) ds3) → (keep x = false → ∀ a' ds2, R a' → dwipe ds2 vs = st a' → W ds2) → g (tD x) (st a) fun ds1 => q ds1 fun b ds2 => if b = true then e ds2 Z else W ds2)
    (hl : xs.length ≤ sizeLine) (hQ : ∀ a', R a' → Q (.lst ((xs.filter keep).map F)) (st a')) : CompD g q e vs Q (xs.map tD) (st a0) := by
  refine ⟨fun i acc ds => ∃ a, ds = st a ∧ R a ∧ acc = ((xs.take i).filter keep).map F ∧ i ≤ xs.length, ⟨a0, rfl, h0, by simp, Nat.zero_le _⟩, ?_, ?_⟩
  · rintro i d acc ds hd ⟨a, rfl, hR, rfl, hi⟩
    obtain ⟨x, ex, rfl⟩ := map_get hd
    have hlt := (List.getElem?_eq_some_iff.mp ex).1
    have hta : xs.take (i + 1) = xs.take i ++ [x] := by rw [List.take_succ, ex]; rfl
    refine h x (List.mem_of_getElem? ex) a hR _ _ (fun hk a' ds3 hR' e3 => ⟨?_, a', e3, hR', ?_, hlt⟩) (fun hk a' ds2 hR' e2 => ⟨a', e2, hR', ?_, hlt⟩)
    · rw [List.length_map]
      have h1 : ((xs.take i).filter keep).length ≤ (xs.take i).length := List.length_filter_le _ _
      have h2 : (xs.take i).length ≤ i := by rw [List.length_take]; omega
      omega
    · rw [hta, List.filter_append, List.map_append]
      simp [hk]
    · rw [hta, List.filter_append, List.map_append]
      simp [hk]
  · rintro acc ds ⟨a, rfl, hR, rfl, _⟩
    rw [List.length_map, List.take_length]
    exact hQ a hR
end
theorem cut_hi {α : Type} {xs : List α} {k : Nat} : cutT xs none (some (k : Int)) = xs.take k := by
  unfold cutT
  rw [HT.sIx_none, HT.sIx_nat, List.drop_zero, Nat.sub_zero]
  by_cases h : k ≤ xs.length
  · rw [Nat.min_eq_left h]
  · rw [Nat.min_eq_right (by omega), List.take_of_length_le (Nat.le_refl _), List.take_of_length_le (by omega)]
theorem cut_lo {α : Type} {xs : List α} {k : Nat} : cutT xs (some (k : Int)) none = xs.drop k := by
  unfold cutT
  rw [HT.sIx_none, HT.sIx_nat]
  by_cases h : k ≤ xs.length
  · rw [Nat.min_eq_left h]
    exact List.take_of_length_le (by rw [List.length_drop]; exact Nat.le_refl _)
  · rw [Nat.min_eq_right (by omega), List.drop_of_length_le (Nat.le_refl _), List.drop_of_length_le (by omega), List.take_nil]
theorem cut_lo1 {α : Type} {xs : List α} {k : Nat} : cutT xs (some ((k : Int) + 1)) none = xs.drop (k + 1) := cut_lo (k := k + 1)
end Dn

set_option Elab.async false
set_option linter.all false
set_option maxRecDepth 100000
/-! Gn18: any, all of a list of truths. -/
namespace Dn
open PySem PySem.Spec PyProof.Rows L2
def blsD : List D → Option (List Bool)
  | [] => some []
  | .t (.bl i) :: ds => (blsD ds).map (i :: ·)
  | _ :: _ => none
theorem bls_map (ns : List Bool) : blsD (ns.map fun i => D.t (.bl i)) = some ns := by
  induction ns with
  | nil => rfl
  | cons n ns ih => simp only [List.map_cons, blsD, ih, Option.map_some]
section
variable {K : PySem.W.Frag}
theorem bls_v {B H : Hp} : ∀ {ds : List D} {ns : List Bool} {vs : List V}, blsD ds = some ns → VBs K B H ds vs → vs = ns.map V.bl
  | [], ns, vs, e, h => by cases e; exact h
  | .t (.bl i) :: ds, ns, vs, e, h => by
    simp only [blsD] at e
    cases q : blsD ds with
    | none => rw [q] at e; cases e
    | some r =>
      rw [q] at e; cases e
      obtain ⟨v, us, rfl, h1, h2⟩ := h
      rw [show v = .bl i from h1, bls_v q h2]; rfl
  | .t .non :: _, _, _, e, _ => by cases e
  | .t (.int _) :: _, _, _, e, _ => by cases e
  | .t (.str _) :: _, _, _, e, _ => by cases e
  | .t (.tup _) :: _, _, _, e, _ => by cases e
  | .lst _ :: _, _, _, e, _ => by cases e
  | .frz _ :: _, _, _, e, _ => by cases e
  | .scr _ :: _, _, _, e, _ => by cases e
  | .tupM _ :: _, _, _, e, _ => by cases e
def fAnyL : FN := fun ds Q => ∃ d xs bs, ds = [d] ∧ lits d = some xs ∧ blsD xs = some bs ∧ Q (.t (.bl (bs.any id)))
def fAllL : FN := fun ds Q => ∃ d xs bs, ds = [d] ∧ lits d = some xs ∧ blsD xs = some bs ∧ Q (.t (.bl (bs.all id)))
theorem c_anyL : RN K fAnyL (rAny K) := by
  intro B H vs ds Q' Q k ww h q
  obtain ⟨d, xs, ns, rfl, e, e2, h⟩ := h
  obtain ⟨v, rfl, w⟩ := ww.one
  obtain ⟨a, us, rfl, s, r⟩ := w.lits k e
  have := bls_v e2 r
  subst this
  exact ⟨a, ns, rfl, SqL.of s, q _ _ H (Same.refl _) Fresh.bl h⟩
theorem c_allL : RN K fAllL (rAll K) := by
  intro B H vs ds Q' Q k ww h q
  obtain ⟨d, xs, ns, rfl, e, e2, h⟩ := h
  obtain ⟨v, rfl, w⟩ := ww.one
  obtain ⟨a, us, rfl, s, r⟩ := w.lits k e
  have := bls_v e2 r
  subst this
  exact ⟨a, ns, rfl, SqL.of s, q _ _ H (Same.refl _) Fresh.bl h⟩
end
section
variable {X : Cx} {C : FC} {p : Bool} {pos pp : Pos} {e : Expr} {es : List Expr} {a : AD}
theorem b_anyL (hm : X.mg "any" = none) (hc : X.calm = true) (ha : PA X (e :: es) (LA X.K C p a)) (hg : Gl X "any" := by rfl) (he : starEach (e :: es) X.env = (false, eval e X.env) :: starEach es X.env := by rfl) (hpl : (backTo pos (starEach es X.env)).any (·.1) = false := by rfl) : PE X (.Call (.Name "any" pp) (e :: es) [] pos) (LE X.K C p (dF fAnyL a)) :=
  e_callB (cr_any hc) c_anyL hg hm PyProof.Rows.boot_any ha (by decide) (by decide) he hpl
theorem b_allL (hm : X.mg "all" = none) (hc : X.calm = true) (ha : PA X (e :: es) (LA X.K C p a)) (hg : Gl X "all" := by rfl) (he : starEach (e :: es) X.env = (false, eval e X.env) :: starEach es X.env := by rfl) (hpl : (backTo pos (starEach es X.env)).any (·.1) = false := by rfl) : PE X (.Call (.Name "all" pp) (e :: es) [] pos) (LE X.K C p (dF fAllL a)) :=
  e_callB (cr_all hc) c_allL hg hm PyProof.Rows.boot_all ha (by decide) (by decide) he hpl
end
@[simp] theorem x_blsC {α : Type} {f : α → Bool} {xs : List α} : blsD (xs.map (D.t ∘ fun x => T.bl (f x))) = some (xs.map f) := by
  have := bls_map (xs.map f)
  rw [List.map_map] at this
  exact this
@[simp ↓] theorem x_fAllL {d : D} {Q : D → Prop} : fAllL [d] Q = (match lits d with | some xs => (match blsD xs with | some ns => Q (.t (.bl (ns.all id))) | none => False) | none => False) := by
  have e : fAllL [d] Q = ∃ xs ns, lits d = some xs ∧ blsD xs = some ns ∧ Q (.t (.bl (ns.all id))) := by
    apply propext; constructor
    · rintro ⟨d, xs, ns, e, h⟩; cases e; exact ⟨xs, ns, h⟩
    · rintro ⟨xs, ns, h⟩; exact ⟨d, xs, ns, rfl, h⟩
  rw [e]
  apply propext; constructor
  · rintro ⟨xs, ns, h1, h2, h3⟩; rw [h1]; simp only [h2]; exact h3
  · intro h
    split at h
    · split at h
      · exact ⟨_, _, by assumption, by assumption, h⟩
      · cases h
    · cases h
@[simp ↓] theorem x_fAnyL {d : D} {Q : D → Prop} : fAnyL [d] Q = (match lits d with | some xs => (match blsD xs with | some ns => Q (.t (.bl (ns.any id))) | none => False) | none => False) := by
  have e : fAnyL [d] Q = ∃ xs ns, lits d = some xs ∧ blsD xs = some ns ∧ Q (.t (.bl (ns.any id))) := by
    apply propext; constructor
    · rintro ⟨d, xs, ns, e, h⟩; cases e; exact ⟨xs, ns, h⟩
    · rintro ⟨xs, ns, h⟩; exact ⟨d, xs, ns, rfl, h⟩
  rw [e]
  apply propext; constructor
  · rintro ⟨xs, ns, h1, h2, h3⟩; rw [h1]; simp only [h2]; exact h3
  · intro h
    split at h
    · split at h
      · exact ⟨_, _, by assumption, by assumption, h⟩
      · cases h
    · cases h
end Dn

set_option Elab.async false
set_option linter.all false
set_option maxRecDepth 100000
set_option maxHeartbeats 2000000
/-! Gn20: a generator expression of two clauses: its run. -/
namespace L2
open PySem PySem.Spec PyProof.Rows
abbrev gx2 (elt tg iter : Expr) (ifs : List Expr) (tg1 iter1 : Expr) (ifs1 : List Expr) (scope : Scope) (pos : Pos) : Expr := .GeneratorExp elt (⟨tg, iter, ifs, 0⟩ :: [⟨tg1, iter1, ifs1, 0⟩]) scope pos
theorem compTurn_gx2_out (elt tg iter : Expr) (ifs : List Expr) (tg1 iter1 : Expr) (ifs1 : List Expr) (scope : Scope) (pos : Pos) (it acc : Value) (env : Env) :
    compTurn (gx2 elt tg iter ifs tg1 iter1 ifs1 scope pos) 0 it acc env = (do
      standAt iter.pos
      match ← pyNext it with
      | none => pure (.done .next)
      | some v =>
        letOwnedTupleGo tg it v
        assign tg env v
        let mut ok := true
        for c in ifs do
          if ok then ok ← isTrue c env (eval c env)
        if ok then
          let x ← eval iter1 env
          standAt iter1.pos
          let x ← foldedSetIterable iter1 env x
          let _ ← runOwn (.compStart (gx2 elt tg iter ifs tg1 iter1 ifs1 scope pos) 1 (← holding [x] (pyIter x)) acc env) env
        again (.compLoop (gx2 elt tg iter ifs tg1 iter1 ifs1 scope pos) 0 it acc env)) := by rfl
theorem compTurn_gx2_in (elt tg iter : Expr) (ifs : List Expr) (tg1 iter1 : Expr) (ifs1 : List Expr) (scope : Scope) (pos : Pos) (it acc : Value) (env : Env) :
    compTurn (gx2 elt tg iter ifs tg1 iter1 ifs1 scope pos) 1 it acc env = (do
      standAt iter1.pos
      match ← pyNext it with
      | none => pure (.done .next)
      | some v =>
        letOwnedTupleGo tg1 it v
        assign tg1 env v
        let mut ok := true
        for c in ifs1 do
          if ok then ok ← isTrue c env (eval c env)
        if ok then
          (do let v ← eval elt env; standAt elt.pos; let _ ← yieldOut env v)
        again (.compLoop (gx2 elt tg iter ifs tg1 iter1 ifs1 scope pos) 1 it acc env)) := by rfl
/-- the same run elsewhere -/
theorem Inv.around {X : Cx} {pins : List (Addr × Obj)} {σ : St} {H : Hp} {s : Shared} {A1 : Around} (I : Inv X pins σ H s) (h1 : A1.handled = none) (h2 : A1.frames = some X.stack) : Inv { X with A := A1 } pins σ H s :=
  ⟨{ I.ok with hd := fun _ => h1, frames := h2 }, I.os, I.bare, I.base, I.loc, I.cell, I.free, I.freeC, I.pin, I.hok, I.len⟩
theorem Inv.unaround {X : Cx} {pins : List (Addr × Obj)} {σ : St} {H : Hp} {s : Shared} {A1 : Around} (I : Inv { X with A := A1 } pins σ H s) (h1 : X.A.handled = none) (h2 : X.A.frames = some X.stack) : Inv X pins σ H s :=
  ⟨{ I.ok with hd := fun _ => h1, frames := h2 }, I.os, I.bare, I.base, I.loc, I.cell, I.free, I.freeC, I.pin, I.hok, I.len⟩
section
variable {X : Cx} {elt tg iter tg1 iter1 : Expr} {ifs ifs1 : List Expr} {scope : Scope} {pos : Pos} {it : Addr} {fp : List Addr} {tn : Nat → Heap → Prop} {J : It} {A0 A1 : Around} {g g1 : TG} {tt tt1 : TT} {te : TE} {Out : OutP} {Fin : List V → Hp → Prop} {CP : ConsP} {σ0 : St} {own vs1 : List Nat} {W : Nat → Nat → List V → Hp → Prop} {wi1 : TI}
theorem seg_gx2_in {it1 : Addr} {fp1 : List Addr} {tn1 : Nat → Heap → Prop} {J1 : It} {σ2 : St} {ip : List (Addr × Obj)} {F : Frame} {W1 : Nat → Nat → List V → Hp → Prop} {Nx : List V → Hp → Prop}
    (T1 : Turn X.prog X.w X.K tg1 J1 fp1 it1 tn1) (hc : X.calm = true) (hpn : X.pn = []) (hxe : ∀ e s, ¬ X.xe e s) (hco : X.env.scope.isCoroutine = false)
    (hover : A0.over (.compLoop (gx2 elt tg iter ifs tg1 iter1 ifs1 scope pos) 1 (.ref it1) .none X.env) [F] = X.A) (hsplit : splitAtGen [F] = none) (hguard : [F].any Frame.guarded = false)
    (hip0 : ∀ q ∈ ip, q.1 < X.s_0.heap.objs.size) (ho : OutOk Out) (pg : PG X tg1 g1) (pt : PTs X ifs1 tt1) (pe : PE X elt te)
    (turn : ∀ j m ys H, W1 j m ys H → (J1.stop j H ∧ Nx ys H) ∨ (J1.go j H ∧ ∃ Nx1 : List V → Hp → Prop, (∀ ys' H', Nx1 ys' H' → ∃ m', m' < m ∧ W1 (j + 1) m' ys' H') ∧ ∀ x H', J1.yld j H x H' → g1 x (wipe σ2 vs1) H' fun σ3 H5 => wipe σ3 vs1 = wipe σ2 vs1 ∧ tt1 σ3 H5 fun b H6 =>
      if b = true then te σ3 H6 fun y H7 => Out ys y H7 (Nx1 (ys ++ [y]) H7) else Nx1 ys H6))
    (K : ∀ (n : Nat) (ys : List V) (cp : List (Addr × Obj)) (s₀ s : Shared) (H : Hp), n + ys.length = sizeLine → CP ys cp → (∀ p ∈ cp, X.s_0.heap.objs.size ≤ p.1) → (∀ p ∈ cp, s₀.heap.get? p.1 = some p.2) → Inv X (cp ++ ip) (wipe σ2 vs1) H s → Nx ys H →
      Seg (model X.prog X.w) A0 (RG X CP Fin) (YG X CP Out) n s₀ (.compLoop (gx2 elt tg iter ifs tg1 iter1 ifs1 scope pos) 1 (.ref it1) .none X.env) (leafOf (.ok .next)) [F] s) :
    ∀ (m j n : Nat) (ys : List V) (cp : List (Addr × Obj)) (s₀ s : Shared) (H : Hp), n + ys.length = sizeLine → W1 j m ys H → CP ys cp → (∀ p ∈ cp, X.s_0.heap.objs.size ≤ p.1) → (∀ p ∈ cp, s₀.heap.get? p.1 = some p.2) → Inv X (cp ++ ip) (wipe σ2 vs1) H s → tn1 j s.heap → (∀ b ∈ fp1, FpOk X (cp ++ ip) H b) →
      Seg (model X.prog X.w) A0 (RG X CP Fin) (YG X CP Out) n s₀ (.compLoop (gx2 elt tg iter ifs tg1 iter1 ifs1 scope pos) 1 (.ref it1) .none X.env)
        ((model X.prog X.w).den (.compLoop (gx2 elt tg iter ifs tg1 iter1 ifs1 scope pos) 1 (.ref it1) .none X.env)) [F] s := by
  intro m
  induction m using Nat.strongRecOn with
  | ind m ih =>
    intro j n ys cp s₀ s H hnn w hcp hap h00 I st hf
    have stat : ∀ {H' : Hp}, (∀ b ∈ fp1, H' b = none) → ∀ b ∈ fp1, FpOk X (cp ++ ip) H' b := fun hn b hb => ⟨hn b hb, (hf b hb).2⟩
    show Seg _ A0 _ _ _ s₀ _ ((compTurn (gx2 elt tg iter ifs tg1 iter1 ifs1 scope pos) 1 (.ref it1) .none X.env).onRaise (fun x => do noteFrame x X.env; theTreesLotGoes x)) [F] s
    rw [compTurn_gx2_in, Sem.onRaise_eq_wrap]
    refine seg_bind_wrap (wpAny_standAt ?_)
    refine seg_bind_wrap ?_
    rw [hover]
    rcases turn j m ys H w with ⟨stop, fin⟩ | ⟨go, Nx1, hNx, step⟩
    · have td := T1.done X rfl rfl rfl hc j (cp ++ ip) s _ H (fun _ _ => False) I hf st stop
      refine thnF td fun r s6 ⟨hr, I6⟩ => ?_
      subst hr
      exact K n ys cp s₀ s6 H hnn hcp hap h00 I6 fin
    · have ti := T1.item X rfl rfl rfl hc j (cp ++ ip) s _ H (fun _ _ => False) I hf st go
      refine thnF ti fun r s6 ⟨u, hr, h6⟩ => ?_
      subst hr
      refine seg_bind_wrap ?_
      rw [hover]
      refine thnF h6 fun _ s7 ⟨x, H7, I7, r7, y7, st7, n7⟩ => ?_
      have I7' := I7.pinned (stat n7) (T1.obj _ _ st7)
      refine seg_bind_wrap ?_
      rw [hover]
      refine wpAny_mono (pg.run _ s7 _ H7 x u _ I7' r7 (step x H7 y7)) (fun _ s8 ⟨σ8, H8, I8, hw8, q8⟩ => ?_) fun e s' z => (hxe e s' z).elim
      refine seg_bind_wrap ?_
      rw [hover]
      refine wpAny_mono (pt.run _ s8 σ8 H8 _ I8 q8) (fun b s9 ⟨H9, I9, q9⟩ => ?_) fun e s' z => (hxe e s' z).elim
      have hl : (wipe σ2 vs1).length = σ8.length := by rw [← hw8, wipe_length]
      have hfc : ∀ q ∈ pinsAt fp1 s7.heap, ∀ p ∈ cp, q.1 ≠ p.1 := fun q hq p hp e => (hf q.1 (of_pinsAt hq).1).2.2.2.2.2 p (List.mem_append_right _ (List.mem_append_left _ hp)) e.symm
      have hic : ∀ q ∈ ip, ∀ p ∈ cp, q.1 ≠ p.1 := fun q hq p hp e => by
        have h1 := hap p hp
        have h2 := hip0 q hq
        rw [e] at h2
        exact absurd (Nat.lt_of_lt_of_le h2 h1) (Nat.lt_irrefl _)
      have fin : ∀ {n' : Nat} {ys' : List V} {cp' : List (Addr × Obj)} {s₀' s' : Shared} {H' : Hp}, n' + ys'.length = sizeLine → CP ys' cp' → (∀ p ∈ cp', X.s_0.heap.objs.size ≤ p.1) → cp'.map (·.1) = cp.map (·.1) → (∀ p ∈ cp', s₀'.heap.get? p.1 = some p.2) → Inv X (cp' ++ (ip ++ pinsAt fp1 s7.heap)) σ8 H' s' → Nx1 ys' H' →
          Seg (model X.prog X.w) A0 (RG X CP Fin) (YG X CP Out) n' s₀' (.compLoop (gx2 elt tg iter ifs tg1 iter1 ifs1 scope pos) 1 (.ref it1) .none X.env)
            ((model X.prog X.w).den (.compLoop (gx2 elt tg iter ifs tg1 iter1 ifs1 scope pos) 1 (.ref it1) .none X.env)) [F] s' := fun {n' ys' cp' s₀' s' H'} hn' hcp' hap' hfst h00' I' nx => by
        obtain ⟨m', hm, w'⟩ := hNx ys' H' nx
        have pin' : ∀ b ∈ fp1, ∀ o, s7.heap.get? b = some o → s'.heap.get? b = some o ∧ H' b = none := fun b hb o e =>
          let z := I'.pin (b, o) (List.mem_append_right _ (List.mem_append_right _ (List.mem_append_right _ (mem_pinsAt hb e))))
          ⟨z.1, z.2.1⟩
        refine ih m' hm (j + 1) n' ys' cp' s₀' s' H' hn' w' hcp' hap' h00' ((I'.pins_of fun p hp => ?_).weak hl fun j v e => ?_) (T1.keep _ _ _ st7 fun b hb o e => (pin' b hb o e).1) fun b hb => ?_
        · rcases List.mem_append.mp hp with hp | hp
          · exact I'.pin p (List.mem_append_right _ (List.mem_append_left _ hp))
          · exact I'.pin p (List.mem_append_right _ (List.mem_append_right _ (List.mem_append_left _ hp)))
        · rw [← hw8] at e
          exact (wipe_some e).1
        · obtain ⟨o, e, _⟩ := T1.obj _ _ st7 b hb
          obtain ⟨f0, f1, f2, f3, f5, f6⟩ := hf b hb
          refine ⟨(pin' b hb o e).2, f1, f2, f3, f5, fun p hp => ?_⟩
          rcases List.mem_append.mp hp with hp | hp
          · exact f6 p (List.mem_append_left _ hp)
          · rcases List.mem_append.mp hp with hp | hp
            · have hm : p.1 ∈ cp.map (·.1) := by rw [← hfst]; exact List.mem_map.mpr ⟨p, hp, rfl⟩
              obtain ⟨p0, hp0, e0⟩ := List.mem_map.mp hm
              rw [← e0]
              exact f6 p0 (List.mem_append_right _ (List.mem_append_left _ hp0))
            · exact f6 p (List.mem_append_right _ (List.mem_append_right _ hp))
      have asc : ∀ {cp' : List (Addr × Obj)} {σ' : St} {H' : Hp} {s' : Shared}, Inv X ((cp' ++ ip) ++ pinsAt fp1 s7.heap) σ' H' s' → Inv X (cp' ++ (ip ++ pinsAt fp1 s7.heap)) σ' H' s' := fun {cp' σ' H' s'} h => by rw [← List.append_assoc]; exact h
      cases b with
      | false =>
        simp only [Bool.false_eq_true, if_false] at q9 ⊢
        exact seg_again rfl (fin hnn hcp hap rfl h00 (asc I9) q9)
      | true =>
        simp only [if_true] at q9 ⊢
        have hy : ∀ v, yieldOut X.env v = yieldValue v := fun v => by simp only [yieldOut, hco, Bool.false_eq_true, if_false]
        simp only [hy]
        rw [Sem.bind_eq_wrap', Sem.bind_eq_wrap', Sem.wrap_wrap, Sem.wrap_wrap]
        refine seg_wrap ?_
        rw [hover]
        refine wpAny_mono (pe.run _ s9 σ8 H9 _ I9 q9) (fun z s10 ⟨yv, H10, I10, r10, out⟩ => ?_) fun e s' z => (hxe e s' z).elim
        have hlt := ho.lt _ _ _ _ out
        obtain ⟨n1, rfl⟩ : ∃ n1, n = n1 + 1 := ⟨n - 1, by omega⟩
        refine seg_at (seg_yield hsplit rfl hguard ⟨ys, yv, σ8, H10, cp, by omega, r10, hcp, hap, (asc I10).pins_of fun p hp => (asc I10).pin p (List.mem_append_right _ (List.mem_append_left _ hp)), h00, ho.mono _ _ _ _ _ (fun nx s' cp' hs hcp' => ?_) out⟩)
        refine seg_again rfl (fin (by rw [List.length_append]; simp; omega) hcp' (fun p hp => ?_) hs.fst (fun p hp => (hs.pin p hp).1) ((asc I10).slept hpn hap (fun q hq p hp => ?_) hs) nx)
        · have hm : p.1 ∈ cp.map (·.1) := by rw [← hs.fst]; exact List.mem_map.mpr ⟨p, hp, rfl⟩
          obtain ⟨p0, hp0, e⟩ := List.mem_map.mp hm
          rw [← e]; exact hap p0 hp0
        · rcases List.mem_append.mp hq with hq | hq
          · exact hic q hq p hp
          · exact hfc q hq p hp
end
end L2
namespace L2
open PySem PySem.Spec PyProof.Rows
theorem over_gx2 {A0 : Around} {elt tg iter tg1 iter1 : Expr} {ifs ifs1 : List Expr} {scope : Scope} {pos p : Pos} {it it1 : Addr} {env : Env} {k : Result → Sem PySem.Fin} {g : Bool} {l : List Value} : A0.over (.compLoop (gx2 elt tg iter ifs tg1 iter1 ifs1 scope pos) 1 (.ref it1) .none env) [.ret k none g l (.compLoop (gx2 elt tg iter ifs tg1 iter1 ifs1 scope pos) 0 (.ref it) .none env) p []] = A0.deeper env := by
  obtain ⟨hd, d, fr, gs, u⟩ := A0
  simp [Around.over, Around.deeper, marksOver, frameCount, unitsOf, envsOf, guardsOf, pushEnvs, pushGuards, Code.envs, Code.env?, Code.isFrame, Code.guards, Code.isGuard, Code.weight, Code.frames, Code.isCreation, Code.isCaller, Code.cUnits, Frame.where_, Frame.marks, markOver]
theorem over_gx2o {A : Around} {elt tg iter tg1 iter1 : Expr} {ifs ifs1 : List Expr} {scope : Scope} {pos : Pos} {it : Value} {env : Env} : A.over (.compLoop (gx2 elt tg iter ifs tg1 iter1 ifs1 scope pos) 0 it .none env) [] = A.deeper env := by
  first
    | rfl
    | (obtain ⟨hd, d, fr, gs, u⟩ := A; simp [Around.over, Around.deeper, marksOver, frameCount, unitsOf, envsOf, guardsOf, pushEnvs, pushGuards, Code.envs, Code.env?, Code.isFrame, Code.guards, Code.isGuard, Code.weight, Code.frames, Code.isCreation, Code.isCaller, Code.cUnits])
section
variable {X : Cx} {elt tg iter tg1 iter1 : Expr} {ifs ifs1 : List Expr} {scope : Scope} {pos : Pos} {it : Addr} {fp : List Addr} {tn : Nat → Heap → Prop} {J : It} {A0 : Around} {g g1 : TG} {tt tt1 : TT} {te : TE} {Out : OutP} {Fin : List V → Hp → Prop} {CP : ConsP} {σ0 : St} {own vs1 : List Nat} {W : Nat → Nat → List V → Hp → Prop} {wi1 : TI}
theorem seg_runOwn {M : Model} {A : Around} {R : GenEnd} {Y : Protocol} {n : Nat} {s₀ s : Shared} {c c1 : Code} {env : Env} {K : Flow → Sem PySem.Fin} {K' : PySem.Fin → Sem PySem.Fin} {H' : Value → Sem PySem.Fin} {gd lv}
    (h : ∀ (k : Result → Sem PySem.Fin) (g : Bool) (l : List Value) (p : Pos), (∀ n' s₀' c' s', Seg M A R Y n' s₀' c ((K .next).wrap K' H' gd lv) [] s' → Seg M A R Y n' s₀' c' (leafOf (.ok .next)) [.ret k none g l c p []] s') → g = gd false → Seg M A R Y n s₀ c1 (M.den c1) [.ret k none g l c p []] s) :
    Seg M A R Y n s₀ c ((runOwn c1 env >>= K).wrap K' H' gd lv) [] s := by
  refine seg_call fun p => h _ _ _ _ (fun n' s₀' c' s' q => ?_) rfl
  exact seg_leaf (.ok .next) q
/-- what the second clause does from here -/
def Inner (g1 : TG) (tt1 : TT) (te : TE) (vs1 : List Nat) (σ2 : St) (Out : OutP) (Nx : List V → Hp → Prop) (ys : List V) (J1 : It) (H4 : Hp) : Prop := ∃ W1 : Nat → Nat → List V → Hp → Prop, (∃ m1, W1 0 m1 ys H4) ∧
  ∀ j m ys H, W1 j m ys H → (J1.stop j H ∧ Nx ys H) ∨ (J1.go j H ∧ ∃ Nx1 : List V → Hp → Prop, (∀ ys' H', Nx1 ys' H' → ∃ m', m' < m ∧ W1 (j + 1) m' ys' H') ∧ ∀ x H', J1.yld j H x H' → g1 x (wipe σ2 vs1) H' fun σ3 H5 => wipe σ3 vs1 = wipe σ2 vs1 ∧ tt1 σ3 H5 fun b H6 =>
      if b = true then te σ3 H6 fun y H7 => Out ys y H7 (Nx1 (ys ++ [y]) H7) else Nx1 ys H6)
theorem seg_gx2 (T : Turn X.prog X.w X.K tg J fp it tn) (hc : X.calm = true) (hpn : X.pn = []) (hxe : ∀ e s, ¬ X.xe e s) (hover : A0.deeper X.env = X.A) (hex : X.ex = fp) (hco : X.env.scope.isCoroutine = false)
    (hfz : ∀ b ∈ fp, b < X.s_0.heap.objs.size) (ho : OutOk Out) (hv : ∀ i ∈ vs1, i ∈ own) (pg : PG X tg g) (pt : PTs X ifs tt) (pi1 : PI X tg1 iter1 wi1) (pg1 : PG X tg1 g1) (pt1 : PTs X ifs1 tt1) (pe : PE X elt te) (hs1 : ∀ x, foldedSetIterable iter1 X.env x = pure x)
    (turn : ∀ i m ys H, W i m ys H → (J.stop i H ∧ Fin ys H) ∨ (J.go i H ∧ ∃ Nx : List V → Hp → Prop, (∀ ys' H', Nx ys' H' → ∃ m', m' < m ∧ W (i + 1) m' ys' H') ∧ ∀ x H', J.yld i H x H' → g x (wipe σ0 own) H' fun σ2 H2 => wipe σ2 own = wipe σ0 own ∧ tt σ2 H2 fun b H3 =>
      if b = true then wi1 σ2 H3 (Inner g1 tt1 te vs1 σ2 Out Nx ys) else Nx ys H3)) :
    ∀ (m i n : Nat) (ys : List V) (cp : List (Addr × Obj)) (s₀ s : Shared) (H : Hp), n + ys.length = sizeLine → W i m ys H → CP ys cp → (∀ p ∈ cp, X.s_0.heap.objs.size ≤ p.1) → (∀ p ∈ cp, s₀.heap.get? p.1 = some p.2) → Inv X cp (wipe σ0 own) H s → tn i s.heap → (∀ b ∈ fp, H b = none) →
      Seg (model X.prog X.w) A0 (RG X CP Fin) (YG X CP Out) n s₀ (.compLoop (gx2 elt tg iter ifs tg1 iter1 ifs1 scope pos) 0 (.ref it) .none X.env)
        ((model X.prog X.w).den (.compLoop (gx2 elt tg iter ifs tg1 iter1 ifs1 scope pos) 0 (.ref it) .none X.env)) [] s := by
  have stat : ∀ {cp σ' : _} {H' : Hp} {s' : Shared}, (∀ p ∈ cp, X.s_0.heap.objs.size ≤ p.1) → Inv X cp σ' H' s' → (∀ b ∈ fp, H' b = none) → ∀ b ∈ fp, FpOk X cp H' b := fun {cp σ' H' s'} hap I' hn b hb => by
    have hb' : b ∈ X.ex := by rw [hex]; exact hb
    refine ⟨hn b hb, (I'.ok.exf b hb').1, I'.ok.exfs b hb', .inl hb', fun x c e => (I'.ok.exf b hb').2 x c e, fun p hp => ?_⟩
    rw [hpn] at hp
    have h1 := hap p (by simpa using hp)
    have h2 := hfz b hb
    exact fun e => absurd (Nat.lt_of_lt_of_le (by rw [e]; exact h2) h1) (Nat.lt_irrefl _)
  have hover0 : A0.over (.compLoop (gx2 elt tg iter ifs tg1 iter1 ifs1 scope pos) 0 (.ref it) .none X.env) [] = X.A := over_gx2o.trans hover
  intro m
  induction m using Nat.strongRecOn with
  | ind m ih =>
    intro i n ys cp s₀ s H hnn w hcp hap h00 I st hn
    show Seg _ A0 _ _ _ s₀ _ ((compTurn (gx2 elt tg iter ifs tg1 iter1 ifs1 scope pos) 0 (.ref it) .none X.env).onRaise (leaving X.env)) [] s
    rw [compTurn_gx2_out, Sem.onRaise_eq_wrap]
    refine seg_bind_wrap (wpAny_standAt ?_)
    refine seg_bind_wrap ?_
    rw [hover0]
    rcases turn i m ys H w with ⟨stop, fin⟩ | ⟨go, Nx, hNx, step⟩
    · have td := T.done X rfl rfl rfl hc i cp s _ H (fun _ _ => False) I (stat hap I hn) st stop
      refine thnF td fun r s6 ⟨hr, I6⟩ => ?_
      subst hr
      exact seg_end (.ok .next) ⟨rfl, ys, _, H, cp, hnn, hcp, hap, I6, h00, fin⟩
    · have ti := T.item X rfl rfl rfl hc i cp s _ H (fun _ _ => False) I (stat hap I hn) st go
      refine thnF ti fun r s6 ⟨u, hr, h6⟩ => ?_
      subst hr
      refine seg_bind_wrap ?_
      rw [hover0]
      refine thnF h6 fun _ s7 ⟨x, H7, I7, r7, y7, st7, n7⟩ => ?_
      have I7' := I7.pinned (stat hap I7 n7) (T.obj _ _ st7)
      refine seg_bind_wrap ?_
      rw [hover0]
      refine wpAny_mono (pg.run _ s7 _ H7 x u _ I7' r7 (step x H7 y7)) (fun _ s8 ⟨σ8, H8, I8, hw8, q8⟩ => ?_) fun e s' z => (hxe e s' z).elim
      refine seg_bind_wrap ?_
      rw [hover0]
      refine wpAny_mono (pt.run _ s8 σ8 H8 _ I8 q8) (fun b s9 ⟨H9, I9, q9⟩ => ?_) fun e s' z => (hxe e s' z).elim
      have hl8 : (wipe σ0 own).length = σ8.length := by rw [← hw8, wipe_length]
      have hk8 : ∀ (j : Nat) v, (wipe σ0 own)[j]? = some (some v) → σ8[j]? = some (some v) := fun j v e => by
        rw [← hw8] at e
        exact (wipe_some e).1
      have hk9 : ∀ (j : Nat) v, (wipe σ0 own)[j]? = some (some v) → (wipe σ8 vs1)[j]? = some (some v) := fun j v e => by
        rw [← hw8] at e
        obtain ⟨e1, e2⟩ := wipe_some e
        rw [wipe_out fun z => e2 (hv j z)]
        exact e1
      have fin : ∀ {σ9 : St} {n' : Nat} {ys' : List V} {cp' : List (Addr × Obj)} {s₀' s' : Shared} {H' : Hp}, n' + ys'.length = sizeLine → CP ys' cp' → (∀ p ∈ cp', X.s_0.heap.objs.size ≤ p.1) → (∀ p ∈ cp', s₀'.heap.get? p.1 = some p.2) → Inv X (cp' ++ pinsAt fp s7.heap) σ9 H' s' → (wipe σ0 own).length = σ9.length → (∀ (j : Nat) v, (wipe σ0 own)[j]? = some (some v) → σ9[j]? = some (some v)) → Nx ys' H' →
          Seg (model X.prog X.w) A0 (RG X CP Fin) (YG X CP Out) n' s₀' (.compLoop (gx2 elt tg iter ifs tg1 iter1 ifs1 scope pos) 0 (.ref it) .none X.env)
            ((model X.prog X.w).den (.compLoop (gx2 elt tg iter ifs tg1 iter1 ifs1 scope pos) 0 (.ref it) .none X.env)) [] s' := fun {σ9 n' ys' cp' s₀' s' H'} hn' hcp' hap' h00' I' hl hk nx => by
        obtain ⟨m', hm, w'⟩ := hNx ys' H' nx
        have pin' : ∀ b ∈ fp, ∀ o, s7.heap.get? b = some o → s'.heap.get? b = some o ∧ H' b = none := fun b hb o e =>
          let z := I'.pin (b, o) (List.mem_append_right _ (List.mem_append_right _ (mem_pinsAt hb e)))
          ⟨z.1, z.2.1⟩
        refine ih m' hm (i + 1) n' ys' cp' s₀' s' H' hn' w' hcp' hap' h00' ((I'.pins_of fun p hp => I'.pin p (List.mem_append_right _ (List.mem_append_left _ hp))).weak hl hk) (T.keep _ _ _ st7 fun b hb o e => (pin' b hb o e).1) fun b hb => ?_
        obtain ⟨o, e, _⟩ := T.obj _ _ st7 b hb
        exact (pin' b hb o e).2
      cases b with
      | false =>
        simp only [Bool.false_eq_true, if_false] at q9 ⊢
        exact seg_again rfl (fin hnn hcp hap h00 I9 hl8 hk8 q9)
      | true =>
        simp only [if_true] at q9 ⊢
        refine seg_bind_wrap ?_
        rw [hover0]
        refine wpAny_mono (pi1.run _ s9 σ8 H9 _ I9 q9) (fun xv s10 hx => ?_) fun e s' z => (hxe e s' z).elim
        refine seg_bind_wrap (wpAny_standAt ?_)
        refine seg_bind_wrap (wpAny_of_eq (hs1 xv) ?_)
        refine seg_bind_wrap ?_
        rw [hover0]
        refine wpAny_holding (wpAny_mono hx (fun itv s11 h11 => ?_) fun e s' z => (hxe e s' z).elim)
        obtain ⟨it1, fp1, tn1, J1, H11, e1, I11, T1, st11, f11, W1, ⟨m1, w1⟩, turn1⟩ := h11
        subst e1
        refine seg_runOwn fun k1 g1' l1 p1 back hg1 => ?_
        have loop := fun (s₀ : Shared) (h00s : ∀ p ∈ cp, s₀.heap.get? p.1 = some p.2) => seg_gx2_in (X := X) (A0 := A0) (elt := elt) (tg := tg) (iter := iter) (ifs := ifs) (scope := scope) (pos := pos) (CP := CP) (Fin := Fin) (Out := Out) (ip := pinsAt fp s7.heap) (σ2 := σ8) (vs1 := vs1) (Nx := Nx) (W1 := W1) T1 hc hpn hxe hco ((over_gx2 (it := it)).trans hover) rfl (by subst hg1; rfl) (fun q hq => hfz q.1 (of_pinsAt hq).1) ho pg1 pt1 pe turn1
          (fun n' ys' cp' s₀' s' H' hn' hcp' hap' h00' I' nx => back _ _ _ _ (seg_again rfl (fin hn' hcp' hap' h00' I' (hl8.trans (wipe_length σ8 vs1).symm) hk9 nx))) m1 0 n ys cp s₀ s11 H11 hnn w1 hcp hap h00s (I11.weak (wipe_length _ _) (fun j v e => (wipe_some e).1)) st11 f11
        show Seg _ A0 _ _ _ s₀ _ ((compStart (gx2 elt tg iter ifs tg1 iter1 ifs1 scope pos) 1 (.ref it1) .none X.env).onRaise (fun x => do noteFrame x X.env; standAt theWindowsPlace)) _ s11
        unfold compStart
        rw [Sem.onRaise_eq_wrap]
        show Seg _ A0 _ _ _ s₀ _ ((ask >>= _).wrap _ _ _ _) _ s11
        refine seg_bind_wrap (wpAny_askSetting ?_)
        split
        · exact seg_again rfl (loop s₀ h00)
        · first
            | exact seg_bind_wrap (wpAny_rule (seg_bind_wrap (wpAny_standAt (seg_bind_wrap (T1.self _ 0 s11 _ _ st11 (seg_again rfl (loop s₀ h00)))))))
            | (refine seg_bind_wrap (wpAny_rule ?_); show Seg _ A0 _ _ _ s₀ _ ((standAt iter1.pos >>= _).wrap _ _ _ _) _ s11; exact seg_bind_wrap (wpAny_standAt (seg_bind_wrap (T1.self _ 0 s11 _ _ st11 (seg_again rfl (loop s₀ h00))))))
end
end L2

set_option Elab.async false
set_option linter.all false
set_option maxRecDepth 100000
set_option maxHeartbeats 2000000
/-! Gn21: the sum of a generator expression of two clauses. -/
namespace L2
open PySem PySem.Spec PyProof.Rows GenW
/-- the block's readings, in the generator expression's frame -/
structure GBlk2 (X : Cx) (k : Nat) (scope : Scope) (own vs1 : List Nat) (tg elt : Expr) (ifs : List Expr) (tg1 iter1 : Expr) (ifs1 : List Expr) (g : TG) (tt : TT) (wi1 : TI) (g1 : TG) (tt1 : TT) (te : TE) (code : Value) : Prop where
  tg : ∀ (A : Around) (s : Shared) (H : Hp) (L : Addr) (fp : List Addr), Room k A → PG (X.gen A s H scope (genEnvC scope X.env L code builtinsNs) fp) tg g
  ifs : ∀ (A : Around) (s : Shared) (H : Hp) (L : Addr) (fp : List Addr), Room k A → PTs (X.gen A s H scope (genEnvC scope X.env L code builtinsNs) fp) ifs tt
  it1 : ∀ (A : Around) (s : Shared) (H : Hp) (L : Addr) (fp : List Addr), Room k A → PI (X.gen A s H scope (genEnvC scope X.env L code builtinsNs) fp) tg1 iter1 wi1
  tg1 : ∀ (A : Around) (s : Shared) (H : Hp) (L : Addr) (fp : List Addr), Room k A → PG (X.gen A s H scope (genEnvC scope X.env L code builtinsNs) fp) tg1 g1
  ifs1 : ∀ (A : Around) (s : Shared) (H : Hp) (L : Addr) (fp : List Addr), Room k A → PTs (X.gen A s H scope (genEnvC scope X.env L code builtinsNs) fp) ifs1 tt1
  elt : ∀ (A : Around) (s : Shared) (H : Hp) (L : Addr) (fp : List Addr), Room k A → PE (X.gen A s H scope (genEnvC scope X.env L code builtinsNs) fp) elt te
  hv : ∀ i ∈ vs1, i ∈ own
  hs1 : ∀ env x, foldedSetIterable iter1 env x = pure x
def GTurns2 (J : It) (g : TG) (tt : TT) (wi1 : TI) (g1 : TG) (tt1 : TT) (te : TE) (own vs1 : List Nat) (σ : St) (Out : OutP) (Fin : List V → Hp → Prop) (H0 : Hp) : Prop := ∃ W : Nat → Nat → List V → Hp → Prop, (∃ m, W 0 m [] H0) ∧ ∀ i m ys H, W i m ys H →
  (J.stop i H ∧ Fin ys H) ∨ (J.go i H ∧ ∃ Nx : List V → Hp → Prop, (∀ ys' H', Nx ys' H' → ∃ m', m' < m ∧ W (i + 1) m' ys' H') ∧ ∀ x H', J.yld i H x H' → g x (wipe σ own) H' fun σ2 H2 => wipe σ2 own = wipe σ own ∧ tt σ2 H2 fun b H3 =>
    if b = true then wi1 σ2 H3 (Inner g1 tt1 te vs1 σ2 Out Nx ys) else Nx ys H3)
section
variable {X : Cx} {pins : List (Addr × Obj)} {σ : St} {H : Hp}
/-- what a consumer gets: the generator, a context of its run, its first segment -/
theorem gen_wake2 {tg elt iter tg1 iter1 : Expr} {ifs ifs1 : List Expr} {wi1 : TI} {g1 : TG} {tt1 : TT} {vs1 : List Nat} {scope : Scope} {own : List (Str × Nat)} {pos : Pos} {J : It} {u : Value} {s5 : Shared} {g : TG} {tt : TT} {te : TE} {k : Nat} {Out : OutP} {Fin : List V → Hp → Prop} (hc : X.calm = true) (hN : X.N.Nodup) (h00 : (".0" : Str) ∉ X.N) (hco : scope.isCoroutine = false) (ok : BlkOk X.N X.env.scope scope own) {code : Value} (B : GBlk2 X k scope (own.map (·.2)) vs1 tg elt ifs tg1 iter1 ifs1 g tt wi1 g1 tt1 te code) (ho : OutOk Out)
    (G : GenMkM [⟨tg1, iter1, ifs1, 0⟩] X pins σ tg elt iter ifs scope pos J H code u s5) (h : GTurns2 J g tt wi1 g1 tt1 te (own.map (·.2)) vs1 σ Out Fin H) :
    ∃ (a : Addr) (n : Nat) (go : Obj) (c : Code) (sc : Shared) (fp : List Addr), u = .ref a ∧ Inv X pins σ H sc ∧ ExOk X pins fp ∧ sc.heap.objs.size < a ∧ s5.heap.objs.size = a + 1 ∧ s5.heap.IsGen a n ∧ (∀ hh : Heap, hh.get? a = some go → hh.IsGen a n) ∧ s5.heap.get? a = some go ∧ (∀ v, go.data ≠ .cell v) ∧ s5.gens[n]? = some (.fresh c) ∧ s5.os = sc.os ∧ AllBare s5.gens ∧ s5.heap.NoLimit ∧ (∀ b o, sc.heap.get? b = some o → s5.heap.get? b = some o) ∧
      ∀ (A : Around) (s2 : Shared) (CP : ConsP) (cp : List (Addr × Obj)), Room (k + 1) A → A.frames = some X.stack → (∀ b o, s5.heap.get? b = some o → s2.heap.get? b = some o) → s2.os = sc.os → AllBare s2.gens → CP [] cp → (∀ p ∈ cp, s2.heap.get? p.1 = some p.2 ∧ a ≤ p.1 ∧ ∀ v, p.2.data ≠ .cell v) →
        ∃ XG : Cx, XG.outer = X.stack ∧ XG.H_0 = H ∧ XG.s_0 = sc ∧ XG.ex = fp ∧ XG.prog = X.prog ∧ XG.w = X.w ∧ XG.pn = [] ∧ Seg (model X.prog X.w) A (RG XG CP Fin) (YG XG CP Out) sizeLine s2 c ((model X.prog X.w).den c) [] s2 := by
  obtain ⟨it, fp, tn, s4, h1, tk, I4, T, st4, f4, hn, hs, rfl, rfl⟩ := G
  obtain ⟨W, ⟨m0, w0⟩, turn⟩ := h
  have kp1 : ∀ b o, s4.heap.get? b = some o → h1.get? b = some o := fun b o e => hs.extBut b o (Nat.ne_of_lt (Heap.lt_size e)) (pushCells_keeps _ _ _ _ (Heap.get?_push_of_some _ e))
  have kp5 : ∀ b o, s4.heap.get? b = some o → (h1.push (genObj s4.gens.size tk X.env.qual)).get? b = some o := fun b o e => Heap.get?_push_of_some _ (kp1 b o e)
  have lt4 : s4.heap.objs.size < h1.objs.size := hn.lt
  have gp : (h1.push (genObj s4.gens.size tk X.env.qual)).get? h1.objs.size = some (genObj s4.gens.size tk X.env.qual) := Heap.get?_push_size _ rfl
  have isg : ∀ hh : Heap, hh.get? h1.objs.size = some (genObj s4.gens.size tk X.env.qual) → hh.IsGen h1.objs.size s4.gens.size := fun hh e => ⟨_, _, _, e, rfl, rfl, rfl⟩
  refine ⟨h1.objs.size, s4.gens.size, genObj s4.gens.size tk X.env.qual, _, s4, fp, rfl, I4, fun b hb => ?_, lt4, Heap.size_push .., isg _ gp, isg, gp, (fun v q => by cases q), Array.getElem?_push_size .., rfl, AllBare.push I4.bare rfl, I4.nolimit.keeps kp5, kp5, ?_⟩
  · obtain ⟨⟨f0, f1, f2, f3, f5, f6⟩, _⟩ := f4 b hb
    exact ⟨f3, f1, f5, f6⟩
  intro A s2 CP cp hr hfr hk2 hos hba hcp hcp2
  generalize hcenv : genEnvC scope X.env s4.heap.objs.size code builtinsNs = cenv
  have hsc : cenv.scope = scope := by rw [← hcenv]; rfl
  have hcl : cenv.cells = cellsFrom (cenv.locals + 1) scope.names (cloFrom X.env.cells scope.names []) := by rw [← hcenv]; rfl
  have hdp : Room k (A.deeper cenv) := hr.deeper cenv
  have I0 : Inv (X.gen (A.deeper cenv) s4 H scope cenv fp) cp (wipe σ (own.map (·.2))) H s2 := gen_start (it := .ref it) I4 ok hN f4 hcenv hdp.hd (Around.frames_deeper hfr) hn h00 hs (fun b o e => hk2 b o (Heap.get?_push_of_some _ e)) hos hba hcp2
  refine ⟨X.gen (A.deeper cenv) s4 H scope cenv fp, rfl, rfl, rfl, rfl, rfl, rfl, rfl, ?_⟩
  have st2 : tn 0 s2.heap := T.keep _ _ _ st4 fun b _ o e => hk2 b o (kp5 b o e)
  have hap : ∀ p ∈ cp, s4.heap.objs.size ≤ p.1 := fun p hp => Nat.le_trans (Nat.le_of_lt lt4) (hcp2 p hp).2.1
  have h2s : ∀ p ∈ cp, s2.heap.get? p.1 = some p.2 := fun p hp => (hcp2 p hp).1
  have loop := fun (s₀ : Shared) (h00s : ∀ p ∈ cp, s₀.heap.get? p.1 = some p.2) => seg_gx2 (X := X.gen (A.deeper cenv) s4 H scope cenv fp) (A0 := A) (elt := elt) (iter := iter) (iter1 := iter1) (pos := pos) (scope := scope) (CP := CP) (fp := fp) T rfl rfl (fun _ _ z => z) rfl rfl (by show cenv.scope.isCoroutine = _; rw [hsc]; exact hco) (fun b hb => (f4 b hb).2) ho B.hv (by have := B.tg _ s4 H s4.heap.objs.size fp hdp; rw [hcenv] at this; exact this) (by have := B.ifs _ s4 H s4.heap.objs.size fp hdp; rw [hcenv] at this; exact this) (by have := B.it1 _ s4 H s4.heap.objs.size fp hdp; rw [hcenv] at this; exact this) (by have := B.tg1 _ s4 H s4.heap.objs.size fp hdp; rw [hcenv] at this; exact this) (by have := B.ifs1 _ s4 H s4.heap.objs.size fp hdp; rw [hcenv] at this; exact this) (by have := B.elt _ s4 H s4.heap.objs.size fp hdp; rw [hcenv] at this; exact this) (B.hs1 _) turn
    m0 0 sizeLine [] cp s₀ s2 H rfl w0 hcp hap h00s I0 st2 (fun b hb => (f4 b hb).1.1)
  show Seg _ A _ _ _ s2 _ ((compStart (gx2 elt tg iter ifs tg1 iter1 ifs1 scope pos) 0 (.ref it) .none cenv).onRaise (leaving cenv)) [] s2
  unfold compStart
  rw [Sem.onRaise_eq_wrap]
  show Seg _ A _ _ _ s2 _ ((ask >>= _).wrap _ _ _ _) [] s2
  refine seg_bind_wrap (wpAny_askSetting ?_)
  split
  · exact seg_again rfl (loop s2 h2s)
  · first
      | exact seg_bind_wrap (wpAny_rule (seg_bind_wrap (wpAny_standAt (seg_bind_wrap (T.self _ 0 s2 _ _ st2 (seg_again rfl (loop s2 h2s)))))))
      | (refine seg_bind_wrap (wpAny_rule ?_); show Seg _ A _ _ _ s2 _ ((standAt iter.pos >>= _).wrap _ _ _ _) [] s2; exact seg_bind_wrap (wpAny_standAt (seg_bind_wrap (T.self _ 0 s2 _ _ st2 (seg_again rfl (loop s2 h2s))))))
theorem call_sum_gen2 {pins : List (Addr × Obj)} {σ : St} {tg elt iter tg1 iter1 : Expr} {ifs ifs1 : List Expr} {wi1 : TI} {g1 : TG} {tt1 : TT} {vs1 : List Nat} {scope : Scope} {own : List (Str × Nat)} {pos : Pos} {J : It} {u : Value} {s5 : Shared} {g : TG} {tt : TT} {te : TE} {k : Nat} {Fin : List V → Hp → Prop} {Q' E : Value → Shared → Prop} (hr : Room (k + 3) X.A) (hc : X.calm = true) (hN : X.N.Nodup) (h00 : (".0" : Str) ∉ X.N) (hco : scope.isCoroutine = false) (ok : BlkOk X.N X.env.scope scope own) {code : Value} (B : GBlk2 X k scope (own.map (·.2)) vs1 tg elt ifs tg1 iter1 ifs1 g tt wi1 g1 tt1 te code)
    (G : GenMkM [⟨tg1, iter1, ifs1, 0⟩] X pins σ tg elt iter ifs scope pos J H code u s5) (h : GTurns2 J g tt wi1 g1 tt1 te (own.map (·.2)) vs1 σ outI Fin H)
    (hF : ∀ H' s' (ns : List Int) (t : Tok), Inv X pins σ H' s' → Fin (ns.map V.int) H' → Q' (.int ns.sum t) s') :
    wpAny (model X.prog X.w) X.A (call (.builtin "sum") [u]) Q' E s5 := by
  obtain ⟨a, n, go, c, sc, fp, rfl, I, hex, lt, sz, ig, igo, gget, gnc, gs, os, bare, lim, kp, wake⟩ := gen_wake2 hc hN h00 hco ok B outI_ok G h
  have hcl : cStatics < s5.heap.objs.size := let ⟨_, hn, _⟩ := lim; hn.lt
  refine call_function_tree F.kind_sum F.plain_sum F.entry_sum (F.args_sum1 _) ?_
  unfold Builtin.«sum»
  simp only [List.length_cons, List.length_nil]
  rw [if_neg (by decide)]
  refine wpAny_bind (wpAny_of_eq (show Builtin.Builtins.bindParams "sum" ["start"] 0 { } = pure [none] from rfl) ?_)
  refine wpAny_bind (wpAny_pyIter_gen ig ?_)
  refine wpAny_bind (wpAny_mkInt ?_)
  refine wpAny_bind (wpAny_pure ?_)
  simp only [List.forIn_cons, List.forIn_nil]
  refine wpAny_bind (wpAny_bind (wpAny_bind (wpAny_isInstance (T := "int") (b := false) (typeIs_int _ _ _) PySem.sub_int_str ?_)))
  simp only [Bool.false_eq_true, if_false]
  refine wpAny_pure (wpAny_bind (wpAny_bind (wpAny_isInstance (T := "int") (b := false) (typeIs_int _ _ _) PySem.sub_int_bytes ?_)))
  simp only [Bool.false_eq_true, if_false]
  refine wpAny_pure (wpAny_bind (wpAny_bind (wpAny_isInstance (T := "int") (b := false) (typeIs_int _ _ _) PySem.sub_int_bytearray ?_)))
  simp only [Bool.false_eq_true, if_false]
  refine wpAny_pure (wpAny_pure ?_)
  refine wpAny_bind (wpAny_newObj_type ?_)
  refine wpAny_pure ⟨plainId_quiet F.plain_sum_loop _, ?_⟩
  have kp6 : ∀ b o, s5.heap.get? b = some o → (s5.heap.push { cls := .type "list", data := .seq #[Value.int 0 s5.toks] }).get? b = some o := fun b o e => Heap.get?_push_of_some _ e
  have hS : (s5.heap.push { cls := .type "list", data := .seq #[Value.int 0 s5.toks] }).get? s5.heap.objs.size = some (accObj 0 s5.toks 0) := Heap.get?_push_size _ rfl
  have haS : a ≠ s5.heap.objs.size := by rw [sz]; exact Nat.ne_of_lt (Nat.lt_succ_self _)
  obtain ⟨XG, x1, x2, x3, x4, x5, x6, x7, seg⟩ := wake X.A.in1.in1 ({ s5 with heap := s5.heap.push { cls := .type "list", data := .seq #[Value.int 0 s5.toks] }, toks := s5.toks + 1 }.setGen n .running) (CPs a go s5.heap.objs.size) [(a, go), (s5.heap.objs.size, accObj 0 s5.toks 0)] (Room.in1 (k := k + 1) (Room.in1 (k := k + 2) hr)) I.ok.frames kp6 os (allBare_setGen (s := { s5 with heap := s5.heap.push { cls := .type "list", data := .seq #[Value.int 0 s5.toks] }, toks := s5.toks + 1 }) bare rfl) ⟨[], 0, s5.toks, 0, rfl, rfl, rfl⟩ (fun p hp => by
    rcases List.mem_cons.mp hp with rfl | hp
    · exact ⟨kp6 _ _ gget, Nat.le_refl _, gnc⟩
    · obtain rfl := List.mem_singleton.mp hp
      exact ⟨hS, by rw [sz]; exact Nat.le_succ _, fun v q => by cases q⟩)
  have x : XGOk X XG H sc fp := ⟨x1, x2, x3, x4, x5, x6, x7⟩
  have inv : ∀ {H' : Hp} {s' : Shared}, Ended X H sc fp H' s' → Inv X pins σ H' s' := fun e => I.call' (ch := fp) e.os e.un e.hok e.bare hex
  have lp := fun Res hF => sum_loop (Fin := Fin) (Res := Res) (A := X.A) (go := go) (S := s5.heap.objs.size) x hr.hd (by have := hr.dp; omega) haS (Nat.ne_of_lt hcl) igo gnc hF sizeLine { s5 with heap := s5.heap.push { cls := .type "list", data := .seq #[Value.int 0 s5.toks] }, toks := s5.toks + 1 } 0 s5.toks 0 0 (.inl rfl) (ig.keeps kp6) (lim.keeps kp6) hS ⟨_, gs, rfl, by rw [x5, x6]; exact seg⟩
  rw [x5, x6] at lp
  exact lp _ fun H' s' ns t e q => hF H' s' ns t (inv e) q
def tSumG2 (X : Cx) (c P : Addr) (n : Nat) (wi : TI) (g : PGx) (tt : PTx) (wi1 : Addr × Addr → TI) (g1 : PGx) (tt1 : PTx) (te : PEx) (own vs1 : List Nat) : TE := fun σ H Q => wi σ H fun J H1 => (GAt X c P H1 ∧ Dn.TabN (n + 1) H1 P) ∧ ∀ H2 c' P', Grown n c' P' H1 H2 → GTurns2 J (g (c', P')) (tt (c', P')) (wi1 (c', P')) (g1 (c', P')) (tt1 (c', P')) (te (c', P')) own vs1 σ outI (fun ys H' => ∀ ns : List Int, ys = ns.map V.int → Q (.int ns.sum) H') H2
theorem pe_sumG2 {c P : Addr} {n : Nat} {elt tg iter tg1 iter1 : Expr} {ifs ifs1 : List Expr} {wi1 : Addr × Addr → TI} {g1 : PGx} {tt1 : PTx} {vs1 : List Nat} {scope : Scope} {own : List (Str × Nat)} {pos p gpos : Pos} {nm : Str} {wi : TI} {g : PGx} {tt : PTx} {te : PEx} {k : Nat}
    (hr : Room (k + 3) X.A) (hcode : X.env.code = .ref c) (hc : X.calm = true) (hN : X.N.Nodup) (h00 : (".0" : Str) ∉ X.N) (hco : scope.isCoroutine = false) (h0 : scope.names.lookup (".0" : Str) = some NameKind.local) (ok : BlkOk X.N X.env.scope scope own)
    (hi : PI X tg iter wi) (B : ∀ c' P', GBlk2 X k scope (own.map (·.2)) vs1 tg elt ifs tg1 iter1 ifs1 (g (c', P')) (tt (c', P')) (wi1 (c', P')) (g1 (c', P')) (tt1 (c', P')) (te (c', P')) (.ref c')) (hs : ∀ v, genFold iter X.env v = pure v) (hg : Gl X nm) (hmg : X.mg nm = none) (hv : bootBuiltins nm = some (.builtin "sum")) (hnm : nm ≠ "__name__" := by decide) (hdb : (nm == ("__debug__" : Str)) = false := by decide)
    (he : starEach [.GeneratorExp elt (⟨tg, iter, ifs, 0⟩ :: [⟨tg1, iter1, ifs1, 0⟩]) scope gpos] X.env = (false, eval (.GeneratorExp elt (⟨tg, iter, ifs, 0⟩ :: [⟨tg1, iter1, ifs1, 0⟩]) scope gpos) X.env) :: starEach [] X.env := by rfl) : PE X (.Call (.Name nm p) [.GeneratorExp elt (⟨tg, iter, ifs, 0⟩ :: [⟨tg1, iter1, ifs1, 0⟩]) scope gpos] [] pos) (tSumG2 X c P n wi g tt wi1 g1 tt1 te (own.map (·.2)) vs1) := by
  refine ⟨fun pins s σ H Q I hq => ?_⟩
  refine wpAny_Call_Name_kw (ld_blt I hg hmg hv ?_ hnm hdb)
  refine PyProof.Rows.callWith_builtin1 ?_ he rfl
  rw [he]
  show wpAny _ _ (spliced ((false, eval (.GeneratorExp elt (⟨tg, iter, ifs, 0⟩ :: [⟨tg1, iter1, ifs1, 0⟩]) scope gpos) X.env) :: backTo pos (starEach [] X.env))) _ _ s
  refine Calls.spliced_cons (gen_eval hr hcode hco h0 ok hi hs I hq fun J H2 c' P' u s5 q G => ?_)
  refine Calls.spliced_nil ?_
  exact call_sum_gen2 hr hc hN h00 hco ok (B c' P') G q fun H' s' ns t I' q => ⟨.int ns.sum, H', I', ⟨t, rfl⟩, q ns rfl⟩
end
end L2

set_option Elab.async false
set_option linter.all false
set_option maxRecDepth 100000
set_option maxHeartbeats 2000000
/-! Gn22: the same by values. -/
namespace Dn
open PySem PySem.Spec PyProof.Rows L2
def Sum1D (g1 : GD) (q1 : QD) (e : ED) (vs1 : List Nat) (N : List Int → DS → Prop) (its1 : List D) (acc0 : List Int) (ds : DS) : Prop := ∃ Pv1 : Nat → List Int → DS → Prop, Pv1 0 acc0 ds ∧
  (∀ j d acc ds, its1[j]? = some d → Pv1 j acc ds → g1 d ds fun ds1 => q1 ds1 fun b ds2 => if b = true then e ds2 fun y ds3 => ∃ n, y = .t (.int n) ∧ acc.length < sizeLine ∧ Pv1 (j + 1) (acc ++ [n]) (dwipe ds3 vs1) else Pv1 (j + 1) acc (dwipe ds2 vs1)) ∧
  ∀ acc ds, Pv1 its1.length acc ds → N acc ds
def Sum2D (g : GD) (q : QD) (i1 : ID) (g1 : GD) (q1 : QD) (e : ED) (vs vs1 : List Nat) (Q : D → DS → Prop) (its : List D) (ds : DS) : Prop := ∃ Pv : Nat → List Int → DS → Prop, Pv 0 [] ds ∧
  (∀ i d acc ds, its[i]? = some d → Pv i acc ds → g d ds fun ds1 => q ds1 fun b ds2 => if b = true then i1 ds2 fun its1 ds3 => Sum1D g1 q1 e vs1 (fun acc' ds' => Pv (i + 1) acc' (dwipe ds' vs)) its1 acc (dwipe ds3 vs1) else Pv (i + 1) acc (dwipe ds2 vs)) ∧
  ∀ acc ds, Pv its.length acc ds → Q (.t (.int acc.sum)) ds
def dSumG2 (vs vs1 : List Nat) (i : ID) (g : GD) (q : QD) (i1 : ID) (g1 : GD) (q1 : QD) (e : ED) : ED := fun ds Q => i ds fun its ds1 => Sum2D g q i1 g1 q1 e vs vs1 Q its (dwipe ds1 vs)
theorem sum_run2 {X : Cx} {K : PySem.W.Frag} {C : FC} {c P : Addr} {n : Nat} {vs vs1 ws ws1 : List Nat} {i i1 : ID} {g g1 : GD} {q q1 : QD} {e : ED} (hP : GCode X C c P n) (hw : ∀ w ∈ ws, w ∈ vs) (hw1 : ∀ w ∈ ws1, w ∈ vs1) (hv : ∀ u ∈ vs1, u ∈ vs) {σ : L2.St} {H : Hp} {Q : VK} (h : LE K C false (dSumG2 vs vs1 i g q i1 g1 q1 e) σ H Q) :
    tSumG2 X c P n (LI K C false i) (fun x => LG K (C.gb n x) ws g) (fun x => LT K (C.gb n x) false q) (fun x => LI K (C.gb n x) false i1) (fun x => LG K (C.gb n x) ws1 g1) (fun x => LT K (C.gb n x) false q1) (fun x => LE K (C.gb n x) false e) vs vs1 σ H Q := by
  obtain ⟨B, ds, ts, P0, r, nv, t, qq⟩ := h
  have nv := nv rfl
  refine ⟨B, ds, ts, _, r, fun _ => nv, t, fun its ds1 ⟨Pd, z0, zs, zd⟩ H1 B1 J kb1 r1 ok => ⟨hP.tb r1.tb, fun H2 c' P' hT => ?_⟩⟩
  have r1' := r1.grewT hT.2.2.1 hT.2.2.2
  have rb := (r1'.block nv vs).toG (n := n) (x := (c', P')) ⟨hT.1, hT.2.1⟩
  have nn : nonm (strip ts) := nonm_strip ts
  let Pv : Nat → List V → Hp → Prop := fun i ys H => i ≤ its.length ∧ ∃ B2 ds2 acc, ys = acc.map V.int ∧ Same B1 B2 ∧ RS K (C.gb n (c', P')) B2 (wipe σ vs) H ds2 (strip ts) ∧ (∀ i x, ds2[i]? = some (some x) → i ∉ vs) ∧ Pd i acc ds2
  refine ⟨fun i m ys H => m = its.length - i ∧ Pv i ys H, ⟨its.length, by simp, Nat.zero_le _, B1, _, [], rfl, Same.refl _, rb, fun i x e => (dwipe_some e).2, z0⟩, ?_⟩
  rintro i m ys H2 ⟨rfl, hi, B2, ds2, acc, rfl, kb2, r2, hv2, z2⟩
  by_cases hlt : i < its.length
  · refine .inr ⟨(ok.mono kb2).goes i H2 hlt r2.bh, Pv (i + 1), fun ys' H' p' => ⟨its.length - (i + 1), by omega, rfl, p'⟩, fun x H' y => ?_⟩
    obtain ⟨d, ed, k1, f⟩ := (ok.mono kb2).yields i H2 x H' hlt r2.bh y
    obtain ⟨w, c⟩ := f B2 (Same.refl _) r2.bh
    refine ⟨B2, ds2, _, d, _, r2.push k1 (Fresh.cp w c), nn, zs i d acc ds2 ed z2, fun ds3 z3 σ3 H3 B3 kb3 ho r3 => ?_⟩
    have hw3 : wipe σ3 vs = wipe σ vs := wipe_agree ⟨ho.1, fun j hj => ho.2 j fun m => hj (hw j m)⟩
    refine ⟨hw3, B3, ds3, _, _, r3, fun _ => nonm_vw nn, z3, fun b ds4 z4 H4 B4 kb4 r4 => ?_⟩
    cases b with
    | true =>
      rw [if_pos rfl] at z4 ⊢
      refine ⟨B4, ds4, _, _, r4, fun _ => nonm_vw nn, z4, fun its1 ds5 ⟨Pd1, y0, ys, yd⟩ H5 B5 J1 kb5 r5 ok1 => ?_⟩
      have kb25 := ((kb2.trans kb3).trans kb4).trans kb5
      have r5' := r5.wipedG (vs := vs1) (σ := σ3) nn rfl
      let Pv1 : Nat → List V → Hp → Prop := fun j ys H => j ≤ its1.length ∧ ∃ B6 ds6 acc6, ys = acc6.map V.int ∧ Same B5 B6 ∧ RS K (C.gb n (c', P')) B6 (wipe σ3 vs1) H ds6 (strip ts) ∧ Pd1 j acc6 ds6
      refine ⟨fun j m ys H => m = its1.length - j ∧ Pv1 j ys H, ⟨its1.length, by simp, Nat.zero_le _, B5, _, acc, rfl, Same.refl _, r5', y0⟩, ?_⟩
      rintro j m _ H6 ⟨rfl, hj, B6, ds6, acc6, rfl, kb6, r6, z6⟩
      by_cases hlt1 : j < its1.length
      · refine .inr ⟨(ok1.mono kb6).goes j H6 hlt1 r6.bh, Pv1 (j + 1), fun ys' H' p' => ⟨its1.length - (j + 1), by omega, rfl, p'⟩, fun x H' y => ?_⟩
        obtain ⟨d', ed', k1', f'⟩ := (ok1.mono kb6).yields j H6 x H' hlt1 r6.bh y
        obtain ⟨w', c'⟩ := f' B6 (Same.refl _) r6.bh
        refine ⟨B6, ds6, _, d', _, r6.push k1' (Fresh.cp w' c'), nn, ys j d' acc6 ds6 ed' z6, fun ds7 z7 σ7 H7 B7 kb7 ho7 r7 => ?_⟩
        have hw7 : wipe σ7 vs1 = wipe σ3 vs1 := wipe_agree ⟨ho7.1, fun j hj => ho7.2 j fun m => hj (hw1 j m)⟩
        refine ⟨hw7, B7, ds7, _, _, r7, fun _ => nonm_vw nn, z7, fun b ds8 z8 H8 B8 kb8 r8 => ?_⟩
        cases b with
        | true =>
          rw [if_pos rfl] at z8 ⊢
          refine ⟨B8, ds8, _, _, r8, fun _ => nonm_vw nn, z8, fun y ds9 ⟨n, et, hz, z9⟩ v9 H9 B9 kb9 r9 => ?_⟩
          subst et
          have ev : v9 = .int n := r9.see0 (d := .t (.int n)) rfl
          subst ev
          have r10 := (r9.drop).wipedG nn hw7
          exact ⟨by simpa using hz, n, rfl, hlt1, B9, dwipe ds9 vs1, acc6 ++ [n], by simp, (((kb6.trans kb7).trans kb8).trans kb9), r10, z9⟩
        | false =>
          rw [if_neg Bool.false_ne_true] at z8 ⊢
          exact ⟨hlt1, B8, dwipe ds8 vs1, acc6, rfl, ((kb6.trans kb7).trans kb8), r8.wipedG nn hw7, z8⟩
      · have e : j = its1.length := by omega
        subst e
        refine .inl ⟨(ok1.mono kb6).stops H6 r6.bh, hlt, B6, dwipe ds6 vs, acc6, rfl, kb25.trans kb6, r6.wipedG (vs := vs) nn ?_, fun i x e => (dwipe_some e).2, yd _ _ z6⟩
        rw [wipe_wipe hv, hw3]
    | false =>
      rw [if_neg Bool.false_ne_true] at z4 ⊢
      exact ⟨hlt, B4, dwipe ds4 vs, acc, rfl, ((kb2.trans kb3).trans kb4), r4.wipedG nn hw3, fun i x e => (dwipe_some e).2, z4⟩
  · have e : i = its.length := by omega
    subst e
    refine .inl ⟨(ok.mono kb2).stops H2 r2.bh, fun ns ens => ?_⟩
    have := map_int_inj ens
    subst this
    exact qq _ _ (zd _ _ z2) _ _ B2 (kb1.trans kb2) (r1.unblock nv kb2 (r2.ofG.push (Same.refl _) (Fresh.t (x := .int acc.sum) rfl)) hv2)
/-- the readings within -/
structure GBlkD2 (X : Cx) (C : FC) (n k : Nat) (scope : Scope) (vs vs1 : List Nat) (tg elt : Expr) (ifs : List Expr) (tg1 iter1 : Expr) (ifs1 : List Expr) (g : GD) (q : QD) (i1 : ID) (g1 : GD) (q1 : QD) (e : ED) : Prop where
  tg : ∃ ws, (∀ w ∈ ws, w ∈ vs) ∧ ∀ (x : Addr × Addr) (A : Around) (s : Shared) (H : Hp) (L : Addr) (fp : List Addr), Room k A → PG (X.gen A s H scope (genEnvC scope X.env L (.ref x.1) builtinsNs) fp) tg (LG X.K (C.gb n x) ws g)
  ifs : ∀ (x : Addr × Addr) (A : Around) (s : Shared) (H : Hp) (L : Addr) (fp : List Addr), Room k A → PTs (X.gen A s H scope (genEnvC scope X.env L (.ref x.1) builtinsNs) fp) ifs (LT X.K (C.gb n x) false q)
  it1 : ∀ (x : Addr × Addr) (A : Around) (s : Shared) (H : Hp) (L : Addr) (fp : List Addr), Room k A → PI (X.gen A s H scope (genEnvC scope X.env L (.ref x.1) builtinsNs) fp) tg1 iter1 (LI X.K (C.gb n x) false i1)
  tg1 : ∃ ws, (∀ w ∈ ws, w ∈ vs1) ∧ ∀ (x : Addr × Addr) (A : Around) (s : Shared) (H : Hp) (L : Addr) (fp : List Addr), Room k A → PG (X.gen A s H scope (genEnvC scope X.env L (.ref x.1) builtinsNs) fp) tg1 (LG X.K (C.gb n x) ws g1)
  ifs1 : ∀ (x : Addr × Addr) (A : Around) (s : Shared) (H : Hp) (L : Addr) (fp : List Addr), Room k A → PTs (X.gen A s H scope (genEnvC scope X.env L (.ref x.1) builtinsNs) fp) ifs1 (LT X.K (C.gb n x) false q1)
  elt : ∀ (x : Addr × Addr) (A : Around) (s : Shared) (H : Hp) (L : Addr) (fp : List Addr), Room k A → PE (X.gen A s H scope (genEnvC scope X.env L (.ref x.1) builtinsNs) fp) elt (LE X.K (C.gb n x) false e)
  hv : ∀ u ∈ vs1, u ∈ vs
section
variable {X : Cx} {C : FC} {pp gpos pos : Pos} {elt tg iter tg1 iter1 : Expr} {ifs ifs1 : List Expr} {scope : Scope} {own : List (Str × Nat)} {i i1 : ID} {g g1 : GD} {q q1 : QD} {t : ED} {c P : Addr} {n k : Nat} {vs1 : List Nat}
theorem b_sumG2 (hm : X.mg "sum" = none) (hr : Room (k + 6) X.A) (G : GCode X C c P n) (hc : X.calm = true) (hN : X.N.Nodup) (S : GSc X.N X.env.scope scope own) (hi : PI X tg iter (LI X.K C false i)) (B : GBlkD2 X C n k scope (own.map (·.2)) vs1 tg elt ifs tg1 iter1 ifs1 g q i1 g1 q1 t)
    (hs : ∀ v, genFold iter X.env v = pure v := by intro _; rfl) (hs1 : ∀ env x, foldedSetIterable iter1 env x = pure x := by intro _ _; rfl) (hg : Gl X "sum" := by rfl)
    (he : starEach [.GeneratorExp elt [⟨tg, iter, ifs, 0⟩, ⟨tg1, iter1, ifs1, 0⟩] scope gpos] X.env = (false, eval (.GeneratorExp elt [⟨tg, iter, ifs, 0⟩, ⟨tg1, iter1, ifs1, 0⟩] scope gpos) X.env) :: starEach [] X.env := by rfl) :
    PE X (.Call (.Name "sum" pp) [.GeneratorExp elt [⟨tg, iter, ifs, 0⟩, ⟨tg1, iter1, ifs1, 0⟩] scope gpos] [] pos) (LE X.K C false (dSumG2 (own.map (·.2)) vs1 i g q i1 g1 q1 t)) := by
  obtain ⟨ws, hw, ht⟩ := B.tg
  obtain ⟨ws1, hw1, ht1⟩ := B.tg1
  exact (pe_sumG2 (hr.mono (by omega)) G.code hc hN S.h00 S.co S.h0 S.blk hi (g := fun x => LG X.K (C.gb n x) ws g) (tt := fun x => LT X.K (C.gb n x) false q) (wi1 := fun x => LI X.K (C.gb n x) false i1) (g1 := fun x => LG X.K (C.gb n x) ws1 g1) (tt1 := fun x => LT X.K (C.gb n x) false q1) (te := fun x => LE X.K (C.gb n x) false t) (fun c' P' => ⟨ht (c', P'), B.ifs (c', P'), B.it1 (c', P'), ht1 (c', P'), B.ifs1 (c', P'), B.elt (c', P'), B.hv, hs1⟩) hs hg hm PyProof.Rows.boot_sum (he := he)).imp fun _ _ _ h => sum_run2 G hw hw1 B.hv h
end
@[simp ↓] theorem x_dSumG2 {vs vs1 : List Nat} {i i1 : ID} {g g1 : GD} {q q1 : QD} {e : ED} {ds : DS} {Q : D → DS → Prop} : dSumG2 vs vs1 i g q i1 g1 q1 e ds Q = i ds fun its ds1 => Sum2D g q i1 g1 q1 e vs vs1 Q its (dwipe ds1 vs) := rfl
end Dn

set_option Elab.async false
set_option linter.all false
set_option maxRecDepth 100000
set_option maxHeartbeats 4000000
namespace K80
open PySem PySem.Spec PyProof.Rows L2 Dn
def top (i : Nat) : Stmt := PySem.Challenge.pw_whoseitis_k80_what_a_pair_bears.main.body.getD i (.Pass ⟨0, 0, 0, 0⟩)
structure Txt (mg : Str → Option Value) : Prop where
  z_abs : mg "abs" = none
  z_any : mg "any" = none
  z_bool : mg "bool" = none
  z_enumerate : mg "enumerate" = none
  z_int : mg "int" = none
  z_isinstance : mg "isinstance" = none
  z_len : mg "len" = none
  z_list : mg "list" = none
  z_max : mg "max" = none
  z_min : mg "min" = none
  z_range : mg "range" = none
  z_str : mg "str" = none
  z_sum : mg "sum" = none
  z_tuple : mg "tuple" = none
/-! width -/
abbrev s_width : Stmt := top 1
abbrev N_width : List Str := ["table"]
abbrev P_width : List Str := ["table"]
abbrev M_width : List Bool := [false]
theorem sc_width : FnScope N_width P_width (defScope s_width) := ⟨rfl, rfl, rfl, by decide +kernel, rfl, by decide +kernel, by decide +kernel⟩
/-! barred -/
abbrev s_barred : Stmt := top 2
abbrev N_barred : List Str := ["table", "pairs", "thing", "row", "report", "cost"]
abbrev P_barred : List Str := ["table", "pairs"]
abbrev M_barred : List Bool := [false, false]
theorem sc_barred : FnScope N_barred P_barred (defScope s_barred) := ⟨rfl, rfl, rfl, by decide +kernel, rfl, by decide +kernel, by decide +kernel⟩
/-! without -/
abbrev s_without : Stmt := top 3
abbrev N_without : List Str := ["table", "things", "reports", "thing", "row", "report", "cost"]
abbrev P_without : List Str := ["table", "things", "reports"]
abbrev M_without : List Bool := [false, false, false]
theorem sc_without : FnScope N_without P_without (defScope s_without) := ⟨rfl, rfl, rfl, by decide +kernel, rfl, by decide +kernel, by decide +kernel⟩
/-! weight_of -/
abbrev s_weight_of : Stmt := top 5
abbrev N_weight_of : List Str := ["cost", "less"]
abbrev P_weight_of : List Str := ["cost", "less"]
abbrev M_weight_of : List Bool := [false, false]
theorem sc_weight_of : FnScope N_weight_of P_weight_of (defScope s_weight_of) := ⟨rfl, rfl, rfl, by decide +kernel, rfl, by decide +kernel, by decide +kernel⟩
/-! weighed -/
abbrev s_weighed : Stmt := top 6
abbrev N_weighed : List Str := ["table", "told", "row", "cost", "much", "report"]
abbrev P_weighed : List Str := ["table", "told"]
abbrev M_weighed : List Bool := [false, false]
theorem sc_weighed : FnScope N_weighed P_weighed (defScope s_weighed) := ⟨rfl, rfl, rfl, by decide +kernel, rfl, by decide +kernel, by decide +kernel⟩
/-! pushed -/
abbrev s_pushed : Stmt := top 7
abbrev N_pushed : List Str := ["thing", "weights", "holders", "costs", "takers", "moved", "report", "weight", "holder", "cost"]
abbrev P_pushed : List Str := ["thing", "weights", "holders", "costs", "takers"]
abbrev M_pushed : List Bool := [false, false, false, true, true]
theorem sc_pushed : FnScope N_pushed P_pushed (defScope s_pushed) := ⟨rfl, rfl, rfl, by decide +kernel, rfl, by decide +kernel, by decide +kernel⟩
/-! looking -/
abbrev s_looking : Stmt := top 8
abbrev N_looking : List Str := ["weights", "mates", "holders", "mate", "costs", "_", "takers", "moved", "thing"]
abbrev P_looking : List Str := ["weights", "mates", "holders"]
abbrev M_looking : List Bool := [false, false, false]
theorem sc_looking : FnScope N_looking P_looking (defScope s_looking) := ⟨rfl, rfl, rfl, by decide +kernel, rfl, by decide +kernel, by decide +kernel⟩
/-! best_end -/
abbrev s_best_end : Stmt := top 9
abbrev N_best_end : List Str := ["weights", "holders", "costs", "best", "thing", "row", "report", "weight", "cost"]
abbrev P_best_end : List Str := ["weights", "holders", "costs"]
abbrev M_best_end : List Bool := [false, false, false]
theorem sc_best_end : FnScope N_best_end P_best_end (defScope s_best_end) := ⟨rfl, rfl, rfl, by decide +kernel, rfl, by decide +kernel, by decide +kernel⟩
/-! grown -/
abbrev s_grown : Stmt := top 10
abbrev N_grown : List Str := ["weights", "mates", "holders", "costs", "takers", "end", "thing", "report", "given"]
abbrev P_grown : List Str := ["weights", "mates", "holders"]
abbrev M_grown : List Bool := [false, true, true]
theorem sc_grown : FnScope N_grown P_grown (defScope s_grown) := ⟨rfl, rfl, rfl, by decide +kernel, rfl, by decide +kernel, by decide +kernel⟩
/-! mates_cost -/
abbrev s_mates_cost : Stmt := top 11
abbrev N_mates_cost : List Str := ["table", "mates", "thing", "report"]
abbrev P_mates_cost : List Str := ["table", "mates"]
abbrev M_mates_cost : List Bool := [false, false]
theorem sc_mates_cost : FnScope N_mates_cost P_mates_cost (defScope s_mates_cost) := ⟨rfl, rfl, rfl, by decide +kernel, rfl, by decide +kernel, by decide +kernel⟩
/-! least_pairings -/
abbrev s_least_pairings : Stmt := top 12
abbrev N_least_pairings : List Str := ["table", "told", "most", "weights", "_", "mates", "holders", "rows", "count", "report"]
abbrev P_least_pairings : List Str := ["table", "told", "most"]
abbrev M_least_pairings : List Bool := [false, false, false]
theorem sc_least_pairings : FnScope N_least_pairings P_least_pairings (defScope s_least_pairings) := ⟨rfl, rfl, rfl, by decide +kernel, rfl, by decide +kernel, by decide +kernel⟩
/-! least_row -/
abbrev s_least_row : Stmt := top 13
abbrev N_least_row : List Str := ["table", "demand", "count", "told", "rows", "at", "step"]
abbrev P_least_row : List Str := ["table", "demand"]
abbrev M_least_row : List Bool := [false, false]
theorem sc_least_row : FnScope N_least_row P_least_row (defScope s_least_row) := ⟨rfl, rfl, rfl, by decide +kernel, rfl, by decide +kernel, by decide +kernel⟩
/-! least_cost -/
abbrev s_least_cost : Stmt := top 14
abbrev N_least_cost : List Str := ["table", "demand", "row"]
abbrev P_least_cost : List Str := ["table", "demand"]
abbrev M_least_cost : List Bool := [false, false]
theorem sc_least_cost : FnScope N_least_cost P_least_cost (defScope s_least_cost) := ⟨rfl, rfl, rfl, by decide +kernel, rfl, by decide +kernel, by decide +kernel⟩
/-! smaller -/
abbrev s_smaller : Stmt := top 15
abbrev N_smaller : List Str := ["table", "demand", "thing", "report", "count", "told", "other", "rest"]
abbrev P_smaller : List Str := ["table", "demand", "thing", "report"]
abbrev M_smaller : List Bool := [false, false, false, false]
theorem sc_smaller : FnScope N_smaller P_smaller (defScope s_smaller) := ⟨rfl, rfl, rfl, by decide +kernel, rfl, by decide +kernel, by decide +kernel⟩
/-! least_with -/
abbrev s_least_with : Stmt := top 16
abbrev N_least_with : List Str := ["table", "demand", "thing", "report", "left", "wanted", "rest"]
abbrev P_least_with : List Str := ["table", "demand", "thing", "report"]
abbrev M_least_with : List Bool := [false, false, false, false]
theorem sc_least_with : FnScope N_least_with P_least_with (defScope s_least_with) := ⟨rfl, rfl, rfl, by decide +kernel, rfl, by decide +kernel, by decide +kernel⟩
/-! with_pair -/
abbrev s_with_pair : Stmt := top 18
abbrev N_with_pair : List Str := ["table", "demand", "thing", "report"]
abbrev P_with_pair : List Str := ["table", "demand", "thing", "report"]
abbrev M_with_pair : List Bool := [false, false, false, false]
theorem sc_with_pair : FnScope N_with_pair P_with_pair (defScope s_with_pair) := ⟨rfl, rfl, rfl, by decide +kernel, rfl, by decide +kernel, by decide +kernel⟩
/-! priced -/
abbrev s_priced : Stmt := top 20
abbrev N_priced : List Str := ["table", "pair", "cost", "thing", "report", "row"]
abbrev P_priced : List Str := ["table", "pair", "cost"]
abbrev M_priced : List Bool := [false, false, false]
theorem sc_priced : FnScope N_priced P_priced (defScope s_priced) := ⟨rfl, rfl, rfl, by decide +kernel, rfl, by decide +kernel, by decide +kernel⟩
/-! bears -/
abbrev s_bears : Stmt := top 21
abbrev N_bears : List Str := ["table", "demand", "budget", "pair", "other", "thing", "report", "least"]
abbrev P_bears : List Str := ["table", "demand", "budget", "pair", "other"]
abbrev M_bears : List Bool := [false, false, false, false, false]
theorem sc_bears : FnScope N_bears P_bears (defScope s_bears) := ⟨rfl, rfl, rfl, by decide +kernel, rfl, by decide +kernel, by decide +kernel⟩
/-! _law_pool -/
abbrev s_u_law_pool : Stmt := top 23
abbrev N_u_law_pool : List Str := ["script"]
abbrev P_u_law_pool : List Str := ["script"]
abbrev M_u_law_pool : List Bool := [false]
theorem sc_u_law_pool : FnScope N_u_law_pool P_u_law_pool (defScope s_u_law_pool) := ⟨rfl, rfl, rfl, by decide +kernel, rfl, by decide +kernel, by decide +kernel⟩
/-! _law_draw -/
abbrev s_u_law_draw : Stmt := top 24
abbrev N_u_law_draw : List Str := ["pool", "many", "cell", "digit", "mixed"]
abbrev P_u_law_draw : List Str := ["pool", "many"]
abbrev M_u_law_draw : List Bool := [true, false]
theorem sc_u_law_draw : FnScope N_u_law_draw P_u_law_draw (defScope s_u_law_draw) := ⟨rfl, rfl, rfl, by decide +kernel, rfl, by decide +kernel, by decide +kernel⟩
/-! _law_pick -/
abbrev s_u_law_pick : Stmt := top 25
abbrev N_u_law_pick : List Str := ["pool", "things"]
abbrev P_u_law_pick : List Str := ["pool", "things"]
abbrev M_u_law_pick : List Bool := [true, false]
theorem sc_u_law_pick : FnScope N_u_law_pick P_u_law_pick (defScope s_u_law_pick) := ⟨rfl, rfl, rfl, by decide +kernel, rfl, by decide +kernel, by decide +kernel⟩
/-! _law_same -/
abbrev s_u_law_same : Stmt := top 26
abbrev N_u_law_same : List Str := ["told", "due", "todo", "turn", "one", "other", "is_right", "k"]
abbrev P_u_law_same : List Str := ["told", "due"]
abbrev M_u_law_same : List Bool := [false, false]
theorem sc_u_law_same : FnScope N_u_law_same P_u_law_same (defScope s_u_law_same) := ⟨rfl, rfl, rfl, by decide +kernel, rfl, by decide +kernel, by decide +kernel⟩
/-! _law_table -/
abbrev s_u_law_table : Stmt := top 27
abbrev N_u_law_table : List Str := ["pool", "things", "reports", "t", "r"]
abbrev P_u_law_table : List Str := ["pool", "things", "reports"]
abbrev M_u_law_table : List Bool := [true, false, false]
theorem sc_u_law_table : FnScope N_u_law_table P_u_law_table (defScope s_u_law_table) := ⟨rfl, rfl, rfl, by decide +kernel, rfl, by decide +kernel, by decide +kernel⟩
/-! _law_demand -/
abbrev s_u_law_demand : Stmt := top 28
abbrev N_u_law_demand : List Str := ["pool", "reports", "r", "some"]
abbrev P_u_law_demand : List Str := ["pool", "reports"]
abbrev M_u_law_demand : List Bool := [true, false]
theorem sc_u_law_demand : FnScope N_u_law_demand P_u_law_demand (defScope s_u_law_demand) := ⟨rfl, rfl, rfl, by decide +kernel, rfl, by decide +kernel, by decide +kernel⟩
/-! _law_pairings -/
abbrev s_u_law_pairings : Stmt := top 29
abbrev N_u_law_pairings : List Str := ["table", "found", "t", "more", "cost", "pairs", "pair", "used", "r"]
abbrev P_u_law_pairings : List Str := ["table"]
abbrev M_u_law_pairings : List Bool := [false]
theorem sc_u_law_pairings : FnScope N_u_law_pairings P_u_law_pairings (defScope s_u_law_pairings) := ⟨rfl, rfl, rfl, by decide +kernel, rfl, by decide +kernel, by decide +kernel⟩
/-! _law_kept -/
abbrev s_u_law_kept : Stmt := top 30
abbrev N_u_law_kept : List Str := ["table", "demand", "found", "cost", "pairs", "pair", "used", "r"]
abbrev P_u_law_kept : List Str := ["table", "demand"]
abbrev M_u_law_kept : List Bool := [false, false]
theorem sc_u_law_kept : FnScope N_u_law_kept P_u_law_kept (defScope s_u_law_kept) := ⟨rfl, rfl, rfl, by decide +kernel, rfl, by decide +kernel, by decide +kernel⟩
/-! _law_worlds -/
abbrev s_u_law_worlds : Stmt := top 31
abbrev N_u_law_worlds : List Str := ["table", "demand", "budget", "cost", "pairs"]
abbrev P_u_law_worlds : List Str := ["table", "demand", "budget"]
abbrev M_u_law_worlds : List Bool := [false, false, false]
theorem sc_u_law_worlds : FnScope N_u_law_worlds P_u_law_worlds (defScope s_u_law_worlds) := ⟨rfl, rfl, rfl, by decide +kernel, rfl, by decide +kernel, by decide +kernel⟩
/-! _law_budget -/
abbrev s_u_law_budget : Stmt := top 32
abbrev N_u_law_budget : List Str := ["pool", "table", "demand", "cost", "pairs", "costs"]
abbrev P_u_law_budget : List Str := ["pool", "table", "demand"]
abbrev M_u_law_budget : List Bool := [true, false, false]
theorem sc_u_law_budget : FnScope N_u_law_budget P_u_law_budget (defScope s_u_law_budget) := ⟨rfl, rfl, rfl, by decide +kernel, rfl, by decide +kernel, by decide +kernel⟩
/-! _law_sure_ones -/
abbrev s_u_law_sure_ones : Stmt := top 33
abbrev N_u_law_sure_ones : List Str := ["table", "demand", "budget", "lots", "pair", "pairs"]
abbrev P_u_law_sure_ones : List Str := ["table", "demand", "budget"]
abbrev M_u_law_sure_ones : List Bool := [false, false, false]
theorem sc_u_law_sure_ones : FnScope N_u_law_sure_ones P_u_law_sure_ones (defScope s_u_law_sure_ones) := ⟨rfl, rfl, rfl, by decide +kernel, rfl, by decide +kernel, by decide +kernel⟩
/-! _law_bears -/
abbrev s_u_law_bears : Stmt := top 34
abbrev N_u_law_bears : List Str := ["table", "demand", "budget", "pair", "other", "t", "r", "free", "cost", "pairs", "costs"]
abbrev P_u_law_bears : List Str := ["table", "demand", "budget", "pair", "other"]
abbrev M_u_law_bears : List Bool := [false, false, false, false, false]
theorem sc_u_law_bears : FnScope N_u_law_bears P_u_law_bears (defScope s_u_law_bears) := ⟨rfl, rfl, rfl, by decide +kernel, rfl, by decide +kernel, by decide +kernel⟩
/-! _law_scene -/
abbrev s_u_law_scene : Stmt := top 35
abbrev N_u_law_scene : List Str := ["pool", "turn", "table", "demand", "budget", "sure"]
abbrev P_u_law_scene : List Str := ["pool"]
abbrev M_u_law_scene : List Bool := [true]
theorem sc_u_law_scene : FnScope N_u_law_scene P_u_law_scene (defScope s_u_law_scene) := ⟨rfl, rfl, rfl, by decide +kernel, rfl, by decide +kernel, by decide +kernel⟩
/-! _law_others -/
abbrev s_u_law_others : Stmt := top 36
abbrev N_u_law_others : List Str := ["table", "pair", "found", "t", "r"]
abbrev P_u_law_others : List Str := ["table", "pair"]
abbrev M_u_law_others : List Bool := [false, false]
theorem sc_u_law_others : FnScope N_u_law_others P_u_law_others (defScope s_u_law_others) := ⟨rfl, rfl, rfl, by decide +kernel, rfl, by decide +kernel, by decide +kernel⟩
/-! law -/
abbrev s_law : Stmt := top 37
abbrev N_law : List Str := ["script", "pool", "turn", "scene", "table", "demand", "budget", "pair", "other", "due"]
abbrev P_law : List Str := ["script"]
abbrev M_law : List Bool := [false]
theorem sc_law : FnScope N_law P_law (defScope s_law) := ⟨rfl, rfl, rfl, by decide +kernel, rfl, by decide +kernel, by decide +kernel⟩
/-! width -/
def bd_width : SD :=
  (sRet (dIf (qV (oN 0)) (dF fLen (aCons true (oE (d2 true fIx (oN 0) (oE (dC (.int 0))))) aNil)) (dC (.int 0))))
theorem ps_width {P : Program} {w : World} {K : PySem.W.Frag} {mg : Str → Option Value} {base : Heap} (T : Txt mg) {k : Nat} {f : Addr} {cdv : Value} {A : Around} {outer : List Env} {s : Shared} {H : Hp} {E : XK} {C : FC} (hC : C.mx = mxOf M_width 0) (hr : Room (k) (A.deeper (envOfC "width" (defScope s_width) s.heap.objs.size f cdv))) :
    PSs (cxOf CX0 P w K mg base N_width "width" (defScope s_width) f cdv A outer s H E).nox (defBody s_width) (LS K C (bd_width)) :=
  (s_one (s_ret (p := false) (e_if (q_truth (o_n (pv 0))) (b_len T.z_len (a_cons (o_e (e_ix (o_n (pv 0)) (o_e e_int))) a_nil)) e_int)))
/-! barred -/
def bd_barred : SD :=
  (sRet (dTupG [2, 3] (iEn (dNf 0)) (gT 2 (gsC (gN 2) (gsC (gN 3) gsN))) qYes (dTupG [4, 5] (iEn (dNf 3)) (gT 2 (gsC (gN 4) (gsC (gN 5) gsN))) qYes (dIf (qB (d2 true fIn (oE (dTup (aCons true (oN 2) (aCons true (oN 4) aNil)))) (oN 1))) (d1 (fU (fun i => -i)) (oE (dC (.int 1)))) (dN 5)))))
theorem ps_barred {P : Program} {w : World} {K : PySem.W.Frag} {mg : Str → Option Value} {base : Heap} (T : Txt mg) {k : Nat} {f : Addr} {cdv : Value} {A : Around} {outer : List Env} {s : Shared} {H : Hp} {E : XK} {C : FC} (hC : C.mx = mxOf M_barred 0) (hr : Room (k + 6 + 6) (A.deeper (envOfC "barred" (defScope s_barred) s.heap.objs.size f cdv))) {c P0 : Addr} (hG : GxR.TabB base mg c P0 ∧ cdv = .ref c ∧ P0 ∈ C.tabs) :
    PSs (cxOf CX0 P w K mg base N_barred "barred" (defScope s_barred) f cdv A outer s H E).nox (defBody s_barred) (LS K C (bd_barred)) :=
  (s_one (s_ret (p := false) (b_tupG (n := 3) (k := k + 6) (own := [("thing", 2), ("row", 3)]) T.z_tuple hr ⟨hG.2.1, ⟨_, _, hG.1⟩, .inl ⟨hG.1, hG.2.2, rfl⟩⟩ rfl sc_barred.nd ⟨(blkOk_by (N := N_barred) (sc := defScope s_barred) (by decide +kernel)), (show (".0" : Str) ∉ N_barred from by decide +kernel), rfl, rfl⟩ (j_en T.z_enumerate (e_nf (pv 0))) ⟨⟨[2, 3], (fun _ h => h), fun x1 _ _ _ _ _ hr2 => (h_t rfl (h_c (g_n (pg_name (i := 2) sc_barred.nd rfl (by first | exact Or.inl rfl | exact Or.inr rfl)) (by simp [FC.blk, FC.gb])) (h_c (g_n (pg_name (i := 3) sc_barred.nd rfl (by first | exact Or.inl rfl | exact Or.inr rfl)) (by simp [FC.blk, FC.gb])) gs_n)))⟩, fun x1 _ _ _ _ _ hr2 => q_yes, fun x1 _ _ _ _ _ hr2 => (b_tupG (n := 2) (k := k) (own := [("report", 4), ("cost", 5)]) T.z_tuple hr2 (GCode.mk (c := x1.1) (P := x1.2) rfl ⟨_, _, hG.1⟩ (.inr List.mem_cons_self)) rfl sc_barred.nd ⟨(by exact blkOk_by (by kernel_rfl)), (show (".0" : Str) ∉ N_barred from by decide +kernel), rfl, rfl⟩ (j_en T.z_enumerate (e_nf (pv 3))) ⟨⟨[4, 5], (fun _ h => h), fun x2 _ _ _ _ _ hr3 => (h_t rfl (h_c (g_n (pg_name (i := 4) sc_barred.nd rfl (by first | exact Or.inl rfl | exact Or.inr rfl)) (by simp [FC.blk, FC.gb])) (h_c (g_n (pg_name (i := 5) sc_barred.nd rfl (by first | exact Or.inl rfl | exact Or.inr rfl)) (by simp [FC.blk, FC.gb])) gs_n)))⟩, fun x2 _ _ _ _ _ hr3 => q_yes, fun x2 _ _ _ _ _ hr3 => (e_if (q_cmp (op_inB (inU hr3)) r_in (o_e (e_tup (a_cons (o_n (pv 2)) (a_cons (o_n (pv 4)) a_nil)))) (o_n (pv 1)) rfl) (e_un un_neg r_U (o_e e_int)) (e_n (pv 5)))⟩)⟩)))
/-! without -/
def bd_without : SD :=
  (sRet (dTupG [3, 4] (iEn (dNf 0)) (gT 2 (gsC (gN 3) (gsC (gN 4) gsN))) (qB (d2 true fNotIn (oN 3) (oN 1))) (dTupG [5, 6] (iEn (dNf 4)) (gT 2 (gsC (gN 5) (gsC (gN 6) gsN))) (qB (d2 true fNotIn (oN 5) (oN 2))) (dN 6))))
theorem ps_without {P : Program} {w : World} {K : PySem.W.Frag} {mg : Str → Option Value} {base : Heap} (T : Txt mg) {k : Nat} {f : Addr} {cdv : Value} {A : Around} {outer : List Env} {s : Shared} {H : Hp} {E : XK} {C : FC} (hC : C.mx = mxOf M_without 0) (hr : Room (k + 6 + 6) (A.deeper (envOfC "without" (defScope s_without) s.heap.objs.size f cdv))) {c P0 : Addr} (hG : GxR.TabB base mg c P0 ∧ cdv = .ref c ∧ P0 ∈ C.tabs) :
    PSs (cxOf CX0 P w K mg base N_without "without" (defScope s_without) f cdv A outer s H E).nox (defBody s_without) (LS K C (bd_without)) :=
  (s_one (s_ret (p := false) (b_tupG (n := 3) (k := k + 6) (own := [("thing", 3), ("row", 4)]) T.z_tuple hr ⟨hG.2.1, ⟨_, _, hG.1⟩, .inl ⟨hG.1, hG.2.2, rfl⟩⟩ rfl sc_without.nd ⟨(blkOk_by (N := N_without) (sc := defScope s_without) (by decide +kernel)), (show (".0" : Str) ∉ N_without from by decide +kernel), rfl, rfl⟩ (j_en T.z_enumerate (e_nf (pv 0))) ⟨⟨[3, 4], (fun _ h => h), fun x1 _ _ _ _ _ hr2 => (h_t rfl (h_c (g_n (pg_name (i := 3) sc_without.nd rfl (by first | exact Or.inl rfl | exact Or.inr rfl)) (by simp [FC.blk, FC.gb])) (h_c (g_n (pg_name (i := 4) sc_without.nd rfl (by first | exact Or.inl rfl | exact Or.inr rfl)) (by simp [FC.blk, FC.gb])) gs_n)))⟩, fun x1 _ _ _ _ _ hr2 => (q_one (q_cmp (op_notInB (inU hr2)) r_notIn (o_n (pv 3)) (o_n (pv 1)) rfl)), fun x1 _ _ _ _ _ hr2 => (b_tupG (n := 2) (k := k) (own := [("report", 5), ("cost", 6)]) T.z_tuple hr2 (GCode.mk (c := x1.1) (P := x1.2) rfl ⟨_, _, hG.1⟩ (.inr List.mem_cons_self)) rfl sc_without.nd ⟨(by exact blkOk_by (by kernel_rfl)), (show (".0" : Str) ∉ N_without from by decide +kernel), rfl, rfl⟩ (j_en T.z_enumerate (e_nf (pv 4))) ⟨⟨[5, 6], (fun _ h => h), fun x2 _ _ _ _ _ hr3 => (h_t rfl (h_c (g_n (pg_name (i := 5) sc_without.nd rfl (by first | exact Or.inl rfl | exact Or.inr rfl)) (by simp [FC.blk, FC.gb])) (h_c (g_n (pg_name (i := 6) sc_without.nd rfl (by first | exact Or.inl rfl | exact Or.inr rfl)) (by simp [FC.blk, FC.gb])) gs_n)))⟩, fun x2 _ _ _ _ _ hr3 => (q_one (q_cmp (op_notInB (inU hr3)) r_notIn (o_n (pv 5)) (o_n (pv 2)) rfl)), fun x2 _ _ _ _ _ hr3 => (e_n (pv 6))⟩)⟩)))
/-! weight_of -/
def bd_weight_of : SD :=
  (sRet (dIf (qB (d2 true fEq (oN 0) (oE (d1 (fU (fun i => -i)) (oE (dC (.int 1))))))) (dC .non) (d2 true (fI0 (fun i j => i - j)) (oN 0) (oN 1))))
theorem ps_weight_of {P : Program} {w : World} {K : PySem.W.Frag} {mg : Str → Option Value} {base : Heap} (T : Txt mg) {k : Nat} {f : Addr} {cdv : Value} {A : Around} {outer : List Env} {s : Shared} {H : Hp} {E : XK} {C : FC} (hC : C.mx = mxOf M_weight_of 0) (hr : Room (k) (A.deeper (envOfC "weight_of" (defScope s_weight_of) s.heap.objs.size f cdv))) :
    PSs (cxOf CX0 P w K mg base N_weight_of "weight_of" (defScope s_weight_of) f cdv A outer s H E).nox (defBody s_weight_of) (LS K C (bd_weight_of)) :=
  (s_one (s_ret (p := false) (e_if (q_cmp (op_eqD hr.units) r_eq (o_n (pv 0)) (o_e (e_un un_neg r_U (o_e e_int))) (nomark _)) e_non (e_op op_sub r_I0 (o_n (pv 0)) (o_n (pv 1))))))
/-! weighed -/
def bd_weighed (g_weight_of : FD) : SD :=
  (sSeq (sAsg (d2 false fAdd (oE (dC (.int 1))) (oE (dSumG2 [2, 3] [3] (iV (dNf 0)) (gN 2) qYes (iV (dNf 2)) (gN 3) qYes (dF fMax2 (aCons true (oN 3) (aCons true (oE (dC (.int 0))) aNil)))))) (gN 4))
  (sRet (dLc [2] (iV (dNf 0)) (gN 2) qYes (dLc [5, 3] (iEn (dNf 2)) (gT 2 (gsC (gN 5) (gsC (gN 3) gsN))) qYes (dCallP 2 g_weight_of (aCons true (oN 3) (aCons true (oE (dIf (qB (d2 true fIn (oN 5) (oN 1))) (dN 4) (dC (.int 0)))) aNil)))))))
theorem ps_weighed {P : Program} {w : World} {K : PySem.W.Frag} {mg : Str → Option Value} {base : Heap} (T : Txt mg) {k : Nat} {f : Addr} {cdv : Value} {A : Around} {outer : List Env} {s : Shared} {H : Hp} {E : XK} {C : FC} (hC : C.mx = mxOf M_weighed 0) (hr : Room (k + 6) (A.deeper (envOfC "weighed" (defScope s_weighed) s.heap.objs.size f cdv))) {c P0 : Addr} (hG : GxR.TabB base mg c P0 ∧ cdv = .ref c ∧ P0 ∈ C.tabs) {f_weight_of : Addr} {fd_weight_of : FuncData} {g_weight_of : FD} (F_weight_of : Cal P w K mg base k "weight_of" f_weight_of fd_weight_of P_weight_of C.tabs M_weight_of g_weight_of) :
    PSs (cxOf CX0 P w K mg base N_weighed "weighed" (defScope s_weighed) f cdv A outer s H E).nox (defBody s_weighed) (LS K C (bd_weighed g_weight_of)) :=
  (s_cons (s_set (p := false) (i := 4) sc_weighed.nd rfl (by first | exact Or.inl rfl | exact Or.inr rfl) (e_op op_addAll r_add (o_e e_int) (o_e (b_sumG2 (n := 3) (k := k) (own := [("row", 2), ("cost", 3)]) (vs1 := [3]) T.z_sum hr ⟨hG.2.1, ⟨_, _, hG.1⟩, .inl ⟨hG.1, hG.2.2, rfl⟩⟩ rfl sc_weighed.nd ⟨(blkOk_by (N := N_weighed) (sc := defScope s_weighed) (by decide +kernel)), (show (".0" : Str) ∉ N_weighed from by decide +kernel), rfl, rfl⟩ (i_v (e_nf (pv 0))) ⟨⟨[2], (by decide), fun x1 _ _ _ _ _ hr2 => (g_n (pg_name (i := 2) sc_weighed.nd rfl (by first | exact Or.inl rfl | exact Or.inr rfl)) (by simp [FC.blk, FC.gb]))⟩, fun x1 _ _ _ _ _ hr2 => q_yes, fun x1 _ _ _ _ _ hr2 => (i_v (e_nf (pv 2))), ⟨[3], (fun _ h => h), fun x1 _ _ _ _ _ hr2 => (g_n (pg_name (i := 3) sc_weighed.nd rfl (by first | exact Or.inl rfl | exact Or.inr rfl)) (by simp [FC.blk, FC.gb]))⟩, fun x1 _ _ _ _ _ hr2 => q_yes, fun x1 _ _ _ _ _ hr2 => (b_max2 T.z_max rfl (a_cons (o_n (pv 3)) (a_cons (o_e e_int) a_nil))), (by decide)⟩))) (by rw [hC]; decide))
  (s_one (s_ret (p := false) (e_lc (own := [("row", 2)]) rfl sc_weighed.nd (i_v (e_nf (pv 0))) (blkOk_by (N := N_weighed) (sc := defScope s_weighed) (by decide +kernel)) ⟨⟨[2], (fun _ h => h), fun _ _ _ _ _ => (g_n (pg_name (i := 2) sc_weighed.nd rfl (by first | exact Or.inl rfl | exact Or.inr rfl)) (by simp [FC.blk, FC.gb]))⟩, fun _ _ _ _ _ => q_yes, fun _ _ _ _ _ => (e_lc (own := [("report", 5), ("cost", 3)]) rfl sc_weighed.nd (j_en T.z_enumerate (e_nf (pv 2))) (by exact blkOk_by (by kernel_rfl)) ⟨⟨[5, 3], (fun _ h => h), fun _ _ _ _ _ => (h_t rfl (h_c (g_n (pg_name (i := 5) sc_weighed.nd rfl (by first | exact Or.inl rfl | exact Or.inr rfl)) (by simp [FC.blk, FC.gb])) (h_c (g_n (pg_name (i := 3) sc_weighed.nd rfl (by first | exact Or.inl rfl | exact Or.inr rfl)) (by simp [FC.blk, FC.gb])) gs_n)))⟩, fun _ _ _ _ _ => q_yes, fun _ _ _ _ _ => (c_P (n := 2) (F_weight_of.up 6) hr (a_cons (o_n (pv 3)) (a_cons (o_e (e_if (q_cmp (op_inB (inU hr)) r_in (o_n (pv 5)) (o_n (pv 1)) rfl) (e_n (pv 4)) e_int)) a_nil)))⟩)⟩))))
/-! pushed -/
def st_pushed_1 : SD :=
  (sAsg (dC (.bl false)) (gN 5))
def st_pushed_2 : SD :=
  (sAsg (d2 true fIx (oN 2) (oN 6)) (gN 8))
def st_pushed_3 : SD :=
  sCnt
def st_pushed_4 : SD :=
  (sIf (qOr (qB (d2 true fIsN (oN 7) (oE (dC .non)))) (qOr (qB (d2 true fEq (oN 8) (oE (d1 (fU (fun i => -i)) (oE (dC (.int 1))))))) (qB (d2 true fEq (oN 8) (oN 0)))))
  st_pushed_3
  sNil)
def st_pushed_5 : SD :=
  (sAsg (d2 true (fI0 (fun i j => i - j)) (oE (d2 true fAdd (oE (d2 true fIx (oN 3) (oN 0))) (oN 7))) (oE (d2 true fIx (oE (d2 true fIx (oN 1) (oN 8))) (oN 6)))) (gN 9))
def st_pushed_6 : SD :=
  (sAsg (dN 9) (gIx true (oN 3) (oN 8)))
def st_pushed_7 : SD :=
  (sAsg (dN 0) (gIx true (oN 4) (oN 8)))
def st_pushed_8 : SD :=
  (sAsg (dC (.bl true)) (gN 5))
def st_pushed_9 : SD :=
  (sIf (qOr (qB (d2 true fIsN (oE (d2 true fIx (oN 3) (oN 8))) (oE (dC .non)))) (qB (d2 true (fIB (fun i j => decide (i < j))) (oN 9) (oE (d2 true fIx (oN 3) (oN 8))))))
  (sSeq st_pushed_6
  (sSeq st_pushed_7
  st_pushed_8))
  sNil)
def st_pushed_10 : SD :=
  (sFor (iEn (d2 true fIx (oN 1) (oN 0))) (gT 2 (gsC (gN 6) (gsC (gN 7) gsN)))
  (sSeq st_pushed_2
  (sSeq st_pushed_4
  (sSeq st_pushed_5
  st_pushed_9))))
def st_pushed_11 : SD :=
  (sRet (dNm 5))
def bd_pushed : SD :=
  (sSeq st_pushed_1
  (sSeq st_pushed_10
  st_pushed_11))
theorem ps_pushed {P : Program} {w : World} {K : PySem.W.Frag} {mg : Str → Option Value} {base : Heap} (T : Txt mg) {k : Nat} {f : Addr} {cdv : Value} {A : Around} {outer : List Env} {s : Shared} {H : Hp} {E : XK} {C : FC} (hC : C.mx = mxOf M_pushed 0) (hr : Room (k) (A.deeper (envOfC "pushed" (defScope s_pushed) s.heap.objs.size f cdv))) :
    PSs (cxOf CX0 P w K mg base N_pushed "pushed" (defScope s_pushed) f cdv A outer s H E).nox (defBody s_pushed) (LS K C (bd_pushed)) :=
  (s_cons (s_set (p := false) (i := 5) sc_pushed.nd rfl (by first | exact Or.inl rfl | exact Or.inr rfl) e_bl (by rw [hC]; decide))
  (s_cons (s_for (p := false) PassesOwn.never rfl (j_en T.z_enumerate (e_ix (o_n (pv 1)) (o_n (pv 0)))) (h_t rfl (h_c (g_n (pg_name (i := 6) sc_pushed.nd rfl (by first | exact Or.inl rfl | exact Or.inr rfl)) (by rw [hC]; decide)) (h_c (g_n (pg_name (i := 7) sc_pushed.nd rfl (by first | exact Or.inl rfl | exact Or.inr rfl)) (by rw [hC]; decide)) gs_n)))
  (s_cons (s_set (p := false) (i := 8) sc_pushed.nd rfl (by first | exact Or.inl rfl | exact Or.inr rfl) (e_ix (o_n (pv 2)) (o_n (pv 6))) (by rw [hC]; decide))
  (s_cons (s_if (p := false) (q_w (w_or (q_cmp op_isN r_isN (o_n (pv 7)) (o_e e_non) (nomark _)) (w_or (q_cmp (op_eqD hr.units) r_eq (o_n (pv 8)) (o_e (e_un un_neg r_U (o_e e_int))) (nomark _)) (w_or1 (q_cmp (op_eqD hr.units) r_eq (o_n (pv 8)) (o_n (pv 0)) (nomark _))))))
  (s_one s_cnt)
  s_nil)
  (s_cons (s_set (p := false) (i := 9) sc_pushed.nd rfl (by first | exact Or.inl rfl | exact Or.inr rfl) (e_op op_sub r_I0 (o_e (e_op op_addAll r_add (o_e (e_ix (o_n (pv 3)) (o_n (pv 0)))) (o_n (pv 7)))) (o_e (e_ix (o_e (e_ix (o_n (pv 1)) (o_n (pv 8)))) (o_n (pv 6))))) (by rw [hC]; decide))
  (s_one (s_if (p := false) (q_w (w_or (q_cmp op_isN r_isN (o_e (e_ix (o_n (pv 3)) (o_n (pv 8)))) (o_e e_non) (nomark _)) (w_or1 (q_cmp op_lt r_IB (o_n (pv 9)) (o_e (e_ix (o_n (pv 3)) (o_n (pv 8)))) (nomark _)))))
  (s_cons (s_asg (p := false) (ps_asg (e_n (pv 9)) (g_ix (o_n (pv 3)) (o_n (pv 8)))))
  (s_cons (s_asg (p := false) (ps_asg (e_n (pv 0)) (g_ix (o_n (pv 4)) (o_n (pv 8)))))
  (s_one (s_set (p := false) (i := 5) sc_pushed.nd rfl (by first | exact Or.inl rfl | exact Or.inr rfl) e_bl (by rw [hC]; decide)))))
  s_nil))))))
  (s_one (s_ret (p := false) (e_nm (pv 5))))))
/-! looking -/
def st_looking_1 : SD :=
  (sAsg (dLc [3] (iV (dNf 1)) (gN 3) qYes (dIf (qB (d2 true fEq (oN 3) (oE (d1 (fU (fun i => -i)) (oE (dC (.int 1))))))) (dC (.int 0)) (dC .non))) (gN 4))
def st_looking_2 : SD :=
  (sAsg (dLc [5] (iV (dNf 1)) (gN 5) qYes (d1 (fU (fun i => -i)) (oE (dC (.int 1))))) (gN 6))
def st_looking_3 : SD :=
  (sAsg (dC (.bl false)) (gN 7))
def st_looking_4 : SD :=
  (sAsg (dC (.bl true)) (gN 7))
def st_looking_5 (g_pushed : FD) : SD :=
  (sIf (qAnd (qB (d2 true fNotN (oE (d2 true fIx (oN 4) (oN 8))) (oE (dC .non)))) (qB (dCall M_pushed g_pushed (aCons true (oN 8) (aCons true (oN 0) (aCons true (oN 2) (aCons true (oN 4) (aCons true (oN 6) aNil))))))))
  st_looking_4
  sNil)
def st_looking_6 (g_pushed : FD) : SD :=
  (sFor (iR1 (aCons true (oE (dF fLen (aCons true (oN 1) aNil))) aNil)) (gN 8)
  (st_looking_5 g_pushed))
def st_looking_7 : SD :=
  sBrk
def st_looking_8 : SD :=
  (sIf (qNot (qV (oN 7)))
  st_looking_7
  sNil)
def st_looking_9 (g_pushed : FD) : SD :=
  (sFor (iV (dNf 1)) (gN 5)
  (sSeq st_looking_3
  (sSeq (st_looking_6 g_pushed)
  st_looking_8)))
def st_looking_10 : SD :=
  (sRet (dTup (aCons true (oE (dNm 4)) (aCons true (oE (dNm 6)) aNil))))
def bd_looking (g_pushed : FD) : SD :=
  (sSeq st_looking_1
  (sSeq st_looking_2
  (sSeq (st_looking_9 g_pushed)
  st_looking_10)))
theorem ps_looking {P : Program} {w : World} {K : PySem.W.Frag} {mg : Str → Option Value} {base : Heap} (T : Txt mg) {k : Nat} {f : Addr} {cdv : Value} {A : Around} {outer : List Env} {s : Shared} {H : Hp} {E : XK} {C : FC} (hC : C.mx = mxOf M_looking 0) (hr : Room (k) (A.deeper (envOfC "looking" (defScope s_looking) s.heap.objs.size f cdv))) {f_pushed : Addr} {fd_pushed : FuncData} {g_pushed : FD} (F_pushed : Cal P w K mg base k "pushed" f_pushed fd_pushed P_pushed C.tabs M_pushed g_pushed) :
    PSs (cxOf CX0 P w K mg base N_looking "looking" (defScope s_looking) f cdv A outer s H E).nox (defBody s_looking) (LS K C (bd_looking g_pushed)) :=
  (s_cons (s_setLc (i := 4) (own := [("mate", 3)]) rfl sc_looking.nd rfl rfl (sw_true rfl rfl rfl rfl) (i_v (e_nf (pv 1))) (blkOk_by (N := N_looking) (sc := defScope s_looking) (by decide +kernel)) ⟨⟨[3], (fun _ h => h), fun _ _ _ _ _ => (g_n (pg_name (i := 3) sc_looking.nd rfl (by first | exact Or.inl rfl | exact Or.inr rfl)) (by simp [FC.blk, FC.gb]))⟩, fun _ _ _ _ _ => q_yes, fun _ _ _ _ _ => (e_if (q_cmp (op_eqD hr.units) r_eq (o_n (pv 3)) (o_e (e_un un_neg r_U (o_e e_int))) (nomark _)) e_int e_non)⟩ (by rw [hC]; decide))
  (s_cons (s_setLc (i := 6) (own := [("_", 5)]) rfl sc_looking.nd rfl rfl (sw_true rfl rfl rfl rfl) (i_v (e_nf (pv 1))) (blkOk_by (N := N_looking) (sc := defScope s_looking) (by decide +kernel)) ⟨⟨[5], (fun _ h => h), fun _ _ _ _ _ => (g_n (pg_name (i := 5) sc_looking.nd rfl (by first | exact Or.inl rfl | exact Or.inr rfl)) (by simp [FC.blk, FC.gb]))⟩, fun _ _ _ _ _ => q_yes, fun _ _ _ _ _ => (e_un un_neg r_U (o_e e_int))⟩ (by rw [hC]; decide))
  (s_cons (s_for (p := false) PassesOwn.never rfl (i_v (e_nf (pv 1))) (g_n (pg_name (i := 5) sc_looking.nd rfl (by first | exact Or.inl rfl | exact Or.inr rfl)) (by rw [hC]; decide))
  (s_cons (s_set (p := false) (i := 7) sc_looking.nd rfl (by first | exact Or.inl rfl | exact Or.inr rfl) e_bl (by rw [hC]; decide))
  (s_cons (s_for (p := false) PassesOwn.never rfl (j_r1 T.z_range (a_cons (o_e (b_len T.z_len (a_cons (o_n (pv 1)) a_nil))) a_nil)) (g_n (pg_name (i := 8) sc_looking.nd rfl (by first | exact Or.inl rfl | exact Or.inr rfl)) (by rw [hC]; decide))
  (s_one (s_if (p := false) (q_w (w_and (q_cmp op_notN r_notN (o_e (e_ix (o_n (pv 4)) (o_n (pv 8)))) (o_e e_non) (nomark _)) (w_and1 (q_val (c_M F_pushed hr (a_cons (o_n (pv 8)) (a_cons (o_n (pv 0)) (a_cons (o_n (pv 2)) (a_cons (o_n (pv 4)) (a_cons (o_n (pv 6)) a_nil))))))))))
  (s_one (s_set (p := false) (i := 7) sc_looking.nd rfl (by first | exact Or.inl rfl | exact Or.inr rfl) e_bl (by rw [hC]; decide)))
  s_nil)))
  (s_one (s_if (p := false) (q_not (q_truth (o_n (pv 7))))
  (s_one s_brk)
  s_nil)))))
  (s_one (s_ret (p := false) (e_tup (a_cons (o_e (e_nm (pv 4))) (a_cons (o_e (e_nm (pv 6))) a_nil))))))))
/-! best_end -/
def st_best_end_1 : SD :=
  (sAsg (dTup aNil) (gN 3))
def st_best_end_2 : SD :=
  sCnt
def st_best_end_3 : SD :=
  (sIf (qB (d2 true fIsN (oE (d2 true fIx (oN 2) (oN 4))) (oE (dC .non))))
  st_best_end_2
  sNil)
def st_best_end_4 : SD :=
  sCnt
def st_best_end_5 : SD :=
  (sIf (qOr (qB (d2 true fIsN (oN 7) (oE (dC .non)))) (qB (d2 true fNe (oE (d2 true fIx (oN 1) (oN 6))) (oE (d1 (fU (fun i => -i)) (oE (dC (.int 1))))))))
  st_best_end_4
  sNil)
def st_best_end_6 : SD :=
  (sAsg (d2 true fAdd (oE (d2 true fIx (oN 2) (oN 4))) (oN 7)) (gN 8))
def st_best_end_7 : SD :=
  (sAsg (dTup (aCons true (oN 8) (aCons true (oN 4) (aCons true (oN 6) aNil)))) (gN 3))
def st_best_end_8 : SD :=
  (sIf (qOr (qNot (qV (oN 3))) (qB (d2 true (fIB (fun i j => decide (i < j))) (oN 8) (oE (d2 true fIx (oN 3) (oE (dC (.int 0))))))))
  st_best_end_7
  sNil)
def st_best_end_9 : SD :=
  (sFor (iEn (dNf 5)) (gT 2 (gsC (gN 6) (gsC (gN 7) gsN)))
  (sSeq st_best_end_5
  (sSeq st_best_end_6
  st_best_end_8)))
def st_best_end_10 : SD :=
  (sFor (iEn (dNf 0)) (gT 2 (gsC (gN 4) (gsC (gN 5) gsN)))
  (sSeq st_best_end_3
  st_best_end_9))
def st_best_end_11 : SD :=
  (sRet (dNm 3))
def bd_best_end : SD :=
  (sSeq st_best_end_1
  (sSeq st_best_end_10
  st_best_end_11))
theorem ps_best_end {P : Program} {w : World} {K : PySem.W.Frag} {mg : Str → Option Value} {base : Heap} (T : Txt mg) {k : Nat} {f : Addr} {cdv : Value} {A : Around} {outer : List Env} {s : Shared} {H : Hp} {E : XK} {C : FC} (hC : C.mx = mxOf M_best_end 0) (hr : Room (k) (A.deeper (envOfC "best_end" (defScope s_best_end) s.heap.objs.size f cdv))) :
    PSs (cxOf CX0 P w K mg base N_best_end "best_end" (defScope s_best_end) f cdv A outer s H E).nox (defBody s_best_end) (LS K C (bd_best_end)) :=
  (s_cons (s_set (p := false) (i := 3) sc_best_end.nd rfl (by first | exact Or.inl rfl | exact Or.inr rfl) (e_tup a_nil) (by rw [hC]; decide))
  (s_cons (s_for (p := false) PassesOwn.never rfl (j_en T.z_enumerate (e_nf (pv 0))) (h_t rfl (h_c (g_n (pg_name (i := 4) sc_best_end.nd rfl (by first | exact Or.inl rfl | exact Or.inr rfl)) (by rw [hC]; decide)) (h_c (g_n (pg_name (i := 5) sc_best_end.nd rfl (by first | exact Or.inl rfl | exact Or.inr rfl)) (by rw [hC]; decide)) gs_n)))
  (s_cons (s_if (p := false) (q_cmp op_isN r_isN (o_e (e_ix (o_n (pv 2)) (o_n (pv 4)))) (o_e e_non) (nomark _))
  (s_one s_cnt)
  s_nil)
  (s_one (s_for (p := false) PassesOwn.never rfl (j_en T.z_enumerate (e_nf (pv 5))) (h_t rfl (h_c (g_n (pg_name (i := 6) sc_best_end.nd rfl (by first | exact Or.inl rfl | exact Or.inr rfl)) (by rw [hC]; decide)) (h_c (g_n (pg_name (i := 7) sc_best_end.nd rfl (by first | exact Or.inl rfl | exact Or.inr rfl)) (by rw [hC]; decide)) gs_n)))
  (s_cons (s_if (p := false) (q_w (w_or (q_cmp op_isN r_isN (o_n (pv 7)) (o_e e_non) (nomark _)) (w_or1 (q_cmp (op_neD hr.units) r_ne (o_e (e_ix (o_n (pv 1)) (o_n (pv 6)))) (o_e (e_un un_neg r_U (o_e e_int))) (nomark _)))))
  (s_one s_cnt)
  s_nil)
  (s_cons (s_set (p := false) (i := 8) sc_best_end.nd rfl (by first | exact Or.inl rfl | exact Or.inr rfl) (e_op op_addAll r_add (o_e (e_ix (o_n (pv 2)) (o_n (pv 4)))) (o_n (pv 7))) (by rw [hC]; decide))
  (s_one (s_if (p := false) (q_w (w_or (q_not (q_truth (o_n (pv 3)))) (w_or1 (q_cmp op_lt r_IB (o_n (pv 8)) (o_e (e_ix (o_n (pv 3)) (o_e e_int))) (nomark _)))))
  (s_one (s_set (p := false) (i := 3) sc_best_end.nd rfl (by first | exact Or.inl rfl | exact Or.inr rfl) (e_tup (a_cons (o_n (pv 8)) (a_cons (o_n (pv 4)) (a_cons (o_n (pv 6)) a_nil)))) (by rw [hC]; decide)))
  s_nil))))))))
  (s_one (s_ret (p := false) (e_nm (pv 3))))))
/-! grown -/
def st_grown_1 (g_looking : FD) : SD :=
  (sAsg (dCallP 3 g_looking (aCons true (oN 0) (aCons true (oN 1) (aCons true (oN 2) aNil)))) (gT 2 (gsC (gN 3) (gsC (gN 4) gsN))))
def st_grown_2 (g_best_end : FD) : SD :=
  (sAsg (dCallP 3 g_best_end (aCons true (oN 0) (aCons true (oN 2) (aCons true (oN 3) aNil)))) (gN 5))
def st_grown_3 : SD :=
  (sRet (dC (.bl false)))
def st_grown_4 : SD :=
  (sIf (qNot (qV (oN 5)))
  st_grown_3
  sNil)
def st_grown_5 : SD :=
  (sAsg (d2 true fIx (oN 5) (oE (dC (.int 1)))) (gN 6))
def st_grown_6 : SD :=
  (sAsg (d2 true fIx (oN 5) (oE (dC (.int 2)))) (gN 7))
def st_grown_7 : SD :=
  (sAsg (d2 true fIx (oN 1) (oN 6)) (gN 8))
def st_grown_8 : SD :=
  (sAsg (dN 7) (gIx true (oN 1) (oN 6)))
def st_grown_9 : SD :=
  (sAsg (dN 6) (gIx true (oN 2) (oN 7)))
def st_grown_10 : SD :=
  (sAsg (dN 8) (gN 7))
def st_grown_11 : SD :=
  (sAsg (d2 true fIx (oN 4) (oN 6)) (gN 6))
def st_grown_12 : SD :=
  (sWhile (qB (d2 true fNe (oN 6) (oE (d1 (fU (fun i => -i)) (oE (dC (.int 1)))))))
  (sSeq st_grown_7
  (sSeq st_grown_8
  (sSeq st_grown_9
  (sSeq st_grown_10
  st_grown_11)))))
def st_grown_13 : SD :=
  (sRet (dC (.bl true)))
def bd_grown (g_looking : FD) (g_best_end : FD) : SD :=
  (sSeq (st_grown_1 g_looking)
  (sSeq (st_grown_2 g_best_end)
  (sSeq st_grown_4
  (sSeq st_grown_5
  (sSeq st_grown_6
  (sSeq st_grown_12
  st_grown_13))))))
theorem ps_grown {P : Program} {w : World} {K : PySem.W.Frag} {mg : Str → Option Value} {base : Heap} (T : Txt mg) {k : Nat} {f : Addr} {cdv : Value} {A : Around} {outer : List Env} {s : Shared} {H : Hp} {E : XK} {C : FC} (hC : C.mx = mxOf M_grown 0) (hr : Room (k) (A.deeper (envOfC "grown" (defScope s_grown) s.heap.objs.size f cdv))) {f_looking : Addr} {fd_looking : FuncData} {g_looking : FD} (F_looking : Cal P w K mg base k "looking" f_looking fd_looking P_looking C.tabs M_looking g_looking) {f_best_end : Addr} {fd_best_end : FuncData} {g_best_end : FD} (F_best_end : Cal P w K mg base k "best_end" f_best_end fd_best_end P_best_end C.tabs M_best_end g_best_end) :
    PSs (cxOf CX0 P w K mg base N_grown "grown" (defScope s_grown) f cdv A outer s H E).nox (defBody s_grown) (LS K C (bd_grown g_looking g_best_end)) :=
  (s_cons (s_asg (p := false) (ps_asg (c_P (n := 3) F_looking hr (a_cons (o_n (pv 0)) (a_cons (o_n (pv 1)) (a_cons (o_n (pv 2)) a_nil)))) (h_t rfl (h_c (g_n (pg_name (i := 3) sc_grown.nd rfl (by first | exact Or.inl rfl | exact Or.inr rfl)) (by rw [hC]; decide)) (h_c (g_n (pg_name (i := 4) sc_grown.nd rfl (by first | exact Or.inl rfl | exact Or.inr rfl)) (by rw [hC]; decide)) gs_n)))))
  (s_cons (s_set (p := false) (i := 5) sc_grown.nd rfl (by first | exact Or.inl rfl | exact Or.inr rfl) (c_P (n := 3) F_best_end hr (a_cons (o_n (pv 0)) (a_cons (o_n (pv 2)) (a_cons (o_n (pv 3)) a_nil)))) (by rw [hC]; decide))
  (s_cons (s_if (p := false) (q_not (q_truth (o_n (pv 5))))
  (s_one (s_ret (p := false) e_bl))
  s_nil)
  (s_cons (s_set (p := false) (i := 6) sc_grown.nd rfl (by first | exact Or.inl rfl | exact Or.inr rfl) (e_ix (o_n (pv 5)) (o_e e_int)) (by rw [hC]; decide))
  (s_cons (s_set (p := false) (i := 7) sc_grown.nd rfl (by first | exact Or.inl rfl | exact Or.inr rfl) (e_ix (o_n (pv 5)) (o_e e_int)) (by rw [hC]; decide))
  (s_cons (s_while (p := false) PassesOwn.never (q_cmp (op_neD hr.units) r_ne (o_n (pv 6)) (o_e (e_un un_neg r_U (o_e e_int))) (nomark _))
  (s_cons (s_set (p := false) (i := 8) sc_grown.nd rfl (by first | exact Or.inl rfl | exact Or.inr rfl) (e_ix (o_n (pv 1)) (o_n (pv 6))) (by rw [hC]; decide))
  (s_cons (s_asg (p := false) (ps_asg (e_n (pv 7)) (g_ix (o_n (pv 1)) (o_n (pv 6)))))
  (s_cons (s_asg (p := false) (ps_asg (e_n (pv 6)) (g_ix (o_n (pv 2)) (o_n (pv 7)))))
  (s_cons (s_set (p := false) (i := 7) sc_grown.nd rfl (by first | exact Or.inl rfl | exact Or.inr rfl) (e_n (pv 8)) (by rw [hC]; decide))
  (s_one (s_set (p := false) (i := 6) sc_grown.nd rfl (by first | exact Or.inl rfl | exact Or.inr rfl) (e_ix (o_n (pv 4)) (o_n (pv 6))) (by rw [hC]; decide))))))))
  (s_one (s_ret (p := false) e_bl))))))))
/-! mates_cost -/
def bd_mates_cost : SD :=
  (sRet (dSumG [2, 3] (iEn (dNf 1)) (gT 2 (gsC (gN 2) (gsC (gN 3) gsN))) (qB (d2 true fNe (oN 3) (oE (d1 (fU (fun i => -i)) (oE (dC (.int 1))))))) (d2 true fIx (oE (d2 true fIx (oN 0) (oN 2))) (oN 3))))
theorem ps_mates_cost {P : Program} {w : World} {K : PySem.W.Frag} {mg : Str → Option Value} {base : Heap} (T : Txt mg) {k : Nat} {f : Addr} {cdv : Value} {A : Around} {outer : List Env} {s : Shared} {H : Hp} {E : XK} {C : FC} (hC : C.mx = mxOf M_mates_cost 0) (hr : Room (k + 6) (A.deeper (envOfC "mates_cost" (defScope s_mates_cost) s.heap.objs.size f cdv))) {c P0 : Addr} (hG : GxR.TabB base mg c P0 ∧ cdv = .ref c ∧ P0 ∈ C.tabs) :
    PSs (cxOf CX0 P w K mg base N_mates_cost "mates_cost" (defScope s_mates_cost) f cdv A outer s H E).nox (defBody s_mates_cost) (LS K C (bd_mates_cost)) :=
  (s_one (s_ret (p := false) (b_sumG (n := 3) (k := k) (own := [("thing", 2), ("report", 3)]) T.z_sum hr ⟨hG.2.1, ⟨_, _, hG.1⟩, .inl ⟨hG.1, hG.2.2, rfl⟩⟩ rfl sc_mates_cost.nd ⟨(blkOk_by (N := N_mates_cost) (sc := defScope s_mates_cost) (by decide +kernel)), (show (".0" : Str) ∉ N_mates_cost from by decide +kernel), rfl, rfl⟩ (j_en T.z_enumerate (e_nf (pv 1))) ⟨⟨[2, 3], (fun _ h => h), fun x1 _ _ _ _ _ hr2 => (h_t rfl (h_c (g_n (pg_name (i := 2) sc_mates_cost.nd rfl (by first | exact Or.inl rfl | exact Or.inr rfl)) (by simp [FC.blk, FC.gb])) (h_c (g_n (pg_name (i := 3) sc_mates_cost.nd rfl (by first | exact Or.inl rfl | exact Or.inr rfl)) (by simp [FC.blk, FC.gb])) gs_n)))⟩, fun x1 _ _ _ _ _ hr2 => (q_one (q_cmp (op_neD hr2.units) r_ne (o_n (pv 3)) (o_e (e_un un_neg r_U (o_e e_int))) (nomark _))), fun x1 _ _ _ _ _ hr2 => (e_ix (o_e (e_ix (o_n (pv 0)) (o_n (pv 2)))) (o_n (pv 3)))⟩)))
/-! least_pairings -/
def st_least_pairings_1 (g_weighed : FD) : SD :=
  (sAsg (dCallP 2 g_weighed (aCons true (oN 0) (aCons true (oN 1) aNil))) (gN 3))
def st_least_pairings_2 : SD :=
  (sAsg (dLc [4] (iV (dNf 0)) (gN 4) qYes (d1 (fU (fun i => -i)) (oE (dC (.int 1))))) (gN 5))
def st_least_pairings_3 (g_width : FD) : SD :=
  (sAsg (dLc [4] (iR1 (aCons true (oE (dCallP 1 g_width (aCons true (oN 0) aNil))) aNil)) (gN 4) qYes (d1 (fU (fun i => -i)) (oE (dC (.int 1))))) (gN 6))
def st_least_pairings_4 : SD :=
  (sAsg (dLst aNil) (gN 7))
def st_least_pairings_5 : SD :=
  sBrk
def st_least_pairings_6 (g_grown : FD) : SD :=
  (sIf (qAnd (qB (d2 true (fIB (fun i j => decide (j < i))) (oN 8) (oE (dC (.int 0))))) (qNot (qB (dCall M_grown g_grown (aCons true (oN 3) (aCons true (oN 5) (aCons true (oN 6) aNil)))))))
  st_least_pairings_5
  sNil)
def st_least_pairings_7 : SD :=
  sBrk
def st_least_pairings_8 : SD :=
  (sIf (qAnd (qB (d2 true fEq (oN 8) (oE (dF fLen (aCons true (oN 1) aNil))))) (qV (oE (dTestG true [9] (iV (dNf 1)) (gN 9) qYes (d2 true fEq (oE (d2 true fIx (oN 6) (oN 9))) (oE (d1 (fU (fun i => -i)) (oE (dC (.int 1))))))))))
  st_least_pairings_7
  sNil)
def st_least_pairings_9 (g_mates_cost : FD) : SD :=
  (sDrop (dMt true mAppend (oN 7) (aCons true (oE (dTup (aCons true (oE (dCallP 2 g_mates_cost (aCons true (oN 0) (aCons true (oN 5) aNil)))) (aCons true (oE (dF fTuple (aCons true (oN 5) aNil))) aNil)))) aNil)))
def st_least_pairings_10 (g_mates_cost : FD) : SD :=
  (sIf (qB (d2 true (fIB (fun i j => decide (j ≤ i))) (oN 8) (oE (dF fLen (aCons true (oN 1) aNil)))))
  (st_least_pairings_9 g_mates_cost)
  sNil)
def st_least_pairings_11 (g_grown : FD) (g_mates_cost : FD) : SD :=
  (sFor (iR1 (aCons true (oE (d2 true fAdd (oE (dF fMax2 (aCons true (oN 2) (aCons true (oE (dF fLen (aCons true (oN 1) aNil))) aNil)))) (oE (dC (.int 1))))) aNil)) (gN 8)
  (sSeq (st_least_pairings_6 g_grown)
  (sSeq st_least_pairings_8
  (st_least_pairings_10 g_mates_cost))))
def st_least_pairings_12 : SD :=
  (sRet (dNm 7))
def bd_least_pairings (g_weighed : FD) (g_width : FD) (g_grown : FD) (g_mates_cost : FD) : SD :=
  (sSeq (st_least_pairings_1 g_weighed)
  (sSeq st_least_pairings_2
  (sSeq (st_least_pairings_3 g_width)
  (sSeq st_least_pairings_4
  (sSeq (st_least_pairings_11 g_grown g_mates_cost)
  st_least_pairings_12)))))
theorem ps_least_pairings {P : Program} {w : World} {K : PySem.W.Frag} {mg : Str → Option Value} {base : Heap} (T : Txt mg) {k : Nat} {f : Addr} {cdv : Value} {A : Around} {outer : List Env} {s : Shared} {H : Hp} {E : XK} {C : FC} (hC : C.mx = mxOf M_least_pairings 0) (hr : Room (k + 6) (A.deeper (envOfC "least_pairings" (defScope s_least_pairings) s.heap.objs.size f cdv))) {c P0 : Addr} (hG : GxR.TabB base mg c P0 ∧ cdv = .ref c ∧ P0 ∈ C.tabs) {f_weighed : Addr} {fd_weighed : FuncData} {g_weighed : FD} (F_weighed : Cal P w K mg base k "weighed" f_weighed fd_weighed P_weighed C.tabs M_weighed g_weighed) {f_width : Addr} {fd_width : FuncData} {g_width : FD} (F_width : Cal P w K mg base k "width" f_width fd_width P_width C.tabs M_width g_width) {f_grown : Addr} {fd_grown : FuncData} {g_grown : FD} (F_grown : Cal P w K mg base k "grown" f_grown fd_grown P_grown C.tabs M_grown g_grown) {f_mates_cost : Addr} {fd_mates_cost : FuncData} {g_mates_cost : FD} (F_mates_cost : Cal P w K mg base k "mates_cost" f_mates_cost fd_mates_cost P_mates_cost C.tabs M_mates_cost g_mates_cost) :
    PSs (cxOf CX0 P w K mg base N_least_pairings "least_pairings" (defScope s_least_pairings) f cdv A outer s H E).nox (defBody s_least_pairings) (LS K C (bd_least_pairings g_weighed g_width g_grown g_mates_cost)) :=
  (s_cons (s_set (p := false) (i := 3) sc_least_pairings.nd rfl (by first | exact Or.inl rfl | exact Or.inr rfl) (c_P (n := 2) (F_weighed.up 6) hr (a_cons (o_n (pv 0)) (a_cons (o_n (pv 1)) a_nil))) (by rw [hC]; decide))
  (s_cons (s_setLc (i := 5) (own := [("_", 4)]) rfl sc_least_pairings.nd rfl rfl (sw_true rfl rfl rfl rfl) (i_v (e_nf (pv 0))) (blkOk_by (N := N_least_pairings) (sc := defScope s_least_pairings) (by decide +kernel)) ⟨⟨[4], (fun _ h => h), fun _ _ _ _ _ => (g_n (pg_name (i := 4) sc_least_pairings.nd rfl (by first | exact Or.inl rfl | exact Or.inr rfl)) (by simp [FC.blk, FC.gb]))⟩, fun _ _ _ _ _ => q_yes, fun _ _ _ _ _ => (e_un un_neg r_U (o_e e_int))⟩ (by rw [hC]; decide))
  (s_cons (s_set (p := false) (i := 6) sc_least_pairings.nd rfl (by first | exact Or.inl rfl | exact Or.inr rfl) (e_lc (own := [("_", 4)]) rfl sc_least_pairings.nd (j_r1 T.z_range (a_cons (o_e (c_P (n := 1) (F_width.up 6) hr (a_cons (o_n (pv 0)) a_nil))) a_nil)) (blkOk_by (N := N_least_pairings) (sc := defScope s_least_pairings) (by decide +kernel)) ⟨⟨[4], (fun _ h => h), fun _ _ _ _ _ => (g_n (pg_name (i := 4) sc_least_pairings.nd rfl (by first | exact Or.inl rfl | exact Or.inr rfl)) (by simp [FC.blk, FC.gb]))⟩, fun _ _ _ _ _ => q_yes, fun _ _ _ _ _ => (e_un un_neg r_U (o_e e_int))⟩) (by rw [hC]; decide))
  (s_cons (s_set (p := false) (i := 7) sc_least_pairings.nd rfl (by first | exact Or.inl rfl | exact Or.inr rfl) (e_lst a_nil) (by rw [hC]; decide))
  (s_cons (s_for (p := false) PassesOwn.never rfl (j_r1 T.z_range (a_cons (o_e (e_op op_addAll r_add (o_e (b_max2 T.z_max rfl (a_cons (o_n (pv 2)) (a_cons (o_e (b_len T.z_len (a_cons (o_n (pv 1)) a_nil))) a_nil)))) (o_e e_int))) a_nil)) (g_n (pg_name (i := 8) sc_least_pairings.nd rfl (by first | exact Or.inl rfl | exact Or.inr rfl)) (by rw [hC]; decide))
  (s_cons (s_if (p := false) (q_w (w_and (q_cmp op_gt r_IB (o_n (pv 8)) (o_e e_int) (nomark _)) (w_and1 (q_not (q_val (c_M (F_grown.up 6) hr (a_cons (o_n (pv 3)) (a_cons (o_n (pv 5)) (a_cons (o_n (pv 6)) a_nil)))))))))
  (s_one s_brk)
  s_nil)
  (s_cons (s_if (p := false) (q_w (w_and (q_cmp (op_eqD hr.units) r_eq (o_n (pv 8)) (o_e (b_len T.z_len (a_cons (o_n (pv 1)) a_nil))) (nomark _)) (w_and1 (q_truth (o_e (b_anyG (n := 3) (k := k) (own := [("report", 9)]) T.z_any hr ⟨hG.2.1, ⟨_, _, hG.1⟩, .inl ⟨hG.1, hG.2.2, rfl⟩⟩ rfl sc_least_pairings.nd ⟨(blkOk_by (N := N_least_pairings) (sc := defScope s_least_pairings) (by decide +kernel)), (show (".0" : Str) ∉ N_least_pairings from by decide +kernel), rfl, rfl⟩ (i_v (e_nf (pv 1))) ⟨⟨[9], (fun _ h => h), fun x1 _ _ _ _ _ hr2 => (g_n (pg_name (i := 9) sc_least_pairings.nd rfl (by first | exact Or.inl rfl | exact Or.inr rfl)) (by simp [FC.blk, FC.gb]))⟩, fun x1 _ _ _ _ _ hr2 => q_yes, fun x1 _ _ _ _ _ hr2 => (e_cmp (op_eqD hr2.units) r_eq (o_e (e_ix (o_n (pv 6)) (o_n (pv 9)))) (o_e (e_un un_neg r_U (o_e e_int))) (nomark _))⟩))))))
  (s_one s_brk)
  s_nil)
  (s_one (s_if (p := false) (q_cmp op_ge r_IB (o_n (pv 8)) (o_e (b_len T.z_len (a_cons (o_n (pv 1)) a_nil))) (nomark _))
  (s_one (s_expr (p := false) (m_app (o_n (pv 7)) (a_cons (o_e (e_tup (a_cons (o_e (c_P (n := 2) (F_mates_cost.up 6) hr (a_cons (o_n (pv 0)) (a_cons (o_n (pv 5)) a_nil)))) (a_cons (o_e (b_tuple T.z_tuple (a_cons (o_n (pv 5)) a_nil))) a_nil)))) a_nil))))
  s_nil)))))
  (s_one (s_ret (p := false) (e_nm (pv 7)))))))))
/-! least_row -/
def st_least_row_1 : SD :=
  (sAsg (dN 1) (gT 2 (gsC (gN 2) (gsC (gN 3) gsN))))
def st_least_row_2 (g_least_pairings : FD) : SD :=
  (sAsg (dCallP 3 g_least_pairings (aCons true (oN 0) (aCons true (oN 3) (aCons true (oN 2) aNil)))) (gN 4))
def st_least_row_3 : SD :=
  (sAsg (dF fMax2 (aCons true (oE (d2 true (fI0 (fun i j => i - j)) (oN 2) (oE (dF fLen (aCons true (oN 3) aNil))))) (aCons true (oE (dC (.int 0))) aNil))) (gN 5))
def st_least_row_4 : SD :=
  (sRet (dTup aNil))
def st_least_row_5 : SD :=
  (sIf (qB (d2 true (fIB (fun i j => decide (j ≤ i))) (oN 5) (oE (dF fLen (aCons true (oN 4) aNil)))))
  st_least_row_4
  sNil)
def st_least_row_6 : SD :=
  (sAsg (dIf (qB (d2 true (fIB (fun i j => decide (j < i))) (oN 5) (oE (dC (.int 0))))) (d2 true (fI0 (fun i j => i - j)) (oE (d2 true fIx (oE (d2 true fIx (oN 4) (oN 5))) (oE (dC (.int 0))))) (oE (d2 true fIx (oE (d2 true fIx (oN 4) (oE (d2 true (fI0 (fun i j => i - j)) (oN 5) (oE (dC (.int 1))))))) (oE (dC (.int 0)))))) (dC (.int 0))) (gN 6))
def st_least_row_7 : SD :=
  (sRet (dTup (aCons true (oE (d2 true fIx (oE (d2 true fIx (oN 4) (oN 5))) (oE (dC (.int 0))))) (aCons true (oN 6) (aCons true (oE (d2 true fIx (oE (d2 true fIx (oN 4) (oN 5))) (oE (dC (.int 1))))) aNil)))))
def bd_least_row (g_least_pairings : FD) : SD :=
  (sSeq st_least_row_1
  (sSeq (st_least_row_2 g_least_pairings)
  (sSeq st_least_row_3
  (sSeq st_least_row_5
  (sSeq st_least_row_6
  st_least_row_7)))))
theorem ps_least_row {P : Program} {w : World} {K : PySem.W.Frag} {mg : Str → Option Value} {base : Heap} (T : Txt mg) {k : Nat} {f : Addr} {cdv : Value} {A : Around} {outer : List Env} {s : Shared} {H : Hp} {E : XK} {C : FC} (hC : C.mx = mxOf M_least_row 0) (hr : Room (k) (A.deeper (envOfC "least_row" (defScope s_least_row) s.heap.objs.size f cdv))) {f_least_pairings : Addr} {fd_least_pairings : FuncData} {g_least_pairings : FD} (F_least_pairings : Cal P w K mg base k "least_pairings" f_least_pairings fd_least_pairings P_least_pairings C.tabs M_least_pairings g_least_pairings) :
    PSs (cxOf CX0 P w K mg base N_least_row "least_row" (defScope s_least_row) f cdv A outer s H E).nox (defBody s_least_row) (LS K C (bd_least_row g_least_pairings)) :=
  (s_cons (s_asg (p := false) (ps_asg (e_n (pv 1)) (h_t rfl (h_c (g_n (pg_name (i := 2) sc_least_row.nd rfl (by first | exact Or.inl rfl | exact Or.inr rfl)) (by rw [hC]; decide)) (h_c (g_n (pg_name (i := 3) sc_least_row.nd rfl (by first | exact Or.inl rfl | exact Or.inr rfl)) (by rw [hC]; decide)) gs_n)))))
  (s_cons (s_set (p := false) (i := 4) sc_least_row.nd rfl (by first | exact Or.inl rfl | exact Or.inr rfl) (c_P (n := 3) F_least_pairings hr (a_cons (o_n (pv 0)) (a_cons (o_n (pv 3)) (a_cons (o_n (pv 2)) a_nil)))) (by rw [hC]; decide))
  (s_cons (s_set (p := false) (i := 5) sc_least_row.nd rfl (by first | exact Or.inl rfl | exact Or.inr rfl) (b_max2 T.z_max rfl (a_cons (o_e (e_op op_sub r_I0 (o_n (pv 2)) (o_e (b_len T.z_len (a_cons (o_n (pv 3)) a_nil))))) (a_cons (o_e e_int) a_nil))) (by rw [hC]; decide))
  (s_cons (s_if (p := false) (q_cmp op_ge r_IB (o_n (pv 5)) (o_e (b_len T.z_len (a_cons (o_n (pv 4)) a_nil))) (nomark _))
  (s_one (s_ret (p := false) (e_tup a_nil)))
  s_nil)
  (s_cons (s_set (p := false) (i := 6) sc_least_row.nd rfl (by first | exact Or.inl rfl | exact Or.inr rfl) (e_if (q_cmp op_gt r_IB (o_n (pv 5)) (o_e e_int) (nomark _)) (e_op op_sub r_I0 (o_e (e_ix (o_e (e_ix (o_n (pv 4)) (o_n (pv 5)))) (o_e e_int))) (o_e (e_ix (o_e (e_ix (o_n (pv 4)) (o_e (e_op op_sub r_I0 (o_n (pv 5)) (o_e e_int))))) (o_e e_int)))) e_int) (by rw [hC]; decide))
  (s_one (s_ret (p := false) (e_tup (a_cons (o_e (e_ix (o_e (e_ix (o_n (pv 4)) (o_n (pv 5)))) (o_e e_int))) (a_cons (o_n (pv 6)) (a_cons (o_e (e_ix (o_e (e_ix (o_n (pv 4)) (o_n (pv 5)))) (o_e e_int))) a_nil)))))))))))
/-! least_cost -/
def bd_least_cost (g_least_row : FD) : SD :=
  (sSeq (sAsg (dCallP 2 g_least_row (aCons true (oN 0) (aCons true (oN 1) aNil))) (gN 2))
  (sRet (dIf (qV (oN 2)) (d2 true fIx (oN 2) (oE (dC (.int 0)))) (d1 (fU (fun i => -i)) (oE (dC (.int 1)))))))
theorem ps_least_cost {P : Program} {w : World} {K : PySem.W.Frag} {mg : Str → Option Value} {base : Heap} (T : Txt mg) {k : Nat} {f : Addr} {cdv : Value} {A : Around} {outer : List Env} {s : Shared} {H : Hp} {E : XK} {C : FC} (hC : C.mx = mxOf M_least_cost 0) (hr : Room (k) (A.deeper (envOfC "least_cost" (defScope s_least_cost) s.heap.objs.size f cdv))) {f_least_row : Addr} {fd_least_row : FuncData} {g_least_row : FD} (F_least_row : Cal P w K mg base k "least_row" f_least_row fd_least_row P_least_row C.tabs M_least_row g_least_row) :
    PSs (cxOf CX0 P w K mg base N_least_cost "least_cost" (defScope s_least_cost) f cdv A outer s H E).nox (defBody s_least_cost) (LS K C (bd_least_cost g_least_row)) :=
  (s_cons (s_set (p := false) (i := 2) sc_least_cost.nd rfl (by first | exact Or.inl rfl | exact Or.inr rfl) (c_P (n := 2) F_least_row hr (a_cons (o_n (pv 0)) (a_cons (o_n (pv 1)) a_nil))) (by rw [hC]; decide))
  (s_one (s_ret (p := false) (e_if (q_truth (o_n (pv 2))) (e_ix (o_n (pv 2)) (o_e e_int)) (e_un un_neg r_U (o_e e_int))))))
/-! smaller -/
def bd_smaller (g_without : FD) : SD :=
  (sSeq (sAsg (dN 1) (gT 2 (gsC (gN 4) (gsC (gN 5) gsN))))
  (sSeq (sAsg (dTupG [6] (iV (dNf 5)) (gN 6) (qB (d2 true fNe (oN 6) (oN 3))) (dIf (qB (d2 true (fIB (fun i j => decide (j < i))) (oN 6) (oN 3))) (d2 true (fI0 (fun i j => i - j)) (oN 6) (oE (dC (.int 1)))) (dN 6))) (gN 7))
  (sRet (dTup (aCons true (oE (dCallP 3 g_without (aCons true (oN 0) (aCons true (oE (dTup (aCons true (oN 2) aNil))) (aCons true (oE (dTup (aCons true (oN 3) aNil))) aNil))))) (aCons true (oE (dTup (aCons true (oE (dF fMax2 (aCons true (oE (d2 true (fI0 (fun i j => i - j)) (oN 4) (oE (dC (.int 1))))) (aCons true (oE (dC (.int 0))) aNil)))) (aCons true (oN 7) aNil)))) aNil))))))
theorem ps_smaller {P : Program} {w : World} {K : PySem.W.Frag} {mg : Str → Option Value} {base : Heap} (T : Txt mg) {k : Nat} {f : Addr} {cdv : Value} {A : Around} {outer : List Env} {s : Shared} {H : Hp} {E : XK} {C : FC} (hC : C.mx = mxOf M_smaller 0) (hr : Room (k + 6) (A.deeper (envOfC "smaller" (defScope s_smaller) s.heap.objs.size f cdv))) {c P0 : Addr} (hG : GxR.TabB base mg c P0 ∧ cdv = .ref c ∧ P0 ∈ C.tabs) {f_without : Addr} {fd_without : FuncData} {g_without : FD} (F_without : Cal P w K mg base k "without" f_without fd_without P_without C.tabs M_without g_without) :
    PSs (cxOf CX0 P w K mg base N_smaller "smaller" (defScope s_smaller) f cdv A outer s H E).nox (defBody s_smaller) (LS K C (bd_smaller g_without)) :=
  (s_cons (s_asg (p := false) (ps_asg (e_n (pv 1)) (h_t rfl (h_c (g_n (pg_name (i := 4) sc_smaller.nd rfl (by first | exact Or.inl rfl | exact Or.inr rfl)) (by rw [hC]; decide)) (h_c (g_n (pg_name (i := 5) sc_smaller.nd rfl (by first | exact Or.inl rfl | exact Or.inr rfl)) (by rw [hC]; decide)) gs_n)))))
  (s_cons (s_set (p := false) (i := 7) sc_smaller.nd rfl (by first | exact Or.inl rfl | exact Or.inr rfl) (b_tupG (n := 3) (k := k) (own := [("other", 6)]) T.z_tuple hr ⟨hG.2.1, ⟨_, _, hG.1⟩, .inl ⟨hG.1, hG.2.2, rfl⟩⟩ rfl sc_smaller.nd ⟨(blkOk_by (N := N_smaller) (sc := defScope s_smaller) (by decide +kernel)), (show (".0" : Str) ∉ N_smaller from by decide +kernel), rfl, rfl⟩ (i_v (e_nf (pv 5))) ⟨⟨[6], (fun _ h => h), fun x1 _ _ _ _ _ hr2 => (g_n (pg_name (i := 6) sc_smaller.nd rfl (by first | exact Or.inl rfl | exact Or.inr rfl)) (by simp [FC.blk, FC.gb]))⟩, fun x1 _ _ _ _ _ hr2 => (q_one (q_cmp (op_neD hr2.units) r_ne (o_n (pv 6)) (o_n (pv 3)) (nomark _))), fun x1 _ _ _ _ _ hr2 => (e_if (q_cmp op_gt r_IB (o_n (pv 6)) (o_n (pv 3)) (nomark _)) (e_op op_sub r_I0 (o_n (pv 6)) (o_e e_int)) (e_n (pv 6)))⟩) (by rw [hC]; decide))
  (s_one (s_ret (p := false) (e_tup (a_cons (o_e (c_P (n := 3) (F_without.up 6) hr (a_cons (o_n (pv 0)) (a_cons (o_e (e_tup (a_cons (o_n (pv 2)) a_nil))) (a_cons (o_e (e_tup (a_cons (o_n (pv 3)) a_nil))) a_nil))))) (a_cons (o_e (e_tup (a_cons (o_e (b_max2 T.z_max rfl (a_cons (o_e (e_op op_sub r_I0 (o_n (pv 4)) (o_e e_int))) (a_cons (o_e e_int) a_nil)))) (a_cons (o_n (pv 7)) a_nil)))) a_nil)))))))
/-! least_with -/
def st_least_with_1 : SD :=
  (sRet (d1 (fU (fun i => -i)) (oE (dC (.int 1)))))
def st_least_with_2 : SD :=
  (sIf (qB (d2 true fEq (oE (d2 true fIx (oE (d2 true fIx (oN 0) (oN 2))) (oN 3))) (oE (d1 (fU (fun i => -i)) (oE (dC (.int 1)))))))
  st_least_with_1
  sNil)
def st_least_with_3 (g_smaller : FD) : SD :=
  (sAsg (dCallP 4 g_smaller (aCons true (oN 0) (aCons true (oN 1) (aCons true (oN 2) (aCons true (oN 3) aNil))))) (gT 2 (gsC (gN 4) (gsC (gN 5) gsN))))
def st_least_with_4 (g_least_cost : FD) : SD :=
  (sAsg (dCallP 2 g_least_cost (aCons true (oN 4) (aCons true (oN 5) aNil))) (gN 6))
def st_least_with_5 : SD :=
  (sRet (dIf (qB (d2 true fEq (oN 6) (oE (d1 (fU (fun i => -i)) (oE (dC (.int 1))))))) (d1 (fU (fun i => -i)) (oE (dC (.int 1)))) (d2 true fAdd (oN 6) (oE (d2 true fIx (oE (d2 true fIx (oN 0) (oN 2))) (oN 3))))))
def bd_least_with (g_smaller : FD) (g_least_cost : FD) : SD :=
  (sSeq st_least_with_2
  (sSeq (st_least_with_3 g_smaller)
  (sSeq (st_least_with_4 g_least_cost)
  st_least_with_5)))
theorem ps_least_with {P : Program} {w : World} {K : PySem.W.Frag} {mg : Str → Option Value} {base : Heap} (T : Txt mg) {k : Nat} {f : Addr} {cdv : Value} {A : Around} {outer : List Env} {s : Shared} {H : Hp} {E : XK} {C : FC} (hC : C.mx = mxOf M_least_with 0) (hr : Room (k) (A.deeper (envOfC "least_with" (defScope s_least_with) s.heap.objs.size f cdv))) {f_smaller : Addr} {fd_smaller : FuncData} {g_smaller : FD} (F_smaller : Cal P w K mg base k "smaller" f_smaller fd_smaller P_smaller C.tabs M_smaller g_smaller) {f_least_cost : Addr} {fd_least_cost : FuncData} {g_least_cost : FD} (F_least_cost : Cal P w K mg base k "least_cost" f_least_cost fd_least_cost P_least_cost C.tabs M_least_cost g_least_cost) :
    PSs (cxOf CX0 P w K mg base N_least_with "least_with" (defScope s_least_with) f cdv A outer s H E).nox (defBody s_least_with) (LS K C (bd_least_with g_smaller g_least_cost)) :=
  (s_cons (s_if (p := false) (q_cmp (op_eqD hr.units) r_eq (o_e (e_ix (o_e (e_ix (o_n (pv 0)) (o_n (pv 2)))) (o_n (pv 3)))) (o_e (e_un un_neg r_U (o_e e_int))) (nomark _))
  (s_one (s_ret (p := false) (e_un un_neg r_U (o_e e_int))))
  s_nil)
  (s_cons (s_asg (p := false) (ps_asg (c_P (n := 4) F_smaller hr (a_cons (o_n (pv 0)) (a_cons (o_n (pv 1)) (a_cons (o_n (pv 2)) (a_cons (o_n (pv 3)) a_nil))))) (h_t rfl (h_c (g_n (pg_name (i := 4) sc_least_with.nd rfl (by first | exact Or.inl rfl | exact Or.inr rfl)) (by rw [hC]; decide)) (h_c (g_n (pg_name (i := 5) sc_least_with.nd rfl (by first | exact Or.inl rfl | exact Or.inr rfl)) (by rw [hC]; decide)) gs_n)))))
  (s_cons (s_set (p := false) (i := 6) sc_least_with.nd rfl (by first | exact Or.inl rfl | exact Or.inr rfl) (c_P (n := 2) F_least_cost hr (a_cons (o_n (pv 4)) (a_cons (o_n (pv 5)) a_nil))) (by rw [hC]; decide))
  (s_one (s_ret (p := false) (e_if (q_cmp (op_eqD hr.units) r_eq (o_n (pv 6)) (o_e (e_un un_neg r_U (o_e e_int))) (nomark _)) (e_un un_neg r_U (o_e e_int)) (e_op op_addAll r_add (o_n (pv 6)) (o_e (e_ix (o_e (e_ix (o_n (pv 0)) (o_n (pv 2)))) (o_n (pv 3)))))))))))
/-! with_pair -/
def bd_with_pair (g_least_with : FD) : SD :=
  (sRet (dCallP 4 g_least_with (aCons true (oN 0) (aCons true (oN 1) (aCons true (oN 2) (aCons true (oN 3) aNil))))))
theorem ps_with_pair {P : Program} {w : World} {K : PySem.W.Frag} {mg : Str → Option Value} {base : Heap} (T : Txt mg) {k : Nat} {f : Addr} {cdv : Value} {A : Around} {outer : List Env} {s : Shared} {H : Hp} {E : XK} {C : FC} (hC : C.mx = mxOf M_with_pair 0) (hr : Room (k) (A.deeper (envOfC "with_pair" (defScope s_with_pair) s.heap.objs.size f cdv))) {f_least_with : Addr} {fd_least_with : FuncData} {g_least_with : FD} (F_least_with : Cal P w K mg base k "least_with" f_least_with fd_least_with P_least_with C.tabs M_least_with g_least_with) :
    PSs (cxOf CX0 P w K mg base N_with_pair "with_pair" (defScope s_with_pair) f cdv A outer s H E).nox (defBody s_with_pair) (LS K C (bd_with_pair g_least_with)) :=
  (s_one (s_ret (p := false) (c_P (n := 4) F_least_with hr (a_cons (o_n (pv 0)) (a_cons (o_n (pv 1)) (a_cons (o_n (pv 2)) (a_cons (o_n (pv 3)) a_nil)))))))
/-! priced -/
def bd_priced : SD :=
  (sSeq (sAsg (dN 1) (gT 2 (gsC (gN 3) (gsC (gN 4) gsN))))
  (sSeq (sAsg (d2 true fAdd (oE (d2 true fAdd (oE (dSl true fSl (oE (d2 true fIx (oN 0) (oN 3))) bNo (bSo (dN 4)))) (oE (dTup (aCons true (oN 2) aNil))))) (oE (dSl true fSl (oE (d2 true fIx (oN 0) (oN 3))) (bSo (d2 true fAdd (oN 4) (oE (dC (.int 1))))) bNo))) (gN 5))
  (sRet (d2 true fAdd (oE (d2 true fAdd (oE (dSl true fSl (oN 0) bNo (bSo (dN 3)))) (oE (dTup (aCons true (oN 5) aNil))))) (oE (dSl true fSl (oN 0) (bSo (d2 true fAdd (oN 3) (oE (dC (.int 1))))) bNo))))))
theorem ps_priced {P : Program} {w : World} {K : PySem.W.Frag} {mg : Str → Option Value} {base : Heap} (T : Txt mg) {k : Nat} {f : Addr} {cdv : Value} {A : Around} {outer : List Env} {s : Shared} {H : Hp} {E : XK} {C : FC} (hC : C.mx = mxOf M_priced 0) (hr : Room (k) (A.deeper (envOfC "priced" (defScope s_priced) s.heap.objs.size f cdv))) :
    PSs (cxOf CX0 P w K mg base N_priced "priced" (defScope s_priced) f cdv A outer s H E).nox (defBody s_priced) (LS K C (bd_priced)) :=
  (s_cons (s_asg (p := false) (ps_asg (e_n (pv 1)) (h_t rfl (h_c (g_n (pg_name (i := 3) sc_priced.nd rfl (by first | exact Or.inl rfl | exact Or.inr rfl)) (by rw [hC]; decide)) (h_c (g_n (pg_name (i := 4) sc_priced.nd rfl (by first | exact Or.inl rfl | exact Or.inr rfl)) (by rw [hC]; decide)) gs_n)))))
  (s_cons (s_set (p := false) (i := 5) sc_priced.nd rfl (by first | exact Or.inl rfl | exact Or.inr rfl) (e_op op_addAll r_add (o_e (e_op op_addAll r_add (o_e (e_sl (o_e (e_ix (o_n (pv 0)) (o_n (pv 3)))) b_no (b_so (e_n (pv 4))))) (o_e (e_tup (a_cons (o_n (pv 2)) a_nil))))) (o_e (e_sl (o_e (e_ix (o_n (pv 0)) (o_n (pv 3)))) (b_so (e_op op_addAll r_add (o_n (pv 4)) (o_e e_int))) b_no))) (by rw [hC]; decide))
  (s_one (s_ret (p := false) (e_op op_addAll r_add (o_e (e_op op_addAll r_add (o_e (e_sl (o_n (pv 0)) b_no (b_so (e_n (pv 3))))) (o_e (e_tup (a_cons (o_n (pv 5)) a_nil))))) (o_e (e_sl (o_n (pv 0)) (b_so (e_op op_addAll r_add (o_n (pv 3)) (o_e e_int))) b_no)))))))
/-! bears -/
def st_bears_1 : SD :=
  (sAsg (dN 4) (gT 2 (gsC (gN 5) (gsC (gN 6) gsN))))
def st_bears_2 (g_with_pair : FD) (g_priced : FD) (g_barred : FD) : SD :=
  (sAsg (dCallP 4 g_with_pair (aCons true (oE (dCallP 3 g_priced (aCons true (oE (dCallP 2 g_barred (aCons true (oN 0) (aCons true (oE (dTup (aCons true (oN 3) aNil))) aNil)))) (aCons true (oN 4) (aCons true (oE (dC (.int 0))) aNil))))) (aCons true (oN 1) (aCons true (oN 5) (aCons true (oN 6) aNil))))) (gN 7))
def st_bears_3 : SD :=
  (sRet (d1 (fU (fun i => -i)) (oE (dC (.int 1)))))
def st_bears_4 : SD :=
  (sIf (qOr (qB (d2 true (fIB (fun i j => decide (i < j))) (oN 7) (oE (dC (.int 0))))) (qB (d2 true (fIB (fun i j => decide (j < i))) (oN 7) (oN 2))))
  st_bears_3
  sNil)
def st_bears_5 : SD :=
  (sRet (d2 true (fI0 (fun i j => i - j)) (oN 2) (oN 7)))
def bd_bears (g_with_pair : FD) (g_priced : FD) (g_barred : FD) : SD :=
  (sSeq st_bears_1
  (sSeq (st_bears_2 g_with_pair g_priced g_barred)
  (sSeq st_bears_4
  st_bears_5)))
theorem ps_bears {P : Program} {w : World} {K : PySem.W.Frag} {mg : Str → Option Value} {base : Heap} (T : Txt mg) {k : Nat} {f : Addr} {cdv : Value} {A : Around} {outer : List Env} {s : Shared} {H : Hp} {E : XK} {C : FC} (hC : C.mx = mxOf M_bears 0) (hr : Room (k) (A.deeper (envOfC "bears" (defScope s_bears) s.heap.objs.size f cdv))) {f_with_pair : Addr} {fd_with_pair : FuncData} {g_with_pair : FD} (F_with_pair : Cal P w K mg base k "with_pair" f_with_pair fd_with_pair P_with_pair C.tabs M_with_pair g_with_pair) {f_priced : Addr} {fd_priced : FuncData} {g_priced : FD} (F_priced : Cal P w K mg base k "priced" f_priced fd_priced P_priced C.tabs M_priced g_priced) {f_barred : Addr} {fd_barred : FuncData} {g_barred : FD} (F_barred : Cal P w K mg base k "barred" f_barred fd_barred P_barred C.tabs M_barred g_barred) :
    PSs (cxOf CX0 P w K mg base N_bears "bears" (defScope s_bears) f cdv A outer s H E).nox (defBody s_bears) (LS K C (bd_bears g_with_pair g_priced g_barred)) :=
  (s_cons (s_asg (p := false) (ps_asg (e_n (pv 4)) (h_t rfl (h_c (g_n (pg_name (i := 5) sc_bears.nd rfl (by first | exact Or.inl rfl | exact Or.inr rfl)) (by rw [hC]; decide)) (h_c (g_n (pg_name (i := 6) sc_bears.nd rfl (by first | exact Or.inl rfl | exact Or.inr rfl)) (by rw [hC]; decide)) gs_n)))))
  (s_cons (s_set (p := false) (i := 7) sc_bears.nd rfl (by first | exact Or.inl rfl | exact Or.inr rfl) (c_P (n := 4) F_with_pair hr (a_cons (o_e (c_P (n := 3) F_priced hr (a_cons (o_e (c_P (n := 2) F_barred hr (a_cons (o_n (pv 0)) (a_cons (o_e (e_tup (a_cons (o_n (pv 3)) a_nil))) a_nil)))) (a_cons (o_n (pv 4)) (a_cons (o_e e_int) a_nil))))) (a_cons (o_n (pv 1)) (a_cons (o_n (pv 5)) (a_cons (o_n (pv 6)) a_nil))))) (by rw [hC]; decide))
  (s_cons (s_if (p := false) (q_w (w_or (q_cmp op_lt r_IB (o_n (pv 7)) (o_e e_int) (nomark _)) (w_or1 (q_cmp op_gt r_IB (o_n (pv 7)) (o_n (pv 2)) (nomark _)))))
  (s_one (s_ret (p := false) (e_un un_neg r_U (o_e e_int))))
  s_nil)
  (s_one (s_ret (p := false) (e_op op_sub r_I0 (o_n (pv 2)) (o_n (pv 7))))))))
/-! _law_pool -/
def bd_u_law_pool : SD :=
  (sRet (d2 true fAdd (oE (dLst (aCons true (oE (dC (.int 0))) (aCons true (oE (dC (.int 7))) (aCons true (oE (dC (.int 3))) aNil))))) (oE (dF fList (aCons true (oN 0) aNil)))))
theorem ps_u_law_pool {P : Program} {w : World} {K : PySem.W.Frag} {mg : Str → Option Value} {base : Heap} (T : Txt mg) {k : Nat} {f : Addr} {cdv : Value} {A : Around} {outer : List Env} {s : Shared} {H : Hp} {E : XK} {C : FC} (hC : C.mx = mxOf M_u_law_pool 0) (hr : Room (k) (A.deeper (envOfC "_law_pool" (defScope s_u_law_pool) s.heap.objs.size f cdv))) :
    PSs (cxOf CX0 P w K mg base N_u_law_pool "_law_pool" (defScope s_u_law_pool) f cdv A outer s H E).nox (defBody s_u_law_pool) (LS K C (bd_u_law_pool)) :=
  (s_one (s_ret (p := false) (e_op op_addAll r_add (o_e (e_lst (a_cons (o_e e_int) (a_cons (o_e e_int) (a_cons (o_e e_int) a_nil))))) (o_e (b_list T.z_list (a_cons (o_n (pv 0)) a_nil))))))
/-! _law_draw -/
def st_u_law_draw_1 : SD :=
  (sAsg (d2 true fIx (oN 0) (oE (d2 true fIx (oN 0) (oE (dC (.int 2)))))) (gN 2))
def st_u_law_draw_2 : SD :=
  (sAsg (d2 true fAdd (oE (d2 true fIx (oN 0) (oE (dC (.int 2))))) (oE (dC (.int 1)))) (gIx true (oN 0) (oE (dC (.int 2)))))
def st_u_law_draw_3 : SD :=
  (sAsg (d2 true (fI (fun _ j => j ≠ 0) (fun i j => i.fmod j)) (oE (dF fInt (aCons true (oE (d2 true fAdd (oE (d2 true fMulT (oE (d2 true fIx (oN 0) (oE (dC (.int 1))))) (oE (dC (.int 31))))) (oN 2))) aNil))) (oE (dC (.int 2147483647)))) (gIx true (oN 0) (oE (dC (.int 1)))))
def st_u_law_draw_4 : SD :=
  (sAsg (dF fAbs (aCons true (oN 2) aNil)) (gIx true (oN 0) (oE (dC (.int 0)))))
def st_u_law_draw_5 : SD :=
  (sIf (qB (d2 true (fIB (fun i j => decide (j ≤ i))) (oE (dF fAbs (aCons true (oN 2) aNil))) (oE (d2 true (fI CPow (fun i j => i ^ j.toNat)) (oE (dC (.int 10))) (oE (dC (.int 18)))))))
  st_u_law_draw_4
  sNil)
def st_u_law_draw_6 : SD :=
  (sIf (qAnd (qB (d2 true fEq (oE (d2 true fIx (oN 0) (oE (dC (.int 0))))) (oE (dC (.int 0))))) (qB (d2 true (fIB (fun i j => decide (i < j))) (oE (d2 true fIx (oN 0) (oE (dC (.int 2))))) (oE (dF fLen (aCons true (oN 0) aNil))))))
  (sSeq st_u_law_draw_1
  (sSeq st_u_law_draw_2
  (sSeq st_u_law_draw_3
  st_u_law_draw_5)))
  sNil)
def st_u_law_draw_7 : SD :=
  (sAsg (d2 true (fI (fun _ j => j ≠ 0) (fun i j => i.fmod j)) (oE (dF fInt (aCons true (oE (d2 true fIx (oN 0) (oE (dC (.int 0))))) aNil))) (oN 1)) (gN 3))
def st_u_law_draw_8 : SD :=
  (sAsg (d2 true (fI CDivN (fun i j => i.fdiv j)) (oE (d2 true fIx (oN 0) (oE (dC (.int 0))))) (oN 1)) (gIx true (oN 0) (oE (dC (.int 0)))))
def st_u_law_draw_9 : SD :=
  (sRet (dNm 3))
def st_u_law_draw_10 : SD :=
  (sIf (qB (d2 true (fIB (fun i j => decide (j < i))) (oE (d2 true fIx (oN 0) (oE (dC (.int 0))))) (oE (dC (.int 0)))))
  (sSeq st_u_law_draw_7
  (sSeq st_u_law_draw_8
  st_u_law_draw_9))
  sNil)
def st_u_law_draw_11 : SD :=
  (sAsg (d2 true (fI (fun _ j => j ≠ 0) (fun i j => i.fmod j)) (oE (dF fInt (aCons true (oE (d2 true fAdd (oE (d2 true fMulT (oE (d2 true fIx (oN 0) (oE (dC (.int 1))))) (oE (dC (.int 48271))))) (oE (dC (.int 12345))))) aNil))) (oE (dC (.int 2147483647)))) (gIx true (oN 0) (oE (dC (.int 1)))))
def st_u_law_draw_12 : SD :=
  (sAsg (d2 true (fI (fun _ j => j ≠ 0) (fun i j => i.fmod j)) (oE (dF fInt (aCons true (oE (d2 true fAdd (oE (d2 true fAdd (oE (d2 true fMulT (oE (d2 true fIx (oN 0) (oE (dC (.int 1))))) (oE (dC (.int 69621))))) (oE (d2 true (fI CDivN (fun i j => i.fdiv j)) (oE (d2 true fIx (oN 0) (oE (dC (.int 1))))) (oE (dC (.int 65536))))))) (oE (dC (.int 17))))) aNil))) (oE (dC (.int 2147483629)))) (gN 4))
def st_u_law_draw_13 : SD :=
  (sRet (d2 true (fI (fun _ j => j ≠ 0) (fun i j => i.fmod j)) (oE (dF fInt (aCons true (oE (d2 true (fI CDivN (fun i j => i.fdiv j)) (oN 4) (oE (dC (.int 16))))) aNil))) (oN 1)))
def bd_u_law_draw : SD :=
  (sSeq st_u_law_draw_6
  (sSeq st_u_law_draw_10
  (sSeq st_u_law_draw_11
  (sSeq st_u_law_draw_12
  st_u_law_draw_13))))
theorem ps_u_law_draw {P : Program} {w : World} {K : PySem.W.Frag} {mg : Str → Option Value} {base : Heap} (T : Txt mg) {k : Nat} {f : Addr} {cdv : Value} {A : Around} {outer : List Env} {s : Shared} {H : Hp} {E : XK} {C : FC} (hC : C.mx = mxOf M_u_law_draw 0) (hr : Room (k) (A.deeper (envOfC "_law_draw" (defScope s_u_law_draw) s.heap.objs.size f cdv))) :
    PSs (cxOf CX0 P w K mg base N_u_law_draw "_law_draw" (defScope s_u_law_draw) f cdv A outer s H E).nox (defBody s_u_law_draw) (LS K C (bd_u_law_draw)) :=
  (s_cons (s_if (p := false) (q_w (w_and (q_cmp (op_eqD hr.units) r_eq (o_e (e_ix (o_n (pv 0)) (o_e e_int))) (o_e e_int) (nomark _)) (w_and1 (q_cmp op_lt r_IB (o_e (e_ix (o_n (pv 0)) (o_e e_int))) (o_e (b_len T.z_len (a_cons (o_n (pv 0)) a_nil))) (nomark _)))))
  (s_cons (s_set (p := false) (i := 2) sc_u_law_draw.nd rfl (by first | exact Or.inl rfl | exact Or.inr rfl) (e_ix (o_n (pv 0)) (o_e (e_ix (o_n (pv 0)) (o_e e_int)))) (by rw [hC]; decide))
  (s_cons (s_asg (p := false) (ps_asg (e_op op_addAll r_add (o_e (e_ix (o_n (pv 0)) (o_e e_int))) (o_e e_int)) (g_ix (o_n (pv 0)) (o_e e_int))))
  (s_cons (s_asg (p := false) (ps_asg (e_op op_modN r_I (o_e (b_int T.z_int (a_cons (o_e (e_op op_addAll r_add (o_e (e_op op_mulT r_mulT (o_e (e_ix (o_n (pv 0)) (o_e e_int))) (o_e e_int))) (o_n (pv 2)))) a_nil))) (o_e e_int)) (g_ix (o_n (pv 0)) (o_e e_int))))
  (s_one (s_if (p := false) (q_cmp op_ge r_IB (o_e (b_abs T.z_abs (a_cons (o_n (pv 2)) a_nil))) (o_e (e_op op_pow r_I (o_e e_int) (o_e e_int))) (nomark _))
  (s_one (s_asg (p := false) (ps_asg (b_abs T.z_abs (a_cons (o_n (pv 2)) a_nil)) (g_ix (o_n (pv 0)) (o_e e_int)))))
  s_nil)))))
  s_nil)
  (s_cons (s_if (p := false) (q_cmp op_gt r_IB (o_e (e_ix (o_n (pv 0)) (o_e e_int))) (o_e e_int) (nomark _))
  (s_cons (s_set (p := false) (i := 3) sc_u_law_draw.nd rfl (by first | exact Or.inl rfl | exact Or.inr rfl) (e_op op_modN r_I (o_e (b_int T.z_int (a_cons (o_e (e_ix (o_n (pv 0)) (o_e e_int))) a_nil))) (o_n (pv 1))) (by rw [hC]; decide))
  (s_cons (s_asg (p := false) (ps_asg (e_op op_fdivN r_I (o_e (e_ix (o_n (pv 0)) (o_e e_int))) (o_n (pv 1))) (g_ix (o_n (pv 0)) (o_e e_int))))
  (s_one (s_ret (p := false) (e_nm (pv 3))))))
  s_nil)
  (s_cons (s_asg (p := false) (ps_asg (e_op op_modN r_I (o_e (b_int T.z_int (a_cons (o_e (e_op op_addAll r_add (o_e (e_op op_mulT r_mulT (o_e (e_ix (o_n (pv 0)) (o_e e_int))) (o_e e_int))) (o_e e_int))) a_nil))) (o_e e_int)) (g_ix (o_n (pv 0)) (o_e e_int))))
  (s_cons (s_set (p := false) (i := 4) sc_u_law_draw.nd rfl (by first | exact Or.inl rfl | exact Or.inr rfl) (e_op op_modN r_I (o_e (b_int T.z_int (a_cons (o_e (e_op op_addAll r_add (o_e (e_op op_addAll r_add (o_e (e_op op_mulT r_mulT (o_e (e_ix (o_n (pv 0)) (o_e e_int))) (o_e e_int))) (o_e (e_op op_fdivN r_I (o_e (e_ix (o_n (pv 0)) (o_e e_int))) (o_e e_int))))) (o_e e_int))) a_nil))) (o_e e_int)) (by rw [hC]; decide))
  (s_one (s_ret (p := false) (e_op op_modN r_I (o_e (b_int T.z_int (a_cons (o_e (e_op op_fdivN r_I (o_n (pv 4)) (o_e e_int))) a_nil))) (o_n (pv 1)))))))))
/-! _law_pick -/
def bd_u_law_pick (g_u_law_draw : FD) : SD :=
  (sRet (d2 false fIx (oN 1) (oE (dCall M_u_law_draw g_u_law_draw (aCons true (oN 0) (aCons true (oE (dF fLen (aCons true (oN 1) aNil))) aNil))))))
theorem ps_u_law_pick {P : Program} {w : World} {K : PySem.W.Frag} {mg : Str → Option Value} {base : Heap} (T : Txt mg) {k : Nat} {f : Addr} {cdv : Value} {A : Around} {outer : List Env} {s : Shared} {H : Hp} {E : XK} {C : FC} (hC : C.mx = mxOf M_u_law_pick 0) (hr : Room (k) (A.deeper (envOfC "_law_pick" (defScope s_u_law_pick) s.heap.objs.size f cdv))) {f_u_law_draw : Addr} {fd_u_law_draw : FuncData} {g_u_law_draw : FD} (F_u_law_draw : Cal P w K mg base k "_law_draw" f_u_law_draw fd_u_law_draw P_u_law_draw C.tabs M_u_law_draw g_u_law_draw) :
    PSs (cxOf CX0 P w K mg base N_u_law_pick "_law_pick" (defScope s_u_law_pick) f cdv A outer s H E).nox (defBody s_u_law_pick) (LS K C (bd_u_law_pick g_u_law_draw)) :=
  (s_one (s_ret (p := false) (e_ix (o_n (pv 1)) (o_e (c_M F_u_law_draw hr (a_cons (o_n (pv 0)) (a_cons (o_e (b_len T.z_len (a_cons (o_n (pv 1)) a_nil))) a_nil)))))))
/-! _law_same -/
def st_u_law_same_1 : SD :=
  (sAsg (dLst (aCons true (oE (dTup (aCons true (oN 0) (aCons true (oN 1) aNil)))) aNil)) (gN 2))
def st_u_law_same_2 : SD :=
  (sRet (dC (.bl true)))
def st_u_law_same_3 : SD :=
  (sIf (qB (d2 true fEq (oN 2) (oE (dLst aNil))))
  st_u_law_same_2
  sNil)
def st_u_law_same_4 : SD :=
  (sAsg (dMt true mPop (oN 2) aNil) (gT 2 (gsC (gN 4) (gsC (gN 5) gsN))))
def st_u_law_same_5 : SD :=
  (sAsg (d2 true fIsN (oN 4) (oE (dC .non))) (gN 6))
def st_u_law_same_6 : SD :=
  (sAsg (dAnd (dIsi .bool (oN 5)) (dAnd (dIsi .bool (oN 4)) (d2 true fEq (oN 4) (oN 5)))) (gN 6))
def st_u_law_same_7 : SD :=
  (sAsg (dAnd (dIsi .int (oN 4)) (d2 true fEq (oN 4) (oN 5))) (gN 6))
def st_u_law_same_8 : SD :=
  (sAsg (dAnd (dIsi .str (oN 4)) (d2 true fEq (oN 4) (oN 5))) (gN 6))
def st_u_law_same_9 : SD :=
  (sAsg (dAnd (dIsi .tuple (oN 5)) (dAnd (dIsi .tuple (oN 4)) (d2 true fEq (oE (dF fLen (aCons true (oN 4) aNil))) (oE (dF fLen (aCons true (oN 5) aNil)))))) (gN 6))
def st_u_law_same_10 : SD :=
  (sAsg (dIf (qV (oN 6)) (d2 false fAdd (oN 2) (oE (dLc [7] (iR1 (aCons true (oE (dF fLen (aCons true (oN 5) aNil))) aNil)) (gN 7) qYes (dTup (aCons true (oE (d2 true fIx (oN 4) (oN 7))) (aCons true (oE (d2 true fIx (oN 5) (oN 7))) aNil)))))) (dN 2)) (gN 2))
def st_u_law_same_11 : SD :=
  (sIf (qB (dIsi .str (oN 5)))
  st_u_law_same_8
  (sSeq st_u_law_same_9
  st_u_law_same_10))
def st_u_law_same_12 : SD :=
  (sIf (qB (dIsi .int (oN 5)))
  st_u_law_same_7
  st_u_law_same_11)
def st_u_law_same_13 : SD :=
  (sIf (qOr (qB (dIsi .bool (oN 5))) (qB (dIsi .bool (oN 4))))
  st_u_law_same_6
  st_u_law_same_12)
def st_u_law_same_14 : SD :=
  (sIf (qB (d2 true fIsN (oN 5) (oE (dC .non))))
  st_u_law_same_5
  st_u_law_same_13)
def st_u_law_same_15 : SD :=
  (sRet (dC (.bl false)))
def st_u_law_same_16 : SD :=
  (sIf (qNot (qV (oN 6)))
  st_u_law_same_15
  sNil)
def st_u_law_same_17 : SD :=
  (sFor (iR1 (aCons true (oE (d2 true (fI CPow (fun i j => i ^ j.toNat)) (oE (dC (.int 10))) (oE (dC (.int 7))))) aNil)) (gN 3)
  (sSeq st_u_law_same_3
  (sSeq st_u_law_same_4
  (sSeq st_u_law_same_14
  st_u_law_same_16))))
def st_u_law_same_18 : SD :=
  (sRet (dC (.bl false)))
def bd_u_law_same : SD :=
  (sSeq st_u_law_same_1
  (sSeq st_u_law_same_17
  st_u_law_same_18))
theorem ps_u_law_same {P : Program} {w : World} {K : PySem.W.Frag} {mg : Str → Option Value} {base : Heap} (T : Txt mg) {k : Nat} {f : Addr} {cdv : Value} {A : Around} {outer : List Env} {s : Shared} {H : Hp} {E : XK} {C : FC} (hC : C.mx = mxOf M_u_law_same 0) (hr : Room (k) (A.deeper (envOfC "_law_same" (defScope s_u_law_same) s.heap.objs.size f cdv))) :
    PSs (cxOf CX0 P w K mg base N_u_law_same "_law_same" (defScope s_u_law_same) f cdv A outer s H E).nox (defBody s_u_law_same) (LS K C (bd_u_law_same)) :=
  (s_cons (s_set (p := false) (i := 2) sc_u_law_same.nd rfl (by first | exact Or.inl rfl | exact Or.inr rfl) (e_lst (a_cons (o_e (e_tup (a_cons (o_n (pv 0)) (a_cons (o_n (pv 1)) a_nil)))) a_nil)) (by rw [hC]; decide))
  (s_cons (s_for (p := false) PassesOwn.never rfl (j_r1 T.z_range (a_cons (o_e (e_op op_pow r_I (o_e e_int) (o_e e_int))) a_nil)) (g_n (pg_name (i := 3) sc_u_law_same.nd rfl (by first | exact Or.inl rfl | exact Or.inr rfl)) (by rw [hC]; decide))
  (s_cons (s_if (p := false) (q_cmp (op_eqD hr.units) r_eq (o_n (pv 2)) (o_e (e_lst a_nil)) (nomark _))
  (s_one (s_ret (p := false) e_bl))
  s_nil)
  (s_cons (s_asg (p := false) (ps_asg (mPop0 (o_n (pv 2))) (h_t rfl (h_c (g_n (pg_name (i := 4) sc_u_law_same.nd rfl (by first | exact Or.inl rfl | exact Or.inr rfl)) (by rw [hC]; decide)) (h_c (g_n (pg_name (i := 5) sc_u_law_same.nd rfl (by first | exact Or.inl rfl | exact Or.inr rfl)) (by rw [hC]; decide)) gs_n)))))
  (s_cons (s_if (p := false) (q_cmp op_isN r_isN (o_n (pv 5)) (o_e e_non) (nomark _))
  (s_one (s_set (p := false) (i := 6) sc_u_law_same.nd rfl (by first | exact Or.inl rfl | exact Or.inr rfl) (e_cmp op_isN r_isN (o_n (pv 4)) (o_e e_non) (nomark _)) (by rw [hC]; decide)))
  (s_one (s_if (p := false) (q_w (w_or (q_val (b_isi .bool T.z_isinstance T.z_bool PyProof.Rows.boot_bool (o_n (pv 5)))) (w_or1 (q_val (b_isi .bool T.z_isinstance T.z_bool PyProof.Rows.boot_bool (o_n (pv 4)))))))
  (s_one (s_set (p := false) (i := 6) sc_u_law_same.nd rfl (by first | exact Or.inl rfl | exact Or.inr rfl) (e_and (b_isi .bool T.z_isinstance T.z_bool PyProof.Rows.boot_bool (o_n (pv 5))) (e_and (b_isi .bool T.z_isinstance T.z_bool PyProof.Rows.boot_bool (o_n (pv 4))) (e_one (e_cmp (op_eqD hr.units) r_eq (o_n (pv 4)) (o_n (pv 5)) (nomark _))))) (by rw [hC]; decide)))
  (s_one (s_if (p := false) (q_val (b_isi .int T.z_isinstance T.z_int PyProof.Rows.boot_int (o_n (pv 5))))
  (s_one (s_set (p := false) (i := 6) sc_u_law_same.nd rfl (by first | exact Or.inl rfl | exact Or.inr rfl) (e_and (b_isi .int T.z_isinstance T.z_int PyProof.Rows.boot_int (o_n (pv 4))) (e_one (e_cmp (op_eqD hr.units) r_eq (o_n (pv 4)) (o_n (pv 5)) (nomark _)))) (by rw [hC]; decide)))
  (s_one (s_if (p := false) (q_val (b_isi .str T.z_isinstance T.z_str PyProof.Rows.boot_str (o_n (pv 5))))
  (s_one (s_set (p := false) (i := 6) sc_u_law_same.nd rfl (by first | exact Or.inl rfl | exact Or.inr rfl) (e_and (b_isi .str T.z_isinstance T.z_str PyProof.Rows.boot_str (o_n (pv 4))) (e_one (e_cmp (op_eqD hr.units) r_eq (o_n (pv 4)) (o_n (pv 5)) (nomark _)))) (by rw [hC]; decide)))
  (s_cons (s_set (p := false) (i := 6) sc_u_law_same.nd rfl (by first | exact Or.inl rfl | exact Or.inr rfl) (e_and (b_isi .tuple T.z_isinstance T.z_tuple PyProof.Rows.boot_tuple (o_n (pv 5))) (e_and (b_isi .tuple T.z_isinstance T.z_tuple PyProof.Rows.boot_tuple (o_n (pv 4))) (e_one (e_cmp (op_eqD hr.units) r_eq (o_e (b_len T.z_len (a_cons (o_n (pv 4)) a_nil))) (o_e (b_len T.z_len (a_cons (o_n (pv 5)) a_nil))) (nomark _))))) (by rw [hC]; decide))
  (s_one (s_set (p := false) (i := 2) sc_u_law_same.nd rfl (by first | exact Or.inl rfl | exact Or.inr rfl) (e_if (q_truth (o_n (pv 6))) (e_op op_addAll r_add (o_n (pv 2)) (o_e (e_lc (own := [("k", 7)]) rfl sc_u_law_same.nd (j_r1 T.z_range (a_cons (o_e (b_len T.z_len (a_cons (o_n (pv 5)) a_nil))) a_nil)) (blkOk_by (N := N_u_law_same) (sc := defScope s_u_law_same) (by decide +kernel)) ⟨⟨[7], (fun _ h => h), fun _ _ _ _ _ => (g_n (pg_name (i := 7) sc_u_law_same.nd rfl (by first | exact Or.inl rfl | exact Or.inr rfl)) (by simp [FC.blk, FC.gb]))⟩, fun _ _ _ _ _ => q_yes, fun _ _ _ _ _ => (e_tup (a_cons (o_e (e_ix (o_n (pv 4)) (o_n (pv 7)))) (a_cons (o_e (e_ix (o_n (pv 5)) (o_n (pv 7)))) a_nil)))⟩))) (e_n (pv 2))) (by rw [hC]; decide)))))))))))
  (s_one (s_if (p := false) (q_not (q_truth (o_n (pv 6))))
  (s_one (s_ret (p := false) e_bl))
  s_nil))))))
  (s_one (s_ret (p := false) e_bl))))
/-! _law_table -/
def bd_u_law_table (g_u_law_pick : FD) : SD :=
  (sRet (dF fTuple (aCons true (oE (dLc [3] (iR1 (aCons true (oN 1) aNil)) (gN 3) qYes (dF fTuple (aCons true (oE (dLc [4] (iR1 (aCons true (oN 2) aNil)) (gN 4) qYes (dCall M_u_law_pick g_u_law_pick (aCons true (oN 0) (aCons true (oE (dLst (aCons true (oE (d1 (fU (fun i => -i)) (oE (dC (.int 1))))) (aCons true (oE (dC (.int 0))) (aCons true (oE (dC (.int 0))) (aCons true (oE (dC (.int 1))) (aCons true (oE (dC (.int 2))) (aCons true (oE (dC (.int 3))) (aCons true (oE (dC (.int 5))) (aCons true (oE (dC (.int 9))) (aCons true (oE (dC (.int 1000))) aNil))))))))))) aNil))))) aNil)))) aNil)))
theorem ps_u_law_table {P : Program} {w : World} {K : PySem.W.Frag} {mg : Str → Option Value} {base : Heap} (T : Txt mg) {k : Nat} {f : Addr} {cdv : Value} {A : Around} {outer : List Env} {s : Shared} {H : Hp} {E : XK} {C : FC} (hC : C.mx = mxOf M_u_law_table 0) (hr : Room (k) (A.deeper (envOfC "_law_table" (defScope s_u_law_table) s.heap.objs.size f cdv))) {f_u_law_pick : Addr} {fd_u_law_pick : FuncData} {g_u_law_pick : FD} (F_u_law_pick : Cal P w K mg base k "_law_pick" f_u_law_pick fd_u_law_pick P_u_law_pick C.tabs M_u_law_pick g_u_law_pick) :
    PSs (cxOf CX0 P w K mg base N_u_law_table "_law_table" (defScope s_u_law_table) f cdv A outer s H E).nox (defBody s_u_law_table) (LS K C (bd_u_law_table g_u_law_pick)) :=
  (s_one (s_ret (p := false) (b_tuple T.z_tuple (a_cons (o_e (e_lc (own := [("t", 3)]) rfl sc_u_law_table.nd (j_r1 T.z_range (a_cons (o_n (pv 1)) a_nil)) (blkOk_by (N := N_u_law_table) (sc := defScope s_u_law_table) (by decide +kernel)) ⟨⟨[3], (fun _ h => h), fun _ _ _ _ _ => (g_n (pg_name (i := 3) sc_u_law_table.nd rfl (by first | exact Or.inl rfl | exact Or.inr rfl)) (by simp [FC.blk, FC.gb]))⟩, fun _ _ _ _ _ => q_yes, fun _ _ _ _ _ => (b_tuple T.z_tuple (a_cons (o_e (e_lc (own := [("r", 4)]) rfl sc_u_law_table.nd (j_r1 T.z_range (a_cons (o_n (pv 2)) a_nil)) (by exact blkOk_by (by kernel_rfl)) ⟨⟨[4], (fun _ h => h), fun _ _ _ _ _ => (g_n (pg_name (i := 4) sc_u_law_table.nd rfl (by first | exact Or.inl rfl | exact Or.inr rfl)) (by simp [FC.blk, FC.gb]))⟩, fun _ _ _ _ _ => q_yes, fun _ _ _ _ _ => (c_M F_u_law_pick hr (a_cons (o_n (pv 0)) (a_cons (o_e (e_lst (a_cons (o_e (e_un un_neg r_U (o_e e_int))) (a_cons (o_e e_int) (a_cons (o_e e_int) (a_cons (o_e e_int) (a_cons (o_e e_int) (a_cons (o_e e_int) (a_cons (o_e e_int) (a_cons (o_e e_int) (a_cons (o_e e_int) a_nil))))))))))) a_nil)))⟩)) a_nil))⟩)) a_nil))))
/-! _law_demand -/
def bd_u_law_demand (g_u_law_pick : FD) (g_u_law_draw : FD) : SD :=
  (sSeq (sAsg (dLc [2] (iR1 (aCons true (oN 1) aNil)) (gN 2) (qB (d2 true fEq (oE (dCall M_u_law_draw g_u_law_draw (aCons true (oN 0) (aCons true (oE (dC (.int 4))) aNil)))) (oE (dC (.int 0))))) (dN 2)) (gN 3))
  (sRet (dTup (aCons true (oE (dCall M_u_law_pick g_u_law_pick (aCons true (oN 0) (aCons true (oE (dLst (aCons true (oE (dC (.int 0))) (aCons true (oE (dC (.int 0))) (aCons true (oE (dC (.int 1))) (aCons true (oE (dC (.int 1))) (aCons true (oE (dC (.int 2))) (aCons true (oE (dC (.int 3))) (aCons true (oE (dC (.int 4))) (aCons true (oE (dC (.int 8))) aNil)))))))))) aNil)))) (aCons true (oE (dF fTuple (aCons true (oN 3) aNil))) aNil)))))
theorem ps_u_law_demand {P : Program} {w : World} {K : PySem.W.Frag} {mg : Str → Option Value} {base : Heap} (T : Txt mg) {k : Nat} {f : Addr} {cdv : Value} {A : Around} {outer : List Env} {s : Shared} {H : Hp} {E : XK} {C : FC} (hC : C.mx = mxOf M_u_law_demand 0) (hr : Room (k) (A.deeper (envOfC "_law_demand" (defScope s_u_law_demand) s.heap.objs.size f cdv))) {f_u_law_pick : Addr} {fd_u_law_pick : FuncData} {g_u_law_pick : FD} (F_u_law_pick : Cal P w K mg base k "_law_pick" f_u_law_pick fd_u_law_pick P_u_law_pick C.tabs M_u_law_pick g_u_law_pick) {f_u_law_draw : Addr} {fd_u_law_draw : FuncData} {g_u_law_draw : FD} (F_u_law_draw : Cal P w K mg base k "_law_draw" f_u_law_draw fd_u_law_draw P_u_law_draw C.tabs M_u_law_draw g_u_law_draw) :
    PSs (cxOf CX0 P w K mg base N_u_law_demand "_law_demand" (defScope s_u_law_demand) f cdv A outer s H E).nox (defBody s_u_law_demand) (LS K C (bd_u_law_demand g_u_law_pick g_u_law_draw)) :=
  (s_cons (s_setLc (i := 3) (own := [("r", 2)]) rfl sc_u_law_demand.nd rfl rfl (sw_true rfl rfl rfl rfl) (j_r1 T.z_range (a_cons (o_n (pv 1)) a_nil)) (blkOk_by (N := N_u_law_demand) (sc := defScope s_u_law_demand) (by decide +kernel)) ⟨⟨[2], (fun _ h => h), fun _ _ _ _ _ => (g_n (pg_name (i := 2) sc_u_law_demand.nd rfl (by first | exact Or.inl rfl | exact Or.inr rfl)) (by simp [FC.blk, FC.gb]))⟩, fun _ _ _ _ _ => (q_one (q_cmp (op_eqD hr.units) r_eq (o_e (c_M F_u_law_draw hr (a_cons (o_n (pv 0)) (a_cons (o_e e_int) a_nil)))) (o_e e_int) (nomark _))), fun _ _ _ _ _ => (e_n (pv 2))⟩ (by rw [hC]; decide))
  (s_one (s_ret (p := false) (e_tup (a_cons (o_e (c_M F_u_law_pick hr (a_cons (o_n (pv 0)) (a_cons (o_e (e_lst (a_cons (o_e e_int) (a_cons (o_e e_int) (a_cons (o_e e_int) (a_cons (o_e e_int) (a_cons (o_e e_int) (a_cons (o_e e_int) (a_cons (o_e e_int) (a_cons (o_e e_int) a_nil)))))))))) a_nil)))) (a_cons (o_e (b_tuple T.z_tuple (a_cons (o_n (pv 3)) a_nil))) a_nil))))))
/-! _law_pairings -/
def st_u_law_pairings_1 : SD :=
  (sAsg (dLst (aCons true (oE (dTup (aCons true (oE (dC (.int 0))) (aCons true (oE (dTup aNil)) aNil)))) aNil)) (gN 1))
def st_u_law_pairings_2 : SD :=
  (sAsg (dLst aNil) (gN 3))
def st_u_law_pairings_3 : SD :=
  (sAsg (dLc [6] (iV (dNf 5)) (gN 6) qYes (d2 true fIx (oN 6) (oE (dC (.int 1))))) (gN 7))
def st_u_law_pairings_4 : SD :=
  (sAsg (d2 false fAdd (oN 3) (oE (dLc [8] (iR1 (aCons true (oE (dF fLen (aCons true (oE (d2 true fIx (oN 0) (oN 2))) aNil))) aNil)) (gN 8) (qAnd (qB (d2 true (fIB (fun i j => decide (j ≤ i))) (oE (d2 true fIx (oE (d2 true fIx (oN 0) (oN 2))) (oN 8))) (oE (dC (.int 0))))) (qB (d2 true fNotIn (oN 8) (oN 7)))) (dTup (aCons true (oE (d2 true fAdd (oN 4) (oE (d2 true fIx (oE (d2 true fIx (oN 0) (oN 2))) (oN 8))))) (aCons true (oE (d2 true fAdd (oN 5) (oE (dTup (aCons true (oE (dTup (aCons true (oN 2) (aCons true (oN 8) aNil)))) aNil))))) aNil)))))) (gN 3))
def st_u_law_pairings_5 : SD :=
  (sFor (iV (dNf 1)) (gT 2 (gsC (gN 4) (gsC (gN 5) gsN)))
  (sSeq st_u_law_pairings_3
  st_u_law_pairings_4))
def st_u_law_pairings_6 : SD :=
  (sAsg (d2 true fAdd (oN 1) (oN 3)) (gN 1))
def st_u_law_pairings_7 : SD :=
  (sFor (iR1 (aCons true (oE (dF fLen (aCons true (oN 0) aNil))) aNil)) (gN 2)
  (sSeq st_u_law_pairings_2
  (sSeq st_u_law_pairings_5
  st_u_law_pairings_6)))
def st_u_law_pairings_8 : SD :=
  (sRet (dNm 1))
def bd_u_law_pairings : SD :=
  (sSeq st_u_law_pairings_1
  (sSeq st_u_law_pairings_7
  st_u_law_pairings_8))
theorem ps_u_law_pairings {P : Program} {w : World} {K : PySem.W.Frag} {mg : Str → Option Value} {base : Heap} (T : Txt mg) {k : Nat} {f : Addr} {cdv : Value} {A : Around} {outer : List Env} {s : Shared} {H : Hp} {E : XK} {C : FC} (hC : C.mx = mxOf M_u_law_pairings 0) (hr : Room (k) (A.deeper (envOfC "_law_pairings" (defScope s_u_law_pairings) s.heap.objs.size f cdv))) :
    PSs (cxOf CX0 P w K mg base N_u_law_pairings "_law_pairings" (defScope s_u_law_pairings) f cdv A outer s H E).nox (defBody s_u_law_pairings) (LS K C (bd_u_law_pairings)) :=
  (s_cons (s_set (p := false) (i := 1) sc_u_law_pairings.nd rfl (by first | exact Or.inl rfl | exact Or.inr rfl) (e_lst (a_cons (o_e (e_tup (a_cons (o_e e_int) (a_cons (o_e (e_tup a_nil)) a_nil)))) a_nil)) (by rw [hC]; decide))
  (s_cons (s_for (p := false) PassesOwn.never rfl (j_r1 T.z_range (a_cons (o_e (b_len T.z_len (a_cons (o_n (pv 0)) a_nil))) a_nil)) (g_n (pg_name (i := 2) sc_u_law_pairings.nd rfl (by first | exact Or.inl rfl | exact Or.inr rfl)) (by rw [hC]; decide))
  (s_cons (s_set (p := false) (i := 3) sc_u_law_pairings.nd rfl (by first | exact Or.inl rfl | exact Or.inr rfl) (e_lst a_nil) (by rw [hC]; decide))
  (s_cons (s_for (p := false) PassesOwn.never rfl (i_v (e_nf (pv 1))) (h_t rfl (h_c (g_n (pg_name (i := 4) sc_u_law_pairings.nd rfl (by first | exact Or.inl rfl | exact Or.inr rfl)) (by rw [hC]; decide)) (h_c (g_n (pg_name (i := 5) sc_u_law_pairings.nd rfl (by first | exact Or.inl rfl | exact Or.inr rfl)) (by rw [hC]; decide)) gs_n)))
  (s_cons (s_set (p := false) (i := 7) sc_u_law_pairings.nd rfl (by first | exact Or.inl rfl | exact Or.inr rfl) (e_lc (own := [("pair", 6)]) rfl sc_u_law_pairings.nd (i_v (e_nf (pv 5))) (blkOk_by (N := N_u_law_pairings) (sc := defScope s_u_law_pairings) (by decide +kernel)) ⟨⟨[6], (fun _ h => h), fun _ _ _ _ _ => (g_n (pg_name (i := 6) sc_u_law_pairings.nd rfl (by first | exact Or.inl rfl | exact Or.inr rfl)) (by simp [FC.blk, FC.gb]))⟩, fun _ _ _ _ _ => q_yes, fun _ _ _ _ _ => (e_ix (o_n (pv 6)) (o_e e_int))⟩) (by rw [hC]; decide))
  (s_one (s_set (p := false) (i := 3) sc_u_law_pairings.nd rfl (by first | exact Or.inl rfl | exact Or.inr rfl) (e_op op_addAll r_add (o_n (pv 3)) (o_e (e_lc (own := [("r", 8)]) rfl sc_u_law_pairings.nd (j_r1 T.z_range (a_cons (o_e (b_len T.z_len (a_cons (o_e (e_ix (o_n (pv 0)) (o_n (pv 2)))) a_nil))) a_nil)) (blkOk_by (N := N_u_law_pairings) (sc := defScope s_u_law_pairings) (by decide +kernel)) ⟨⟨[8], (fun _ h => h), fun _ _ _ _ _ => (g_n (pg_name (i := 8) sc_u_law_pairings.nd rfl (by first | exact Or.inl rfl | exact Or.inr rfl)) (by simp [FC.blk, FC.gb]))⟩, fun _ _ _ _ _ => (q_one (q_w (w_and (q_cmp op_ge r_IB (o_e (e_ix (o_e (e_ix (o_n (pv 0)) (o_n (pv 2)))) (o_n (pv 8)))) (o_e e_int) (nomark _)) (w_and1 (q_cmp (op_notInB (inU hr)) r_notIn (o_n (pv 8)) (o_n (pv 7)) rfl))))), fun _ _ _ _ _ => (e_tup (a_cons (o_e (e_op op_addAll r_add (o_n (pv 4)) (o_e (e_ix (o_e (e_ix (o_n (pv 0)) (o_n (pv 2)))) (o_n (pv 8)))))) (a_cons (o_e (e_op op_addAll r_add (o_n (pv 5)) (o_e (e_tup (a_cons (o_e (e_tup (a_cons (o_n (pv 2)) (a_cons (o_n (pv 8)) a_nil)))) a_nil))))) a_nil)))⟩))) (by rw [hC]; decide)))))
  (s_one (s_set (p := false) (i := 1) sc_u_law_pairings.nd rfl (by first | exact Or.inl rfl | exact Or.inr rfl) (e_op op_addAll r_add (o_n (pv 1)) (o_n (pv 3))) (by rw [hC]; decide))))))
  (s_one (s_ret (p := false) (e_nm (pv 1))))))
/-! _law_kept -/
def st_u_law_kept_1 : SD :=
  (sAsg (dLst aNil) (gN 2))
def st_u_law_kept_2 : SD :=
  (sAsg (dLc [5] (iV (dNf 4)) (gN 5) qYes (d2 true fIx (oN 5) (oE (dC (.int 1))))) (gN 6))
def st_u_law_kept_3 : SD :=
  (sDrop (dMt true mAppend (oN 2) (aCons true (oE (dTup (aCons true (oN 3) (aCons true (oN 4) aNil)))) aNil)))
def st_u_law_kept_4 : SD :=
  (sIf (qAnd (qB (d2 true (fIB (fun i j => decide (j ≤ i))) (oE (dF fLen (aCons true (oN 4) aNil))) (oE (d2 true fIx (oN 1) (oE (dC (.int 0))))))) (qB (d2 true fEq (oE (dLc [7] (iV (d2 true fIx (oN 1) (oE (dC (.int 1))))) (gN 7) (qB (d2 true fNotIn (oN 7) (oN 6))) (dN 7))) (oE (dLst aNil)))))
  st_u_law_kept_3
  sNil)
def st_u_law_kept_5 (g_u_law_pairings : FD) : SD :=
  (sFor (iV (dCallP 1 g_u_law_pairings (aCons true (oN 0) aNil))) (gT 2 (gsC (gN 3) (gsC (gN 4) gsN)))
  (sSeq st_u_law_kept_2
  st_u_law_kept_4))
def st_u_law_kept_6 : SD :=
  (sRet (dNm 2))
def bd_u_law_kept (g_u_law_pairings : FD) : SD :=
  (sSeq st_u_law_kept_1
  (sSeq (st_u_law_kept_5 g_u_law_pairings)
  st_u_law_kept_6))
theorem ps_u_law_kept {P : Program} {w : World} {K : PySem.W.Frag} {mg : Str → Option Value} {base : Heap} (T : Txt mg) {k : Nat} {f : Addr} {cdv : Value} {A : Around} {outer : List Env} {s : Shared} {H : Hp} {E : XK} {C : FC} (hC : C.mx = mxOf M_u_law_kept 0) (hr : Room (k) (A.deeper (envOfC "_law_kept" (defScope s_u_law_kept) s.heap.objs.size f cdv))) {f_u_law_pairings : Addr} {fd_u_law_pairings : FuncData} {g_u_law_pairings : FD} (F_u_law_pairings : Cal P w K mg base k "_law_pairings" f_u_law_pairings fd_u_law_pairings P_u_law_pairings C.tabs M_u_law_pairings g_u_law_pairings) :
    PSs (cxOf CX0 P w K mg base N_u_law_kept "_law_kept" (defScope s_u_law_kept) f cdv A outer s H E).nox (defBody s_u_law_kept) (LS K C (bd_u_law_kept g_u_law_pairings)) :=
  (s_cons (s_set (p := false) (i := 2) sc_u_law_kept.nd rfl (by first | exact Or.inl rfl | exact Or.inr rfl) (e_lst a_nil) (by rw [hC]; decide))
  (s_cons (s_for (p := false) PassesOwn.never rfl (i_v (c_P (n := 1) F_u_law_pairings hr (a_cons (o_n (pv 0)) a_nil))) (h_t rfl (h_c (g_n (pg_name (i := 3) sc_u_law_kept.nd rfl (by first | exact Or.inl rfl | exact Or.inr rfl)) (by rw [hC]; decide)) (h_c (g_n (pg_name (i := 4) sc_u_law_kept.nd rfl (by first | exact Or.inl rfl | exact Or.inr rfl)) (by rw [hC]; decide)) gs_n)))
  (s_cons (s_set (p := false) (i := 6) sc_u_law_kept.nd rfl (by first | exact Or.inl rfl | exact Or.inr rfl) (e_lc (own := [("pair", 5)]) rfl sc_u_law_kept.nd (i_v (e_nf (pv 4))) (blkOk_by (N := N_u_law_kept) (sc := defScope s_u_law_kept) (by decide +kernel)) ⟨⟨[5], (fun _ h => h), fun _ _ _ _ _ => (g_n (pg_name (i := 5) sc_u_law_kept.nd rfl (by first | exact Or.inl rfl | exact Or.inr rfl)) (by simp [FC.blk, FC.gb]))⟩, fun _ _ _ _ _ => q_yes, fun _ _ _ _ _ => (e_ix (o_n (pv 5)) (o_e e_int))⟩) (by rw [hC]; decide))
  (s_one (s_if (p := false) (q_w (w_and (q_cmp op_ge r_IB (o_e (b_len T.z_len (a_cons (o_n (pv 4)) a_nil))) (o_e (e_ix (o_n (pv 1)) (o_e e_int))) (nomark _)) (w_and1 (q_cmp (op_eqD hr.units) r_eq (o_e (e_lc (own := [("r", 7)]) rfl sc_u_law_kept.nd (i_v (e_ix (o_n (pv 1)) (o_e e_int))) (blkOk_by (N := N_u_law_kept) (sc := defScope s_u_law_kept) (by decide +kernel)) ⟨⟨[7], (fun _ h => h), fun _ _ _ _ _ => (g_n (pg_name (i := 7) sc_u_law_kept.nd rfl (by first | exact Or.inl rfl | exact Or.inr rfl)) (by simp [FC.blk, FC.gb]))⟩, fun _ _ _ _ _ => (q_one (q_cmp (op_notInB (inU hr)) r_notIn (o_n (pv 7)) (o_n (pv 6)) rfl)), fun _ _ _ _ _ => (e_n (pv 7))⟩)) (o_e (e_lst a_nil)) (nomark _)))))
  (s_one (s_expr (p := false) (m_app (o_n (pv 2)) (a_cons (o_e (e_tup (a_cons (o_n (pv 3)) (a_cons (o_n (pv 4)) a_nil)))) a_nil))))
  s_nil))))
  (s_one (s_ret (p := false) (e_nm (pv 2))))))
/-! _law_worlds -/
def bd_u_law_worlds (g_u_law_kept : FD) : SD :=
  (sRet (dLc [3, 4] (iV (dCallP 2 g_u_law_kept (aCons true (oN 0) (aCons true (oN 1) aNil)))) (gT 2 (gsC (gN 3) (gsC (gN 4) gsN))) (qB (d2 true (fIB (fun i j => decide (i ≤ j))) (oN 3) (oN 2))) (dN 4)))
theorem ps_u_law_worlds {P : Program} {w : World} {K : PySem.W.Frag} {mg : Str → Option Value} {base : Heap} (T : Txt mg) {k : Nat} {f : Addr} {cdv : Value} {A : Around} {outer : List Env} {s : Shared} {H : Hp} {E : XK} {C : FC} (hC : C.mx = mxOf M_u_law_worlds 0) (hr : Room (k) (A.deeper (envOfC "_law_worlds" (defScope s_u_law_worlds) s.heap.objs.size f cdv))) {f_u_law_kept : Addr} {fd_u_law_kept : FuncData} {g_u_law_kept : FD} (F_u_law_kept : Cal P w K mg base k "_law_kept" f_u_law_kept fd_u_law_kept P_u_law_kept C.tabs M_u_law_kept g_u_law_kept) :
    PSs (cxOf CX0 P w K mg base N_u_law_worlds "_law_worlds" (defScope s_u_law_worlds) f cdv A outer s H E).nox (defBody s_u_law_worlds) (LS K C (bd_u_law_worlds g_u_law_kept)) :=
  (s_one (s_ret (p := false) (e_lc (own := [("cost", 3), ("pairs", 4)]) rfl sc_u_law_worlds.nd (i_v (c_P (n := 2) F_u_law_kept hr (a_cons (o_n (pv 0)) (a_cons (o_n (pv 1)) a_nil)))) (blkOk_by (N := N_u_law_worlds) (sc := defScope s_u_law_worlds) (by decide +kernel)) ⟨⟨[3, 4], (fun _ h => h), fun _ _ _ _ _ => (h_t rfl (h_c (g_n (pg_name (i := 3) sc_u_law_worlds.nd rfl (by first | exact Or.inl rfl | exact Or.inr rfl)) (by simp [FC.blk, FC.gb])) (h_c (g_n (pg_name (i := 4) sc_u_law_worlds.nd rfl (by first | exact Or.inl rfl | exact Or.inr rfl)) (by simp [FC.blk, FC.gb])) gs_n)))⟩, fun _ _ _ _ _ => (q_one (q_cmp op_le r_IB (o_n (pv 3)) (o_n (pv 2)) (nomark _))), fun _ _ _ _ _ => (e_n (pv 4))⟩)))
/-! _law_budget -/
def st_u_law_budget_1 (g_u_law_kept : FD) : SD :=
  (sAsg (dLc [3, 4] (iV (dCallP 2 g_u_law_kept (aCons true (oN 1) (aCons true (oN 2) aNil)))) (gT 2 (gsC (gN 3) (gsC (gN 4) gsN))) qYes (dN 3)) (gN 5))
def st_u_law_budget_2 (g_u_law_pick : FD) : SD :=
  (sRet (dF fMin2 (aCons false (oE (dC (.int 1000))) (aCons true (oE (dF fMax2 (aCons false (oE (dC (.int 0))) (aCons true (oE (d2 false fAdd (oE (dIf (qB (d2 true fNe (oN 5) (oE (dLst aNil)))) (dF fMinL (aCons true (oN 5) aNil)) (dC (.int 0)))) (oE (dCall M_u_law_pick g_u_law_pick (aCons true (oN 0) (aCons true (oE (dLst (aCons true (oE (d1 (fU (fun i => -i)) (oE (dC (.int 1))))) (aCons true (oE (dC (.int 0))) (aCons true (oE (dC (.int 0))) (aCons true (oE (dC (.int 1))) (aCons true (oE (dC (.int 2))) (aCons true (oE (dC (.int 4))) (aCons true (oE (dC (.int 12))) (aCons true (oE (dC (.int 995))) aNil)))))))))) aNil)))))) aNil)))) aNil))))
def bd_u_law_budget (g_u_law_kept : FD) (g_u_law_pick : FD) : SD :=
  (sSeq (st_u_law_budget_1 g_u_law_kept)
  (st_u_law_budget_2 g_u_law_pick))
theorem ps_u_law_budget {P : Program} {w : World} {K : PySem.W.Frag} {mg : Str → Option Value} {base : Heap} (T : Txt mg) {k : Nat} {f : Addr} {cdv : Value} {A : Around} {outer : List Env} {s : Shared} {H : Hp} {E : XK} {C : FC} (hC : C.mx = mxOf M_u_law_budget 0) (hr : Room (k) (A.deeper (envOfC "_law_budget" (defScope s_u_law_budget) s.heap.objs.size f cdv))) {f_u_law_kept : Addr} {fd_u_law_kept : FuncData} {g_u_law_kept : FD} (F_u_law_kept : Cal P w K mg base k "_law_kept" f_u_law_kept fd_u_law_kept P_u_law_kept C.tabs M_u_law_kept g_u_law_kept) {f_u_law_pick : Addr} {fd_u_law_pick : FuncData} {g_u_law_pick : FD} (F_u_law_pick : Cal P w K mg base k "_law_pick" f_u_law_pick fd_u_law_pick P_u_law_pick C.tabs M_u_law_pick g_u_law_pick) :
    PSs (cxOf CX0 P w K mg base N_u_law_budget "_law_budget" (defScope s_u_law_budget) f cdv A outer s H E).nox (defBody s_u_law_budget) (LS K C (bd_u_law_budget g_u_law_kept g_u_law_pick)) :=
  (s_cons (s_setLc (i := 5) (own := [("cost", 3), ("pairs", 4)]) rfl sc_u_law_budget.nd rfl rfl (sw_true rfl rfl rfl rfl) (i_v (c_P (n := 2) F_u_law_kept hr (a_cons (o_n (pv 1)) (a_cons (o_n (pv 2)) a_nil)))) (blkOk_by (N := N_u_law_budget) (sc := defScope s_u_law_budget) (by decide +kernel)) ⟨⟨[3, 4], (fun _ h => h), fun _ _ _ _ _ => (h_t rfl (h_c (g_n (pg_name (i := 3) sc_u_law_budget.nd rfl (by first | exact Or.inl rfl | exact Or.inr rfl)) (by simp [FC.blk, FC.gb])) (h_c (g_n (pg_name (i := 4) sc_u_law_budget.nd rfl (by first | exact Or.inl rfl | exact Or.inr rfl)) (by simp [FC.blk, FC.gb])) gs_n)))⟩, fun _ _ _ _ _ => q_yes, fun _ _ _ _ _ => (e_n (pv 3))⟩ (by rw [hC]; decide))
  (s_one (s_ret (p := false) (b_min2 T.z_min rfl (a_cons (o_e e_int) (a_cons (o_e (b_max2 T.z_max rfl (a_cons (o_e e_int) (a_cons (o_e (e_op op_addAll r_add (o_e (e_if (q_cmp (op_neD hr.units) r_ne (o_n (pv 5)) (o_e (e_lst a_nil)) (nomark _)) (b_minL T.z_min rfl (a_cons (o_n (pv 5)) a_nil)) e_int)) (o_e (c_M F_u_law_pick hr (a_cons (o_n (pv 0)) (a_cons (o_e (e_lst (a_cons (o_e (e_un un_neg r_U (o_e e_int))) (a_cons (o_e e_int) (a_cons (o_e e_int) (a_cons (o_e e_int) (a_cons (o_e e_int) (a_cons (o_e e_int) (a_cons (o_e e_int) (a_cons (o_e e_int) a_nil)))))))))) a_nil)))))) a_nil)))) a_nil))))))
/-! _law_sure_ones -/
def st_u_law_sure_ones_1 (g_u_law_worlds : FD) : SD :=
  (sAsg (dCallP 3 g_u_law_worlds (aCons true (oN 0) (aCons true (oN 1) (aCons true (oN 2) aNil)))) (gN 3))
def st_u_law_sure_ones_2 : SD :=
  (sRet (dLst aNil))
def st_u_law_sure_ones_3 : SD :=
  (sIf (qB (d2 true fEq (oN 3) (oE (dLst aNil))))
  st_u_law_sure_ones_2
  sNil)
def st_u_law_sure_ones_4 : SD :=
  (sRet (dLc [4] (iV (d2 true fIx (oN 3) (oE (dC (.int 0))))) (gN 4) (qB (d2 true fEq (oE (dLc [5] (iV (dNf 3)) (gN 5) (qB (d2 true fNotIn (oN 4) (oN 5))) (dN 5))) (oE (dLst aNil)))) (dN 4)))
def bd_u_law_sure_ones (g_u_law_worlds : FD) : SD :=
  (sSeq (st_u_law_sure_ones_1 g_u_law_worlds)
  (sSeq st_u_law_sure_ones_3
  st_u_law_sure_ones_4))
theorem ps_u_law_sure_ones {P : Program} {w : World} {K : PySem.W.Frag} {mg : Str → Option Value} {base : Heap} (T : Txt mg) {k : Nat} {f : Addr} {cdv : Value} {A : Around} {outer : List Env} {s : Shared} {H : Hp} {E : XK} {C : FC} (hC : C.mx = mxOf M_u_law_sure_ones 0) (hr : Room (k) (A.deeper (envOfC "_law_sure_ones" (defScope s_u_law_sure_ones) s.heap.objs.size f cdv))) {f_u_law_worlds : Addr} {fd_u_law_worlds : FuncData} {g_u_law_worlds : FD} (F_u_law_worlds : Cal P w K mg base k "_law_worlds" f_u_law_worlds fd_u_law_worlds P_u_law_worlds C.tabs M_u_law_worlds g_u_law_worlds) :
    PSs (cxOf CX0 P w K mg base N_u_law_sure_ones "_law_sure_ones" (defScope s_u_law_sure_ones) f cdv A outer s H E).nox (defBody s_u_law_sure_ones) (LS K C (bd_u_law_sure_ones g_u_law_worlds)) :=
  (s_cons (s_set (p := false) (i := 3) sc_u_law_sure_ones.nd rfl (by first | exact Or.inl rfl | exact Or.inr rfl) (c_P (n := 3) F_u_law_worlds hr (a_cons (o_n (pv 0)) (a_cons (o_n (pv 1)) (a_cons (o_n (pv 2)) a_nil)))) (by rw [hC]; decide))
  (s_cons (s_if (p := false) (q_cmp (op_eqD hr.units) r_eq (o_n (pv 3)) (o_e (e_lst a_nil)) (nomark _))
  (s_one (s_ret (p := false) (e_lst a_nil)))
  s_nil)
  (s_one (s_ret (p := false) (e_lc (own := [("pair", 4)]) rfl sc_u_law_sure_ones.nd (i_v (e_ix (o_n (pv 3)) (o_e e_int))) (blkOk_by (N := N_u_law_sure_ones) (sc := defScope s_u_law_sure_ones) (by decide +kernel)) ⟨⟨[4], (fun _ h => h), fun _ _ _ _ _ => (g_n (pg_name (i := 4) sc_u_law_sure_ones.nd rfl (by first | exact Or.inl rfl | exact Or.inr rfl)) (by simp [FC.blk, FC.gb]))⟩, fun _ _ _ _ _ => (q_one (q_cmp (op_eqD hr.units) r_eq (o_e (e_lc (own := [("pairs", 5)]) rfl sc_u_law_sure_ones.nd (i_v (e_nf (pv 3))) (by exact blkOk_by (by kernel_rfl)) ⟨⟨[5], (fun _ h => h), fun _ _ _ _ _ => (g_n (pg_name (i := 5) sc_u_law_sure_ones.nd rfl (by first | exact Or.inl rfl | exact Or.inr rfl)) (by simp [FC.blk, FC.gb]))⟩, fun _ _ _ _ _ => (q_one (q_cmp (op_notInB (inU hr)) r_notIn (o_n (pv 4)) (o_n (pv 5)) rfl)), fun _ _ _ _ _ => (e_n (pv 5))⟩)) (o_e (e_lst a_nil)) (nomark _))), fun _ _ _ _ _ => (e_n (pv 4))⟩)))))
/-! _law_bears -/
def st_u_law_bears_1 : SD :=
  (sAsg (dN 4) (gT 2 (gsC (gN 5) (gsC (gN 6) gsN))))
def st_u_law_bears_2 : SD :=
  (sAsg (d2 true fAdd (oE (d2 true fAdd (oE (dSl true fSl (oN 0) bNo (bSo (dN 5)))) (oE (dTup (aCons true (oE (d2 true fAdd (oE (d2 true fAdd (oE (dSl true fSl (oE (d2 true fIx (oN 0) (oN 5))) bNo (bSo (dN 6)))) (oE (dTup (aCons true (oE (dC (.int 0))) aNil))))) (oE (dSl true fSl (oE (d2 true fIx (oN 0) (oN 5))) (bSo (d2 true fAdd (oN 6) (oE (dC (.int 1))))) bNo)))) aNil))))) (oE (dSl true fSl (oN 0) (bSo (d2 true fAdd (oN 5) (oE (dC (.int 1))))) bNo))) (gN 7))
def st_u_law_bears_3 (g_u_law_kept : FD) : SD :=
  (sAsg (dLc [8, 9] (iV (dCallP 2 g_u_law_kept (aCons true (oN 7) (aCons true (oN 1) aNil)))) (gT 2 (gsC (gN 8) (gsC (gN 9) gsN))) (qAnd (qB (d2 true fIn (oN 4) (oN 9))) (qB (d2 true fNotIn (oN 3) (oN 9)))) (dN 8)) (gN 10))
def st_u_law_bears_4 : SD :=
  (sRet (dIf (qAnd (qB (d2 true fNe (oN 10) (oE (dLst aNil)))) (qB (d2 true (fIB (fun i j => decide (i ≤ j))) (oE (dF fMinL (aCons true (oN 10) aNil))) (oN 2)))) (d2 true (fI0 (fun i j => i - j)) (oN 2) (oE (dF fMinL (aCons true (oN 10) aNil)))) (d1 (fU (fun i => -i)) (oE (dC (.int 1))))))
def bd_u_law_bears (g_u_law_kept : FD) : SD :=
  (sSeq st_u_law_bears_1
  (sSeq st_u_law_bears_2
  (sSeq (st_u_law_bears_3 g_u_law_kept)
  st_u_law_bears_4)))
theorem ps_u_law_bears {P : Program} {w : World} {K : PySem.W.Frag} {mg : Str → Option Value} {base : Heap} (T : Txt mg) {k : Nat} {f : Addr} {cdv : Value} {A : Around} {outer : List Env} {s : Shared} {H : Hp} {E : XK} {C : FC} (hC : C.mx = mxOf M_u_law_bears 0) (hr : Room (k) (A.deeper (envOfC "_law_bears" (defScope s_u_law_bears) s.heap.objs.size f cdv))) {f_u_law_kept : Addr} {fd_u_law_kept : FuncData} {g_u_law_kept : FD} (F_u_law_kept : Cal P w K mg base k "_law_kept" f_u_law_kept fd_u_law_kept P_u_law_kept C.tabs M_u_law_kept g_u_law_kept) :
    PSs (cxOf CX0 P w K mg base N_u_law_bears "_law_bears" (defScope s_u_law_bears) f cdv A outer s H E).nox (defBody s_u_law_bears) (LS K C (bd_u_law_bears g_u_law_kept)) :=
  (s_cons (s_asg (p := false) (ps_asg (e_n (pv 4)) (h_t rfl (h_c (g_n (pg_name (i := 5) sc_u_law_bears.nd rfl (by first | exact Or.inl rfl | exact Or.inr rfl)) (by rw [hC]; decide)) (h_c (g_n (pg_name (i := 6) sc_u_law_bears.nd rfl (by first | exact Or.inl rfl | exact Or.inr rfl)) (by rw [hC]; decide)) gs_n)))))
  (s_cons (s_set (p := false) (i := 7) sc_u_law_bears.nd rfl (by first | exact Or.inl rfl | exact Or.inr rfl) (e_op op_addAll r_add (o_e (e_op op_addAll r_add (o_e (e_sl (o_n (pv 0)) b_no (b_so (e_n (pv 5))))) (o_e (e_tup (a_cons (o_e (e_op op_addAll r_add (o_e (e_op op_addAll r_add (o_e (e_sl (o_e (e_ix (o_n (pv 0)) (o_n (pv 5)))) b_no (b_so (e_n (pv 6))))) (o_e (e_tup (a_cons (o_e e_int) a_nil))))) (o_e (e_sl (o_e (e_ix (o_n (pv 0)) (o_n (pv 5)))) (b_so (e_op op_addAll r_add (o_n (pv 6)) (o_e e_int))) b_no)))) a_nil))))) (o_e (e_sl (o_n (pv 0)) (b_so (e_op op_addAll r_add (o_n (pv 5)) (o_e e_int))) b_no))) (by rw [hC]; decide))
  (s_cons (s_setLc (i := 10) (own := [("cost", 8), ("pairs", 9)]) rfl sc_u_law_bears.nd rfl rfl (sw_true rfl rfl rfl rfl) (i_v (c_P (n := 2) F_u_law_kept hr (a_cons (o_n (pv 7)) (a_cons (o_n (pv 1)) a_nil)))) (blkOk_by (N := N_u_law_bears) (sc := defScope s_u_law_bears) (by decide +kernel)) ⟨⟨[8, 9], (fun _ h => h), fun _ _ _ _ _ => (h_t rfl (h_c (g_n (pg_name (i := 8) sc_u_law_bears.nd rfl (by first | exact Or.inl rfl | exact Or.inr rfl)) (by simp [FC.blk, FC.gb])) (h_c (g_n (pg_name (i := 9) sc_u_law_bears.nd rfl (by first | exact Or.inl rfl | exact Or.inr rfl)) (by simp [FC.blk, FC.gb])) gs_n)))⟩, fun _ _ _ _ _ => (q_one (q_w (w_and (q_cmp (op_inB (inU hr)) r_in (o_n (pv 4)) (o_n (pv 9)) rfl) (w_and1 (q_cmp (op_notInB (inU hr)) r_notIn (o_n (pv 3)) (o_n (pv 9)) rfl))))), fun _ _ _ _ _ => (e_n (pv 8))⟩ (by rw [hC]; decide))
  (s_one (s_ret (p := false) (e_if (q_w (w_and (q_cmp (op_neD hr.units) r_ne (o_n (pv 10)) (o_e (e_lst a_nil)) (nomark _)) (w_and1 (q_cmp op_le r_IB (o_e (b_minL T.z_min rfl (a_cons (o_n (pv 10)) a_nil))) (o_n (pv 2)) (nomark _))))) (e_op op_sub r_I0 (o_n (pv 2)) (o_e (b_minL T.z_min rfl (a_cons (o_n (pv 10)) a_nil)))) (e_un un_neg r_U (o_e e_int))))))))
/-! _law_scene -/
def st_u_law_scene_1 (g_u_law_table : FD) (g_u_law_draw : FD) : SD :=
  (sAsg (dCall M_u_law_table g_u_law_table (aCons false (oN 0) (aCons false (oE (d2 false fAdd (oE (dC (.int 1))) (oE (dCall M_u_law_draw g_u_law_draw (aCons true (oN 0) (aCons true (oE (dC (.int 4))) aNil)))))) (aCons true (oE (d2 false fAdd (oE (dC (.int 1))) (oE (dCall M_u_law_draw g_u_law_draw (aCons true (oN 0) (aCons true (oE (dC (.int 4))) aNil)))))) aNil)))) (gN 2))
def st_u_law_scene_2 (g_u_law_demand : FD) : SD :=
  (sAsg (dCall M_u_law_demand g_u_law_demand (aCons true (oN 0) (aCons true (oE (dF fLen (aCons true (oE (d2 true fIx (oN 2) (oE (dC (.int 0))))) aNil))) aNil))) (gN 3))
def st_u_law_scene_3 : SD :=
  (sAsg (dTup (aCons true (oE (dF fMax2 (aCons true (oE (dC (.int 1))) (aCons true (oE (d2 true fIx (oN 3) (oE (dC (.int 0))))) aNil)))) (aCons true (oE (d2 true fIx (oN 3) (oE (dC (.int 1))))) aNil))) (gN 3))
def st_u_law_scene_4 (g_u_law_budget : FD) : SD :=
  (sAsg (dCall M_u_law_budget g_u_law_budget (aCons true (oN 0) (aCons true (oN 2) (aCons true (oN 3) aNil)))) (gN 4))
def st_u_law_scene_5 (g_u_law_sure_ones : FD) : SD :=
  (sAsg (dCallP 3 g_u_law_sure_ones (aCons true (oN 2) (aCons true (oN 3) (aCons true (oN 4) aNil)))) (gN 5))
def st_u_law_scene_6 (g_u_law_pick : FD) : SD :=
  (sRet (dTup (aCons false (oN 2) (aCons false (oN 3) (aCons false (oN 4) (aCons true (oE (dCall M_u_law_pick g_u_law_pick (aCons true (oN 0) (aCons true (oN 5) aNil)))) aNil))))))
def st_u_law_scene_7 (g_u_law_pick : FD) : SD :=
  (sIf (qB (d2 true fNe (oN 5) (oE (dLst aNil))))
  (st_u_law_scene_6 g_u_law_pick)
  sNil)
def st_u_law_scene_8 (g_u_law_table : FD) (g_u_law_demand : FD) (g_u_law_budget : FD) (g_u_law_sure_ones : FD) (g_u_law_draw : FD) (g_u_law_pick : FD) : SD :=
  (sFor (iR1 (aCons true (oE (dC (.int 6))) aNil)) (gN 1)
  (sSeq (st_u_law_scene_1 g_u_law_table g_u_law_draw)
  (sSeq (st_u_law_scene_2 g_u_law_demand)
  (sSeq st_u_law_scene_3
  (sSeq (st_u_law_scene_4 g_u_law_budget)
  (sSeq (st_u_law_scene_5 g_u_law_sure_ones)
  (st_u_law_scene_7 g_u_law_pick)))))))
def st_u_law_scene_9 : SD :=
  (sRet (dC .non))
def bd_u_law_scene (g_u_law_table : FD) (g_u_law_demand : FD) (g_u_law_budget : FD) (g_u_law_sure_ones : FD) (g_u_law_draw : FD) (g_u_law_pick : FD) : SD :=
  (sSeq (st_u_law_scene_8 g_u_law_table g_u_law_demand g_u_law_budget g_u_law_sure_ones g_u_law_draw g_u_law_pick)
  st_u_law_scene_9)
theorem ps_u_law_scene {P : Program} {w : World} {K : PySem.W.Frag} {mg : Str → Option Value} {base : Heap} (T : Txt mg) {k : Nat} {f : Addr} {cdv : Value} {A : Around} {outer : List Env} {s : Shared} {H : Hp} {E : XK} {C : FC} (hC : C.mx = mxOf M_u_law_scene 0) (hr : Room (k) (A.deeper (envOfC "_law_scene" (defScope s_u_law_scene) s.heap.objs.size f cdv))) {f_u_law_table : Addr} {fd_u_law_table : FuncData} {g_u_law_table : FD} (F_u_law_table : Cal P w K mg base k "_law_table" f_u_law_table fd_u_law_table P_u_law_table C.tabs M_u_law_table g_u_law_table) {f_u_law_demand : Addr} {fd_u_law_demand : FuncData} {g_u_law_demand : FD} (F_u_law_demand : Cal P w K mg base k "_law_demand" f_u_law_demand fd_u_law_demand P_u_law_demand C.tabs M_u_law_demand g_u_law_demand) {f_u_law_budget : Addr} {fd_u_law_budget : FuncData} {g_u_law_budget : FD} (F_u_law_budget : Cal P w K mg base k "_law_budget" f_u_law_budget fd_u_law_budget P_u_law_budget C.tabs M_u_law_budget g_u_law_budget) {f_u_law_sure_ones : Addr} {fd_u_law_sure_ones : FuncData} {g_u_law_sure_ones : FD} (F_u_law_sure_ones : Cal P w K mg base k "_law_sure_ones" f_u_law_sure_ones fd_u_law_sure_ones P_u_law_sure_ones C.tabs M_u_law_sure_ones g_u_law_sure_ones) {f_u_law_draw : Addr} {fd_u_law_draw : FuncData} {g_u_law_draw : FD} (F_u_law_draw : Cal P w K mg base k "_law_draw" f_u_law_draw fd_u_law_draw P_u_law_draw C.tabs M_u_law_draw g_u_law_draw) {f_u_law_pick : Addr} {fd_u_law_pick : FuncData} {g_u_law_pick : FD} (F_u_law_pick : Cal P w K mg base k "_law_pick" f_u_law_pick fd_u_law_pick P_u_law_pick C.tabs M_u_law_pick g_u_law_pick) :
    PSs (cxOf CX0 P w K mg base N_u_law_scene "_law_scene" (defScope s_u_law_scene) f cdv A outer s H E).nox (defBody s_u_law_scene) (LS K C (bd_u_law_scene g_u_law_table g_u_law_demand g_u_law_budget g_u_law_sure_ones g_u_law_draw g_u_law_pick)) :=
  (s_cons (s_for (p := false) PassesOwn.never rfl (j_r1 T.z_range (a_cons (o_e e_int) a_nil)) (g_n (pg_name (i := 1) sc_u_law_scene.nd rfl (by first | exact Or.inl rfl | exact Or.inr rfl)) (by rw [hC]; decide))
  (s_cons (s_set (p := false) (i := 2) sc_u_law_scene.nd rfl (by first | exact Or.inl rfl | exact Or.inr rfl) (c_M F_u_law_table hr (a_cons (o_n (pv 0)) (a_cons (o_e (e_op op_addAll r_add (o_e e_int) (o_e (c_M F_u_law_draw hr (a_cons (o_n (pv 0)) (a_cons (o_e e_int) a_nil)))))) (a_cons (o_e (e_op op_addAll r_add (o_e e_int) (o_e (c_M F_u_law_draw hr (a_cons (o_n (pv 0)) (a_cons (o_e e_int) a_nil)))))) a_nil)))) (by rw [hC]; decide))
  (s_cons (s_set (p := false) (i := 3) sc_u_law_scene.nd rfl (by first | exact Or.inl rfl | exact Or.inr rfl) (c_M F_u_law_demand hr (a_cons (o_n (pv 0)) (a_cons (o_e (b_len T.z_len (a_cons (o_e (e_ix (o_n (pv 2)) (o_e e_int))) a_nil))) a_nil))) (by rw [hC]; decide))
  (s_cons (s_set (p := false) (i := 3) sc_u_law_scene.nd rfl (by first | exact Or.inl rfl | exact Or.inr rfl) (e_tup (a_cons (o_e (b_max2 T.z_max rfl (a_cons (o_e e_int) (a_cons (o_e (e_ix (o_n (pv 3)) (o_e e_int))) a_nil)))) (a_cons (o_e (e_ix (o_n (pv 3)) (o_e e_int))) a_nil))) (by rw [hC]; decide))
  (s_cons (s_set (p := false) (i := 4) sc_u_law_scene.nd rfl (by first | exact Or.inl rfl | exact Or.inr rfl) (c_M F_u_law_budget hr (a_cons (o_n (pv 0)) (a_cons (o_n (pv 2)) (a_cons (o_n (pv 3)) a_nil)))) (by rw [hC]; decide))
  (s_cons (s_set (p := false) (i := 5) sc_u_law_scene.nd rfl (by first | exact Or.inl rfl | exact Or.inr rfl) (c_P (n := 3) F_u_law_sure_ones hr (a_cons (o_n (pv 2)) (a_cons (o_n (pv 3)) (a_cons (o_n (pv 4)) a_nil)))) (by rw [hC]; decide))
  (s_one (s_if (p := false) (q_cmp (op_neD hr.units) r_ne (o_n (pv 5)) (o_e (e_lst a_nil)) (nomark _))
  (s_one (s_ret (p := false) (e_tup (a_cons (o_n (pv 2)) (a_cons (o_n (pv 3)) (a_cons (o_n (pv 4)) (a_cons (o_e (c_M F_u_law_pick hr (a_cons (o_n (pv 0)) (a_cons (o_n (pv 5)) a_nil)))) a_nil)))))))
  s_nil))))))))
  (s_one (s_ret (p := false) e_non)))
/-! _law_others -/
def bd_u_law_others : SD :=
  (sSeq (sAsg (dLst aNil) (gN 2))
  (sSeq (sFor (iR1 (aCons true (oE (dF fLen (aCons true (oN 0) aNil))) aNil)) (gN 3)
  (sAsg (d2 false fAdd (oN 2) (oE (dLc [4] (iR1 (aCons true (oE (dF fLen (aCons true (oE (d2 true fIx (oN 0) (oE (dC (.int 0))))) aNil))) aNil)) (gN 4) (qB (d2 true fNe (oE (dTup (aCons true (oN 3) (aCons true (oN 4) aNil)))) (oN 1))) (dTup (aCons true (oN 3) (aCons true (oN 4) aNil)))))) (gN 2)))
  (sRet (dNm 2))))
theorem ps_u_law_others {P : Program} {w : World} {K : PySem.W.Frag} {mg : Str → Option Value} {base : Heap} (T : Txt mg) {k : Nat} {f : Addr} {cdv : Value} {A : Around} {outer : List Env} {s : Shared} {H : Hp} {E : XK} {C : FC} (hC : C.mx = mxOf M_u_law_others 0) (hr : Room (k) (A.deeper (envOfC "_law_others" (defScope s_u_law_others) s.heap.objs.size f cdv))) :
    PSs (cxOf CX0 P w K mg base N_u_law_others "_law_others" (defScope s_u_law_others) f cdv A outer s H E).nox (defBody s_u_law_others) (LS K C (bd_u_law_others)) :=
  (s_cons (s_set (p := false) (i := 2) sc_u_law_others.nd rfl (by first | exact Or.inl rfl | exact Or.inr rfl) (e_lst a_nil) (by rw [hC]; decide))
  (s_cons (s_for (p := false) PassesOwn.never rfl (j_r1 T.z_range (a_cons (o_e (b_len T.z_len (a_cons (o_n (pv 0)) a_nil))) a_nil)) (g_n (pg_name (i := 3) sc_u_law_others.nd rfl (by first | exact Or.inl rfl | exact Or.inr rfl)) (by rw [hC]; decide))
  (s_one (s_set (p := false) (i := 2) sc_u_law_others.nd rfl (by first | exact Or.inl rfl | exact Or.inr rfl) (e_op op_addAll r_add (o_n (pv 2)) (o_e (e_lc (own := [("r", 4)]) rfl sc_u_law_others.nd (j_r1 T.z_range (a_cons (o_e (b_len T.z_len (a_cons (o_e (e_ix (o_n (pv 0)) (o_e e_int))) a_nil))) a_nil)) (blkOk_by (N := N_u_law_others) (sc := defScope s_u_law_others) (by decide +kernel)) ⟨⟨[4], (fun _ h => h), fun _ _ _ _ _ => (g_n (pg_name (i := 4) sc_u_law_others.nd rfl (by first | exact Or.inl rfl | exact Or.inr rfl)) (by simp [FC.blk, FC.gb]))⟩, fun _ _ _ _ _ => (q_one (q_cmp (op_neD hr.units) r_ne (o_e (e_tup (a_cons (o_n (pv 3)) (a_cons (o_n (pv 4)) a_nil)))) (o_n (pv 1)) (nomark _))), fun _ _ _ _ _ => (e_tup (a_cons (o_n (pv 3)) (a_cons (o_n (pv 4)) a_nil)))⟩))) (by rw [hC]; decide))))
  (s_one (s_ret (p := false) (e_nm (pv 2))))))
/-! law -/
def st_law_1 (g_u_law_pool : FD) : SD :=
  (sAsg (dCallP 1 g_u_law_pool (aCons true (oN 0) aNil)) (gN 1))
def st_law_2 (g_u_law_scene : FD) : SD :=
  (sAsg (dCall M_u_law_scene g_u_law_scene (aCons true (oN 1) aNil)) (gN 3))
def st_law_3 : SD :=
  (sAsg (dN 3) (gT 4 (gsC (gN 4) (gsC (gN 5) (gsC (gN 6) (gsC (gN 7) gsN))))))
def st_law_4 (g_u_law_bears : FD) : SD :=
  (sAsg (dCallP 5 g_u_law_bears (aCons true (oN 4) (aCons true (oN 5) (aCons true (oN 6) (aCons true (oN 7) (aCons true (oN 8) aNil)))))) (gN 9))
def st_law_5 : SD :=
  (sRet (dC (.bl false)))
def st_law_6 (g_u_law_same : FD) (g_bears : FD) : SD :=
  (sIf (qNot (qB (dCallP 2 g_u_law_same (aCons true (oE (dCallP 5 g_bears (aCons true (oN 4) (aCons true (oN 5) (aCons true (oN 6) (aCons true (oN 7) (aCons true (oN 8) aNil))))))) (aCons true (oN 9) aNil)))))
  st_law_5
  sNil)
def st_law_7 : SD :=
  (sRet (dC (.bl false)))
def st_law_8 (g_u_law_draw : FD) (g_u_law_same : FD) (g_bears : FD) : SD :=
  (sIf (qAnd (qB (d2 true fEq (oE (dCall M_u_law_draw g_u_law_draw (aCons true (oN 1) (aCons true (oE (dC (.int 4))) aNil)))) (oE (dC (.int 0))))) (qNot (qB (dCallP 2 g_u_law_same (aCons true (oE (dCallK [4, 3, 2, 1, 0] 5 g_bears (aCons true (oN 8) (aCons true (oN 7) (aCons true (oN 6) (aCons true (oN 5) (aCons true (oN 4) aNil))))))) (aCons true (oN 9) aNil))))))
  st_law_7
  sNil)
def st_law_9 (g_u_law_others : FD) (g_u_law_bears : FD) (g_u_law_same : FD) (g_bears : FD) (g_u_law_draw : FD) : SD :=
  (sFor (iV (dCallP 2 g_u_law_others (aCons true (oN 4) (aCons true (oN 7) aNil)))) (gN 8)
  (sSeq (st_law_4 g_u_law_bears)
  (sSeq (st_law_6 g_u_law_same g_bears)
  (st_law_8 g_u_law_draw g_u_law_same g_bears))))
def st_law_10 (g_u_law_others : FD) (g_u_law_bears : FD) (g_u_law_same : FD) (g_bears : FD) (g_u_law_draw : FD) : SD :=
  (sIf (qB (d2 true fNotN (oN 3) (oE (dC .non))))
  (sSeq st_law_3
  (st_law_9 g_u_law_others g_u_law_bears g_u_law_same g_bears g_u_law_draw))
  sNil)
def st_law_11 (g_u_law_scene : FD) (g_u_law_others : FD) (g_u_law_bears : FD) (g_u_law_same : FD) (g_bears : FD) (g_u_law_draw : FD) : SD :=
  (sFor (iR1 (aCons true (oE (dC (.int 3))) aNil)) (gN 2)
  (sSeq (st_law_2 g_u_law_scene)
  (st_law_10 g_u_law_others g_u_law_bears g_u_law_same g_bears g_u_law_draw)))
def st_law_12 : SD :=
  (sRet (dC (.bl true)))
def bd_law (g_u_law_pool : FD) (g_u_law_scene : FD) (g_u_law_others : FD) (g_u_law_bears : FD) (g_u_law_same : FD) (g_bears : FD) (g_u_law_draw : FD) : SD :=
  (sSeq (st_law_1 g_u_law_pool)
  (sSeq (st_law_11 g_u_law_scene g_u_law_others g_u_law_bears g_u_law_same g_bears g_u_law_draw)
  st_law_12))
theorem ps_law {P : Program} {w : World} {K : PySem.W.Frag} {mg : Str → Option Value} {base : Heap} (T : Txt mg) {k : Nat} {f : Addr} {cdv : Value} {A : Around} {outer : List Env} {s : Shared} {H : Hp} {E : XK} {C : FC} (hC : C.mx = mxOf M_law 0) (hr : Room (k) (A.deeper (envOfC "law" (defScope s_law) s.heap.objs.size f cdv))) {f_u_law_pool : Addr} {fd_u_law_pool : FuncData} {g_u_law_pool : FD} (F_u_law_pool : Cal P w K mg base k "_law_pool" f_u_law_pool fd_u_law_pool P_u_law_pool C.tabs M_u_law_pool g_u_law_pool) {f_u_law_scene : Addr} {fd_u_law_scene : FuncData} {g_u_law_scene : FD} (F_u_law_scene : Cal P w K mg base k "_law_scene" f_u_law_scene fd_u_law_scene P_u_law_scene C.tabs M_u_law_scene g_u_law_scene) {f_u_law_others : Addr} {fd_u_law_others : FuncData} {g_u_law_others : FD} (F_u_law_others : Cal P w K mg base k "_law_others" f_u_law_others fd_u_law_others P_u_law_others C.tabs M_u_law_others g_u_law_others) {f_u_law_bears : Addr} {fd_u_law_bears : FuncData} {g_u_law_bears : FD} (F_u_law_bears : Cal P w K mg base k "_law_bears" f_u_law_bears fd_u_law_bears P_u_law_bears C.tabs M_u_law_bears g_u_law_bears) {f_u_law_same : Addr} {fd_u_law_same : FuncData} {g_u_law_same : FD} (F_u_law_same : Cal P w K mg base k "_law_same" f_u_law_same fd_u_law_same P_u_law_same C.tabs M_u_law_same g_u_law_same) {f_bears : Addr} {fd_bears : FuncData} {g_bears : FD} (F_bears : Cal P w K mg base k "bears" f_bears fd_bears P_bears C.tabs M_bears g_bears) {f_u_law_draw : Addr} {fd_u_law_draw : FuncData} {g_u_law_draw : FD} (F_u_law_draw : Cal P w K mg base k "_law_draw" f_u_law_draw fd_u_law_draw P_u_law_draw C.tabs M_u_law_draw g_u_law_draw) (kb_bears_43210 : KBinds K fd_bears P_bears ["other", "pair", "budget", "demand", "table"] (kwG [4, 3, 2, 1, 0] 5) (kwG [4, 3, 2, 1, 0] 5)) :
    PSs (cxOf CX0 P w K mg base N_law "law" (defScope s_law) f cdv A outer s H E).nox (defBody s_law) (LS K C (bd_law g_u_law_pool g_u_law_scene g_u_law_others g_u_law_bears g_u_law_same g_bears g_u_law_draw)) :=
  (s_cons (s_set (p := false) (i := 1) sc_law.nd rfl (by first | exact Or.inl rfl | exact Or.inr rfl) (c_P (n := 1) F_u_law_pool hr (a_cons (o_n (pv 0)) a_nil)) (by rw [hC]; decide))
  (s_cons (s_for (p := false) PassesOwn.never rfl (j_r1 T.z_range (a_cons (o_e e_int) a_nil)) (g_n (pg_name (i := 2) sc_law.nd rfl (by first | exact Or.inl rfl | exact Or.inr rfl)) (by rw [hC]; decide))
  (s_cons (s_set (p := false) (i := 3) sc_law.nd rfl (by first | exact Or.inl rfl | exact Or.inr rfl) (c_M F_u_law_scene hr (a_cons (o_n (pv 1)) a_nil)) (by rw [hC]; decide))
  (s_one (s_if (p := false) (q_cmp op_notN r_notN (o_n (pv 3)) (o_e e_non) (nomark _))
  (s_cons (s_asg (p := false) (ps_asg (e_n (pv 3)) (h_t rfl (h_c (g_n (pg_name (i := 4) sc_law.nd rfl (by first | exact Or.inl rfl | exact Or.inr rfl)) (by rw [hC]; decide)) (h_c (g_n (pg_name (i := 5) sc_law.nd rfl (by first | exact Or.inl rfl | exact Or.inr rfl)) (by rw [hC]; decide)) (h_c (g_n (pg_name (i := 6) sc_law.nd rfl (by first | exact Or.inl rfl | exact Or.inr rfl)) (by rw [hC]; decide)) (h_c (g_n (pg_name (i := 7) sc_law.nd rfl (by first | exact Or.inl rfl | exact Or.inr rfl)) (by rw [hC]; decide)) gs_n)))))))
  (s_one (s_for (p := false) PassesOwn.never rfl (i_v (c_P (n := 2) F_u_law_others hr (a_cons (o_n (pv 4)) (a_cons (o_n (pv 7)) a_nil)))) (g_n (pg_name (i := 8) sc_law.nd rfl (by first | exact Or.inl rfl | exact Or.inr rfl)) (by rw [hC]; decide))
  (s_cons (s_set (p := false) (i := 9) sc_law.nd rfl (by first | exact Or.inl rfl | exact Or.inr rfl) (c_P (n := 5) F_u_law_bears hr (a_cons (o_n (pv 4)) (a_cons (o_n (pv 5)) (a_cons (o_n (pv 6)) (a_cons (o_n (pv 7)) (a_cons (o_n (pv 8)) a_nil)))))) (by rw [hC]; decide))
  (s_cons (s_if (p := false) (q_not (q_val (c_P (n := 2) F_u_law_same hr (a_cons (o_e (c_P (n := 5) F_bears hr (a_cons (o_n (pv 4)) (a_cons (o_n (pv 5)) (a_cons (o_n (pv 6)) (a_cons (o_n (pv 7)) (a_cons (o_n (pv 8)) a_nil))))))) (a_cons (o_n (pv 9)) a_nil)))))
  (s_one (s_ret (p := false) e_bl))
  s_nil)
  (s_one (s_if (p := false) (q_w (w_and (q_cmp (op_eqD hr.units) r_eq (o_e (c_M F_u_law_draw hr (a_cons (o_n (pv 1)) (a_cons (o_e e_int) a_nil)))) (o_e e_int) (nomark _)) (w_and1 (q_not (q_val (c_P (n := 2) F_u_law_same hr (a_cons (o_e (c_K F_bears hr kb_bears_43210 (k_cons (o_n (pv 8)) (k_cons (o_n (pv 7)) (k_cons (o_n (pv 6)) (k_cons (o_n (pv 5)) (k_cons (o_n (pv 4)) k_nil))))))) (a_cons (o_n (pv 9)) a_nil))))))))
  (s_one (s_ret (p := false) e_bl))
  s_nil)))))))
  s_nil))))
  (s_one (s_ret (p := false) e_bl))))

end K80

set_option Elab.async false
set_option linter.all false
set_option maxRecDepth 100000
/-! Dn18: from the law by values to the law. -/
namespace Dn
open PySem PySem.Spec PyProof.Rows L2
def g_law : FD := fun l Q => ∃ ns : List Int, l = [.scr (ns.map (D.t ∘ T.int))] ∧ ns.length ≤ 63 ∧ Q (.t (.bl true)) []
theorem VBs_int {K : PySem.W.Frag} {B H : Hp} : ∀ ns : List Int, VBs K B H (ns.map (D.t ∘ T.int)) (ns.map V.int)
  | [] => rfl
  | n :: ns => ⟨.int n, ns.map V.int, rfl, rfl, VBs_int ns⟩
theorem SqL.barr {K : PySem.W.Frag} {H : Hp} {a : Addr} {xs : List V} (h : SqL K H a xs) : SqL K (Dn.barr H H z0) a xs := by
  rcases h with (s | ⟨o, s⟩) | s
  · exact .inl (.inl (barr_lst rfl s))
  · exact .inl (.inr ⟨o, barr_kt _ _ (fun _ q => nomatch q) (fun _ q => nomatch q) s⟩)
  · exact .inr s
def spLaw (K : PySem.W.Frag) (tabs : List Addr) : Sp := fun vs H Q _ => ∃ (a : Addr) (ns : List Int), vs = [.ref a] ∧ SqL K H a (ns.map V.int) ∧ ns.length ≤ 63 ∧ (∀ P ∈ tabs, H P = some (.tbl #[])) ∧ ∀ H', Q (.bl true) H'
theorem spLaw_of {K : PySem.W.Frag} {tabs : List Addr} {vs : List V} {H : Hp} {Q : VK} {E : XK} (h : spLaw K tabs vs H Q E) : SpD K tabs [false] g_law vs H Q E := by
  obtain ⟨a, ns, rfl, hs, hn, ht, hq⟩ := h
  refine ⟨barr H H z0, z0, [.scr (ns.map (D.t ∘ T.int))], fun d _ => d = .t (.bl true), rfl, ?_, barr_le (Same.refl H), fun P hP => TabN.empty (ht P hP) 4, barr_no, fun _ => Nat.zero_le _, fun _ hb => absurd hb (Nat.lt_irrefl 0), ⟨ns, rfl, hn, rfl⟩, fun d l' z v H' Fr F' k' ht' nd nl ll g1 g2 gs gn => ?_⟩
  · exact ⟨.ref a, [], z0, z0, rfl, ⟨⟨a, _, rfl, SqL.barr hs, VBs_int ns⟩, rfl⟩, ⟨rfl, rfl⟩, rfl⟩
  · subst z
    rw [show v = .bl true from g1.1]
    exact hq H'
/-- a def that is promised nothing -/
def g_no : FD := fun _ _ => False
theorem ok_no {P : Program} {w : World} {K : PySem.W.Frag} {mg : Str → Option Value} {base : Heap} {k : Nat} {f : Addr} {fd : FuncData} {ps : List Str} {tabs : List Addr} {ms : List Bool} : FnOk P w K mg base CX0 k f fd ps (SpD K tabs ms g_no) :=
  ⟨fun vs H Q E h => by obtain ⟨_, _, _, _, _, _, _, _, _, _, _, h, _⟩ := h; exact h.elim, fun A outer s H args us vs Q E hr he hb hv h => by obtain ⟨_, _, _, _, _, _, _, _, _, _, _, h, _⟩ := h; exact h.elim⟩
/-- the tables of the text's defs, as the law begins -/
def TabsOf (q : Program) (K : PySem.W.Frag) (h : Heap) : Prop := ∀ (x : Str) (c P : Addr) (d : DefRec), (recsOf q).find? (fun e => e.name == x) = some d → PySem.W.tabIn K x = some (c, P) → PySem.W.CodeHd h c P ∧ h.get? P = some { cls := .none, data := .fields #[] }
theorem tabIn_of {K : PySem.W.Frag} {x : Str} {f c P : Addr} {oc ocx : Value} {od odx : Option Addr} {fd : FuncData} {sl slx : Array (Option Value)} {vs : Array Value} (a : PySem.W.nsIn K mainGlobals x = some (some (.ref f))) (l : K.lookup f = some ⟨oc, od, .func fd, sl⟩) (e : fd.code = .ref c) (q : K.lookup c = some ⟨ocx, odx, .fields vs, slx⟩) (p : (vs[11]? : Option Value) = some (.ref P)) : PySem.W.tabIn K x = some (c, P) := by
  unfold PySem.W.tabIn
  simp only [a, l, e, q, p]
theorem tabB {base : Heap} {mg : Str → Option Value} {c P : Addr} (h : LamX.TabB base mg c P) : GxR.TabB base mg c P := ⟨h.1, h.2, h.3⟩
theorem walk {l : PySem.W.OpenLaw} {q : Program} {loose : List Str} {XP : (Str → Option Value) → Heap → Prop} {YP : World → Heap → Prop} {d : DefRec} {K : Params → PySem.W.Frag} (k : Nat) (hn : l.most = some 63) (hdf : d.params.defaults = []) (hr : Room k callerA)
    (hY : ∀ (w : World) (h : Heap), YP w h → (K w.params).In h)
    (F : ∀ (w : World) (mg : Str → Option Value) (fa : Addr) (h : Heap), (K w.params).In h → h.Ns mainGlobals mg → mg d.name = some (.ref fa) → TabsOf q (K w.params) h →
      ∃ (fd : FuncData) (cs : List (Addr × Addr)), (∀ p ∈ cs, (K w.params).lookup p.2 = none) ∧ (∀ p ∈ cs, PySem.W.CodeHd h p.1 p.2 ∧ h.get? p.2 = some { cls := .none, data := .fields #[] }) ∧ (∀ (s : Shared) (u : Value), BindsTo s fd ⟨[u], []⟩ [("script", u)]) ∧
        ∀ base : Heap, (K w.params).In base → base.Ns mainGlobals mg → (∀ p ∈ cs, GxR.TabB base mg p.1 p.2) → FnOk l.prog w (K w.params) mg base CX0 k fa fd ["script"] (SpD (K w.params) (cs.map (·.2)) [false] g_law)) :
    PySem.W.WalkO q loose XP YP l.row.toRowW d [] (fun f vs => PySem.call f vs) := by
  refine Att.attach_callB hn hdf fun w s₀ s₁ mg mb fa o pm cd doc a vs ns G Y ho hd hcd hmg hobj hints hlen hbits hg => ?_
  have KX := hY w _ Y
  obtain ⟨fd, cs, nT, hT, hb, hF⟩ := F w mg fa _ KX G.T.g hmg fun x c P dd e1 e2 => PySem.W.tab_of G.T KX e1 e2
  refine LamX.law_callTs (sp := spLaw (K w.params) (cs.map (·.2))) KX G.T.g G.T.b G.T.builtins G.T.nolimit hg (fun p hp => (hT p hp).2) nT (fun p hp => (hT p hp).1) G.T.bmain hobj hints (Nat.le_trans hlen (by decide)) hr (fun base h1 h2 h3 => (hF base h1 h2 fun p hp => tabB (h3 p hp)).imp fun vs H Q E => spLaw_of) hb (fun H hH hS => ⟨a, ns, rfl, hS, hlen, fun P hP => ?_, fun _ => rfl⟩) fun _ _ _ z => z
  obtain ⟨p, hp, rfl⟩ := List.mem_map.mp hP
  exact hH p hp
end Dn

set_option Elab.async false
set_option linter.all false
set_option maxRecDepth 100000
set_option maxHeartbeats 400000
/-! the law's source of draws: a list of numbers -/
namespace K80
open PySem PySem.Spec PyProof.Rows L2 Dn
abbrev iL (xs : List Int) : List T := xs.map T.int
abbrev iT (xs : List Int) : D := .t (.tup (iL xs))
abbrev lI (xs : List Int) : D := .lst (xs.map (D.t ∘ T.int))
theorem sz1000 {n : Nat} (h : n ≤ 1000) : n ≤ sizeLine := Nat.le_of_lt (small1000 h)
theorem sz1000' {n : Nat} (h : n ≤ 1000) : n < sizeLine := small1000 h
def srcD (a b c : Int) (rest : List Int) : D := .lst (.t (.int a) :: .t (.int b) :: .t (.int c) :: rest.map (D.t ∘ T.int))
def Src (d : D) : Prop := ∃ a b c rest, d = srcD a b c rest ∧ 0 ≤ c
theorem Src.nf {d : D} (h : Src d) : Dn.nf d = true := by obtain ⟨_, _, _, _, rfl, _⟩ := h; simp [srcD]
def g_pool : FD := fun l Q => ∃ ns : List Int, l = [.scr (ns.map (D.t ∘ T.int))] ∧ ns.length ≤ 63 ∧ ∀ b, Src b → Q b []
theorem d_pool (l : List D) (Q : D → List D → Prop) (h : g_pool l Q) : fnD N_u_law_pool M_u_law_pool bd_u_law_pool l Q := by
  obtain ⟨ns, rfl, hn, h⟩ := h
  have := h (srcD 0 7 3 ns) ⟨0, 7, 3, ns, rfl, by decide⟩
  simp [fnD, bd_u_law_pool, startD, and_assoc, fAdd]
  refine ⟨by decide, sz1000 (by omega), ?_⟩
  exact this
def g_draw : FD := fun l Q => ∃ src many, l = [src, .t (.int many)] ∧ Src src ∧ 1 ≤ many ∧ many < 2 ^ 30 ∧ ∀ told src', Src src' → 0 ≤ told → told < many → Q (.t (.int told)) [src']
section
variable {E : DE} {a b c many : Int} {rest : List Int} {x0 x1 x2 x3 x4 : Option D}
theorem at_src {a b c : Int} {rest : List Int} {j : Nat} (h : j < 3 + rest.length) : ∃ z : Int, L2.atI (D.t (.int a) :: .t (.int b) :: .t (.int c) :: rest.map (D.t ∘ T.int)) (j : Int) = some (.t (.int z)) := by
  refine ⟨nth 0 (a :: b :: c :: rest) j, ?_⟩
  exact at_nth (f := D.t ∘ T.int) (xs := a :: b :: c :: rest) 0 (by simp; omega) rfl
theorem w6 (hc : 0 ≤ c) (h : ∀ a' b' c' x2, 0 ≤ c' → E.nx [some (srcD a' b' c' rest), some (.t (.int many)), x2, x3, x4]) : st_u_law_draw_6 E [some (srcD a b c rest), some (.t (.int many)), x2, x3, x4] := by
  by_cases h0 : a = 0
  · by_cases h1 : c < 3 + rest.length
    · obtain ⟨j, rfl⟩ := Int.eq_ofNat_of_zero_le hc
      obtain ⟨z, hz⟩ := at_src (a := a) (b := b) (c := (j : Int)) (rest := rest) (j := j) (by omega)
      have h1' : (j : Int) < (rest.length : Int) + 1 + 1 + 1 := by omega
      subst h0
      simp [st_u_law_draw_6, srcD, h1', and_assoc]
      simp [st_u_law_draw_1, hz, and_assoc]
      simp [st_u_law_draw_2, and_assoc, pget, pset, mits, Plc_iff]
      simp [st_u_law_draw_3, and_assoc, pget, pset, mits, Plc_iff]
      refine ⟨.inr ⟨by decide, by decide⟩, ?_⟩
      simp [st_u_law_draw_5, and_assoc, pget, pset, mits, Plc_iff]
      refine ⟨⟨by decide, by decide, by decide⟩, ?_⟩
      generalize (if z < 0 then -z else z) = az
      split
      · simp [st_u_law_draw_4, and_assoc, pget, pset, mits, Plc_iff]
        exact h _ _ _ _ (by omega)
      · exact h _ _ _ _ (by omega)
    · have h1' : ¬ c < (rest.length : Int) + 1 + 1 + 1 := by omega
      have := h a b c x2 hc
      simp [st_u_law_draw_6, srcD, h0, h1', and_assoc]
      simp [srcD, h0] at this
      exact this
  · have := h a b c x2 hc
    simp [st_u_law_draw_6, srcD, h0, and_assoc]
    exact this
theorem w10 (h1 : 1 ≤ many) (h2 : many < 2 ^ 30) (hc : 0 ≤ c) (h : E.nx [some (srcD a b c rest), some (.t (.int many)), x2, x3, x4])
    (hr : ∀ told src', Src src' → 0 ≤ told → told < many → ∀ x2 x4, E.rt (.t (.int told)) [some src', some (.t (.int many)), x2, none, x4]) : st_u_law_draw_10 E [some (srcD a b c rest), some (.t (.int many)), x2, x3, x4] := by
  by_cases h0 : 0 < a
  · simp [st_u_law_draw_10, srcD, h0, and_assoc]
    simp [st_u_law_draw_7, and_assoc]
    refine ⟨by omega, ?_⟩
    simp [st_u_law_draw_8, and_assoc, pget, pset, mits, Plc_iff]
    refine ⟨⟨by omega, by omega⟩, ?_⟩
    simp [st_u_law_draw_9, and_assoc]
    exact hr _ (srcD (a.fdiv many) b c rest) ⟨_, _, _, _, rfl, hc⟩ (Int.fmod_nonneg_of_pos _ (by omega)) (Int.fmod_lt_of_pos _ (by omega)) _ _
  · simp [st_u_law_draw_10, srcD, h0, and_assoc]
    exact h
theorem w13 (h1 : 1 ≤ many) (h2 : many < 2 ^ 30) (hc : 0 ≤ c)
    (hr : ∀ told src', Src src' → 0 ≤ told → told < many → ∀ x4, E.rt (.t (.int told)) [some src', some (.t (.int many)), x2, x3, x4]) : st_u_law_draw_11 { nx := fun ds' => st_u_law_draw_12 { nx := fun ds' => st_u_law_draw_13 E ds', rt := E.rt, bk := E.bk, ct := E.ct } ds', rt := E.rt, bk := E.bk, ct := E.ct } [some (srcD a b c rest), some (.t (.int many)), x2, x3, x4] := by
  simp [st_u_law_draw_11, srcD, and_assoc, pget, pset, mits, Plc_iff]
  refine ⟨.inr ⟨by decide, by decide⟩, ?_⟩
  simp [st_u_law_draw_12, and_assoc, pget, pset, mits, Plc_iff]
  refine ⟨.inr ⟨by decide, by decide⟩, ⟨by decide, by decide⟩, ?_⟩
  generalize (b * 48271 + 12345).fmod 2147483647 = m
  generalize (m * 69621 + m.fdiv 65536 + 17).fmod 2147483629 = mm
  simp [st_u_law_draw_13, and_assoc]
  refine ⟨⟨by decide, by decide⟩, by omega, ?_⟩
  have k1 : 0 ≤ (mm.fdiv 16).fmod many := Int.fmod_nonneg_of_pos _ (by omega)
  have k2 : (mm.fdiv 16).fmod many < many := Int.fmod_lt_of_pos _ (by omega)
  generalize (mm.fdiv 16).fmod many = told at k1 k2
  exact hr told (srcD a m c rest) ⟨_, _, _, _, rfl, hc⟩ k1 k2 _
end
theorem d_draw (l : List D) (Q : D → List D → Prop) (h : g_draw l Q) : fnD N_u_law_draw M_u_law_draw bd_u_law_draw l Q := by
  obtain ⟨src, many, rfl, ⟨a, b, c, rest, rfl, hc⟩, h1, h2, h⟩ := h
  show bd_u_law_draw _ [some (srcD a b c rest), some (.t (.int many)), none, none, none]
  simp only [bd_u_law_draw, x_sSeq]
  have fin : ∀ told src' x2 x3 x4, Src src' → 0 ≤ told → told < many → finD M_u_law_draw Q (.t (.int told)) [some src', some (.t (.int many)), x2, x3, x4] := fun told src' x2 x3 x4 hs k1 k2 => by
    have := h told src' hs k1 k2
    simp [slotsAt, hs.nf]
    exact this
  refine w6 hc fun a b c x2 hc => w10 h1 h2 hc ?_ fun told src' hs k1 k2 x2 x4 => fin _ _ _ _ _ hs k1 k2
  exact w13 h1 h2 hc fun told src' hs k1 k2 x4 => fin _ _ _ _ _ hs k1 k2
/-- a list that the law picks from -/
def g_pick : FD := fun l Q => ∃ src, ∃ xs : List T, l = [src, .frz (xs.map D.t)] ∧ Src src ∧ 1 ≤ xs.length ∧ xs.length < 1000 ∧ ∀ x src', Src src' → x ∈ xs → Q (.t x) [src']
theorem d_pick (l : List D) (Q : D → List D → Prop) (h : g_pick l Q) : fnD N_u_law_pick M_u_law_pick (bd_u_law_pick g_draw) l Q := by
  obtain ⟨src, xs, rfl, hb, h1, h2, h⟩ := h
  simp [fnD, bd_u_law_pick, startD, and_assoc, getM, getA, clrM, updM, okA]
  refine ⟨src, _, rfl, hb, by omega, by omega, fun told bag' hb' k1 k2 => ?_⟩
  simp [updM, and_assoc]
  have hlt : told.toNat < xs.length := by omega
  have ea : L2.atI (xs.map D.t) told = some (.t xs[told.toNat]) := at_of (i := told.toNat) (by rw [List.getElem?_map, List.getElem?_eq_getElem hlt]; rfl) (by omega)
  simp [ea]
  exact ⟨hb'.nf, h _ _ hb' (List.getElem_mem _)⟩
end K80

set_option Elab.async false
set_option linter.all false
set_option maxHeartbeats 400000
/-! Mt1: pairings of least weight, plain theory: weak duality. -/
namespace Mt
abbrev W2 := Nat → Nat → Option Int
abbrev F1 := Nat → Option Nat
def up {α : Type} (f : Nat → α) (i : Nat) (v : α) : Nat → α := fun j => if j = i then v else f j
theorem up_same {α : Type} {f : Nat → α} {i : Nat} {v : α} : up f i v i = v := by simp [up]
theorem up_ne {α : Type} {f : Nat → α} {i j : Nat} {v : α} (h : j ≠ i) : up f i v j = f j := by simp [up, h]
structure Mat (n m : Nat) (w : W2) (mt hd : F1) : Prop where
  fwd : ∀ t r, mt t = some r → t < n ∧ r < m ∧ hd r = some t ∧ ∃ c, w t r = some c
  bwd : ∀ t r, hd r = some t → mt t = some r
structure Cert (n m : Nat) (w : W2) (mt hd : F1) (a b : Nat → Int) (lam : Int) : Prop where
  an : ∀ t, t < n → a t ≤ 0
  bn : ∀ r, r < m → b r ≤ lam
  af : ∀ t, t < n → mt t = none → a t = 0
  bf : ∀ r, r < m → hd r = none → b r = lam
  le : ∀ t r c, t < n → r < m → w t r = some c → a t + b r ≤ c
  eq : ∀ t r c, mt t = some r → w t r = some c → c = a t + b r
structure Pg (n m : Nat) (w : W2) (ps : List (Nat × Nat)) : Prop where
  t : (ps.map (·.1)).Nodup
  r : (ps.map (·.2)).Nodup
  ok : ∀ p ∈ ps, p.1 < n ∧ p.2 < m ∧ ∃ c, w p.1 p.2 = some c
def wt (w : W2) (ps : List (Nat × Nat)) : Int := (ps.map fun p => (w p.1 p.2).getD 0).sum
def prs (n : Nat) (mt : F1) : List (Nat × Nat) := (List.range n).filterMap fun t => (mt t).map fun r => (t, r)
theorem isum_append {xs ys : List Int} : (xs ++ ys).sum = xs.sum + ys.sum := by
  induction xs with
  | nil => simp
  | cons x xs ih => simp only [List.cons_append, List.sum_cons, ih]; omega
theorem isum_perm {xs ys : List Int} (h : xs.Perm ys) : xs.sum = ys.sum := by
  induction h with
  | nil => rfl
  | cons x _ ih => simp only [List.sum_cons, ih]
  | swap x y l => simp only [List.sum_cons]; omega
  | trans _ _ h1 h2 => rw [h1, h2]
theorem isum_map_add {α : Type} (f g : α → Int) (xs : List α) : (xs.map fun x => f x + g x).sum = (xs.map f).sum + (xs.map g).sum := by
  induction xs with
  | nil => rfl
  | cons x xs ih => simp only [List.map_cons, List.sum_cons, ih]; omega
theorem isum_le {α : Type} {f g : α → Int} {xs : List α} (h : ∀ x ∈ xs, f x ≤ g x) : (xs.map f).sum ≤ (xs.map g).sum := by
  induction xs with
  | nil => exact Int.le_refl _
  | cons x xs ih =>
    have := h x List.mem_cons_self
    have := ih fun y hy => h y (List.mem_cons_of_mem _ hy)
    simp only [List.map_cons, List.sum_cons]; omega
theorem isum_const {α : Type} (c : Int) (xs : List α) : (xs.map fun _ => c).sum = xs.length * c := by
  induction xs with
  | nil => simp
  | cons x xs ih => simp only [List.map_cons, List.sum_cons, ih, List.length_cons]; rw [Int.natCast_add, Int.add_mul]; simp; omega
theorem isum_nonneg {xs : List Int} (h : ∀ x ∈ xs, 0 ≤ x) : 0 ≤ xs.sum := by
  induction xs with
  | nil => exact Int.le_refl _
  | cons x xs ih =>
    have := h x List.mem_cons_self
    have := ih fun y hy => h y (List.mem_cons_of_mem _ hy)
    simp only [List.sum_cons]; omega
theorem nodup_filter {α : Type} {xs : List α} (p : α → Bool) (h : xs.Nodup) : (xs.filter p).Nodup := h.sublist List.filter_sublist
/-- a lot of numbers below n, the rest -/
theorem sum_split {n : Nat} {l : List Nat} (hl : l.Nodup) (hn : ∀ x ∈ l, x < n) (f : Nat → Int) : ((List.range n).map f).sum = (l.map f).sum + (((List.range n).filter fun x => !decide (x ∈ l)).map f).sum := by
  have p := List.filter_append_perm (fun x => decide (x ∈ l)) (List.range n)
  have q : ((List.range n).filter fun x => decide (x ∈ l)).Perm l := (List.perm_ext_iff_of_nodup (nodup_filter _ List.nodup_range) hl).mpr fun x => by
    simp only [List.mem_filter, List.mem_range, decide_eq_true_eq]
    exact ⟨fun h => h.2, fun h => ⟨hn x h, h⟩⟩
  rw [← isum_perm (p.map f), List.map_append, isum_append, isum_perm (q.map f)]
theorem sum_ge {n : Nat} {l : List Nat} (hl : l.Nodup) (hn : ∀ x ∈ l, x < n) {f : Nat → Int} (hf : ∀ x, x < n → f x ≤ 0) : ((List.range n).map f).sum ≤ (l.map f).sum := by
  rw [sum_split hl hn f]
  have := isum_le (f := f) (g := fun _ => 0) (xs := (List.range n).filter fun x => !decide (x ∈ l)) fun x hx => hf x (List.mem_range.mp (List.mem_filter.mp hx).1)
  rw [isum_const] at this
  omega
theorem sum_le {n : Nat} {l : List Nat} (hl : l.Nodup) (hn : ∀ x ∈ l, x < n) {f : Nat → Int} (hf : ∀ x, x < n → 0 ≤ f x) : (l.map f).sum ≤ ((List.range n).map f).sum := by
  rw [sum_split hl hn f]
  have := isum_le (f := fun _ => 0) (g := f) (xs := (List.range n).filter fun x => !decide (x ∈ l)) fun x hx => hf x (List.mem_range.mp (List.mem_filter.mp hx).1)
  rw [isum_const] at this
  omega
theorem sum_eq {n : Nat} {l : List Nat} (hl : l.Nodup) (hn : ∀ x ∈ l, x < n) {f : Nat → Int} (hf : ∀ x, x < n → x ∉ l → f x = 0) : (l.map f).sum = ((List.range n).map f).sum := by
  rw [sum_split hl hn f]
  have e : ((List.range n).filter fun x => !decide (x ∈ l)).map f = ((List.range n).filter fun x => !decide (x ∈ l)).map fun _ => 0 := List.map_congr_left fun x hx => by
    have := List.mem_filter.mp hx
    exact hf x (List.mem_range.mp this.1) (by simpa using this.2)
  rw [e, isum_const]
  omega
section
variable {n m : Nat} {w : W2} {mt hd : F1} {a b : Nat → Int} {lam : Int} {ps : List (Nat × Nat)}
def dualV (n m : Nat) (a b : Nat → Int) (lam : Int) : Int := ((List.range n).map a).sum + ((List.range m).map fun r => b r - lam).sum
theorem isum_abl (ps : List (Nat × Nat)) : (ps.map fun p => a p.1 + b p.2).sum = ((ps.map (·.1)).map a).sum + ((ps.map (·.2)).map fun r => b r - lam).sum + ps.length * lam := by
  induction ps with
  | nil => simp
  | cons p ps ih =>
    simp only [List.map_cons, List.sum_cons, ih, List.length_cons, Int.natCast_add, Int.add_mul]
    simp only [Int.natCast_one, Int.one_mul]
    omega
theorem dual_le (C : Cert n m w mt hd a b lam) (P : Pg n m w ps) : dualV n m a b lam + ps.length * lam ≤ wt w ps := by
  have h1 : (ps.map fun p => a p.1 + b p.2).sum ≤ wt w ps := isum_le fun p hp => by
    obtain ⟨h1, h2, c, hc⟩ := P.ok p hp
    rw [hc]
    exact C.le _ _ _ h1 h2 hc
  rw [isum_abl (lam := lam)] at h1
  have h2 := sum_ge P.t (fun x hx => by obtain ⟨p, hp, rfl⟩ := List.mem_map.mp hx; exact (P.ok p hp).1) C.an
  have h3 := sum_ge P.r (fun x hx => by obtain ⟨p, hp, rfl⟩ := List.mem_map.mp hx; exact (P.ok p hp).2.1) (f := fun r => b r - lam) (fun r hr => by have := C.bn r hr; omega)
  unfold dualV
  omega
theorem mem_prs {p : Nat × Nat} : p ∈ prs n mt ↔ p.1 < n ∧ mt p.1 = some p.2 := by
  unfold prs
  rw [List.mem_filterMap]
  constructor
  · rintro ⟨t, ht, h⟩
    cases e : mt t with
    | none => rw [e] at h; cases h
    | some r => rw [e] at h; cases h; exact ⟨List.mem_range.mp ht, e⟩
  · rintro ⟨h1, h2⟩
    exact ⟨p.1, List.mem_range.mpr h1, by rw [h2]; rfl⟩
theorem prs_fst : (prs n mt).map (·.1) = (List.range n).filter fun t => (mt t).isSome := by
  unfold prs
  induction List.range n with
  | nil => rfl
  | cons t l ih =>
    cases e : mt t with
    | none => simp [e, ih]
    | some r => simp [e, ih]
theorem prs_nodup1 : ((prs n mt).map (·.1)).Nodup := by rw [prs_fst]; exact nodup_filter _ List.nodup_range
theorem nodup_map_of {α β : Type} {f : α → β} : ∀ {xs : List α}, xs.Nodup → (∀ x ∈ xs, ∀ y ∈ xs, f x = f y → x = y) → (xs.map f).Nodup
  | [], _, _ => List.nodup_nil
  | x :: xs, h, hi => by
    obtain ⟨h1, h2⟩ := List.nodup_cons.mp h
    refine List.nodup_cons.mpr ⟨fun hm => ?_, nodup_map_of h2 fun y hy z hz => hi y (List.mem_cons_of_mem _ hy) z (List.mem_cons_of_mem _ hz)⟩
    obtain ⟨y, hy, e⟩ := List.mem_map.mp hm
    have := hi x List.mem_cons_self y (List.mem_cons_of_mem _ hy) e.symm
    exact h1 (this ▸ hy)
theorem nodup_of_map {α β : Type} {f : α → β} {xs : List α} (h : (xs.map f).Nodup) : xs.Nodup := by
  induction xs with
  | nil => exact List.nodup_nil
  | cons x xs ih =>
    obtain ⟨h1, h2⟩ := List.nodup_cons.mp h
    exact List.nodup_cons.mpr ⟨fun hm => h1 (List.mem_map.mpr ⟨x, hm, rfl⟩), ih h2⟩
theorem prs_pg (M : Mat n m w mt hd) : Pg n m w (prs n mt) := by
  refine ⟨prs_nodup1, nodup_map_of (nodup_of_map prs_nodup1) fun x hx y hy e => ?_, fun p hp => ?_⟩
  · have h1 := M.fwd _ _ (mem_prs.mp hx).2
    have h2 := M.fwd _ _ (mem_prs.mp hy).2
    have e1 : x.1 = y.1 := by
      have := h1.2.2.1
      rw [e, h2.2.2.1] at this
      exact (Option.some.inj this).symm
    exact Prod.ext e1 e
  · have h1 := M.fwd _ _ (mem_prs.mp hp).2
    exact ⟨h1.1, h1.2.1, h1.2.2.2⟩
theorem dual_eq (M : Mat n m w mt hd) (C : Cert n m w mt hd a b lam) : wt w (prs n mt) = dualV n m a b lam + (prs n mt).length * lam := by
  have P := prs_pg M
  have h1 : wt w (prs n mt) = ((prs n mt).map fun p => a p.1 + b p.2).sum := by
    unfold wt
    congr 1
    refine List.map_congr_left fun p hp => ?_
    have h := (mem_prs.mp hp).2
    obtain ⟨_, _, _, c, hc⟩ := M.fwd _ _ h
    rw [hc, ← C.eq _ _ _ h hc]; rfl
  rw [h1, isum_abl (lam := lam)]
  have h2 := sum_eq P.t (fun x hx => by obtain ⟨p, hp, rfl⟩ := List.mem_map.mp hx; exact (P.ok p hp).1) (f := a) fun x hx hn => C.af x hx (by
    cases e : mt x with
    | none => rfl
    | some r => exact absurd (List.mem_map.mpr ⟨(x, r), mem_prs.mpr ⟨hx, e⟩, rfl⟩) hn)
  have h3 := sum_eq P.r (fun x hx => by obtain ⟨p, hp, rfl⟩ := List.mem_map.mp hx; exact (P.ok p hp).2.1) (f := fun r => b r - lam) fun x hx hn => by
    have := C.bf x hx (by
      cases e : hd x with
      | none => rfl
      | some t =>
        have e2 := M.bwd _ _ e
        exact absurd (List.mem_map.mpr ⟨(t, x), mem_prs.mpr ⟨(M.fwd _ _ e2).1, e2⟩, rfl⟩) hn)
    show b x - lam = 0
    omega
  unfold dualV
  omega
/-- least weight of its size -/
theorem least_of (M : Mat n m w mt hd) (C : Cert n m w mt hd a b lam) (P : Pg n m w ps) (hl : ps.length = (prs n mt).length) : wt w (prs n mt) ≤ wt w ps := by
  have h1 := dual_le C P
  rw [dual_eq M C, ← hl]
  exact h1
end
end Mt

set_option Elab.async false
set_option linter.all false
set_option maxHeartbeats 400000
/-! Mt2: the least costs at which things look. -/
namespace Mt
inductive Ch (mt tk : F1) : Nat → List Nat → Prop
  | base {t : Nat} : mt t = none → Ch mt tk t [t]
  | step {h t : Nat} {l : List Nat} : mt h ≠ none → tk h = some t → Ch mt tk t l → Ch mt tk h (h :: l)
section
variable {n m : Nat} {w : W2} {mt hd tk : F1} {a b : Nat → Int} {lam : Int}
theorem Ch.det {u : Nat} {l l' : List Nat} (h : Ch mt tk u l) : Ch mt tk u l' → l = l' := by
  induction h generalizing l' with
  | base h =>
    intro h2
    cases h2 with
    | base _ => rfl
    | step h3 _ _ => exact absurd h h3
  | step h1 h2 _ ih =>
    intro h3
    cases h3 with
    | base h4 => exact absurd h4 h1
    | step _ h5 h6 =>
      rw [h2] at h5
      cases h5
      rw [ih h6]
theorem Ch.head {u : Nat} {l : List Nat} (h : Ch mt tk u l) : u ∈ l := by cases h <;> simp
theorem Ch.sub {u : Nat} {l : List Nat} (h : Ch mt tk u l) : ∀ v ∈ l, ∃ l', Ch mt tk v l' ∧ l'.length ≤ l.length := by
  induction h with
  | base h =>
    intro v hv
    rw [List.mem_singleton.mp hv]
    exact ⟨_, .base h, Nat.le_refl _⟩
  | step h1 h2 h3 ih =>
    intro v hv
    rcases List.mem_cons.mp hv with rfl | hv
    · exact ⟨_, .step h1 h2 h3, Nat.le_refl _⟩
    · obtain ⟨l', h4, h5⟩ := ih v hv
      exact ⟨l', h4, by simp only [List.length_cons]; omega⟩
theorem Ch.nodup {u : Nat} {l : List Nat} (h : Ch mt tk u l) : l.Nodup := by
  induction h with
  | base h => simp
  | step h1 h2 h3 ih =>
    rename_i h t l
    refine List.nodup_cons.mpr ⟨fun hm => ?_, ih⟩
    obtain ⟨l', h4, h5⟩ := h3.sub _ hm
    have := h4.det (.step h1 h2 h3)
    rw [this] at h5
    simp only [List.length_cons] at h5
    omega
theorem Ch.up_ne {u h t : Nat} {l : List Nat} (c : Ch mt tk u l) (hn : h ∉ l) : Ch mt (up tk h (some t)) u l := by
  induction c with
  | base h => exact .base h
  | step h1 h2 h3 ih =>
    refine .step h1 ?_ (ih fun z => hn (List.mem_cons_of_mem _ z))
    rw [Mt.up_ne fun z => hn (by rw [z]; exact List.mem_cons_self)]
    exact h2
theorem Ch.up {u h t : Nat} {l lt : List Nat} (c : Ch mt tk u l) (ht : Ch mt tk t lt) (hn : h ∉ lt) (hm : mt h ≠ none) : ∃ l', Ch mt (up tk h (some t)) u l' := by
  induction c with
  | base h => exact ⟨_, .base h⟩
  | step h1 h2 h3 ih =>
    rename_i h0 t0 l0
    by_cases e : h0 = h
    · subst e
      exact ⟨_, .step hm up_same (ht.up_ne hn)⟩
    · obtain ⟨l', q⟩ := ih
      exact ⟨_, .step h1 (by rw [Mt.up_ne e]; exact h2) q⟩
/-- while looking: round i, at thing j, report q -/
structure Lk (n m : Nat) (w : W2) (mt hd : F1) (d : Nat → Option Int) (tk : F1) (rho : Nat → Nat) (i j q : Nat) (mv : Bool) : Prop where
  dn : ∀ t, d t ≠ none → t < n
  fr : ∀ t, t < n → mt t = none → d t = some 0 ∧ tk t = none ∧ rho t = 0
  nf : ∀ h y, mt h ≠ none → d h = some y → ∃ r t x c c', mt h = some r ∧ tk h = some t ∧ t ≠ h ∧ d t = some x ∧ w t r = some c ∧ w h r = some c' ∧ x + c - c' ≤ y ∧ rho h ≤ rho t + 1
  ch : ∀ u, d u ≠ none → ∃ l, Ch mt tk u l
  rh : ∀ h, rho h ≤ i + 1
  ed : ∀ t x r h c c', d t = some x → w t r = some c → hd r = some h → h ≠ t → w h r = some c' → (rho t < i ∨ (rho t ≤ i ∧ t < j) ∨ (t = j ∧ r < q)) → ∃ y, d h = some y ∧ y ≤ x + c - c'
  m0 : mv = false → ∀ t, rho t ≤ i
  m1 : mv = true → ∃ h, d h ≠ none ∧ rho h = i + 1
variable {d : Nat → Option Int} {rho : Nat → Nat} {i j q : Nat} {mv : Bool}
theorem Lk.chain (L : Lk n m w mt hd d tk rho i j q mv) (M : Mat n m w mt hd) (C : Cert n m w mt hd a b lam) {u : Nat} {l : List Nat} (c : Ch mt tk u l) : ∀ x, d u = some x → ∀ v ∈ l, ∃ z, d v = some z ∧ z + a v ≤ x + a u := by
  induction c with
  | base h =>
    intro x hx v hv
    rw [List.mem_singleton.mp hv]
    exact ⟨x, hx, Int.le_refl _⟩
  | step h1 h2 h3 ih =>
    rename_i h0 t0 l0
    intro x hx v hv
    rcases List.mem_cons.mp hv with rfl | hv
    · exact ⟨x, hx, Int.le_refl _⟩
    · obtain ⟨r, t, y, c, c', e1, e2, e3, e4, e5, e6, e7, _⟩ := L.nf _ _ h1 hx
      rw [h2] at e2
      cases e2
      obtain ⟨z, hz, hz2⟩ := ih y e4 v hv
      have k1 := M.fwd _ _ e1
      have k2 := C.eq _ _ _ e1 e6
      have k3 := C.le t0 r c (L.dn _ (by rw [e4]; simp)) k1.2.1 e5
      exact ⟨z, hz, by omega⟩
theorem Lk.len (L : Lk n m w mt hd d tk rho i j q mv) {u : Nat} {l : List Nat} (c : Ch mt tk u l) : d u ≠ none → rho u + 1 ≤ l.length ∧ ∀ v ∈ l, v < n := by
  induction c with
  | base h =>
    intro hx
    have := L.dn _ hx
    refine ⟨by rw [(L.fr _ this h).2.2]; simp, fun v hv => by rw [List.mem_singleton.mp hv]; exact this⟩
  | step h1 h2 h3 ih =>
    rename_i h0 t0 l0
    intro hx
    cases e : d h0 with
    | none => exact absurd e hx
    | some x =>
      obtain ⟨r, t, y, c, c', e1, e2, e3, e4, e5, e6, e7, e8⟩ := L.nf _ _ h1 e
      rw [h2] at e2
      cases e2
      obtain ⟨k1, k2⟩ := ih (by rw [e4]; simp)
      refine ⟨by simp only [List.length_cons]; omega, fun v hv => ?_⟩
      rcases List.mem_cons.mp hv with rfl | hv
      · exact L.dn _ hx
      · exact k2 v hv
theorem Lk.start (M : Mat n m w mt hd) (hd0 : ∀ t, d t = if t < n ∧ mt t = none then some 0 else none) (ht0 : ∀ t, tk t = none) : Lk n m w mt hd d tk (fun _ => 0) 0 0 0 false := by
  refine ⟨fun t h => ?_, fun t h1 h2 => ⟨by rw [hd0, if_pos ⟨h1, h2⟩], ht0 t, rfl⟩, fun h y h1 h2 => ?_, fun u h => ?_, fun _ => Nat.zero_le _, fun t x r h c c' h1 h2 h3 h4 h5 h6 => ?_, fun _ _ => Nat.le_refl _, fun h => nomatch h⟩
  · rw [hd0] at h
    split at h
    · rename_i z; exact z.1
    · exact absurd rfl h
  · rw [hd0, if_neg fun z => h1 z.2] at h2
    cases h2
  · rw [hd0] at h
    split at h
    · rename_i z; exact ⟨_, .base z.2⟩
    · exact absurd rfl h
  · omega
/-- nothing to be done at this report -/
theorem Lk.skip (L : Lk n m w mt hd d tk rho i j q mv) (h : ∀ x c h c', d j = some x → w j q = some c → hd q = some h → h ≠ j → w h q = some c' → ∃ y, d h = some y ∧ y ≤ x + c - c') : Lk n m w mt hd d tk rho i j (q + 1) mv := by
  refine { L with ed := fun t x r h0 c c' h1 h2 h3 h4 h5 h6 => ?_ }
  rcases h6 with h6 | h6 | ⟨h6, h7⟩
  · exact L.ed t x r h0 c c' h1 h2 h3 h4 h5 (.inl h6)
  · exact L.ed t x r h0 c c' h1 h2 h3 h4 h5 (.inr (.inl h6))
  · subst h6
    by_cases e : r = q
    · subst e
      exact h x c h0 c' h1 h2 h3 h4 h5
    · exact L.ed t x r h0 c c' h1 h2 h3 h4 h5 (.inr (.inr ⟨rfl, by omega⟩))
theorem Lk.move (L : Lk n m w mt hd d tk rho i j q mv) (M : Mat n m w mt hd) (C : Cert n m w mt hd a b lam) {x c c' : Int} {h : Nat} (h1 : d j = some x) (h2 : w j q = some c) (h3 : hd q = some h) (h4 : h ≠ j) (h5 : w h q = some c') (h6 : ∀ y, d h = some y → x + c - c' < y) :
    Lk n m w mt hd (up d h (some (x + c - c'))) (up tk h (some j)) (up rho h (i + 1)) i j (q + 1) true := by
  have hm : mt h = some q := M.bwd _ _ h3
  obtain ⟨hn, hq, _, _⟩ := M.fwd _ _ hm
  have hmn : mt h ≠ none := by rw [hm]; simp
  have hj : rho j ≥ i := by
    refine Nat.le_of_not_lt fun hlt => ?_
    obtain ⟨y, e1, e2⟩ := L.ed j x q h c c' h1 h2 h3 h4 h5 (.inl hlt)
    have := h6 y e1
    omega
  obtain ⟨lj, cj⟩ := L.ch j (by rw [h1]; simp)
  have hnot : h ∉ lj := fun hm2 => by
    obtain ⟨z, e1, e2⟩ := L.chain M C cj x h1 h hm2
    have k1 := h6 z e1
    have k2 := C.eq _ _ _ hm h5
    have k3 := C.le j q c (L.dn _ (by rw [h1]; simp)) hq h2
    omega
  have hjh : j ≠ h := fun e => h4 e.symm
  refine ⟨fun t ht => ?_, fun t ht hf => ?_, fun u y hu hy => ?_, fun u hu => ?_, fun u => ?_, fun t x' r h0 c1 c2 k1 k2 k3 k4 k5 k6 => ?_, (fun e => nomatch e), fun _ => ⟨h, by rw [up_same]; simp, up_same⟩⟩
  · by_cases e : t = h
    · rw [e]; exact hn
    · rw [up_ne e] at ht; exact L.dn t ht
  · have e : t ≠ h := fun e => hmn (by rw [← e]; exact hf)
    rw [up_ne e, up_ne e, up_ne e]
    exact L.fr t ht hf
  · by_cases e : u = h
    · subst e
      rw [up_same] at hy
      cases hy
      exact ⟨q, j, x, c, c', hm, up_same, hjh, by rw [up_ne hjh]; exact h1, h2, h5, Int.le_refl _, by rw [up_same, up_ne hjh]; omega⟩
    · rw [up_ne e] at hy
      obtain ⟨r, t, x', c1, c2, e1, e2, e3, e4, e5, e6, e7, e8⟩ := L.nf u y hu hy
      by_cases et : t = h
      · subst et
        have := h6 x' e4
        have hr := L.rh u
        exact ⟨r, t, _, c1, c2, e1, by rw [up_ne e]; exact e2, e3, up_same, e5, e6, by omega, by rw [up_same, up_ne e]; omega⟩
      · exact ⟨r, t, x', c1, c2, e1, by rw [up_ne e]; exact e2, e3, by rw [up_ne et]; exact e4, e5, e6, e7, by rw [up_ne e, up_ne et]; exact e8⟩
  · by_cases e : u = h
    · subst e
      exact ⟨_, .step hmn up_same (cj.up_ne hnot)⟩
    · rw [up_ne e] at hu
      obtain ⟨l, cl⟩ := L.ch u hu
      exact cl.up cj hnot hmn
  · by_cases e : u = h
    · rw [e, up_same]; exact Nat.le_refl _
    · rw [up_ne e]; exact L.rh u
  · have et : t ≠ h := fun e => by
      subst e
      rw [up_same] at k6
      omega
    rw [up_ne et] at k1
    rw [up_ne et] at k6
    by_cases e0 : h0 = h
    · subst e0
      have hr : r = q := by
        have := M.bwd _ _ k3
        rw [hm] at this
        exact (Option.some.inj this).symm
      subst hr
      rw [h5] at k5
      cases k5
      refine ⟨_, up_same, ?_⟩
      by_cases etj : t = j
      · subst etj
        rw [h1] at k1; cases k1
        rw [h2] at k2; cases k2
        exact Int.le_refl _
      · have k6' : rho t < i ∨ (rho t ≤ i ∧ t < j) ∨ (t = j ∧ r < r) := by omega
        obtain ⟨y, e1, e2⟩ := L.ed t x' r h0 c1 c' k1 k2 k3 k4 h5 k6'
        have := h6 y e1
        omega
    · rw [up_ne e0]
      by_cases etj : t = j ∧ r = q
      · obtain ⟨rfl, rfl⟩ := etj
        rw [h3] at k3
        cases k3
        exact absurd rfl e0
      · exact L.ed t x' r h0 c1 c2 k1 k2 k3 k4 k5 (by omega)
/-- the thing is done -/
theorem Lk.nextT (L : Lk n m w mt hd d tk rho i j q mv) (M : Mat n m w mt hd) (hq : q = m ∨ d j = none) : Lk n m w mt hd d tk rho i (j + 1) 0 mv := by
  refine { L with ed := fun t x r h c c' h1 h2 h3 h4 h5 h6 => ?_ }
  have hr : r < m := (M.fwd _ _ (M.bwd _ _ h3)).2.1
  rcases hq with rfl | hq
  · exact L.ed t x r h c c' h1 h2 h3 h4 h5 (by omega)
  · have : t ≠ j := fun e => by rw [e, hq] at h1; cases h1
    exact L.ed t x r h c c' h1 h2 h3 h4 h5 (by omega)
theorem Lk.nextR (L : Lk n m w mt hd d tk rho i n 0 true) : Lk n m w mt hd d tk rho (i + 1) 0 0 false ∧ ∃ h, d h ≠ none ∧ rho h = i + 1 := by
  refine ⟨{ L with rh := fun h => by have := L.rh h; omega, ed := fun t x r h c c' h1 h2 h3 h4 h5 h6 => ?_, m0 := fun _ t => L.rh t, m1 := (fun e => nomatch e) }, L.m1 rfl⟩
  have := L.dn t (by rw [h1]; simp)
  exact L.ed t x r h c c' h1 h2 h3 h4 h5 (by omega)
/-- what looking ends with -/
structure Fx (n m : Nat) (w : W2) (mt hd : F1) (d : Nat → Option Int) (tk : F1) : Prop where
  dn : ∀ t, d t ≠ none → t < n
  fr : ∀ t, t < n → mt t = none → d t = some 0 ∧ tk t = none
  nf : ∀ h y, mt h ≠ none → d h = some y → ∃ r t x c c', mt h = some r ∧ tk h = some t ∧ t ≠ h ∧ d t = some x ∧ w t r = some c ∧ w h r = some c' ∧ y = x + c - c'
  ch : ∀ u, d u ≠ none → ∃ l, Ch mt tk u l ∧ ∀ v ∈ l, v < n
  ed : ∀ t x r h c c', d t = some x → w t r = some c → hd r = some h → h ≠ t → w h r = some c' → ∃ y, d h = some y ∧ y ≤ x + c - c'
theorem Lk.fix (L : Lk n m w mt hd d tk rho i n 0 false) (M : Mat n m w mt hd) : Fx n m w mt hd d tk := by
  have ed : ∀ t x r h c c', d t = some x → w t r = some c → hd r = some h → h ≠ t → w h r = some c' → ∃ y, d h = some y ∧ y ≤ x + c - c' := fun t x r h c c' h1 h2 h3 h4 h5 => L.ed t x r h c c' h1 h2 h3 h4 h5 (.inr (.inl ⟨L.m0 rfl t, L.dn t (by rw [h1]; simp)⟩))
  refine ⟨L.dn, fun t h1 h2 => ⟨(L.fr t h1 h2).1, (L.fr t h1 h2).2.1⟩, fun h y h1 h2 => ?_, fun u hu => ?_, ed⟩
  · obtain ⟨r, t, x, c, c', e1, e2, e3, e4, e5, e6, e7, _⟩ := L.nf h y h1 h2
    refine ⟨r, t, x, c, c', e1, e2, e3, e4, e5, e6, ?_⟩
    obtain ⟨y', k1, k2⟩ := ed t x r h c c' e4 e5 (M.fwd _ _ e1).2.2.1 (Ne.symm e3) e6
    rw [h2] at k1
    cases k1
    omega
  · obtain ⟨l, c⟩ := L.ch u hu
    exact ⟨l, c, (L.len c hu).2⟩
/-- n rounds, each with a move, can't be -/
theorem Lk.end_ (L : Lk n m w mt hd d tk rho n 0 0 false) (hm : ∃ h, d h ≠ none ∧ rho h = n) : False := by
  obtain ⟨h, h1, h2⟩ := hm
  obtain ⟨l, c⟩ := L.ch h h1
  obtain ⟨k1, k2⟩ := L.len c h1
  have := c.nodup.length_le_of_subset (l₂ := List.range n) fun v hv => List.mem_range.mpr (k2 v hv)
  rw [List.length_range] at this
  omega
end
end Mt

set_option Elab.async false
set_option linter.all false
set_option maxHeartbeats 400000
/-! Mt3: the pairing made one greater; none is greater. -/
namespace Mt
section
variable {n m : Nat} {w : W2} {mt hd tk : F1} {a b : Nat → Int} {lam : Int} {d : Nat → Option Int}
/-- the prices of things go down by so much -/
def dl (d : Nat → Option Int) (a : Nat → Int) (D' : Int) (t : Nat) : Int := match d t with | some x => min (x + a t) D' | none => D'
def a' (d : Nat → Option Int) (a : Nat → Int) (D' : Int) (t : Nat) : Int := a t - dl d a D' t
def b' (d : Nat → Option Int) (a b : Nat → Int) (hd : F1) (lam D' : Int) (r : Nat) : Int := match hd r with | some h => b r + dl d a D' h | none => lam + D'
/-- d + a is not below nought -/
theorem Fx.nn (F : Fx n m w mt hd d tk) (M : Mat n m w mt hd) (C : Cert n m w mt hd a b lam) {u : Nat} {l : List Nat} (c : Ch mt tk u l) : ∀ x, d u = some x → 0 ≤ x + a u := by
  induction c with
  | base h =>
    rename_i t
    intro x hx
    have hn := F.dn t (by rw [hx]; simp)
    rw [(F.fr t hn h).1] at hx
    cases hx
    rw [C.af t hn h]; exact Int.le_refl _
  | step h1 h2 h3 ih =>
    rename_i h0 t0 l0
    intro x hx
    obtain ⟨r, t, y, c, c', e1, e2, e3, e4, e5, e6, e7⟩ := F.nf _ _ h1 hx
    rw [h2] at e2
    cases e2
    have k0 := ih y e4
    have k1 := M.fwd _ _ e1
    have k2 := C.eq _ _ _ e1 e6
    have k3 := C.le t0 r c (F.dn _ (by rw [e4]; simp)) k1.2.1 e5
    omega
/-- what is grown, so far: report r is to be given -/
structure Half (n m : Nat) (w : W2) (mt hd : F1) (r : Nat) : Prop where
  rm : r < m
  fwd : ∀ t r', mt t = some r' → r' ≠ r ∧ t < n ∧ r' < m ∧ hd r' = some t ∧ ∃ c, w t r' = some c
  bwd : ∀ r' t, r' ≠ r → hd r' = some t → mt t = some r'
theorem Mat.half (M : Mat n m w mt hd) {r : Nat} (hr : r < m) (h : hd r = none) : Half n m w mt hd r := by
  refine ⟨hr, fun t r' e => ?_, fun r' t _ e => M.bwd _ _ e⟩
  obtain ⟨h1, h2, h3, h4⟩ := M.fwd _ _ e
  exact ⟨fun z => by (rw [z, h] at h3; cases h3), h1, h2, h3, h4⟩
theorem Half.last {r t : Nat} {c : Int} (P : Half n m w mt hd r) (ht : t < n) (hm : mt t = none) (hw : w t r = some c) : Mat n m w (up mt t (some r)) (up hd r (some t)) := by
  refine ⟨fun u r' e => ?_, fun u r' e => ?_⟩
  · by_cases hu : u = t
    · subst hu
      rw [up_same] at e
      cases e
      exact ⟨ht, P.rm, up_same, c, hw⟩
    · rw [up_ne hu] at e
      obtain ⟨h1, h2, h3, h4, h5⟩ := P.fwd _ _ e
      exact ⟨h2, h3, by rw [up_ne h1]; exact h4, h5⟩
  · by_cases hr : r' = r
    · rw [hr, up_same] at e
      cases e
      rw [hr]; exact up_same
    · rw [up_ne hr] at e
      have := P.bwd _ _ hr e
      have hu : u ≠ t := fun z => by rw [z, hm] at this; cases this
      rw [up_ne hu]; exact this
theorem Half.next {r t g : Nat} {c : Int} (P : Half n m w mt hd r) (ht : t < n) (hm : mt t = some g) (hw : w t r = some c) : Half n m w (up mt t (some r)) (up hd r (some t)) g := by
  obtain ⟨g1, g2, g3, g4, g5⟩ := P.fwd _ _ hm
  refine ⟨g3, fun u r' e => ?_, fun r' u hr e => ?_⟩
  · by_cases hu : u = t
    · subst hu
      rw [up_same] at e
      cases e
      exact ⟨fun z => g1 z.symm, ht, P.rm, up_same, c, hw⟩
    · rw [up_ne hu] at e
      obtain ⟨h1, h2, h3, h4, h5⟩ := P.fwd _ _ e
      refine ⟨fun z => ?_, h2, h3, by rw [up_ne h1]; exact h4, h5⟩
      rw [z, g4] at h4
      exact hu (Option.some.inj h4).symm
  · by_cases hr2 : r' = r
    · subst hr2
      rw [up_same] at e
      cases e
      exact up_same
    · rw [up_ne hr2] at e
      have := P.bwd _ _ hr2 e
      have hu : u ≠ t := fun z => by
        rw [z, hm] at this
        exact hr (Option.some.inj this).symm
      rw [up_ne hu]; exact this
/-- the best end -/
structure Best (m : Nat) (w : W2) (hd : F1) (d : Nat → Option Int) (D : Int) (t0 r0 : Nat) : Prop where
  at_ : ∃ x c, d t0 = some x ∧ w t0 r0 = some c ∧ D = x + c
  rm : r0 < m
  free : hd r0 = none
  le : ∀ t r x c, d t = some x → w t r = some c → r < m → hd r = none → D ≤ x + c
/-- all that holds while a pairing grows: mt0, hd0 as it was, mt, hd as it is, (t, r) to be given next, l the way -/
structure Gr (n m : Nat) (w : W2) (mt0 hd0 tk : F1) (p q : Nat → Int) (mt hd : F1) (t r : Nat) (l : List Nat) : Prop where
  half : Half n m w mt hd r
  way : Ch mt0 tk t l
  old : ∀ u ∈ l, u < n ∧ mt u = mt0 u
  tight : ∀ u r' c, mt u = some r' → w u r' = some c → c = p u + q r'
  here : ∃ c, w t r = some c ∧ c = p t + q r
  keepT : ∀ u, (mt u = none ↔ mt0 u = none)
  keepR : ∀ r', hd0 r' ≠ none → hd r' ≠ none
  next : ∀ h t' r', h ∈ l → tk h = some t' → mt0 h = some r' → ∃ c, w t' r' = some c ∧ c = p t' + q r'
/-- grown by one -/
structure Grown1 (n m : Nat) (w : W2) (mt0 hd0 : F1) (p q : Nat → Int) (mt hd : F1) : Prop where
  mat : Mat n m w mt hd
  tight : ∀ u r' c, mt u = some r' → w u r' = some c → c = p u + q r'
  keepT : ∃ t, t < n ∧ mt0 t = none ∧ ∀ u, (mt u = none ↔ mt0 u = none ∧ u ≠ t)
  keepR : ∀ r', hd0 r' ≠ none → hd r' ≠ none
section
variable {mt0 hd0 : F1} {p q : Nat → Int} {t r : Nat} {l : List Nat}
theorem tight_up {c : Int} (h : ∀ u r' c, mt u = some r' → w u r' = some c → c = p u + q r') (hw : w t r = some c) (he : c = p t + q r) : ∀ u r' c, up mt t (some r) u = some r' → w u r' = some c → c = p u + q r' := fun u r' c' e1 e2 => by
  by_cases hu : u = t
  · subst hu
    rw [up_same] at e1
    cases e1
    rw [hw] at e2
    cases e2
    exact he
  · rw [up_ne hu] at e1
    exact h u r' c' e1 e2
theorem Gr.last (G : Gr n m w mt0 hd0 tk p q mt hd t r l) (h : mt t = none) : Grown1 n m w mt0 hd0 p q (up mt t (some r)) (up hd r (some t)) := by
  obtain ⟨c, hw, he⟩ := G.here
  have ht := (G.old t G.way.head).1
  refine ⟨G.half.last ht h hw, tight_up G.tight hw he, ⟨t, ht, (G.keepT t).mp h, fun u => ?_⟩, fun r' hr => ?_⟩
  · by_cases hu : u = t
    · subst hu
      rw [up_same]; simp
    · rw [up_ne hu, G.keepT u]; simp [hu]
  · by_cases e : r' = r
    · rw [e, up_same]; simp
    · rw [up_ne e]; exact G.keepR r' hr
theorem Gr.next_ {g : Nat} (G : Gr n m w mt0 hd0 tk p q mt hd t r l) (h : mt t = some g) : ∃ t' l', tk t = some t' ∧ l'.length < l.length ∧ Gr n m w mt0 hd0 tk p q (up mt t (some r)) (up hd r (some t)) t' g l' := by
  obtain ⟨c, hw, he⟩ := G.here
  have ht := G.old t G.way.head
  have h0 : mt0 t = some g := by rw [← ht.2]; exact h
  have nd := G.way.nodup
  have ho := G.old
  have hn := G.next
  cases hway : G.way with
  | base h1 => rw [h0] at h1; cases h1
  | step h1 h2 h3 =>
    rename_i t' l'
    have nt : t ∉ l' := (List.nodup_cons.mp nd).1
    refine ⟨t', l', h2, by simp, ⟨G.half.next ht.1 h hw, h3, fun u hu => ⟨(ho u (List.mem_cons_of_mem _ hu)).1, ?_⟩, tight_up G.tight hw he, hn t t' g List.mem_cons_self h2 h0, fun u => ?_, fun r' hr => ?_, fun h' t2 r2 hm => hn h' t2 r2 (List.mem_cons_of_mem _ hm)⟩⟩
    · rw [up_ne fun z => nt (by rw [← z]; exact hu)]
      exact (ho u (List.mem_cons_of_mem _ hu)).2
    · by_cases hu : u = t
      · subst hu
        rw [up_same, h0]; simp
      · rw [up_ne hu]; exact G.keepT u
    · by_cases e : r' = r
      · rw [e, up_same]; simp
      · rw [up_ne e]; exact G.keepR r' hr
end
section
variable {D : Int} {t0 r0 : Nat}
theorem Best.dn (B : Best m w hd d D t0 r0) (F : Fx n m w mt hd d tk) (M : Mat n m w mt hd) (C : Cert n m w mt hd a b lam) : 0 ≤ D - lam := by
  obtain ⟨x, c, h1, h2, h3⟩ := B.at_
  obtain ⟨l, ch, _⟩ := F.ch t0 (by rw [h1]; simp)
  have k1 := F.nn M C ch x h1
  have k2 := C.le t0 r0 c (F.dn _ (by rw [h1]; simp)) B.rm h2
  rw [C.bf r0 B.rm B.free] at k2
  omega
theorem Fx.dl_nn (F : Fx n m w mt hd d tk) (M : Mat n m w mt hd) (C : Cert n m w mt hd a b lam) {D' : Int} (h : 0 ≤ D') (t : Nat) : 0 ≤ dl d a D' t ∧ dl d a D' t ≤ D' := by
  unfold dl
  cases e : d t with
  | none => exact ⟨h, Int.le_refl _⟩
  | some x =>
    obtain ⟨l, ch, _⟩ := F.ch t (by rw [e]; simp)
    have := F.nn M C ch x e
    show 0 ≤ min (x + a t) D' ∧ min (x + a t) D' ≤ D'
    omega
theorem dl_some {D' x : Int} {t : Nat} (h : d t = some x) : dl d a D' t = min (x + a t) D' := by unfold dl; rw [h]
theorem b'_some {D' : Int} {r h : Nat} (e : hd r = some h) : b' d a b hd lam D' r = b r + dl d a D' h := by unfold b'; rw [e]
theorem b'_none {D' : Int} {r : Nat} (e : hd r = none) : b' d a b hd lam D' r = lam + D' := by unfold b'; rw [e]
/-- along the way to the end all prices are below the end's -/
theorem Fx.way (F : Fx n m w mt hd d tk) (M : Mat n m w mt hd) (C : Cert n m w mt hd a b lam) {u : Nat} {l : List Nat} (c : Ch mt tk u l) : ∀ x, d u = some x → ∀ v ∈ l, ∃ z, d v = some z ∧ z + a v ≤ x + a u := by
  induction c with
  | base h =>
    intro x hx v hv
    rw [List.mem_singleton.mp hv]
    exact ⟨x, hx, Int.le_refl _⟩
  | step h1 h2 h3 ih =>
    rename_i h0 t0 l0
    intro x hx v hv
    rcases List.mem_cons.mp hv with rfl | hv
    · exact ⟨x, hx, Int.le_refl _⟩
    · obtain ⟨r, t, y, c, c', e1, e2, e3, e4, e5, e6, e7⟩ := F.nf _ _ h1 hx
      rw [h2] at e2
      cases e2
      obtain ⟨z, hz, hz2⟩ := ih y e4 v hv
      have k1 := M.fwd _ _ e1
      have k2 := C.eq _ _ _ e1 e6
      have k3 := C.le t0 r c (F.dn _ (by rw [e4]; simp)) k1.2.1 e5
      exact ⟨z, hz, by omega⟩
theorem Best.begin_ (B : Best m w hd d D t0 r0) (F : Fx n m w mt hd d tk) (M : Mat n m w mt hd) (C : Cert n m w mt hd a b lam) : ∃ l, Gr n m w mt hd tk (a' d a (D - lam)) (b' d a b hd lam (D - lam)) mt hd t0 r0 l := by
  obtain ⟨x, c, h1, h2, h3⟩ := B.at_
  obtain ⟨l, ch, hl⟩ := F.ch t0 (by rw [h1]; simp)
  have hD := B.dn F M C
  have k2 := C.le t0 r0 c (F.dn _ (by rw [h1]; simp)) B.rm h2
  rw [C.bf r0 B.rm B.free] at k2
  refine ⟨l, M.half B.rm B.free, ch, fun u hu => ⟨hl u hu, rfl⟩, fun u r' c' e1 e2 => ?_, ⟨c, h2, ?_⟩, fun _ => Iff.rfl, fun _ h => h, fun h t' r' hm e1 e2 => ?_⟩
  · rw [b'_some (M.fwd _ _ e1).2.2.1]
    have := C.eq _ _ _ e1 e2
    unfold a'
    omega
  · rw [b'_none B.free]
    unfold a'
    rw [dl_some h1]
    omega
  · obtain ⟨z, hz, hz2⟩ := F.way M C ch x h1 h hm
    obtain ⟨r, t, y, c1, c2, e3, e4, e5, e6, e7, e8, e9⟩ := F.nf h z (by rw [e2]; simp) hz
    rw [e2] at e3; cases e3
    rw [e1] at e4; cases e4
    refine ⟨c1, e7, ?_⟩
    have k3 := C.eq _ _ _ e2 e8
    have k4 := C.le t' r' c1 (F.dn _ (by rw [e6]; simp)) (M.fwd _ _ e2).2.1 e7
    rw [b'_some (M.fwd _ _ e2).2.2.1]
    unfold a'
    rw [dl_some e6, dl_some hz]
    omega
theorem Grown1.cert {mt' hd' : F1} (G : Grown1 n m w mt hd (a' d a (D - lam)) (b' d a b hd lam (D - lam)) mt' hd') (B : Best m w hd d D t0 r0) (F : Fx n m w mt hd d tk) (M : Mat n m w mt hd) (C : Cert n m w mt hd a b lam) :
    Cert n m w mt' hd' (a' d a (D - lam)) (b' d a b hd lam (D - lam)) D := by
  have hD := B.dn F M C
  have dn := fun t => F.dl_nn M C hD t
  refine ⟨fun t ht => ?_, fun r hr => ?_, fun t ht e => ?_, fun r hr e => ?_, fun t r c ht hr e => ?_, fun t r c e1 e2 => G.tight t r c e1 e2⟩
  · have := C.an t ht
    have := dn t
    unfold a'
    omega
  · cases e : hd r with
    | none => rw [b'_none e]; omega
    | some h =>
      rw [b'_some e]
      have := C.bn r hr
      have := dn h
      omega
  · obtain ⟨t1, _, _, h⟩ := G.keepT
    have e0 := ((h t).mp e).1
    unfold a'
    rw [dl_some (F.fr t ht e0).1, C.af t ht e0]
    omega
  · have e0 : hd r = none := by
      cases q : hd r with
      | none => rfl
      | some h => exact absurd e (G.keepR r (by rw [q]; simp))
    rw [b'_none e0]; omega
  · have k := C.le t r c ht hr e
    unfold a'
    cases q : hd r with
    | none =>
      rw [b'_none q]
      rw [C.bf r hr q] at k
      cases qd : d t with
      | none =>
        have : dl d a (D - lam) t = D - lam := by unfold dl; rw [qd]
        omega
      | some x =>
        have := B.le t r x c qd e hr q
        rw [dl_some qd]
        omega
    | some h =>
      rw [b'_some q]
      have hdh := dn h
      have hm := M.bwd _ _ q
      obtain ⟨_, _, _, c', hc'⟩ := M.fwd _ _ hm
      have k2 := C.eq _ _ _ hm hc'
      by_cases eht : h = t
      · subst eht
        omega
      · cases qd : d t with
        | none =>
          have : dl d a (D - lam) t = D - lam := by unfold dl; rw [qd]
          omega
        | some x =>
          obtain ⟨y, e1, e2⟩ := F.ed t x r h c c' qd e q eht hc'
          rw [dl_some qd, dl_some e1]
          omega
theorem Grown1.size {p q : Nat → Int} {mt' hd' : F1} (G : Grown1 n m w mt hd p q mt' hd') : (prs n mt').length = (prs n mt).length + 1 := by
  obtain ⟨t1, ht, h0, h⟩ := G.keepT
  have e : ∀ f : F1, (prs n f).length = ((List.range n).filter fun t => (f t).isSome).length := fun f => by rw [← prs_fst, List.length_map]
  rw [e, e]
  have nd1 : (t1 :: (List.range n).filter fun t => (mt t).isSome).Nodup := List.nodup_cons.mpr ⟨fun z => (by
    have := (List.mem_filter.mp z).2
    rw [h0] at this; cases this), nodup_filter _ List.nodup_range⟩
  have p := (List.perm_ext_iff_of_nodup (nodup_filter (fun t => (mt' t).isSome) (List.nodup_range (n := n))) nd1).mpr fun x => by
    have hx := h x
    simp only [List.mem_filter, List.mem_range, List.mem_cons]
    constructor
    · rintro ⟨k1, k2⟩
      by_cases ex : x = t1
      · exact .inl ex
      · refine .inr ⟨k1, ?_⟩
        cases em : mt x with
        | some r => rfl
        | none =>
          have := hx.mpr ⟨em, ex⟩
          rw [this] at k2; cases k2
    · rintro (k | ⟨k1, k2⟩)
      · subst k
        refine ⟨ht, ?_⟩
        cases em : mt' x with
        | some r => rfl
        | none => exact absurd rfl (hx.mp em).2
      · refine ⟨k1, ?_⟩
        cases em : mt' x with
        | some r => rfl
        | none =>
          have := (hx.mp em).1
          rw [this] at k2; cases k2
  have := p.length_eq
  simpa using this
/-- no end: none is greater -/
theorem Fx.most (F : Fx n m w mt hd d tk) (M : Mat n m w mt hd) (hno : ∀ t r x c, d t = some x → w t r = some c → r < m → hd r = none → False) {ps : List (Nat × Nat)} (P : Pg n m w ps) : ps.length ≤ (prs n mt).length := by
  -- the same by weights of nought
  let w0 : W2 := fun t r => (w t r).map fun _ => 0
  let al : Nat → Int := fun t => if d t = none then -1 else 0
  let be : Nat → Int := fun r => match hd r with | none => 1 | some h => if d h = none then 1 else 0
  have w0s : ∀ {t r : Nat} {c : Int}, w0 t r = some c → c = 0 ∧ ∃ c', w t r = some c' := fun {t r c} h => by
    cases e : w t r with
    | none => simp only [w0, e] at h; cases h
    | some c' => simp only [w0, e] at h; cases h; exact ⟨rfl, c', rfl⟩
  have M0 : Mat n m w0 mt hd := ⟨fun t r h => by
    obtain ⟨h1, h2, h3, c, h4⟩ := M.fwd t r h
    exact ⟨h1, h2, h3, 0, by simp only [w0, h4]; rfl⟩, M.bwd⟩
  have P0 : Pg n m w0 ps := ⟨P.t, P.r, fun p hp => by
    obtain ⟨h1, h2, c, h4⟩ := P.ok p hp
    exact ⟨h1, h2, 0, by simp only [w0, h4]; rfl⟩⟩
  have C0 : Cert n m w0 mt hd al be 1 := by
    refine ⟨fun t _ => ?_, fun r _ => ?_, fun t ht e => ?_, fun r _ e => ?_, fun t r c ht hr e => ?_, fun t r c e1 e2 => ?_⟩
    · simp only [al]; split <;> omega
    · simp only [be]
      split
      · exact Int.le_refl _
      · split <;> omega
    · simp only [al]
      rw [(F.fr t ht e).1]; simp
    · simp only [be, e]
    · obtain ⟨rfl, c', hc⟩ := w0s e
      simp only [al, be]
      cases qd : d t with
      | none =>
        simp only [if_true]
        split
        · omega
        · split <;> omega
      | some x =>
        simp only [reduceCtorEq, if_false]
        cases q : hd r with
        | none => exact (hno t r x c' qd hc hr q).elim
        | some h =>
          simp only []
          have hm := M.bwd _ _ q
          obtain ⟨_, _, _, c2, hc2⟩ := M.fwd _ _ hm
          by_cases eht : h = t
          · subst eht
            rw [qd]; simp
          · obtain ⟨y, e1, _⟩ := F.ed t x r h c' c2 qd hc q eht hc2
            rw [e1]; simp
    · obtain ⟨rfl, c', hc⟩ := w0s e2
      simp only [al, be]
      rw [(M.fwd _ _ e1).2.2.1]
      simp only []
      split <;> omega
  have z : ∀ qs : List (Nat × Nat), wt w0 qs = 0 := fun qs => by
    unfold wt
    have : (qs.map fun p => (w0 p.1 p.2).getD 0) = qs.map fun _ => (0 : Int) := List.map_congr_left fun p _ => by
      cases e : w p.1 p.2 with
      | none => simp only [w0, e]; rfl
      | some c => simp only [w0, e]; rfl
    rw [this, isum_const]; omega
  have h1 := dual_le C0 P0
  have h2 := dual_eq M0 C0
  rw [z] at h1 h2
  omega
end
end
/-- in the beginning -/
theorem Mat.nil {n m : Nat} {w : W2} : Mat n m w (fun _ => none) (fun _ => none) := ⟨(fun _ _ h => nomatch h), (fun _ _ h => nomatch h)⟩
theorem Cert.nil {n m : Nat} {w : W2} {lam : Int} (h : ∀ t r c, t < n → r < m → w t r = some c → lam ≤ c) : Cert n m w (fun _ => none) (fun _ => none) (fun _ => 0) (fun _ => lam) lam :=
  ⟨fun _ _ => Int.le_refl _, fun _ _ => Int.le_refl _, fun _ _ _ => rfl, fun _ _ _ => rfl, fun t r c h1 h2 h3 => by have := h t r c h1 h2 h3; omega, fun _ _ _ h => nomatch h⟩
theorem prs_nil {n : Nat} : prs n (fun _ => none) = [] := by
  unfold prs
  induction List.range n with
  | nil => rfl
  | cons x xs ih => simp [ih]
end Mt

set_option Elab.async false
set_option linter.all false
set_option maxHeartbeats 400000
/-! Mt4: told reports weigh less than all; least costs. -/
namespace Mt
def Cov (told : List Nat) (ps : List (Nat × Nat)) : Prop := ∀ r ∈ told, r ∈ ps.map (·.2)
def toldOf (told : List Nat) (ps : List (Nat × Nat)) : List (Nat × Nat) := ps.filter fun p => decide (p.2 ∈ told)
def w1 (w : W2) (told : List Nat) (much : Int) : W2 := fun t r => (w t r).map fun c => c - if r ∈ told then much else 0
section
variable {n m : Nat} {w : W2} {mt hd : F1} {a b : Nat → Int} {lam much : Int} {told : List Nat} {ps qs : List (Nat × Nat)}
theorem Pg.sub (P : Pg n m w ps) (h : ∀ p ∈ qs, p ∈ ps) (h1 : (qs.map (·.1)).Nodup) (h2 : (qs.map (·.2)).Nodup) : Pg n m w qs := ⟨h1, h2, fun p hp => P.ok p (h p hp)⟩
theorem Pg.perm (P : Pg n m w ps) (h : ps.Perm qs) : Pg n m w qs := P.sub (fun p hp => h.symm.subset hp) ((h.map _).nodup_iff.mp P.t) ((h.map _).nodup_iff.mp P.r)
theorem Pg.slist (P : Pg n m w ps) (h : qs.Sublist ps) : Pg n m w qs := P.sub (fun p hp => h.subset hp) (P.t.sublist (h.map _)) (P.r.sublist (h.map _))
theorem wt_perm (h : ps.Perm qs) : wt w ps = wt w qs := isum_perm (h.map _)
theorem wt_app : wt w (ps ++ qs) = wt w ps + wt w qs := by unfold wt; rw [List.map_append, isum_append]
theorem wt_nn (hw : ∀ t r c, w t r = some c → 0 ≤ c) : 0 ≤ wt w ps := isum_nonneg fun x hx => by
  obtain ⟨p, _, rfl⟩ := List.mem_map.mp hx
  cases e : w p.1 p.2 with
  | none => exact Int.le_refl _
  | some c => exact hw _ _ _ e
theorem w1_some {t r : Nat} {c : Int} : w1 w told much t r = some c ↔ ∃ c', w t r = some c' ∧ c = c' - if r ∈ told then much else 0 := by
  unfold w1
  cases e : w t r with
  | none => simp
  | some c' => simp [eq_comm]
theorem pg_w1 : Pg n m (w1 w told much) ps ↔ Pg n m w ps := by
  constructor
  · exact fun P => ⟨P.t, P.r, fun p hp => by
      obtain ⟨h1, h2, c, h⟩ := P.ok p hp
      obtain ⟨c', h', _⟩ := w1_some.mp h
      exact ⟨h1, h2, c', h'⟩⟩
  · exact fun P => ⟨P.t, P.r, fun p hp => by
      obtain ⟨h1, h2, c, h⟩ := P.ok p hp
      exact ⟨h1, h2, _, w1_some.mpr ⟨c, h, rfl⟩⟩⟩
theorem wt_w1 (P : Pg n m w ps) : wt (w1 w told much) ps = wt w ps - (toldOf told ps).length * much := by
  have key : ∀ l : List (Nat × Nat), (∀ p ∈ l, ∃ c, w p.1 p.2 = some c) → wt (w1 w told much) l = wt w l - (toldOf told l).length * much := fun l => by
    induction l with
    | nil => intro _; simp [wt, toldOf]
    | cons p l ih =>
      intro h
      obtain ⟨c, hc⟩ := h p List.mem_cons_self
      have ih := ih fun q hq => h q (List.mem_cons_of_mem _ hq)
      have e : w1 w told much p.1 p.2 = some (c - if p.2 ∈ told then much else 0) := w1_some.mpr ⟨c, hc, rfl⟩
      have e1 : wt (w1 w told much) (p :: l) = (c - if p.2 ∈ told then much else 0) + wt (w1 w told much) l := by
        unfold wt; rw [List.map_cons, List.sum_cons, e]; rfl
      have e2 : wt w (p :: l) = c + wt w l := by unfold wt; rw [List.map_cons, List.sum_cons, hc]; rfl
      rw [e1, e2, ih]
      by_cases ht : p.2 ∈ told
      · have : toldOf told (p :: l) = p :: toldOf told l := by unfold toldOf; rw [List.filter_cons_of_pos (by simpa using ht)]
        rw [this, if_pos ht, List.length_cons, Int.natCast_add, Int.add_mul]
        simp only [Int.natCast_one, Int.one_mul]
        omega
      · have : toldOf told (p :: l) = toldOf told l := by unfold toldOf; rw [List.filter_cons_of_neg (by simpa using ht)]
        rw [this, if_neg ht]
        omega
  exact key ps fun p hp => (P.ok p hp).2.2
theorem map_toldOf : (toldOf told ps).map (·.2) = (ps.map (·.2)).filter fun r => decide (r ∈ told) := by
  unfold toldOf
  induction ps with
  | nil => rfl
  | cons p ps ih =>
    by_cases h : p.2 ∈ told
    · simp [h, ih]
    · simp [h, ih]
theorem told_len (P : Pg n m w ps) (ht : told.Nodup) (hc : Cov told ps) : (toldOf told ps).length = told.length := by
  have e : (toldOf told ps).length = ((toldOf told ps).map (·.2)).length := by rw [List.length_map]
  rw [e, map_toldOf]
  refine ((List.perm_ext_iff_of_nodup (nodup_filter _ P.r) ht).mpr fun x => ?_).length_eq
  rw [List.mem_filter]
  exact ⟨fun h => by simpa using h.2, fun h => ⟨hc x h, by simpa using h⟩⟩
theorem told_less (P : Pg n m w ps) (ht : told.Nodup) (hc : ¬ Cov told ps) : (toldOf told ps).length + 1 ≤ told.length := by
  have : ∃ r ∈ told, r ∉ ps.map (·.2) := Classical.byContradiction fun h => hc fun r hr => Classical.byContradiction fun h2 => h ⟨r, hr, h2⟩
  obtain ⟨r, hr, hn⟩ := this
  have e : (toldOf told ps).length = ((toldOf told ps).map (·.2)).length := by rw [List.length_map]
  rw [e, map_toldOf]
  have nd : (r :: (ps.map (·.2)).filter fun r => decide (r ∈ told)).Nodup := List.nodup_cons.mpr ⟨fun z => hn (List.mem_filter.mp z).1, nodup_filter _ P.r⟩
  have := nd.length_le_of_subset (l₂ := told) fun x hx => by
    rcases List.mem_cons.mp hx with rfl | hx
    · exact hr
    · simpa using (List.mem_filter.mp hx).2
  simpa using this
/-- fewer pairs, told ones kept -/
theorem shrink (hw : ∀ t r c, w t r = some c → 0 ≤ c) (P : Pg n m w ps) (ht : told.Nodup) (hc : Cov told ps) {k : Nat} (h1 : told.length ≤ k) (h2 : k ≤ ps.length) : ∃ qs, Pg n m w qs ∧ qs.length = k ∧ Cov told qs ∧ wt w qs ≤ wt w ps := by
  have pp := List.filter_append_perm (fun p : Nat × Nat => decide (p.2 ∈ told)) ps
  have tl := told_len P ht hc
  have pl := pp.length_eq
  rw [List.length_append] at pl
  unfold toldOf at tl
  have sl : ((ps.filter fun p => decide (p.2 ∈ told)) ++ (ps.filter fun p => !decide (p.2 ∈ told)).take (k - told.length)).Sublist ((ps.filter fun p => decide (p.2 ∈ told)) ++ (ps.filter fun p => !decide (p.2 ∈ told))) := List.Sublist.append (List.Sublist.refl _) (List.take_sublist _ _)
  refine ⟨_, (P.perm pp.symm).slist sl, ?_, fun r hr => ?_, ?_⟩
  · rw [List.length_append, List.length_take]
    omega
  · obtain ⟨p, hp, e⟩ := List.mem_map.mp (hc r hr)
    exact List.mem_map.mpr ⟨p, List.mem_append_left _ (List.mem_filter.mpr ⟨hp, by rw [e]; simpa using hr⟩), e⟩
  · rw [← wt_perm pp, wt_app, wt_app]
    have : wt w (ps.filter fun p => !decide (p.2 ∈ told)) = wt w ((ps.filter fun p => !decide (p.2 ∈ told)).take (k - told.length)) + wt w ((ps.filter fun p => !decide (p.2 ∈ told)).drop (k - told.length)) := by
      rw [← wt_app, List.take_append_drop]
    have nn := wt_nn (ps := (ps.filter fun p => !decide (p.2 ∈ told)).drop (k - told.length)) hw
    omega
theorem prs_cov (M : Mat n m w mt hd) (h : ∀ r ∈ told, hd r ≠ none) : Cov told (prs n mt) := fun r hr => by
  cases e : hd r with
  | none => exact absurd e (h r hr)
  | some t =>
    have e2 := M.bwd _ _ e
    exact List.mem_map.mpr ⟨(t, r), mem_prs.mpr ⟨(M.fwd _ _ e2).1, e2⟩, rfl⟩
theorem mat_w1 (M : Mat n m (w1 w told much) mt hd) : Mat n m w mt hd := ⟨fun t r h => by
  obtain ⟨h1, h2, h3, c, h4⟩ := M.fwd t r h
  obtain ⟨c', h5, _⟩ := w1_some.mp h4
  exact ⟨h1, h2, h3, c', h5⟩, M.bwd⟩
theorem least_spec (hw : ∀ t r c, w t r = some c → 0 ≤ c) (M : Mat n m (w1 w told much) mt hd) (C : Cert n m (w1 w told much) mt hd a b lam) (ht : told.Nodup) (hh : ∀ r ∈ told, hd r ≠ none) (hk : told.length ≤ (prs n mt).length) (P : Pg n m w ps) (hc : Cov told ps) (hl : (prs n mt).length ≤ ps.length) : wt w (prs n mt) ≤ wt w ps := by
  obtain ⟨qs, Q, ql, qc, qw⟩ := shrink hw P ht hc hk hl
  have h := least_of M C (pg_w1.mpr Q) ql
  have pM := prs_pg (mat_w1 M)
  rw [wt_w1 pM, wt_w1 Q, told_len pM ht (prs_cov (mat_w1 M) hh), told_len Q ht qc] at h
  omega
/-- not all told ones are held by the least one of their number: no pairing has them all -/
theorem told_none (hw : ∀ t r c, w t r = some c → 0 ≤ c) (hmu : ∀ ps, Pg n m w ps → wt w ps < much) (M : Mat n m (w1 w told much) mt hd) (C : Cert n m (w1 w told much) mt hd a b lam) (ht : told.Nodup) (hk : (prs n mt).length = told.length) {r : Nat} (hr : r ∈ told) (hf : hd r = none) (P : Pg n m w ps) (hc : Cov told ps) : False := by
  have hle : told.length ≤ ps.length := by
    have := ht.length_le_of_subset (l₂ := ps.map (·.2)) fun x hx => hc x hx
    rwa [List.length_map] at this
  obtain ⟨qs, Q, ql, qc, qw⟩ := shrink hw P ht hc (Nat.le_refl _) hle
  have h := least_of M C (pg_w1.mpr Q) (by rw [ql, hk])
  have pM := prs_pg (mat_w1 M)
  have nc : ¬ Cov told (prs n mt) := fun z => by
    obtain ⟨p, hp, e⟩ := List.mem_map.mp (z r hr)
    have := (M.fwd _ _ (mem_prs.mp hp).2).2.2.1
    rw [e, hf] at this
    cases this
  have tl := told_less pM ht nc
  rw [wt_w1 pM, wt_w1 Q, told_len Q ht qc] at h
  have k1 := hmu qs Q
  have k2 := wt_nn (ps := prs n mt) hw
  have k3 : ((toldOf told (prs n mt)).length : Int) * much + much ≤ told.length * much := by
    have : (((toldOf told (prs n mt)).length : Int) + 1) * much ≤ told.length * much := Int.mul_le_mul_of_nonneg_right (by omega) (by have := hmu [] ⟨by simp, by simp, fun p hp => by cases hp⟩; simp [wt] at this; omega)
    rw [Int.add_mul] at this
    omega
  omega
end
/-! tables -/
abbrev Grid := List (List Int)
def wG (g : Grid) : W2 := fun t r => match (g[t]?).bind (·[r]?) with | some c => if c = -1 then none else some c | none => none
def Rect (g : Grid) (m : Nat) : Prop := ∀ row ∈ g, row.length = m ∧ ∀ c ∈ row, -1 ≤ c
def muchOf (g : Grid) : Int := 1 + (g.map fun row => (row.map fun c => max c 0).sum).sum
section
variable {g : Grid} {m : Nat} {ps : List (Nat × Nat)}
theorem wG_some {t r : Nat} {c : Int} : wG g t r = some c ↔ (∃ row, g[t]? = some row ∧ row[r]? = some c) ∧ c ≠ -1 := by
  unfold wG
  cases e : g[t]? with
  | none => simp
  | some row =>
    cases e2 : row[r]? with
    | none => simp [e2]
    | some c' =>
      simp only [Option.bind_some, e2]
      constructor
      · intro h
        split at h
        · cases h
        · cases h
          rename_i hh
          exact ⟨⟨row, rfl, e2⟩, hh⟩
      · rintro ⟨⟨row', h1, h2⟩, h3⟩
        cases h1
        rw [e2] at h2
        cases h2
        rw [if_neg h3]
theorem wG_nn (R : Rect g m) : ∀ t r c, wG g t r = some c → 0 ≤ c := fun t r c h => by
  obtain ⟨⟨row, h1, h2⟩, h3⟩ := wG_some.mp h
  have := (R row (List.mem_of_getElem? h1)).2 c (List.mem_of_getElem? h2)
  omega
theorem sum_mem {xs : List Int} (h : ∀ x ∈ xs, 0 ≤ x) {x : Int} (hx : x ∈ xs) : x ≤ xs.sum := by
  induction xs with
  | nil => cases hx
  | cons y ys ih =>
    have h1 := h y List.mem_cons_self
    have h2 := isum_nonneg fun z hz => h z (List.mem_cons_of_mem _ hz)
    rw [List.sum_cons]
    rcases List.mem_cons.mp hx with rfl | hx
    · omega
    · have := ih (fun z hz => h z (List.mem_cons_of_mem _ hz)) hx
      omega
theorem much_ok (P : Pg g.length m (wG g) ps) : wt (wG g) ps < muchOf g := by
  let f : Nat → Int := fun t => match g[t]? with | some row => (row.map fun c => max c 0).sum | none => 0
  have fnn : ∀ t, t < g.length → 0 ≤ f t := fun t ht => by
    simp only [f]
    rw [List.getElem?_eq_getElem ht]
    exact isum_nonneg fun x hx => by
      obtain ⟨c, _, rfl⟩ := List.mem_map.mp hx
      exact Int.le_max_right _ _
  have h1 : wt (wG g) ps ≤ (ps.map fun p => f p.1).sum := isum_le fun p hp => by
    obtain ⟨_, _, c, hc⟩ := P.ok p hp
    obtain ⟨⟨row, e1, e2⟩, _⟩ := wG_some.mp hc
    rw [hc]
    simp only [f, e1]
    show c ≤ _
    have := sum_mem (xs := row.map fun c => max c 0) (fun x hx => by
      obtain ⟨c, _, rfl⟩ := List.mem_map.mp hx
      exact Int.le_max_right _ _) (x := max c 0) (List.mem_map.mpr ⟨c, List.mem_of_getElem? e2, rfl⟩)
    have := Int.le_max_left c 0
    omega
  have h2 := sum_le P.t (fun x hx => by obtain ⟨p, hp, rfl⟩ := List.mem_map.mp hx; exact (P.ok p hp).1) fnn
  rw [List.map_map] at h2
  have h3 : ((List.range g.length).map f).sum = (g.map fun row => (row.map fun c => max c 0).sum).sum := by
    congr 1
    refine List.ext_getElem (by simp) fun i h1 h2 => ?_
    have hi : i < g.length := by simpa using h1
    simp only [List.getElem_map, List.getElem_range, f, List.getElem?_eq_getElem hi]
  have e : (ps.map fun p => f p.1) = ps.map (f ∘ fun p => p.1) := rfl
  rw [e] at h1
  unfold muchOf
  omega
/-- the least cost of a pairing with count pairs and all told reports, -1 if there is none -/
def Keeps (cnt : Int) (told : List Nat) (ps : List (Nat × Nat)) : Prop := cnt ≤ ps.length ∧ Cov told ps
def LeastIs (g : Grid) (m : Nat) (cnt : Int) (told : List Nat) (v : Int) : Prop :=
  (v = -1 ∧ ∀ ps, Pg g.length m (wG g) ps → Keeps cnt told ps → False) ∨ ∃ ps, Pg g.length m (wG g) ps ∧ Keeps cnt told ps ∧ wt (wG g) ps = v ∧ ∀ qs, Pg g.length m (wG g) qs → Keeps cnt told qs → v ≤ wt (wG g) qs
end
end Mt

set_option Elab.async false
set_option linter.all false
set_option maxHeartbeats 400000
/-! Mt5: pairings kept in lists; tables changed. -/
namespace Mt
def at1 {α : Type} (L : List (Option α)) (i : Nat) : Option α := (L[i]?).join
section
variable {α : Type} {L : List (Option α)} {i j : Nat} {v : Option α}
theorem at1_lt (h : i < L.length) : L[i]? = some (at1 L i) := by
  unfold at1
  rw [List.getElem?_eq_getElem h]; rfl
theorem at1_ge (h : L.length ≤ i) : at1 L i = none := by
  unfold at1
  rw [List.getElem?_eq_none h]; rfl
theorem lt_of_at1 (h : at1 L i ≠ none) : i < L.length := Nat.lt_of_not_le fun z => h (at1_ge z)
theorem at1_set (h : i < L.length) : at1 (L.set i v) = up (at1 L) i v := by
  funext j
  by_cases e : j = i
  · subst e
    rw [up_same]
    unfold at1
    rw [List.getElem?_set_self h]; rfl
  · rw [up_ne e]
    unfold at1
    rw [List.getElem?_set_ne fun z => e z.symm]
theorem at1_rep {n : Nat} : at1 (List.replicate n (none : Option α)) = fun _ => none := by
  funext i
  unfold at1
  rw [List.getElem?_replicate]
  split <;> rfl
end
abbrev WL := List (List (Option Int))
def wOf (W : WL) : W2 := fun t r => (W[t]?).bind fun row => at1 row r
def RectW (W : WL) (m : Nat) : Prop := ∀ row ∈ W, row.length = m
def wrow (told : List Nat) (much : Int) (row : List Int) : List (Option Int) := row.zipIdx.map fun p => if p.1 = -1 then none else some (p.1 - if p.2 ∈ told then much else 0)
def wtab (g : Grid) (told : List Nat) (much : Int) : WL := g.map (wrow told much)
theorem wrow_len {told : List Nat} {much : Int} {row : List Int} : (wrow told much row).length = row.length := by unfold wrow; simp
theorem wtab_len {g : Grid} {told : List Nat} {much : Int} : (wtab g told much).length = g.length := by unfold wtab; simp
theorem wtab_rect {g : Grid} {told : List Nat} {much : Int} {m : Nat} (h : ∀ row ∈ g, row.length = m) : RectW (wtab g told much) m := fun row hr => by
  obtain ⟨r, hm, rfl⟩ := List.mem_map.mp hr
  rw [wrow_len]; exact h r hm
theorem wOf_wtab {g : Grid} {told : List Nat} {much : Int} : wOf (wtab g told much) = w1 (wG g) told much := by
  funext t r
  unfold wOf wtab w1 wG
  rw [List.getElem?_map]
  cases e : g[t]? with
  | none => rfl
  | some row =>
    show at1 (wrow told much row) r = _
    unfold at1 wrow
    rw [List.getElem?_map, List.getElem?_zipIdx]
    simp only [Option.bind_some]
    cases e2 : row[r]? with
    | none => rfl
    | some c =>
      show (if c = -1 then none else some (c - if 0 + r ∈ told then much else 0)) = _
      rw [Nat.zero_add]
      simp only []
      by_cases hc : c = -1
      · rw [if_pos hc, if_pos hc]; rfl
      · rw [if_neg hc, if_neg hc]; rfl
/-- the table without things and reports -/
def woRow (rs : List Nat) (row : List Int) : List Int := (row.zipIdx.filter fun p => decide (p.2 ∉ rs)).map (·.1)
def wo (g : Grid) (ts rs : List Nat) : Grid := (g.zipIdx.filter fun p => decide (p.2 ∉ ts)).map fun p => woRow rs p.1
/-- the width of a table -/
def gw : Grid → Nat
  | [] => 0
  | r :: _ => r.length
theorem gw_eq {g : Grid} {m : Nat} (h : ∀ row ∈ g, row.length = m) (hn : g ≠ []) : gw g = m := by
  cases g with
  | nil => exact absurd rfl hn
  | cons r rs => exact h r List.mem_cons_self
theorem eraseIdx_map {α β : Type} (f : α → β) : ∀ (xs : List α) (i : Nat), (xs.eraseIdx i).map f = (xs.map f).eraseIdx i
  | [], _ => rfl
  | x :: xs, 0 => rfl
  | x :: xs, i + 1 => by simp only [List.eraseIdx_cons_succ, List.map_cons, eraseIdx_map f xs i]
theorem zipIdx_filter_ne {α : Type} (xs : List α) (k i : Nat) : (xs.zipIdx i).filter (fun p => decide (p.2 ≠ i + k)) = ((xs.zipIdx i).eraseIdx k) := by
  induction xs generalizing k i with
  | nil => simp
  | cons x xs ih =>
    cases k with
    | zero =>
      simp only [List.zipIdx_cons, Nat.add_zero, List.eraseIdx_zero, List.tail_cons]
      rw [List.filter_cons_of_neg (by simp)]
      refine List.filter_eq_self.mpr fun p hp => ?_
      have := List.le_snd_of_mem_zipIdx hp
      simp; omega
    | succ k =>
      simp only [List.zipIdx_cons, List.eraseIdx_cons_succ]
      rw [List.filter_cons_of_pos (by simp)]
      have := ih k (i + 1)
      rw [show i + 1 + k = i + (k + 1) by omega] at this
      rw [this]
theorem woRow1 {row : List Int} {r : Nat} : woRow [r] row = row.eraseIdx r := by
  unfold woRow
  have := zipIdx_filter_ne row r 0
  have e : (row.zipIdx.filter fun p => decide (p.2 ∉ [r])) = row.zipIdx.filter fun p => decide (p.2 ≠ 0 + r) := by
    congr 1
    funext p
    simp
  rw [e, this, eraseIdx_map, List.zipIdx_map_fst]
theorem wo1 {g : Grid} {t r : Nat} : wo g [t] [r] = (g.eraseIdx t).map fun row => row.eraseIdx r := by
  unfold wo
  have := zipIdx_filter_ne g t 0
  have e : (g.zipIdx.filter fun p => decide (p.2 ∉ [t])) = g.zipIdx.filter fun p => decide (p.2 ≠ 0 + t) := by
    congr 1
    funext p
    simp
  rw [e, this]
  have e2 : ((g.zipIdx).eraseIdx t).map (fun p => woRow [r] p.1) = (((g.zipIdx).eraseIdx t).map (·.1)).map fun row => row.eraseIdx r := by
    rw [List.map_map]
    refine List.map_congr_left fun p _ => woRow1
  rw [e2, eraseIdx_map, List.zipIdx_map_fst]
end Mt

set_option Elab.async false
set_option linter.all false
set_option maxHeartbeats 400000
/-! Mt6: the best end, sought row by row. -/
namespace Mt
abbrev EndO := Option (Int × Nat × Nat)
structure Bs (m : Nat) (w : W2) (hd : F1) (d : Nat → Option Int) (i q : Nat) (o : EndO) : Prop where
  at_ : ∀ D t0 r0, o = some (D, t0, r0) → (∃ x c, d t0 = some x ∧ w t0 r0 = some c ∧ D = x + c) ∧ r0 < m ∧ hd r0 = none
  le : ∀ t r x c, (t < i ∨ (t = i ∧ r < q)) → d t = some x → w t r = some c → r < m → hd r = none → ∃ D t0 r0, o = some (D, t0, r0) ∧ D ≤ x + c
section
variable {m : Nat} {w : W2} {hd : F1} {d : Nat → Option Int} {i q : Nat} {o : EndO}
theorem Bs.start : Bs m w hd d 0 0 none := ⟨(fun _ _ _ h => nomatch h), fun t r x c h => by omega⟩
theorem Bs.skip (B : Bs m w hd d i q o) (h : ∀ x c, d i = some x → w i q = some c → hd q = none → ∃ D t0 r0, o = some (D, t0, r0) ∧ D ≤ x + c) : Bs m w hd d i (q + 1) o := by
  refine ⟨B.at_, fun t r x c h1 h2 h3 h4 h5 => ?_⟩
  by_cases e : t = i ∧ r = q
  · obtain ⟨rfl, rfl⟩ := e
    exact h x c h2 h3 h5
  · exact B.le t r x c (by omega) h2 h3 h4 h5
theorem Bs.take (B : Bs m w hd d i q o) {x c : Int} (h1 : d i = some x) (h2 : w i q = some c) (h3 : q < m) (h4 : hd q = none) (h5 : ∀ D t0 r0, o = some (D, t0, r0) → x + c < D) : Bs m w hd d i (q + 1) (some (x + c, i, q)) := by
  refine ⟨fun D t0 r0 e => ?_, fun t r x' c' k1 k2 k3 k4 k5 => ?_⟩
  · cases e
    exact ⟨⟨x, c, h1, h2, rfl⟩, h3, h4⟩
  · by_cases e : t = i ∧ r = q
    · obtain ⟨rfl, rfl⟩ := e
      rw [h1] at k2; cases k2
      rw [h2] at k3; cases k3
      exact ⟨_, _, _, rfl, Int.le_refl _⟩
    · obtain ⟨D, t0, r0, e1, e2⟩ := B.le t r x' c' (by omega) k2 k3 k4 k5
      have := h5 D t0 r0 e1
      exact ⟨_, _, _, rfl, by omega⟩
theorem Bs.next (B : Bs m w hd d i q o) (h : q = m ∨ d i = none) : Bs m w hd d (i + 1) 0 o := by
  refine ⟨B.at_, fun t r x c h1 h2 h3 h4 h5 => ?_⟩
  rcases h with rfl | h
  · exact B.le t r x c (by omega) h2 h3 h4 h5
  · have : t ≠ i := fun e => by rw [e, h] at h2; cases h2
    exact B.le t r x c (by omega) h2 h3 h4 h5
theorem Bs.best {n t0 r0 : Nat} {D : Int} (B : Bs m w hd d n 0 (some (D, t0, r0))) (hd' : ∀ t, d t ≠ none → t < n) : Best m w hd d D t0 r0 := by
  obtain ⟨h1, h2, h3⟩ := B.at_ D t0 r0 rfl
  refine ⟨h1, h2, h3, fun t r x c k1 k2 k3 k4 => ?_⟩
  obtain ⟨D', t', r', e1, e2⟩ := B.le t r x c (.inl (hd' t (by rw [k1]; simp))) k1 k2 k3 k4
  cases e1
  exact e2
theorem Bs.no {n : Nat} (B : Bs m w hd d n 0 none) (hd' : ∀ t, d t ≠ none → t < n) : ∀ t r x c, d t = some x → w t r = some c → r < m → hd r = none → False := fun t r x c k1 k2 k3 k4 => by
  obtain ⟨D', t', r', e1, e2⟩ := B.le t r x c (.inl (hd' t (by rw [k1]; simp))) k1 k2 k3 k4
  cases e1
end
end Mt

set_option Elab.async false
set_option linter.all false
set_option maxHeartbeats 400000
/-! Mt7: the rows of least pairings. -/
namespace Mt
theorem prs_zip {ms : List (Option Nat)} : (ms.zipIdx.filter fun p => !decide (p.1 = none)).map (fun p => (p.2, p.1.getD 0)) = prs ms.length (at1 ms) := by
  have e : ms.zipIdx = (List.range ms.length).map fun t => (at1 ms t, t) := by
    refine List.ext_getElem? fun i => ?_
    rw [List.getElem?_zipIdx, List.getElem?_map]
    by_cases h : i < ms.length
    · rw [at1_lt h, List.getElem?_range h]
      simp
    · rw [List.getElem?_eq_none (by omega), List.getElem?_eq_none (by simp; omega)]; rfl
  rw [e]
  unfold prs
  induction List.range ms.length with
  | nil => rfl
  | cons t l ih =>
    cases et : at1 ms t with
    | none => simp [et, ih]
    | some r => simp [et, ih]
abbrev Rows := List (Int × List (Option Nat))
structure RowOk (g : Grid) (told : List Nat) (k : Nat) (c : Int) (M : List (Option Nat)) : Prop where
  len : M.length = g.length
  pg : Pg g.length (gw g) (wG g) (prs g.length (at1 M))
  num : (prs g.length (at1 M)).length = k
  cov : Cov told (prs g.length (at1 M))
  cost : wt (wG g) (prs g.length (at1 M)) = c
  least : ∀ qs, Pg g.length (gw g) (wG g) qs → Cov told qs → k ≤ qs.length → c ≤ wt (wG g) qs
def RowsOk (g : Grid) (told : List Nat) (R : Rows) : Prop := ∀ i c M, R[i]? = some (c, M) → RowOk g told (told.length + i) c M
def NoMore (g : Grid) (told : List Nat) (k : Nat) : Prop := ∀ qs, Pg g.length (gw g) (wG g) qs → Cov told qs → k ≤ qs.length → False
theorem RowsOk.snoc {g : Grid} {told : List Nat} {R : Rows} {c : Int} {M : List (Option Nat)} (h : RowsOk g told R) (hn : RowOk g told (told.length + R.length) c M) : RowsOk g told (R ++ [(c, M)]) := fun i c' M' e => by
  by_cases hi : i < R.length
  · rw [List.getElem?_append_left hi] at e
    exact h i c' M' e
  · rw [List.getElem?_append_right (by omega)] at e
    by_cases h0 : i - R.length = 0
    · rw [h0] at e
      cases e
      have : i = R.length := by omega
      rw [this]; exact hn
    · rw [List.getElem?_eq_none (by simp; omega)] at e
      cases e
/-- the least cost from the rows -/
structure RowsEnd (g : Grid) (told : List Nat) (K : Nat) (R : Rows) : Prop where
  ok : RowsOk g told R
  len : R.length ≤ K + 1 - told.length
  more : R.length < K + 1 - told.length → NoMore g told (told.length + R.length)
theorem cov_len {n m : Nat} {w : W2} {told : List Nat} {qs : List (Nat × Nat)} (ht : told.Nodup) (hc : Cov told qs) : told.length ≤ qs.length := by
  have := ht.length_le_of_subset (l₂ := qs.map (·.2)) fun x hx => hc x hx
  rwa [List.length_map] at this
/-- the row for a demand -/
inductive RowIs (g : Grid) (cnt : Nat) (told : List Nat) : Option (Int × Int × List (Option Nat)) → Prop
  | none (h : ∀ qs, Pg g.length (gw g) (wG g) qs → Keeps cnt told qs → False) : RowIs g cnt told none
  | some {c s : Int} {M : List (Option Nat)} (hl : M.length = g.length) (hp : Pg g.length (gw g) (wG g) (prs g.length (at1 M))) (hk : Keeps cnt told (prs g.length (at1 M))) (hc : wt (wG g) (prs g.length (at1 M)) = c)
      (hm : ∀ qs, Pg g.length (gw g) (wG g) qs → Keeps cnt told qs → c ≤ wt (wG g) qs) : RowIs g cnt told (some (c, s, M))
theorem RowsEnd.row {g : Grid} {told : List Nat} {cnt : Nat} {R : Rows} (ht : told.Nodup) (h : RowsEnd g told (max cnt told.length) R) {s : Int} :
    (R.length ≤ cnt - told.length → RowIs g cnt told none) ∧ ∀ c M, R[cnt - told.length]? = some (c, M) → RowIs g cnt told (some (c, s, M)) := by
  constructor
  · intro hl
    refine .none fun qs Q hk => ?_
    have := cov_len (n := 0) (m := 0) (w := wG g) ht hk.2
    have hk1 : (cnt : Int) ≤ qs.length := hk.1
    exact h.more (by omega) qs Q hk.2 (by omega)
  · intro c M e
    have hr := h.ok _ _ _ e
    refine .some hr.len hr.pg ⟨?_, hr.cov⟩ hr.cost fun qs Q hk => hr.least qs Q hk.2 ?_
    · rw [hr.num]; omega
    · have := cov_len (n := 0) (m := 0) (w := wG g) ht hk.2
      have hk1 : (cnt : Int) ≤ qs.length := hk.1
      omega
theorem RowIs.least {g : Grid} {cnt : Nat} {told : List Nat} {o : Option (Int × Int × List (Option Nat))} (h : RowIs g cnt told o) : LeastIs g (gw g) cnt told (match o with | Option.none => -1 | Option.some p => p.1) := by
  cases h with
  | none h => exact .inl ⟨rfl, h⟩
  | some hl hp hk hc hm => exact .inr ⟨_, hp, hk, hc, hm⟩
end Mt

set_option Elab.async false
set_option linter.all false
set_option maxHeartbeats 400000
/-! Mt8: a pair taken out of a table. -/
namespace Mt
/-- a number of what is left as it was, and back -/
def upN (t a : Nat) : Nat := if t ≤ a then a + 1 else a
def loN (t a : Nat) : Nat := if t < a then a - 1 else a
theorem up_lo {t a : Nat} (h : a ≠ t) : upN t (loN t a) = a := by unfold upN loN; split <;> split <;> omega
theorem lo_up {t a : Nat} : loN t (upN t a) = a := by unfold upN loN; split <;> split <;> omega
theorem up_ne' {t a : Nat} : upN t a ≠ t := by unfold upN; split <;> omega
theorem upN_inj {t a b : Nat} (h : upN t a = upN t b) : a = b := by rw [← lo_up (t := t) (a := a), h, lo_up]
theorem lo_inj {t a b : Nat} (ha : a ≠ t) (hb : b ≠ t) (h : loN t a = loN t b) : a = b := by rw [← up_lo ha, h, up_lo hb]
theorem erase_get {α : Type} {xs : List α} {t a : Nat} : (xs.eraseIdx t)[a]? = xs[upN t a]? := by
  rw [List.getElem?_eraseIdx]
  unfold upN
  by_cases h : a < t
  · rw [if_pos h, if_neg (by omega)]
  · rw [if_neg h, if_pos (by omega)]
def lowT (told : List Nat) (r : Nat) : List Nat := (told.filter fun x => decide (x ≠ r)).map (loN r)
section
variable {g : Grid} {t r m : Nat}
theorem wG_wo {a b : Nat} : wG (wo g [t] [r]) a b = wG g (upN t a) (upN r b) := by
  rw [wo1]
  unfold wG
  rw [List.getElem?_map, erase_get]
  cases g[upN t a]? with
  | none => rfl
  | some row => simp only [Option.map_some, Option.bind_some, erase_get]
theorem wo_len (ht : t < g.length) : (wo g [t] [r]).length = g.length - 1 := by rw [wo1, List.length_map, List.length_eraseIdx, if_pos ht]
theorem wo_rows (h : ∀ row ∈ g, row.length = m) (hr : r < m) : ∀ row ∈ wo g [t] [r], row.length = m - 1 := fun row hm => by
  rw [wo1] at hm
  obtain ⟨row0, h0, rfl⟩ := List.mem_map.mp hm
  have := h row0 (List.mem_of_mem_eraseIdx h0)
  rw [List.length_eraseIdx, this, if_pos hr]
theorem wo_gw (h : ∀ row ∈ g, row.length = m) (hr : r < m) : wo g [t] [r] = [] ∨ gw (wo g [t] [r]) = m - 1 := by
  by_cases e : wo g [t] [r] = []
  · exact .inl e
  · exact .inr (gw_eq (wo_rows h hr) e)
/-- the least cost of a pairing with the pair -/
def WithIs (g : Grid) (m : Nat) (cnt : Int) (told : List Nat) (t r : Nat) (v : Int) : Prop :=
  (v = -1 ∧ ∀ ps, Pg g.length m (wG g) ps → Keeps cnt told ps → (t, r) ∈ ps → False) ∨ ∃ ps, Pg g.length m (wG g) ps ∧ Keeps cnt told ps ∧ (t, r) ∈ ps ∧ wt (wG g) ps = v ∧ ∀ qs, Pg g.length m (wG g) qs → Keeps cnt told qs → (t, r) ∈ qs → v ≤ wt (wG g) qs
def liftP (t r : Nat) (p : Nat × Nat) : Nat × Nat := (upN t p.1, upN r p.2)
def lowP (t r : Nat) (p : Nat × Nat) : Nat × Nat := (loN t p.1, loN r p.2)
theorem pg_lift {c : Int} (ht : t < g.length) (hr : r < m) (hrows : ∀ row ∈ g, row.length = m) (hc : wG g t r = some c) {qs : List (Nat × Nat)} (P : Pg (wo g [t] [r]).length (gw (wo g [t] [r])) (wG (wo g [t] [r])) qs) : Pg g.length m (wG g) ((t, r) :: qs.map (liftP t r)) ∧ wt (wG g) ((t, r) :: qs.map (liftP t r)) = wt (wG (wo g [t] [r])) qs + c := by
  have e1 : (qs.map (liftP t r)).map (·.1) = (qs.map (·.1)).map (upN t) := by rw [List.map_map, List.map_map]; rfl
  have e2 : (qs.map (liftP t r)).map (·.2) = (qs.map (·.2)).map (upN r) := by rw [List.map_map, List.map_map]; rfl
  refine ⟨⟨?_, ?_, fun p hp => ?_⟩, ?_⟩
  · rw [List.map_cons, e1]
    refine List.nodup_cons.mpr ⟨fun hm => ?_, nodup_map_of P.t fun x _ y _ e => upN_inj e⟩
    obtain ⟨a, _, e⟩ := List.mem_map.mp hm
    exact up_ne' e
  · rw [List.map_cons, e2]
    refine List.nodup_cons.mpr ⟨fun hm => ?_, nodup_map_of P.r fun x _ y _ e => upN_inj e⟩
    obtain ⟨a, _, e⟩ := List.mem_map.mp hm
    exact up_ne' e
  · rcases List.mem_cons.mp hp with rfl | hp
    · exact ⟨ht, hr, c, hc⟩
    · obtain ⟨q, hq, rfl⟩ := List.mem_map.mp hp
      obtain ⟨h1, h2, c', h3⟩ := P.ok q hq
      rw [wG_wo] at h3
      have hl := wo_len (r := r) ht
      refine ⟨?_, ?_, c', h3⟩
      · show upN t q.1 < g.length
        unfold upN; split <;> omega
      · show upN r q.2 < m
        rcases wo_gw (t := t) hrows hr with z | z
        · rw [z] at h1; exact absurd h1 (Nat.not_lt_zero _)
        · unfold upN; split <;> omega
  · unfold wt
    rw [List.map_cons, List.sum_cons, hc, List.map_map]
    have : (qs.map ((fun p => (wG g p.1 p.2).getD 0) ∘ liftP t r)) = qs.map fun p => (wG (wo g [t] [r]) p.1 p.2).getD 0 := List.map_congr_left fun p _ => by
      show (wG g (upN t p.1) (upN r p.2)).getD 0 = _
      rw [wG_wo]
    rw [this]
    show c + _ = _
    omega
theorem pg_low {c : Int} (ht : t < g.length) (hr : r < m) (hrows : ∀ row ∈ g, row.length = m) (hc : wG g t r = some c) {ps : List (Nat × Nat)} (P : Pg g.length m (wG g) ps) (hm : (t, r) ∈ ps) :
    ∃ rest, ps.Perm ((t, r) :: rest) ∧ (∀ p ∈ rest, p.1 ≠ t ∧ p.2 ≠ r) ∧ Pg (wo g [t] [r]).length (gw (wo g [t] [r])) (wG (wo g [t] [r])) (rest.map (lowP t r)) ∧ wt (wG g) ps = wt (wG (wo g [t] [r])) (rest.map (lowP t r)) + c := by
  obtain ⟨l1, l2, rfl⟩ := List.append_of_mem hm
  have pp : (l1 ++ (t, r) :: l2).Perm ((t, r) :: (l1 ++ l2)) := List.perm_middle
  have P' := P.perm pp
  have hne : ∀ p ∈ l1 ++ l2, p.1 ≠ t ∧ p.2 ≠ r := fun p hp => by
    have h1 := (List.nodup_cons.mp P'.t).1
    have h2 := (List.nodup_cons.mp P'.r).1
    exact ⟨fun e => h1 (List.mem_map.mpr ⟨p, hp, e⟩), fun e => h2 (List.mem_map.mpr ⟨p, hp, e⟩)⟩
  refine ⟨l1 ++ l2, pp, hne, ?_, ?_⟩
  · have e1 : ((l1 ++ l2).map (lowP t r)).map (·.1) = ((l1 ++ l2).map (·.1)).map (loN t) := by rw [List.map_map, List.map_map]; rfl
    have e2 : ((l1 ++ l2).map (lowP t r)).map (·.2) = ((l1 ++ l2).map (·.2)).map (loN r) := by rw [List.map_map, List.map_map]; rfl
    refine ⟨?_, ?_, fun p hp => ?_⟩
    · rw [e1]
      refine nodup_map_of (List.nodup_cons.mp P'.t).2 fun x hx y hy e => ?_
      obtain ⟨p, hp, rfl⟩ := List.mem_map.mp hx
      obtain ⟨q, hq, rfl⟩ := List.mem_map.mp hy
      exact lo_inj (hne p hp).1 (hne q hq).1 e
    · rw [e2]
      refine nodup_map_of (List.nodup_cons.mp P'.r).2 fun x hx y hy e => ?_
      obtain ⟨p, hp, rfl⟩ := List.mem_map.mp hx
      obtain ⟨q, hq, rfl⟩ := List.mem_map.mp hy
      exact lo_inj (hne p hp).2 (hne q hq).2 e
    · obtain ⟨q, hq, rfl⟩ := List.mem_map.mp hp
      obtain ⟨h1, h2, c', h3⟩ := P'.ok q (List.mem_cons_of_mem _ hq)
      obtain ⟨n1, n2⟩ := hne q hq
      have hl := wo_len (r := r) ht
      have h3' : wG (wo g [t] [r]) (loN t q.1) (loN r q.2) = some c' := by rw [wG_wo, up_lo n1, up_lo n2]; exact h3
      have b1 : loN t q.1 < (wo g [t] [r]).length := by unfold loN; split <;> omega
      refine ⟨b1, ?_, c', h3'⟩
      show loN r q.2 < _
      rcases wo_gw (t := t) hrows hr with z | z
      · rw [z] at b1; exact absurd b1 (Nat.not_lt_zero _)
      · rw [z]; unfold loN; split <;> omega
  · rw [wt_perm pp]
    unfold wt
    rw [List.map_cons, List.sum_cons, hc, List.map_map]
    have : ((l1 ++ l2).map ((fun p => (wG (wo g [t] [r]) p.1 p.2).getD 0) ∘ lowP t r)) = (l1 ++ l2).map fun p => (wG g p.1 p.2).getD 0 := List.map_congr_left fun p hp => by
      show (wG (wo g [t] [r]) (loN t p.1) (loN r p.2)).getD 0 = _
      rw [wG_wo, up_lo (hne p hp).1, up_lo (hne p hp).2]
    rw [this]
    show c + _ = _
    omega
theorem keeps_lift {cnt : Nat} {told : List Nat} {qs : List (Nat × Nat)} (h : Keeps ((cnt - 1 : Nat) : Int) (lowT told r) qs) : Keeps cnt told ((t, r) :: qs.map (liftP t r)) := by
  obtain ⟨h1, h2⟩ := h
  refine ⟨by simp only [List.length_cons, List.length_map]; omega, fun x hx => ?_⟩
  rw [List.map_cons]
  by_cases e : x = r
  · subst e; exact List.mem_cons_self
  · refine List.mem_cons_of_mem _ ?_
    obtain ⟨p, hp, e2⟩ := List.mem_map.mp (h2 (loN r x) (List.mem_map.mpr ⟨x, List.mem_filter.mpr ⟨hx, by simpa using e⟩, rfl⟩))
    refine List.mem_map.mpr ⟨liftP t r p, List.mem_map.mpr ⟨p, hp, rfl⟩, ?_⟩
    show upN r p.2 = x
    rw [show p.2 = loN r x from e2, up_lo e]
theorem keeps_low {cnt : Nat} {told : List Nat} {ps rest : List (Nat × Nat)} (pp : ps.Perm ((t, r) :: rest)) (hne : ∀ p ∈ rest, p.1 ≠ t ∧ p.2 ≠ r) (h : Keeps cnt told ps) : Keeps ((cnt - 1 : Nat) : Int) (lowT told r) (rest.map (lowP t r)) := by
  obtain ⟨h1, h2⟩ := h
  have hl := pp.length_eq
  simp only [List.length_cons] at hl
  refine ⟨by rw [List.length_map]; omega, fun x hx => ?_⟩
  obtain ⟨y, hy, rfl⟩ := List.mem_map.mp hx
  obtain ⟨hy1, hy2⟩ := List.mem_filter.mp hy
  have hy2 : y ≠ r := by simpa using hy2
  obtain ⟨p, hp, e⟩ := List.mem_map.mp (h2 y hy1)
  have hp := pp.subset hp
  rcases List.mem_cons.mp hp with rfl | hp
  · exact absurd e.symm hy2
  · exact List.mem_map.mpr ⟨lowP t r p, List.mem_map.mpr ⟨p, hp, rfl⟩, by show loN r p.2 = _; rw [show p.2 = y from e]⟩
theorem with_of {cnt : Nat} {told : List Nat} {c v : Int} (hR : Rect g m) (ht : t < g.length) (hr : r < m) (hc : wG g t r = some c) (h : LeastIs (wo g [t] [r]) (gw (wo g [t] [r])) ((cnt - 1 : Nat) : Int) (lowT told r) v) : WithIs g m cnt told t r (if v = -1 then -1 else v + c) := by
  have hrows : ∀ row ∈ g, row.length = m := fun row hm => (hR row hm).1
  rcases h with ⟨rfl, h⟩ | ⟨qs, P, hk, hw, hm⟩
  · refine .inl ⟨rfl, fun ps P hk hmem => ?_⟩
    obtain ⟨rest, pp, hne, P', _⟩ := pg_low ht hr hrows hc P hmem
    exact h _ P' (keeps_low pp hne hk)
  · have hv : 0 ≤ v := by
      rw [← hw]
      refine wt_nn fun a b c' e => ?_
      rw [wG_wo] at e
      exact wG_nn hR _ _ _ e
    obtain ⟨P', hw'⟩ := pg_lift ht hr hrows hc P
    refine .inr ⟨_, P', keeps_lift hk, List.mem_cons_self, ?_, fun qs' Q hk' hmem => ?_⟩
    · rw [hw', hw, if_neg (by omega)]
    · obtain ⟨rest, pp, hne, P2, hw2⟩ := pg_low ht hr hrows hc Q hmem
      have := hm _ P2 (keeps_low pp hne hk')
      rw [if_neg (by omega), hw2]
      omega
theorem with_none {cnt : Int} {told : List Nat} (h : wG g t r = none) : WithIs g m cnt told t r (-1) := .inl ⟨rfl, fun ps P _ hm => by
  obtain ⟨_, _, c, hc⟩ := P.ok _ hm
  rw [h] at hc; cases hc⟩
theorem lowT_nodup {told : List Nat} (h : told.Nodup) : (lowT told r).Nodup := nodup_map_of (nodup_filter _ h) fun x hx y hy e => lo_inj (by simpa using (List.mem_filter.mp hx).2) (by simpa using (List.mem_filter.mp hy).2) e
theorem lowT_len {told : List Nat} : (lowT told r).length ≤ told.length := by unfold lowT; rw [List.length_map]; exact List.length_filter_le _ _
theorem wo_rect (hR : Rect g m) (hr : r < m) : Rect (wo g [t] [r]) (gw (wo g [t] [r])) := fun row hm => by
  have hrows : ∀ row ∈ g, row.length = m := fun row hm => (hR row hm).1
  refine ⟨?_, fun c hc => ?_⟩
  · rcases wo_gw (t := t) hrows hr with z | z
    · rw [z] at hm; cases hm
    · rw [z]; exact wo_rows hrows hr row hm
  · rw [wo1] at hm
    obtain ⟨row0, h0, rfl⟩ := List.mem_map.mp hm
    exact (hR row0 (List.mem_of_mem_eraseIdx h0)).2 c (List.mem_of_mem_eraseIdx hc)
end
end Mt

set_option Elab.async false
set_option linter.all false
set_option maxHeartbeats 400000
/-! Mt9: tables with a pair changed; all pairings gone through. -/
namespace Mt
def barRow (f : Nat → Nat → Bool) (t : Nat) (row : List Int) : List Int := row.zipIdx.map fun q => if f t q.2 = true then -1 else q.1
def bar (g : Grid) (f : Nat → Nat → Bool) : Grid := g.zipIdx.map fun p => barRow f p.2 p.1
def setG (g : Grid) (t r : Nat) (c : Int) : Grid := g.set t ((g[t]?.getD []).set r c)
section
variable {g : Grid} {m : Nat} {f : Nat → Nat → Bool}
theorem wG_bar {t r : Nat} : wG (bar g f) t r = if f t r = true then none else wG g t r := by
  unfold wG bar
  rw [List.getElem?_map, List.getElem?_zipIdx]
  cases g[t]? with
  | none => simp
  | some row =>
    simp only [Option.map_some, Option.bind_some, Nat.zero_add]
    unfold barRow
    rw [List.getElem?_map, List.getElem?_zipIdx]
    cases row[r]? with
    | none => simp
    | some c =>
      simp only [Option.map_some, Nat.zero_add]
      by_cases h : f t r = true
      · rw [if_pos h, if_pos h, if_pos rfl]
      · rw [if_neg h, if_neg h]
theorem bar_len : (bar g f).length = g.length := by unfold bar; simp
theorem bar_rows (h : ∀ row ∈ g, row.length = m) : ∀ row ∈ bar g f, row.length = m := fun row hm => by
  obtain ⟨p, hp, rfl⟩ := List.mem_map.mp hm
  obtain ⟨row, t⟩ := p
  unfold barRow
  rw [List.length_map, List.length_zipIdx]
  exact h row (List.mem_of_getElem? (List.mem_zipIdx_iff_getElem?.mp hp))
theorem bar_rect (h : Rect g m) : Rect (bar g f) m := fun row hm => by
  refine ⟨bar_rows (fun r hr => (h r hr).1) row hm, fun c hc => ?_⟩
  obtain ⟨p, hp, rfl⟩ := List.mem_map.mp hm
  obtain ⟨row, t⟩ := p
  obtain ⟨q, hq, rfl⟩ := List.mem_map.mp hc
  obtain ⟨c, r⟩ := q
  have h1 := (h row (List.mem_of_getElem? (List.mem_zipIdx_iff_getElem?.mp hp))).2 c (List.mem_of_getElem? (List.mem_zipIdx_iff_getElem?.mp hq))
  simp only
  split <;> omega
theorem gw_bar : gw (bar g f) = gw g := by
  cases g with
  | nil => rfl
  | cons r g =>
    unfold bar
    rw [List.zipIdx_cons, List.map_cons]
    show (barRow f 0 r).length = r.length
    unfold barRow; simp
theorem wG_set {t r : Nat} {c : Int} {row : List Int} (h : g[t]? = some row) (hr : r < row.length) {a b : Nat} : wG (setG g t r c) a b = if a = t ∧ b = r then (if c = -1 then none else some c) else wG g a b := by
  have ht := (List.getElem?_eq_some_iff.mp h).1
  unfold wG setG
  rw [h]
  simp only [Option.getD_some]
  by_cases ha : a = t
  · subst ha
    rw [List.getElem?_set_self ht, h]
    simp only [Option.bind_some, true_and]
    by_cases hb : b = r
    · subst hb
      rw [List.getElem?_set_self hr, if_pos rfl]
    · rw [List.getElem?_set_ne (Ne.symm hb), if_neg hb]
  · rw [List.getElem?_set_ne (Ne.symm ha), if_neg fun z => ha z.1]
theorem set_len {t r : Nat} {c : Int} : (setG g t r c).length = g.length := by unfold setG; simp
theorem set_rows {t r : Nat} {c : Int} {row : List Int} (h : g[t]? = some row) (hl : ∀ row ∈ g, row.length = m) : ∀ row ∈ setG g t r c, row.length = m := fun row' hm => by
  unfold setG at hm
  rw [h] at hm
  rcases List.mem_or_eq_of_mem_set hm with hm | rfl
  · exact hl _ hm
  · simp only [Option.getD_some, List.length_set]
    exact hl row (List.mem_of_getElem? h)
theorem set_rect {t r : Nat} {c : Int} {row : List Int} (h : g[t]? = some row) (hc : -1 ≤ c) (hl : Rect g m) : Rect (setG g t r c) m := fun row' hm => by
  refine ⟨set_rows h (fun r hr => (hl r hr).1) row' hm, fun x hx => ?_⟩
  unfold setG at hm
  rw [h] at hm
  rcases List.mem_or_eq_of_mem_set hm with hm | rfl
  · exact (hl _ hm).2 x hx
  · simp only [Option.getD_some] at hx
    rcases List.mem_or_eq_of_mem_set hx with hx | rfl
    · exact (hl row (List.mem_of_getElem? h)).2 x hx
    · exact hc
theorem gw_set {t r : Nat} {c : Int} {row : List Int} (h : g[t]? = some row) (hl : ∀ row ∈ g, row.length = gw g) : gw (setG g t r c) = gw g := by
  refine gw_eq (set_rows h hl) fun z => ?_
  have := set_len (g := g) (t := t) (r := r) (c := c)
  rw [z] at this
  have ht := (List.getElem?_eq_some_iff.mp h).1
  simp at this
  omega
theorem with_unique {cnt : Int} {told : List Nat} {t r : Nat} {v v' : Int} (hn : ∀ t r c, wG g t r = some c → 0 ≤ c) (h : WithIs g m cnt told t r v) (h' : WithIs g m cnt told t r v') : v = v' := by
  rcases h with ⟨rfl, h⟩ | ⟨ps, P, hk, hm, rfl, hl⟩
  · rcases h' with ⟨rfl, _⟩ | ⟨qs, Q, hk', hm', _, _⟩
    · rfl
    · exact (h qs Q hk' hm').elim
  · rcases h' with ⟨rfl, h'⟩ | ⟨qs, Q, hk', hm', rfl, hl'⟩
    · exact (h' ps P hk hm).elim
    · have := hl qs Q hk' hm'
      have := hl' ps P hk hm
      omega
/-! all pairings -/
abbrev CP := Int × List (Nat × Nat)
def cG (g : Grid) (t r : Nat) : Int := ((g[t]?.getD [])[r]?).getD (-1)
def okR (g : Grid) (t : Nat) (ps : List (Nat × Nat)) (r : Nat) : Bool := decide (0 ≤ cG g t r) && decide (r ∉ ps.map (·.2))
def oneP (g : Grid) (t : Nat) (q : CP) : List CP := ((List.range (g[t]?.getD []).length).filter (okR g t q.2)).map fun r => (q.1 + cG g t r, q.2 ++ [(t, r)])
def moreP (g : Grid) (t : Nat) (L : List CP) : List CP := (L.map (oneP g t)).flatten
def allT (g : Grid) : Nat → List CP
  | 0 => [(0, [])]
  | t + 1 => allT g t ++ moreP g t (allT g t)
structure InP (g : Grid) (m T : Nat) (q : CP) : Prop where
  asc : (q.2.map (·.1)).Pairwise (· < ·)
  lt : ∀ p ∈ q.2, p.1 < T
  pg : Pg g.length m (wG g) q.2
  cost : q.1 = wt (wG g) q.2
theorem cG_some (hR : Rect g m) {t r : Nat} : 0 ≤ cG g t r ↔ ∃ c, wG g t r = some c ∧ cG g t r = c := by
  unfold cG
  constructor
  · intro h
    cases e : g[t]? with
    | none => simp [e] at h
    | some row =>
      simp only [e, Option.getD_some] at h ⊢
      cases e2 : row[r]? with
      | none => simp [e2] at h
      | some c =>
        simp only [e2, Option.getD_some] at h ⊢
        exact ⟨c, wG_some.mpr ⟨⟨row, e, e2⟩, by omega⟩, rfl⟩
  · rintro ⟨c, h1, h2⟩
    have := wG_nn hR t r c h1
    omega
theorem mem_oneP {t : Nat} {q q' : CP} : q' ∈ oneP g t q ↔ ∃ r, r < (g[t]?.getD []).length ∧ 0 ≤ cG g t r ∧ r ∉ q.2.map (·.2) ∧ q' = (q.1 + cG g t r, q.2 ++ [(t, r)]) := by
  unfold oneP okR
  rw [List.mem_map]
  constructor
  · rintro ⟨r, h, rfl⟩
    obtain ⟨h1, h2⟩ := List.mem_filter.mp h
    rw [Bool.and_eq_true, decide_eq_true_iff, decide_eq_true_iff] at h2
    exact ⟨r, List.mem_range.mp h1, h2.1, h2.2, rfl⟩
  · rintro ⟨r, h1, h2, h3, rfl⟩
    exact ⟨r, List.mem_filter.mpr ⟨List.mem_range.mpr h1, by rw [Bool.and_eq_true, decide_eq_true_iff, decide_eq_true_iff]; exact ⟨h2, h3⟩⟩, rfl⟩
theorem mem_allT (hR : Rect g m) : ∀ {T : Nat}, T ≤ g.length → ∀ {q : CP}, q ∈ allT g T ↔ InP g m T q
  | 0, _, q => by
    simp only [allT, List.mem_singleton]
    constructor
    · rintro rfl
      exact ⟨by simp, (fun p hp => by cases hp), ⟨by simp, by simp, fun p hp => by cases hp⟩, by simp [wt]⟩
    · intro h
      obtain ⟨c, ps⟩ := q
      have : ps = [] := List.eq_nil_iff_forall_not_mem.mpr fun p hp => Nat.not_lt_zero _ (h.lt p hp)
      subst this
      have := h.cost
      simp [wt] at this
      rw [this]
  | T + 1, hT, q => by
    have ih := fun q => mem_allT hR (T := T) (Nat.le_of_succ_le hT) (q := q)
    obtain ⟨row, hrow⟩ : ∃ row, g[T]? = some row := ⟨_, List.getElem?_eq_getElem hT⟩
    have hrl := (hR row (List.mem_of_getElem? hrow)).1
    simp only [allT, List.mem_append]
    constructor
    · rintro (h | h)
      · have h := (ih q).mp h
        exact ⟨h.asc, fun p hp => Nat.lt_succ_of_lt (h.lt p hp), h.pg, h.cost⟩
      · unfold moreP at h
        obtain ⟨l, hl, hm⟩ := List.mem_flatten.mp h
        obtain ⟨q0, h0, rfl⟩ := List.mem_map.mp hl
        have h0 := (ih q0).mp h0
        obtain ⟨r, h1, h2, h3, rfl⟩ := mem_oneP.mp hm
        obtain ⟨c, hc, hc2⟩ := (cG_some hR).mp h2
        rw [hrow] at h1
        simp only [Option.getD_some] at h1
        refine ⟨?_, fun p hp => ?_, ⟨?_, ?_, fun p hp => ?_⟩, ?_⟩
        · simp only [List.map_append, List.map_cons, List.map_nil]
          refine List.pairwise_append.mpr ⟨h0.asc, by simp, fun a ha b hb => ?_⟩
          rw [List.mem_singleton.mp hb]
          obtain ⟨p, hp, rfl⟩ := List.mem_map.mp ha
          exact h0.lt p hp
        · rcases List.mem_append.mp hp with hp | hp
          · exact Nat.lt_succ_of_lt (h0.lt p hp)
          · rw [List.mem_singleton.mp hp]; exact Nat.lt_succ_self _
        · simp only [List.map_append, List.map_cons, List.map_nil]
          refine List.nodup_append.mpr ⟨h0.pg.t, by simp, fun a ha b hb e => ?_⟩
          rw [List.mem_singleton.mp hb] at e
          obtain ⟨p, hp, e2⟩ := List.mem_map.mp ha
          have := h0.lt p hp
          omega
        · simp only [List.map_append, List.map_cons, List.map_nil]
          refine List.nodup_append.mpr ⟨h0.pg.r, by simp, fun a ha b hb e => ?_⟩
          rw [List.mem_singleton.mp hb] at e
          exact h3 (e ▸ ha)
        · rcases List.mem_append.mp hp with hp | hp
          · exact h0.pg.ok p hp
          · rw [List.mem_singleton.mp hp]
            exact ⟨hT, by omega, c, hc⟩
        · show q0.1 + cG g T r = wt (wG g) (q0.2 ++ [(T, r)])
          rw [wt_app, ← h0.cost, hc2]
          show _ = _ + ((wG g T r).getD 0 + 0)
          rw [hc]; simp
    · intro h
      obtain ⟨c, ps⟩ := q
      rcases List.eq_nil_or_concat ps with rfl | ⟨init, p, rfl⟩
      · refine .inl ((ih _).mpr ⟨h.asc, fun p hp => (by cases hp), h.pg, h.cost⟩)
      · rw [List.concat_eq_append] at h ⊢
        have hasc := h.asc
        simp only [List.map_append, List.map_cons, List.map_nil] at hasc
        have ha := List.pairwise_append.mp hasc
        have hlt : ∀ x ∈ init, x.1 < p.1 := fun x hx => ha.2.2 x.1 (List.mem_map.mpr ⟨x, hx, rfl⟩) p.1 (by simp)
        have hpT : p.1 < T + 1 := h.lt p (by simp)
        by_cases e : p.1 = T
        · obtain ⟨pt, r⟩ := p
          simp only at e hlt
          subst e
          right
          have hpg := h.pg
          have hi : InP g m pt (wt (wG g) init, init) := ⟨ha.1, hlt, hpg.slist (List.sublist_append_left _ _), rfl⟩
          obtain ⟨_, hr, c', hc'⟩ := hpg.ok (pt, r) (by simp)
          obtain ⟨⟨row', e1, e2⟩, e3⟩ := wG_some.mp hc'
          rw [hrow] at e1
          cases e1
          have ec : cG g pt r = c' := by unfold cG; rw [hrow]; simp only [Option.getD_some, e2]
          unfold moreP
          refine List.mem_flatten.mpr ⟨_, List.mem_map.mpr ⟨_, (ih _).mpr hi, rfl⟩, mem_oneP.mpr ⟨r, ?_, ?_, ?_, ?_⟩⟩
          · rw [hrow]; exact (List.getElem?_eq_some_iff.mp e2).1
          · rw [ec]; exact wG_nn hR _ _ _ hc'
          · have hr2 := hpg.r
            simp only [List.map_append, List.map_cons, List.map_nil] at hr2
            exact fun hm => (List.nodup_append.mp hr2).2.2 r hm r (by simp) rfl
          · have hcost := h.cost
            show (c, init ++ [(pt, r)]) = _
            have : c = wt (wG g) init + cG g pt r := by
              have hcost : c = wt (wG g) (init ++ [(pt, r)]) := hcost
              rw [hcost, wt_app, ec]
              show _ + ((wG g pt r).getD 0 + 0) = _
              rw [hc']; simp
            rw [this]
        · left
          refine (ih _).mpr ⟨h.asc, fun x hx => ?_, h.pg, h.cost⟩
          rcases List.mem_append.mp hx with hx | hx
          · have := hlt x hx; omega
          · rw [List.mem_singleton.mp hx]; omega
theorem flat_len {α β : Type} {f : α → List β} {k : Nat} {L : List α} (h : ∀ x, (f x).length ≤ k) : (L.map f).flatten.length ≤ L.length * k := by
  induction L with
  | nil => simp
  | cons x L ih =>
    have := h x
    simp only [List.map_cons, List.flatten_cons, List.length_append, List.length_cons, Nat.add_mul, Nat.one_mul]
    omega
theorem oneP_len (hl : ∀ row ∈ g, row.length = m) {t : Nat} {q : CP} : (oneP g t q).length ≤ m := by
  unfold oneP
  rw [List.length_map]
  refine Nat.le_trans (List.length_filter_le _ _) ?_
  rw [List.length_range]
  cases e : g[t]? with
  | none => simp
  | some row => simp only [Option.getD_some]; exact Nat.le_of_eq (hl row (List.mem_of_getElem? e))
theorem allT_len (hl : ∀ row ∈ g, row.length = m) : ∀ T, (allT g T).length ≤ (m + 1) ^ T
  | 0 => Nat.le_refl _
  | T + 1 => by
    have ih := allT_len hl T
    have h2 : (moreP g T (allT g T)).length ≤ (allT g T).length * m := flat_len fun _ => oneP_len hl
    simp only [allT, List.length_append, Nat.pow_succ]
    have h3 : (allT g T).length * m ≤ (m + 1) ^ T * m := Nat.mul_le_mul_right _ ih
    rw [Nat.mul_add, Nat.mul_one]
    omega
/-- each pairing, in order -/
theorem sorted_of {n : Nat} {w : W2} {qs : List (Nat × Nat)} (P : Pg n m w qs) : ∃ ps, qs.Perm ps ∧ (ps.map (·.1)).Pairwise (· < ·) := by
  refine ⟨qs.mergeSort (fun a b => decide (a.1 ≤ b.1)), (List.mergeSort_perm _ _).symm, ?_⟩
  have hs := List.pairwise_mergeSort (le := fun a b : Nat × Nat => decide (a.1 ≤ b.1)) (fun a b c h1 h2 => by simp only [decide_eq_true_eq] at *; omega) (fun a b => by simp only [Bool.or_eq_true, decide_eq_true_eq]; omega) qs
  have hn : ((qs.mergeSort (fun a b => decide (a.1 ≤ b.1))).map (·.1)).Nodup := ((List.mergeSort_perm qs _).map _).nodup_iff.mpr P.t
  refine List.pairwise_map.mpr ?_
  have hn := List.pairwise_map.mp hn
  exact (hs.and hn).imp fun h => by simp only [decide_eq_true_eq] at h; omega
def keepB (cnt : Nat) (told : List Nat) (q : CP) : Bool := decide (cnt ≤ q.2.length) && decide (∀ r ∈ told, r ∈ q.2.map (·.2))
def kept (g : Grid) (cnt : Nat) (told : List Nat) : List CP := (allT g g.length).filter (keepB cnt told)
theorem keepB_iff {cnt : Nat} {told : List Nat} {q : CP} : keepB cnt told q = true ↔ Keeps cnt told q.2 := by
  unfold keepB Keeps Cov
  rw [Bool.and_eq_true, decide_eq_true_iff, decide_eq_true_iff]
  constructor
  · exact fun ⟨h1, h2⟩ => ⟨by omega, h2⟩
  · exact fun ⟨h1, h2⟩ => ⟨by omega, h2⟩
theorem keeps_perm {cnt : Int} {told : List Nat} {ps qs : List (Nat × Nat)} (h : ps.Perm qs) (k : Keeps cnt told ps) : Keeps cnt told qs := ⟨by rw [← h.length_eq]; exact k.1, fun r hr => (h.map _).subset (k.2 r hr)⟩
theorem mem_kept (hR : Rect g m) {cnt : Nat} {told : List Nat} {q : CP} : q ∈ kept g cnt told ↔ InP g m g.length q ∧ Keeps cnt told q.2 := by
  unfold kept
  rw [List.mem_filter, mem_allT hR (Nat.le_refl _), keepB_iff]
theorem kept_all (hR : Rect g m) {cnt : Nat} {told : List Nat} {qs : List (Nat × Nat)} (P : Pg g.length m (wG g) qs) (hk : Keeps cnt told qs) : ∃ ps, qs.Perm ps ∧ (wt (wG g) qs, ps) ∈ kept g cnt told := by
  obtain ⟨ps, pp, hs⟩ := sorted_of P
  refine ⟨ps, pp, (mem_kept hR).mpr ⟨⟨hs, fun p hp => ((P.perm pp).ok p hp).1, P.perm pp, wt_perm pp⟩, keeps_perm pp hk⟩⟩
/-- a pair bears so much on another one -/
def BearsIs (g : Grid) (cnt : Nat) (told : List Nat) (budget : Int) (pair other : Nat × Nat) (x : Int) : Prop := ∃ v, WithIs (setG (bar g fun t r => decide ((t, r) ∈ [pair])) other.1 other.2 0) (gw g) cnt told other.1 other.2 v ∧ x = if v < 0 ∨ budget < v then -1 else budget - v
def bearL (g : Grid) (cnt : Nat) (told : List Nat) (pair other : Nat × Nat) : List Int := ((kept (setG g other.1 other.2 0) cnt told).filter fun q => decide (other ∈ q.2) && decide (pair ∉ q.2)).map (·.1)
/-- the law's reckoning -/
theorem bears_law {row : List Int} {cnt : Nat} {told : List Nat} {budget : Int} {pair other : Nat × Nat} (hR : Rect g (gw g)) (hrow : g[other.1]? = some row) (hr : other.2 < row.length) (hne : other ≠ pair) :
    (bearL g cnt told pair other = [] → BearsIs g cnt told budget pair other (-1)) ∧
    ∀ mn, mn ∈ bearL g cnt told pair other → (∀ y ∈ bearL g cnt told pair other, mn ≤ y) → BearsIs g cnt told budget pair other (if mn ≤ budget then budget - mn else -1) := by
  obtain ⟨t, r⟩ := other
  obtain ⟨pt, pr⟩ := pair
  simp only at hrow hr
  have hl : ∀ row ∈ g, row.length = gw g := fun row hm => (hR row hm).1
  have hRf : Rect (setG g t r 0) (gw g) := set_rect hrow (by omega) hR
  obtain ⟨brow, hbrow⟩ : ∃ brow, (bar g fun t r => decide ((t, r) ∈ [(pt, pr)]))[t]? = some brow := ⟨_, List.getElem?_eq_getElem (by rw [bar_len]; exact (List.getElem?_eq_some_iff.mp hrow).1)⟩
  have hbl : r < brow.length := by rw [bar_rows hl brow (List.mem_of_getElem? hbrow)]; rw [hl row (List.mem_of_getElem? hrow)] at hr; exact hr
  have lenf : (setG g t r 0).length = g.length := set_len
  have lenb : (setG (bar g fun t r => decide ((t, r) ∈ [(pt, pr)])) t r 0).length = g.length := by rw [set_len, bar_len]
  -- the two tables
  have ww : ∀ a b, ((a, b) ≠ (pt, pr)) → wG (setG (bar g fun t r => decide ((t, r) ∈ [(pt, pr)])) t r 0) a b = wG (setG g t r 0) a b := fun a b hab => by
    rw [wG_set hbrow hbl, wG_set hrow hr, wG_bar]
    have : decide ((a, b) ∈ [(pt, pr)]) = false := by simpa using hab
    rw [this]; simp
  have wp : wG (setG (bar g fun t r => decide ((t, r) ∈ [(pt, pr)])) t r 0) pt pr = none := by
    rw [wG_set hbrow hbl, wG_bar, if_neg fun z => hne (by rw [← z.1, ← z.2])]
    simp
  have toB : ∀ ps, Pg g.length (gw g) (wG (setG g t r 0)) ps → (pt, pr) ∉ ps → Pg g.length (gw g) (wG (setG (bar g fun t r => decide ((t, r) ∈ [(pt, pr)])) t r 0)) ps ∧ wt (wG (setG (bar g fun t r => decide ((t, r) ∈ [(pt, pr)])) t r 0)) ps = wt (wG (setG g t r 0)) ps := fun ps P hn => by
    have e : ∀ p ∈ ps, wG (setG (bar g fun t r => decide ((t, r) ∈ [(pt, pr)])) t r 0) p.1 p.2 = wG (setG g t r 0) p.1 p.2 := fun p hp => ww p.1 p.2 fun z => hn (by rw [← z]; exact hp)
    refine ⟨⟨P.t, P.r, fun p hp => by rw [e p hp]; exact P.ok p hp⟩, ?_⟩
    unfold wt
    congr 1
    exact List.map_congr_left fun p hp => by rw [e p hp]
  have ofB : ∀ ps, Pg g.length (gw g) (wG (setG (bar g fun t r => decide ((t, r) ∈ [(pt, pr)])) t r 0)) ps → (pt, pr) ∉ ps ∧ Pg g.length (gw g) (wG (setG g t r 0)) ps := fun ps P => by
    have hn : (pt, pr) ∉ ps := fun hm => by
      obtain ⟨_, _, c, hc⟩ := P.ok _ hm
      rw [wp] at hc; cases hc
    refine ⟨hn, P.t, P.r, fun p hp => ?_⟩
    have := P.ok p hp
    rw [ww p.1 p.2 fun z => hn (by rw [← z]; exact hp)] at this
    exact this
  have memL : ∀ x, x ∈ bearL g cnt told (pt, pr) (t, r) ↔ ∃ ps, Pg g.length (gw g) (wG (setG (bar g fun t r => decide ((t, r) ∈ [(pt, pr)])) t r 0)) ps ∧ Keeps cnt told ps ∧ (t, r) ∈ ps ∧ wt (wG (setG (bar g fun t r => decide ((t, r) ∈ [(pt, pr)])) t r 0)) ps = x := fun x => by
    unfold bearL
    rw [List.mem_map]
    constructor
    · rintro ⟨q, hq, rfl⟩
      obtain ⟨h1, h2⟩ := List.mem_filter.mp hq
      rw [Bool.and_eq_true, decide_eq_true_iff, decide_eq_true_iff] at h2
      obtain ⟨h3, h4⟩ := (mem_kept hRf).mp h1
      have hpg := h3.pg
      rw [lenf] at hpg
      obtain ⟨P, hw⟩ := toB q.2 hpg h2.2
      exact ⟨q.2, P, h4, h2.1, by rw [hw]; exact h3.cost.symm⟩
    · rintro ⟨ps, P, hk, hm, rfl⟩
      obtain ⟨hn, P'⟩ := ofB ps P
      obtain ⟨ps', pp, hmem⟩ := kept_all (g := setG g t r 0) (m := gw g) hRf (by rw [lenf]; exact P') hk
      refine ⟨_, List.mem_filter.mpr ⟨hmem, ?_⟩, ?_⟩
      · rw [Bool.and_eq_true, decide_eq_true_iff, decide_eq_true_iff]
        exact ⟨pp.subset hm, fun z => hn (pp.symm.subset z)⟩
      · show wt _ ps = _
        exact (toB ps P' hn).2.symm
  have nn : ∀ a b c, wG (setG (bar g fun t r => decide ((t, r) ∈ [(pt, pr)])) t r 0) a b = some c → 0 ≤ c := wG_nn (set_rect hbrow (by omega) (bar_rect hR))
  constructor
  · intro he
    refine ⟨-1, .inl ⟨rfl, fun ps P hk hm => ?_⟩, rfl⟩
    simp only [lenb] at P
    have := (memL _).mpr ⟨ps, P, hk, hm, rfl⟩
    rw [he] at this; cases this
  · intro mn hmn hle
    obtain ⟨ps, P, hk, hm, hw⟩ := (memL mn).mp hmn
    refine ⟨mn, .inr ⟨ps, by simp only [lenb]; exact P, hk, hm, hw, fun qs Q hk' hm' => ?_⟩, ?_⟩
    · simp only [lenb] at Q
      exact hle _ ((memL _).mpr ⟨qs, Q, hk', hm', rfl⟩)
    · have h0 : 0 ≤ mn := by rw [← hw]; exact wt_nn nn
      split <;> split <;> omega
theorem bears_unique {row : List Int} {cnt : Nat} {told : List Nat} {budget : Int} {pair other : Nat × Nat} {x y : Int} (hR : Rect g (gw g)) (hrow : g[other.1]? = some row) (h : BearsIs g cnt told budget pair other x) (h' : BearsIs g cnt told budget pair other y) : x = y := by
  obtain ⟨v, h1, rfl⟩ := h
  obtain ⟨v', h2, rfl⟩ := h'
  obtain ⟨brow, hbrow⟩ : ∃ brow, (bar g fun t r => decide ((t, r) ∈ [pair]))[other.1]? = some brow := ⟨_, List.getElem?_eq_getElem (by rw [bar_len]; exact (List.getElem?_eq_some_iff.mp hrow).1)⟩
  have := with_unique (wG_nn (set_rect hbrow (by omega) (bar_rect hR))) h1 h2
  rw [this]
end
end Mt

set_option Elab.async false
set_option linter.all false
set_option maxRecDepth 100000
/-! Gn19: a list == []. -/
namespace Dn
open PySem PySem.Spec PyProof.Rows L2
theorem shaped_list {ts : List T} (h : plains ts = true) (d : deps ts ≤ 60) : SeqAt.shaped (dP (.lst (ts.map D.t))) = true := by
  have := shaped_plains h d
  show SeqAt.shaped (.list (dPs (ts.map D.t))) = true
  rw [dPs_t]
  simpa [SeqAt.shaped, PyData.canLay0, PyData.depth] using this
theorem fEqNil {ts : List T} {Q : D → Prop} (h : plains ts = true) (d : deps ts ≤ 60) (hQ : Q (.t (.bl (decide (ts = []))))) : fEq (.lst (ts.map D.t)) (.lst []) Q := by
  refine ⟨shaped_list h d, shaped_list (ts := []) rfl (by decide), ?_⟩
  have e : PyData.eqv (dP (.lst (ts.map D.t))) (dP (.lst [])) = decide (ts = []) := by
    show PyData.eqv (.list (dPs (ts.map D.t))) (.list (dPs [])) = _
    rw [dPs_t]
    cases ts with
    | nil => simp [tPs, dPs, PyData.eqv, PyData.eqvAll]
    | cons x xs => simp [tPs, dPs, PyData.eqv, PyData.eqvAll]
  rw [e]; exact hQ
end Dn

set_option Elab.async false
set_option linter.all false
set_option maxRecDepth 100000
set_option maxHeartbeats 400000
/-! Lw: tables, weights and pairings as the program has them. -/
namespace Dn
open PySem PySem.Spec PyProof.Rows L2 Mt
def oiT : Option Int → T
  | none => .non
  | some i => .int i
def noT : Option Nat → T
  | none => .int (-1)
  | some r => .int (r : Int)
abbrev iN (n : Nat) : T := .int (n : Int)
abbrev rowT (r : List Int) : T := .tup (r.map T.int)
abbrev tabD (g : Grid) : D := .t (.tup (g.map rowT))
abbrev nsT (ns : List Nat) : T := .tup (ns.map iN)
abbrev nsD (ns : List Nat) : D := .t (nsT ns)
def rowD (r : List (Option Int)) : D := .lst (r.map (D.t ∘ oiT))
def rowF (r : List (Option Int)) : D := .frz (r.map (D.t ∘ oiT))
def wD (W : WL) : D := .lst (W.map rowD)
def wF (W : WL) : D := .frz (W.map rowD)
def cD (cs : List (Option Int)) : D := .lst (cs.map (D.t ∘ oiT))
def cF (cs : List (Option Int)) : D := .frz (cs.map (D.t ∘ oiT))
def mD (ms : List (Option Nat)) : D := .lst (ms.map (D.t ∘ noT))
def mF (ms : List (Option Nat)) : D := .frz (ms.map (D.t ∘ noT))
section
variable {r : List (Option Int)} {W : WL} {ms : List (Option Nat)} {cs : List (Option Int)}
@[simp] theorem fz_rowD : fz (rowD r) = rowF r := rfl
@[simp] theorem fz_rowF : fz (rowF r) = rowF r := rfl
@[simp] theorem fz_wD : fz (wD W) = wF W := rfl
@[simp] theorem fz_wF : fz (wF W) = wF W := rfl
@[simp] theorem fz_cD : fz (cD cs) = cF cs := rfl
@[simp] theorem fz_cF : fz (cF cs) = cF cs := rfl
@[simp] theorem fz_mD : fz (mD ms) = mF ms := rfl
@[simp] theorem fz_mF : fz (mF ms) = mF ms := rfl
@[simp] theorem cp_rowF : cp (rowF r) = true := rfl
@[simp] theorem cp_wF : cp (wF W) = true := rfl
@[simp] theorem cp_cF : cp (cF cs) = true := rfl
@[simp] theorem cp_mF : cp (mF ms) = true := rfl
@[simp] theorem nf_rowD : nf (rowD r) = true := x_nfsC
@[simp] theorem nf_cD : nf (cD cs) = true := x_nfsC
@[simp] theorem nf_mD : nf (mD ms) = true := x_nfsC
theorem nfs_map {α : Type} {f : α → D} (h : ∀ x, nf (f x) = true) : ∀ xs : List α, nfs (xs.map f) = true
  | [] => rfl
  | x :: xs => by simp only [List.map_cons, x_nfs, h x, nfs_map h xs, Bool.and_self]
@[simp] theorem nf_wD : nf (wD W) = true := nfs_map (fun _ => nf_rowD) W
@[simp] theorem items_rowF : items (rowF r) = some (r.map (D.t ∘ oiT)) := by show some (fzs _) = _; rw [x_fzsC]
@[simp] theorem items_wF : items (wF W) = some (W.map rowF) := by
  show some (fzs (W.map rowD)) = _
  rw [fzs_eq, List.map_map]; rfl
@[simp] theorem items_mF : items (mF ms) = some (ms.map (D.t ∘ noT)) := by show some (fzs _) = _; rw [x_fzsC]
@[simp] theorem items_cF : items (cF cs) = some (cs.map (D.t ∘ oiT)) := by show some (fzs _) = _; rw [x_fzsC]
@[simp] theorem slen_mF : slen (mF ms) = some ms.length := by show some (List.length _) = _; rw [List.length_map]
@[simp] theorem slen_mD : slen (mD ms) = some ms.length := by show some (List.length _) = _; rw [List.length_map]
@[simp] theorem lits_mD : lits (mD ms) = some (ms.map (D.t ∘ noT)) := rfl
@[simp] theorem lits_mF : lits (mF ms) = some (ms.map (D.t ∘ noT)) := by show some (fzs _) = _; rw [x_fzsC]
@[simp] theorem slen_wF : slen (wF W) = some W.length := by show some (List.length _) = _; rw [List.length_map]
end
theorem at_o {α : Type} {f : Option α → T} {L : List (Option α)} {i : Nat} (h : i < L.length) {j : Int} (e : j = i) : L2.atI (L.map (D.t ∘ f)) j = some (.t (f (at1 L i))) := by
  refine at_of (i := i) ?_ e
  rw [List.getElem?_map, at1_lt h]; rfl
section
variable {cs : List (Option Int)} {ms : List (Option Nat)} {W : WL} {i : Nat} {Q : D → Prop}
theorem fIx_cF (h : i < cs.length) (hq : Q (.t (oiT (at1 cs i)))) : fIx (cF cs) (.t (.int (i : Int))) Q := by
  unfold cF
  simp only [x_fIxF, at_o h rfl]
  exact hq
theorem fIx_cD (h : i < cs.length) (hq : Q (.t (oiT (at1 cs i)))) : fIx (cD cs) (.t (.int (i : Int))) Q := by
  unfold cD
  simp only [x_fIxL, at_o h rfl]
  exact ⟨rfl, hq⟩
theorem fIx_mF (h : i < ms.length) (hq : Q (.t (noT (at1 ms i)))) : fIx (mF ms) (.t (.int (i : Int))) Q := by
  unfold mF
  simp only [x_fIxF, at_o h rfl]
  exact hq
theorem fIx_mD (h : i < ms.length) (hq : Q (.t (noT (at1 ms i)))) : fIx (mD ms) (.t (.int (i : Int))) Q := by
  unfold mD
  simp only [x_fIxL, at_o h rfl]
  exact ⟨rfl, hq⟩
theorem fIx_wF {row : List (Option Int)} (h : W[i]? = some row) (hq : Q (rowF row)) : fIx (wF W) (.t (.int (i : Int))) Q := by
  have a : L2.atI (W.map rowD) (i : Int) = some (rowD row) := at_of (i := i) (by rw [List.getElem?_map, h]; rfl) rfl
  unfold wF
  simp only [x_fIxF, a]
  exact hq
theorem fIx_rowF {row : List (Option Int)} (h : i < row.length) (hq : Q (.t (oiT (at1 row i)))) : fIx (rowF row) (.t (.int (i : Int))) Q := fIx_cF (cs := row) h hq
theorem isNon_oI {c : Option Int} : isNon (.t (oiT c)) = decide (c = none) := by cases c <;> simp [oiT, isNon]
@[simp ↓] theorem x_isNoI {c : Option Int} : fIsN (.t (oiT c)) (.t .non) Q = Q (.t (.bl (decide (c = none)))) := by
  unfold fIsN; rw [isNon_oI]; simp
@[simp ↓] theorem x_notNoI {c : Option Int} : fNotN (.t (oiT c)) (.t .non) Q = Q (.t (.bl (!decide (c = none)))) := by
  unfold fNotN; rw [isNon_oI]; simp
theorem oN_neg {o : Option Nat} : (match noT o with | .int i => decide (i = -1) | _ => false) = decide (o = none) := by
  cases o with
  | none => rfl
  | some r => simp [noT]
@[simp ↓] theorem x_eqN1 {o : Option Nat} : fEq (.t (noT o)) (.t (.int (-1))) Q = Q (.t (.bl (decide (o = none)))) := by
  cases o with
  | none => simp [noT]
  | some r =>
    simp only [noT, x_fEqI]
    have : decide ((r : Int) = -1) = false := by simp
    rw [this]; rfl
@[simp ↓] theorem x_neN1 {o : Option Nat} : fNe (.t (noT o)) (.t (.int (-1))) Q = Q (.t (.bl (!decide (o = none)))) := by
  cases o with
  | none => simp [noT]
  | some r =>
    simp only [noT, x_fNeI]
    have : decide ((r : Int) = -1) = false := by simp
    rw [this]; rfl
@[simp ↓] theorem x_eqNi {o : Option Nat} {t : Nat} : fEq (.t (noT o)) (.t (.int (t : Int))) Q = Q (.t (.bl (decide (o = some t)))) := by
  cases o with
  | none =>
    simp only [noT, x_fEqI]
    have : decide ((-1 : Int) = (t : Int)) = false := by simp
    rw [this]; rfl
  | some r =>
    simp only [noT, x_fEqI]
    have : decide ((r : Int) = (t : Int)) = decide (some r = some t) := by
      rw [Bool.eq_iff_iff]; simp; omega
    rw [this]
theorem mem_iN {ns : List Nat} {r : Nat} : (T.int (r : Int) ∈ ns.map iN) ↔ r ∈ ns := by
  rw [List.mem_map]
  constructor
  · rintro ⟨n, h, e⟩
    simp only [iN, T.int.injEq] at e
    have : n = r := by omega
    exact this ▸ h
  · exact fun h => ⟨r, h, rfl⟩
theorem plains_iN {ns : List Nat} : plains (ns.map iN) = true := plains_map fun _ _ => rfl
theorem deps_iN {ns : List Nat} : deps (ns.map iN) ≤ 60 := Nat.le_trans (deps_map (n := 0) fun _ _ => Nat.le_refl _) (by decide)
@[simp ↓] theorem x_fInN {r : Nat} {ns : List Nat} : fIn (.t (.int (r : Int))) (.t (.tup (ns.map iN))) Q = Q (.t (.bl (decide (r ∈ ns)))) := by
  have e : decide (T.int (r : Int) ∈ ns.map iN) = decide (r ∈ ns) := by rw [Bool.eq_iff_iff, decide_eq_true_iff, decide_eq_true_iff]; exact mem_iN
  refine iff_of (fun ⟨ds, h1, _, _, z⟩ => ?_) fun z => fInT rfl (Nat.zero_le _) plains_iN deps_iN (by rw [e]; exact z)
  cases h1
  have := any_plain (a := .int (r : Int)) rfl (xs := ns.map iN) plains_iN
  rw [show dP (.t (.int (r : Int))) = tP (.int (r : Int)) from rfl, this, e] at z
  exact z
@[simp ↓] theorem x_fNotInN {r : Nat} {ns : List Nat} : fNotIn (.t (.int (r : Int))) (.t (.tup (ns.map iN))) Q = Q (.t (.bl (!decide (r ∈ ns)))) := by
  have e : decide (T.int (r : Int) ∈ ns.map iN) = decide (r ∈ ns) := by rw [Bool.eq_iff_iff, decide_eq_true_iff, decide_eq_true_iff]; exact mem_iN
  refine iff_of (fun ⟨ds, h1, _, _, z⟩ => ?_) fun z => fNotInT rfl (Nat.zero_le _) plains_iN deps_iN (by rw [e]; exact z)
  cases h1
  have := any_plain (a := .int (r : Int)) rfl (xs := ns.map iN) plains_iN
  rw [show dP (.t (.int (r : Int))) = tP (.int (r : Int)) from rfl, this, e] at z
  exact z
end
theorem set_mapO {α : Type} {f : Option α → T} {L : List (Option α)} {i : Nat} {v : Option α} : (L.map (D.t ∘ f)).set i (.t (f v)) = (L.set i v).map (D.t ∘ f) := by rw [List.map_set]; rfl
section
variable {ds : DS} {a b h : Nat} {p : Bool} {Qn : DS → Prop}
theorem gIx_c {cs : List (Option Int)} {v : Option Int} (ha : ds[a]? = some (some (cD cs))) (hb : ds[b]? = some (some (.t (.int (h : Int))))) (hl : h < cs.length) (hq : Qn (ds.set a (some (cD (cs.set h v))))) : gIx p (oN a) (oN b) (.t (oiT v)) ds Qn := by
  have hx : ixN (cs.map (D.t ∘ oiT)).length (h : Int) = some h := ix_of (by rw [List.length_map]; exact hl) rfl
  simp only [x_gIx, x_oN, ha, hb, x_nvs2, true_and, x_plc1, x_get2, Option.join_some, x_pget0, x_pset0, cD, hx, set_mapO]
  exact hq
theorem gIx_m {ms : List (Option Nat)} {v : Option Nat} (ha : ds[a]? = some (some (mD ms))) (hb : ds[b]? = some (some (.t (.int (h : Int))))) (hl : h < ms.length) (hq : Qn (ds.set a (some (mD (ms.set h v))))) : gIx p (oN a) (oN b) (.t (noT v)) ds Qn := by
  have hx : ixN (ms.map (D.t ∘ noT)).length (h : Int) = some h := ix_of (by rw [List.length_map]; exact hl) rfl
  simp only [x_gIx, x_oN, ha, hb, x_nvs2, true_and, x_plc1, x_get2, Option.join_some, x_pget0, x_pset0, mD, hx, set_mapO]
  exact hq
end
theorem tgt2 {i j : Nat} {x y : T} {ds : DS} {Qn : DS → Prop} (h : Qn ((ds.set i (some (.t x))).set j (some (.t y)))) : gT 2 (gsC (gN i) (gsC (gN j) gsN)) (.t (.tup [x, y])) ds Qn := by
  simp only [x_gT, x_titT, List.map_cons, List.map_nil, x_gsC, x_gN, x_gsN, true_and]
  exact ⟨rfl, h⟩
abbrev prT (q : Nat × Nat) : T := .tup [.int q.1, .int q.2]
abbrev pD (ps : List (Nat × Nat)) : D := .t (.tup (ps.map prT))
theorem memP {t r : Nat} {ps : List (Nat × Nat)} : (prT (t, r) ∈ ps.map prT) ↔ (t, r) ∈ ps := by
  rw [List.mem_map]
  refine ⟨fun ⟨q, hq, e⟩ => ?_, fun h => ⟨_, h, rfl⟩⟩
  obtain ⟨a, b⟩ := q
  simp at e
  have e1 : a = t := by omega
  have e2 : b = r := by omega
  subst e1 e2
  exact hq
theorem fInP {t r : Nat} {ps : List (Nat × Nat)} {Q : D → Prop} (h : Q (.t (.bl (decide ((t, r) ∈ ps))))) : fIn (.t (prT (t, r))) (pD ps) Q := by
  refine fInT (by simp) (by simp) (plains_map fun x _ => by simp) (Nat.le_trans (deps_map (n := 1) fun x _ => by simp) (by decide)) ?_
  have e : decide (prT (t, r) ∈ ps.map prT) = decide ((t, r) ∈ ps) := by
    rw [Bool.eq_iff_iff]; simp only [decide_eq_true_iff]; exact memP
  rw [e]; exact h
theorem fNotInP {t r : Nat} {ps : List (Nat × Nat)} {Q : D → Prop} (h : Q (.t (.bl (!decide ((t, r) ∈ ps))))) : fNotIn (.t (prT (t, r))) (pD ps) Q := by
  refine fNotInT (by simp) (by simp) (plains_map fun x _ => by simp) (Nat.le_trans (deps_map (n := 1) fun x _ => by simp) (by decide)) ?_
  have e : decide (prT (t, r) ∈ ps.map prT) = decide ((t, r) ∈ ps) := by
    rw [Bool.eq_iff_iff]; simp only [decide_eq_true_iff]; exact memP
  rw [e]; exact h
/-- a pairing and what stands around it -/
structure Stg (n m : Nat) (W : WL) (ms hs : List (Option Nat)) : Prop where
  wn : W.length = n
  rect : RectW W m
  mn : ms.length = n
  hm : hs.length = m
  n10 : n ≤ 10
  m10 : m ≤ 10
  mat : Mat n m (wOf W) (at1 ms) (at1 hs)
theorem wOf_at {W : WL} {t r : Nat} {row : List (Option Int)} (h : W[t]? = some row) : wOf W t r = at1 row r := by unfold wOf; rw [h]; rfl
theorem wOf_row {W : WL} {t r : Nat} {c : Int} (h : wOf W t r = some c) : ∃ row, W[t]? = some row ∧ at1 row r = some c := by
  unfold wOf at h
  cases e : W[t]? with
  | none => rw [e] at h; cases h
  | some row => rw [e] at h; exact ⟨row, rfl, h⟩
theorem lt_at1 {α : Type} {L : List (Option α)} {i : Nat} {x : α} (h : at1 L i = some x) : i < L.length := lt_of_at1 (by rw [h]; simp)
/-- a list of sums, clause in clause -/
theorem sum2_gen {α β : Type} {g g1 : GD} {q q1 : QD} {i1 : ID} {e : ED} {vs vs1 : List Nat} {Q : D → DS → Prop} {ds0 : DS} {tD : α → D} {tD1 : β → D} (xs : List α) (ys : α → List β) (f : α → β → Int)
    (h : ∀ x, x ∈ xs → ∀ (Z : List D → DS → Prop) (W : DS → Prop), (∀ ds3, dwipe ds3 vs1 = dwipe ds3 vs1 → dwipe (dwipe ds3 vs1) vs = ds0 → (∀ y, y ∈ ys x → ∀ Z' : D → DS → Prop, ∀ W' : DS → Prop, (∀ ds4, dwipe ds4 vs1 = dwipe ds3 vs1 → Z' (.t (.int (f x y))) ds4) → g1 (tD1 y) (dwipe ds3 vs1) fun ds1 => q1 ds1 fun b ds2 => if b = true then e ds2 Z' else W' ds2) → Z ((ys x).map tD1) ds3) → g (tD x) ds0 fun ds1 => q ds1 fun b ds2 => if b = true then i1 ds2 Z else W ds2)
    (hl : ((xs.map fun x => (ys x).length).sum) ≤ sizeLine) (hQ : Q (.t (.int ((xs.map fun x => ((ys x).map (f x)).sum).sum))) ds0) : Sum2D g q i1 g1 q1 e vs vs1 Q (xs.map tD) ds0 := by
  refine ⟨fun i acc ds => ds = ds0 ∧ acc = ((xs.take i).map fun x => (ys x).map (f x)).flatten ∧ i ≤ xs.length, ⟨rfl, by simp, Nat.zero_le _⟩, ?_, ?_⟩
  · rintro i d acc ds hd ⟨rfl, rfl, hi⟩
    obtain ⟨x, ex, rfl⟩ := map_get hd
    have hlt := (List.getElem?_eq_some_iff.mp ex).1
    have hta : xs.take (i + 1) = xs.take i ++ [x] := by rw [List.take_succ, ex]; rfl
    refine h x (List.mem_of_getElem? ex) _ _ fun ds3 _ e3 hin => ?_
    refine ⟨fun j acc ds' => ds' = dwipe ds3 vs1 ∧ acc = ((xs.take i).map fun x => (ys x).map (f x)).flatten ++ ((ys x).take j).map (f x) ∧ j ≤ (ys x).length, ⟨rfl, by simp, Nat.zero_le _⟩, ?_, ?_⟩
    · rintro j d' acc' ds' hd' ⟨rfl, rfl, hj⟩
      obtain ⟨y, ey, rfl⟩ := map_get hd'
      have hlt' := (List.getElem?_eq_some_iff.mp ey).1
      refine hin y (List.mem_of_getElem? ey) _ _ fun ds4 e4 => ⟨_, rfl, ?_, e4, ?_, hlt'⟩
      · have e1 : xs = xs.take i ++ x :: xs.drop (i + 1) := by
          have z := List.take_append_drop i xs
          rw [List.drop_eq_getElem_cons hlt, (List.getElem?_eq_some_iff.mp ex).2] at z
          exact z.symm
        have e2 : (xs.map fun x => (ys x).length).sum = ((xs.take i).map fun x => (ys x).length).sum + ((ys x).length + ((xs.drop (i + 1)).map fun x => (ys x).length).sum) := by
          conv => lhs; rw [e1]
          rw [List.map_append, List.sum_append, List.map_cons, List.sum_cons]
        have e3 : ((xs.take i).map fun x => (ys x).map (f x)).flatten.length = ((xs.take i).map fun x => (ys x).length).sum := by
          rw [List.length_flatten, List.map_map]
          congr 1
          refine List.map_congr_left fun x _ => by simp
        rw [List.length_append, e3, List.length_map, List.length_take]
        omega
      · rw [List.append_assoc]
        congr 1
        rw [List.take_succ, ey]; simp
    · rintro acc' ds' ⟨rfl, rfl, hj⟩
      refine ⟨e3, ?_, hlt⟩
      rw [hta, List.map_append, List.flatten_append, List.length_map, List.take_length]
      simp
  · rintro acc ds ⟨rfl, rfl, hi⟩
    rw [List.length_map, List.take_length]
    have e : ((xs.map fun x => (ys x).map (f x)).flatten).sum = (xs.map fun x => ((ys x).map (f x)).sum).sum := by
      clear hQ hl h hi
      induction xs with
      | nil => rfl
      | cons x xs ih => simp only [List.map_cons, List.flatten_cons, isum_append, List.sum_cons, ih]
    rw [e]
    exact hQ
end Dn

set_option Elab.async false
set_option linter.all false
set_option maxRecDepth 100000
set_option maxHeartbeats 400000
/-! tables: width, barred, without, weighed -/
namespace K80
open PySem PySem.Spec PyProof.Rows L2 Dn Mt
theorem szK {n : Nat} (h : n ≤ 1000) : n ≤ sizeLine := Nat.le_of_lt (small1000 h)
def g_width : FD := fun l Q => ∃ g : Grid, l = [tabD g] ∧ Q (.t (.int (gw g : Nat))) []
theorem d_width (l : List D) (Q : D → List D → Prop) (h : g_width l Q) : fnD N_width M_width bd_width l Q := by
  obtain ⟨g, rfl, h⟩ := h
  cases g with
  | nil =>
    simp [fnD, bd_width, startD, truD]
    exact h
  | cons r g =>
    simp [fnD, bd_width, startD, truD]
    simpa [gw] using h
/-- rows of one length, few -/
structure Tab (g : Grid) (m : Nat) : Prop where
  n : g.length ≤ 10
  m10 : m ≤ 10
  len : ∀ r ∈ g, r.length = m
def g_barred : FD := fun l Q => ∃ (g : Grid) (ps : List (Nat × Nat)) (m : Nat), l = [tabD g, pD ps] ∧ Tab g m ∧ Q (tabD (bar g fun t r => decide ((t, r) ∈ ps))) []
theorem d_barred (l : List D) (Q : D → List D → Prop) (h : g_barred l Q) : fnD N_barred M_barred bd_barred l Q := by
  obtain ⟨g, ps, m, rfl, hs, h⟩ := h
  simp [fnD, bd_barred, startD, and_assoc]
  refine comp_map (F := fun p => .t (rowT (barRow (fun t r => decide ((t, r) ∈ ps)) p.2 p.1))) g.zipIdx (fun p hp Z W hz => ?_) (by rw [List.length_zipIdx]; exact szK (by have := hs.n; omega)) ?_
  · obtain ⟨row, t⟩ := p
    have hrow : row.length ≤ 10 := by rw [hs.len row (List.mem_of_getElem? (List.mem_zipIdx_iff_getElem?.mp hp))]; exact hs.m10
    have hz := hz [some (tabD g), some (pD ps), some (.t (.int t)), some (.t (rowT row)), none, none] rfl
    simp
    refine comp_map (F := fun (q : Int × Nat) => .t (.int (if decide ((t, q.2) ∈ ps) = true then -1 else q.1))) row.zipIdx (fun q hq Z' W' hz' => ?_) (by rw [List.length_zipIdx]; exact szK (by omega)) ?_
    · obtain ⟨c, r⟩ := q
      have hz' := hz' [some (tabD g), some (pD ps), some (.t (.int t)), some (.t (rowT row)), some (.t (.int r)), some (.t (.int c))] rfl
      simp [-List.mem_map]
      refine ⟨by decide, fInP ?_⟩
      by_cases hc : (t, r) ∈ ps
      · simp [hc] at hz' ⊢
        exact hz'
      · simp [hc] at hz' ⊢
        exact hz'
    · have e : (row.zipIdx.map fun (q : Int × Nat) => D.t (.int (if decide ((t, q.2) ∈ ps) = true then -1 else q.1))) = (barRow (fun t r => decide ((t, r) ∈ ps)) t row).map (D.t ∘ T.int) := by rw [barRow, List.map_map]; rfl
      rw [e]
      refine ⟨_, rfl, x_cpsC, ?_⟩
      rw [x_mkTupC]
      exact hz
  · have e : (g.zipIdx.map fun p => D.t (rowT (barRow (fun t r => decide ((t, r) ∈ ps)) p.2 p.1))) = (bar g fun t r => decide ((t, r) ∈ ps)).map (D.t ∘ rowT) := by rw [bar, List.map_map]; rfl
    rw [e]
    generalize bar g (fun t r => decide ((t, r) ∈ ps)) = G at h
    simp
    exact h
def g_without : FD := fun l Q => ∃ (g : Grid) (ts rs : List Nat) (m : Nat), l = [tabD g, nsD ts, nsD rs] ∧ Tab g m ∧ Q (tabD (wo g ts rs)) []
theorem d_without (l : List D) (Q : D → List D → Prop) (h : g_without l Q) : fnD N_without M_without bd_without l Q := by
  obtain ⟨g, ts, rs, m, rfl, hs, h⟩ := h
  simp [fnD, bd_without, startD, and_assoc]
  refine comp_filter (F := fun p => .t (rowT (woRow rs p.1))) g.zipIdx (fun p => decide (p.2 ∉ ts)) (fun p hp Z W hz hn => ?_) (by rw [List.length_zipIdx]; exact szK (by have := hs.n; omega)) ?_
  · obtain ⟨row, t⟩ := p
    have hrow : row.length ≤ 10 := by rw [hs.len row (List.mem_of_getElem? (List.mem_zipIdx_iff_getElem?.mp hp))]; exact hs.m10
    simp
    by_cases ht : t ∈ ts
    · have hn := hn (by simpa using ht) [some (tabD g), some (nsD ts), some (nsD rs), some (.t (.int t)), some (.t (rowT row)), none, none] rfl
      simp [ht]
      exact hn
    · have hz := hz (by simpa using ht) [some (tabD g), some (nsD ts), some (nsD rs), some (.t (.int t)), some (.t (rowT row)), none, none] rfl
      simp [ht]
      refine comp_filter (F := fun (q : Int × Nat) => .t (.int q.1)) row.zipIdx (fun q => decide (q.2 ∉ rs)) (fun q hq Z' W' hz' hn' => ?_) (by rw [List.length_zipIdx]; exact szK (by omega)) ?_
      · obtain ⟨c, r⟩ := q
        simp
        by_cases hr : r ∈ rs
        · have hn' := hn' (by simpa using hr) [some (tabD g), some (nsD ts), some (nsD rs), some (.t (.int t)), some (.t (rowT row)), some (.t (.int r)), some (.t (.int c))] rfl
          simp [hr]
          exact hn'
        · have hz' := hz' (by simpa using hr) [some (tabD g), some (nsD ts), some (nsD rs), some (.t (.int t)), some (.t (rowT row)), some (.t (.int r)), some (.t (.int c))] rfl
          simp [hr]
          exact hz'
      · have e : ((row.zipIdx.filter fun q => decide (q.2 ∉ rs)).map fun (q : Int × Nat) => D.t (.int q.1)) = (woRow rs row).map (D.t ∘ T.int) := by rw [woRow, List.map_map]; rfl
        rw [e]
        refine ⟨_, rfl, x_cpsC, ?_⟩
        rw [x_mkTupC]
        exact hz
  · have e : ((g.zipIdx.filter fun p => decide (p.2 ∉ ts)).map fun p => D.t (rowT (woRow rs p.1))) = (wo g ts rs).map (D.t ∘ rowT) := by rw [wo, List.map_map]; rfl
    rw [e]
    generalize wo g ts rs = G at h
    simp
    exact h
def g_weight_of : FD := fun l Q => ∃ c x : Int, l = [.t (.int c), .t (.int x)] ∧ Q (.t (oiT (if c = -1 then none else some (c - x)))) []
theorem d_weight_of (l : List D) (Q : D → List D → Prop) (h : g_weight_of l Q) : fnD N_weight_of M_weight_of bd_weight_of l Q := by
  obtain ⟨c, x, rfl, h⟩ := h
  by_cases hc : c = -1
  · simp [hc, oiT] at h
    simp [fnD, bd_weight_of, startD, hc]
    exact h
  · simp [hc, oiT] at h
    simp [fnD, bd_weight_of, startD, hc]
    exact h
def g_weighed : FD := fun l Q => ∃ (g : Grid) (told : List Nat) (m : Nat), l = [tabD g, nsD told] ∧ Tab g m ∧ Q (wD (wtab g told (muchOf g))) []
theorem d_weighed (l : List D) (Q : D → List D → Prop) (h : g_weighed l Q) : fnD N_weighed M_weighed (bd_weighed g_weight_of) l Q := by
  obtain ⟨g, told, m, rfl, hs, h⟩ := h
  have hn := hs.n
  have hm := hs.m10
  simp [fnD, bd_weighed, startD, and_assoc]
  refine sum2_gen (tD := D.t ∘ rowT) (tD1 := D.t ∘ T.int) (vs := [2, 3]) (vs1 := [3]) g (fun row => row) (fun row c => if (0 : Int) > c then 0 else c) (fun row hr Z W hz => ?_) (szK ?_) ?_
  · simp
    refine hz [some (tabD g), some (nsD told), some (.t (rowT row)), none, none, none] rfl rfl fun c hc Z' W' hz' => ?_
    have hz' := hz' [some (tabD g), some (nsD told), some (.t (rowT row)), some (.t (.int c)), none, none] rfl
    simp
    exact hz'
  · have : ∀ l : List (List Int), (∀ r ∈ l, r.length = m) → (l.map fun x => x.length).sum = l.length * m := fun l => by
      induction l with
      | nil => intro _; simp
      | cons x l ih =>
        intro hx
        rw [List.map_cons, List.sum_cons, ih fun y hy => hx y (List.mem_cons_of_mem _ hy), hx x List.mem_cons_self, List.length_cons, Nat.add_mul]
        omega
    rw [this g hs.len]
    have : g.length * m ≤ 10 * 10 := Nat.mul_le_mul hn hm
    omega
  · have e : (1 : Int) + (g.map fun row => (row.map fun c => if (0 : Int) > c then 0 else c).sum).sum = muchOf g := by
      unfold muchOf
      congr 2
      refine List.map_congr_left fun row _ => ?_
      congr 1
      refine List.map_congr_left fun c _ => ?_
      split <;> omega
    simp
    rw [show (1 : Int) + (g.map fun row => (row.map fun c => if c < 0 then 0 else c).sum).sum = muchOf g from e]
    generalize muchOf g = much at h
    refine comp_map (F := fun row => rowD (wrow told much row)) g (fun row hr Z W hz => ?_) (szK (by omega)) ?_
    · have hrow : row.length ≤ 10 := by rw [hs.len row hr]; exact hm
      have hz := hz [some (tabD g), some (nsD told), some (.t (rowT row)), none, some (.t (.int much)), none] rfl
      simp
      refine comp_map (F := fun (q : Int × Nat) => .t (oiT (if q.1 = -1 then none else some (q.1 - if q.2 ∈ told then much else 0)))) row.zipIdx (fun q hq Z' W' hz' => ?_) (by rw [List.length_zipIdx]; exact szK (by omega)) ?_
      · obtain ⟨c, r⟩ := q
        have hz' := hz' [some (tabD g), some (nsD told), some (.t (rowT row)), some (.t (.int c)), some (.t (.int much)), some (.t (.int r))] rfl
        by_cases ht : r ∈ told
        · simp [ht]
          refine ⟨c, much, rfl, ?_⟩
          simp [ht] at hz'
          exact hz'
        · simp [ht]
          refine ⟨c, 0, rfl, ?_⟩
          simp [ht] at hz' ⊢
          exact hz'
      · have e : (row.zipIdx.map fun (q : Int × Nat) => D.t (oiT (if q.1 = -1 then none else some (q.1 - if q.2 ∈ told then much else 0)))) = (wrow told much row).map (D.t ∘ oiT) := by rw [wrow, List.map_map]; rfl
        rw [e]
        exact hz
    · have e : (g.map fun row => rowD (wrow told much row)) = (wtab g told much).map rowD := by rw [wtab, List.map_map]; rfl
      rw [e]
      have : nf (wD (wtab g told much)) = true := nf_wD
      simp
      exact ⟨this, h⟩
end K80

set_option Elab.async false
set_option linter.all false
set_option maxRecDepth 100000
set_option maxHeartbeats 400000
/-! looking for cheaper reports -/
namespace K80
open PySem PySem.Spec PyProof.Rows L2 Dn Mt
def g_pushed : FD := fun l Q => ∃ j W ms hs cs ts n m a b lam rho i mv, l = [.t (.int (j : Nat)), wF W, mF hs, cD cs, mD ts] ∧ Stg n m W ms hs ∧ Cert n m (wOf W) (at1 ms) (at1 hs) a b lam ∧ cs.length = n ∧ ts.length = n ∧ j < n ∧ at1 cs j ≠ none ∧
  Lk n m (wOf W) (at1 ms) (at1 hs) (at1 cs) (at1 ts) rho i j 0 mv ∧ ∀ cs' ts' rho' mb, cs'.length = n → ts'.length = n → Lk n m (wOf W) (at1 ms) (at1 hs) (at1 cs') (at1 ts') rho' i (j + 1) 0 (mv || mb) → Q (.t (.bl mb)) [cD cs', mD ts']
section
variable {E : DE} {j : Nat} {W : WL} {ms hs ts : List (Option Nat)} {cs : List (Option Int)} {n m : Nat} {a b : Nat → Int} {lam : Int} {rho : Nat → Nat} {i q : Nat} {mv mb : Bool} {x6 x7 x8 x9 : Option D}
/-- one report -/
theorem p_turn (S : Stg n m W ms hs) (C : Cert n m (wOf W) (at1 ms) (at1 hs) a b lam) (hc : cs.length = n) (ht : ts.length = n) {x : Int} (hx : at1 cs j = some x) {row : List (Option Int)} (hr : W[j]? = some row) (hq : q < m)
    (L : Lk n m (wOf W) (at1 ms) (at1 hs) (at1 cs) (at1 ts) rho i j q (mv || mb)) (hct : E.ct = E.nx)
    (h : ∀ cs' ts' rho' mb' x6 x7 x8 x9, cs'.length = n → ts'.length = n → at1 cs' j = some x → Lk n m (wOf W) (at1 ms) (at1 hs) (at1 cs') (at1 ts') rho' i j (q + 1) (mv || mb') → E.nx [some (.t (.int (j : Nat))), some (wF W), some (mF hs), some (cD cs'), some (mD ts'), some (.t (.bl mb')), x6, x7, x8, x9]) :
    st_pushed_2 { nx := fun ds' => st_pushed_4 { nx := fun ds' => st_pushed_5 { nx := fun ds' => st_pushed_9 E ds', rt := E.rt, bk := E.bk, ct := E.ct } ds', rt := E.rt, bk := E.bk, ct := E.ct } ds', rt := E.rt, bk := E.bk, ct := E.ct } [some (.t (.int (j : Nat))), some (wF W), some (mF hs), some (cD cs), some (mD ts), some (.t (.bl mb)), some (.t (.int (q : Nat))), some (.t (oiT (at1 row q))), x8, x9] := by
  have hql : q < hs.length := by rw [S.hm]; exact hq
  have hjl := lt_at1 hx
  have keep : (∀ x' c h c', at1 cs j = some x' → wOf W j q = some c → at1 hs q = some h → h ≠ j → wOf W h q = some c' → ∃ y, at1 cs h = some y ∧ y ≤ x' + c - c') → ∀ x6 x7 x8 x9, E.nx [some (.t (.int (j : Nat))), some (wF W), some (mF hs), some (cD cs), some (mD ts), some (.t (.bl mb)), x6, x7, x8, x9] := fun z x6 x7 x8 x9 => h cs ts rho mb x6 x7 x8 x9 hc ht hx (L.skip z)
  simp [st_pushed_2]
  refine fIx_mF hql ?_
  cases ec : at1 row q with
  | none =>
    simp [st_pushed_4, st_pushed_3, hct]
    exact keep (fun x' c h c' _ e => by rw [wOf_at hr, ec] at e; cases e) _ _ _ _
  | some c =>
    cases eh : at1 hs q with
    | none =>
      simp [st_pushed_4, st_pushed_3, hct]
      exact keep (fun x' c h c' _ _ e => by rw [eh] at e; cases e) _ _ _ _
    | some h0 =>
      by_cases ej : h0 = j
      · subst ej
        simp [st_pushed_4, st_pushed_3, hct]
        exact keep (fun x' c h c' _ _ e e2 => by rw [eh] at e; cases e; exact absurd rfl e2) _ _ _ _
      · have hm := S.mat.bwd _ _ eh
        obtain ⟨hn, _, _, c', hc'⟩ := S.mat.fwd _ _ hm
        obtain ⟨rowh, hrh, ec'⟩ := wOf_row hc'
        simp [st_pushed_4, ej]
        simp [st_pushed_5, oiT, noT]
        refine fIx_cD (by omega) ?_
        simp [hx, oiT]
        refine fIx_wF hrh (fIx_rowF (lt_at1 ec') ?_)
        simp [ec', oiT]
        simp [st_pushed_9]
        have mov : (∀ y, at1 cs h0 = some y → x + c - c' < y) → st_pushed_6 { nx := fun ds' => st_pushed_7 { nx := fun ds' => st_pushed_8 E ds', rt := E.rt, bk := E.bk, ct := E.ct } ds', rt := E.rt, bk := E.bk, ct := E.ct } [some (.t (.int (j : Nat))), some (wF W), some (mF hs), some (cD cs), some (mD ts), some (.t (.bl mb)), some (.t (.int (q : Nat))), some (.t (.int c)), some (.t (.int (h0 : Nat))), some (.t (.int (x + c - c')))] := fun hlt => by
          have L' := L.move S.mat C hx (by rw [wOf_at hr]; exact ec) eh ej hc' hlt
          rw [← at1_set (L := cs) (by omega), ← at1_set (L := ts) (by omega)] at L'
          simp only [st_pushed_6, x_sAsg, x_dN, List.getElem?_cons_succ, List.getElem?_cons_zero]
          refine ⟨rfl, gIx_c (cs := cs) (v := some (x + c - c')) (h := h0) rfl rfl (by omega) ?_⟩
          simp only [st_pushed_7, x_sAsg, x_dN, List.set_cons_succ, List.set_cons_zero, List.getElem?_cons_succ, List.getElem?_cons_zero]
          refine ⟨rfl, gIx_m (ms := ts) (v := some j) (h := h0) rfl rfl (by omega) ?_⟩
          simp [st_pushed_8]
          refine h _ _ _ true _ _ _ _ (by simpa using hc) (by simpa using ht) ?_ (by simpa using L')
          rw [at1_set (by omega), up_ne fun z => ej z.symm]; exact hx
        refine fIx_cD (by omega) ?_
        cases ey : at1 cs h0 with
        | none =>
          simp
          exact mov fun y e => by rw [ey] at e; cases e
        | some y =>
          simp
          refine fIx_cD (by omega) ?_
          simp [ey, oiT]
          by_cases hlt : x + c - c' < y
          · simp [hlt]
            exact mov fun y' e => by rw [ey] at e; cases e; exact hlt
          · simp [hlt]
            exact keep (fun x' c1 h1 c2 e1 e2 e3 e4 e5 => by
              rw [hx] at e1; cases e1
              rw [wOf_at hr, ec] at e2; cases e2
              rw [eh] at e3; cases e3
              rw [hc'] at e5; cases e5
              exact ⟨y, ey, by omega⟩) _ _ _ _
end
theorem d_pushed (l : List D) (Q : D → List D → Prop) (h : g_pushed l Q) : fnD N_pushed M_pushed bd_pushed l Q := by
  obtain ⟨j, W, ms, hs, cs, ts, n, m, a, b, lam, rho, i, mv, rfl, S, C, hc, ht, hj, hx, L, h⟩ := h
  cases ex : at1 cs j with
  | none => exact absurd ex hx
  | some x =>
    obtain ⟨row, hr⟩ : ∃ row, W[j]? = some row := ⟨_, List.getElem?_eq_getElem (by rw [S.wn]; exact hj)⟩
    have hrl : row.length = m := S.rect row (List.mem_of_getElem? hr)
    show bd_pushed _ [some (.t (.int (j : Nat))), some (wF W), some (mF hs), some (cD cs), some (mD ts), none, none, none, none, none]
    simp only [bd_pushed, x_sSeq]
    simp [st_pushed_1]
    simp [st_pushed_10]
    refine fIx_wF hr ?_
    simp
    refine ⟨fun q ds => ∃ cs' ts' rho' mb x6 x7 x8 x9, cs'.length = n ∧ ts'.length = n ∧ at1 cs' j = some x ∧ Lk n m (wOf W) (at1 ms) (at1 hs) (at1 cs') (at1 ts') rho' i j q (mv || mb) ∧ ds = [some (.t (.int (j : Nat))), some (wF W), some (mF hs), some (cD cs'), some (mD ts'), some (.t (.bl mb)), x6, x7, x8, x9], ⟨cs, ts, rho, false, none, none, none, none, hc, ht, ex, by simpa using L, rfl⟩, ?_, ?_⟩
    · rintro q d ds hd ⟨cs', ts', rho', mb, x6, x7, x8, x9, hc', ht', hx', L', rfl⟩
      obtain ⟨c, er, rfl⟩ := zidx_get hd
      have hq : q < row.length := (List.getElem?_eq_some_iff.mp er).1
      have ec : at1 row q = c := by unfold at1; rw [er]; rfl
      rw [← ec]
      refine tgt2 ?_
      simp only [x_sSeq, List.set_cons_succ, List.set_cons_zero]
      refine p_turn S C hc' ht' hx' hr (by omega) L' ?_ ?_
      · rfl
      · exact fun cs2 ts2 rho2 mb2 x6 x7 x8 x9 k1 k2 k3 k4 => ⟨cs2, ts2, rho2, mb2, x6, x7, x8, x9, k1, k2, k3, k4, rfl⟩
    · rintro ds ⟨cs', ts', rho', mb, x6, x7, x8, x9, hc', ht', hx', L', rfl⟩
      rw [List.length_map, List.length_zipIdx, hrl] at L'
      simp [st_pushed_11, pv]
      exact h _ _ _ _ hc' ht' (L'.nextT S.mat (.inl rfl))
end K80

set_option Elab.async false
set_option linter.all false
set_option maxRecDepth 100000
set_option maxHeartbeats 400000
/-! the rounds of looking -/
namespace K80
open PySem PySem.Spec PyProof.Rows L2 Dn Mt
def g_looking : FD := fun l Q => ∃ W ms hs n m a b lam, l = [wF W, mF ms, mF hs] ∧ Stg n m W ms hs ∧ Cert n m (wOf W) (at1 ms) (at1 hs) a b lam ∧ ∀ cs ts, cs.length = n → ts.length = n → Fx n m (wOf W) (at1 ms) (at1 hs) (at1 cs) (at1 ts) → Q (.tupM [cD cs, mD ts]) []
section
variable {E : DE} {j : Nat} {W : WL} {ms hs ts : List (Option Nat)} {cs : List (Option Int)} {n m : Nat} {a b : Nat → Int} {lam : Int} {rho : Nat → Nat} {i q : Nat} {mv : Bool} {x3 x5 x7 x8 : Option D}
theorem l_turn (S : Stg n m W ms hs) (C : Cert n m (wOf W) (at1 ms) (at1 hs) a b lam) (hc : cs.length = n) (ht : ts.length = n) (hj : j < n)
    (L : Lk n m (wOf W) (at1 ms) (at1 hs) (at1 cs) (at1 ts) rho i j 0 mv)
    (h : ∀ cs' ts' rho' mv', cs'.length = n → ts'.length = n → Lk n m (wOf W) (at1 ms) (at1 hs) (at1 cs') (at1 ts') rho' i (j + 1) 0 mv' → E.nx [some (wF W), some (mF ms), some (mF hs), x3, some (cD cs'), x5, some (mD ts'), some (.t (.bl mv')), some (.t (.int (j : Nat)))]) :
    st_looking_5 g_pushed E [some (wF W), some (mF ms), some (mF hs), x3, some (cD cs), x5, some (mD ts), some (.t (.bl mv)), some (.t (.int (j : Nat)))] := by
  simp [st_looking_5]
  refine fIx_cD (by omega) ?_
  cases ex : at1 cs j with
  | none =>
    simp
    exact h _ _ _ _ hc ht (L.nextT S.mat (.inr ex))
  | some x =>
    simp [getM, getA, clrM, updM, okA]
    refine ⟨j, W, ms, hs, cs, ts, n, m, a, b, lam, rho, i, mv, rfl, S, C, hc, ht, hj, by rw [ex]; simp, L, fun cs' ts' rho' mb k1 k2 k3 => ?_⟩
    cases mb with
    | false =>
      simp [updM]
      exact h _ _ _ _ k1 k2 (by simpa using k3)
    | true =>
      simp [updM, st_looking_4]
      exact h _ _ _ _ k1 k2 (by simpa using k3)
end
def RInv (W : WL) (ms hs : List (Option Nat)) (n m : Nat) (i : Nat) (ds : DS) : Prop := ∃ (cs : List (Option Int)) (ts : List (Option Nat)) (rho : Nat → Nat) (x3 x5 x7 x8 : Option D), cs.length = n ∧ ts.length = n ∧ Lk n m (wOf W) (at1 ms) (at1 hs) (at1 cs) (at1 ts) rho i 0 0 false ∧ (i = 0 ∨ ∃ h, at1 cs h ≠ none ∧ rho h = i) ∧ ds = [some (wF W), some (mF ms), some (mF hs), x3, some (cD cs), x5, some (mD ts), x7, x8]
def TInv (W : WL) (ms hs : List (Option Nat)) (n m : Nat) (x3 x5 : Option D) (i j : Nat) (ds : DS) : Prop := ∃ (cs : List (Option Int)) (ts : List (Option Nat)) (rho : Nat → Nat) (mv : Bool) (x8 : Option D), cs.length = n ∧ ts.length = n ∧ Lk n m (wOf W) (at1 ms) (at1 hs) (at1 cs) (at1 ts) rho i j 0 mv ∧ ds = [some (wF W), some (mF ms), some (mF hs), x3, some (cD cs), x5, some (mD ts), some (.t (.bl mv)), x8]
theorem d_looking (l : List D) (Q : D → List D → Prop) (h : g_looking l Q) : fnD N_looking M_looking (bd_looking g_pushed) l Q := by
  obtain ⟨W, ms, hs, n, m, a, b, lam, rfl, S, C, h⟩ := h
  have hn := S.n10
  show bd_looking g_pushed _ [some (wF W), some (mF ms), some (mF hs), none, none, none, none, none, none]
  simp only [bd_looking, x_sSeq]
  simp [st_looking_1, -x_sSeq]
  refine comp_map (F := fun o => .t (oiT (if o = none then some 0 else none))) ms (fun o ho Z Wz hz => ?_) (szK (by have := S.mn; omega)) ?_
  · have hz := hz [some (wF W), some (mF ms), some (mF hs), some (.t (noT o)), none, none, none, none, none] rfl
    cases o with
    | none => simp; exact hz
    | some r => simp; exact hz
  simp [st_looking_2, -x_sSeq]
  refine comp_map (F := fun o => .t (noT none)) ms (fun o ho Z Wz hz => ?_) (szK (by have := S.mn; omega)) ?_
  · have hz := hz [some (wF W), some (mF ms), some (mF hs), none, some (.lst (ms.map fun o => D.t (oiT (if o = none then some 0 else none)))), some (.t (noT o)), none, none, none] rfl
    simp
    exact hz
  have e1 : D.lst (ms.map fun o => D.t (oiT (if o = none then some 0 else none))) = cD (ms.map fun o => if o = none then some 0 else none) := by unfold cD; rw [List.map_map]; rfl
  have e2 : D.lst (ms.map fun _ => D.t (noT none)) = mD (ms.map fun _ => none) := by unfold mD; rw [List.map_map]; rfl
  rw [e1, e2]
  have fin : ∀ (cs : List (Option Int)) (ts : List (Option Nat)) x3 x5 x7 x8, cs.length = n → ts.length = n → Fx n m (wOf W) (at1 ms) (at1 hs) (at1 cs) (at1 ts) → st_looking_10 { nx := finD M_looking Q (.t .non), rt := finD M_looking Q } [some (wF W), some (mF ms), some (mF hs), x3, some (cD cs), x5, some (mD ts), x7, x8] := fun cs ts x3 x5 x7 x8 k1 k2 k3 => by
    have := h cs ts k1 k2 k3
    simp [st_looking_10]
    have e : mkTup [cD cs, mD ts] = .tupM [cD cs, mD ts] := rfl
    rw [e]
    simp
    exact ⟨szK (by decide), this⟩
  simp only [List.set_cons_succ, List.set_cons_zero]
  simp [st_looking_9, -x_sSeq]
  refine ⟨RInv W ms hs n m, ⟨_, _, _, none, none, none, none, by rw [List.length_map]; exact S.mn, by rw [List.length_map]; exact S.mn, Lk.start S.mat (fun t => ?_) (fun t => ?_), .inl rfl, rfl⟩, ?_, ?_⟩
  · unfold at1
    rw [List.getElem?_map]
    cases e : ms[t]? with
    | none =>
      have : ¬ t < n := fun hlt => by
        rw [List.getElem?_eq_getElem (by rw [S.mn]; exact hlt)] at e; cases e
      rw [if_neg fun z => this z.1]; rfl
    | some o =>
      have hlt := (List.getElem?_eq_some_iff.mp e).1
      rw [S.mn] at hlt
      cases o with
      | none => rw [if_pos ⟨hlt, rfl⟩]; rfl
      | some r => rw [if_neg fun z => nomatch z.2]; rfl
  · unfold at1
    rw [List.getElem?_map]
    cases ms[t]? <;> rfl
  · rintro i d ds hd ⟨cs, ts, rho, x3, x5, x7, x8, hc, ht, L, hi, rfl⟩
    simp only [x_gN, x_sSeq, List.set_cons_succ, List.set_cons_zero]
    simp only [st_looking_3, x_sAsg, x_dC, x_gN, List.set_cons_succ, List.set_cons_zero]
    simp [st_looking_6, -x_sSeq]
    refine ⟨by have := S.mn; omega, TInv W ms hs n m x3 (some d) i, ⟨cs, ts, rho, false, x8, hc, ht, L, rfl⟩, ?_, ?_⟩
    · rintro j d' ds hd' ⟨cs, ts, rho, mv, x8, hc, ht, L, rfl⟩
      obtain ⟨hj, rfl⟩ := rangeD_get hd'
      rw [S.mn] at hj
      simp only [x_gN, List.set_cons_succ, List.set_cons_zero, Int.zero_add]
      refine l_turn S C hc ht hj L ?_
      exact fun cs' ts' rho' mv' k1 k2 k3 => ⟨cs', ts', rho', mv', _, k1, k2, k3, rfl⟩
    · rintro ds ⟨cs, ts, rho, mv, x8, hc, ht, L, rfl⟩
      rw [rangeD_len, S.mn] at L
      cases mv with
      | false =>
        simp [st_looking_8, st_looking_7, truD]
        exact fin _ _ _ _ _ _ hc ht (L.fix S.mat)
      | true =>
        simp [st_looking_8, truD]
        obtain ⟨L', hm⟩ := L.nextR
        exact ⟨cs, ts, rho, _, _, _, _, hc, ht, L', .inr hm, rfl⟩
  · rintro ds ⟨cs, ts, rho, x3, x5, x7, x8, hc, ht, L, hi, rfl⟩
    rw [List.length_map, S.mn] at L hi
    refine fin _ _ _ _ _ _ hc ht ?_
    rcases hi with hi | hi
    · subst hi
      exact L.fix S.mat
    · exact (L.end_ hi).elim
end K80

set_option Elab.async false
set_option linter.all false
set_option maxRecDepth 100000
set_option maxHeartbeats 400000
/-! the best end; the pairing made one greater -/
namespace K80
open PySem PySem.Spec PyProof.Rows L2 Dn Mt
def bT : EndO → T
  | none => .tup []
  | some (D, t, r) => .tup [.int D, iN t, iN r]
def g_best_end : FD := fun l Q => ∃ W hs cs n m, l = [wF W, mF hs, cF cs] ∧ W.length = n ∧ RectW W m ∧ hs.length = m ∧ cs.length = n ∧ n ≤ 10 ∧ m ≤ 10 ∧ ∀ o, Bs m (wOf W) (at1 hs) (at1 cs) n 0 o → Q (.t (bT o)) []
def BInv (W : WL) (hs : List (Option Nat)) (cs : List (Option Int)) (m : Nat) (i : Nat) (ds : DS) : Prop := ∃ o x4 x5 x6 x7 x8, Bs m (wOf W) (at1 hs) (at1 cs) i 0 o ∧ ds = [some (wF W), some (mF hs), some (cF cs), some (.t (bT o)), x4, x5, x6, x7, x8]
def BInv1 (W : WL) (hs : List (Option Nat)) (cs : List (Option Int)) (m : Nat) (i : Nat) (row : List (Option Int)) (q : Nat) (ds : DS) : Prop := ∃ o x6 x7 x8, Bs m (wOf W) (at1 hs) (at1 cs) i q o ∧ ds = [some (wF W), some (mF hs), some (cF cs), some (.t (bT o)), some (.t (.int (i : Nat))), some (rowF row), x6, x7, x8]
theorem truB {o : EndO} : truD (.t (bT o)) = some (!decide (o = none)) := by
  cases o with
  | none => rfl
  | some p => obtain ⟨D, t, r⟩ := p; rfl
section
variable {E : DE} {W : WL} {hs : List (Option Nat)} {cs : List (Option Int)} {m i q : Nat} {o : EndO} {x8 : Option D}
theorem b_turn {row : List (Option Int)} (hr : W[i]? = some row) (hm : hs.length = m) (hq : q < m) (hi : i < cs.length) (B : Bs m (wOf W) (at1 hs) (at1 cs) i q o) {x : Int} (hx : at1 cs i = some x) (hct : E.ct = E.nx)
    (h : ∀ o' x6 x7 x8, Bs m (wOf W) (at1 hs) (at1 cs) i (q + 1) o' → E.nx [some (wF W), some (mF hs), some (cF cs), some (.t (bT o')), some (.t (.int (i : Nat))), some (rowF row), x6, x7, x8]) :
    st_best_end_5 { nx := fun ds' => st_best_end_6 { nx := fun ds' => st_best_end_8 E ds', rt := E.rt, bk := E.bk, ct := E.ct } ds', rt := E.rt, bk := E.bk, ct := E.ct } [some (wF W), some (mF hs), some (cF cs), some (.t (bT o)), some (.t (.int (i : Nat))), some (rowF row), some (.t (.int (q : Nat))), some (.t (oiT (at1 row q))), x8] := by
  cases ec : at1 row q with
  | none =>
    simp [st_best_end_5, st_best_end_4, hct]
    exact h _ _ _ _ (B.skip fun x c _ e => by rw [wOf_at hr, ec] at e; cases e)
  | some c =>
    simp [st_best_end_5]
    refine fIx_mF (by omega) ?_
    cases eh : at1 hs q with
    | some h0 =>
      simp [st_best_end_4, hct]
      exact h _ _ _ _ (B.skip fun x c _ _ e => by rw [eh] at e; cases e)
    | none =>
      simp [st_best_end_6]
      refine fIx_cF hi ?_
      simp [hx, oiT]
      simp [st_best_end_8, truB]
      have take : (∀ D t0 r0, o = some (D, t0, r0) → x + c < D) → st_best_end_7 E [some (wF W), some (mF hs), some (cF cs), some (.t (bT o)), some (.t (.int (i : Nat))), some (rowF row), some (.t (.int (q : Nat))), some (.t (.int c)), some (.t (.int (x + c)))] := fun z => by
        simp [st_best_end_7]
        exact ⟨szK (by decide), h _ _ _ _ (B.take hx (by rw [wOf_at hr]; exact ec) hq eh z)⟩
      cases o with
      | none =>
        simp
        exact take fun _ _ _ e => nomatch e
      | some p =>
        obtain ⟨D, t0, r0⟩ := p
        simp [bT]
        by_cases hlt : x + c < D
        · simp [hlt]
          exact take fun _ _ _ e => by cases e; exact hlt
        · simp [hlt]
          exact h _ _ _ _ (B.skip fun x' c' e1 e2 _ => by
            rw [hx] at e1; cases e1
            rw [wOf_at hr, ec] at e2; cases e2
            exact ⟨D, t0, r0, rfl, by omega⟩)
end
theorem d_best_end (l : List D) (Q : D → List D → Prop) (h : g_best_end l Q) : fnD N_best_end M_best_end bd_best_end l Q := by
  obtain ⟨W, hs, cs, n, m, rfl, hW, hR, hh, hc, hn, hm, h⟩ := h
  show bd_best_end _ [some (wF W), some (mF hs), some (cF cs), none, none, none, none, none, none]
  simp only [bd_best_end, x_sSeq]
  simp [st_best_end_1]
  simp [st_best_end_10, -x_sSeq]
  refine ⟨BInv W hs cs m, ⟨none, none, none, none, none, none, Bs.start, rfl⟩, ?_, ?_⟩
  · rintro i d ds hd ⟨o, x4, x5, x6, x7, x8, B, rfl⟩
    have e : enumD (W.map rowF) = W.zipIdx.map fun p => pairD (.t (.int (p.2 : Nat))) (rowF p.1) := by
      refine List.ext_getElem? fun i => ?_
      rw [List.getElem?_map, List.getElem?_zipIdx]
      cases h : W[i]? with
      | none =>
        rw [List.getElem?_eq_none (by rw [enumD_length, List.length_map]; rw [List.getElem?_eq_none_iff] at h; exact h)]
        rfl
      | some t =>
        rw [enumD_get (d := rowF t) (by rw [List.getElem?_map, h]; rfl)]
        simp
    rw [e] at hd
    obtain ⟨row, hr, rfl⟩ := zidx_get hd
    have hi : i < cs.length := by have := (List.getElem?_eq_some_iff.mp hr).1; omega
    have hrl : row.length = m := hR row (List.mem_of_getElem? hr)
    have et : tits (pairD (.t (.int (i : Nat))) (rowF row)) = some [.t (.int (i : Nat)), rowF row] := rfl
    simp only [x_gT, et, x_gsC, x_gN, x_gsN, true_and, List.set_cons_succ, List.set_cons_zero]
    refine ⟨rfl, ?_⟩
    simp only [x_sSeq]
    simp [st_best_end_3, -x_sSeq]
    refine fIx_cF hi ?_
    cases ex : at1 cs i with
    | none =>
      simp [st_best_end_2]
      exact ⟨o, _, _, _, _, _, B.next (.inr ex), rfl⟩
    | some x =>
      simp
      simp [st_best_end_9, -x_sSeq]
      refine ⟨BInv1 W hs cs m i row, ⟨o, x6, x7, x8, B, rfl⟩, ?_, ?_⟩
      · rintro q d ds hd ⟨o, x6, x7, x8, B, rfl⟩
        obtain ⟨c, er, rfl⟩ := zidx_get hd
        have hq : q < row.length := (List.getElem?_eq_some_iff.mp er).1
        have ec : at1 row q = c := by unfold at1; rw [er]; rfl
        rw [← ec]
        refine tgt2 ?_
        simp only [x_sSeq, List.set_cons_succ, List.set_cons_zero]
        refine b_turn hr hh (by omega) hi B ex ?_ ?_
        · rfl
        · exact fun o' x6 x7 x8 B' => ⟨o', x6, x7, x8, B', rfl⟩
      · rintro ds ⟨o, x6, x7, x8, B, rfl⟩
        rw [List.length_map, List.length_zipIdx, hrl] at B
        exact ⟨o, _, _, _, _, _, B.next (.inl rfl), rfl⟩
  · rintro ds ⟨o, x4, x5, x6, x7, x8, B, rfl⟩
    rw [enumD_length, List.length_map, hW] at B
    simp [st_best_end_11]
    exact h o B
/-! grown -/
def g_grown : FD := fun l Q => ∃ W ms hs n m a b lam, l = [wF W, mD ms, mD hs] ∧ Stg n m W ms hs ∧ Cert n m (wOf W) (at1 ms) (at1 hs) a b lam ∧
  ((∀ ps, Pg n m (wOf W) ps → ps.length ≤ (prs n (at1 ms)).length) → Q (.t (.bl false)) [mD ms, mD hs]) ∧
  ∀ ms' hs' a' b' lam', Stg n m W ms' hs' → Cert n m (wOf W) (at1 ms') (at1 hs') a' b' lam' → (prs n (at1 ms')).length = (prs n (at1 ms)).length + 1 → (∀ r, at1 hs r ≠ none → at1 hs' r ≠ none) → Q (.t (.bl true)) [mD ms', mD hs']
def GInv (W : WL) (ms hs ts : List (Option Nat)) (cs : List (Option Int)) (n m : Nat) (p q : Nat → Int) (x5 : Option D) (k : Nat) (ds : DS) : Prop := ∃ (ms' hs' : List (Option Nat)) (t r : Option Nat) (x8 : Option D), ms'.length = n ∧ hs'.length = m ∧ ds = [some (wF W), some (mD ms'), some (mD hs'), some (cD cs), some (mD ts), x5, some (.t (noT t)), some (.t (noT r)), x8] ∧
  ((∃ t' r' l, t = some t' ∧ r = some r' ∧ l.length = k ∧ Gr n m (wOf W) (at1 ms) (at1 hs) (at1 ts) p q (at1 ms') (at1 hs') t' r' l) ∨ (t = none ∧ Grown1 n m (wOf W) (at1 ms) (at1 hs) p q (at1 ms') (at1 hs')))
theorem d_grown (l : List D) (Q : D → List D → Prop) (h : g_grown l Q) : fnD N_grown M_grown (bd_grown g_looking g_best_end) l Q := by
  obtain ⟨W, ms, hs, n, m, a, b, lam, rfl, S, C, hno, hyes⟩ := h
  show bd_grown g_looking g_best_end _ [some (wF W), some (mD ms), some (mD hs), none, none, none, none, none, none]
  simp only [bd_grown, x_sSeq]
  simp [st_grown_1]
  refine ⟨W, ms, hs, n, m, a, b, lam, rfl, S, C, fun cs ts hc ht F => ?_⟩
  simp
  simp [st_grown_2]
  refine ⟨W, hs, cs, n, m, rfl, S.wn, S.rect, S.hm, hc, S.n10, S.m10, fun o B => ?_⟩
  cases o with
  | none =>
    have := hno fun ps P => F.most S.mat (B.no F.dn) P
    simp [st_grown_4, truB, st_grown_3]
    exact this
  | some e =>
    obtain ⟨D, t0, r0⟩ := e
    have Be := Bs.best (n := n) B F.dn
    obtain ⟨lw, G⟩ := Be.begin_ F S.mat C
    simp [st_grown_4, truB]
    simp [st_grown_5, bT]
    simp [st_grown_6]
    simp [st_grown_12, -x_sSeq]
    refine ⟨GInv W ms hs ts cs n m (a' (at1 cs) a (D - lam)) (b' (at1 cs) a b (at1 hs) lam (D - lam)) _, ⟨lw.length, ms, hs, some t0, some r0, _, S.mn, S.hm, rfl, .inl ⟨t0, r0, lw, rfl, rfl, rfl, G⟩⟩, ?_⟩
    rintro k ds ⟨ms', hs', t, r, x8, hm', hh', rfl, (⟨t', r', l, rfl, rfl, rfl, G'⟩ | ⟨rfl, G'⟩)⟩
    · have htn := (G'.old t' G'.way.head)
      have hr := G'.half.rm
      simp
      simp only [st_grown_7, x_sAsg]
      simp [noT]
      refine fIx_mD (by omega) ?_
      try simp
      simp only [st_grown_8, x_sAsg, x_dN, List.getElem?_cons_succ, List.getElem?_cons_zero]
      refine ⟨rfl, gIx_m (ms := ms') (v := some r') (h := t') rfl rfl (by omega) ?_⟩
      simp only [st_grown_9, x_sAsg, x_dN, List.set_cons_succ, List.set_cons_zero, List.getElem?_cons_succ, List.getElem?_cons_zero]
      refine ⟨rfl, gIx_m (ms := hs') (v := some t') (h := r') rfl rfl (by omega) ?_⟩
      simp [st_grown_10]
      simp [st_grown_11]
      refine fIx_mD (by omega) ?_
      try simp
      cases em : at1 ms' t' with
      | none =>
        have G2 := G'.last em
        have : at1 ts t' = none := (F.fr t' htn.1 (by rw [← htn.2]; exact em)).2
        rw [this]
        rw [← at1_set (L := ms') (by omega), ← at1_set (L := hs') (by omega)] at G2
        exact ⟨0, by have := G'.way.head; exact List.length_pos_of_mem this, _, _, none, none, _, by simpa using hm', by simpa using hh', rfl, .inr ⟨rfl, G2⟩⟩
      | some g =>
        obtain ⟨t2, l2, e2, hl2, G2⟩ := G'.next_ em
        rw [e2]
        rw [← at1_set (L := ms') (by omega), ← at1_set (L := hs') (by omega)] at G2
        exact ⟨l2.length, hl2, _, _, some t2, some g, _, by simpa using hm', by simpa using hh', rfl, .inl ⟨t2, g, l2, rfl, rfl, rfl, G2⟩⟩
    · have := hyes ms' hs' _ _ _ ⟨S.wn, S.rect, hm', hh', S.n10, S.m10, G'.mat⟩ (G'.cert Be F S.mat C) G'.size fun r' => G'.keepR r'
      simp
      simp [st_grown_13]
      exact this
end K80

set_option Elab.async false
set_option linter.all false
set_option maxRecDepth 100000
set_option maxHeartbeats 400000
/-! the rows of least pairings -/
namespace K80
open PySem PySem.Spec PyProof.Rows L2 Dn Mt
def g_mates_cost : FD := fun l Q => ∃ g ms m, l = [tabD g, mF ms] ∧ Tab g m ∧ ms.length = g.length ∧ (∀ t r, at1 ms t = some r → ∃ c, wG g t r = some c) ∧ Q (.t (.int (wt (wG g) (Mt.prs g.length (at1 ms))))) []
theorem at_tab {g : Grid} {t : Nat} {row : List Int} (h : g[t]? = some row) : L2.atI (g.map rowT) (t : Int) = some (rowT row) := at_of (i := t) (by rw [List.getElem?_map, h]; rfl) rfl
theorem at_row {row : List Int} {r : Nat} {c : Int} (h : row[r]? = some c) : L2.atI (row.map T.int) (r : Int) = some (.int c) := at_of (i := r) (by rw [List.getElem?_map, h]; rfl) rfl
theorem d_mates_cost (l : List D) (Q : D → List D → Prop) (h : g_mates_cost l Q) : fnD N_mates_cost M_mates_cost bd_mates_cost l Q := by
  obtain ⟨g, ms, m, rfl, T, hl, hw, h⟩ := h
  have hn := T.n
  simp [fnD, bd_mates_cost, startD]
  refine sum_gen ms.zipIdx (fun p => !decide (p.1 = none)) (fun p => (wG g p.2 (p.1.getD 0)).getD 0) (fun p hp Z W hz hn => ?_) (szK (by rw [List.length_zipIdx]; omega)) ?_
  · obtain ⟨o, t⟩ := p
    have ho := List.mem_zipIdx_iff_getElem?.mp hp
    cases o with
    | none =>
      have hn := hn rfl [some (tabD g), some (mF ms), some (.t (.int (t : Nat))), some (.t (noT none))] rfl
      simp
      exact hn
    | some r =>
      have hz := hz rfl [some (tabD g), some (mF ms), some (.t (.int (t : Nat))), some (.t (noT (some r)))] rfl
      obtain ⟨c, hc⟩ := hw t r (by unfold at1; rw [ho]; rfl)
      obtain ⟨⟨row, e1, e2⟩, e3⟩ := wG_some.mp hc
      simp [hc] at hz
      simp [at_tab e1]
      simp [noT, at_row e2]
      exact hz
  · have e : ((ms.zipIdx.filter fun p => !decide (p.1 = none)).map fun p => (wG g p.2 (p.1.getD 0)).getD 0).sum = wt (wG g) (Mt.prs g.length (at1 ms)) := by
      rw [← hl, ← prs_zip]
      unfold wt
      rw [List.map_map]; rfl
    rw [e]
    simp
    exact h
abbrev rowO (p : Int × List (Option Nat)) : T := .tup [.int p.1, .tup (p.2.map noT)]
def rsD (R : Rows) : D := .lst (R.map (D.t ∘ rowO))
def rsF (R : Rows) : D := .frz (R.map (D.t ∘ rowO))
@[simp] theorem fz_rsD {R : Rows} : fz (rsD R) = rsF R := rfl
@[simp] theorem nf_rsD {R : Rows} : nf (rsD R) = true := x_nfsC
@[simp] theorem slen_rsD {R : Rows} : slen (rsD R) = some R.length := by show some (List.length _) = _; rw [List.length_map]
def TdOk (g : Grid) (told : List Nat) : Prop := told.Nodup ∧ ((∀ r ∈ told, r < gw g) ∨ g = [])
def g_least_pairings : FD := fun l Q => ∃ g told most, l = [tabD g, nsD told, .t (.int (most : Nat))] ∧ Tab g (gw g) ∧ Rect g (gw g) ∧ TdOk g told ∧ most ≤ 500 ∧ told.length ≤ 100 ∧ ∀ R, RowsEnd g told (max most told.length) R → Q (rsD R) []
/-- at a turn -/
structure LI (g : Grid) (told : List Nat) (ms hs : List (Option Nat)) (R : Rows) (a b : Nat → Int) (lam : Int) (k : Nat) : Prop where
  st : Stg g.length (gw g) (wtab g told (muchOf g)) ms hs
  ce : Cert g.length (gw g) (wOf (wtab g told (muchOf g))) (at1 ms) (at1 hs) a b lam
  num : (Mt.prs g.length (at1 ms)).length = k - 1
  rows : RowsOk g told R
  len : R.length = k - told.length
  held : told.length < k → ∀ r ∈ told, at1 hs r ≠ none
def LInv (g : Grid) (told : List Nat) (most : Nat) (k : Nat) (ds : DS) : Prop := ∃ ms hs R a b lam x4 x8 x9, LI g told ms hs R a b lam k ∧ ds = [some (tabD g), some (nsD told), some (.t (.int (most : Nat))), some (wD (wtab g told (muchOf g))), x4, some (mD ms), some (mD hs), some (rsD R), x8, x9]
section
variable {E : DE} {g : Grid} {told : List Nat} {most k : Nat} {ms hs : List (Option Nat)} {R : Rows} {a b : Nat → Int} {lam : Int} {x4 x9 : Option D}
/-- the second half of a turn: the pairing has k pairs -/
theorem lp_half (T : Tab g (gw g)) (Rc : Rect g (gw g)) (hT : TdOk g told) (ht : told.length ≤ 100) (hk : k ≤ 600) (S : Stg g.length (gw g) (wtab g told (muchOf g)) ms hs) (C : Cert g.length (gw g) (wOf (wtab g told (muchOf g))) (at1 ms) (at1 hs) a b lam)
    (hnum : (Mt.prs g.length (at1 ms)).length = k) (hR : RowsOk g told R) (hl : R.length = k - told.length) (hh : told.length < k → ∀ r ∈ told, at1 hs r ≠ none)
    (hno : R = [] → told.length = k → (∀ qs, Pg g.length (gw g) (wG g) qs → Cov told qs → False) → ∀ x9, E.bk [some (tabD g), some (nsD told), some (.t (.int (most : Nat))), some (wD (wtab g told (muchOf g))), x4, some (mD ms), some (mD hs), some (rsD R), some (.t (.int (k : Nat))), x9])
    (h : ∀ R' x9, LI g told ms hs R' a b lam (k + 1) → E.nx [some (tabD g), some (nsD told), some (.t (.int (most : Nat))), some (wD (wtab g told (muchOf g))), x4, some (mD ms), some (mD hs), some (rsD R'), some (.t (.int (k : Nat))), x9]) :
    st_least_pairings_8 { nx := fun ds' => st_least_pairings_10 g_mates_cost E ds', rt := E.rt, bk := E.bk, ct := E.ct } [some (tabD g), some (nsD told), some (.t (.int (most : Nat))), some (wD (wtab g told (muchOf g))), x4, some (mD ms), some (mD hs), some (rsD R), some (.t (.int (k : Nat))), x9] := by
  have M1 := S.mat
  have C1 := C
  rw [wOf_wtab] at M1 C1
  have last : (told.length ≤ k → ∀ r ∈ told, at1 hs r ≠ none) → ∀ x9, st_least_pairings_10 g_mates_cost E [some (tabD g), some (nsD told), some (.t (.int (most : Nat))), some (wD (wtab g told (muchOf g))), x4, some (mD ms), some (mD hs), some (rsD R), some (.t (.int (k : Nat))), x9] := fun hh2 x9 => by
    by_cases hle : told.length ≤ k
    · have row : RowOk g told (told.length + R.length) (wt (wG g) (Mt.prs g.length (at1 ms))) ms := by
        have hM := mat_w1 M1
        refine ⟨S.mn, prs_pg hM, by omega, prs_cov hM (hh2 hle), rfl, fun qs Q hc hq => ?_⟩
        exact least_spec (wG_nn Rc) M1 C1 hT.1 (hh2 hle) (by omega) Q hc (by omega)
      have := h (R ++ [(_, ms)]) x9 ⟨S, C, by omega, hR.snoc row, by simp; omega, fun _ => hh2 hle⟩
      simp [st_least_pairings_10, hle]
      simp [st_least_pairings_9, rsD]
      refine ⟨g, ms, _, rfl, T, S.mn, fun t r e => ?_, ?_⟩
      · obtain ⟨c, hc⟩ := (M1.fwd t r e).2.2.2
        obtain ⟨c', h', _⟩ := w1_some.mp hc
        exact ⟨c', h'⟩
      simp
      refine ⟨szK (by decide), small1000 (by omega), ?_⟩
      have e : (R.map (D.t ∘ rowO) ++ [D.t (.tup [.int (wt (wG g) (Mt.prs g.length (at1 ms))), .tup (ms.map noT)])]) = (R ++ [(wt (wG g) (Mt.prs g.length (at1 ms)), ms)]).map (D.t ∘ rowO) := by rw [List.map_append]; rfl
      rw [e]
      exact this
    · have := h R x9 ⟨S, C, by omega, hR, by omega, fun z => by omega⟩
      simp [st_least_pairings_10, hle]
      exact this
  by_cases he : k = told.length
  · simp [st_least_pairings_8, he]
    have hrl : ∀ r ∈ told, r < hs.length := fun r hr => by
      rw [S.hm]
      rcases hT.2 with z | z
      · exact z r hr
      · have e0 : (Mt.prs g.length (at1 ms)).length = 0 := by rw [z]; rfl
        have : told.length = 0 := by omega
        rw [List.length_eq_zero_iff.mp this] at hr
        cases hr
    refine test_any told (fun _ => true) (fun r => decide (at1 hs r = none)) (fun r hr Z W hz hn => ?_) (szK (by omega)) ?_
    · have hz := hz rfl [some (tabD g), some (nsD told), some (.t (.int (most : Nat))), some (wD (wtab g told (muchOf g))), x4, some (mD ms), some (mD hs), some (rsD R), some (.t (.int (told.length : Nat))), some (.t (.int (r : Nat)))] rfl
      simp
      refine fIx_mD (hrl r hr) ?_
      simp
      exact hz
    · have et : ∀ b, truD (.t (.bl b)) = some b := fun _ => rfl
      simp only [et]
      by_cases hf : ∃ r ∈ told, at1 hs r = none
      · obtain ⟨r, hr, hrn⟩ := hf
        have hany : told.any (fun x => true && decide (at1 hs x = none)) = true := List.any_eq_true.mpr ⟨r, hr, by simp [hrn]⟩
        rw [hany, if_pos rfl]
        have hR0 : R = [] := List.length_eq_zero_iff.mp (by omega)
        have := hno hR0 he.symm (fun qs Q hc => told_none (wG_nn Rc) (fun ps P => much_ok P) M1 C1 hT.1 (by omega) hr hrn Q hc) none
        rw [he] at this
        simp [st_least_pairings_7]
        exact this
      · have hany : told.any (fun x => true && decide (at1 hs x = none)) = false := by
          rw [Bool.eq_false_iff]
          intro z
          obtain ⟨r, hr, e⟩ := List.any_eq_true.mp z
          exact hf ⟨r, hr, by simpa using e⟩
        rw [hany, if_neg Bool.false_ne_true]
        have := last (fun _ r hr e => hf ⟨r, hr, e⟩) none
        rw [he] at this
        exact this
  · have he' : ¬ (k : Int) = (told.length : Int) := by omega
    simp [st_least_pairings_8, he']
    exact last (fun hle => hh (by omega)) _
end
theorem at1_none {α β : Type} {xs : List α} : at1 (xs.map fun _ => (none : Option β)) = fun _ => none := by
  funext i
  unfold at1
  rw [List.getElem?_map]
  cases xs[i]? <;> rfl
theorem d_least_pairings (l : List D) (Q : D → List D → Prop) (h : g_least_pairings l Q) : fnD N_least_pairings M_least_pairings (bd_least_pairings g_weighed g_width g_grown g_mates_cost) l Q := by
  obtain ⟨g, told, most, rfl, T, Rc, hT, hmost, htl, h⟩ := h
  have hn := T.n
  have hm := T.m10
  show bd_least_pairings g_weighed g_width g_grown g_mates_cost _ [some (tabD g), some (nsD told), some (.t (.int (most : Nat))), none, none, none, none, none, none, none]
  simp only [bd_least_pairings, x_sSeq]
  simp [st_least_pairings_1, -x_sSeq]
  refine ⟨g, told, _, rfl, T, ?_⟩
  simp [st_least_pairings_2, -x_sSeq]
  refine comp_map (F := fun _ => .t (noT none)) g (fun row hr Z W hz => ?_) (szK (by omega)) ?_
  · have hz := hz [some (tabD g), some (nsD told), some (.t (.int (most : Nat))), some (wD (wtab g told (muchOf g))), some (.t (rowT row)), none, none, none, none, none] rfl
    simp
    exact hz
  have e1 : D.lst (g.map fun _ => D.t (noT none)) = mD (g.map fun _ => none) := by unfold mD; rw [List.map_map]; rfl
  rw [e1]
  simp [st_least_pairings_3, -x_sSeq]
  refine ⟨g, rfl, ?_⟩
  simp [-x_sSeq]
  have hgw : gw g ≤ 10 := hm
  refine ⟨by omega, ?_⟩
  rw [rangeD_map]
  refine comp_map (F := fun _ => .t (noT none)) (List.range (gw g)) (fun i hi Z W hz => ?_) (szK (by rw [List.length_range]; omega)) ?_
  · have hz := hz [some (tabD g), some (nsD told), some (.t (.int (most : Nat))), some (wD (wtab g told (muchOf g))), some (.t (.int (0 + (i : Int)))), some (mD (g.map fun _ => none)), none, none, none, none] rfl
    simp at hz
    simp
    exact hz
  have e2 : D.lst ((List.range (gw g)).map fun _ => D.t (noT none)) = mD ((List.range (gw g)).map fun _ => none) := by unfold mD; rw [List.map_map]; rfl
  rw [e2]
  simp [st_least_pairings_4, -x_sSeq]
  simp [st_least_pairings_11, -x_sSeq]
  have eK : ((if most < told.length then (told.length : Int) else (most : Int)) + 1) = ((max most told.length + 1 : Nat) : Int) := by
    split <;> omega
  rw [eK]
  have hK : max most told.length ≤ 500 := by omega
  generalize hKe : max most told.length = K at hK h
  have fin : ∀ ms hs R x3 x4 x8 x9, RowsEnd g told K R → st_least_pairings_12 { nx := finD M_least_pairings Q (.t .non), rt := finD M_least_pairings Q } [some (tabD g), some (nsD told), some (.t (.int (most : Nat))), x3, x4, some (mD ms), some (mD hs), some (rsD R), x8, x9] := fun ms hs R x3 x4 x8 x9 z => by
    have := h R z
    simp [st_least_pairings_12]
    exact this
  refine ⟨by omega, by omega, LInv g told most, ⟨_, _, [], fun _ => 0, fun _ => -(muchOf g), -(muchOf g), none, none, none, ⟨⟨wtab_len, wtab_rect T.len, by simp, by simp, hn, hm, ?_⟩, ?_, ?_, fun i c M e => by simp at e, by simp, fun z => by omega⟩, rfl⟩, ?_, ?_⟩
  · rw [at1_none, at1_none]; exact Mat.nil
  · rw [at1_none, at1_none, wOf_wtab]
    refine Cert.nil fun t r c _ _ e => ?_
    obtain ⟨c', e1, e2⟩ := w1_some.mp e
    have h0 := wG_nn Rc t r c' e1
    have hmu := much_ok (g := g) (m := gw g) (ps := []) ⟨by simp, by simp, fun p hp => by cases hp⟩
    simp [wt] at hmu
    split at e2 <;> omega
  · rw [at1_none, prs_nil]; rfl
  · rintro k d ds hd ⟨ms, hs, R, a, b, lam, x4, x8, x9, L, rfl⟩
    obtain ⟨hk, rfl⟩ := rangeD_get hd
    have hk : k ≤ K := by omega
    simp only [x_gN, List.set_cons_succ, List.set_cons_zero, Int.zero_add, x_sSeq]
    by_cases h0 : k = 0
    · subst h0
      simp [st_least_pairings_6, -x_sSeq]
      refine lp_half (k := 0) T Rc hT htl (by decide) L.st L.ce L.num L.rows L.len L.held ?_ ?_
      · intro hR hl hno x9
        subst hR
        refine fin _ _ _ _ _ _ _ ⟨L.rows, Nat.zero_le _, fun _ qs Q' hc _ => hno qs Q' hc⟩
      · exact fun R' x9 L' => ⟨ms, hs, R', a, b, lam, x4, _, x9, L', rfl⟩
    · have hk0 : 0 < k := by omega
      simp [st_least_pairings_6, hk0, -x_sSeq, getM, getA, clrM, updM, okA]
      refine ⟨wtab g told (muchOf g), ms, hs, g.length, gw g, a, b, lam, rfl, L.st, L.ce, fun hmax => ?_, fun ms' hs' a' b' lam' S' C' hnum hkeep => ?_⟩
      · simp [updM, st_least_pairings_5, -x_sSeq]
        have hnum := L.num
        have hlen := L.len
        have no : ∀ qs, Pg g.length (gw g) (wG g) qs → qs.length ≤ k - 1 := fun qs P => by
          have := hmax qs (by rw [wOf_wtab]; exact pg_w1.mpr P)
          omega
        refine fin _ _ _ _ _ _ _ ⟨L.rows, by omega, fun _ qs P hc hl => ?_⟩
        have := no qs P
        omega
      · simp [updM, -x_sSeq]
        have hnum0 := L.num
        refine lp_half (k := k) T Rc hT htl (by omega) S' C' (by omega) L.rows L.len (fun hlt r hr => hkeep r (L.held hlt r hr)) ?_ ?_
        · intro hR hl hno x9
          have hrows := L.rows
          subst hR
          refine fin _ _ _ _ _ _ _ ⟨hrows, Nat.zero_le _, fun _ qs Q' hc _ => hno qs Q' hc⟩
        · exact fun R' x9 L' => ⟨ms', hs', R', a', b', lam', x4, _, x9, L', rfl⟩
  · rintro ds ⟨ms, hs, R, a, b, lam, x4, x8, x9, L, rfl⟩
    rw [rangeD_len] at L
    have hlen := L.len
    refine fin _ _ _ _ _ _ _ ⟨L.rows, by omega, fun hlt => by omega⟩
end K80

set_option Elab.async false
set_option linter.all false
set_option maxRecDepth 100000
set_option maxHeartbeats 400000
/-! the least cost -/
namespace K80
open PySem PySem.Spec PyProof.Rows L2 Dn Mt
def row3 : Option (Int × Int × List (Option Nat)) → T
  | none => .tup []
  | some (c, s, M) => .tup [.int c, .int s, .tup (M.map noT)]
abbrev demT (cnt : Nat) (told : List Nat) : T := .tup [.int (cnt : Int), nsT told]
abbrev demD (cnt : Nat) (told : List Nat) : D := .t (demT cnt told)
structure Dem (g : Grid) (cnt : Nat) (told : List Nat) : Prop where
  tab : Tab g (gw g)
  rect : Rect g (gw g)
  td : TdOk g told
  c5 : cnt ≤ 500
  tl : told.length ≤ 100
def g_least_row : FD := fun l Q => ∃ g cnt told, l = [tabD g, demD cnt told] ∧ Dem g cnt told ∧ ∀ o, RowIs g cnt told o → Q (.t (row3 o)) []
theorem fIx_rsD {R : Rows} {i : Nat} {p : Int × List (Option Nat)} {Q : D → Prop} (h : R[i]? = some p) (hq : Q (.t (rowO p))) : fIx (rsD R) (.t (.int (i : Int))) Q := by
  have a : L2.atI (R.map (D.t ∘ rowO)) (i : Int) = some (.t (rowO p)) := at_of (i := i) (by rw [List.getElem?_map, h]; rfl) rfl
  unfold rsD
  simp only [x_fIxL, a]
  exact ⟨rfl, hq⟩
theorem d_least_row (l : List D) (Q : D → List D → Prop) (h : g_least_row l Q) : fnD N_least_row M_least_row (bd_least_row g_least_pairings) l Q := by
  obtain ⟨g, cnt, told, rfl, Dm, h⟩ := h
  show bd_least_row g_least_pairings _ [some (tabD g), some (demD cnt told), none, none, none, none, none]
  simp only [bd_least_row, x_sSeq]
  simp [st_least_row_1]
  simp [st_least_row_2]
  refine ⟨g, told, cnt, rfl, Dm.tab, Dm.rect, Dm.td, Dm.c5, Dm.tl, fun R hR => ?_⟩
  simp [st_least_row_3]
  have ea : (if (cnt : Int) - (told.length : Int) < 0 then 0 else (cnt : Int) - (told.length : Int)) = ((cnt - told.length : Nat) : Int) := by split <;> omega
  rw [ea]
  have ex : ∀ s, _ := fun s => hR.row Dm.td.1 (s := s)
  generalize cnt - told.length = at_ at ex
  by_cases hlt : R.length ≤ at_
  · have := h none ((ex 0).1 hlt)
    simp [st_least_row_5, hlt, st_least_row_4]
    simp [row3] at this
    exact this
  · obtain ⟨p, hp⟩ : ∃ p, R[at_]? = some p := ⟨_, List.getElem?_eq_getElem (by omega)⟩
    obtain ⟨c, M⟩ := p
    simp [st_least_row_5, hlt]
    have fin : ∀ s, st_least_row_7 { nx := finD M_least_row Q (.t .non), rt := finD M_least_row Q } [some (tabD g), some (demD cnt told), some (.t (.int (cnt : Nat))), some (nsD told), some (rsD R), some (.t (.int (at_ : Nat))), some (.t (.int s))] := fun s => by
      have := h _ ((ex s).2 c M hp)
      simp [row3] at this
      simp [st_least_row_7]
      refine fIx_rsD hp ?_
      simp
      refine fIx_rsD hp ?_
      simp
      exact ⟨szK (by decide), this⟩
    by_cases h0 : at_ = 0
    · subst h0
      simp [st_least_row_6]
      exact fin 0
    · have hpos : 0 < at_ := by omega
      obtain ⟨p', hp'⟩ : ∃ p, R[at_ - 1]? = some p := ⟨_, List.getElem?_eq_getElem (by omega)⟩
      simp [st_least_row_6, hpos]
      refine fIx_rsD hp ?_
      simp
      have e1 : (at_ : Int) - 1 = ((at_ - 1 : Nat) : Int) := by omega
      rw [e1]
      refine fIx_rsD hp' ?_
      simp
      exact fin _
def g_least_cost : FD := fun l Q => ∃ g cnt told, l = [tabD g, demD cnt told] ∧ Dem g cnt told ∧ ∀ v, LeastIs g (gw g) cnt told v → Q (.t (.int v)) []
theorem d_least_cost (l : List D) (Q : D → List D → Prop) (h : g_least_cost l Q) : fnD N_least_cost M_least_cost (bd_least_cost g_least_row) l Q := by
  obtain ⟨g, cnt, told, rfl, Dm, h⟩ := h
  simp [fnD, bd_least_cost, startD]
  refine ⟨g, cnt, told, rfl, Dm, fun o ho => ?_⟩
  have := h _ ho.least
  cases o with
  | none =>
    simp [row3, truD]
    exact this
  | some p =>
    obtain ⟨c, s, M⟩ := p
    simp [row3, truD]
    exact this
end K80

set_option Elab.async false
set_option linter.all false
set_option maxRecDepth 100000
set_option maxHeartbeats 400000
/-! with a pair -/
namespace K80
open PySem PySem.Spec PyProof.Rows L2 Dn Mt
theorem td_low {g : Grid} {told : List Nat} {t r : Nat} (T : Tab g (gw g)) (h : TdOk g told) (ht : t < g.length) (hr : r < gw g) : TdOk (wo g [t] [r]) (lowT told r) := by
  refine ⟨lowT_nodup h.1, ?_⟩
  rcases wo_gw (t := t) T.len hr with z | z
  · exact .inr z
  · refine .inl fun x hx => ?_
    obtain ⟨y, hy, rfl⟩ := List.mem_map.mp hx
    obtain ⟨hy1, hy2⟩ := List.mem_filter.mp hy
    have hy2 : y ≠ r := by simpa using hy2
    rcases h.2 with q | q
    · have := q y hy1
      rw [z]; unfold loN; split <;> omega
    · rw [q] at ht; exact absurd ht (Nat.not_lt_zero _)
theorem tab_wo {g : Grid} {t r : Nat} (T : Tab g (gw g)) (ht : t < g.length) (hr : r < gw g) : Tab (wo g [t] [r]) (gw (wo g [t] [r])) := by
  refine ⟨by rw [wo_len ht]; have := T.n; omega, ?_, fun row hm => ?_⟩
  · rcases wo_gw (t := t) T.len hr with z | z
    · rw [z]; exact Nat.zero_le _
    · rw [z]; have := T.m10; omega
  · rcases wo_gw (t := t) T.len hr with z | z
    · rw [z] at hm; cases hm
    · rw [z]; exact wo_rows T.len hr row hm
theorem dem_low {g : Grid} {cnt : Nat} {told : List Nat} {t r : Nat} (h : Dem g cnt told) (ht : t < g.length) (hr : r < gw g) : Dem (wo g [t] [r]) (cnt - 1) (lowT told r) :=
  ⟨tab_wo h.tab ht hr, wo_rect h.rect hr, td_low h.tab h.td ht hr, by have := h.c5; omega, Nat.le_trans lowT_len h.tl⟩
def g_smaller : FD := fun l Q => ∃ g cnt told t r, l = [tabD g, demD cnt told, .t (.int (t : Nat)), .t (.int (r : Nat))] ∧ Tab g (gw g) ∧ told.length ≤ 100 ∧ Q (.t (.tup [.tup ((wo g [t] [r]).map rowT), demT (cnt - 1) (lowT told r)])) []
theorem d_smaller (l : List D) (Q : D → List D → Prop) (h : g_smaller l Q) : fnD N_smaller M_smaller (bd_smaller g_without) l Q := by
  obtain ⟨g, cnt, told, t, r, rfl, T, htl, h⟩ := h
  simp [fnD, bd_smaller, startD]
  refine comp_filter (F := fun x => .t (iN (loN r x))) told (fun x => decide (x ≠ r)) (fun x hx Z W hz hn => ?_) (szK (by omega)) ?_
  · by_cases e : x = r
    · subst e
      have hn := hn (by simp) [some (tabD g), some (demD cnt told), some (.t (.int (t : Nat))), some (.t (.int (x : Nat))), some (.t (.int (cnt : Nat))), some (nsD told), some (.t (.int (x : Nat))), none] rfl
      simp
      exact hn
    · have hz := hz (by simpa using e) [some (tabD g), some (demD cnt told), some (.t (.int (t : Nat))), some (.t (.int (r : Nat))), some (.t (.int (cnt : Nat))), some (nsD told), some (.t (.int (x : Nat))), none] rfl
      have e' : ¬ (x : Int) = (r : Int) := by omega
      simp [e']
      by_cases hlt : r < x
      · have e2 : (x : Int) - 1 = ((loN r x : Nat) : Int) := by unfold loN; rw [if_pos hlt]; omega
        simp [hlt, e2]
        exact hz
      · have e2 : loN r x = x := by unfold loN; rw [if_neg hlt]
        rw [e2] at hz
        simp [hlt]
        exact hz
  · have e : ((told.filter fun x => decide (x ≠ r)).map fun x => D.t (iN (loN r x))) = (lowT told r).map (D.t ∘ iN) := by unfold lowT; rw [List.map_map]; rfl
    rw [e]
    refine ⟨_, rfl, x_cpsC, ?_⟩
    rw [x_mkTupC]
    simp
    refine ⟨szK (by decide), g, [t], [r], _, rfl, T, ?_⟩
    have ec : (if (cnt : Int) - 1 < 0 then 0 else (cnt : Int) - 1) = ((cnt - 1 : Nat) : Int) := by split <;> omega
    simp [ec]
    exact ⟨szK (by decide), h⟩
def g_least_with : FD := fun l Q => ∃ g cnt told t r, l = [tabD g, demD cnt told, .t (.int (t : Nat)), .t (.int (r : Nat))] ∧ Dem g cnt told ∧ t < g.length ∧ r < gw g ∧ ∀ v, WithIs g (gw g) cnt told t r v → Q (.t (.int v)) []
theorem d_least_with (l : List D) (Q : D → List D → Prop) (h : g_least_with l Q) : fnD N_least_with M_least_with (bd_least_with g_smaller g_least_cost) l Q := by
  obtain ⟨g, cnt, told, t, r, rfl, Dm, ht, hr, h⟩ := h
  obtain ⟨row, hrow⟩ : ∃ row, g[t]? = some row := ⟨_, List.getElem?_eq_getElem ht⟩
  have hrl : row.length = gw g := Dm.tab.len row (List.mem_of_getElem? hrow)
  obtain ⟨c, hc⟩ : ∃ c, row[r]? = some c := ⟨_, List.getElem?_eq_getElem (by omega)⟩
  show bd_least_with g_smaller g_least_cost _ [some (tabD g), some (demD cnt told), some (.t (.int (t : Nat))), some (.t (.int (r : Nat))), none, none, none]
  simp only [bd_least_with, x_sSeq]
  simp [st_least_with_2, at_tab hrow, at_row hc]
  by_cases h1 : c = -1
  · have := h (-1) (with_none (by
      cases e : wG g t r with
      | none => rfl
      | some c' =>
        obtain ⟨⟨row', e1, e2⟩, e3⟩ := wG_some.mp e
        rw [hrow] at e1; cases e1
        rw [hc] at e2; cases e2
        exact absurd h1 e3))
    simp [h1, st_least_with_1]
    exact this
  · have hw : wG g t r = some c := wG_some.mpr ⟨⟨row, hrow, hc⟩, h1⟩
    simp [h1]
    simp [st_least_with_3]
    refine ⟨g, cnt, told, t, r, rfl, Dm.tab, Dm.tl, ?_⟩
    simp
    simp [st_least_with_4]
    refine ⟨_, _, _, rfl, dem_low Dm ht hr, fun v hv => ?_⟩
    have := h _ (with_of Dm.rect ht hr hw hv)
    by_cases hv1 : v = -1
    · simp [hv1] at this
      simp [st_least_with_5, hv1]
      exact this
    · simp [hv1] at this
      simp [st_least_with_5, hv1, at_tab hrow, at_row hc]
      exact this
theorem d_with_pair (l : List D) (Q : D → List D → Prop) (h : g_least_with l Q) : fnD N_with_pair M_with_pair (bd_with_pair g_least_with) l Q := by
  obtain ⟨g, cnt, told, t, r, rfl, Dm, ht, hr, h⟩ := h
  simp [fnD, bd_with_pair, startD]
  exact ⟨g, cnt, told, t, r, rfl, Dm, ht, hr, fun v hv => by simpa using h v hv⟩
end K80

set_option Elab.async false
set_option linter.all false
set_option maxRecDepth 100000
set_option maxHeartbeats 400000
/-! Lw2: lists of the law's. -/
namespace Dn
open PySem PySem.Spec PyProof.Rows L2 Mt
theorem szL {n : Nat} (h : n ≤ 1000) : n ≤ sizeLine := Nat.le_of_lt (small1000 h)
abbrev psT (ps : List (Nat × Nat)) : T := .tup (ps.map prT)
abbrev cpT (q : CP) : T := .tup [.int q.1, psT q.2]
section
variable {α : Type} {f : α → T} {xs ys : List α} {Q : D → Prop}
theorem fAddLL (hl : xs.length + ys.length ≤ sizeLine) (hQ : Q (.lst ((xs ++ ys).map (D.t ∘ f)))) : fAdd (.lst (xs.map (D.t ∘ f))) (.lst (ys.map (D.t ∘ f))) Q := by
  refine ⟨_, _, rfl, rfl, x_cpsC, x_cpsC, by rw [List.length_map, List.length_map]; exact hl, ?_⟩
  rw [← List.map_append]; exact hQ
theorem fAddFL (hl : xs.length + ys.length ≤ sizeLine) (hQ : Q (.lst ((xs ++ ys).map (D.t ∘ f)))) : fAdd (.frz (xs.map (D.t ∘ f))) (.lst (ys.map (D.t ∘ f))) Q := by
  refine ⟨_, _, rfl, rfl, by rw [x_fzsC]; exact x_cpsC, x_cpsC, by rw [x_fzsC, List.length_map, List.length_map]; exact hl, ?_⟩
  rw [x_fzsC, ← List.map_append]; exact hQ
theorem fAddT {as bs : List T} (hl : as.length + bs.length ≤ sizeLine) (hQ : Q (.t (.tup (as ++ bs)))) : fAdd (.t (.tup as)) (.t (.tup bs)) Q := ⟨hl, hQ⟩
theorem fEqNilM (h : ∀ x ∈ xs, plain (f x) = true) (d : ∀ x ∈ xs, dep (f x) ≤ 50) (hQ : Q (.t (.bl (decide (xs = []))))) : fEq (.lst (xs.map (D.t ∘ f))) (.lst []) Q := by
  rw [comp_t]
  refine fEqNil (plains_map h) (Nat.le_trans (deps_map d) (by decide)) ?_
  have : decide (xs.map f = []) = decide (xs = []) := by rw [Bool.eq_iff_iff]; simp
  rw [this]; exact hQ
theorem fNeNil {ts : List T} (h : plains ts = true) (d : deps ts ≤ 60) (hQ : Q (.t (.bl (!decide (ts = []))))) : fNe (.lst (ts.map D.t)) (.lst []) Q := by
  refine ⟨shaped_list h d, shaped_list (ts := []) rfl (by decide), ?_⟩
  have e : PyData.eqv (dP (.lst (ts.map D.t))) (dP (.lst [])) = decide (ts = []) := by
    show PyData.eqv (.list (dPs (ts.map D.t))) (.list (dPs [])) = _
    rw [dPs_t]
    cases ts with
    | nil => simp [tPs, dPs, PyData.eqv, PyData.eqvAll]
    | cons x xs => simp [tPs, dPs, PyData.eqv, PyData.eqvAll]
  rw [e]; exact hQ
theorem fNeNilM (h : ∀ x ∈ xs, plain (f x) = true) (d : ∀ x ∈ xs, dep (f x) ≤ 50) (hQ : Q (.t (.bl (!decide (xs = []))))) : fNe (.lst (xs.map (D.t ∘ f))) (.lst []) Q := by
  rw [comp_t]
  refine fNeNil (plains_map h) (Nat.le_trans (deps_map d) (by decide)) ?_
  have : decide (xs.map f = []) = decide (xs = []) := by rw [Bool.eq_iff_iff]; simp
  rw [this]; exact hQ
end
section
variable {r : Nat} {ns : List Nat} {Q : D → Prop}
theorem notInNL (h : Q (.t (.bl (!decide (r ∈ ns))))) : fNotIn (.t (.int (r : Int))) (.lst (ns.map (D.t ∘ iN))) Q := by
  have e : decide (T.int (r : Int) ∈ ns.map iN) = decide (r ∈ ns) := by rw [Bool.eq_iff_iff, decide_eq_true_iff, decide_eq_true_iff]; exact mem_iN
  rw [comp_t]
  refine ⟨_, rfl, shaped_plain (t := .int (r : Int)) rfl (Nat.zero_le _), by rw [dPs_t]; exact shaped_plains plains_iN deps_iN, ?_⟩
  show Q (.t (.bl (!(dPs ((ns.map iN).map D.t)).any fun z => PyData.eqv z (tP (.int (r : Int))))))
  rw [dPs_t, any_plain rfl plains_iN, e]; exact h
end
theorem plain_ps {ps : List (Nat × Nat)} : plain (psT ps) = true := plains_map fun x _ => by simp
theorem dep_ps {ps : List (Nat × Nat)} : dep (psT ps) ≤ 3 := by
  have := deps_map (f := prT) (xs := ps) (n := 1) fun x _ => by simp
  simp only [dep_tup]; omega
theorem inP {t r : Nat} {ps : List (Nat × Nat)} {Q : D → Prop} (h : Q (.t (.bl (decide ((t, r) ∈ ps))))) : fIn (.t (prT (t, r))) (.t (psT ps)) Q := fInP h
theorem notInP {t r : Nat} {ps : List (Nat × Nat)} {Q : D → Prop} (h : Q (.t (.bl (!decide ((t, r) ∈ ps))))) : fNotIn (.t (prT (t, r))) (.t (psT ps)) Q := fNotInP h
/-- some of them are kept, whichever -/
theorem comp_sub {α γ : Type} {g : GD} {q : QD} {e : ED} {vs : List Nat} {Q : D → DS → Prop} {st : α → DS} {R : α → Prop} {F tD : γ → D} (xs : List γ) (a0 : α) (h0 : R a0)
    (h : ∀ x, x ∈ xs → ∀ a, R a → ∀ (Z : D → DS → Prop) (W : DS → Prop), (∀ a' ds3, R a' → dwipe ds3 vs = st a' → Z (F x) ds3) → (∀ a' ds2, R a' → dwipe ds2 vs = st a' → W ds2) → g (tD x) (st a) fun ds1 => q ds1 fun b ds2 => if b = true then e ds2 Z else W ds2)
    (hl : xs.length ≤ sizeLine) (hQ : ∀ a' (ys : List γ), R a' → ys.Sublist xs → Q (.lst (ys.map F)) (st a')) : CompD g q e vs Q (xs.map tD) (st a0) := by
  refine ⟨fun i acc ds => ∃ a ys, ds = st a ∧ R a ∧ acc = ys.map F ∧ ys.Sublist (xs.take i) ∧ i ≤ xs.length, ⟨a0, [], rfl, h0, rfl, List.nil_sublist _, Nat.zero_le _⟩, ?_, ?_⟩
  · rintro i d acc ds hd ⟨a, ys, rfl, hR, rfl, hs, hi⟩
    obtain ⟨x, ex, rfl⟩ := map_get hd
    have hlt := (List.getElem?_eq_some_iff.mp ex).1
    have hta : xs.take (i + 1) = xs.take i ++ [x] := by rw [List.take_succ, ex]; rfl
    refine h x (List.mem_of_getElem? ex) a hR _ _ (fun a' ds3 hR' e3 => ⟨?_, a', ys ++ [x], e3, hR', by rw [List.map_append]; rfl, ?_, hlt⟩) (fun a' ds2 hR' e2 => ⟨a', ys, e2, hR', rfl, ?_, hlt⟩)
    · rw [List.length_map]
      have h1 := hs.length_le
      rw [List.length_take] at h1
      omega
    · rw [hta]; exact hs.append (List.Sublist.refl _)
    · rw [hta]; exact hs.trans (List.sublist_append_left _ _)
  · rintro acc ds ⟨a, ys, rfl, hR, rfl, hs, hi⟩
    rw [List.length_map, List.take_length] at hs
    exact hQ a ys hR hs
theorem minL_of {ns : List Int} {Q : D → Prop} (h0 : ns ≠ []) (h : ∀ m, m ∈ ns → (∀ y, y ∈ ns → m ≤ y) → Q (.t (.int m))) : fMinL [.lst (ns.map (D.t ∘ T.int))] Q :=
  ⟨_, _, ns, rfl, rfl, x_intsDC, List.length_pos_iff.mpr h0, h⟩
end Dn

set_option Elab.async false
set_option linter.all false
set_option maxRecDepth 100000
set_option maxHeartbeats 400000
/-! the law goes through all pairings -/
namespace K80
open PySem PySem.Spec PyProof.Rows L2 Dn Mt
abbrev cpL (L : List CP) : D := .lst (L.map (D.t ∘ cpT))
abbrev cpF (L : List CP) : D := .frz (L.map (D.t ∘ cpT))
def g_pairings : FD := fun l Q => ∃ g m, l = [tabD g] ∧ Rect g m ∧ g.length ≤ 4 ∧ m ≤ 4 ∧ Q (cpL (allT g g.length)) []
section
variable {E : DE} {g : Grid} {t m : Nat} {L0 : List CP} {M : List CP} {c : Int} {ps : List (Nat × Nat)} {x1 x6 x7 x8 : Option D}
theorem e_turn (hR : Rect g m) (hm : m ≤ 4) (ht : t < g.length) (hp : ps.length ≤ 10) (hM : M.length ≤ 900) (h : ∀ x6 x7 x8, E.nx [some (tabD g), x1, some (.t (.int (t : Nat))), some (cpL (M ++ oneP g t (c, ps))), some (.t (.int c)), some (.t (psT ps)), x6, x7, x8]) :
    st_u_law_pairings_3 { nx := fun ds' => st_u_law_pairings_4 E ds', rt := E.rt, bk := E.bk, ct := E.ct } [some (tabD g), x1, some (.t (.int (t : Nat))), some (cpL M), some (.t (.int c)), some (.t (psT ps)), x6, x7, x8] := by
  obtain ⟨row, hrow⟩ : ∃ row, g[t]? = some row := ⟨_, List.getElem?_eq_getElem ht⟩
  have hrl := (hR row (List.mem_of_getElem? hrow)).1
  simp [st_u_law_pairings_3]
  refine comp_map (F := fun p => .t (iN p.2)) ps (fun p hp' Z W hz => ?_) (szK (by omega)) ?_
  · obtain ⟨a, b⟩ := p
    have hz := hz [some (tabD g), x1, some (.t (.int (t : Nat))), some (cpL M), some (.t (.int c)), some (.t (psT ps)), some (.t (prT (a, b))), x7, x8] rfl
    simp
    exact hz
  have e1 : (ps.map fun p => D.t (iN p.2)) = (ps.map (·.2)).map (D.t ∘ iN) := by rw [List.map_map]; rfl
  rw [e1]
  generalize hus : ps.map (·.2) = us
  simp [st_u_law_pairings_4, at_tab hrow]
  refine ⟨by omega, ?_⟩
  rw [rangeD_map]
  refine comp_filter (F := fun r => .t (cpT (c + cG g t r, ps ++ [(t, r)]))) (List.range row.length) (okR g t ps) (fun r hr Z W hz hn => ?_) (szK (by rw [List.length_range]; omega)) ?_
  · have hr : r < row.length := List.mem_range.mp hr
    obtain ⟨v, hv⟩ : ∃ v, row[r]? = some v := ⟨_, List.getElem?_eq_getElem hr⟩
    have ec : cG g t r = v := by unfold cG; rw [hrow]; simp only [Option.getD_some, hv]
    have hok : okR g t ps r = (decide (0 ≤ v) && decide (r ∉ us)) := by unfold okR; rw [ec, hus]
    have hz := fun k => hz k [some (tabD g), x1, some (.t (.int (t : Nat))), some (cpL M), some (.t (.int c)), some (.t (psT ps)), none, some (.lst (us.map (D.t ∘ iN))), some (.t (.int (r : Nat)))] rfl
    have hn := fun k => hn k [some (tabD g), x1, some (.t (.int (t : Nat))), some (cpL M), some (.t (.int c)), some (.t (psT ps)), none, some (.lst (us.map (D.t ∘ iN))), some (.t (.int (r : Nat)))] rfl
    rw [hok] at hz hn
    rw [ec] at hz
    simp [at_tab hrow, at_row hv]
    by_cases h0 : 0 ≤ v
    · simp [h0]
      refine notInNL ?_
      by_cases hm2 : r ∈ us
      · have hn := hn (by simp [h0, hm2])
        simp [hm2]
        exact hn
      · have hz := hz (by simp [h0, hm2])
        simp [hm2, at_tab hrow, at_row hv]
        refine ⟨szK (by decide), szK (by decide), ?_⟩
        refine ⟨by rw [List.length_map]; exact szK (by simp; omega), szK (by decide), ?_⟩
        have e3 : ps.map prT ++ [T.tup [.int (t : Nat), .int (r : Nat)]] = (ps ++ [(t, r)]).map prT := by rw [List.map_append]; rfl
        rw [e3]
        exact hz
    · have hn := hn (by simp [h0])
      simp [h0]
      exact hn
  · have hol : (oneP g t (c, ps)).length ≤ m := oneP_len fun row hm => (hR row hm).1
    have e2 : (((List.range row.length).filter (okR g t ps)).map fun r => D.t (cpT (c + cG g t r, ps ++ [(t, r)]))) = (oneP g t (c, ps)).map (D.t ∘ cpT) := by
      unfold oneP
      rw [hrow, List.map_map]; rfl
    rw [e2]
    simp only [List.getElem?_cons_succ, List.getElem?_cons_zero, Option.join_some]
    refine fAddLL (szK (by omega)) ?_
    exact h _ _ _
end
theorem allT_le {g : Grid} {m : Nat} (hl : ∀ row ∈ g, row.length = m) (hm : m ≤ 4) {t k : Nat} (ht : t ≤ k) : (allT g t).length ≤ 5 ^ k :=
  Nat.le_trans (allT_len hl t) (Nat.le_trans (Nat.pow_le_pow_left (by omega) t) (Nat.pow_le_pow_right (by decide) ht))
def PInv (g : Grid) (t : Nat) (ds : DS) : Prop := ∃ x2 x3 x4 x5 x6 x7 x8, ds = [some (tabD g), some (cpL (allT g t)), x2, x3, x4, x5, x6, x7, x8]
def PInv1 (g : Grid) (t i : Nat) (ds : DS) : Prop := ∃ x4 x5 x6 x7 x8, ds = [some (tabD g), some (cpF (allT g t)), some (.t (.int (t : Nat))), some (cpL (moreP g t ((allT g t).take i))), x4, x5, x6, x7, x8]
theorem d_pairings (l : List D) (Q : D → List D → Prop) (h : g_pairings l Q) : fnD N_u_law_pairings M_u_law_pairings bd_u_law_pairings l Q := by
  obtain ⟨g, m, rfl, hR, hn, hm, h⟩ := h
  have hl : ∀ row ∈ g, row.length = m := fun row hm => (hR row hm).1
  show bd_u_law_pairings _ [some (tabD g), none, none, none, none, none, none, none, none]
  simp only [bd_u_law_pairings, x_sSeq]
  simp [st_u_law_pairings_1, -x_sSeq]
  refine ⟨szK (by decide), szK (by decide), ?_⟩
  simp [st_u_law_pairings_7, -x_sSeq]
  refine ⟨by omega, PInv g, ⟨none, none, none, none, none, none, none, rfl⟩, ?_, ?_⟩
  · rintro t d ds hd ⟨x2, x3, x4, x5, x6, x7, x8, rfl⟩
    obtain ⟨ht, rfl⟩ := rangeD_get hd
    simp only [x_gN, List.set_cons_succ, List.set_cons_zero, Int.zero_add, x_sSeq]
    have ha : (allT g t).length ≤ 125 := allT_le hl hm (k := 3) (by omega)
    simp [st_u_law_pairings_2, -x_sSeq]
    simp [st_u_law_pairings_5, -x_sSeq]
    refine ⟨PInv1 g t, ⟨x4, x5, x6, x7, x8, rfl⟩, ?_, ?_⟩
    · rintro i d ds hd ⟨x4, x5, x6, x7, x8, rfl⟩
      obtain ⟨q, eq, rfl⟩ := map_get hd
      obtain ⟨c, ps⟩ := q
      have hi := (List.getElem?_eq_some_iff.mp eq).1
      refine tgt2 ?_
      simp only [x_sSeq, List.set_cons_succ, List.set_cons_zero]
      have hin := (mem_allT hR (Nat.le_of_lt ht)).mp (List.mem_of_getElem? eq)
      have hpl : ps.length ≤ 10 := by
        have := hin.pg.t.length_le_of_subset (l₂ := List.range g.length) fun x hx => by
          obtain ⟨p, hp, rfl⟩ := List.mem_map.mp hx
          exact List.mem_range.mpr (hin.pg.ok p hp).1
        rw [List.length_map, List.length_range] at this
        have : ps.length ≤ g.length := this
        omega
      have hmo : (moreP g t ((allT g t).take i)).length ≤ 125 * 4 := by
        refine Nat.le_trans (flat_len fun _ => oneP_len hl) (Nat.mul_le_mul ?_ hm)
        rw [List.length_take]; omega
      refine e_turn hR hm ht hpl (by omega) ?_
      intro x6 x7 x8
      refine ⟨some (.t (.int c)), some (.t (psT ps)), x6, x7, x8, ?_⟩
      have e : moreP g t ((allT g t).take (i + 1)) = moreP g t ((allT g t).take i) ++ oneP g t (c, ps) := by
        unfold moreP
        rw [take_snoc eq, List.map_append, List.flatten_append]; simp
      rw [e]
    · rintro ds ⟨x4, x5, x6, x7, x8, rfl⟩
      rw [List.length_map, List.take_length]
      have hmo : (moreP g t (allT g t)).length ≤ 125 * 4 := Nat.le_trans (flat_len fun _ => oneP_len hl) (Nat.mul_le_mul ha hm)
      simp only [st_u_law_pairings_6, x_sAsg, x_d2, x_oN, x_nvs2, true_and, x_get2, List.getElem?_cons_succ, List.getElem?_cons_zero, Option.join_some]
      refine fAddFL (szK (by omega)) ?_
      exact ⟨_, _, x4, x5, x6, x7, x8, rfl⟩
  · rintro ds ⟨x2, x3, x4, x5, x6, x7, x8, rfl⟩
    rw [rangeD_len]
    simp [st_u_law_pairings_8]
    exact h
end K80

set_option Elab.async false
set_option linter.all false
set_option maxRecDepth 100000
set_option maxHeartbeats 400000
/-! what is kept; worlds; the budget; what is sure -/
namespace K80
open PySem PySem.Spec PyProof.Rows L2 Dn Mt
theorem kept_le {g : Grid} {m cnt : Nat} {told : List Nat} (hl : ∀ row ∈ g, row.length = m) (hn : g.length ≤ 4) (hm : m ≤ 4) : (kept g cnt told).length ≤ 625 := Nat.le_trans (List.length_filter_le _ _) (allT_le hl hm (k := 4) hn)
def g_kept : FD := fun l Q => ∃ g m cnt told, l = [tabD g, demD cnt told] ∧ Rect g m ∧ g.length ≤ 4 ∧ m ≤ 4 ∧ told.length ≤ 100 ∧ Q (cpL (kept g cnt told)) []
section
variable {E : DE} {g : Grid} {cnt : Nat} {told : List Nat} {K : List CP} {c : Int} {ps : List (Nat × Nat)} {x5 x6 x7 : Option D}
theorem k_turn (hp : ps.length ≤ 10) (ht : told.length ≤ 100) (hK : K.length ≤ 900) (h : ∀ x5 x6 x7, E.nx [some (tabD g), some (demD cnt told), some (cpL (K ++ if keepB cnt told (c, ps) = true then [(c, ps)] else [])), some (.t (.int c)), some (.t (psT ps)), x5, x6, x7]) :
    st_u_law_kept_2 { nx := fun ds' => st_u_law_kept_4 E ds', rt := E.rt, bk := E.bk, ct := E.ct } [some (tabD g), some (demD cnt told), some (cpL K), some (.t (.int c)), some (.t (psT ps)), x5, x6, x7] := by
  simp [st_u_law_kept_2]
  refine comp_map (F := fun p => .t (iN p.2)) ps (fun p hp' Z W hz => ?_) (szK (by omega)) ?_
  · obtain ⟨a, b⟩ := p
    have hz := hz [some (tabD g), some (demD cnt told), some (cpL K), some (.t (.int c)), some (.t (psT ps)), some (.t (prT (a, b))), x6, x7] rfl
    simp
    exact hz
  have e1 : (ps.map fun p => D.t (iN p.2)) = (ps.map (·.2)).map (D.t ∘ iN) := by rw [List.map_map]; rfl
  rw [e1]
  generalize hus : ps.map (·.2) = us
  by_cases hc : cnt ≤ ps.length
  · simp [st_u_law_kept_4, hc]
    refine comp_filter (F := fun r => .t (iN r)) told (fun r => !decide (r ∈ us)) (fun r hr Z W hz hn => ?_) (szK (by omega)) ?_
    · have hz := fun k => hz k [some (tabD g), some (demD cnt told), some (cpL K), some (.t (.int c)), some (.t (psT ps)), none, some (.lst (us.map (D.t ∘ iN))), some (.t (.int (r : Nat)))] rfl
      have hn := fun k => hn k [some (tabD g), some (demD cnt told), some (cpL K), some (.t (.int c)), some (.t (psT ps)), none, some (.lst (us.map (D.t ∘ iN))), some (.t (.int (r : Nat)))] rfl
      simp
      refine notInNL ?_
      by_cases hm : r ∈ us
      · simp [hm] at hn ⊢
        exact hn
      · simp [hm] at hz ⊢
        exact hz
    · refine fEqNilM (fun _ _ => rfl) (fun _ _ => Nat.zero_le _) ?_
      have hk : keepB cnt told (c, ps) = decide (told.filter (fun r => !decide (r ∈ us)) = []) := by
        unfold keepB
        simp only [hus, hc, decide_true, Bool.true_and]
        rw [Bool.eq_iff_iff, decide_eq_true_iff, decide_eq_true_iff, List.filter_eq_nil_iff]
        constructor
        · exact fun z r hr => by simp [z r hr]
        · exact fun z r hr => by have := z r hr; simpa using this
      rw [← hk]
      by_cases hb : keepB cnt told (c, ps) = true
      · have := h none (some (.lst (us.map (D.t ∘ iN)))) none
        simp [hb] at this
        simp [hb]
        simp [st_u_law_kept_3]
        refine ⟨szK (by decide), small1000 (by omega), ?_⟩
        have e2 : K.map (D.t ∘ cpT) ++ [D.t (.tup [.int c, psT ps])] = (K ++ [(c, ps)]).map (D.t ∘ cpT) := by rw [List.map_append]; rfl
        rw [e2]
        exact this
      · have := h none (some (.lst (us.map (D.t ∘ iN)))) none
        simp [hb] at this
        simp [hb]
        exact this
  · have hk : keepB cnt told (c, ps) = false := by unfold keepB; simp [hc]
    have := h none (some (.lst (us.map (D.t ∘ iN)))) x7
    simp [hk] at this
    simp [st_u_law_kept_4, hc]
    exact this
end
def KInv (g : Grid) (cnt : Nat) (told : List Nat) (i : Nat) (ds : DS) : Prop := ∃ x3 x4 x5 x6 x7, ds = [some (tabD g), some (demD cnt told), some (cpL (((allT g g.length).take i).filter (keepB cnt told))), x3, x4, x5, x6, x7]
theorem d_kept (l : List D) (Q : D → List D → Prop) (h : g_kept l Q) : fnD N_u_law_kept M_u_law_kept (bd_u_law_kept g_pairings) l Q := by
  obtain ⟨g, m, cnt, told, rfl, hR, hn, hm, ht, h⟩ := h
  have hl : ∀ row ∈ g, row.length = m := fun row hm => (hR row hm).1
  have ha : (allT g g.length).length ≤ 625 := allT_le hl hm (k := 4) hn
  show bd_u_law_kept _ _ [some (tabD g), some (demD cnt told), none, none, none, none, none, none]
  simp only [bd_u_law_kept, x_sSeq]
  simp [st_u_law_kept_1, -x_sSeq]
  simp [st_u_law_kept_5, -x_sSeq]
  refine ⟨g, m, rfl, hR, hn, hm, ?_⟩
  simp [-x_sSeq]
  refine ⟨KInv g cnt told, ⟨none, none, none, none, none, rfl⟩, ?_, ?_⟩
  · rintro i d ds hd ⟨x3, x4, x5, x6, x7, rfl⟩
    obtain ⟨q, eq, rfl⟩ := map_get hd
    obtain ⟨c, ps⟩ := q
    refine tgt2 ?_
    simp only [x_sSeq, List.set_cons_succ, List.set_cons_zero]
    have hin := (mem_allT hR (Nat.le_refl _)).mp (List.mem_of_getElem? eq)
    have hpl : ps.length ≤ 10 := by
      have := hin.pg.t.length_le_of_subset (l₂ := List.range g.length) fun x hx => by
        obtain ⟨p, hp, rfl⟩ := List.mem_map.mp hx
        exact List.mem_range.mpr (hin.pg.ok p hp).1
      rw [List.length_map, List.length_range] at this
      have : ps.length ≤ g.length := this
      omega
    have hK : (((allT g g.length).take i).filter (keepB cnt told)).length ≤ 900 := by
      refine Nat.le_trans (List.length_filter_le _ _) ?_
      rw [List.length_take]; omega
    refine k_turn hpl ht hK ?_
    intro x5 x6 x7
    refine ⟨some (.t (.int c)), some (.t (psT ps)), x5, x6, x7, ?_⟩
    have e : ((allT g g.length).take (i + 1)).filter (keepB cnt told) = ((allT g g.length).take i).filter (keepB cnt told) ++ if keepB cnt told (c, ps) = true then [(c, ps)] else [] := by
      rw [take_snoc eq, List.filter_append]
      congr 1
      by_cases hb : keepB cnt told (c, ps) = true <;> simp [hb]
    rw [e]
  · rintro ds ⟨x3, x4, x5, x6, x7, rfl⟩
    rw [List.length_map, List.take_length]
    simp [st_u_law_kept_6]
    exact h
abbrev wsL (W : List (List (Nat × Nat))) : D := .lst (W.map (D.t ∘ psT))
def worldsOf (g : Grid) (cnt : Nat) (told : List Nat) (b : Int) : List (List (Nat × Nat)) := ((kept g cnt told).filter fun q => decide (q.1 ≤ b)).map (·.2)
def g_worlds : FD := fun l Q => ∃ g m cnt told b, l = [tabD g, demD cnt told, .t (.int b)] ∧ Rect g m ∧ g.length ≤ 4 ∧ m ≤ 4 ∧ told.length ≤ 100 ∧ Q (wsL (worldsOf g cnt told b)) []
theorem d_worlds (l : List D) (Q : D → List D → Prop) (h : g_worlds l Q) : fnD N_u_law_worlds M_u_law_worlds (bd_u_law_worlds g_kept) l Q := by
  obtain ⟨g, m, cnt, told, b, rfl, hR, hn, hm, ht, h⟩ := h
  have hk := kept_le (cnt := cnt) (told := told) (fun row hm => (hR row hm).1) hn hm
  simp [fnD, bd_u_law_worlds, startD]
  refine ⟨g, m, cnt, told, rfl, hR, hn, hm, ht, ?_⟩
  simp
  refine comp_filter (F := fun q : CP => .t (psT q.2)) (kept g cnt told) (fun q => decide (q.1 ≤ b)) (fun q hq Z W hz hn => ?_) (szK (by omega)) ?_
  · obtain ⟨c, ps⟩ := q
    refine tgt2 ?_
    have hz := fun k => hz k [some (tabD g), some (demD cnt told), some (.t (.int b)), some (.t (.int c)), some (.t (psT ps))] rfl
    have hn := fun k => hn k [some (tabD g), some (demD cnt told), some (.t (.int b)), some (.t (.int c)), some (.t (psT ps))] rfl
    by_cases hb : c ≤ b
    · simp [hb] at hz ⊢
      exact hz
    · simp [hb] at hn ⊢
      exact hn
  · have e : (((kept g cnt told).filter fun q => decide (q.1 ≤ b)).map fun q : CP => D.t (psT q.2)) = (worldsOf g cnt told b).map (D.t ∘ psT) := by unfold worldsOf; rw [List.map_map]; rfl
    rw [e]
    simp
    exact h
def g_budget : FD := fun l Q => ∃ src g m cnt told, l = [src, tabD g, demD cnt told] ∧ Src src ∧ Rect g m ∧ g.length ≤ 4 ∧ m ≤ 4 ∧ told.length ≤ 100 ∧ ∀ (b : Int) src', Src src' → Q (.t (.int b)) [src']
theorem d_budget (l : List D) (Q : D → List D → Prop) (h : g_budget l Q) : fnD N_u_law_budget M_u_law_budget (bd_u_law_budget g_kept g_pick) l Q := by
  obtain ⟨src, g, m, cnt, told, rfl, hs, hR, hn, hm, ht, h⟩ := h
  have hk := kept_le (cnt := cnt) (told := told) (fun row hm => (hR row hm).1) hn hm
  show bd_u_law_budget _ _ _ [some src, some (tabD g), some (demD cnt told), none, none, none]
  simp only [bd_u_law_budget, x_sSeq]
  simp [st_u_law_budget_1]
  refine ⟨g, m, cnt, told, rfl, hR, hn, hm, ht, ?_⟩
  simp
  refine comp_map (F := fun q : CP => .t (.int q.1)) (kept g cnt told) (fun q hq Z W hz => ?_) (szK (by omega)) ?_
  · obtain ⟨c, ps⟩ := q
    refine tgt2 ?_
    have hz := hz [some src, some (tabD g), some (demD cnt told), some (.t (.int c)), some (.t (psT ps)), none] rfl
    simp
    exact hz
  have e : ((kept g cnt told).map fun q : CP => D.t (.int q.1)) = ((kept g cnt told).map (·.1)).map (D.t ∘ T.int) := by rw [List.map_map]; rfl
  rw [e]
  generalize (kept g cnt told).map (·.1) = cs
  simp only [st_u_law_budget_2]
  simp
  refine fNeNilM (fun _ _ => rfl) (fun _ _ => Nat.zero_le _) ?_
  by_cases h0 : cs = []
  · subst h0
    simp [getM, getA, clrM, updM, okA]
    refine ⟨szK (by decide), src, [-1, 0, 0, 1, 2, 4, 12, 995].map T.int, rfl, hs, by simp, by simp, fun x src' hs' hx => ?_⟩
    obtain ⟨v, _, rfl⟩ := List.mem_map.mp hx
    simp [updM]
    exact ⟨hs'.nf, h _ _ hs'⟩
  · simp [h0]
    refine minL_of h0 fun mn _ _ => ?_
    simp [getM, getA, clrM, updM, okA]
    refine ⟨szK (by decide), src, [-1, 0, 0, 1, 2, 4, 12, 995].map T.int, rfl, hs, by simp, by simp, fun x src' hs' hx => ?_⟩
    obtain ⟨v, _, rfl⟩ := List.mem_map.mp hx
    simp [updM]
    exact ⟨hs'.nf, h _ _ hs'⟩
/-- pairs of the table -/
def PrsOk (n m : Nat) (ps : List (Nat × Nat)) : Prop := ∀ p ∈ ps, p.1 < n ∧ p.2 < m
abbrev prsL (ps : List (Nat × Nat)) : D := .lst (ps.map (D.t ∘ prT))
def g_sure_ones : FD := fun l Q => ∃ g m cnt told b, l = [tabD g, demD cnt told, .t (.int b)] ∧ Rect g m ∧ g.length ≤ 4 ∧ m ≤ 4 ∧ told.length ≤ 100 ∧ ∀ ps, PrsOk g.length m ps → ps.length ≤ 10 → Q (prsL ps) []
theorem d_sure_ones (l : List D) (Q : D → List D → Prop) (h : g_sure_ones l Q) : fnD N_u_law_sure_ones M_u_law_sure_ones (bd_u_law_sure_ones g_worlds) l Q := by
  obtain ⟨g, m, cnt, told, b, rfl, hR, hn, hm, ht, h⟩ := h
  have hk := kept_le (cnt := cnt) (told := told) (fun row hm => (hR row hm).1) hn hm
  show bd_u_law_sure_ones _ _ [some (tabD g), some (demD cnt told), some (.t (.int b)), none, none, none]
  simp only [bd_u_law_sure_ones, x_sSeq]
  simp [st_u_law_sure_ones_1]
  refine ⟨g, m, cnt, told, b, rfl, hR, hn, hm, ht, ?_⟩
  simp [st_u_law_sure_ones_3]
  have hwl : (worldsOf g cnt told b).length ≤ 625 := by
    unfold worldsOf
    rw [List.length_map]
    exact Nat.le_trans (List.length_filter_le _ _) hk
  have hwp : ∀ ps ∈ worldsOf g cnt told b, PrsOk g.length m ps ∧ ps.length ≤ 10 := fun ps hp => by
    obtain ⟨q, hq, rfl⟩ := List.mem_map.mp hp
    have hin := ((mem_kept hR).mp (List.mem_filter.mp hq).1).1
    refine ⟨fun p hp => ⟨(hin.pg.ok p hp).1, (hin.pg.ok p hp).2.1⟩, ?_⟩
    have := hin.pg.t.length_le_of_subset (l₂ := List.range g.length) fun x hx => by
      obtain ⟨p, hp, rfl⟩ := List.mem_map.mp hx
      exact List.mem_range.mpr (hin.pg.ok p hp).1
    rw [List.length_map, List.length_range] at this
    omega
  generalize worldsOf g cnt told b = W at hwl hwp
  refine fEqNilM (fun _ _ => plain_ps) (fun _ _ => Nat.le_trans dep_ps (by decide)) ?_
  cases W with
  | nil =>
    have := h [] (fun p hp => by cases hp) (Nat.zero_le _)
    simp [st_u_law_sure_ones_2]
    exact this
  | cons ps0 W =>
    obtain ⟨hp1, hp2⟩ := hwp ps0 List.mem_cons_self
    simp
    simp [st_u_law_sure_ones_4]
    generalize hWs : ps0 :: W = Ws at hwl hwp
    refine comp_filter_st (α := D) (st := fun d => [some (tabD g), some (demD cnt told), some (.t (.int b)), some d, none, none]) (R := fun d => d = wsL Ws ∨ d = .frz (Ws.map (D.t ∘ psT))) (F := D.t ∘ prT) ps0 (fun p => decide (Ws.filter (fun qs => !decide (p ∈ qs)) = [])) (wsL Ws) (.inl rfl) (fun p hp d hd Z W hz hnn => ?_) (szK (by omega)) ?_
    · obtain ⟨pt, pr⟩ := p
      have hfz : fz d = .frz (Ws.map (D.t ∘ psT)) := by rcases hd with rfl | rfl <;> rfl
      simp [hfz]
      refine comp_filter (F := D.t ∘ psT) Ws (fun qs => !decide ((pt, pr) ∈ qs)) (fun qs hq Z' W' hz' hn' => ?_) (szK (by omega)) ?_
      · have hz' := fun k => hz' k [some (tabD g), some (demD cnt told), some (.t (.int b)), some (.frz (Ws.map (D.t ∘ psT))), some (.t (prT (pt, pr))), some (.t (psT qs))] rfl
        have hn' := fun k => hn' k [some (tabD g), some (demD cnt told), some (.t (.int b)), some (.frz (Ws.map (D.t ∘ psT))), some (.t (prT (pt, pr))), some (.t (psT qs))] rfl
        simp
        refine notInP ?_
        by_cases hm2 : (pt, pr) ∈ qs
        · simp [hm2] at hn' ⊢
          exact hn'
        · simp [hm2] at hz' ⊢
          exact hz'
      · refine fEqNilM (fun _ _ => plain_ps) (fun _ _ => Nat.le_trans dep_ps (by decide)) ?_
        have hz := fun k => hz k (.frz (Ws.map (D.t ∘ psT))) [some (tabD g), some (demD cnt told), some (.t (.int b)), some (.frz (Ws.map (D.t ∘ psT))), some (.t (prT (pt, pr))), none] (.inr rfl) rfl
        have hnn := fun k => hnn k (.frz (Ws.map (D.t ∘ psT))) [some (tabD g), some (demD cnt told), some (.t (.int b)), some (.frz (Ws.map (D.t ∘ psT))), some (.t (prT (pt, pr))), none] (.inr rfl) rfl
        by_cases hb : Ws.filter (fun qs => !decide ((pt, pr) ∈ qs)) = []
        · have hz := hz (by simpa using hb)
          rw [hb]
          simp
          exact hz
        · have hnn := hnn (by simpa using hb)
          have hd' : decide (Ws.filter (fun qs => !decide ((pt, pr) ∈ qs)) = []) = false := decide_eq_false hb
          rw [hd']
          simp
          exact hnn
    · intro d hd
      have hsub : (ps0.filter fun p => decide (Ws.filter (fun qs => !decide (p ∈ qs)) = [])).Sublist ps0 := List.filter_sublist
      have := h (ps0.filter fun p => decide (Ws.filter (fun qs => !decide (p ∈ qs)) = [])) (fun p hp => hp1 p (hsub.subset hp)) (Nat.le_trans hsub.length_le hp2)
      generalize ps0.filter (fun p => decide (Ws.filter (fun qs => !decide (p ∈ qs)) = [])) = ps at this
      simp
      exact this
def g_demand : FD := fun l Q => ∃ src, ∃ m : Nat, l = [src, .t (.int (m : Nat))] ∧ Src src ∧ m ≤ 10 ∧ ∀ (cnt : Nat) told src', Src src' → cnt ≤ 8 → told.Nodup → (∀ r ∈ told, r < m) → Q (demD cnt told) [src']
theorem d_demand (l : List D) (Q : D → List D → Prop) (h : g_demand l Q) : fnD N_u_law_demand M_u_law_demand (bd_u_law_demand g_pick g_draw) l Q := by
  obtain ⟨src, m, rfl, hs, hm, h⟩ := h
  simp [fnD, bd_u_law_demand, startD]
  refine ⟨by omega, ?_⟩
  rw [rangeD_map]
  refine comp_sub (α := D) (st := fun src => [some src, some (.t (.int (m : Nat))), none, none]) (R := Src) (F := D.t ∘ iN) (List.range m) src hs (fun r hr src hs Z W hz hn => ?_) (szK (by rw [List.length_range]; omega)) ?_
  · simp [getM, getA, clrM, updM, okA]
    refine ⟨src, 4, rfl, hs, by omega, by omega, fun y src' hs' y0 y1 => ?_⟩
    have hz := fun k => hz src' [some src', some (.t (.int (m : Nat))), some (.t (.int (r : Nat))), none] hs' k
    have hn := fun k => hn src' [some src', some (.t (.int (m : Nat))), some (.t (.int (r : Nat))), none] hs' k
    simp [updM]
    by_cases hy : y = 0
    · simp [hy]
      exact hz rfl
    · simp [hy]
      exact hn rfl
  · intro src told hs hsub
    simp [getM, getA, clrM, updM, okA]
    refine ⟨szK (by decide), src, [0, 0, 1, 1, 2, 3, 4, 8].map T.int, rfl, hs, by simp, by simp, fun x src' hs' hx => ?_⟩
    obtain ⟨v, hv, rfl⟩ := List.mem_map.mp hx
    have hv' : v = 0 ∨ v = 1 ∨ v = 2 ∨ v = 3 ∨ v = 4 ∨ v = 8 := by simpa using hv
    have hv0 : 0 ≤ v ∧ v ≤ 8 := by omega
    obtain ⟨c, rfl⟩ := Int.eq_ofNat_of_zero_le hv0.1
    simp [updM]
    exact ⟨szK (by decide), hs'.nf, h c told src' hs' (by omega) (List.nodup_range.sublist hsub) fun r hr => List.mem_range.mp (hsub.subset hr)⟩
end K80

set_option Elab.async false
set_option linter.all false
set_option maxRecDepth 100000
set_option maxHeartbeats 400000
/-! a pair's cost changed; bearing -/
namespace K80
open PySem PySem.Spec PyProof.Rows L2 Dn Mt
theorem set_tak {α : Type} {xs : List α} {i : Nat} {x : α} (h : i < xs.length) : xs.take i ++ [x] ++ xs.drop (i + 1) = xs.set i x := by
  rw [List.set_eq_take_append_cons_drop, if_pos h]; simp
theorem row_set {row : List Int} {r : Nat} {c : Int} (h : r < row.length) : (row.map T.int).take r ++ [.int c] ++ (row.map T.int).drop (r + 1) = (row.set r c).map T.int := by
  rw [List.map_set, set_tak (by rw [List.length_map]; exact h)]
theorem tab_set {g : Grid} {t r : Nat} {c : Int} {row : List Int} (h : g[t]? = some row) : (g.map rowT).take t ++ [rowT (row.set r c)] ++ (g.map rowT).drop (t + 1) = (setG g t r c).map rowT := by
  have ht := (List.getElem?_eq_some_iff.mp h).1
  unfold setG
  rw [h, Option.getD_some, List.map_set, set_tak (by rw [List.length_map]; exact ht)]
def g_priced : FD := fun l Q => ∃ g m t r c row, l = [tabD g, .t (prT (t, r)), .t (.int c)] ∧ Tab g m ∧ g[t]? = some row ∧ r < row.length ∧ Q (tabD (setG g t r c)) []
theorem d_priced (l : List D) (Q : D → List D → Prop) (h : g_priced l Q) : fnD N_priced M_priced bd_priced l Q := by
  obtain ⟨g, m, t, r, c, row, rfl, T, hrow, hr, h⟩ := h
  have hn := T.n
  have hm := T.m10
  have hrl := T.len row (List.mem_of_getElem? hrow)
  simp [fnD, bd_priced, startD, at_tab hrow, cut_hi, cut_lo1]
  refine ⟨szK (by decide), ?_⟩
  refine fAddT (szK (by simp; omega)) (fAddT (szK (by simp; omega)) ?_)
  rw [row_set hr]
  generalize hrs : row.set r c = row2
  simp
  refine ⟨szK (by decide), fAddT (szK (by simp; omega)) (fAddT (szK (by simp; omega)) ?_)⟩
  rw [← hrs, tab_set hrow]
  generalize setG g t r c = G at h
  simp
  exact h
theorem bar_tab {g : Grid} {m : Nat} {f : Nat → Nat → Bool} (T : Tab g m) : Tab (bar g f) m := ⟨by rw [bar_len]; exact T.n, T.m10, bar_rows T.len⟩
theorem set_tab {g : Grid} {m t r : Nat} {c : Int} {row : List Int} (h : g[t]? = some row) (T : Tab g m) : Tab (setG g t r c) m := ⟨by rw [set_len]; exact T.n, T.m10, set_rows h T.len⟩
def g_bears : FD := fun l Q => ∃ g cnt told b pt pr t r, l = [tabD g, demD cnt told, .t (.int b), .t (prT (pt, pr)), .t (prT (t, r))] ∧ Dem g cnt told ∧ t < g.length ∧ r < gw g ∧ ∀ x, BearsIs g cnt told b (pt, pr) (t, r) x → Q (.t (.int x)) []
theorem d_bears (l : List D) (Q : D → List D → Prop) (h : g_bears l Q) : fnD N_bears M_bears (bd_bears g_least_with g_priced g_barred) l Q := by
  obtain ⟨g, cnt, told, b, pt, pr, t, r, rfl, Dm, ht, hr, h⟩ := h
  obtain ⟨brow, hbrow⟩ : ∃ brow, (bar g fun t r => decide ((t, r) ∈ [(pt, pr)]))[t]? = some brow := ⟨_, List.getElem?_eq_getElem (by rw [bar_len]; exact ht)⟩
  have hbl : r < brow.length := by rw [bar_rows Dm.tab.len brow (List.mem_of_getElem? hbrow)]; exact hr
  have hgl : ∀ row ∈ bar g (fun t r => decide ((t, r) ∈ [(pt, pr)])), row.length = gw (bar g fun t r => decide ((t, r) ∈ [(pt, pr)])) := by rw [gw_bar]; exact bar_rows Dm.tab.len
  have hgw : gw (setG (bar g fun t r => decide ((t, r) ∈ [(pt, pr)])) t r 0) = gw g := by rw [gw_set hbrow hgl, gw_bar]
  have Dm' : Dem (setG (bar g fun t r => decide ((t, r) ∈ [(pt, pr)])) t r 0) cnt told := by
    refine ⟨by rw [hgw]; exact set_tab hbrow (bar_tab Dm.tab), by rw [hgw]; exact set_rect hbrow (by omega) (bar_rect Dm.rect), ⟨Dm.td.1, ?_⟩, Dm.c5, Dm.tl⟩
    rw [hgw]
    rcases Dm.td.2 with z | z
    · exact .inl z
    · rw [z] at ht; exact absurd ht (Nat.not_lt_zero _)
  show bd_bears _ _ _ _ [some (tabD g), some (demD cnt told), some (.t (.int b)), some (.t (prT (pt, pr))), some (.t (prT (t, r))), none, none, none]
  simp only [bd_bears, x_sSeq]
  simp [st_bears_1]
  simp [st_bears_2]
  refine ⟨szK (by decide), g, [(pt, pr)], _, rfl, Dm.tab, ?_⟩
  generalize hB : (bar g fun t r => decide ((t, r) ∈ [(pt, pr)])) = B at hbrow Dm' hgw
  refine ⟨B, gw g, t, r, 0, brow, rfl, by rw [← hB]; exact bar_tab Dm.tab, hbrow, hbl, ?_⟩
  refine ⟨_, cnt, told, t, r, rfl, Dm', by rw [set_len, ← hB, bar_len]; exact ht, by rw [hgw]; exact hr, fun v hv => ?_⟩
  rw [hgw] at hv
  have := h _ ⟨v, by rw [hB]; exact hv, rfl⟩
  by_cases hv0 : v < 0
  · simp [hv0] at this
    simp [st_bears_4, hv0, st_bears_3]
    exact this
  · by_cases hvb : b < v
    · simp [hvb] at this
      simp [st_bears_4, hv0, hvb, st_bears_3]
      exact this
    · simp [hv0, hvb] at this
      simp [st_bears_4, hv0, hvb, st_bears_5]
      exact this
end K80

set_option Elab.async false
set_option linter.all false
set_option maxRecDepth 100000
set_option maxHeartbeats 400000
/-! a drawn table -/
namespace K80
open PySem PySem.Spec PyProof.Rows L2 Dn
def g_table : FD := fun l Q => ∃ src, ∃ n m : Nat, l = [src, .t (.int n), .t (.int m)] ∧ Src src ∧ n ≤ 10 ∧ m ≤ 10 ∧ ∀ (g : Mt.Grid) src', g.length = n → Mt.Rect g m → Src src' → Q (tabD g) [src']
theorem d_table (l : List D) (Q : D → List D → Prop) (h : g_table l Q) : fnD N_u_law_table M_u_law_table (bd_u_law_table g_pick) l Q := by
  obtain ⟨src, n, m, rfl, hs, hn, hm, h⟩ := h
  simp [fnD, bd_u_law_table, startD, and_assoc]
  refine ⟨by omega, ?_⟩
  rw [rangeD_map]
  refine comp_st (st := fun src => [some src, some (.t (.int n)), some (.t (.int m)), none, none]) (R := fun _ src => Src src) (Pe := fun r : List Int => r.length = m ∧ ∀ c ∈ r, -1 ≤ c) (F := D.t ∘ rowT) (List.range n) src hs (fun i t src ht hs Z W hz => ?_) (by rw [List.length_range]; exact sz1000 (by omega)) ?_
  · simp
    refine ⟨by omega, ?_⟩
    rw [rangeD_map]
    refine comp_st (st := fun src => [some src, some (.t (.int n)), some (.t (.int m)), some (.t (.int t)), none]) (R := fun _ src => Src src) (Pe := fun c : Int => -1 ≤ c) (F := D.t ∘ T.int) (List.range m) src hs (fun i r src hr hs Z' W' hz' => ?_) (by rw [List.length_range]; exact sz1000 (by omega)) ?_
    · simp [and_assoc, getM, getA, clrM, updM, okA]
      refine ⟨by decide, src, [-1, 0, 0, 1, 2, 3, 5, 9, 1000].map T.int, rfl, hs, by simp, by simp, fun x src hs hx => ?_⟩
      obtain ⟨v, hv, rfl⟩ := List.mem_map.mp hx
      have hv' : v = -1 ∨ v = 0 ∨ v = 1 ∨ v = 2 ∨ v = 3 ∨ v = 5 ∨ v = 9 ∨ v = 1000 := by simpa using hv
      have := hz' src v
      simp [updM]
      exact this _ hs (by omega) rfl
    · intro src ys hs hl hp
      rw [List.length_range] at hl
      have := hz src ys
      simp
      exact this _ hs ⟨hl, hp⟩ rfl
  · intro src g hs hl hr
    rw [List.length_range] at hl
    have := h g src hl hr hs
    simp [slotsAt, hs.nf]
    exact this
end K80

set_option Elab.async false
set_option linter.all false
set_option maxRecDepth 100000
set_option maxHeartbeats 400000
/-! told is due, by a stack -/
namespace K80
open PySem PySem.Spec PyProof.Rows L2 Dn
mutual
def nodes : T → Nat
  | .tup xs => nodesL xs + 1
  | _ => 1
def nodesL : List T → Nat
  | [] => 0
  | x :: xs => nodes x + nodesL xs
end
theorem nodesL_app (xs ys : List T) : nodesL (xs ++ ys) = nodesL xs + nodesL ys := by
  induction xs with
  | nil => simp [nodesL]
  | cons x xs ih => simp only [List.cons_append, nodesL, ih]; omega
theorem nodes_pos (x : T) : 1 ≤ nodes x := by cases x <;> simp [nodes]
theorem len_nodesL (xs : List T) : xs.length ≤ nodesL xs := by
  induction xs with
  | nil => simp [nodesL]
  | cons x xs ih => have := nodes_pos x; simp only [List.length_cons, nodesL]; omega
/-- plain, not deep -/
def okT (x : T) : Prop := plain x = true ∧ dep x ≤ 50
abbrev pr2 (x : T) : T := .tup [x, x]
abbrev stk (xs : List T) : D := .lst (xs.map (D.t ∘ pr2))
def g_same : FD := fun l Q => ∃ x, l = [.t x, .t x] ∧ okT x ∧ nodes x ≤ 1000 ∧ Q (.t (.bl true)) []
theorem eqNil {xs : List T} {Q : D → Prop} (h : ∀ x ∈ xs, okT x) (hQ : Q (.t (.bl (decide (xs = []))))) : fEq (stk xs) (.lst []) Q := by
  have e : xs.map (D.t ∘ pr2) = (xs.map pr2).map D.t := by rw [List.map_map]
  show fEq (.lst (xs.map (D.t ∘ pr2))) (.lst []) Q
  rw [e]
  refine fEqNil (plains_map fun x hx => by simp [(h x hx).1]) (Nat.le_trans (deps_map (n := 51) fun x hx => by simp; exact (h x hx).2) (by decide)) ?_
  have e2 : decide (xs.map pr2 = []) = decide (xs = []) := by rw [Bool.eq_iff_iff]; simp
  rw [e2]; exact hQ
theorem plains_mem {x : T} : ∀ {ts : List T}, plains ts = true → x ∈ ts → Dn.plain x = true ∧ dep x ≤ deps ts
  | y :: ts, h, hm => by
    simp only [plains_cons, Bool.and_eq_true] at h
    simp only [deps_cons]
    rcases List.mem_cons.mp hm with rfl | hm
    · exact ⟨h.1, by omega⟩
    · have := plains_mem h.2 hm
      exact ⟨this.1, by omega⟩
theorem d_same (l : List D) (Q : D → List D → Prop) (h : g_same l Q) : fnD N_u_law_same M_u_law_same bd_u_law_same l Q := by
  obtain ⟨x0, rfl, hok, hn, h⟩ := h
  show bd_u_law_same _ [some (.t x0), some (.t x0), none, none, none, none, none, none]
  simp only [bd_u_law_same, x_sSeq]
  simp [st_u_law_same_1, and_assoc]
  simp [st_u_law_same_17, -x_sSeq, and_assoc]
  refine ⟨by decide, by decide, ⟨by decide, by decide, by decide⟩, fun i ds => ∃ xs x3 x4 x5 x6, (∀ x ∈ xs, okT x) ∧ nodesL xs + i ≤ nodes x0 ∧ ds = [some (.t x0), some (.t x0), some (stk xs), x3, x4, x5, x6, none], ⟨[x0], none, none, none, none, fun x hx => by rw [List.mem_singleton.mp hx]; exact hok, by simp [nodesL], rfl⟩, ?_, ?_⟩
  · rintro i d ds hd ⟨xs, x3, x4, x5, x6, hx, hs, rfl⟩
    obtain ⟨hlt, rfl⟩ := rangeD_get hd
    simp only [x_gN, x_sSeq, List.set_cons_succ, List.set_cons_zero]
    have q3 : ∀ E : DE, (xs = [] → E.rt (.t (.bl true)) [some (.t x0), some (.t x0), some (stk xs), some (.t (.int (0 + (i : Int)))), x4, x5, x6, none]) → (xs ≠ [] → E.nx [some (.t x0), some (.t x0), some (stk xs), some (.t (.int (0 + (i : Int)))), x4, x5, x6, none]) → st_u_law_same_3 E [some (.t x0), some (.t x0), some (stk xs), some (.t (.int (0 + (i : Int)))), x4, x5, x6, none] := fun E h1 h2 => by
      simp only [st_u_law_same_3, x_sIf, x_qB, x_d2, x_oN, x_oE, x_dLst, x_aNil, x_nvs, x_get1, x_get2, true_and, List.getElem?_cons_succ, List.getElem?_cons_zero, Option.join_some]
      show ([] : List D).length ≤ sizeLine ∧ _
      refine ⟨Nat.zero_le _, eqNil hx ?_⟩
      by_cases he : xs = []
      · have := h1 he
        simp [he, st_u_law_same_2]
        rw [he, Int.zero_add] at this
        exact this
      · have := h2 he
        rw [Int.zero_add] at this
        simp [he]
        exact this
    refine q3 _ (fun _ => ?_) fun hne => ?_
    · simp
      exact h
    · rcases List.eq_nil_or_concat xs with rfl | ⟨ys, x, rfl⟩
      · exact absurd rfl hne
      · rw [List.concat_eq_append] at hx hs ⊢
        rw [nodesL_app] at hs
        have hy : ∀ y ∈ ys, okT y := fun y h => hx y (List.mem_append_left _ h)
        have hxx : okT x := hx x (by simp)
        simp only [nodesL] at hs
        have hpx := nodes_pos x
        simp [st_u_law_same_4, and_assoc, mPop, pget, pset]
        have et : ∀ b, truD (.t (.bl b)) = some b := fun b => rfl
        cases x with
        | non =>
          simp [st_u_law_same_14, st_u_law_same_5, fIsN, Dn.isNon]
          simp [st_u_law_same_16]
          simp only [et]
          rw [if_pos trivial]
          exact ⟨ys, hy, by simp only [nodes] at hs; omega, rfl⟩
        | int z =>
          simp [st_u_law_same_14, st_u_law_same_13, st_u_law_same_12, st_u_law_same_7, fIsN, Dn.isNon, isTy]
          simp [st_u_law_same_16]
          simp only [et]
          rw [if_pos trivial]
          exact ⟨ys, hy, by simp only [nodes] at hs; omega, rfl⟩
        | bl b => exact absurd hxx.1 (by simp [Dn.plain])
        | str z => exact absurd hxx.1 (by simp [Dn.plain])
        | tup ts =>
          simp [st_u_law_same_14, st_u_law_same_13, st_u_law_same_12, st_u_law_same_11, fIsN, Dn.isNon, isTy]
          have hlt2 := len_nodesL ts
          simp only [nodes] at hs
          simp [st_u_law_same_9, isTy]
          simp [st_u_law_same_10, et, and_assoc]
          refine ⟨by omega, ?_⟩
          rw [rangeD_map]
          refine comp_map (F := fun (k : Nat) => D.t (pr2 (nth .non ts k))) (List.range ts.length) (fun k hk Z W hz => ?_) (by rw [List.length_range]; exact sz1000 (by omega)) ?_
          · have hk : k < ts.length := List.mem_range.mp hk
            have hz := hz [some (.t x0), some (.t x0), some (stk ys), some (.t (.int i)), some (.t (.tup ts)), some (.t (.tup ts)), some (.t (.bl true)), some (.t (.int k))] rfl
            have a : L2.atI ts (k : Int) = some (nth .non ts k) := at_nth0 .non hk rfl
            simp [a]
            exact ⟨by decide, hz⟩
          · have e : ((List.range ts.length).map fun (k : Nat) => D.t (pr2 (nth .non ts k))) = ts.map (D.t ∘ pr2) := by
              refine List.ext_getElem (by simp) fun k h1 h2 => ?_
              have hk : k < ts.length := by simpa using h2
              simp only [List.getElem_map, List.getElem_range]
              rw [nth_of (List.getElem?_eq_getElem hk)]; rfl
            rw [e]
            have hlys := len_nodesL ys
            have hadd : ∀ (Q : D → Prop), Q (stk (ys ++ ts)) → fAdd (stk ys) (.lst (ts.map (D.t ∘ pr2))) Q := fun Q hQ => by
              refine ⟨_, _, rfl, rfl, x_cpsC, x_cpsC, ?_, ?_⟩
              · rw [List.length_map, List.length_map]; exact sz1000 (by omega)
              · rw [← List.map_append]; exact hQ
            have hts : ∀ x ∈ ts, okT x := fun x hm => by
              have hp : plains ts = true := hxx.1
              have hd : deps ts + 1 ≤ 50 := hxx.2
              have := plains_mem hp hm
              exact ⟨this.1, by omega⟩
            simp only [List.getElem?_cons_succ, List.getElem?_cons_zero, Option.join_some]
            refine hadd _ ?_
            simp [st_u_law_same_16]
            simp only [et]
            rw [if_pos trivial]
            exact ⟨ys ++ ts, fun x hm => by
              rcases List.mem_append.mp hm with hm | hm
              · exact hy x hm
              · exact hts x hm, by rw [nodesL_app]; omega, by rw [List.map_append]⟩
  · rintro ds ⟨xs, x3, x4, x5, x6, hx, hs, rfl⟩
    rw [rangeD_len] at hs
    have : (10000000 : Int).toNat = 10000000 := rfl
    omega
end K80

set_option Elab.async false
set_option linter.all false
set_option maxRecDepth 100000
set_option maxHeartbeats 400000
/-! the law -/
namespace K80
open PySem PySem.Spec PyProof.Rows L2 Dn Mt
def g_lbears : FD := fun l Q => ∃ g cnt told b pt pr t r, l = [tabD g, demD cnt told, .t (.int b), .t (prT (pt, pr)), .t (prT (t, r))] ∧ Dem g cnt told ∧ g.length ≤ 4 ∧ gw g ≤ 4 ∧ t < g.length ∧ r < gw g ∧ (t, r) ≠ (pt, pr) ∧ ∀ x, BearsIs g cnt told b (pt, pr) (t, r) x → Q (.t (.int x)) []
theorem d_lbears (l : List D) (Q : D → List D → Prop) (h : g_lbears l Q) : fnD N_u_law_bears M_u_law_bears (bd_u_law_bears g_kept) l Q := by
  obtain ⟨g, cnt, told, b, pt, pr, t, r, rfl, Dm, hn, hm, ht, hr, hne, h⟩ := h
  obtain ⟨row, hrow⟩ : ∃ row, g[t]? = some row := ⟨_, List.getElem?_eq_getElem ht⟩
  have hrl := Dm.tab.len row (List.mem_of_getElem? hrow)
  have hrr : r < row.length := by omega
  have hl := bears_law (g := g) (row := row) (cnt := cnt) (told := told) (budget := b) (pair := (pt, pr)) (other := (t, r)) Dm.rect hrow hrr hne
  have hRf : Rect (setG g t r 0) (gw g) := set_rect hrow (by omega) Dm.rect
  have hkl : (kept (setG g t r 0) cnt told).length ≤ 625 := kept_le (fun row hm => (hRf row hm).1) (by rw [set_len]; exact hn) hm
  show bd_u_law_bears _ _ [some (tabD g), some (demD cnt told), some (.t (.int b)), some (.t (prT (pt, pr))), some (.t (prT (t, r))), none, none, none, none, none, none]
  simp only [bd_u_law_bears, x_sSeq]
  simp [st_u_law_bears_1]
  simp [st_u_law_bears_2, at_tab hrow, cut_hi, cut_lo1]
  refine ⟨szK (by decide), ?_⟩
  refine fAddT (szK (by simp; omega)) (fAddT (szK (by simp; omega)) ?_)
  rw [row_set hrr]
  generalize hrs : row.set r 0 = row2
  simp
  refine ⟨szK (by decide), fAddT (szK (by simp; omega)) (fAddT (szK (by simp; omega)) ?_)⟩
  rw [← hrs, tab_set hrow]
  unfold bearL at hl
  simp [st_u_law_bears_3]
  refine ⟨_, _, cnt, told, rfl, hRf, by rw [set_len]; exact hn, hm, Dm.tl, ?_⟩
  simp
  refine comp_filter (F := fun q : CP => .t (.int q.1)) (kept (setG g t r 0) cnt told) (fun q => decide ((t, r) ∈ q.2) && decide ((pt, pr) ∉ q.2)) (fun q hq Z W hz hnn => ?_) (szK (by omega)) ?_
  · obtain ⟨c, ps⟩ := q
    refine tgt2 ?_
    have hz := fun k => hz k [some (tabD g), some (demD cnt told), some (.t (.int b)), some (.t (prT (pt, pr))), some (.t (prT (t, r))), some (.t (.int (t : Nat))), some (.t (.int (r : Nat))), some (tabD (setG g t r 0)), some (.t (.int c)), some (.t (psT ps)), none] rfl
    have hnn := fun k => hnn k [some (tabD g), some (demD cnt told), some (.t (.int b)), some (.t (prT (pt, pr))), some (.t (prT (t, r))), some (.t (.int (t : Nat))), some (.t (.int (r : Nat))), some (tabD (setG g t r 0)), some (.t (.int c)), some (.t (psT ps)), none] rfl
    generalize setG g t r 0 = G at hz hnn ⊢
    simp
    refine inP ?_
    by_cases h1 : (t, r) ∈ ps
    · simp [h1]
      refine notInP ?_
      by_cases h2 : (pt, pr) ∈ ps
      · have := hnn (by simp [h1, h2])
        simp [h2]
        exact this
      · have := hz (by simp [h1, h2])
        simp [h2]
        exact this
    · have := hnn (by simp [h1])
      simp [h1]
      exact this
  · have e : (((kept (setG g t r 0) cnt told).filter fun q => decide ((t, r) ∈ q.2) && decide ((pt, pr) ∉ q.2)).map fun q : CP => D.t (.int q.1)) = (((kept (setG g t r 0) cnt told).filter fun q => decide ((t, r) ∈ q.2) && decide ((pt, pr) ∉ q.2)).map (·.1)).map (D.t ∘ T.int) := by rw [List.map_map]; rfl
    rw [e]
    simp only at hl
    generalize ((kept (setG g t r 0) cnt told).filter fun q => decide ((t, r) ∈ q.2) && decide ((pt, pr) ∉ q.2)).map (·.1) = cs at hl
    generalize setG g t r 0 = G
    simp only [st_u_law_bears_4, List.set_cons_succ, List.set_cons_zero]
    simp
    refine fNeNilM (fun _ _ => rfl) (fun _ _ => Nat.zero_le _) ?_
    by_cases h0 : cs = []
    · have := h _ (hl.1 h0)
      simp [h0]
      exact this
    · simp [h0]
      refine minL_of h0 fun mn h1 h2 => ?_
      have := h _ (hl.2 mn h1 h2)
      by_cases hb : mn ≤ b
      · simp [hb] at this
        simp [hb]
        refine minL_of h0 fun mn' h1' h2' => ?_
        have e : mn' = mn := Int.le_antisymm (h2' mn h1) (h2 mn' h1')
        subst e
        simp
        exact this
      · simp [hb] at this
        simp [hb]
        exact this
end K80

set_option Elab.async false
set_option linter.all false
set_option maxRecDepth 100000
set_option maxHeartbeats 400000
/-! a scene; the other pairs -/
namespace K80
open PySem PySem.Spec PyProof.Rows L2 Dn Mt
theorem prT_inj {p q : Nat × Nat} (h : prT p = prT q) : p = q := by
  obtain ⟨a, b⟩ := p
  obtain ⟨c, d⟩ := q
  simp at h
  have h1 : a = c := by omega
  have h2 : b = d := by omega
  rw [h1, h2]
theorem fNeP {p q : Nat × Nat} {Q : D → Prop} (h : Q (.t (.bl (!decide (p = q))))) : fNe (.t (prT p)) (.t (prT q)) Q := by
  refine fNeT (by simp) (by simp) (by simp) (by simp) ?_
  have : decide (prT p = prT q) = decide (p = q) := by
    rw [Bool.eq_iff_iff, decide_eq_true_iff, decide_eq_true_iff]
    exact ⟨prT_inj, fun e => by rw [e]⟩
  rw [this]; exact h
def g_others : FD := fun l Q => ∃ g pair, l = [tabD g, .t (prT pair)] ∧ g.length ≤ 4 ∧ gw g ≤ 4 ∧ ∀ ps, PrsOk g.length (gw g) ps → (∀ p ∈ ps, p ≠ pair) → ps.length ≤ 16 → Q (prsL ps) []
def OInv (g : Grid) (pair : Nat × Nat) (i : Nat) (ds : DS) : Prop := ∃ ps x3 x4, PrsOk g.length (gw g) ps ∧ (∀ p ∈ ps, p ≠ pair) ∧ ps.length ≤ i * 4 ∧ ds = [some (tabD g), some (.t (prT pair)), some (prsL ps), x3, x4]
theorem d_others (l : List D) (Q : D → List D → Prop) (h : g_others l Q) : fnD N_u_law_others M_u_law_others bd_u_law_others l Q := by
  obtain ⟨g, pair, rfl, hn, hm, h⟩ := h
  show bd_u_law_others _ [some (tabD g), some (.t (prT pair)), none, none, none]
  simp only [bd_u_law_others, x_sSeq]
  simp [-x_sSeq]
  refine ⟨by omega, OInv g pair, ⟨[], none, none, (fun p hp => by cases hp), (fun p hp => by cases hp), Nat.zero_le _, rfl⟩, ?_, ?_⟩
  · rintro i d ds hd ⟨ps, x3, x4, h1, h2, h3, rfl⟩
    obtain ⟨hi, rfl⟩ := rangeD_get hd
    obtain ⟨row, g', hg⟩ : ∃ row g', g = row :: g' := by
      cases g with
      | nil => exact absurd hi (Nat.not_lt_zero _)
      | cons row g' => exact ⟨row, g', rfl⟩
    have hgw : gw g = row.length := by rw [hg]; rfl
    have a0 : L2.atI (g.map rowT) 0 = some (rowT row) := by rw [hg, List.map_cons]; exact x_at0
    simp [a0]
    refine ⟨by omega, ?_⟩
    rw [rangeD_map]
    refine comp_filter (F := fun r => .t (prT (i, r))) (List.range row.length) (fun r => !decide ((i, r) = pair)) (fun r hr Z W hz hnn => ?_) (szK (by rw [List.length_range]; omega)) ?_
    · have hz := fun k => hz k [some (tabD g), some (.t (prT pair)), some (prsL ps), some (.t (.int (i : Nat))), some (.t (.int (r : Nat)))] rfl
      have hnn := fun k => hnn k [some (tabD g), some (.t (prT pair)), some (prsL ps), some (.t (.int (i : Nat))), some (.t (.int (r : Nat)))] rfl
      simp
      refine ⟨szK (by decide), fNeP (p := (i, r)) ?_⟩
      by_cases he : (i, r) = pair
      · have := hnn (by simp [he])
        simp [he]
        exact this
      · have := hz (by simp [he])
        simp [he]
        exact ⟨szK (by decide), this⟩
    · have e : (((List.range row.length).filter fun r => !decide ((i, r) = pair)).map fun r => D.t (prT (i, r))) = (((List.range row.length).filter fun r => !decide ((i, r) = pair)).map fun r => (i, r)).map (D.t ∘ prT) := by rw [List.map_map]; rfl
      rw [e]
      have hlen : (((List.range row.length).filter fun r => !decide ((i, r) = pair)).map fun r => (i, r)).length ≤ 4 := by
        rw [List.length_map]
        refine Nat.le_trans (List.length_filter_le _ _) ?_
        rw [List.length_range]; omega
      have hmem : ∀ p ∈ (((List.range row.length).filter fun r => !decide ((i, r) = pair)).map fun r => (i, r)), p.1 = i ∧ p.2 < row.length ∧ p ≠ pair := fun p hp => by
        obtain ⟨r, hr, rfl⟩ := List.mem_map.mp hp
        obtain ⟨h4, h5⟩ := List.mem_filter.mp hr
        exact ⟨rfl, List.mem_range.mp h4, by simpa using h5⟩
      generalize (((List.range row.length).filter fun r => !decide ((i, r) = pair)).map fun r => (i, r)) = qs at hlen hmem
      simp only [List.getElem?_cons_succ, List.getElem?_cons_zero, Option.join_some]
      refine fAddLL (szK (by omega)) ?_
      refine ⟨ps ++ qs, _, _, fun p hp => ?_, fun p hp => ?_, by rw [List.length_append]; omega, rfl⟩
      · rcases List.mem_append.mp hp with hp | hp
        · exact h1 p hp
        · obtain ⟨k1, k2, _⟩ := hmem p hp
          exact ⟨by rw [k1]; exact hi, by omega⟩
      · rcases List.mem_append.mp hp with hp | hp
        · exact h2 p hp
        · exact (hmem p hp).2.2
  · rintro ds ⟨ps, x3, x4, h1, h2, h3, rfl⟩
    rw [rangeD_len] at h3
    simp
    exact h ps h1 h2 (by omega)
abbrev scT (g : Grid) (cnt : Nat) (told : List Nat) (b : Int) (p : Nat × Nat) : T := .tup [.tup (g.map rowT), demT cnt told, .int b, prT p]
def ScOk (g : Grid) (cnt : Nat) (told : List Nat) (p : Nat × Nat) : Prop := Dem g cnt told ∧ g.length ≤ 4 ∧ gw g ≤ 4 ∧ p.1 < g.length ∧ p.2 < gw g
def g_scene : FD := fun l Q => ∃ src, l = [src] ∧ Src src ∧ ∀ src', Src src' → Q (.t .non) [src'] ∧ ∀ g cnt told b p, ScOk g cnt told p → Q (.t (scT g cnt told b p)) [src']
def SInv (i : Nat) (ds : DS) : Prop := ∃ src x1 x2 x3 x4 x5, Src src ∧ ds = [some src, x1, x2, x3, x4, x5]
section
variable {E : DE} {src : D} {g : Grid} {cnt : Nat} {told : List Nat} {b : Int} {x1 x2 x3 x4 x5 : Option D}
theorem S1 (hs : Src src) (h : ∀ src g m, Src src → Rect g m → 1 ≤ g.length → g.length ≤ 4 → m ≤ 4 → gw g = m → E.nx [some src, x1, some (tabD g), x3, x4, x5]) : st_u_law_scene_1 g_table g_draw E [some src, x1, x2, x3, x4, x5] := by
  simp [st_u_law_scene_1, getM, getA, clrM, updM, okA]
  refine ⟨src, 4, rfl, hs, by omega, by omega, fun y src hs y0 y1 => ?_⟩
  simp [updM, getM, getA, clrM, okA]
  refine ⟨src, 4, rfl, hs, by omega, by omega, fun z src hs z0 z1 => ?_⟩
  obtain ⟨n, rfl⟩ := Int.eq_ofNat_of_zero_le y0
  obtain ⟨m, rfl⟩ := Int.eq_ofNat_of_zero_le z0
  simp [updM, getM, getA, clrM, okA]
  refine ⟨src, 1 + n, 1 + m, ?_, hs, by omega, by omega, fun g src hl hR hs => ?_⟩
  · have e1 : (1 : Int) + (n : Int) = ((1 + n : Nat) : Int) := by omega
    have e2 : (1 : Int) + (m : Int) = ((1 + m : Nat) : Int) := by omega
    rw [e1, e2]
  · simp [updM]
    refine h src g (1 + m) hs hR (by omega) (by omega) (by omega) (gw_eq (fun row hr => (hR row hr).1) fun z => ?_)
    rw [z] at hl; simp at hl; omega
theorem S2 (hs : Src src) (hg : 1 ≤ g.length) (hm : gw g ≤ 4) (h : ∀ src cnt told, Src src → cnt ≤ 8 → told.Nodup → (∀ r ∈ told, r < gw g) → E.nx [some src, x1, some (tabD g), some (demD cnt told), x4, x5]) : st_u_law_scene_2 g_demand E [some src, x1, some (tabD g), x3, x4, x5] := by
  obtain ⟨row, g', hg'⟩ : ∃ row g', g = row :: g' := by
    cases g with
    | nil => simp at hg
    | cons row g' => exact ⟨row, g', rfl⟩
  have hgw : gw g = row.length := by rw [hg']; rfl
  have a0 : L2.atI (g.map rowT) 0 = some (rowT row) := by rw [hg', List.map_cons]; exact x_at0
  simp [st_u_law_scene_2, a0, getM, getA, clrM, updM, okA]
  refine ⟨src, row.length, rfl, hs, by omega, fun cnt told src hs h1 h2 h3 => ?_⟩
  simp [updM]
  exact h src cnt told hs h1 h2 (by rw [hgw]; exact h3)
theorem S3 (h : E.nx [some src, x1, x2, some (demD (max 1 cnt) told), x4, x5]) : st_u_law_scene_3 E [some src, x1, x2, some (demD cnt told), x4, x5] := by
  have e : (if (1 : Int) < (cnt : Int) then (cnt : Int) else 1) = ((max 1 cnt : Nat) : Int) := by split <;> omega
  simp [st_u_law_scene_3]
  refine ⟨szK (by decide), ?_⟩
  rw [e]
  exact h
theorem S4 {m : Nat} (hs : Src src) (hR : Rect g m) (hn : g.length ≤ 4) (hm : m ≤ 4) (ht : told.length ≤ 100) (h : ∀ src b, Src src → E.nx [some src, x1, some (tabD g), some (demD cnt told), some (.t (.int b)), x5]) : st_u_law_scene_4 g_budget E [some src, x1, some (tabD g), some (demD cnt told), x4, x5] := by
  simp [st_u_law_scene_4, getM, getA, clrM, updM, okA]
  refine ⟨src, g, m, cnt, told, rfl, hs, hR, hn, hm, ht, fun b src hs => ?_⟩
  simp [updM]
  exact h src b hs
theorem S5 {m : Nat} (hR : Rect g m) (hn : g.length ≤ 4) (hm : m ≤ 4) (ht : told.length ≤ 100) (h : ∀ ps, PrsOk g.length m ps → ps.length ≤ 10 → E.nx [some src, x1, some (tabD g), some (demD cnt told), some (.t (.int b)), some (prsL ps)]) : st_u_law_scene_5 g_sure_ones E [some src, x1, some (tabD g), some (demD cnt told), some (.t (.int b)), x5] := by
  simp [st_u_law_scene_5]
  exact ⟨g, m, cnt, told, b, rfl, hR, hn, hm, ht, fun ps h1 h2 => h ps h1 h2⟩
end
theorem d_scene (l : List D) (Q : D → List D → Prop) (h : g_scene l Q) : fnD N_u_law_scene M_u_law_scene (bd_u_law_scene g_table g_demand g_budget g_sure_ones g_draw g_pick) l Q := by
  obtain ⟨src, rfl, hs, h⟩ := h
  show bd_u_law_scene _ _ _ _ _ _ _ [some src, none, none, none, none, none]
  simp only [bd_u_law_scene, x_sSeq]
  simp [st_u_law_scene_8, -x_sSeq]
  refine ⟨SInv, ⟨src, _, _, _, _, _, hs, rfl⟩, ?_, ?_⟩
  · rintro i d ds hd ⟨src, x1, x2, x3, x4, x5, hs, rfl⟩
    simp only [x_gN, x_sSeq, List.set_cons_succ, List.set_cons_zero]
    refine S1 hs fun src g m hs hR hg hn hm hgw => S2 hs hg (by omega) fun src cnt told hs hc hnd hr => S3 ?_
    have htl : told.length ≤ 100 := by
      have := hnd.length_le_of_subset (l₂ := List.range (gw g)) fun x hx => List.mem_range.mpr (hr x hx)
      rw [List.length_range] at this
      omega
    refine S4 hs hR hn hm htl fun src b hs => S5 hR hn hm htl fun ps hp hpl => ?_
    simp [st_u_law_scene_7, -x_sSeq]
    refine fNeNilM (fun _ _ => by simp) (fun _ _ => by simp) ?_
    cases hps : ps with
    | nil =>
      simp
      exact ⟨src, _, _, _, _, _, hs, rfl⟩
    | cons p0 ps0 =>
      rw [← hps]
      have hne : ps ≠ [] := by rw [hps]; simp
      simp [hne, st_u_law_scene_6, getM, getA, clrM, updM, okA]
      refine ⟨src, ps.map prT, by rw [List.map_map], hs, by rw [List.length_map]; exact List.length_pos_iff.mpr hne, by rw [List.length_map]; omega, fun x src hs hx => ?_⟩
      obtain ⟨p, hpm, rfl⟩ := List.mem_map.mp hx
      obtain ⟨h1, h2⟩ := hp p hpm
      have := (h src hs).2 g (max 1 cnt) told b p ⟨⟨⟨by omega, by omega, fun row hr => by rw [(hR row hr).1, hgw]⟩, by rw [hgw]; exact hR, ⟨hnd, .inl hr⟩, by omega, htl⟩, hn, by omega, h1, by rw [hgw]; exact h2⟩
      simp [updM]
      exact ⟨szK (by decide), hs.nf, this⟩
  · rintro ds ⟨src, x1, x2, x3, x4, x5, hs, rfl⟩
    have := (h src hs).1
    simp [st_u_law_scene_9]
    exact ⟨hs.nf, this⟩
end K80

set_option Elab.async false
set_option linter.all false
set_option maxRecDepth 100000
set_option maxHeartbeats 400000
/-! the law -/
namespace K80
open PySem PySem.Spec PyProof.Rows L2 Dn Mt
theorem tgt4 {i j k l : Nat} {x y z u : T} {ds : DS} {Qn : DS → Prop} (h : Qn ((((ds.set i (some (.t x))).set j (some (.t y))).set k (some (.t z))).set l (some (.t u)))) : gT 4 (gsC (gN i) (gsC (gN j) (gsC (gN k) (gsC (gN l) gsN)))) (.t (.tup [x, y, z, u])) ds Qn := by
  simp only [x_gT, x_titT, List.map_cons, List.map_nil, x_gsC, x_gN, x_gsN, true_and]
  exact ⟨rfl, h⟩
theorem okI (x : Int) : okT (.int x) ∧ nodes (.int x) ≤ 1000 := ⟨⟨rfl, Nat.zero_le _⟩, by simp [nodes]⟩
section
variable {E : DE} {src : D} {g : Grid} {cnt : Nat} {told : List Nat} {b : Int} {p q : Nat × Nat} {x0 x2 x3 x9 : Option D}
theorem o_turn (hs : Src src) (hS : ScOk g cnt told p) (hq : q.1 < g.length ∧ q.2 < gw g) (hne : q ≠ p) (h : ∀ src x9, Src src → E.nx [x0, some src, x2, x3, some (tabD g), some (demD cnt told), some (.t (.int b)), some (.t (prT p)), some (.t (prT q)), x9]) :
    st_law_4 g_lbears { nx := fun ds' => st_law_6 g_same g_bears { nx := fun ds' => st_law_8 g_draw g_same g_bears E ds', rt := E.rt, bk := E.bk, ct := E.ct } ds', rt := E.rt, bk := E.bk, ct := E.ct } [x0, some src, x2, x3, some (tabD g), some (demD cnt told), some (.t (.int b)), some (.t (prT p)), some (.t (prT q)), x9] := by
  obtain ⟨Dm, hn, hm, _, _⟩ := hS
  obtain ⟨pt, pr⟩ := p
  obtain ⟨t, r⟩ := q
  obtain ⟨row, hrow⟩ : ∃ row, g[t]? = some row := ⟨_, List.getElem?_eq_getElem hq.1⟩
  simp [st_law_4]
  refine ⟨g, cnt, told, b, pt, pr, t, r, rfl, Dm, hn, hm, hq.1, hq.2, hne, fun x hx => ?_⟩
  simp [st_law_6]
  refine ⟨g, cnt, told, b, pt, pr, t, r, rfl, Dm, hq.1, hq.2, fun y hy => ?_⟩
  have e := bears_unique Dm.rect hrow hx hy
  subst e
  simp
  refine ⟨_, rfl, (okI x).1, (okI x).2, ?_⟩
  simp
  simp [st_law_8, getM, getA, clrM, updM, okA]
  refine ⟨src, 4, rfl, hs, by omega, by omega, fun y src hs y0 y1 => ?_⟩
  simp [updM]
  by_cases h0 : y = 0
  · simp [h0, permI]
    refine ⟨g, cnt, told, b, pt, pr, t, r, rfl, Dm, hq.1, hq.2, fun y hy => ?_⟩
    have e := bears_unique Dm.rect hrow hx hy
    subst e
    simp
    refine ⟨_, rfl, (okI x).1, (okI x).2, ?_⟩
    simp
    exact h src _ hs
  · simp [h0]
    exact h src _ hs
end
def WInv (ns : List Int) (i : Nat) (ds : DS) : Prop := ∃ src x2 x3 x4 x5 x6 x7 x8 x9, Src src ∧ ds = [some (.scr (ns.map (D.t ∘ T.int))), some src, x2, x3, x4, x5, x6, x7, x8, x9]
def VInv (ns : List Int) (x2 x3 : Option D) (g : Grid) (cnt : Nat) (told : List Nat) (b : Int) (p : Nat × Nat) (i : Nat) (ds : DS) : Prop := ∃ src x8 x9, Src src ∧ ds = [some (.scr (ns.map (D.t ∘ T.int))), some src, x2, x3, some (tabD g), some (demD cnt told), some (.t (.int b)), some (.t (prT p)), x8, x9]
theorem d_law (l : List D) (Q : D → List D → Prop) (h : Dn.g_law l Q) : fnD N_law M_law (bd_law g_pool g_scene g_others g_lbears g_same g_bears g_draw) l Q := by
  obtain ⟨ns, rfl, hn, h⟩ := h
  show bd_law _ _ _ _ _ _ _ _ [some (.scr (ns.map (D.t ∘ T.int))), none, none, none, none, none, none, none, none, none]
  simp only [bd_law, x_sSeq]
  simp [st_law_1, and_assoc, -x_sSeq]
  refine ⟨ns, rfl, hn, fun src hs => ?_⟩
  simp [st_law_11, -x_sSeq]
  refine ⟨WInv ns, ⟨src, _, _, _, _, _, _, _, _, hs, rfl⟩, ?_, ?_⟩
  · rintro i d ds hd ⟨src, x2, x3, x4, x5, x6, x7, x8, x9, hs, rfl⟩
    simp only [x_gN, x_sSeq, List.set_cons_succ, List.set_cons_zero]
    simp [st_law_2, getM, getA, clrM, updM, okA, -x_sSeq]
    refine ⟨src, rfl, hs, fun src hs => ⟨?_, fun g cnt told b p hS => ?_⟩⟩
    · simp [updM, -x_sSeq]
      simp [st_law_10, Dn.isNon, fNotN, -x_sSeq]
      exact ⟨src, _, _, _, _, _, _, _, _, hs, rfl⟩
    · simp [updM, -x_sSeq]
      simp [st_law_10, Dn.isNon, fNotN, -x_sSeq]
      simp only [x_sSeq, st_law_3, x_sAsg, x_dN, List.getElem?_cons_succ, List.getElem?_cons_zero]
      refine ⟨rfl, tgt4 ?_⟩
      simp only [List.set_cons_succ, List.set_cons_zero]
      simp [st_law_9, -x_sSeq]
      refine ⟨g, p, rfl, hS.2.1, hS.2.2.1, fun ps h1 h2 h3 => ?_⟩
      simp [-x_sSeq]
      refine ⟨VInv ns _ _ g cnt told b p, ⟨src, _, _, hs, rfl⟩, ?_, ?_⟩
      · rintro i d ds hd ⟨src, x8, x9, hs, rfl⟩
        obtain ⟨q, eq, rfl⟩ := map_get hd
        have hm := List.mem_of_getElem? eq
        simp only [x_gN, x_sSeq, List.set_cons_succ, List.set_cons_zero]
        refine o_turn hs hS (h1 q hm) (h2 q hm) ?_
        exact fun src x9 hs => ⟨src, _, x9, hs, rfl⟩
      · rintro ds ⟨src, x8, x9, hs, rfl⟩
        exact ⟨src, _, _, _, _, _, _, _, _, hs, rfl⟩
  · rintro ds ⟨src, x2, x3, x4, x5, x6, x7, x8, x9, hs, rfl⟩
    simp [st_law_12]
    exact h
end K80

set_option Elab.async false
set_option linter.all false
set_option maxRecDepth 100000
set_option maxHeartbeats 4000000
namespace K80
open PySem PySem.Spec PyProof.Rows L2 Dn
theorem all_mk {l : PySem.W.OpenLaw} {q : Program} {w : World} {K : PySem.W.Frag} {h : Heap} {mg : Str → Option Value} {fa f1 f2 f3 f4 f5 f6 f7 f8 f9 f10 f11 f12 f13 f14 f15 f16 f17 f18 f19 f20 f21 f22 f23 f24 f25 f26 f27 f28 f29 f30 f31 f32 f33 : Addr} (X : K.In h) (TO : TabsOf q K h) (G : h.Ns mainGlobals mg) (hfa : mg "law" = some (.ref fa))
    {od1 an1 od2 an2 od3 an3 od4 an4 od5 an5 od6 an6 od7 an7 od8 an8 od9 an9 od10 an10 od11 an11 od12 an12 od13 an13 od14 an14 od15 an15 od16 an16 od17 an17 od18 an18 od19 an19 od20 an20 od21 an21 od22 an22 od23 an23 od24 an24 od25 an25 od26 an26 od27 an27 od28 an28 od29 an29 od30 an30 od31 an31 od32 an32 od33 an33 : Option Addr} {sl1 sl2 sl3 sl4 sl5 sl6 sl7 sl8 sl9 sl10 sl11 sl12 sl13 sl14 sl15 sl16 sl17 sl18 sl19 sl20 sl21 sl22 sl23 sl24 sl25 sl26 sl27 sl28 sl29 sl30 sl31 sl32 sl33 : Array (Option Value)} {oc1 kV1 dc1 pm1 cd1 ct1 oc2 kV2 dc2 pm2 cd2 ct2 oc3 kV3 dc3 pm3 cd3 ct3 oc4 kV4 dc4 pm4 cd4 ct4 oc5 kV5 dc5 pm5 cd5 ct5 oc6 kV6 dc6 pm6 cd6 ct6 oc7 kV7 dc7 pm7 cd7 ct7 oc8 kV8 dc8 pm8 cd8 ct8 oc9 kV9 dc9 pm9 cd9 ct9 oc10 kV10 dc10 pm10 cd10 ct10 oc11 kV11 dc11 pm11 cd11 ct11 oc12 kV12 dc12 pm12 cd12 ct12 oc13 kV13 dc13 pm13 cd13 ct13 oc14 kV14 dc14 pm14 cd14 ct14 oc15 kV15 dc15 pm15 cd15 ct15 oc16 kV16 dc16 pm16 cd16 ct16 oc17 kV17 dc17 pm17 cd17 ct17 oc18 kV18 dc18 pm18 cd18 ct18 oc19 kV19 dc19 pm19 cd19 ct19 oc20 kV20 dc20 pm20 cd20 ct20 oc21 kV21 dc21 pm21 cd21 ct21 oc22 kV22 dc22 pm22 cd22 ct22 oc23 kV23 dc23 pm23 cd23 ct23 oc24 kV24 dc24 pm24 cd24 ct24 oc25 kV25 dc25 pm25 cd25 ct25 oc26 kV26 dc26 pm26 cd26 ct26 oc27 kV27 dc27 pm27 cd27 ct27 oc28 kV28 dc28 pm28 cd28 ct28 oc29 kV29 dc29 pm29 cd29 ct29 oc30 kV30 dc30 pm30 cd30 ct30 oc31 kV31 dc31 pm31 cd31 ct31 oc32 kV32 dc32 pm32 cd32 ct32 oc33 kV33 dc33 pm33 cd33 ct33 : Value} {tc2 tp2 tc3 tp3 tc5 tp5 tc10 tp10 tc11 tp11 tc14 tp14 : Addr} {dr2 dr3 dr5 dr10 dr11 dr14 : DefRec}
    (a1 : PySem.W.nsIn K mainGlobals "width" = some (some (.ref f1))) (l1 : K.lookup f1 = some ⟨oc1, od1, .func (PySem.W.fnOf "width" "width" (defArgs s_width) (defBody s_width) (defScope s_width) .none kV1 dc1 pm1 an1 cd1 ct1), sl1⟩) (c1 : PySem.W.codeIn K cd1 "width" = true) (k1 : PySem.W.keepIn K (.ref f1) = true)
    (a2 : PySem.W.nsIn K mainGlobals "barred" = some (some (.ref f2))) (l2 : K.lookup f2 = some ⟨oc2, od2, .func (PySem.W.fnOf "barred" "barred" (defArgs s_barred) (defBody s_barred) (defScope s_barred) .none kV2 dc2 pm2 an2 cd2 ct2), sl2⟩) (c2 : PySem.W.codeIn K cd2 "barred" = true) (k2 : PySem.W.keepIn K (.ref f2) = true)
    (a3 : PySem.W.nsIn K mainGlobals "without" = some (some (.ref f3))) (l3 : K.lookup f3 = some ⟨oc3, od3, .func (PySem.W.fnOf "without" "without" (defArgs s_without) (defBody s_without) (defScope s_without) .none kV3 dc3 pm3 an3 cd3 ct3), sl3⟩) (c3 : PySem.W.codeIn K cd3 "without" = true) (k3 : PySem.W.keepIn K (.ref f3) = true)
    (a4 : PySem.W.nsIn K mainGlobals "weight_of" = some (some (.ref f4))) (l4 : K.lookup f4 = some ⟨oc4, od4, .func (PySem.W.fnOf "weight_of" "weight_of" (defArgs s_weight_of) (defBody s_weight_of) (defScope s_weight_of) .none kV4 dc4 pm4 an4 cd4 ct4), sl4⟩) (c4 : PySem.W.codeIn K cd4 "weight_of" = true) (k4 : PySem.W.keepIn K (.ref f4) = true)
    (a5 : PySem.W.nsIn K mainGlobals "weighed" = some (some (.ref f5))) (l5 : K.lookup f5 = some ⟨oc5, od5, .func (PySem.W.fnOf "weighed" "weighed" (defArgs s_weighed) (defBody s_weighed) (defScope s_weighed) .none kV5 dc5 pm5 an5 cd5 ct5), sl5⟩) (c5 : PySem.W.codeIn K cd5 "weighed" = true) (k5 : PySem.W.keepIn K (.ref f5) = true)
    (a6 : PySem.W.nsIn K mainGlobals "pushed" = some (some (.ref f6))) (l6 : K.lookup f6 = some ⟨oc6, od6, .func (PySem.W.fnOf "pushed" "pushed" (defArgs s_pushed) (defBody s_pushed) (defScope s_pushed) .none kV6 dc6 pm6 an6 cd6 ct6), sl6⟩) (c6 : PySem.W.codeIn K cd6 "pushed" = true) (k6 : PySem.W.keepIn K (.ref f6) = true)
    (a7 : PySem.W.nsIn K mainGlobals "looking" = some (some (.ref f7))) (l7 : K.lookup f7 = some ⟨oc7, od7, .func (PySem.W.fnOf "looking" "looking" (defArgs s_looking) (defBody s_looking) (defScope s_looking) .none kV7 dc7 pm7 an7 cd7 ct7), sl7⟩) (c7 : PySem.W.codeIn K cd7 "looking" = true) (k7 : PySem.W.keepIn K (.ref f7) = true)
    (a8 : PySem.W.nsIn K mainGlobals "best_end" = some (some (.ref f8))) (l8 : K.lookup f8 = some ⟨oc8, od8, .func (PySem.W.fnOf "best_end" "best_end" (defArgs s_best_end) (defBody s_best_end) (defScope s_best_end) .none kV8 dc8 pm8 an8 cd8 ct8), sl8⟩) (c8 : PySem.W.codeIn K cd8 "best_end" = true) (k8 : PySem.W.keepIn K (.ref f8) = true)
    (a9 : PySem.W.nsIn K mainGlobals "grown" = some (some (.ref f9))) (l9 : K.lookup f9 = some ⟨oc9, od9, .func (PySem.W.fnOf "grown" "grown" (defArgs s_grown) (defBody s_grown) (defScope s_grown) .none kV9 dc9 pm9 an9 cd9 ct9), sl9⟩) (c9 : PySem.W.codeIn K cd9 "grown" = true) (k9 : PySem.W.keepIn K (.ref f9) = true)
    (a10 : PySem.W.nsIn K mainGlobals "mates_cost" = some (some (.ref f10))) (l10 : K.lookup f10 = some ⟨oc10, od10, .func (PySem.W.fnOf "mates_cost" "mates_cost" (defArgs s_mates_cost) (defBody s_mates_cost) (defScope s_mates_cost) .none kV10 dc10 pm10 an10 cd10 ct10), sl10⟩) (c10 : PySem.W.codeIn K cd10 "mates_cost" = true) (k10 : PySem.W.keepIn K (.ref f10) = true)
    (a11 : PySem.W.nsIn K mainGlobals "least_pairings" = some (some (.ref f11))) (l11 : K.lookup f11 = some ⟨oc11, od11, .func (PySem.W.fnOf "least_pairings" "least_pairings" (defArgs s_least_pairings) (defBody s_least_pairings) (defScope s_least_pairings) .none kV11 dc11 pm11 an11 cd11 ct11), sl11⟩) (c11 : PySem.W.codeIn K cd11 "least_pairings" = true) (k11 : PySem.W.keepIn K (.ref f11) = true)
    (a12 : PySem.W.nsIn K mainGlobals "least_row" = some (some (.ref f12))) (l12 : K.lookup f12 = some ⟨oc12, od12, .func (PySem.W.fnOf "least_row" "least_row" (defArgs s_least_row) (defBody s_least_row) (defScope s_least_row) .none kV12 dc12 pm12 an12 cd12 ct12), sl12⟩) (c12 : PySem.W.codeIn K cd12 "least_row" = true) (k12 : PySem.W.keepIn K (.ref f12) = true)
    (a13 : PySem.W.nsIn K mainGlobals "least_cost" = some (some (.ref f13))) (l13 : K.lookup f13 = some ⟨oc13, od13, .func (PySem.W.fnOf "least_cost" "least_cost" (defArgs s_least_cost) (defBody s_least_cost) (defScope s_least_cost) .none kV13 dc13 pm13 an13 cd13 ct13), sl13⟩) (c13 : PySem.W.codeIn K cd13 "least_cost" = true) (k13 : PySem.W.keepIn K (.ref f13) = true)
    (a14 : PySem.W.nsIn K mainGlobals "smaller" = some (some (.ref f14))) (l14 : K.lookup f14 = some ⟨oc14, od14, .func (PySem.W.fnOf "smaller" "smaller" (defArgs s_smaller) (defBody s_smaller) (defScope s_smaller) .none kV14 dc14 pm14 an14 cd14 ct14), sl14⟩) (c14 : PySem.W.codeIn K cd14 "smaller" = true) (k14 : PySem.W.keepIn K (.ref f14) = true)
    (a15 : PySem.W.nsIn K mainGlobals "least_with" = some (some (.ref f15))) (l15 : K.lookup f15 = some ⟨oc15, od15, .func (PySem.W.fnOf "least_with" "least_with" (defArgs s_least_with) (defBody s_least_with) (defScope s_least_with) .none kV15 dc15 pm15 an15 cd15 ct15), sl15⟩) (c15 : PySem.W.codeIn K cd15 "least_with" = true) (k15 : PySem.W.keepIn K (.ref f15) = true)
    (a16 : PySem.W.nsIn K mainGlobals "with_pair" = some (some (.ref f16))) (l16 : K.lookup f16 = some ⟨oc16, od16, .func (PySem.W.fnOf "with_pair" "with_pair" (defArgs s_with_pair) (defBody s_with_pair) (defScope s_with_pair) .none kV16 dc16 pm16 an16 cd16 ct16), sl16⟩) (c16 : PySem.W.codeIn K cd16 "with_pair" = true) (k16 : PySem.W.keepIn K (.ref f16) = true)
    (a17 : PySem.W.nsIn K mainGlobals "priced" = some (some (.ref f17))) (l17 : K.lookup f17 = some ⟨oc17, od17, .func (PySem.W.fnOf "priced" "priced" (defArgs s_priced) (defBody s_priced) (defScope s_priced) .none kV17 dc17 pm17 an17 cd17 ct17), sl17⟩) (c17 : PySem.W.codeIn K cd17 "priced" = true) (k17 : PySem.W.keepIn K (.ref f17) = true)
    (a18 : PySem.W.nsIn K mainGlobals "bears" = some (some (.ref f18))) (l18 : K.lookup f18 = some ⟨oc18, od18, .func (PySem.W.fnOf "bears" "bears" (defArgs s_bears) (defBody s_bears) (defScope s_bears) .none kV18 dc18 pm18 an18 cd18 ct18), sl18⟩) (c18 : PySem.W.codeIn K cd18 "bears" = true) (k18 : PySem.W.keepIn K (.ref f18) = true)
    (a19 : PySem.W.nsIn K mainGlobals "_law_pool" = some (some (.ref f19))) (l19 : K.lookup f19 = some ⟨oc19, od19, .func (PySem.W.fnOf "_law_pool" "_law_pool" (defArgs s_u_law_pool) (defBody s_u_law_pool) (defScope s_u_law_pool) .none kV19 dc19 pm19 an19 cd19 ct19), sl19⟩) (c19 : PySem.W.codeIn K cd19 "_law_pool" = true) (k19 : PySem.W.keepIn K (.ref f19) = true)
    (a20 : PySem.W.nsIn K mainGlobals "_law_draw" = some (some (.ref f20))) (l20 : K.lookup f20 = some ⟨oc20, od20, .func (PySem.W.fnOf "_law_draw" "_law_draw" (defArgs s_u_law_draw) (defBody s_u_law_draw) (defScope s_u_law_draw) .none kV20 dc20 pm20 an20 cd20 ct20), sl20⟩) (c20 : PySem.W.codeIn K cd20 "_law_draw" = true) (k20 : PySem.W.keepIn K (.ref f20) = true)
    (a21 : PySem.W.nsIn K mainGlobals "_law_pick" = some (some (.ref f21))) (l21 : K.lookup f21 = some ⟨oc21, od21, .func (PySem.W.fnOf "_law_pick" "_law_pick" (defArgs s_u_law_pick) (defBody s_u_law_pick) (defScope s_u_law_pick) .none kV21 dc21 pm21 an21 cd21 ct21), sl21⟩) (c21 : PySem.W.codeIn K cd21 "_law_pick" = true) (k21 : PySem.W.keepIn K (.ref f21) = true)
    (a22 : PySem.W.nsIn K mainGlobals "_law_same" = some (some (.ref f22))) (l22 : K.lookup f22 = some ⟨oc22, od22, .func (PySem.W.fnOf "_law_same" "_law_same" (defArgs s_u_law_same) (defBody s_u_law_same) (defScope s_u_law_same) .none kV22 dc22 pm22 an22 cd22 ct22), sl22⟩) (c22 : PySem.W.codeIn K cd22 "_law_same" = true) (k22 : PySem.W.keepIn K (.ref f22) = true)
    (a23 : PySem.W.nsIn K mainGlobals "_law_table" = some (some (.ref f23))) (l23 : K.lookup f23 = some ⟨oc23, od23, .func (PySem.W.fnOf "_law_table" "_law_table" (defArgs s_u_law_table) (defBody s_u_law_table) (defScope s_u_law_table) .none kV23 dc23 pm23 an23 cd23 ct23), sl23⟩) (c23 : PySem.W.codeIn K cd23 "_law_table" = true) (k23 : PySem.W.keepIn K (.ref f23) = true)
    (a24 : PySem.W.nsIn K mainGlobals "_law_demand" = some (some (.ref f24))) (l24 : K.lookup f24 = some ⟨oc24, od24, .func (PySem.W.fnOf "_law_demand" "_law_demand" (defArgs s_u_law_demand) (defBody s_u_law_demand) (defScope s_u_law_demand) .none kV24 dc24 pm24 an24 cd24 ct24), sl24⟩) (c24 : PySem.W.codeIn K cd24 "_law_demand" = true) (k24 : PySem.W.keepIn K (.ref f24) = true)
    (a25 : PySem.W.nsIn K mainGlobals "_law_pairings" = some (some (.ref f25))) (l25 : K.lookup f25 = some ⟨oc25, od25, .func (PySem.W.fnOf "_law_pairings" "_law_pairings" (defArgs s_u_law_pairings) (defBody s_u_law_pairings) (defScope s_u_law_pairings) .none kV25 dc25 pm25 an25 cd25 ct25), sl25⟩) (c25 : PySem.W.codeIn K cd25 "_law_pairings" = true) (k25 : PySem.W.keepIn K (.ref f25) = true)
    (a26 : PySem.W.nsIn K mainGlobals "_law_kept" = some (some (.ref f26))) (l26 : K.lookup f26 = some ⟨oc26, od26, .func (PySem.W.fnOf "_law_kept" "_law_kept" (defArgs s_u_law_kept) (defBody s_u_law_kept) (defScope s_u_law_kept) .none kV26 dc26 pm26 an26 cd26 ct26), sl26⟩) (c26 : PySem.W.codeIn K cd26 "_law_kept" = true) (k26 : PySem.W.keepIn K (.ref f26) = true)
    (a27 : PySem.W.nsIn K mainGlobals "_law_worlds" = some (some (.ref f27))) (l27 : K.lookup f27 = some ⟨oc27, od27, .func (PySem.W.fnOf "_law_worlds" "_law_worlds" (defArgs s_u_law_worlds) (defBody s_u_law_worlds) (defScope s_u_law_worlds) .none kV27 dc27 pm27 an27 cd27 ct27), sl27⟩) (c27 : PySem.W.codeIn K cd27 "_law_worlds" = true) (k27 : PySem.W.keepIn K (.ref f27) = true)
    (a28 : PySem.W.nsIn K mainGlobals "_law_budget" = some (some (.ref f28))) (l28 : K.lookup f28 = some ⟨oc28, od28, .func (PySem.W.fnOf "_law_budget" "_law_budget" (defArgs s_u_law_budget) (defBody s_u_law_budget) (defScope s_u_law_budget) .none kV28 dc28 pm28 an28 cd28 ct28), sl28⟩) (c28 : PySem.W.codeIn K cd28 "_law_budget" = true) (k28 : PySem.W.keepIn K (.ref f28) = true)
    (a29 : PySem.W.nsIn K mainGlobals "_law_sure_ones" = some (some (.ref f29))) (l29 : K.lookup f29 = some ⟨oc29, od29, .func (PySem.W.fnOf "_law_sure_ones" "_law_sure_ones" (defArgs s_u_law_sure_ones) (defBody s_u_law_sure_ones) (defScope s_u_law_sure_ones) .none kV29 dc29 pm29 an29 cd29 ct29), sl29⟩) (c29 : PySem.W.codeIn K cd29 "_law_sure_ones" = true) (k29 : PySem.W.keepIn K (.ref f29) = true)
    (a30 : PySem.W.nsIn K mainGlobals "_law_bears" = some (some (.ref f30))) (l30 : K.lookup f30 = some ⟨oc30, od30, .func (PySem.W.fnOf "_law_bears" "_law_bears" (defArgs s_u_law_bears) (defBody s_u_law_bears) (defScope s_u_law_bears) .none kV30 dc30 pm30 an30 cd30 ct30), sl30⟩) (c30 : PySem.W.codeIn K cd30 "_law_bears" = true) (k30 : PySem.W.keepIn K (.ref f30) = true)
    (a31 : PySem.W.nsIn K mainGlobals "_law_scene" = some (some (.ref f31))) (l31 : K.lookup f31 = some ⟨oc31, od31, .func (PySem.W.fnOf "_law_scene" "_law_scene" (defArgs s_u_law_scene) (defBody s_u_law_scene) (defScope s_u_law_scene) .none kV31 dc31 pm31 an31 cd31 ct31), sl31⟩) (c31 : PySem.W.codeIn K cd31 "_law_scene" = true) (k31 : PySem.W.keepIn K (.ref f31) = true)
    (a32 : PySem.W.nsIn K mainGlobals "_law_others" = some (some (.ref f32))) (l32 : K.lookup f32 = some ⟨oc32, od32, .func (PySem.W.fnOf "_law_others" "_law_others" (defArgs s_u_law_others) (defBody s_u_law_others) (defScope s_u_law_others) .none kV32 dc32 pm32 an32 cd32 ct32), sl32⟩) (c32 : PySem.W.codeIn K cd32 "_law_others" = true) (k32 : PySem.W.keepIn K (.ref f32) = true)
    (a33 : PySem.W.nsIn K mainGlobals "law" = some (some (.ref f33))) (l33 : K.lookup f33 = some ⟨oc33, od33, .func (PySem.W.fnOf "law" "law" (defArgs s_law) (defBody s_law) (defScope s_law) .none kV33 dc33 pm33 an33 cd33 ct33), sl33⟩) (c33 : PySem.W.codeIn K cd33 "law" = true) (k33 : PySem.W.keepIn K (.ref f33) = true)
    {occ2 : Value} {odc2 : Option Addr} {vsc2 : Array Value} {slc2 : Array (Option Value)} (e2 : cd2 = .ref tc2) (q2 : K.lookup tc2 = some ⟨occ2, odc2, .fields vsc2, slc2⟩) (p2 : (vsc2[11]? : Option Value) = some (.ref tp2)) (n2 : K.lookup tp2 = none) (r2 : (recsOf q).find? (fun e => e.name == ("barred" : Str)) = some dr2)
    {occ3 : Value} {odc3 : Option Addr} {vsc3 : Array Value} {slc3 : Array (Option Value)} (e3 : cd3 = .ref tc3) (q3 : K.lookup tc3 = some ⟨occ3, odc3, .fields vsc3, slc3⟩) (p3 : (vsc3[11]? : Option Value) = some (.ref tp3)) (n3 : K.lookup tp3 = none) (r3 : (recsOf q).find? (fun e => e.name == ("without" : Str)) = some dr3)
    {occ5 : Value} {odc5 : Option Addr} {vsc5 : Array Value} {slc5 : Array (Option Value)} (e5 : cd5 = .ref tc5) (q5 : K.lookup tc5 = some ⟨occ5, odc5, .fields vsc5, slc5⟩) (p5 : (vsc5[11]? : Option Value) = some (.ref tp5)) (n5 : K.lookup tp5 = none) (r5 : (recsOf q).find? (fun e => e.name == ("weighed" : Str)) = some dr5)
    {occ10 : Value} {odc10 : Option Addr} {vsc10 : Array Value} {slc10 : Array (Option Value)} (e10 : cd10 = .ref tc10) (q10 : K.lookup tc10 = some ⟨occ10, odc10, .fields vsc10, slc10⟩) (p10 : (vsc10[11]? : Option Value) = some (.ref tp10)) (n10 : K.lookup tp10 = none) (r10 : (recsOf q).find? (fun e => e.name == ("mates_cost" : Str)) = some dr10)
    {occ11 : Value} {odc11 : Option Addr} {vsc11 : Array Value} {slc11 : Array (Option Value)} (e11 : cd11 = .ref tc11) (q11 : K.lookup tc11 = some ⟨occ11, odc11, .fields vsc11, slc11⟩) (p11 : (vsc11[11]? : Option Value) = some (.ref tp11)) (n11 : K.lookup tp11 = none) (r11 : (recsOf q).find? (fun e => e.name == ("least_pairings" : Str)) = some dr11)
    {occ14 : Value} {odc14 : Option Addr} {vsc14 : Array Value} {slc14 : Array (Option Value)} (e14 : cd14 = .ref tc14) (q14 : K.lookup tc14 = some ⟨occ14, odc14, .fields vsc14, slc14⟩) (p14 : (vsc14[11]? : Option Value) = some (.ref tp14)) (n14 : K.lookup tp14 = none) (r14 : (recsOf q).find? (fun e => e.name == ("smaller" : Str)) = some dr14)
    (z_abs : PySem.W.nsIn K mainGlobals "abs" = some none)
    (z_any : PySem.W.nsIn K mainGlobals "any" = some none)
    (z_bool : PySem.W.nsIn K mainGlobals "bool" = some none)
    (z_enumerate : PySem.W.nsIn K mainGlobals "enumerate" = some none)
    (z_int : PySem.W.nsIn K mainGlobals "int" = some none)
    (z_isinstance : PySem.W.nsIn K mainGlobals "isinstance" = some none)
    (z_len : PySem.W.nsIn K mainGlobals "len" = some none)
    (z_list : PySem.W.nsIn K mainGlobals "list" = some none)
    (z_max : PySem.W.nsIn K mainGlobals "max" = some none)
    (z_min : PySem.W.nsIn K mainGlobals "min" = some none)
    (z_range : PySem.W.nsIn K mainGlobals "range" = some none)
    (z_str : PySem.W.nsIn K mainGlobals "str" = some none)
    (z_sum : PySem.W.nsIn K mainGlobals "sum" = some none)
    (z_tuple : PySem.W.nsIn K mainGlobals "tuple" = some none)
    : ∃ (fd : FuncData) (cs : List (Addr × Addr)), (∀ p ∈ cs, K.lookup p.2 = none) ∧ (∀ p ∈ cs, PySem.W.CodeHd h p.1 p.2 ∧ h.get? p.2 = some { cls := .none, data := .fields #[] }) ∧ (∀ (s : Shared) (v : Value), BindsTo s fd ⟨[v], []⟩ [("script", v)]) ∧ ∀ base : Heap, K.In base → base.Ns mainGlobals mg → (∀ p ∈ cs, GxR.TabB base mg p.1 p.2) → FnOk l.prog w K mg base CX0 24 fa fd ["script"] (SpD K (cs.map (·.2)) [false] Dn.g_law) := by
  have e := hfa.symm.trans (PySem.W.mg_of X G a33)
  cases e
  have T : Txt mg := ⟨PySem.W.mg_none_of X G z_abs, PySem.W.mg_none_of X G z_any, PySem.W.mg_none_of X G z_bool, PySem.W.mg_none_of X G z_enumerate, PySem.W.mg_none_of X G z_int, PySem.W.mg_none_of X G z_isinstance, PySem.W.mg_none_of X G z_len, PySem.W.mg_none_of X G z_list, PySem.W.mg_none_of X G z_max, PySem.W.mg_none_of X G z_min, PySem.W.mg_none_of X G z_range, PySem.W.mg_none_of X G z_str, PySem.W.mg_none_of X G z_sum, PySem.W.mg_none_of X G z_tuple⟩
  have F1 := fun_mk (st := s_width) l1 c1 k1
  have b1 := F1.binds (ps := P_width) fun _ _ _ _ _ _ us hl => match us, hl with | [_], _ => rfl
  have F2 := fun_mk (st := s_barred) l2 c2 k2
  have b2 := F2.binds (ps := P_barred) fun _ _ _ _ _ _ us hl => match us, hl with | [_, _], _ => rfl
  have F3 := fun_mk (st := s_without) l3 c3 k3
  have b3 := F3.binds (ps := P_without) fun _ _ _ _ _ _ us hl => match us, hl with | [_, _, _], _ => rfl
  have F4 := fun_mk (st := s_weight_of) l4 c4 k4
  have b4 := F4.binds (ps := P_weight_of) fun _ _ _ _ _ _ us hl => match us, hl with | [_, _], _ => rfl
  have F5 := fun_mk (st := s_weighed) l5 c5 k5
  have b5 := F5.binds (ps := P_weighed) fun _ _ _ _ _ _ us hl => match us, hl with | [_, _], _ => rfl
  have F6 := fun_mk (st := s_pushed) l6 c6 k6
  have b6 := F6.binds (ps := P_pushed) fun _ _ _ _ _ _ us hl => match us, hl with | [_, _, _, _, _], _ => rfl
  have F7 := fun_mk (st := s_looking) l7 c7 k7
  have b7 := F7.binds (ps := P_looking) fun _ _ _ _ _ _ us hl => match us, hl with | [_, _, _], _ => rfl
  have F8 := fun_mk (st := s_best_end) l8 c8 k8
  have b8 := F8.binds (ps := P_best_end) fun _ _ _ _ _ _ us hl => match us, hl with | [_, _, _], _ => rfl
  have F9 := fun_mk (st := s_grown) l9 c9 k9
  have b9 := F9.binds (ps := P_grown) fun _ _ _ _ _ _ us hl => match us, hl with | [_, _, _], _ => rfl
  have F10 := fun_mk (st := s_mates_cost) l10 c10 k10
  have b10 := F10.binds (ps := P_mates_cost) fun _ _ _ _ _ _ us hl => match us, hl with | [_, _], _ => rfl
  have F11 := fun_mk (st := s_least_pairings) l11 c11 k11
  have b11 := F11.binds (ps := P_least_pairings) fun _ _ _ _ _ _ us hl => match us, hl with | [_, _, _], _ => rfl
  have F12 := fun_mk (st := s_least_row) l12 c12 k12
  have b12 := F12.binds (ps := P_least_row) fun _ _ _ _ _ _ us hl => match us, hl with | [_, _], _ => rfl
  have F13 := fun_mk (st := s_least_cost) l13 c13 k13
  have b13 := F13.binds (ps := P_least_cost) fun _ _ _ _ _ _ us hl => match us, hl with | [_, _], _ => rfl
  have F14 := fun_mk (st := s_smaller) l14 c14 k14
  have b14 := F14.binds (ps := P_smaller) fun _ _ _ _ _ _ us hl => match us, hl with | [_, _, _, _], _ => rfl
  have F15 := fun_mk (st := s_least_with) l15 c15 k15
  have b15 := F15.binds (ps := P_least_with) fun _ _ _ _ _ _ us hl => match us, hl with | [_, _, _, _], _ => rfl
  have F16 := fun_mk (st := s_with_pair) l16 c16 k16
  have b16 := F16.binds (ps := P_with_pair) fun _ _ _ _ _ _ us hl => match us, hl with | [_, _, _, _], _ => rfl
  have F17 := fun_mk (st := s_priced) l17 c17 k17
  have b17 := F17.binds (ps := P_priced) fun _ _ _ _ _ _ us hl => match us, hl with | [_, _, _], _ => rfl
  have F18 := fun_mk (st := s_bears) l18 c18 k18
  have b18 := F18.binds (ps := P_bears) fun _ _ _ _ _ _ us hl => match us, hl with | [_, _, _, _, _], _ => rfl
  have F19 := fun_mk (st := s_u_law_pool) l19 c19 k19
  have b19 := F19.binds (ps := P_u_law_pool) fun _ _ _ _ _ _ us hl => match us, hl with | [_], _ => rfl
  have F20 := fun_mk (st := s_u_law_draw) l20 c20 k20
  have b20 := F20.binds (ps := P_u_law_draw) fun _ _ _ _ _ _ us hl => match us, hl with | [_, _], _ => rfl
  have F21 := fun_mk (st := s_u_law_pick) l21 c21 k21
  have b21 := F21.binds (ps := P_u_law_pick) fun _ _ _ _ _ _ us hl => match us, hl with | [_, _], _ => rfl
  have F22 := fun_mk (st := s_u_law_same) l22 c22 k22
  have b22 := F22.binds (ps := P_u_law_same) fun _ _ _ _ _ _ us hl => match us, hl with | [_, _], _ => rfl
  have F23 := fun_mk (st := s_u_law_table) l23 c23 k23
  have b23 := F23.binds (ps := P_u_law_table) fun _ _ _ _ _ _ us hl => match us, hl with | [_, _, _], _ => rfl
  have F24 := fun_mk (st := s_u_law_demand) l24 c24 k24
  have b24 := F24.binds (ps := P_u_law_demand) fun _ _ _ _ _ _ us hl => match us, hl with | [_, _], _ => rfl
  have F25 := fun_mk (st := s_u_law_pairings) l25 c25 k25
  have b25 := F25.binds (ps := P_u_law_pairings) fun _ _ _ _ _ _ us hl => match us, hl with | [_], _ => rfl
  have F26 := fun_mk (st := s_u_law_kept) l26 c26 k26
  have b26 := F26.binds (ps := P_u_law_kept) fun _ _ _ _ _ _ us hl => match us, hl with | [_, _], _ => rfl
  have F27 := fun_mk (st := s_u_law_worlds) l27 c27 k27
  have b27 := F27.binds (ps := P_u_law_worlds) fun _ _ _ _ _ _ us hl => match us, hl with | [_, _, _], _ => rfl
  have F28 := fun_mk (st := s_u_law_budget) l28 c28 k28
  have b28 := F28.binds (ps := P_u_law_budget) fun _ _ _ _ _ _ us hl => match us, hl with | [_, _, _], _ => rfl
  have F29 := fun_mk (st := s_u_law_sure_ones) l29 c29 k29
  have b29 := F29.binds (ps := P_u_law_sure_ones) fun _ _ _ _ _ _ us hl => match us, hl with | [_, _, _], _ => rfl
  have F30 := fun_mk (st := s_u_law_bears) l30 c30 k30
  have b30 := F30.binds (ps := P_u_law_bears) fun _ _ _ _ _ _ us hl => match us, hl with | [_, _, _, _, _], _ => rfl
  have F31 := fun_mk (st := s_u_law_scene) l31 c31 k31
  have b31 := F31.binds (ps := P_u_law_scene) fun _ _ _ _ _ _ us hl => match us, hl with | [_], _ => rfl
  have F32 := fun_mk (st := s_u_law_others) l32 c32 k32
  have b32 := F32.binds (ps := P_u_law_others) fun _ _ _ _ _ _ us hl => match us, hl with | [_, _], _ => rfl
  have F33 := fun_mk (st := s_law) l33 c33 k33
  have b33 := F33.binds (ps := P_law) fun _ _ _ _ _ _ us hl => match us, hl with | [_], _ => rfl
  have kb_bears_43210 := kb_mk (ps := P_bears) (ks := ["other", "pair", "budget", "demand", "table"]) (n := 5) (is := [4, 3, 2, 1, 0]) F18 (by decide) fun _ _ _ _ _ _ ws hl => match ws, hl with | [_, _, _, _, _], _ => rfl
  refine ⟨PySem.W.fnOf "law" "law" (defArgs s_law) (defBody s_law) (defScope s_law) .none kV33 dc33 pm33 an33 cd33 ct33, [(tc2, tp2), (tc3, tp3), (tc5, tp5), (tc10, tp10), (tc11, tp11), (tc14, tp14)], ?_, ?_, fun s v => .of_eq rfl, fun base _ _ hB => ?_⟩
  · exact List.forall_mem_cons.mpr ⟨n2, List.forall_mem_cons.mpr ⟨n3, List.forall_mem_cons.mpr ⟨n5, List.forall_mem_cons.mpr ⟨n10, List.forall_mem_cons.mpr ⟨n11, List.forall_mem_cons.mpr ⟨n14, fun _ z => nomatch z⟩⟩⟩⟩⟩⟩
  · exact List.forall_mem_cons.mpr ⟨TO _ _ _ _ r2 (tabIn_of a2 l2 e2 q2 p2), List.forall_mem_cons.mpr ⟨TO _ _ _ _ r3 (tabIn_of a3 l3 e3 q3 p3), List.forall_mem_cons.mpr ⟨TO _ _ _ _ r5 (tabIn_of a5 l5 e5 q5 p5), List.forall_mem_cons.mpr ⟨TO _ _ _ _ r10 (tabIn_of a10 l10 e10 q10 p10), List.forall_mem_cons.mpr ⟨TO _ _ _ _ r11 (tabIn_of a11 l11 e11 q11 p11), List.forall_mem_cons.mpr ⟨TO _ _ _ _ r14 (tabIn_of a14 l14 e14 q14 p14), fun _ z => nomatch z⟩⟩⟩⟩⟩⟩
  show FnOk _ _ _ _ _ _ _ _ _ _ (SpD K ([tp2, tp3, tp5, tp10, tp11, tp14] : List Addr) _ _)
  have o_width : FnOk l.prog w K mg base CX0 1 f1 _ P_width (SpD K ([tp2, tp3, tp5, tp10, tp11, tp14] : List Addr) M_width g_width) := ok_D F1 sc_width rfl (fun cdv A outer s H E B pv hcd hr => ps_width (C := ⟨B, mxOf M_width 0, pv, [tp2, tp3, tp5, tp10, tp11, tp14], [], fun n P => TabN n H P⟩) T rfl hr) d_width
  have o_barred : FnOk l.prog w K mg base CX0 13 f2 _ P_barred (SpD K ([tp2, tp3, tp5, tp10, tp11, tp14] : List Addr) M_barred g_barred) := ok_D F2 sc_barred rfl (fun cdv A outer s H E B pv hcd hr => ps_barred (C := ⟨B, mxOf M_barred 0, pv, [tp2, tp3, tp5, tp10, tp11, tp14], [], fun n P => TabN n H P⟩) T rfl hr ⟨hB (tc2, tp2) (by simp), hcd.symm.trans e2, by simp⟩) d_barred
  have o_without : FnOk l.prog w K mg base CX0 13 f3 _ P_without (SpD K ([tp2, tp3, tp5, tp10, tp11, tp14] : List Addr) M_without g_without) := ok_D F3 sc_without rfl (fun cdv A outer s H E B pv hcd hr => ps_without (C := ⟨B, mxOf M_without 0, pv, [tp2, tp3, tp5, tp10, tp11, tp14], [], fun n P => TabN n H P⟩) T rfl hr ⟨hB (tc3, tp3) (by simp), hcd.symm.trans e3, by simp⟩) d_without
  have o_weight_of : FnOk l.prog w K mg base CX0 1 f4 _ P_weight_of (SpD K ([tp2, tp3, tp5, tp10, tp11, tp14] : List Addr) M_weight_of g_weight_of) := ok_D F4 sc_weight_of rfl (fun cdv A outer s H E B pv hcd hr => ps_weight_of (C := ⟨B, mxOf M_weight_of 0, pv, [tp2, tp3, tp5, tp10, tp11, tp14], [], fun n P => TabN n H P⟩) T rfl hr) d_weight_of
  have o_weighed : FnOk l.prog w K mg base CX0 8 f5 _ P_weighed (SpD K ([tp2, tp3, tp5, tp10, tp11, tp14] : List Addr) M_weighed g_weighed) := ok_D F5 sc_weighed rfl (fun cdv A outer s H E B pv hcd hr => ps_weighed (C := ⟨B, mxOf M_weighed 0, pv, [tp2, tp3, tp5, tp10, tp11, tp14], [], fun n P => TabN n H P⟩) T rfl hr ⟨hB (tc5, tp5) (by simp), hcd.symm.trans e5, by simp⟩ ⟨o_weight_of.mono (by decide), PySem.W.mg_of X G a4, k4, b4⟩) d_weighed
  have o_pushed : FnOk l.prog w K mg base CX0 1 f6 _ P_pushed (SpD K ([tp2, tp3, tp5, tp10, tp11, tp14] : List Addr) M_pushed g_pushed) := ok_D F6 sc_pushed rfl (fun cdv A outer s H E B pv hcd hr => ps_pushed (C := ⟨B, mxOf M_pushed 0, pv, [tp2, tp3, tp5, tp10, tp11, tp14], [], fun n P => TabN n H P⟩) T rfl hr) d_pushed
  have o_looking : FnOk l.prog w K mg base CX0 2 f7 _ P_looking (SpD K ([tp2, tp3, tp5, tp10, tp11, tp14] : List Addr) M_looking g_looking) := ok_D F7 sc_looking rfl (fun cdv A outer s H E B pv hcd hr => ps_looking (C := ⟨B, mxOf M_looking 0, pv, [tp2, tp3, tp5, tp10, tp11, tp14], [], fun n P => TabN n H P⟩) T rfl hr ⟨o_pushed.mono (by decide), PySem.W.mg_of X G a6, k6, b6⟩) d_looking
  have o_best_end : FnOk l.prog w K mg base CX0 1 f8 _ P_best_end (SpD K ([tp2, tp3, tp5, tp10, tp11, tp14] : List Addr) M_best_end g_best_end) := ok_D F8 sc_best_end rfl (fun cdv A outer s H E B pv hcd hr => ps_best_end (C := ⟨B, mxOf M_best_end 0, pv, [tp2, tp3, tp5, tp10, tp11, tp14], [], fun n P => TabN n H P⟩) T rfl hr) d_best_end
  have o_grown : FnOk l.prog w K mg base CX0 3 f9 _ P_grown (SpD K ([tp2, tp3, tp5, tp10, tp11, tp14] : List Addr) M_grown g_grown) := ok_D F9 sc_grown rfl (fun cdv A outer s H E B pv hcd hr => ps_grown (C := ⟨B, mxOf M_grown 0, pv, [tp2, tp3, tp5, tp10, tp11, tp14], [], fun n P => TabN n H P⟩) T rfl hr ⟨o_looking.mono (by decide), PySem.W.mg_of X G a7, k7, b7⟩ ⟨o_best_end.mono (by decide), PySem.W.mg_of X G a8, k8, b8⟩) d_grown
  have o_mates_cost : FnOk l.prog w K mg base CX0 7 f10 _ P_mates_cost (SpD K ([tp2, tp3, tp5, tp10, tp11, tp14] : List Addr) M_mates_cost g_mates_cost) := ok_D F10 sc_mates_cost rfl (fun cdv A outer s H E B pv hcd hr => ps_mates_cost (C := ⟨B, mxOf M_mates_cost 0, pv, [tp2, tp3, tp5, tp10, tp11, tp14], [], fun n P => TabN n H P⟩) T rfl hr ⟨hB (tc10, tp10) (by simp), hcd.symm.trans e10, by simp⟩) d_mates_cost
  have o_least_pairings : FnOk l.prog w K mg base CX0 15 f11 _ P_least_pairings (SpD K ([tp2, tp3, tp5, tp10, tp11, tp14] : List Addr) M_least_pairings g_least_pairings) := ok_D F11 sc_least_pairings rfl (fun cdv A outer s H E B pv hcd hr => ps_least_pairings (C := ⟨B, mxOf M_least_pairings 0, pv, [tp2, tp3, tp5, tp10, tp11, tp14], [], fun n P => TabN n H P⟩) T rfl hr ⟨hB (tc11, tp11) (by simp), hcd.symm.trans e11, by simp⟩ ⟨o_weighed.mono (by decide), PySem.W.mg_of X G a5, k5, b5⟩ ⟨o_width.mono (by decide), PySem.W.mg_of X G a1, k1, b1⟩ ⟨o_grown.mono (by decide), PySem.W.mg_of X G a9, k9, b9⟩ ⟨o_mates_cost.mono (by decide), PySem.W.mg_of X G a10, k10, b10⟩) d_least_pairings
  have o_least_row : FnOk l.prog w K mg base CX0 16 f12 _ P_least_row (SpD K ([tp2, tp3, tp5, tp10, tp11, tp14] : List Addr) M_least_row g_least_row) := ok_D F12 sc_least_row rfl (fun cdv A outer s H E B pv hcd hr => ps_least_row (C := ⟨B, mxOf M_least_row 0, pv, [tp2, tp3, tp5, tp10, tp11, tp14], [], fun n P => TabN n H P⟩) T rfl hr ⟨o_least_pairings.mono (by decide), PySem.W.mg_of X G a11, k11, b11⟩) d_least_row
  have o_least_cost : FnOk l.prog w K mg base CX0 17 f13 _ P_least_cost (SpD K ([tp2, tp3, tp5, tp10, tp11, tp14] : List Addr) M_least_cost g_least_cost) := ok_D F13 sc_least_cost rfl (fun cdv A outer s H E B pv hcd hr => ps_least_cost (C := ⟨B, mxOf M_least_cost 0, pv, [tp2, tp3, tp5, tp10, tp11, tp14], [], fun n P => TabN n H P⟩) T rfl hr ⟨o_least_row.mono (by decide), PySem.W.mg_of X G a12, k12, b12⟩) d_least_cost
  have o_smaller : FnOk l.prog w K mg base CX0 20 f14 _ P_smaller (SpD K ([tp2, tp3, tp5, tp10, tp11, tp14] : List Addr) M_smaller g_smaller) := ok_D F14 sc_smaller rfl (fun cdv A outer s H E B pv hcd hr => ps_smaller (C := ⟨B, mxOf M_smaller 0, pv, [tp2, tp3, tp5, tp10, tp11, tp14], [], fun n P => TabN n H P⟩) T rfl hr ⟨hB (tc14, tp14) (by simp), hcd.symm.trans e14, by simp⟩ ⟨o_without.mono (by decide), PySem.W.mg_of X G a3, k3, b3⟩) d_smaller
  have o_least_with : FnOk l.prog w K mg base CX0 21 f15 _ P_least_with (SpD K ([tp2, tp3, tp5, tp10, tp11, tp14] : List Addr) M_least_with g_least_with) := ok_D F15 sc_least_with rfl (fun cdv A outer s H E B pv hcd hr => ps_least_with (C := ⟨B, mxOf M_least_with 0, pv, [tp2, tp3, tp5, tp10, tp11, tp14], [], fun n P => TabN n H P⟩) T rfl hr ⟨o_smaller.mono (by decide), PySem.W.mg_of X G a14, k14, b14⟩ ⟨o_least_cost.mono (by decide), PySem.W.mg_of X G a13, k13, b13⟩) d_least_with
  have o_with_pair : FnOk l.prog w K mg base CX0 22 f16 _ P_with_pair (SpD K ([tp2, tp3, tp5, tp10, tp11, tp14] : List Addr) M_with_pair g_least_with) := ok_D F16 sc_with_pair rfl (fun cdv A outer s H E B pv hcd hr => ps_with_pair (C := ⟨B, mxOf M_with_pair 0, pv, [tp2, tp3, tp5, tp10, tp11, tp14], [], fun n P => TabN n H P⟩) T rfl hr ⟨o_least_with.mono (by decide), PySem.W.mg_of X G a15, k15, b15⟩) d_with_pair
  have o_priced : FnOk l.prog w K mg base CX0 1 f17 _ P_priced (SpD K ([tp2, tp3, tp5, tp10, tp11, tp14] : List Addr) M_priced g_priced) := ok_D F17 sc_priced rfl (fun cdv A outer s H E B pv hcd hr => ps_priced (C := ⟨B, mxOf M_priced 0, pv, [tp2, tp3, tp5, tp10, tp11, tp14], [], fun n P => TabN n H P⟩) T rfl hr) d_priced
  have o_bears : FnOk l.prog w K mg base CX0 23 f18 _ P_bears (SpD K ([tp2, tp3, tp5, tp10, tp11, tp14] : List Addr) M_bears g_bears) := ok_D F18 sc_bears rfl (fun cdv A outer s H E B pv hcd hr => ps_bears (C := ⟨B, mxOf M_bears 0, pv, [tp2, tp3, tp5, tp10, tp11, tp14], [], fun n P => TabN n H P⟩) T rfl hr ⟨o_with_pair.mono (by decide), PySem.W.mg_of X G a16, k16, b16⟩ ⟨o_priced.mono (by decide), PySem.W.mg_of X G a17, k17, b17⟩ ⟨o_barred.mono (by decide), PySem.W.mg_of X G a2, k2, b2⟩) d_bears
  have o_u_law_pool : FnOk l.prog w K mg base CX0 1 f19 _ P_u_law_pool (SpD K ([tp2, tp3, tp5, tp10, tp11, tp14] : List Addr) M_u_law_pool g_pool) := ok_D F19 sc_u_law_pool rfl (fun cdv A outer s H E B pv hcd hr => ps_u_law_pool (C := ⟨B, mxOf M_u_law_pool 0, pv, [tp2, tp3, tp5, tp10, tp11, tp14], [], fun n P => TabN n H P⟩) T rfl hr) d_pool
  have o_u_law_draw : FnOk l.prog w K mg base CX0 1 f20 _ P_u_law_draw (SpD K ([tp2, tp3, tp5, tp10, tp11, tp14] : List Addr) M_u_law_draw g_draw) := ok_D F20 sc_u_law_draw rfl (fun cdv A outer s H E B pv hcd hr => ps_u_law_draw (C := ⟨B, mxOf M_u_law_draw 0, pv, [tp2, tp3, tp5, tp10, tp11, tp14], [], fun n P => TabN n H P⟩) T rfl hr) d_draw
  have o_u_law_pick : FnOk l.prog w K mg base CX0 2 f21 _ P_u_law_pick (SpD K ([tp2, tp3, tp5, tp10, tp11, tp14] : List Addr) M_u_law_pick g_pick) := ok_D F21 sc_u_law_pick rfl (fun cdv A outer s H E B pv hcd hr => ps_u_law_pick (C := ⟨B, mxOf M_u_law_pick 0, pv, [tp2, tp3, tp5, tp10, tp11, tp14], [], fun n P => TabN n H P⟩) T rfl hr ⟨o_u_law_draw.mono (by decide), PySem.W.mg_of X G a20, k20, b20⟩) d_pick
  have o_u_law_same : FnOk l.prog w K mg base CX0 1 f22 _ P_u_law_same (SpD K ([tp2, tp3, tp5, tp10, tp11, tp14] : List Addr) M_u_law_same g_same) := ok_D F22 sc_u_law_same rfl (fun cdv A outer s H E B pv hcd hr => ps_u_law_same (C := ⟨B, mxOf M_u_law_same 0, pv, [tp2, tp3, tp5, tp10, tp11, tp14], [], fun n P => TabN n H P⟩) T rfl hr) d_same
  have o_u_law_table : FnOk l.prog w K mg base CX0 3 f23 _ P_u_law_table (SpD K ([tp2, tp3, tp5, tp10, tp11, tp14] : List Addr) M_u_law_table g_table) := ok_D F23 sc_u_law_table rfl (fun cdv A outer s H E B pv hcd hr => ps_u_law_table (C := ⟨B, mxOf M_u_law_table 0, pv, [tp2, tp3, tp5, tp10, tp11, tp14], [], fun n P => TabN n H P⟩) T rfl hr ⟨o_u_law_pick.mono (by decide), PySem.W.mg_of X G a21, k21, b21⟩) d_table
  have o_u_law_demand : FnOk l.prog w K mg base CX0 3 f24 _ P_u_law_demand (SpD K ([tp2, tp3, tp5, tp10, tp11, tp14] : List Addr) M_u_law_demand g_demand) := ok_D F24 sc_u_law_demand rfl (fun cdv A outer s H E B pv hcd hr => ps_u_law_demand (C := ⟨B, mxOf M_u_law_demand 0, pv, [tp2, tp3, tp5, tp10, tp11, tp14], [], fun n P => TabN n H P⟩) T rfl hr ⟨o_u_law_pick.mono (by decide), PySem.W.mg_of X G a21, k21, b21⟩ ⟨o_u_law_draw.mono (by decide), PySem.W.mg_of X G a20, k20, b20⟩) d_demand
  have o_u_law_pairings : FnOk l.prog w K mg base CX0 1 f25 _ P_u_law_pairings (SpD K ([tp2, tp3, tp5, tp10, tp11, tp14] : List Addr) M_u_law_pairings g_pairings) := ok_D F25 sc_u_law_pairings rfl (fun cdv A outer s H E B pv hcd hr => ps_u_law_pairings (C := ⟨B, mxOf M_u_law_pairings 0, pv, [tp2, tp3, tp5, tp10, tp11, tp14], [], fun n P => TabN n H P⟩) T rfl hr) d_pairings
  have o_u_law_kept : FnOk l.prog w K mg base CX0 2 f26 _ P_u_law_kept (SpD K ([tp2, tp3, tp5, tp10, tp11, tp14] : List Addr) M_u_law_kept g_kept) := ok_D F26 sc_u_law_kept rfl (fun cdv A outer s H E B pv hcd hr => ps_u_law_kept (C := ⟨B, mxOf M_u_law_kept 0, pv, [tp2, tp3, tp5, tp10, tp11, tp14], [], fun n P => TabN n H P⟩) T rfl hr ⟨o_u_law_pairings.mono (by decide), PySem.W.mg_of X G a25, k25, b25⟩) d_kept
  have o_u_law_worlds : FnOk l.prog w K mg base CX0 3 f27 _ P_u_law_worlds (SpD K ([tp2, tp3, tp5, tp10, tp11, tp14] : List Addr) M_u_law_worlds g_worlds) := ok_D F27 sc_u_law_worlds rfl (fun cdv A outer s H E B pv hcd hr => ps_u_law_worlds (C := ⟨B, mxOf M_u_law_worlds 0, pv, [tp2, tp3, tp5, tp10, tp11, tp14], [], fun n P => TabN n H P⟩) T rfl hr ⟨o_u_law_kept.mono (by decide), PySem.W.mg_of X G a26, k26, b26⟩) d_worlds
  have o_u_law_budget : FnOk l.prog w K mg base CX0 3 f28 _ P_u_law_budget (SpD K ([tp2, tp3, tp5, tp10, tp11, tp14] : List Addr) M_u_law_budget g_budget) := ok_D F28 sc_u_law_budget rfl (fun cdv A outer s H E B pv hcd hr => ps_u_law_budget (C := ⟨B, mxOf M_u_law_budget 0, pv, [tp2, tp3, tp5, tp10, tp11, tp14], [], fun n P => TabN n H P⟩) T rfl hr ⟨o_u_law_kept.mono (by decide), PySem.W.mg_of X G a26, k26, b26⟩ ⟨o_u_law_pick.mono (by decide), PySem.W.mg_of X G a21, k21, b21⟩) d_budget
  have o_u_law_sure_ones : FnOk l.prog w K mg base CX0 4 f29 _ P_u_law_sure_ones (SpD K ([tp2, tp3, tp5, tp10, tp11, tp14] : List Addr) M_u_law_sure_ones g_sure_ones) := ok_D F29 sc_u_law_sure_ones rfl (fun cdv A outer s H E B pv hcd hr => ps_u_law_sure_ones (C := ⟨B, mxOf M_u_law_sure_ones 0, pv, [tp2, tp3, tp5, tp10, tp11, tp14], [], fun n P => TabN n H P⟩) T rfl hr ⟨o_u_law_worlds.mono (by decide), PySem.W.mg_of X G a27, k27, b27⟩) d_sure_ones
  have o_lbears : FnOk l.prog w K mg base CX0 3 f30 _ P_u_law_bears (SpD K ([tp2, tp3, tp5, tp10, tp11, tp14] : List Addr) M_u_law_bears g_lbears) := ok_D F30 sc_u_law_bears rfl (fun cdv A outer s H E B pv hcd hr => ps_u_law_bears (C := ⟨B, mxOf M_u_law_bears 0, pv, [tp2, tp3, tp5, tp10, tp11, tp14], [], fun n P => TabN n H P⟩) T rfl hr ⟨o_u_law_kept.mono (by decide), PySem.W.mg_of X G a26, k26, b26⟩) d_lbears
  have o_u_law_scene : FnOk l.prog w K mg base CX0 5 f31 _ P_u_law_scene (SpD K ([tp2, tp3, tp5, tp10, tp11, tp14] : List Addr) M_u_law_scene g_scene) := ok_D F31 sc_u_law_scene rfl (fun cdv A outer s H E B pv hcd hr => ps_u_law_scene (C := ⟨B, mxOf M_u_law_scene 0, pv, [tp2, tp3, tp5, tp10, tp11, tp14], [], fun n P => TabN n H P⟩) T rfl hr ⟨o_u_law_table.mono (by decide), PySem.W.mg_of X G a23, k23, b23⟩ ⟨o_u_law_demand.mono (by decide), PySem.W.mg_of X G a24, k24, b24⟩ ⟨o_u_law_budget.mono (by decide), PySem.W.mg_of X G a28, k28, b28⟩ ⟨o_u_law_sure_ones.mono (by decide), PySem.W.mg_of X G a29, k29, b29⟩ ⟨o_u_law_draw.mono (by decide), PySem.W.mg_of X G a20, k20, b20⟩ ⟨o_u_law_pick.mono (by decide), PySem.W.mg_of X G a21, k21, b21⟩) d_scene
  have o_u_law_others : FnOk l.prog w K mg base CX0 1 f32 _ P_u_law_others (SpD K ([tp2, tp3, tp5, tp10, tp11, tp14] : List Addr) M_u_law_others g_others) := ok_D F32 sc_u_law_others rfl (fun cdv A outer s H E B pv hcd hr => ps_u_law_others (C := ⟨B, mxOf M_u_law_others 0, pv, [tp2, tp3, tp5, tp10, tp11, tp14], [], fun n P => TabN n H P⟩) T rfl hr) d_others
  have o_law : FnOk l.prog w K mg base CX0 24 fa _ P_law (SpD K ([tp2, tp3, tp5, tp10, tp11, tp14] : List Addr) M_law Dn.g_law) := ok_D F33 sc_law rfl (fun cdv A outer s H E B pv hcd hr => ps_law (C := ⟨B, mxOf M_law 0, pv, [tp2, tp3, tp5, tp10, tp11, tp14], [], fun n P => TabN n H P⟩) T rfl hr ⟨o_u_law_pool.mono (by decide), PySem.W.mg_of X G a19, k19, b19⟩ ⟨o_u_law_scene.mono (by decide), PySem.W.mg_of X G a31, k31, b31⟩ ⟨o_u_law_others.mono (by decide), PySem.W.mg_of X G a32, k32, b32⟩ ⟨o_lbears.mono (by decide), PySem.W.mg_of X G a30, k30, b30⟩ ⟨o_u_law_same.mono (by decide), PySem.W.mg_of X G a22, k22, b22⟩ ⟨o_bears.mono (by decide), PySem.W.mg_of X G a18, k18, b18⟩ ⟨o_u_law_draw.mono (by decide), PySem.W.mg_of X G a20, k20, b20⟩ kb_bears_43210) d_law
  exact o_law
end K80
open PySem PySem.W PyProof.Rows in
set_option maxRecDepth 100000 in
set_option maxHeartbeats 0 in
theorem PySem.Challenge.cw_whoseitis_k80_what_a_pair_bears_holds : PySem.Challenge.rw_whoseitis_k80_what_a_pair_bears.Holds := by
  w_on; o_law; k_head; (case hw => w_witness2)
  k_fill
  refine Dn.walk (l := PySem.Challenge.rw_whoseitis_k80_what_a_pair_bears) 24 rfl rfl ⟨rfl, by decide, by decide⟩ (fun w h Y => PySem.W.kIn_of Y) ?F
  case F =>
    intro w mg fa h KX G hmg TO
    refine' K80.all_mk KX TO G hmg ?a1 ?l1 ?c1 ?k1 ?a2 ?l2 ?c2 ?k2 ?a3 ?l3 ?c3 ?k3 ?a4 ?l4 ?c4 ?k4 ?a5 ?l5 ?c5 ?k5 ?a6 ?l6 ?c6 ?k6 ?a7 ?l7 ?c7 ?k7 ?a8 ?l8 ?c8 ?k8 ?a9 ?l9 ?c9 ?k9 ?a10 ?l10 ?c10 ?k10 ?a11 ?l11 ?c11 ?k11 ?a12 ?l12 ?c12 ?k12 ?a13 ?l13 ?c13 ?k13 ?a14 ?l14 ?c14 ?k14 ?a15 ?l15 ?c15 ?k15 ?a16 ?l16 ?c16 ?k16 ?a17 ?l17 ?c17 ?k17 ?a18 ?l18 ?c18 ?k18 ?a19 ?l19 ?c19 ?k19 ?a20 ?l20 ?c20 ?k20 ?a21 ?l21 ?c21 ?k21 ?a22 ?l22 ?c22 ?k22 ?a23 ?l23 ?c23 ?k23 ?a24 ?l24 ?c24 ?k24 ?a25 ?l25 ?c25 ?k25 ?a26 ?l26 ?c26 ?k26 ?a27 ?l27 ?c27 ?k27 ?a28 ?l28 ?c28 ?k28 ?a29 ?l29 ?c29 ?k29 ?a30 ?l30 ?c30 ?k30 ?a31 ?l31 ?c31 ?k31 ?a32 ?l32 ?c32 ?k32 ?a33 ?l33 ?c33 ?k33 ?e2 ?q2 ?p2 ?n2 ?r2 ?e3 ?q3 ?p3 ?n3 ?r3 ?e5 ?q5 ?p5 ?n5 ?r5 ?e10 ?q10 ?p10 ?n10 ?r10 ?e11 ?q11 ?p11 ?n11 ?r11 ?e14 ?q14 ?p14 ?n14 ?r14 ?z_abs ?z_any ?z_bool ?z_enumerate ?z_int ?z_isinstance ?z_len ?z_list ?z_max ?z_min ?z_range ?z_str ?z_sum ?z_tuple
    (case a1 => k_is)
    (case l1 => k_is)
    (case c1 => k_is)
    (case k1 => k_is)
    (case a2 => k_is)
    (case l2 => k_is)
    (case c2 => k_is)
    (case k2 => k_is)
    (case a3 => k_is)
    (case l3 => k_is)
    (case c3 => k_is)
    (case k3 => k_is)
    (case a4 => k_is)
    (case l4 => k_is)
    (case c4 => k_is)
    (case k4 => k_is)
    (case a5 => k_is)
    (case l5 => k_is)
    (case c5 => k_is)
    (case k5 => k_is)
    (case a6 => k_is)
    (case l6 => k_is)
    (case c6 => k_is)
    (case k6 => k_is)
    (case a7 => k_is)
    (case l7 => k_is)
    (case c7 => k_is)
    (case k7 => k_is)
    (case a8 => k_is)
    (case l8 => k_is)
    (case c8 => k_is)
    (case k8 => k_is)
    (case a9 => k_is)
    (case l9 => k_is)
    (case c9 => k_is)
    (case k9 => k_is)
    (case a10 => k_is)
    (case l10 => k_is)
    (case c10 => k_is)
    (case k10 => k_is)
    (case a11 => k_is)
    (case l11 => k_is)
    (case c11 => k_is)
    (case k11 => k_is)
    (case a12 => k_is)
    (case l12 => k_is)
    (case c12 => k_is)
    (case k12 => k_is)
    (case a13 => k_is)
    (case l13 => k_is)
    (case c13 => k_is)
    (case k13 => k_is)
    (case a14 => k_is)
    (case l14 => k_is)
    (case c14 => k_is)
    (case k14 => k_is)
    (case a15 => k_is)
    (case l15 => k_is)
    (case c15 => k_is)
    (case k15 => k_is)
    (case a16 => k_is)
    (case l16 => k_is)
    (case c16 => k_is)
    (case k16 => k_is)
    (case a17 => k_is)
    (case l17 => k_is)
    (case c17 => k_is)
    (case k17 => k_is)
    (case a18 => k_is)
    (case l18 => k_is)
    (case c18 => k_is)
    (case k18 => k_is)
    (case a19 => k_is)
    (case l19 => k_is)
    (case c19 => k_is)
    (case k19 => k_is)
    (case a20 => k_is)
    (case l20 => k_is)
    (case c20 => k_is)
    (case k20 => k_is)
    (case a21 => k_is)
    (case l21 => k_is)
    (case c21 => k_is)
    (case k21 => k_is)
    (case a22 => k_is)
    (case l22 => k_is)
    (case c22 => k_is)
    (case k22 => k_is)
    (case a23 => k_is)
    (case l23 => k_is)
    (case c23 => k_is)
    (case k23 => k_is)
    (case a24 => k_is)
    (case l24 => k_is)
    (case c24 => k_is)
    (case k24 => k_is)
    (case a25 => k_is)
    (case l25 => k_is)
    (case c25 => k_is)
    (case k25 => k_is)
    (case a26 => k_is)
    (case l26 => k_is)
    (case c26 => k_is)
    (case k26 => k_is)
    (case a27 => k_is)
    (case l27 => k_is)
    (case c27 => k_is)
    (case k27 => k_is)
    (case a28 => k_is)
    (case l28 => k_is)
    (case c28 => k_is)
    (case k28 => k_is)
    (case a29 => k_is)
    (case l29 => k_is)
    (case c29 => k_is)
    (case k29 => k_is)
    (case a30 => k_is)
    (case l30 => k_is)
    (case c30 => k_is)
    (case k30 => k_is)
    (case a31 => k_is)
    (case l31 => k_is)
    (case c31 => k_is)
    (case k31 => k_is)
    (case a32 => k_is)
    (case l32 => k_is)
    (case c32 => k_is)
    (case k32 => k_is)
    (case a33 => k_is)
    (case l33 => k_is)
    (case c33 => k_is)
    (case k33 => k_is)
    (case z_abs => k_is)
    (case z_any => k_is)
    (case z_bool => k_is)
    (case z_enumerate => k_is)
    (case z_int => k_is)
    (case z_isinstance => k_is)
    (case z_len => k_is)
    (case z_list => k_is)
    (case z_max => k_is)
    (case z_min => k_is)
    (case z_range => k_is)
    (case z_str => k_is)
    (case z_sum => k_is)
    (case z_tuple => k_is)
    (case e2 => exact rfl)
    (case q2 => k_is)
    (case p2 => exact rfl)
    (case n2 => kernel_rfl)
    (case r2 => exact rfl)
    (case e3 => exact rfl)
    (case q3 => k_is)
    (case p3 => exact rfl)
    (case n3 => kernel_rfl)
    (case r3 => exact rfl)
    (case e5 => exact rfl)
    (case q5 => k_is)
    (case p5 => exact rfl)
    (case n5 => kernel_rfl)
    (case r5 => exact rfl)
    (case e10 => exact rfl)
    (case q10 => k_is)
    (case p10 => exact rfl)
    (case n10 => kernel_rfl)
    (case r10 => exact rfl)
    (case e11 => exact rfl)
    (case q11 => k_is)
    (case p11 => exact rfl)
    (case n11 => kernel_rfl)
    (case r11 => exact rfl)
    (case e14 => exact rfl)
    (case q14 => k_is)
    (case p14 => exact rfl)
    (case n14 => kernel_rfl)
    (case r14 => exact rfl)

