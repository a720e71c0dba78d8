import PyProof.Rows.All
import Wide.All
import OpenK.AllK
import Wide.FinOn
import HandS.ForMost
import HandS.Lambda
import HandS.ForExc
import HandS.Wide
import HandS.TupAny
import HandS.TupMul
import HandS.TupLe
import HandS.Deep
import HandS.IsInst
import HandS.Flow
import HandS.Zip
import HandS.RevRange
import HandS.RaiseMore
import HandS.Style
import HandS.ExcCtx
import HandS.HotCalls
import HandS.ExcIs
import HandS.ExcValue
import HandS.EndBits
import HandS.EndTab
import HandS.HeadEnd
import HandS.HeadHook1
import HandS.HeadHook2
import HandS.HeadHook3
import HandS.HeadHook4
import HandS.HeadWalk
import HandS.Head0
import HandS.Head1
import HandS.Head2
import PySem.Challenge.RW_litinmidst_k01_scripts_and_facts_recogni
set_option Elab.async false
set_option linter.all false
set_option maxRecDepth 100000
set_option maxHeartbeats 1000000
/-! The deep layer: values as data (tuples, lists by value), a store of things that change, readings over them. -/
namespace Li
open PySem PySem.Spec PyProof.Rows L2

/-! ### values -/
inductive D where
  | non | bl (b : Bool) | int (i : Int) | str (x : Str) | tup (ds : List D) | lst (ds : List D) | ref (a : Addr) | ty (n : String) | scr (ns : List Int)
instance : Inhabited D := ⟨.non⟩

mutual
def Rep (K : PySem.W.Frag) (F : Hp) : D → V → Prop
  | .non, v => v = .non
  | .bl b, v => v = .bl b
  | .int i, v => v = .int i
  | .str x, v => v = .str x
  | .ref a, v => v = .ref a
  | .ty n, v => v = .ty n
  | .tup ds, v => ∃ a vs, v = .ref a ∧ SqT K F a vs ∧ Reps K F ds vs
  | .lst ds, v => ∃ a vs, v = .ref a ∧ F a = some (.lst vs) ∧ Reps K F ds vs
  | .scr ns, v => ∃ a, v = .ref a ∧ SqL K F a (ns.map V.int)
def Reps (K : PySem.W.Frag) (F : Hp) : List D → List V → Prop
  | [], vs => vs = []
  | d :: ds, vs => ∃ v r, vs = v :: r ∧ Rep K F d v ∧ Reps K F ds r
end

/-- a thing that changes -/
inductive MO where
  | lst (ds : List D) | ins (C : Addr) (fs : List (Str × D))
abbrev MS := Addr → Option MO
def mset (μ : MS) (a : Addr) (m : Option MO) : MS := fun b => if b = a then m else μ b
theorem mset_same {μ : MS} {a : Addr} {m : Option MO} : mset μ a m a = m := if_pos rfl
theorem mset_ne {μ : MS} {a b : Addr} {m : Option MO} (h : b ≠ a) : mset μ a m b = μ b := if_neg h
theorem mset_mset {μ : MS} {a : Addr} {m m' : Option MO} : mset (mset μ a m) a m' = mset μ a m' := by
  funext b; unfold mset; split <;> rfl
theorem mset_id {μ : MS} {a : Addr} : mset μ a (μ a) = μ := by
  funext b; unfold mset; split
  · rename_i h; rw [h]
  · rfl

def FReps (K : PySem.W.Frag) (F : Hp) : List (Str × D) → List (Str × V) → Prop
  | [], vs => vs = []
  | (k, d) :: ds, vs => ∃ v r, vs = (k, v) :: r ∧ Rep K F d v ∧ FReps K F ds r

theorem same_sqT {K : PySem.W.Frag} {H H' : Hp} {a : Addr} {xs : List V} (e : Same H H') (h : SqT K H a xs) : SqT K H' a xs := by
  rcases h with (h | ⟨o, h⟩) | h
  · exact .inl (.inl (e _ _ h))
  · exact .inl (.inr ⟨o, e _ _ h⟩)
  · exact .inr h
section
variable {K : PySem.W.Frag} {F F' : Hp}
mutual
theorem Rep.mono (e : Same F F') : ∀ {d : D} {v : V}, Rep K F d v → Rep K F' d v
  | .non, _, h => h
  | .bl _, _, h => h
  | .int _, _, h => h
  | .str _, _, h => h
  | .ref _, _, h => h
  | .ty _, _, h => h
  | .tup ds, v, h => by
    obtain ⟨a, vs, h1, h2, h3⟩ := (show ∃ a vs, v = .ref a ∧ SqT K F a vs ∧ Reps K F ds vs by simpa only [Rep] using h)
    simp only [Rep]
    exact ⟨a, vs, h1, same_sqT e h2, Reps.mono e h3⟩
  | .lst ds, v, h => by
    obtain ⟨a, vs, h1, h2, h3⟩ := (show ∃ a vs, v = .ref a ∧ F a = some (.lst vs) ∧ Reps K F ds vs by simpa only [Rep] using h)
    simp only [Rep]
    exact ⟨a, vs, h1, e _ _ h2, Reps.mono e h3⟩
  | .scr ns, v, h => by
    obtain ⟨a, h1, h2⟩ := (show ∃ a, v = .ref a ∧ SqL K F a (ns.map V.int) by simpa only [Rep] using h)
    simp only [Rep]
    exact ⟨a, h1, e.seq h2⟩
theorem Reps.mono (e : Same F F') : ∀ {ds : List D} {vs : List V}, Reps K F ds vs → Reps K F' ds vs
  | [], _, h => h
  | d :: ds, vs, h => by
    obtain ⟨v, r, h1, h2, h3⟩ := (show ∃ v r, vs = v :: r ∧ Rep K F d v ∧ Reps K F ds r by simpa only [Reps] using h)
    simp only [Reps]
    exact ⟨v, r, h1, Rep.mono e h2, Reps.mono e h3⟩
end
theorem FReps.mono (e : Same F F') : ∀ {ds : List (Str × D)} {vs : List (Str × V)}, FReps K F ds vs → FReps K F' ds vs
  | [], _, h => h
  | (k, d) :: ds, vs, ⟨v, r, h1, h2, h3⟩ => ⟨v, r, h1, h2.mono e, FReps.mono e h3⟩
theorem rep_tup {ds : List D} {v : V} : Rep K F (.tup ds) v ↔ ∃ a vs, v = .ref a ∧ SqT K F a vs ∧ Reps K F ds vs := by simp only [Rep]
theorem rep_lst {ds : List D} {v : V} : Rep K F (.lst ds) v ↔ ∃ a vs, v = .ref a ∧ F a = some (.lst vs) ∧ Reps K F ds vs := by simp only [Rep]
theorem rep_scr {ns : List Int} {v : V} : Rep K F (.scr ns) v ↔ ∃ a, v = .ref a ∧ SqL K F a (ns.map V.int) := by simp only [Rep]
theorem rep_non {v : V} : Rep K F .non v ↔ v = .non := by simp only [Rep]
theorem rep_bl {b : Bool} {v : V} : Rep K F (.bl b) v ↔ v = .bl b := by simp only [Rep]
theorem rep_int {i : Int} {v : V} : Rep K F (.int i) v ↔ v = .int i := by simp only [Rep]
theorem rep_str {x : Str} {v : V} : Rep K F (.str x) v ↔ v = .str x := by simp only [Rep]
theorem rep_ref {a : Addr} {v : V} : Rep K F (.ref a) v ↔ v = .ref a := by simp only [Rep]
theorem rep_ty {n : String} {v : V} : Rep K F (.ty n) v ↔ v = .ty n := by simp only [Rep]
theorem reps_nil {vs : List V} : Reps K F [] vs ↔ vs = [] := by simp only [Reps]
theorem reps_cons {d : D} {ds : List D} {vs : List V} : Reps K F (d :: ds) vs ↔ ∃ v r, vs = v :: r ∧ Rep K F d v ∧ Reps K F ds r := by simp only [Reps]
theorem Reps.cons {d : D} {ds : List D} {v : V} {vs : List V} (h : Rep K F d v) (t : Reps K F ds vs) : Reps K F (d :: ds) (v :: vs) := reps_cons.mpr ⟨v, vs, rfl, h, t⟩
theorem Reps.length : ∀ {ds : List D} {vs : List V}, Reps K F ds vs → ds.length = vs.length
  | [], _, h => by rw [reps_nil.mp h]; rfl
  | d :: ds, vs, h => by
    obtain ⟨v, r, rfl, _, t⟩ := reps_cons.mp h
    simp only [List.length_cons, Reps.length t]
theorem Reps.get : ∀ {ds : List D} {vs : List V} {i : Nat} {d : D}, Reps K F ds vs → ds[i]? = some d → ∃ v, vs[i]? = some v ∧ Rep K F d v
  | [], _, i, _, h, e => by simp at e
  | d :: ds, vs, 0, _, h, e => by
    obtain ⟨v, r, rfl, q, t⟩ := reps_cons.mp h
    simp at e; subst e
    exact ⟨v, rfl, q⟩
  | d :: ds, vs, i + 1, _, h, e => by
    obtain ⟨v, r, rfl, q, t⟩ := reps_cons.mp h
    exact Reps.get (i := i) t (by simpa using e)
theorem Reps.append : ∀ {ds es : List D} {vs ws : List V}, Reps K F ds vs → Reps K F es ws → Reps K F (ds ++ es) (vs ++ ws)
  | [], _, _, _, h, t => by rw [reps_nil.mp h]; exact t
  | d :: ds, _, _, _, h, t => by
    obtain ⟨v, r, rfl, q, u⟩ := reps_cons.mp h
    exact .cons q (Reps.append u t)
theorem Reps.take : ∀ {ds : List D} {vs : List V} (n : Nat), Reps K F ds vs → Reps K F (ds.take n) (vs.take n)
  | _, _, 0, _ => by simp only [List.take_zero]; exact reps_nil.mpr rfl
  | [], vs, n + 1, h => by rw [reps_nil.mp h]; exact reps_nil.mpr rfl
  | d :: ds, _, n + 1, h => by
    obtain ⟨v, r, rfl, q, u⟩ := reps_cons.mp h
    exact .cons q (Reps.take n u)
theorem Reps.drop : ∀ {ds : List D} {vs : List V} (n : Nat), Reps K F ds vs → Reps K F (ds.drop n) (vs.drop n)
  | _, _, 0, h => h
  | [], vs, n + 1, h => by rw [reps_nil.mp h]; exact reps_nil.mpr rfl
  | d :: ds, _, n + 1, h => by
    obtain ⟨v, r, rfl, q, u⟩ := reps_cons.mp h
    exact Reps.drop n u
theorem Reps.reverse : ∀ {ds : List D} {vs : List V}, Reps K F ds vs → Reps K F ds.reverse vs.reverse
  | [], _, h => by rw [reps_nil.mp h]; exact reps_nil.mpr rfl
  | d :: ds, _, h => by
    obtain ⟨v, r, rfl, q, u⟩ := reps_cons.mp h
    rw [List.reverse_cons, List.reverse_cons]
    exact (Reps.reverse u).append (.cons q (reps_nil.mpr rfl))
theorem Reps.set {d : D} {v : V} (q : Rep K F d v) : ∀ {ds : List D} {vs : List V} (n : Nat), Reps K F ds vs → Reps K F (ds.set n d) (vs.set n v)
  | [], vs, n, h => by rw [reps_nil.mp h]; exact reps_nil.mpr rfl
  | e :: ds, _, 0, h => by
    obtain ⟨w, r, rfl, q', u⟩ := reps_cons.mp h
    exact .cons q u
  | e :: ds, _, n + 1, h => by
    obtain ⟨w, r, rfl, q', u⟩ := reps_cons.mp h
    exact .cons q' (Reps.set q n u)
end

/-! ### the state -/
/-- the tables of code objects of the defs that make lambdas -/
class Tbl where
  T : List (Addr × Str)
variable [Tbl]
theorem tabs_put {T : List (Addr × Str)} {H : Hp} {p : Addr} {o : HO} (t : LamX.Tabs T H) (h : ∀ u, H p = some u → ∃ xs, u = .lst xs) : LamX.Tabs T (upd H p o) := fun q hq => by
  obtain ⟨ps, h1, h2, h3⟩ := t q hq
  have ne : ∀ b u, H b = some u → (∀ xs, u ≠ .lst xs) → b ≠ p := fun b u e n z => by
    subst z
    obtain ⟨xs, rfl⟩ := h u e
    exact n xs rfl
  refine ⟨ps, by rw [upd_ne (ne _ _ h1 fun xs z => by cases z)]; exact h1, h2, fun pos cv hc => ?_⟩
  obtain ⟨c, e1, e2⟩ := h3 pos cv hc
  exact ⟨c, e1, by rw [upd_ne (ne _ _ e2 fun xs z => by unfold LamX.CodeO at z; cases z)]; exact e2⟩
theorem tabs_new {T : List (Addr × Str)} {H : Hp} {p : Addr} {o : HO} (t : LamX.Tabs T H) (h : H p = none) : LamX.Tabs T (upd H p o) := tabs_put t fun u e => by rw [h] at e; cases e
structure Ok (K : PySem.W.Frag) (F : Hp) (μ : MS) (H : Hp) : Prop where
  sub : Same F H
  lst : ∀ a ds, μ a = some (.lst ds) → F a = none ∧ ∃ vs, H a = some (.lst vs) ∧ Reps K F ds vs
  ins : ∀ a C fs, μ a = some (.ins C fs) → F a = none ∧ ∃ dx vfs, H a = some (.ins C dx vfs) ∧ FReps K F fs vfs
  tab : LamX.Tabs Tbl.T H
  ntb : ∀ b ps, F b ≠ some (.tbl ps)
theorem ntb_upd {F : Hp} {p : Addr} {o : HO} (h : ∀ b ps, F b ≠ some (.tbl ps)) (ho : ∀ ps, o ≠ .tbl ps) : ∀ b ps, (upd F p o) b ≠ some (.tbl ps) := fun b ps z => by
  by_cases hb : b = p
  · subst hb; rw [upd_same] at z; cases z; exact ho _ rfl
  · rw [upd_ne hb] at z; exact h _ _ z
section
variable {K : PySem.W.Frag} {F F' : Hp} {μ : MS} {H : Hp} {p : Addr}
theorem Ok.there (ok : Ok K F μ H) {m : MO} (h : μ p = some m) : ∃ o, H p = some o ∧ F p = none := by
  cases m with
  | lst ds => obtain ⟨h1, vs, h2, _⟩ := ok.lst p ds h; exact ⟨_, h2, h1⟩
  | ins C fs => obtain ⟨h1, dx, vfs, h2, _⟩ := ok.ins p C fs h; exact ⟨_, h2, h1⟩
theorem Ok.freeF (ok : Ok K F μ H) (h : H p = none) : F p = none := ok.sub.free h
theorem Ok.freeM (ok : Ok K F μ H) (h : H p = none) : μ p = none := by
  cases e : μ p with
  | none => rfl
  | some m =>
    obtain ⟨o, h1, _⟩ := ok.there e
    rw [h] at h1; cases h1
theorem same_upd {o : HO} (h : F p = none) : Same F (upd F p o) := fun b u q => by rw [upd_ne (ne_of_none q h)]; exact q
/-- a new thing that stays -/
theorem Ok.frozen (ok : Ok K F μ H) {o : HO} (h : H p = none) (ho : ∀ ps, o ≠ .tbl ps := by intro ps z; cases z) : Ok K (upd F p o) μ (upd H p o) := by
  have hF := ok.freeF h
  have hm := ok.freeM h
  have s : Same F (upd F p o) := same_upd hF
  have ne : ∀ {a m}, μ a = some m → a ≠ p := fun {a m} e z => by subst z; rw [hm] at e; cases e
  refine ⟨fun b u q => ?_, fun a ds e => ?_, fun a C fs e => ?_, tabs_new ok.tab h, ntb_upd ok.ntb ho⟩
  · by_cases hb : b = p
    · subst hb; rw [upd_same] at q ⊢; exact q
    · rw [upd_ne hb] at q ⊢; exact ok.sub b u q
  · obtain ⟨h1, vs, h2, h3⟩ := ok.lst a ds e
    exact ⟨by rw [upd_ne (ne e)]; exact h1, vs, by rw [upd_ne (ne e)]; exact h2, h3.mono s⟩
  · obtain ⟨h1, dx, vfs, h2, h3⟩ := ok.ins a C fs e
    exact ⟨by rw [upd_ne (ne e)]; exact h1, dx, vfs, by rw [upd_ne (ne e)]; exact h2, h3.mono s⟩
/-- a list in the store is made or changed -/
theorem Ok.put (ok : Ok K F μ H) {ds : List D} {vs : List V} (hF : F p = none) (hx : ∀ u, H p = some u → ∃ xs, u = .lst xs) (r : Reps K F ds vs) : Ok K F (mset μ p (some (.lst ds))) (upd H p (.lst vs)) := by
  refine ⟨fun b u q => ?_, fun a es e => ?_, fun a C fs e => ?_, tabs_put ok.tab hx, ok.ntb⟩
  · rw [upd_ne (ne_of_none q hF)]; exact ok.sub b u q
  · by_cases ha : a = p
    · subst ha; rw [mset_same] at e; cases e; exact ⟨hF, vs, upd_same, r⟩
    · rw [mset_ne ha] at e
      obtain ⟨h1, vs, h2, h3⟩ := ok.lst a es e
      exact ⟨h1, vs, by rw [upd_ne ha]; exact h2, h3⟩
  · by_cases ha : a = p
    · subst ha; rw [mset_same] at e; cases e
    · rw [mset_ne ha] at e
      obtain ⟨h1, dx, vfs, h2, h3⟩ := ok.ins a C fs e
      exact ⟨h1, dx, vfs, by rw [upd_ne ha]; exact h2, h3⟩
/-- a thing of the store is forgotten -/
theorem Ok.forget (ok : Ok K F μ H) : Ok K F (mset μ p none) H := by
  refine ⟨ok.sub, fun a es e => ?_, fun a C fs e => ?_, ok.tab, ok.ntb⟩
  · by_cases ha : a = p
    · subst ha; rw [mset_same] at e; cases e
    · rw [mset_ne ha] at e; exact ok.lst a es e
  · by_cases ha : a = p
    · subst ha; rw [mset_same] at e; cases e
    · rw [mset_ne ha] at e; exact ok.ins a C fs e
end

/-- from one state to a later one: what stays stays, and nothing is changed but what the store held -/
structure Stp (F : Hp) (μ : MS) (H : Hp) (F' : Hp) (μ' : MS) (H' : Hp) : Prop where
  s : Same F F'
  fr : ∀ b o, H b = some o → (∀ ps, o ≠ .tbl ps) → μ b = none → H' b = some o ∧ μ' b = none ∧ (F b = none → F' b = none)
section
variable {K : PySem.W.Frag} {F F' F1 F2 : Hp} {μ μ1 μ2 : MS} {H H1 H2 : Hp} {p : Addr}
theorem Stp.refl : Stp F μ H F μ H := ⟨Same.refl F, fun _ _ h _ m => ⟨h, m, id⟩⟩
theorem Stp.trans (a : Stp F μ H F1 μ1 H1) (b : Stp F1 μ1 H1 F2 μ2 H2) : Stp F μ H F2 μ2 H2 := ⟨a.s.trans b.s, fun c o h n m => let ⟨h1, m1, f1⟩ := a.fr c o h n m; let ⟨h2, m2, f2⟩ := b.fr c o h1 n m1; ⟨h2, m2, fun z => f2 (f1 z)⟩⟩
theorem Ok.stpFrozen (ok : Ok K F μ H) {o : HO} (h : H p = none) : Stp F μ H (upd F p o) μ (upd H p o) := ⟨same_upd (ok.freeF h), fun b u q n m =>
  have ne := ne_of_none q h
  ⟨by rw [upd_ne ne]; exact q, m, fun z => by rw [upd_ne ne]; exact z⟩⟩
theorem stpNew {o : HO} {m' : Option MO} (h : H p = none) : Stp F μ H F (mset μ p m') (upd H p o) := ⟨Same.refl F, fun b u q n m =>
  have ne := ne_of_none q h
  ⟨by rw [upd_ne ne]; exact q, by rw [mset_ne ne]; exact m, id⟩⟩
theorem stpPut {o : HO} {x : MO} {m' : Option MO} (h : μ p = some x) : Stp F μ H F (mset μ p m') (upd H p o) := ⟨Same.refl F, fun b u q n m => by
  have ne : b ≠ p := fun z => by subst z; rw [h] at m; cases m
  exact ⟨by rw [upd_ne ne]; exact q, by rw [mset_ne ne]; exact m, id⟩⟩
theorem stpFreeze {o : HO} {x : MO} {m' : Option MO} (h : μ p = some x) (hF : F p = none) : Stp F μ H (upd F p o) (mset μ p m') H := ⟨same_upd hF, fun b u q n m => by
  have ne : b ≠ p := fun z => by subst z; rw [h] at m; cases m
  exact ⟨q, by rw [mset_ne ne]; exact m, fun z => by rw [upd_ne ne]; exact z⟩⟩
/-- seen from ahead of p's making, p may change as it likes -/
theorem Stp.skip (a : Stp F μ H F1 μ1 H1) (h : H p = none) {o : HO} : Stp F μ H F1 μ1 (upd H1 p o) := ⟨a.s, fun b u q n m => by
  obtain ⟨h1, m1, f1⟩ := a.fr b u q n m
  exact ⟨by rw [upd_ne (ne_of_none q h)]; exact h1, m1, f1⟩⟩
theorem Stp.skipF (a : Stp F μ H F1 μ1 H1) (h : H p = none) (hF : F1 p = none) {o : HO} : Stp F μ H (upd F1 p o) μ1 H1 := ⟨a.s.trans (same_upd hF), fun b u q n m => by
  obtain ⟨h1, m1, f1⟩ := a.fr b u q n m
  exact ⟨h1, m1, fun z => by rw [upd_ne (ne_of_none q h)]; exact f1 z⟩⟩
theorem Stp.skipM (a : Stp F μ H F1 μ1 H1) (h : H p = none) {m' : Option MO} : Stp F μ H F1 (mset μ1 p m') H1 := ⟨a.s, fun b u q n m => by
  obtain ⟨h1, m1, f1⟩ := a.fr b u q n m
  exact ⟨h1, by rw [mset_ne (ne_of_none q h)]; exact m1, f1⟩⟩
/-- a list in the store stays from now on as it is -/
theorem Ok.freeze (ok : Ok K F μ H) {ds : List D} (h : μ p = some (.lst ds)) : ∃ F', Stp F μ H F' (mset μ p none) H ∧ Ok K F' (mset μ p none) H ∧ Rep K F' (.lst ds) (.ref p) := by
  obtain ⟨h1, vs, h2, h3⟩ := ok.lst p ds h
  have s : Same F (upd F p (.lst vs)) := same_upd h1
  refine ⟨upd F p (.lst vs), stpFreeze h h1, ⟨fun b u q => ?_, fun a es e => ?_, fun a C fs e => ?_, ok.tab, ntb_upd ok.ntb (fun ps z => by cases z)⟩, rep_lst.mpr ⟨p, vs, rfl, upd_same, h3.mono s⟩⟩
  · by_cases hb : b = p
    · subst hb; rw [upd_same] at q; cases q; exact h2
    · rw [upd_ne hb] at q; exact ok.sub b u q
  · by_cases ha : a = p
    · subst ha; rw [mset_same] at e; cases e
    · rw [mset_ne ha] at e
      obtain ⟨h1, vs, h2, h3⟩ := ok.lst a es e
      exact ⟨by rw [upd_ne ha]; exact h1, vs, h2, h3.mono s⟩
  · by_cases ha : a = p
    · subst ha; rw [mset_same] at e; cases e
    · rw [mset_ne ha] at e
      obtain ⟨h1, dx, vfs, h2, h3⟩ := ok.ins a C fs e
      exact ⟨by rw [upd_ne ha]; exact h1, dx, vfs, h2, h3.mono s⟩
end

abbrev DSt := List (Option D)
structure RelS (K : PySem.W.Frag) (F : Hp) (ρ : DSt) (σ : L2.St) : Prop where
  len : ρ.length = σ.length
  at_ : ∀ (i : Nat) (d : D), ρ[i]? = some (some d) → ∃ v, σ[i]? = some (some v) ∧ Rep K F d v
section
variable {K : PySem.W.Frag} {F F' : Hp} {ρ : DSt} {σ : L2.St}
theorem RelS.mono (r : RelS K F ρ σ) (e : Same F F') : RelS K F' ρ σ := ⟨r.len, fun i d h => let ⟨v, h1, h2⟩ := r.at_ i d h; ⟨v, h1, h2.mono e⟩⟩
theorem RelS.set (r : RelS K F ρ σ) {d : D} {v : V} (q : Rep K F d v) (i : Nat) : RelS K F (ρ.set i (some d)) (σ.set i (some v)) := by
  refine ⟨by rw [List.length_set, List.length_set, r.len], fun j e h => ?_⟩
  by_cases hj : i = j
  · subst hj
    by_cases hl : i < ρ.length
    · rw [List.getElem?_set_self hl] at h
      cases h
      exact ⟨v, List.getElem?_set_self (by rw [← r.len]; exact hl), q⟩
    · rw [List.getElem?_eq_none (by rw [List.length_set]; omega)] at h; cases h
  · rw [List.getElem?_set_ne hj] at h ⊢
    exact r.at_ j e h
/-- slots forgotten on one side -/
theorem RelS.lose (r : RelS K F ρ σ) (i : Nat) : RelS K F (ρ.set i none) σ := by
  refine ⟨by rw [List.length_set, r.len], fun j e h => ?_⟩
  by_cases hj : i = j
  · subst hj
    by_cases hl : i < ρ.length
    · rw [List.getElem?_set_self hl] at h; cases h
    · rw [List.getElem?_eq_none (by rw [List.length_set]; omega)] at h; cases h
  · rw [List.getElem?_set_ne hj] at h
    exact r.at_ j e h
theorem RelS.start {N : List Str} {ds : List D} {vs : List V} (q : Reps K F ds vs) : RelS K F (ds.map some ++ List.replicate (N.length - ds.length) none) (L2.start N vs) := by
  have hl := q.length
  refine ⟨by simp only [L2.start, List.length_append, List.length_map, List.length_replicate, hl], fun i d h => ?_⟩
  by_cases hi : i < ds.length
  · rw [List.getElem?_append_left (by simpa using hi), List.getElem?_map] at h
    cases e : ds[i]? with
    | none => rw [e] at h; cases h
    | some d' =>
      rw [e] at h; cases h
      obtain ⟨v, h1, h2⟩ := q.get e
      exact ⟨v, by unfold L2.start; rw [List.getElem?_append_left (by simp; omega), List.getElem?_map, h1]; rfl, h2⟩
  · rw [List.getElem?_append_right (by simpa using hi), List.getElem?_replicate] at h
    split at h <;> cases h
end

/-! ### readings over data -/
abbrev DK := D → MS → Prop
abbrev DTE := DSt → MS → DK → Prop
abbrev DTT := DSt → MS → (Bool → MS → Prop) → Prop
abbrev DTA := DSt → MS → (List D → MS → Prop) → Prop
abbrev DPS := DSt → MS → Prop
structure DEnds where
  nx : DPS
  rt : DK
  bk : DPS := fun _ _ => False
  ct : DPS := fun _ _ => False
abbrev DTS := DEnds → DSt → MS → Prop
abbrev DTG := D → DSt → MS → DPS → Prop
abbrev DTGs := List D → DSt → MS → DPS → Prop
abbrev DTI := DSt → MS → (List D → MS → Prop) → Prop

/-- what the wish over data says of the wish over the heap -/
def Cl (K : PySem.W.Frag) (F : Hp) (μ : MS) (H : Hp) (Qd : DK) (Q : VK) : Prop := ∀ F' d μ' v H', Stp F μ H F' μ' H' → Ok K F' μ' H' → Rep K F' d v → Qd d μ' → Q v H'
def ClS (K : PySem.W.Frag) (F : Hp) (μ : MS) (H : Hp) (Qd : DPS) (Q : L2.St → Hp → Prop) : Prop := ∀ F' ρ' μ' σ' H', Stp F μ H F' μ' H' → Ok K F' μ' H' → RelS K F' ρ' σ' → Qd ρ' μ' → Q σ' H'
theorem Cl.mono {K : PySem.W.Frag} {F F' : Hp} {μ μ' : MS} {H H' : Hp} {Qd : DK} {Q : VK} (c : Cl K F μ H Qd Q) (e : Stp F μ H F' μ' H') : Cl K F' μ' H' Qd Q := fun F1 d μ1 v H1 s => c F1 d μ1 v H1 (e.trans s)
theorem ClS.mono {K : PySem.W.Frag} {F F' : Hp} {μ μ' : MS} {H H' : Hp} {Qd : DPS} {Q : L2.St → Hp → Prop} (c : ClS K F μ H Qd Q) (e : Stp F μ H F' μ' H') : ClS K F' μ' H' Qd Q := fun F1 d μ1 v H1 s => c F1 d μ1 v H1 (e.trans s)

/-- the state at a def's entry -/
structure Ent where
  F : Hp
  μ : MS
  H : Hp
def Ent.to (B : Ent) (F : Hp) (μ : MS) (H : Hp) : Prop := Stp B.F B.μ B.H F μ H
theorem Ent.to.trans {B : Ent} {F F' : Hp} {μ μ' : MS} {H H' : Hp} (a : B.to F μ H) (b : Stp F μ H F' μ' H') : B.to F' μ' H' := Stp.trans a b
section
variable (K : PySem.W.Frag) (B : Ent)
def LE (t : DTE) : TE := fun σ H Q => ∃ F ρ μ Qd, B.to F μ H ∧ Ok K F μ H ∧ RelS K F ρ σ ∧ t ρ μ Qd ∧ Cl K F μ H Qd Q
def LT (t : DTT) : TT := fun σ H Q => ∃ F ρ μ Qd, B.to F μ H ∧ Ok K F μ H ∧ RelS K F ρ σ ∧ t ρ μ Qd ∧ ∀ F' b μ' H', Stp F μ H F' μ' H' → Ok K F' μ' H' → Qd b μ' → Q b H'
def LA (t : DTA) : TA := fun σ H Q => ∃ F ρ μ Qd, B.to F μ H ∧ Ok K F μ H ∧ RelS K F ρ σ ∧ t ρ μ Qd ∧ ∀ F' ds μ' vs H', Stp F μ H F' μ' H' → Ok K F' μ' H' → Reps K F' ds vs → Qd ds μ' → Q vs H'
structure ClD (F : Hp) (μ : MS) (H : Hp) (DD : DEnds) (D : Ends) : Prop where
  nx : ClS K F μ H DD.nx D.nx
  rt : Cl K F μ H DD.rt D.rt
  bk : ClS K F μ H DD.bk D.bk
  ct : ClS K F μ H DD.ct D.ct
def LS (t : DTS) : TS := fun D σ H => ∃ F ρ μ DD, B.to F μ H ∧ Ok K F μ H ∧ RelS K F ρ σ ∧ t DD ρ μ ∧ ClD K F μ H DD D
def LG (t : DTG) : TG := fun v σ H Q => ∃ F d ρ μ Qd, B.to F μ H ∧ Ok K F μ H ∧ RelS K F ρ σ ∧ Rep K F d v ∧ t d ρ μ Qd ∧ ClS K F μ H Qd Q
def LGs (t : DTGs) : TGs := fun vs σ H Q => ∃ F ds ρ μ Qd, B.to F μ H ∧ Ok K F μ H ∧ RelS K F ρ σ ∧ Reps K F ds vs ∧ t ds ρ μ Qd ∧ ClS K F μ H Qd Q
/-- J gives out ds -/
def Gives (F : Hp) (ds : List D) (J : It) : Prop := ∀ (i : Nat) F1 μ1 H1, Same F F1 → Ok K F1 μ1 H1 →
  (∀ d, ds[i]? = some d → J.go i H1 ∧ ∀ x H2, J.yld i H1 x H2 → ∃ F2, Stp F1 μ1 H1 F2 μ1 H2 ∧ Ok K F2 μ1 H2 ∧ Rep K F2 d x) ∧ (ds.length ≤ i → J.stop i H1)
def LI (t : DTI) : TI := fun σ H R => ∃ F ρ μ Qd, B.to F μ H ∧ Ok K F μ H ∧ RelS K F ρ σ ∧ t ρ μ Qd ∧ ∀ F' ds μ' H' J, Stp F μ H F' μ' H' → Ok K F' μ' H' → ds.length ≤ sizeLine → Gives K F' ds J → Qd ds μ' → R J H'
end
theorem ClD.mono {K : PySem.W.Frag} {F F' : Hp} {μ μ' : MS} {H H' : Hp} {DD : DEnds} {D : Ends} (c : ClD K F μ H DD D) (e : Stp F μ H F' μ' H') : ClD K F' μ' H' DD D := ⟨c.nx.mono e, c.rt.mono e, c.bk.mono e, c.ct.mono e⟩

abbrev DE (X : Cx) (B : Ent) (e : Expr) (t : DTE) : Prop := PE X e (LE X.K B t)
abbrev DT (X : Cx) (B : Ent) (e : Expr) (t : DTT) : Prop := PT X e (LT X.K B t)
abbrev DW (X : Cx) (B : Ent) (e : Expr) (t : DTT) : Prop := PW X e (LT X.K B t)
abbrev DA (X : Cx) (B : Ent) (es : List Expr) (t : DTA) : Prop := PA X es (LA X.K B t)
abbrev DS (X : Cx) (B : Ent) (st : Stmt) (t : DTS) : Prop := PS X st (LS X.K B t)
abbrev DSs (X : Cx) (B : Ent) (st : List Stmt) (t : DTS) : Prop := PSs X st (LS X.K B t)
abbrev DG (X : Cx) (B : Ent) (e : Expr) (t : DTG) : Prop := PG X e (LG X.K B t)
abbrev DGs (X : Cx) (B : Ent) (es : List Expr) (t : DTGs) : Prop := PGs X es (LGs X.K B t)
abbrev DI (X : Cx) (B : Ent) (tg e : Expr) (t : DTI) : Prop := PI X tg e (LI X.K B t)

theorem PE.by {X : Cx} {e : Expr} {t u : TE} (h : PE X e t) (i : ∀ σ H Q, u σ H Q → t σ H Q) : PE X e u := ⟨fun pins s σ H Q I q => h.run pins s σ H Q I (i σ H Q q)⟩
theorem PT.by {X : Cx} {e : Expr} {t u : TT} (h : PT X e t) (i : ∀ σ H Q, u σ H Q → t σ H Q) : PT X e u := ⟨fun pins s σ H Q I q => h.run pins s σ H Q I (i σ H Q q)⟩
theorem PW.by {X : Cx} {e : Expr} {t u : TT} (h : PW X e t) (i : ∀ σ H Q, u σ H Q → t σ H Q) : PW X e u := ⟨fun wh pins s σ H Q I q => h.run wh pins s σ H Q I (i σ H Q q)⟩
theorem PA.by {X : Cx} {es : List Expr} {t u : TA} (h : PA X es t) (i : ∀ σ H Q, u σ H Q → t σ H Q) : PA X es u := ⟨fun pos pins s σ H Q I q => h.run pos pins s σ H Q I (i σ H Q q)⟩
theorem PS.by {X : Cx} {st : Stmt} {t u : TS} (h : PS X st t) (i : ∀ D σ H, u D σ H → t D σ H) : PS X st u := ⟨fun pins s σ H D I q => h.run pins s σ H D I (i D σ H q)⟩
theorem PSs.by {X : Cx} {st : List Stmt} {t u : TS} (h : PSs X st t) (i : ∀ D σ H, u D σ H → t D σ H) : PSs X st u := ⟨fun pins s σ H D I q => h.run pins s σ H D I (i D σ H q)⟩
theorem PG.by {X : Cx} {e : Expr} {t u : TG} (h : PG X e t) (i : ∀ v σ H Q, u v σ H Q → t v σ H Q) : PG X e u := ⟨fun pins s σ H v w Q I r q => h.run pins s σ H v w Q I r (i v σ H Q q)⟩
theorem PGs.by {X : Cx} {es : List Expr} {t u : TGs} (h : PGs X es t) (i : ∀ v σ H Q, u v σ H Q → t v σ H Q) : PGs X es u := ⟨fun pins s σ H v w Q I r q => h.run pins s σ H v w Q I r (i v σ H Q q)⟩
theorem PI.by {X : Cx} {tg e : Expr} {t u : TI} (h : PI X tg e t) (i : ∀ σ H R, u σ H R → t σ H R) : PI X tg e u := ⟨fun pins s σ H R I q => h.run pins s σ H R I (i σ H R q)⟩
end Li

set_option Elab.async false
set_option linter.all false
set_option maxRecDepth 100000
set_option maxHeartbeats 1000000
/-! Expressions, operators, tests over data. -/
namespace Li
open PySem PySem.Spec PyProof.Rows L2
variable [Tbl]

/-- by the answer of a test -/
def bcase (b : Bool) (A B : Prop) : Prop := match b with | true => A | false => B
theorem bcase_of {b : Bool} {A B : Prop} (h1 : b = true → A) (h2 : b = false → B) : bcase b A B := by
  cases b
  · exact h2 rfl
  · exact h1 rfl
theorem bcase_t {b : Bool} {A B : Prop} (h : b = true) (q : A) : bcase b A B := by subst h; exact q
theorem bcase_f {b : Bool} {A B : Prop} (h : b = false) (q : B) : bcase b A B := by subst h; exact q
theorem bcase_ite {b : Bool} {A B : Prop} : (if b = true then A else B) ↔ bcase b A B := by cases b <;> simp [bcase]

/-! ### == -/
mutual
def deq : D → D → Bool
  | .non, .non => true
  | .bl a, .bl b => a == b
  | .bl a, .int j => (if a then 1 else 0) == j
  | .int i, .bl b => i == (if b then 1 else 0)
  | .int i, .int j => i == j
  | .str x, .str y => x == y
  | .lst xs, .lst ys => deqs xs ys
  | .tup xs, .tup ys => deqs xs ys
  | _, _ => false
def deqs : List D → List D → Bool
  | [], [] => true
  | x :: xs, y :: ys => deq x y && deqs xs ys
  | _, _ => false
end
mutual
def D.py : D → PyData
  | .non => .none
  | .bl b => .bool b
  | .int i => .int i
  | .str x => .str x
  | .lst xs => .list (D.pys xs)
  | .tup xs => .tuple (D.pys xs)
  | .ref _ => .dict []
  | .ty _ => .dict []
  | .scr _ => .dict []
def D.pys : List D → List PyData
  | [] => []
  | x :: xs => x.py :: D.pys xs
end
mutual
/-- no object, plain texts -/
def D.lay : D → Bool
  | .non | .bl _ | .int _ => true
  | .str x => PyData.strOk x
  | .lst xs | .tup xs => D.lays xs
  | .ref _ | .ty _ | .scr _ => false
def D.lays : List D → Bool
  | [] => true
  | x :: xs => x.lay && D.lays xs
end
mutual
def D.dep : D → Nat
  | .lst xs | .tup xs => D.deps xs + 1
  | _ => 0
def D.deps : List D → Nat
  | [] => 0
  | x :: xs => max x.dep (D.deps xs)
end
mutual
theorem py_lay : ∀ d : D, d.py.canLay0 = d.lay
  | .non => by simp [D.py, D.lay, PyData.canLay0]
  | .bl _ => by simp [D.py, D.lay, PyData.canLay0]
  | .int _ => by simp [D.py, D.lay, PyData.canLay0]
  | .str x => by simp [D.py, D.lay, PyData.canLay0]
  | .lst xs => by simp only [D.py, D.lay, PyData.canLay0]; exact pys_lay xs
  | .tup xs => by simp only [D.py, D.lay, PyData.canLay0]; exact pys_lay xs
  | .ref _ => by simp [D.py, D.lay, PyData.canLay0]
  | .ty _ => by simp [D.py, D.lay, PyData.canLay0]
  | .scr _ => by simp [D.py, D.lay, PyData.canLay0]
theorem pys_lay : ∀ ds : List D, PyData.canLayAll0 (D.pys ds) = D.lays ds
  | [] => by simp [D.pys, D.lays, PyData.canLayAll0]
  | d :: ds => by simp only [D.pys, D.lays, PyData.canLayAll0, py_lay d, pys_lay ds]
end
mutual
theorem py_dep : ∀ d : D, d.lay = true → d.py.depth = d.dep
  | .non, _ => by simp [D.py, D.dep, PyData.depth]
  | .bl _, _ => by simp [D.py, D.dep, PyData.depth]
  | .int _, _ => by simp [D.py, D.dep, PyData.depth]
  | .str x, _ => by simp [D.py, D.dep, PyData.depth]
  | .lst xs, h => by simp only [D.py, D.dep, PyData.depth]; rw [pys_dep xs (by simpa only [D.lay] using h)]
  | .tup xs, h => by simp only [D.py, D.dep, PyData.depth]; rw [pys_dep xs (by simpa only [D.lay] using h)]
  | .ref _, h => by simp [D.lay] at h
  | .ty _, h => by simp [D.lay] at h
  | .scr _, h => by simp [D.lay] at h
theorem pys_dep : ∀ ds : List D, D.lays ds = true → PyData.depthAll (D.pys ds) = D.deps ds
  | [], _ => by simp [D.pys, D.deps, PyData.depthAll]
  | d :: ds, h => by
    have h' : d.lay = true ∧ D.lays ds = true := by simpa [D.lays] using h
    simp only [D.pys, D.deps, PyData.depthAll, py_dep d h'.1, pys_dep ds h'.2]
end
mutual
theorem deq_py : ∀ x y : D, x.lay = true → y.lay = true → x.py.eqv y.py = deq x y
  | .non, y, _, h => by cases y <;> simp [D.py, deq, PyData.eqv] <;> simp [D.lay] at h
  | .bl _, y, _, h => by cases y <;> simp [D.py, deq, PyData.eqv] <;> simp [D.lay] at h
  | .int _, y, _, h => by cases y <;> simp [D.py, deq, PyData.eqv] <;> simp [D.lay] at h
  | .str _, y, _, h => by cases y <;> simp [D.py, deq, PyData.eqv] <;> simp [D.lay] at h
  | .lst xs, y, g, h => by
    cases y with
    | lst ys => simp only [D.py, deq, PyData.eqv]; exact deqs_py xs ys (by simpa only [D.lay] using g) (by simpa only [D.lay] using h)
    | _ => simp [D.py, deq, PyData.eqv] <;> simp [D.lay] at h
  | .tup xs, y, g, h => by
    cases y with
    | tup ys => simp only [D.py, deq, PyData.eqv]; exact deqs_py xs ys (by simpa only [D.lay] using g) (by simpa only [D.lay] using h)
    | _ => simp [D.py, deq, PyData.eqv] <;> simp [D.lay] at h
  | .ref _, _, h, _ => by simp [D.lay] at h
  | .ty _, _, h, _ => by simp [D.lay] at h
  | .scr _, _, h, _ => by simp [D.lay] at h
theorem deqs_py : ∀ xs ys : List D, D.lays xs = true → D.lays ys = true → PyData.eqvAll (D.pys xs) (D.pys ys) = deqs xs ys
  | [], [], _, _ => by simp [D.pys, deqs, PyData.eqvAll]
  | [], _ :: _, _, _ => by simp [D.pys, deqs, PyData.eqvAll]
  | _ :: _, [], _, _ => by simp [D.pys, deqs, PyData.eqvAll]
  | x :: xs, y :: ys, g, h => by
    have g' : x.lay = true ∧ D.lays xs = true := by simpa [D.lays] using g
    have h' : y.lay = true ∧ D.lays ys = true := by simpa [D.lays] using h
    simp only [D.pys, deqs, PyData.eqvAll, deq_py x y g'.1 h'.1, deqs_py xs ys g'.2 h'.2]
end
section
variable {K : PySem.W.Frag} {F H : Hp}
mutual
theorem rep_dp (s : Same F H) : ∀ {d : D} {v : V}, d.lay = true → Rep K F d v → Dp K H v d.py
  | .non, v, _, h => by rw [rep_non.mp h]; simp only [D.py]; exact .non
  | .bl b, v, _, h => by rw [rep_bl.mp h]; simp only [D.py]; exact .bl b
  | .int i, v, _, h => by rw [rep_int.mp h]; simp only [D.py]; exact .int i
  | .str x, v, _, h => by rw [rep_str.mp h]; simp only [D.py]; exact .str x
  | .lst ds, v, l, h => by
    obtain ⟨a, vs, rfl, h2, h3⟩ := rep_lst.mp h
    simp only [D.py]
    exact .lst (SqL.of (s _ _ h2)) (reps_dp s (by simpa only [D.lay] using l) h3)
  | .tup ds, v, l, h => by
    obtain ⟨a, vs, rfl, h2, h3⟩ := rep_tup.mp h
    simp only [D.py]
    exact .tup (same_sqT s h2) (reps_dp s (by simpa only [D.lay] using l) h3)
  | .ref _, _, l, _ => by simp [D.lay] at l
  | .ty _, _, l, _ => by simp [D.lay] at l
  | .scr _, _, l, _ => by simp [D.lay] at l
theorem reps_dp (s : Same F H) : ∀ {ds : List D} {vs : List V}, D.lays ds = true → Reps K F ds vs → DpAll K H vs (D.pys ds)
  | [], _, _, h => by rw [reps_nil.mp h]; simp only [D.pys]; exact .nil
  | d :: ds, _, l, h => by
    have l' : d.lay = true ∧ D.lays ds = true := by simpa [D.lays] using l
    obtain ⟨v, r, rfl, q, u⟩ := reps_cons.mp h
    simp only [D.pys]
    exact .cons (rep_dp s l'.1 q) (reps_dp s l'.2 u)
end
end

/-- what a list of the store holds -/
def refL (o : Option MO) (k : List D → Prop) : Prop := match o with
  | some (.lst ds) => k ds
  | _ => False
theorem refL_of {o : Option MO} {ds : List D} {k : List D → Prop} (h : o = some (.lst ds)) (q : k ds) : refL o k := by subst h; exact q
theorem refL_elim {o : Option MO} {k : List D → Prop} (h : refL o k) : ∃ ds, o = some (.lst ds) ∧ k ds := by
  unfold refL at h
  split at h
  · exact ⟨_, rfl, h⟩
  · exact h.elim

/-! ### operators -/
abbrev KD := D → D → MS → DK → Prop
/-- an operator's reading over the heap, from its reading over data -/
def L2R (K : PySem.W.Frag) (k : KD) : R2 := fun v w H Q => ∃ F μ x y Qd, Ok K F μ H ∧ Rep K F x v ∧ Rep K F y w ∧ k x y μ Qd ∧ Cl K F μ H Qd Q
abbrev DOp (X : Cx) (f : Value → Value → Sem Value) (k : KD) : Prop := OpR X f (L2R X.K k)
def dBin (k : KD) (ta tb : DTE) : DTE := fun ρ μ Q => ta ρ μ fun x μ1 => tb ρ μ1 fun y μ2 => k x y μ2 Q
theorem le_bin {K : PySem.W.Frag} {B : Ent} {k : KD} {ta tb : DTE} {σ : L2.St} {H : Hp} {Q : VK} (h : LE K B (dBin k ta tb) σ H Q) : tOp (L2R K k) (LE K B ta) (LE K B tb) σ H Q := by
  obtain ⟨F, ρ, μ, Qd, sB, ok, rs, t, cl⟩ := h
  refine ⟨F, ρ, μ, _, sB, ok, rs, t, fun F1 x μ1 v H1 s1 ok1 rx t1 => ?_⟩
  refine ⟨F1, ρ, μ1, _, sB.trans s1, ok1, rs.mono s1.s, t1, fun F2 y μ2 w H2 s2 ok2 ry t2 => ?_⟩
  exact ⟨F2, μ2, x, y, Qd, ok2, rx.mono s2.s, ry, t2, cl.mono (s1.trans s2)⟩

section
variable {X : Cx} {B : Ent} {a b c : Expr} {ta tb tc : DTE} {pos : Pos} {op : Operator} {k : KD}
theorem de_bin (ho : DOp X (binaryOp op) k) (ha : DE X B a ta) (hb : DE X B b tb) : DE X B (.BinOp a op b pos) (dBin k ta tb) := PE.by (pe_op ho ha hb) fun _ _ _ => le_bin

/-! ### names, constants -/
def dVar (i : Nat) : DTE := fun ρ μ Q => match ρ[i]? with
  | some (some d) => Q d μ
  | _ => False
def dC (d : D) : DTE := fun _ μ Q => Q d μ
theorem dv (i : Nat) {x : Str} {pos : Pos} (hN : X.N[i]? = some x := by rfl) (hv : Vis X.env.scope x := by first | exact Or.inl rfl | exact Or.inr (Or.inl rfl) | exact Or.inr (Or.inr rfl)) (hd : (x == ("__debug__" : Str)) = false := by decide)
    (hcd : (x == ("__classdict__" : Str)) = false := by decide) : DE X B (.Name x pos) (dVar i) := PE.by (pe_var hN hv hd hcd) fun σ H Q ⟨F, ρ, μ, Qd, sB, ok, rs, t, cl⟩ => by
  unfold dVar at t
  split at t
  · rename_i d e
    obtain ⟨v, h1, h2⟩ := rs.at_ i d e
    exact ⟨v, h1, cl F d μ v H (Stp.refl) ok h2 t⟩
  · exact t.elim
/-- a list of the store, read as a value: it stays from now on as it is -/
def dVarF (i : Nat) : DTE := fun ρ μ Q => match ρ[i]? with
  | some (some (.ref a)) => refL (μ a) fun ds => Q (.lst ds) (mset μ a none)
  | some (some d) => Q d μ
  | _ => False
theorem dvF (i : Nat) {x : Str} {pos : Pos} (hN : X.N[i]? = some x := by rfl) (hv : Vis X.env.scope x := by first | exact Or.inl rfl | exact Or.inr (Or.inl rfl) | exact Or.inr (Or.inr rfl)) (hd : (x == ("__debug__" : Str)) = false := by decide)
    (hcd : (x == ("__classdict__" : Str)) = false := by decide) : DE X B (.Name x pos) (dVarF i) := PE.by (pe_var hN hv hd hcd) fun σ H Q ⟨F, ρ, μ, Qd, sB, ok, rs, t, cl⟩ => by
  unfold dVarF at t
  split at t
  · rename_i a e
    obtain ⟨v, h1, h2⟩ := rs.at_ i _ e
    obtain rfl := rep_ref.mp h2
    obtain ⟨ds, e2, t⟩ := refL_elim t
    obtain ⟨F', s, ok', r⟩ := ok.freeze e2
    exact ⟨_, h1, cl F' _ _ _ H s ok' r t⟩
  · rename_i d _ e
    obtain ⟨v, h1, h2⟩ := rs.at_ i d e
    exact ⟨v, h1, cl F d μ v H (Stp.refl) ok h2 t⟩
  · exact t.elim
theorem le_c {d : D} {v : V} (r : ∀ F, Rep X.K F d v) {σ : L2.St} {H : Hp} {Q : VK} (h : LE X.K B (dC d) σ H Q) : tC v σ H Q := by
  obtain ⟨F, ρ, μ, Qd, sB, ok, rs, t, cl⟩ := h
  exact cl F d μ v H (Stp.refl) ok (r F) t
theorem de_int {i j pos} : DE X B (.Constant (.int i) j pos) (dC (.int i)) := PE.by pe_int fun _ _ _ => le_c fun _ => rep_int.mpr rfl
theorem de_bl {b j pos} : DE X B (.Constant (.bool b) j pos) (dC (.bl b)) := PE.by pe_bl fun _ _ _ => le_c fun _ => rep_bl.mpr rfl
theorem de_non {j pos} : DE X B (.Constant .none j pos) (dC .non) := PE.by pe_non fun _ _ _ => le_c fun _ => rep_non.mpr rfl
theorem de_str {x j pos} : DE X B (.Constant (.str x) j pos) (dC (.str x)) := PE.by pe_str fun _ _ _ => le_c fun _ => rep_str.mpr rfl
/-- a module's name: what it holds -/
structure Glb (K : PySem.W.Frag) (mg : Str → Option Value) (x : Str) (d : D) : Prop where
  ex : ∃ v u, mg x = some u ∧ RelV v u ∧ ∀ F, Rep K F d v
theorem de_glob {x : Str} {d : D} {pos : Pos} (hg : Gl X x) (g : Glb X.K X.mg x d) (hd : (x == ("__debug__" : Str)) = false := by decide) : DE X B (.Name x pos) (dC d) := by
  obtain ⟨v, u, h1, h2, h3⟩ := g.ex
  exact PE.by (pe_glob hg h1 h2 hd) fun _ _ _ => le_c h3
end

/-! ### + - * // % -/
section
variable {X : Cx}
/-- a list: by value, or in the store -/
def asL (μ : MS) (x : D) : Option (List D) := match x with
  | .lst ds => some ds
  | .ref a => (match μ a with
    | some (.lst ds) => some ds
    | _ => none)
  | _ => none
def kAdd : KD := fun x y μ Q => match x, y with
  | .int i, .int j => Q (.int (i + j)) μ
  | .str s, .str t => s.length + t.length ≤ sizeLine ∧ Q (.str (s ++ t)) μ
  | .tup s, .tup t => s.length + t.length ≤ sizeLine ∧ Q (.tup (s ++ t)) μ
  | x, y => (match asL μ x, asL μ y with
    | some s, some t => s.length + t.length ≤ sizeLine ∧ Q (.lst (s ++ t)) μ
    | _, _ => False)
theorem asL_rep {K : PySem.W.Frag} {F : Hp} {μ : MS} {H : Hp} (ok : Ok K F μ H) {x : D} {v : V} {ds : List D} (r : Rep K F x v) (h : asL μ x = some ds) : ∃ a vs, v = .ref a ∧ H a = some (.lst vs) ∧ Reps K F ds vs := by
  cases x with
  | lst es =>
    cases h
    obtain ⟨a, vs, e, h1, h2⟩ := rep_lst.mp r
    exact ⟨a, vs, e, ok.sub _ _ h1, h2⟩
  | ref a =>
    have h' : (match μ a with
      | some (.lst ds) => some ds
      | _ => none) = some ds := h
    split at h'
    · rename_i es em
      cases h'
      obtain ⟨_, vs, h1, h2⟩ := ok.lst _ _ em
      exact ⟨_, vs, rep_ref.mp r, h1, h2⟩
    · cases h'
  | _ => cases h
theorem Ok.sqT {K : PySem.W.Frag} {F : Hp} {μ : MS} {H : Hp} (ok : Ok K F μ H) {a : Addr} {xs : List V} (h : SqT K F a xs) : SqT K H a xs := same_sqT ok.sub h
theorem cl_tup {K : PySem.W.Frag} {F : Hp} {μ : MS} {H : Hp} {Qd : DK} {Q : VK} (ok : Ok K F μ H) (cl : Cl K F μ H Qd Q) {ds : List D} {vs : List V} (r : Reps K F ds vs) (q : Qd (.tup ds) μ) {p : Addr} (hp : H p = none) : Q (.ref p) (upd H p (.tup vs)) :=
  cl (upd F p (.tup vs)) _ μ _ _ (ok.stpFrozen hp) (ok.frozen hp) (rep_tup.mpr ⟨p, vs, rfl, SqT.of upd_same, r.mono (same_upd (ok.freeF hp))⟩) q
theorem cl_lst {K : PySem.W.Frag} {F : Hp} {μ : MS} {H : Hp} {Qd : DK} {Q : VK} (ok : Ok K F μ H) (cl : Cl K F μ H Qd Q) {ds : List D} {vs : List V} (r : Reps K F ds vs) (q : Qd (.lst ds) μ) {p : Addr} (hp : H p = none) : Q (.ref p) (upd H p (.lst vs)) :=
  cl (upd F p (.lst vs)) _ μ _ _ (ok.stpFrozen hp) (ok.frozen hp) (rep_lst.mpr ⟨p, vs, rfl, upd_same, r.mono (same_upd (ok.freeF hp))⟩) q
theorem cl_lstM {K : PySem.W.Frag} {F : Hp} {μ : MS} {H : Hp} {Qd : DK} {Q : VK} (ok : Ok K F μ H) (cl : Cl K F μ H Qd Q) {ds : List D} {vs : List V} (r : Reps K F ds vs) (q : ∀ a, μ a = none → Qd (.ref a) (mset μ a (some (.lst ds)))) {p : Addr} (hp : H p = none) : Q (.ref p) (upd H p (.lst vs)) :=
  cl F _ _ _ _ (stpNew hp) (ok.put (ok.freeF hp) (fun u e => by rw [hp] at e; cases e) r) (rep_ref.mpr rfl) (q p (ok.freeM hp))
theorem do_add : DOp X (binaryOp .Add) kAdd := by
  intro pins s σ H v w vv ww Q I rv rw' ⟨F, μ, x, y, Qd, ok, rx, ry, hk, cl⟩
  unfold kAdd at hk
  split at hk
  · obtain rfl := rep_int.mp rx
    obtain rfl := rep_int.mp ry
    exact op_add pins s σ H _ _ vv ww Q I rv rw' ⟨_, _, rfl, rfl, cl F _ μ _ H (Stp.refl) ok (rep_int.mpr rfl) hk⟩
  · obtain rfl := rep_str.mp rx
    obtain rfl := rep_str.mp ry
    exact op_add_str pins s σ H _ _ vv ww Q I rv rw' ⟨_, _, rfl, rfl, hk.1, cl F _ μ _ H (Stp.refl) ok (rep_str.mpr rfl) hk.2⟩
  · obtain ⟨a, vs, rfl, h1, h2⟩ := rep_tup.mp rx
    obtain ⟨b, ws, rfl, h3, h4⟩ := rep_tup.mp ry
    have l1 := h2.length
    have l2 := h4.length
    refine op_catA pins s σ H _ _ vv ww Q I rv rw' ⟨a, b, vs, ws, rfl, rfl, ok.sqT h1, ok.sqT h3, by omega, fun e => ?_, fun _ e => ?_, fun _ _ p hp => cl_tup ok cl (h2.append h4) hk.2 hp⟩
    · subst e
      rename_i ss tt
      have : ss = [] := List.eq_nil_of_length_eq_zero l1
      subst this
      exact cl F _ μ _ H (Stp.refl) ok (rep_tup.mpr ⟨b, ws, rfl, h3, h4⟩) hk.2
    · subst e
      rename_i ss tt _
      have : tt = [] := List.eq_nil_of_length_eq_zero l2
      subst this
      exact cl F _ μ _ H (Stp.refl) ok (rep_tup.mpr ⟨a, vs, rfl, h1, h2⟩) (by simpa using hk.2)
  · split at hk
    · rename_i ss tt e1 e2
      obtain ⟨a, vs, rfl, h1, h2⟩ := asL_rep ok rx e1
      obtain ⟨b, ws, rfl, h3, h4⟩ := asL_rep ok ry e2
      have l1 := h2.length
      have l2 := h4.length
      exact op_cat pins s σ H _ _ vv ww Q I rv rw' ⟨a, b, vs, ws, rfl, rfl, h1, h3, by omega, fun p hp => cl_lst ok cl (h2.append h4) hk.2 hp⟩
    · exact hk.elim
/-- list + list, the new one to be changed -/
def kAddM : KD := fun x y μ Q => match asL μ x, asL μ y with
  | some s, some t => s.length + t.length ≤ sizeLine ∧ ∀ a, μ a = none → Q (.ref a) (mset μ a (some (.lst (s ++ t))))
  | _, _ => False
theorem do_addM : DOp X (binaryOp .Add) kAddM := by
  intro pins s σ H v w vv ww Q I rv rw' ⟨F, μ, x, y, Qd, ok, rx, ry, hk, cl⟩
  unfold kAddM at hk
  split at hk
  · rename_i ss tt e1 e2
    obtain ⟨a, vs, rfl, h1, h2⟩ := asL_rep ok rx e1
    obtain ⟨b, ws, rfl, h3, h4⟩ := asL_rep ok ry e2
    have l1 := h2.length
    have l2 := h4.length
    exact op_cat pins s σ H _ _ vv ww Q I rv rw' ⟨a, b, vs, ws, rfl, rfl, h1, h3, by omega, fun p hp => cl_lstM ok cl (h2.append h4) hk.2 hp⟩
  · exact hk.elim
def kSub : KD := fun x y μ Q => match x, y with
  | .int i, .int j => Q (.int (i - j)) μ
  | _, _ => False
theorem do_sub : DOp X (binaryOp .Sub) kSub := by
  intro pins s σ H v w vv ww Q I rv rw' ⟨F, μ, x, y, Qd, ok, rx, ry, hk, cl⟩
  unfold kSub at hk
  split at hk
  · obtain rfl := rep_int.mp rx
    obtain rfl := rep_int.mp ry
    exact op_sub pins s σ H _ _ vv ww Q I rv rw' ⟨_, _, rfl, rfl, cl F _ μ _ H (Stp.refl) ok (rep_int.mpr rfl) hk⟩
  · exact hk.elim
/-- a product that the model carries out -/
def MulOk (i j : Int) : Prop := CMul i j ∨ CMulW i j
def kMul : KD := fun x y μ Q => match x, y with
  | .int i, .int j => MulOk i j ∧ Q (.int (i * j)) μ
  | _, _ => False
theorem do_mul : DOp X (binaryOp .Mult) kMul := by
  intro pins s σ H v w vv ww Q I rv rw' ⟨F, μ, x, y, Qd, ok, rx, ry, hk, cl⟩
  unfold kMul at hk
  split at hk
  · obtain rfl := rep_int.mp rx
    obtain rfl := rep_int.mp ry
    have q := cl F _ μ _ H (Stp.refl) ok (rep_int.mpr rfl) hk.2
    rcases hk.1 with h | h
    · exact op_mul pins s σ H _ _ vv ww Q I rv rw' ⟨_, _, rfl, rfl, h, q⟩
    · exact op_mulW pins s σ H _ _ vv ww Q I rv rw' ⟨_, _, rfl, rfl, h, q⟩
  · exact hk.elim
/-- a positive divisor -/
def DivOk (j : Int) : Prop := 0 < j ∧ j.natAbs.log2 < 9000
def kDiv : KD := fun x y μ Q => match x, y with
  | .int i, .int j => DivOk j ∧ Q (.int (i / j)) μ
  | _, _ => False
theorem do_div : DOp X (binaryOp .FloorDiv) kDiv := by
  intro pins s σ H v w vv ww Q I rv rw' ⟨F, μ, x, y, Qd, ok, rx, ry, hk, cl⟩
  unfold kDiv at hk
  split at hk
  · obtain rfl := rep_int.mp rx
    obtain rfl := rep_int.mp ry
    exact op_fdivW pins s σ H _ _ vv ww Q I rv rw' ⟨_, _, rfl, rfl, hk.1, cl F _ μ _ H (Stp.refl) ok (rep_int.mpr rfl) hk.2⟩
  · exact hk.elim
def kMod : KD := fun x y μ Q => match x, y with
  | .int i, .int j => 0 < j ∧ Q (.int (i % j)) μ
  | _, _ => False
theorem do_mod : DOp X (binaryOp .Mod) kMod := by
  intro pins s σ H v w vv ww Q I rv rw' ⟨F, μ, x, y, Qd, ok, rx, ry, hk, cl⟩
  unfold kMod at hk
  split at hk
  · obtain rfl := rep_int.mp rx
    obtain rfl := rep_int.mp ry
    exact op_mod pins s σ H _ _ vv ww Q I rv rw' ⟨_, _, rfl, rfl, hk.1, cl F _ μ _ H (Stp.refl) ok (rep_int.mpr rfl) hk.2⟩
  · exact hk.elim
def kNeg (x : D) (μ : MS) (Q : DK) : Prop := match x with
  | .int i => Q (.int (-i)) μ
  | _ => False
def dNeg (te : DTE) : DTE := fun ρ μ Q => te ρ μ fun x μ1 => kNeg x μ1 Q
theorem de_neg {B : Ent} {a : Expr} {ta : DTE} {pos : Pos} (ha : DE X B a ta) : DE X B (.UnaryOp .USub a pos) (dNeg ta) := PE.by (pe_un un_neg ha) fun σ H Q ⟨F, ρ, μ, Qd, sB, ok, rs, t, cl⟩ => by
  refine ⟨F, ρ, μ, _, sB, ok, rs, t, fun F1 x μ1 v H1 s1 ok1 rx t1 => ?_⟩
  unfold kNeg at t1
  split at t1
  · exact ⟨_, rep_int.mp rx, cl F1 _ μ1 _ H1 s1 ok1 (rep_int.mpr rfl) t1⟩
  · exact t1.elim
def kPow : KD := fun x y μ Q => match x, y with
  | .int i, .int j => CPow i j ∧ Q (.int (i ^ j.toNat)) μ
  | _, _ => False
theorem do_pow : DOp X (binaryOp .Pow) kPow := by
  intro pins s σ H v w vv ww Q I rv rw' ⟨F, μ, x, y, Qd, ok, rx, ry, hk, cl⟩
  unfold kPow at hk
  split at hk
  · obtain rfl := rep_int.mp rx
    obtain rfl := rep_int.mp ry
    exact op_pow pins s σ H _ _ vv ww Q I rv rw' ⟨_, _, rfl, rfl, hk.1, cl F _ μ _ H (Stp.refl) ok (rep_int.mpr rfl) hk.2⟩
  · exact hk.elim

/-! ### comparisons -/
abbrev okEq (x y : D) : Prop := x.lay = true ∧ y.lay = true ∧ (x.dep ≤ 64 ∧ y.dep ≤ 64)
def kEq : KD := fun x y μ Q => okEq x y ∧ Q (.bl (deq x y)) μ
def kNe : KD := fun x y μ Q => okEq x y ∧ Q (.bl (!deq x y)) μ
theorem shaped_of {d : D} (h : d.lay = true) (h2 : d.dep ≤ 64) : SeqAt.shaped d.py = true := by
  show (d.py.canLay0 && decide (d.py.depth ≤ 64)) = true
  rw [Bool.and_eq_true, py_lay]
  exact ⟨h, decide_eq_true (by rw [py_dep d h]; exact h2)⟩
theorem do_eq (hu : X.A.units + 65 < cLine) : DOp X (compareOp .Eq) kEq := by
  have hu : X.A.units + 64 < cLine := by omega
  intro pins s σ H v w vv ww Q I rv rw' ⟨F, μ, x, y, Qd, ok, rx, ry, ⟨⟨h1, h2, h3, h4⟩, hk⟩, cl⟩
  refine op_eqD hu pins s σ H v w vv ww Q I rv rw' ⟨x.py, y.py, rep_dp ok.sub h1 rx, rep_dp ok.sub h2 ry, shaped_of h1 h3, shaped_of h2 h4, ?_⟩
  rw [deq_py x y h1 h2]
  exact cl F _ μ _ H (Stp.refl) ok (rep_bl.mpr rfl) hk
theorem do_ne (hu : X.A.units + 65 < cLine) : DOp X (compareOp .NotEq) kNe := by
  have hu : X.A.units + 64 < cLine := by omega
  intro pins s σ H v w vv ww Q I rv rw' ⟨F, μ, x, y, Qd, ok, rx, ry, ⟨⟨h1, h2, h3, h4⟩, hk⟩, cl⟩
  refine op_neD hu pins s σ H v w vv ww Q I rv rw' ⟨x.py, y.py, rep_dp ok.sub h1 rx, rep_dp ok.sub h2 ry, shaped_of h1 h3, shaped_of h2 h4, ?_⟩
  rw [deq_py x y h1 h2]
  exact cl F _ μ _ H (Stp.refl) ok (rep_bl.mpr rfl) hk
def kCmp (f : Int → Int → Bool) : KD := fun x y μ Q => match x, y with
  | .int i, .int j => Q (.bl (f i j)) μ
  | _, _ => False
theorem do_cmp {op : CmpOp} {f : Int → Int → Bool} (h : OpR X (compareOp op) (rI0 fun i j => .bl (f i j))) : DOp X (compareOp op) (kCmp f) := by
  intro pins s σ H v w vv ww Q I rv rw' ⟨F, μ, x, y, Qd, ok, rx, ry, hk, cl⟩
  unfold kCmp at hk
  split at hk
  · obtain rfl := rep_int.mp rx
    obtain rfl := rep_int.mp ry
    exact h pins s σ H _ _ vv ww Q I rv rw' ⟨_, _, rfl, rfl, cl F _ μ _ H (Stp.refl) ok (rep_bl.mpr rfl) hk⟩
  · exact hk.elim
abbrev kLt : KD := kCmp fun i j => decide (i < j)
abbrev kLe : KD := kCmp fun i j => decide (i ≤ j)
abbrev kGt : KD := kCmp fun i j => decide (j < i)
abbrev kGe : KD := kCmp fun i j => decide (j ≤ i)
theorem do_lt : DOp X (compareOp .Lt) kLt := do_cmp op_lt
theorem do_le : DOp X (compareOp .LtE) kLe := do_cmp op_le
theorem do_gt : DOp X (compareOp .Gt) kGt := do_cmp op_gt
theorem do_ge : DOp X (compareOp .GtE) kGe := do_cmp op_ge
/-- is None, is a bool -/
def isNon : D → Bool
  | .non => true
  | _ => false
def kIs : KD := fun x y μ Q => match y with
  | .non => Q (.bl (isNon x)) μ
  | _ => False
def kIsNot : KD := fun x y μ Q => match y with
  | .non => Q (.bl (!isNon x)) μ
  | _ => False
theorem isNon_rep {K : PySem.W.Frag} {F : Hp} {x : D} {v : V} (r : Rep K F x v) : decide (v = V.non) = isNon x := by
  cases x with
  | non => rw [rep_non.mp r]; rfl
  | bl b => rw [rep_bl.mp r]; rfl
  | int i => rw [rep_int.mp r]; rfl
  | str i => rw [rep_str.mp r]; rfl
  | ref i => rw [rep_ref.mp r]; rfl
  | ty i => rw [rep_ty.mp r]; rfl
  | tup ds => obtain ⟨a, _, rfl, _⟩ := rep_tup.mp r; rfl
  | lst ds => obtain ⟨a, _, rfl, _⟩ := rep_lst.mp r; rfl
  | scr ds => obtain ⟨a, rfl, _⟩ := rep_scr.mp r; rfl
theorem do_is : DOp X (compareOp .Is) kIs := by
  intro pins s σ H v w vv ww Q I rv rw' ⟨F, μ, x, y, Qd, ok, rx, ry, hk, cl⟩
  unfold kIs at hk
  split at hk
  · obtain rfl := rep_non.mp ry
    exact op_isN pins s σ H _ _ vv ww Q I rv rw' ⟨rfl, by rw [isNon_rep rx]; exact cl F _ μ _ H (Stp.refl) ok (rep_bl.mpr rfl) hk⟩
  · exact hk.elim
theorem do_isNot : DOp X (compareOp .IsNot) kIsNot := by
  intro pins s σ H v w vv ww Q I rv rw' ⟨F, μ, x, y, Qd, ok, rx, ry, hk, cl⟩
  unfold kIsNot at hk
  split at hk
  · obtain rfl := rep_non.mp ry
    exact op_notN pins s σ H _ _ vv ww Q I rv rw' ⟨rfl, by rw [isNon_rep rx]; exact cl F _ μ _ H (Stp.refl) ok (rep_bl.mpr rfl) hk⟩
  · exact hk.elim
end

/-! ### comparisons as values, as tests -/
def dTest (t : DTE) : DTT := fun ρ μ Q => t ρ μ fun d μ1 => match d with
  | .bl b => Q b μ1
  | _ => False
section
variable {X : Cx} {B : Ent} {a b c : Expr} {ta tb tc : DTE} {pos : Pos} {op op' : CmpOp} {k k' : KD}
theorem lt_test {t : TE} {td : DTE} (h : ∀ σ H Q, LE X.K B td σ H Q → t σ H Q) {σ : L2.St} {H : Hp} {Q : Bool → Hp → Prop} (q : LT X.K B (dTest td) σ H Q) : tTest t σ H Q := by
  obtain ⟨F, ρ, μ, Qd, sB, ok, rs, t, cl⟩ := q
  refine h σ H _ ⟨F, ρ, μ, _, sB, ok, rs, t, fun F1 d μ1 v H1 s1 ok1 rd t1 => ?_⟩
  cases d with
  | bl b => exact ⟨b, rep_bl.mp rd, cl F1 b μ1 H1 s1 ok1 t1⟩
  | _ => exact t1.elim
theorem de_cmp (ho : DOp X (compareOp op) k) (ha : DE X B a ta) (hb : DE X B b tb) (hm : behindInMarks op b = false) : DE X B (.Compare a [op] [b] pos) (dBin k ta tb) := PE.by (pe_cmpR ho ha hb hm) fun _ _ _ => le_bin
theorem dt_cmp (ho : DOp X (compareOp op) k) (ha : DE X B a ta) (hb : DE X B b tb) (hm : behindInMarks op b = false) : DT X B (.Compare a [op] [b] pos) (dTest (dBin k ta tb)) := PT.by (pt_cmpR ho ha hb hm) fun _ _ _ => lt_test fun _ _ _ => le_bin
theorem dt_val {e : Expr} {t : DTE} (h : DE X B e t) (he : ∀ whole, isTrue e X.env whole = (do let v ← whole; standAt e.pos; holding [v] (truthy v)) := by intro _; rfl) : DT X B e (dTest t) :=
  PT.by (pt_val h he) fun σ H Q q => lt_test (fun _ _ _ z => z) q
/-- a < b < c -/
def dChain (k k' : KD) (ta tb tc : DTE) : DTE := fun ρ μ Q => ta ρ μ fun x μ1 => tb ρ μ1 fun y μ2 => k x y μ2 fun z μ3 => match z with
  | .bl b => bcase b (tc ρ μ3 fun w μ4 => k' y w μ4 Q) (Q (.bl false) μ3)
  | _ => False

/-! ### and, or, not, if else -/
def dAnd (t u : DTT) : DTT := fun ρ μ Q => t ρ μ fun b μ1 => bcase b (u ρ μ1 Q) (Q false μ1)
def dOr (t u : DTT) : DTT := fun ρ μ Q => t ρ μ fun b μ1 => bcase b (Q true μ1) (u ρ μ1 Q)
def dNot (t : DTT) : DTT := fun ρ μ Q => t ρ μ fun b μ1 => Q (!b) μ1
variable {rest : List Expr} {tA tB : DTT}
theorem dw_and1 (ha : DT X B a tA) : DW X B (.BoolOp .And [a] pos) tA := pw_and1 ha
theorem dw_or1 (ha : DT X B a tA) : DW X B (.BoolOp .Or [a] pos) tA := pw_or1 ha
theorem dw_and (ha : DT X B a tA) (hb : DW X B (.BoolOp .And (b :: rest) pos) tB) : DW X B (.BoolOp .And (a :: b :: rest) pos) (dAnd tA tB) := PW.by (pw_and ha hb) fun σ H Q ⟨F, ρ, μ, Qd, sB, ok, rs, t, cl⟩ => by
  refine ⟨F, ρ, μ, _, sB, ok, rs, t, fun F1 b μ1 H1 s1 ok1 t1 => ?_⟩
  cases b with
  | true => rw [if_pos rfl]; exact ⟨F1, ρ, μ1, Qd, sB.trans s1, ok1, rs.mono s1.s, t1, fun F2 c μ2 H2 s2 => cl F2 c μ2 H2 (s1.trans s2)⟩
  | false => rw [if_neg Bool.false_ne_true]; exact cl F1 false μ1 H1 s1 ok1 t1
theorem dw_or (ha : DT X B a tA) (hb : DW X B (.BoolOp .Or (b :: rest) pos) tB) : DW X B (.BoolOp .Or (a :: b :: rest) pos) (dOr tA tB) := PW.by (pw_or ha hb) fun σ H Q ⟨F, ρ, μ, Qd, sB, ok, rs, t, cl⟩ => by
  refine ⟨F, ρ, μ, _, sB, ok, rs, t, fun F1 b μ1 H1 s1 ok1 t1 => ?_⟩
  cases b with
  | true => rw [if_pos rfl]; exact cl F1 true μ1 H1 s1 ok1 t1
  | false => rw [if_neg Bool.false_ne_true]; exact ⟨F1, ρ, μ1, Qd, sB.trans s1, ok1, rs.mono s1.s, t1, fun F2 c μ2 H2 s2 => cl F2 c μ2 H2 (s1.trans s2)⟩
theorem dt_not (ha : DT X B a tA) : DT X B (.UnaryOp .Not a pos) (dNot tA) := PT.by (pt_not ha) fun σ H Q ⟨F, ρ, μ, Qd, sB, ok, rs, t, cl⟩ =>
  ⟨F, ρ, μ, _, sB, ok, rs, t, fun F1 b μ1 H1 s1 ok1 t1 => cl F1 (!b) μ1 H1 s1 ok1 t1⟩
/-- as values: all but the last True or False -/
def dAndV (ta tb : DTE) : DTE := fun ρ μ Q => ta ρ μ fun d μ1 => match d with
  | .bl b => bcase b (tb ρ μ1 Q) (Q (.bl false) μ1)
  | _ => False
def dOrV (ta tb : DTE) : DTE := fun ρ μ Q => ta ρ μ fun d μ1 => match d with
  | .bl b => bcase b (Q (.bl true) μ1) (tb ρ μ1 Q)
  | _ => False
def dNotV (ta : DTE) : DTE := fun ρ μ Q => ta ρ μ fun d μ1 => match d with
  | .bl b => Q (.bl (!b)) μ1
  | _ => False
theorem de_one {bop} {t : DTE} (h : DE X B a t) : DE X B (.BoolOp bop [a] pos) t := pe_one h
theorem de_and (ha : DE X B a ta) (hb : DE X B (.BoolOp .And (b :: rest) pos) tb) : DE X B (.BoolOp .And (a :: b :: rest) pos) (dAndV ta tb) := PE.by (pe_and ha hb) fun σ H Q ⟨F, ρ, μ, Qd, sB, ok, rs, t, cl⟩ => by
  refine ⟨F, ρ, μ, _, sB, ok, rs, t, fun F1 d μ1 v H1 s1 ok1 rd t1 => ?_⟩
  split at t1
  · rename_i b
    cases b with
    | true => exact ⟨true, rep_bl.mp rd, by rw [if_pos rfl]; exact ⟨F1, ρ, μ1, Qd, sB.trans s1, ok1, rs.mono s1.s, t1, cl.mono s1⟩⟩
    | false => exact ⟨false, rep_bl.mp rd, by rw [if_neg Bool.false_ne_true]; exact cl F1 _ μ1 _ H1 s1 ok1 (rep_bl.mpr rfl) t1⟩
  · exact t1.elim
theorem de_or (ha : DE X B a ta) (hb : DE X B (.BoolOp .Or (b :: rest) pos) tb) : DE X B (.BoolOp .Or (a :: b :: rest) pos) (dOrV ta tb) := PE.by (pe_or ha hb) fun σ H Q ⟨F, ρ, μ, Qd, sB, ok, rs, t, cl⟩ => by
  refine ⟨F, ρ, μ, _, sB, ok, rs, t, fun F1 d μ1 v H1 s1 ok1 rd t1 => ?_⟩
  split at t1
  · rename_i b
    cases b with
    | true => exact ⟨true, rep_bl.mp rd, by rw [if_pos rfl]; exact cl F1 _ μ1 _ H1 s1 ok1 (rep_bl.mpr rfl) t1⟩
    | false => exact ⟨false, rep_bl.mp rd, by rw [if_neg Bool.false_ne_true]; exact ⟨F1, ρ, μ1, Qd, sB.trans s1, ok1, rs.mono s1.s, t1, cl.mono s1⟩⟩
  · exact t1.elim
theorem de_not (ha : DE X B a ta) : DE X B (.UnaryOp .Not a pos) (dNotV ta) := PE.by (pe_not ha) fun σ H Q ⟨F, ρ, μ, Qd, sB, ok, rs, t, cl⟩ => by
  refine ⟨F, ρ, μ, _, sB, ok, rs, t, fun F1 d μ1 v H1 s1 ok1 rd t1 => ?_⟩
  split at t1
  · rename_i b
    exact ⟨b, rep_bl.mp rd, cl F1 _ μ1 _ H1 s1 ok1 (rep_bl.mpr rfl) t1⟩
  · exact t1.elim
def dIf (t : DTT) (ta tb : DTE) : DTE := fun ρ μ Q => t ρ μ fun b μ1 => bcase b (ta ρ μ1 Q) (tb ρ μ1 Q)
theorem de_ifExp (hc : DT X B c tA) (ha : DE X B a ta) (hb : DE X B b tb) : DE X B (.IfExp c a b pos) (dIf tA ta tb) := PE.by (pe_ifExp hc ha hb) fun σ H Q ⟨F, ρ, μ, Qd, sB, ok, rs, t, cl⟩ => by
  refine ⟨F, ρ, μ, _, sB, ok, rs, t, fun F1 b μ1 H1 s1 ok1 t1 => ?_⟩
  cases b with
  | true => rw [if_pos rfl]; exact ⟨F1, ρ, μ1, Qd, sB.trans s1, ok1, rs.mono s1.s, t1, cl.mono s1⟩
  | false => rw [if_neg Bool.false_ne_true]; exact ⟨F1, ρ, μ1, Qd, sB.trans s1, ok1, rs.mono s1.s, t1, cl.mono s1⟩
end
end Li

set_option Elab.async false
set_option linter.all false
set_option maxRecDepth 100000
set_option maxHeartbeats 1000000
/-! Subscripts, displays, calls of built-ins, statements, loops, comprehensions over data. -/
namespace Li
open PySem PySem.Spec PyProof.Rows L2
variable [Tbl]

section
variable {X : Cx} {B : Ent} {a b c : Expr} {ta tb tc : DTE} {pos : Pos} {op op' : CmpOp} {k k' : KD}
theorem le_chain {K : PySem.W.Frag} {B : Ent} {σ : L2.St} {H : Hp} {Q : VK} (h : LE K B (dChain k k' ta tb tc) σ H Q) : tChain (L2R K k) (L2R K k') (LE K B ta) (LE K B tb) (LE K B tc) σ H Q := by
  obtain ⟨F, ρ, μ, Qd, sB, ok, rs, t, cl⟩ := h
  refine ⟨F, ρ, μ, _, sB, ok, rs, t, fun F1 x μ1 v H1 s1 ok1 rx t1 => ?_⟩
  refine ⟨F1, ρ, μ1, _, sB.trans s1, ok1, rs.mono s1.s, t1, fun F2 y μ2 w H2 s2 ok2 ry t2 => ?_⟩
  refine ⟨F2, μ2, x, y, _, ok2, rx.mono s2.s, ry, t2, fun F3 z μ3 zv H3 s3 ok3 rz t3 => ?_⟩
  split at t3
  · rename_i b
    cases b with
    | false =>
      refine ⟨false, rep_bl.mp rz, ?_⟩
      rw [if_neg Bool.false_ne_true]
      exact cl F3 _ μ3 _ H3 ((s1.trans s2).trans s3) ok3 (rep_bl.mpr rfl) t3
    | true =>
    refine ⟨true, rep_bl.mp rz, ?_⟩
    rw [if_pos rfl]
    refine ⟨F3, ρ, μ3, _, (sB.trans (s1.trans s2)).trans s3, ok3, rs.mono ((s1.trans s2).trans s3).s, t3, fun F4 w' μ4 wv H4 s4 ok4 rw' t4 => ?_⟩
    exact ⟨F4, μ4, y, w', Qd, ok4, ry.mono (s3.trans s4).s, rw', t4, cl.mono ((s1.trans s2).trans (s3.trans s4))⟩
  · exact t3.elim
theorem de_chain (ho : DOp X (compareOp op) k) (ho' : DOp X (compareOp op') k') (ha : DE X B a ta) (hb : DE X B b tb) (hc : DE X B c tc) (hm : lastMarks [op, op'] [b, c] = false := by with_unfolding_all rfl) :
    DE X B (.Compare a [op, op'] [b, c] pos) (dChain k k' ta tb tc) := PE.by (pe_chain ho ho' ha hb hc hm) fun _ _ _ => le_chain
theorem dt_chain (ho : DOp X (compareOp op) k) (ho' : DOp X (compareOp op') k') (ha : DE X B a ta) (hb : DE X B b tb) (hc : DE X B c tc) (hm : lastMarks [op, op'] [b, c] = false := by with_unfolding_all rfl) :
    DT X B (.Compare a [op, op'] [b, c] pos) (dTest (dChain k k' ta tb tc)) := PT.by (pt_chain ho ho' ha hb hc hm) fun _ _ _ => lt_test fun _ _ _ => le_chain
end

/-! ### x[i] -/
def getK (o : Option D) (k : D → Prop) : Prop := match o with
  | some d => k d
  | none => False
def kIx : KD := fun x y μ Q => match x, y with
  | .tup ds, .int i => getK (atI ds i) fun d => Q d μ
  | .lst ds, .int i => getK (atI ds i) fun d => Q d μ
  | .str z, .int i => z.length ≤ sizeLine ∧ getK ((atI z.cps.toList i).map fun c => .str ⟨#[c]⟩) fun d => Q d μ
  | .scr ns, .int i => getK ((atI ns i).map D.int) fun d => Q d μ
  | .ref a, .int i => refL (μ a) fun ds => getK (atI ds i) fun d => Q d μ
  | _, _ => False
theorem getK_of {o : Option D} {k : D → Prop} (h : getK o k) : ∃ d, o = some d ∧ k d := by
  cases o with
  | none => exact h.elim
  | some d => exact ⟨d, rfl, h⟩
theorem getK_some {o : Option D} {d : D} {k : D → Prop} (h : o = some d) (q : k d) : getK o k := by subst h; exact q
theorem reps_atI {K : PySem.W.Frag} {F : Hp} {ds : List D} {vs : List V} {i : Int} {d : D} (r : Reps K F ds vs) (h : atI ds i = some d) : ∃ v, atI vs i = some v ∧ Rep K F d v := by
  unfold atI at h ⊢
  rw [← r.length]
  cases e : ixN ds.length i with
  | none => rw [e] at h; cases h
  | some j =>
    rw [e] at h
    exact r.get h
theorem atI_map {α β : Type} (f : α → β) {xs : List α} {i : Int} : atI (xs.map f) i = (atI xs i).map f := by
  unfold atI
  rw [List.length_map]
  cases ixN xs.length i with
  | none => rfl
  | some j => simp
section
variable {X : Cx} {B : Ent} {a b c e : Expr} {ta tb tc te : DTE} {pos : Pos}
theorem ix_all : IxR X (L2R X.K kIx) := by
  intro value slice pins s σ H v w vv ww Q I rv rw' ⟨F, μ, x, y, Qd, ok, rx, ry, hk, cl⟩ hs
  unfold kIx at hk
  split at hk
  · obtain ⟨p, vs, rfl, h1, h2⟩ := rep_tup.mp rx
    obtain rfl := rep_int.mp ry
    obtain ⟨d, e, q⟩ := getK_of hk
    obtain ⟨v, e', r⟩ := reps_atI h2 e
    exact ix_tup value slice pins s σ H _ _ vv ww Q I rv rw' ⟨p, vs, _, v, rfl, rfl, ok.sqT h1, e', cl F d μ v H (Stp.refl) ok r q⟩ hs
  · obtain ⟨p, vs, rfl, h1, h2⟩ := rep_lst.mp rx
    obtain rfl := rep_int.mp ry
    obtain ⟨d, e, q⟩ := getK_of hk
    obtain ⟨v, e', r⟩ := reps_atI h2 e
    exact ix_list value slice pins s σ H _ _ vv ww Q I rv rw' ⟨p, vs, _, v, rfl, rfl, SqL.of (ok.sub _ _ h1), e', cl F d μ v H (Stp.refl) ok r q⟩ hs
  · obtain rfl := rep_str.mp rx
    obtain rfl := rep_int.mp ry
    obtain ⟨hz, hk⟩ := hk
    obtain ⟨d, e, q⟩ := getK_of hk
    cases e2 : atI (Str.cps _).toList _ with
    | none => rw [e2] at e; cases e
    | some c =>
      rw [e2] at e; cases e
      exact ix_str value slice pins s σ H _ _ vv ww Q I rv rw' ⟨_, _, c, rfl, rfl, hz, e2, cl F _ μ _ H (Stp.refl) ok (rep_str.mpr rfl) q⟩ hs
  · obtain ⟨p, rfl, h1⟩ := rep_scr.mp rx
    obtain rfl := rep_int.mp ry
    obtain ⟨d, e, q⟩ := getK_of hk
    rename_i ns i
    cases e2 : atI ns i with
    | none => rw [e2] at e; cases e
    | some c =>
      rw [e2] at e; cases e
      exact ix_list value slice pins s σ H _ _ vv ww Q I rv rw' ⟨p, _, _, V.int c, rfl, rfl, ok.sub.seq h1, by rw [atI_map, e2]; rfl, cl F _ μ _ H (Stp.refl) ok (rep_int.mpr rfl) q⟩ hs
  · obtain rfl := rep_ref.mp rx
    obtain rfl := rep_int.mp ry
    obtain ⟨ds, em, hk⟩ := refL_elim hk
    obtain ⟨_, vs, h1, h2⟩ := ok.lst _ ds em
    obtain ⟨d, e, q⟩ := getK_of hk
    obtain ⟨v, e', r⟩ := reps_atI h2 e
    exact ix_list value slice pins s σ H _ _ vv ww Q I rv rw' ⟨_, vs, _, v, rfl, rfl, SqL.of h1, e', cl F d μ v H (Stp.refl) ok r q⟩ hs
  · exact hk.elim
theorem de_ix (ha : DE X B a ta) (hb : DE X B b tb) (hs : PlainIx b := by intro _ _; rfl) : DE X B (.Subscript a b pos) (dBin kIx ta tb) := PE.by (pe_ix ix_all ha hb hs) fun _ _ _ => le_bin

/-! ### x[lo:hi] -/
abbrev DTO := DSt → MS → (Option Int → MS → Prop) → Prop
def LO (K : PySem.W.Frag) (B : Ent) (t : DTO) : TO := fun σ H Q => ∃ F ρ μ Qd, B.to F μ H ∧ Ok K F μ H ∧ RelS K F ρ σ ∧ t ρ μ Qd ∧ ∀ F' o μ' H', Stp F μ H F' μ' H' → Ok K F' μ' H' → Qd o μ' → Q o H'
abbrev DO (X : Cx) (B : Ent) (e : Option Expr) (t : DTO) : Prop := PO X e (LO X.K B t)
def dNoPart : DTO := fun _ μ Q => Q none μ
def dPart (t : DTE) : DTO := fun ρ μ Q => t ρ μ fun d μ1 => match d with
  | .int i => Q (some i) μ1
  | _ => False
theorem PO.by {e : Option Expr} {t u : TO} (h : PO X e t) (i : ∀ σ H Q, u σ H Q → t σ H Q) : PO X e u := ⟨fun pins s σ H Q I q => h.run pins s σ H Q I (i σ H Q q)⟩
theorem do_none : DO X B none dNoPart := PO.by po_none fun σ H Q ⟨F, ρ, μ, Qd, sB, ok, rs, t, cl⟩ => cl F none μ H (Stp.refl) ok t
theorem do_some (h : DE X B e te) : DO X B (some e) (dPart te) := PO.by (po_some h) fun σ H Q ⟨F, ρ, μ, Qd, sB, ok, rs, t, cl⟩ => by
  refine ⟨F, ρ, μ, _, sB, ok, rs, t, fun F1 d μ1 v H1 s1 ok1 rd t1 => ?_⟩
  split at t1
  · rename_i i
    exact ⟨i, rep_int.mp rd, cl F1 _ μ1 H1 s1 ok1 t1⟩
  · exact t1.elim
def cut {α : Type} (xs : List α) (lo hi : Option Int) : List α := (xs.drop (HT.sIx xs.length 0 lo)).take (HT.sIx xs.length xs.length hi - HT.sIx xs.length 0 lo)
def kSl (x : D) (lo hi : Option Int) (μ : MS) (Q : DK) : Prop := match x with
  | .tup ds => Q (.tup (cut ds lo hi)) μ
  | .lst ds => Q (.lst (cut ds lo hi)) μ
  | .str z => z.length ≤ sizeLine ∧ Q (.str (cutS z lo hi)) μ
  | .ref a => refL (μ a) fun ds => Q (.lst (cut ds lo hi)) μ
  | _ => False
theorem reps_cut {K : PySem.W.Frag} {F : Hp} {ds : List D} {vs : List V} {lo hi : Option Int} (r : Reps K F ds vs) : Reps K F (cut ds lo hi) (cutV vs lo hi) := by
  unfold cut cutV
  rw [← r.length]
  exact (r.drop _).take _
def dSl (te : DTE) (tl th : DTO) : DTE := fun ρ μ Q => te ρ μ fun x μ1 => tl ρ μ1 fun lo μ2 => th ρ μ2 fun hi μ3 => kSl x lo hi μ3 Q
theorem cut_all {ds : List D} {lo hi : Option Int} (h : HT.sIx ds.length 0 lo = 0 ∧ HT.sIx ds.length ds.length hi = ds.length) : cut ds lo hi = ds := by
  unfold cut
  rw [h.1, h.2]; simp
theorem sl_all : SlR X (fun v lo hi H Q => ∃ F μ x Qd, Ok X.K F μ H ∧ Rep X.K F x v ∧ kSl x lo hi μ Qd ∧ Cl X.K F μ H Qd Q) := by
  intro pins s σ H v vv vl vu lo hi sl Q I rv hs pl pu ⟨F, μ, x, Qd, ok, rx, hk, cl⟩
  unfold kSl at hk
  split at hk
  · obtain ⟨p, vs, rfl, h1, h2⟩ := rep_tup.mp rx
    have hl := h2.length
    refine sl_tupA pins s σ H _ vv vl vu lo hi sl Q I rv hs pl pu ⟨p, vs, rfl, ok.sqT h1, fun z => ?_, fun _ q hq => cl_tup ok cl (reps_cut h2) hk hq⟩
    rw [← hl] at z
    rw [cut_all z] at hk
    exact cl F _ μ _ H (Stp.refl) ok (rep_tup.mpr ⟨p, vs, rfl, h1, h2⟩) hk
  · obtain ⟨p, vs, rfl, h1, h2⟩ := rep_lst.mp rx
    exact sl_list pins s σ H _ vv vl vu lo hi sl Q I rv hs pl pu ⟨p, vs, rfl, SqL.of (ok.sub _ _ h1), fun q hq => cl_lst ok cl (reps_cut h2) hk hq⟩
  · obtain rfl := rep_str.mp rx
    exact sl_str pins s σ H _ vv vl vu lo hi sl Q I rv hs pl pu ⟨_, rfl, hk.1, cl F _ μ _ H (Stp.refl) ok (rep_str.mpr rfl) hk.2⟩
  · obtain rfl := rep_ref.mp rx
    obtain ⟨ds, em, hk⟩ := refL_elim hk
    obtain ⟨_, vs, h1, h2⟩ := ok.lst _ ds em
    exact sl_list pins s σ H _ vv vl vu lo hi sl Q I rv hs pl pu ⟨_, vs, rfl, SqL.of h1, fun q hq => cl_lst ok cl (reps_cut h2) hk hq⟩
  · exact hk.elim
theorem de_slice {lo hi : Option Expr} {tl th : DTO} {p2 : Pos} (he : DE X B e te) (hl : DO X B lo tl) (hu : DO X B hi th) : DE X B (.Subscript e (.Slice lo hi none p2) pos) (dSl te tl th) := PE.by (pe_slice sl_all he hl hu) fun σ H Q ⟨F, ρ, μ, Qd, sB, ok, rs, t, cl⟩ => by
  refine ⟨F, ρ, μ, _, sB, ok, rs, t, fun F1 x μ1 v H1 s1 ok1 rx t1 => ?_⟩
  refine ⟨F1, ρ, μ1, _, sB.trans s1, ok1, rs.mono s1.s, t1, fun F2 l μ2 H2 s2 ok2 t2 => ?_⟩
  refine ⟨F2, ρ, μ2, _, (sB.trans s1).trans s2, ok2, rs.mono (s1.trans s2).s, t2, fun F3 u μ3 H3 s3 ok3 t3 => ?_⟩
  exact ⟨F3, μ3, x, Qd, ok3, rx.mono (s2.trans s3).s, t3, cl.mono ((s1.trans s2).trans s3)⟩
/-- xs[::-1], a list -/
def kRev (x : D) (μ : MS) (Q : DK) : Prop := match x with
  | .lst ds => Q (.lst ds.reverse) μ
  | _ => False
def dRevL (te : DTE) : DTE := fun ρ μ Q => te ρ μ fun x μ1 => kRev x μ1 Q
theorem de_revL {k : Nat} {p1 p2 p3 : Pos} (he : DE X B e te) : DE X B (.Subscript e (.Slice none none (some (.UnaryOp .USub (.Constant (.int 1) k p1) p2)) p3) pos) (dRevL te) := PE.by (pe_revL he) fun σ H Q ⟨F, ρ, μ, Qd, sB, ok, rs, t, cl⟩ => by
  refine ⟨F, ρ, μ, _, sB, ok, rs, t, fun F1 x μ1 v H1 s1 ok1 rx t1 => ?_⟩
  unfold kRev at t1
  split at t1
  · obtain ⟨p, vs, rfl, h1, h2⟩ := rep_lst.mp rx
    exact ⟨p, vs, rfl, SqL.of (ok1.sub _ _ h1), fun q hq => cl_lst ok1 (cl.mono s1) h2.reverse t1 hq⟩
  · exact t1.elim
end

/-! ### argument lists, displays -/
def LAn (K : PySem.W.Frag) (B : Ent) (n : Nat) (t : DTA) : TA := fun σ H Q => ∃ F ρ μ Qd, B.to F μ H ∧ Ok K F μ H ∧ RelS K F ρ σ ∧ t ρ μ Qd ∧ ∀ F' ds μ' vs H', Stp F μ H F' μ' H' → Ok K F' μ' H' → Reps K F' ds vs → ds.length = n → Qd ds μ' → Q vs H'
abbrev DAn (X : Cx) (B : Ent) (es : List Expr) (n : Nat) (t : DTA) : Prop := PA X es (LAn X.K B n t)
def dNil : DTA := fun _ μ Q => Q [] μ
def dCons (te : DTE) (t : DTA) : DTA := fun ρ μ Q => te ρ μ fun d μ1 => t ρ μ1 fun ds μ2 => Q (d :: ds) μ2
def dTup (t : DTA) : DTE := fun ρ μ Q => t ρ μ fun ds μ1 => Q (.tup ds) μ1
def dLst (t : DTA) : DTE := fun ρ μ Q => t ρ μ fun ds μ1 => Q (.lst ds) μ1
/-- a list to be changed -/
def dLstM (t : DTA) : DTE := fun ρ μ Q => t ρ μ fun ds μ1 => ∀ a, μ1 a = none → Q (.ref a) (mset μ1 a (some (.lst ds)))
section
variable {X : Cx} {B : Ent} {e : Expr} {es : List Expr} {te : DTE} {t : DTA} {n : Nat} {pos : Pos}
theorem da_nil : DAn X B [] 0 dNil := PA.by pa_nil fun σ H Q ⟨F, ρ, μ, Qd, sB, ok, rs, t, cl⟩ => cl F [] μ [] H (Stp.refl) ok (reps_nil.mpr rfl) rfl t
theorem da_cons (ha : DE X B e te) (hr : DAn X B es n t) (hs : starEach (e :: es) X.env = (false, eval e X.env) :: starEach es X.env := by rfl) : DAn X B (e :: es) (n + 1) (dCons te t) := PA.by (pa_cons ha hr hs) fun σ H Q ⟨F, ρ, μ, Qd, sB, ok, rs, t, cl⟩ => by
  refine ⟨F, ρ, μ, _, sB, ok, rs, t, fun F1 x μ1 v H1 s1 ok1 rx t1 => ?_⟩
  refine ⟨F1, ρ, μ1, _, sB.trans s1, ok1, rs.mono s1.s, t1, fun F2 ds μ2 vs H2 s2 ok2 r2 l2 t2 => ?_⟩
  exact cl F2 _ μ2 _ H2 (s1.trans s2) ok2 (.cons (rx.mono s2.s) r2) (by rw [List.length_cons, l2]) t2
theorem line_of {n : Nat} (h : n ≤ 1000) : n ≤ sizeLine := Nat.le_trans h (by decide)
theorem de_tup {k : Nat} (h : DAn X B es n t) (hn : n ≤ 1000 := by decide) : DE X B (.Tuple es k pos) (dTup t) := PE.by (pe_tup h) fun σ H Q ⟨F, ρ, μ, Qd, sB, ok, rs, t, cl⟩ => by
  refine ⟨F, ρ, μ, _, sB, ok, rs, t, fun F1 ds μ1 vs H1 s1 ok1 r1 l1 t1 => ?_⟩
  exact ⟨by rw [← r1.length, l1]; exact line_of hn, fun p hp => cl_tup ok1 (cl.mono s1) r1 t1 hp⟩
theorem de_lst (h : DAn X B es n t) (hn : n ≤ 1000 := by decide) : DE X B (.List es pos) (dLst t) := PE.by (pe_lst h) fun σ H Q ⟨F, ρ, μ, Qd, sB, ok, rs, t, cl⟩ => by
  refine ⟨F, ρ, μ, _, sB, ok, rs, t, fun F1 ds μ1 vs H1 s1 ok1 r1 l1 t1 => ?_⟩
  exact ⟨by rw [← r1.length, l1]; exact line_of hn, fun p hp => cl_lst ok1 (cl.mono s1) r1 t1 hp⟩
theorem de_lstM (h : DAn X B es n t) (hn : n ≤ 1000 := by decide) : DE X B (.List es pos) (dLstM t) := PE.by (pe_lst h) fun σ H Q ⟨F, ρ, μ, Qd, sB, ok, rs, t, cl⟩ => by
  refine ⟨F, ρ, μ, _, sB, ok, rs, t, fun F1 ds μ1 vs H1 s1 ok1 r1 l1 t1 => ?_⟩
  exact ⟨by rw [← r1.length, l1]; exact line_of hn, fun p hp => cl_lstM ok1 (cl.mono s1) r1 t1 hp⟩
end

/-! ### calls of what is built in -/
abbrev KC := List D → MS → DK → Prop
def L2C (K : PySem.W.Frag) (k : KC) : List V → Hp → VK → Prop := fun vs H Q => ∃ F μ ds Qd, Ok K F μ H ∧ Reps K F ds vs ∧ k ds μ Qd ∧ Cl K F μ H Qd Q
abbrev DCall (X : Cx) (f : Value) (k : KC) : Prop := CallR X f (L2C X.K k)
def dCB (k : KC) (t : DTA) : DTE := fun ρ μ Q => t ρ μ fun ds μ1 => k ds μ1 Q
theorem le_cb {K : PySem.W.Frag} {B : Ent} {k : KC} {t : DTA} {n : Nat} {σ : L2.St} {H : Hp} {Q : VK} (h : LE K B (dCB k t) σ H Q) : tCB (L2C K k) (LAn K B n t) σ H Q := by
  obtain ⟨F, ρ, μ, Qd, sB, ok, rs, t, cl⟩ := h
  exact ⟨F, ρ, μ, _, sB, ok, rs, t, fun F1 ds μ1 vs H1 s1 ok1 r1 l1 t1 => ⟨F1, μ1, ds, Qd, ok1, r1, t1, cl.mono s1⟩⟩
section
variable {X : Cx} {B : Ent} {e : Expr} {es : List Expr} {te : DTE} {t : DTA} {n : Nat} {x : Str} {p pos : Pos} {id T : String} {k : KC}
theorem de_callB (hc : DCall X (.builtin id) k) (hg : Gl X x) (hm : X.mg x = none) (hv : bootBuiltins x = some (.builtin id)) (ha : DAn X B (e :: es) n t) (hn : x ≠ "__name__" := by decide) (hdb : (x == ("__debug__" : Str)) = false := by decide)
    (he : starEach (e :: es) X.env = (false, eval e X.env) :: starEach es X.env := by rfl) (hpl : (backTo pos (starEach es X.env)).any (·.1) = false := by rfl) : DE X B (.Call (.Name x p) (e :: es) [] pos) (dCB k t) :=
  PE.by (pe_callB hc hg hm hv ha hn hdb he hpl) fun _ _ _ => le_cb
theorem de_callTy (hc : DCall X (.type T) k) (hg : Gl X x) (hm : X.mg x = none) (hv : bootBuiltins x = some (.type T)) (ha : DAn X B (e :: es) n t) (hn : x ≠ "__name__" := by decide) (hdb : (x == ("__debug__" : Str)) = false := by decide)
    (he : starEach (e :: es) X.env = (false, eval e X.env) :: starEach es X.env := by rfl) (hpl : (backTo pos (starEach es X.env)).any (·.1) = false := by rfl) : DE X B (.Call (.Name x p) (e :: es) [] pos) (dCB k t) :=
  PE.by (pe_callTy hc hg hm hv ha hn hdb he hpl) fun _ _ _ => le_cb
/-- a built-in class, as a value -/
theorem de_ty (hg : Gl X x) (hm : X.mg x = none) (hv : bootBuiltins x = some (.type T)) (hn : x ≠ "__name__" := by decide) (hd : (x == ("__debug__" : Str)) = false := by decide) : DE X B (.Name x pos) (dC (.ty T)) :=
  PE.by (pe_bltn (v := .ty T) hg hm hv rfl hn hd) fun _ _ _ => le_c fun _ => rep_ty.mpr rfl
end

section
variable {X : Cx}
theorem Same.ok {K : PySem.W.Frag} {F : Hp} {μ : MS} {H : Hp} {Qd : DK} {Q : VK} (ok : Ok K F μ H) (cl : Cl K F μ H Qd Q) {d : D} {v : V} (r : Rep K F d v) (q : Qd d μ) : Q v H := cl F d μ v H (Stp.refl) ok r q
def kLen : KC := fun xs μ Q => match xs with
  | [.tup ds] => Q (.int ds.length) μ
  | [.lst ds] => Q (.int ds.length) μ
  | [.str z] => z.length ≤ sizeLine ∧ Q (.int z.length) μ
  | [.scr ns] => Q (.int ns.length) μ
  | [.ref a] => refL (μ a) fun ds => Q (.int ds.length) μ
  | _ => False
theorem reps1 {K : PySem.W.Frag} {F : Hp} {d : D} {vs : List V} (r : Reps K F [d] vs) : ∃ v, vs = [v] ∧ Rep K F d v := by
  obtain ⟨v, t, rfl, h, q⟩ := reps_cons.mp r
  rw [reps_nil.mp q]
  exact ⟨v, rfl, h⟩
theorem reps2 {K : PySem.W.Frag} {F : Hp} {d e : D} {vs : List V} (r : Reps K F [d, e] vs) : ∃ v w, vs = [v, w] ∧ Rep K F d v ∧ Rep K F e w := by
  obtain ⟨v, t, rfl, h, q⟩ := reps_cons.mp r
  obtain ⟨w, rfl, h2⟩ := reps1 q
  exact ⟨v, w, rfl, h, h2⟩
theorem dc_len : DCall X (.builtin "len") kLen := by
  intro pins s σ H vs us Q I rv ⟨F, μ, ds, Qd, ok, r, hk, cl⟩
  unfold kLen at hk
  split at hk
  · obtain ⟨v, rfl, r1⟩ := reps1 r
    obtain ⟨p, ws, rfl, h1, h2⟩ := rep_tup.mp r1
    refine call_len pins s σ H _ us Q I rv ⟨_, ws.length, rfl, .inr ⟨ws, ok.sqT h1, rfl⟩, ?_⟩
    rw [← h2.length]
    exact Same.ok ok cl (rep_int.mpr rfl) hk
  · obtain ⟨v, rfl, r1⟩ := reps1 r
    obtain ⟨p, ws, rfl, h1, h2⟩ := rep_lst.mp r1
    refine call_len pins s σ H _ us Q I rv ⟨_, ws.length, rfl, .inl ⟨ws, SqL.of (ok.sub _ _ h1), rfl⟩, ?_⟩
    rw [← h2.length]
    exact Same.ok ok cl (rep_int.mpr rfl) hk
  · obtain ⟨v, rfl, r1⟩ := reps1 r
    obtain rfl := rep_str.mp r1
    exact call_len_str pins s σ H _ us Q I rv ⟨_, rfl, hk.1, Same.ok ok cl (rep_int.mpr rfl) hk.2⟩
  · obtain ⟨v, rfl, r1⟩ := reps1 r
    obtain ⟨p, rfl, h1⟩ := rep_scr.mp r1
    refine call_len pins s σ H _ us Q I rv ⟨_, _, rfl, .inl ⟨_, ok.sub.seq h1, rfl⟩, ?_⟩
    rw [List.length_map]
    exact Same.ok ok cl (rep_int.mpr rfl) hk
  · obtain ⟨v, rfl, r1⟩ := reps1 r
    obtain rfl := rep_ref.mp r1
    obtain ⟨ds, em, hk⟩ := refL_elim hk
    obtain ⟨_, ws, h1, h2⟩ := ok.lst _ ds em
    refine call_len pins s σ H _ us Q I rv ⟨_, ws.length, rfl, .inl ⟨ws, SqL.of h1, rfl⟩, ?_⟩
    rw [← h2.length]
    exact Same.ok ok cl (rep_int.mpr rfl) hk
  · exact hk.elim
def kAbs : KC := fun xs μ Q => match xs with
  | [.int i] => Q (.int i.natAbs) μ
  | _ => False
theorem dc_abs : DCall X (.builtin "abs") kAbs := by
  intro pins s σ H vs us Q I rv ⟨F, μ, ds, Qd, ok, r, hk, cl⟩
  unfold kAbs at hk
  split at hk
  · rename_i i
    obtain ⟨v, rfl, r1⟩ := reps1 r
    obtain rfl := rep_int.mp r1
    refine call_abs pins s σ H _ us Q I rv ⟨i, rfl, ?_⟩
    have e : (if i < 0 then -i else i) = (i.natAbs : Int) := by split <;> omega
    rw [e]
    exact Same.ok ok cl (rep_int.mpr rfl) hk
  · exact hk.elim
def kInt : KC := fun xs μ Q => match xs with
  | [.int i] => Q (.int i) μ
  | [.bl b] => Q (.int (if b then 1 else 0)) μ
  | [.str a] => a.length ≤ 640 ∧ (match PySem.intText? a with
    | some n => Q (.int n) μ
    | none => False)
  | _ => False
theorem dc_int : DCall X (.type "int") kInt := by
  intro pins s σ H vs us Q I rv ⟨F, μ, ds, Qd, ok, r, hk, cl⟩
  unfold kInt at hk
  split at hk
  · obtain ⟨v, rfl, r1⟩ := reps1 r
    obtain rfl := rep_int.mp r1
    exact call_int1 pins s σ H _ us Q I rv (.inl ⟨_, rfl, Same.ok ok cl (rep_int.mpr rfl) hk⟩)
  · obtain ⟨v, rfl, r1⟩ := reps1 r
    obtain rfl := rep_bl.mp r1
    exact call_int1 pins s σ H _ us Q I rv (.inr ⟨_, rfl, Same.ok ok cl (rep_int.mpr rfl) hk⟩)
  · obtain ⟨v, rfl, r1⟩ := reps1 r
    obtain rfl := rep_str.mp r1
    obtain ⟨h1, h2⟩ := hk
    split at h2
    · rename_i n e
      exact call_int_str pins s σ H _ us Q I rv ⟨_, n, rfl, e, h1, Same.ok ok cl (rep_int.mpr rfl) h2⟩
    · exact h2.elim
  · exact hk.elim
theorem call_str_bool : CallR X (.type "str") (fun xs H Q => ∃ b, xs = [.bl b] ∧ Q (.str (if b then "True" else "False")) H) := by
  intro pins s σ H xs us Q I rs h
  obtain ⟨b, rfl, q⟩ := h
  obtain ⟨u, rfl, r⟩ := vals1 rs
  cases r
  exact PySem.P.str_of_bool ⟨.str _, H, I.tok _, ⟨_, rfl⟩, q⟩
def kStr : KC := fun xs μ Q => match xs with
  | [.int i] => i.natAbs.log2 < 1920 ∧ Q (.str (toString i)) μ
  | [.str a] => Q (.str a) μ
  | [.bl b] => Q (.str (if b then "True" else "False")) μ
  | _ => False
theorem dc_str : DCall X (.type "str") kStr := by
  intro pins s σ H vs us Q I rv ⟨F, μ, ds, Qd, ok, r, hk, cl⟩
  unfold kStr at hk
  split at hk
  · obtain ⟨v, rfl, r1⟩ := reps1 r
    obtain rfl := rep_int.mp r1
    exact call_str_int pins s σ H _ us Q I rv ⟨_, rfl, hk.1, Same.ok ok cl (rep_str.mpr rfl) hk.2⟩
  · obtain ⟨v, rfl, r1⟩ := reps1 r
    obtain rfl := rep_str.mp r1
    exact SkE.call_str_str pins s σ H _ us Q I rv ⟨_, rfl, Same.ok ok cl (rep_str.mpr rfl) hk⟩
  · obtain ⟨v, rfl, r1⟩ := reps1 r
    obtain rfl := rep_bl.mp r1
    exact call_str_bool pins s σ H _ us Q I rv ⟨_, rfl, Same.ok ok cl (rep_str.mpr rfl) hk⟩
  · exact hk.elim
def kMax : KC := fun xs μ Q => match xs with
  | [.int i, .int j] => Q (.int (max i j)) μ
  | _ => False
def kMin : KC := fun xs μ Q => match xs with
  | [.int i, .int j] => Q (.int (min i j)) μ
  | _ => False
theorem dc_max (hc : X.calm = true) : DCall X (.builtin "max") kMax := by
  intro pins s σ H vs us Q I rv ⟨F, μ, ds, Qd, ok, r, hk, cl⟩
  unfold kMax at hk
  split at hk
  · rename_i i j
    obtain ⟨v, w, rfl, r1, r2⟩ := reps2 r
    obtain rfl := rep_int.mp r1
    obtain rfl := rep_int.mp r2
    refine call_max2 hc pins s σ H _ us Q I rv ⟨i, j, rfl, ?_⟩
    have e : (if j > i then j else i) = max i j := by split <;> omega
    rw [e]
    exact Same.ok ok cl (rep_int.mpr rfl) hk
  · exact hk.elim
theorem dc_min (hc : X.calm = true) : DCall X (.builtin "min") kMin := by
  intro pins s σ H vs us Q I rv ⟨F, μ, ds, Qd, ok, r, hk, cl⟩
  unfold kMin at hk
  split at hk
  · rename_i i j
    obtain ⟨v, w, rfl, r1, r2⟩ := reps2 r
    obtain rfl := rep_int.mp r1
    obtain rfl := rep_int.mp r2
    refine call_min2 hc pins s σ H _ us Q I rv ⟨i, j, rfl, ?_⟩
    have e : (if j < i then j else i) = min i j := by split <;> omega
    rw [e]
    exact Same.ok ok cl (rep_int.mpr rfl) hk
  · exact hk.elim
def kTuple : KC := fun xs μ Q => match xs with
  | [.lst ds] => Q (.tup ds) μ
  | [.tup ds] => Q (.tup ds) μ
  | [.ref a] => refL (μ a) fun ds => Q (.tup ds) μ
  | _ => False
theorem dc_tuple : DCall X (.type "tuple") kTuple := by
  intro pins s σ H vs us Q I rv ⟨F, μ, ds, Qd, ok, r, hk, cl⟩
  unfold kTuple at hk
  split at hk
  · obtain ⟨v, rfl, r1⟩ := reps1 r
    obtain ⟨p, ws, rfl, h1, h2⟩ := rep_lst.mp r1
    exact call_tuple_of pins s σ H _ us Q I rv ⟨p, ws, rfl, .inl ⟨SqL.of (ok.sub _ _ h1), fun l hl => cl_tup ok cl h2 hk hl⟩⟩
  · obtain ⟨v, rfl, r1⟩ := reps1 r
    obtain ⟨p, ws, rfl, h1, h2⟩ := rep_tup.mp r1
    exact call_tuple_of pins s σ H _ us Q I rv ⟨p, ws, rfl, .inr ⟨ok.sqT h1, Same.ok ok cl (rep_tup.mpr ⟨p, ws, rfl, h1, h2⟩) hk⟩⟩
  · obtain ⟨v, rfl, r1⟩ := reps1 r
    obtain rfl := rep_ref.mp r1
    obtain ⟨ds, em, hk⟩ := refL_elim hk
    obtain ⟨_, ws, h1, h2⟩ := ok.lst _ ds em
    exact call_tuple_of pins s σ H _ us Q I rv ⟨_, ws, rfl, .inl ⟨SqL.of h1, fun l hl => cl_tup ok cl h2 hk hl⟩⟩
  · exact hk.elim
def kList : KC := fun xs μ Q => match xs with
  | [.lst ds] => Q (.lst ds) μ
  | [.tup ds] => Q (.lst ds) μ
  | [.ref a] => refL (μ a) fun ds => Q (.lst ds) μ
  | _ => False
theorem dc_list : DCall X (.type "list") kList := by
  intro pins s σ H vs us Q I rv ⟨F, μ, ds, Qd, ok, r, hk, cl⟩
  unfold kList at hk
  split at hk
  · obtain ⟨v, rfl, r1⟩ := reps1 r
    obtain ⟨p, ws, rfl, h1, h2⟩ := rep_lst.mp r1
    exact call_list_of pins s σ H _ us Q I rv ⟨p, ws, rfl, .inl (SqL.of (ok.sub _ _ h1)), fun l hl => cl_lst ok cl h2 hk hl⟩
  · obtain ⟨v, rfl, r1⟩ := reps1 r
    obtain ⟨p, ws, rfl, h1, h2⟩ := rep_tup.mp r1
    exact call_list_of pins s σ H _ us Q I rv ⟨p, ws, rfl, .inr (ok.sqT h1), fun l hl => cl_lst ok cl h2 hk hl⟩
  · obtain ⟨v, rfl, r1⟩ := reps1 r
    obtain rfl := rep_ref.mp r1
    obtain ⟨ds, em, hk⟩ := refL_elim hk
    obtain ⟨_, ws, h1, h2⟩ := ok.lst _ ds em
    exact call_list_of pins s σ H _ us Q I rv ⟨_, ws, rfl, .inl (SqL.of h1), fun l hl => cl_lst ok cl h2 hk hl⟩
  · exact hk.elim
/-! isinstance with a built-in class -/
def tyName : D → Option String
  | .non => some "NoneType"
  | .bl _ => some "bool"
  | .int _ => some "int"
  | .str _ => some "str"
  | .tup _ => some "tuple"
  | .lst _ => some "list"
  | _ => none
def kIsi : KC := fun xs μ Q => match xs with
  | [x, .ty T] => (match tyName x with
    | some n => (match kitB n T with
      | some b => Q (.bl b) μ
      | none => False)
    | none => False)
  | _ => False
theorem tyX_of {K : PySem.W.Frag} {F : Hp} {μ : MS} {H : Hp} (ok : Ok K F μ H) {x : D} {v : V} {n : String} (r : Rep K F x v) (h : tyName x = some n) : TyX K H v (.type n) := by
  cases x with
  | non => cases h; rw [rep_non.mp r]; exact .base .non
  | bl b => cases h; rw [rep_bl.mp r]; exact .base (.bl b)
  | int b => cases h; rw [rep_int.mp r]; exact .base (.int b)
  | str b => cases h; rw [rep_str.mp r]; exact .base (.str b)
  | tup ds =>
    cases h
    obtain ⟨a, vs, rfl, h1, h2⟩ := rep_tup.mp r
    rcases ok.sqT h1 with (h | ⟨o, h⟩) | ⟨o, its, n, h, hc, _⟩
    · exact .base (.tup h)
    · exact .fTuple h
    · exact .kTuple h hc
  | lst ds =>
    cases h
    obtain ⟨a, vs, rfl, h1, h2⟩ := rep_lst.mp r
    exact .base (.lst (ok.sub _ _ h1))
  | ref a => cases h
  | ty a => cases h
  | scr a => cases h
theorem dc_isi : DCall X (.builtin "isinstance") kIsi := by
  intro pins s σ H vs us Q I rv ⟨F, μ, ds, Qd, ok, r, hk, cl⟩
  unfold kIsi at hk
  split at hk
  · rename_i x T
    obtain ⟨v, w, rfl, r1, r2⟩ := reps2 r
    obtain rfl := rep_ty.mp r2
    split at hk
    · rename_i n e
      split at hk
      · rename_i b eb
        exact call_isi pins s σ H _ us Q I rv ⟨v, .ty T, .type n, .type T, b, rfl, .ty T, tyX_of ok r1 e, kit_ty eb, Same.ok ok cl (rep_bl.mpr rfl) hk⟩
      · exact hk.elim
    · exact hk.elim
  · exact hk.elim
end
section
variable {X : Cx}
/-! ### in -/
def kInD (neg : Bool) : KD := fun x y μ Q => match y with
  | .tup ds => okEq x (.tup ds) ∧ Q (.bl (neg != ds.any fun z => deq z x)) μ
  | .lst ds => okEq x (.lst ds) ∧ Q (.bl (neg != ds.any fun z => deq z x)) μ
  | _ => False
abbrev kIn : KD := kInD false
abbrev kNotIn : KD := kInD true
theorem pys_any (x : D) (hx : x.lay = true) : ∀ ds : List D, D.lays ds = true → (D.pys ds).any (fun z => PyData.eqv z x.py) = ds.any fun z => deq z x
  | [], _ => by simp [D.pys]
  | d :: ds, h => by
    have h' : d.lay = true ∧ D.lays ds = true := by simpa [D.lays] using h
    simp only [D.pys, List.any_cons, deq_py d x h'.1 hx, pys_any x hx ds h'.2]
theorem do_inD (hu : X.A.units + 65 < cLine) (neg : Bool) : DOp X (compareOp (if neg then .NotIn else .In)) (kInD neg) := by
  intro pins s σ H v w vv ww Q I rv rw' ⟨F, μ, x, y, Qd, ok, rx, ry, hk, cl⟩
  unfold kInD at hk
  split at hk
  · rename_i ds
    obtain ⟨⟨h1, h2, h3, h4⟩, hk⟩ := hk
    have h2' : D.lays ds = true := by simpa only [D.lay] using h2
    have hd := rep_dp ok.sub h1 rx
    have he := rep_dp ok.sub h2 ry
    simp only [D.py] at he
    obtain ⟨as, r1⟩ := Dp.reads I _ _ vv hd rv
    obtain ⟨bs, r2⟩ := Dp.reads I _ _ ww he rw'
    have e4 : D.deps ds + 1 ≤ 64 := by simpa only [D.dep] using h4
    have hroom : X.A.units + 1 + min (PyData.depthAll (D.pys ds)) x.py.depth < cLine := by
      rw [pys_dep ds h2', py_dep x h1]
      have := Nat.min_le_right (D.deps ds) x.dep
      omega
    have q : EP X pins σ Q (.bool (neg != (D.pys ds).any fun z => PyData.eqv z x.py)) s := ⟨.bl _, H, I, rfl, by rw [pys_any x h1 ds h2']; exact cl F _ μ _ H Stp.refl ok (rep_bl.mpr rfl) hk⟩
    cases neg with
    | false => exact SeqAt.in_tuple_reads r2 r1 (by rw [pys_lay]; exact h2') (by rw [py_lay]; exact h1) hroom (by simpa using q)
    | true => exact SeqAt.notIn_tuple_reads r2 r1 (by rw [pys_lay]; exact h2') (by rw [py_lay]; exact h1) hroom (by simpa using q)
  · rename_i ds
    obtain ⟨⟨h1, h2, h3, h4⟩, hk⟩ := hk
    have h2' : D.lays ds = true := by simpa only [D.lay] using h2
    have hd := rep_dp ok.sub h1 rx
    have he := rep_dp ok.sub h2 ry
    simp only [D.py] at he
    obtain ⟨as, r1⟩ := Dp.reads I _ _ vv hd rv
    obtain ⟨bs, r2⟩ := Dp.reads I _ _ ww he rw'
    have e4 : D.deps ds + 1 ≤ 64 := by simpa only [D.dep] using h4
    have hroom : X.A.units + 1 + min (PyData.depthAll (D.pys ds)) x.py.depth < cLine := by
      rw [pys_dep ds h2', py_dep x h1]
      have := Nat.min_le_right (D.deps ds) x.dep
      omega
    have q : EP X pins σ Q (.bool (neg != (D.pys ds).any fun z => PyData.eqv z x.py)) s := ⟨.bl _, H, I, rfl, by rw [pys_any x h1 ds h2']; exact cl F _ μ _ H Stp.refl ok (rep_bl.mpr rfl) hk⟩
    cases neg with
    | false => exact SeqAt.in_list_reads r2 r1 (by rw [pys_lay]; exact h2') (by rw [py_lay]; exact h1) hroom (by simpa using q)
    | true => exact SeqAt.notIn_list_reads r2 r1 (by rw [pys_lay]; exact h2') (by rw [py_lay]; exact h1) hroom (by simpa using q)
  · exact hk.elim
theorem do_in (hu : X.A.units + 65 < cLine) : DOp X (compareOp .In) kIn := do_inD hu false
theorem do_notIn (hu : X.A.units + 65 < cLine) : DOp X (compareOp .NotIn) kNotIn := do_inD hu true
/-- one sign in a text -/
def kInSD (neg : Bool) : KD := fun x y μ Q => match x, y with
  | .str a, .str z => (match a.cps with
    | ⟨[c]⟩ => Q (.bl (neg != decide (c ∈ z.cps.toList))) μ
    | _ => False)
  | _, _ => False
abbrev kInS : KD := kInSD false
abbrev kNotInS : KD := kInSD true
theorem do_inS : DOp X (compareOp .In) kInS := by
  intro pins s σ H v w vv ww Q I rv rw' ⟨F, μ, x, y, Qd, ok, rx, ry, hk, cl⟩
  unfold kInS kInSD at hk
  split at hk
  · rename_i a z
    obtain rfl := rep_str.mp rx
    obtain rfl := rep_str.mp ry
    obtain ⟨cps⟩ := a
    split at hk
    · rename_i c e
      simp only at e
      subst e
      exact op_in_sign pins s σ H _ _ vv ww Q I rv rw' ⟨c, z, rfl, rfl, by simpa using cl F _ μ _ H Stp.refl ok (rep_bl.mpr rfl) hk⟩
    · exact hk.elim
  · exact hk.elim
theorem do_notInS : DOp X (compareOp .NotIn) kNotInS := by
  intro pins s σ H v w vv ww Q I rv rw' ⟨F, μ, x, y, Qd, ok, rx, ry, hk, cl⟩
  unfold kNotInS kInSD at hk
  split at hk
  · rename_i a z
    obtain rfl := rep_str.mp rx
    obtain rfl := rep_str.mp ry
    obtain ⟨cps⟩ := a
    split at hk
    · rename_i c e
      simp only at e
      subst e
      exact op_notIn_sign pins s σ H _ _ vv ww Q I rv rw' ⟨c, z, rfl, rfl, by simpa using cl F _ μ _ H Stp.refl ok (rep_bl.mpr rfl) hk⟩
    · exact hk.elim
  · exact hk.elim
end
end Li

set_option Elab.async false
set_option linter.all false
set_option maxRecDepth 100000
set_option maxHeartbeats 1000000
/-! Targets, statements, loops, comprehensions over data. -/
namespace Li
open PySem PySem.Spec PyProof.Rows L2
variable [Tbl]

/-! ### lengths of what stands in memory -/
def Line (K : PySem.W.Frag) (v : V) (H : Hp) : Prop := ∀ a xs, v = .ref a → (SqL K H a xs ∨ SqT K H a xs) → xs.length ≤ sizeLine
theorem Inv.line {X : Cx} {pins : List (Addr × Obj)} {σ : L2.St} {H : Hp} {s : Shared} (I : Inv X pins σ H s) (v : V) : Line X.K v H := fun a xs _ h => by
  rcases h with h | h
  · obtain ⟨_, _, _, z⟩ := I.list h; exact z
  · obtain ⟨_, _, _, z⟩ := I.tuple h; exact z
theorem PE.lined {X : Cx} {e : Expr} {t : TE} (h : PE X e t) : PE X e (fun σ H Q => t σ H fun v H1 => Line X.K v H1 → Q v H1) := ⟨fun pins s σ H Q I q =>
  thn (h.run pins s σ H _ I q) fun _ s1 ⟨v, H1, I1, r1, q1⟩ => ⟨v, H1, I1, r1, q1 (Inv.line I1 v)⟩⟩
theorem PA.lined {X : Cx} {es : List Expr} {t : TA} (h : PA X es t) : PA X es (fun σ H Q => t σ H fun vs H1 => (∀ v ∈ vs, Line X.K v H1) → Q vs H1) := ⟨fun pos pins s σ H Q I q =>
  thn (h.run pos pins s σ H _ I q) fun _ s1 ⟨vs, H1, I1, r1, q1⟩ => ⟨vs, H1, I1, r1, q1 fun v _ => Inv.line I1 v⟩⟩

/-! ### targets -/
def dName (i : Nat) : DTG := fun d ρ μ Q => Q (ρ.set i (some d)) μ
def dGNil : DTGs := fun ds ρ μ Q => match ds with
  | [] => Q ρ μ
  | _ :: _ => False
def dGCons (g : DTG) (gs : DTGs) : DTGs := fun ds ρ μ Q => match ds with
  | [] => False
  | d :: r => g d ρ μ fun ρ1 μ1 => gs r ρ1 μ1 Q
def dGTup (n : Nat) (gs : DTGs) : DTG := fun d ρ μ Q => match d with
  | .tup ds => bcase (ds.length == n) (gs ds ρ μ Q) False
  | _ => False
section
variable {X : Cx} {B : Ent} {pos : Pos}
theorem dg_name {i : Nat} {x : Str} (hN : X.N.Nodup) (hi : X.N[i]? = some x) (hx : Loc X.env.scope x) (hf : X.fn x = true ∨ X.env.scope.names.lookup x = some .local := by first | exact .inl rfl | exact .inr rfl | assumption) : DG X B (.Name x pos) (dName i) :=
  PG.by (pg_name hN hi hx hf) fun v σ H Q ⟨F, d, ρ, μ, Qd, sB, ok, rs, rd, t, cl⟩ => cl F _ μ _ H (Stp.refl) ok (rs.set rd i) t
theorem dgs_nil : DGs X B [] dGNil := PGs.by pgs_nil fun vs σ H Q ⟨F, ds, ρ, μ, Qd, sB, ok, rs, rd, t, cl⟩ => by
  cases ds with
  | nil => exact ⟨reps_nil.mp rd, cl F _ μ _ H (Stp.refl) ok rs t⟩
  | cons d r => exact t.elim
theorem dgs_cons {e : Expr} {es : List Expr} {g : DTG} {gs : DTGs} (h1 : DG X B e g) (h2 : DGs X B es gs) (hs : (assignEach (e :: es) X.env).map (·.2) = assign e X.env :: (assignEach es X.env).map (·.2) := by rfl) : DGs X B (e :: es) (dGCons g gs) :=
  PGs.by (pgs_cons h1 h2 hs) fun vs σ H Q ⟨F, ds, ρ, μ, Qd, sB, ok, rs, rd, t, cl⟩ => by
  cases ds with
  | nil => exact t.elim
  | cons d r =>
    obtain ⟨v, w, rfl, r1, r2⟩ := reps_cons.mp rd
    refine ⟨v, w, rfl, F, d, ρ, μ, _, sB, ok, rs, r1, t, fun F1 ρ1 μ1 σ1 H1 s1 ok1 rs1 t1 => ?_⟩
    exact ⟨F1, r, ρ1, μ1, Qd, sB.trans s1, ok1, rs1, r2.mono s1.s, t1, cl.mono s1⟩
theorem dg_tup {es : List Expr} {k : Nat} {gs : DTGs} {n : Nat} (hc : X.calm = true) (h : DGs X B es gs)
    (hn : (assignEach es X.env).length = n := by rfl) (hst : (assignEach es X.env).findIdx? (·.1) = none := by rfl) : DG X B (.Tuple es k pos) (dGTup n gs) :=
  PG.by (pg_tup hc h hn hst) fun v σ H Q ⟨F, d, ρ, μ, Qd, sB, ok, rs, rd, t, cl⟩ => by
  unfold dGTup at t
  split at t
  · rename_i ds
    obtain ⟨a, vs, rfl, h1, h2⟩ := rep_tup.mp rd
    cases e : (ds.length == n) with
    | false => rw [e] at t; exact t.elim
    | true =>
      rw [e] at t
      exact ⟨a, vs, rfl, ok.sqT h1, by rw [← h2.length]; exact eq_of_beq e, F, ds, ρ, μ, Qd, sB, ok, rs, h2, t, cl⟩
  · exact t.elim
/-- x[i] = v, a list of the store -/
def dGSub (ta ti : DTE) : DTG := fun d ρ μ Q => ta ρ μ fun x μ1 => ti ρ μ1 fun y μ2 => match x, y with
  | .ref a, .int i => refL (μ2 a) fun ds => match ixN ds.length i with
      | some j => Q ρ (mset μ2 a (some (.lst (ds.set j d))))
      | none => False
  | _, _ => False
theorem dg_sub {o i : Expr} {ta ti : DTE} (ho : DE X B o ta) (hi : DE X B i ti) (ha : ∀ v, assign (.Subscript o i pos) X.env v = (do
      let ov ← holding [v] (eval o X.env)
      let iv ← holding [v, ov] (eval i X.env)
      standAt pos
      holding [v, ov, iv] (setItem ov iv v)
      release [v, ov, iv] []) := by intro _; rfl) : DG X B (.Subscript o i pos) (dGSub ta ti) :=
  PG.by (pg_sub ho hi set_list ha) fun v σ H Q ⟨F, d, ρ, μ, Qd, sB, ok, rs, rd, t, cl⟩ => by
  refine ⟨F, ρ, μ, _, sB, ok, rs, t, fun F1 x μ1 xv H1 s1 ok1 rx t1 => ?_⟩
  refine ⟨F1, ρ, μ1, _, sB.trans s1, ok1, rs.mono s1.s, t1, fun F2 y μ2 yv H2 s2 ok2 ry t2 => ?_⟩
  split at t2
  · rename_i a k
    obtain rfl := rep_ref.mp (rx.mono s2.s)
    obtain rfl := rep_int.mp ry
    obtain ⟨ds, em, t2⟩ := refL_elim t2
    · split at t2
      · rename_i j ej
        obtain ⟨hF, vs, h1, h2⟩ := ok2.lst a ds em
        exact ⟨a, vs, k, j, rfl, rfl, h1, by rw [← h2.length]; exact ej, cl F2 ρ _ σ _ ((s1.trans s2).trans (stpPut em)) (ok2.put hF (fun u e => by rw [h1] at e; cases e; exact ⟨_, rfl⟩) (h2.set (rd.mono (s1.trans s2).s) j)) (rs.mono (s1.trans s2).s) t2⟩
      · exact t2.elim
  · exact t2.elim
end

/-! ### statements -/
def dNext : DTS := fun DD ρ μ => DD.nx ρ μ
def dSeq (t u : DTS) : DTS := fun DD ρ μ => t { DD with nx := u DD } ρ μ
def dAsg (te : DTE) (g : DTG) : DTS := fun DD ρ μ => te ρ μ fun d μ1 => g d ρ μ1 DD.nx
def dDrop (te : DTE) : DTS := fun DD ρ μ => te ρ μ fun _ μ1 => DD.nx ρ μ1
def dRet (te : DTE) : DTS := fun DD ρ μ => te ρ μ DD.rt
def dRetN : DTS := fun DD _ μ => DD.rt .non μ
def dIfS (c : DTT) (t u : DTS) : DTS := fun DD ρ μ => c ρ μ fun b μ1 => bcase b (t DD ρ μ1) (u DD ρ μ1)
def dBreak : DTS := fun DD ρ μ => DD.bk ρ μ
def dCont : DTS := fun DD ρ μ => DD.ct ρ μ
def dNever : DTS := fun _ _ _ => False
/-- a slot forgotten -/
def dLose (is : List Nat) : DPS → DPS := fun Q ρ μ => Q (is.foldl (fun r i => r.set i none) ρ) μ
section
variable {X : Cx} {B : Ent} {st : Stmt} {rest : List Stmt} {t u : DTS} {e : Expr} {te : DTE} {pos : Pos}
theorem dss_nil : DSs X B [] dNext := PSs.by pss_nil fun D σ H ⟨F, ρ, μ, DD, sB, ok, rs, t, cl⟩ => cl.nx F ρ μ σ H (Stp.refl) ok rs t
theorem ls_seq {K : PySem.W.Frag} {D : Ends} {σ : L2.St} {H : Hp} (h : LS K B (dSeq t u) D σ H) : tSeq (LS K B t) (LS K B u) D σ H := by
  obtain ⟨F, ρ, μ, DD, sB, ok, rs, t, cl⟩ := h
  refine ⟨F, ρ, μ, _, sB, ok, rs, t, ⟨fun F1 ρ1 μ1 σ1 H1 s1 ok1 rs1 t1 => ?_, cl.rt, cl.bk, cl.ct⟩⟩
  exact ⟨F1, ρ1, μ1, DD, sB.trans s1, ok1, rs1, t1, cl.mono s1⟩
theorem dss_cons (h1 : DS X B st t) (h2 : DSs X B rest u) : DSs X B (st :: rest) (dSeq t u) := PSs.by (pss_cons h1 h2) fun _ _ _ => ls_seq
theorem dss_one (h1 : DS X B st t) : DSs X B [st] t := pss_one h1
theorem ds_pass : DS X B (.Pass pos) dNext := PS.by ps_pass fun D σ H ⟨F, ρ, μ, DD, sB, ok, rs, t, cl⟩ => cl.nx F ρ μ σ H (Stp.refl) ok rs t
theorem ds_break : DS X B (.Break pos) dBreak := PS.by ps_break fun D σ H ⟨F, ρ, μ, DD, sB, ok, rs, t, cl⟩ => cl.bk F ρ μ σ H (Stp.refl) ok rs t
theorem ds_continue : DS X B (.Continue pos) dCont := PS.by ps_continue fun D σ H ⟨F, ρ, μ, DD, sB, ok, rs, t, cl⟩ => cl.ct F ρ μ σ H (Stp.refl) ok rs t
theorem ls_asg {K : PySem.W.Frag} {g : DTG} {D : Ends} {σ : L2.St} {H : Hp} (h : LS K B (dAsg te g) D σ H) : tAsg (LE K B te) (LG K B g) D σ H := by
  obtain ⟨F, ρ, μ, DD, sB, ok, rs, t, cl⟩ := h
  refine ⟨F, ρ, μ, _, sB, ok, rs, t, fun F1 d μ1 v H1 s1 ok1 rd t1 => ?_⟩
  exact ⟨F1, d, ρ, μ1, DD.nx, sB.trans s1, ok1, rs.mono s1.s, rd, t1, cl.nx.mono s1⟩
theorem ds_asg {tg : Expr} {g : DTG} (he : DE X B e te) (hg : DG X B tg g) (hs : swapsWithSole [tg] e pos.line X.env = pure false := by rfl) (hw : swappedStores [tg] e X.env = pure none := by rfl)
    (h1 : (assignEach [tg] X.env).map (·.2) = [assign tg X.env] := by rfl) : DS X B (.Assign [tg] e pos) (dAsg te g) := PS.by (ps_asg he hg hs hw h1) fun _ _ _ => ls_asg
theorem ds_set {i : Nat} {x : Str} {pos' : Pos} (hN : X.N.Nodup) (hi : X.N[i]? = some x) (hx : Loc X.env.scope x) (he : DE X B e te) (hs : swapsWith e (some (.Name x pos')) pos.line X.env = pure false := by rfl)
    (hf : X.fn x = true ∨ X.env.scope.names.lookup x = some .local := by first | exact .inl rfl | exact .inr rfl | assumption) : DS X B (.Assign [.Name x pos'] e pos) (dAsg te (dName i)) :=
  PS.by (ps_set hN hi hx he hs hf) fun D σ H ⟨F, ρ, μ, DD, sB, ok, rs, t, cl⟩ =>
    ⟨F, ρ, μ, _, sB, ok, rs, t, fun F1 d μ1 v H1 s1 ok1 rd t1 => cl.nx F1 _ μ1 _ H1 s1 ok1 ((rs.mono s1.s).set rd i) t1⟩
def dPar (i j : Nat) (ta : DTA) : DTS := fun DD ρ μ => ta ρ μ fun ds μ1 => match ds with
  | [d, e] => DD.nx ((ρ.set i (some d)).set j (some e)) μ1
  | _ => False
theorem ds_par {i j : Nat} {x y : Str} {a b : Expr} {ta : DTA} {px py pt : Pos} {kt k2 pt2} {n : Nat} (hc : X.calm = true) (hN : X.N.Nodup) (hi : X.N[i]? = some x) (hj : X.N[j]? = some y) (hij : i ≠ j)
    (hx : X.env.scope.names.lookup x = some .local) (hy : X.env.scope.names.lookup y = some .local) (ha : DAn X B [a, b] n ta)
    (hw : swappedStores [.Tuple [.Name x px, .Name y py] kt pt] (.Tuple [a, b] k2 pt2) X.env = pure (some [x, y]))
    (hs : swapsWithSole [.Tuple [.Name x px, .Name y py] kt pt] (.Tuple [a, b] k2 pt2) pos.line X.env = pure false := by rfl) :
    DS X B (.Assign [.Tuple [.Name x px, .Name y py] kt pt] (.Tuple [a, b] k2 pt2) pos) (dPar i j ta) :=
  PS.by (ps_par hc hN hi hj hij hx hy ha hw hs) fun D σ H ⟨F, ρ, μ, DD, sB, ok, rs, t, cl⟩ => by
  refine ⟨F, ρ, μ, _, sB, ok, rs, t, fun F1 ds μ1 vs H1 s1 ok1 r1 l1 t1 => ?_⟩
  split at t1
  · obtain ⟨v, w, rfl, q1, q2⟩ := reps2 r1
    exact ⟨v, w, rfl, cl.nx F1 _ μ1 _ H1 s1 ok1 (((rs.mono s1.s).set q1 i).set q2 j) t1⟩
  · exact t1.elim
def dPar3 (i j l : Nat) (ta : DTA) : DTS := fun DD ρ μ => ta ρ μ fun ds μ1 => match ds with
  | [d, e, f] => DD.nx (((ρ.set i (some d)).set j (some e)).set l (some f)) μ1
  | _ => False
theorem ds_par3 {i j l : Nat} {x y z : Str} {a b c : Expr} {ta : DTA} {px py pz pt : Pos} {kt k2 pt2} {n : Nat} (hc : X.calm = true) (hN : X.N.Nodup) (hi : X.N[i]? = some x) (hj : X.N[j]? = some y) (hl : X.N[l]? = some z) (hij : i ≠ j) (hil : i ≠ l) (hjl : j ≠ l)
    (hx : X.env.scope.names.lookup x = some .local) (hy : X.env.scope.names.lookup y = some .local) (hz : X.env.scope.names.lookup z = some .local) (ha : DAn X B [a, b, c] n ta)
    (hw : swappedStores [.Tuple [.Name x px, .Name y py, .Name z pz] kt pt] (.Tuple [a, b, c] k2 pt2) X.env = pure (some [x, y, z]))
    (hs : swapsWithSole [.Tuple [.Name x px, .Name y py, .Name z pz] kt pt] (.Tuple [a, b, c] k2 pt2) pos.line X.env = pure false := by rfl) :
    DS X B (.Assign [.Tuple [.Name x px, .Name y py, .Name z pz] kt pt] (.Tuple [a, b, c] k2 pt2) pos) (dPar3 i j l ta) :=
  PS.by (ps_par3 hc hN hi hj hl hij hil hjl hx hy hz ha hw hs) fun D σ H ⟨F, ρ, μ, DD, sB, ok, rs, t, cl⟩ => by
  refine ⟨F, ρ, μ, _, sB, ok, rs, t, fun F1 ds μ1 vs H1 s1 ok1 r1 l1 t1 => ?_⟩
  split at t1
  · obtain ⟨v, r, rfl, q1, q⟩ := reps_cons.mp r1
    obtain ⟨w, u, rfl, q2, q3⟩ := reps2 q
    exact ⟨v, w, u, rfl, cl.nx F1 _ μ1 _ H1 s1 ok1 ((((rs.mono s1.s).set q1 i).set q2 j).set q3 l) t1⟩
  · exact t1.elim
theorem ds_drop (he : DE X B e te) (hs : swapsWith e none pos.line X.env = pure false := by rfl) : DS X B (.Expr e pos) (dDrop te) := PS.by (ps_expr he hs) fun D σ H ⟨F, ρ, μ, DD, sB, ok, rs, t, cl⟩ =>
  ⟨F, ρ, μ, _, sB, ok, rs, t, fun F1 d μ1 v H1 s1 ok1 rd t1 => cl.nx F1 ρ μ1 σ H1 s1 ok1 (rs.mono s1.s) t1⟩
theorem ds_ret (he : DE X B e te) : DS X B (.Return (some e) pos) (dRet te) := PS.by (ps_ret he) fun D σ H ⟨F, ρ, μ, DD, sB, ok, rs, t, cl⟩ => ⟨F, ρ, μ, _, sB, ok, rs, t, cl.rt⟩
theorem ds_retN : DS X B (.Return none pos) dRetN := PS.by ps_retN fun D σ H ⟨F, ρ, μ, DD, sB, ok, rs, t, cl⟩ => cl.rt F .non μ .non H (Stp.refl) ok (rep_non.mpr rfl) t
theorem ds_if {c : Expr} {a b : List Stmt} {tc : DTT} (hc : DT X B c tc) (ha : DSs X B a t) (hb : DSs X B b u) : DS X B (.If c a b pos) (dIfS tc t u) := PS.by (ps_if hc ha hb) fun D σ H ⟨F, ρ, μ, DD, sB, ok, rs, t, cl⟩ => by
  refine ⟨F, ρ, μ, _, sB, ok, rs, t, fun F1 b μ1 H1 s1 ok1 t1 => ?_⟩
  cases b with
  | true => rw [if_pos rfl]; exact ⟨F1, ρ, μ1, DD, sB.trans s1, ok1, rs.mono s1.s, t1, cl.mono s1⟩
  | false => rw [if_neg Bool.false_ne_true]; exact ⟨F1, ρ, μ1, DD, sB.trans s1, ok1, rs.mono s1.s, t1, cl.mono s1⟩
theorem ds_never : DS X B st dNever := ⟨fun _ _ _ _ _ _ ⟨_, _, _, _, _, _, _, h, _⟩ => h.elim⟩
theorem dss_never {sts : List Stmt} : DSs X B sts dNever := ⟨fun _ _ _ _ _ _ ⟨_, _, _, _, _, _, _, h, _⟩ => h.elim⟩
/-- what stands behind may forget some slots -/
def dForget (is : List Nat) (t : DTS) : DTS := fun DD ρ μ => t { DD with nx := dLose is DD.nx, ct := dLose is DD.ct } ρ μ
theorem RelS.loses {K : PySem.W.Frag} {F : Hp} {ρ : DSt} {σ : L2.St} (r : RelS K F ρ σ) : ∀ is : List Nat, RelS K F (is.foldl (fun r i => r.set i none) ρ) σ := by
  intro is
  induction is generalizing ρ with
  | nil => exact r
  | cons i is ih => exact ih (r.lose i)
theorem dss_forget {sts : List Stmt} {t : DTS} (is : List Nat) (h : DSs X B sts t) : DSs X B sts (dForget is t) := PSs.by h fun D σ H ⟨F, ρ, μ, DD, sB, ok, rs, t, cl⟩ =>
  ⟨F, ρ, μ, _, sB, ok, rs, t, ⟨fun F1 ρ1 μ1 σ1 H1 s1 ok1 rs1 t1 => cl.nx F1 _ μ1 σ1 H1 s1 ok1 (rs1.loses is) t1, cl.rt, cl.bk, fun F1 ρ1 μ1 σ1 H1 s1 ok1 rs1 t1 => cl.ct F1 _ μ1 σ1 H1 s1 ok1 (rs1.loses is) t1⟩⟩
end
end Li

set_option Elab.async false
set_option linter.all false
set_option maxRecDepth 100000
set_option maxHeartbeats 1000000
/-! Methods of built-in types, loops, comprehensions over data. -/
namespace Li
open PySem PySem.Spec PyProof.Rows L2
variable [Tbl]

/-- xs.append(e), xs a list of the store -/
def dAppend (to : DTE) (te : DTE) : DTE := fun ρ μ Q => to ρ μ fun x μ1 => match x with
  | .ref a => refL (μ1 a) fun _ => te ρ μ1 fun d μ2 => refL (μ2 a) fun ds => ds.length < sizeLine ∧ Q .non (mset μ2 a (some (.lst (ds ++ [d]))))
  | _ => False
section
variable {X : Cx} {B : Ent} {o e : Expr} {to te : DTE} {apos cpos : Pos}
theorem de_append (ho : DE X B o to) (he : DE X B e te) (hbase : attributeBase o "append" X.env (eval o X.env) = eval o X.env := by rfl)
    (hfew : ((backTo cpos (starEach [e] X.env)).all (fun x => !x.1) && (backToKw cpos (keywordEach [] X.env)).all (fun x => x.1.isSome)
      && decide ([e].length + ([] : List Keyword).length + (if ([] : List Keyword).isEmpty then 0 else 1) < 30)) = true := by rfl)
    (hline : (apos.endLine == cpos.line) = true := by rfl) (hs : starEach [e] X.env = (false, eval e X.env) :: starEach [] X.env := by rfl) (hplain : (backTo cpos (starEach [] X.env)).any (·.1) = false := by rfl) :
    DE X B (.Call (.Attribute o "append" apos) [e] [] cpos) (dAppend to te) :=
  PE.by (pe_bm PySem.F.plainAttrs_list PySem.F.slot_list_append PySem.F.type_list_append mt_append ho (da_cons he da_nil hs) hbase hfew hline hs hplain) fun σ H Q ⟨F, ρ, μ, Qd, sB, ok, rs, t, cl⟩ => by
  refine ⟨F, ρ, μ, _, sB, ok, rs, t, fun F1 x μ1 v H1 s1 ok1 rx t1 => ?_⟩
  split at t1
  · rename_i a
    obtain rfl := rep_ref.mp rx
    obtain ⟨ds0, em, t1⟩ := refL_elim t1
    obtain ⟨_, vs, h1, _⟩ := ok1.lst a ds0 em
    refine ⟨.inl ⟨rfl, _, SqL.of h1⟩, F1, ρ, μ1, (fun ds μ2 => match ds with
        | [d] => refL (μ2 a) fun ds => ds.length < sizeLine ∧ Qd .non (mset μ2 a (some (.lst (ds ++ [d]))))
        | _ => False), sB.trans s1, ok1, rs.mono s1.s, t1, fun F2 ds μ2 ws H2 s2 ok2 r2 l2 t2 => ?_⟩
    cases ds with
    | nil => cases l2
    | cons d r =>
      cases r with
      | cons _ _ => cases l2
      | nil =>
        obtain ⟨w, rfl, rw'⟩ := reps1 r2
        obtain ⟨ds, em2, t2⟩ := refL_elim (show refL (μ2 a) fun ds => ds.length < sizeLine ∧ Qd .non (mset μ2 a (some (.lst (ds ++ [d])))) from t2)
        obtain ⟨hF, vs2, h3, h4⟩ := ok2.lst a ds em2
        exact ⟨a, vs2, w, rfl, rfl, h3, by rw [← h4.length]; exact t2.1, cl F2 _ _ _ _ ((s1.trans s2).trans (stpPut em2)) (ok2.put hF (fun u e => by rw [h3] at e; cases e; exact ⟨_, rfl⟩) (h4.append (.cons rw' (reps_nil.mpr rfl)))) (rep_non.mpr rfl) t2.2⟩
  · exact t1.elim

/-! ### methods of texts -/
abbrev KM0 := Str → MS → DK → Prop
abbrev KM1 := Str → D → MS → DK → Prop
def dM0 (k : KM0) (to : DTE) : DTE := fun ρ μ Q => to ρ μ fun x μ1 => match x with
  | .str a => k a μ1 Q
  | _ => False
def dM1 (k : KM1) (to te : DTE) : DTE := fun ρ μ Q => to ρ μ fun x μ1 => match x with
  | .str a => te ρ μ1 fun y μ2 => k a y μ2 Q
  | _ => False
def kSplit : KM1 := fun a y μ Q => match y with
  | .str b => (b.length == 0) = false ∧ a.length + 2 ≤ sizeLine ∧ Q (.lst ((Txt.split a b).map .str)) μ
  | _ => False
theorem reps_strs {K : PySem.W.Frag} {F : Hp} : ∀ ys : List Str, Reps K F (ys.map .str) (ys.map V.str)
  | [] => reps_nil.mpr rfl
  | y :: ys => .cons (rep_str.mpr rfl) (reps_strs ys)
theorem de_split (ho : DE X B o to) (he : DE X B e te) (hs : starEach [e] X.env = [(false, eval e X.env)] := by rfl) (hbase : attributeBase o "split" X.env (eval o X.env) = eval o X.env := by rfl) (hline : (apos.endLine == cpos.line) = true := by rfl) :
    DE X B (.Call (.Attribute o "split" apos) [e] [] cpos) (dM1 kSplit to te) := PE.by (pe_split ho he hs hbase hline) fun σ H Q ⟨F, ρ, μ, Qd, sB, ok, rs, t, cl⟩ => by
  refine ⟨F, ρ, μ, _, sB, ok, rs, t, fun F1 x μ1 v H1 s1 ok1 rx t1 => ?_⟩
  split at t1
  · rename_i a
    obtain rfl := rep_str.mp rx
    refine ⟨⟨a, rfl⟩, F1, ρ, μ1, _, sB.trans s1, ok1, rs.mono s1.s, t1, fun F2 y μ2 w H2 s2 ok2 ry t2 => ?_⟩
    unfold kSplit at t2
    split at t2
    · rename_i b
      obtain rfl := rep_str.mp ry
      obtain ⟨h1, h2, h3⟩ := t2
      exact ⟨a, b, rfl, rfl, h1, h2, fun p hp => cl_lst ok2 (cl.mono (s1.trans s2)) (reps_strs _) h3 hp⟩
    · exact t2.elim
  · exact t1.elim
def allStr : List D → Option (List Str)
  | [] => some []
  | .str x :: r => (allStr r).map (x :: ·)
  | _ :: _ => none
theorem allStr_of {K : PySem.W.Frag} {F : Hp} : ∀ {ds : List D} {ys : List Str} {vs : List V}, allStr ds = some ys → Reps K F ds vs → vs = ys.map V.str
  | [], ys, vs, h, r => by cases h; rw [reps_nil.mp r]; rfl
  | d :: ds, ys, vs, h, r => by
    obtain ⟨v, t, rfl, r1, r2⟩ := reps_cons.mp r
    cases d with
    | str x =>
      cases e : allStr ds with
      | none => simp [allStr, e] at h
      | some zs =>
        simp [allStr, e] at h
        subst h
        rw [rep_str.mp r1, allStr_of e r2]; rfl
    | _ => simp [allStr] at h
theorem allStr_map : ∀ ys : List Str, allStr (ys.map .str) = some ys
  | [] => rfl
  | y :: ys => by simp [allStr, allStr_map ys]
def kJoin : KM1 := fun a y μ Q => match y with
  | .lst ds => (match allStr ds with
    | some ys => (ys.map (·.length)).sum + ys.length * a.length ≤ 16777216 ∧ Q (.str (Txt.join a ys)) μ
    | none => False)
  | _ => False
theorem de_join (ho : DE X B o to) (he : DE X B e te) (hs : starEach [e] X.env = [(false, eval e X.env)] := by rfl) (hbase : attributeBase o "join" X.env (eval o X.env) = eval o X.env := by rfl) (hline : (apos.endLine == cpos.line) = true := by rfl) :
    DE X B (.Call (.Attribute o "join" apos) [e] [] cpos) (dM1 kJoin to te) := PE.by (pe_join ho he hs hbase hline) fun σ H Q ⟨F, ρ, μ, Qd, sB, ok, rs, t, cl⟩ => by
  refine ⟨F, ρ, μ, _, sB, ok, rs, t, fun F1 x μ1 v H1 s1 ok1 rx t1 => ?_⟩
  split at t1
  · rename_i a
    obtain rfl := rep_str.mp rx
    refine ⟨⟨a, rfl⟩, F1, ρ, μ1, _, sB.trans s1, ok1, rs.mono s1.s, t1, fun F2 y μ2 w H2 s2 ok2 ry t2 => ?_⟩
    unfold kJoin at t2
    split at t2
    · rename_i ds
      obtain ⟨p, vs, rfl, h1, h2⟩ := rep_lst.mp ry
      split at t2
      · rename_i ys e
        have := allStr_of e h2
        subst this
        exact ⟨a, p, ys, rfl, rfl, .inl (SqL.of (ok2.sub _ _ h1)), t2.1, cl F2 _ μ2 _ H2 (s1.trans s2) ok2 (rep_str.mpr rfl) t2.2⟩
      · exact t2.elim
    · exact t2.elim
  · exact t1.elim
def kUpper : KM0 := fun a μ Q => a.length ≤ 5592405 ∧ Q (.str (Txt.upper a)) μ
theorem de_upper (ho : DE X B o to) (hbase : attributeBase o "upper" X.env (eval o X.env) = eval o X.env := by rfl) (hline : (apos.endLine == cpos.line) = true := by rfl) :
    DE X B (.Call (.Attribute o "upper" apos) [] [] cpos) (dM0 kUpper to) := PE.by (pe_upper ho hbase hline) fun σ H Q ⟨F, ρ, μ, Qd, sB, ok, rs, t, cl⟩ => by
  refine ⟨F, ρ, μ, _, sB, ok, rs, t, fun F1 x μ1 v H1 s1 ok1 rx t1 => ?_⟩
  split at t1
  · rename_i a
    obtain rfl := rep_str.mp rx
    exact ⟨⟨a, rfl⟩, a, rfl, rfl, t1.1, cl F1 _ μ1 _ H1 s1 ok1 (rep_str.mpr rfl) t1.2⟩
  · exact t1.elim
end

/-! ### what is walked -/
/-- a list, a tuple, a list of the store (it stays then as it is) -/
def dSeqI (te : DTE) : DTI := fun ρ μ R => te ρ μ fun x μ1 => match x with
  | .tup ds => R ds μ1
  | .lst ds => R ds μ1
  | .ref a => refL (μ1 a) fun ds => R ds (mset μ1 a none)
  | _ => False
def iSeq (K : PySem.W.Frag) (tl : TE) : TI := fun σ H R => tl σ H fun x H1 => (∃ a, x = .ref a ∧ ∃ xs, SqL K H1 a xs ∧ (xs.length ≤ sizeLine → R (Itl K a) H1)) ∨ (∃ a, x = .ref a ∧ ∃ xs, SqT K H1 a xs ∧ (xs.length ≤ sizeLine → R (Itt K a) H1))
theorem pi_seq {X : Cx} {tg l : Expr} {tl : TE} (hl : PE X l tl) : PI X tg l (iSeq X.K tl) := by
  refine ⟨fun pins s σ H R I h => ?_⟩
  refine thn (hl.run pins s σ H _ I h) fun v s1 ⟨x, H1, I1, r1, q1⟩ => ?_
  rcases q1 with ⟨a, e, xs, hq, q⟩ | ⟨a, e, xs, hq, q⟩
  · subst e
    cases r1
    obtain ⟨its, rv, p, hz⟩ := I1.list hq
    refine wpAny_pyIter_list p.isList ?_
    refine ⟨s1.heap.objs.size, [s1.heap.objs.size], _, _, H1, rfl, I1.kept (t' := s1.toks) fun b o e => Heap.get?_push_of_some _ e, turn_list a _, ⟨_, Heap.get?_push_size _ rfl, rfl, rfl⟩, fun b hb => ?_, q hz⟩
    have e : b = s1.heap.objs.size := by simpa using hb
    subst e
    exact I1.fpOk (Nat.le_refl _) (I1.hok.fresh (Nat.le_refl _))
  · subst e
    cases r1
    obtain ⟨its, rv, p, hz⟩ := I1.tuple hq
    refine wpAny_pyIter_tuple (show s1.heap.IsTuple a its.toArray from p) ?_
    refine ⟨s1.heap.objs.size, [s1.heap.objs.size], _, _, H1, rfl, I1.kept (t' := s1.toks) fun b o e => Heap.get?_push_of_some _ e, turn_tuple a _, ⟨_, Heap.get?_push_size _ rfl, rfl, rfl⟩, fun b hb => ?_, q hz⟩
    have e : b = s1.heap.objs.size := by simpa using hb
    subst e
    exact I1.fpOk (Nat.le_refl _) (I1.hok.fresh (Nat.le_refl _))
theorem gives_list {K : PySem.W.Frag} {F : Hp} {a : Addr} {ds : List D} {vs : List V} (h : F a = some (.lst vs)) (r : Reps K F ds vs) : Gives K F ds (Itl K a) := fun i F1 μ1 H1 s ok => by
  have hq : SqL K H1 a vs := SqL.of (ok.sub _ _ (s _ _ h))
  refine ⟨fun d e => ?_, fun hl => ⟨vs, hq, by rw [← r.length]; exact hl⟩⟩
  obtain ⟨v, e', q⟩ := r.get e
  refine ⟨⟨vs, v, hq, e'⟩, fun x H2 ⟨e2, y⟩ => ?_⟩
  subst e2
  have := y vs hq
  rw [e'] at this
  cases this
  exact ⟨F1, Stp.refl, ok, q.mono s⟩
theorem gives_tup {K : PySem.W.Frag} {F : Hp} {a : Addr} {ds : List D} {vs : List V} (h : SqT K F a vs) (r : Reps K F ds vs) : Gives K F ds (Itt K a) := fun i F1 μ1 H1 s ok => by
  have hq : SqT K H1 a vs := ok.sqT (same_sqT s h)
  refine ⟨fun d e => ?_, fun hl => ⟨vs, hq, by rw [← r.length]; exact hl⟩⟩
  obtain ⟨v, e', q⟩ := r.get e
  refine ⟨⟨vs, v, hq, e'⟩, fun x H2 ⟨e2, y⟩ => ?_⟩
  subst e2
  have := y vs hq
  rw [e'] at this
  cases this
  exact ⟨F1, Stp.refl, ok, q.mono s⟩
section
variable {X : Cx} {B : Ent} {tg l : Expr} {tl : DTE}
theorem di_seq (hl : DE X B l tl) : DI X B tg l (dSeqI tl) := PI.by (pi_seq hl) fun σ H R ⟨F, ρ, μ, Qd, sB, ok, rs, t, cl⟩ => by
  refine ⟨F, ρ, μ, _, sB, ok, rs, t, fun F1 x μ1 v H1 s1 ok1 rx t1 => ?_⟩
  split at t1
  · obtain ⟨a, vs, rfl, h1, h2⟩ := rep_tup.mp rx
    exact .inr ⟨a, rfl, vs, ok1.sqT h1, fun hz => cl F1 _ μ1 H1 _ s1 ok1 (by rw [h2.length]; exact hz) (gives_tup h1 h2) t1⟩
  · obtain ⟨a, vs, rfl, h1, h2⟩ := rep_lst.mp rx
    exact .inl ⟨a, rfl, vs, SqL.of (ok1.sub _ _ h1), fun hz => cl F1 _ μ1 H1 _ s1 ok1 (by rw [h2.length]; exact hz) (gives_list h1 h2) t1⟩
  · rename_i a
    obtain rfl := rep_ref.mp rx
    obtain ⟨ds, em, t1⟩ := refL_elim t1
    obtain ⟨F2, s2, ok2, r2⟩ := ok1.freeze em
    obtain ⟨a', vs, e, h1, h2⟩ := rep_lst.mp r2
    cases e
    exact .inl ⟨a, rfl, vs, SqL.of (ok2.sub _ _ h1), fun hz => cl F2 _ _ H1 _ (s1.trans s2) ok2 (by rw [h2.length]; exact hz) (gives_list h1 h2) t1⟩
  · exact t1.elim

/-! ranges -/
def intsD (lo : Int) (n : Nat) : List D := (List.range n).map fun i : Nat => D.int (lo + (i : Int))
theorem intsD_get {lo : Int} {n i : Nat} : (intsD lo n)[i]? = if i < n then some (.int (lo + i)) else none := by
  unfold intsD
  rw [List.getElem?_map]
  by_cases h : i < n
  · rw [if_pos h, List.getElem?_range h]; rfl
  · rw [if_neg h, List.getElem?_eq_none (by simpa using h)]; rfl
theorem intsD_length {lo : Int} {n : Nat} : (intsD lo n).length = n := by simp [intsD]
theorem gives_range {K : PySem.W.Frag} {F : Hp} {lo : Int} {n : Nat} : Gives K F (intsD lo n) (Itr lo n) := fun i F1 μ1 H1 s ok => by
  refine ⟨fun d e => ?_, fun hl => by rw [intsD_length] at hl; exact hl⟩
  rw [intsD_get] at e
  by_cases h : i < n
  · rw [if_pos h] at e
    cases e
    exact ⟨h, fun x H2 ⟨e2, y⟩ => ⟨F1, by rw [e2]; exact Stp.refl, by rw [e2]; exact ok, rep_int.mpr y⟩⟩
  · rw [if_neg h] at e; cases e
def dRange1 (ta : DTA) : DTI := fun ρ μ R => ta ρ μ fun ds μ1 => match ds with
  | [.int j] => j ≤ 16777216 ∧ -(2 ^ 62) ≤ j ∧ R (intsD 0 j.toNat) μ1
  | _ => False
def dRange2 (ta : DTA) : DTI := fun ρ μ R => ta ρ μ fun ds μ1 => match ds with
  | [.int i, .int j] => (0 ≤ i ∧ i ≤ 16777216) ∧ (j ≤ 16777216 ∧ -(2 ^ 62) ≤ j) ∧ R (intsD i (j - i).toNat) μ1
  | _ => False
theorem di_range1 {a : Expr} {ta : DTA} {n : Nat} {p pos : Pos} (hg : Gl X "range") (hm : X.mg "range" = none) (ha : DAn X B [a] n ta) (hs : starEach [a] X.env = [(false, eval a X.env)] := by rfl) :
    DI X B tg (.Call (.Name "range" p) [a] [] pos) (dRange1 ta) := PI.by (pi_range1 hg hm ha hs) fun σ H R ⟨F, ρ, μ, Qd, sB, ok, rs, t, cl⟩ => by
  refine ⟨F, ρ, μ, _, sB, ok, rs, t, fun F1 ds μ1 vs H1 s1 ok1 r1 hn1 t1 => ?_⟩
  split at t1
  · rename_i j
    obtain ⟨v, rfl, r⟩ := reps1 r1
    obtain rfl := rep_int.mp r
    clear hn1
    obtain ⟨h1, h2, h3⟩ := t1
    have hs : sizeLine = 16777216 := sizeLine_eq
    exact ⟨j, rfl, h2, by omega, cl F1 _ μ1 H1 _ s1 ok1 (by rw [intsD_length]; omega) gives_range h3⟩
  · exact t1.elim
theorem di_range2 {a b : Expr} {ta : DTA} {n : Nat} {p pos : Pos} (hg : Gl X "range") (hm : X.mg "range" = none) (ha : DAn X B [a, b] n ta) (hs : starEach [a, b] X.env = [(false, eval a X.env), (false, eval b X.env)] := by rfl) (hs2 : starEach [b] X.env = [(false, eval b X.env)] := by rfl) :
    DI X B tg (.Call (.Name "range" p) [a, b] [] pos) (dRange2 ta) := PI.by (pi_range2 hg hm ha hs hs2) fun σ H R ⟨F, ρ, μ, Qd, sB, ok, rs, t, cl⟩ => by
  refine ⟨F, ρ, μ, _, sB, ok, rs, t, fun F1 ds μ1 vs H1 s1 ok1 r1 hn1 t1 => ?_⟩
  split at t1
  · rename_i i j
    obtain ⟨v, w, rfl, r, r'⟩ := reps2 r1
    obtain rfl := rep_int.mp r
    obtain rfl := rep_int.mp r'
    clear hn1
    obtain ⟨h1, h2, h3⟩ := t1
    have hs : sizeLine = 16777216 := sizeLine_eq
    exact ⟨i, j, rfl, ⟨by omega, by omega, by omega, by omega⟩, cl F1 _ μ1 H1 _ s1 ok1 (by rw [intsD_length]; omega) gives_range h3⟩
  · exact t1.elim
/-! texts -/
def dStrI (te : DTE) : DTI := fun ρ μ R => te ρ μ fun x μ1 => match x with
  | .str a => a.length ≤ sizeLine ∧ R (a.cps.toList.map fun c => D.str ⟨#[c]⟩) μ1
  | _ => False
theorem di_str (hl : DE X B l tl) : DI X B tg l (dStrI tl) := PI.by (pi_str hl) fun σ H R ⟨F, ρ, μ, Qd, sB, ok, rs, t, cl⟩ => by
  refine ⟨F, ρ, μ, _, sB, ok, rs, t, fun F1 x μ1 v H1 s1 ok1 rx t1 => ?_⟩
  split at t1
  · rename_i a
    obtain rfl := rep_str.mp rx
    refine ⟨a, rfl, cl F1 _ μ1 H1 _ s1 ok1 (show (a.cps.toList.map fun c => D.str ⟨#[c]⟩).length ≤ sizeLine by rw [List.length_map, Array.length_toList]; exact t1.1) (fun i F2 μ2 H2 s ok => ⟨fun d e => ?_, fun hl => ?_⟩) t1.2⟩
    · rw [List.getElem?_map] at e
      cases e2 : a.cps.toList[i]? with
      | none => rw [e2] at e; cases e
      | some c =>
        rw [e2] at e; cases e
        have hc : a.cps[i]? = some c := by simpa using e2
        have hi : i < a.cps.size := (Array.getElem?_eq_some_iff.mp hc).1
        refine ⟨hi, fun x H3 ⟨e3, c', hc', e4⟩ => ?_⟩
        rw [hc] at hc'; cases hc'
        exact ⟨F2, by rw [e3]; exact Stp.refl, by rw [e3]; exact ok, rep_str.mpr e4⟩
    · show a.cps.size ≤ i
      simpa using hl
  · exact t1.elim
/-! enumerate, zip -/
def enumD (ds : List D) : List D := ds.zipIdx.map fun (d, i) => .tup [.int i, d]
theorem enumD_get {ds : List D} {i : Nat} : (enumD ds)[i]? = (ds[i]?).map fun d => D.tup [.int i, d] := by
  unfold enumD
  rw [List.getElem?_map, List.getElem?_zipIdx]
  cases ds[i]? with
  | none => rfl
  | some d => simp
def dEnum (ta : DTA) : DTI := fun ρ μ R => ta ρ μ fun ds μ1 => match ds with
  | [.lst ds] => R (enumD ds) μ1
  | _ => False
theorem di_enum {e : Expr} {ta : DTA} {n : Nat} {p pos tpos : Pos} {elts : List Expr} {kk : Nat} (hg : Gl X "enumerate") (hm : X.mg "enumerate" = none) (ha : DAn X B [e] n ta) (hs : starEach [e] X.env = [(false, eval e X.env)] := by rfl) :
    DI X B (.Tuple elts kk tpos) (.Call (.Name "enumerate" p) [e] [] pos) (dEnum ta) := PI.by (pi_enum hg hm (PA.lined ha) hs) fun σ H R ⟨F, ρ, μ, Qd, sB, ok, rs, t, cl⟩ => by
  refine ⟨F, ρ, μ, _, sB, ok, rs, t, fun F1 ds μ1 vs H1 s1 ok1 r1 hn1 t1 hL => ?_⟩
  split at t1
  · rename_i ds
    obtain ⟨v, rfl, r⟩ := reps1 r1
    obtain ⟨a, ws, rfl, h1, h2⟩ := rep_lst.mp r
    have hz := hL _ List.mem_cons_self a ws rfl (.inl (SqL.of (ok1.sub _ _ h1)))
    refine ⟨a, ws, rfl, SqL.of (ok1.sub _ _ h1), cl F1 _ μ1 H1 _ s1 ok1 (by unfold enumD; simp; rw [h2.length]; exact hz) (fun i F2 μ2 H2 s ok => ?_) t1⟩
    have hq : SqL X.K H2 a ws := SqL.of (ok.sub _ _ (s _ _ h1))
    refine ⟨fun d e => ?_, fun hl => ⟨ws, hq, by rw [← h2.length]; simpa [enumD] using hl⟩⟩
    rw [enumD_get] at e
    cases e2 : ds[i]? with
    | none => rw [e2] at e; cases e
    | some d' =>
      rw [e2] at e; cases e
      obtain ⟨w, ew, rw'⟩ := h2.get e2
      refine ⟨⟨ws, w, hq, ew⟩, fun x H3 ⟨T, y, e3, hT, e4, e5⟩ => ?_⟩
      have := e5 ws hq
      rw [ew] at this; cases this
      subst e3 e4
      have sF := same_upd (o := HO.tup [.int (i : Nat), w]) (ok.freeF hT)
      exact ⟨_, ok.stpFrozen hT, ok.frozen hT, rep_tup.mpr ⟨T, _, rfl, SqT.of upd_same, .cons (rep_int.mpr rfl) (.cons ((rw'.mono s).mono sF) (reps_nil.mpr rfl))⟩⟩
  · exact t1.elim
def zipD (ds es : List D) : List D := List.zipWith (fun d e => .tup [d, e]) ds es
theorem zipD_get {ds es : List D} {i : Nat} {d : D} (h : (zipD ds es)[i]? = some d) : ∃ x y, ds[i]? = some x ∧ es[i]? = some y ∧ d = .tup [x, y] := by
  unfold zipD at h
  rw [List.getElem?_zipWith] at h
  cases e1 : ds[i]? with
  | none => rw [e1] at h; cases h
  | some x =>
    cases e2 : es[i]? with
    | none => rw [e1, e2] at h; cases h
    | some y => rw [e1, e2] at h; cases h; exact ⟨x, y, rfl, rfl, rfl⟩
/-- both lists, or both tuples -/
def dZip (ta : DTA) : DTI := fun ρ μ R => ta ρ μ fun ds μ1 => match ds with
  | [.lst ds, .lst es] => R (zipD ds es) μ1
  | [.tup ds, .tup es] => R (zipD ds es) μ1
  | _ => False
theorem di_zip {e e2 : Expr} {ta : DTA} {n : Nat} {p pos tpos : Pos} {elts : List Expr} {kk : Nat} (hg : Gl X "zip") (hm : X.mg "zip" = none) (ha : DAn X B [e, e2] n ta)
    (hs : starEach [e, e2] X.env = (false, eval e X.env) :: starEach [e2] X.env := by rfl) (hpl : (backTo pos (starEach [e2] X.env)).any (·.1) = false := by rfl) :
    DI X B (.Tuple elts kk tpos) (.Call (.Name "zip" p) [e, e2] [] pos) (dZip ta) := PI.by (RZ.pi_zipA hg hm (PA.lined ha) hs hpl) fun σ H R ⟨F, ρ, μ, Qd, sB, ok, rs, t, cl⟩ => by
  refine ⟨F, ρ, μ, _, sB, ok, rs, t, fun F1 ds μ1 vs H1 s1 ok1 r1 hn1 t1 hL => ?_⟩
  split at t1
  · rename_i ds es
    obtain ⟨v, w, rfl, r, r'⟩ := reps2 r1
    obtain ⟨a, ws, rfl, h1, h2⟩ := rep_lst.mp r
    obtain ⟨b, us, rfl, h3, h4⟩ := rep_lst.mp r'
    have hz := hL _ List.mem_cons_self a ws rfl (.inl (SqL.of (ok1.sub _ _ h1)))
    refine ⟨a, b, ws, us, rfl, .inl ⟨SqL.of (ok1.sub _ _ h1), SqL.of (ok1.sub _ _ h3), cl F1 _ μ1 H1 _ s1 ok1 (by unfold zipD; rw [List.length_zipWith, h2.length]; omega) (fun i F2 μ2 H2 s ok => ?_) t1⟩⟩
    have hq : SqL X.K H2 a ws := SqL.of (ok.sub _ _ (s _ _ h1))
    have hq2 : SqL X.K H2 b us := SqL.of (ok.sub _ _ (s _ _ h3))
    refine ⟨fun d e => ?_, fun hl => ⟨ws, us, hq, hq2, ?_⟩⟩
    · obtain ⟨x, y, ex, ey, rfl⟩ := zipD_get e
      obtain ⟨w1, ew1, rw1⟩ := h2.get ex
      obtain ⟨w2, ew2, rw2⟩ := h4.get ey
      refine ⟨⟨ws, us, w1, w2, hq, hq2, ew1, ew2⟩, fun x H3 ⟨T, y1, y2, e3, hT, e4, e5, e6⟩ => ?_⟩
      have q1 := e5 ws hq
      have q2 := e6 us hq2
      rw [ew1] at q1; cases q1
      rw [ew2] at q2; cases q2
      subst e3 e4
      have sF := same_upd (o := HO.tup [w1, w2]) (ok.freeF hT)
      exact ⟨_, ok.stpFrozen hT, ok.frozen hT, rep_tup.mpr ⟨T, _, rfl, SqT.of upd_same, .cons ((rw1.mono s).mono sF) (.cons ((rw2.mono s).mono sF) (reps_nil.mpr rfl))⟩⟩
    · unfold zipD at hl
      rw [List.length_zipWith, h2.length, h4.length] at hl
      omega
  · rename_i ds es
    obtain ⟨v, w, rfl, r, r'⟩ := reps2 r1
    obtain ⟨a, ws, rfl, h1, h2⟩ := rep_tup.mp r
    obtain ⟨b, us, rfl, h3, h4⟩ := rep_tup.mp r'
    have hz := hL _ List.mem_cons_self a ws rfl (.inr (ok1.sqT h1))
    refine ⟨a, b, ws, us, rfl, .inr ⟨ok1.sqT h1, ok1.sqT h3, cl F1 _ μ1 H1 _ s1 ok1 (by unfold zipD; rw [List.length_zipWith, h2.length]; omega) (fun i F2 μ2 H2 s ok => ?_) t1⟩⟩
    have hq : SqT X.K H2 a ws := ok.sqT (same_sqT s h1)
    have hq2 : SqT X.K H2 b us := ok.sqT (same_sqT s h3)
    refine ⟨fun d e => ?_, fun hl => ⟨ws, us, hq, hq2, ?_⟩⟩
    · obtain ⟨x, y, ex, ey, rfl⟩ := zipD_get e
      obtain ⟨w1, ew1, rw1⟩ := h2.get ex
      obtain ⟨w2, ew2, rw2⟩ := h4.get ey
      refine ⟨⟨ws, us, w1, w2, hq, hq2, ew1, ew2⟩, fun x H3 ⟨T, y1, y2, e3, hT, e4, e5, e6⟩ => ?_⟩
      have q1 := e5 ws hq
      have q2 := e6 us hq2
      rw [ew1] at q1; cases q1
      rw [ew2] at q2; cases q2
      subst e3 e4
      have sF := same_upd (o := HO.tup [w1, w2]) (ok.freeF hT)
      exact ⟨_, ok.stpFrozen hT, ok.frozen hT, rep_tup.mpr ⟨T, _, rfl, SqT.of upd_same, .cons ((rw1.mono s).mono sF) (.cons ((rw2.mono s).mono sF) (reps_nil.mpr rfl))⟩⟩
    · unfold zipD at hl
      rw [List.length_zipWith, h2.length, h4.length] at hl
      omega
  · exact t1.elim
end

/-! ### for -/
def forL (g : DTG) (tb : DTS) (DD : DEnds) : List D → DPS
  | [] => DD.nx
  | d :: ds => fun ρ μ => g d ρ μ fun ρ1 μ1 => tb { DD with nx := forL g tb DD ds, ct := forL g tb DD ds, bk := DD.nx } ρ1 μ1
def dFor (ti : DTI) (g : DTG) (tb : DTS) : DTS := fun DD ρ μ => ti ρ μ fun ds μ1 => forL g tb DD ds ρ μ1
theorem ls_for {K : PySem.W.Frag} {B : Ent} {ti : DTI} {g : DTG} {tb : DTS} {D : Ends} {σ : L2.St} {H : Hp} (h : LS K B (dFor ti g tb) D σ H) : tFor (LI K B ti) (LG K B g) (LS K B tb) D σ H := by
  obtain ⟨F, ρ, μ, DD, sB, ok, rs, t, cl⟩ := h
  refine ⟨F, ρ, μ, _, sB, ok, rs, t, fun F1 ds μ1 H1 J s1 ok1 hz gv q => ?_⟩
  refine ⟨fun i m σ' H' => m = ds.length - i ∧ i ≤ ds.length ∧ ∃ F' ρ' μ', Stp F1 μ1 H1 F' μ' H' ∧ Ok K F' μ' H' ∧ RelS K F' ρ' σ' ∧ forL g tb DD (ds.drop i) ρ' μ', ⟨ds.length, by simp, Nat.zero_le _, F1, ρ, μ1, Stp.refl, ok1, rs.mono s1.s, q⟩, ?_⟩
  rintro i m σ' H' ⟨rfl, hi, F', ρ', μ', s', ok', rs', q'⟩
  have gi := gv i F' μ' H' s'.s ok'
  by_cases hlt : i < ds.length
  · obtain ⟨go, step⟩ := gi.1 ds[i] (List.getElem?_eq_getElem hlt)
    rw [List.drop_eq_getElem_cons hlt] at q'
    refine .inr ⟨go, fun σ2 H2 => i + 1 ≤ ds.length ∧ ∃ F2 ρ2 μ2, Stp F1 μ1 H1 F2 μ2 H2 ∧ Ok K F2 μ2 H2 ∧ RelS K F2 ρ2 σ2 ∧ forL g tb DD (ds.drop (i + 1)) ρ2 μ2, fun σ2 H2 h2 => ⟨ds.length - (i + 1), by omega, rfl, h2.1, h2.2⟩, fun x H2 y => ?_⟩
    obtain ⟨F2, s2, ok2, rx⟩ := step x H2 y
    refine ⟨F2, ds[i], ρ', μ', _, (sB.trans s1).trans (s'.trans s2), ok2, rs'.mono s2.s, rx, q', fun F3 ρ3 μ3 σ3 H3 s3 ok3 rs3 q3 => ?_⟩
    have s13 := (s'.trans s2).trans s3
    refine ⟨F3, ρ3, μ3, _, (sB.trans s1).trans s13, ok3, rs3, q3, ?_⟩
    have c := cl.mono (s1.trans s13)
    exact ⟨fun F4 ρ4 μ4 σ4 H4 s4 ok4 rs4 q4 => ⟨hlt, F4, ρ4, μ4, s13.trans s4, ok4, rs4, q4⟩, c.rt, c.nx, fun F4 ρ4 μ4 σ4 H4 s4 ok4 rs4 q4 => ⟨hlt, F4, ρ4, μ4, s13.trans s4, ok4, rs4, q4⟩⟩
  · have e : i = ds.length := by omega
    subst e
    rw [List.drop_length] at q'
    exact .inl ⟨gi.2 (Nat.le_refl _), cl.nx F' ρ' μ' σ' H' (s1.trans s') ok' rs' q'⟩
section
variable {X : Cx} {B : Ent} {tg iter : Expr} {body : List Stmt} {ti : DTI} {g : DTG} {tb : DTS} {pos : Pos}
theorem ds_for (hp : PassesOwn (model X.prog X.w) X.A X.env X.xe) (hc : X.calm = true) (hi : DI X B tg iter ti) (hg : DG X B tg g) (hb : DSs X B body tb) (hs : ∀ x, foldedSetIterable iter X.env x = pure x := by intro _; rfl) :
    DS X B (.For tg iter body [] pos) (dFor ti g tb) := PS.by (ps_for hp hc hi hg hb hs) fun _ _ _ => ls_for
/-- while, by an invariant with its measure -/
def dWhile (c : DTT) (tb : DTS) : DTS := fun DD ρ μ => ∃ W : Nat → DSt → MS → Prop, (∃ m, W m ρ μ) ∧ ∀ m ρ μ, W m ρ μ →
  c ρ μ fun b μ1 => bcase b (∃ N : DPS, (∀ ρ' μ', N ρ' μ' → ∃ m', m' < m ∧ W m' ρ' μ') ∧ tb { DD with nx := N, ct := N, bk := DD.nx } ρ μ1) (DD.nx ρ μ1)
theorem ds_while {c : Expr} {tc : DTT} (hp : PassesOwn (model X.prog X.w) X.A X.env X.xe) (hc : DT X B c tc) (hb : DSs X B body tb) : DS X B (.While c body [] pos) (dWhile tc tb) := PS.by (ps_while hp hc hb) fun D σ H ⟨F, ρ, μ, DD, sB, ok, rs, ⟨W, ⟨m0, w0⟩, turn⟩, cl⟩ => by
  refine ⟨fun m σ' H' => ∃ F' ρ' μ', Stp F μ H F' μ' H' ∧ Ok X.K F' μ' H' ∧ RelS X.K F' ρ' σ' ∧ W m ρ' μ', ⟨m0, F, ρ, μ, Stp.refl, ok, rs, w0⟩, ?_⟩
  rintro m σ' H' ⟨F', ρ', μ', s', ok', rs', w'⟩
  refine ⟨F', ρ', μ', _, sB.trans s', ok', rs', turn m ρ' μ' w', fun F1 b μ1 H1 s1 ok1 q1 => ?_⟩
  have sF := s'.trans s1
  cases b with
  | true =>
    refine iteT ?_
    obtain ⟨N, hN, q1⟩ := q1
    refine ⟨fun σ2 H2 => ∃ F2 ρ2 μ2, Stp F μ H F2 μ2 H2 ∧ Ok X.K F2 μ2 H2 ∧ RelS X.K F2 ρ2 σ2 ∧ N ρ2 μ2, fun σ2 H2 ⟨F2, ρ2, μ2, s2, ok2, rs2, n2⟩ => ?_, ?_⟩
    · obtain ⟨m', hm, w2⟩ := hN ρ2 μ2 n2
      exact ⟨m', hm, F2, ρ2, μ2, s2, ok2, rs2, w2⟩
    · have c := cl.mono sF
      exact ⟨F1, ρ', μ1, _, sB.trans sF, ok1, rs'.mono s1.s, q1, ⟨fun F4 ρ4 μ4 σ4 H4 s4 ok4 rs4 q4 => ⟨F4, ρ4, μ4, sF.trans s4, ok4, rs4, q4⟩, c.rt, c.nx, fun F4 ρ4 μ4 σ4 H4 s4 ok4 rs4 q4 => ⟨F4, ρ4, μ4, sF.trans s4, ok4, rs4, q4⟩⟩⟩
  | false =>
    refine iteF ?_
    exact cl.nx F1 ρ' μ1 σ' H1 sF ok1 (rs'.mono s1.s) q1
end
end Li

set_option Elab.async false
set_option linter.all false
set_option maxRecDepth 100000
set_option maxHeartbeats 1000000
/-! Comprehensions, calls of the program's own defs, errors, over data. -/
namespace Li
open PySem PySem.Spec PyProof.Rows L2
variable [Tbl]

/-! ### comprehensions -/
def dwipe (ρ : DSt) : List Nat → DSt
  | [] => ρ
  | v :: vs => (dwipe ρ vs).set v none
theorem RelS.wipe {K : PySem.W.Frag} {F : Hp} {ρ : DSt} {σ : L2.St} (r : RelS K F ρ σ) : ∀ vs : List Nat, RelS K F (dwipe ρ vs) (L2.wipe σ vs)
  | [] => r
  | v :: vs => by
    have ih := RelS.wipe r vs
    refine ⟨by simp only [dwipe, L2.wipe, List.length_set, ih.len], fun j d h => ?_⟩
    simp only [dwipe, L2.wipe] at h ⊢
    by_cases hj : v = j
    · subst hj
      by_cases hl : v < (dwipe ρ vs).length
      · rw [List.getElem?_set_self hl] at h; cases h
      · rw [List.getElem?_eq_none (by rw [List.length_set]; omega)] at h; cases h
    · rw [List.getElem?_set_ne hj] at h ⊢
      exact ih.at_ j d h
theorem set_comm_none {σ : L2.St} {i j : Nat} {x : Option V} (h : i ≠ j) : (σ.set i x).set j none = (σ.set j none).set i x := List.set_comm _ _ h
theorem wipe_set {σ : L2.St} {i : Nat} {x : V} : ∀ {vs : List Nat}, i ∈ vs → wipe (σ.set i (some x)) vs = wipe σ vs
  | [], h => by cases h
  | v :: vs, h => by
    by_cases hv : i = v
    · subst hv
      have : ∀ ws : List Nat, (wipe (σ.set i (some x)) ws).set i none = (wipe σ ws).set i none := by
        intro ws
        induction ws with
        | nil => simp [wipe]
        | cons w ws ih =>
          simp only [wipe]
          by_cases hw : w = i
          · subst hw; simp [ih]
          · rw [List.set_comm _ _ hw, ih, List.set_comm _ _ (Ne.symm hw)]
      simp only [wipe]
      exact this vs
    · have : i ∈ vs := by
        rcases List.mem_cons.mp h with e | e
        · exact absurd e hv
        · exact e
      simp only [wipe, wipe_set this]
theorem set_wipe {i : Nat} : ∀ {vs : List Nat} {σ : L2.St}, (wipe (σ.set i none) vs) = (wipe σ vs).set i none
  | [], σ => rfl
  | v :: vs, σ => by
    simp only [wipe]
    rw [set_wipe]
    by_cases hv : v = i
    · subst hv; rfl
    · rw [List.set_comm _ _ hv]
theorem wipe_idem {σ : L2.St} : ∀ {vs : List Nat}, wipe (wipe σ vs) vs = wipe σ vs
  | [] => rfl
  | v :: vs => by
    simp only [wipe]
    rw [set_wipe, wipe_idem, List.set_set]
def gNms : List Nat → TGs
  | [] => gNil
  | i :: is => gCons (gName i) (gNms is)
def dNms : List Nat → DTGs
  | [] => dGNil
  | i :: is => dGCons (dName i) (dNms is)
theorem gNms_stays {vs : List Nat} : ∀ {is : List Nat} {xs : List V} {σ : L2.St} {H : Hp} {Q : L2.St → Hp → Prop}, (∀ i ∈ is, i ∈ vs) → gNms is xs σ H Q → gNms is xs σ H fun σ2 H2 => wipe σ2 vs = wipe σ vs ∧ Q σ2 H2
  | [], xs, σ, H, Q, _, ⟨e, q⟩ => ⟨e, rfl, q⟩
  | i :: is, xs, σ, H, Q, h, ⟨v, r, e, q⟩ => by
    refine ⟨v, r, e, ?_⟩
    have q' := gNms_stays (fun j hj => h j (List.mem_cons_of_mem _ hj)) q
    rw [wipe_set (h i List.mem_cons_self)] at q'
    exact q'
theorem gNms_of {K : PySem.W.Frag} {B : Ent} : ∀ {is : List Nat} {xs : List V} {σ : L2.St} {H : Hp} {Q : L2.St → Hp → Prop}, LGs K B (dNms is) xs σ H Q → gNms is xs σ H Q
  | [], xs, σ, H, Q, ⟨F, ds, ρ, μ, Qd, sB, ok, rs, rd, t, cl⟩ => by
    cases ds with
    | nil => exact ⟨reps_nil.mp rd, cl F _ μ _ H (Stp.refl) ok rs t⟩
    | cons d r => exact t.elim
  | i :: is, xs, σ, H, Q, ⟨F, ds, ρ, μ, Qd, sB, ok, rs, rd, t, cl⟩ => by
    cases ds with
    | nil => exact t.elim
    | cons d r =>
      obtain ⟨v, w, rfl, r1, r2⟩ := reps_cons.mp rd
      exact ⟨v, w, rfl, gNms_of ⟨F, r, _, μ, Qd, sB, ok, rs.set r1 i, r2, t, cl⟩⟩
/-- a comprehension's target -/
structure CTg (X : Cx) (B : Ent) (scope : Scope) (vs : List Nat) (tg : Expr) (td : DTG) : Prop where
  ex : ∃ tv : TG, (∀ (s : Shared) (H : Hp) (C : Addr) (cl : List (Str × Addr)) (fp : List Addr), PG (X.blk s H scope (compEnvC scope cl C X.env) fp) tg tv) ∧
    (∀ v σ H Q, tv v σ H Q → tv v σ H fun σ2 H2 => wipe σ2 vs = wipe σ vs ∧ Q σ2 H2) ∧ ∀ v σ H Q, LG X.K B td v σ H Q → tv v σ H Q
theorem ctg_name {X : Cx} {B : Ent} {scope : Scope} {vs : List Nat} {tg : Expr} (i : Nat) (h : ∀ (s : Shared) (H : Hp) (C : Addr) (cl : List (Str × Addr)) (fp : List Addr), PG (X.blk s H scope (compEnvC scope cl C X.env) fp) tg (gName i)) (hi : i ∈ vs := by decide) : CTg X B scope vs tg (dName i) :=
  ⟨gName i, h, fun v σ H Q q => ⟨wipe_set hi, q⟩, fun v σ H Q ⟨F, d, ρ, μ, Qd, sB, ok, rs, rd, t, cl⟩ => cl F _ μ _ H (Stp.refl) ok (rs.set rd i) t⟩
theorem ctg_tup {X : Cx} {B : Ent} {scope : Scope} {vs : List Nat} {tg : Expr} {n : Nat} (is : List Nat) (h : ∀ (s : Shared) (H : Hp) (C : Addr) (cl : List (Str × Addr)) (fp : List Addr), PG (X.blk s H scope (compEnvC scope cl C X.env) fp) tg (gTup X.K n (gNms is))) (hi : ∀ i ∈ is, i ∈ vs := by decide) :
    CTg X B scope vs tg (dGTup n (dNms is)) :=
  ⟨gTup X.K n (gNms is), h, fun v σ H Q ⟨a, xs, e, h1, h2, q⟩ => ⟨a, xs, e, h1, h2, gNms_stays hi q⟩, fun v σ H Q ⟨F, d, ρ, μ, Qd, sB, ok, rs, rd, t, cl⟩ => by
    unfold dGTup at t
    split at t
    · rename_i ds
      obtain ⟨a, ws, rfl, h1, h2⟩ := rep_tup.mp rd
      cases e : (ds.length == n) with
      | false => rw [e] at t; exact t.elim
      | true =>
        rw [e] at t
        exact ⟨a, ws, rfl, ok.sqT h1, by rw [← h2.length]; exact eq_of_beq e, gNms_of ⟨F, ds, ρ, μ, Qd, sB, ok, rs, h2, t, cl⟩⟩
    · exact t.elim⟩
def lcL (g : DTG) (tt : DTT) (te : DTE) (ρ : DSt) : List D → MS → (List D → MS → Prop) → Prop
  | [], μ, Q => Q [] μ
  | d :: ds, μ, Q => g d ρ μ fun ρ2 μ2 => tt ρ2 μ2 fun b μ3 => bcase b (te ρ2 μ3 fun y μ4 => lcL g tt te ρ ds μ4 fun r μ5 => Q (y :: r) μ5) (lcL g tt te ρ ds μ3 Q)
def dYes : DTT := fun _ μ Q => Q true μ
/-- [e for target in iter if test], the new list by value, or in the store -/
def dLc (ti : DTI) (g : DTG) (tt : DTT) (te : DTE) (vs : List Nat) : DTE := fun ρ μ Q => ti ρ μ fun ds μ1 => lcL g tt te (dwipe ρ vs) ds μ1 fun r μ2 => Q (.lst r) μ2
def dLcM (ti : DTI) (g : DTG) (tt : DTT) (te : DTE) (vs : List Nat) : DTE := fun ρ μ Q => ti ρ μ fun ds μ1 => lcL g tt te (dwipe ρ vs) ds μ1 fun r μ2 => ∀ a, μ2 a = none → Q (.ref a) (mset μ2 a (some (.lst r)))
theorem Ok.skip {K : PySem.W.Frag} {F : Hp} {μ : MS} {H : Hp} {p : Addr} {o : HO} (ok : Ok K F μ H) (hF : F p = none) (hm : μ p = none) (hx : ∀ u, H p = some u → ∃ xs, u = .lst xs) : Ok K F μ (upd H p o) := by
  have ne : ∀ {a m}, μ a = some m → a ≠ p := fun {a m} e z => by subst z; rw [hm] at e; cases e
  refine ⟨fun b u q => by rw [upd_ne (ne_of_none q hF)]; exact ok.sub b u q, fun a ds e => ?_, fun a C fs e => ?_, tabs_put ok.tab hx, ok.ntb⟩
  · obtain ⟨h1, vs, h2, h3⟩ := ok.lst a ds e
    exact ⟨h1, vs, by rw [upd_ne (ne e)]; exact h2, h3⟩
  · obtain ⟨h1, dx, vfs, h2, h3⟩ := ok.ins a C fs e
    exact ⟨h1, dx, vfs, by rw [upd_ne (ne e)]; exact h2, h3⟩
section
variable {X : Cx} {B : Ent}
abbrev DTs (X : Cx) (B : Ent) (ifs : List Expr) (t : DTT) : Prop := PTs X ifs (LT X.K B t)
theorem dts_nil : DTs X B [] dYes := ⟨fun pins s σ H Q I ⟨F, ρ, μ, Qd, sB, ok, rs, t, cl⟩ => pts_nil.run pins s σ H Q I (cl F true μ H Stp.refl ok t)⟩
theorem dts_one {c : Expr} {t : DTT} (h : DT X B c t) : DTs X B [c] t := pts_one h
def tLcP (P : Hp → Prop) (wi : TI) (g : TG) (tt : TT) (te : TE) (vs : List Nat) : TE := fun σ H Q => wi σ H fun J H1 => ∀ D, H1 D = none → ∃ W : Nat → Nat → Hp → Prop, (∃ m, W 0 m (upd H1 D (.lst []))) ∧ (∀ i m H, W i m H → P H) ∧ ∀ i m H, W i m H →
  (J.stop i H ∧ Q (.ref D) H) ∨ (J.go i H ∧ ∃ Nx : Hp → Prop, (∀ H', Nx H' → ∃ m', m' < m ∧ W (i + 1) m' H') ∧ ∀ x H', J.yld i H x H' → g x (wipe σ vs) H' fun σ2 H2 => wipe σ2 vs = wipe σ vs ∧ tt σ2 H2 fun b H3 =>
    if b = true then te σ2 H3 fun y H4 => ∃ acc, H4 D = some (.lst acc) ∧ acc.length < sizeLine ∧ Nx (upd H4 D (.lst (acc ++ [y]))) else Nx H3)
theorem tLcP.lc {P : Hp → Prop} {K : PySem.W.Frag} {ti : DTI} {g : TG} {tt : TT} {te : TE} {vs : List Nat} {σ : L2.St} {H : Hp} {Q : VK} (h : tLcP P (LI K B ti) g tt te vs σ H Q) : tLc (LI K B ti) g tt te vs σ H Q := by
  obtain ⟨F, ρ, μ, Qd, sB, ok, rs, t, cl⟩ := h
  refine ⟨F, ρ, μ, Qd, sB, ok, rs, t, fun F1 ds μ1 H1 J s1 ok1 hz gv q D hD => ?_⟩
  obtain ⟨W, m0, _, turn⟩ := cl F1 ds μ1 H1 J s1 ok1 hz gv q D hD
  exact ⟨W, m0, turn⟩
theorem le_lcP {P : Hp → Prop} (hP : ∀ F μ H, B.to F μ H → Ok X.K F μ H → P H) {ti : DTI} {g : DTG} {tt : DTT} {te : DTE} {vs : List Nat} {tv : TG} {Qo : DK → List D → MS → Prop}
    (hst : ∀ v σ H Q, tv v σ H Q → tv v σ H fun σ2 H2 => wipe σ2 vs = wipe σ vs ∧ Q σ2 H2) (hof : ∀ v σ H Q, LG X.K B g v σ H Q → tv v σ H Q)
    (hQ : ∀ {F μ H Fz μz Hz Qd r ws D} {Q : VK}, Cl X.K F μ H Qd Q → H D = none → Stp F μ H Fz μz Hz → Ok X.K Fz μz Hz → Reps X.K Fz r ws → Hz D = some (.lst ws) → Fz D = none → μz D = none → Qo Qd r μz → Q (.ref D) Hz)
    {σ : L2.St} {H : Hp} {Q : VK} (h : LE X.K B (fun ρ μ Q => ti ρ μ fun ds μ1 => lcL g tt te (dwipe ρ vs) ds μ1 (Qo Q)) σ H Q) : tLcP P (LI X.K B ti) tv (LT X.K B tt) (LE X.K B te) vs σ H Q := by
  obtain ⟨F, ρ, μ, Qd, sB, ok, rs, t, cl⟩ := h
  refine ⟨F, ρ, μ, _, sB, ok, rs, t, fun F1 ds μ1 H1 J s1 ok1 hz gv q D hD => ?_⟩
  have cl1 := cl.mono s1
  refine ⟨fun i m H' => m = ds.length - i ∧ i ≤ ds.length ∧ ∃ F' μ' acc ws, Stp F1 μ1 H1 F' μ' H' ∧ Ok X.K F' μ' H' ∧ H' D = some (.lst ws) ∧ F' D = none ∧ μ' D = none ∧ Reps X.K F' acc ws ∧ acc.length ≤ i ∧
      lcL g tt te (dwipe ρ vs) (ds.drop i) μ' (fun r μ5 => Qo Qd (acc ++ r) μ5),
    ⟨ds.length, by simp, Nat.zero_le _, F1, μ1, [], [], Stp.refl.skip hD, ok1.skip (ok1.freeF hD) (ok1.freeM hD) (fun u e => by rw [hD] at e; cases e), upd_same, ok1.freeF hD, ok1.freeM hD, reps_nil.mpr rfl, Nat.le_refl _, by simpa using q⟩, fun i m H' ⟨_, _, F', μ', acc, ws, s', ok', _⟩ => hP F' μ' H' ((sB.trans s1).trans s') ok', ?_⟩
  rintro i m H' ⟨rfl, hi, F', μ', acc, ws, s', ok', hD', hF', hm', ra, hl, q'⟩
  have gi := gv i F' μ' H' s'.s ok'
  by_cases hlt : i < ds.length
  · obtain ⟨go, step⟩ := gi.1 ds[i] (List.getElem?_eq_getElem hlt)
    rw [List.drop_eq_getElem_cons hlt] at q'
    refine .inr ⟨go, fun H2 => i + 1 ≤ ds.length ∧ ∃ F' μ' acc ws, Stp F1 μ1 H1 F' μ' H2 ∧ Ok X.K F' μ' H2 ∧ H2 D = some (.lst ws) ∧ F' D = none ∧ μ' D = none ∧ Reps X.K F' acc ws ∧ acc.length ≤ i + 1 ∧
      lcL g tt te (dwipe ρ vs) (ds.drop (i + 1)) μ' (fun r μ5 => Qo Qd (acc ++ r) μ5), fun H2 h2 => ⟨ds.length - (i + 1), by omega, rfl, h2.1, h2.2⟩, fun x H2 y => ?_⟩
    obtain ⟨F2, s2, ok2, rx⟩ := step x H2 y
    have fin := fun Q' (q : tv x (wipe σ vs) H2 Q') => hst _ _ _ _ q
    rw [wipe_idem] at fin
    refine fin _ (hof _ _ _ _ ⟨F2, ds[i], dwipe ρ vs, μ', _, (sB.trans s1).trans (s'.trans s2), ok2, (rs.mono (s1.trans (s'.trans s2)).s).wipe vs, rx, q', fun F3 ρ3 μ3 σ3 H3 s3 ok3 rs3 q3 => ?_⟩)
    have s03 := (s'.trans s2).trans s3
    refine ⟨F3, ρ3, μ3, _, (sB.trans s1).trans s03, ok3, rs3, q3, fun F4 b μ4 H4 s4 ok4 q4 => ?_⟩
    have sd := (s2.trans s3).trans s4
    obtain ⟨hD4, hm4, hF4⟩ := sd.fr D _ hD' (fun ps z => by cases z) hm'
    cases b with
    | false =>
      refine iteF ⟨hlt, F4, μ4, acc, ws, s03.trans s4, ok4, hD4, hF4 hF', hm4, ra.mono sd.s, by omega, q4⟩
    | true =>
      refine iteT ⟨F4, ρ3, μ4, _, (sB.trans s1).trans (s03.trans s4), ok4, rs3.mono s4.s, q4, fun F5 y5 μ5 w H5 s5 ok5 r5 q5 => ?_⟩
      have se := sd.trans s5
      obtain ⟨hD5, hm5, hF5⟩ := se.fr D _ hD' (fun ps z => by cases z) hm'
      refine ⟨ws, hD5, by rw [← ra.length]; omega, hlt, F5, μ5, acc ++ [y5], ws ++ [w], ((s03.trans s4).trans s5).skip hD, ok5.skip (hF5 hF') hm5 (fun u e => by rw [hD5] at e; cases e; exact ⟨_, rfl⟩), upd_same, hF5 hF', hm5, (ra.mono se.s).append (.cons r5 (reps_nil.mpr rfl)), by simp; omega, ?_⟩
      simpa using q5
  · have e : i = ds.length := by omega
    subst e
    rw [List.drop_length] at q'
    exact .inl ⟨gi.2 (Nat.le_refl _), hQ cl1 hD s' ok' ra hD' hF' hm' (by simpa [lcL] using q')⟩
theorem le_lc {ti : DTI} {g : DTG} {tt : DTT} {te : DTE} {vs : List Nat} {tv : TG} {Qo : DK → List D → MS → Prop}
    (hst : ∀ v σ H Q, tv v σ H Q → tv v σ H fun σ2 H2 => wipe σ2 vs = wipe σ vs ∧ Q σ2 H2) (hof : ∀ v σ H Q, LG X.K B g v σ H Q → tv v σ H Q)
    (hQ : ∀ {F μ H Fz μz Hz Qd r ws D} {Q : VK}, Cl X.K F μ H Qd Q → H D = none → Stp F μ H Fz μz Hz → Ok X.K Fz μz Hz → Reps X.K Fz r ws → Hz D = some (.lst ws) → Fz D = none → μz D = none → Qo Qd r μz → Q (.ref D) Hz)
    {σ : L2.St} {H : Hp} {Q : VK} (h : LE X.K B (fun ρ μ Q => ti ρ μ fun ds μ1 => lcL g tt te (dwipe ρ vs) ds μ1 (Qo Q)) σ H Q) : tLc (LI X.K B ti) tv (LT X.K B tt) (LE X.K B te) vs σ H Q :=
  tLcP.lc (le_lcP (P := fun _ => True) (fun _ _ _ _ _ => trivial) hst hof hQ h)
theorem lc_froz {K : PySem.W.Frag} {F : Hp} {μ : MS} {H Fz : Hp} {μz : MS} {Hz : Hp} {Qd : DK} {r : List D} {ws : List V} {D : Addr} {Q : VK} (cl : Cl K F μ H Qd Q) (hD : H D = none) (s : Stp F μ H Fz μz Hz) (ok : Ok K Fz μz Hz) (ra : Reps K Fz r ws) (h : Hz D = some (.lst ws)) (hF : Fz D = none) (hm : μz D = none)
    (q : Qd (.lst r) μz) : Q (.ref D) Hz := by
  have ne : ∀ {a m}, μz a = some m → a ≠ D := fun {a m} e z => by subst z; rw [hm] at e; cases e
  have sm : Same Fz (upd Fz D (.lst ws)) := same_upd hF
  refine cl (upd Fz D (.lst ws)) _ μz _ _ (s.skipF hD hF) ⟨fun b u z => ?_, fun a ds e => ?_, fun a C fs e => ?_, ok.tab, ntb_upd ok.ntb (fun ps z => by cases z)⟩ (rep_lst.mpr ⟨D, ws, rfl, upd_same, ra.mono sm⟩) q
  · by_cases hb : b = D
    · subst hb; rw [upd_same] at z; cases z; exact h
    · rw [upd_ne hb] at z; exact ok.sub b u z
  · obtain ⟨h1, vs, h2, h3⟩ := ok.lst a ds e
    exact ⟨by rw [upd_ne (ne e)]; exact h1, vs, h2, h3.mono sm⟩
  · obtain ⟨h1, dx, vfs, h2, h3⟩ := ok.ins a C fs e
    exact ⟨by rw [upd_ne (ne e)]; exact h1, dx, vfs, h2, h3.mono sm⟩
theorem lc_mut {K : PySem.W.Frag} {F : Hp} {μ : MS} {H Fz : Hp} {μz : MS} {Hz : Hp} {Qd : DK} {r : List D} {ws : List V} {D : Addr} {Q : VK} (cl : Cl K F μ H Qd Q) (hD : H D = none) (s : Stp F μ H Fz μz Hz) (ok : Ok K Fz μz Hz) (ra : Reps K Fz r ws) (h : Hz D = some (.lst ws)) (hF : Fz D = none) (hm : μz D = none)
    (q : ∀ a, μz a = none → Qd (.ref a) (mset μz a (some (.lst r)))) : Q (.ref D) Hz := by
  refine cl Fz _ _ _ _ (s.skipM hD) ⟨ok.sub, fun a ds e => ?_, fun a C fs e => ?_, ok.tab, ok.ntb⟩ (rep_ref.mpr rfl) (q D hm)
  · by_cases ha : a = D
    · subst ha; rw [mset_same] at e; cases e; exact ⟨hF, ws, h, ra⟩
    · rw [mset_ne ha] at e; exact ok.lst a ds e
  · by_cases ha : a = D
    · subst ha; rw [mset_same] at e; cases e
    · rw [mset_ne ha] at e; exact ok.ins a C fs e
variable {elt tg iter : Expr} {ifs : List Expr} {scope : Scope} {own : List (Str × Nat)} {vs : List Nat} {pos : Pos} {ti : DTI} {g : DTG} {tt : DTT} {te : DTE}
abbrev InBlk (X : Cx) (scope : Scope) (P : Cx → Prop) : Prop := ∀ (s : Shared) (H : Hp) (C : Addr) (cl : List (Str × Addr)) (fp : List Addr), P (X.blk s H scope (compEnvC scope cl C X.env) fp)
theorem de_lc (hc : X.calm = true) (hN : X.N.Nodup) (hi : DI X B tg iter ti) (ok : BlkOk X.N X.env.scope scope own) (hg : CTg X B scope vs tg g) (ht : InBlk X scope fun Y => DTs Y B ifs tt) (he : InBlk X scope fun Y => DE Y B elt te) (hs : ∀ x, foldedSetIterable iter X.env x = pure x := by intro _; rfl) (hv : own.map (·.2) = vs := by rfl) :
    DE X B (.ListComp elt [⟨tg, iter, ifs, 0⟩] scope pos) (dLc ti g tt te vs) := by
  subst hv
  obtain ⟨tv, h1, h2, h3⟩ := hg.ex
  exact PE.by (pe_lc hc hN hi ok h1 ht he hs) fun _ _ _ => le_lc (Qo := fun Q r μ2 => Q (.lst r) μ2) h2 h3 lc_froz
theorem de_lcM (hc : X.calm = true) (hN : X.N.Nodup) (hi : DI X B tg iter ti) (ok : BlkOk X.N X.env.scope scope own) (hg : CTg X B scope vs tg g) (ht : InBlk X scope fun Y => DTs Y B ifs tt) (he : InBlk X scope fun Y => DE Y B elt te) (hs : ∀ x, foldedSetIterable iter X.env x = pure x := by intro _; rfl) (hv : own.map (·.2) = vs := by rfl) :
    DE X B (.ListComp elt [⟨tg, iter, ifs, 0⟩] scope pos) (dLcM ti g tt te vs) := by
  subst hv
  obtain ⟨tv, h1, h2, h3⟩ := hg.ex
  exact PE.by (pe_lc hc hN hi ok h1 ht he hs) fun _ _ _ => le_lc (Qo := fun Q r μ2 => ∀ a, μ2 a = none → Q (.ref a) (mset μ2 a (some (.lst r)))) h2 h3 lc_mut
theorem ds_setLc {i : Nat} {y : Str} {py spos : Pos} (hc : X.calm = true) (hN : X.N.Nodup) (hy : X.N[i]? = some y) (hyl : X.env.scope.names.lookup y = some .local)
    (hsw : swapsWith (.ListComp elt [⟨tg, iter, ifs, 0⟩] scope pos) (some (.Name y py)) spos.line X.env = pure true) (hi : DI X B tg iter ti) (ok : BlkOk X.N X.env.scope scope own) (hg : CTg X B scope vs tg g)
    (ht : InBlk X scope fun Y => DTs Y B ifs tt) (he : InBlk X scope fun Y => DE Y B elt te) (hs : ∀ x, foldedSetIterable iter X.env x = pure x := by intro _; rfl) (hv : own.map (·.2) = vs := by rfl) :
    DS X B (.Assign [.Name y py] (.ListComp elt [⟨tg, iter, ifs, 0⟩] scope pos) spos) (dAsg (dLc ti g tt te vs) (dName i)) := by
  subst hv
  obtain ⟨tv, h1, h2, h3⟩ := hg.ex
  refine PS.by (ps_setLc (tt := LT X.K B tt) (te := LE X.K B te) hc hN hy hyl hsw hi ok h1 ht he hs) fun D σ H ⟨F, ρ, μ, DD, sB, ok, rs, t, cl⟩ => ?_
  refine le_lc (Qo := fun Q r μ2 => Q (.lst r) μ2) h2 h3 lc_froz ⟨F, ρ, μ, (fun d μ1 => dName i d ρ μ1 DD.nx), sB, ok, rs, t, fun F1 d μ1 v H1 s1 ok1 rd t1 => ?_⟩
  exact cl.nx F1 _ μ1 _ H1 s1 ok1 ((rs.mono s1.s).set rd i) t1
theorem ds_setLcM {i : Nat} {y : Str} {py spos : Pos} (hc : X.calm = true) (hN : X.N.Nodup) (hy : X.N[i]? = some y) (hyl : X.env.scope.names.lookup y = some .local)
    (hsw : swapsWith (.ListComp elt [⟨tg, iter, ifs, 0⟩] scope pos) (some (.Name y py)) spos.line X.env = pure true) (hi : DI X B tg iter ti) (ok : BlkOk X.N X.env.scope scope own) (hg : CTg X B scope vs tg g)
    (ht : InBlk X scope fun Y => DTs Y B ifs tt) (he : InBlk X scope fun Y => DE Y B elt te) (hs : ∀ x, foldedSetIterable iter X.env x = pure x := by intro _; rfl) (hv : own.map (·.2) = vs := by rfl) :
    DS X B (.Assign [.Name y py] (.ListComp elt [⟨tg, iter, ifs, 0⟩] scope pos) spos) (dAsg (dLcM ti g tt te vs) (dName i)) := by
  subst hv
  obtain ⟨tv, h1, h2, h3⟩ := hg.ex
  refine PS.by (ps_setLc (tt := LT X.K B tt) (te := LE X.K B te) hc hN hy hyl hsw hi ok h1 ht he hs) fun D σ H ⟨F, ρ, μ, DD, sB, ok, rs, t, cl⟩ => ?_
  refine le_lc (Qo := fun Q r μ2 => ∀ a, μ2 a = none → Q (.ref a) (mset μ2 a (some (.lst r)))) h2 h3 lc_mut ⟨F, ρ, μ, (fun d μ1 => dName i d ρ μ1 DD.nx), sB, ok, rs, t, fun F1 d μ1 v H1 s1 ok1 rd t1 => ?_⟩
  exact cl.nx F1 _ μ1 _ H1 s1 ok1 ((rs.mono s1.s).set rd i) t1
end
end Li

set_option Elab.async false
set_option linter.all false
set_option maxRecDepth 100000
set_option maxHeartbeats 1000000
/-! The program's own defs: promises over data, calls, errors. -/
namespace Li
open PySem PySem.Spec PyProof.Rows L2
variable [Tbl]

/-- what is wanted of an error: its class, its own attributes -/
abbrev DXK := Value → Option (List (Str × D)) → MS → Prop
abbrev noX : DXK := fun _ _ _ => False
/-- a def's promise over data -/
abbrev DSp := List D → MS → DK → DXK → Prop
def XRep (K : PySem.W.Frag) (F : Hp) : Option (List (Str × D)) → Option Addr → Prop
  | none, none => True
  | some fs, some d => ∃ vfs, F d = some (.xd vfs) ∧ FReps K F fs vfs
  | _, _ => False
def ClE (K : PySem.W.Frag) (F : Hp) (μ : MS) (H : Hp) (Ed : DXK) (E : XK) : Prop := ∀ F' c x μ' od H', Stp F μ H F' μ' H' → Ok K F' μ' H' → XRep K F' x od → Ed c x μ' → E c od H'
theorem ClE.mono {K : PySem.W.Frag} {F F' : Hp} {μ μ' : MS} {H H' : Hp} {Ed : DXK} {E : XK} (c : ClE K F μ H Ed E) (e : Stp F μ H F' μ' H') : ClE K F' μ' H' Ed E := fun F1 d x μ1 v H1 s => c F1 d x μ1 v H1 (e.trans s)
theorem ClE.no {K : PySem.W.Frag} {F : Hp} {μ : MS} {H : Hp} {E : XK} : ClE K F μ H noX E := fun _ _ _ _ _ _ _ _ _ h => h.elim
def LSp (K : PySem.W.Frag) (sp : DSp) : Sp := fun vs H Q E => ∃ F μ ds Qd Ed, Ok K F μ H ∧ Reps K F ds vs ∧ sp ds μ Qd Ed ∧ Cl K F μ H Qd Q ∧ ClE K F μ H Ed E
abbrev DFn (P : Program) (w : World) (K : PySem.W.Frag) (mg : Str → Option Value) (base : Heap) (k : Nat) (f : Addr) (fd : FuncData) (ps : List Str) (sp : DSp) : Prop := FnOk P w K mg base (L2N.CX P w) k f fd ps (LSp K sp)
theorem DFn.imp {P : Program} {w : World} {K : PySem.W.Frag} {mg : Str → Option Value} {base : Heap} {k : Nat} {f : Addr} {fd : FuncData} {ps : List Str} {sp sp' : DSp} (F : DFn P w K mg base k f fd ps sp) (h : ∀ ds μ Q E, sp' ds μ Q E → sp ds μ Q E) : DFn P w K mg base k f fd ps sp' :=
  FnOk.imp F fun _ _ _ _ ⟨F, μ, ds, Qd, Ed, ok, r, q, c, e⟩ => ⟨F, μ, ds, Qd, Ed, ok, r, h _ _ _ _ q, c, e⟩

theorem passN {X : Cx} : Passes (L2N.CX X.prog X.w) X E0 := fun _ _ _ _ _ _ _ h => by
  obtain ⟨_, _, _, _, _, _, _, _, _, _, _, _, h⟩ := h
  exact h.elim
/-! ### calls -/
def dCallX (sp : DSp) (Ed : DXK) (t : DTA) : DTE := fun ρ μ Q => t ρ μ fun ds μ1 => sp ds μ1 Q Ed
def dCall (sp : DSp) (t : DTA) : DTE := fun ρ μ Q => t ρ μ fun ds μ1 => sp ds μ1 Q noX
section
variable {X : Cx} {B : Ent} {k n : Nat} {f : Addr} {fd : FuncData} {ps : List Str} {sp : DSp} {E : XK} {Ed : DXK} {x : Str} {p pos : Pos} {e : Expr} {es : List Expr} {t : DTA}
theorem de_callX (F : DFn X.prog X.w X.K X.mg X.base k f fd ps sp) (hr : Room k X.A) (hg : Gl X x) (hm : X.mg x = some (.ref f)) (hk : PySem.W.keepIn X.K (.ref f) = true) (hb : Binds X.K fd ps []) (hx : Passes (L2N.CX X.prog X.w) X E) (hE : ClE X.K B.F B.μ B.H Ed E)
    (ha : DAn X B (e :: es) n t) (hdb : (x == ("__debug__" : Str)) = false := by decide) (he : starEach (e :: es) X.env = (false, eval e X.env) :: starEach es X.env := by rfl) (hpl : (backTo pos (starEach es X.env)).any (·.1) = false := by rfl) :
    DE X B (.Call (.Name x p) (e :: es) [] pos) (dCallX sp Ed t) := PE.by (pe_call F hr hg hm hk hb .nil hx ha hdb he hpl) fun σ H Q ⟨F, ρ, μ, Qd, sB, ok, rs, t, cl⟩ => by
  refine ⟨F, ρ, μ, _, sB, ok, rs, t, fun F1 ds μ1 vs H1 s1 ok1 r1 l1 t1 => ?_⟩
  show LSp X.K sp (vs ++ []) H1 Q E
  rw [List.append_nil]
  exact ⟨F1, μ1, ds, Qd, Ed, ok1, r1, t1, cl.mono s1, hE.mono (Ent.to.trans sB s1)⟩
theorem de_call (F : DFn X.prog X.w X.K X.mg X.base k f fd ps sp) (hr : Room k X.A) (hg : Gl X x) (hm : X.mg x = some (.ref f)) (hk : PySem.W.keepIn X.K (.ref f) = true) (hb : Binds X.K fd ps [])
    (ha : DAn X B (e :: es) n t) (hdb : (x == ("__debug__" : Str)) = false := by decide) (he : starEach (e :: es) X.env = (false, eval e X.env) :: starEach es X.env := by rfl) (hpl : (backTo pos (starEach es X.env)).any (·.1) = false := by rfl) :
    DE X B (.Call (.Name x p) (e :: es) [] pos) (dCall sp t) := de_callX (E := E0) F hr hg hm hk hb passN ClE.no ha hdb he hpl
theorem de_call0 (F : DFn X.prog X.w X.K X.mg X.base k f fd ps sp) (hr : Room k X.A) (hg : Gl X x) (hm : X.mg x = some (.ref f)) (hk : PySem.W.keepIn X.K (.ref f) = true) (hb : Binds X.K fd ps [])
    (hdb : (x == ("__debug__" : Str)) = false := by decide) : DE X B (.Call (.Name x p) [] [] pos) (dCall sp dNil) := PE.by (pe_call0 (E := E0) F hr hg hm hk hb .nil passN hdb) fun σ H Q ⟨F, ρ, μ, Qd, sB, ok, rs, t, cl⟩ => by
  exact ⟨F, μ, [], Qd, noX, ok, reps_nil.mpr rfl, t, cl, ClE.no⟩
/-! ### raise -/
/-- what the written part tells of an error's class -/
structure XCls (K : PySem.W.Frag) (mg : Str → Option Value) (x : Str) (C : Addr) : Prop where
  g : mg x = some (.ref C)
  x : PySem.W.excIn K C [.type "ValueError", .type "Exception", .type "BaseException", .type "object"] "ValueError.__new__" = true
  k : PySem.W.keepIn K (.ref C) = true
  b : PySem.W.subIn K (.ref C) (.type "BaseException") = some true
  t : PySem.W.typeIn K (.ref C) = some (.type "type")
def dRaise (C : Addr) (Ed : DXK) : DTS := fun _ _ μ => Ed (.ref C) none μ
theorem ds_raise {m : Str} {j : Nat} {C : Addr} {p p2 pos2 : Pos} (hc : X.calm = true) (tk : L2N.Takes X (fun cls d _ H => E cls d H)) (hE : ClE X.K B.F B.μ B.H Ed E) (c : XCls X.K X.mg x C) (hg : Gl X x) (hdb : (x == ("__debug__" : Str)) = false := by decide) :
    DS X B (.Raise (some (.Call (.Name x p) [.Constant (.str m) j p2] [] pos)) none pos2) (dRaise C Ed) :=
  PS.by (L2N.ps_raise hc tk (L2N.pmk_own PySem.F.excBase_ValueError c.x c.g c.k (raises_own c.b c.t) hg hdb)) fun D σ H ⟨F, ρ, μ, DD, sB, ok, rs, t, cl⟩ => hE F _ none μ none H sB ok trivial t
end

/-! ### a def keeps its promise -/
def dstart (N : List Str) (ds : List D) : DSt := ds.map some ++ List.replicate (N.length - ds.length) none
/-- what the text holds: the def x -/
structure FnT (K : PySem.W.Frag) (mg : Str → Option Value) (x : Str) (st : Stmt) (ps : List Str) : Prop where
  ex : ∃ f fd, mg x = some (.ref f) ∧ Fun K x x st f fd ∧ Binds K fd ps []
/-- the def x keeps the promise sp -/
structure FnX (P : Program) (w : World) (K : PySem.W.Frag) (mg : Str → Option Value) (base : Heap) (x : Str) (k : Nat) (ps : List Str) (sp : DSp) : Prop where
  ex : ∃ f fd, mg x = some (.ref f) ∧ PySem.W.keepIn K (.ref f) = true ∧ Binds K fd ps [] ∧ DFn P w K mg base k f fd ps sp
section
variable {P : Program} {w : World} {K : PySem.W.Frag} {mg : Str → Option Value} {base : Heap}
theorem FnX.imp {x : Str} {k : Nat} {ps : List Str} {sp sp' : DSp} (F : FnX P w K mg base x k ps sp) (h : ∀ ds μ Q E, sp' ds μ Q E → sp ds μ Q E) : FnX P w K mg base x k ps sp' := by
  obtain ⟨f, fd, h1, h2, h3, h4⟩ := F.ex
  exact ⟨f, fd, h1, h2, h3, h4.imp h⟩
theorem dfn_of' {x qual : Str} {st : Stmt} {f : Addr} {dV kV doc pm cdv ct oc : Value} {an od : Option Addr} {osl : Array (Option Value)} {N ps : List Str} {k : Nat} {dsp : DSp} {t : DXK → DTS} (lk : K.lookup f = some ⟨oc, od, .func (PySem.W.fnOf x qual (defArgs st) (defBody st) (defScope st) dV kV doc pm an cdv ct), osl⟩) (hcd : PySem.W.codeIn K cdv qual = true) (S : FnScope N ps (defScope st)) (len : ∀ ds μ Q E, dsp ds μ Q E → ds.length = ps.length)
    (hbody : ∀ (A : Around) (outer : List Env) (s : Shared) (H : Hp) (E : XK) (B : Ent) (Ed : DXK), Room k (A.deeper (envOfC qual (defScope st) s.heap.objs.size f cdv)) → ClE K B.F B.μ B.H Ed E →
      L2N.Takes (cxOf (L2N.CX P w) P w K mg base N qual (defScope st) f cdv A outer s H E) (fun cls d _ H => E cls d H) →
      Passes (L2N.CX P w) (cxOf (L2N.CX P w) P w K mg base N qual (defScope st) f cdv A outer s H E) E →
      PassesOwn (model P w) (A.deeper (envOfC qual (defScope st) s.heap.objs.size f cdv)) (envOfC qual (defScope st) s.heap.objs.size f cdv) (cxOf (L2N.CX P w) P w K mg base N qual (defScope st) f cdv A outer s H E).xe →
      (A.deeper (envOfC qual (defScope st) s.heap.objs.size f cdv)).units + 65 < cLine →
      DSs (cxOf (L2N.CX P w) P w K mg base N qual (defScope st) f cdv A outer s H E) B (defBody st) (t Ed))
    (hpure : ∀ ds μ Q Ed, dsp ds μ Q Ed → t Ed { nx := fun _ μ => Q .non μ, rt := Q } (dstart N ds) μ) : DFn P w K mg base (k + 1) f (PySem.W.fnOf x qual (defArgs st) (defBody st) (defScope st) dV kV doc pm an cdv ct) ps dsp := by
  refine fn_of lk hcd S (fun vs H Q E ⟨F, μ, ds, Qd, Ed, ok, r, q, c, e⟩ => by rw [← r.length]; exact len _ _ _ _ q) fun A outer s H vs Q E hr ⟨F, μ, ds, Qd, Ed, ok, r, q, c, e⟩ => ?_
  have tk : L2N.Takes (cxOf (L2N.CX P w) P w K mg base N qual (defScope st) f cdv A outer s H E) (fun cls d _ H => E cls d H) := L2N.takes_of rfl rfl rfl rfl
  refine ⟨_, hbody A outer s H E ⟨F, μ, H⟩ Ed hr e tk (L2N.passes_call tk fun _ _ _ _ h => h) (passes_of (X := cxOf (L2N.CX P w) P w K mg base N qual (defScope st) f cdv A outer s H E) rfl) (by have := hr.un; omega), F, _, μ, _, Stp.refl, ok, ?_, hpure ds μ Qd Ed q, ?_⟩
  · have := RelS.start (N := N) r
    rw [show dstart N ds = ds.map some ++ List.replicate (N.length - ds.length) none from rfl]
    exact this
  · refine ⟨fun F1 ρ1 μ1 σ1 H1 s1 ok1 rs1 t1 => c F1 _ μ1 _ H1 s1 ok1 (rep_non.mpr rfl) t1, c, fun _ _ _ _ _ _ _ _ h => h.elim, fun _ _ _ _ _ _ _ _ h => h.elim⟩
theorem dfn_of {x qual : Str} {st : Stmt} {f : Addr} {fd : FuncData} {N ps : List Str} {k : Nat} {dsp : DSp} {t : DXK → DTS} (F : Fun K x qual st f fd) (S : FnScope N ps (defScope st)) (len : ∀ ds μ Q E, dsp ds μ Q E → ds.length = ps.length)
    (hbody : ∀ (cdv : Value) (A : Around) (outer : List Env) (s : Shared) (H : Hp) (E : XK) (B : Ent) (Ed : DXK), Room k (A.deeper (envOfC qual (defScope st) s.heap.objs.size f cdv)) → ClE K B.F B.μ B.H Ed E →
      L2N.Takes (cxOf (L2N.CX P w) P w K mg base N qual (defScope st) f cdv A outer s H E) (fun cls d _ H => E cls d H) →
      Passes (L2N.CX P w) (cxOf (L2N.CX P w) P w K mg base N qual (defScope st) f cdv A outer s H E) E →
      PassesOwn (model P w) (A.deeper (envOfC qual (defScope st) s.heap.objs.size f cdv)) (envOfC qual (defScope st) s.heap.objs.size f cdv) (cxOf (L2N.CX P w) P w K mg base N qual (defScope st) f cdv A outer s H E).xe →
      (A.deeper (envOfC qual (defScope st) s.heap.objs.size f cdv)).units + 65 < cLine →
      DSs (cxOf (L2N.CX P w) P w K mg base N qual (defScope st) f cdv A outer s H E) B (defBody st) (t Ed))
    (hpure : ∀ ds μ Q Ed, dsp ds μ Q Ed → t Ed { nx := fun _ μ => Q .non μ, rt := Q } (dstart N ds) μ) : DFn P w K mg base (k + 1) f fd ps dsp := by
  obtain ⟨oc, od, kV, doc, pm, an, cdv, ct, osl, rfl, lk, hcd⟩ := F.ex
  exact dfn_of' lk hcd S len (hbody cdv) hpure
theorem fnx_of {x : Str} {st : Stmt} {N ps : List Str} {k : Nat} {dsp : DSp} {t : DXK → DTS} (F : FnT K mg x st ps) (S : FnScope N ps (defScope st)) (len : ∀ ds μ Q E, dsp ds μ Q E → ds.length = ps.length)
    (hbody : ∀ (f : Addr) (cdv : Value) (A : Around) (outer : List Env) (s : Shared) (H : Hp) (E : XK) (B : Ent) (Ed : DXK), Room k (A.deeper (envOfC x (defScope st) s.heap.objs.size f cdv)) → ClE K B.F B.μ B.H Ed E →
      L2N.Takes (cxOf (L2N.CX P w) P w K mg base N x (defScope st) f cdv A outer s H E) (fun cls d _ H => E cls d H) →
      Passes (L2N.CX P w) (cxOf (L2N.CX P w) P w K mg base N x (defScope st) f cdv A outer s H E) E →
      PassesOwn (model P w) (A.deeper (envOfC x (defScope st) s.heap.objs.size f cdv)) (envOfC x (defScope st) s.heap.objs.size f cdv) (cxOf (L2N.CX P w) P w K mg base N x (defScope st) f cdv A outer s H E).xe →
      (A.deeper (envOfC x (defScope st) s.heap.objs.size f cdv)).units + 65 < cLine →
      DSs (cxOf (L2N.CX P w) P w K mg base N x (defScope st) f cdv A outer s H E) B (defBody st) (t Ed))
    (hpure : ∀ ds μ Q Ed, dsp ds μ Q Ed → t Ed { nx := fun _ μ => Q .non μ, rt := Q } (dstart N ds) μ) : FnX P w K mg base x (k + 1) ps dsp := by
  obtain ⟨f, fd, h1, h2, h3⟩ := F.ex
  exact ⟨f, fd, h1, h2.kp, h3, dfn_of h2 S len (hbody f) hpure⟩
end
section
variable {X : Cx} {B : Ent} {k n : Nat} {ps : List Str} {sp : DSp} {E : XK} {Ed : DXK} {x : Str} {p pos : Pos} {e : Expr} {es : List Expr} {t : DTA}
theorem de_fnX (F : FnX X.prog X.w X.K X.mg X.base x k ps sp) (hr : Room k X.A) (hg : Gl X x) (hx : Passes (L2N.CX X.prog X.w) X E) (hE : ClE X.K B.F B.μ B.H Ed E)
    (ha : DAn X B (e :: es) n t) (hdb : (x == ("__debug__" : Str)) = false := by decide) (he : starEach (e :: es) X.env = (false, eval e X.env) :: starEach es X.env := by rfl) (hpl : (backTo pos (starEach es X.env)).any (·.1) = false := by rfl) :
    DE X B (.Call (.Name x p) (e :: es) [] pos) (dCallX sp Ed t) := by
  obtain ⟨f, fd, h1, h2, h3, h4⟩ := F.ex
  exact de_callX h4 hr hg h1 h2 h3 hx hE ha hdb he hpl
theorem de_fn (F : FnX X.prog X.w X.K X.mg X.base x k ps sp) (hr : Room k X.A) (hg : Gl X x)
    (ha : DAn X B (e :: es) n t) (hdb : (x == ("__debug__" : Str)) = false := by decide) (he : starEach (e :: es) X.env = (false, eval e X.env) :: starEach es X.env := by rfl) (hpl : (backTo pos (starEach es X.env)).any (·.1) = false := by rfl) :
    DE X B (.Call (.Name x p) (e :: es) [] pos) (dCall sp t) := by
  obtain ⟨f, fd, h1, h2, h3, h4⟩ := F.ex
  exact de_call h4 hr hg h1 h2 h3 ha hdb he hpl
theorem de_fn0 (F : FnX X.prog X.w X.K X.mg X.base x k ps sp) (hr : Room k X.A) (hg : Gl X x) (hdb : (x == ("__debug__" : Str)) = false := by decide) : DE X B (.Call (.Name x p) [] [] pos) (dCall sp dNil) := by
  obtain ⟨f, fd, h1, h2, h3, h4⟩ := F.ex
  exact de_call0 h4 hr hg h1 h2 h3 hdb
/-- a list of the store stays from here on as it is -/
def dFrz (i : Nat) (t : DTS) : DTS := fun DD ρ μ => match ρ[i]? with
  | some (some (.ref a)) => refL (μ a) fun ds => t DD (ρ.set i (some (.lst ds))) (mset μ a none)
  | _ => False
theorem RelS.reset {K : PySem.W.Frag} {F : Hp} {ρ : DSt} {σ : L2.St} (r : RelS K F ρ σ) {i : Nat} {v : V} {d : D} (h : σ[i]? = some (some v)) (q : Rep K F d v) : RelS K F (ρ.set i (some d)) σ := by
  have := r.set q i
  have e : σ.set i (some v) = σ := by
    apply List.ext_getElem?
    intro j
    by_cases hj : i = j
    · subst hj
      rw [List.getElem?_set_self (List.getElem?_eq_some_iff.mp h).1, h]
    · rw [List.getElem?_set_ne hj]
  rw [e] at this
  exact this
theorem dss_frz {sts : List Stmt} {t : DTS} (i : Nat) (h : DSs X B sts t) : DSs X B sts (dFrz i t) := PSs.by h fun D σ H ⟨F, ρ, μ, DD, sB, ok, rs, t, cl⟩ => by
  unfold dFrz at t
  split at t
  · rename_i a e
    obtain ⟨ds, em, t⟩ := refL_elim t
    obtain ⟨F', s, ok', r⟩ := ok.freeze em
    obtain ⟨v, hv, rv⟩ := rs.at_ i _ e
    obtain rfl := rep_ref.mp rv
    exact ⟨F', _, _, DD, Ent.to.trans sB s, ok', (rs.mono s.s).reset hv r, t, cl.mono s⟩
  · exact t.elim
end
end Li

set_option Elab.async false
set_option linter.all false
set_option maxRecDepth 100000
set_option maxHeartbeats 1000000
/-! Loops and comprehensions by what a turn does. -/
namespace Li
open PySem PySem.Spec PyProof.Rows L2
variable [Tbl]
theorem forL_inv {g : DTG} {tb : DTS} {DD : DEnds} (I : Nat → DSt → MS → Prop) : ∀ (ds : List D) (k : Nat) (ρ : DSt) (μ : MS), I k ρ μ →
    (∀ i d ρ μ (N : DPS), ds[i]? = some d → I (k + i) ρ μ → (∀ ρ' μ', I (k + i + 1) ρ' μ' → N ρ' μ') → g d ρ μ fun ρ1 μ1 => tb { DD with nx := N, ct := N, bk := DD.nx } ρ1 μ1) →
    (∀ ρ μ, I (k + ds.length) ρ μ → DD.nx ρ μ) → forL g tb DD ds ρ μ
  | [], k, ρ, μ, h, _, hd => hd ρ μ h
  | d :: ds, k, ρ, μ, h, hs, hd => by
    refine hs 0 d ρ μ (forL g tb DD ds) rfl h fun ρ' μ' h' => ?_
    refine forL_inv I ds (k + 1) ρ' μ' (by simpa using h') (fun i e ρ2 μ2 N he hi hN => ?_) fun ρ2 μ2 h2 => hd ρ2 μ2 (by rw [List.length_cons]; rw [show k + (ds.length + 1) = k + 1 + ds.length by omega]; exact h2)
    exact hs (i + 1) e ρ2 μ2 N (by simpa using he) (by rw [show k + (i + 1) = k + 1 + i by omega]; exact hi) fun ρ3 μ3 h3 => hN ρ3 μ3 (by rw [show k + 1 + i + 1 = k + (i + 1) + 1 by omega]; exact h3)
/-- a loop, turn by turn, over what is left -/
theorem forL_ind {g : DTG} {tb : DTS} {DD : DEnds} (I : List D → DSt → MS → Prop) (hs : ∀ d r ρ μ (N : DPS), I (d :: r) ρ μ → (∀ ρ' μ', I r ρ' μ' → N ρ' μ') → g d ρ μ fun ρ1 μ1 => tb { DD with nx := N, ct := N, bk := DD.nx } ρ1 μ1)
    (hd : ∀ ρ μ, I [] ρ μ → DD.nx ρ μ) : ∀ (ds : List D) (ρ : DSt) (μ : MS), I ds ρ μ → forL g tb DD ds ρ μ
  | [], ρ, μ, h => hd ρ μ h
  | d :: ds, ρ, μ, h => hs d ds ρ μ (forL g tb DD ds) h fun ρ' μ' h' => forL_ind I hs hd ds ρ' μ' h'
/-- a comprehension that changes nothing -/
theorem lcL_pure {g : DTG} {tt : DTT} {te : DTE} {ρ : DSt} {μ : MS} (f : D → Option D) : ∀ (ds : List D) (Q : List D → MS → Prop),
    (∀ d, d ∈ ds → ∀ (A : D → MS → Prop) (Z : MS → Prop), (match f d with | some y => A y μ | none => Z μ) → g d ρ μ fun ρ2 μ2 => tt ρ2 μ2 fun b μ3 => bcase b (te ρ2 μ3 A) (Z μ3)) →
    Q (ds.filterMap f) μ → lcL g tt te ρ ds μ Q
  | [], Q, _, q => q
  | d :: ds, Q, hs, q => by
    refine hs d List.mem_cons_self _ _ ?_
    have ih := fun Q' q' => lcL_pure f ds Q' (fun e he => hs e (List.mem_cons_of_mem _ he)) q'
    cases e : f d with
    | none => rw [List.filterMap_cons_none e] at q; exact ih _ q
    | some y => rw [List.filterMap_cons_some e] at q; exact ih _ q
/-- a comprehension that may draw: its items by what they keep -/
theorem lcL_all {g : DTG} {tt : DTT} {te : DTE} {ρ : DSt} (M : MS → Prop) (P : D → Prop) : ∀ (ds : List D) (μ : MS) (Q : List D → MS → Prop), M μ →
    (∀ d, d ∈ ds → ∀ μ, M μ → ∀ (A : D → MS → Prop) (Z : MS → Prop), (∀ y μ', M μ' → P y → A y μ') → (∀ μ', M μ' → Z μ') → g d ρ μ fun ρ2 μ2 => tt ρ2 μ2 fun b μ3 => bcase b (te ρ2 μ3 A) (Z μ3)) →
    (∀ r μ', M μ' → r.length ≤ ds.length → (∀ y ∈ r, P y) → Q r μ') → lcL g tt te ρ ds μ Q
  | [], μ, Q, h, _, q => q [] μ h (Nat.le_refl _) fun y hy => by cases hy
  | d :: ds, μ, Q, h, hs, q => by
    refine hs d List.mem_cons_self μ h _ _ (fun y μ' h' hy => ?_) fun μ' h' => ?_
    · refine lcL_all M P ds μ' _ h' (fun e he => hs e (List.mem_cons_of_mem _ he)) fun r μ2 h2 hl hr => q (y :: r) μ2 h2 (by simp only [List.length_cons]; omega) fun z hz => ?_
      rcases List.mem_cons.mp hz with rfl | hz
      · exact hy
      · exact hr z hz
    · exact lcL_all M P ds μ' _ h' (fun e he => hs e (List.mem_cons_of_mem _ he)) fun r μ2 h2 hl hr => q r μ2 h2 (by simp only [List.length_cons]; omega) hr
end Li

set_option Elab.async false
set_option linter.all false
set_option maxRecDepth 100000
set_option maxHeartbeats 2000000
/-! While an error is handled: the ends of iterators, a comprehension over zip. -/
namespace Li
open PySem PySem.Spec PyProof.Rows L2 HotX
section
variable {prog : Program} {w : World} {A : Around} {E : Value → Shared → Prop} {s : Shared}
/-- the handled error's object, with no context -/
structure Hnd (A : Around) (x1 : Addr) (o1 : Obj) : Prop where
  hd : A.handled = some (.ref x1)
  dat : ∃ vs : Array Value, o1.data = .fields vs ∧ vs[2]? = some .none
theorem Hnd.at {x1 : Addr} {o1 : Obj} (h : Hnd A x1 o1) {hp : Heap} (g : hp.get? x1 = some o1) : HotAt A x1 hp := by
  obtain ⟨vs, d, c⟩ := h.dat
  exact ⟨h.hd, o1, vs, g, d, c⟩
/-- StopIteration is made and raised while x1 is handled -/
theorem stopHot {α : Type} {x1 : Addr} {o1 : Obj} {Q : α → Shared → Prop} (hh : Hnd A x1 o1) (g : s.heap.get? x1 = some o1)
    (hE : ∀ h' e, (∀ b o, s.heap.get? b = some o → h'.get? b = some o) → (∃ o, h'.get? e = some o ∧ o.cls = .type "StopIteration") → E (.ref e) { s with heap := h' }) :
    wpAny (model prog w) A (newExc (.type "StopIteration") [] >>= fun e => (raiseNew e : Sem α)) Q E s := by
  refine wpAny_bind ?_
  simp only [newExc, newTuple]
  refine wpAny_bind (wpAny_newObj_type ?_ (by size_fits))
  refine wpAny_bind (m := firstArgMember _ _) (wpAny_of_eq (a := Value.none) (by first | rfl | (simp only [firstArgMember]; rfl)) ?_)
  refine wpAny_newObj_type ?_ (by size_fits)
  refine raiseNew_hot (hh.at (Heap.get?_push_of_some _ (Heap.get?_push_of_some _ g))) (Nat.ne_of_lt (Heap.lt_size (Heap.get?_push_of_some _ g))) (Heap.get?_push_size _ rfl) rfl (by first | (simp; done) | (simp; omega) | (simp only [Array.size_append]; simp; omega)) ?_
  refine hE _ _ (fun b o e => ?_) ⟨_, Heap.get?_update_self _ (Heap.get?_push_size _ rfl) rfl, rfl⟩
  rw [Heap.get?_update_other _ _ (Nat.ne_of_gt (Heap.lt_size (Heap.get?_push_of_some _ e)))]
  exact Heap.get?_push_of_some _ (Heap.get?_push_of_some _ e)
theorem nextOf_list_endH {it l x1 : Addr} {o1 : Obj} {i : Nat} {items} {Q : Value → Shared → Prop} (hh : Hnd A x1 o1) (g : s.heap.get? x1 = some o1) (hne : x1 ≠ it)
    (hit : s.heap.IsListIter it l i) (hl : s.heap.IsList l items) (hx : items[i]? = none)
    (hE : ∀ h' e, Heap.ExtBut it s.heap h' → (∃ o, h'.get? e = some o ∧ o.cls = .type "StopIteration") → E (.ref e) { s with heap := h' }) :
    wpAny (model prog w) A (Builtin.SmallTypes.nextOf (.ref it)) Q E s := by
  obtain ⟨o, ho, hc, hd⟩ := id hit
  obtain ⟨ol, hol, _, nl, hdl⟩ := hl
  unfold Builtin.SmallTypes.nextOf
  refine wpAny_bind (wpAny_callSpecial?_slot (name := Str.ofString "__next__") hit.typeIs slot_listiter_next
    (wpAny_call_entry slot_listiter_next hit.typeIs entry_listiter_next ?_ (args_listiter_next _)))
  show wpAny _ _ (field (.ref it) 0 >>= _) _ _ s
  refine wpAny_bind (wpAny_field ho hd (x := .ref l) rfl ?_)
  show wpAny _ _ (if (Value.ref l == Value.none) = true then _ else _) _ _ s
  rw [if_neg (show ¬ ((Value.ref l == Value.none) = true) from Bool.false_ne_true)]
  show wpAny _ _ (field (.ref it) 1 >>= _) _ _ s
  refine wpAny_bind (wpAny_field ho hd (x := .int i 0) rfl ?_)
  show wpAny _ _ (seqItems? (.ref l) >>= _) _ _ s
  refine wpAny_bind (wpAny_seqItems hol hdl ?_)
  simp only [Int.toNat_natCast, hx]
  refine wpAny_bind (wpAny_rule (wpAny_bind (wpAny_setField ho hd (by simp) ?_)))
  refine stopHot (x1 := x1) (o1 := o1) ⟨hh.hd, hh.dat⟩ ((Heap.get?_update_other _ _ (Ne.symm hne)).trans g) fun h' e k he => ?_
  exact hE h' e (fun b o hb q => k b o (Heap.SameBut.extBut (Heap.SameBut.update ..) b o hb q)) he
theorem next_tuple_endH {it t x1 : Addr} {o1 : Obj} {i : Nat} {items} {Q : Option Value → Shared → Prop} (hh : Hnd A x1 o1) (g : s.heap.get? x1 = some o1) (hne : x1 ≠ it)
    (hit : IsTupIter s.heap it t i) (ht : IsTup s.heap t items) (hx : items[i]? = none)
    (hQ : ∀ h', Heap.ExtBut it s.heap h' → Q none { s with heap := h' }) : wpAny (model prog w) A (pyNext (.ref it)) Q E s := by
  obtain ⟨o, ho, hc, hd⟩ := id hit
  obtain ⟨ol, hol, _, nl, hdl⟩ := ht
  unfold pyNext
  refine wpAny_bind (wpAny_attempt (wpAny_callSpecial?_slot (name := Str.ofString "__next__") hit.typeIs slot_tupleiter_next
    (wpAny_call_entry slot_tupleiter_next hit.typeIs entry_tupleiter_next ?_ (args_tupleiter_next _))))
  show wpAny _ _ (field (.ref it) 0 >>= _) _ _ s
  refine wpAny_bind (wpAny_field ho hd (x := .ref t) rfl ?_)
  show wpAny _ _ (if (Value.ref t == Value.none) = true then _ else _) _ _ s
  rw [if_neg (show ¬ ((Value.ref t == Value.none) = true) from Bool.false_ne_true)]
  show wpAny _ _ (field (.ref it) 1 >>= _) _ _ s
  refine wpAny_bind (wpAny_field ho hd (x := .int i 0) rfl ?_)
  show wpAny _ _ (seqItems? (.ref t) >>= _) _ _ s
  refine wpAny_bind (wpAny_seqItems hol hdl ?_)
  simp only [Int.toNat_natCast, hx]
  refine wpAny_bind (wpAny_rule (wpAny_bind (wpAny_setField ho hd (by simp) ?_)))
  refine stopHot (x1 := x1) (o1 := o1) ⟨hh.hd, hh.dat⟩ ((Heap.get?_update_other _ _ (Ne.symm hne)).trans g) fun h' e k he => ?_
  obtain ⟨oe, hoe, hce⟩ := he
  refine wpAny_bind (wpAny_isInstance (T := "StopIteration") (b := true) ⟨oe, hoe, hce⟩ isSubtype_stop ?_)
  exact wpAny_pure (hQ _ fun b o hb q => k b o (Heap.SameBut.extBut (Heap.SameBut.update ..) b o hb q))
theorem unpackItems_tupleH {t x1 : Addr} {o1 : Obj} {items : Array Value} {Q : List Value → Shared → Prop} (hh : Hnd A x1 o1) (g : s.heap.get? x1 = some o1) (ht : IsTup s.heap t items)
    (hQ : ∀ h', Heap.ExtBut s.heap.objs.size s.heap h' → Q items.toList { s with heap := h' }) : wpAny (model prog w) A (unpackItems (.ref t) items.size none) Q E s := by
  have hlt : t ≠ s.heap.objs.size := by obtain ⟨o, ho, _⟩ := ht; exact Nat.ne_of_lt (Heap.lt_size ho)
  have hx1 : x1 ≠ s.heap.objs.size := Nat.ne_of_lt (Heap.lt_size g)
  unfold unpackItems
  refine wpAny_bind ?_
  · unfold notIterableAtAll
    refine wpAny_bind (wpAny_specialOf ht.typeIs slot_tuple_iter.lookup ?_)
    refine wpAny_pure ?_
    simp only [Bool.false_eq_true, if_false]
    refine wpAny_bind (wpAny_holding (iter_tuple ht ?_))
    refine wpAny_bind (wpAny_holding (draw_tuple hlt items.size 0 _ _ ⟨_, Heap.get?_push_size _ rfl, rfl, rfl⟩ (ht.push _) (by omega) fun h₁ hit₁ hs₁ => ?_))
    have hall : List.take items.size (List.drop 0 items.toList) = items.toList := by
      rw [List.drop_zero]; exact List.take_of_length_le (by simp)
    rw [hall]
    rw [if_neg (by simp)]
    have ht₁ : IsTup h₁ t items := (ht.push _).extBut hs₁.extBut hlt
    refine wpAny_bind (wpAny_holding (next_tuple_endH hh (hs₁.extBut _ _ hx1 (Heap.get?_push_of_some _ g)) hx1 hit₁ ht₁ (by simp) fun h₂ he₂ => ?_))
    simp only [Option.isSome_none, Bool.false_eq_true, if_false]
    refine wpAny_pure (hQ h₂ fun b o hb e => he₂ b o hb (hs₁.extBut b o hb (Heap.get?_push_of_some _ e)))
theorem assign_tupleH {env : Env} {elts : List Expr} {k} {pos : Pos} {t x1 : Addr} {o1 : Obj} {items : Array Value} {Q : Unit → Shared → Prop} (hh : Hnd A x1 o1) (g : s.heap.get? x1 = some o1) (ht : IsTup s.heap t items)
    (hn : (assignEach elts env).length = items.size) (hstar : (assignEach elts env).findIdx? (·.1) = none)
    (h : ∀ h', Heap.ExtBut s.heap.objs.size s.heap h' → wpAny (model prog w) A (assignInOrder ((assignEach elts env).map (·.2)) items.toList) Q E { s with heap := h' }) :
    wpAny (model prog w) A (assign (.Tuple elts k pos) env (.ref t)) Q E s := by
  rw [assign_Tuple]
  refine wpAny_bind (wpAny_standAt ?_)
  unfold unpack
  rw [hn, hstar]
  exact wpAny_bind (wpAny_holding (unpackItems_tupleH hh g ht h))
theorem pyNext_zip_endH {z TI TO i1 i2 l1 l2 x1 : Addr} {o1 : Obj} {k1 k2 : Nat} {xs ys : Array Value} {a b : Value} {Q : Option Value → Shared → Prop} (hh : Hnd A x1 o1) (g : s.heap.get? x1 = some o1) (n1 : x1 ≠ z) (n2 : x1 ≠ TO) (n3 : x1 ≠ i1) (n4 : x1 ≠ i2) (D : ZipApart z TI TO i1 i2 l1 l2)
    (hz : IsZip s.heap z TI TO .none) (hTI : IsPair s.heap TI (.ref i1) (.ref i2)) (hTO : IsPair s.heap TO a b)
    (h1 : s.heap.IsListIter i1 l1 k1) (h2 : s.heap.IsListIter i2 l2 k2) (hl1 : s.heap.IsList l1 xs) (hl2 : s.heap.IsList l2 ys) (hend : xs[k1]? = none ∨ ys[k2]? = none)
    (hQ : ∀ h', (∀ c o, c ≠ z → c ≠ TO → c ≠ i1 → c ≠ i2 → s.heap.get? c = some o → h'.get? c = some o) → Q none { s with heap := h' }) : wpAny (model prog w) A (pyNext (.ref z)) Q E s := by
  have hT : s.TypeIs (.ref z) "zip" := ⟨_, hz, rfl⟩
  unfold pyNext
  refine wpAny_bind (wpAny_attempt (wpAny_callSpecial?_slot (name := Str.ofString "__next__") hT F.slot_zip_next
    (wpAny_call_entry F.slot_zip_next hT F.entry_zip_next ?_ (F.args_zip_next_1 _))))
  have fin : ∀ h' e, (∀ c o, c ≠ z → c ≠ TO → c ≠ i1 → c ≠ i2 → s.heap.get? c = some o → h'.get? c = some o) → (∃ o, h'.get? e = some o ∧ o.cls = .type "StopIteration") →
      wpAny (model prog w) A (do
        let stop ← isInstance (.ref e) (.type "StopIteration")
        if stop then pure none else throw (.ref e)) Q E { s with heap := h' } := fun h' e hk he => by
    obtain ⟨o, ho, hc⟩ := he
    refine wpAny_bind (wpAny_isInstance (T := "StopIteration") (b := true) ⟨o, ho, hc⟩ isSubtype_stop ?_)
    exact wpAny_pure (hQ _ hk)
  have hin : Hnd A.in1 x1 o1 := ⟨hh.hd, hh.dat⟩
  show wpAny _ _ (field (.ref z) 2 >>= _) _ _ _
  refine wpAny_bind (wpAny_field hz rfl (x := .bool false) rfl ?_)
  show wpAny _ _ (field (.ref z) 3 >>= _) _ _ _
  refine wpAny_bind (wpAny_field hz rfl (x := .ref TI) rfl ?_)
  refine wpAny_bind (wpAny_seqItems hTI rfl ?_)
  show wpAny _ _ (Builtin.SmallTypes.ownedTupleIsFree (.ref z) >>= _) _ _ _
  refine wpAny_bind ?_
  unfold Builtin.SmallTypes.ownedTupleIsFree
  refine wpAny_bind (wpAny_field hz rfl (x := .none) rfl (wpAny_pure ?_))
  simp only [if_true]
  refine wpAny_bind (wpAny_rule ?_)
  refine wpAny_bind (wpAny_field hz rfl (x := .ref TO) rfl ?_)
  refine wpAny_bind (wpAny_setField_rec hz (by simp) fun h₁ hz₁ hs₁ => ?_)
  replace hz₁ : IsZip h₁ z TI TO .ellipsis := hz₁
  have g₁ : h₁.get? x1 = some o1 := hs₁.extBut _ _ n1 g
  refine wpAny_bind ?_
  simp only [List.zipIdx_cons, List.zipIdx_nil, List.forIn_cons, List.forIn_nil]
  refine wpAny_bind (wpAny_bind (wpAny_onRaise ?_))
  show wpAny _ _ (Builtin.SmallTypes.nextOf (.ref i1) >>= _) _ _ _
  cases hx : xs[k1]? with
  | none =>
    refine wpAny_bind (nextOf_list_endH hin g₁ n3 (h1.extBut hs₁.extBut D.i1z) (hl1.extBut hs₁.extBut D.l1z) hx fun h₂ e hs₂ he => ?_)
    obtain ⟨oe, hoe, hce⟩ := he
    have hz₂ : IsZip h₂ z TI TO .ellipsis := hs₂ _ _ D.i1z.symm hz₁
    have hez : e ≠ z := fun x => by subst x; rw [hz₂] at hoe; cases hoe; simp at hce
    refine wpAny_setField_rec hz₂ (by simp) fun h₃ _ hs₃ => fin h₃ e (fun c o c1 _ c3 _ x => hs₃.extBut _ _ c1 (hs₂ _ _ c3 (hs₁.extBut _ _ c1 x))) ⟨oe, hs₃.extBut _ _ hez hoe, hce⟩
  | some x =>
    have hy : ys[k2]? = none := by rcases hend with h | h; rw [hx] at h; cases h; exact h
    refine wpAny_bind (wpAny_nextOf_list_item (h1.extBut hs₁.extBut D.i1z) (hl1.extBut hs₁.extBut D.l1z) hx fun h₂ h1₂ hs₂ => wpAny_pure ?_)
    have hTO₂ : IsPair h₂ TO a b := hs₂.extBut _ _ D.TOi1 (hs₁.extBut _ _ D.TOz hTO)
    refine wpAny_bind (wpAny_seqItems hTO₂ rfl ?_)
    refine wpAny_bind (wpAny_updateSeq_pair hTO₂ fun h₃ hTO₃ hs₃ => ?_)
    refine wpAny_bind (wpAny_letGo (wpAny_pure ?_))
    refine wpAny_bind (wpAny_bind (wpAny_onRaise ?_))
    show wpAny _ _ (Builtin.SmallTypes.nextOf (.ref i2) >>= _) _ _ _
    refine wpAny_bind (nextOf_list_endH hin (hs₃.extBut _ _ n2 (hs₂.extBut _ _ n3 g₁)) n4 (((h2.extBut hs₁.extBut D.i2z).extBut hs₂.extBut D.i12.symm).extBut hs₃.extBut D.TOi2.symm)
      (((hl2.extBut hs₁.extBut D.l2z).extBut hs₂.extBut D.l2i1).extBut hs₃.extBut D.l2TO) hy fun h₄ e hs₄ he => ?_)
    obtain ⟨oe, hoe, hce⟩ := he
    have hz₄ : IsZip h₄ z TI TO .ellipsis := hs₄ _ _ D.i2z.symm (hs₃.extBut _ _ D.TOz.symm (hs₂.extBut _ _ D.i1z.symm hz₁))
    have hez : e ≠ z := fun x => by subst x; rw [hz₄] at hoe; cases hoe; simp at hce
    refine wpAny_setField_rec hz₄ (by simp) fun h₅ _ hs₅ => fin h₅ e (fun c o c1 c2 c3 c4 x => hs₅.extBut _ _ c1 (hs₄ _ _ c4 (hs₃.extBut _ _ c2 (hs₂.extBut _ _ c3 (hs₁.extBut _ _ c1 x))))) ⟨oe, hs₅.extBut _ _ hez hoe, hce⟩
end
end Li

set_option Elab.async false
set_option linter.all false
set_option maxRecDepth 100000
set_option maxHeartbeats 4000000
/-! A comprehension over zip, a def called, while an error is handled. -/
namespace Li
open PySem PySem.Spec PyProof.Rows L2 HotX
/-- the object at a stays as it is -/
def HotO (a : Addr) (o : Obj) : HO := .ext fun h => h.get? a = some o
structure TurnE (a1 : Addr) (o1 : Obj) (P : Program) (w : World) (K : PySem.W.Frag) (tg : Expr) (J : It) (fp : List Addr) (it : Addr) (tn : Nat → Heap → Prop) : Prop where
  mem : it ∈ fp
  obj : ∀ i h, tn i h → ∀ b ∈ fp, ∃ o, h.get? b = some o ∧ ∀ v, o.data ≠ .cell v
  keep : ∀ i h h', tn i h → (∀ b ∈ fp, ∀ o, h.get? b = some o → h'.get? b = some o) → tn i h'
  item : ∀ (X : Cx), X.prog = P → X.w = w → X.K = K → ∀ (i : Nat) (pins : List (Addr × Obj)) (s : Shared) (σ : L2.St) (H : Hp) (E : Value → Shared → Prop), Inv X pins σ H s → (∀ b ∈ fp, FpOk X pins H b) → tn i s.heap → J.go i H →
    wpAny (model P w) X.A (pyNext (.ref it)) (fun r s1 => ∃ u, r = some u ∧
      wpAny (model P w) X.A (letOwnedTupleGo tg (.ref it) u) (fun _ s2 => ∃ x H', Inv X pins σ H' s2 ∧ RelV x u ∧ J.yld i H x H' ∧ tn (i + 1) s2.heap ∧ ∀ b ∈ fp, H' b = none) E s1) E s
  done : ∀ (X : Cx), X.prog = P → X.w = w → X.K = K → Hnd X.A a1 o1 → ∀ (i : Nat) (pins : List (Addr × Obj)) (s : Shared) (σ : L2.St) (H : Hp) (E : Value → Shared → Prop), Inv X pins σ H s → H a1 = some (HotO a1 o1) → (∀ b ∈ fp, FpOk X pins H b) → tn i s.heap → J.stop i H →
    wpAny (model P w) X.A (pyNext (.ref it)) (fun r s1 => r = none ∧ Inv X pins σ H s1) E s
  self : ∀ (A : Around) (i : Nat) (s : Shared) (Q : Value → Shared → Prop) (E : Value → Shared → Prop), tn i s.heap → Q (.ref it) s → wpAny (model P w) A (pyIter (.ref it)) Q E s
def PIEh (X : Cx) (a1 : Addr) (o1 : Obj) (pins : List (Addr × Obj)) (σ : L2.St) (tg : Expr) (R : It → Hp → Prop) (itv : Value) (s2 : Shared) : Prop :=
  ∃ (it : Addr) (fp : List Addr) (tn : Nat → Heap → Prop) (J : It) (H' : Hp), itv = .ref it ∧ Inv X pins σ H' s2 ∧ TurnE a1 o1 X.prog X.w X.K tg J fp it tn ∧ tn 0 s2.heap ∧ (∀ b ∈ fp, FpOk X pins H' b) ∧ R J H'
structure PIh (X : Cx) (a1 : Addr) (o1 : Obj) (tg iter : Expr) (wi : TI) : Prop where
  run : ∀ (pins : List (Addr × Obj)) (s : Shared) (σ : L2.St) (H : Hp) (R : It → Hp → Prop), Inv X pins σ H s → wi σ H R →
    wpAny (model X.prog X.w) X.A (eval iter X.env) (fun v s1 => wpAny (model X.prog X.w) X.A (pyIter v) (PIEh X a1 o1 pins σ tg R) X.xe s1) X.xe s
abbrev tLcE (a1 : Addr) (o1 : Obj) : TI → TG → TT → TE → List Nat → TE := tLcP fun H => H a1 = some (HotO a1 o1)
section
variable {X : Cx} {a1 : Addr} {o1 : Obj}
theorem turn_zipE {P : Program} {w : World} {K : PySem.W.Frag} {elts : List Expr} {kk : Nat} {tpos : Pos} {a b z TI TO i1 i2 : Addr} {a1 : Addr} {o1 : Obj} (D : ZipApart z TI TO i1 i2 a b) :
    TurnE a1 o1 P w K (.Tuple elts kk tpos) (Itz K a b) [z, TI, TO, i1, i2] z (fun i h => IsZip h z TI TO .none ∧ IsPair h TI (.ref i1) (.ref i2) ∧ (∃ x y, IsPair h TO x y) ∧ h.IsListIter i1 a i ∧ h.IsListIter i2 b i) where
  mem := by simp
  obj := fun i h st c hc => by
    obtain ⟨hz, hTI, ⟨x, y, hTO⟩, ⟨o1, e1, _, d1⟩, ⟨o2, e2, _, d2⟩⟩ := st
    have e' : c = z ∨ c = TI ∨ c = TO ∨ c = i1 ∨ c = i2 := by simpa using hc
    rcases e' with q | q | q | q | q
    · rw [q]; exact ⟨_, hz, fun v q => nomatch q⟩
    · rw [q]; exact ⟨_, hTI, fun v q => nomatch q⟩
    · rw [q]; exact ⟨_, hTO, fun v q => nomatch q⟩
    · rw [q]; exact ⟨o1, e1, fun v q => by rw [d1] at q; cases q⟩
    · rw [q]; exact ⟨o2, e2, fun v q => by rw [d2] at q; cases q⟩
  keep := fun i h h' st k => by
    obtain ⟨hz, hTI, ⟨x, y, hTO⟩, h1, h2⟩ := st
    exact ⟨k z (by simp) _ hz, k TI (by simp) _ hTI, ⟨x, y, k TO (by simp) _ hTO⟩, h1.at fun o q => k i1 (by simp) o q, h2.at fun o q => k i2 (by simp) o q⟩
  item := by
    intro X hP hw hK i pins s σ H E I hf st hg
    subst hP hw hK
    obtain ⟨hz, hTI, ⟨x0, y0, hTO⟩, h1, h2⟩ := st
    obtain ⟨xs, ys, x, y, hqx, hqy, hx, hy⟩ := hg
    obtain ⟨its, rv, p, _⟩ := I.list hqx
    obtain ⟨its2, rv2, p2, _⟩ := I.list hqy
    obtain ⟨u, hu, ru⟩ := rv.get hx
    obtain ⟨u2, hu2, ru2⟩ := rv2.get hy
    have hzl : z < s.heap.objs.size := Heap.lt_size hz
    refine wpAny_pyNext_zip_item D hz hTI hTO h1 h2 p.isList p2.isList (x := u) (y := u2) (by simpa using hu) (by simpa using hu2) fun h' z' TO' h1' h2' hT hsz hk => ?_
    refine ⟨_, rfl, wpAny_letOwnedTupleGo_zip (s := { s with heap := h' }) z' fun h'' z'' sb => ?_⟩
    have hT2 : h''.get? s.heap.objs.size = some { cls := .type "tuple", data := .seq #[u, u2] } := (sb.2 _ (Nat.ne_of_gt hzl)).trans hT
    have new : ObjOk X.prog X.w (upd H s.heap.objs.size (.tup [x, y])) h'' s.heap.objs.size (.tup [x, y]) :=
      ⟨by show 2 ≤ sizeLine; decide, [u, u2], .cons ru (.cons ru2 .nil), ⟨_, hT2, rfl, _, rfl⟩⟩
    have I1 : Inv X pins σ (upd H s.heap.objs.size (.tup [x, y])) { s with heap := h'' } :=
      I.turnedNew (t' := s.toks) (ch := [z, TI, TO, i1, i2]) (fun c o hb q => (sb.2 c (fun q' => hb (by simp [q']))).trans (hk c o (fun q' => hb (by simp [q'])) (fun q' => hb (by simp [q'])) (fun q' => hb (by simp [q'])) (fun q' => hb (by simp [q'])) q)) hf (Nat.le_refl _) new
    refine ⟨.ref s.heap.objs.size, _, I1, rfl, ⟨_, x, y, rfl, I.hok.fresh (Nat.le_refl _), rfl, fun l hl => by rw [I.list_inj hl hqx]; exact hx, fun l hl => by rw [I.list_inj hl hqy]; exact hy⟩, ⟨z'', ?_, ⟨u, u2, ?_⟩, ?_, ?_⟩, fun c hcm => ?_⟩
    · exact (sb.2 _ D.TIz).trans (hk _ _ D.TIz D.TITO D.TIi1 D.TIi2 hTI)
    · exact (sb.2 _ D.TOz).trans TO'
    · exact h1'.at fun o q => (sb.2 _ D.i1z).trans q
    · exact h2'.at fun o q => (sb.2 _ D.i2z).trans q
    · have hlt : c < s.heap.objs.size := by
        have e' : c = z ∨ c = TI ∨ c = TO ∨ c = i1 ∨ c = i2 := by simpa using hcm
        rcases e' with q | q | q | q | q
        · rw [q]; exact hzl
        · rw [q]; exact Heap.lt_size hTI
        · rw [q]; exact Heap.lt_size hTO
        · rw [q]; obtain ⟨_, e1, _⟩ := h1; exact Heap.lt_size e1
        · rw [q]; obtain ⟨_, e2, _⟩ := h2; exact Heap.lt_size e2
      rw [upd_ne (Nat.ne_of_lt hlt)]
      exact (hf c hcm).1
  done := by
    intro X hP hw hK hh i pins s σ H E I ha hf st hg
    subst hP hw hK
    obtain ⟨hz, hTI, ⟨x0, y0, hTO⟩, h1, h2⟩ := st
    obtain ⟨xs, ys, hqx, hqy, hend⟩ := hg
    obtain ⟨its, rv, p, _⟩ := I.list hqx
    obtain ⟨its2, rv2, p2, _⟩ := I.list hqy
    have l1 := rv.length
    have l2 := rv2.length
    have he : its.toArray[i]? = none ∨ its2.toArray[i]? = none := by
      rcases hend with q | q
      · exact .inl (by simp; omega)
      · exact .inr (by simp; omega)
    have ne : ∀ c, c ∈ [z, TI, TO, i1, i2] → a1 ≠ c := fun c hc q => by
      have n := (hf c hc).1
      rw [← q, ha] at n
      cases n
    exact pyNext_zip_endH hh (I.hok a1 _ ha).1 (ne _ (by simp)) (ne _ (by simp)) (ne _ (by simp)) (ne _ (by simp)) D hz hTI hTO h1 h2 p.isList p2.isList he fun h' hk => ⟨rfl, I.turnedL (t' := s.toks) (ch := [z, TI, TO, i1, i2]) (fun c o hb q =>
      hk c o (fun q' => hb (by simp [q'])) (fun q' => hb (by simp [q'])) (fun q' => hb (by simp [q'])) (fun q' => hb (by simp [q'])) q) hf⟩
  self := fun A i s Q E st h => wpAny_pyIter_zip st.1 h
theorem pi_zipE {X : Cx} {e e2 : Expr} {ta : TA} {p pos tpos : Pos} {elts : List Expr} {kk : Nat} {a1 : Addr} {o1 : Obj} (hg : Gl X "zip") (hm : X.mg "zip" = none) (ha : PA X [e, e2] ta)
    (hs : starEach [e, e2] X.env = (false, eval e X.env) :: starEach [e2] X.env := by rfl) (hpl : (backTo pos (starEach [e2] X.env)).any (·.1) = false := by rfl) :
    PIh X a1 o1 (.Tuple elts kk tpos) (.Call (.Name "zip" p) [e, e2] [] pos) (iZip X.K ta) := by
  refine ⟨fun pins s σ H R I h => ?_⟩
  refine Call_ (ld_blt I hg hm PyProof.Rows.boot_zip (PyProof.Rows.callWith_type1 (thn (ha.run pos pins s σ H _ I h) fun us s1 ⟨vs, H1, I1, r1, q1⟩ => ?_) hs hpl))
  obtain ⟨a, b, xs, ys, ex, hqx, hqy, q⟩ := q1
  subst ex
  cases r1 with
  | cons r rr =>
    cases rr with
    | cons r' rr =>
      cases rr
      cases r
      cases r'
      obtain ⟨its, rv, p1, _⟩ := I1.list hqx
      obtain ⟨its2, rv2, p2, _⟩ := I1.list hqy
      have la : a < s1.heap.objs.size := p1.lt
      have lb : b < s1.heap.objs.size := p2.lt
      refine call_zip_2 p1.isList p2.isList fun h' hz hTI hTO h1 h2 hsz hk => wpAny_pyIter_zip hz ?_
      have I2 : Inv X pins σ H1 { s1 with heap := h' } := I1.kept (t' := s1.toks) hk
      refine ⟨s1.heap.objs.size + 4, [s1.heap.objs.size + 4, s1.heap.objs.size + 2, s1.heap.objs.size + 3, s1.heap.objs.size, s1.heap.objs.size + 1], _, _, H1, rfl, I2, turn_zipE (PySem.W.ktu_apart s1.heap.objs.size a b la lb), ⟨hz, hTI, ⟨_, _, hTO⟩, h1, h2⟩, fun c hcm => ?_, q⟩
      have e' : c = s1.heap.objs.size + 4 ∨ c = s1.heap.objs.size + 2 ∨ c = s1.heap.objs.size + 3 ∨ c = s1.heap.objs.size ∨ c = s1.heap.objs.size + 1 := by simpa using hcm
      have hle : s1.heap.objs.size ≤ c := by
        rcases e' with z | z | z | z | z
        · rw [z]; exact Nat.le_add_right _ _
        · rw [z]; exact Nat.le_add_right _ _
        · rw [z]; exact Nat.le_add_right _ _
        · rw [z]; exact Nat.le_refl _
        · rw [z]; exact Nat.le_add_right _ _
      exact I1.fpOk hle (I1.hok.fresh hle)
theorem lc_coreE {pins : List (Addr × Obj)} {s : Shared} {σ : L2.St} {H : Hp} {Q : VK} {elt tg iter : Expr} {ifs : List Expr} {scope : Scope} {own : List (Str × Nat)} {pos pos' : Pos} {wi : TI} {g : TG} {tt : TT} {te : TE} {use : Option (Value → Sem Unit)} {Qf : Value → Shared → Prop}
    (hh : Hnd X.A a1 o1) (hN : X.N.Nodup) (I : Inv X pins σ H s) (hi : PIh X a1 o1 tg iter wi) (ok : BlkOk X.N X.env.scope scope own)
    (hg : ∀ (s : Shared) (H : Hp) (C : Addr) (cl : List (Str × Addr)) (fp : List Addr), PG (X.blk s H scope (compEnvC scope cl C X.env) fp) tg g) (ht : ∀ (s : Shared) (H : Hp) (C : Addr) (cl : List (Str × Addr)) (fp : List Addr), PTs (X.blk s H scope (compEnvC scope cl C X.env) fp) ifs tt)
    (he : ∀ (s : Shared) (H : Hp) (C : Addr) (cl : List (Str × Addr)) (fp : List Addr), PE (X.blk s H scope (compEnvC scope cl C X.env) fp) elt te) (hs : ∀ x, foldedSetIterable iter X.env x = pure x)
    (h : tLcE a1 o1 wi g tt te (own.map (·.2)) σ H Q)
    (hRR : ∀ D C s' m H', Inv X pins σ H' s' → Q (.ref D) H' → s'.heap.Ns C m → FpOk X pins H' C → compPost (model X.prog X.w) X.A X.xe use Qf (.ref D) C (.ok .next) s') :
    wpAny (model X.prog X.w) X.A (comprehension (.ListComp elt [⟨tg, iter, ifs, 0⟩] scope pos) scope X.env pos' (newList []) false (eval iter X.env) use) Qf X.xe s := by
  have hfree : ∀ y ∈ scope.names, y.2 = .free → ∃ c, X.env.cells.lookup y.1 = some c := fun y hy e => by
    rcases ok.free y hy e with k | k
    · exact I.ok.has _ (.inl k)
    · exact I.ok.has _ (.inr k)
  refine wpAny_comprehension_free (use := use) rfl hs (closure_ok hfree) ok.kind (fun y hy e => by rw [ok.uniq y hy, e])
    (thn (hi.run pins s σ H _ I h) fun xv s1 hx => thn hx fun itv s2 h2 => ?_)
  obtain ⟨it, fp, tn, J, H2, e, I2, T, st2, f2, q⟩ := h2
  subst e
  refine wpAny_newObj_type (newEnv_comp ?_) (by show 0 ≤ sizeLine; decide)
  generalize hD : s2.heap.objs.size = D
  have hDn : H2 D = none := I2.hok.fresh (Nat.le_of_eq hD)
  obtain ⟨W, ⟨m0, w0⟩, hW, turn⟩ := q D hDn
  -- the new list
  generalize hs3 : ({ s2 with heap := s2.heap.push { cls := .type "list", data := .seq ([] : List Value).toArray } } : Shared) = s3
  have I3 : Inv X pins σ (upd H2 D (.lst [])) s3 := by
    rw [← hs3]
    refine I2.laid (t' := s2.toks) (fun b o e => Heap.get?_push_of_some _ e) (Nat.le_of_eq hD) ⟨Nat.zero_le _, [], 0, .nil, ?_⟩
    rw [← hD]
    exact Heap.get?_push_size _ rfl
  have h3 : s3.heap = s2.heap.push { cls := .type "list", data := .seq ([] : List Value).toArray } := by rw [← hs3]
  have sz : ∀ b ∈ fp, b < s2.heap.objs.size := fun b hb => by
    obtain ⟨o, e, _⟩ := T.obj _ _ st2 b hb
    exact Heap.lt_size e
  have f3 : ∀ b ∈ fp, FpOk X pins (upd H2 D (.lst [])) b ∧ b < s3.heap.objs.size := fun b hb => by
    have hlt := sz b hb
    refine ⟨⟨?_, (f2 b hb).2⟩, by rw [h3, Heap.size_push]; exact Nat.lt_succ_of_lt hlt⟩
    rw [upd_ne (by rw [← hD]; exact Nat.ne_of_lt hlt)]
    exact (f2 b hb).1
  have st3 : tn 0 s3.heap := T.keep _ _ _ st2 fun b _ o e => by rw [h3]; exact Heap.get?_push_of_some _ e
  have I4 := block_start I3 ok hN f3
  have pg := hg s3 (upd H2 D (.lst [])) s3.heap.objs.size (cellsFrom (s3.heap.objs.size + 1) scope.names (cloFrom X.env.cells scope.names [])) fp
  have pt := ht s3 (upd H2 D (.lst [])) s3.heap.objs.size (cellsFrom (s3.heap.objs.size + 1) scope.names (cloFrom X.env.cells scope.names [])) fp
  have pe := he s3 (upd H2 D (.lst [])) s3.heap.objs.size (cellsFrom (s3.heap.objs.size + 1) scope.names (cloFrom X.env.cells scope.names [])) fp
  show codeAny _ _ (.compStart (.ListComp elt [⟨tg, iter, ifs, 0⟩] scope pos) 0 (.ref it) (.ref D) (compEnvC scope (cellsFrom (s3.heap.objs.size + 1) scope.names (cloFrom X.env.cells scope.names [])) s3.heap.objs.size X.env)) (compPost (model X.prog X.w) X.A X.xe use Qf (.ref D) s3.heap.objs.size) { s3 with heap := pushCells (s3.heap.push { cls := .type "dict", data := .dict #[] }) scope.names }
  have nfp : ∀ b ∈ fp, (upd H2 D (.lst [])) b = none := fun b hb => (f3 b hb).1.1
  generalize hce : compEnvC scope (cellsFrom (s3.heap.objs.size + 1) scope.names (cloFrom X.env.cells scope.names [])) s3.heap.objs.size X.env = ce at I4 pg pt pe ⊢
  have cL : ce.locals = s3.heap.objs.size := by subst hce; rfl
  generalize hH3 : upd H2 D (.lst []) = H3 at I3 I4 pg pt pe w0 nfp f3
  generalize hs4 : ({ s3 with heap := pushCells (s3.heap.push { cls := .type "dict", data := .dict #[] }) scope.names } : Shared) = s4 at I4 ⊢
  have st4 : tn 0 s4.heap := T.keep _ _ _ st3 fun b _ o e => by rw [← hs4]; exact pushCells_keeps _ _ _ _ (Heap.get?_push_of_some _ e)
  have stat : ∀ {σ' : L2.St} {H' : Hp} {s' : Shared}, Inv (X.blk s3 H3 scope ce fp) [] σ' H' s' → (∀ b ∈ fp, H' b = none) → ∀ b ∈ fp, FpOk (X.blk s3 H3 scope ce fp) [] H' b := fun {σ' H' s'} I' hn b hb =>
    ⟨hn b hb, (I'.ok.exf b hb).1, I'.ok.exfs b hb, .inl hb, fun x c e => (I'.ok.exf b hb).2 x c e, fun p hp => absurd (show p ∈ ([] : List (Addr × Obj)) ++ [] from hp) (by simp)⟩
  have loop : codeAny (model X.prog X.w) X.A (.compLoop (.ListComp elt [⟨tg, iter, ifs, 0⟩] scope pos) 0 (.ref it) (.ref D) ce) (compPost (model X.prog X.w) X.A X.xe use Qf (.ref D) s3.heap.objs.size) s4 := by
    refine compLoop_any (fun n s' => ∃ i H', Inv (X.blk s3 H3 scope ce fp) [] (wipe σ (own.map (·.2))) H' s' ∧ tn i s'.heap ∧ (∀ b ∈ fp, H' b = none) ∧ W i n H') ?_ m0 ⟨0, H3, I4, st4, nfp, w0⟩
    rintro n s5 ⟨i, H5, I5, st5, n5, w5⟩
    rcases turn i n H5 w5 with ⟨stop, qq⟩ | ⟨go, Nx, hNx, step⟩
    · have td := T.done (X.blk s3 H3 scope ce fp) rfl rfl rfl hh i [] s5 _ H5 (fun _ _ => False) I5 (hW i n H5 w5) (stat I5 n5) st5 stop
      refine thnF td fun r s6 ⟨hr, I6⟩ => ?_
      subst hr
      -- back in the def's context
      have I7 : Inv X pins σ H5 s6 := I3.call' (ch := fp) I6.os I6.base I6.hok I6.bare fun b hb => ⟨(f3 b hb).1.2.2.2.1, (f3 b hb).1.2.1, (f3 b hb).1.2.2.2.2.1, (f3 b hb).1.2.2.2.2.2⟩
      have nC : H5 s3.heap.objs.size = none := by
        have z : H5 ce.locals = none := I6.free
        rw [cL] at z
        exact z
      obtain ⟨m, hn, _⟩ := I6.loc
      have hn : s6.heap.Ns ce.locals m := hn
      rw [cL] at hn
      exact hRR D s3.heap.objs.size s6 m H5 I7 qq hn (I3.fpOk (Nat.le_refl _) nC)
    · have ti := T.item (X.blk s3 H3 scope ce fp) rfl rfl rfl i [] s5 _ H5 (fun _ _ => False) I5 (stat I5 n5) st5 go
      refine thnF ti fun r s6 ⟨u, hr, h6⟩ => ?_
      subst hr
      refine thnF h6 fun _ s7 ⟨x, H7, I7, r7, y7, st7, n7⟩ => ?_
      have I7' := I7.pinned (stat I7 n7) (T.obj _ _ st7)
      refine thnF (pg.run _ s7 _ H7 x u _ I7' r7 (step x H7 y7)) fun _ s8 ⟨σ8, H8, I8, hw8, q8⟩ => ?_
      refine thnF (pt.run _ s8 σ8 H8 _ I8 q8) fun b s9 ⟨H9, I9, q9⟩ => ?_
      -- the turn's end
      have fin : ∀ {s' : Shared} {H' : Hp}, Inv (X.blk s3 H3 scope ce fp) ([] ++ pinsAt fp s7.heap) σ8 H' s' → Nx H' → ∃ m, m < n ∧ ∃ i H', Inv (X.blk s3 H3 scope ce fp) [] (wipe σ (own.map (·.2))) H' s' ∧ tn i s'.heap ∧ (∀ b ∈ fp, H' b = none) ∧ W i m H' := fun {s' H'} I' nx => by
        obtain ⟨m', hm, w'⟩ := hNx H' nx
        have pin' : ∀ b ∈ fp, ∀ o, s7.heap.get? b = some o → s'.heap.get? b = some o ∧ H' b = none := fun b hb o e =>
          let z := I'.pin (b, o) (List.mem_append_right _ (List.mem_append_right _ (mem_pinsAt hb e)))
          ⟨z.1, z.2.1⟩
        have hl : (wipe σ (own.map (·.2))).length = σ8.length := by rw [← hw8, wipe_length]
        refine ⟨m', hm, i + 1, H', (I'.unpinned (pins := [])).weak hl (fun j v e => ?_), T.keep _ _ _ st7 fun b hb o e => (pin' b hb o e).1, fun b hb => ?_, w'⟩
        · rw [← hw8] at e
          exact (wipe_some e).1
        · obtain ⟨o, e, _⟩ := T.obj _ _ st7 b hb
          exact (pin' b hb o e).2
      cases b with
      | false =>
        simp only [Bool.false_eq_true, if_false] at q9 ⊢
        exact fin I9 q9
      | true =>
        simp only [if_true] at q9 ⊢
        refine thnF (pe.run _ s9 σ8 H9 _ I9 q9) fun z s10 ⟨yv, H10, I10, r10, acc, hD10, hz10, nx⟩ => ?_
        exact app_ok (X := X.blk s3 H3 scope ce fp) I10 hD10 hz10 r10 fun s11 I11 => fin I11 nx
  exact codeAny_compStart_list loop (T.self X.A 0 _ _ _ st4 loop)
/-- as a value -/
theorem pe_lcE {elt tg iter : Expr} {ifs : List Expr} {scope : Scope} {own : List (Str × Nat)} {pos : Pos} {wi : TI} {g : TG} {tt : TT} {te : TE} (hh : Hnd X.A a1 o1) (hN : X.N.Nodup) (hi : PIh X a1 o1 tg iter wi) (ok : BlkOk X.N X.env.scope scope own)
    (hg : ∀ (s : Shared) (H : Hp) (C : Addr) (cl : List (Str × Addr)) (fp : List Addr), PG (X.blk s H scope (compEnvC scope cl C X.env) fp) tg g) (ht : ∀ (s : Shared) (H : Hp) (C : Addr) (cl : List (Str × Addr)) (fp : List Addr), PTs (X.blk s H scope (compEnvC scope cl C X.env) fp) ifs tt)
    (he : ∀ (s : Shared) (H : Hp) (C : Addr) (cl : List (Str × Addr)) (fp : List Addr), PE (X.blk s H scope (compEnvC scope cl C X.env) fp) elt te) (hs : ∀ x, foldedSetIterable iter X.env x = pure x := by intro _; rfl) :
    PE X (.ListComp elt [⟨tg, iter, ifs, 0⟩] scope pos) (tLcE a1 o1 wi g tt te (own.map (·.2))) := by
  refine ⟨fun pins s σ H Q I h => ?_⟩
  rw [eval_ListComp]
  refine lc_coreE hh hN I hi ok hg ht he hs h fun D C s' m H' I' q hn f => ⟨m, hn, fun h'' sb => ?_⟩
  obtain ⟨f0, f1, f2, f3, f4, f5⟩ := f
  exact ⟨.ref D, H', I'.turned (t' := s'.toks) (fun b o hb e => (sb.2 b hb).trans e) f0 f1 f3 f4 f5, rfl, q⟩
/-- (a, b, ..) = a tuple of that length -/
theorem pg_tupE {es : List Expr} {k : Nat} {t : TGs} {n : Nat} {pos : Pos} (hh : Hnd X.A a1 o1) (hH : ∀ v σ H Q, t v σ H Q → H a1 = some (HotO a1 o1)) (h : PGs X es t)
    (hn : (assignEach es X.env).length = n := by rfl) (hst : (assignEach es X.env).findIdx? (·.1) = none := by rfl) : PG X (.Tuple es k pos) (gTup X.K n t) := by
  refine ⟨fun pins s σ H v u Q I r hw => ?_⟩
  obtain ⟨a, xs, e1, hq, hl, hw⟩ := hw
  subst e1
  cases r
  obtain ⟨its, rv, ht, hz⟩ := I.tuple hq
  refine assign_tupleH hh (I.hok a1 _ (hH _ _ _ _ hw)).1 ht (by simp [hn, ← hl, rv.length]) hst fun h' hx => ?_
  have I1 : Inv X pins σ H { s with heap := h' } := I.kept (t' := s.toks) fun b o e => hx b o (Nat.ne_of_lt (Heap.lt_size e)) e
  exact h.run pins _ σ H xs _ Q I1 (by simpa using rv) hw
end
end Li

set_option Elab.async false
set_option linter.all false
set_option maxRecDepth 100000
set_option maxHeartbeats 2000000
/-! While an error is handled: rules over data, a def called there. -/
namespace Li
open PySem PySem.Spec PyProof.Rows L2 HotX
variable [Tbl]
/-- the error at a1 stands in what stays -/
theorem hot_of {K : PySem.W.Frag} {B : Ent} {a1 : Addr} {o1 : Obj} (hB : B.F a1 = some (HotO a1 o1)) {F : Hp} {μ : MS} {H : Hp} (s : B.to F μ H) (ok : Ok K F μ H) : H a1 = some (HotO a1 o1) := ok.sub _ _ (s.s _ _ hB)
section
variable {X : Cx} {B : Ent} {a1 : Addr} {o1 : Obj} {pos : Pos}
def DIh (X : Cx) (B : Ent) (a1 : Addr) (o1 : Obj) (tg e : Expr) (t : DTI) : Prop := PIh X a1 o1 tg e (LI X.K B t)
def dZipL (ta : DTA) : DTI := fun ρ μ R => ta ρ μ fun ds μ1 => match ds with
  | [.lst ds, .lst es] => (zipD ds es).length ≤ 1000 ∧ R (zipD ds es) μ1
  | _ => False
theorem di_zipE {e e2 : Expr} {ta : DTA} {n : Nat} {p tpos : Pos} {elts : List Expr} {kk : Nat} (hg : Gl X "zip") (hm : X.mg "zip" = none) (ha : DAn X B [e, e2] n ta)
    (hs : starEach [e, e2] X.env = (false, eval e X.env) :: starEach [e2] X.env := by rfl) (hpl : (backTo pos (starEach [e2] X.env)).any (·.1) = false := by rfl) :
    DIh X B a1 o1 (.Tuple elts kk tpos) (.Call (.Name "zip" p) [e, e2] [] pos) (dZipL ta) := by
  refine ⟨fun pins s σ H R I h => (pi_zipE (a1 := a1) (o1 := o1) hg hm ha hs hpl).run pins s σ H R I ?_⟩
  obtain ⟨F, ρ, μ, Qd, sB, ok, rs, t, cl⟩ := h
  refine ⟨F, ρ, μ, _, sB, ok, rs, t, fun F1 ds μ1 vs H1 s1 ok1 r1 hn1 t1 => ?_⟩
  split at t1
  · rename_i ds es
    obtain ⟨v, w, rfl, r, r'⟩ := reps2 r1
    obtain ⟨a, ws, rfl, h1, h2⟩ := rep_lst.mp r
    obtain ⟨b, us, rfl, h3, h4⟩ := rep_lst.mp r'
    refine ⟨a, b, ws, us, rfl, SqL.of (ok1.sub _ _ h1), SqL.of (ok1.sub _ _ h3), ?_⟩
    · refine cl F1 _ μ1 H1 _ s1 ok1 (Nat.le_trans t1.1 (line_of (Nat.le_refl _))) (fun i F2 μ2 H2 s ok => ?_) t1.2
      have hq : SqL X.K H2 a ws := SqL.of (ok.sub _ _ (s _ _ h1))
      have hq2 : SqL X.K H2 b us := SqL.of (ok.sub _ _ (s _ _ h3))
      refine ⟨fun d e => ?_, fun hl => ⟨ws, us, hq, hq2, ?_⟩⟩
      · obtain ⟨x, y, ex, ey, rfl⟩ := zipD_get e
        obtain ⟨w1, ew1, rw1⟩ := h2.get ex
        obtain ⟨w2, ew2, rw2⟩ := h4.get ey
        refine ⟨⟨ws, us, w1, w2, hq, hq2, ew1, ew2⟩, fun x H3 ⟨T, y1, y2, e3, hT, e4, e5, e6⟩ => ?_⟩
        have q1 := e5 ws hq
        have q2 := e6 us hq2
        rw [ew1] at q1; cases q1
        rw [ew2] at q2; cases q2
        subst e3 e4
        have sF := same_upd (o := HO.tup [w1, w2]) (ok.freeF hT)
        exact ⟨_, ok.stpFrozen hT, ok.frozen hT, rep_tup.mpr ⟨T, _, rfl, SqT.of upd_same, .cons ((rw1.mono s).mono sF) (.cons ((rw2.mono s).mono sF) (reps_nil.mpr rfl))⟩⟩
      · unfold zipD at hl
        rw [List.length_zipWith, h2.length, h4.length] at hl
        omega
  · exact t1.elim
section
variable {elt tg iter : Expr} {ifs : List Expr} {scope : Scope} {own : List (Str × Nat)} {vs : List Nat} {ti : DTI} {g : DTG} {tt : DTT} {te : DTE}
theorem de_lcE (hh : Hnd X.A a1 o1) (hB : B.F a1 = some (HotO a1 o1)) (hN : X.N.Nodup) (hi : DIh X B a1 o1 tg iter ti) (ok : BlkOk X.N X.env.scope scope own) (hg : CTg X B scope vs tg g) (ht : InBlk X scope fun Y => DTs Y B ifs tt) (he : InBlk X scope fun Y => DE Y B elt te) (hs : ∀ x, foldedSetIterable iter X.env x = pure x := by intro _; rfl) (hv : own.map (·.2) = vs := by rfl) :
    DE X B (.ListComp elt [⟨tg, iter, ifs, 0⟩] scope pos) (dLc ti g tt te vs) := by
  subst hv
  obtain ⟨tv, h1, h2, h3⟩ := hg.ex
  exact PE.by (pe_lcE hh hN hi ok h1 ht he hs) fun _ _ _ => le_lcP (Qo := fun Q r μ2 => Q (.lst r) μ2) (fun F μ H s o => hot_of hB s o) h2 h3 lc_froz
theorem ctg_tupE {tg : Expr} {scope : Scope} {vs : List Nat} {n : Nat} (hB : B.F a1 = some (HotO a1 o1)) (is : List Nat)
    (h : ∀ (s : Shared) (H : Hp) (C : Addr) (cl : List (Str × Addr)) (fp : List Addr), PG (X.blk s H scope (compEnvC scope cl C X.env) fp) tg (gTup X.K n fun xs σ H Q => H a1 = some (HotO a1 o1) ∧ gNms is xs σ H Q)) (hi : ∀ i ∈ is, i ∈ vs := by decide) :
    CTg X B scope vs tg (dGTup n (dNms is)) :=
  ⟨gTup X.K n fun xs σ H Q => H a1 = some (HotO a1 o1) ∧ gNms is xs σ H Q, h, fun v σ H Q ⟨a, xs, e, h1, h2, h0, q⟩ => ⟨a, xs, e, h1, h2, h0, gNms_stays hi q⟩, fun v σ H Q ⟨F, d, ρ, μ, Qd, sB, ok, rs, rd, t, cl⟩ => by
    unfold dGTup at t
    split at t
    · rename_i ds
      obtain ⟨a, ws, rfl, h1, h2⟩ := rep_tup.mp rd
      cases e : (ds.length == n) with
      | false => rw [e] at t; exact t.elim
      | true =>
        rw [e] at t
        exact ⟨a, ws, rfl, ok.sqT h1, by rw [← h2.length]; exact eq_of_beq e, hot_of hB sB ok, gNms_of ⟨F, ds, ρ, μ, Qd, sB, ok, rs, h2, t, cl⟩⟩
    · exact t.elim⟩
end
/-- isinstance(e, C) of the handled error -/
theorem call_isEH {Dc : Addr} (C : ExcC X.K Dc) (hz : Zc (.ref Dc) none o1) (hf : ∃ vs, o1.data = .fields vs) : CallR X (.builtin "isinstance") fun xs H Q => ∃ (c : V) (cv : Value) (b : Bool), xs = [.ref a1, c] ∧ (∀ u, RelV c u → u = cv) ∧ PySem.W.kitOne X.K (.ref Dc) cv = some b ∧ H a1 = some (HotO a1 o1) ∧ Q (.bl b) H := by
  intro pins s σ H xs us Q I r h
  obtain ⟨c, cv, b, rfl, hcv, e, hH, q⟩ := h
  cases r with
  | cons rx rr =>
    cases rr with
    | cons rt rr =>
      cases rr
      cases rx
      have ec := hcv _ rt
      subst ec
      have hget : s.heap.get? a1 = some o1 := (I.hok a1 _ hH).1
      obtain ⟨vs, hv⟩ := hf
      have J : PySem.W.InstAt s.heap a1 o1 Dc none := by
        obtain ⟨oc, od, oda, osl⟩ := o1
        obtain ⟨h1, h2⟩ := hz
        dsimp only at h1 h2 hv
        subst h1 h2 hv
        exact ⟨hget, rfl, rfl, trivial⟩
      exact PySem.W.kia_one (PySem.W.handS_kitx_exc C.hg C.hk C.hs C.hd C.ha C.hn C.ht C.hm) I.kIn J e (fun z => nomatch z) fun tk => ⟨.bl b, H, I.kept (t' := tk) fun _ _ z => z, rfl, q⟩
/-- isinstance of a, the error; b is the answer -/
def dIsB (te tc : DTE) (c : D) (b : Bool) (a1 : Addr) : DTE := fun ρ μ Q => dCons te (dCons tc dNil) ρ μ fun ds μ2 => ds = [.ref a1, c] ∧ Q (.bl b) μ2
theorem de_isE {Dc : Addr} {e ec : Expr} {te tc : DTE} {c : D} {cv : V} {cu : Value} {b : Bool} {p : Pos} (C : ExcC X.K Dc) (hz : Zc (.ref Dc) none o1) (hf : ∃ vs, o1.data = .fields vs) (hB : B.F a1 = some (HotO a1 o1)) (hg : Gl X "isinstance") (hm : X.mg "isinstance" = none)
    (h1 : DE X B e te) (h2 : DE X B ec tc) (rc : ∀ F v, Rep X.K F c v → v = cv) (hc : ∀ u, RelV cv u → u = cu) (hk : PySem.W.kitOne X.K (.ref Dc) cu = some b)
    (he : starEach [e, ec] X.env = (false, eval e X.env) :: starEach [ec] X.env := by rfl) (hpl : (backTo pos (starEach [ec] X.env)).any (·.1) = false := by rfl) (hs : starEach [ec] X.env = (false, eval ec X.env) :: starEach [] X.env := by rfl) : DE X B (.Call (.Name "isinstance" p) [e, ec] [] pos) (dIsB te tc c b a1) :=
  PE.by (pe_callB (call_isEH C hz hf) hg hm (by decide +kernel) (da_cons h1 (da_cons h2 da_nil hs) he) (by decide) (by decide) he hpl) fun σ H Q ⟨F, ρ, μ, Qd, sB, ok, rs, t, cl⟩ => by
    refine ⟨F, ρ, μ, fun ds μ2 => ds = [.ref a1, c] ∧ Qd (.bl b) μ2, sB, ok, rs, t, fun F1 ds μ1 vs H1 s1 ok1 r1 l1 t1 => ?_⟩
    · obtain ⟨rfl, q⟩ := t1
      obtain ⟨v, w, rfl, r, r'⟩ := reps2 r1
      obtain rfl := rep_ref.mp r
      obtain rfl := rc _ _ r'
      exact ⟨_, _, b, rfl, hc, hk, hot_of hB (sB.trans s1) ok1, cl _ _ _ _ _ s1 ok1 (rep_bl.mpr rfl) q⟩
end
end Li

set_option Elab.async false
set_option linter.all false
set_option maxRecDepth 100000
set_option maxHeartbeats 2000000
/-! A def called while an error is handled, the error among its arguments. -/
namespace Li
open PySem PySem.Spec PyProof.Rows L2 HotX L2H
variable [Tbl]
/-! ### what stays is looked at without the error -/
theorem heap_of (n : Nat) : ∃ h : Heap, h.objs.size = n := by
  induction n with
  | zero => exact ⟨{ objs := #[] }, rfl⟩
  | succ n ih =>
    obtain ⟨h, e⟩ := ih
    exact ⟨h.push { cls := .none, data := .fields #[] }, by rw [Heap.size_push, e]⟩
theorem code_ne_hot {a : Addr} {q : Str} {o : Obj} : LamX.CodeO a q ≠ HotO a o := fun z => by
  obtain ⟨h, e⟩ := heap_of a
  have key : ∀ t : Tok, o = { cls := .none, data := .fields #[.none, .str q t] } := fun t => by
    have g : (h.push { cls := .none, data := .fields #[.none, .str q t] }).get? a = some { cls := .none, data := .fields #[.none, .str q t] } := by rw [← e]; exact Heap.get?_push_size _ rfl
    unfold LamX.CodeO HotO at z
    have z' := congrFun (HO.ext.inj z) (h.push { cls := .none, data := .fields #[.none, .str q t] })
    have c : (h.push { cls := .none, data := .fields #[.none, .str q t] }).get? a = some o := by rw [← z']; exact ⟨_, _, t, g, rfl, rfl⟩
    rw [g] at c
    exact (Option.some.inj c).symm
  have c := (key 0).symm.trans (key 1)
  injection c with _ _ c _
  injection c with c
  have c := congrArg (fun v : Array Value => v[1]?) c
  injection Option.some.inj c with _ c
  exact absurd c (by decide)
def SameX (F F' : Hp) : Prop := ∀ b u, F b = some u → (∀ φ, u ≠ .ext φ) → F' b = some u
section
variable {K : PySem.W.Frag} {F F' : Hp}
theorem sameX_sqT {a : Addr} {xs : List V} (e : SameX F F') (h : SqT K F a xs) : SqT K F' a xs := by
  rcases h with (h | ⟨o, h⟩) | h
  · exact .inl (.inl (e _ _ h fun φ z => by cases z))
  · exact .inl (.inr ⟨o, e _ _ h fun φ z => by cases z⟩)
  · exact .inr h
theorem sameX_sqL {a : Addr} {xs : List V} (e : SameX F F') (h : SqL K F a xs) : SqL K F' a xs := by
  rcases h with (h | ⟨o, h⟩) | h
  · exact .inl (.inl (e _ _ h fun φ z => by cases z))
  · exact .inl (.inr ⟨o, e _ _ h fun φ z => by cases z⟩)
  · exact .inr h
mutual
theorem Rep.monoX (e : SameX F F') : ∀ {d : D} {v : V}, Rep K F d v → Rep K F' d v
  | .non, _, h => h
  | .bl _, _, h => h
  | .int _, _, h => h
  | .str _, _, h => h
  | .ref _, _, h => h
  | .ty _, _, h => h
  | .tup ds, v, h => by
    obtain ⟨a, vs, h1, h2, h3⟩ := rep_tup.mp h
    exact rep_tup.mpr ⟨a, vs, h1, sameX_sqT e h2, Reps.monoX e h3⟩
  | .lst ds, v, h => by
    obtain ⟨a, vs, h1, h2, h3⟩ := rep_lst.mp h
    exact rep_lst.mpr ⟨a, vs, h1, e _ _ h2 (fun φ z => by cases z), Reps.monoX e h3⟩
  | .scr ns, v, h => by
    obtain ⟨a, h1, h2⟩ := rep_scr.mp h
    exact rep_scr.mpr ⟨a, h1, sameX_sqL e h2⟩
theorem Reps.monoX (e : SameX F F') : ∀ {ds : List D} {vs : List V}, Reps K F ds vs → Reps K F' ds vs
  | [], _, h => by rw [reps_nil.mp h]; exact reps_nil.mpr rfl
  | d :: ds, vs, h => by
    obtain ⟨v, r, h1, h2, h3⟩ := reps_cons.mp h
    exact reps_cons.mpr ⟨v, r, h1, Rep.monoX e h2, Reps.monoX e h3⟩
end
theorem FReps.monoX (e : SameX F F') : ∀ {ds : List (Str × D)} {vs : List (Str × V)}, FReps K F ds vs → FReps K F' ds vs
  | [], _, h => h
  | (k, d) :: ds, vs, ⟨v, r, h1, h2, h3⟩ => ⟨v, r, h1, h2.monoX e, FReps.monoX e h3⟩
theorem sameX_del {a1 : Addr} {o1 : Obj} (h : F a1 = some (HotO a1 o1)) : SameX F (delH F a1) := fun b u q n => by
  have hb : b ≠ a1 := fun z => by subst z; rw [h] at q; cases q; unfold HotO at n; exact n _ rfl
  rw [delH_ne hb]
  exact q
theorem Ok.del {μ : MS} {H : Hp} {a1 : Addr} {o1 : Obj} (ok : Ok K F μ H) (h : F a1 = some (HotO a1 o1)) : Ok K (delH F a1) μ (delH H a1) := by
  have hH := ok.sub _ _ h
  refine ⟨fun b u q => ?_, fun a ds e => ?_, fun a C fs e => ?_, fun p hp => ?_, fun b ps z => ?_⟩
  · by_cases hb : b = a1
    · subst hb; rw [delH_same] at q; cases q
    · rw [delH_ne hb] at q ⊢; exact ok.sub b u q
  · obtain ⟨h1, vs, h2, h3⟩ := ok.lst a ds e
    have ha : a ≠ a1 := fun z => by subst z; rw [h] at h1; cases h1
    exact ⟨by rw [delH_ne ha]; exact h1, vs, by rw [delH_ne ha]; exact h2, h3.monoX (sameX_del h)⟩
  · obtain ⟨h1, dx, vfs, h2, h3⟩ := ok.ins a C fs e
    have ha : a ≠ a1 := fun z => by subst z; rw [h] at h1; cases h1
    exact ⟨by rw [delH_ne ha]; exact h1, dx, vfs, by rw [delH_ne ha]; exact h2, h3.monoX (sameX_del h)⟩
  · obtain ⟨ps, h1, h2, h3⟩ := ok.tab p hp
    have n1 : p.1 ≠ a1 := fun z => by rw [z, hH] at h1; unfold HotO at h1; cases h1
    refine ⟨ps, by rw [delH_ne n1]; exact h1, h2, fun pos cv hc => ?_⟩
    obtain ⟨c, e1, e2⟩ := h3 pos cv hc
    have n2 : c ≠ a1 := fun z => by subst z; rw [hH] at e2; exact code_ne_hot (Option.some.inj e2).symm
    exact ⟨c, e1, by rw [delH_ne n2]; exact e2⟩
  · by_cases hb : b = a1
    · rw [hb, delH_same] at z; cases z
    · rw [delH_ne hb] at z; exact ok.ntb _ _ z
theorem Stp.del {μ μ2 : MS} {H F2 H2 : Hp} {a1 : Addr} {o1 : Obj} (hF : F a1 = none) (hH : H a1 = none) (s : Stp (upd F a1 (HotO a1 o1)) μ (upd H a1 (HotO a1 o1)) F2 μ2 H2) : Stp F μ H (delH F2 a1) μ2 (delH H2 a1) := by
  refine ⟨fun b u q => ?_, fun b o q n m => ?_⟩
  · have hb := ne_of_none q hF
    rw [delH_ne hb]
    exact s.s b u (by rw [upd_ne hb]; exact q)
  · have hb := ne_of_none q hH
    obtain ⟨h1, m1, f1⟩ := s.fr b o (by rw [upd_ne hb]; exact q) n m
    exact ⟨by rw [delH_ne hb]; exact h1, m1, fun z => by rw [delH_ne hb]; exact f1 (by rw [upd_ne hb]; exact z)⟩
end
/-! ### the run -/
def cxE (CX : CXT) (P : Program) (w : World) (K : PySem.W.Frag) (mg : Str → Option Value) (base : Heap) (N : List Str) (qual : Str) (scope : Scope) (f : Addr) (cd : Value) (A : Around) (outer : List Env) (s : Shared) (H : Hp) (E : XK) : Cx :=
  { cxOf CX P w K mg base N qual scope f cd A outer s H E with calm := false }
theorem inv_startE {CX : CXT} {P : Program} {w : World} {K : PySem.W.Frag} {mg : Str → Option Value} {base : Heap} {N ps : List Str} {qual : Str} {scope : Scope} {f : Addr} {cd : Value} {A : Around} {outer : List Env} {s s1 : Shared} {H : Hp} {E : XK} {us : List Value} {vs : List V}
    (S : FnScope N ps scope) (e0 : Env0 P w K mg base A outer s H) (hl : vs.length = ps.length) (r : Vals vs us)
    (x : InCallC s s.heap.objs.size (bindL (envOfC qual scope s.heap.objs.size f cd).kindOf (ps.zip us) fun _ => none) (cellsFrom (s.heap.objs.size + 1) scope.names []) (bindC (envOfC qual scope s.heap.objs.size f cd).kindOf (ps.zip us) fun _ => none) s1) :
    Inv (cxE CX P w K mg base N qual scope f cd A outer s H E) [] (L2.start N vs) H s1 := by
  have hpl : ps.length ≤ N.length := by have := congrArg List.length S.pre; rw [List.length_take] at this; omega
  obtain ⟨h1, tk, rfl, hk⟩ := x.done
  have noA : ∀ b : Addr, b ∉ (cxE CX P w K mg base N qual scope f cd A outer s H E).ex := fun b z => absurd (show b ∈ ([] : List Addr) from z) (by simp)
  refine ⟨⟨e0.mod, S.kind, rfl, rfl, Nat.le_refl _, fun y z c h1 h2 => ?_, fun y hy => ?_, fun y c _ h => ?_, (fun z => Bool.noConfusion (show false = true from z)), Around.frames_deeper e0.frames, .inr ⟨rfl, rfl⟩, fun b z => absurd z (noA b), e0.bs, e0.bsz, fun b _ _ => noA b, fun b z => absurd z (noA b), e0.funs, e0.frf⟩,
    rfl, e0.bare, Un.kept hk, ⟨_, x.toInCall.ns, fun i y v h1 h2 h3 => ?_⟩, fun y c h => ⟨_, x.cell y c h⟩, e0.hok.fresh (Nat.le_refl _), fun y c h => ?_, fun q hq => ?_, e0.hok.kept hk, ?_⟩
  · exact name_of_addr x.apart (PySem.mem_of_lookup h1) (PySem.mem_of_lookup h2)
  · have hy : scope.names.lookup y = some .cell ∨ scope.names.lookup y = some .free := hy
    rcases hy with hy | hy
    · exact cell_has hy
    · exact absurd rfl (S.nofree _ (PySem.mem_of_lookup hy))
  · exact Nat.le_of_lt (x.above y c (PySem.mem_of_lookup h))
  · have hi : i < vs.length := by
      unfold L2.start at h2
      by_cases hi : i < vs.length
      · exact hi
      · rw [List.getElem?_append_right (by simpa using hi)] at h2
        rw [List.getElem?_replicate] at h2
        split at h2 <;> cases h2
    have ha : vs[i]? = some v := by
      unfold L2.start at h2
      rw [List.getElem?_append_left (by simpa using hi), List.getElem?_map] at h2
      cases e : vs[i]? with
      | none => rw [e] at h2; cases h2
      | some a => rw [e] at h2; cases h2; rfl
    obtain ⟨u, hu, rv⟩ := r.get ha
    have hp : ps[i]? = some y := by
      rw [← S.pre, List.getElem?_take_of_lt (by omega)]; exact h1
    have ndP : ps.Nodup := by rw [← S.pre]; exact S.nd.sublist (List.take_sublist _ _)
    refine ⟨u, rv, ?_⟩
    rcases S.par y (List.mem_of_getElem? hp) with k | k
    · exact .inl ⟨k, bindL_get ndP hp hu k⟩
    · obtain ⟨c, e⟩ := cell_has (n := s.heap.objs.size + 1) k
      refine .inr ⟨.inl k, c, e, ?_⟩
      have q := x.cell y c e
      rw [bindC_get ndP hp hu (by show scope.names.lookup y ≠ _; rw [k]; decide)] at q
      exact q
  · exact e0.hok.fresh (Nat.le_of_lt (x.above y c (PySem.mem_of_lookup h)))
  · exact absurd (show q ∈ ([] : List (Addr × Obj)) ++ [] from hq) (by simp)
  · unfold L2.start
    show _ = N.length
    rw [List.length_append, List.length_map, List.length_replicate]
    omega
theorem runE {CX : CXT} {P : Program} {w : World} {K : PySem.W.Frag} {mg : Str → Option Value} {base : Heap} {k : Nat} {f : Addr} {name qual : Str} {params : Arguments} {body : List Stmt} {scope : Scope} {dV kV doc pm cdv ct oc : Value} {an od : Option Addr}
    {osl : Array (Option Value)} {N ps : List Str} (lk : K.lookup f = some ⟨oc, od, .func (PySem.W.fnOf name qual params body scope dV kV doc pm an cdv ct), osl⟩) (hcd : PySem.W.codeIn K cdv qual = true) (S : FnScope N ps scope)
    {A : Around} {outer : List Env} {s : Shared} {H : Hp} {args : Args} {us : List Value} {vs : List V} {Q : VK} {E : XK} (hr : RoomH (k + 1) A) (e0 : Env0 P w K mg base A outer s H) (hb : BindsTo s (PySem.W.fnOf name qual params body scope dV kV doc pm an cdv ct) args (ps.zip us)) (r : Vals vs us) (hl : vs.length = ps.length)
    (hbody : RoomH k (A.deeper (envOfC qual scope s.heap.objs.size f cdv)) → ∃ t, PSs (cxE CX P w K mg base N qual scope f cdv A outer s H E) body t ∧ t { nx := fun _ H' => Q .non H', rt := Q } (L2.start N vs) H) :
    codeAny (model P w) A (.call (.ref f) args) (CR CX outer P w H s Q E) s := by
  have KX : K.In s.heap := e0.mod.kin.keeps fun b o e => (e0.bs b o e).1
  have lim : s.heap.NoLimit := e0.mod.nolimit.keeps fun b o e => (e0.bs b o e).1
  have hkind : ∀ y ∈ ps.zip us, scope.names.lookup y.1 = some .local ∨ (scope.names.lookup y.1 = some .cell ∧ ((cellsFrom (s.heap.objs.size + 1) scope.names []).lookup y.1).isSome = true) := fun ⟨n, v⟩ hy => by
    rcases S.par n (List.of_mem_zip hy).1 with q | q
    · exact .inl q
    · exact .inr ⟨q, PySem.W.cellsFrom_some _ _ _ (.inl q)⟩
  refine codeAny_call_function hr.depth (KX _ _ lk) rfl S.co S.gen rfl (PySem.W.codeRec_of KX hcd) (hb _ _ _ _ ?_)
  refine wpAny_newFunctionEnv_cells S.kind hkind fun env he s1 x => ?_
  subst he
  refine ⟨lim.keeps x.toInCall.keep, codeAny_func ?_⟩
  obtain ⟨t, ht, hq⟩ := hbody (hr.deeper _)
  have I : Inv (cxE CX P w K mg base N qual scope f cdv A outer s H E) [] (L2.start N vs) H s1 := inv_startE S e0 hl r x
  refine wpAny_mono (ht.run [] s1 (L2.start N vs) H _ I hq) (fun fl s' hs => ?_) fun e s' hs => hs
  have fin : ∀ {σ' : L2.St} {H' : Hp} {v : V} {u : Value}, Inv (cxE CX P w K mg base N qual scope f cdv A outer s H E) [] σ' H' s' → L2.RelV v u → Q v H' → CE outer P w H s Q u s' :=
    fun {σ' H' v u} J rv q => ⟨v, H', J.os, J.bare, J.base, J.hok, rv, q⟩
  cases fl with
  | ret u =>
    obtain ⟨v, σ', H', J, rv, q⟩ := hs
    exact fin J rv q
  | next =>
    obtain ⟨σ', H', J, q⟩ := hs
    exact fin (v := V.non) (u := Value.none) J rfl q
  | brk =>
    obtain ⟨_, _, _, q⟩ := hs
    exact False.elim q
  | cont =>
    obtain ⟨_, _, _, q⟩ := hs
    exact False.elim q

section
variable {X : Cx} {pins : List (Addr × Obj)} {σ : L2.St} {H : Hp} {s s' : Shared} {a1 : Addr} {o1 : Obj}
/-- the pinned error is tracked -/
theorem env_hot {P : Program} {w : World} {K : PySem.W.Frag} {mg : Str → Option Value} {base : Heap} {A : Around} {outer : List Env} (e : Env0 P w K mg base A outer s H) (g : s.heap.get? a1 = some o1) (n : H a1 = none) (hb : base.get? a1 = none) (hf : a1 ∉ frs outer) : Env0 P w K mg base A outer s (upd H a1 (HotO a1 o1)) where
  frames := e.frames
  mod := e.mod
  bs := fun b o q => ⟨(e.bs b o q).1, by rw [upd_ne (fun z => by rw [z, hb] at q; cases q)]; exact (e.bs b o q).2⟩
  bsz := e.bsz
  funs := e.funs
  frf := fun b hm => by rw [upd_ne (fun z => hf (by rw [← z]; exact hm))]; exact e.frf b hm
  hok := e.hok.laidN (fun _ _ q => q) n ⟨g, ⟨o1, g⟩, fun h1 h2 a b => b o1 a⟩
  bare := e.bare
/-- .. and not tracked any more -/
theorem ce_del {P : Program} {w : World} {outer : List Env} {Q : VK} {u : Value} (g : s.heap.get? a1 = some o1) (n : H a1 = none) (hf : a1 ∉ frs outer) (c : CE outer P w (upd H a1 (HotO a1 o1)) s (fun v H2 => H2 a1 = some (HotO a1 o1) ∧ Q v (delH H2 a1)) u s') : CE outer P w H s Q u s' := by
  obtain ⟨v, H2, os, ag, un, hok, rv, hH, q⟩ := c
  have g2 : s'.heap.get? a1 = some o1 := (hok a1 _ hH).1
  have at_ : ∀ b, b ≠ a1 → (upd H a1 (HotO a1 o1)) b = H b := fun b hb => upd_ne hb
  refine ⟨v, delH H2 a1, os, ag, ⟨fun b o q nb hm hx => ?_, fun b o q nb hm hx => ?_, fun b o q nb hx => ?_, un.there, fun b xs q => ?_, fun b o u q => ?_, fun b ps q => ?_⟩, fun b u q => ?_, rv, q⟩
  · by_cases hb : b = a1
    · rw [hb] at q ⊢
      rw [g] at q
      rw [g2]
      exact q
    · exact un.keep b o q (by rw [at_ b hb]; exact nb) hm hx
  · have hb : b ≠ a1 := fun z => hf (by rw [← z]; exact hm)
    exact un.slot b o q (by rw [at_ b hb]; exact nb) hm hx
  · by_cases hb : b = a1
    · rw [hb, delH_same]
    · rw [delH_ne hb]; exact un.free b o q (by rw [at_ b hb]; exact nb) hx
  · have hb := ne_of_none q n
    rw [delH_ne hb]
    exact un.tups b xs (by rw [at_ b hb]; exact q)
  · have hb := ne_of_none q n
    rw [delH_ne hb]
    exact un.frzs b o u (by rw [at_ b hb]; exact q)
  · have hb := ne_of_none q n
    obtain ⟨more, z⟩ := un.tbls b ps (by rw [at_ b hb]; exact q)
    exact ⟨more, by rw [delH_ne hb]; exact z⟩
  · have hb : b ≠ a1 := fun z => by rw [z, delH_same] at q; cases q
    rw [delH_ne hb] at q
    refine (hok b u q).stay (fun c w _ z => z) (fun c z => ?_) fun c xs z => ?_
    · have hc : c ≠ a1 := fun y => by rw [y, hH] at z; unfold HotO at z; cases z
      rw [delH_ne hc]; exact z
    · have hc : c ≠ a1 := fun y => by rw [y, hH] at z; unfold HotO at z; cases z
      rw [delH_ne hc]; exact z
/-- x(e), the handled error handed on -/
theorem pe_hot {CX : CXT} {k : Nat} {f : Addr} {name qual x p0 : Str} {params : Arguments} {body : List Stmt} {scope : Scope} {dV kV doc pm cdv ct oc : Value} {an od : Option Addr} {osl : Array (Option Value)} {N : List Str} {e : Expr} {te : TE} {q pos : Pos} {TT : Hp → VK → Prop}
    (hh : Hnd X.A a1 o1) (hp : (a1, o1) ∈ X.pn) (hX : ∀ (H : Hp) (s : Shared) (e : Value) (s' : Shared), ¬ CX X.stack H s E0 e s') (nb : X.base.get? a1 = none) (hg : Gl X x) (hm : X.mg x = some (.ref f)) (hk : PySem.W.keepIn X.K (.ref f) = true) (lk : X.K.lookup f = some ⟨oc, od, .func (PySem.W.fnOf name qual params body scope dV kV doc pm an cdv ct), osl⟩) (hcd : PySem.W.codeIn X.K cdv qual = true) (S : FnScope N [p0] scope)
    (hb : Binds X.K (PySem.W.fnOf name qual params body scope dV kV doc pm an cdv ct) [p0] []) (hr : RoomH (k + 1) X.A)
    (hbody : ∀ (A : Around) (outer : List Env) (s : Shared) (H : Hp) (Q : VK), Hnd A a1 o1 → RoomH k (A.deeper (envOfC qual scope s.heap.objs.size f cdv)) → H a1 = some (HotO a1 o1) → TT H Q →
      ∃ t, PSs (cxE CX X.prog X.w X.K X.mg X.base N qual scope f cdv A outer s H E0) body t ∧ t { nx := fun _ H' => Q .non H', rt := Q } (L2.start N [.ref a1]) H)
    (ha : PE X e te) (he : starEach [e] X.env = (false, eval e X.env) :: starEach [] X.env := by rfl) (hpl : (backTo pos (starEach [] X.env)).any (·.1) = false := by rfl) (hdb : (x == ("__debug__" : Str)) = false := by decide) :
    PE X (.Call (.Name x q) [e] [] pos) (fun σ H Q => te σ H fun v H1 => v = .ref a1 ∧ TT (upd H1 a1 (HotO a1 o1)) fun w H2 => H2 a1 = some (HotO a1 o1) ∧ Q w (delH H2 a1)) := by
  refine ⟨fun pins s σ H Q I h => ?_⟩
  refine wpAny_Call_Name_kw (ld_glob I hg hm ?_ hdb)
  refine PySem.W.callWith_K (h₀ := X.base) I.ok.mod.kin hk ?_ he hpl
  rw [he]
  show wpAny _ _ (spliced ((false, eval e X.env) :: backTo pos (starEach [] X.env))) _ _ s
  refine Calls.spliced_cons (thn (ha.run pins s σ H _ I h) fun u s1 ⟨v, H1, I1, r1, e1, q⟩ => ?_)
  refine Calls.spliced_nil ⟨I1.kIn, ?_⟩
  subst e1
  have P1 := I1.pin (a1, o1) (List.mem_append_left _ hp)
  have nf : a1 ∉ frs X.stack := fun hm => (List.mem_cons.mp (I1.stkSub a1 hm)).elim P1.2.2.1 P1.2.2.2.1
  have b := hb s1 [u] I1.kIn rfl
  rw [List.append_nil] at b
  refine wpAny_call (codeAny_mono (runE (CX := CX) (E := E0) (vs := [.ref a1]) (us := [u]) (ps := [p0]) lk hcd S hr (env_hot I1.env0 P1.1 P1.2.1 nb nf) b (.cons r1 .nil) rfl fun hr' => hbody _ _ _ _ _ hh hr' upd_same q) fun r s' hq => ?_)
  cases r with
  | error e => exact (hX _ _ _ _ hq).elim
  | ok fl =>
    cases fl with
    | ret u => exact I1.after (ce_del P1.1 P1.2.1 nf hq)
    | next => exact False.elim hq
    | brk => exact False.elim hq
    | cont => exact False.elim hq
end
section
variable {X : Cx} {x n : Str} {c : Value} {i : Nat} {body suite : List Stmt} {b₀ : Stmt} {np pos pos' : Pos} {tb : WX → TS} {ts : Addr → Value → Option Addr → TS} {Wout : WX}
theorem ps_try_asB (hs : X.stack = X.env :: X.outer) (hf : X.env.frame = some X.env.locals) (hN : X.N.Nodup) (hi : X.N[i]? = some n) (hln : X.env.kindOf n = some .local) (hc : Names X x c) (tk : L2N.Takes X Wout)
    (hb : ∀ (W : WX) (pn : List (Addr × Obj)) (xe : Value → Shared → Prop), L2N.Takes (X.tr pn xe) W → PassesOwn (model X.prog X.w) X.A X.env xe → PSs (X.tr pn xe) body (tb W))
    (hsu : ∀ (a : Addr) (oe : Obj) (cls : Value) (d : Option Addr) (pn : List (Addr × Obj)), L2N.Zn cls d oe → (∃ vs, oe.data = .fields vs) → X.base.get? a = none → PSs (X.suite a ((a, oe) :: pn)) (b₀ :: suite) (ts a cls d)) :
    PS X (.Try body [.ExceptHandler (some (.Name x np)) (some n) (b₀ :: suite) pos'] [] [] pos) (fun D σ H => tb (wAs X.K c i ts Wout D) D σ H) := by
  refine ⟨fun pins s σ H D I h => ?_⟩
  have ok := I.ok
  have hfr : X.A.frames = some (X.env :: X.outer) := by rw [ok.frames, hs]
  have hloc : Loc X.env.scope n := .inl hln
  refine wpAny_Try_except ?_
  refine wpAny_mono ((hb (wAs X.K c i ts Wout D) (X.pn ++ pins) (fun e s₁ => wpAny (model X.prog X.w) X.A (noteFrame e X.env) (fun _ s₂ => wpAny (model X.prog X.w) X.A (setFlight e none) (fun _ s₃ =>
    wpAny (model X.prog X.w) X.A (handleBy e X.env [.ExceptHandler (some (.Name x np)) (some n) (b₀ :: suite) pos']) (SP X pins D) X.xe s₃) X.xe s₂) X.xe s₁) (fun u s' xx => ?_) PassesOwn.looking).run [] s σ H D (I.toTry _) h) (fun f s1 hsp => ?_) (fun e s1 he => he)
  · -- the catch
    obtain ⟨a, B, sI, pins', σ', H', cls, d, rfl, J', nb, up, sky, na, os, ag, b, hb1, hyes, hno⟩ := xx
    have J : Inv X pins σ' H' sI := J'.ofTry ok
    have sky' : Sky B (X.env :: X.outer) a (L2N.Zn cls d) X.env.locals s'.heap := by rw [← hs]; exact sky
    show wpAny (model X.prog X.w) X.A (noteFrame (.ref a) X.env) _ _ _
    refine L2N.Sky.land L2N.Zn.steady hfr hf sky' fun h3 fl3 up3 => ?_
    have J3 : Inv X pins σ' H' { s' with heap := h3 } := J.landed nb fl3.1 (up.trans up3) os ag
    obtain ⟨oe3, vs3, he3, hz3, hd3⟩ := fl3.there
    have notFr : ∀ {h : Heap} {o : Obj} {vs : Array Value}, h.FunFrames B (X.env :: X.outer) → h.get? a = some o → o.data = .fields vs → a ∉ frs (X.env :: X.outer) := fun {h o vs} ff e dd hm => by
      obtain ⟨_, o', e', hnf⟩ := ff.mem hm
      rw [e] at e'; cases e'
      exact hnf _ dd
    have nfr := notFr fl3.2.2.1 he3 hd3
    have hbn : X.base.get? a = none := by
      cases e : X.base.get? a with
      | none => rfl
      | some o =>
        have q := nb a o (J.env0.bs a o e).1 (by rw [hs]; exact nfr)
        rw [fl3.2.1] at q
        cases q
    have nL : a ≠ X.env.locals := fun z => nfr (List.mem_filterMap.mpr ⟨X.env, List.mem_cons_self, by rw [hf, z]⟩)
    have nF : a ∉ X.fs := fun hm => by
      obtain ⟨e, he, q⟩ := List.mem_filterMap.mp hm
      exact nfr (List.mem_filterMap.mpr ⟨e, List.mem_cons_of_mem _ he, q⟩)
    have S3 := J3.suite he3 hd3 na nL nF
    refine wpAny_handleBy_cons (codeAny_handlers_test ?_) (by intro q; cases q)
    have LT : PySem.W.Looks (model X.prog X.w) h3 (typeOf (.ref a)) cls := fun A Q E s k q => wpAny_typeOf_ref (k _ _ he3) (by rw [hz3.1]; exact q)
    have LM := PySem.W.exm_one (M := model X.prog X.w) (J3.kIn) LT hb1
    have test : ∀ {Q : Value → Shared → Prop} {E : Value → Shared → Prop}, Q c { s' with heap := h3 } → wpAny (model X.prog X.w) (X.A.mark (some (.ref a))) (eval (.Name x np) X.env) Q E { s' with heap := h3 } := fun {Q E} q => by
      obtain ⟨hg, hdbg, hm | ⟨hm, hv, hnn⟩⟩ := hc
      · exact ld_glob (X := X.suite a ((a, oe3) :: (X.pn ++ pins))) S3 hg hm q hdbg
      · exact ld_blt (X := X.suite a ((a, oe3) :: (X.pn ++ pins))) S3 hg hm hv q hnn hdbg
    refine test (LM.here ?_)
    cases b with
    | true =>
      refine codeAny_handlers_suite_as ?_
      refine HandSPX.lands_againZ fl3 fun h4 fl4 up4 => ?_
      have J4 : Inv X pins σ' H' { s' with heap := h4 } := J.landed nb fl4.1 ((up.trans up3).trans up4) os ag
      obtain ⟨oe4, vs4, he4, hz4, hd4⟩ := fl4.there
      have S4 := J4.suite he4 hd4 na nL nF
      refine store_ok (X := X.suite a ((a, oe4) :: (X.pn ++ pins))) (v := .ref a) S4 hN hi hloc rfl (fun s5 S5 => ?_) (.inr hln)
      refine wpAny_mono ((hsu a oe4 cls d (X.pn ++ pins) hz4 ⟨_, hd4⟩ hbn).run [] s5 _ H' _ S5 (hyes rfl a na)) (fun f s6 hsp => ?_) (fun _ _ z => False.elim z)
      have end_ : ∀ {σ6 : L2.St} {H6 : Hp} {Q : Shared → Prop}, Inv (X.suite a ((a, oe4) :: (X.pn ++ pins))) [] σ6 H6 s6 → (∀ s7, Inv X pins (σ6.set i none) H6 s7 → Q s7) →
          wpAny (model X.prog X.w) X.A (do bindName X.env n .none; unbindBehindTheSuite X.env n pos') (fun _ s7 => Q s7) X.xe s6 := fun {σ6 H6 Q} S6 hq => gone_ok (S6.unsuite ok) hN hi hln hq
      cases f with
      | next =>
        obtain ⟨σ6, H6, S6, q6⟩ := hsp
        exact end_ S6 fun s7 J7 => ⟨_, _, J7, q6⟩
      | brk =>
        obtain ⟨σ6, H6, S6, q6⟩ := hsp
        exact end_ S6 fun s7 J7 => ⟨_, _, J7, q6⟩
      | cont =>
        obtain ⟨σ6, H6, S6, q6⟩ := hsp
        exact end_ S6 fun s7 J7 => ⟨_, _, J7, q6⟩
      | ret u =>
        obtain ⟨v6, σ6, H6, S6, r6, q6⟩ := hsp
        exact end_ S6 fun s7 J7 => ⟨_, _, _, J7, r6, q6⟩
    | false =>
      show wpAny _ X.A (handleBy (.ref a) X.env []) _ _ _
      refine wpAny_handleBy_nil ?_
      obtain ⟨k1, k2, k3, oe, vs, T, oT, ts', he, hz, hd, h1, hr⟩ := id fl3
      unfold PySem.passOn
      refine wpAny_bind (wpAny_field he hd h1 ?_)
      rw [if_neg (show ¬ ((Value.ref T == Value.none) = true) from by simp)]
      have fin : wpAny (model X.prog X.w) X.A (setFlight (.ref a) X.env.frame) (fun _ s4 => wpAny (model X.prog X.w) X.A (throw (.ref a) : Sem Flow) (SP X pins D) X.xe s4) X.xe { s' with heap := h3 } := by
        rw [hf]
        refine HandSPX.setFlight_upZ fl3 fun h4 hh4 up4 => wpAny_throw (tk _ _ ?_)
        exact ⟨a, B, sI, pins, σ', H', cls, d, rfl, J, nb, (up.trans up3).trans up4, .inr (.inr (by rw [hs]; exact hh4)), na, os, ag, hno rfl⟩
      first
        | exact wpAny_bind (wpAny_pure (wpAny_bind fin))
        | exact wpAny_bind fin
  · cases f with
    | next =>
      obtain ⟨σ', H', J', q⟩ := hsp
      exact wpAny_execs_nil ⟨σ', H', J'.ofTry ok, q⟩
    | brk =>
      obtain ⟨σ', H', J', q⟩ := hsp
      exact ⟨σ', H', J'.ofTry ok, q⟩
    | cont =>
      obtain ⟨σ', H', J', q⟩ := hsp
      exact ⟨σ', H', J'.ofTry ok, q⟩
    | ret u =>
      obtain ⟨v, σ', H', J', r, q⟩ := hsp
      exact ⟨v, σ', H', J'.ofTry ok, r, q⟩
end
end Li

set_option Elab.async false
set_option linter.all false
set_option maxRecDepth 100000
set_option maxHeartbeats 2000000
/-! A lambda handed to a def, errors with contexts. -/
namespace Li
open PySem PySem.Spec PyProof.Rows L2 HotX L2H
def lamCxN (X : Cx) (A : Around) (outer : List Env) (s : Shared) (H : Hp) (E : XK) (scope : Scope) (f c' : Addr) : Cx :=
  (LamX.lamCx X A outer s H E scope f c').tr [] fun e s' => wpAny (model X.prog X.w) (A.deeper (LamX.lamEnv X scope s.heap.objs.size f c')) (leaving (LamX.lamEnv X scope s.heap.objs.size f c') e) (fun _ s'' => L2N.CX X.prog X.w outer H s E e s'') (fun e' s'' => L2N.CX X.prog X.w outer H s E e' s'') s'
section
variable {X : Cx} {pins : List (Addr × Obj)} {σ : L2.St} {H HZ : Hp} {s s1 : Shared}
theorem pe_actN {CXg : CXT} {Eg : XK} {Ng : List Str} {qg : Str} {sg : Scope} {g f c' : Addr} {cdg pm ctv : Value} {params : Arguments} {body : Expr} {scope : Scope} {k i : Nat} {a : Str} {pn : List (Addr × Obj)} {xe : Value → Shared → Prop} {W : WX} {E : XK} {tb : TE} {p1 p2 : Pos}
    (I : Inv X pins σ H s) (L : LamX.LamS X.env.scope scope) (hf : s.heap.get? f = some (PySem.W.kla_obj "<lambda>" (X.env.qual ++ "<lambda>") params body scope (cloFrom X.env.cells scope.names []) pm c' ctv)) (hfn : H f = none) (hfr : f ∉ frs X.stack)
    (hbind : bindArgs (PySem.W.kla_fn "<lambda>" (X.env.qual ++ "<lambda>") params body scope (cloFrom X.env.cells scope.names []) pm (.ref c') ctv) ⟨[], []⟩ = pure [])
    (tk : L2N.Takes ((cxOf CXg X.prog X.w X.K X.mg X.base Ng qg sg g cdg X.A X.stack s H Eg).tr pn xe) W) (hW : ∀ cls d σ' H', E cls d H' → W cls d σ' H') (hr : Room (k + 1) (X.A.deeper (envOfC qg sg s.heap.objs.size g cdg)))
    (hbody : ∀ (A : Around) (outer : List Env) (s : Shared) (H : Hp), Room k (A.deeper (LamX.lamEnv X scope s.heap.objs.size f c')) → PE (lamCxN X A outer s H E scope f c') body tb)
    (hN : Ng[i]? = some a) (hv : Vis sg a) (hd : (a == ("__debug__" : Str)) = false := by decide) (hcd : (a == ("__classdict__" : Str)) = false := by decide) :
    PE ((cxOf CXg X.prog X.w X.K X.mg X.base Ng qg sg g cdg X.A X.stack s H Eg).tr pn xe) (.Call (.Name a p1) [] [] p2)
      (fun σZ HZ Q => σZ[i]? = some (some (.ref f)) ∧ HZ c' = some (LamX.CodeO c' (X.env.qual ++ "<lambda>")) ∧ tb σ HZ Q) := by
  refine ⟨fun pinsZ sZ σZ HZ Q IZ h => ?_⟩
  obtain ⟨hs, hc, ht⟩ := h
  refine wpAny_Call_Name_kw (thn ((pe_var (pos := p1) (i := i) hN hv hd hcd).run pinsZ sZ σZ HZ (fun v H1 => v = .ref f ∧ H1 = HZ) IZ ⟨.ref f, hs, rfl, rfl⟩) fun u s1 ⟨v, H1, I1, r1, q1⟩ => ?_)
  obtain ⟨ev, eH⟩ := q1
  subst ev
  rw [eH] at I1
  obtain rfl : u = Value.ref f := r1
  have of1 : s1.heap.get? f = some (PySem.W.kla_obj "<lambda>" (X.env.qual ++ "<lambda>") params body scope (cloFrom X.env.cells scope.names []) pm c' ctv) := I1.base.keep f _ hf hfn hfr (fun z => nomatch (show f ∈ ([] : List Addr) from z))
  refine PySem.W.callWith_F0 ⟨_, _, _, _, of1⟩ ?_
  have un : Un (frs X.stack) [] H HZ s.heap s1.heap := I1.base
  obtain ⟨⟨oc, vs, t, hoc, hdc, hvc⟩, _, _⟩ := I1.hok c' _ hc
  have rc : codeAny (model X.prog X.w) (X.A.deeper (envOfC qg sg s.heap.objs.size g cdg)) (.call (.ref f) ⟨[], []⟩) (CR (L2N.CX X.prog X.w) (envOfC qg sg s.heap.objs.size g cdg :: X.stack) X.prog X.w HZ s1 Q E) s1 := by
    refine PySem.W.kla_callFunE hr.depth of1 rfl L.co L.gen rfl ⟨c', oc, vs, t, rfl, hoc, hdc, hvc⟩ ?_
    rw [hbind]
    refine wpAny_pure (wpAny_newFunctionEnv (fun y hy => (L.own y hy).2) (fun y hy => absurd hy (by simp)) (fun h₁ hns hsb => ⟨I1.nolimit.fresh _ hsb, ?_⟩) L.kind)
    show codeAny _ _ (.expr body (LamX.lamEnv X scope s1.heap.objs.size f c')) _ _
    have kp : ∀ b o, s1.heap.get? b = some o → h₁.get? b = some o := fun b o e => hsb.extBut b o (Nat.ne_of_lt (Heap.lt_size e)) (Heap.get?_push_of_some _ e)
    have J : Inv (lamCxN X (X.A.deeper (envOfC qg sg s.heap.objs.size g cdg)) (envOfC qg sg s.heap.objs.size g cdg :: X.stack) s1 HZ E scope f c') [] σ HZ { s1 with heap := h₁, toks := s1.toks + ([] : List (Str × Value)).length } :=
      (LamX.lam_start2 (E := E) I L I1.env0 hr.hd un hns kp).toTry _
    refine PySem.W.kla_codeExpr (wpAny_mono ((hbody _ _ s1 HZ (hr.deeper _)).run [] _ _ HZ Q J ht) (fun v s' hq => ?_) fun e s' hq => hq)
    obtain ⟨w', H', J', rv, q⟩ := hq
    exact ⟨w', H', J'.os, J'.bare, J'.base, J'.hok, rv, q⟩
  have hx : Passes (L2N.CX X.prog X.w) ((cxOf CXg X.prog X.w X.K X.mg X.base Ng qg sg g cdg X.A X.stack s H Eg).tr pn xe) E := L2N.passes_call tk hW
  refine wpAny_call (codeAny_mono rc fun r s' hq => ?_)
  cases r with
  | error e => exact hx pinsZ σZ HZ s1 e s' I1 hq
  | ok fl =>
    cases fl with
    | ret u => exact I1.after hq
    | next => exact False.elim hq
    | brk => exact False.elim hq
    | cont => exact False.elim hq
end
def GivesToN (X : Cx) (Ng : List Str) (x : Str) (sg : Scope) (g : Addr) (cdg : Value) (bg : List Stmt) (a : Str) (q : Str) (TT : (XK → Hp → VK → Prop) → Hp → VK → Prop) : Prop :=
  ∀ (f c' : Addr) (s : Shared) (H : Hp) (Q : VK) (tl : XK → Hp → VK → Prop),
    (∀ (W : WX) (pn : List (Addr × Obj)) (xe : Value → Shared → Prop) (E : XK) (p1 p2 : Pos), L2N.Takes ((cxOf C8.CX0 X.prog X.w X.K X.mg X.base Ng x sg g cdg X.A X.stack s H C8.E0).tr pn xe) W → (∀ cls d σ' H', E cls d H' → W cls d σ' H') →
      PE ((cxOf C8.CX0 X.prog X.w X.K X.mg X.base Ng x sg g cdg X.A X.stack s H C8.E0).tr pn xe) (.Call (.Name a p1) [] [] p2) (fun σZ HZ Q => σZ[0]? = some (some (.ref f)) ∧ HZ c' = some (LamX.CodeO c' q) ∧ tl E HZ Q)) →
    H c' = some (LamX.CodeO c' q) → TT tl H Q →
    ∃ t, PSs (cxOf C8.CX0 X.prog X.w X.K X.mg X.base Ng x sg g cdg X.A X.stack s H C8.E0).nox bg t ∧ t { nx := fun _ H' => Q .non H', rt := Q } (L2.start Ng [.ref f]) H
section
variable {X : Cx}
theorem pe_lamcallN {T : List (Addr × Str)} {TT : (XK → Hp → VK → Prop) → Hp → VK → Prop} {x a : Str} {g c P : Addr} {k : Nat} {pg : Arguments} {bg : List Stmt} {sg : Scope} {dV kV doc pm cdv ct oc : Value} {an od : Option Addr} {osl : Array (Option Value)} {Ng : List Str}
    {params : Arguments} {body : Expr} {scope : Scope} {t : XK → TE} {p lpos pos : Pos} (hg : Gl X x) (hm : X.mg x = some (.ref g)) (hk : PySem.W.keepIn X.K (.ref g) = true)
    (lk : X.K.lookup g = some ⟨oc, od, .func (PySem.W.fnOf x x pg bg sg dV kV doc pm an cdv ct), osl⟩) (hcg : PySem.W.codeIn X.K cdv x = true) (hb : L2.Binds X.K (PySem.W.fnOf x x pg bg sg dV kV doc pm an cdv ct) [a] []) (Sg : FnScope Ng [a] sg) (hNg : Ng[0]? = some a) (hva : Vis sg a)
    (hG : GivesToN X Ng x sg g cdv bg a (X.env.qual ++ "<lambda>") TT)
    (TB : LamX.TabB X.base X.mg c P) (hcode : X.env.code = .ref c) (hmT : (P, X.env.qual ++ "<lambda>") ∈ T) (hu : ∀ p ∈ T, p.1 = P → p.2 = X.env.qual ++ "<lambda>") (hr : Room (k + 2) X.A) (L : LamX.LamS X.env.scope scope) (hdef : defaultsOf params X.env = ([], []))
    (hbind : ∀ (q : Str) (cl : List (Str × Addr)) (pm cv ctv : Value), bindArgs (PySem.W.kla_fn "<lambda>" q params body scope cl pm cv ctv) ⟨[], []⟩ = pure [])
    (hbody : ∀ (A : Around) (outer : List Env) (s : Shared) (H : Hp) (E : XK) (f c' : Addr), Room k (A.deeper (LamX.lamEnv X scope s.heap.objs.size f c')) → PE (lamCxN X A outer s H E scope f c') body (t E))
    (hdb : (x == ("__debug__" : Str)) = false := by decide) (hd : (a == ("__debug__" : Str)) = false := by decide) (hcd : (a == ("__classdict__" : Str)) = false := by decide) :
    PE X (.Call (.Name x p) [.Lambda params body scope lpos] [] pos) (LamX.tLam T TT t) := by
  refine ⟨fun pins s σ H Q I h => ?_⟩
  obtain ⟨hT, h⟩ := h
  refine wpAny_Call_Name_kw (ld_glob I hg hm ?_ hdb)
  refine PySem.W.callWith_K (h₀ := X.base) I.ok.mod.kin hk ?_ (by rfl) (by rfl)
  show wpAny _ _ (spliced ((false, eval (.Lambda params body scope lpos) X.env) :: backTo pos (starEach [] X.env))) _ _ s
  refine Calls.spliced_cons (LamX.lam_make2 I TB hcode hmT hu hT hdef (L.has I.ok) fun f c' pm' ctv H1 s' I1 eN T1 hf hfn hfr hco => ?_)
  refine Calls.spliced_nil ⟨I1.kIn, ?_⟩
  have rc : codeAny (model X.prog X.w) X.A (.call (.ref g) ⟨[.ref f], []⟩) (CR C8.CX0 X.stack X.prog X.w H1 s' Q C8.E0) s' := by
    refine LamX.run_ofS (N := Ng) (ps := [a]) (us := [.ref f]) (vs := [.ref f]) lk hcg Sg hr I1.env0 (hb s' [.ref f] I1.kIn rfl) (.cons rfl .nil) rfl fun hr' => ?_
    obtain ⟨t', ht', hq'⟩ := hG f c' s' H1 Q (fun E H' Q' => t E σ H' Q') (fun W pn xe E p1 p2 tk hW => pe_actN (i := 0) I1 L hf hfn hfr (hbind _ _ _ _ _) tk hW hr' (fun A outer s H hr2 => hbody A outer s H E f c' hr2) hNg hva hd hcd) hco (h H1 eN T1)
    exact ⟨t', ht'.nox, hq'⟩
  refine wpAny_call (codeAny_mono rc fun r s2 hq => ?_)
  cases r with
  | error e => exact (show False from hq).elim
  | ok fl =>
    cases fl with
    | ret u => exact I1.after hq
    | next => exact False.elim hq
    | brk => exact False.elim hq
    | cont => exact False.elim hq
end
end Li

set_option Elab.async false
set_option linter.all false
set_option maxRecDepth 100000
set_option maxHeartbeats 2000000
/-! The name of an error that a call ends in. -/
namespace Li
open PySem PySem.Spec PyProof.Rows L2 HotX L2H
/-- where the classes of errors stand -/
class Cls where
  FuseError : Addr
  InvalidScript : Addr
  InvalidFuses : Addr
  InvalidMinutes : Addr
  InvalidIndex : Addr
  InvalidSide : Addr
  InvalidTimes : Addr
  InvalidFacts : Addr
  InvalidNumber : Addr
  NothingToUndo : Addr
  TooMany : Addr
  InvalidText : Addr
inductive EC where
  | script | fuses | minutes | index | side | times | facts | number | undo | many | text
  deriving DecidableEq
variable [Tbl] [cC : Cls]
def EC.adr : EC → Addr
  | .script => cC.InvalidScript
  | .fuses => cC.InvalidFuses
  | .minutes => cC.InvalidMinutes
  | .index => cC.InvalidIndex
  | .side => cC.InvalidSide
  | .times => cC.InvalidTimes
  | .facts => cC.InvalidFacts
  | .number => cC.InvalidNumber
  | .undo => cC.NothingToUndo
  | .many => cC.TooMany
  | .text => cC.InvalidText
/-- what _law_names tells of it -/
def EC.nm : EC → Str
  | .script => "script value"
  | .fuses => "fuses value"
  | .minutes => "minutes value"
  | .index => "index value"
  | .side => "side value"
  | .times => "times value"
  | .facts => "facts value"
  | .number => "number value"
  | .undo => "undo value"
  | .many => "many value"
  | .text => "text value"
structure Errs (K : PySem.W.Frag) : Prop where
  exc : ∀ i : EC, ExcC K i.adr
  kit : ∀ i j : EC, PySem.W.kitOne K (.ref i.adr) (.ref j.adr) = some (decide (i = j))
  val : ∀ i : EC, PySem.W.kitOne K (.ref i.adr) (.type "ValueError") = some true
  fus : ∀ i : EC, PySem.W.exmOne K (.ref i.adr) (.ref cC.FuseError) = some true
def dIsC (i j : EC) (a1 : Addr) : DTE := dIsB (dVar 0) (dC (.ref j.adr)) (.ref j.adr) (decide (i = j)) a1
def t__law_names (i : EC) (a1 : Addr) : DTS := dSeq (dAsg (dLst (dCons (dIsC i .script a1) (dCons (dIsC i .fuses a1) (dCons (dIsC i .minutes a1) (dCons (dIsC i .index a1) (dCons (dIsC i .side a1) (dCons (dIsC i .times a1) (dCons (dIsC i .facts a1) (dCons (dIsC i .number a1) (dCons (dIsC i .undo a1) (dCons (dIsC i .many a1) (dCons (dIsC i .text a1)
  (dCons (dIsB (dVar 0) (dC (.ty "ValueError")) (.ty "ValueError") true a1) dNil))))))))))))) (dName 1))
  (dSeq (dAsg (dC (.str "script fuses minutes index side times facts number undo many text value")) (dName 2))
  (dRet (dM1 kJoin (dC (.str " ")) (dLc (dZipL (dCons (dM1 kSplit (dVar 2) (dC (.str " "))) (dCons (dVar 1) dNil))) (dGTup 2 (dNms [3, 4])) (dTest (dVar 4)) (dVar 3) [3, 4]))))
theorem split_names : Txt.split "script fuses minutes index side times facts number undo many text value" " " = (["script", "fuses", "minutes", "index", "side", "times", "facts", "number", "undo", "many", "text", "value"] : List Str) := by decide +kernel
theorem pure__law_names (i : EC) (a1 : Addr) (μ : MS) (Q : DK) (h : Q (.str i.nm) μ) : t__law_names i a1 { nx := fun _ μ => Q .non μ, rt := Q } [some (.ref a1), none, none, none, none] μ := by
  have fin : ∀ (ds : List D), ds = (["script", "fuses", "minutes", "index", "side", "times", "facts", "number", "undo", "many", "text", "value"] : List Str).map D.str →
      (dRet (dM1 kJoin (dC (.str " ")) (dLc (fun ρ μ R => (zipD ds [.bl (decide (i = .script)), .bl (decide (i = .fuses)), .bl (decide (i = .minutes)), .bl (decide (i = .index)), .bl (decide (i = .side)), .bl (decide (i = .times)), .bl (decide (i = .facts)), .bl (decide (i = .number)), .bl (decide (i = .undo)), .bl (decide (i = .many)), .bl (decide (i = .text)), .bl true]).length ≤ 1000 ∧ R (zipD ds [.bl (decide (i = .script)), .bl (decide (i = .fuses)), .bl (decide (i = .minutes)), .bl (decide (i = .index)), .bl (decide (i = .side)), .bl (decide (i = .times)), .bl (decide (i = .facts)), .bl (decide (i = .number)), .bl (decide (i = .undo)), .bl (decide (i = .many)), .bl (decide (i = .text)), .bl true]) μ) (dGTup 2 (dNms [3, 4])) (dTest (dVar 4)) (dVar 3) [3, 4])))
        { nx := fun _ μ => Q .non μ, rt := Q } [some (.ref a1), some (.lst [.bl (decide (i = .script)), .bl (decide (i = .fuses)), .bl (decide (i = .minutes)), .bl (decide (i = .index)), .bl (decide (i = .side)), .bl (decide (i = .times)), .bl (decide (i = .facts)), .bl (decide (i = .number)), .bl (decide (i = .undo)), .bl (decide (i = .many)), .bl (decide (i = .text)), .bl true]), some (.str "script fuses minutes index side times facts number undo many text value"), none, none] μ := by
    rintro _ rfl
    cases i with
    | script => exact ⟨by decide, by decide +kernel, h⟩
    | fuses => exact ⟨by decide, by decide +kernel, h⟩
    | minutes => exact ⟨by decide, by decide +kernel, h⟩
    | index => exact ⟨by decide, by decide +kernel, h⟩
    | side => exact ⟨by decide, by decide +kernel, h⟩
    | times => exact ⟨by decide, by decide +kernel, h⟩
    | facts => exact ⟨by decide, by decide +kernel, h⟩
    | number => exact ⟨by decide, by decide +kernel, h⟩
    | undo => exact ⟨by decide, by decide +kernel, h⟩
    | many => exact ⟨by decide, by decide +kernel, h⟩
    | text => exact ⟨by decide, by decide +kernel, h⟩
  refine ⟨rfl, rfl, rfl, rfl, rfl, rfl, rfl, rfl, rfl, rfl, rfl, rfl, ?_⟩
  have e : (Txt.split "script fuses minutes index side times facts number undo many text value" " ").map D.str = (["script", "fuses", "minutes", "index", "side", "times", "facts", "number", "undo", "many", "text", "value"] : List Str).map D.str := by rw [split_names]
  exact ⟨by decide +kernel, by decide +kernel, fin _ e⟩
end Li

set_option Elab.async false
set_option linter.all false
set_option maxRecDepth 100000
set_option maxHeartbeats 2000000
namespace Li
open PySem PySem.Spec PyProof.Rows L2 HotX L2H
variable [Tbl] [cC : Cls]
theorem de_cls {X : Cx} {B : Ent} {x : Str} {C : Addr} {pos : Pos} (hg : Gl X x) (g : X.mg x = some (.ref C)) (hd : (x == ("__debug__" : Str)) = false := by decide) : DE X B (.Name x pos) (dC (.ref C)) := de_glob hg ⟨.ref C, .ref C, g, rfl, fun _ => rep_ref.mpr rfl⟩ hd
/-! ### _law_names, handed the error that is handled -/
def TTn (K : PySem.W.Frag) (i : EC) (a1 : Addr) (o1 : Obj) (H : Hp) (Q : VK) : Prop := ∃ F μ Qd, Ok K F μ H ∧ F a1 = some (HotO a1 o1) ∧ Qd (.str i.nm) μ ∧ Cl K F μ H Qd Q
section
variable {P : Program} {w : World} {K : PySem.W.Frag} {mg : Str → Option Value} {base : Heap}
structure NamesOk (P : Program) (w : World) (K : PySem.W.Frag) (mg : Str → Option Value) (base : Heap) : Prop where
  ex : ∃ (f : Addr) (params : Arguments) (body : List Stmt) (scope : Scope) (dV kV doc pm cdv ct oc : Value) (an od : Option Addr) (osl : Array (Option Value)) (N : List Str),
    mg "_law_names" = some (.ref f) ∧ PySem.W.keepIn K (.ref f) = true ∧ K.lookup f = some ⟨oc, od, .func (PySem.W.fnOf "_law_names" "_law_names" params body scope dV kV doc pm an cdv ct), osl⟩ ∧ PySem.W.codeIn K cdv "_law_names" = true ∧ FnScope N ["e"] scope ∧
    Binds K (PySem.W.fnOf "_law_names" "_law_names" params body scope dV kV doc pm an cdv ct) ["e"] [] ∧
    ∀ (i : EC) (a1 : Addr) (o1 : Obj) (A : Around) (outer : List Env) (s : Shared) (H : Hp) (Q : VK), Hnd A a1 o1 → Zc (.ref i.adr) none o1 → TTn K i a1 o1 H Q →
      ∃ t, PSs (cxE (L2N.CX P w) P w K mg base N "_law_names" scope f cdv A outer s H E0) body t ∧ t { nx := fun _ H' => Q .non H', rt := Q } (L2.start N [.ref a1]) H
theorem names_ok {st : Stmt} {nm : List Str} (F : FnT K mg "_law_names" st ["e"]) (S : FnScope nm ["e"] (defScope st)) (hnm : nm.length = 5)
    (hder : ∀ (f : Addr) (cdv : Value) (A : Around) (outer : List Env) (s : Shared) (H : Hp) (B : Ent) (a1 : Addr) (o1 : Obj) (i : EC), Hnd A a1 o1 → Zc (.ref i.adr) none o1 → (∃ vs, o1.data = .fields vs) → B.F a1 = some (HotO a1 o1) →
      DSs (cxE (L2N.CX P w) P w K mg base nm "_law_names" (defScope st) f cdv A outer s H E0) B (defBody st) (t__law_names i a1)) : NamesOk P w K mg base := by
  obtain ⟨f, fd, h1, h2, h3⟩ := F.ex
  obtain ⟨oc, od, kV, doc, pm, an, cdv, ct, osl, rfl, lk, hcd⟩ := h2.ex
  refine ⟨f, _, _, _, _, _, _, _, _, _, _, _, _, _, nm, h1, h2.kp, lk, hcd, S, h3, fun i a1 o1 A outer s H Q hh hz ⟨F, μ, Qd, ok, hF, q, cl⟩ => ?_⟩
  refine ⟨_, hder f cdv A outer s H ⟨F, μ, H⟩ a1 o1 i hh hz (hh.dat.elim fun vs h => ⟨vs, h.1⟩) hF, F, _, μ, { nx := fun _ μ => Qd .non μ, rt := Qd }, Stp.refl, ok, RelS.start (N := nm) (ds := [.ref a1]) (.cons (rep_ref.mpr rfl) (reps_nil.mpr rfl)), ?_, ?_⟩
  · rw [show nm.length - [D.ref a1].length = 4 by simp [hnm]]
    exact pure__law_names i a1 μ Qd q
  · exact ⟨fun F1 ρ1 μ1 σ1 H1 s1 ok1 rs1 t1 => cl F1 _ μ1 _ H1 s1 ok1 (rep_non.mpr rfl) t1, cl, fun _ _ _ _ _ _ _ _ h => h.elim, fun _ _ _ _ _ _ _ _ h => h.elim⟩
end
/-! ### _law_error: what the call of a lambda ends in -/
def TTe (K : PySem.W.Frag) : (XK → Hp → VK → Prop) → Hp → VK → Prop := fun tl H Q => ∃ F μ Qd, Ok K F μ H ∧ Cl K F μ H Qd Q ∧ ∀ Qn : VK, (∀ v F' μ' H', Stp F μ H F' μ' H' → Ok K F' μ' H' → Qd (.str "") μ' → Qn v H') →
  tl (fun cls d H' => ∃ F' μ', Stp F μ H F' μ' H' ∧ Ok K F' μ' H' ∧ d = none ∧ ∃ i : EC, cls = .ref i.adr ∧ Qd (.str i.nm) μ') H Qn
theorem takesN {X : Cx} : L2N.Takes X (fun _ _ _ _ => False) := fun _ _ x => by
  obtain ⟨_, _, _, _, _, _, _, _, _, _, _, _, _, _, _, _, z⟩ := x
  exact z.elim
theorem err_gives {X : Cx} {Ng : List Str} {q : Str} {sg : Scope} {g : Addr} {cdg : Value} {j : Nat} {p1 p2 p3 p4 p5 p6 p7 p8 p9 p10 p11 p12 : Pos} (Er : Errs X.K) (Nm : NamesOk X.prog X.w X.K X.mg X.base)
    (hge : sg.names.lookup ("FuseError" : Str) = some .globalImplicit) (hgn : sg.names.lookup ("_law_names" : Str) = some .globalImplicit) (hle : sg.names.lookup ("e" : Str) = some .local) (hme : X.mg "FuseError" = some (.ref cC.FuseError)) (hN : Ng = (["call", "e"] : List Str))
    (hr : Room 2 X.A) :
    GivesToN X Ng "_law_error" sg g cdg [.Try [.Expr (.Call (.Name "call" p1) [] [] p2) p3] [.ExceptHandler (some (.Name "FuseError" p4)) (some "e") [.Return (some (.Call (.Name "_law_names" p5) [.Name "e" p6] [] p7)) p8] p9] [] [] p10, .Return (some (.Constant (.str "") j p11)) p12] "call" q (TTe X.K) := by
  intro f c' s H Q tl act hc ⟨F, μ, Qd, ok, cl, h⟩
  subst hN
  obtain ⟨fn, params, body, scope, dV, kV, doc, pm, cdv, ct, oc, an, od, osl, N, hmn, hkn, lkn, hcn, Sn, hbn, run⟩ := Nm.ex
  refine ⟨_, pss_cons (ps_try_asB (X := (cxOf C8.CX0 X.prog X.w X.K X.mg X.base ["call", "e"] "_law_error" sg g cdg X.A X.stack s H C8.E0).nox) (c := .ref cC.FuseError) (i := 1) (Wout := fun _ _ _ _ => False)
      (tb := fun W D σ H => ∃ Ech : XK, (∀ cls d σ' H', Ech cls d H' → W cls d σ' H') ∧ σ[0]? = some (some (.ref f)) ∧ H c' = some (LamX.CodeO c' q) ∧ tl Ech H (fun _ H' => D.nx σ H'))
      (ts := fun a cls d D σ H => (σ.length = 2 → σ[1]? = some (some (.ref a))) ∧ d = none ∧ ∃ F' μ' Qd, Ok X.K F' μ' H ∧ H a = none ∧ Cl X.K F' μ' H Qd D.rt ∧ ∃ i : EC, cls = .ref i.adr ∧ Qd (.str i.nm) μ')
      rfl rfl (show (["call", "e"] : List Str).Nodup by decide) rfl hle ⟨hge, by decide, .inl hme⟩ takesN (fun W pn xe tk _ => ?_) (fun a oe cls d pn hz hd hb => ?_)) (pss_one (ps_ret pe_str)), ?_⟩
  · refine ⟨fun pins s' σ H' D I h' => ?_⟩
    obtain ⟨Ech, hW, h1, h2, h3⟩ := h'
    have hp := act W pn xe Ech p1 p2 tk hW
    exact (pss_one (ps_expr (pos := p3) hp)).run pins s' σ H' D I ⟨h1, h2, h3⟩
  · refine ⟨fun pins s' σ H' D I h' => ?_⟩
    obtain ⟨h1, rfl, F', μ', Qd', ok', na, cl', i, rfl, q'⟩ := h'
    have hh : Hnd ((cxOf C8.CX0 X.prog X.w X.K X.mg X.base ["call", "e"] "_law_error" sg g cdg X.A X.stack s H C8.E0).nox.suite a ((a, oe) :: pn)).A a oe := ⟨rfl, by
      obtain ⟨vs, e⟩ := hd
      exact ⟨vs, e, hz.2.2 vs e⟩⟩
    have hr' := roomH_of (hr.deeper (envOfC "_law_error" sg s.heap.objs.size g cdg))
    have hpe := pe_hot (X := (cxOf C8.CX0 X.prog X.w X.K X.mg X.base ["call", "e"] "_law_error" sg g cdg X.A X.stack s H C8.E0).nox.suite a ((a, oe) :: pn)) (CX := L2N.CX X.prog X.w) (k := 0) (TT := TTn X.K i a oe) (q := p5) (pos := p7)
      hh List.mem_cons_self (fun _ _ _ _ z => by obtain ⟨_, _, _, _, _, _, _, _, _, _, _, _, z⟩ := z; exact z.elim) hb hgn hmn hkn lkn hcn Sn hbn ⟨hr'.dp, hr'.un⟩ (fun A outer s H Q hA _ _ hT => run i a oe A outer s H Q hA hz.zc hT) (pe_var (X := (cxOf C8.CX0 X.prog X.w X.K X.mg X.base ["call", "e"] "_law_error" sg g cdg X.A X.stack s H C8.E0).nox.suite a ((a, oe) :: pn)) (pos := p6) (i := 1) (x := "e") rfl (.inl hle) (by decide) (by decide))
    refine (pss_one (ps_ret (pos := p8) hpe)).run pins s' σ H' D I ?_
    refine ⟨_, h1 I.len, rfl, upd F' a (HotO a oe), μ', Qd', ok'.frozen na (fun ps z => by unfold HotO at z; cases z), upd_same, q', fun F2 d μ2 v H2 s2 ok2 r2 q2 => ?_⟩
    have hF2 : F2 a = some (HotO a oe) := s2.s _ _ upd_same
    exact ⟨ok2.sub _ _ hF2, cl' (delH F2 a) d μ2 v (delH H2 a) (Stp.del (ok'.freeF na) na s2) (ok2.del hF2) (r2.monoX (sameX_del hF2)) q2⟩
  · refine ⟨_, ?_, rfl, hc, h _ fun v F' μ' H' s' ok' q' => ?_⟩
    · rintro cls d σ' H' ⟨F', μ', s', ok', rfl, i, rfl, q'⟩
      refine ⟨true, Er.fus i, fun _ a na => ⟨fun hl => List.getElem?_set_self (by rw [List.length_set] at hl; omega), rfl, F', μ', Qd, ok', na, cl.mono s', i, rfl, q'⟩, fun z => by cases z⟩
    · exact cl F' _ μ' _ H' s' ok' (rep_str.mpr rfl) q'
end Li

set_option Elab.async false
set_option linter.all false
set_option maxRecDepth 100000
set_option maxHeartbeats 2000000
/-! x(lambda: ..) for _law_error; defs that make lambdas. -/
namespace Li
open PySem PySem.Spec PyProof.Rows L2 HotX L2H
variable [Tbl] [cC : Cls]
/-- what the text holds: the def x, that makes lambdas -/
structure FnTL (K : PySem.W.Frag) (mg : Str → Option Value) (base : Heap) (x : Str) (st : Stmt) (ps : List Str) (q : Str) : Prop where
  ex : ∃ f fd c P, mg x = some (.ref f) ∧ Fun K x x st f fd ∧ Binds K fd ps [] ∧ fd.code = .ref c ∧ LamX.TabB base mg c P ∧ (P, q) ∈ Tbl.T ∧ ∀ p ∈ Tbl.T, p.1 = P → p.2 = q
structure ErrText (K : PySem.W.Frag) (mg : Str → Option Value) : Prop where
  ex : ∃ (g : Addr) (params : Arguments) (scope : Scope) (dV kV doc pm cdv ct oc : Value) (an od : Option Addr) (osl : Array (Option Value)) (j : Nat) (p1 p2 p3 p4 p5 p6 p7 p8 p9 p10 p11 p12 : Pos),
    mg "_law_error" = some (.ref g) ∧ PySem.W.keepIn K (.ref g) = true ∧ K.lookup g = some ⟨oc, od, .func (PySem.W.fnOf "_law_error" "_law_error" params [.Try [.Expr (.Call (.Name "call" p1) [] [] p2) p3] [.ExceptHandler (some (.Name "FuseError" p4)) (some "e") [.Return (some (.Call (.Name "_law_names" p5) [.Name "e" p6] [] p7)) p8] p9] [] [] p10, .Return (some (.Constant (.str "") j p11)) p12] scope dV kV doc pm an cdv ct), osl⟩ ∧
    PySem.W.codeIn K cdv "_law_error" = true ∧ L2.Binds K (PySem.W.fnOf "_law_error" "_law_error" params [.Try [.Expr (.Call (.Name "call" p1) [] [] p2) p3] [.ExceptHandler (some (.Name "FuseError" p4)) (some "e") [.Return (some (.Call (.Name "_law_names" p5) [.Name "e" p6] [] p7)) p8] p9] [] [] p10, .Return (some (.Constant (.str "") j p11)) p12] scope dV kV doc pm an cdv ct) ["call"] [] ∧
    FnScope ["call", "e"] ["call"] scope ∧ scope.names.lookup ("FuseError" : Str) = some .globalImplicit ∧ scope.names.lookup ("_law_names" : Str) = some .globalImplicit ∧ scope.names.lookup ("e" : Str) = some .local ∧ mg "FuseError" = some (.ref cC.FuseError)
theorem errText_of {K : PySem.W.Frag} {mg : Str → Option Value} {st : Stmt} {j : Nat} {p1 p2 p3 p4 p5 p6 p7 p8 p9 p10 p11 p12 : Pos} (F : FnT K mg "_law_error" st ["call"]) (S : FnScope ["call", "e"] ["call"] (defScope st))
    (hb : defBody st = [.Try [.Expr (.Call (.Name "call" p1) [] [] p2) p3] [.ExceptHandler (some (.Name "FuseError" p4)) (some "e") [.Return (some (.Call (.Name "_law_names" p5) [.Name "e" p6] [] p7)) p8] p9] [] [] p10, .Return (some (.Constant (.str "") j p11)) p12])
    (h1 : (defScope st).names.lookup ("FuseError" : Str) = some .globalImplicit) (h2 : (defScope st).names.lookup ("_law_names" : Str) = some .globalImplicit) (h3 : (defScope st).names.lookup ("e" : Str) = some .local) (h4 : mg "FuseError" = some (.ref cC.FuseError)) : ErrText K mg := by
  obtain ⟨f, fd, e1, e2, e3⟩ := F.ex
  have kp := e2.kp
  obtain ⟨oc, od, kV, doc, pm, an, cdv, ct, osl, rfl, lk, hcd⟩ := e2.ex
  rw [hb] at lk e3
  exact ⟨f, _, _, _, _, _, _, _, _, _, _, _, _, j, p1, p2, p3, p4, p5, p6, p7, p8, p9, p10, p11, p12, e1, kp, lk, hcd, e3, S, h1, h2, h3, h4⟩
def dErr (r : DXK → DTE) : DTE := fun ρ μ Q => r (fun cls x μ' => x = none ∧ ∃ i : EC, cls = .ref i.adr ∧ Q (.str i.nm) μ') ρ μ fun _ μ' => Q (.str "") μ'
theorem de_err {X : Cx} {B : Ent} {k : Nat} {c P : Addr} {params : Arguments} {body : Expr} {scope : Scope} {r : DXK → DTE} {p lpos pos : Pos} (Er : Errs X.K) (Nm : NamesOk X.prog X.w X.K X.mg X.base) (Te : ErrText X.K X.mg) (hg : Gl X "_law_error")
    (hcode : X.env.code = .ref c) (TB : LamX.TabB X.base X.mg c P) (hmT : (P, X.env.qual ++ "<lambda>") ∈ Tbl.T) (hu : ∀ p ∈ Tbl.T, p.1 = P → p.2 = X.env.qual ++ "<lambda>") (hr : Room (k + 2) X.A)
    (L : LamX.LamS X.env.scope scope) (hdef : defaultsOf params X.env = ([], [])) (hbind : ∀ (q : Str) (cl : List (Str × Addr)) (pm cv ctv : Value), bindArgs (PySem.W.kla_fn "<lambda>" q params body scope cl pm cv ctv) ⟨[], []⟩ = pure [])
    (hder : ∀ (A : Around) (outer : List Env) (s : Shared) (H : Hp) (E : XK) (f c' : Addr) (B' : Ent) (Ed : DXK), Room k (A.deeper (LamX.lamEnv X scope s.heap.objs.size f c')) → ClE X.K B'.F B'.μ B'.H Ed E → Passes (L2N.CX X.prog X.w) (lamCxN X A outer s H E scope f c') E →
      DE (lamCxN X A outer s H E scope f c') B' body (r Ed)) :
    DE X B (.Call (.Name "_law_error" p) [.Lambda params body scope lpos] [] pos) (dErr r) := by
  obtain ⟨g, pg, sg, dV, kV, doc, pm, cdv, ct, oc, an, od, osl, j, p1, p2, p3, p4, p5, p6, p7, p8, p9, p10, p11, p12, hm, hk, lk, hcg, hb, Sg, h1, h2, h3, h4⟩ := Te.ex
  have hva : Vis sg ("call" : Str) := (Sg.par "call" (by simp)).elim Or.inl fun q => .inr (.inl q)
  refine PE.by (pe_lamcallN (T := Tbl.T) (TT := TTe X.K) (k := k) (a := "call") (t := fun E σ H Q => ∃ B' Ed, ClE X.K B'.F B'.μ B'.H Ed E ∧ LE X.K B' (r Ed) σ H Q) hg hm hk lk hcg hb Sg rfl hva
    (err_gives Er Nm h1 h2 h3 h4 rfl (hr.mono (by omega))) TB hcode hmT hu hr L hdef hbind (fun A outer s H E f c' hr' => ⟨fun pins s' σ H' Q I ⟨B', Ed, hE, h⟩ => ?_⟩)) fun σ H Q ⟨F, ρ, μ, Qd, sB, ok, rs, t, cl⟩ => ?_
  · refine (hder A outer s H E f c' B' Ed hr' hE ?_).run pins s' σ H' Q I h
    exact L2N.passes_call (L2N.takes_of (X := lamCxN X A outer s H E scope f c') rfl rfl rfl rfl) fun _ _ _ _ h => h
  · refine ⟨ok.tab, fun H1 eN T1 => ?_⟩
    have st1 : Stp F μ H F μ H1 := ⟨Same.refl F, fun b o h n m => ⟨eN b o h n, m, id⟩⟩
    have ok1 : Ok X.K F μ H1 := by
      refine ⟨fun b u q => eN b u (ok.sub b u q) fun ps z => ok.ntb b ps (by rw [q, z]), fun a ds e => ?_, fun a C fs e => ?_, T1, ok.ntb⟩
      · obtain ⟨h1, vs, h2, h3⟩ := ok.lst a ds e
        exact ⟨h1, vs, eN _ _ h2 (fun ps z => by cases z), h3⟩
      · obtain ⟨h1, dx, vfs, h2, h3⟩ := ok.ins a C fs e
        exact ⟨h1, dx, vfs, eN _ _ h2 (fun ps z => by cases z), h3⟩
    refine ⟨F, μ, Qd, ok1, cl.mono st1, fun Qn hQn => ⟨⟨F, μ, H1⟩, _, ?_, F, ρ, μ, _, Stp.refl, ok1, rs, t, fun F2 d μ2 v H2 s2 ok2 r2 q2 => hQn v F2 μ2 H2 s2 ok2 q2⟩⟩
    rintro F' cls x μ' od H' s' ok' rx ⟨rfl, i, rfl, q⟩
    refine ⟨F', μ', s', ok', ?_, i, rfl, q⟩
    cases od with
    | none => rfl
    | some d => exact rx.elim
section
variable {P : Program} {w : World} {K : PySem.W.Frag} {mg : Str → Option Value} {base : Heap}
theorem fnxL_of {x : Str} {st : Stmt} {N ps : List Str} {k : Nat} {dsp : DSp} {q : Str} {t : DXK → DTS} (F : FnTL K mg base x st ps q) (S : FnScope N ps (defScope st)) (len : ∀ ds μ Q E, dsp ds μ Q E → ds.length = ps.length)
    (hbody : ∀ (f : Addr) (c Pt : Addr), LamX.TabB base mg c Pt → (Pt, q) ∈ Tbl.T → (∀ p ∈ Tbl.T, p.1 = Pt → p.2 = q) → ∀ (A : Around) (outer : List Env) (s : Shared) (H : Hp) (E : XK) (B : Ent) (Ed : DXK), Room k (A.deeper (envOfC x (defScope st) s.heap.objs.size f (.ref c))) → ClE K B.F B.μ B.H Ed E →
      L2N.Takes (cxOf (L2N.CX P w) P w K mg base N x (defScope st) f (.ref c) A outer s H E) (fun cls d _ H => E cls d H) →
      Passes (L2N.CX P w) (cxOf (L2N.CX P w) P w K mg base N x (defScope st) f (.ref c) A outer s H E) E →
      PassesOwn (model P w) (A.deeper (envOfC x (defScope st) s.heap.objs.size f (.ref c))) (envOfC x (defScope st) s.heap.objs.size f (.ref c)) (cxOf (L2N.CX P w) P w K mg base N x (defScope st) f (.ref c) A outer s H E).xe →
      (A.deeper (envOfC x (defScope st) s.heap.objs.size f (.ref c))).units + 65 < cLine →
      DSs (cxOf (L2N.CX P w) P w K mg base N x (defScope st) f (.ref c) A outer s H E) B (defBody st) (t Ed))
    (hpure : ∀ ds μ Q Ed, dsp ds μ Q Ed → t Ed { nx := fun _ μ => Q .non μ, rt := Q } (dstart N ds) μ) : FnX P w K mg base x (k + 1) ps dsp := by
  obtain ⟨f, fd, c, Pt, h1, h2, h3, h4, h5, h6, h7⟩ := F.ex
  have kp := h2.kp
  refine ⟨f, fd, h1, kp, h3, ?_⟩
  obtain ⟨oc, od, kV, doc, pm, an, cdv, ct, osl, rfl, lk, hcd⟩ := h2.ex
  obtain rfl : cdv = .ref c := h4
  exact dfn_of' lk hcd S len (hbody f c Pt h5 h6 h7) hpure
end
end Li

set_option Elab.async false
set_option linter.all false
set_option maxRecDepth 100000
set_option maxHeartbeats 2000000
/-! t[::-1] of a tuple. -/
namespace Li
open PySem PySem.Spec PyProof.Rows L2
section
variable {prog : Program} {w : World} {A : Around} {E : Value → Shared → Prop} {s : Shared}
theorem sliceRev {sl : Addr} {vl vu vs : Value} {n : Nat} {Q : Int × Int × Nat → Shared → Prop} (hs : s.heap.IsSliceOf sl vl vu vs) (pl : IsPart vl none) (pu : IsPart vu none) (ps : IsPart vs (some (-1)))
    (h : Q ((n : Int) - 1, -1, n) s) : wpAny (model prog w) A (Builtin.Slice.sliceApplied (.ref sl) (pure (n : Int))) Q E s := by
  obtain ⟨os, hos, hcs, hds⟩ := id hs
  unfold Builtin.Slice.sliceApplied Builtin.Slice.sliceFields
  refine wpAny_bind (wpAny_bind (wpAny_field hos hds (x := vl) rfl (wpAny_bind (wpAny_field hos hds (x := vu) rfl (wpAny_bind (wpAny_field hos hds (x := vs) rfl (wpAny_pure ?_)))))))
  refine wpAny_bind (HT.slicePart_ ps ?_)
  show wpAny _ _ (if ((-1 : Int) == 0) = true then _ else _) _ _ s
  rw [if_neg (by decide)]
  refine wpAny_bind (HT.slicePart_ pl (wpAny_bind (HT.slicePart_ pu (wpAny_bind (wpAny_pure ?_)))))
  show wpAny _ _ (match Builtin.Slice.sliceAdjust none none (-1) (n : Int) with | (lo, hi) => pure (lo, (-1 : Int), Builtin.Slice.slicePlaces lo hi (-1))) _ _ s
  have e1 : Builtin.Slice.sliceAdjust none none (-1) (n : Int) = ((n : Int) - 1, -1) := rfl
  have e2 : Builtin.Slice.slicePlaces ((n : Int) - 1) (-1) (-1) = n := by
    unfold Builtin.Slice.slicePlaces
    have h1 : ¬ ((-1 : Int) > 0) := by decide
    simp only [h1, if_false]
    by_cases hn : n = 0
    · subst hn; rfl
    · rw [if_pos (by omega)]
      have : ((n : Int) - 1 - -1 - 1) / (- -1) + 1 = (n : Int) := by rw [show (- -1 : Int) = 1 by decide, Int.ediv_one]; omega
      rw [this]
      omega
  rw [e1]
  show wpAny _ _ (pure ((n : Int) - 1, (-1 : Int), Builtin.Slice.slicePlaces ((n : Int) - 1) (-1) (-1))) _ _ s
  rw [e2]
  exact wpAny_pure h
theorem pick_rev (xs : Array Value) : ((List.range xs.size).filterMap fun (m : Nat) => xs[(((xs.size : Int) - 1) + (m : Int) * (-1)).toNat]?).toArray = xs.toList.reverse.toArray := by
  congr 1
  have e : ∀ m ∈ List.range xs.size, xs[(((xs.size : Int) - 1) + (m : Int) * (-1)).toNat]? = some ((xs.toList.reverse)[m]?.getD .none) := by
    intro m hm
    have hm := List.mem_range.mp hm
    have : (((xs.size : Int) - 1) + (m : Int) * (-1)).toNat = xs.size - 1 - m := by omega
    rw [this, List.getElem?_reverse (by simpa using hm)]
    have h2 : xs.size - 1 - m < xs.size := by omega
    simp [Array.getElem?_eq_getElem h2]
  have e3 : ∀ l : List Nat, (∀ m ∈ l, m ∈ List.range xs.size) → l.filterMap (fun (m : Nat) => xs[(((xs.size : Int) - 1) + (m : Int) * (-1)).toNat]?) = l.map fun m => (xs.toList.reverse)[m]?.getD .none := by
    intro l
    induction l with
    | nil => intro _; rfl
    | cons m l ih =>
      intro hl
      have em := e m (hl m (by simp))
      rw [List.filterMap_cons, List.map_cons, ih fun k hk => hl k (by simp [hk])]
      rw [em]
  rw [e3 _ fun _ h => h]
  apply List.ext_getElem?
  intro i
  rw [List.getElem?_map]
  by_cases hi : i < xs.size
  · rw [List.getElem?_range hi]
    have : i < xs.toList.reverse.length := by simpa using hi
    simp [List.getElem?_eq_getElem this]
  · rw [List.getElem?_eq_none (by simpa using hi), List.getElem?_eq_none (by simpa using hi)]
    rfl
theorem getItem_tuple_rev {t sl : Addr} {items : Array Value} {vl vu vs : Value} {Q : Value → Shared → Prop} (ht : IsTup s.heap t items) (hs : s.heap.IsSliceOf sl vl vu vs) (pl : IsPart vl none) (pu : IsPart vu none) (ps : IsPart vs (some (-1)))
    (h : Q (.ref s.heap.objs.size) { s with heap := s.heap.push { cls := .type "tuple", data := .seq items.toList.reverse.toArray } })
    (hsz : items.size ≤ sizeLine) : wpAny (model prog w) A (getItem (.ref t) (.ref sl)) Q E s := by
  have htake : sizeOk (.seq items.toList.reverse.toArray) := by
    show items.toList.reverse.toArray.size ≤ sizeLine
    rw [List.size_toArray, List.length_reverse, Array.length_toList]
    exact hsz
  obtain ⟨os, hos, hcs, hds⟩ := id hs
  have hTs : s.TypeIs (.ref sl) "slice" := ⟨os, hos, hcs⟩
  unfold getItem
  try with_reducible refine wpAny_holding ?_
  first | refine wpAny_bind (wpAny_pure ?_) | skip
  refine wpAny_bind (wpAny_sequenceKey ht.typeIs (by decide) ?_)
  refine wpAny_bind (wpAny_callSpecial?_slot (name := Str.ofString "__getitem__") ht.typeIs PyProof.Rows.slot_tuple_getitem
    (wpAny_call_entry PyProof.Rows.slot_tuple_getitem ht.typeIs entry_tuple_getitem ?_ (args_tuple_getitem _ _)))
  show wpAny _ _ (Builtin.Tuple.tupleItemsOf (.ref t) >>= _) _ _ s
  refine wpAny_bind (tupleItemsOf_ ht ?_)
  refine wpAny_bind (wpAny_typeOf hTs ?_)
  rw [if_pos (by decide)]
  refine wpAny_bind (sliceRev hs pl pu ps ?_)
  have hno : ¬ ((((items.size : Int) - 1) == 0 && (-1 : Int) == 1 && items.size == items.size) = true) := by simp
  show wpAny _ _ (if (((items.size : Int) - 1) == 0 && (-1 : Int) == 1 && items.size == items.size) = true then _ else _) _ _ s
  rw [if_neg hno, pick_rev]
  first
    | exact wpAny_bind (m := Builtin.Tuple.tupleExact _) (wpAny_newObj_type (wpAny_pure ⟨_, rfl, wpAny_pure h⟩) htake)
    | exact wpAny_bind (m := Builtin.Tuple.tupleExact _) (wpAny_newObj_type (wpAny_bind (wpAny_pure (wpAny_pure ⟨_, rfl, wpAny_pure h⟩))) htake)
    | exact wpAny_bind (wpAny_bind (m := Builtin.Tuple.tupleExact _) (wpAny_newObj_type (wpAny_pure (wpAny_pure ⟨_, rfl, wpAny_pure h⟩)) htake))
    | exact wpAny_bind (wpAny_bind (m := Builtin.Tuple.tupleExact _) (wpAny_newObj_type (wpAny_pure ⟨_, rfl, wpAny_pure h⟩) htake))
end
section
variable {X : Cx}
def tRevT (K : PySem.W.Frag) (te : TE) : TE := fun σ H Q => te σ H fun x H1 => ∃ a xs, x = .ref a ∧ SqT K H1 a xs ∧ ∀ p, H1 p = none → Q (.ref p) (upd H1 p (.tup xs.reverse))
theorem pe_revT {e : Expr} {te : TE} {k : Nat} {p1 p2 p3 pos : Pos} (he : PE X e te) : PE X (.Subscript e (.Slice none none (some (.UnaryOp .USub (.Constant (.int 1) k p1) p2)) p3) pos) (tRevT X.K te) := by
  refine ⟨fun pins s σ H Q I h => ?_⟩
  refine Subscript_ (thn (he.run pins s σ H _ I h) fun v s1 ⟨x, H1, I1, r1, q1⟩ => ?_)
  obtain ⟨a, xs, ex, hx, q⟩ := q1
  subst ex
  cases r1
  have hst : PO X (some (.UnaryOp .USub (.Constant (.int 1) k p1) p2)) (tPart (tUn (rU fun i => .int (-i)) (tC (.int 1)))) := po_some (pe_un un_neg pe_int)
  refine wpAny_Slice (thn (po_none.run pins s1 σ H1 (fun o H2 => o = none ∧ H2 = H1) I1 ⟨rfl, rfl⟩) fun vl s2 ⟨l, H2, I2, pl, el, e2⟩ => ?_)
  subst el e2
  refine thn (po_none.run pins s2 σ H2 (fun o H3 => o = none ∧ H3 = H2) I2 ⟨rfl, rfl⟩) fun vu s3 ⟨u, H3, I3, pu, eu, e3⟩ => ?_
  subst eu e3
  refine thn (hst.run pins s3 σ H3 (fun o H4 => o = some (-1) ∧ H4 = H3) I3 ⟨1, rfl, -1, rfl, rfl, rfl⟩) fun vs s4 ⟨o, H4, I4, ps, eo, e4⟩ => ?_
  subst eo e4
  have I5 : Inv X pins σ H4 { s4 with heap := s4.heap.push { cls := .type "slice", data := .fields #[vl, vu, vs] } } := I4.kept (t' := s4.toks) fun b ob q => Heap.get?_push_of_some _ q
  obtain ⟨its, r, ht, hz⟩ := I5.tuple hx
  have hlen := r.length
  show wpAny (model X.prog X.w) X.A (subscriptTail e (.Slice none none (some (.UnaryOp .USub (.Constant (.int 1) k p1) p2)) p3) (.ref a) (.ref s4.heap.objs.size)) (EP X pins σ Q) X.xe { s4 with heap := s4.heap.push { cls := .type "slice", data := .fields #[vl, vu, vs] } }
  refine tail_any (ops := [.ref a, .ref s4.heap.objs.size]) ht.typeIs (PyProof.Rows.slot_tuple_getitem.lookup) ?_ (by with_unfolding_all rfl)
  refine getItem_tuple_rev ht (Heap.IsSliceOf.new _ vl vu vs) pl pu ps ?_ (by rw [List.size_toArray]; omega)
  refine ⟨.ref _, _, I5.laid (t' := s4.toks) (o := .tup xs.reverse) (fun b ob q => Heap.get?_push_of_some _ q) (Nat.le_refl _) ?_, rfl, q _ (I5.hok.fresh (Nat.le_refl _))⟩
  exact ⟨by rw [List.length_reverse]; exact hz, its.reverse, r.reverse, ⟨_, Heap.get?_push_size _ rfl, rfl, _, rfl⟩⟩
variable [Tbl]
def kRevT (x : D) (μ : MS) (Q : DK) : Prop := match x with
  | .tup ds => Q (.tup ds.reverse) μ
  | _ => False
def dRevT (te : DTE) : DTE := fun ρ μ Q => te ρ μ fun x μ1 => kRevT x μ1 Q
theorem de_revT {B : Ent} {e : Expr} {te : DTE} {k : Nat} {p1 p2 p3 pos : Pos} (he : DE X B e te) : DE X B (.Subscript e (.Slice none none (some (.UnaryOp .USub (.Constant (.int 1) k p1) p2)) p3) pos) (dRevT te) := PE.by (pe_revT he) fun σ H Q ⟨F, ρ, μ, Qd, sB, ok, rs, t, cl⟩ => by
  refine ⟨F, ρ, μ, _, sB, ok, rs, t, fun F1 x μ1 v H1 s1 ok1 rx t1 => ?_⟩
  unfold kRevT at t1
  split at t1
  · obtain ⟨p, vs, rfl, h1, h2⟩ := rep_tup.mp rx
    exact ⟨p, vs, rfl, ok1.sqT h1, fun q hq => cl_tup ok1 (cl.mono s1) h2.reverse t1 hq⟩
  · exact t1.elim
end
end Li

set_option Elab.async false
set_option linter.all false
set_option maxRecDepth 100000
set_option maxHeartbeats 2000000
/-! True and False among ints; repetition. -/
namespace Li
open PySem PySem.Spec PyProof.Rows L2
variable [Tbl]
section
variable {X : Cx}
def b2i (b : Bool) : Int := if b = true then 1 else 0
def kAddB : KD := fun x y μ Q => match x, y with
  | .int i, .int j => Q (.int (i + j)) μ
  | .bl b, .int j => Q (.int (b2i b + j)) μ
  | _, _ => False
def kSubB : KD := fun x y μ Q => match x, y with
  | .int i, .int j => Q (.int (i - j)) μ
  | .bl b, .int j => Q (.int (b2i b - j)) μ
  | _, _ => False
def kMulB : KD := fun x y μ Q => match x, y with
  | .int i, .int j => MulOk i j ∧ Q (.int (i * j)) μ
  | .int i, .bl b => Q (.int (i * b2i b)) μ
  | _, _ => False
theorem do_addB : DOp X (binaryOp .Add) kAddB := by
  intro pins s σ H v w vv ww Q I rv rw' ⟨F, μ, x, y, Qd, ok, rx, ry, hk, cl⟩
  unfold kAddB at hk
  split at hk
  · obtain rfl := rep_int.mp rx
    obtain rfl := rep_int.mp ry
    exact op_add pins s σ H _ _ vv ww Q I rv rw' ⟨_, _, rfl, rfl, cl F _ μ _ H (Stp.refl) ok (rep_int.mpr rfl) hk⟩
  · obtain rfl := rep_bl.mp rx
    obtain rfl := rep_int.mp ry
    obtain rfl := (show vv = .bool _ from rv)
    obtain ⟨u, rfl⟩ := rw'
    exact IntBool.add_bool_int ⟨.int _, H, I.tok _, ⟨_, rfl⟩, cl F _ μ _ H (Stp.refl) ok (rep_int.mpr rfl) hk⟩
  · exact hk.elim
theorem do_subB : DOp X (binaryOp .Sub) kSubB := by
  intro pins s σ H v w vv ww Q I rv rw' ⟨F, μ, x, y, Qd, ok, rx, ry, hk, cl⟩
  unfold kSubB at hk
  split at hk
  · obtain rfl := rep_int.mp rx
    obtain rfl := rep_int.mp ry
    exact op_sub pins s σ H _ _ vv ww Q I rv rw' ⟨_, _, rfl, rfl, cl F _ μ _ H (Stp.refl) ok (rep_int.mpr rfl) hk⟩
  · obtain rfl := rep_bl.mp rx
    obtain rfl := rep_int.mp ry
    obtain rfl := (show vv = .bool _ from rv)
    obtain ⟨u, rfl⟩ := rw'
    exact IntBool.sub_bool_int ⟨.int _, H, I.tok _, ⟨_, rfl⟩, cl F _ μ _ H (Stp.refl) ok (rep_int.mpr rfl) hk⟩
  · exact hk.elim
theorem do_mulB : DOp X (binaryOp .Mult) kMulB := by
  intro pins s σ H v w vv ww Q I rv rw' ⟨F, μ, x, y, Qd, ok, rx, ry, hk, cl⟩
  unfold kMulB at hk
  split at hk
  · obtain rfl := rep_int.mp rx
    obtain rfl := rep_int.mp ry
    have q := cl F _ μ _ H (Stp.refl) ok (rep_int.mpr rfl) hk.2
    rcases hk.1 with h | h
    · exact op_mul pins s σ H _ _ vv ww Q I rv rw' ⟨_, _, rfl, rfl, h, q⟩
    · exact op_mulW pins s σ H _ _ vv ww Q I rv rw' ⟨_, _, rfl, rfl, h, q⟩
  · obtain rfl := rep_int.mp rx
    obtain rfl := rep_bl.mp ry
    obtain rfl := (show ww = .bool _ from rw')
    obtain ⟨u, rfl⟩ := rv
    exact IntBool.mul_int_bool ⟨.int _, H, I.tok _, ⟨_, rfl⟩, cl F _ μ _ H (Stp.refl) ok (rep_int.mpr rfl) hk⟩
  · exact hk.elim
/-- not of a truth or an int -/
def dNotI (ta : DTE) : DTE := fun ρ μ Q => ta ρ μ fun d μ1 => match d with
  | .bl b => Q (.bl (!b)) μ1
  | .int i => Q (.bl (decide (i = 0))) μ1
  | _ => False
theorem de_notI {B : Ent} {a : Expr} {ta : DTE} {pos : Pos} (ha : DE X B a ta) : DE X B (.UnaryOp .Not a pos) (dNotI ta) := PE.by (pe_notT ha) fun σ H Q ⟨F, ρ, μ, Qd, sB, ok, rs, t, cl⟩ => by
  refine ⟨F, ρ, μ, _, sB, ok, rs, t, fun F1 d μ1 v H1 s1 ok1 rd t1 => ?_⟩
  split at t1
  · rename_i b
    obtain rfl := rep_bl.mp rd
    exact ⟨b, rfl, cl F1 _ μ1 _ H1 s1 ok1 (rep_bl.mpr rfl) t1⟩
  · rename_i i
    obtain rfl := rep_int.mp rd
    exact ⟨!decide (i = 0), (by
      show (!decide (i = 0)) = (i != 0)
      by_cases h : i = 0 <;> simp [h]), cl F1 _ μ1 _ H1 s1 ok1 (rep_bl.mpr (by simp)) t1⟩
  · exact t1.elim
/-- a list, or a tuple, so many times -/
def kRep : KD := fun x y μ Q => match x, y with
  | .lst ds, .int k => (0 ≤ k ∧ k ≤ 1000 ∧ ds.length ≤ 1000) ∧ Q (.lst (List.replicate k.toNat ds).flatten) μ
  | .tup ds, .int k => (ds ≠ [] ∧ 2 ≤ k ∧ k ≤ 1000 ∧ ds.length ≤ 1000) ∧ Q (.tup (List.replicate k.toNat ds).flatten) μ
  | _, _ => False
theorem reps_rep {K : PySem.W.Frag} {F : Hp} {ds : List D} {vs : List V} (r : Reps K F ds vs) : ∀ n : Nat, Reps K F (List.replicate n ds).flatten (List.replicate n vs).flatten
  | 0 => by simpa using reps_nil.mpr rfl
  | n + 1 => by
    rw [List.replicate_succ, List.replicate_succ, List.flatten_cons, List.flatten_cons]
    exact r.append (reps_rep r n)
theorem do_rep : DOp X (binaryOp .Mult) kRep := by
  intro pins s σ H v w vv ww Q I rv rw' ⟨F, μ, x, y, Qd, ok, rx, ry, hk, cl⟩
  unfold kRep at hk
  split at hk
  · rename_i ds k
    obtain ⟨⟨h1, h2, h3⟩, hk⟩ := hk
    obtain rfl := rep_int.mp ry
    obtain ⟨a, vs, rfl, e1, e2⟩ := rep_lst.mp rx
    have hl := e2.length
    refine op_rep pins s σ H _ _ vv ww Q I rv rw' ⟨a, k, vs, rfl, rfl, ok.sub _ _ e1, by omega, by omega, ?_, fun p hp => cl_lst ok cl (reps_rep e2 _) hk hp⟩
    have : vs.length * k.toNat ≤ 1000 * 1000 := Nat.mul_le_mul (by omega) (by omega)
    rw [sizeLine_eq]
    omega
  · rename_i ds k
    obtain ⟨⟨h0, h1, h2, h3⟩, hk⟩ := hk
    obtain rfl := rep_int.mp ry
    obtain ⟨a, vs, rfl, e1, e2⟩ := rep_tup.mp rx
    have hl := e2.length
    exact op_repT pins s σ H _ _ vv ww Q I rv rw' ⟨a, k, vs, rfl, rfl, ok.sqT e1, fun z => h0 (List.eq_nil_of_length_eq_zero (by rw [hl, z]; rfl)), h1, h2, by omega, fun p hp => cl_tup ok cl (reps_rep e2 _) hk hp⟩
  · exact hk.elim
end
end Li

set_option Elab.async false
set_option linter.all false
set_option maxRecDepth 100000
set_option maxHeartbeats 1000000
/-! What the laws draw. -/
namespace Li
open PySem PySem.Spec PyProof.Rows L2
variable [Tbl]
/-- at a stands a vat: what draws come from -/
def IsVat (μ : MS) (a : Addr) : Prop := ∃ u w : Int, μ a = some (.lst [.int u, .int w]) ∧ 0 ≤ u ∧ 0 ≤ w ∧ w < 2 ^ 32
/-- behind some draws -/
structure Vats (a : Addr) (μ μ' : MS) : Prop where
  vat : IsVat μ' a
  els : ∀ b, b ≠ a → μ' b = μ b
theorem Vats.trans {a : Addr} {μ μ1 μ2 : MS} (h : Vats a μ μ1) (g : Vats a μ1 μ2) : Vats a μ μ2 := ⟨g.vat, fun b hb => (g.els b hb).trans (h.els b hb)⟩
theorem Vats.refl {a : Addr} {μ : MS} (h : IsVat μ a) : Vats a μ μ := ⟨h, fun _ _ => rfl⟩
theorem vats_set {a : Addr} {μ : MS} {u w : Int} (h0 : 0 ≤ u) (h1 : 0 ≤ w) (h2 : w < 2 ^ 32) : Vats a μ (mset μ a (some (.lst [.int u, .int w]))) := ⟨⟨u, w, mset_same, h0, h1, h2⟩, fun b hb => mset_ne hb⟩
def sp__law_vat : DSp := fun ds μ Q E => ∃ (ns : List Int) (k : Nat), ds = [.scr ns, .int k] ∧ k ≤ 1000 ∧ ∀ a μ', μ a = none → Vats a μ μ' → Q (.ref a) μ'
def sp__law_under : DSp := fun ds μ Q E => ∃ (a : Addr) (many : Int), ds = [.ref a, .int many] ∧ IsVat μ a ∧ 0 < many ∧ many ≤ 1000000 ∧ ∀ μ' r, Vats a μ μ' → 0 ≤ r → r < many → Q (.int r) μ'
def sp__law_some : DSp := fun ds μ Q E => ∃ (a : Addr) (xs : List D), ds = [.ref a, .lst xs] ∧ IsVat μ a ∧ xs ≠ [] ∧ xs.length ≤ 1000 ∧ ∀ μ' d, Vats a μ μ' → d ∈ xs → Q d μ'
abbrev nm__law_vat : List Str := ["script", "k", "cell"]
abbrev ps__law_vat : List Str := ["script", "k"]
def t__law_vat (Ed : DXK) : DTS := (dSeq (dAsg (dBin kAdd (dBin kMul (dC (.int 7919)) (dVar 1)) (dC (.int 43))) (dName 2)) (dSeq (dIfS (dTest (dBin kLt (dVar 1) (dCB kLen (dCons (dVar 0) dNil)))) (dAsg (dCB kAbs (dCons (dCB kInt (dCons (dBin kIx (dVar 0) (dVar 1)) dNil)) dNil)) (dName 2)) dNext) (dRet (dLstM (dCons (dIf (dTest (dBin kGe (dVar 2) (dBin kPow (dC (.int 10)) (dC (.int 18))))) (dVar 2) (dC (.int 0))) (dCons (dBin kAdd (dBin kMod (dCB kInt (dCons (dBin kAdd (dBin kAdd (dBin kMul (dVar 2) (dC (.int 131071))) (dBin kMul (dC (.int 8191)) (dVar 1))) (dC (.int 5))) dNil)) (dC (.int 2147483629))) (dC (.int 1))) dNil))))))
abbrev nm__law_under : List Str := ["vat", "many", "found", "wide"]
abbrev ps__law_under : List Str := ["vat", "many"]
def t__law_under (Ed : DXK) : DTS := (dSeq (dIfS (dTest (dBin kGt (dBin kIx (dVar 0) (dC (.int 0))) (dC (.int 0)))) (dSeq (dAsg (dBin kMod (dCB kInt (dCons (dBin kIx (dVar 0) (dC (.int 0))) dNil)) (dVar 1)) (dName 2)) (dSeq (dAsg (dBin kDiv (dBin kIx (dVar 0) (dC (.int 0))) (dVar 1)) (dGSub (dVar 0) (dC (.int 0)))) (dRet (dVar 2)))) dNext) (dSeq (dAsg (dBin kMod (dCB kInt (dCons (dBin kAdd (dBin kMul (dBin kIx (dVar 0) (dC (.int 1))) (dC (.int 39373))) (dC (.int 101))) dNil)) (dC (.int 2147483629))) (dGSub (dVar 0) (dC (.int 1)))) (dSeq (dAsg (dBin kMod (dCB kInt (dCons (dBin kMul (dBin kIx (dVar 0) (dC (.int 1))) (dBin kAdd (dBin kDiv (dBin kIx (dVar 0) (dC (.int 1))) (dC (.int 5))) (dC (.int 9)))) dNil)) (dC (.int 2147483587))) (dName 3)) (dRet (dBin kMod (dCB kInt (dCons (dBin kDiv (dVar 3) (dC (.int 32))) dNil)) (dVar 1))))))
abbrev nm__law_some : List Str := ["vat", "things"]
abbrev ps__law_some : List Str := ["vat", "things"]
def t__law_some (Ed : DXK) : DTS := (dRet (dBin kIx (dVar 1) (dCall sp__law_under (dCons (dVar 0) (dCons (dCB kLen (dCons (dVar 1) dNil)) dNil)))))
theorem divOk_small {j : Int} (h : 0 < j) (h2 : j < 2 ^ 64) : DivOk j := ⟨h, by
  have : j.natAbs < 2 ^ 64 := by omega
  exact Nat.lt_of_lt_of_le ((Nat.log2_lt (by omega)).mpr this) (by decide)⟩
theorem mulOk_r {i j : Int} (h1 : -(2 ^ 64) < j) (h2 : j < 2 ^ 64) : MulOk i j := .inl (.inr ⟨h1, h2⟩)
theorem mulOk_l {i j : Int} (h1 : -(2 ^ 64) < i) (h2 : i < 2 ^ 64) : MulOk i j := .inl (.inl ⟨h1, h2⟩)
theorem atI_lt {α : Type} {xs : List α} {k : Nat} (h : k < xs.length) : ∃ v, atI xs (k : Int) = some v := ⟨xs[k], atI_nat (List.getElem?_eq_getElem h)⟩
theorem pure__law_vat (ds : List D) (μ : MS) (Q : DK) (Ed : DXK) (h : sp__law_vat ds μ Q Ed) : t__law_vat Ed { nx := fun _ μ => Q .non μ, rt := Q } (dstart nm__law_vat ds) μ := by
  obtain ⟨ns, k, rfl, hk, q⟩ := h
  refine ⟨mulOk_l (by decide) (by decide), ?_⟩
  have tail : ∀ c : Int, 0 ≤ c → (dRet (dLstM (dCons (dIf (dTest (dBin kGe (dVar 2) (dBin kPow (dC (.int 10)) (dC (.int 18))))) (dVar 2) (dC (.int 0))) (dCons (dBin kAdd (dBin kMod (dCB kInt (dCons (dBin kAdd (dBin kAdd (dBin kMul (dVar 2) (dC (.int 131071))) (dBin kMul (dC (.int 8191)) (dVar 1))) (dC (.int 5))) dNil)) (dC (.int 2147483629))) (dC (.int 1))) dNil)))) { nx := fun _ μ => Q .non μ, rt := Q } [some (.scr ns), some (.int k), some (.int c)] μ := by
    intro c hc
    refine ⟨⟨by decide, by decide, by decide⟩, ?_⟩
    have fin : ∀ u : Int, 0 ≤ u → (dCons (dBin kAdd (dBin kMod (dCB kInt (dCons (dBin kAdd (dBin kAdd (dBin kMul (dVar 2) (dC (.int 131071))) (dBin kMul (dC (.int 8191)) (dVar 1))) (dC (.int 5))) dNil)) (dC (.int 2147483629))) (dC (.int 1))) dNil) [some (.scr ns), some (.int k), some (.int c)] μ
        fun ds μ1 => ∀ a, μ1 a = none → Q (.ref a) (mset μ1 a (some (.lst (.int u :: ds)))) := by
      intro u hu
      refine ⟨mulOk_r (by decide) (by decide), mulOk_l (by decide) (by decide), by decide, fun a ha => q a _ ha (vats_set hu ?_ ?_)⟩
      · have := Int.emod_nonneg (c * 131071 + 8191 * (k : Int) + 5) (show (2147483629 : Int) ≠ 0 by decide); omega
      · have := Int.emod_lt_of_pos (c * 131071 + 8191 * (k : Int) + 5) (show (0 : Int) < 2147483629 by decide); omega
    exact bcase_of (fun _ => fin c hc) fun _ => fin 0 (by decide)
  refine bcase_of (fun h => ?_) fun h => ?_
  · have h' : (k : Int) < (ns.length : Int) := of_decide_eq_true h
    obtain ⟨v, hv⟩ := atI_lt (xs := ns) (k := k) (by omega)
    refine getK_some (d := .int v) (by rw [hv]; rfl) ?_
    exact tail v.natAbs (by omega)
  · exact tail (7919 * k + 43) (by omega)
theorem pure__law_under (ds : List D) (μ : MS) (Q : DK) (Ed : DXK) (h : sp__law_under ds μ Q Ed) : t__law_under Ed { nx := fun _ μ => Q .non μ, rt := Q } (dstart nm__law_under ds) μ := by
  obtain ⟨a, many, rfl, ⟨u, w, hm, hu, hw, hw2⟩, h0, h1, q⟩ := h
  have hd : DivOk many := divOk_small h0 (by omega)
  refine refL_of hm ?_
  refine bcase_of (fun h => ?_) fun h => ?_
  · have h' : (0 : Int) < u := of_decide_eq_true h
    refine refL_of hm ⟨h0, refL_of hm ⟨hd, refL_of hm ?_⟩⟩
    exact q _ _ (vats_set (Int.ediv_nonneg hu (by omega)) hw hw2) (Int.emod_nonneg _ (by omega)) (Int.emod_lt_of_pos _ h0)
  · refine refL_of hm ⟨mulOk_l (by omega) (by omega), by decide, refL_of hm ?_⟩
    have e0 := Int.emod_nonneg (w * 39373 + 101) (show (2147483629 : Int) ≠ 0 by decide)
    have e1 := Int.emod_lt_of_pos (w * 39373 + 101) (show (0 : Int) < 2147483629 by decide)
    refine refL_of mset_same (refL_of mset_same ⟨divOk_small (by decide) (by decide), mulOk_l (by omega) (by omega), by decide, divOk_small (by decide) (by decide), h0, ?_⟩)
    exact q _ _ (vats_set hu e0 (by omega)) (Int.emod_nonneg _ (by omega)) (Int.emod_lt_of_pos _ h0)
theorem pure__law_some (ds : List D) (μ : MS) (Q : DK) (Ed : DXK) (h : sp__law_some ds μ Q Ed) : t__law_some Ed { nx := fun _ μ => Q .non μ, rt := Q } (dstart nm__law_some ds) μ := by
  obtain ⟨a, xs, rfl, hv, hn, hl, q⟩ := h
  have hp : 0 < xs.length := List.length_pos_iff.mpr hn
  refine ⟨a, xs.length, rfl, hv, by omega, by omega, fun μ' r h h0 h1 => ?_⟩
  obtain ⟨j, rfl⟩ : ∃ j : Nat, r = j := ⟨r.toNat, by omega⟩
  have hj : j < xs.length := by omega
  exact getK_some (atI_nat (List.getElem?_eq_getElem hj)) (q μ' _ h (List.getElem_mem hj))
end Li

set_option Elab.async false
set_option linter.all false
set_option maxRecDepth 100000
set_option maxHeartbeats 1000000
/-! Scripts as data; the drawn ones. -/
namespace Li
open PySem PySem.Spec PyProof.Rows L2
variable [Tbl]
inductive Act where
  | light (p : Nat) (left : Bool) | spot (p : Nat) | quench (p : Nat) | wait (p : Nat) | first | ring
  deriving DecidableEq, Inhabited
def sideD (l : Bool) : D := .str (if l then "left" else "right")
def Act.d : Act → D
  | .light p l => .tup [.str "light", .int p, sideD l]
  | .spot p => .tup [.str "spot", .int p]
  | .quench p => .tup [.str "quench", .int p]
  | .wait p => .tup [.str "wait", .int p]
  | .first => .tup [.str "first"]
  | .ring => .tup [.str "ring"]
structure Scr where
  fuses : List Nat
  steps : List Act
def natD (n : Nat) : D := .int (n : Int)
def fusesD (fs : List Nat) : D := .tup (fs.map natD)
def stepsD (ss : List Act) : D := .tup (ss.map Act.d)
def Scr.d (s : Scr) : D := .tup [fusesD s.fuses, stepsD s.steps]
/-- a step where there are so many pieces -/
def Act.ok (n : Nat) : Act → Prop
  | .light p _ => p < n
  | .spot p => p < n
  | .quench p => p < n
  | .wait p => p < n
  | .first => True
  | .ring => True
def Act.isSpot : Act → Bool
  | .spot _ => true
  | _ => false
def Act.adds (a : Act) : Nat := if a.isSpot then 1 else 0
def stepsOk : Nat → List Act → Prop
  | _, [] => True
  | n, a :: r => a.ok n ∧ stepsOk (n + a.adds) r
def spotsIn (ss : List Act) : Nat := (ss.map Act.adds).sum
structure Scr.Ok (s : Scr) : Prop where
  f1 : 1 ≤ s.fuses.length
  f3 : s.fuses.length ≤ 3
  fu : ∀ n ∈ s.fuses, 1 ≤ n ∧ n ≤ 60
  st : s.steps.length ≤ 12
  go : stepsOk s.fuses.length s.steps
  sp : spotsIn s.steps ≤ 2
theorem stepsOk_append : ∀ {ss ts : List Act} {n : Nat}, stepsOk n ss → stepsOk (n + spotsIn ss) ts → stepsOk n (ss ++ ts)
  | [], ts, n, _, h => by simpa [spotsIn] using h
  | a :: r, ts, n, ⟨h1, h2⟩, h => ⟨h1, stepsOk_append h2 (by rw [show n + a.adds + spotsIn r = n + spotsIn (a :: r) by simp [spotsIn]; omega]; exact h)⟩
theorem stepsOk_prefix : ∀ {ss ts : List Act} {n : Nat}, stepsOk n (ss ++ ts) → stepsOk n ss
  | [], _, _, _ => trivial
  | a :: r, ts, n, ⟨h1, h2⟩ => ⟨h1, stepsOk_prefix h2⟩
def sp__law_any_step : DSp := fun ds μ Q E => ∃ (a : Addr) (n : Nat), ds = [.ref a, .int n] ∧ IsVat μ a ∧ 0 < n ∧ n ≤ 1000 ∧ ∀ μ' (s : Act), Vats a μ μ' → s.ok n → s.isSpot = false → Q s.d μ'
def sp__law_script : DSp := fun ds μ Q E => ∃ (a : Addr) (most peak : Nat), ds = [.ref a, .int most, .int peak] ∧ IsVat μ a ∧ most ≤ 12 ∧ peak ≤ 2 ∧
  ∀ μ' (s : Scr), Vats a μ μ' → s.Ok → s.steps.length ≤ most → spotsIn s.steps ≤ peak → Q s.d μ'
abbrev nm__law_any_step : List Str := ["vat", "many", "at", "word"]
abbrev ps__law_any_step : List Str := ["vat", "many"]
def t__law_any_step (Ed : DXK) : DTS := (dSeq (dAsg (dCall sp__law_under (dCons (dVar 0) (dCons (dVar 1) dNil))) (dName 2)) (dSeq (dAsg (dCall sp__law_some (dCons (dVar 0) (dCons (dLst (dCons (dC (.str "light")) (dCons (dC (.str "light")) (dCons (dC (.str "light")) (dCons (dC (.str "wait")) (dCons (dC (.str "wait")) (dCons (dC (.str "first")) (dCons (dC (.str "first")) (dCons (dC (.str "ring")) (dCons (dC (.str "quench")) dNil)))))))))) dNil))) (dName 3)) (dSeq (dIfS (dTest (dBin kEq (dVar 3) (dC (.str "light")))) (dRet (dTup (dCons (dC (.str "light")) (dCons (dVar 2) (dCons (dCall sp__law_some (dCons (dVar 0) (dCons (dLst (dCons (dC (.str "left")) (dCons (dC (.str "right")) dNil))) dNil))) dNil))))) dNext) (dRet (dIf (dTest (dBin kIn (dVar 3) (dTup (dCons (dC (.str "wait")) (dCons (dC (.str "quench")) dNil))))) (dTup (dCons (dVar 3) (dCons (dVar 2) dNil))) (dTup (dCons (dVar 3) dNil)))))))
abbrev nm__law_script : List Str := ["vat", "most", "peak", "fuses", "turn", "many", "spots", "steps", "step"]
abbrev ps__law_script : List Str := ["vat", "most", "peak"]
def t__law_script (Ed : DXK) : DTS := (dSeq (dAsg (dTup dNil) (dName 3)) (dSeq (dFor (dRange1 (dCons (dCall sp__law_some (dCons (dVar 0) (dCons (dLst (dCons (dC (.int 1)) (dCons (dC (.int 1)) (dCons (dC (.int 2)) (dCons (dC (.int 2)) (dCons (dC (.int 3)) dNil)))))) dNil))) dNil)) (dName 4) (dForget [4] (dAsg (dBin kAdd (dVar 3) (dTup (dCons (dCall sp__law_some (dCons (dVar 0) (dCons (dLst (dCons (dC (.int 60)) (dCons (dC (.int 40)) (dCons (dC (.int 30)) (dCons (dC (.int 20)) (dCons (dC (.int 12)) (dCons (dBin kAdd (dC (.int 1)) (dCall sp__law_under (dCons (dVar 0) (dCons (dC (.int 60)) dNil)))) dNil))))))) dNil))) dNil))) (dName 3)))) (dSeq (dPar3 5 6 7 (dCons (dCB kLen (dCons (dVar 3) dNil)) (dCons (dC (.int 0)) (dCons (dTup dNil) dNil)))) (dSeq (dFor (dRange1 (dCons (dCall sp__law_under (dCons (dVar 0) (dCons (dBin kAdd (dVar 1) (dC (.int 1))) dNil))) dNil)) (dName 4) (dForget [4, 8] (dSeq (dAsg (dCall sp__law_any_step (dCons (dVar 0) (dCons (dVar 5) dNil))) (dName 8)) (dSeq (dIfS (dAnd (dTest (dBin kLt (dVar 6) (dVar 2))) (dTest (dBin kEq (dCall sp__law_under (dCons (dVar 0) (dCons (dC (.int 3)) dNil))) (dC (.int 0))))) (dSeq (dPar 8 6 (dCons (dTup (dCons (dC (.str "spot")) (dCons (dCall sp__law_under (dCons (dVar 0) (dCons (dVar 5) dNil))) dNil))) (dCons (dBin kAdd (dVar 6) (dC (.int 1))) dNil))) (dAsg (dBin kAdd (dVar 5) (dC (.int 1))) (dName 5))) dNext) (dAsg (dBin kAdd (dVar 7) (dTup (dCons (dVar 8) dNil))) (dName 7)))))) (dSeq (dIfS (dAnd (dTest (dBin kNe (dVar 7) (dTup dNil))) (dAnd (dTest (dBin kIn (dBin kIx (dBin kIx (dVar 7) (dNeg (dC (.int 1)))) (dC (.int 0))) (dTup (dCons (dC (.str "light")) (dCons (dC (.str "quench")) dNil))))) (dTest (dBin kGt (dCall sp__law_under (dCons (dVar 0) (dCons (dC (.int 3)) dNil))) (dC (.int 0)))))) (dAsg (dBin kAdd (dSl (dVar 7) dNoPart (dPart (dNeg (dC (.int 1))))) (dTup (dCons (dTup (dCons (dC (.str "ring")) dNil)) dNil))) (dName 7)) dNext) (dRet (dTup (dCons (dVar 3) (dCons (dVar 7) dNil)))))))))
theorem pure__law_any_step (ds : List D) (μ : MS) (Q : DK) (Ed : DXK) (h : sp__law_any_step ds μ Q Ed) : t__law_any_step Ed { nx := fun _ μ => Q .non μ, rt := Q } (dstart nm__law_any_step ds) μ := by
  obtain ⟨a, n, rfl, hv, h0, h1, q⟩ := h
  refine ⟨a, n, rfl, hv, by omega, by omega, fun μ1 r v1 r0 r1 => ?_⟩
  obtain ⟨p, rfl⟩ : ∃ p : Nat, r = p := ⟨r.toNat, by omega⟩
  have hp : p < n := by omega
  refine ⟨a, _, rfl, v1.vat, by simp, by simp, fun μ2 d v2 hd => ?_⟩
  have v12 := v1.trans v2
  simp only [List.mem_cons, List.not_mem_nil, or_false] at hd
  have light : dIfS (dTest (dBin kEq (dVar 3) (dC (.str "light")))) (dRet (dTup (dCons (dC (.str "light")) (dCons (dVar 2) (dCons (dCall sp__law_some (dCons (dVar 0) (dCons (dLst (dCons (dC (.str "left")) (dCons (dC (.str "right")) dNil))) dNil))) dNil))))) dNext
      { nx := fun ρ μ => (dRet (dIf (dTest (dBin kIn (dVar 3) (dTup (dCons (dC (.str "wait")) (dCons (dC (.str "quench")) dNil))))) (dTup (dCons (dVar 3) (dCons (dVar 2) dNil))) (dTup (dCons (dVar 3) dNil)))) { nx := fun _ μ => Q .non μ, rt := Q } ρ μ, rt := Q } [some (.ref a), some (.int n), some (.int p), some (.str "light")] μ2 := by
    refine ⟨by decide +kernel, bcase_t (by decide +kernel) ?_⟩
    refine ⟨a, _, rfl, v2.vat, by simp, by simp, fun μ3 d v3 hd => ?_⟩
    simp only [List.mem_cons, List.not_mem_nil, or_false] at hd
    rcases hd with rfl | rfl
    · exact q μ3 (.light p true) (v12.trans v3) hp rfl
    · exact q μ3 (.light p false) (v12.trans v3) hp rfl
  rcases hd with rfl | rfl | rfl | rfl | rfl | rfl | rfl | rfl | rfl
  · exact light
  · exact light
  · exact light
  · exact ⟨by decide +kernel, bcase_f (by decide +kernel) ⟨by decide +kernel, bcase_t (by decide +kernel) (q μ2 (.wait p) v12 hp rfl)⟩⟩
  · exact ⟨by decide +kernel, bcase_f (by decide +kernel) ⟨by decide +kernel, bcase_t (by decide +kernel) (q μ2 (.wait p) v12 hp rfl)⟩⟩
  · exact ⟨by decide +kernel, bcase_f (by decide +kernel) ⟨by decide +kernel, bcase_f (by decide +kernel) (q μ2 .first v12 trivial rfl)⟩⟩
  · exact ⟨by decide +kernel, bcase_f (by decide +kernel) ⟨by decide +kernel, bcase_f (by decide +kernel) (q μ2 .first v12 trivial rfl)⟩⟩
  · exact ⟨by decide +kernel, bcase_f (by decide +kernel) ⟨by decide +kernel, bcase_f (by decide +kernel) (q μ2 .ring v12 trivial rfl)⟩⟩
  · exact ⟨by decide +kernel, bcase_f (by decide +kernel) ⟨by decide +kernel, bcase_t (by decide +kernel) (q μ2 (.quench p) v12 hp rfl)⟩⟩
theorem fusesD_snoc (fs : List Nat) (x : Nat) : fusesD (fs ++ [x]) = .tup (fs.map natD ++ [natD x]) := by simp [fusesD]
theorem stepsD_snoc (ss : List Act) (x : Act) : stepsD (ss ++ [x]) = .tup (ss.map Act.d ++ [x.d]) := by simp [stepsD]
theorem spotsIn_snoc (ss : List Act) (x : Act) : spotsIn (ss ++ [x]) = spotsIn ss + x.adds := by simp [spotsIn]
theorem act_lay : ∀ s : Act, s.d.lay = true ∧ s.d.dep ≤ 1
  | .light p true => ⟨by simp only [Act.d, sideD, D.lay, D.lays]; decide +kernel, by simp [Act.d, sideD, D.dep, D.deps]⟩
  | .light p false => ⟨by simp only [Act.d, sideD, D.lay, D.lays]; decide +kernel, by simp [Act.d, sideD, D.dep, D.deps]⟩
  | .spot p => ⟨by simp only [Act.d, D.lay, D.lays]; decide +kernel, by simp [Act.d, D.dep, D.deps]⟩
  | .quench p => ⟨by simp only [Act.d, D.lay, D.lays]; decide +kernel, by simp [Act.d, D.dep, D.deps]⟩
  | .wait p => ⟨by simp only [Act.d, D.lay, D.lays]; decide +kernel, by simp [Act.d, D.dep, D.deps]⟩
  | .first => ⟨by simp only [Act.d, D.lay, D.lays]; decide +kernel, by simp [Act.d, D.dep, D.deps]⟩
  | .ring => ⟨by simp only [Act.d, D.lay, D.lays]; decide +kernel, by simp [Act.d, D.dep, D.deps]⟩
theorem acts_lay : ∀ ss : List Act, D.lays (ss.map Act.d) = true ∧ D.deps (ss.map Act.d) ≤ 1
  | [] => ⟨by simp [D.lays], by simp [D.deps]⟩
  | s :: ss => by
    have h1 := act_lay s
    have h2 := acts_lay ss
    refine ⟨by simp only [List.map_cons, D.lays, h1.1, h2.1, Bool.and_self], ?_⟩
    simp only [List.map_cons, D.deps]
    omega
theorem steps_lay (ss : List Act) : (stepsD ss).lay = true ∧ (stepsD ss).dep ≤ 2 := by
  have := acts_lay ss
  exact ⟨by simp only [stepsD, D.lay]; exact this.1, by simp only [stepsD, D.dep]; omega⟩
theorem deqs_nil_r (xs : List D) : deqs xs [] = xs.isEmpty := by cases xs <;> simp [deqs]
theorem pure__law_script (ds : List D) (μ : MS) (Q : DK) (Ed : DXK) (h : sp__law_script ds μ Q Ed) : t__law_script Ed { nx := fun _ μ => Q .non μ, rt := Q } (dstart nm__law_script ds) μ := by
  obtain ⟨a, most, peak, rfl, hv, hm, hp, q⟩ := h
  refine ⟨a, _, rfl, hv, by simp, by simp, fun μ1 d v1 hd => ?_⟩
  obtain ⟨n, rfl, hn1, hn3⟩ : ∃ n : Nat, d = .int n ∧ 1 ≤ n ∧ n ≤ 3 := by
    simp only [List.mem_cons, List.not_mem_nil, or_false] at hd
    rcases hd with rfl | rfl | rfl | rfl | rfl
    · exact ⟨1, rfl, by decide, by decide⟩
    · exact ⟨1, rfl, by decide, by decide⟩
    · exact ⟨2, rfl, by decide, by decide⟩
    · exact ⟨2, rfl, by decide, by decide⟩
    · exact ⟨3, rfl, by decide, by decide⟩
  refine ⟨by omega, by omega, ?_⟩
  refine forL_ind (fun r ρ μ' => ∃ fs : List Nat, Vats a μ μ' ∧ fs.length + r.length = n ∧ (∀ x ∈ fs, 1 ≤ x ∧ x ≤ 60) ∧
    ρ = [some (.ref a), some (.int most), some (.int peak), some (fusesD fs), none, none, none, none, none]) ?_ ?_ _ _ _ ⟨[], v1, by rw [intsD_length]; simp, by simp, rfl⟩
  · rintro d r ρ μ' N ⟨fs, v, hl, hf, rfl⟩ hN
    refine ⟨a, 60, rfl, v.vat, by decide, by decide, fun μ2 r0 v2 h0 h1 => ?_⟩
    refine ⟨a, _, rfl, v2.vat, by simp, by simp, fun μ3 d v3 hd => ?_⟩
    obtain ⟨x, rfl, hx1, hx2⟩ : ∃ x : Nat, d = natD x ∧ 1 ≤ x ∧ x ≤ 60 := by
      simp only [List.mem_cons, List.not_mem_nil, or_false] at hd
      rcases hd with rfl | rfl | rfl | rfl | rfl | rfl
      · exact ⟨60, rfl, by decide, by decide⟩
      · exact ⟨40, rfl, by decide, by decide⟩
      · exact ⟨30, rfl, by decide, by decide⟩
      · exact ⟨20, rfl, by decide, by decide⟩
      · exact ⟨12, rfl, by decide, by decide⟩
      · exact ⟨(1 + r0).toNat, by simp only [natD, D.int.injEq]; omega, by omega, by omega⟩
    have e := hN [some (.ref a), some (.int most), some (.int peak), some (fusesD (fs ++ [x])), none, none, none, none, none] μ3
      ⟨fs ++ [x], (v.trans v2).trans v3, by simp at hl ⊢; omega, fun y hy => by rcases List.mem_append.mp hy with h | h; exact hf y h; rw [List.mem_singleton.mp h]; exact ⟨hx1, hx2⟩, rfl⟩
    rw [fusesD_snoc] at e
    have hs : sizeLine = 16777216 := sizeLine_eq
    exact ⟨by simp at hl ⊢; omega, e⟩
  · rintro ρ μ2 ⟨fs, v2, hl, hf, rfl⟩
    have hl : fs.length = n := by simpa using hl
    refine ⟨a, (most : Int) + 1, rfl, v2.vat, by omega, by omega, fun μ3 t v3 t0 t1 => ?_⟩
    have v03 := v2.trans v3
    obtain ⟨m, rfl⟩ : ∃ m : Nat, t = m := ⟨t.toNat, by omega⟩
    have hs : sizeLine = 16777216 := sizeLine_eq
    refine ⟨by omega, by omega, ?_⟩
    refine forL_ind (fun r ρ μ' => ∃ ss : List Act, Vats a μ μ' ∧ ss.length + r.length ≤ most ∧ stepsOk n ss ∧ spotsIn ss ≤ peak ∧
      ρ = [some (.ref a), some (.int most), some (.int peak), some (fusesD fs), none, some (.int ((n + spotsIn ss : Nat) : Int)), some (.int (spotsIn ss : Nat)), some (stepsD ss), none]) ?_ ?_ _ _ _ ⟨[], v03, by rw [intsD_length]; simp; omega, trivial, by simp [spotsIn], ?_⟩
    · rintro d r ρ μ' N ⟨ss, v, hl2, ho, hsp, rfl⟩ hN
      refine ⟨a, n + spotsIn ss, rfl, v.vat, by omega, by omega, fun μ4 act v4 hok hns => ?_⟩
      have v04 := v.trans v4
      have put : ∀ (act : Act) (μ5 : MS) (k s : Nat), Vats a μ μ5 → act.ok (n + spotsIn ss) → spotsIn ss + act.adds ≤ peak → k = n + spotsIn ss + act.adds → s = spotsIn ss + act.adds →
          (dAsg (dBin kAdd (dVar 7) (dTup (dCons (dVar 8) dNil))) (dName 7)) { nx := dLose [4, 8] N, ct := dLose [4, 8] N, rt := Q, bk := fun _ _ => False } [some (.ref a), some (.int most), some (.int peak), some (fusesD fs), some d, some (.int (k : Int)), some (.int (s : Int)), some (stepsD ss), some act.d] μ5 := by
        rintro act μ5 k s v5 hok hle rfl rfl
        have e := hN [some (.ref a), some (.int most), some (.int peak), some (fusesD fs), none, some (.int ((n + spotsIn (ss ++ [act]) : Nat) : Int)), some (.int (spotsIn (ss ++ [act]) : Nat)), some (stepsD (ss ++ [act])), none] μ5
          ⟨ss ++ [act], v5, by simp at hl2 ⊢; omega, stepsOk_append ho ⟨hok, trivial⟩, by rw [spotsIn_snoc]; exact hle, rfl⟩
        rw [stepsD_snoc, spotsIn_snoc, ← Nat.add_assoc] at e
        exact ⟨by simp at hl2 ⊢; omega, e⟩
      refine bcase_of (fun h => ?_) fun h => ?_
      · have h : spotsIn ss < peak := by have := of_decide_eq_true h; omega
        refine ⟨a, 3, rfl, v4.vat, by decide, by decide, fun μ5 r3 v5 h0 h1 => ?_⟩
        refine ⟨⟨rfl, rfl, by simp [D.dep], by simp [D.dep]⟩, ?_⟩
        refine bcase_of (fun h2 => ?_) fun h2 => ?_
        · refine ⟨a, _, rfl, v5.vat, by omega, by omega, fun μ6 p v6 p0 p1 => ?_⟩
          obtain ⟨p, rfl⟩ : ∃ p' : Nat, p = p' := ⟨p.toNat, by omega⟩
          have v06 := (v04.trans v5).trans v6
          exact put (.spot p) μ6 (n + spotsIn ss + 1) (spotsIn ss + 1) v06 (show p < n + spotsIn ss by omega) (by show spotsIn ss + 1 ≤ peak; omega) rfl rfl
        · have ha : act.adds = 0 := by simp [Act.adds, hns]
          exact put act μ5 _ _ (v04.trans v5) hok (by omega) (by omega) (by omega)
      · have ha : act.adds = 0 := by simp [Act.adds, hns]
        exact put act μ4 _ _ v04 hok (by omega) (by omega) (by omega)
    · rintro ρ μ4 ⟨ss, v4, hl2, ho, hsp, rfl⟩
      have hl2 : ss.length ≤ most := by simpa using hl2
      have base : Scr.Ok ⟨fs, ss⟩ := ⟨by show 1 ≤ fs.length; omega, by show fs.length ≤ 3; omega, hf, by show ss.length ≤ 12; omega, by show stepsOk fs.length ss; rw [hl]; exact ho, by show spotsIn ss ≤ 2; omega⟩
      have fin : ∀ μ5, Vats a μ μ5 → Q (.tup [fusesD fs, stepsD ss]) μ5 := fun μ5 v5 => q μ5 ⟨fs, ss⟩ v5 base hl2 hsp
      have hst := steps_lay ss
      by_cases hne : ss = []
      · subst hne
        exact ⟨⟨hst.1, rfl, by omega, by simp [D.dep, D.deps]⟩, bcase_f (by simp [stepsD, deq, deqs]) (fin μ4 v4)⟩
      obtain ⟨r, x, rfl⟩ : ∃ r x, ss = r ++ [x] := ⟨ss.dropLast, ss.getLast hne, (List.dropLast_concat_getLast hne).symm⟩
      rw [stepsD_snoc] at fin hst ⊢
      refine ⟨⟨hst.1, rfl, by omega, by simp [D.dep, D.deps]⟩, bcase_t (by simp [deq, deqs_nil_r]) ?_⟩
      refine getK_some (d := x.d) ?_ ?_
      · exact atI_last _ _
      have quiet : ∀ μ5, Vats a μ μ5 → Q (.tup [fusesD fs, .tup (r.map Act.d ++ [x.d])]) μ5 := fin
      have swap : x.adds = 0 → dTest (dBin kGt (dCall sp__law_under (dCons (dVar 0) (dCons (dC (.int 3)) dNil))) (dC (.int 0))) [some (.ref a), some (.int most), some (.int peak), some (fusesD fs), none, some (.int ((n + spotsIn (r ++ [x]) : Nat) : Int)), some (.int (spotsIn (r ++ [x]) : Nat)), some (.tup (r.map Act.d ++ [x.d])), none] μ4
          fun b μ1 => bcase b ((dAsg (dBin kAdd (dSl (dVar 7) dNoPart (dPart (dNeg (dC (.int 1))))) (dTup (dCons (dTup (dCons (dC (.str "ring")) dNil)) dNil))) (dName 7)) { nx := fun ρ μ => dRet (dTup (dCons (dVar 3) (dCons (dVar 7) dNil))) { nx := fun _ μ => Q .non μ, rt := Q } ρ μ, rt := Q } [some (.ref a), some (.int most), some (.int peak), some (fusesD fs), none, some (.int ((n + spotsIn (r ++ [x]) : Nat) : Int)), some (.int (spotsIn (r ++ [x]) : Nat)), some (.tup (r.map Act.d ++ [x.d])), none] μ1) (Q (.tup [fusesD fs, .tup (r.map Act.d ++ [x.d])]) μ1) := by
        intro hx
        refine ⟨a, 3, rfl, v4.vat, by decide, by decide, fun μ5 r3 v5 h0 h1 => ?_⟩
        have v05 := v4.trans v5
        refine bcase_of (fun _ => ?_) fun _ => quiet μ5 v05
        have ec : cut (r.map Act.d ++ [x.d]) none (some (-1)) = r.map Act.d := by
          have hl : (r.map Act.d ++ [x.d]).length = r.length + 1 := by simp
          have h1 : HT.sIx (r.length + 1) (r.length + 1) (some (-1)) = r.length := by
            simp only [HT.sIx]
            rw [if_pos (by decide)]; omega
          unfold cut
          rw [hl, h1, HT.sIx_none]
          simp
        have e := q μ5 ⟨fs, r ++ [.ring]⟩ v05 ⟨by show 1 ≤ fs.length; omega, by show fs.length ≤ 3; omega, hf, by show (r ++ [Act.ring]).length ≤ 12; simp at hl2 ⊢; omega, by
            show stepsOk fs.length (r ++ [.ring]); rw [hl]; exact stepsOk_append (stepsOk_prefix ho) ⟨trivial, trivial⟩, by
            show spotsIn (r ++ [.ring]) ≤ 2; rw [spotsIn_snoc] at hsp ⊢; have : Act.ring.adds = 0 := rfl; omega⟩ (by show (r ++ [Act.ring]).length ≤ most; simp at hl2 ⊢; omega) (by
            show spotsIn (r ++ [.ring]) ≤ peak; rw [spotsIn_snoc] at hsp ⊢; have : Act.ring.adds = 0 := rfl; omega)
        have e2 : Scr.d ⟨fs, r ++ [.ring]⟩ = .tup [fusesD fs, .tup (r.map Act.d ++ [.tup [.str "ring"]])] := by
          show D.tup [fusesD fs, stepsD (r ++ [.ring])] = _
          rw [stepsD_snoc]; rfl
        rw [e2] at e
        show (cut (r.map Act.d ++ [x.d]) none (some (-1))).length + 1 ≤ sizeLine ∧ Q (.tup [fusesD fs, .tup (cut (r.map Act.d ++ [x.d]) none (some (-1)) ++ [.tup [.str "ring"]])]) μ5
        rw [ec]
        exact ⟨by simp at hl2 ⊢; omega, e⟩
      cases x with
      | light p l => exact ⟨by cases l <;> decide +kernel, bcase_t (by decide +kernel) (swap rfl)⟩
      | quench p => exact ⟨by decide +kernel, bcase_t (by decide +kernel) (swap rfl)⟩
      | spot p => exact ⟨by decide +kernel, bcase_f (by decide +kernel) (quiet μ4 v4)⟩
      | wait p => exact ⟨by decide +kernel, bcase_f (by decide +kernel) (quiet μ4 v4)⟩
      | first => exact ⟨by decide +kernel, bcase_f (by decide +kernel) (quiet μ4 v4)⟩
      | ring => exact ⟨by decide +kernel, bcase_f (by decide +kernel) (quiet μ4 v4)⟩
    · simp [spotsIn, stepsD, hl]
end Li

set_option Elab.async false
set_option linter.all false
set_option maxRecDepth 100000
set_option maxHeartbeats 1000000
/-! The program's checks. -/
namespace Li
open PySem PySem.Spec PyProof.Rows L2
variable [Tbl]
/-- data: no object, texts as texts are, not deep -/
def Dat (v : D) : Prop := v.lay = true ∧ v.dep ≤ 40
theorem Dat.ty {v : D} (h : Dat v) : ∃ n, tyName v = some n := by
  obtain ⟨h, _⟩ := h
  cases v <;> first | exact ⟨_, rfl⟩ | simp [D.lay] at h
theorem lays_mem : ∀ {ds : List D}, D.lays ds = true → ∀ d ∈ ds, d.lay = true
  | [], _, d, h => by cases h
  | x :: xs, l, d, h => by
    have l' : x.lay = true ∧ D.lays xs = true := by simpa [D.lays] using l
    rcases List.mem_cons.mp h with rfl | h
    · exact l'.1
    · exact lays_mem l'.2 d h
theorem lays_of : ∀ {ds : List D}, (∀ d ∈ ds, d.lay = true) → D.lays ds = true
  | [], _ => by simp [D.lays]
  | x :: xs, h => by simp [D.lays, h x List.mem_cons_self, lays_of fun d hd => h d (List.mem_cons_of_mem _ hd)]
theorem deps_mem : ∀ {ds : List D} {n : Nat}, D.deps ds ≤ n → ∀ d ∈ ds, d.dep ≤ n
  | [], _, _, d, h => by cases h
  | x :: xs, n, l, d, h => by
    simp only [D.deps] at l
    rcases List.mem_cons.mp h with rfl | h
    · omega
    · exact deps_mem (ds := xs) (by omega) d h
theorem deps_of : ∀ {ds : List D} {n : Nat}, (∀ d ∈ ds, d.dep ≤ n) → D.deps ds ≤ n
  | [], _, _ => by simp [D.deps]
  | x :: xs, n, h => by
    have h1 := h x List.mem_cons_self
    have h2 := deps_of (ds := xs) (n := n) fun d hd => h d (List.mem_cons_of_mem _ hd)
    simp only [D.deps]
    omega
theorem Dat.mem {ds : List D} (h : Dat (.tup ds)) : ∀ d ∈ ds, Dat d := fun d hd => by
  obtain ⟨h1, h2⟩ := h
  exact ⟨lays_mem (by simpa only [D.lay] using h1) d hd, by
    have := deps_mem (ds := ds) (n := 39) (by simp only [D.dep] at h2; omega) d hd
    omega⟩
theorem Dat.list {ds : List D} (h : ∀ d ∈ ds, Dat d) : okEq (.lst ds) (.lst []) := ⟨by simp only [D.lay]; exact lays_of fun d hd => (h d hd).1, rfl, by
    have := deps_of (ds := ds) (n := 40) fun d hd => (h d hd).2
    simp only [D.dep]; omega, by simp [D.dep, D.deps]⟩
theorem Dat.eqv {v w : D} (h : Dat v) (g : Dat w) : okEq v w := ⟨h.1, g.1, by have := h.2; omega, by have := g.2; omega⟩
theorem dat_int (i : Int) : Dat (.int i) := ⟨rfl, by simp [D.dep]⟩
theorem deq_lst_nil (ds : List D) : deq (.lst ds) (.lst []) = ds.isEmpty := by simp only [deq, deqs_nil_r]
theorem any_str (w : Str) : ∀ ws : List Str, ((ws.map D.str).any fun z => deq z (.str w)) = decide (w ∈ ws)
  | [] => by simp
  | z :: ws => by
    simp only [List.map_cons, List.any_cons, any_str w ws, deq, List.mem_cons]
    by_cases h : w = z
    · subst h; simp
    · have : (z == w) = false := beq_eq_false_iff_ne.mpr (Ne.symm h)
      simp [h, this]
/-! ### what the checks say -/
def isWhole (v : D) (lo hi : Int) : Bool := match v with
  | .int i => decide (lo ≤ i) && decide (i ≤ hi)
  | _ => false
def gcd1 : D → D → Bool
  | .int a, .int b => decide (Int.gcd a b = 1)
  | _, _ => false
def isFrac (v : D) (lo hi be : Int) : Bool := match v with
  | .tup [x, y] => isWhole x lo hi && isWhole y 1 be && gcd1 x y
  | _ => false
def under1000 : D → D → Bool
  | .int a, .int b => decide (a ≤ 1000 * b)
  | _, _ => false
def tupUnder (v : D) : Bool := match v with
  | .tup [x, y] => under1000 x y
  | _ => false
def isTime (v : D) : Bool := isFrac v 0 (10 ^ 45) (10 ^ 45) && tupUnder v
def isWord (v : D) (ws : List D) : Bool := match v with
  | .str w => ws.any fun z => deq z (.str w)
  | _ => false
def isFuses (v : D) : Bool := match v with
  | .tup ds => decide (1 ≤ ds.length) && decide (ds.length ≤ 3) && ds.all fun d => isWhole d 1 60
  | _ => false
def sides : List D := [.str "left", .str "right"]
def d_SIDES : D := .tup sides
def d_MOST_STEPS : D := .int 12
def d_MOST_SPOTS : D := .int 2
def isStep (p : Int) (v : D) : Bool := match v with
  | .tup [.str w] => decide (w ∈ (["first", "ring"] : List Str))
  | .tup [.str w, x] => decide (w ∈ (["spot", "quench", "wait"] : List Str)) && isWhole x 0 (p - 1)
  | .tup [.str w, x, y] => decide (w = "light") && isWhole x 0 (p - 1) && isWord y sides
  | _ => false
def isHead (w : Str) (v : D) : Bool := match v with
  | .tup (.str x :: _) => decide (x = w)
  | _ => false
def areSteps : Int → List D → Bool
  | _, [] => true
  | p, d :: ds => isStep p d && areSteps (if isHead "spot" d then p + 1 else p) ds
def countD (w : Str) (ds : List D) : Nat := (ds.filter (isHead w)).length
def lenD (v : D) : Nat := match v with
  | .tup fs => fs.length
  | _ => 0
def isScript (v : D) : Bool := match v with
  | .tup [f, .tup ss] => isFuses f && decide (ss.length ≤ 12) && areSteps (lenD f) ss && decide (countD "spot" ss ≤ 2)
  | _ => false
def ringsD (v : D) : Nat := match v with
  | .tup [_, .tup ss] => countD "ring" ss
  | _ => 0
def spotsD (v : D) : Nat := match v with
  | .tup [_, .tup ss] => countD "spot" ss
  | _ => 0
def piecesD (v : D) : Nat := match v with
  | .tup [f, .tup ss] => lenD f + countD "spot" ss
  | _ => 0
def isFact (s v : D) : Bool := match v with
  | .tup [.str w, x] => decide (w ∈ (["out", "left"] : List Str)) && isWhole x 0 (piecesD s - 1)
  | .tup [.str w, x, t] => decide (w ∈ (["before", "at", "after"] : List Str)) && isWhole x 0 (ringsD s - 1) && isTime t
  | _ => false
def Headed (d : D) : Prop := Dat d ∧ ∃ w r, d = .tup (.str w :: r)
/-! ### promises -/
def sp_is_whole : DSp := fun ds μ Q E => ∃ v lo hi, ds = [v, .int lo, .int hi] ∧ Dat v ∧ Q (.bl (isWhole v lo hi)) μ
def sp_divisor : DSp := fun ds μ Q E => ∃ a b : Int, ds = [.int a, .int b] ∧ Q (.int (Int.gcd a b)) μ
def sp_is_fraction : DSp := fun ds μ Q E => ∃ v lo hi be, ds = [v, .int lo, .int hi, .int be] ∧ Dat v ∧ Q (.bl (isFrac v lo hi be)) μ
def sp_is_time : DSp := fun ds μ Q E => ∃ v, ds = [v] ∧ Dat v ∧ Q (.bl (isTime v)) μ
def sp_is_word : DSp := fun ds μ Q E => ∃ v ws, ds = [v, .tup ws] ∧ Dat v ∧ Dat (.tup ws) ∧ Q (.bl (isWord v ws)) μ
def sp_is_fuses : DSp := fun ds μ Q E => ∃ v, ds = [v] ∧ Dat v ∧ Q (.bl (isFuses v)) μ
def sp_is_step : DSp := fun ds μ Q E => ∃ p v, ds = [.int p, v] ∧ Dat v ∧ Q (.bl (isStep p v)) μ
abbrev nm_is_whole : List Str := ["value", "low", "high"]
abbrev ps_is_whole : List Str := ["value", "low", "high"]
def t_is_whole (Ed : DXK) : DTS := (dRet (dAndV (dCB kIsi (dCons (dVar 0) (dCons (dC (.ty "int")) dNil))) (dAndV (dNotV (dCB kIsi (dCons (dVar 0) (dCons (dC (.ty "bool")) dNil)))) (dChain kLe kLe (dVar 1) (dVar 0) (dVar 2)))))
abbrev nm_divisor : List Str := ["one", "other", "first", "second"]
abbrev ps_divisor : List Str := ["one", "other"]
def t_divisor (Ed : DXK) : DTS := (dSeq (dPar 2 3 (dCons (dCB kAbs (dCons (dVar 0) dNil)) (dCons (dCB kAbs (dCons (dVar 1) dNil)) dNil))) (dSeq (dWhile (dTest (dBin kGt (dVar 3) (dC (.int 0)))) (dPar 2 3 (dCons (dVar 3) (dCons (dBin kMod (dVar 2) (dVar 3)) dNil)))) (dRet (dVar 2))))
abbrev nm_is_fraction : List Str := ["value", "low", "high", "below"]
abbrev ps_is_fraction : List Str := ["value", "low", "high", "below"]
def t_is_fraction (Ed : DXK) : DTS := (dSeq (dIfS (dOr (dNot (dTest (dCB kIsi (dCons (dVar 0) (dCons (dC (.ty "tuple")) dNil))))) (dTest (dBin kNe (dCB kLen (dCons (dVar 0) dNil)) (dC (.int 2))))) (dRet (dC (.bl false))) dNext) (dSeq (dIfS (dOr (dNot (dTest (dCall sp_is_whole (dCons (dBin kIx (dVar 0) (dC (.int 0))) (dCons (dVar 1) (dCons (dVar 2) dNil)))))) (dNot (dTest (dCall sp_is_whole (dCons (dBin kIx (dVar 0) (dC (.int 1))) (dCons (dC (.int 1)) (dCons (dVar 3) dNil))))))) (dRet (dC (.bl false))) dNext) (dRet (dBin kEq (dCall sp_divisor (dCons (dBin kIx (dVar 0) (dC (.int 0))) (dCons (dBin kIx (dVar 0) (dC (.int 1))) dNil))) (dC (.int 1))))))
abbrev nm_is_time : List Str := ["value"]
abbrev ps_is_time : List Str := ["value"]
def t_is_time (Ed : DXK) : DTS := (dRet (dAndV (dCall sp_is_fraction (dCons (dVar 0) (dCons (dC (.int 0)) (dCons (dBin kPow (dC (.int 10)) (dC (.int 45))) (dCons (dBin kPow (dC (.int 10)) (dC (.int 45))) dNil))))) (dBin kLe (dBin kIx (dVar 0) (dC (.int 0))) (dBin kMul (dC (.int 1000)) (dBin kIx (dVar 0) (dC (.int 1)))))))
abbrev nm_is_word : List Str := ["value", "words"]
abbrev ps_is_word : List Str := ["value", "words"]
def t_is_word (Ed : DXK) : DTS := (dRet (dAndV (dCB kIsi (dCons (dVar 0) (dCons (dC (.ty "str")) dNil))) (dBin kIn (dVar 0) (dVar 1))))
abbrev nm_is_fuses : List Str := ["value", "fuse"]
abbrev ps_is_fuses : List Str := ["value"]
def t_is_fuses (Ed : DXK) : DTS := (dSeq (dIfS (dOr (dNot (dTest (dCB kIsi (dCons (dVar 0) (dCons (dC (.ty "tuple")) dNil))))) (dNot (dTest (dChain kLe kLe (dC (.int 1)) (dCB kLen (dCons (dVar 0) dNil)) (dC (.int 3)))))) (dRet (dC (.bl false))) dNext) (dRet (dBin kEq (dLc (dSeqI (dVar 0)) (dName 1) (dNot (dTest (dCall sp_is_whole (dCons (dVar 1) (dCons (dC (.int 1)) (dCons (dC (.int 60)) dNil)))))) (dVar 1) [1]) (dLst dNil))))
abbrev nm_is_step : List Str := ["pieces", "value"]
abbrev ps_is_step : List Str := ["pieces", "value"]
def t_is_step (Ed : DXK) : DTS := (dSeq (dIfS (dOr (dNot (dTest (dCB kIsi (dCons (dVar 1) (dCons (dC (.ty "tuple")) dNil))))) (dOr (dTest (dBin kEq (dVar 1) (dTup dNil))) (dNot (dTest (dCB kIsi (dCons (dBin kIx (dVar 1) (dC (.int 0))) (dCons (dC (.ty "str")) dNil))))))) (dRet (dC (.bl false))) dNext) (dSeq (dIfS (dTest (dBin kIn (dBin kIx (dVar 1) (dC (.int 0))) (dTup (dCons (dC (.str "first")) (dCons (dC (.str "ring")) dNil))))) (dRet (dBin kEq (dCB kLen (dCons (dVar 1) dNil)) (dC (.int 1)))) dNext) (dSeq (dIfS (dTest (dBin kEq (dBin kIx (dVar 1) (dC (.int 0))) (dC (.str "light")))) (dRet (dAndV (dBin kEq (dCB kLen (dCons (dVar 1) dNil)) (dC (.int 3))) (dAndV (dCall sp_is_whole (dCons (dBin kIx (dVar 1) (dC (.int 1))) (dCons (dC (.int 0)) (dCons (dBin kSub (dVar 0) (dC (.int 1))) dNil)))) (dCall sp_is_word (dCons (dBin kIx (dVar 1) (dC (.int 2))) (dCons (dC d_SIDES) dNil)))))) dNext) (dRet (dAndV (dBin kIn (dBin kIx (dVar 1) (dC (.int 0))) (dTup (dCons (dC (.str "spot")) (dCons (dC (.str "quench")) (dCons (dC (.str "wait")) dNil))))) (dAndV (dBin kEq (dCB kLen (dCons (dVar 1) dNil)) (dC (.int 2))) (dCall sp_is_whole (dCons (dBin kIx (dVar 1) (dC (.int 1))) (dCons (dC (.int 0)) (dCons (dBin kSub (dVar 0) (dC (.int 1))) dNil))))))))))

theorem pure_is_whole (ds : List D) (μ : MS) (Q : DK) (Ed : DXK) (h : sp_is_whole ds μ Q Ed) : t_is_whole Ed { nx := fun _ μ => Q .non μ, rt := Q } (dstart nm_is_whole ds) μ := by
  obtain ⟨v, lo, hi, rfl, hv, q⟩ := h
  cases v with
  | int i =>
    refine bcase_of (fun h1 => ?_) fun h1 => ?_
    · have h1 : decide (lo ≤ i) = true := h1
      have e : isWhole (.int i) lo hi = decide (i ≤ hi) := by show (decide (lo ≤ i) && decide (i ≤ hi)) = _; rw [h1]; rfl
      rw [e] at q
      exact q
    · have h1 : decide (lo ≤ i) = false := h1
      have e : isWhole (.int i) lo hi = false := by show (decide (lo ≤ i) && decide (i ≤ hi)) = _; rw [h1]; rfl
      rw [e] at q
      exact q
  | non => exact q
  | bl b => exact q
  | str b => exact q
  | tup b => exact q
  | lst b => exact q
  | _ => exact absurd hv.1 (by simp [D.lay])
theorem pure_divisor (ds : List D) (μ : MS) (Q : DK) (Ed : DXK) (h : sp_divisor ds μ Q Ed) : t_divisor Ed { nx := fun _ μ => Q .non μ, rt := Q } (dstart nm_divisor ds) μ := by
  obtain ⟨a, b, rfl, q⟩ := h
  refine ⟨fun m ρ μ' => ∃ x y : Nat, m = y ∧ μ' = μ ∧ ρ = [some (.int a), some (.int b), some (.int x), some (.int y)] ∧ Nat.gcd x y = Int.gcd a b, ⟨_, a.natAbs, b.natAbs, rfl, rfl, rfl, rfl⟩, ?_⟩
  rintro m ρ μ' ⟨x, y, rfl, rfl, rfl, e⟩
  refine bcase_of (fun h1 => ?_) fun h1 => ?_
  · have h1 : (0 : Int) < m := of_decide_eq_true h1
    refine ⟨fun ρ μ'' => ∃ x y' : Nat, y' < m ∧ μ'' = μ' ∧ ρ = [some (.int a), some (.int b), some (.int x), some (.int y')] ∧ Nat.gcd x y' = Int.gcd a b, fun ρ' μ'' ⟨x', y', h, h2, h3, h4⟩ => ⟨y', h, x', y', rfl, h2, h3, h4⟩, ?_⟩
    refine ⟨h1, m, x % m, Nat.mod_lt _ (by omega), rfl, rfl, ?_⟩
    rw [← e, Nat.gcd_comm x m, Nat.gcd_rec m x, Nat.gcd_comm]
  · have h1 : ¬ (0 : Int) < m := of_decide_eq_false h1
    have : m = 0 := by omega
    subst this
    rw [Nat.gcd_zero_right] at e
    rw [← e] at q
    exact q
theorem len_ne {ds : List D} {n : Int} (h : (ds.length : Int) ≠ n) : (!deq (.int (ds.length : Nat)) (.int n)) = true := by simp [deq, h]
theorem isWhole_int {v : D} {lo hi : Int} (h : isWhole v lo hi = true) : ∃ i, v = .int i := by
  cases v <;> first | exact ⟨_, rfl⟩ | cases h
theorem pure_is_fraction (ds : List D) (μ : MS) (Q : DK) (Ed : DXK) (h : sp_is_fraction ds μ Q Ed) : t_is_fraction Ed { nx := fun _ μ => Q .non μ, rt := Q } (dstart nm_is_fraction ds) μ := by
  obtain ⟨v, lo, hi, be, rfl, hv, q⟩ := h
  cases v with
  | tup es =>
    refine ⟨Dat.eqv (dat_int _) (dat_int _), ?_⟩
    match es, hv, q with
    | [], hv, q => exact bcase_t (len_ne (by decide)) q
    | [x], hv, q => exact bcase_t (len_ne (by simp)) q
    | x :: y :: z :: r, hv, q => exact bcase_t (len_ne (by simp only [List.length_cons]; omega)) q
    | [x, y], hv, q =>
      have e2 : isFrac (.tup [x, y]) lo hi be = (isWhole x lo hi && isWhole y 1 be && gcd1 x y) := rfl
      rw [e2] at q
      refine bcase_f (by simp [deq]) ⟨x, lo, hi, rfl, hv.mem x (by simp), ?_⟩
      refine bcase_of (fun h => ?_) fun h => ?_
      · have hx : isWhole x lo hi = false := by simpa using h
        rw [hx] at q
        exact q
      · have hx : isWhole x lo hi = true := by simpa using h
        refine ⟨y, 1, be, rfl, hv.mem y (by simp), ?_⟩
        rw [hx] at q
        refine bcase_of (fun h => ?_) fun h => ?_
        · have hy : isWhole y 1 be = false := by simpa using h
          rw [hy] at q
          exact q
        · have hy : isWhole y 1 be = true := by simpa using h
          obtain ⟨a, rfl⟩ := isWhole_int hx
          obtain ⟨b, rfl⟩ := isWhole_int hy
          refine ⟨a, b, rfl, Dat.eqv (dat_int _) (dat_int _), ?_⟩
          have e2 : gcd1 (.int a) (.int b) = deq (.int (Int.gcd a b)) (.int 1) := by
            simp only [deq, gcd1]
            rw [Bool.eq_iff_iff]
            simp
            omega
          rw [hy, e2] at q
          exact q
  | non => exact q
  | bl b => exact q
  | str b => exact q
  | int b => exact q
  | lst b => exact q
  | _ => exact absurd hv.1 (by simp [D.lay])

theorem pure_is_time (ds : List D) (μ : MS) (Q : DK) (Ed : DXK) (h : sp_is_time ds μ Q Ed) : t_is_time Ed { nx := fun _ μ => Q .non μ, rt := Q } (dstart nm_is_time ds) μ := by
  obtain ⟨v, rfl, hv, q⟩ := h
  refine ⟨⟨by decide, by decide, by decide⟩, ⟨by decide, by decide, by decide⟩, v, 0, 10 ^ 45, 10 ^ 45, rfl, hv, ?_⟩
  unfold isTime at q
  refine bcase_of (fun h => ?_) fun h => ?_
  · rw [h] at q
    unfold isFrac at h
    split at h
    · rename_i x y
      have h1 : isWhole x 0 (10 ^ 45) = true := by cases e : isWhole x 0 (10 ^ 45) with
        | true => rfl
        | false => rw [e] at h; cases h
      have h2 : isWhole y 1 (10 ^ 45) = true := by cases e : isWhole y 1 (10 ^ 45) with
        | true => rfl
        | false => rw [e, Bool.and_false] at h; cases h
      obtain ⟨a, rfl⟩ := isWhole_int h1
      obtain ⟨b, rfl⟩ := isWhole_int h2
      exact ⟨mulOk_l (by decide) (by decide), q⟩
    · cases h
  · rw [h] at q
    exact q
theorem pure_is_word (ds : List D) (μ : MS) (Q : DK) (Ed : DXK) (h : sp_is_word ds μ Q Ed) : t_is_word Ed { nx := fun _ μ => Q .non μ, rt := Q } (dstart nm_is_word ds) μ := by
  obtain ⟨v, ws, rfl, hv, hw, q⟩ := h
  cases v with
  | str w => exact ⟨hv.eqv hw, by rw [show isWord (.str w) ws = (false != ws.any fun z => deq z (.str w)) by rw [Bool.false_bne]; rfl] at q; exact q⟩
  | non => exact q
  | bl b => exact q
  | int b => exact q
  | tup b => exact q
  | lst b => exact q
  | _ => exact absurd hv.1 (by simp [D.lay])
theorem deq_filter (f : D → Bool) (ds : List D) : deq (.lst (ds.filter fun d => !f d)) (.lst []) = ds.all f := by
  rw [deq_lst_nil]
  induction ds with
  | nil => rfl
  | cons d ds ih =>
    simp only [List.filter_cons, List.all_cons]
    cases e : f d with
    | true => simpa using ih
    | false => simp
theorem lcL_filter {g : DTG} {tt : DTT} {te : DTE} {ρ : DSt} {μ : MS} (p : D → Bool) (ds : List D) (Q : List D → MS → Prop)
    (h : ∀ d, d ∈ ds → ∀ (A : D → MS → Prop) (Z : MS → Prop), (p d = true → A d μ) → (p d = false → Z μ) → g d ρ μ fun ρ2 μ2 => tt ρ2 μ2 fun b μ3 => bcase b (te ρ2 μ3 A) (Z μ3)) (q : Q (ds.filter p) μ) : lcL g tt te ρ ds μ Q := by
  refine lcL_pure (fun d => if p d then some d else none) ds Q (fun d hd A Z m => h d hd A Z (fun e => by simpa [e] using m) fun e => by simpa [e] using m) ?_
  have : ds.filterMap (fun d => if p d then some d else none) = ds.filter p := congrFun (List.filterMap_eq_filter (p := p)) ds
  rw [this]
  exact q
theorem pure_is_fuses (ds : List D) (μ : MS) (Q : DK) (Ed : DXK) (h : sp_is_fuses ds μ Q Ed) : t_is_fuses Ed { nx := fun _ μ => Q .non μ, rt := Q } (dstart nm_is_fuses ds) μ := by
  obtain ⟨v, rfl, hv, q⟩ := h
  cases v with
  | tup es =>
    have e : isFuses (.tup es) = (decide ((1 : Int) ≤ es.length) && decide ((es.length : Int) ≤ 3) && es.all fun d => isWhole d 1 60) := by
      show (decide (1 ≤ es.length) && decide (es.length ≤ 3) && _) = _
      congr 2 <;> exact decide_eq_decide.mpr (by omega)
    rw [e] at q
    have tail : ∀ Q : DK, Q (.bl (es.all fun d => isWhole d 1 60)) μ → (dRet (dBin kEq (dLc (dSeqI (dVar 0)) (dName 1) (dNot (dTest (dCall sp_is_whole (dCons (dVar 1) (dCons (dC (.int 1)) (dCons (dC (.int 60)) dNil)))))) (dVar 1) [1]) (dLst dNil))) { nx := fun _ μ => Q .non μ, rt := Q } (dstart nm_is_fuses [.tup es]) μ := by
      intro Q q
      refine lcL_filter (fun d => !isWhole d 1 60) es _ (fun d hd A Z a z => ⟨d, 1, 60, rfl, hv.mem d hd, bcase_of a z⟩) ?_
      rw [← deq_filter] at q
      exact ⟨Dat.list fun d hd => hv.mem d (List.mem_filter.mp hd).1, q⟩
    refine bcase_of (fun h => ?_) fun h => ?_
    · have h : decide ((1 : Int) ≤ es.length) = true := h
      rw [h] at q
      refine bcase_of (fun h => ?_) fun h => ?_
      · have h : decide ((es.length : Int) ≤ 3) = false := by simpa using h
        rw [h] at q
        exact q
      · have h : decide ((es.length : Int) ≤ 3) = true := by simpa using h
        rw [h] at q
        exact tail Q q
    · have h : decide ((1 : Int) ≤ es.length) = false := h
      rw [h] at q
      exact q
  | non => exact q
  | bl b => exact q
  | int b => exact q
  | str b => exact q
  | lst b => exact q
  | _ => exact absurd hv.1 (by simp [D.lay])
end Li

set_option Elab.async false
set_option linter.all false
set_option maxRecDepth 100000
set_option maxHeartbeats 1000000
namespace Li
open PySem PySem.Spec PyProof.Rows L2
variable [Tbl]
theorem in_t {w : Str} {ws : List Str} (h : (false != ((ws.map D.str).any fun z => deq z (.str w))) = true) : w ∈ ws := by
  rw [any_str, Bool.false_bne] at h
  exact of_decide_eq_true h
theorem in_f {w : Str} {ws : List Str} (h : (false != ((ws.map D.str).any fun z => deq z (.str w))) = false) : w ∉ ws := by
  rw [any_str, Bool.false_bne] at h
  exact of_decide_eq_false h
theorem deq_s (w z : Str) : deq (.str w) (.str z) = decide (w = z) := by
  simp only [deq]
  by_cases h : w = z
  · subst h; simp
  · simp [h]
theorem deq_i (i j : Int) : deq (.int i) (.int j) = decide (i = j) := by
  simp only [deq]
  by_cases h : i = j
  · subst h; simp
  · simp [h]
theorem deq_nil (x : D) (r : List D) : deq (.tup (x :: r)) (.tup []) = false := by simp [deq, deqs]
theorem Dat.of (v : D) (h : v.lay = true) (g : v.dep ≤ 40) : Dat v := ⟨h, g⟩
theorem dat_nil : Dat (.tup []) := ⟨by decide +kernel, by decide +kernel⟩
theorem at0 (x : D) (r : List D) : atI (x :: r) 0 = some x := atI_nat (j := 0) rfl
theorem dat_sides : Dat (.tup sides) := ⟨by decide +kernel, by decide +kernel⟩
theorem pure_is_step (ds : List D) (μ : MS) (Q : DK) (Ed : DXK) (h : sp_is_step ds μ Q Ed) : t_is_step Ed { nx := fun _ μ => Q .non μ, rt := Q } (dstart nm_is_step ds) μ := by
  obtain ⟨p, v, rfl, hv, q⟩ := h
  cases v with
  | tup es =>
    match es, hv, q with
    | [], hv, q => exact ⟨hv.eqv dat_nil, bcase_t (by decide +kernel) q⟩
    | x :: r, hv, q =>
      refine ⟨hv.eqv dat_nil, bcase_f (deq_nil x r) ?_⟩
      have hx : Dat x := hv.mem x (by simp)
      refine getK_some (at0 x r) ?_
      cases x with
      | str w =>
        refine getK_some (at0 _ r) ⟨hx.eqv ⟨by decide +kernel, by decide +kernel⟩, bcase_of (fun h => ?_) fun h => ?_⟩
        · have h := in_t (ws := ["first", "ring"]) h
          refine ⟨(dat_int _).eqv (dat_int _), ?_⟩
          have e : isStep p (.tup (.str w :: r)) = deq (.int ((D.str w :: r).length : Nat)) (.int 1) := by
            rw [deq_i]
            match r, hv with
            | [], _ => exact decide_eq_true h
            | [y], _ =>
              have : w ∉ (["spot", "quench", "wait"] : List Str) := by
                rcases List.mem_cons.mp h with rfl | h
                · decide +kernel
                · rw [List.mem_singleton.mp h]; decide +kernel
              show (decide (w ∈ (["spot", "quench", "wait"] : List Str)) && _) = _
              rw [decide_eq_false this]
              rfl
            | [y, z], _ =>
              have : w ≠ "light" := by
                rcases List.mem_cons.mp h with rfl | h
                · decide +kernel
                · rw [List.mem_singleton.mp h]; decide +kernel
              show (decide (w = "light") && _ && _) = _
              rw [decide_eq_false this]
              rfl
            | y :: z :: u :: r, _ => exact (decide_eq_false (by simp only [List.length_cons]; omega)).symm
          rw [e] at q
          exact q
        · have h := in_f (ws := ["first", "ring"]) h
          refine getK_some (at0 _ r) ⟨hx.eqv ⟨by decide +kernel, by decide +kernel⟩, bcase_of (fun h2 => ?_) fun h2 => ?_⟩
          · have h2 : w = "light" := of_decide_eq_true ((deq_s _ _).symm.trans h2)
            subst h2
            refine ⟨(dat_int _).eqv (dat_int _), ?_⟩
            match r, hv, q with
            | [y, z], hv, q =>
              have e : isStep p (.tup [.str "light", y, z]) = (isWhole y 0 (p - 1) && isWord z sides) := by
                show (decide ((Str.ofString "light") = Str.ofString "light") && _ && _) = _
                rw [decide_eq_true rfl, Bool.true_and]
              rw [e] at q
              refine ⟨y, 0, p - 1, rfl, hv.mem y (by simp), ?_⟩
              cases h3 : isWhole y 0 (p - 1) with
              | false => rw [h3] at q; exact q
              | true => rw [h3] at q; exact ⟨z, sides, rfl, hv.mem z (by simp), dat_sides, q⟩
            | [], hv, q => exact q
            | [y], hv, q => exact q
            | y :: z :: u :: r, hv, q => exact bcase_f (by rw [deq_i]; exact decide_eq_false (by simp only [List.length_cons]; omega)) q
          · have h2 : w ≠ "light" := of_decide_eq_false ((deq_s _ _).symm.trans h2)
            refine getK_some (at0 _ r) ⟨hx.eqv ⟨by decide +kernel, by decide +kernel⟩, bcase_of (fun h3 => ?_) fun h3 => ?_⟩
            · have h3 := in_t (ws := ["spot", "quench", "wait"]) h3
              refine ⟨(dat_int _).eqv (dat_int _), ?_⟩
              match r, hv, q with
              | [y], hv, q =>
                have e : isStep p (.tup [.str w, y]) = isWhole y 0 (p - 1) := by
                  show (decide (w ∈ (["spot", "quench", "wait"] : List Str)) && _) = _
                  rw [decide_eq_true h3, Bool.true_and]
                rw [e] at q
                exact bcase_t (by rw [deq_i]; exact decide_eq_true rfl) ⟨y, 0, p - 1, rfl, hv.mem y (by simp), q⟩
              | [], hv, q =>
                have e : isStep p (.tup [.str w]) = false := decide_eq_false h
                rw [e] at q
                exact bcase_f (by rw [deq_i]; exact decide_eq_false (by simp)) q
              | [y, z], hv, q =>
                have e : isStep p (.tup [.str w, y, z]) = false := by
                  show (decide (w = "light") && _ && _) = _
                  rw [decide_eq_false h2]
                  rfl
                rw [e] at q
                exact bcase_f (by rw [deq_i]; exact decide_eq_false (by simp)) q
              | y :: z :: u :: r, hv, q => exact bcase_f (by rw [deq_i]; exact decide_eq_false (by simp only [List.length_cons]; omega)) q
            · have h3 := in_f (ws := ["spot", "quench", "wait"]) h3
              have e : isStep p (.tup (.str w :: r)) = false := by
                match r with
                | [] => exact decide_eq_false h
                | [y] => show (decide (w ∈ (["spot", "quench", "wait"] : List Str)) && _) = _; rw [decide_eq_false h3]; rfl
                | [y, z] => show (decide (w = "light") && _ && _) = _; rw [decide_eq_false h2]; rfl
                | y :: z :: u :: r => rfl
              rw [e] at q
              exact q
      | non => exact q
      | bl b => exact q
      | int b => exact q
      | tup b => exact q
      | lst b => exact q
      | _ => exact absurd hx.1 (by simp [D.lay])
  | non => exact q
  | bl b => exact q
  | int b => exact q
  | str b => exact q
  | lst b => exact q
  | _ => exact absurd hv.1 (by simp [D.lay])
end Li

set_option Elab.async false
set_option linter.all false
set_option maxRecDepth 100000
set_option maxHeartbeats 1000000
/-! The program's checks of scripts and facts. -/
namespace Li
open PySem PySem.Spec PyProof.Rows L2
variable [Tbl]
section
variable [cC : Cls]
def sp_are_steps : DSp := fun ds μ Q E => ∃ (p : Int) (ss : List D), ds = [.int p, .tup ss] ∧ Dat (.tup ss) ∧ Q (.bl (areSteps p ss)) μ
def sp_spots_of : DSp := fun ds μ Q E => ∃ (ss : List D), ds = [.tup ss] ∧ (∀ d ∈ ss, Headed d) ∧ Q (.int (countD "spot" ss : Nat)) μ
def sp_is_script : DSp := fun ds μ Q E => ∃ v, ds = [v] ∧ Dat v ∧ Q (.bl (isScript v)) μ
def sp_rings_of : DSp := fun ds μ Q E => ∃ v, ds = [v] ∧ Dat v ∧ isScript v = true ∧ Q (.int (ringsD v : Nat)) μ
def sp_pieces_of : DSp := fun ds μ Q E => ∃ v, ds = [v] ∧ Dat v ∧ isScript v = true ∧ Q (.int (piecesD v : Nat)) μ
def sp_need_script : DSp := fun ds μ Q E => ∃ v, ds = [v] ∧ Dat v ∧ (isScript v = true → Q .non μ) ∧ (isScript v = false → E (.ref cC.InvalidScript) none μ)
def sp_good_fact : DSp := fun ds μ Q E => ∃ s v, ds = [s, v] ∧ Dat s ∧ isScript s = true ∧ Dat v ∧ Q (.bl (isFact s v)) μ
def sp_is_fact : DSp := fun ds μ Q E => ∃ s v, ds = [s, v] ∧ Dat s ∧ (isScript s = true → Dat v ∧ Q (.bl (isFact s v)) μ) ∧ (isScript s = false → E (.ref cC.InvalidScript) none μ)
def sp_count_rings : DSp := fun ds μ Q E => ∃ v, ds = [v] ∧ Dat v ∧ (isScript v = true → Q (.int (ringsD v : Nat)) μ) ∧ (isScript v = false → E (.ref cC.InvalidScript) none μ)
def sp_count_spots : DSp := fun ds μ Q E => ∃ v, ds = [v] ∧ Dat v ∧ (isScript v = true → Q (.int (spotsD v : Nat)) μ) ∧ (isScript v = false → E (.ref cC.InvalidScript) none μ)
def sp_count_pieces : DSp := fun ds μ Q E => ∃ v, ds = [v] ∧ Dat v ∧ (isScript v = true → Q (.int (piecesD v : Nat)) μ) ∧ (isScript v = false → E (.ref cC.InvalidScript) none μ)
abbrev nm_are_steps : List Str := ["pieces", "steps", "step"]
abbrev ps_are_steps : List Str := ["pieces", "steps"]
def t_are_steps (Ed : DXK) : DTS := (dSeq (dFor (dSeqI (dVar 1)) (dName 2) (dForget [2] (dSeq (dIfS (dNot (dTest (dCall sp_is_step (dCons (dVar 0) (dCons (dVar 2) dNil))))) (dRet (dC (.bl false))) dNext) (dIfS (dTest (dBin kEq (dBin kIx (dVar 2) (dC (.int 0))) (dC (.str "spot")))) (dAsg (dBin kAdd (dVar 0) (dC (.int 1))) (dName 0)) dNext)))) (dRet (dC (.bl true))))
abbrev nm_spots_of : List Str := ["steps", "step"]
abbrev ps_spots_of : List Str := ["steps"]
def t_spots_of (Ed : DXK) : DTS := (dRet (dCB kLen (dCons (dLc (dSeqI (dVar 0)) (dName 1) (dTest (dBin kEq (dBin kIx (dVar 1) (dC (.int 0))) (dC (.str "spot")))) (dVar 1) [1]) dNil)))
abbrev nm_is_script : List Str := ["value"]
abbrev ps_is_script : List Str := ["value"]
def t_is_script (Ed : DXK) : DTS := (dSeq (dIfS (dOr (dNot (dTest (dCB kIsi (dCons (dVar 0) (dCons (dC (.ty "tuple")) dNil))))) (dOr (dTest (dBin kNe (dCB kLen (dCons (dVar 0) dNil)) (dC (.int 2)))) (dNot (dTest (dCall sp_is_fuses (dCons (dBin kIx (dVar 0) (dC (.int 0))) dNil)))))) (dRet (dC (.bl false))) dNext) (dSeq (dIfS (dOr (dNot (dTest (dCB kIsi (dCons (dBin kIx (dVar 0) (dC (.int 1))) (dCons (dC (.ty "tuple")) dNil))))) (dTest (dBin kGt (dCB kLen (dCons (dBin kIx (dVar 0) (dC (.int 1))) dNil)) (dC d_MOST_STEPS)))) (dRet (dC (.bl false))) dNext) (dRet (dAndV (dCall sp_are_steps (dCons (dCB kLen (dCons (dBin kIx (dVar 0) (dC (.int 0))) dNil)) (dCons (dBin kIx (dVar 0) (dC (.int 1))) dNil))) (dBin kLe (dCall sp_spots_of (dCons (dBin kIx (dVar 0) (dC (.int 1))) dNil)) (dC d_MOST_SPOTS))))))
abbrev nm_rings_of : List Str := ["script", "step"]
abbrev ps_rings_of : List Str := ["script"]
def t_rings_of (Ed : DXK) : DTS := (dRet (dCB kLen (dCons (dLc (dSeqI (dBin kIx (dVar 0) (dC (.int 1)))) (dName 1) (dTest (dBin kEq (dBin kIx (dVar 1) (dC (.int 0))) (dC (.str "ring")))) (dVar 1) [1]) dNil)))
abbrev nm_pieces_of : List Str := ["script"]
abbrev ps_pieces_of : List Str := ["script"]
def t_pieces_of (Ed : DXK) : DTS := (dRet (dBin kAdd (dCB kLen (dCons (dBin kIx (dVar 0) (dC (.int 0))) dNil)) (dCall sp_spots_of (dCons (dBin kIx (dVar 0) (dC (.int 1))) dNil))))
abbrev nm_need_script : List Str := ["script"]
abbrev ps_need_script : List Str := ["script"]
def t_need_script (Ed : DXK) : DTS := (dIfS (dNot (dTest (dCall sp_is_script (dCons (dVar 0) dNil)))) (dRaise cC.InvalidScript Ed) dNext)
abbrev nm_good_fact : List Str := ["script", "value"]
abbrev ps_good_fact : List Str := ["script", "value"]
def t_good_fact (Ed : DXK) : DTS := (dSeq (dIfS (dOr (dNot (dTest (dCB kIsi (dCons (dVar 1) (dCons (dC (.ty "tuple")) dNil))))) (dOr (dTest (dBin kEq (dVar 1) (dTup dNil))) (dNot (dTest (dCB kIsi (dCons (dBin kIx (dVar 1) (dC (.int 0))) (dCons (dC (.ty "str")) dNil))))))) (dRet (dC (.bl false))) dNext) (dSeq (dIfS (dTest (dBin kIn (dBin kIx (dVar 1) (dC (.int 0))) (dTup (dCons (dC (.str "out")) (dCons (dC (.str "left")) dNil))))) (dRet (dAndV (dBin kEq (dCB kLen (dCons (dVar 1) dNil)) (dC (.int 2))) (dCall sp_is_whole (dCons (dBin kIx (dVar 1) (dC (.int 1))) (dCons (dC (.int 0)) (dCons (dBin kSub (dCall sp_pieces_of (dCons (dVar 0) dNil)) (dC (.int 1))) dNil)))))) dNext) (dSeq (dIfS (dOr (dTest (dBin kNotIn (dBin kIx (dVar 1) (dC (.int 0))) (dTup (dCons (dC (.str "before")) (dCons (dC (.str "at")) (dCons (dC (.str "after")) dNil)))))) (dTest (dBin kNe (dCB kLen (dCons (dVar 1) dNil)) (dC (.int 3))))) (dRet (dC (.bl false))) dNext) (dRet (dAndV (dCall sp_is_whole (dCons (dBin kIx (dVar 1) (dC (.int 1))) (dCons (dC (.int 0)) (dCons (dBin kSub (dCall sp_rings_of (dCons (dVar 0) dNil)) (dC (.int 1))) dNil)))) (dCall sp_is_time (dCons (dBin kIx (dVar 1) (dC (.int 2))) dNil)))))))
abbrev nm_is_fact : List Str := ["script", "value"]
abbrev ps_is_fact : List Str := ["script", "value"]
def t_is_fact (Ed : DXK) : DTS := (dSeq (dDrop (dCallX sp_need_script Ed (dCons (dVar 0) dNil))) (dRet (dCall sp_good_fact (dCons (dVar 0) (dCons (dVar 1) dNil)))))
abbrev nm_count_rings : List Str := ["script"]
abbrev ps_count_rings : List Str := ["script"]
def t_count_rings (Ed : DXK) : DTS := (dSeq (dDrop (dCallX sp_need_script Ed (dCons (dVar 0) dNil))) (dRet (dCall sp_rings_of (dCons (dVar 0) dNil))))
abbrev nm_count_spots : List Str := ["script"]
abbrev ps_count_spots : List Str := ["script"]
def t_count_spots (Ed : DXK) : DTS := (dSeq (dDrop (dCallX sp_need_script Ed (dCons (dVar 0) dNil))) (dRet (dCall sp_spots_of (dCons (dBin kIx (dVar 0) (dC (.int 1))) dNil))))
abbrev nm_count_pieces : List Str := ["script"]
abbrev ps_count_pieces : List Str := ["script"]
def t_count_pieces (Ed : DXK) : DTS := (dSeq (dDrop (dCallX sp_need_script Ed (dCons (dVar 0) dNil))) (dRet (dCall sp_pieces_of (dCons (dVar 0) dNil))))

theorem notIn_t {w : Str} {ws : List Str} (h : (true != ((ws.map D.str).any fun z => deq z (.str w))) = true) : w ∉ ws := by
  rw [any_str] at h
  simpa using h
theorem notIn_f {w : Str} {ws : List Str} (h : (true != ((ws.map D.str).any fun z => deq z (.str w))) = false) : w ∈ ws := by
  rw [any_str] at h
  simpa using h
theorem headed_of {p : Int} {d : D} (h : isStep p d = true) : ∃ w r, d = .tup (.str w :: r) := by
  unfold isStep at h
  split at h <;> first | exact ⟨_, _, rfl⟩ | cases h
theorem heads_of : ∀ {p : Int} {ss : List D}, areSteps p ss = true → (∀ d ∈ ss, Dat d) → ∀ d ∈ ss, Headed d
  | _, [], _, _, d, h => by cases h
  | p, x :: ss, e, hd, d, h => by
    have e' : isStep p x = true ∧ areSteps (if isHead "spot" x then p + 1 else p) ss = true := by simpa [areSteps] using e
    rcases List.mem_cons.mp h with rfl | h
    · exact ⟨hd _ h, headed_of e'.1⟩
    · exact heads_of e'.2 (fun d hd' => hd d (List.mem_cons_of_mem _ hd')) d h
theorem pure_are_steps (ds : List D) (μ : MS) (Q : DK) (Ed : DXK) (h : sp_are_steps ds μ Q Ed) : t_are_steps Ed { nx := fun _ μ => Q .non μ, rt := Q } (dstart nm_are_steps ds) μ := by
  obtain ⟨p, ss, rfl, hv, q⟩ := h
  refine forL_ind (fun r ρ μ' => ∃ p', μ' = μ ∧ areSteps p' r = areSteps p ss ∧ (∀ d ∈ r, Dat d) ∧ ρ = [some (.int p'), some (.tup ss), none]) ?_ ?_ _ _ _ ⟨p, rfl, rfl, hv.mem, rfl⟩
  · rintro d r ρ μ' N ⟨p', rfl, e, hd, rfl⟩ hN
    have hd0 := hd d (by simp)
    refine ⟨p', d, rfl, hd0, bcase_of (fun h => ?_) fun h => ?_⟩
    · have h : isStep p' d = false := by simpa using h
      have e2 : areSteps p ss = false := by rw [← e]; simp [areSteps, h]
      rw [e2] at q
      exact q
    · have h : isStep p' d = true := by simpa using h
      obtain ⟨w, r', rfl⟩ := headed_of h
      have e2 : areSteps p' (.tup (.str w :: r') :: r) = areSteps (if isHead "spot" (.tup (.str w :: r')) then p' + 1 else p') r := by simp only [areSteps, h, Bool.true_and]
      rw [e2] at e
      refine getK_some (at0 _ _) ⟨(hd0.mem _ (by simp)).eqv ⟨by decide +kernel, by decide +kernel⟩, bcase_of (fun h => ?_) fun h => ?_⟩
      · have h : isHead "spot" (.tup (.str w :: r')) = true := (deq_s _ _).symm.trans h
        rw [h] at e
        exact hN _ _ ⟨p' + 1, rfl, e, fun d hd' => hd d (List.mem_cons_of_mem _ hd'), rfl⟩
      · have h : isHead "spot" (.tup (.str w :: r')) = false := (deq_s _ _).symm.trans h
        rw [h] at e
        exact hN _ _ ⟨p', rfl, e, fun d hd' => hd d (List.mem_cons_of_mem _ hd'), rfl⟩
  · rintro ρ μ' ⟨p', rfl, e, _, rfl⟩
    rw [← e] at q
    exact q
theorem pure_spots_of (ds : List D) (μ : MS) (Q : DK) (Ed : DXK) (h : sp_spots_of ds μ Q Ed) : t_spots_of Ed { nx := fun _ μ => Q .non μ, rt := Q } (dstart nm_spots_of ds) μ := by
  obtain ⟨ss, rfl, hv, q⟩ := h
  refine lcL_filter (isHead "spot") ss _ (fun d hd A Z a z => ?_) q
  obtain ⟨hd, w, r, rfl⟩ := hv d hd
  exact getK_some (at0 _ _) ⟨(hd.mem _ (by simp)).eqv ⟨by decide +kernel, by decide +kernel⟩, bcase_of (fun h => a ((deq_s _ _).symm.trans h)) fun h => z ((deq_s _ _).symm.trans h)⟩
theorem script_parts {v : D} (h : isScript v = true) : ∃ fs ss, v = .tup [.tup fs, .tup ss] ∧ isFuses (.tup fs) = true ∧ ss.length ≤ 12 ∧ areSteps fs.length ss = true ∧ countD "spot" ss ≤ 2 := by
  unfold isScript at h
  split at h
  · rename_i f ss
    simp only [Bool.and_eq_true, decide_eq_true_eq] at h
    obtain ⟨⟨⟨h1, h2⟩, h3⟩, h4⟩ := h
    cases f with
    | tup fs => exact ⟨fs, ss, rfl, h1, h2, h3, h4⟩
    | _ => cases h1
  · cases h
theorem pure_is_script (ds : List D) (μ : MS) (Q : DK) (Ed : DXK) (h : sp_is_script ds μ Q Ed) : t_is_script Ed { nx := fun _ μ => Q .non μ, rt := Q } (dstart nm_is_script ds) μ := by
  obtain ⟨v, rfl, hv, q⟩ := h
  cases v with
  | tup es =>
    refine ⟨(dat_int _).eqv (dat_int _), ?_⟩
    match es, hv, q with
    | [], hv, q => exact bcase_t (len_ne (by decide)) q
    | [x], hv, q => exact bcase_t (len_ne (by simp)) q
    | x :: y :: z :: r, hv, q =>
      have e : isScript (.tup (x :: y :: z :: r)) = false := by unfold isScript; split <;> first | rfl | (rename_i h; cases h)
      rw [e] at q
      exact bcase_t (len_ne (by simp only [List.length_cons]; omega)) q
    | [x, y], hv, q =>
      refine bcase_f (by simp [deq]) ⟨x, rfl, hv.mem x (by simp), bcase_of (fun h => ?_) fun h => ?_⟩
      · have h : isFuses x = false := by simpa using h
        have e : isScript (.tup [x, y]) = false := by
          unfold isScript
          split
          · rename_i h'; cases h'; rw [h]; rfl
          · rfl
        rw [e] at q
        exact q
      · have h : isFuses x = true := by simpa using h
        have hy : Dat y := hv.mem y (by simp)
        cases x with
        | tup fs =>
          cases y with
          | tup ss =>
            refine bcase_of (fun h2 => ?_) fun h2 => ?_
            · have h2 : ¬ ss.length ≤ 12 := by have h2 : (12 : Int) < ss.length := of_decide_eq_true h2; omega
              have e : isScript (.tup [.tup fs, .tup ss]) = false := by
                show (isFuses (.tup fs) && decide (ss.length ≤ 12) && _ && _) = _
                rw [decide_eq_false h2, Bool.and_false]; rfl
              rw [e] at q
              exact q
            · have h2 : ss.length ≤ 12 := by have h2 : ¬ (12 : Int) < ss.length := of_decide_eq_false h2; omega
              have e : isScript (.tup [.tup fs, .tup ss]) = (areSteps fs.length ss && decide (countD "spot" ss ≤ 2)) := by
                show (isFuses (.tup fs) && decide (ss.length ≤ 12) && _ && _) = _
                rw [decide_eq_true h2, h]; rfl
              rw [e] at q
              refine ⟨fs.length, ss, rfl, hy, bcase_of (fun h3 => ?_) fun h3 => ?_⟩
              · rw [h3] at q
                have e2 : decide (countD "spot" ss ≤ 2) = decide ((countD "spot" ss : Int) ≤ 2) := decide_eq_decide.mpr (by omega)
                rw [Bool.true_and, e2] at q
                exact ⟨ss, rfl, heads_of h3 hy.mem, q⟩
              · rw [h3] at q
                exact q
          | non => exact q
          | bl b => exact q
          | int b => exact q
          | str b => exact q
          | lst b => exact q
          | _ => exact absurd hy.1 (by simp [D.lay])
        | _ => cases h
  | non => exact q
  | bl b => exact q
  | int b => exact q
  | str b => exact q
  | lst b => exact q
  | _ => exact absurd hv.1 (by simp [D.lay])
theorem pure_rings_of (ds : List D) (μ : MS) (Q : DK) (Ed : DXK) (h : sp_rings_of ds μ Q Ed) : t_rings_of Ed { nx := fun _ μ => Q .non μ, rt := Q } (dstart nm_rings_of ds) μ := by
  obtain ⟨v, rfl, hv, hs, q⟩ := h
  obtain ⟨fs, ss, rfl, h1, h2, h3, h4⟩ := script_parts hs
  have hh := heads_of h3 (hv.mem _ (by simp)).mem
  refine lcL_filter (isHead "ring") ss _ (fun d hd A Z a z => ?_) q
  obtain ⟨hd, w, r, rfl⟩ := hh d hd
  exact getK_some (at0 _ _) ⟨(hd.mem _ (by simp)).eqv ⟨by decide +kernel, by decide +kernel⟩, bcase_of (fun h => a ((deq_s _ _).symm.trans h)) fun h => z ((deq_s _ _).symm.trans h)⟩
theorem pure_pieces_of (ds : List D) (μ : MS) (Q : DK) (Ed : DXK) (h : sp_pieces_of ds μ Q Ed) : t_pieces_of Ed { nx := fun _ μ => Q .non μ, rt := Q } (dstart nm_pieces_of ds) μ := by
  obtain ⟨v, rfl, hv, hs, q⟩ := h
  obtain ⟨fs, ss, rfl, h1, h2, h3, h4⟩ := script_parts hs
  exact ⟨ss, rfl, heads_of h3 (hv.mem _ (by simp)).mem, q⟩
theorem pure_need_script (ds : List D) (μ : MS) (Q : DK) (Ed : DXK) (h : sp_need_script ds μ Q Ed) : t_need_script Ed { nx := fun _ μ => Q .non μ, rt := Q } (dstart nm_need_script ds) μ := by
  obtain ⟨v, rfl, hv, q1, q2⟩ := h
  refine ⟨v, rfl, hv, bcase_of (fun h => ?_) fun h => ?_⟩
  · exact q2 (by simpa using h)
  · exact q1 (by simpa using h)
theorem pure_is_fact (ds : List D) (μ : MS) (Q : DK) (Ed : DXK) (h : sp_is_fact ds μ Q Ed) : t_is_fact Ed { nx := fun _ μ => Q .non μ, rt := Q } (dstart nm_is_fact ds) μ := by
  obtain ⟨s, v, rfl, hv, q1, q2⟩ := h
  exact ⟨s, rfl, hv, fun h => ⟨s, v, rfl, hv, h, (q1 h).1, (q1 h).2⟩, fun h => q2 h⟩
theorem pure_count_rings (ds : List D) (μ : MS) (Q : DK) (Ed : DXK) (h : sp_count_rings ds μ Q Ed) : t_count_rings Ed { nx := fun _ μ => Q .non μ, rt := Q } (dstart nm_count_rings ds) μ := by
  obtain ⟨v, rfl, hv, q1, q2⟩ := h
  exact ⟨v, rfl, hv, fun h => ⟨v, rfl, hv, h, q1 h⟩, fun h => q2 h⟩
theorem pure_count_spots (ds : List D) (μ : MS) (Q : DK) (Ed : DXK) (h : sp_count_spots ds μ Q Ed) : t_count_spots Ed { nx := fun _ μ => Q .non μ, rt := Q } (dstart nm_count_spots ds) μ := by
  obtain ⟨v, rfl, hv, q1, q2⟩ := h
  refine ⟨v, rfl, hv, fun h => ?_, fun h => q2 h⟩
  have q := q1 h
  obtain ⟨fs, ss, rfl, h1, h2, h3, h4⟩ := script_parts h
  exact ⟨ss, rfl, heads_of h3 (hv.mem _ (by simp)).mem, q⟩
theorem pure_count_pieces (ds : List D) (μ : MS) (Q : DK) (Ed : DXK) (h : sp_count_pieces ds μ Q Ed) : t_count_pieces Ed { nx := fun _ μ => Q .non μ, rt := Q } (dstart nm_count_pieces ds) μ := by
  obtain ⟨v, rfl, hv, q1, q2⟩ := h
  exact ⟨v, rfl, hv, fun h => ⟨v, rfl, hv, h, q1 h⟩, fun h => q2 h⟩
theorem script_pieces {v : D} (h : isScript v = true) : 1 ≤ piecesD v ∧ piecesD v ≤ 5 ∧ ringsD v ≤ 12 := by
  obtain ⟨fs, ss, rfl, h1, h2, h3, h4⟩ := script_parts h
  simp only [isFuses, Bool.and_eq_true, decide_eq_true_eq] at h1
  have := List.length_filter_le (isHead "ring") ss
  simp only [piecesD, ringsD, lenD, countD] at *
  omega
theorem pure_good_fact (ds : List D) (μ : MS) (Q : DK) (Ed : DXK) (h : sp_good_fact ds μ Q Ed) : t_good_fact Ed { nx := fun _ μ => Q .non μ, rt := Q } (dstart nm_good_fact ds) μ := by
  obtain ⟨s, v, rfl, hsd, hs, hv, q⟩ := h
  cases v with
  | tup es =>
    match es, hv, q with
    | [], hv, q => exact ⟨hv.eqv dat_nil, bcase_t (by decide +kernel) q⟩
    | x :: r, hv, q =>
      refine ⟨hv.eqv dat_nil, bcase_f (deq_nil x r) ?_⟩
      have hx : Dat x := hv.mem x (by simp)
      refine getK_some (at0 x r) ?_
      cases x with
      | str w =>
        refine getK_some (at0 _ r) ⟨hx.eqv ⟨by decide +kernel, by decide +kernel⟩, bcase_of (fun h => ?_) fun h => ?_⟩
        · have h := in_t (ws := ["out", "left"]) h
          refine ⟨(dat_int _).eqv (dat_int _), ?_⟩
          match r, hv, q with
          | [y], hv, q =>
            have e : isFact s (.tup [.str w, y]) = isWhole y 0 (piecesD s - 1) := by
              show (decide (w ∈ (["out", "left"] : List Str)) && _) = _
              rw [decide_eq_true h, Bool.true_and]
            rw [e] at q
            exact bcase_t (by rw [deq_i]; exact decide_eq_true rfl) ⟨s, rfl, hsd, hs, y, 0, _, rfl, hv.mem y (by simp), q⟩
          | [], hv, q => exact bcase_f (by rw [deq_i]; exact decide_eq_false (by simp)) q
          | [y, z], hv, q =>
            have hn : w ∉ (["before", "at", "after"] : List Str) := by
              rcases List.mem_cons.mp h with rfl | h
              · decide +kernel
              · rw [List.mem_singleton.mp h]; decide +kernel
            have e : isFact s (.tup [.str w, y, z]) = false := by
              show (decide (w ∈ (["before", "at", "after"] : List Str)) && _ && _) = _
              rw [decide_eq_false hn]
              rfl
            rw [e] at q
            exact bcase_f (by rw [deq_i]; exact decide_eq_false (by simp)) q
          | y :: z :: u :: r, hv, q => exact bcase_f (by rw [deq_i]; exact decide_eq_false (by simp only [List.length_cons]; omega)) q
        · have h := in_f (ws := ["out", "left"]) h
          refine getK_some (at0 _ r) ⟨hx.eqv ⟨by decide +kernel, by decide +kernel⟩, ?_⟩
          refine bcase_of (fun h3 => ?_) fun h3 => ?_
          · have h3 := notIn_t (ws := ["before", "at", "after"]) h3
            have e : isFact s (.tup (.str w :: r)) = false := by
              match r with
              | [] => rfl
              | [y] => show (decide (w ∈ (["out", "left"] : List Str)) && _) = _; rw [decide_eq_false h]; rfl
              | [y, z] => show (decide (w ∈ (["before", "at", "after"] : List Str)) && _ && _) = _; rw [decide_eq_false h3]; rfl
              | y :: z :: u :: r => rfl
            rw [e] at q
            exact q
          · have h3 := notIn_f (ws := ["before", "at", "after"]) h3
            refine ⟨(dat_int _).eqv (dat_int _), ?_⟩
            match r, hv, q with
            | [y, z], hv, q =>
              have e : isFact s (.tup [.str w, y, z]) = (isWhole y 0 (ringsD s - 1) && isTime z) := by
                show (decide (w ∈ (["before", "at", "after"] : List Str)) && _ && _) = _
                rw [decide_eq_true h3, Bool.true_and]
              rw [e] at q
              refine bcase_f (by simp [deq]) ⟨s, rfl, hsd, hs, y, 0, _, rfl, hv.mem y (by simp), bcase_of (fun h => ?_) fun h => ?_⟩
              · rw [h] at q; exact ⟨z, rfl, hv.mem z (by simp), q⟩
              · rw [h] at q; exact q
            | [], hv, q => exact bcase_t (len_ne (by simp)) q
            | [y], hv, q =>
              have e : isFact s (.tup [.str w, y]) = false := by show (decide (w ∈ (["out", "left"] : List Str)) && _) = _; rw [decide_eq_false h]; rfl
              rw [e] at q
              exact bcase_t (len_ne (by simp)) q
            | y :: z :: u :: r, hv, q => exact bcase_t (len_ne (by simp only [List.length_cons]; omega)) q
      | non => exact q
      | bl b => exact q
      | int b => exact q
      | tup b => exact q
      | lst b => exact q
      | _ => exact absurd hx.1 (by simp [D.lay])
  | non => exact q
  | bl b => exact q
  | int b => exact q
  | str b => exact q
  | lst b => exact q
  | _ => exact absurd hv.1 (by simp [D.lay])
end
end Li

set_option Elab.async false
set_option linter.all false
set_option maxRecDepth 100000
set_option maxHeartbeats 1000000
/-! Data of bounded size. -/
namespace Li
open PySem PySem.Spec PyProof.Rows L2
variable [Tbl]
def Asc (x : Str) : Prop := ∀ c ∈ x.cps.toList, c < 128
mutual
def fit (n : Nat) : D → Prop
  | .non | .bl _ => True
  | .int i => -(2 ^ n : Int) ≤ i ∧ i ≤ 2 ^ n
  | .str x => x.length ≤ n ∧ Asc x
  | .tup ds | .lst ds => ds.length ≤ n ∧ fits n ds
  | .ref _ | .ty _ | .scr _ => False
def fits (n : Nat) : List D → Prop
  | [] => True
  | d :: ds => fit n d ∧ fits n ds
end
theorem fits_mem {n : Nat} : ∀ {ds : List D}, fits n ds → ∀ d ∈ ds, fit n d
  | [], _, d, h => by cases h
  | x :: xs, l, d, h => by
    simp only [fits] at l
    rcases List.mem_cons.mp h with rfl | h
    · exact l.1
    · exact fits_mem l.2 d h
theorem fits_of {n : Nat} : ∀ {ds : List D}, (∀ d ∈ ds, fit n d) → fits n ds
  | [], _ => by simp only [fits]
  | x :: xs, h => by simp only [fits]; exact ⟨h x List.mem_cons_self, fits_of fun d hd => h d (List.mem_cons_of_mem _ hd)⟩
theorem two_mono {n m : Nat} (h : n ≤ m) : (2 ^ n : Int) ≤ 2 ^ m := by
  have := Nat.pow_le_pow_right (n := 2) (by decide) h
  exact_mod_cast this
mutual
theorem fit_mono {n m : Nat} (h : n ≤ m) : ∀ {d : D}, fit n d → fit m d
  | .non, _ => by simp only [fit]
  | .bl _, _ => by simp only [fit]
  | .int i, q => by
    simp only [fit] at q ⊢
    have := two_mono h
    omega
  | .str x, q => by simp only [fit] at q ⊢; exact ⟨by omega, q.2⟩
  | .tup ds, q => by simp only [fit] at q ⊢; exact ⟨by omega, fits_mono h q.2⟩
  | .lst ds, q => by simp only [fit] at q ⊢; exact ⟨by omega, fits_mono h q.2⟩
  | .ref _, q => by simp only [fit] at q
  | .ty _, q => by simp only [fit] at q
  | .scr _, q => by simp only [fit] at q
theorem fits_mono {n m : Nat} (h : n ≤ m) : ∀ {ds : List D}, fits n ds → fits m ds
  | [], _ => by simp only [fits]
  | d :: ds, q => by simp only [fits] at q ⊢; exact ⟨fit_mono h q.1, fits_mono h q.2⟩
end
theorem asc_ok {x : Str} (h : Asc x) : PyData.strOk x = true := by
  unfold PyData.strOk
  rw [Array.all_eq_true_iff_forall_mem]
  intro c hc
  have := h c (Array.mem_toList_iff.mpr hc)
  simp
  omega
mutual
theorem fit_lay {n : Nat} : ∀ {d : D}, fit n d → d.lay = true
  | .non, _ => rfl
  | .bl _, _ => rfl
  | .int i, q => rfl
  | .str x, q => by simp only [fit] at q; simp only [D.lay]; exact asc_ok q.2
  | .tup ds, q => by simp only [fit] at q; simp only [D.lay]; exact fits_lay q.2
  | .lst ds, q => by simp only [fit] at q; simp only [D.lay]; exact fits_lay q.2
  | .ref _, q => by simp only [fit] at q
  | .ty _, q => by simp only [fit] at q
  | .scr _, q => by simp only [fit] at q
theorem fits_lay {n : Nat} : ∀ {ds : List D}, fits n ds → D.lays ds = true
  | [], _ => by simp only [D.lays]
  | d :: ds, q => by simp only [fits] at q; simp only [D.lays, fit_lay q.1, fits_lay q.2, Bool.and_self]
end
/-- data of size n and depth k -/
structure Fit (n k : Nat) (d : D) : Prop where
  f : fit n d
  d : d.dep ≤ k
theorem Fit.dat {n k : Nat} {d : D} (h : Fit n k d) (hk : k ≤ 40) : Dat d := ⟨fit_lay h.f, by have := h.d; omega⟩
theorem Fit.mono {n k m l : Nat} {d : D} (h : Fit n k d) (h1 : n ≤ m) (h2 : k ≤ l) : Fit m l d := ⟨fit_mono h1 h.f, by have := h.d; omega⟩
theorem fit_tup {n k : Nat} {ds : List D} (hl : ds.length ≤ n) (h : ∀ d ∈ ds, Fit n k d) : Fit n (k + 1) (.tup ds) := ⟨by simp only [fit]; exact ⟨hl, fits_of fun d hd => (h d hd).f⟩, by
  have := deps_of (ds := ds) (n := k) fun d hd => (h d hd).d
  simp only [D.dep]; omega⟩
theorem fit_lst {n k : Nat} {ds : List D} (hl : ds.length ≤ n) (h : ∀ d ∈ ds, Fit n k d) : Fit n (k + 1) (.lst ds) := ⟨by simp only [fit]; exact ⟨hl, fits_of fun d hd => (h d hd).f⟩, by
  have := deps_of (ds := ds) (n := k) fun d hd => (h d hd).d
  simp only [D.dep]; omega⟩
theorem Fit.tup {n k : Nat} {ds : List D} (h : Fit n k (.tup ds)) : ds.length ≤ n ∧ ∀ d ∈ ds, Fit n (k - 1) d := by
  obtain ⟨f, e⟩ := h
  simp only [fit] at f
  simp only [D.dep] at e
  exact ⟨f.1, fun d hd => ⟨fits_mem f.2 d hd, by have := deps_mem (ds := ds) (n := D.deps ds) (Nat.le_refl _) d hd; omega⟩⟩
theorem fit_non {n k : Nat} : Fit n k .non := ⟨by simp only [fit], by simp [D.dep]⟩
theorem fit_bl {n k : Nat} {b : Bool} : Fit n k (.bl b) := ⟨by simp only [fit], by simp [D.dep]⟩
theorem fit_int {n k : Nat} {i : Int} (h1 : -(2 ^ n : Int) ≤ i) (h2 : i ≤ 2 ^ n) : Fit n k (.int i) := ⟨by simp only [fit]; exact ⟨h1, h2⟩, by simp [D.dep]⟩
theorem fit_str {n k : Nat} {x : Str} (h1 : x.length ≤ n) (h2 : Asc x) : Fit n k (.str x) := ⟨by simp only [fit]; exact ⟨h1, h2⟩, by simp [D.dep]⟩
theorem Fit.int {n k : Nat} {i : Int} (h : Fit n k (.int i)) : -(2 ^ n : Int) ≤ i ∧ i ≤ 2 ^ n := by have := h.f; simpa only [fit] using this
theorem Fit.str {n k : Nat} {x : Str} (h : Fit n k (.str x)) : x.length ≤ n ∧ Asc x := by have := h.f; simpa only [fit] using this
instance (x : Str) : Decidable (Asc x) := inferInstanceAs (Decidable (∀ c ∈ x.cps.toList, c < 128))
theorem fit_lit {n k : Nat} {x : Str} (h1 : x.length ≤ 20 := by decide +kernel) (h2 : Asc x := by decide +kernel) (hn : 20 ≤ n := by omega) : Fit n k (.str x) := fit_str (by omega) h2
theorem act_fit {n k : Nat} (hn : 20 ≤ n) (hk : 1 ≤ k) : ∀ {s : Act} {m : Nat}, s.ok m → m ≤ 2 ^ n → Fit n k s.d := by
  intro s m ok hm
  have hm' : (m : Int) ≤ 2 ^ n := by exact_mod_cast hm
  have h0 : (0 : Int) ≤ 2 ^ n := by omega
  have hi : ∀ p : Nat, p < m → Fit n 0 (.int p) := fun p hp => fit_int (by omega) (by omega)
  cases s with
  | light p l =>
    refine (fit_tup (k := 0) (by simp; omega) fun d hd => ?_).mono (Nat.le_refl _) hk
    simp only [List.mem_cons, List.not_mem_nil, or_false] at hd
    rcases hd with rfl | rfl | rfl
    · exact fit_lit
    · exact hi p ok
    · cases l
      · exact fit_lit (x := "right")
      · exact fit_lit (x := "left")
  | spot p =>
    refine (fit_tup (k := 0) (by simp; omega) fun d hd => ?_).mono (Nat.le_refl _) hk
    simp only [List.mem_cons, List.not_mem_nil, or_false] at hd
    rcases hd with rfl | rfl
    · exact fit_lit
    · exact hi p ok
  | quench p =>
    refine (fit_tup (k := 0) (by simp; omega) fun d hd => ?_).mono (Nat.le_refl _) hk
    simp only [List.mem_cons, List.not_mem_nil, or_false] at hd
    rcases hd with rfl | rfl
    · exact fit_lit
    · exact hi p ok
  | wait p =>
    refine (fit_tup (k := 0) (by simp; omega) fun d hd => ?_).mono (Nat.le_refl _) hk
    simp only [List.mem_cons, List.not_mem_nil, or_false] at hd
    rcases hd with rfl | rfl
    · exact fit_lit
    · exact hi p ok
  | first =>
    refine (fit_tup (k := 0) (by simp; omega) fun d hd => ?_).mono (Nat.le_refl _) hk
    simp only [List.mem_cons, List.not_mem_nil, or_false] at hd
    rcases hd with rfl
    exact fit_lit
  | ring =>
    refine (fit_tup (k := 0) (by simp; omega) fun d hd => ?_).mono (Nat.le_refl _) hk
    simp only [List.mem_cons, List.not_mem_nil, or_false] at hd
    rcases hd with rfl
    exact fit_lit
theorem steps_fit {n : Nat} (hn : 20 ≤ n) : ∀ {ss : List Act} {m : Nat}, stepsOk m ss → m + spotsIn ss ≤ 2 ^ n → ∀ s ∈ ss, Fit n 1 s.d
  | [], _, _, _, s, h => by cases h
  | a :: r, m, ⟨h1, h2⟩, hm, s, h => by
    have e : spotsIn (a :: r) = a.adds + spotsIn r := by simp [spotsIn]
    rw [e] at hm
    rcases List.mem_cons.mp h with rfl | h
    · exact act_fit hn (Nat.le_refl _) h1 (by omega)
    · exact steps_fit hn h2 (by omega) s h
theorem scr_fit {s : Scr} (h : s.Ok) : Fit 100 3 s.d := by
  have h5 : (5 : Nat) ≤ 2 ^ 100 := by decide
  refine fit_tup (k := 2) (by simp [Scr.d]) fun d hd => ?_
  simp only [List.mem_cons, List.not_mem_nil, or_false] at hd
  rcases hd with rfl | rfl
  · refine (fit_tup (k := 0) (by have := h.f3; simp; omega) fun d hd => ?_).mono (Nat.le_refl _) (by decide)
    obtain ⟨x, hx, rfl⟩ := List.mem_map.mp hd
    have := h.fu x hx
    exact fit_int (by have : (0 : Int) ≤ 2 ^ 100 := by decide
                      omega) (by have : (60 : Int) ≤ 2 ^ 100 := by decide
                                 omega)
  · refine fit_tup (k := 1) (by have := h.st; simp; omega) fun d hd => ?_
    obtain ⟨x, hx, rfl⟩ := List.mem_map.mp hd
    exact steps_fit (by decide) h.go (by have := h.f3; have := h.sp; omega) x hx
end Li

set_option Elab.async false
set_option linter.all false
set_option maxRecDepth 100000
set_option maxHeartbeats 2000000
/-! Odd values, values bent. -/
namespace Li
open PySem PySem.Spec PyProof.Rows L2
variable [Tbl]
def spK__law_odd (K : Nat) : DSp := fun ds μ Q E => ∃ (a : Addr) (k : Nat), ds = [.ref a, .int k] ∧ k < K ∧ k ≤ 2 ∧ IsVat μ a ∧ ∀ μ' d, Vats a μ μ' → Fit 100 (k + 1) d → Q d μ'
def spK__law_bent (K : Nat) : DSp := fun ds μ Q E => ∃ (a : Addr) (n k : Nat) (v : D), ds = [.ref a, v] ∧ v.dep < K ∧ Fit n k v ∧ 100 ≤ n ∧ n ≤ 1000 ∧ k ≤ 20 ∧ IsVat μ a ∧ ∀ μ' d, Vats a μ μ' → Fit (n + 2) (k + 2) d → Q d μ'
abbrev sp__law_odd : DSp := spK__law_odd 3
abbrev sp__law_bent : DSp := spK__law_bent 21
abbrev nm__law_odd : List Str := ["vat", "depth", "some", "row", "part"]
abbrev ps__law_odd : List Str := ["vat", "depth"]
def t__law_odd (spr : DSp) (Ed : DXK) : DTS := (dSeq (dAsg (dLst (dCons (dC .non) (dCons (dC (.bl true)) (dCons (dC (.bl false)) (dCons (dC (.int 0)) (dCons (dC (.int 1)) (dCons (dC (.int 2)) (dCons (dC (.int 60)) (dCons (dC (.int 61)) (dCons (dNeg (dC (.int 1))) (dCons (dBin kPow (dC (.int 10)) (dC (.int 30))) (dCons (dC (.str "")) (dCons (dC (.str "left")) (dCons (dC (.str "light")) (dCons (dC (.str "out")) (dCons (dC (.str "at")) dNil)))))))))))))))) (dName 2)) (dSeq (dAsg (dBin kAdd (dVar 2) (dLst (dCons (dTup dNil) (dCons (dLst dNil) (dCons (dTup (dCons (dC (.int 60)) dNil)) (dCons (dTup (dCons (dC (.int 30)) (dCons (dC (.int 1)) dNil))) (dCons (dTup (dCons (dC (.str "ring")) dNil)) (dCons (dTup (dCons (dC (.str "first")) dNil)) (dCons (dTup (dCons (dC (.str "wait")) (dCons (dC (.int 0)) dNil))) (dCons (dTup (dCons (dC (.int 2)) (dCons (dC (.int 4)) dNil))) dNil)))))))))) (dName 2)) (dSeq (dAsg (dBin kAdd (dVar 2) (dLst (dCons (dTup (dCons (dC (.str "spot")) (dCons (dC (.int 0)) dNil))) (dCons (dTup (dCons (dC (.str "light")) (dCons (dC (.int 0)) (dCons (dC (.str "left")) dNil)))) dNil)))) (dName 2)) (dSeq (dIfS (dOr (dTest (dBin kEq (dVar 1) (dC (.int 0)))) (dTest (dBin kLt (dCall sp__law_under (dCons (dVar 0) (dCons (dC (.int 9)) dNil))) (dC (.int 6))))) (dRet (dCall sp__law_some (dCons (dVar 0) (dCons (dVar 2) dNil)))) dNext) (dSeq (dAsg (dLc (dRange1 (dCons (dCall sp__law_under (dCons (dVar 0) (dCons (dC (.int 4)) dNil))) dNil)) (dName 4) dYes (dCall spr (dCons (dVar 0) (dCons (dBin kSub (dVar 1) (dC (.int 1))) dNil))) [4]) (dName 3)) (dRet (dIf (dTest (dBin kEq (dCall sp__law_under (dCons (dVar 0) (dCons (dC (.int 3)) dNil))) (dC (.int 0)))) (dVar 3) (dCB kTuple (dCons (dVar 3) dNil)))))))))
abbrev nm__law_bent : List Str := ["vat", "value", "near", "at", "way"]
abbrev ps__law_bent : List Str := ["vat", "value"]
def t__law_bent (spr : DSp) (Ed : DXK) : DTS := (dSeq (dIfS (dOr (dNot (dTest (dCB kIsi (dCons (dVar 1) (dCons (dC (.ty "tuple")) dNil))))) (dOr (dTest (dBin kEq (dVar 1) (dTup dNil))) (dTest (dBin kEq (dCall sp__law_under (dCons (dVar 0) (dCons (dC (.int 7)) dNil))) (dC (.int 0)))))) (dSeq (dAsg (dLst (dCons (dCall sp__law_odd (dCons (dVar 0) (dCons (dC (.int 1)) dNil))) (dCons (dCall sp__law_odd (dCons (dVar 0) (dCons (dC (.int 1)) dNil))) dNil))) (dName 2)) (dSeq (dIfS (dTest (dCB kIsi (dCons (dVar 1) (dCons (dC (.ty "str")) dNil)))) (dAsg (dBin kAdd (dVar 2) (dLst (dCons (dC (.str "left")) (dCons (dC (.str "right")) (dCons (dC (.str "wait")) (dCons (dC (.str "spot")) (dCons (dSl (dVar 1) dNoPart (dPart (dNeg (dC (.int 1))))) (dCons (dM0 kUpper (dVar 1)) (dCons (dC (.str "before")) dNil))))))))) (dName 2)) (dIfS (dTest (dCB kIsi (dCons (dVar 1) (dCons (dC (.ty "int")) dNil)))) (dAsg (dBin kAdd (dVar 2) (dLst (dCons (dBin kAddB (dVar 1) (dC (.int 1))) (dCons (dBin kSubB (dVar 1) (dC (.int 1))) (dCons (dNotI (dVar 1)) (dCons (dCB kStr (dCons (dVar 1) dNil)) (dCons (dBin kMulB (dC (.int 2)) (dVar 1)) dNil))))))) (dName 2)) dNext)) (dRet (dCall sp__law_some (dCons (dVar 0) (dCons (dVar 2) dNil)))))) dNext) (dSeq (dPar 3 4 (dCons (dCall sp__law_under (dCons (dVar 0) (dCons (dCB kLen (dCons (dVar 1) dNil)) dNil))) (dCons (dCall sp__law_under (dCons (dVar 0) (dCons (dC (.int 9)) dNil))) dNil))) (dSeq (dIfS (dTest (dBin kEq (dVar 4) (dC (.int 0)))) (dRet (dBin kAdd (dSl (dVar 1) dNoPart (dPart (dVar 3))) (dSl (dVar 1) (dPart (dBin kAdd (dVar 3) (dC (.int 1)))) dNoPart))) dNext) (dSeq (dIfS (dTest (dBin kEq (dVar 4) (dC (.int 1)))) (dRet (dBin kAdd (dSl (dVar 1) dNoPart (dPart (dBin kAdd (dVar 3) (dC (.int 1))))) (dSl (dVar 1) (dPart (dVar 3)) dNoPart))) dNext) (dSeq (dIfS (dTest (dBin kEq (dVar 4) (dC (.int 2)))) (dRet (dRevT (dVar 1))) dNext) (dSeq (dIfS (dTest (dBin kEq (dVar 4) (dC (.int 3)))) (dRet (dCB kList (dCons (dVar 1) dNil))) dNext) (dRet (dBin kAdd (dBin kAdd (dSl (dVar 1) dNoPart (dPart (dVar 3))) (dTup (dCons (dCall spr (dCons (dVar 0) (dCons (dBin kIx (dVar 1) (dVar 3)) dNil))) dNil))) (dSl (dVar 1) (dPart (dBin kAdd (dVar 3) (dC (.int 1)))) dNoPart)))))))))
def oddL : List D := [.non, .bl true, .bl false, .int 0, .int 1, .int 2, .int 60, .int 61, .int (-1), .int (10 ^ 30), .str "", .str "left", .str "light", .str "out", .str "at",
  .tup [], .lst [], .tup [.int 60], .tup [.int 30, .int 1], .tup [.str "ring"], .tup [.str "first"], .tup [.str "wait", .int 0], .tup [.int 2, .int 4], .tup [.str "spot", .int 0], .tup [.str "light", .int 0, .str "left"]]
theorem oddL_fit : ∀ d ∈ oddL, Fit 100 1 d := by
  intro d hd
  have c1 : (100 : Int) ≤ 2 ^ 100 := by decide
  have c2 : (10 ^ 30 : Int) ≤ 2 ^ 100 := by decide
  have i : ∀ {k : Nat} {z : Int}, -100 ≤ z → z ≤ 10 ^ 30 → Fit 100 k (.int z) := fun {k z} h1 h2 => fit_int (by omega) (by omega)
  have t : ∀ {ds : List D}, ds.length ≤ 100 → (∀ d ∈ ds, Fit 100 0 d) → Fit 100 1 (.tup ds) := fun h1 h2 => fit_tup h1 h2
  simp only [oddL, List.mem_cons, List.not_mem_nil, or_false] at hd
  rcases hd with rfl | rfl | rfl | rfl | rfl | rfl | rfl | rfl | rfl | rfl | rfl | rfl | rfl | rfl | rfl | rfl | rfl | rfl | rfl | rfl | rfl | rfl | rfl | rfl | rfl
  · exact fit_non
  · exact fit_bl
  · exact fit_bl
  · exact i (by decide) (by decide)
  · exact i (by decide) (by decide)
  · exact i (by decide) (by decide)
  · exact i (by decide) (by decide)
  · exact i (by decide) (by decide)
  · exact i (by decide) (by decide)
  · exact i (by decide) (by decide)
  · exact fit_lit
  · exact fit_lit
  · exact fit_lit
  · exact fit_lit
  · exact fit_lit
  · exact t (by decide) (by simp)
  · exact fit_lst (k := 0) (by decide) (by simp)
  · exact t (by decide) (by simp only [List.mem_cons, List.not_mem_nil, or_false]; rintro d rfl; exact i (by decide) (by decide))
  · exact t (by decide) (by simp only [List.mem_cons, List.not_mem_nil, or_false]; rintro d (rfl | rfl) <;> exact i (by decide) (by decide))
  · exact t (by decide) (by simp only [List.mem_cons, List.not_mem_nil, or_false]; rintro d rfl; exact fit_lit)
  · exact t (by decide) (by simp only [List.mem_cons, List.not_mem_nil, or_false]; rintro d rfl; exact fit_lit)
  · exact t (by decide) (by simp only [List.mem_cons, List.not_mem_nil, or_false]; rintro d (rfl | rfl); exact fit_lit; exact i (by decide) (by decide))
  · exact t (by decide) (by simp only [List.mem_cons, List.not_mem_nil, or_false]; rintro d (rfl | rfl) <;> exact i (by decide) (by decide))
  · exact t (by decide) (by simp only [List.mem_cons, List.not_mem_nil, or_false]; rintro d (rfl | rfl); exact fit_lit; exact i (by decide) (by decide))
  · exact t (by decide) (by simp only [List.mem_cons, List.not_mem_nil, or_false]; rintro d (rfl | rfl | rfl); exact fit_lit; exact i (by decide) (by decide); exact fit_lit)
theorem pure__law_odd (K : Nat) (ds : List D) (μ : MS) (Q : DK) (Ed : DXK) (h : spK__law_odd (K + 1) ds μ Q Ed) : t__law_odd (spK__law_odd K) Ed { nx := fun _ μ => Q .non μ, rt := Q } (dstart nm__law_odd ds) μ := by
  obtain ⟨a, k, rfl, hk, hk2, hv, q⟩ := h
  refine ⟨⟨by decide, by decide, by decide⟩, by decide, by decide, ?_⟩
  have some_ : ∀ μ1, Vats a μ μ1 → (dRet (dCall sp__law_some (dCons (dVar 0) (dCons (dVar 2) dNil)))) { nx := fun _ μ => Q .non μ, rt := Q } [some (.ref a), some (.int k), some (.lst oddL), none, none] μ1 := fun μ1 v1 =>
    ⟨a, oddL, rfl, v1.vat, by simp [oddL], by simp [oddL], fun μ2 d v2 hd => q μ2 d (v1.trans v2) ((oddL_fit d hd).mono (Nat.le_refl _) (by omega))⟩
  have rest : ∀ μ1, Vats a μ μ1 → k < K + 1 → k ≠ 0 → (dSeq (dAsg (dLc (dRange1 (dCons (dCall sp__law_under (dCons (dVar 0) (dCons (dC (.int 4)) dNil))) dNil)) (dName 4) dYes (dCall (spK__law_odd K) (dCons (dVar 0) (dCons (dBin kSub (dVar 1) (dC (.int 1))) dNil))) [4]) (dName 3)) (dRet (dIf (dTest (dBin kEq (dCall sp__law_under (dCons (dVar 0) (dCons (dC (.int 3)) dNil))) (dC (.int 0)))) (dVar 3) (dCB kTuple (dCons (dVar 3) dNil)))))
      { nx := fun _ μ => Q .non μ, rt := Q } [some (.ref a), some (.int k), some (.lst oddL), none, none] μ1 := by
    intro μ1 v1 hkK hk0
    refine ⟨a, 4, rfl, v1.vat, by decide, by decide, fun μ2 r v2 h0 h1 => ?_⟩
    refine ⟨by omega, by omega, ?_⟩
    refine lcL_all (fun μ' => Vats a μ μ') (fun d => Fit 100 k d) _ μ2 _ (v1.trans v2) (fun d hd μ3 v3 A Z hA hZ => ?_) fun row μ3 v3 hl hrow => ?_
    · obtain ⟨j, rfl⟩ : ∃ j, k = j + 1 := ⟨k - 1, by omega⟩
      have e : ((j + 1 : Nat) : Int) - 1 = (j : Nat) := by omega
      show spK__law_odd K [.ref a, .int (((j + 1 : Nat) : Int) - 1)] μ3 A noX
      rw [e]
      exact ⟨a, j, rfl, by omega, by omega, v3.vat, fun μ4 d v4 hd => hA d μ4 (v3.trans v4) hd⟩
    · rw [intsD_length] at hl
      have hl4 : row.length ≤ 100 := by omega
      refine ⟨a, 3, rfl, v3.vat, by decide, by decide, fun μ4 r3 v4 _ _ => ?_⟩
      refine ⟨(dat_int _).eqv (dat_int _), bcase_of (fun _ => ?_) fun _ => ?_⟩
      · exact q μ4 _ (v3.trans v4) (fit_lst hl4 hrow)
      · exact q μ4 _ (v3.trans v4) (fit_tup hl4 hrow)
  refine ⟨(dat_int _).eqv (dat_int _), bcase_of (fun _ => some_ μ (Vats.refl hv)) fun h0 => ?_⟩
  have h0 : ¬ (k : Int) = 0 := by rw [deq_i] at h0; exact of_decide_eq_false h0
  refine ⟨a, 9, rfl, hv, by decide, by decide, fun μ1 r v1 _ _ => bcase_of (fun _ => some_ μ1 v1) fun _ => rest μ1 v1 hk (by omega)⟩
end Li

set_option Elab.async false
set_option linter.all false
set_option maxRecDepth 100000
set_option maxHeartbeats 2000000
/-! Values bent. -/
namespace Li
open PySem PySem.Spec PyProof.Rows L2
variable [Tbl]
def t__bent_near : DTS := (dSeq (dAsg (dLst (dCons (dCall sp__law_odd (dCons (dVar 0) (dCons (dC (.int 1)) dNil))) (dCons (dCall sp__law_odd (dCons (dVar 0) (dCons (dC (.int 1)) dNil))) dNil))) (dName 2)) (dSeq (dIfS (dTest (dCB kIsi (dCons (dVar 1) (dCons (dC (.ty "str")) dNil)))) (dAsg (dBin kAdd (dVar 2) (dLst (dCons (dC (.str "left")) (dCons (dC (.str "right")) (dCons (dC (.str "wait")) (dCons (dC (.str "spot")) (dCons (dSl (dVar 1) dNoPart (dPart (dNeg (dC (.int 1))))) (dCons (dM0 kUpper (dVar 1)) (dCons (dC (.str "before")) dNil))))))))) (dName 2)) (dIfS (dTest (dCB kIsi (dCons (dVar 1) (dCons (dC (.ty "int")) dNil)))) (dAsg (dBin kAdd (dVar 2) (dLst (dCons (dBin kAddB (dVar 1) (dC (.int 1))) (dCons (dBin kSubB (dVar 1) (dC (.int 1))) (dCons (dNotI (dVar 1)) (dCons (dCB kStr (dCons (dVar 1) dNil)) (dCons (dBin kMulB (dC (.int 2)) (dVar 1)) dNil))))))) (dName 2)) dNext)) (dRet (dCall sp__law_some (dCons (dVar 0) (dCons (dVar 2) dNil))))))
def t__bent_parts (spr : DSp) : DTS := (dSeq (dPar 3 4 (dCons (dCall sp__law_under (dCons (dVar 0) (dCons (dCB kLen (dCons (dVar 1) dNil)) dNil))) (dCons (dCall sp__law_under (dCons (dVar 0) (dCons (dC (.int 9)) dNil))) dNil))) (dSeq (dIfS (dTest (dBin kEq (dVar 4) (dC (.int 0)))) (dRet (dBin kAdd (dSl (dVar 1) dNoPart (dPart (dVar 3))) (dSl (dVar 1) (dPart (dBin kAdd (dVar 3) (dC (.int 1)))) dNoPart))) dNext) (dSeq (dIfS (dTest (dBin kEq (dVar 4) (dC (.int 1)))) (dRet (dBin kAdd (dSl (dVar 1) dNoPart (dPart (dBin kAdd (dVar 3) (dC (.int 1))))) (dSl (dVar 1) (dPart (dVar 3)) dNoPart))) dNext) (dSeq (dIfS (dTest (dBin kEq (dVar 4) (dC (.int 2)))) (dRet (dRevT (dVar 1))) dNext) (dSeq (dIfS (dTest (dBin kEq (dVar 4) (dC (.int 3)))) (dRet (dCB kList (dCons (dVar 1) dNil))) dNext) (dRet (dBin kAdd (dBin kAdd (dSl (dVar 1) dNoPart (dPart (dVar 3))) (dTup (dCons (dCall spr (dCons (dVar 0) (dCons (dBin kIx (dVar 1) (dVar 3)) dNil))) dNil))) (dSl (dVar 1) (dPart (dBin kAdd (dVar 3) (dC (.int 1)))) dNoPart))))))))
theorem asc_up : ∀ c, c < 128 → (Unicode.upperOf c).length = 1 ∧ ∀ d ∈ Unicode.upperOf c, d < 128 := by decide +kernel
theorem upper_fit {n k : Nat} {x : Str} (h : Fit n k (.str x)) : Fit n k (.str (Txt.upper x)) := by
  obtain ⟨h1, h2⟩ := h.str
  have e : (Txt.upper x).cps.toList = (x.cps.toList.map Unicode.upperOf).flatten := by
    show (placed x fun _ c => Unicode.upperOf c).toList = _
    unfold placed
    rw [Array.toList_flatten]
    congr 1
    apply List.ext_getElem?
    intro i
    simp [Array.getElem?_toList]
    cases x.cps[i]? <;> simp
  refine fit_str ?_ fun c hc => ?_
  · show (Txt.upper x).cps.size ≤ n
    rw [← Array.length_toList, e, List.length_flatten, List.map_map]
    have : ∀ l : List Nat, (∀ c ∈ l, c < 128) → (l.map (List.length ∘ Unicode.upperOf)).sum = l.length := by
      intro l
      induction l with
      | nil => intro _; rfl
      | cons c l ih =>
        intro hl
        rw [List.map_cons, List.sum_cons, ih fun d hd => hl d (by simp [hd])]
        have := (asc_up c (hl c (by simp))).1
        simp only [Function.comp, List.length_cons]
        omega
    rw [this _ h2, Array.length_toList]
    exact h1
  · rw [e] at hc
    obtain ⟨l, hl, hc⟩ := List.mem_flatten.mp hc
    obtain ⟨d, hd, rfl⟩ := List.mem_map.mp hl
    exact (asc_up d (h2 d hd)).2 c hc
theorem cutS_fit {n k : Nat} {x : Str} {lo hi : Option Int} (h : Fit n k (.str x)) : Fit n k (.str (cutS x lo hi)) := by
  obtain ⟨h1, h2⟩ := h.str
  refine fit_str ?_ fun c hc => ?_
  · show (cutS x lo hi).cps.size ≤ n
    unfold cutS
    rw [List.size_toArray, List.length_take, List.length_drop, Array.length_toList]
    have : x.cps.size ≤ n := h1
    omega
  · unfold cutS at hc
    exact h2 c (List.mem_of_mem_drop (List.mem_of_mem_take (by simpa using hc)))
theorem intStr_fit {n k : Nat} {i : Int} (h1 : -(2 ^ n : Int) ≤ i) (h2 : i ≤ 2 ^ n) : Fit (n + 2) k (.str (toString i)) := by
  have dig : ∀ m : Nat, m ≤ 2 ^ n → (Nat.toDigits 10 m).length ≤ n + 1 := fun m hm => by
    refine (Nat.length_toDigits_le_iff (by decide) (by omega)).mpr ?_
    have h1 : 2 ^ n < 10 ^ (n + 1) := by
      have a : 2 ^ n ≤ 10 ^ n := Nat.pow_le_pow_left (by decide) n
      have b : 10 ^ n < 10 ^ (n + 1) := Nat.pow_lt_pow_right (by decide) (by omega)
      omega
    omega
  have asc : ∀ m : Nat, ∀ c ∈ Nat.toDigits 10 m, c.toNat < 128 := fun m c hc => by
    have := Nat.isDigit_of_mem_toDigits (by decide) (by decide) hc
    have hb : c.val ≤ 57 := by
      have h := this
      simp only [Char.isDigit, Bool.and_eq_true, decide_eq_true_eq] at h
      exact h.2
    have : c.val.toNat ≤ 57 := by exact_mod_cast hb
    show c.val.toNat < 128
    omega
  have two : ((2 ^ n : Nat) : Int) = 2 ^ n := by norm_cast
  have key : (toString i : String).toList.length ≤ n + 2 ∧ ∀ c ∈ (toString i : String).toList, c.toNat < 128 := by
    show i.repr.toList.length ≤ n + 2 ∧ ∀ c ∈ i.repr.toList, c.toNat < 128
    rw [Int.repr_eq_if]
    split
    · rw [Nat.toList_repr]
      exact ⟨by have := dig i.toNat (by omega); omega, asc _⟩
    · rw [String.toList_append, Nat.toList_repr]
      refine ⟨by have := dig (-i).toNat (by omega); simp; omega, fun c hc => ?_⟩
      rcases List.mem_append.mp hc with hc | hc
      · have : c = '-' := by simpa using hc
        subst this; decide
      · exact asc _ c hc
  have e : (toString i : Str) = ⟨((toString i : String).toList.map Char.toNat).toArray⟩ := Str.ofString_eq_toList _
  rw [e]
  refine fit_str ?_ fun c hc => ?_
  · show (((toString i : String).toList.map Char.toNat).toArray).size ≤ n + 2
    rw [List.size_toArray, List.length_map]
    exact key.1
  · have hc : c ∈ (toString i : String).toList.map Char.toNat := by simpa using hc
    obtain ⟨d, hd, rfl⟩ := List.mem_map.mp hc
    exact key.2 d hd
end Li

set_option Elab.async false
set_option linter.all false
set_option maxRecDepth 100000
set_option maxHeartbeats 2000000
namespace Li
open PySem PySem.Spec PyProof.Rows L2
variable [Tbl]
theorem cut_to {ds : List D} {k : Nat} : cut ds none (some (k : Int)) = ds.take k := by
  unfold cut
  rw [HT.sIx_none, HT.sIx_nat, List.drop_zero, Nat.sub_zero]
  by_cases h : k ≤ ds.length
  · rw [Nat.min_eq_left h]
  · rw [Nat.min_eq_right (by omega), List.take_of_length_le (Nat.le_refl _), List.take_of_length_le (by omega)]
theorem cut_from {ds : List D} {k : Nat} : cut ds (some (k : Int)) none = ds.drop k := by
  unfold cut
  rw [HT.sIx_none, HT.sIx_nat]
  by_cases h : k ≤ ds.length
  · rw [Nat.min_eq_left h, List.take_of_length_le (by rw [List.length_drop]; omega)]
  · rw [Nat.min_eq_right (by omega), List.drop_eq_nil_of_le (by omega), List.drop_eq_nil_of_le (by omega), List.take_nil]
theorem bent_near {a : Addr} {n k : Nat} {v : D} {μ : MS} {Q : DK} (hf : Fit n k v) (hn : 100 ≤ n) (hn2 : n ≤ 1000) (q : ∀ μ' d, Vats a μ μ' → Fit (n + 2) (k + 2) d → Q d μ') :
    ∀ (N : DPS) μ1, Vats a μ μ1 → t__bent_near { nx := N, rt := Q } [some (.ref a), some v, none, none, none] μ1 := by
  intro N μ1 v1
  refine ⟨a, 1, rfl, by decide, by decide, v1.vat, fun μ2 d1 v2 h1 => ?_⟩
  refine ⟨a, 1, rfl, by decide, by decide, v2.vat, fun μ3 d2 v3 h2 => ?_⟩
  have v13 := (v1.trans v2).trans v3
  have h1 : Fit (n + 2) (k + 2) d1 := h1.mono (by omega) (by omega)
  have h2 : Fit (n + 2) (k + 2) d2 := h2.mono (by omega) (by omega)
  have fin : ∀ xs : List D, (∀ d ∈ xs, Fit (n + 2) (k + 2) d) → xs ≠ [] → xs.length ≤ 1000 → (dRet (dCall sp__law_some (dCons (dVar 0) (dCons (dVar 2) dNil)))) { nx := fun _ _ => False, rt := Q } [some (.ref a), some v, some (.lst xs), none, none] μ3 := fun xs hx h0 hl =>
    ⟨a, xs, rfl, v13.vat, h0, hl, fun μ4 d v4 hd => q μ4 d (v13.trans v4) (hx d hd)⟩
  have two : ∀ d ∈ [d1, d2], Fit (n + 2) (k + 2) d := by simp only [List.mem_cons, List.not_mem_nil, or_false]; rintro d (rfl | rfl) <;> assumption
  have hs : (7 : Nat) ≤ sizeLine := by rw [sizeLine_eq]; decide
  have pw : (2 : Int) ^ (n + 2) = 4 * 2 ^ n := by rw [Int.pow_add]; omega
  have p1 : (1 : Int) ≤ 2 ^ n := by have := two_mono (Nat.zero_le n); simpa using this
  cases v with
  | str x =>
    have hx : Fit (n + 2) (k + 2) (.str x) := hf.mono (by omega) (by omega)
    refine ⟨by have := hf.str.1; rw [sizeLine_eq]; omega, by have := hf.str.1; omega, ?_⟩
    refine ⟨by rw [sizeLine_eq]; simp, fin _ (fun d hd => ?_) (by simp) (by simp)⟩
    rcases List.mem_append.mp hd with hd | hd
    · exact two d hd
    · simp only [List.mem_cons, List.not_mem_nil, or_false] at hd
      rcases hd with rfl | rfl | rfl | rfl | rfl | rfl | rfl
      · exact fit_lit
      · exact fit_lit
      · exact fit_lit
      · exact fit_lit
      · exact cutS_fit hx
      · exact upper_fit hx
      · exact fit_lit
  | int i =>
    have hi := hf.int
    refine ⟨?_, mulOk_l (by decide) (by decide), by rw [sizeLine_eq]; simp, fin _ (fun d hd => ?_) (by simp) (by simp)⟩
    · have : i.natAbs ≤ 2 ^ n := by
        have two : ((2 ^ n : Nat) : Int) = 2 ^ n := by norm_cast
        omega
      have h3 : i.natAbs < 2 ^ 1001 := Nat.lt_of_le_of_lt this (Nat.pow_lt_pow_right (by decide) (by omega))
      by_cases h0 : i.natAbs = 0
      · rw [h0]; decide
      · exact Nat.lt_of_lt_of_le ((Nat.log2_lt h0).mpr h3) (by decide)
    rcases List.mem_append.mp hd with hd | hd
    · exact two d hd
    · simp only [List.mem_cons, List.not_mem_nil, or_false] at hd
      rcases hd with rfl | rfl | rfl | rfl | rfl
      · exact fit_int (by omega) (by omega)
      · exact fit_int (by omega) (by omega)
      · exact fit_bl
      · exact intStr_fit hi.1 hi.2
      · exact fit_int (by omega) (by omega)
  | bl b =>
    refine ⟨by rw [sizeLine_eq]; simp, fin _ (fun d hd => ?_) (by simp) (by simp)⟩
    rcases List.mem_append.mp hd with hd | hd
    · exact two d hd
    · simp only [List.mem_cons, List.not_mem_nil, or_false] at hd
      rcases hd with rfl | rfl | rfl | rfl | rfl
      · cases b <;> exact fit_int (by simp [b2i]; omega) (by simp [b2i]; omega)
      · cases b <;> exact fit_int (by simp [b2i]; omega) (by simp [b2i]; omega)
      · exact fit_bl
      · cases b
        · exact fit_lit (x := "False")
        · exact fit_lit (x := "True")
      · cases b <;> exact fit_int (by simp [b2i]; omega) (by simp [b2i]; omega)
  | non => exact fin _ two (by simp) (by simp)
  | tup ds => exact fin _ two (by simp) (by simp)
  | lst ds => exact fin _ two (by simp) (by simp)
  | _ => exact absurd hf.f (by simp [fit])
theorem bent_parts {a : Addr} {n k K : Nat} {es : List D} {μ : MS} {Q : DK} (hK : (D.tup es).dep < K + 1) (hf : Fit n k (.tup es)) (h0 : es ≠ []) (hn : 100 ≤ n) (hn2 : n ≤ 1000) (hk2 : k ≤ 20) (q : ∀ μ' d, Vats a μ μ' → Fit (n + 2) (k + 2) d → Q d μ') :
    ∀ (N : DPS) μ1, Vats a μ μ1 → t__bent_parts (spK__law_bent K) { nx := N, rt := Q } [some (.ref a), some (.tup es), none, none, none] μ1 := by
  intro N μ1 v1
  obtain ⟨hl, he⟩ := hf.tup
  have hk : 1 ≤ k := by have := hf.d; simp only [D.dep] at this; omega
  have hp : 0 < es.length := List.length_pos_iff.mpr h0
  have hs : sizeLine = 16777216 := sizeLine_eq
  refine ⟨a, es.length, rfl, v1.vat, by omega, by omega, fun μ2 at_ v2 a0 a1 => ?_⟩
  obtain ⟨j, rfl⟩ : ∃ j : Nat, at_ = j := ⟨at_.toNat, by omega⟩
  have hj : j < es.length := by omega
  refine ⟨a, 9, rfl, v2.vat, by decide, by decide, fun μ3 way v3 w0 w1 => ?_⟩
  have v13 := (v1.trans v2).trans v3
  have put : ∀ (xs : List D) μ4, Vats a μ μ4 → xs.length ≤ n + 2 → (∀ d ∈ xs, Fit (n + 2) (k + 1) d) → Q (.tup xs) μ4 := fun xs μ4 v4 h1 h2 => q μ4 _ v4 (fit_tup h1 h2)
  have sub : ∀ d ∈ es, Fit (n + 2) (k + 1) d := fun d hd => (he d hd).mono (by omega) (by omega)
  refine ⟨(dat_int _).eqv (dat_int _), bcase_of (fun _ => ?_) fun _ => ?_⟩
  · show (cut es none (some (j : Int))).length + (cut es (some ((j : Int) + 1)) none).length ≤ sizeLine ∧ Q (.tup (cut es none (some (j : Int)) ++ cut es (some ((j : Int) + 1)) none)) μ3
    rw [show (j : Int) + 1 = ((j + 1 : Nat) : Int) by omega, cut_to, cut_from]
    refine ⟨by rw [List.length_take, List.length_drop]; omega, put _ _ v13 (by rw [List.length_append, List.length_take, List.length_drop]; omega) fun d hd => ?_⟩
    rcases List.mem_append.mp hd with hd | hd
    · exact sub d (List.mem_of_mem_take hd)
    · exact sub d (List.mem_of_mem_drop hd)
  refine ⟨(dat_int _).eqv (dat_int _), bcase_of (fun _ => ?_) fun _ => ?_⟩
  · show (cut es none (some ((j : Int) + 1))).length + (cut es (some (j : Int)) none).length ≤ sizeLine ∧ Q (.tup (cut es none (some ((j : Int) + 1)) ++ cut es (some (j : Int)) none)) μ3
    rw [show (j : Int) + 1 = ((j + 1 : Nat) : Int) by omega, cut_to, cut_from]
    refine ⟨by rw [List.length_take, List.length_drop]; omega, put _ _ v13 (by rw [List.length_append, List.length_take, List.length_drop]; omega) fun d hd => ?_⟩
    rcases List.mem_append.mp hd with hd | hd
    · exact sub d (List.mem_of_mem_take hd)
    · exact sub d (List.mem_of_mem_drop hd)
  refine ⟨(dat_int _).eqv (dat_int _), bcase_of (fun _ => ?_) fun _ => ?_⟩
  · exact put _ _ v13 (by rw [List.length_reverse]; omega) fun d hd => sub d (List.mem_reverse.mp hd)
  refine ⟨(dat_int _).eqv (dat_int _), bcase_of (fun _ => ?_) fun _ => ?_⟩
  · exact q μ3 _ v13 (fit_lst (by omega) sub)
  · refine getK_some (d := es[j]) (atI_nat (List.getElem?_eq_getElem hj)) ?_
    have hm : es[j] ∈ es := List.getElem_mem hj
    refine ⟨a, n, k - 1, es[j], rfl, ?_, he _ hm, hn, hn2, by omega, v13.vat, fun μ4 d v4 hd => ?_⟩
    · have := deps_mem (ds := es) (n := D.deps es) (Nat.le_refl _) _ hm
      simp only [D.dep] at hK
      omega
    · show (cut es none (some (j : Int))).length + 1 ≤ sizeLine ∧ ((cut es none (some (j : Int)) ++ [d]).length + (cut es (some ((j : Int) + 1)) none).length ≤ sizeLine ∧ Q (.tup (cut es none (some (j : Int)) ++ [d] ++ cut es (some ((j : Int) + 1)) none)) μ4)
      rw [show (j : Int) + 1 = ((j + 1 : Nat) : Int) by omega, cut_to, cut_from]
      refine ⟨by rw [List.length_take]; omega, by rw [List.length_append, List.length_take, List.length_drop]; simp; omega, put _ _ (v13.trans v4) (by simp only [List.length_append, List.length_take, List.length_drop, List.length_cons, List.length_nil]; omega) fun e hd2 => ?_⟩
      rcases List.mem_append.mp hd2 with hd2 | hd2
      · rcases List.mem_append.mp hd2 with hd2 | hd2
        · exact sub e (List.mem_of_mem_take hd2)
        · rw [List.mem_singleton.mp hd2]; exact hd.mono (Nat.le_refl _) (by omega)
      · exact sub e (List.mem_of_mem_drop hd2)
theorem pure__law_bent (K : Nat) (ds : List D) (μ : MS) (Q : DK) (Ed : DXK) (h : spK__law_bent (K + 1) ds μ Q Ed) : t__law_bent (spK__law_bent K) Ed { nx := fun _ μ => Q .non μ, rt := Q } (dstart nm__law_bent ds) μ := by
  obtain ⟨a, n, k, v, rfl, hK, hf, hn, hn2, hk2, hv, q⟩ := h
  have near := bent_near hf hn hn2 q
  have dv : Dat v := hf.dat (by omega)
  cases v with
  | tup es =>
    refine ⟨dv.eqv dat_nil, bcase_of (fun h => ?_) fun h => ?_⟩
    · exact near _ μ (Vats.refl hv)
    · have h0 : es ≠ [] := fun z => by subst z; exact absurd h (by decide +kernel)
      refine ⟨a, 7, rfl, hv, by decide, by decide, fun μ1 r v1 _ _ => ⟨(dat_int _).eqv (dat_int _), bcase_of (fun _ => ?_) fun _ => ?_⟩⟩
      · exact near _ μ1 v1
      · exact bent_parts hK hf h0 hn hn2 hk2 q _ μ1 v1
  | non => exact near _ μ (Vats.refl hv)
  | bl b => exact near _ μ (Vats.refl hv)
  | int b => exact near _ μ (Vats.refl hv)
  | str b => exact near _ μ (Vats.refl hv)
  | lst b => exact near _ μ (Vats.refl hv)
  | _ => exact absurd hf.f (by simp [fit])
end Li

set_option Elab.async false
set_option linter.all false
set_option maxRecDepth 100000
set_option maxHeartbeats 2000000
/-! The checks of the laws. -/
namespace Li
open PySem PySem.Spec PyProof.Rows L2
variable [Tbl] [cC : Cls]
def countS (v : D) (w : Str) : Nat := match v with
  | .tup [_, .tup ss] => countD w ss
  | _ => 0
def sp__law_is_whole : DSp := sp_is_whole
def sp__law_truly : DSp := fun ds μ Q E => ∃ f d : Bool, ds = [.bl f, .bl d] ∧ Q (.bl (deq (.bl f) (.bl d))) μ
def sp__law_pieces_in : DSp := fun ds μ Q E => ∃ v, ds = [v] ∧ Dat v ∧ isScript v = true ∧ Q (.int (piecesD v : Nat)) μ
def sp__law_count : DSp := fun ds μ Q E => ∃ v w, ds = [v, .str w] ∧ Dat (.str w) ∧ Dat v ∧ isScript v = true ∧ Q (.int (countS v w : Nat)) μ
def sp__law_lowest : DSp := fun ds μ Q E => ∃ a b : Int, ds = [.int a, .int b] ∧ DivOk b ∧ Q (.tup [.int (a / (Int.gcd a b : Nat)), .int (b / (Int.gcd a b : Nat))]) μ
def sp__law_is_fraction : DSp := fun ds μ Q E => ∃ v most, ds = [v, .int most] ∧ Dat v ∧ most < 2 ^ 1000 ∧ Q (.bl (isFrac v 0 most most)) μ
def sp__law_is_fuses : DSp := fun ds μ Q E => ∃ v, ds = [v] ∧ Dat v ∧ Q (.bl (isFuses v)) μ
def sp__law_is_step : DSp := fun ds μ Q E => ∃ p v, ds = [.int p, v] ∧ Dat v ∧ Q (.bl (isStep p v)) μ
def sp__law_is_script : DSp := fun ds μ Q E => ∃ v, ds = [v] ∧ Dat v ∧ Q (.bl (isScript v)) μ
def sp__law_is_fact : DSp := fun ds μ Q E => ∃ s v n k, ds = [s, v] ∧ Dat s ∧ isScript s = true ∧ Fit n k v ∧ n ≤ 130 ∧ k ≤ 20 ∧ Q (.bl (isFact s v)) μ
abbrev nm__law_is_whole : List Str := ["value", "low", "high"]
abbrev ps__law_is_whole : List Str := ["value", "low", "high"]
def t__law_is_whole (Ed : DXK) : DTS := (dRet (dAndV (dCB kIsi (dCons (dVar 0) (dCons (dC (.ty "int")) dNil))) (dAndV (dNotV (dCB kIsi (dCons (dVar 0) (dCons (dC (.ty "bool")) dNil)))) (dChain kLe kLe (dVar 1) (dVar 0) (dVar 2)))))
abbrev nm__law_truly : List Str := ["found", "due"]
abbrev ps__law_truly : List Str := ["found", "due"]
def t__law_truly (Ed : DXK) : DTS := (dRet (dAndV (dCB kIsi (dCons (dVar 0) (dCons (dC (.ty "bool")) dNil))) (dBin kEq (dVar 0) (dVar 1))))
abbrev nm__law_pieces_in : List Str := ["script", "step"]
abbrev ps__law_pieces_in : List Str := ["script"]
def t__law_pieces_in (Ed : DXK) : DTS := (dRet (dBin kAdd (dCB kLen (dCons (dBin kIx (dVar 0) (dC (.int 0))) dNil)) (dCB kLen (dCons (dLc (dSeqI (dBin kIx (dVar 0) (dC (.int 1)))) (dName 1) (dTest (dBin kEq (dBin kIx (dVar 1) (dC (.int 0))) (dC (.str "spot")))) (dVar 1) [1]) dNil))))
abbrev nm__law_count : List Str := ["script", "word", "step"]
abbrev ps__law_count : List Str := ["script", "word"]
def t__law_count (Ed : DXK) : DTS := (dRet (dCB kLen (dCons (dLc (dSeqI (dBin kIx (dVar 0) (dC (.int 1)))) (dName 2) (dTest (dBin kEq (dBin kIx (dVar 2) (dC (.int 0))) (dVar 1))) (dVar 2) [2]) dNil)))
abbrev nm__law_lowest : List Str := ["top", "below", "big", "small"]
abbrev ps__law_lowest : List Str := ["top", "below"]
def t__law_lowest (Ed : DXK) : DTS := (dSeq (dPar 2 3 (dCons (dCB kAbs (dCons (dVar 1) dNil)) (dCons (dCB kAbs (dCons (dVar 0) dNil)) dNil))) (dSeq (dWhile (dTest (dBin kGt (dVar 3) (dC (.int 0)))) (dPar 2 3 (dCons (dVar 3) (dCons (dBin kMod (dCB kInt (dCons (dVar 2) dNil)) (dVar 3)) dNil)))) (dSeq (dAsg (dIf (dTest (dBin kGt (dVar 1) (dC (.int 0)))) (dVar 2) (dNeg (dVar 2))) (dName 2)) (dRet (dTup (dCons (dBin kDiv (dVar 0) (dVar 2)) (dCons (dBin kDiv (dVar 1) (dVar 2)) dNil)))))))
abbrev nm__law_is_fraction : List Str := ["value", "most"]
abbrev ps__law_is_fraction : List Str := ["value", "most"]
def t__law_is_fraction (Ed : DXK) : DTS := (dSeq (dIfS (dOr (dNot (dTest (dCB kIsi (dCons (dVar 0) (dCons (dC (.ty "tuple")) dNil))))) (dTest (dBin kNe (dCB kLen (dCons (dVar 0) dNil)) (dC (.int 2))))) (dRet (dC (.bl false))) dNext) (dSeq (dIfS (dOr (dNot (dTest (dCall sp__law_is_whole (dCons (dBin kIx (dVar 0) (dC (.int 0))) (dCons (dC (.int 0)) (dCons (dVar 1) dNil)))))) (dNot (dTest (dCall sp__law_is_whole (dCons (dBin kIx (dVar 0) (dC (.int 1))) (dCons (dC (.int 1)) (dCons (dVar 1) dNil))))))) (dRet (dC (.bl false))) dNext) (dRet (dBin kEq (dCall sp__law_lowest (dCons (dBin kIx (dVar 0) (dC (.int 0))) (dCons (dBin kIx (dVar 0) (dC (.int 1))) dNil))) (dVar 0)))))
abbrev nm__law_is_fuses : List Str := ["value", "fuse"]
abbrev ps__law_is_fuses : List Str := ["value"]
def t__law_is_fuses (Ed : DXK) : DTS := (dSeq (dIfS (dOr (dNot (dTest (dCB kIsi (dCons (dVar 0) (dCons (dC (.ty "tuple")) dNil))))) (dTest (dBin kNotIn (dCB kLen (dCons (dVar 0) dNil)) (dTup (dCons (dC (.int 1)) (dCons (dC (.int 2)) (dCons (dC (.int 3)) dNil))))))) (dRet (dC (.bl false))) dNext) (dRet (dBin kEq (dLc (dSeqI (dVar 0)) (dName 1) (dNot (dTest (dCall sp__law_is_whole (dCons (dVar 1) (dCons (dC (.int 1)) (dCons (dC (.int 60)) dNil)))))) (dVar 1) [1]) (dLst dNil))))
abbrev nm__law_is_step : List Str := ["many", "value"]
abbrev ps__law_is_step : List Str := ["many", "value"]
def t__law_is_step (Ed : DXK) : DTS := (dSeq (dIfS (dOr (dNot (dTest (dCB kIsi (dCons (dVar 1) (dCons (dC (.ty "tuple")) dNil))))) (dOr (dTest (dBin kNotIn (dCB kLen (dCons (dVar 1) dNil)) (dTup (dCons (dC (.int 1)) (dCons (dC (.int 2)) (dCons (dC (.int 3)) dNil)))))) (dNot (dTest (dCB kIsi (dCons (dBin kIx (dVar 1) (dC (.int 0))) (dCons (dC (.ty "str")) dNil))))))) (dRet (dC (.bl false))) dNext) (dSeq (dIfS (dTest (dBin kEq (dCB kLen (dCons (dVar 1) dNil)) (dC (.int 1)))) (dRet (dBin kIn (dBin kIx (dVar 1) (dC (.int 0))) (dTup (dCons (dC (.str "first")) (dCons (dC (.str "ring")) dNil))))) dNext) (dSeq (dIfS (dNot (dTest (dCall sp__law_is_whole (dCons (dBin kIx (dVar 1) (dC (.int 1))) (dCons (dC (.int 0)) (dCons (dBin kSub (dVar 0) (dC (.int 1))) dNil)))))) (dRet (dC (.bl false))) dNext) (dSeq (dIfS (dTest (dBin kEq (dCB kLen (dCons (dVar 1) dNil)) (dC (.int 2)))) (dRet (dBin kIn (dBin kIx (dVar 1) (dC (.int 0))) (dTup (dCons (dC (.str "spot")) (dCons (dC (.str "quench")) (dCons (dC (.str "wait")) dNil)))))) dNext) (dRet (dAndV (dBin kEq (dBin kIx (dVar 1) (dC (.int 0))) (dC (.str "light"))) (dAndV (dCB kIsi (dCons (dBin kIx (dVar 1) (dC (.int 2))) (dCons (dC (.ty "str")) dNil))) (dBin kIn (dBin kIx (dVar 1) (dC (.int 2))) (dTup (dCons (dC (.str "left")) (dCons (dC (.str "right")) dNil)))))))))))
abbrev nm__law_is_script : List Str := ["value", "many", "step"]
abbrev ps__law_is_script : List Str := ["value"]
def t__law_is_script (Ed : DXK) : DTS := (dSeq (dIfS (dOr (dNot (dTest (dCB kIsi (dCons (dVar 0) (dCons (dC (.ty "tuple")) dNil))))) (dOr (dTest (dBin kNe (dCB kLen (dCons (dVar 0) dNil)) (dC (.int 2)))) (dNot (dTest (dCall sp__law_is_fuses (dCons (dBin kIx (dVar 0) (dC (.int 0))) dNil)))))) (dRet (dC (.bl false))) dNext) (dSeq (dIfS (dOr (dNot (dTest (dCB kIsi (dCons (dBin kIx (dVar 0) (dC (.int 1))) (dCons (dC (.ty "tuple")) dNil))))) (dTest (dBin kGt (dCB kLen (dCons (dBin kIx (dVar 0) (dC (.int 1))) dNil)) (dC (.int 12))))) (dRet (dC (.bl false))) dNext) (dSeq (dAsg (dCB kLen (dCons (dBin kIx (dVar 0) (dC (.int 0))) dNil)) (dName 1)) (dSeq (dFor (dSeqI (dBin kIx (dVar 0) (dC (.int 1)))) (dName 2) (dForget [2] (dSeq (dIfS (dNot (dTest (dCall sp__law_is_step (dCons (dVar 1) (dCons (dVar 2) dNil))))) (dRet (dC (.bl false))) dNext) (dAsg (dBin kAdd (dVar 1) (dCB kInt (dCons (dBin kEq (dBin kIx (dVar 2) (dC (.int 0))) (dC (.str "spot"))) dNil))) (dName 1))))) (dRet (dBin kLe (dVar 1) (dBin kAdd (dCB kLen (dCons (dBin kIx (dVar 0) (dC (.int 0))) dNil)) (dC (.int 2)))))))))
abbrev nm__law_is_fact : List Str := ["script", "value"]
abbrev ps__law_is_fact : List Str := ["script", "value"]
def t__law_is_fact (Ed : DXK) : DTS := (dSeq (dIfS (dOr (dNot (dTest (dCB kIsi (dCons (dVar 1) (dCons (dC (.ty "tuple")) dNil))))) (dOr (dTest (dBin kNotIn (dCB kLen (dCons (dVar 1) dNil)) (dTup (dCons (dC (.int 2)) (dCons (dC (.int 3)) dNil))))) (dNot (dTest (dCB kIsi (dCons (dBin kIx (dVar 1) (dC (.int 0))) (dCons (dC (.ty "str")) dNil))))))) (dRet (dC (.bl false))) dNext) (dSeq (dIfS (dTest (dBin kEq (dCB kLen (dCons (dVar 1) dNil)) (dC (.int 2)))) (dRet (dAndV (dBin kIn (dBin kIx (dVar 1) (dC (.int 0))) (dTup (dCons (dC (.str "out")) (dCons (dC (.str "left")) dNil)))) (dCall sp__law_is_whole (dCons (dBin kIx (dVar 1) (dC (.int 1))) (dCons (dC (.int 0)) (dCons (dBin kSub (dCall sp__law_pieces_in (dCons (dVar 0) dNil)) (dC (.int 1))) dNil)))))) dNext) (dSeq (dIfS (dTest (dBin kNotIn (dBin kIx (dVar 1) (dC (.int 0))) (dTup (dCons (dC (.str "before")) (dCons (dC (.str "at")) (dCons (dC (.str "after")) dNil)))))) (dRet (dC (.bl false))) dNext) (dSeq (dIfS (dNot (dTest (dCall sp__law_is_whole (dCons (dBin kIx (dVar 1) (dC (.int 1))) (dCons (dC (.int 0)) (dCons (dBin kSub (dCall sp__law_count (dCons (dVar 0) (dCons (dC (.str "ring")) dNil))) (dC (.int 1))) dNil)))))) (dRet (dC (.bl false))) dNext) (dRet (dAndV (dCall sp__law_is_fraction (dCons (dBin kIx (dVar 1) (dC (.int 2))) (dCons (dBin kPow (dC (.int 10)) (dC (.int 40))) dNil))) (dBin kLe (dBin kIx (dBin kIx (dVar 1) (dC (.int 2))) (dC (.int 0))) (dBin kMul (dC (.int 1000)) (dBin kIx (dBin kIx (dVar 1) (dC (.int 2))) (dC (.int 1)))))))))))
theorem pure__law_is_whole (ds : List D) (μ : MS) (Q : DK) (Ed : DXK) (h : sp__law_is_whole ds μ Q Ed) : t__law_is_whole Ed { nx := fun _ μ => Q .non μ, rt := Q } (dstart nm__law_is_whole ds) μ := pure_is_whole ds μ Q Ed h
theorem pure__law_truly (ds : List D) (μ : MS) (Q : DK) (Ed : DXK) (h : sp__law_truly ds μ Q Ed) : t__law_truly Ed { nx := fun _ μ => Q .non μ, rt := Q } (dstart nm__law_truly ds) μ := by
  obtain ⟨f, d, rfl, q⟩ := h
  exact ⟨⟨rfl, rfl, by simp [D.dep], by simp [D.dep]⟩, q⟩
theorem pure__law_pieces_in (ds : List D) (μ : MS) (Q : DK) (Ed : DXK) (h : sp__law_pieces_in ds μ Q Ed) : t__law_pieces_in Ed { nx := fun _ μ => Q .non μ, rt := Q } (dstart nm__law_pieces_in ds) μ := by
  obtain ⟨v, rfl, hv, hs, q⟩ := h
  obtain ⟨fs, ss, rfl, h1, h2, h3, h4⟩ := script_parts hs
  have hh := heads_of h3 (hv.mem _ (by simp)).mem
  refine lcL_filter (isHead "spot") ss _ (fun d hd A Z a z => ?_) q
  obtain ⟨hd, w, r, rfl⟩ := hh d hd
  exact getK_some (at0 _ _) ⟨(hd.mem _ (by simp)).eqv ⟨by decide +kernel, by decide +kernel⟩, bcase_of (fun h => a ((deq_s _ _).symm.trans h)) fun h => z ((deq_s _ _).symm.trans h)⟩
theorem pure__law_count (ds : List D) (μ : MS) (Q : DK) (Ed : DXK) (h : sp__law_count ds μ Q Ed) : t__law_count Ed { nx := fun _ μ => Q .non μ, rt := Q } (dstart nm__law_count ds) μ := by
  obtain ⟨v, w0, rfl, hw, hv, hs, q⟩ := h
  obtain ⟨fs, ss, rfl, h1, h2, h3, h4⟩ := script_parts hs
  have hh := heads_of h3 (hv.mem _ (by simp)).mem
  refine lcL_filter (isHead w0) ss _ (fun d hd A Z a z => ?_) q
  obtain ⟨hd, w, r, rfl⟩ := hh d hd
  exact getK_some (at0 _ _) ⟨(hd.mem _ (by simp)).eqv hw, bcase_of (fun h => a ((deq_s _ _).symm.trans h)) fun h => z ((deq_s _ _).symm.trans h)⟩
theorem divOk_le {g b : Int} (h : DivOk b) (h0 : 0 < g) (h1 : g ≤ b) : DivOk g := by
  obtain ⟨hb, hl⟩ := h
  refine ⟨h0, ?_⟩
  have h2 : b.natAbs < 2 ^ 9000 := (Nat.log2_lt (by omega)).mp hl
  exact (Nat.log2_lt (by omega)).mpr (by omega)
theorem pure__law_lowest (ds : List D) (μ : MS) (Q : DK) (Ed : DXK) (h : sp__law_lowest ds μ Q Ed) : t__law_lowest Ed { nx := fun _ μ => Q .non μ, rt := Q } (dstart nm__law_lowest ds) μ := by
  obtain ⟨a, b, rfl, hb, q⟩ := h
  refine ⟨fun m ρ μ' => ∃ x y : Nat, m = y ∧ μ' = μ ∧ ρ = [some (.int a), some (.int b), some (.int x), some (.int y)] ∧ Nat.gcd x y = Int.gcd a b, ⟨_, b.natAbs, a.natAbs, rfl, rfl, rfl, Nat.gcd_comm _ _⟩, ?_⟩
  rintro m ρ μ' ⟨x, y, rfl, rfl, rfl, e⟩
  refine bcase_of (fun h1 => ?_) fun h1 => ?_
  · have h1 : (0 : Int) < m := of_decide_eq_true h1
    refine ⟨fun ρ μ'' => ∃ x y' : Nat, y' < m ∧ μ'' = μ' ∧ ρ = [some (.int a), some (.int b), some (.int x), some (.int y')] ∧ Nat.gcd x y' = Int.gcd a b, fun ρ' μ'' ⟨x', y', h, h2, h3, h4⟩ => ⟨y', h, x', y', rfl, h2, h3, h4⟩, ?_⟩
    refine ⟨h1, m, x % m, Nat.mod_lt _ (by omega), rfl, rfl, ?_⟩
    rw [← e, Nat.gcd_comm x m, Nat.gcd_rec m x, Nat.gcd_comm]
  · have h1 : ¬ (0 : Int) < m := of_decide_eq_false h1
    have : m = 0 := by omega
    subst this
    rw [Nat.gcd_zero_right] at e
    subst e
    have hg : 0 < Int.gcd a b := Int.gcd_pos_of_ne_zero_right _ (by have := hb.1; omega)
    have hle : (Int.gcd a b : Int) ≤ b := Int.le_of_dvd hb.1 (Int.gcd_dvd_right ..)
    have hd : DivOk (Int.gcd a b : Nat) := divOk_le hb (by omega) hle
    refine bcase_t (decide_eq_true hb.1) ⟨hd, hd, q⟩
end Li

set_option Elab.async false
set_option linter.all false
set_option maxRecDepth 100000
set_option maxHeartbeats 2000000
/-! The checks of the laws, held to the program's. -/
namespace Li
open PySem PySem.Spec PyProof.Rows L2
variable [Tbl] [cC : Cls]
theorem lowest_same {a b : Int} (hb : 1 ≤ b) : deq (.tup [.int (a / (Int.gcd a b : Nat)), .int (b / (Int.gcd a b : Nat))]) (.tup [.int a, .int b]) = decide (Int.gcd a b = 1) := by
  have hg : 0 < Int.gcd a b := Int.gcd_pos_of_ne_zero_right _ (by omega)
  simp only [deq, deqs]
  by_cases h : Int.gcd a b = 1
  · rw [h]; simp
  · have : b / (Int.gcd a b : Nat) ≠ b := by
      intro e
      have h2 : (2 : Int) ≤ (Int.gcd a b : Nat) := by omega
      have h3 : b / (Int.gcd a b : Nat) < b := Int.ediv_lt_self_of_pos_of_ne_one (by omega) (by omega)
      omega
    simp [h, this]
theorem pure__law_is_fraction (ds : List D) (μ : MS) (Q : DK) (Ed : DXK) (h : sp__law_is_fraction ds μ Q Ed) : t__law_is_fraction Ed { nx := fun _ μ => Q .non μ, rt := Q } (dstart nm__law_is_fraction ds) μ := by
  obtain ⟨v, most, rfl, hv, hm, q⟩ := h
  cases v with
  | tup es =>
    refine ⟨Dat.eqv (dat_int _) (dat_int _), ?_⟩
    match es, hv, q with
    | [], hv, q => exact bcase_t (len_ne (by decide)) q
    | [x], hv, q => exact bcase_t (len_ne (by simp)) q
    | x :: y :: z :: r, hv, q => exact bcase_t (len_ne (by simp only [List.length_cons]; omega)) q
    | [x, y], hv, q =>
      have e2 : isFrac (.tup [x, y]) 0 most most = (isWhole x 0 most && isWhole y 1 most && gcd1 x y) := rfl
      rw [e2] at q
      refine bcase_f (by simp [deq]) ⟨x, 0, most, rfl, hv.mem x (by simp), ?_⟩
      refine bcase_of (fun h => ?_) fun h => ?_
      · have hx : isWhole x 0 most = false := by simpa using h
        rw [hx] at q
        exact q
      · have hx : isWhole x 0 most = true := by simpa using h
        refine ⟨y, 1, most, rfl, hv.mem y (by simp), ?_⟩
        rw [hx] at q
        refine bcase_of (fun h => ?_) fun h => ?_
        · have hy : isWhole y 1 most = false := by simpa using h
          rw [hy] at q
          exact q
        · have hy : isWhole y 1 most = true := by simpa using h
          obtain ⟨a, rfl⟩ := isWhole_int hx
          obtain ⟨b, rfl⟩ := isWhole_int hy
          have hy' : 1 ≤ b ∧ b ≤ most := by simpa [isWhole] using hy
          have hb : DivOk b := ⟨by omega, by
            have h1 : b.natAbs < 2 ^ 1000 := by omega
            exact Nat.lt_of_lt_of_le ((Nat.log2_lt (by omega)).mpr h1) (by decide)⟩
          refine ⟨a, b, rfl, hb, ⟨by simp [D.lay, D.lays], hv.1, by simp [D.dep, D.deps], by have := hv.2; omega⟩, ?_⟩
          rw [lowest_same hy'.1]
          rw [hy] at q
          exact q
  | non => exact q
  | bl b => exact q
  | str b => exact q
  | int b => exact q
  | lst b => exact q
  | _ => exact absurd hv.1 (by simp [D.lay])
theorem any_int (i : Int) (js : List Int) : ((js.map D.int).any fun z => deq z (.int i)) = decide (i ∈ js) := by
  induction js with
  | nil => simp
  | cons j js ih =>
    simp only [List.map_cons, List.any_cons, ih, deq_i, List.mem_cons]
    by_cases h : i = j
    · subst h; simp
    · simp [h, Ne.symm h]
theorem nin_t {i : Int} {js : List Int} (h : (true != ((js.map D.int).any fun z => deq z (.int i))) = true) : i ∉ js := by
  rw [any_int] at h; simpa using h
theorem nin_f {i : Int} {js : List Int} (h : (true != ((js.map D.int).any fun z => deq z (.int i))) = false) : i ∈ js := by
  rw [any_int] at h; simpa using h
theorem pure__law_is_fuses (ds : List D) (μ : MS) (Q : DK) (Ed : DXK) (h : sp__law_is_fuses ds μ Q Ed) : t__law_is_fuses Ed { nx := fun _ μ => Q .non μ, rt := Q } (dstart nm__law_is_fuses ds) μ := by
  obtain ⟨v, rfl, hv, q⟩ := h
  cases v with
  | tup es =>
    refine ⟨(dat_int _).eqv ⟨by decide, by decide⟩, bcase_of (fun h => ?_) fun h => ?_⟩
    · have h := nin_t (js := [1, 2, 3]) h
      simp only [List.mem_cons, List.not_mem_nil, or_false, not_or] at h
      have e : isFuses (.tup es) = false := by
        show (decide (1 ≤ es.length) && decide (es.length ≤ 3) && _) = _
        by_cases h1 : 1 ≤ es.length
        · have h3 : ¬ es.length ≤ 3 := by omega
          rw [decide_eq_false h3, Bool.and_false]; rfl
        · rw [decide_eq_false h1]; rfl
      rw [e] at q
      exact q
    · have h := nin_f (js := [1, 2, 3]) h
      simp only [List.mem_cons, List.not_mem_nil, or_false] at h
      have e : isFuses (.tup es) = es.all fun d => isWhole d 1 60 := by
        show (decide (1 ≤ es.length) && decide (es.length ≤ 3) && _) = _
        rw [decide_eq_true (by omega : 1 ≤ es.length), decide_eq_true (by omega : es.length ≤ 3)]; rfl
      rw [e] at q
      refine lcL_filter (fun d => !isWhole d 1 60) es _ (fun d hd A Z a z => ⟨d, 1, 60, rfl, hv.mem d hd, bcase_of a z⟩) ?_
      rw [← deq_filter] at q
      exact ⟨Dat.list fun d hd => hv.mem d (List.mem_filter.mp hd).1, q⟩
  | non => exact q
  | bl b => exact q
  | int b => exact q
  | str b => exact q
  | lst b => exact q
  | _ => exact absurd hv.1 (by simp [D.lay])
theorem isStep_long {p : Int} {x y z u : D} {r : List D} : isStep p (.tup (x :: y :: z :: u :: r)) = false := by
  unfold isStep; split <;> first | rfl | (rename_i h; cases h)
theorem isStep_ns {p : Int} {x : D} {r : List D} (h : ∀ w, x ≠ .str w) : isStep p (.tup (x :: r)) = false := by
  unfold isStep; split <;> first | rfl | (rename_i e; cases e; exact absurd rfl (h _))
theorem pure__law_is_step (ds : List D) (μ : MS) (Q : DK) (Ed : DXK) (h : sp__law_is_step ds μ Q Ed) : t__law_is_step Ed { nx := fun _ μ => Q .non μ, rt := Q } (dstart nm__law_is_step ds) μ := by
  obtain ⟨p, v, rfl, hv, q⟩ := h
  cases v with
  | tup es =>
    refine ⟨(dat_int _).eqv ⟨by decide, by decide⟩, bcase_of (fun h => ?_) fun h => ?_⟩
    · have h := nin_t (js := [1, 2, 3]) h
      simp only [List.mem_cons, List.not_mem_nil, or_false, not_or] at h
      have e : isStep p (.tup es) = false := by
        match es, h with
        | [], _ => rfl
        | [x], h => simp at h
        | [x, y], h => simp at h
        | [x, y, z], h => simp at h
        | x :: y :: z :: u :: r, _ => exact isStep_long
      rw [e] at q
      exact q
    · have h := nin_f (js := [1, 2, 3]) h
      simp only [List.mem_cons, List.not_mem_nil, or_false] at h
      match es, h, hv, q with
      | [], h, hv, q => simp at h
      | x :: y :: z :: u :: r, h, hv, q => simp only [List.length_cons] at h; omega
      | [x], _, hv, q =>
        have hx : Dat x := hv.mem x (by simp)
        cases x with
        | str w =>
          refine ⟨(dat_int _).eqv (dat_int _), bcase_t (by rw [deq_i]; exact decide_eq_true rfl) ⟨hx.eqv ⟨by decide +kernel, by decide +kernel⟩, ?_⟩⟩
          have e : isStep p (.tup [.str w]) = (false != ((([("first" : Str), "ring"]).map D.str).any fun z => deq z (.str w))) := by rw [any_str, Bool.false_bne]; rfl
          rw [e] at q
          exact q
        | non => exact q
        | bl b => exact q
        | int b => exact q
        | tup b => exact q
        | lst b => exact q
        | _ => exact absurd hx.1 (by simp [D.lay])
      | [x, y], _, hv, q =>
        have hx : Dat x := hv.mem x (by simp)
        cases x with
        | str w =>
          have e : isStep p (.tup [.str w, y]) = (decide (w ∈ (["spot", "quench", "wait"] : List Str)) && isWhole y 0 (p - 1)) := rfl
          refine ⟨(dat_int _).eqv (dat_int _), bcase_f (by rw [deq_i]; exact decide_eq_false (by simp)) ⟨y, 0, p - 1, rfl, hv.mem y (by simp), bcase_of (fun h2 => ?_) fun h2 => ?_⟩⟩
          · have h2 : isWhole y 0 (p - 1) = false := by simpa using h2
            rw [e, h2, Bool.and_false] at q
            exact q
          · have h2 : isWhole y 0 (p - 1) = true := by simpa using h2
            rw [e, h2, Bool.and_true] at q
            refine ⟨(dat_int _).eqv (dat_int _), bcase_t (by rw [deq_i]; exact decide_eq_true rfl) ⟨hx.eqv ⟨by decide +kernel, by decide +kernel⟩, ?_⟩⟩
            have e3 : decide (w ∈ (["spot", "quench", "wait"] : List Str)) = (false != ((([("spot" : Str), "quench", "wait"]).map D.str).any fun z => deq z (.str w))) := by rw [any_str, Bool.false_bne]
            rw [e3] at q
            exact q
        | non => exact q
        | bl b => exact q
        | int b => exact q
        | tup b => exact q
        | lst b => exact q
        | _ => exact absurd hx.1 (by simp [D.lay])
      | [x, y, z], _, hv, q =>
        have hx : Dat x := hv.mem x (by simp)
        cases x with
        | str w =>
          have e : isStep p (.tup [.str w, y, z]) = (decide (w = "light") && isWhole y 0 (p - 1) && isWord z sides) := rfl
          refine ⟨(dat_int _).eqv (dat_int _), bcase_f (by rw [deq_i]; exact decide_eq_false (by simp)) ⟨y, 0, p - 1, rfl, hv.mem y (by simp), bcase_of (fun h2 => ?_) fun h2 => ?_⟩⟩
          · have h2 : isWhole y 0 (p - 1) = false := by simpa using h2
            rw [e, h2, Bool.and_false] at q
            exact q
          · have h2 : isWhole y 0 (p - 1) = true := by simpa using h2
            rw [e, h2, Bool.and_true] at q
            refine ⟨(dat_int _).eqv (dat_int _), bcase_f (by rw [deq_i]; exact decide_eq_false (by simp)) ⟨hx.eqv ⟨by decide +kernel, by decide +kernel⟩, bcase_of (fun h3 => ?_) fun h3 => ?_⟩⟩
            · have h3 : w = "light" := of_decide_eq_true ((deq_s _ _).symm.trans h3)
              rw [decide_eq_true h3, Bool.true_and] at q
              have hz : Dat z := hv.mem z (by simp)
              cases z with
              | str u =>
                refine ⟨hz.eqv ⟨by decide +kernel, by decide +kernel⟩, ?_⟩
                rw [show isWord (.str u) sides = (false != (sides.any fun z => deq z (.str u))) by rw [Bool.false_bne]; rfl] at q
                exact q
              | non => exact q
              | bl b => exact q
              | int b => exact q
              | tup b => exact q
              | lst b => exact q
              | _ => exact absurd hz.1 (by simp [D.lay])
            · have h3 : w ≠ "light" := of_decide_eq_false ((deq_s _ _).symm.trans h3)
              rw [decide_eq_false h3] at q
              have e4 : deq (.str w) (.str "light") = false := (deq_s _ _).trans (decide_eq_false h3)
              exact q
        | non => exact q
        | bl b => exact q
        | int b => exact q
        | tup b => exact q
        | lst b => exact q
        | _ => exact absurd hx.1 (by simp [D.lay])
  | non => exact q
  | bl b => exact q
  | int b => exact q
  | str b => exact q
  | lst b => exact q
  | _ => exact absurd hv.1 (by simp [D.lay])
end Li

set_option Elab.async false
set_option linter.all false
set_option maxRecDepth 100000
set_option maxHeartbeats 2000000
namespace Li
open PySem PySem.Spec PyProof.Rows L2
variable [Tbl] [cC : Cls]
theorem countD_cons (w : Str) (d : D) (r : List D) : countD w (d :: r) = (if isHead w d then 1 else 0) + countD w r := by
  unfold countD
  rw [List.filter_cons]
  split <;> simp <;> omega
theorem pure__law_is_script (ds : List D) (μ : MS) (Q : DK) (Ed : DXK) (h : sp__law_is_script ds μ Q Ed) : t__law_is_script Ed { nx := fun _ μ => Q .non μ, rt := Q } (dstart nm__law_is_script ds) μ := by
  obtain ⟨v, rfl, hv, q⟩ := h
  cases v with
  | tup es =>
    refine ⟨(dat_int _).eqv (dat_int _), ?_⟩
    match es, hv, q with
    | [], hv, q => exact bcase_t (len_ne (by decide)) q
    | [x], hv, q => exact bcase_t (len_ne (by simp)) q
    | x :: y :: z :: r, hv, q =>
      have e : isScript (.tup (x :: y :: z :: r)) = false := by unfold isScript; split <;> first | rfl | (rename_i h; cases h)
      rw [e] at q
      exact bcase_t (len_ne (by simp only [List.length_cons]; omega)) q
    | [x, y], hv, q =>
      refine bcase_f (by simp [deq]) ⟨x, rfl, hv.mem x (by simp), bcase_of (fun h => ?_) fun h => ?_⟩
      · have h : isFuses x = false := by simpa using h
        have e : isScript (.tup [x, y]) = false := by
          unfold isScript
          split
          · rename_i h'; cases h'; rw [h]; rfl
          · rfl
        rw [e] at q
        exact q
      · have h : isFuses x = true := by simpa using h
        have hy : Dat y := hv.mem y (by simp)
        cases x with
        | tup fs =>
          cases y with
          | tup ss =>
            refine bcase_of (fun h2 => ?_) fun h2 => ?_
            · have h2 : ¬ ss.length ≤ 12 := by have h2 : (12 : Int) < ss.length := of_decide_eq_true h2; omega
              have e : isScript (.tup [.tup fs, .tup ss]) = false := by
                show (isFuses (.tup fs) && decide (ss.length ≤ 12) && _ && _) = _
                rw [decide_eq_false h2, Bool.and_false]; rfl
              rw [e] at q
              exact q
            · have h2 : ss.length ≤ 12 := by have h2 : ¬ (12 : Int) < ss.length := of_decide_eq_false h2; omega
              have e : isScript (.tup [.tup fs, .tup ss]) = (areSteps fs.length ss && decide (countD "spot" ss ≤ 2)) := by
                show (isFuses (.tup fs) && decide (ss.length ≤ 12) && _ && _) = _
                rw [decide_eq_true h2, h]; rfl
              rw [e] at q
              refine forL_ind (fun r ρ μ' => ∃ c : Nat, μ' = μ ∧ areSteps ((fs.length : Int) + c) r = areSteps fs.length ss ∧ c + countD "spot" r = countD "spot" ss ∧ (∀ d ∈ r, Dat d) ∧ ρ = [some (.tup [.tup fs, .tup ss]), some (.int ((fs.length : Int) + c)), none]) ?_ ?_ _ _ _ ⟨0, rfl, by simp, by simp, hy.mem, by simp; rfl⟩
              · rintro d r ρ μ' N ⟨c, rfl, e1, e2, hd, rfl⟩ hN
                have hd0 := hd d (by simp)
                refine ⟨_, d, rfl, hd0, bcase_of (fun h3 => ?_) fun h3 => ?_⟩
                · have h3 : isStep ((fs.length : Int) + c) d = false := by simpa using h3
                  have e3 : areSteps fs.length ss = false := by rw [← e1]; simp [areSteps, h3]
                  rw [e3] at q
                  exact q
                · have h3 : isStep ((fs.length : Int) + c) d = true := by simpa using h3
                  obtain ⟨w, r', rfl⟩ := headed_of h3
                  have e4 : areSteps ((fs.length : Int) + c) (.tup (.str w :: r') :: r) = areSteps (if isHead "spot" (.tup (.str w :: r')) then (fs.length : Int) + c + 1 else (fs.length : Int) + c) r := by simp only [areSteps, h3, Bool.true_and]
                  rw [e4] at e1
                  rw [countD_cons] at e2
                  refine getK_some (at0 _ _) ⟨(hd0.mem _ (by simp)).eqv ⟨by decide +kernel, by decide +kernel⟩, ?_⟩
                  have es : deq (.str w) (.str "spot") = isHead "spot" (.tup (.str w :: r')) := deq_s _ _
                  cases hh : isHead "spot" (.tup (.str w :: r')) with
                  | true =>
                    rw [hh] at e1 e2 es
                    have n := hN [some (.tup [.tup fs, .tup ss]), some (.int ((fs.length : Int) + (c + 1 : Nat))), none] μ' ⟨c + 1, rfl, by rw [← e1]; congr 1, by simp at e2; omega, fun d hd' => hd d (List.mem_cons_of_mem _ hd'), rfl⟩
                    rw [show (fs.length : Int) + (c + 1 : Nat) = (fs.length : Int) + c + 1 by omega] at n
                    show N (([some (.tup [.tup fs, .tup ss]), some (.int ((fs.length : Int) + c + (if deq (.str w) (.str "spot") then 1 else 0))), none])) μ'
                    rw [es]
                    exact n
                  | false =>
                    rw [hh] at e1 e2 es
                    have n := hN [some (.tup [.tup fs, .tup ss]), some (.int ((fs.length : Int) + c)), none] μ' ⟨c, rfl, by rw [← e1]; rfl, by simp at e2; omega, fun d hd' => hd d (List.mem_cons_of_mem _ hd'), rfl⟩
                    show N (([some (.tup [.tup fs, .tup ss]), some (.int ((fs.length : Int) + c + (if deq (.str w) (.str "spot") then 1 else 0))), none])) μ'
                    rw [es]
                    simpa using n
              · rintro ρ μ' ⟨c, rfl, e1, e2, _, rfl⟩
                have e1 : areSteps fs.length ss = true := by rw [← e1]; rfl
                have e2 : countD "spot" ss = c := by rw [← e2]; simp [countD]
                have e5 : decide (countD "spot" ss ≤ 2) = decide ((fs.length : Int) + c ≤ (fs.length : Int) + 2) := decide_eq_decide.mpr (by omega)
                rw [e1, Bool.true_and, e5] at q
                exact q
          | non => exact q
          | bl b => exact q
          | int b => exact q
          | str b => exact q
          | lst b => exact q
          | _ => exact absurd hy.1 (by simp [D.lay])
        | _ => cases h
  | non => exact q
  | bl b => exact q
  | int b => exact q
  | str b => exact q
  | lst b => exact q
  | _ => exact absurd hv.1 (by simp [D.lay])
theorem isFact_long {s x y z u : D} {r : List D} : isFact s (.tup (x :: y :: z :: u :: r)) = false := by
  unfold isFact; split <;> first | rfl | (rename_i h; cases h)
theorem isWhole_cut {v : D} {lo a b : Int} (h : ∀ i, v = .int i → i ≤ a) (hab : a ≤ b) : isWhole v lo b = isWhole v lo a := by
  cases v with
  | int i =>
    have := h i rfl
    show (decide (lo ≤ i) && decide (i ≤ b)) = (decide (lo ≤ i) && decide (i ≤ a))
    rw [decide_eq_true (by omega : i ≤ b), decide_eq_true this]
  | _ => rfl
theorem frac_ints {v : D} {lo hi be : Int} (h : isFrac v lo hi be = true) : ∃ a b, v = .tup [.int a, .int b] := by
  unfold isFrac at h
  split at h
  · rename_i x y
    have h1 : isWhole x lo hi = true := by cases e : isWhole x lo hi with
      | true => rfl
      | false => rw [e] at h; cases h
    have h2 : isWhole y 1 be = true := by cases e : isWhole y 1 be with
      | true => rfl
      | false => rw [e, Bool.and_false] at h; cases h
    obtain ⟨a, rfl⟩ := isWhole_int h1
    obtain ⟨b, rfl⟩ := isWhole_int h2
    exact ⟨a, b, rfl⟩
  · cases h
theorem isTime_cut {n k : Nat} {v : D} (h : Fit n k v) (hn : n ≤ 130) : isTime v = (isFrac v 0 (10 ^ 40) (10 ^ 40) && tupUnder v) := by
  have hb : (2 ^ n : Int) ≤ 10 ^ 40 := Int.le_trans (two_mono hn) (by decide)
  unfold isTime
  congr 1
  unfold isFrac
  split
  · rename_i x y
    obtain ⟨_, he⟩ := h.tup
    have hx : ∀ i, x = .int i → i ≤ 10 ^ 40 := fun i e => by subst e; have := (he (.int i) (by simp)).int; omega
    have hy : ∀ i, y = .int i → i ≤ 10 ^ 40 := fun i e => by subst e; have := (he (.int i) (by simp)).int; omega
    rw [isWhole_cut hx (by decide), isWhole_cut hy (by decide)]
  · rfl
theorem pure__law_is_fact (ds : List D) (μ : MS) (Q : DK) (Ed : DXK) (h : sp__law_is_fact ds μ Q Ed) : t__law_is_fact Ed { nx := fun _ μ => Q .non μ, rt := Q } (dstart nm__law_is_fact ds) μ := by
  obtain ⟨s, v, n, k, rfl, hsd, hs, hf, hn, hk, q⟩ := h
  have hv : Dat v := hf.dat (by omega)
  cases v with
  | tup es =>
    refine ⟨(dat_int _).eqv ⟨by decide, by decide⟩, bcase_of (fun h => ?_) fun h => ?_⟩
    · have h := nin_t (js := [2, 3]) h
      simp only [List.mem_cons, List.not_mem_nil, or_false, not_or] at h
      have e : isFact s (.tup es) = false := by
        match es, h with
        | [], _ => rfl
        | [x], h => unfold isFact; split <;> first | rfl | (rename_i h; cases h)
        | [x, y], h => simp at h
        | [x, y, z], h => simp at h
        | x :: y :: z :: u :: r, _ => exact isFact_long
      rw [e] at q
      exact q
    · have h := nin_f (js := [2, 3]) h
      simp only [List.mem_cons, List.not_mem_nil, or_false] at h
      match es, h, hv, q, hf with
      | [], h, hv, q, hf => simp at h
      | [x], h, hv, q, hf => simp at h
      | x :: y :: z :: u :: r, h, hv, q, hf => simp only [List.length_cons] at h; omega
      | [x, y], _, hv, q, hf =>
        have hx : Dat x := hv.mem x (by simp)
        cases x with
        | str w =>
          have e : isFact s (.tup [.str w, y]) = (decide (w ∈ (["out", "left"] : List Str)) && isWhole y 0 (piecesD s - 1)) := rfl
          rw [e] at q
          refine ⟨(dat_int _).eqv (dat_int _), bcase_t (by rw [deq_i]; exact decide_eq_true rfl) ⟨hx.eqv ⟨by decide +kernel, by decide +kernel⟩, bcase_of (fun h2 => ?_) fun h2 => ?_⟩⟩
          · have h2 := in_t (ws := ["out", "left"]) h2
            rw [decide_eq_true h2, Bool.true_and] at q
            exact ⟨s, rfl, hsd, hs, y, 0, _, rfl, hv.mem y (by simp), q⟩
          · have h2' := in_f (ws := ["out", "left"]) h2
            rw [decide_eq_false h2'] at q
            exact q
        | non => exact q
        | bl b => exact q
        | int b => exact q
        | tup b => exact q
        | lst b => exact q
        | _ => exact absurd hx.1 (by simp [D.lay])
      | [x, y, z], _, hv, q, hf =>
        have hx : Dat x := hv.mem x (by simp)
        cases x with
        | str w =>
          have hz : Dat z := hv.mem z (by simp)
          have hzf := hf.tup.2 z (by simp)
          have e : isFact s (.tup [.str w, y, z]) = (decide (w ∈ (["before", "at", "after"] : List Str)) && isWhole y 0 (ringsD s - 1) && isTime z) := rfl
          rw [e] at q
          refine ⟨(dat_int _).eqv (dat_int _), bcase_f (by rw [deq_i]; exact decide_eq_false (by simp)) ⟨hx.eqv ⟨by decide +kernel, by decide +kernel⟩, bcase_of (fun h2 => ?_) fun h2 => ?_⟩⟩
          · have h2 := notIn_t (ws := ["before", "at", "after"]) h2
            rw [decide_eq_false h2] at q
            exact q
          · have h2 := notIn_f (ws := ["before", "at", "after"]) h2
            rw [decide_eq_true h2, Bool.true_and] at q
            refine ⟨s, "ring", rfl, ⟨by decide +kernel, by simp [D.dep]⟩, hsd, hs, y, 0, _, rfl, hv.mem y (by simp), bcase_of (fun h3 => ?_) fun h3 => ?_⟩
            · have h3 : isWhole y 0 ((countS s "ring" : Nat) - 1) = false := by simpa using h3
              rw [show (ringsD s : Nat) = countS s "ring" from rfl, h3] at q
              exact q
            · have h3 : isWhole y 0 ((countS s "ring" : Nat) - 1) = true := by simpa using h3
              rw [show (ringsD s : Nat) = countS s "ring" from rfl, h3, Bool.true_and, isTime_cut hzf hn] at q
              refine ⟨⟨by decide, by decide, by decide⟩, z, 10 ^ 40, rfl, hz, by decide, bcase_of (fun h4 => ?_) fun h4 => ?_⟩
              · rw [h4, Bool.true_and] at q
                obtain ⟨a, b, rfl⟩ := frac_ints h4
                exact ⟨mulOk_l (by decide) (by decide), q⟩
              · rw [h4] at q
                exact q
        | non => exact q
        | bl b => exact q
        | int b => exact q
        | tup b => exact q
        | lst b => exact q
        | _ => exact absurd hx.1 (by simp [D.lay])
  | non => exact q
  | bl b => exact q
  | int b => exact q
  | str b => exact q
  | lst b => exact q
  | _ => exact absurd hv.1 (by simp [D.lay])
end Li

set_option Elab.async false
set_option linter.all false
set_option maxRecDepth 100000
set_option maxHeartbeats 2000000
/-! The law of scripts and facts. -/
namespace Li
open PySem PySem.Spec PyProof.Rows L2
variable [Tbl] [cC : Cls]
def sp__law_fate : DSp := fun _ _ _ _ => False
def sp__law_fact : DSp := fun ds μ Q E => ∃ a s, ds = [.ref a, s, .non] ∧ IsVat μ a ∧ Dat s ∧ isScript s = true ∧ ∀ μ' v, Vats a μ μ' → Fit 100 3 v → Q v μ'
def sp__law_judged : DSp := fun ds μ Q E => ∃ v, ds = [v] ∧ Dat v ∧ ∀ μ', (∀ b, μ b ≠ none → μ' b = μ b) → Q (.bl true) μ'
def sp_law : DSp := fun ds μ Q E => ∃ ns, ds = [.scr ns] ∧ ∀ μ', Q (.bl true) μ'
abbrev nm__law_fact : List Str := ["vat", "script", "minutes_so", "at", "many", "ring_so", "fate", "time_so"]
abbrev ps__law_fact : List Str := ["vat", "script", "minutes_so"]
def t__law_fact (Ed : DXK) : DTS := (dSeq (dPar 3 4 (dCons (dCall sp__law_under (dCons (dVar 0) (dCons (dCall sp__law_pieces_in (dCons (dVar 1) dNil)) dNil))) (dCons (dCall sp__law_count (dCons (dVar 1) (dCons (dC (.str "ring")) dNil))) dNil))) (dSeq (dIfS (dOr (dTest (dBin kEq (dVar 4) (dC (.int 0)))) (dTest (dBin kEq (dCall sp__law_under (dCons (dVar 0) (dCons (dC (.int 4)) dNil))) (dC (.int 0))))) (dRet (dTup (dCons (dCall sp__law_some (dCons (dVar 0) (dCons (dLst (dCons (dC (.str "out")) (dCons (dC (.str "left")) dNil))) dNil))) (dCons (dVar 3) dNil)))) dNext) (dSeq (dAsg (dCall sp__law_under (dCons (dVar 0) (dCons (dVar 4) dNil))) (dName 5)) (dSeq (dAsg (dIf (dTest (dBin kIsNot (dVar 2) (dC .non))) (dCall sp__law_fate (dCons (dVar 1) (dCons (dVar 2) dNil))) (dC .non)) (dName 6)) (dSeq (dAsg (dCall sp__law_lowest (dCons (dCall sp__law_under (dCons (dVar 0) (dCons (dC (.int 120)) dNil))) (dCons (dCall sp__law_some (dCons (dVar 0) (dCons (dLst (dCons (dC (.int 1)) (dCons (dC (.int 2)) (dCons (dC (.int 4)) dNil)))) dNil))) dNil))) (dName 7)) (dSeq (dIfS (dAnd (dTest (dBin kIsNot (dVar 6) (dC .non))) (dTest (dBin kGt (dCall sp__law_under (dCons (dVar 0) (dCons (dC (.int 3)) dNil))) (dC (.int 0))))) (dAsg (dBin kIx (dBin kIx (dVar 6) (dC (.int 0))) (dVar 5)) (dName 7)) dNext) (dRet (dTup (dCons (dCall sp__law_some (dCons (dVar 0) (dCons (dLst (dCons (dC (.str "before")) (dCons (dC (.str "at")) (dCons (dC (.str "after")) dNil)))) dNil))) (dCons (dVar 5) (dCons (dVar 7) dNil)))))))))))
abbrev nm__law_judged : List Str := ["value", "good", "row"]
abbrev ps__law_judged : List Str := ["value"]
def t__law_judged (Ed : DXK) : DTS := (dSeq (dAsg (dCall sp__law_is_script (dCons (dVar 0) dNil)) (dName 1)) (dSeq (dIfS (dNot (dTest (dCall sp__law_truly (dCons (dCall sp_is_script (dCons (dVar 0) dNil)) (dCons (dVar 1) dNil))))) (dRet (dC (.bl false))) dNext) (dSeq (dIfS (dTest (dVar 1)) (dSeq (dAsg (dLst (dCons (dCallX sp_count_rings Ed (dCons (dVar 0) dNil)) (dCons (dCallX sp_count_spots Ed (dCons (dVar 0) dNil)) (dCons (dCallX sp_count_pieces Ed (dCons (dVar 0) dNil)) dNil)))) (dName 2)) (dRet (dBin kEq (dVar 2) (dLst (dCons (dCall sp__law_count (dCons (dVar 0) (dCons (dC (.str "ring")) dNil))) (dCons (dCall sp__law_count (dCons (dVar 0) (dCons (dC (.str "spot")) dNil))) (dCons (dCall sp__law_pieces_in (dCons (dVar 0) dNil)) dNil))))))) dNext) (dSeq (dAsg (dLstM (dCons (dErr fun Ed => (dCallX sp_count_rings Ed (dCons (dVar 0) dNil))) dNil)) (dName 2)) (dSeq (dDrop (dAppend (dVar 2) (dErr fun Ed => (dCallX sp_count_spots Ed (dCons (dVar 0) dNil))))) (dSeq (dDrop (dAppend (dVar 2) (dErr fun Ed => (dCallX sp_count_pieces Ed (dCons (dVar 0) dNil))))) (dSeq (dDrop (dAppend (dVar 2) (dErr fun Ed => (dCallX sp_is_fact Ed (dCons (dVar 0) (dCons (dC .non) dNil)))))) (dFrz 2 (dRet (dBin kEq (dVar 2) (dBin kRep (dLst (dCons (dC (.str "script value")) dNil)) (dC (.int 4)))))))))))))
abbrev nm_law : List Str := ["script", "k", "vat", "some", "spoilt", "wrong", "change", "spot", "ring", "rows", "value", "facts", "fact"]
abbrev ps_law : List Str := ["script"]
def t_law (Ed : DXK) : DTS := (dSeq (dFor (dRange1 (dCons (dCB kMax (dCons (dC (.int 4)) (dCons (dCB kMin (dCons (dC (.int 9)) (dCons (dCB kLen (dCons (dVar 0) dNil)) dNil))) dNil))) dNil)) (dName 1) (dForget [1, 2, 3, 6, 4, 5] (dSeq (dAsg (dCall sp__law_vat (dCons (dVar 0) (dCons (dVar 1) dNil))) (dName 2)) (dSeq (dAsg (dCall sp__law_script (dCons (dVar 2) (dCons (dC (.int 12)) (dCons (dC (.int 2)) dNil)))) (dName 3)) (dSeq (dPar 4 5 (dCons (dVar 3) (dCons (dCall sp__law_fact (dCons (dVar 2) (dCons (dVar 3) (dCons (dC .non) dNil)))) dNil))) (dSeq (dIfS (dNot (dTest (dCallX sp__law_judged Ed (dCons (dVar 3) dNil)))) (dRet (dC (.bl false))) dNext) (dSeq (dFor (dRange1 (dCons (dC (.int 12)) dNil)) (dName 6) (dForget [6] (dSeq (dAsg (dCall sp__law_bent (dCons (dVar 2) (dCons (dIf (dTest (dBin kEq (dBin kMod (dVar 6) (dC (.int 3))) (dC (.int 0)))) (dVar 3) (dVar 4)) dNil))) (dName 4)) (dSeq (dIfS (dNot (dTest (dCallX sp__law_judged Ed (dCons (dVar 4) dNil)))) (dRet (dC (.bl false))) dNext) (dSeq (dIfS (dNot (dTest (dCall sp__law_truly (dCons (dCallX sp_is_fact Ed (dCons (dVar 3) (dCons (dVar 5) dNil))) (dCons (dCall sp__law_is_fact (dCons (dVar 3) (dCons (dVar 5) dNil))) dNil))))) (dRet (dC (.bl false))) dNext) (dSeq (dAsg (dIf (dTest (dBin kEq (dBin kMod (dVar 6) (dC (.int 3))) (dC (.int 0)))) (dCall sp__law_fact (dCons (dVar 2) (dCons (dVar 3) (dCons (dC .non) dNil)))) (dVar 5)) (dName 5)) (dAsg (dCall sp__law_bent (dCons (dVar 2) (dCons (dVar 5) dNil))) (dName 5)))))))) (dIfS (dNot (dTest (dCallX sp__law_judged Ed (dCons (dCall sp__law_odd (dCons (dVar 2) (dCons (dC (.int 2)) dNil))) dNil)))) (dRet (dC (.bl false))) dNext)))))))) (dSeq (dAsg (dTup (dCons (dTup (dCons (dC (.str "spot")) (dCons (dC (.int 0)) dNil))) (dCons (dTup (dCons (dC (.str "ring")) dNil)) dNil))) (dGTup 2 (dGCons (dName 7) (dGCons (dName 8) dGNil)))) (dSeq (dAsg (dLstM (dCons (dTup (dCons (dTup (dCons (dC (.int 60)) dNil)) (dCons (dTup (dCons (dVar 7) (dCons (dVar 7) dNil))) dNil))) (dCons (dTup (dCons (dTup (dCons (dC (.int 60)) dNil)) (dCons (dTup (dCons (dVar 7) (dCons (dVar 7) (dCons (dVar 7) dNil)))) dNil))) dNil))) (dName 9)) (dSeq (dDrop (dAppend (dVar 9) (dTup (dCons (dTup (dCons (dC (.int 60)) dNil)) (dCons (dTup (dCons (dVar 7) (dCons (dTup (dCons (dC (.str "wait")) (dCons (dC (.int 1)) dNil))) dNil))) dNil))))) (dFrz 9 (dSeq (dAsg (dBin kAdd (dVar 9) (dLst (dCons (dTup (dCons (dTup (dCons (dC (.int 60)) dNil)) (dCons (dTup (dCons (dTup (dCons (dC (.str "wait")) (dCons (dC (.int 1)) dNil))) (dCons (dVar 7) dNil))) dNil))) (dCons (dTup (dCons (dTup (dCons (dC (.int 1)) (dCons (dC (.int 60)) (dCons (dC (.int 30)) dNil)))) (dCons (dBin kRep (dTup (dCons (dVar 8) dNil)) (dC (.int 12))) dNil))) dNil)))) (dName 9)) (dSeq (dAsg (dBin kAdd (dVar 9) (dLst (dCons (dTup (dCons (dTup (dCons (dC (.int 1)) (dCons (dC (.int 60)) (dCons (dC (.int 30)) dNil)))) (dCons (dBin kRep (dTup (dCons (dVar 8) dNil)) (dC (.int 13))) dNil))) (dCons (dTup (dCons (dTup (dCons (dC (.int 0)) dNil)) (dCons (dTup dNil) dNil))) (dCons (dTup (dCons (dBin kRep (dTup (dCons (dC (.int 1)) dNil)) (dC (.int 4))) (dCons (dTup dNil) dNil))) (dCons (dTup (dCons (dTup (dCons (dC (.bl true)) dNil)) (dCons (dTup dNil) dNil))) dNil)))))) (dName 9)) (dSeq (dIfS (dTest (dBin kNe (dLc (dSeqI (dVar 9)) (dName 10) (dNot (dTest (dCall sp__law_judged (dCons (dVar 10) dNil)))) (dVar 10) [10]) (dLst dNil))) (dRet (dC (.bl false))) dNext) (dSeq (dAsg (dTup (dCons (dTup (dCons (dC (.int 60)) dNil)) (dCons (dTup (dCons (dVar 7) (dCons (dVar 8) dNil))) dNil))) (dName 3)) (dSeq (dAsg (dLst (dCons (dTup (dCons (dC (.str "at")) (dCons (dC (.int 0)) (dCons (dTup (dCons (dC (.int 0)) (dCons (dC (.int 1)) dNil))) dNil)))) (dCons (dTup (dCons (dC (.str "at")) (dCons (dC (.int 0)) (dCons (dTup (dCons (dC (.int 1000)) (dCons (dC (.int 1)) dNil))) dNil)))) (dCons (dTup (dCons (dC (.str "at")) (dCons (dC (.int 0)) (dCons (dTup (dCons (dC (.int 1001)) (dCons (dC (.int 1)) dNil))) dNil)))) dNil)))) (dName 11)) (dSeq (dAsg (dBin kAdd (dVar 11) (dLst (dCons (dTup (dCons (dC (.str "at")) (dCons (dC (.int 0)) (dCons (dTup (dCons (dC (.int 2)) (dCons (dC (.int 4)) dNil))) dNil)))) (dCons (dTup (dCons (dC (.str "out")) (dCons (dC (.int 2)) dNil))) (dCons (dTup (dCons (dC (.str "left")) (dCons (dC (.int 1)) dNil))) dNil))))) (dName 11)) (dRet (dBin kEq (dLc (dSeqI (dVar 11)) (dName 12) dYes (dCall sp_is_fact (dCons (dVar 3) (dCons (dVar 12) dNil))) [12]) (dLst (dCons (dC (.bl true)) (dCons (dC (.bl true)) (dCons (dC (.bl false)) (dCons (dC (.bl false)) (dCons (dC (.bl false)) (dCons (dC (.bl true)) dNil))))))))))))))))))))
theorem pure__law_fact (ds : List D) (μ : MS) (Q : DK) (Ed : DXK) (h : sp__law_fact ds μ Q Ed) : t__law_fact Ed { nx := fun _ μ => Q .non μ, rt := Q } (dstart nm__law_fact ds) μ := by
  obtain ⟨a, s, rfl, hv, hd, hs, q⟩ := h
  obtain ⟨p1, p2, p3⟩ := script_pieces hs
  have big : (1000 : Int) ≤ 2 ^ 100 := by decide
  have fi : ∀ {k : Nat} {i : Int}, 0 ≤ i → i ≤ 1000 → Fit 100 k (.int i) := fun {k i} h1 h2 => fit_int (by omega) (by omega)
  refine ⟨s, rfl, hd, hs, a, piecesD s, rfl, hv, by omega, by omega, fun μ1 at_ v1 a0 a1 => ?_⟩
  refine ⟨s, "ring", rfl, ⟨by decide +kernel, by simp [D.dep]⟩, hd, hs, ?_⟩
  have pl : ∀ μ1, Vats a μ μ1 → (dRet (dTup (dCons (dCall sp__law_some (dCons (dVar 0) (dCons (dLst (dCons (dC (.str "out")) (dCons (dC (.str "left")) dNil))) dNil))) (dCons (dVar 3) dNil)))) { nx := fun _ _ => False, rt := Q } [some (.ref a), some s, some .non, some (.int at_), some (.int (countS s "ring" : Nat)), none, none, none] μ1 := fun μ1 v1 =>
    ⟨a, _, rfl, v1.vat, by simp, by simp, fun μ2 d v2 hd => q μ2 _ (v1.trans v2) ((fit_tup (k := 0) (by simp) fun e he => by
      simp only [List.mem_cons, List.not_mem_nil, or_false] at he hd
      rcases he with rfl | rfl
      · rcases hd with rfl | rfl <;> exact fit_lit
      · exact fi (by omega) (by omega)).mono (Nat.le_refl _) (by decide))⟩
  refine ⟨(dat_int _).eqv (dat_int _), bcase_of (fun _ => pl μ1 v1) fun h0 => ?_⟩
  have h0 : ¬ ((countS s "ring" : Nat) : Int) = 0 := by rw [deq_i] at h0; exact of_decide_eq_false h0
  have hr : countS s "ring" ≤ 12 := p3
  refine ⟨a, 4, rfl, v1.vat, by decide, by decide, fun μ2 r v2 _ _ => ⟨(dat_int _).eqv (dat_int _), bcase_of (fun _ => pl μ2 (v1.trans v2)) fun _ => ?_⟩⟩
  refine ⟨a, countS s "ring", rfl, v2.vat, by omega, by omega, fun μ3 ring v3 r0 r1 => ?_⟩
  refine ⟨a, 120, rfl, v3.vat, by decide, by decide, fun μ4 top v4 t0 t1 => ?_⟩
  refine ⟨a, _, rfl, v4.vat, by simp, by simp, fun μ5 d v5 hd => ?_⟩
  have v15 := (((v1.trans v2).trans v3).trans v4).trans v5
  obtain ⟨b, rfl, hb1, hb2⟩ : ∃ b : Int, d = .int b ∧ 1 ≤ b ∧ b ≤ 4 := by
    simp only [List.mem_cons, List.not_mem_nil, or_false] at hd
    rcases hd with rfl | rfl | rfl
    · exact ⟨1, rfl, by decide, by decide⟩
    · exact ⟨2, rfl, by decide, by decide⟩
    · exact ⟨4, rfl, by decide, by decide⟩
  refine ⟨top, b, rfl, divOk_small (by omega) (by omega), ?_⟩
  have hg : 0 < Int.gcd top b := Int.gcd_pos_of_ne_zero_right _ (by omega)
  have hd1 : 0 ≤ top / (Int.gcd top b : Nat) := Int.ediv_nonneg t0 (by omega)
  have hd2 : top / (Int.gcd top b : Nat) ≤ top := Int.ediv_le_self _ t0
  have hd3 : 0 ≤ b / (Int.gcd top b : Nat) := Int.ediv_nonneg (by omega) (by omega)
  have hd4 : b / (Int.gcd top b : Nat) ≤ b := Int.ediv_le_self _ (by omega)
  refine ⟨a, _, rfl, v15.vat, by simp, by simp, fun μ6 d v6 hd => q μ6 _ (v15.trans v6) ((fit_tup (k := 1) (by simp) fun e he => ?_).mono (Nat.le_refl _) (by decide))⟩
  simp only [List.mem_cons, List.not_mem_nil, or_false] at he hd
  rcases he with rfl | rfl | rfl
  · rcases hd with rfl | rfl | rfl <;> exact fit_lit
  · exact fi (by omega) (by omega)
  · refine fit_tup (k := 0) (by simp) fun e he => ?_
    simp only [List.mem_cons, List.not_mem_nil, or_false] at he
    rcases he with rfl | rfl
    · exact fi hd1 (by omega)
    · exact fi hd3 (by omega)
end Li

set_option Elab.async false
set_option linter.all false
set_option maxRecDepth 100000
set_option maxHeartbeats 2000000
namespace Li
open PySem PySem.Spec PyProof.Rows L2
variable [Tbl] [cC : Cls]
theorem deq_bl_self (b : Bool) : deq (.bl b) (.bl b) = true := by cases b <;> rfl
theorem deq_ints (a b c : Int) : deq (.lst [.int a, .int b, .int c]) (.lst [.int a, .int b, .int c]) = true := by simp [deq, deqs]
theorem mset_none {μ : MS} {a : Addr} (h : μ a = none) (x : Option MO) : mset (mset μ a x) a none = μ := by
  rw [mset_mset, ← h, mset_id]
theorem pure__law_judged (ds : List D) (μ : MS) (Q : DK) (Ed : DXK) (h : sp__law_judged ds μ Q Ed) : t__law_judged Ed { nx := fun _ μ => Q .non μ, rt := Q } (dstart nm__law_judged ds) μ := by
  obtain ⟨v, rfl, hv, q⟩ := h
  refine ⟨v, rfl, hv, ?_⟩
  refine ⟨v, rfl, hv, ⟨isScript v, isScript v, rfl, ?_⟩⟩
  refine bcase_f (by rw [deq_bl_self]; rfl) ?_
  have hvi : Dat v := hv
  refine bcase_of (fun h => ?_) fun h => ?_
  · have h : isScript v = true := h
    refine ⟨v, rfl, hv, fun _ => ?_, fun z => by rw [h] at z; cases z⟩
    refine ⟨v, rfl, hv, fun _ => ?_, fun z => by rw [h] at z; cases z⟩
    refine ⟨v, rfl, hv, fun _ => ?_, fun z => by rw [h] at z; cases z⟩
    refine ⟨v, "ring", rfl, ⟨by decide +kernel, by simp [D.dep]⟩, hv, h, ?_⟩
    refine ⟨v, "spot", rfl, ⟨by decide +kernel, by simp [D.dep]⟩, hv, h, ?_⟩
    refine ⟨v, rfl, hv, h, ?_⟩
    have ok3 : ∀ a b c : Int, okEq (.lst [.int a, .int b, .int c]) (.lst [.int a, .int b, .int c]) := fun a b c => ⟨by simp [D.lay, D.lays], by simp [D.lay, D.lays], by simp [D.dep, D.deps], by simp [D.dep, D.deps]⟩
    refine ⟨ok3 _ _ _, ?_⟩
    have e : deq (.lst [.int (ringsD v : Nat), .int (spotsD v : Nat), .int (piecesD v : Nat)]) (.lst [.int (countS v "ring" : Nat), .int (countS v "spot" : Nat), .int (piecesD v : Nat)]) = true := deq_ints _ _ _
    show Q (.bl (deq (.lst [.int (ringsD v : Nat), .int (spotsD v : Nat), .int (piecesD v : Nat)]) (.lst [.int (countS v "ring" : Nat), .int (countS v "spot" : Nat), .int (piecesD v : Nat)]))) μ
    rw [e]
    exact q μ fun b _ => rfl
  · have h : isScript v = false := h
    have no : ∀ {P : Prop}, isScript v = true → P := fun z => by rw [h] at z; cases z
    refine ⟨v, rfl, hv, fun z => no z, fun _ => ⟨rfl, .script, rfl, fun a ha => ?_⟩⟩
    have hs : sizeLine = 16777216 := sizeLine_eq
    refine refL_of mset_same ⟨v, rfl, hv, fun z => no z, fun _ => ⟨rfl, .script, rfl, refL_of mset_same ⟨by simp; omega, ?_⟩⟩⟩
    refine refL_of mset_same ⟨v, rfl, hv, fun z => no z, fun _ => ⟨rfl, .script, rfl, refL_of mset_same ⟨by simp; omega, ?_⟩⟩⟩
    refine refL_of mset_same ⟨v, .non, rfl, hv, fun z => no z, fun _ => ⟨rfl, .script, rfl, refL_of mset_same ⟨by simp; omega, ?_⟩⟩⟩
    refine refL_of mset_same ⟨⟨by decide, by decide, by decide⟩, ?_⟩
    refine ⟨⟨by decide +kernel, by decide +kernel, by decide +kernel, by decide +kernel⟩, ?_⟩
    have e : deq (.lst ([.str EC.script.nm] ++ [.str EC.script.nm] ++ [.str EC.script.nm] ++ [.str EC.script.nm])) (.lst (List.replicate (4 : Int).toNat [.str "script value"]).flatten) = true := by decide +kernel
    have fin : ∀ μ', (∀ b, μ b ≠ none → μ' b = μ b) → ∀ d, d = true → Q (.bl d) μ' := fun μ' hm d hd => by subst hd; exact q μ' hm
    refine fin _ (fun b hb => ?_) _ e
    have hba : b ≠ a := fun z => hb (by rw [z]; exact ha)
    simp only [mset_ne hba]
end Li

set_option Elab.async false
set_option linter.all false
set_option maxRecDepth 100000
set_option maxHeartbeats 2000000
namespace Li
open PySem PySem.Spec PyProof.Rows L2
variable [Tbl] [cC : Cls]
theorem isWhole_ok {i lo hi : Int} (h1 : lo ≤ i) (h2 : i ≤ hi) : isWhole (.int i) lo hi = true := by
  show (decide (lo ≤ i) && decide (i ≤ hi)) = true
  rw [decide_eq_true h1, decide_eq_true h2]; rfl
theorem act_isStep {s : Act} {p : Nat} (h : s.ok p) : isStep (p : Int) s.d = true := by
  cases s with
  | light q l =>
    have hq : q < p := h
    show (decide ((Str.ofString "light") = Str.ofString "light") && isWhole (.int q) 0 ((p : Int) - 1) && isWord (sideD l) sides) = true
    rw [decide_eq_true rfl, isWhole_ok (by omega) (by omega)]
    cases l <;> decide +kernel
  | spot q =>
    have hq : q < p := h
    show (decide ((Str.ofString "spot") ∈ (["spot", "quench", "wait"] : List Str)) && isWhole (.int q) 0 ((p : Int) - 1)) = true
    rw [isWhole_ok (by omega) (by omega)]
    decide +kernel
  | quench q =>
    have hq : q < p := h
    show (decide ((Str.ofString "quench") ∈ (["spot", "quench", "wait"] : List Str)) && isWhole (.int q) 0 ((p : Int) - 1)) = true
    rw [isWhole_ok (by omega) (by omega)]
    decide +kernel
  | wait q =>
    have hq : q < p := h
    show (decide ((Str.ofString "wait") ∈ (["spot", "quench", "wait"] : List Str)) && isWhole (.int q) 0 ((p : Int) - 1)) = true
    rw [isWhole_ok (by omega) (by omega)]
    decide +kernel
  | first => show decide ((Str.ofString "first") ∈ (["first", "ring"] : List Str)) = true; decide +kernel
  | ring => show decide ((Str.ofString "ring") ∈ (["first", "ring"] : List Str)) = true; decide +kernel
theorem act_isHead {s : Act} : isHead "spot" s.d = s.isSpot := by
  cases s with
  | light q l => show decide ((Str.ofString "light") = Str.ofString "spot") = false; decide +kernel
  | spot q => show decide ((Str.ofString "spot") = Str.ofString "spot") = true; decide +kernel
  | quench q => show decide ((Str.ofString "quench") = Str.ofString "spot") = false; decide +kernel
  | wait q => show decide ((Str.ofString "wait") = Str.ofString "spot") = false; decide +kernel
  | first => show decide ((Str.ofString "first") = Str.ofString "spot") = false; decide +kernel
  | ring => show decide ((Str.ofString "ring") = Str.ofString "spot") = false; decide +kernel
theorem acts_areSteps : ∀ {ss : List Act} {p : Nat}, stepsOk p ss → areSteps (p : Int) (ss.map Act.d) = true
  | [], _, _ => rfl
  | s :: ss, p, ⟨h1, h2⟩ => by
    have ih := acts_areSteps h2
    rw [List.map_cons]
    unfold areSteps
    rw [act_isStep h1, act_isHead, Bool.true_and]
    unfold Act.adds at ih
    cases h : s.isSpot with
    | true => rw [h] at ih; simpa using ih
    | false => rw [h] at ih; simpa using ih
theorem acts_count : ∀ ss : List Act, countD "spot" (ss.map Act.d) = spotsIn ss
  | [] => rfl
  | s :: ss => by
    rw [List.map_cons, countD_cons, act_isHead, acts_count ss]
    show _ = (List.map Act.adds (s :: ss)).sum
    rw [List.map_cons, List.sum_cons]
    rfl
theorem scr_isScript {s : Scr} (h : s.Ok) : isScript s.d = true := by
  show (isFuses (fusesD s.fuses) && decide ((s.steps.map Act.d).length ≤ 12) && areSteps (s.fuses.map natD).length (s.steps.map Act.d) && decide (countD "spot" (s.steps.map Act.d) ≤ 2)) = true
  have h1 : isFuses (fusesD s.fuses) = true := by
    show (decide (1 ≤ (s.fuses.map natD).length) && decide ((s.fuses.map natD).length ≤ 3) && (s.fuses.map natD).all fun d => isWhole d 1 60) = true
    rw [List.length_map, decide_eq_true h.f1, decide_eq_true h.f3]
    simp only [Bool.true_and, List.all_map, List.all_eq_true]
    intro x hx
    have := h.fu x hx
    exact isWhole_ok (by omega) (by omega)
  rw [h1, List.length_map, List.length_map, decide_eq_true h.st, acts_areSteps h.go, acts_count, decide_eq_true h.sp]
  rfl
theorem vat_keep {a : Addr} {μ μ' : MS} (h : IsVat μ a) (k : ∀ b, μ b ≠ none → μ' b = μ b) : IsVat μ' a := by
  obtain ⟨u, w, e, r⟩ := h
  exact ⟨u, w, by rw [k a (by rw [e]; simp)]; exact e, r⟩
theorem deq_refl_bl (b : Bool) : (!deq (.bl b) (.bl b)) = false := by rw [deq_bl_self]; rfl
end Li

set_option Elab.async false
set_option linter.all false
set_option maxRecDepth 100000
set_option maxHeartbeats 2000000
namespace Li
open PySem PySem.Spec PyProof.Rows L2
variable [Tbl] [cC : Cls]
def t_law_in (Ed : DXK) : DTS := (dSeq (dAsg (dCall sp__law_bent (dCons (dVar 2) (dCons (dIf (dTest (dBin kEq (dBin kMod (dVar 6) (dC (.int 3))) (dC (.int 0)))) (dVar 3) (dVar 4)) dNil))) (dName 4)) (dSeq (dIfS (dNot (dTest (dCallX sp__law_judged Ed (dCons (dVar 4) dNil)))) (dRet (dC (.bl false))) dNext) (dSeq (dIfS (dNot (dTest (dCall sp__law_truly (dCons (dCallX sp_is_fact Ed (dCons (dVar 3) (dCons (dVar 5) dNil))) (dCons (dCall sp__law_is_fact (dCons (dVar 3) (dCons (dVar 5) dNil))) dNil))))) (dRet (dC (.bl false))) dNext) (dSeq (dAsg (dIf (dTest (dBin kEq (dBin kMod (dVar 6) (dC (.int 3))) (dC (.int 0)))) (dCall sp__law_fact (dCons (dVar 2) (dCons (dVar 3) (dCons (dC .non) dNil)))) (dVar 5)) (dName 5)) (dAsg (dCall sp__law_bent (dCons (dVar 2) (dCons (dVar 5) dNil))) (dName 5))))))
def t_law_out (Ed : DXK) : DTS := (dSeq (dAsg (dTup (dCons (dTup (dCons (dC (.str "spot")) (dCons (dC (.int 0)) dNil))) (dCons (dTup (dCons (dC (.str "ring")) dNil)) dNil))) (dGTup 2 (dGCons (dName 7) (dGCons (dName 8) dGNil)))) (dSeq (dAsg (dLstM (dCons (dTup (dCons (dTup (dCons (dC (.int 60)) dNil)) (dCons (dTup (dCons (dVar 7) (dCons (dVar 7) dNil))) dNil))) (dCons (dTup (dCons (dTup (dCons (dC (.int 60)) dNil)) (dCons (dTup (dCons (dVar 7) (dCons (dVar 7) (dCons (dVar 7) dNil)))) dNil))) dNil))) (dName 9)) (dSeq (dDrop (dAppend (dVar 9) (dTup (dCons (dTup (dCons (dC (.int 60)) dNil)) (dCons (dTup (dCons (dVar 7) (dCons (dTup (dCons (dC (.str "wait")) (dCons (dC (.int 1)) dNil))) dNil))) dNil))))) (dFrz 9 (dSeq (dAsg (dBin kAdd (dVar 9) (dLst (dCons (dTup (dCons (dTup (dCons (dC (.int 60)) dNil)) (dCons (dTup (dCons (dTup (dCons (dC (.str "wait")) (dCons (dC (.int 1)) dNil))) (dCons (dVar 7) dNil))) dNil))) (dCons (dTup (dCons (dTup (dCons (dC (.int 1)) (dCons (dC (.int 60)) (dCons (dC (.int 30)) dNil)))) (dCons (dBin kRep (dTup (dCons (dVar 8) dNil)) (dC (.int 12))) dNil))) dNil)))) (dName 9)) (dSeq (dAsg (dBin kAdd (dVar 9) (dLst (dCons (dTup (dCons (dTup (dCons (dC (.int 1)) (dCons (dC (.int 60)) (dCons (dC (.int 30)) dNil)))) (dCons (dBin kRep (dTup (dCons (dVar 8) dNil)) (dC (.int 13))) dNil))) (dCons (dTup (dCons (dTup (dCons (dC (.int 0)) dNil)) (dCons (dTup dNil) dNil))) (dCons (dTup (dCons (dBin kRep (dTup (dCons (dC (.int 1)) dNil)) (dC (.int 4))) (dCons (dTup dNil) dNil))) (dCons (dTup (dCons (dTup (dCons (dC (.bl true)) dNil)) (dCons (dTup dNil) dNil))) dNil)))))) (dName 9)) (dSeq (dIfS (dTest (dBin kNe (dLc (dSeqI (dVar 9)) (dName 10) (dNot (dTest (dCall sp__law_judged (dCons (dVar 10) dNil)))) (dVar 10) [10]) (dLst dNil))) (dRet (dC (.bl false))) dNext) (dSeq (dAsg (dTup (dCons (dTup (dCons (dC (.int 60)) dNil)) (dCons (dTup (dCons (dVar 7) (dCons (dVar 8) dNil))) dNil))) (dName 3)) (dSeq (dAsg (dLst (dCons (dTup (dCons (dC (.str "at")) (dCons (dC (.int 0)) (dCons (dTup (dCons (dC (.int 0)) (dCons (dC (.int 1)) dNil))) dNil)))) (dCons (dTup (dCons (dC (.str "at")) (dCons (dC (.int 0)) (dCons (dTup (dCons (dC (.int 1000)) (dCons (dC (.int 1)) dNil))) dNil)))) (dCons (dTup (dCons (dC (.str "at")) (dCons (dC (.int 0)) (dCons (dTup (dCons (dC (.int 1001)) (dCons (dC (.int 1)) dNil))) dNil)))) dNil)))) (dName 11)) (dSeq (dAsg (dBin kAdd (dVar 11) (dLst (dCons (dTup (dCons (dC (.str "at")) (dCons (dC (.int 0)) (dCons (dTup (dCons (dC (.int 2)) (dCons (dC (.int 4)) dNil))) dNil)))) (dCons (dTup (dCons (dC (.str "out")) (dCons (dC (.int 2)) dNil))) (dCons (dTup (dCons (dC (.str "left")) (dCons (dC (.int 1)) dNil))) dNil))))) (dName 11)) (dRet (dBin kEq (dLc (dSeqI (dVar 11)) (dName 12) dYes (dCall sp_is_fact (dCons (dVar 3) (dCons (dVar 12) dNil))) [12]) (dLst (dCons (dC (.bl true)) (dCons (dC (.bl true)) (dCons (dC (.bl false)) (dCons (dC (.bl false)) (dCons (dC (.bl false)) (dCons (dC (.bl true)) dNil)))))))))))))))))))
/-- the state within the inner loop -/
def lawSt (ns : List Int) (k : D) (a : Addr) (s : Scr) (x w : D) (i : Option D) : DSt := [some (.scr ns), some k, some (.ref a), some s.d, some x, some w, i, none, none, none, none, none, none]
def lawI (i : Nat) (x : D) : Prop := Fit 106 9 x ∧ (i % 3 ≠ 0 → Fit (100 + 2 * (i % 3)) (3 + 2 * (i % 3)) x)
theorem lawI_step {i : Nat} {x : D} (h : Fit (100 + 2 * (i % 3) + 2) (3 + 2 * (i % 3) + 2) x) : lawI (i + 1) x := by
  have h3 : i % 3 = 0 ∨ i % 3 = 1 ∨ i % 3 = 2 := by omega
  refine ⟨h.mono (by omega) (by omega), fun hn => ?_⟩
  have : (i + 1) % 3 = i % 3 + 1 := by omega
  rw [this]
  exact h.mono (by omega) (by omega)
theorem mod3 {i : Nat} : deq (.int ((i : Int) % 3)) (.int 0) = decide (i % 3 = 0) := by
  rw [deq_i]
  exact decide_eq_decide.mpr (by omega)
theorem law_in {ns : List Int} {k : D} {a : Addr} {s : Scr} {x w : D} {i : Nat} {μ : MS} {N : DPS} {Q : DK} {Ed : DXK} (ok : s.Ok) (hv : IsVat μ a) (hx : lawI i x) (hw : lawI i w)
    (hN : ∀ μ' x' w', IsVat μ' a → lawI (i + 1) x' → lawI (i + 1) w' → N (lawSt ns k a s x' w' (some (.int i))) μ') (C B : DPS) : t_law_in Ed { nx := N, rt := Q, bk := B, ct := C } (lawSt ns k a s x w (some (.int i))) μ := by
  have sf := scr_fit ok
  have sd : Dat s.d := sf.dat (by decide)
  have ss := scr_isScript ok
  have lt3 : i % 3 < 3 := Nat.mod_lt _ (by decide)
  -- a bent one
  have bend : ∀ (y : D) (μ1 : MS) (R : DK), IsVat μ1 a → Fit (100 + 2 * (i % 3)) (3 + 2 * (i % 3)) y → (∀ μ' d, IsVat μ' a → lawI (i + 1) d → R d μ') → sp__law_bent [.ref a, y] μ1 R noX := fun y μ1 R v1 hy hR =>
    ⟨a, _, _, y, rfl, by have := hy.d; omega, hy, by omega, by omega, by omega, v1, fun μ' d v hd => hR μ' d v.vat (lawI_step hd)⟩
  -- the rest, from the bent script on
  have rest : ∀ (y : D) (μ1 : MS), IsVat μ1 a → lawI (i + 1) y → (dSeq (dIfS (dNot (dTest (dCallX sp__law_judged Ed (dCons (dVar 4) dNil)))) (dRet (dC (.bl false))) dNext) (dSeq (dIfS (dNot (dTest (dCall sp__law_truly (dCons (dCallX sp_is_fact Ed (dCons (dVar 3) (dCons (dVar 5) dNil))) (dCons (dCall sp__law_is_fact (dCons (dVar 3) (dCons (dVar 5) dNil))) dNil))))) (dRet (dC (.bl false))) dNext) (dSeq (dAsg (dIf (dTest (dBin kEq (dBin kMod (dVar 6) (dC (.int 3))) (dC (.int 0)))) (dCall sp__law_fact (dCons (dVar 2) (dCons (dVar 3) (dCons (dC .non) dNil)))) (dVar 5)) (dName 5)) (dAsg (dCall sp__law_bent (dCons (dVar 2) (dCons (dVar 5) dNil))) (dName 5)))))
      { nx := N, rt := Q, bk := B, ct := C } (lawSt ns k a s y w (some (.int i))) μ1 := by
    intro y μ1 v1 hy
    refine ⟨y, rfl, hy.1.dat (by decide), fun μ2 k2 => ?_⟩
    have v2 := vat_keep v1 k2
    refine ⟨s.d, w, rfl, sd, fun _ => ⟨hw.1.dat (by decide), ?_⟩, fun z => by rw [ss] at z; cases z⟩
    refine ⟨s.d, w, 106, 9, rfl, sd, ss, hw.1, by decide, by decide, isFact s.d w, isFact s.d w, rfl, bcase_f (deq_refl_bl _) ?_⟩
    refine ⟨by decide, (dat_int _).eqv (dat_int _), ?_⟩
    refine bcase_of (fun h => ?_) fun h => ?_
    · have h : i % 3 = 0 := of_decide_eq_true (mod3.symm.trans h)
      refine ⟨a, s.d, rfl, v2, sd, ss, fun μ3 d v3 hd => ?_⟩
      exact bend d μ3 _ v3.vat (by rw [h]; exact hd) fun μ4 e v4 he => hN μ4 y e v4 hy he
    · have h : i % 3 ≠ 0 := of_decide_eq_false (mod3.symm.trans h)
      exact bend w μ2 _ v2 (hw.2 h) fun μ4 e v4 he => hN μ4 y e v4 hy he
  refine ⟨by decide, (dat_int _).eqv (dat_int _), ?_⟩
  refine bcase_of (fun h => ?_) fun h => ?_
  · have h : i % 3 = 0 := of_decide_eq_true (mod3.symm.trans h)
    exact bend s.d μ _ hv (by rw [h]; exact sf) fun μ4 e v4 he => rest e μ4 v4 he
  · have h : i % 3 ≠ 0 := of_decide_eq_false (mod3.symm.trans h)
    exact bend x μ _ hv (hx.2 h) fun μ4 e v4 he => rest e μ4 v4 he
def rowsL : List D := [.tup [.tup [.int 60], .tup [.tup [.str "spot", .int 0], .tup [.str "spot", .int 0]]], .tup [.tup [.int 60], .tup [.tup [.str "spot", .int 0], .tup [.str "spot", .int 0], .tup [.str "spot", .int 0]]],
  .tup [.tup [.int 60], .tup [.tup [.str "spot", .int 0], .tup [.str "wait", .int 1]]], .tup [.tup [.int 60], .tup [.tup [.str "wait", .int 1], .tup [.str "spot", .int 0]]],
  .tup [.tup [.int 1, .int 60, .int 30], .tup (List.replicate 12 (.tup [.str "ring"]))], .tup [.tup [.int 1, .int 60, .int 30], .tup (List.replicate 13 (.tup [.str "ring"]))], .tup [.tup [.int 0], .tup []], .tup [.tup [.int 1, .int 1, .int 1, .int 1], .tup []], .tup [.tup [.bl true], .tup []]]
def factsL : List D := [.tup [.str "at", .int 0, .tup [.int 0, .int 1]], .tup [.str "at", .int 0, .tup [.int 1000, .int 1]], .tup [.str "at", .int 0, .tup [.int 1001, .int 1]], .tup [.str "at", .int 0, .tup [.int 2, .int 4]], .tup [.str "out", .int 2], .tup [.str "left", .int 1]]
def theS : D := .tup [.tup [.int 60], .tup [.tup [.str "spot", .int 0], .tup [.str "ring"]]]
theorem theS_script : isScript theS = true := by decide +kernel
theorem facts_so : factsL.map (fun d => D.bl (isFact theS d)) = [.bl true, .bl true, .bl false, .bl false, .bl false, .bl true] := by
  have h : factsL.map (fun d => isFact theS d) = [true, true, false, false, false, true] := by decide +kernel
  have := congrArg (List.map D.bl) h
  rw [List.map_map] at this
  exact this
end Li

set_option Elab.async false
set_option linter.all false
set_option maxRecDepth 100000
set_option maxHeartbeats 2000000
namespace Li
open PySem PySem.Spec PyProof.Rows L2
variable [Tbl] [cC : Cls]
def t_law_rows : DTS := (dIfS (dTest (dBin kNe (dLc (dSeqI (dVar 9)) (dName 10) (dNot (dTest (dCall sp__law_judged (dCons (dVar 10) dNil)))) (dVar 10) [10]) (dLst dNil))) (dRet (dC (.bl false))) dNext)
def t_law_last : DTS := (dRet (dBin kEq (dLc (dSeqI (dVar 11)) (dName 12) dYes (dCall sp_is_fact (dCons (dVar 3) (dCons (dVar 12) dNil))) [12]) (dLst (dCons (dC (.bl true)) (dCons (dC (.bl true)) (dCons (dC (.bl false)) (dCons (dC (.bl false)) (dCons (dC (.bl false)) (dCons (dC (.bl true)) dNil)))))))))
def t_law_facts : DTS := (dSeq (dAsg (dTup (dCons (dTup (dCons (dC (.int 60)) dNil)) (dCons (dTup (dCons (dVar 7) (dCons (dVar 8) dNil))) dNil))) (dName 3)) (dSeq (dAsg (dLst (dCons (dTup (dCons (dC (.str "at")) (dCons (dC (.int 0)) (dCons (dTup (dCons (dC (.int 0)) (dCons (dC (.int 1)) dNil))) dNil)))) (dCons (dTup (dCons (dC (.str "at")) (dCons (dC (.int 0)) (dCons (dTup (dCons (dC (.int 1000)) (dCons (dC (.int 1)) dNil))) dNil)))) (dCons (dTup (dCons (dC (.str "at")) (dCons (dC (.int 0)) (dCons (dTup (dCons (dC (.int 1001)) (dCons (dC (.int 1)) dNil))) dNil)))) dNil)))) (dName 11)) (dSeq (dAsg (dBin kAdd (dVar 11) (dLst (dCons (dTup (dCons (dC (.str "at")) (dCons (dC (.int 0)) (dCons (dTup (dCons (dC (.int 2)) (dCons (dC (.int 4)) dNil))) dNil)))) (dCons (dTup (dCons (dC (.str "out")) (dCons (dC (.int 2)) dNil))) (dCons (dTup (dCons (dC (.str "left")) (dCons (dC (.int 1)) dNil))) dNil))))) (dName 11)) t_law_last)))
abbrev spotD : D := .tup [.str "spot", .int 0]
abbrev ringD : D := .tup [.str "ring"]
theorem rows_ok {ns : List Int} {rows : List D} {μ : MS} {N : DPS} {Q : DK} (hd : ∀ d ∈ rows, Dat d) (hN : ∀ μ', N [some (.scr ns), none, none, none, none, none, none, some spotD, some ringD, some (.lst rows), none, none, none] μ') :
    t_law_rows { nx := N, rt := Q } [some (.scr ns), none, none, none, none, none, none, some spotD, some ringD, some (.lst rows), none, none, none] μ := by
  refine lcL_all (fun _ => True) (fun _ => False) rows _ _ trivial (fun d hm μ1 _ A Z hA hZ => ?_) fun r μ1 _ _ hr => ?_
  · exact ⟨d, rfl, hd d hm, fun μ' _ => hZ μ' trivial⟩
  · have : r = [] := by
      cases r with
      | nil => rfl
      | cons x xs => exact (hr x List.mem_cons_self).elim
    subst this
    exact ⟨⟨by decide, by decide, by decide, by decide⟩, bcase_f (by decide +kernel) (hN μ1)⟩
theorem lc_facts {ρ : DSt} {facts : List D} {μ : MS} {R : List D → MS → Prop} (h3 : ρ[3]? = some (some theS)) (hl : 12 < ρ.length) {r : List D} (hd : ∀ d ∈ facts, Dat d) (hr : (facts.map fun d => D.bl (isFact theS d)) = r) (q : R r μ) :
    lcL (dName 12) dYes (dCall sp_is_fact (dCons (dVar 3) (dCons (dVar 12) dNil))) ρ facts μ R := by
  have sd : Dat theS := ⟨by decide +kernel, by decide +kernel⟩
  refine lcL_pure (fun d => some (.bl (isFact theS d))) facts _ (fun d hm A Z hA => ?_) (by rw [List.filterMap_eq_map', hr]; exact q)
  have e3 : (ρ.set 12 (some d))[3]? = some (some theS) := by rw [List.getElem?_set_ne (by decide)]; exact h3
  have e12 : (ρ.set 12 (some d))[12]? = some (some d) := List.getElem?_set_self hl
  show (dCons (dVar 3) (dCons (dVar 12) dNil)) (ρ.set 12 (some d)) μ fun ds μ1 => sp_is_fact ds μ1 A noX
  unfold dCons dVar dNil
  rw [e3, e12]
  exact ⟨theS, d, rfl, sd, fun _ => ⟨hd d hm, hA⟩, fun z => by rw [theS_script] at z; cases z⟩
def boolsL : List D := [.bl true, .bl true, .bl false, .bl false, .bl false, .bl true]
theorem bools_eq : deq (.lst boolsL) (.lst boolsL) = true := by decide +kernel
theorem bools_ok : okEq (.lst boolsL) (.lst boolsL) := ⟨by decide +kernel, by decide +kernel, by decide +kernel, by decide +kernel⟩
theorem facts_dat : ∀ d ∈ factsL, Dat d := by
  intro d hd
  have h : ∀ d ∈ factsL, D.lay d = true ∧ D.dep d ≤ 40 := by decide +kernel
  exact h d hd
theorem last_ok {ns : List Int} {rows facts : List D} {μ : MS} {N : DPS} {Q : DK} (hd : ∀ d ∈ facts, Dat d) (hr : (facts.map fun d => D.bl (isFact theS d)) = boolsL) (q : ∀ μ', Q (.bl true) μ') :
    t_law_last { nx := N, rt := Q } [some (.scr ns), none, none, some theS, none, none, none, some spotD, some ringD, some (.lst rows), none, some (.lst facts), none] μ := by
  refine lc_facts rfl (show (12 : Nat) < 13 by decide) hd hr ?_
  refine ⟨bools_ok, ?_⟩
  show Q (.bl (deq (.lst boolsL) (.lst boolsL))) μ
  rw [bools_eq]
  exact q μ
theorem facts_ok {ns : List Int} {rows : List D} {μ : MS} {N : DPS} {Q : DK} (q : ∀ μ', Q (.bl true) μ') :
    t_law_facts { nx := N, rt := Q } [some (.scr ns), none, none, none, none, none, none, some spotD, some ringD, some (.lst rows), none, none, none] μ := by
  have hs : sizeLine = 16777216 := sizeLine_eq
  have fin : ∀ d μ', d = true → Q (.bl d) μ' := fun d μ' h => by subst h; exact q μ'
  have hl : (3 : Nat) + 3 ≤ sizeLine := by omega
  exact ⟨hl, last_ok (facts := factsL) facts_dat facts_so q⟩
theorem law_out {ns : List Int} {μ : MS} {N : DPS} {Q : DK} {Ed : DXK} (q : ∀ μ', Q (.bl true) μ') : t_law_out Ed { nx := N, rt := Q } [some (.scr ns), none, none, none, none, none, none, none, none, none, none, none, none] μ := by
  have hs : sizeLine = 16777216 := sizeLine_eq
  intro a ha
  refine refL_of mset_same (refL_of mset_same ⟨by simp; omega, ?_⟩)
  refine refL_of mset_same ?_
  refine ⟨⟨by simp, by decide, by decide, by simp⟩, by simp; omega, ?_⟩
  refine ⟨⟨by simp, by decide, by decide, by simp⟩, ⟨by simp, by decide, by decide, by simp⟩, by simp; omega, ?_⟩
  refine rows_ok (rows := rowsL) (fun d hd => ?_) fun μ' => ?_
  · have h : ∀ d ∈ rowsL, D.lay d = true ∧ D.dep d ≤ 40 := by decide +kernel
    exact h d hd
  · exact facts_ok q
end Li

set_option Elab.async false
set_option linter.all false
set_option maxRecDepth 100000
set_option maxHeartbeats 400000
namespace Li
open PySem PySem.Spec PyProof.Rows L2
variable [Tbl] [cC : Cls]
theorem pure_law (ds : List D) (μ : MS) (Q : DK) (Ed : DXK) (h : sp_law ds μ Q Ed) : t_law Ed { nx := fun _ μ => Q .non μ, rt := Q } (dstart nm_law ds) μ := by
  obtain ⟨ns, rfl, q⟩ := h
  refine ⟨by omega, by omega, ?_⟩
  have hn : (max 4 (min 9 (ns.length : Int))).toNat ≤ 9 := by omega
  refine forL_inv (fun i ρ μ' => ρ = [some (.scr ns), none, none, none, none, none, none, none, none, none, none, none, none]) _ 0 _ _ rfl (fun i d ρ μ1 N hd hi hN => ?_) fun ρ μ1 h => ?_
  · subst hi
    rw [intsD_get] at hd
    split at hd
    · rename_i hlt
      cases hd
      have e0 : (0 : Int) + i = (i : Nat) := by omega
      rw [e0]
      refine ⟨ns, i, rfl, by omega, fun a μ2 ha v2 => ?_⟩
      refine ⟨a, 12, 2, rfl, v2.vat, by decide, by decide, fun μ3 s v3 ok _ _ => ?_⟩
      have sf := scr_fit ok
      have sd : Dat s.d := sf.dat (by decide)
      have ss := scr_isScript ok
      refine ⟨a, s.d, rfl, v3.vat, sd, ss, fun μ4 w v4 hw => ?_⟩
      refine ⟨s.d, rfl, sd, fun μ5 k5 => ?_⟩
      have v5 := vat_keep v4.vat k5
      refine ⟨by decide, by decide, ?_⟩
      refine forL_inv (fun j ρ μ' => ∃ x w, IsVat μ' a ∧ lawI j x ∧ lawI j w ∧ ρ = lawSt ns (.int i) a s x w none) _ 0 _ _ ⟨s.d, w, v5, ⟨sf.mono (by decide) (by decide), fun z => absurd rfl z⟩, ⟨hw.mono (by decide) (by decide), fun z => absurd rfl z⟩, rfl⟩ (fun j d ρ μ6 N2 hd ⟨x, w, v6, hx, hw, e⟩ hN2 => ?_) fun ρ μ6 ⟨x, w, v6, hx, hw, e⟩ => ?_
      · subst e
        rw [intsD_get] at hd
        split at hd
        · cases hd
          have e0 : (0 : Int) + j = (j : Nat) := by omega
          rw [e0]
          rw [Nat.zero_add] at hx hw
          have L := fun B => law_in (N := dLose [6] N2) (Q := Q) (k := .int i) (ns := ns) (Ed := Ed) ok v6 hx hw (fun μ7 x' w' v7 hx' hw' => hN2 (lawSt ns (.int i) a s x' w' none) μ7 ⟨x', w', v7, by rw [Nat.zero_add]; exact hx', by rw [Nat.zero_add]; exact hw', rfl⟩) (dLose [6] N2) B
          exact L _
        · cases hd
      · subst e
        refine ⟨a, 2, rfl, by decide, by decide, v6, fun μ7 d v7 hd => ?_⟩
        refine ⟨d, rfl, hd.dat (by decide), fun μ8 k8 => ?_⟩
        exact hN _ μ8 rfl
    · cases hd
  · subst h
    have L := law_out (ns := ns) (μ := μ1) (N := fun _ μ => Q .non μ) (Q := Q) (Ed := Ed) q
    exact L
end Li

set_option Elab.async false
set_option linter.all false
set_option maxRecDepth 100000
set_option maxHeartbeats 2000000
/-! What a head tells, turned to what the readings ask. -/
namespace Li
open PySem PySem.Spec PyProof.Rows L2
abbrev clsK (K : PySem.W.Frag) : Cls := ⟨He.ga K "FuseError", He.ga K "InvalidScript", He.ga K "InvalidFuses", He.ga K "InvalidMinutes", He.ga K "InvalidIndex", He.ga K "InvalidSide", He.ga K "InvalidTimes", He.ga K "InvalidFacts", He.ga K "InvalidNumber", He.ga K "NothingToUndo", He.ga K "TooMany", He.ga K "InvalidText"⟩
def EC.cls : EC → Str
  | .script => "InvalidScript"
  | .fuses => "InvalidFuses"
  | .minutes => "InvalidMinutes"
  | .index => "InvalidIndex"
  | .side => "InvalidSide"
  | .times => "InvalidTimes"
  | .facts => "InvalidFacts"
  | .number => "InvalidNumber"
  | .undo => "NothingToUndo"
  | .many => "TooMany"
  | .text => "InvalidText"
def allEC : List EC := [.script, .fuses, .minutes, .index, .side, .times, .facts, .number, .undo, .many, .text]
theorem mem_allEC : ∀ i : EC, i ∈ allEC := fun i => by cases i <;> decide
def excB (K : PySem.W.Frag) (D : Addr) : Bool :=
  decide (PySem.W.findIn K (.ref D) "__getattribute__" = some (some (.builtin "BaseException.__getattribute__"))) && (decide (PySem.W.findIn K (.ref D) "__getattr__" = some none) && (decide (PySem.W.subIn K (.ref D) (.type "BaseException") = some true) &&
  (PySem.W.hasDictIn K D && (decide (PySem.W.findIn K (.ref D) "__class__" = some (some (.builtin "object.__class__"))) && (decide (PySem.W.specialIn K (.builtin "object.__class__") "__get__" = some (some (.builtin "getset_descriptor.__get__"))) &&
  (decide (PySem.W.takesIn K (.builtin "object.__class__") = some true) && decide (PySem.W.mroIn K D (.type "object") = some true)))))))
theorem excB_ok {K : PySem.W.Frag} {D : Addr} (h : excB K D = true) : ExcC K D := by
  unfold excB at h
  simp only [Bool.and_eq_true, decide_eq_true_eq] at h
  obtain ⟨h1, h2, h3, h4, h5, h6, h7, h8⟩ := h
  exact ⟨h1, h2, h3, h4, h5, h6, h7, h8⟩
def errsB (K : PySem.W.Frag) : Bool := allEC.all fun i => excB K (He.ga K i.cls) && (decide (PySem.W.kitOne K (.ref (He.ga K i.cls)) (.type "ValueError") = some true) && (decide (PySem.W.exmOne K (.ref (He.ga K i.cls)) (.ref (He.ga K "FuseError")) = some true) &&
  allEC.all fun j => decide (PySem.W.kitOne K (.ref (He.ga K i.cls)) (.ref (He.ga K j.cls)) = some (decide (i = j)))))
theorem adr_eq {K : PySem.W.Frag} (i : EC) : @EC.adr (clsK K) i = He.ga K i.cls := by cases i <;> rfl
theorem errsB_ok {K : PySem.W.Frag} (h : errsB K = true) : @Errs (clsK K) K := by
  have key : ∀ i : EC, ExcC K (He.ga K i.cls) ∧ PySem.W.kitOne K (.ref (He.ga K i.cls)) (.type "ValueError") = some true ∧ PySem.W.exmOne K (.ref (He.ga K i.cls)) (.ref (He.ga K "FuseError")) = some true ∧ ∀ j : EC, PySem.W.kitOne K (.ref (He.ga K i.cls)) (.ref (He.ga K j.cls)) = some (decide (i = j)) := fun i => by
    have h1 := List.all_eq_true.mp h i (mem_allEC i)
    simp only [Bool.and_eq_true, decide_eq_true_eq] at h1
    obtain ⟨h1, h2, h3, h4⟩ := h1
    exact ⟨excB_ok h1, h2, h3, fun j => of_decide_eq_true (List.all_eq_true.mp h4 j (mem_allEC j))⟩
  refine @Errs.mk (clsK K) K (fun i => ?_) (fun i j => ?_) (fun i => ?_) fun i => ?_
  · rw [adr_eq]; exact (key i).1
  · rw [adr_eq, adr_eq]; exact (key i).2.2.2 j
  · rw [adr_eq]; exact (key i).2.1
  · rw [adr_eq]; exact (key i).2.2.1
/-- a module's name holds a tuple of texts -/
def tupB (K : PySem.W.Frag) (x : Str) (ws : List Str) : Bool := match K.lookup (He.ga K x) with
  | some ⟨.type c, _, .seq its _, _⟩ => decide (c = "tuple") && (decide (its.size ≤ 1000) && ((its.toList.map fun v => match v with | .str z _ => some z | _ => none) == ws.map some))
  | _ => false
theorem funT_of {K : PySem.W.Frag} {mg : Str → Option Value} {x : Str} {st : Stmt} {ps : List Str} {f : Addr} {fd : FuncData} {kws : List (Str × V)} (g : mg x = some (.ref f)) (F : FunD K x x (defArgs st) (defBody st) (defScope st) [] kws f fd)
    (h : ∀ (kV doc pm : Value) (an : Option Addr) (cdv ct : Value) (us : List Value), us.length = ps.length → bindArgs (PySem.W.fnOf x x (defArgs st) (defBody st) (defScope st) .none kV doc pm an cdv ct) ⟨us, []⟩ = pure (ps.zip us)) : FnT K mg x st ps := by
  have kp := F.kp
  have b := F.bindsN h
  obtain ⟨oc, od, dV, kV, doc, pm, an, cdv, ct, osl, rfl, lk, hcd, hD, hK⟩ := F.ex
  rcases hD with ⟨_, rfl⟩ | ⟨e, _⟩
  · exact ⟨f, _, g, ⟨⟨oc, od, kV, doc, pm, an, cdv, ct, osl, rfl, lk, hcd⟩, kp⟩, b⟩
  · exact absurd rfl e
end Li
namespace Li
open PySem PySem.Spec PyProof.Rows L2
theorem vals_strs : ∀ (ws : List Str) (vs : List Value), (vs.map fun v => match v with | .str z _ => some z | _ => none) = ws.map some → Vals (ws.map V.str) vs
  | [], [], _ => .nil
  | [], v :: vs, h => by simp at h
  | w :: ws, [], h => by simp at h
  | w :: ws, v :: vs, h => by
    rw [List.map_cons, List.map_cons] at h
    injection h with h1 h2
    refine .cons ?_ (vals_strs ws vs h2)
    cases v with
    | str z t => cases h1; exact ⟨t, rfl⟩
    | _ => cases h1
theorem tupB_ok [Tbl] {K : PySem.W.Frag} {mg : Str → Option Value} {x : Str} {ws : List Str} (h : tupB K x ws = true) (g : mg x = some (.ref (He.ga K x))) : Glb K mg x (.tup (ws.map D.str)) := by
  unfold tupB at h
  split at h
  · rename_i c od its n sl e
    simp only [Bool.and_eq_true, decide_eq_true_eq, beq_iff_eq] at h
    obtain ⟨rfl, h2, h3⟩ := h
    exact ⟨.ref (He.ga K x), .ref (He.ga K x), g, rfl, fun F => rep_tup.mpr ⟨He.ga K x, ws.map V.str, rfl, .inr ⟨_, its, _, e, rfl, rfl, Nat.le_trans h2 (by rw [sizeLine_eq]; decide), vals_strs ws _ h3⟩, reps_strs ws⟩⟩
  · cases h
theorem glbInt {K : PySem.W.Frag} {mg : Str → Option Value} {x : Str} {i : Int} (h : ∃ t, mg x = some (.int i t)) : Glb K mg x (.int i) := by
  obtain ⟨t, e⟩ := h
  exact ⟨.int i, .int i t, e, ⟨t, rfl⟩, fun F => rep_int.mpr rfl⟩
theorem xcls_of {K : PySem.W.Frag} {h : Heap} {mg : Str → Option Value} (X : K.In h) (G : h.Ns mainGlobals mg) {x : Str} (c1 : (He.Fa.glo x).ok K = true) (c2 : (He.Fa.exc x).ok K = true) : XCls K mg x (He.ga K x) := by
  obtain ⟨h1, h2, h3, h4⟩ := He.exc_ok c2
  exact ⟨He.glo_ok X G c1, h1, h2, h3, h4⟩
end Li
namespace Li
open PySem PySem.Spec PyProof.Rows L2
theorem funTL_of [Tbl] {K : PySem.W.Frag} {mg : Str → Option Value} {base : Heap} {x q : Str} {st : Stmt} {ps : List Str} {f : Addr} {fd : FuncData} {kws : List (Str × V)} (g : mg x = some (.ref f)) (F : FunD K x x (defArgs st) (defBody st) (defScope st) [] kws f fd)
    (h : ∀ (kV doc pm : Value) (an : Option Addr) (cdv ct : Value) (us : List Value), us.length = ps.length → bindArgs (PySem.W.fnOf x x (defArgs st) (defBody st) (defScope st) .none kV doc pm an cdv ct) ⟨us, []⟩ = pure (ps.zip us))
    (TB : LamX.TabB base mg (He.cT K (x, none)).1 (He.cT K (x, none)).2) (hf : f = He.fAd K (x, none)) (hT : ((He.cT K (x, none)).2, q) ∈ Tbl.T) (hu : ∀ p ∈ Tbl.T, p.1 = (He.cT K (x, none)).2 → p.2 = q) : FnTL K mg base x st ps q := by
  have kp := F.kp
  have b := F.bindsN h
  obtain ⟨oc, od, dV, kV, doc, pm, an, cdv, ct, osl, rfl, lk, hcd, hD, hK⟩ := F.ex
  rcases hD with ⟨_, rfl⟩ | ⟨e, _⟩
  · obtain ⟨c, rfl⟩ := He.codeIn_ref hcd
    have e : He.codeOf K (x, none) = c := He.codeOf_eq (by rw [← hf]; exact lk) rfl
    refine ⟨f, _, c, (He.cT K (x, none)).2, g, ⟨⟨oc, od, kV, doc, pm, an, .ref c, ct, osl, rfl, lk, hcd⟩, kp⟩, b, rfl, ?_, hT, hu⟩
    have : (He.cT K (x, none)).1 = c := e
    rw [← this]
    exact TB
  · exact absurd rfl e
end Li
namespace Li
open PySem PySem.Spec PyProof.Rows L2
theorem law_start [Tbl] {K : PySem.W.Frag} {H : Hp} {a : Addr} {ns : List Int} {sp : DSp} (hS : SqL K H a (ns.map V.int)) (hT : LamX.Tabs Tbl.T H) (h : ∀ (Qd : DK), (∀ μ', Qd (.bl true) μ') → sp [.scr ns] (fun _ => none) Qd noX) : LSp K sp [.ref a] H (fun v _ => v = .bl true) fun _ _ _ => False := by
  have fin : ∀ F : Hp, Same F H → (∀ b ps, F b ≠ some (.tbl ps)) → SqL K F a (ns.map V.int) → LSp K sp [.ref a] H (fun v _ => v = .bl true) fun _ _ _ => False := fun F hs hn hq =>
    ⟨F, fun _ => none, [.scr ns], fun d _ => d = .bl true, noX, ⟨hs, (fun _ _ e => nomatch e), (fun _ _ _ e => nomatch e), hT, hn⟩, .cons (rep_scr.mpr ⟨a, rfl, hq⟩) (reps_nil.mpr rfl), h _ fun _ => rfl,
      fun F' d μ' v H' _ _ r q => by subst q; exact rep_bl.mp r, fun _ _ _ _ _ _ _ _ _ z => z.elim⟩
  rcases hS with (e | ⟨o, e⟩) | e
  · refine fin (upd (fun _ => none) a (.lst (ns.map V.int))) (fun b u q => ?_) (fun b ps z => ?_) (.inl (.inl upd_same))
    · by_cases hb : b = a
      · subst hb; rw [upd_same] at q; cases q; exact e
      · rw [upd_ne hb] at q; cases q
    · by_cases hb : b = a
      · subst hb; rw [upd_same] at z; cases z
      · rw [upd_ne hb] at z; cases z
  · refine fin (upd (fun _ => none) a (.frz o (.lst (ns.map V.int)))) (fun b u q => ?_) (fun b ps z => ?_) (.inl (.inr ⟨o, upd_same⟩))
    · by_cases hb : b = a
      · subst hb; rw [upd_same] at q; cases q; exact e
      · rw [upd_ne hb] at q; cases q
    · by_cases hb : b = a
      · subst hb; rw [upd_same] at z; cases z
      · rw [upd_ne hb] at z; cases z
  · exact fin (fun _ => none) (fun b u q => by cases q) (fun b ps z => by cases z) (.inr e)
end Li

set_option Elab.async false
set_option linter.all false
set_option maxRecDepth 100000
set_option maxHeartbeats 2000000
namespace Li
open PySem PySem.Spec PyProof.Rows L2 HotX L2H
abbrev topS (i : Nat) : Stmt := PySem.Challenge.pw_litinmidst_k01_scripts_and_facts_recogni.main.body.getD i (.Pass ⟨0, 0, 0, 0⟩)
variable [Tbl] [cC : Cls]
abbrev s__law_vat : Stmt := topS 36
theorem sc__law_vat : FnScope nm__law_vat ps__law_vat (defScope s__law_vat) := ⟨rfl, rfl, rfl, by decide +kernel, rfl, by decide +kernel, by decide +kernel⟩
abbrev s__law_under : Stmt := topS 37
theorem sc__law_under : FnScope nm__law_under ps__law_under (defScope s__law_under) := ⟨rfl, rfl, rfl, by decide +kernel, rfl, by decide +kernel, by decide +kernel⟩
abbrev s__law_some : Stmt := topS 38
theorem sc__law_some : FnScope nm__law_some ps__law_some (defScope s__law_some) := ⟨rfl, rfl, rfl, by decide +kernel, rfl, by decide +kernel, by decide +kernel⟩
abbrev s__law_any_step : Stmt := topS 43
theorem sc__law_any_step : FnScope nm__law_any_step ps__law_any_step (defScope s__law_any_step) := ⟨rfl, rfl, rfl, by decide +kernel, rfl, by decide +kernel, by decide +kernel⟩
abbrev s__law_script : Stmt := topS 44
theorem sc__law_script : FnScope nm__law_script ps__law_script (defScope s__law_script) := ⟨rfl, rfl, rfl, by decide +kernel, rfl, by decide +kernel, by decide +kernel⟩
abbrev s__law_lowest : Stmt := topS 45
theorem sc__law_lowest : FnScope nm__law_lowest ps__law_lowest (defScope s__law_lowest) := ⟨rfl, rfl, rfl, by decide +kernel, rfl, by decide +kernel, by decide +kernel⟩
abbrev s__law_count : Stmt := topS 42
theorem sc__law_count : FnScope nm__law_count ps__law_count (defScope s__law_count) := ⟨rfl, rfl, rfl, by decide +kernel, rfl, by decide +kernel, by decide +kernel⟩
abbrev s__law_pieces_in : Stmt := topS 41
theorem sc__law_pieces_in : FnScope nm__law_pieces_in ps__law_pieces_in (defScope s__law_pieces_in) := ⟨rfl, rfl, rfl, by decide +kernel, rfl, by decide +kernel, by decide +kernel⟩
abbrev s__law_fact : Stmt := topS 63
theorem sc__law_fact : FnScope nm__law_fact ps__law_fact (defScope s__law_fact) := ⟨rfl, rfl, rfl, by decide +kernel, rfl, by decide +kernel, by decide +kernel⟩
abbrev s__law_is_whole : Stmt := topS 39
theorem sc__law_is_whole : FnScope nm__law_is_whole ps__law_is_whole (defScope s__law_is_whole) := ⟨rfl, rfl, rfl, by decide +kernel, rfl, by decide +kernel, by decide +kernel⟩
abbrev s__law_is_fuses : Stmt := topS 55
theorem sc__law_is_fuses : FnScope nm__law_is_fuses ps__law_is_fuses (defScope s__law_is_fuses) := ⟨rfl, rfl, rfl, by decide +kernel, rfl, by decide +kernel, by decide +kernel⟩
abbrev s__law_is_step : Stmt := topS 56
theorem sc__law_is_step : FnScope nm__law_is_step ps__law_is_step (defScope s__law_is_step) := ⟨rfl, rfl, rfl, by decide +kernel, rfl, by decide +kernel, by decide +kernel⟩
abbrev s__law_is_script : Stmt := topS 57
theorem sc__law_is_script : FnScope nm__law_is_script ps__law_is_script (defScope s__law_is_script) := ⟨rfl, rfl, rfl, by decide +kernel, rfl, by decide +kernel, by decide +kernel⟩
abbrev s__law_truly : Stmt := topS 40
theorem sc__law_truly : FnScope nm__law_truly ps__law_truly (defScope s__law_truly) := ⟨rfl, rfl, rfl, by decide +kernel, rfl, by decide +kernel, by decide +kernel⟩
abbrev nm__law_names : List Str := ["e", "some", "words_so", "word", "good"]
abbrev ps__law_names : List Str := ["e"]
abbrev s__law_names : Stmt := topS 59
theorem sc__law_names : FnScope nm__law_names ps__law_names (defScope s__law_names) := ⟨rfl, rfl, rfl, by decide +kernel, rfl, by decide +kernel, by decide +kernel⟩
abbrev nm__law_error : List Str := ["call", "e"]
abbrev ps__law_error : List Str := ["call"]
abbrev s__law_error : Stmt := topS 60
theorem sc__law_error : FnScope nm__law_error ps__law_error (defScope s__law_error) := ⟨rfl, rfl, rfl, by decide +kernel, rfl, by decide +kernel, by decide +kernel⟩
abbrev s_is_whole : Stmt := topS 17
theorem sc_is_whole : FnScope nm_is_whole ps_is_whole (defScope s_is_whole) := ⟨rfl, rfl, rfl, by decide +kernel, rfl, by decide +kernel, by decide +kernel⟩
abbrev s_is_word : Stmt := topS 21
theorem sc_is_word : FnScope nm_is_word ps_is_word (defScope s_is_word) := ⟨rfl, rfl, rfl, by decide +kernel, rfl, by decide +kernel, by decide +kernel⟩
abbrev s_is_step : Stmt := topS 23
theorem sc_is_step : FnScope nm_is_step ps_is_step (defScope s_is_step) := ⟨rfl, rfl, rfl, by decide +kernel, rfl, by decide +kernel, by decide +kernel⟩
abbrev s_are_steps : Stmt := topS 24
theorem sc_are_steps : FnScope nm_are_steps ps_are_steps (defScope s_are_steps) := ⟨rfl, rfl, rfl, by decide +kernel, rfl, by decide +kernel, by decide +kernel⟩
abbrev s_is_fuses : Stmt := topS 22
theorem sc_is_fuses : FnScope nm_is_fuses ps_is_fuses (defScope s_is_fuses) := ⟨rfl, rfl, rfl, by decide +kernel, rfl, by decide +kernel, by decide +kernel⟩
abbrev s_spots_of : Stmt := topS 25
theorem sc_spots_of : FnScope nm_spots_of ps_spots_of (defScope s_spots_of) := ⟨rfl, rfl, rfl, by decide +kernel, rfl, by decide +kernel, by decide +kernel⟩
abbrev s_is_script : Stmt := topS 26
theorem sc_is_script : FnScope nm_is_script ps_is_script (defScope s_is_script) := ⟨rfl, rfl, rfl, by decide +kernel, rfl, by decide +kernel, by decide +kernel⟩
abbrev s_need_script : Stmt := topS 29
theorem sc_need_script : FnScope nm_need_script ps_need_script (defScope s_need_script) := ⟨rfl, rfl, rfl, by decide +kernel, rfl, by decide +kernel, by decide +kernel⟩
abbrev s_rings_of : Stmt := topS 27
theorem sc_rings_of : FnScope nm_rings_of ps_rings_of (defScope s_rings_of) := ⟨rfl, rfl, rfl, by decide +kernel, rfl, by decide +kernel, by decide +kernel⟩
abbrev s_count_rings : Stmt := topS 32
theorem sc_count_rings : FnScope nm_count_rings ps_count_rings (defScope s_count_rings) := ⟨rfl, rfl, rfl, by decide +kernel, rfl, by decide +kernel, by decide +kernel⟩
abbrev s_count_spots : Stmt := topS 33
theorem sc_count_spots : FnScope nm_count_spots ps_count_spots (defScope s_count_spots) := ⟨rfl, rfl, rfl, by decide +kernel, rfl, by decide +kernel, by decide +kernel⟩
abbrev s_pieces_of : Stmt := topS 28
theorem sc_pieces_of : FnScope nm_pieces_of ps_pieces_of (defScope s_pieces_of) := ⟨rfl, rfl, rfl, by decide +kernel, rfl, by decide +kernel, by decide +kernel⟩
abbrev s_count_pieces : Stmt := topS 34
theorem sc_count_pieces : FnScope nm_count_pieces ps_count_pieces (defScope s_count_pieces) := ⟨rfl, rfl, rfl, by decide +kernel, rfl, by decide +kernel, by decide +kernel⟩
abbrev s_divisor : Stmt := topS 18
theorem sc_divisor : FnScope nm_divisor ps_divisor (defScope s_divisor) := ⟨rfl, rfl, rfl, by decide +kernel, rfl, by decide +kernel, by decide +kernel⟩
abbrev s_is_fraction : Stmt := topS 19
theorem sc_is_fraction : FnScope nm_is_fraction ps_is_fraction (defScope s_is_fraction) := ⟨rfl, rfl, rfl, by decide +kernel, rfl, by decide +kernel, by decide +kernel⟩
abbrev s_is_time : Stmt := topS 20
theorem sc_is_time : FnScope nm_is_time ps_is_time (defScope s_is_time) := ⟨rfl, rfl, rfl, by decide +kernel, rfl, by decide +kernel, by decide +kernel⟩
abbrev s_good_fact : Stmt := topS 30
theorem sc_good_fact : FnScope nm_good_fact ps_good_fact (defScope s_good_fact) := ⟨rfl, rfl, rfl, by decide +kernel, rfl, by decide +kernel, by decide +kernel⟩
abbrev s_is_fact : Stmt := topS 31
theorem sc_is_fact : FnScope nm_is_fact ps_is_fact (defScope s_is_fact) := ⟨rfl, rfl, rfl, by decide +kernel, rfl, by decide +kernel, by decide +kernel⟩
abbrev s__law_judged : Stmt := topS 64
theorem sc__law_judged : FnScope nm__law_judged ps__law_judged (defScope s__law_judged) := ⟨rfl, rfl, rfl, by decide +kernel, rfl, by decide +kernel, by decide +kernel⟩
abbrev s__law_odd : Stmt := topS 61
theorem sc__law_odd : FnScope nm__law_odd ps__law_odd (defScope s__law_odd) := ⟨rfl, rfl, rfl, by decide +kernel, rfl, by decide +kernel, by decide +kernel⟩
abbrev s__law_bent : Stmt := topS 62
theorem sc__law_bent : FnScope nm__law_bent ps__law_bent (defScope s__law_bent) := ⟨rfl, rfl, rfl, by decide +kernel, rfl, by decide +kernel, by decide +kernel⟩
abbrev s__law_is_fraction : Stmt := topS 54
theorem sc__law_is_fraction : FnScope nm__law_is_fraction ps__law_is_fraction (defScope s__law_is_fraction) := ⟨rfl, rfl, rfl, by decide +kernel, rfl, by decide +kernel, by decide +kernel⟩
abbrev s__law_is_fact : Stmt := topS 58
theorem sc__law_is_fact : FnScope nm__law_is_fact ps__law_is_fact (defScope s__law_is_fact) := ⟨rfl, rfl, rfl, by decide +kernel, rfl, by decide +kernel, by decide +kernel⟩
abbrev s_law : Stmt := topS 65
theorem sc_law : FnScope nm_law ps_law (defScope s_law) := ⟨rfl, rfl, rfl, by decide +kernel, rfl, by decide +kernel, by decide +kernel⟩
abbrev nm__law_fate : List Str := ["script", "minutes_so", "pieces", "fuse", "clock", "heard", "gone", "spots", "step", "word", "more"]
abbrev ps__law_fate : List Str := ["script", "minutes_so"]
abbrev s__law_fate : Stmt := topS 53
theorem sc__law_fate : FnScope nm__law_fate ps__law_fate (defScope s__law_fate) := ⟨rfl, rfl, rfl, by decide +kernel, rfl, by decide +kernel, by decide +kernel⟩
abbrev lamQ (x : Str) : Str := (envOfC x (defScope s_law) 0 0 .none).qual ++ "<lambda>"
structure XRef (mg : Str → Option Value) (x : Str) (C : Addr) : Prop where
  g : mg x = some (.ref C)
structure Txt (K : PySem.W.Frag) (mg : Str → Option Value) (base : Heap) : Prop where
  f__law_vat : FnT K mg "_law_vat" s__law_vat ps__law_vat
  f__law_under : FnT K mg "_law_under" s__law_under ps__law_under
  f__law_some : FnT K mg "_law_some" s__law_some ps__law_some
  f__law_any_step : FnT K mg "_law_any_step" s__law_any_step ps__law_any_step
  f__law_script : FnT K mg "_law_script" s__law_script ps__law_script
  f__law_lowest : FnT K mg "_law_lowest" s__law_lowest ps__law_lowest
  f__law_count : FnT K mg "_law_count" s__law_count ps__law_count
  f__law_pieces_in : FnT K mg "_law_pieces_in" s__law_pieces_in ps__law_pieces_in
  f__law_fact : FnT K mg "_law_fact" s__law_fact ps__law_fact
  f__law_is_whole : FnT K mg "_law_is_whole" s__law_is_whole ps__law_is_whole
  f__law_is_fuses : FnT K mg "_law_is_fuses" s__law_is_fuses ps__law_is_fuses
  f__law_is_step : FnT K mg "_law_is_step" s__law_is_step ps__law_is_step
  f__law_is_script : FnT K mg "_law_is_script" s__law_is_script ps__law_is_script
  f__law_truly : FnT K mg "_law_truly" s__law_truly ps__law_truly
  f__law_names : FnT K mg "_law_names" s__law_names ps__law_names
  f__law_error : FnT K mg "_law_error" s__law_error ps__law_error
  f_is_whole : FnT K mg "is_whole" s_is_whole ps_is_whole
  f_is_word : FnT K mg "is_word" s_is_word ps_is_word
  f_is_step : FnT K mg "is_step" s_is_step ps_is_step
  f_are_steps : FnT K mg "are_steps" s_are_steps ps_are_steps
  f_is_fuses : FnT K mg "is_fuses" s_is_fuses ps_is_fuses
  f_spots_of : FnT K mg "spots_of" s_spots_of ps_spots_of
  f_is_script : FnT K mg "is_script" s_is_script ps_is_script
  f_need_script : FnT K mg "need_script" s_need_script ps_need_script
  f_rings_of : FnT K mg "rings_of" s_rings_of ps_rings_of
  f_count_rings : FnT K mg "count_rings" s_count_rings ps_count_rings
  f_count_spots : FnT K mg "count_spots" s_count_spots ps_count_spots
  f_pieces_of : FnT K mg "pieces_of" s_pieces_of ps_pieces_of
  f_count_pieces : FnT K mg "count_pieces" s_count_pieces ps_count_pieces
  f_divisor : FnT K mg "divisor" s_divisor ps_divisor
  f_is_fraction : FnT K mg "is_fraction" s_is_fraction ps_is_fraction
  f_is_time : FnT K mg "is_time" s_is_time ps_is_time
  f_good_fact : FnT K mg "good_fact" s_good_fact ps_good_fact
  f_is_fact : FnT K mg "is_fact" s_is_fact ps_is_fact
  l__law_judged : FnTL K mg base "_law_judged" s__law_judged ps__law_judged (lamQ "_law_judged")
  f__law_odd : FnT K mg "_law_odd" s__law_odd ps__law_odd
  f__law_bent : FnT K mg "_law_bent" s__law_bent ps__law_bent
  f__law_is_fraction : FnT K mg "_law_is_fraction" s__law_is_fraction ps__law_is_fraction
  f__law_is_fact : FnT K mg "_law_is_fact" s__law_is_fact ps__law_is_fact
  f_law : FnT K mg "law" s_law ps_law
  f__law_fate : FnT K mg "_law_fate" s__law_fate ps__law_fate
  b_ValueError : mg "ValueError" = none
  b_abs : mg "abs" = none
  b_bool : mg "bool" = none
  b_int : mg "int" = none
  b_isinstance : mg "isinstance" = none
  b_len : mg "len" = none
  b_list : mg "list" = none
  b_max : mg "max" = none
  b_min : mg "min" = none
  b_range : mg "range" = none
  b_str : mg "str" = none
  b_tuple : mg "tuple" = none
  b_zip : mg "zip" = none
  c_MOST_SPOTS : Glb K mg "MOST_SPOTS" d_MOST_SPOTS
  c_MOST_STEPS : Glb K mg "MOST_STEPS" d_MOST_STEPS
  c_SIDES : Glb K mg "SIDES" d_SIDES
  g_FuseError : mg "FuseError" = some (.ref cC.FuseError)
  x_InvalidFacts : XCls K mg "InvalidFacts" cC.InvalidFacts
  x_InvalidFuses : XCls K mg "InvalidFuses" cC.InvalidFuses
  x_InvalidIndex : XCls K mg "InvalidIndex" cC.InvalidIndex
  x_InvalidMinutes : XCls K mg "InvalidMinutes" cC.InvalidMinutes
  x_InvalidNumber : XCls K mg "InvalidNumber" cC.InvalidNumber
  x_InvalidScript : XCls K mg "InvalidScript" cC.InvalidScript
  x_InvalidSide : XCls K mg "InvalidSide" cC.InvalidSide
  x_InvalidText : XRef mg "InvalidText" cC.InvalidText
  x_InvalidTimes : XCls K mg "InvalidTimes" cC.InvalidTimes
  x_NothingToUndo : XCls K mg "NothingToUndo" cC.NothingToUndo
  x_TooMany : XRef mg "TooMany" cC.TooMany
  er : Errs K
section
variable {P : Program} {w : World} {K : PySem.W.Frag} {mg : Str → Option Value} {base : Heap}
theorem fnx_void {x : Str} {st : Stmt} {ps : List Str} {k : Nat} {sp : DSp} (F : FnT K mg x st ps) (h : ∀ ds μ Q E, ¬ sp ds μ Q E) : FnX P w K mg base x k ps sp := by
  obtain ⟨f, fd, h1, h2, h3⟩ := F.ex
  exact ⟨f, fd, h1, h2.kp, h3, ⟨fun vs H Q E ⟨_, _, _, _, _, _, _, q, _⟩ => (h _ _ _ _ q).elim, fun A outer s H args us vs Q E _ _ _ _ ⟨_, _, _, _, _, _, _, q, _⟩ => (h _ _ _ _ q).elim⟩⟩
theorem PGs.conj {X : Cx} {es : List Expr} {t : TGs} {C : Hp → Prop} (h : PGs X es t) : PGs X es (fun xs σ H Q => C H ∧ t xs σ H Q) := ⟨fun pins s σ H xs us Q I r q => h.run pins s σ H xs us Q I r q.2⟩
theorem nms_ok (T : Txt K mg base) : NamesOk P w K mg base := names_ok T.f__law_names sc__law_names rfl fun f cdv A outer s H B a1 o1 i hh hz hf hB =>
  dss_cons (ds_set (i := 1) sc__law_names.nd rfl (.inl rfl) (de_lst (da_cons (de_isE (T.er.exc i) hz hf hB (by rfl) T.b_isinstance (dv 0) (de_cls (by rfl) T.x_InvalidScript.g) (fun F v r => rep_ref.mp r) (fun u h => h) (T.er.kit i .script)) (da_cons (de_isE (T.er.exc i) hz hf hB (by rfl) T.b_isinstance (dv 0) (de_cls (by rfl) T.x_InvalidFuses.g) (fun F v r => rep_ref.mp r) (fun u h => h) (T.er.kit i .fuses)) (da_cons (de_isE (T.er.exc i) hz hf hB (by rfl) T.b_isinstance (dv 0) (de_cls (by rfl) T.x_InvalidMinutes.g) (fun F v r => rep_ref.mp r) (fun u h => h) (T.er.kit i .minutes)) (da_cons (de_isE (T.er.exc i) hz hf hB (by rfl) T.b_isinstance (dv 0) (de_cls (by rfl) T.x_InvalidIndex.g) (fun F v r => rep_ref.mp r) (fun u h => h) (T.er.kit i .index)) (da_cons (de_isE (T.er.exc i) hz hf hB (by rfl) T.b_isinstance (dv 0) (de_cls (by rfl) T.x_InvalidSide.g) (fun F v r => rep_ref.mp r) (fun u h => h) (T.er.kit i .side)) (da_cons (de_isE (T.er.exc i) hz hf hB (by rfl) T.b_isinstance (dv 0) (de_cls (by rfl) T.x_InvalidTimes.g) (fun F v r => rep_ref.mp r) (fun u h => h) (T.er.kit i .times)) (da_cons (de_isE (T.er.exc i) hz hf hB (by rfl) T.b_isinstance (dv 0) (de_cls (by rfl) T.x_InvalidFacts.g) (fun F v r => rep_ref.mp r) (fun u h => h) (T.er.kit i .facts)) (da_cons (de_isE (T.er.exc i) hz hf hB (by rfl) T.b_isinstance (dv 0) (de_cls (by rfl) T.x_InvalidNumber.g) (fun F v r => rep_ref.mp r) (fun u h => h) (T.er.kit i .number)) (da_cons (de_isE (T.er.exc i) hz hf hB (by rfl) T.b_isinstance (dv 0) (de_cls (by rfl) T.x_NothingToUndo.g) (fun F v r => rep_ref.mp r) (fun u h => h) (T.er.kit i .undo)) (da_cons (de_isE (T.er.exc i) hz hf hB (by rfl) T.b_isinstance (dv 0) (de_cls (by rfl) T.x_TooMany.g) (fun F v r => rep_ref.mp r) (fun u h => h) (T.er.kit i .many)) (da_cons (de_isE (T.er.exc i) hz hf hB (by rfl) T.b_isinstance (dv 0) (de_cls (by rfl) T.x_InvalidText.g) (fun F v r => rep_ref.mp r) (fun u h => h) (T.er.kit i .text)) (da_cons (de_isE (T.er.exc i) hz hf hB (by rfl) T.b_isinstance (dv 0) (de_ty (by rfl) T.b_ValueError (by decide +kernel)) (fun F v r => rep_ty.mp r) (fun u h => h) (T.er.val i)) da_nil)))))))))))))) (dss_cons (ds_set (i := 2) sc__law_names.nd rfl (.inl rfl) de_str) (dss_one (ds_ret (de_join de_str
    (de_lcE (a1 := a1) (o1 := o1) ⟨hh.hd, hh.dat⟩ hB sc__law_names.nd (di_zipE (by rfl) T.b_zip (da_cons (de_split (dv 2) de_str) (da_cons (dv 1) da_nil))) (blkOk_by (own := [("word", 3), ("good", 4)]) (N := nm__law_names) (sc := defScope s__law_names) (by decide +kernel))
      (ctg_tupE hB [3, 4] fun _ _ _ _ _ => pg_tupE (a1 := a1) (o1 := o1) ⟨hh.hd, hh.dat⟩ (fun _ _ _ _ h => h.1) (PGs.conj (pgs_cons (pg_name (i := 3) sc__law_names.nd rfl (.inl rfl)) (pgs_cons (pg_name (i := 4) sc__law_names.nd rfl (.inl rfl)) pgs_nil))))
      (fun _ _ _ _ _ => dts_one (dt_val (dv 4))) (fun _ _ _ _ _ => dv 3))))))
theorem et_ok (T : Txt K mg base) : ErrText K mg := errText_of T.f__law_error sc__law_error (by rfl) (by decide +kernel) (by decide +kernel) (by decide +kernel) T.g_FuseError
theorem ok__law_fate (T : Txt K mg base) : FnX P w K mg base "_law_fate" 1 ps__law_fate sp__law_fate := fnx_void T.f__law_fate fun _ _ _ _ h => h
theorem ok__law_vat (T : Txt K mg base) : FnX P w K mg base "_law_vat" 1 ps__law_vat sp__law_vat := fnx_of (k := 0) (t := t__law_vat) T.f__law_vat sc__law_vat (fun ds μ Q E h => by first | (obtain ⟨_, rfl, _⟩ := h; rfl) | (obtain ⟨_, _, rfl, _⟩ := h; rfl) | (obtain ⟨_, _, _, rfl, _⟩ := h; rfl) | (obtain ⟨_, _, _, _, rfl, _⟩ := h; rfl)) (fun f cdv A outer s H E B Ed hr hE tk hx hp hu => (dss_cons (ds_set (i := 2) sc__law_vat.nd rfl (.inl rfl) (de_bin do_add (de_bin do_mul de_int (dv 1)) de_int)) (dss_cons (ds_if (dt_cmp (do_lt) (dv 1) (de_callB dc_len (by rfl) T.b_len boot_len (da_cons (dv 0) da_nil)) (nomark _)) (dss_one (ds_set (i := 2) sc__law_vat.nd rfl (.inl rfl) (de_callB dc_abs (by rfl) T.b_abs (by decide +kernel) (da_cons (de_callTy dc_int (by rfl) T.b_int (by decide +kernel) (da_cons (de_ix (dv 0) (dv 1)) da_nil)) da_nil)))) dss_nil) (dss_one (ds_ret (de_lstM (da_cons (de_ifExp (dt_cmp (do_ge) (dv 2) (de_bin do_pow de_int de_int) (nomark _)) (dv 2) de_int) (da_cons (de_bin do_add (de_bin do_mod (de_callTy dc_int (by rfl) T.b_int (by decide +kernel) (da_cons (de_bin do_add (de_bin do_add (de_bin do_mul (dv 2) de_int) (de_bin do_mul de_int (dv 1))) de_int) da_nil)) de_int) de_int) da_nil)))))))) pure__law_vat
theorem ok__law_under (T : Txt K mg base) : FnX P w K mg base "_law_under" 1 ps__law_under sp__law_under := fnx_of (k := 0) (t := t__law_under) T.f__law_under sc__law_under (fun ds μ Q E h => by first | (obtain ⟨_, rfl, _⟩ := h; rfl) | (obtain ⟨_, _, rfl, _⟩ := h; rfl) | (obtain ⟨_, _, _, rfl, _⟩ := h; rfl) | (obtain ⟨_, _, _, _, rfl, _⟩ := h; rfl)) (fun f cdv A outer s H E B Ed hr hE tk hx hp hu => (dss_cons (ds_if (dt_cmp (do_gt) (de_ix (dv 0) de_int) de_int (nomark _)) (dss_cons (ds_set (i := 2) sc__law_under.nd rfl (.inl rfl) (de_bin do_mod (de_callTy dc_int (by rfl) T.b_int (by decide +kernel) (da_cons (de_ix (dv 0) de_int) da_nil)) (dv 1))) (dss_cons (ds_asg (de_bin do_div (de_ix (dv 0) de_int) (dv 1)) (dg_sub (dv 0) de_int)) (dss_one (ds_ret (dv 2))))) dss_nil) (dss_cons (ds_asg (de_bin do_mod (de_callTy dc_int (by rfl) T.b_int (by decide +kernel) (da_cons (de_bin do_add (de_bin do_mul (de_ix (dv 0) de_int) de_int) de_int) da_nil)) de_int) (dg_sub (dv 0) de_int)) (dss_cons (ds_set (i := 3) sc__law_under.nd rfl (.inl rfl) (de_bin do_mod (de_callTy dc_int (by rfl) T.b_int (by decide +kernel) (da_cons (de_bin do_mul (de_ix (dv 0) de_int) (de_bin do_add (de_bin do_div (de_ix (dv 0) de_int) de_int) de_int)) da_nil)) de_int)) (dss_one (ds_ret (de_bin do_mod (de_callTy dc_int (by rfl) T.b_int (by decide +kernel) (da_cons (de_bin do_div (dv 3) de_int) da_nil)) (dv 1)))))))) pure__law_under
theorem ok__law_some (T : Txt K mg base) : FnX P w K mg base "_law_some" 2 ps__law_some sp__law_some := fnx_of (k := 1) (t := t__law_some) T.f__law_some sc__law_some (fun ds μ Q E h => by first | (obtain ⟨_, rfl, _⟩ := h; rfl) | (obtain ⟨_, _, rfl, _⟩ := h; rfl) | (obtain ⟨_, _, _, rfl, _⟩ := h; rfl) | (obtain ⟨_, _, _, _, rfl, _⟩ := h; rfl)) (fun f cdv A outer s H E B Ed hr hE tk hx hp hu => (dss_one (ds_ret (de_ix (dv 1) (de_fn (ok__law_under T) (hr.mono (by omega)) (by rfl) (da_cons (dv 0) (da_cons (de_callB dc_len (by rfl) T.b_len boot_len (da_cons (dv 1) da_nil)) da_nil))))))) pure__law_some
theorem ok__law_any_step (T : Txt K mg base) : FnX P w K mg base "_law_any_step" 3 ps__law_any_step sp__law_any_step := fnx_of (k := 2) (t := t__law_any_step) T.f__law_any_step sc__law_any_step (fun ds μ Q E h => by first | (obtain ⟨_, rfl, _⟩ := h; rfl) | (obtain ⟨_, _, rfl, _⟩ := h; rfl) | (obtain ⟨_, _, _, rfl, _⟩ := h; rfl) | (obtain ⟨_, _, _, _, rfl, _⟩ := h; rfl)) (fun f cdv A outer s H E B Ed hr hE tk hx hp hu => (dss_cons (ds_set (i := 2) sc__law_any_step.nd rfl (.inl rfl) (de_fn (ok__law_under T) (hr.mono (by omega)) (by rfl) (da_cons (dv 0) (da_cons (dv 1) da_nil)))) (dss_cons (ds_set (i := 3) sc__law_any_step.nd rfl (.inl rfl) (de_fn (ok__law_some T) (hr.mono (by omega)) (by rfl) (da_cons (dv 0) (da_cons (de_lst (da_cons de_str (da_cons de_str (da_cons de_str (da_cons de_str (da_cons de_str (da_cons de_str (da_cons de_str (da_cons de_str (da_cons de_str da_nil)))))))))) da_nil)))) (dss_cons (ds_if (dt_cmp (do_eq hu) (dv 3) de_str (nomark _)) (dss_one (ds_ret (de_tup (da_cons de_str (da_cons (dv 2) (da_cons (de_fn (ok__law_some T) (hr.mono (by omega)) (by rfl) (da_cons (dv 0) (da_cons (de_lst (da_cons de_str (da_cons de_str da_nil))) da_nil))) da_nil)))))) dss_nil) (dss_one (ds_ret (de_ifExp (dt_cmp (do_in hu) (dv 3) (de_tup (da_cons de_str (da_cons de_str da_nil))) (by rfl)) (de_tup (da_cons (dv 3) (da_cons (dv 2) da_nil))) (de_tup (da_cons (dv 3) da_nil))))))))) pure__law_any_step
theorem ok__law_script (T : Txt K mg base) : FnX P w K mg base "_law_script" 4 ps__law_script sp__law_script := fnx_of (k := 3) (t := t__law_script) T.f__law_script sc__law_script (fun ds μ Q E h => by first | (obtain ⟨_, rfl, _⟩ := h; rfl) | (obtain ⟨_, _, rfl, _⟩ := h; rfl) | (obtain ⟨_, _, _, rfl, _⟩ := h; rfl) | (obtain ⟨_, _, _, _, rfl, _⟩ := h; rfl)) (fun f cdv A outer s H E B Ed hr hE tk hx hp hu => (dss_cons (ds_set (i := 3) sc__law_script.nd rfl (.inl rfl) (de_tup da_nil)) (dss_cons (ds_for hp rfl (di_range1 (by rfl) T.b_range (da_cons (de_fn (ok__law_some T) (hr.mono (by omega)) (by rfl) (da_cons (dv 0) (da_cons (de_lst (da_cons de_int (da_cons de_int (da_cons de_int (da_cons de_int (da_cons de_int da_nil)))))) da_nil))) da_nil)) (dg_name (i := 4) sc__law_script.nd rfl (.inl rfl)) (dss_forget [4] (dss_one (ds_set (i := 3) sc__law_script.nd rfl (.inl rfl) (de_bin do_add (dv 3) (de_tup (da_cons (de_fn (ok__law_some T) (hr.mono (by omega)) (by rfl) (da_cons (dv 0) (da_cons (de_lst (da_cons de_int (da_cons de_int (da_cons de_int (da_cons de_int (da_cons de_int (da_cons (de_bin do_add de_int (de_fn (ok__law_under T) (hr.mono (by omega)) (by rfl) (da_cons (dv 0) (da_cons de_int da_nil)))) da_nil))))))) da_nil))) da_nil))))))) (dss_cons (ds_par3 (i := 5) (j := 6) (l := 7) rfl sc__law_script.nd rfl rfl rfl (by decide) (by decide) (by decide) rfl rfl rfl (da_cons (de_callB dc_len (by rfl) T.b_len boot_len (da_cons (dv 3) da_nil)) (da_cons de_int (da_cons (de_tup da_nil) da_nil))) (by rfl)) (dss_cons (ds_for hp rfl (di_range1 (by rfl) T.b_range (da_cons (de_fn (ok__law_under T) (hr.mono (by omega)) (by rfl) (da_cons (dv 0) (da_cons (de_bin do_add (dv 1) de_int) da_nil))) da_nil)) (dg_name (i := 4) sc__law_script.nd rfl (.inl rfl)) (dss_forget [4, 8] (dss_cons (ds_set (i := 8) sc__law_script.nd rfl (.inl rfl) (de_fn (ok__law_any_step T) (hr.mono (by omega)) (by rfl) (da_cons (dv 0) (da_cons (dv 5) da_nil)))) (dss_cons (ds_if (PW.pt (dw_and (dt_cmp (do_lt) (dv 6) (dv 2) (nomark _)) (dw_and1 (dt_cmp (do_eq hu) (de_fn (ok__law_under T) (hr.mono (by omega)) (by rfl) (da_cons (dv 0) (da_cons de_int da_nil))) de_int (nomark _))))) (dss_cons (ds_par (i := 8) (j := 6) rfl sc__law_script.nd rfl rfl (by decide) rfl rfl (da_cons (de_tup (da_cons de_str (da_cons (de_fn (ok__law_under T) (hr.mono (by omega)) (by rfl) (da_cons (dv 0) (da_cons (dv 5) da_nil))) da_nil))) (da_cons (de_bin do_add (dv 6) de_int) da_nil)) (by rfl)) (dss_one (ds_set (i := 5) sc__law_script.nd rfl (.inl rfl) (de_bin do_add (dv 5) de_int)))) dss_nil) (dss_one (ds_set (i := 7) sc__law_script.nd rfl (.inl rfl) (de_bin do_add (dv 7) (de_tup (da_cons (dv 8) da_nil))))))))) (dss_cons (ds_if (PW.pt (dw_and (dt_cmp (do_ne hu) (dv 7) (de_tup da_nil) (nomark _)) (dw_and (dt_cmp (do_in hu) (de_ix (de_ix (dv 7) (de_neg de_int)) de_int) (de_tup (da_cons de_str (da_cons de_str da_nil))) (by rfl)) (dw_and1 (dt_cmp (do_gt) (de_fn (ok__law_under T) (hr.mono (by omega)) (by rfl) (da_cons (dv 0) (da_cons de_int da_nil))) de_int (nomark _)))))) (dss_one (ds_set (i := 7) sc__law_script.nd rfl (.inl rfl) (de_bin do_add (de_slice (dv 7) do_none (do_some (de_neg de_int))) (de_tup (da_cons (de_tup (da_cons de_str da_nil)) da_nil))))) dss_nil) (dss_one (ds_ret (de_tup (da_cons (dv 3) (da_cons (dv 7) da_nil))))))))))) pure__law_script
theorem ok__law_lowest (T : Txt K mg base) : FnX P w K mg base "_law_lowest" 1 ps__law_lowest sp__law_lowest := fnx_of (k := 0) (t := t__law_lowest) T.f__law_lowest sc__law_lowest (fun ds μ Q E h => by first | (obtain ⟨_, rfl, _⟩ := h; rfl) | (obtain ⟨_, _, rfl, _⟩ := h; rfl) | (obtain ⟨_, _, _, rfl, _⟩ := h; rfl) | (obtain ⟨_, _, _, _, rfl, _⟩ := h; rfl)) (fun f cdv A outer s H E B Ed hr hE tk hx hp hu => (dss_cons (ds_par (i := 2) (j := 3) rfl sc__law_lowest.nd rfl rfl (by decide) rfl rfl (da_cons (de_callB dc_abs (by rfl) T.b_abs (by decide +kernel) (da_cons (dv 1) da_nil)) (da_cons (de_callB dc_abs (by rfl) T.b_abs (by decide +kernel) (da_cons (dv 0) da_nil)) da_nil)) (by rfl)) (dss_cons (ds_while hp (dt_cmp (do_gt) (dv 3) de_int (nomark _)) (dss_one (ds_par (i := 2) (j := 3) rfl sc__law_lowest.nd rfl rfl (by decide) rfl rfl (da_cons (dv 3) (da_cons (de_bin do_mod (de_callTy dc_int (by rfl) T.b_int (by decide +kernel) (da_cons (dv 2) da_nil)) (dv 3)) da_nil)) (by rfl)))) (dss_cons (ds_set (i := 2) sc__law_lowest.nd rfl (.inl rfl) (de_ifExp (dt_cmp (do_gt) (dv 1) de_int (nomark _)) (dv 2) (de_neg (dv 2)))) (dss_one (ds_ret (de_tup (da_cons (de_bin do_div (dv 0) (dv 2)) (da_cons (de_bin do_div (dv 1) (dv 2)) da_nil))))))))) pure__law_lowest
theorem ok__law_count (T : Txt K mg base) : FnX P w K mg base "_law_count" 1 ps__law_count sp__law_count := fnx_of (k := 0) (t := t__law_count) T.f__law_count sc__law_count (fun ds μ Q E h => by first | (obtain ⟨_, rfl, _⟩ := h; rfl) | (obtain ⟨_, _, rfl, _⟩ := h; rfl) | (obtain ⟨_, _, _, rfl, _⟩ := h; rfl) | (obtain ⟨_, _, _, _, rfl, _⟩ := h; rfl)) (fun f cdv A outer s H E B Ed hr hE tk hx hp hu => (dss_one (ds_ret (de_callB dc_len (by rfl) T.b_len boot_len (da_cons (de_lc rfl sc__law_count.nd (di_seq (de_ix (dv 0) de_int)) (blkOk_by (own := [("step", 2)]) (N := nm__law_count) (sc := defScope (s__law_count)) (by decide +kernel)) (ctg_name 2 fun _ _ _ _ _ => pg_name (i := 2) sc__law_count.nd rfl (.inl rfl)) (fun _ _ _ _ _ => (dts_one (dt_cmp (do_eq hu) (de_ix (dv 2) de_int) (dv 1) (nomark _)))) (fun _ _ _ _ _ => (dv 2))) da_nil))))) pure__law_count
theorem ok__law_pieces_in (T : Txt K mg base) : FnX P w K mg base "_law_pieces_in" 1 ps__law_pieces_in sp__law_pieces_in := fnx_of (k := 0) (t := t__law_pieces_in) T.f__law_pieces_in sc__law_pieces_in (fun ds μ Q E h => by first | (obtain ⟨_, rfl, _⟩ := h; rfl) | (obtain ⟨_, _, rfl, _⟩ := h; rfl) | (obtain ⟨_, _, _, rfl, _⟩ := h; rfl) | (obtain ⟨_, _, _, _, rfl, _⟩ := h; rfl)) (fun f cdv A outer s H E B Ed hr hE tk hx hp hu => (dss_one (ds_ret (de_bin do_add (de_callB dc_len (by rfl) T.b_len boot_len (da_cons (de_ix (dv 0) de_int) da_nil)) (de_callB dc_len (by rfl) T.b_len boot_len (da_cons (de_lc rfl sc__law_pieces_in.nd (di_seq (de_ix (dv 0) de_int)) (blkOk_by (own := [("step", 1)]) (N := nm__law_pieces_in) (sc := defScope (s__law_pieces_in)) (by decide +kernel)) (ctg_name 1 fun _ _ _ _ _ => pg_name (i := 1) sc__law_pieces_in.nd rfl (.inl rfl)) (fun _ _ _ _ _ => (dts_one (dt_cmp (do_eq hu) (de_ix (dv 1) de_int) de_str (nomark _)))) (fun _ _ _ _ _ => (dv 1))) da_nil)))))) pure__law_pieces_in
theorem ok__law_fact (T : Txt K mg base) : FnX P w K mg base "_law_fact" 3 ps__law_fact sp__law_fact := fnx_of (k := 2) (t := t__law_fact) T.f__law_fact sc__law_fact (fun ds μ Q E h => by first | (obtain ⟨_, rfl, _⟩ := h; rfl) | (obtain ⟨_, _, rfl, _⟩ := h; rfl) | (obtain ⟨_, _, _, rfl, _⟩ := h; rfl) | (obtain ⟨_, _, _, _, rfl, _⟩ := h; rfl)) (fun f cdv A outer s H E B Ed hr hE tk hx hp hu => (dss_cons (ds_par (i := 3) (j := 4) rfl sc__law_fact.nd rfl rfl (by decide) rfl rfl (da_cons (de_fn (ok__law_under T) (hr.mono (by omega)) (by rfl) (da_cons (dv 0) (da_cons (de_fn (ok__law_pieces_in T) (hr.mono (by omega)) (by rfl) (da_cons (dv 1) da_nil)) da_nil))) (da_cons (de_fn (ok__law_count T) (hr.mono (by omega)) (by rfl) (da_cons (dv 1) (da_cons de_str da_nil))) da_nil)) (by rfl)) (dss_cons (ds_if (PW.pt (dw_or (dt_cmp (do_eq hu) (dv 4) de_int (nomark _)) (dw_or1 (dt_cmp (do_eq hu) (de_fn (ok__law_under T) (hr.mono (by omega)) (by rfl) (da_cons (dv 0) (da_cons de_int da_nil))) de_int (nomark _))))) (dss_one (ds_ret (de_tup (da_cons (de_fn (ok__law_some T) (hr.mono (by omega)) (by rfl) (da_cons (dv 0) (da_cons (de_lst (da_cons de_str (da_cons de_str da_nil))) da_nil))) (da_cons (dv 3) da_nil))))) dss_nil) (dss_cons (ds_set (i := 5) sc__law_fact.nd rfl (.inl rfl) (de_fn (ok__law_under T) (hr.mono (by omega)) (by rfl) (da_cons (dv 0) (da_cons (dv 4) da_nil)))) (dss_cons (ds_set (i := 6) sc__law_fact.nd rfl (.inl rfl) (de_ifExp (dt_cmp (do_isNot) (dv 2) de_non (nomark _)) (de_fn (ok__law_fate T) (hr.mono (by omega)) (by rfl) (da_cons (dv 1) (da_cons (dv 2) da_nil))) de_non)) (dss_cons (ds_set (i := 7) sc__law_fact.nd rfl (.inl rfl) (de_fn (ok__law_lowest T) (hr.mono (by omega)) (by rfl) (da_cons (de_fn (ok__law_under T) (hr.mono (by omega)) (by rfl) (da_cons (dv 0) (da_cons de_int da_nil))) (da_cons (de_fn (ok__law_some T) (hr.mono (by omega)) (by rfl) (da_cons (dv 0) (da_cons (de_lst (da_cons de_int (da_cons de_int (da_cons de_int da_nil)))) da_nil))) da_nil)))) (dss_cons (ds_if (PW.pt (dw_and (dt_cmp (do_isNot) (dv 6) de_non (nomark _)) (dw_and1 (dt_cmp (do_gt) (de_fn (ok__law_under T) (hr.mono (by omega)) (by rfl) (da_cons (dv 0) (da_cons de_int da_nil))) de_int (nomark _))))) (dss_one (ds_set (i := 7) sc__law_fact.nd rfl (.inl rfl) (de_ix (de_ix (dv 6) de_int) (dv 5)))) dss_nil) (dss_one (ds_ret (de_tup (da_cons (de_fn (ok__law_some T) (hr.mono (by omega)) (by rfl) (da_cons (dv 0) (da_cons (de_lst (da_cons de_str (da_cons de_str (da_cons de_str da_nil)))) da_nil))) (da_cons (dv 5) (da_cons (dv 7) da_nil))))))))))))) pure__law_fact
theorem ok__law_is_whole (T : Txt K mg base) : FnX P w K mg base "_law_is_whole" 1 ps__law_is_whole sp__law_is_whole := fnx_of (k := 0) (t := t__law_is_whole) T.f__law_is_whole sc__law_is_whole (fun ds μ Q E h => by first | (obtain ⟨_, rfl, _⟩ := h; rfl) | (obtain ⟨_, _, rfl, _⟩ := h; rfl) | (obtain ⟨_, _, _, rfl, _⟩ := h; rfl) | (obtain ⟨_, _, _, _, rfl, _⟩ := h; rfl)) (fun f cdv A outer s H E B Ed hr hE tk hx hp hu => (dss_one (ds_ret (de_and (de_callB dc_isi (by rfl) T.b_isinstance (by decide +kernel) (da_cons (dv 0) (da_cons (de_ty (by rfl) T.b_int (by decide +kernel)) da_nil))) (de_and (de_not (de_callB dc_isi (by rfl) T.b_isinstance (by decide +kernel) (da_cons (dv 0) (da_cons (de_ty (by rfl) T.b_bool (by decide +kernel)) da_nil)))) (de_one (de_chain (do_le) (do_le) (dv 1) (dv 0) (dv 2)))))))) pure__law_is_whole
theorem ok__law_is_fuses (T : Txt K mg base) : FnX P w K mg base "_law_is_fuses" 2 ps__law_is_fuses sp__law_is_fuses := fnx_of (k := 1) (t := t__law_is_fuses) T.f__law_is_fuses sc__law_is_fuses (fun ds μ Q E h => by first | (obtain ⟨_, rfl, _⟩ := h; rfl) | (obtain ⟨_, _, rfl, _⟩ := h; rfl) | (obtain ⟨_, _, _, rfl, _⟩ := h; rfl) | (obtain ⟨_, _, _, _, rfl, _⟩ := h; rfl)) (fun f cdv A outer s H E B Ed hr hE tk hx hp hu => (dss_cons (ds_if (PW.pt (dw_or (dt_not (dt_val (de_callB dc_isi (by rfl) T.b_isinstance (by decide +kernel) (da_cons (dv 0) (da_cons (de_ty (by rfl) T.b_tuple (by decide +kernel)) da_nil))))) (dw_or1 (dt_cmp (do_notIn hu) (de_callB dc_len (by rfl) T.b_len boot_len (da_cons (dv 0) da_nil)) (de_tup (da_cons de_int (da_cons de_int (da_cons de_int da_nil)))) (by rfl))))) (dss_one (ds_ret de_bl)) dss_nil) (dss_one (ds_ret (de_cmp (do_eq hu) (de_lc rfl sc__law_is_fuses.nd (di_seq (dv 0)) (blkOk_by (own := [("fuse", 1)]) (N := nm__law_is_fuses) (sc := defScope (s__law_is_fuses)) (by decide +kernel)) (ctg_name 1 fun _ _ _ _ _ => pg_name (i := 1) sc__law_is_fuses.nd rfl (.inl rfl)) (fun _ _ _ _ _ => (dts_one (dt_not (dt_val (de_fn (ok__law_is_whole T) (hr.mono (by omega)) (by rfl) (da_cons (dv 1) (da_cons de_int (da_cons de_int da_nil)))))))) (fun _ _ _ _ _ => (dv 1))) (de_lst da_nil) (nomark _)))))) pure__law_is_fuses
theorem ok__law_is_step (T : Txt K mg base) : FnX P w K mg base "_law_is_step" 2 ps__law_is_step sp__law_is_step := fnx_of (k := 1) (t := t__law_is_step) T.f__law_is_step sc__law_is_step (fun ds μ Q E h => by first | (obtain ⟨_, rfl, _⟩ := h; rfl) | (obtain ⟨_, _, rfl, _⟩ := h; rfl) | (obtain ⟨_, _, _, rfl, _⟩ := h; rfl) | (obtain ⟨_, _, _, _, rfl, _⟩ := h; rfl)) (fun f cdv A outer s H E B Ed hr hE tk hx hp hu => (dss_cons (ds_if (PW.pt (dw_or (dt_not (dt_val (de_callB dc_isi (by rfl) T.b_isinstance (by decide +kernel) (da_cons (dv 1) (da_cons (de_ty (by rfl) T.b_tuple (by decide +kernel)) da_nil))))) (dw_or (dt_cmp (do_notIn hu) (de_callB dc_len (by rfl) T.b_len boot_len (da_cons (dv 1) da_nil)) (de_tup (da_cons de_int (da_cons de_int (da_cons de_int da_nil)))) (by rfl)) (dw_or1 (dt_not (dt_val (de_callB dc_isi (by rfl) T.b_isinstance (by decide +kernel) (da_cons (de_ix (dv 1) de_int) (da_cons (de_ty (by rfl) T.b_str (by decide +kernel)) da_nil))))))))) (dss_one (ds_ret de_bl)) dss_nil) (dss_cons (ds_if (dt_cmp (do_eq hu) (de_callB dc_len (by rfl) T.b_len boot_len (da_cons (dv 1) da_nil)) de_int (nomark _)) (dss_one (ds_ret (de_cmp (do_in hu) (de_ix (dv 1) de_int) (de_tup (da_cons de_str (da_cons de_str da_nil))) (by rfl)))) dss_nil) (dss_cons (ds_if (dt_not (dt_val (de_fn (ok__law_is_whole T) (hr.mono (by omega)) (by rfl) (da_cons (de_ix (dv 1) de_int) (da_cons de_int (da_cons (de_bin do_sub (dv 0) de_int) da_nil)))))) (dss_one (ds_ret de_bl)) dss_nil) (dss_cons (ds_if (dt_cmp (do_eq hu) (de_callB dc_len (by rfl) T.b_len boot_len (da_cons (dv 1) da_nil)) de_int (nomark _)) (dss_one (ds_ret (de_cmp (do_in hu) (de_ix (dv 1) de_int) (de_tup (da_cons de_str (da_cons de_str (da_cons de_str da_nil)))) (by rfl)))) dss_nil) (dss_one (ds_ret (de_and (de_cmp (do_eq hu) (de_ix (dv 1) de_int) de_str (nomark _)) (de_and (de_callB dc_isi (by rfl) T.b_isinstance (by decide +kernel) (da_cons (de_ix (dv 1) de_int) (da_cons (de_ty (by rfl) T.b_str (by decide +kernel)) da_nil))) (de_one (de_cmp (do_in hu) (de_ix (dv 1) de_int) (de_tup (da_cons de_str (da_cons de_str da_nil))) (by rfl)))))))))))) pure__law_is_step
theorem ok__law_is_script (T : Txt K mg base) : FnX P w K mg base "_law_is_script" 3 ps__law_is_script sp__law_is_script := fnx_of (k := 2) (t := t__law_is_script) T.f__law_is_script sc__law_is_script (fun ds μ Q E h => by first | (obtain ⟨_, rfl, _⟩ := h; rfl) | (obtain ⟨_, _, rfl, _⟩ := h; rfl) | (obtain ⟨_, _, _, rfl, _⟩ := h; rfl) | (obtain ⟨_, _, _, _, rfl, _⟩ := h; rfl)) (fun f cdv A outer s H E B Ed hr hE tk hx hp hu => (dss_cons (ds_if (PW.pt (dw_or (dt_not (dt_val (de_callB dc_isi (by rfl) T.b_isinstance (by decide +kernel) (da_cons (dv 0) (da_cons (de_ty (by rfl) T.b_tuple (by decide +kernel)) da_nil))))) (dw_or (dt_cmp (do_ne hu) (de_callB dc_len (by rfl) T.b_len boot_len (da_cons (dv 0) da_nil)) de_int (nomark _)) (dw_or1 (dt_not (dt_val (de_fn (ok__law_is_fuses T) (hr.mono (by omega)) (by rfl) (da_cons (de_ix (dv 0) de_int) da_nil)))))))) (dss_one (ds_ret de_bl)) dss_nil) (dss_cons (ds_if (PW.pt (dw_or (dt_not (dt_val (de_callB dc_isi (by rfl) T.b_isinstance (by decide +kernel) (da_cons (de_ix (dv 0) de_int) (da_cons (de_ty (by rfl) T.b_tuple (by decide +kernel)) da_nil))))) (dw_or1 (dt_cmp (do_gt) (de_callB dc_len (by rfl) T.b_len boot_len (da_cons (de_ix (dv 0) de_int) da_nil)) de_int (nomark _))))) (dss_one (ds_ret de_bl)) dss_nil) (dss_cons (ds_set (i := 1) sc__law_is_script.nd rfl (.inl rfl) (de_callB dc_len (by rfl) T.b_len boot_len (da_cons (de_ix (dv 0) de_int) da_nil))) (dss_cons (ds_for hp rfl (di_seq (de_ix (dv 0) de_int)) (dg_name (i := 2) sc__law_is_script.nd rfl (.inl rfl)) (dss_forget [2] (dss_cons (ds_if (dt_not (dt_val (de_fn (ok__law_is_step T) (hr.mono (by omega)) (by rfl) (da_cons (dv 1) (da_cons (dv 2) da_nil))))) (dss_one (ds_ret de_bl)) dss_nil) (dss_one (ds_set (i := 1) sc__law_is_script.nd rfl (.inl rfl) (de_bin do_add (dv 1) (de_callTy dc_int (by rfl) T.b_int (by decide +kernel) (da_cons (de_cmp (do_eq hu) (de_ix (dv 2) de_int) de_str (nomark _)) da_nil)))))))) (dss_one (ds_ret (de_cmp (do_le) (dv 1) (de_bin do_add (de_callB dc_len (by rfl) T.b_len boot_len (da_cons (de_ix (dv 0) de_int) da_nil)) de_int) (nomark _))))))))) pure__law_is_script
theorem ok__law_truly (T : Txt K mg base) : FnX P w K mg base "_law_truly" 1 ps__law_truly sp__law_truly := fnx_of (k := 0) (t := t__law_truly) T.f__law_truly sc__law_truly (fun ds μ Q E h => by first | (obtain ⟨_, rfl, _⟩ := h; rfl) | (obtain ⟨_, _, rfl, _⟩ := h; rfl) | (obtain ⟨_, _, _, rfl, _⟩ := h; rfl) | (obtain ⟨_, _, _, _, rfl, _⟩ := h; rfl)) (fun f cdv A outer s H E B Ed hr hE tk hx hp hu => (dss_one (ds_ret (de_and (de_callB dc_isi (by rfl) T.b_isinstance (by decide +kernel) (da_cons (dv 0) (da_cons (de_ty (by rfl) T.b_bool (by decide +kernel)) da_nil))) (de_one (de_cmp (do_eq hu) (dv 0) (dv 1) (nomark _))))))) pure__law_truly
theorem ok_is_whole (T : Txt K mg base) : FnX P w K mg base "is_whole" 1 ps_is_whole sp_is_whole := fnx_of (k := 0) (t := t_is_whole) T.f_is_whole sc_is_whole (fun ds μ Q E h => by first | (obtain ⟨_, rfl, _⟩ := h; rfl) | (obtain ⟨_, _, rfl, _⟩ := h; rfl) | (obtain ⟨_, _, _, rfl, _⟩ := h; rfl) | (obtain ⟨_, _, _, _, rfl, _⟩ := h; rfl)) (fun f cdv A outer s H E B Ed hr hE tk hx hp hu => (dss_one (ds_ret (de_and (de_callB dc_isi (by rfl) T.b_isinstance (by decide +kernel) (da_cons (dv 0) (da_cons (de_ty (by rfl) T.b_int (by decide +kernel)) da_nil))) (de_and (de_not (de_callB dc_isi (by rfl) T.b_isinstance (by decide +kernel) (da_cons (dv 0) (da_cons (de_ty (by rfl) T.b_bool (by decide +kernel)) da_nil)))) (de_one (de_chain (do_le) (do_le) (dv 1) (dv 0) (dv 2)))))))) pure_is_whole
theorem ok_is_word (T : Txt K mg base) : FnX P w K mg base "is_word" 1 ps_is_word sp_is_word := fnx_of (k := 0) (t := t_is_word) T.f_is_word sc_is_word (fun ds μ Q E h => by first | (obtain ⟨_, rfl, _⟩ := h; rfl) | (obtain ⟨_, _, rfl, _⟩ := h; rfl) | (obtain ⟨_, _, _, rfl, _⟩ := h; rfl) | (obtain ⟨_, _, _, _, rfl, _⟩ := h; rfl)) (fun f cdv A outer s H E B Ed hr hE tk hx hp hu => (dss_one (ds_ret (de_and (de_callB dc_isi (by rfl) T.b_isinstance (by decide +kernel) (da_cons (dv 0) (da_cons (de_ty (by rfl) T.b_str (by decide +kernel)) da_nil))) (de_one (de_cmp (do_in hu) (dv 0) (dv 1) (by rfl))))))) pure_is_word
theorem ok_is_step (T : Txt K mg base) : FnX P w K mg base "is_step" 2 ps_is_step sp_is_step := fnx_of (k := 1) (t := t_is_step) T.f_is_step sc_is_step (fun ds μ Q E h => by first | (obtain ⟨_, rfl, _⟩ := h; rfl) | (obtain ⟨_, _, rfl, _⟩ := h; rfl) | (obtain ⟨_, _, _, rfl, _⟩ := h; rfl) | (obtain ⟨_, _, _, _, rfl, _⟩ := h; rfl)) (fun f cdv A outer s H E B Ed hr hE tk hx hp hu => (dss_cons (ds_if (PW.pt (dw_or (dt_not (dt_val (de_callB dc_isi (by rfl) T.b_isinstance (by decide +kernel) (da_cons (dv 1) (da_cons (de_ty (by rfl) T.b_tuple (by decide +kernel)) da_nil))))) (dw_or (dt_cmp (do_eq hu) (dv 1) (de_tup da_nil) (nomark _)) (dw_or1 (dt_not (dt_val (de_callB dc_isi (by rfl) T.b_isinstance (by decide +kernel) (da_cons (de_ix (dv 1) de_int) (da_cons (de_ty (by rfl) T.b_str (by decide +kernel)) da_nil))))))))) (dss_one (ds_ret de_bl)) dss_nil) (dss_cons (ds_if (dt_cmp (do_in hu) (de_ix (dv 1) de_int) (de_tup (da_cons de_str (da_cons de_str da_nil))) (by rfl)) (dss_one (ds_ret (de_cmp (do_eq hu) (de_callB dc_len (by rfl) T.b_len boot_len (da_cons (dv 1) da_nil)) de_int (nomark _)))) dss_nil) (dss_cons (ds_if (dt_cmp (do_eq hu) (de_ix (dv 1) de_int) de_str (nomark _)) (dss_one (ds_ret (de_and (de_cmp (do_eq hu) (de_callB dc_len (by rfl) T.b_len boot_len (da_cons (dv 1) da_nil)) de_int (nomark _)) (de_and (de_fn (ok_is_whole T) (hr.mono (by omega)) (by rfl) (da_cons (de_ix (dv 1) de_int) (da_cons de_int (da_cons (de_bin do_sub (dv 0) de_int) da_nil)))) (de_one (de_fn (ok_is_word T) (hr.mono (by omega)) (by rfl) (da_cons (de_ix (dv 1) de_int) (da_cons (de_glob (by rfl) T.c_SIDES) da_nil)))))))) dss_nil) (dss_one (ds_ret (de_and (de_cmp (do_in hu) (de_ix (dv 1) de_int) (de_tup (da_cons de_str (da_cons de_str (da_cons de_str da_nil)))) (by rfl)) (de_and (de_cmp (do_eq hu) (de_callB dc_len (by rfl) T.b_len boot_len (da_cons (dv 1) da_nil)) de_int (nomark _)) (de_one (de_fn (ok_is_whole T) (hr.mono (by omega)) (by rfl) (da_cons (de_ix (dv 1) de_int) (da_cons de_int (da_cons (de_bin do_sub (dv 0) de_int) da_nil))))))))))))) pure_is_step
theorem ok_are_steps (T : Txt K mg base) : FnX P w K mg base "are_steps" 3 ps_are_steps sp_are_steps := fnx_of (k := 2) (t := t_are_steps) T.f_are_steps sc_are_steps (fun ds μ Q E h => by first | (obtain ⟨_, rfl, _⟩ := h; rfl) | (obtain ⟨_, _, rfl, _⟩ := h; rfl) | (obtain ⟨_, _, _, rfl, _⟩ := h; rfl) | (obtain ⟨_, _, _, _, rfl, _⟩ := h; rfl)) (fun f cdv A outer s H E B Ed hr hE tk hx hp hu => (dss_cons (ds_for hp rfl (di_seq (dv 1)) (dg_name (i := 2) sc_are_steps.nd rfl (.inl rfl)) (dss_forget [2] (dss_cons (ds_if (dt_not (dt_val (de_fn (ok_is_step T) (hr.mono (by omega)) (by rfl) (da_cons (dv 0) (da_cons (dv 2) da_nil))))) (dss_one (ds_ret de_bl)) dss_nil) (dss_one (ds_if (dt_cmp (do_eq hu) (de_ix (dv 2) de_int) de_str (nomark _)) (dss_one (ds_set (i := 0) sc_are_steps.nd rfl (.inl rfl) (de_bin do_add (dv 0) de_int))) dss_nil))))) (dss_one (ds_ret de_bl)))) pure_are_steps
theorem ok_is_fuses (T : Txt K mg base) : FnX P w K mg base "is_fuses" 2 ps_is_fuses sp_is_fuses := fnx_of (k := 1) (t := t_is_fuses) T.f_is_fuses sc_is_fuses (fun ds μ Q E h => by first | (obtain ⟨_, rfl, _⟩ := h; rfl) | (obtain ⟨_, _, rfl, _⟩ := h; rfl) | (obtain ⟨_, _, _, rfl, _⟩ := h; rfl) | (obtain ⟨_, _, _, _, rfl, _⟩ := h; rfl)) (fun f cdv A outer s H E B Ed hr hE tk hx hp hu => (dss_cons (ds_if (PW.pt (dw_or (dt_not (dt_val (de_callB dc_isi (by rfl) T.b_isinstance (by decide +kernel) (da_cons (dv 0) (da_cons (de_ty (by rfl) T.b_tuple (by decide +kernel)) da_nil))))) (dw_or1 (dt_not (dt_chain (do_le) (do_le) de_int (de_callB dc_len (by rfl) T.b_len boot_len (da_cons (dv 0) da_nil)) de_int))))) (dss_one (ds_ret de_bl)) dss_nil) (dss_one (ds_ret (de_cmp (do_eq hu) (de_lc rfl sc_is_fuses.nd (di_seq (dv 0)) (blkOk_by (own := [("fuse", 1)]) (N := nm_is_fuses) (sc := defScope (s_is_fuses)) (by decide +kernel)) (ctg_name 1 fun _ _ _ _ _ => pg_name (i := 1) sc_is_fuses.nd rfl (.inl rfl)) (fun _ _ _ _ _ => (dts_one (dt_not (dt_val (de_fn (ok_is_whole T) (hr.mono (by omega)) (by rfl) (da_cons (dv 1) (da_cons de_int (da_cons de_int da_nil)))))))) (fun _ _ _ _ _ => (dv 1))) (de_lst da_nil) (nomark _)))))) pure_is_fuses
theorem ok_spots_of (T : Txt K mg base) : FnX P w K mg base "spots_of" 1 ps_spots_of sp_spots_of := fnx_of (k := 0) (t := t_spots_of) T.f_spots_of sc_spots_of (fun ds μ Q E h => by first | (obtain ⟨_, rfl, _⟩ := h; rfl) | (obtain ⟨_, _, rfl, _⟩ := h; rfl) | (obtain ⟨_, _, _, rfl, _⟩ := h; rfl) | (obtain ⟨_, _, _, _, rfl, _⟩ := h; rfl)) (fun f cdv A outer s H E B Ed hr hE tk hx hp hu => (dss_one (ds_ret (de_callB dc_len (by rfl) T.b_len boot_len (da_cons (de_lc rfl sc_spots_of.nd (di_seq (dv 0)) (blkOk_by (own := [("step", 1)]) (N := nm_spots_of) (sc := defScope (s_spots_of)) (by decide +kernel)) (ctg_name 1 fun _ _ _ _ _ => pg_name (i := 1) sc_spots_of.nd rfl (.inl rfl)) (fun _ _ _ _ _ => (dts_one (dt_cmp (do_eq hu) (de_ix (dv 1) de_int) de_str (nomark _)))) (fun _ _ _ _ _ => (dv 1))) da_nil))))) pure_spots_of
theorem ok_is_script (T : Txt K mg base) : FnX P w K mg base "is_script" 4 ps_is_script sp_is_script := fnx_of (k := 3) (t := t_is_script) T.f_is_script sc_is_script (fun ds μ Q E h => by first | (obtain ⟨_, rfl, _⟩ := h; rfl) | (obtain ⟨_, _, rfl, _⟩ := h; rfl) | (obtain ⟨_, _, _, rfl, _⟩ := h; rfl) | (obtain ⟨_, _, _, _, rfl, _⟩ := h; rfl)) (fun f cdv A outer s H E B Ed hr hE tk hx hp hu => (dss_cons (ds_if (PW.pt (dw_or (dt_not (dt_val (de_callB dc_isi (by rfl) T.b_isinstance (by decide +kernel) (da_cons (dv 0) (da_cons (de_ty (by rfl) T.b_tuple (by decide +kernel)) da_nil))))) (dw_or (dt_cmp (do_ne hu) (de_callB dc_len (by rfl) T.b_len boot_len (da_cons (dv 0) da_nil)) de_int (nomark _)) (dw_or1 (dt_not (dt_val (de_fn (ok_is_fuses T) (hr.mono (by omega)) (by rfl) (da_cons (de_ix (dv 0) de_int) da_nil)))))))) (dss_one (ds_ret de_bl)) dss_nil) (dss_cons (ds_if (PW.pt (dw_or (dt_not (dt_val (de_callB dc_isi (by rfl) T.b_isinstance (by decide +kernel) (da_cons (de_ix (dv 0) de_int) (da_cons (de_ty (by rfl) T.b_tuple (by decide +kernel)) da_nil))))) (dw_or1 (dt_cmp (do_gt) (de_callB dc_len (by rfl) T.b_len boot_len (da_cons (de_ix (dv 0) de_int) da_nil)) (de_glob (by rfl) T.c_MOST_STEPS) (nomark _))))) (dss_one (ds_ret de_bl)) dss_nil) (dss_one (ds_ret (de_and (de_fn (ok_are_steps T) (hr.mono (by omega)) (by rfl) (da_cons (de_callB dc_len (by rfl) T.b_len boot_len (da_cons (de_ix (dv 0) de_int) da_nil)) (da_cons (de_ix (dv 0) de_int) da_nil))) (de_one (de_cmp (do_le) (de_fn (ok_spots_of T) (hr.mono (by omega)) (by rfl) (da_cons (de_ix (dv 0) de_int) da_nil)) (de_glob (by rfl) T.c_MOST_SPOTS) (nomark _))))))))) pure_is_script
theorem ok_need_script (T : Txt K mg base) : FnX P w K mg base "need_script" 5 ps_need_script sp_need_script := fnx_of (k := 4) (t := t_need_script) T.f_need_script sc_need_script (fun ds μ Q E h => by first | (obtain ⟨_, rfl, _⟩ := h; rfl) | (obtain ⟨_, _, rfl, _⟩ := h; rfl) | (obtain ⟨_, _, _, rfl, _⟩ := h; rfl) | (obtain ⟨_, _, _, _, rfl, _⟩ := h; rfl)) (fun f cdv A outer s H E B Ed hr hE tk hx hp hu => (dss_one (ds_if (dt_not (dt_val (de_fn (ok_is_script T) (hr.mono (by omega)) (by rfl) (da_cons (dv 0) da_nil)))) (dss_one (ds_raise rfl tk hE T.x_InvalidScript (by rfl))) dss_nil))) pure_need_script
theorem ok_rings_of (T : Txt K mg base) : FnX P w K mg base "rings_of" 1 ps_rings_of sp_rings_of := fnx_of (k := 0) (t := t_rings_of) T.f_rings_of sc_rings_of (fun ds μ Q E h => by first | (obtain ⟨_, rfl, _⟩ := h; rfl) | (obtain ⟨_, _, rfl, _⟩ := h; rfl) | (obtain ⟨_, _, _, rfl, _⟩ := h; rfl) | (obtain ⟨_, _, _, _, rfl, _⟩ := h; rfl)) (fun f cdv A outer s H E B Ed hr hE tk hx hp hu => (dss_one (ds_ret (de_callB dc_len (by rfl) T.b_len boot_len (da_cons (de_lc rfl sc_rings_of.nd (di_seq (de_ix (dv 0) de_int)) (blkOk_by (own := [("step", 1)]) (N := nm_rings_of) (sc := defScope (s_rings_of)) (by decide +kernel)) (ctg_name 1 fun _ _ _ _ _ => pg_name (i := 1) sc_rings_of.nd rfl (.inl rfl)) (fun _ _ _ _ _ => (dts_one (dt_cmp (do_eq hu) (de_ix (dv 1) de_int) de_str (nomark _)))) (fun _ _ _ _ _ => (dv 1))) da_nil))))) pure_rings_of
theorem ok_count_rings (T : Txt K mg base) : FnX P w K mg base "count_rings" 6 ps_count_rings sp_count_rings := fnx_of (k := 5) (t := t_count_rings) T.f_count_rings sc_count_rings (fun ds μ Q E h => by first | (obtain ⟨_, rfl, _⟩ := h; rfl) | (obtain ⟨_, _, rfl, _⟩ := h; rfl) | (obtain ⟨_, _, _, rfl, _⟩ := h; rfl) | (obtain ⟨_, _, _, _, rfl, _⟩ := h; rfl)) (fun f cdv A outer s H E B Ed hr hE tk hx hp hu => (dss_cons (ds_drop (de_fnX (ok_need_script T) (hr.mono (by omega)) (by rfl) hx hE (da_cons (dv 0) da_nil))) (dss_one (ds_ret (de_fn (ok_rings_of T) (hr.mono (by omega)) (by rfl) (da_cons (dv 0) da_nil)))))) pure_count_rings
theorem ok_count_spots (T : Txt K mg base) : FnX P w K mg base "count_spots" 6 ps_count_spots sp_count_spots := fnx_of (k := 5) (t := t_count_spots) T.f_count_spots sc_count_spots (fun ds μ Q E h => by first | (obtain ⟨_, rfl, _⟩ := h; rfl) | (obtain ⟨_, _, rfl, _⟩ := h; rfl) | (obtain ⟨_, _, _, rfl, _⟩ := h; rfl) | (obtain ⟨_, _, _, _, rfl, _⟩ := h; rfl)) (fun f cdv A outer s H E B Ed hr hE tk hx hp hu => (dss_cons (ds_drop (de_fnX (ok_need_script T) (hr.mono (by omega)) (by rfl) hx hE (da_cons (dv 0) da_nil))) (dss_one (ds_ret (de_fn (ok_spots_of T) (hr.mono (by omega)) (by rfl) (da_cons (de_ix (dv 0) de_int) da_nil)))))) pure_count_spots
theorem ok_pieces_of (T : Txt K mg base) : FnX P w K mg base "pieces_of" 2 ps_pieces_of sp_pieces_of := fnx_of (k := 1) (t := t_pieces_of) T.f_pieces_of sc_pieces_of (fun ds μ Q E h => by first | (obtain ⟨_, rfl, _⟩ := h; rfl) | (obtain ⟨_, _, rfl, _⟩ := h; rfl) | (obtain ⟨_, _, _, rfl, _⟩ := h; rfl) | (obtain ⟨_, _, _, _, rfl, _⟩ := h; rfl)) (fun f cdv A outer s H E B Ed hr hE tk hx hp hu => (dss_one (ds_ret (de_bin do_add (de_callB dc_len (by rfl) T.b_len boot_len (da_cons (de_ix (dv 0) de_int) da_nil)) (de_fn (ok_spots_of T) (hr.mono (by omega)) (by rfl) (da_cons (de_ix (dv 0) de_int) da_nil)))))) pure_pieces_of
theorem ok_count_pieces (T : Txt K mg base) : FnX P w K mg base "count_pieces" 6 ps_count_pieces sp_count_pieces := fnx_of (k := 5) (t := t_count_pieces) T.f_count_pieces sc_count_pieces (fun ds μ Q E h => by first | (obtain ⟨_, rfl, _⟩ := h; rfl) | (obtain ⟨_, _, rfl, _⟩ := h; rfl) | (obtain ⟨_, _, _, rfl, _⟩ := h; rfl) | (obtain ⟨_, _, _, _, rfl, _⟩ := h; rfl)) (fun f cdv A outer s H E B Ed hr hE tk hx hp hu => (dss_cons (ds_drop (de_fnX (ok_need_script T) (hr.mono (by omega)) (by rfl) hx hE (da_cons (dv 0) da_nil))) (dss_one (ds_ret (de_fn (ok_pieces_of T) (hr.mono (by omega)) (by rfl) (da_cons (dv 0) da_nil)))))) pure_count_pieces
theorem ok_divisor (T : Txt K mg base) : FnX P w K mg base "divisor" 1 ps_divisor sp_divisor := fnx_of (k := 0) (t := t_divisor) T.f_divisor sc_divisor (fun ds μ Q E h => by first | (obtain ⟨_, rfl, _⟩ := h; rfl) | (obtain ⟨_, _, rfl, _⟩ := h; rfl) | (obtain ⟨_, _, _, rfl, _⟩ := h; rfl) | (obtain ⟨_, _, _, _, rfl, _⟩ := h; rfl)) (fun f cdv A outer s H E B Ed hr hE tk hx hp hu => (dss_cons (ds_par (i := 2) (j := 3) rfl sc_divisor.nd rfl rfl (by decide) rfl rfl (da_cons (de_callB dc_abs (by rfl) T.b_abs (by decide +kernel) (da_cons (dv 0) da_nil)) (da_cons (de_callB dc_abs (by rfl) T.b_abs (by decide +kernel) (da_cons (dv 1) da_nil)) da_nil)) (by rfl)) (dss_cons (ds_while hp (dt_cmp (do_gt) (dv 3) de_int (nomark _)) (dss_one (ds_par (i := 2) (j := 3) rfl sc_divisor.nd rfl rfl (by decide) rfl rfl (da_cons (dv 3) (da_cons (de_bin do_mod (dv 2) (dv 3)) da_nil)) (by rfl)))) (dss_one (ds_ret (dv 2)))))) pure_divisor
theorem ok_is_fraction (T : Txt K mg base) : FnX P w K mg base "is_fraction" 2 ps_is_fraction sp_is_fraction := fnx_of (k := 1) (t := t_is_fraction) T.f_is_fraction sc_is_fraction (fun ds μ Q E h => by first | (obtain ⟨_, rfl, _⟩ := h; rfl) | (obtain ⟨_, _, rfl, _⟩ := h; rfl) | (obtain ⟨_, _, _, rfl, _⟩ := h; rfl) | (obtain ⟨_, _, _, _, rfl, _⟩ := h; rfl)) (fun f cdv A outer s H E B Ed hr hE tk hx hp hu => (dss_cons (ds_if (PW.pt (dw_or (dt_not (dt_val (de_callB dc_isi (by rfl) T.b_isinstance (by decide +kernel) (da_cons (dv 0) (da_cons (de_ty (by rfl) T.b_tuple (by decide +kernel)) da_nil))))) (dw_or1 (dt_cmp (do_ne hu) (de_callB dc_len (by rfl) T.b_len boot_len (da_cons (dv 0) da_nil)) de_int (nomark _))))) (dss_one (ds_ret de_bl)) dss_nil) (dss_cons (ds_if (PW.pt (dw_or (dt_not (dt_val (de_fn (ok_is_whole T) (hr.mono (by omega)) (by rfl) (da_cons (de_ix (dv 0) de_int) (da_cons (dv 1) (da_cons (dv 2) da_nil)))))) (dw_or1 (dt_not (dt_val (de_fn (ok_is_whole T) (hr.mono (by omega)) (by rfl) (da_cons (de_ix (dv 0) de_int) (da_cons de_int (da_cons (dv 3) da_nil))))))))) (dss_one (ds_ret de_bl)) dss_nil) (dss_one (ds_ret (de_cmp (do_eq hu) (de_fn (ok_divisor T) (hr.mono (by omega)) (by rfl) (da_cons (de_ix (dv 0) de_int) (da_cons (de_ix (dv 0) de_int) da_nil))) de_int (nomark _))))))) pure_is_fraction
theorem ok_is_time (T : Txt K mg base) : FnX P w K mg base "is_time" 3 ps_is_time sp_is_time := fnx_of (k := 2) (t := t_is_time) T.f_is_time sc_is_time (fun ds μ Q E h => by first | (obtain ⟨_, rfl, _⟩ := h; rfl) | (obtain ⟨_, _, rfl, _⟩ := h; rfl) | (obtain ⟨_, _, _, rfl, _⟩ := h; rfl) | (obtain ⟨_, _, _, _, rfl, _⟩ := h; rfl)) (fun f cdv A outer s H E B Ed hr hE tk hx hp hu => (dss_one (ds_ret (de_and (de_fn (ok_is_fraction T) (hr.mono (by omega)) (by rfl) (da_cons (dv 0) (da_cons de_int (da_cons (de_bin do_pow de_int de_int) (da_cons (de_bin do_pow de_int de_int) da_nil))))) (de_one (de_cmp (do_le) (de_ix (dv 0) de_int) (de_bin do_mul de_int (de_ix (dv 0) de_int)) (nomark _))))))) pure_is_time
theorem ok_good_fact (T : Txt K mg base) : FnX P w K mg base "good_fact" 4 ps_good_fact sp_good_fact := fnx_of (k := 3) (t := t_good_fact) T.f_good_fact sc_good_fact (fun ds μ Q E h => by first | (obtain ⟨_, rfl, _⟩ := h; rfl) | (obtain ⟨_, _, rfl, _⟩ := h; rfl) | (obtain ⟨_, _, _, rfl, _⟩ := h; rfl) | (obtain ⟨_, _, _, _, rfl, _⟩ := h; rfl)) (fun f cdv A outer s H E B Ed hr hE tk hx hp hu => (dss_cons (ds_if (PW.pt (dw_or (dt_not (dt_val (de_callB dc_isi (by rfl) T.b_isinstance (by decide +kernel) (da_cons (dv 1) (da_cons (de_ty (by rfl) T.b_tuple (by decide +kernel)) da_nil))))) (dw_or (dt_cmp (do_eq hu) (dv 1) (de_tup da_nil) (nomark _)) (dw_or1 (dt_not (dt_val (de_callB dc_isi (by rfl) T.b_isinstance (by decide +kernel) (da_cons (de_ix (dv 1) de_int) (da_cons (de_ty (by rfl) T.b_str (by decide +kernel)) da_nil))))))))) (dss_one (ds_ret de_bl)) dss_nil) (dss_cons (ds_if (dt_cmp (do_in hu) (de_ix (dv 1) de_int) (de_tup (da_cons de_str (da_cons de_str da_nil))) (by rfl)) (dss_one (ds_ret (de_and (de_cmp (do_eq hu) (de_callB dc_len (by rfl) T.b_len boot_len (da_cons (dv 1) da_nil)) de_int (nomark _)) (de_one (de_fn (ok_is_whole T) (hr.mono (by omega)) (by rfl) (da_cons (de_ix (dv 1) de_int) (da_cons de_int (da_cons (de_bin do_sub (de_fn (ok_pieces_of T) (hr.mono (by omega)) (by rfl) (da_cons (dv 0) da_nil)) de_int) da_nil)))))))) dss_nil) (dss_cons (ds_if (PW.pt (dw_or (dt_cmp (do_notIn hu) (de_ix (dv 1) de_int) (de_tup (da_cons de_str (da_cons de_str (da_cons de_str da_nil)))) (by rfl)) (dw_or1 (dt_cmp (do_ne hu) (de_callB dc_len (by rfl) T.b_len boot_len (da_cons (dv 1) da_nil)) de_int (nomark _))))) (dss_one (ds_ret de_bl)) dss_nil) (dss_one (ds_ret (de_and (de_fn (ok_is_whole T) (hr.mono (by omega)) (by rfl) (da_cons (de_ix (dv 1) de_int) (da_cons de_int (da_cons (de_bin do_sub (de_fn (ok_rings_of T) (hr.mono (by omega)) (by rfl) (da_cons (dv 0) da_nil)) de_int) da_nil)))) (de_one (de_fn (ok_is_time T) (hr.mono (by omega)) (by rfl) (da_cons (de_ix (dv 1) de_int) da_nil)))))))))) pure_good_fact
theorem ok_is_fact (T : Txt K mg base) : FnX P w K mg base "is_fact" 6 ps_is_fact sp_is_fact := fnx_of (k := 5) (t := t_is_fact) T.f_is_fact sc_is_fact (fun ds μ Q E h => by first | (obtain ⟨_, rfl, _⟩ := h; rfl) | (obtain ⟨_, _, rfl, _⟩ := h; rfl) | (obtain ⟨_, _, _, rfl, _⟩ := h; rfl) | (obtain ⟨_, _, _, _, rfl, _⟩ := h; rfl)) (fun f cdv A outer s H E B Ed hr hE tk hx hp hu => (dss_cons (ds_drop (de_fnX (ok_need_script T) (hr.mono (by omega)) (by rfl) hx hE (da_cons (dv 0) da_nil))) (dss_one (ds_ret (de_fn (ok_good_fact T) (hr.mono (by omega)) (by rfl) (da_cons (dv 0) (da_cons (dv 1) da_nil))))))) pure_is_fact
theorem ok__law_judged (T : Txt K mg base) : FnX P w K mg base "_law_judged" 11 ps__law_judged sp__law_judged := fnxL_of (k := 10) (t := t__law_judged) T.l__law_judged sc__law_judged (fun ds μ Q E h => by first | (obtain ⟨_, rfl, _⟩ := h; rfl) | (obtain ⟨_, _, rfl, _⟩ := h; rfl) | (obtain ⟨_, _, _, rfl, _⟩ := h; rfl) | (obtain ⟨_, _, _, _, rfl, _⟩ := h; rfl)) (fun f c Pt TB hT hu0 A outer s H E B Ed hr hE tk hx hp hu => (dss_cons (ds_set (i := 1) sc__law_judged.nd rfl (.inl rfl) (de_fn (ok__law_is_script T) (hr.mono (by omega)) (by rfl) (da_cons (dv 0) da_nil))) (dss_cons (ds_if (dt_not (dt_val (de_fn (ok__law_truly T) (hr.mono (by omega)) (by rfl) (da_cons (de_fn (ok_is_script T) (hr.mono (by omega)) (by rfl) (da_cons (dv 0) da_nil)) (da_cons (dv 1) da_nil))))) (dss_one (ds_ret de_bl)) dss_nil) (dss_cons (ds_if (dt_val (dv 1)) (dss_cons (ds_set (i := 2) sc__law_judged.nd rfl (.inl rfl) (de_lst (da_cons (de_fnX (ok_count_rings T) (hr.mono (by omega)) (by rfl) hx hE (da_cons (dv 0) da_nil)) (da_cons (de_fnX (ok_count_spots T) (hr.mono (by omega)) (by rfl) hx hE (da_cons (dv 0) da_nil)) (da_cons (de_fnX (ok_count_pieces T) (hr.mono (by omega)) (by rfl) hx hE (da_cons (dv 0) da_nil)) da_nil))))) (dss_one (ds_ret (de_cmp (do_eq hu) (dv 2) (de_lst (da_cons (de_fn (ok__law_count T) (hr.mono (by omega)) (by rfl) (da_cons (dv 0) (da_cons de_str da_nil))) (da_cons (de_fn (ok__law_count T) (hr.mono (by omega)) (by rfl) (da_cons (dv 0) (da_cons de_str da_nil))) (da_cons (de_fn (ok__law_pieces_in T) (hr.mono (by omega)) (by rfl) (da_cons (dv 0) da_nil)) da_nil)))) (nomark _))))) dss_nil) (dss_cons (ds_set (i := 2) sc__law_judged.nd rfl (.inl rfl) (de_lstM (da_cons (de_err (k := 6) T.er (nms_ok T) (et_ok T) (by rfl) rfl TB hT hu0 (hr.mono (by omega)) (show LamX.LamS (defScope (s__law_judged)) _ from LamX.lamS_by (by decide +kernel)) (by rfl) (fun _ _ _ _ _ => rfl) fun A outer s H E f c' B' Ed hr hE hx => (de_fnX (ok_count_rings T) (hr.mono (by omega)) (by rfl) hx hE (da_cons (dv 0) da_nil))) da_nil))) (dss_cons (ds_drop (de_append (dv 2) (de_err (k := 6) T.er (nms_ok T) (et_ok T) (by rfl) rfl TB hT hu0 (hr.mono (by omega)) (show LamX.LamS (defScope (s__law_judged)) _ from LamX.lamS_by (by decide +kernel)) (by rfl) (fun _ _ _ _ _ => rfl) fun A outer s H E f c' B' Ed hr hE hx => (de_fnX (ok_count_spots T) (hr.mono (by omega)) (by rfl) hx hE (da_cons (dv 0) da_nil))))) (dss_cons (ds_drop (de_append (dv 2) (de_err (k := 6) T.er (nms_ok T) (et_ok T) (by rfl) rfl TB hT hu0 (hr.mono (by omega)) (show LamX.LamS (defScope (s__law_judged)) _ from LamX.lamS_by (by decide +kernel)) (by rfl) (fun _ _ _ _ _ => rfl) fun A outer s H E f c' B' Ed hr hE hx => (de_fnX (ok_count_pieces T) (hr.mono (by omega)) (by rfl) hx hE (da_cons (dv 0) da_nil))))) (dss_cons (ds_drop (de_append (dv 2) (de_err (k := 6) T.er (nms_ok T) (et_ok T) (by rfl) rfl TB hT hu0 (hr.mono (by omega)) (show LamX.LamS (defScope (s__law_judged)) _ from LamX.lamS_by (by decide +kernel)) (by rfl) (fun _ _ _ _ _ => rfl) fun A outer s H E f c' B' Ed hr hE hx => (de_fnX (ok_is_fact T) (hr.mono (by omega)) (by rfl) hx hE (da_cons (dv 0) (da_cons de_non da_nil)))))) (dss_frz 2 (dss_one (ds_ret (de_cmp (do_eq hu) (dv 2) (de_bin do_rep (de_lst (da_cons de_str da_nil)) de_int) (nomark _))))))))))))) pure__law_judged
theorem okK__law_odd (T : Txt K mg base) : ∀ n : Nat, FnX P w K mg base "_law_odd" (3 + n) ps__law_odd (spK__law_odd n)
  | 0 => fnx_void T.f__law_odd (by rintro _ _ _ _ ⟨_, _, _, h, _⟩; omega)
  | n + 1 => by
    have hrec := okK__law_odd T n
    exact fnx_of (k := 3 + n) (t := t__law_odd (spK__law_odd n)) T.f__law_odd sc__law_odd (fun ds μ Q E h => by obtain ⟨_, _, rfl, _⟩ := h; rfl) (fun f cdv A outer s H E B Ed hr hE tk hx hp hu => (dss_cons (ds_set (i := 2) sc__law_odd.nd rfl (.inl rfl) (de_lst (da_cons de_non (da_cons de_bl (da_cons de_bl (da_cons de_int (da_cons de_int (da_cons de_int (da_cons de_int (da_cons de_int (da_cons (de_neg de_int) (da_cons (de_bin do_pow de_int de_int) (da_cons de_str (da_cons de_str (da_cons de_str (da_cons de_str (da_cons de_str da_nil))))))))))))))))) (dss_cons (ds_set (i := 2) sc__law_odd.nd rfl (.inl rfl) (de_bin do_add (dv 2) (de_lst (da_cons (de_tup da_nil) (da_cons (de_lst da_nil) (da_cons (de_tup (da_cons de_int da_nil)) (da_cons (de_tup (da_cons de_int (da_cons de_int da_nil))) (da_cons (de_tup (da_cons de_str da_nil)) (da_cons (de_tup (da_cons de_str da_nil)) (da_cons (de_tup (da_cons de_str (da_cons de_int da_nil))) (da_cons (de_tup (da_cons de_int (da_cons de_int da_nil))) da_nil))))))))))) (dss_cons (ds_set (i := 2) sc__law_odd.nd rfl (.inl rfl) (de_bin do_add (dv 2) (de_lst (da_cons (de_tup (da_cons de_str (da_cons de_int da_nil))) (da_cons (de_tup (da_cons de_str (da_cons de_int (da_cons de_str da_nil)))) da_nil))))) (dss_cons (ds_if (PW.pt (dw_or (dt_cmp (do_eq hu) (dv 1) de_int (nomark _)) (dw_or1 (dt_cmp (do_lt) (de_fn (ok__law_under T) (hr.mono (by omega)) (by rfl) (da_cons (dv 0) (da_cons de_int da_nil))) de_int (nomark _))))) (dss_one (ds_ret (de_fn (ok__law_some T) (hr.mono (by omega)) (by rfl) (da_cons (dv 0) (da_cons (dv 2) da_nil))))) dss_nil) (dss_cons (ds_setLc (i := 3) rfl sc__law_odd.nd rfl rfl (sw_true rfl rfl rfl (by decide +kernel)) (di_range1 (by rfl) T.b_range (da_cons (de_fn (ok__law_under T) (hr.mono (by omega)) (by rfl) (da_cons (dv 0) (da_cons de_int da_nil))) da_nil)) (blkOk_by (own := [("part", 4)]) (N := nm__law_odd) (sc := defScope (s__law_odd)) (by decide +kernel)) (ctg_name 4 fun _ _ _ _ _ => pg_name (i := 4) sc__law_odd.nd rfl (.inl rfl)) (fun _ _ _ _ _ => dts_nil) (fun _ _ _ _ _ => (de_fn hrec (hr.mono (by omega)) (by rfl) (da_cons (dv 0) (da_cons (de_bin do_sub (dv 1) de_int) da_nil))))) (dss_one (ds_ret (de_ifExp (dt_cmp (do_eq hu) (de_fn (ok__law_under T) (hr.mono (by omega)) (by rfl) (da_cons (dv 0) (da_cons de_int da_nil))) de_int (nomark _)) (dv 3) (de_callTy dc_tuple (by rfl) T.b_tuple (by decide +kernel) (da_cons (dv 3) da_nil))))))))))) (pure__law_odd n)
theorem ok__law_odd (T : Txt K mg base) : FnX P w K mg base "_law_odd" 6 ps__law_odd sp__law_odd := okK__law_odd T 3
theorem okK__law_bent (T : Txt K mg base) : ∀ n : Nat, FnX P w K mg base "_law_bent" (7 + n) ps__law_bent (spK__law_bent n)
  | 0 => fnx_void T.f__law_bent (by rintro _ _ _ _ ⟨_, _, _, _, _, h, _⟩; omega)
  | n + 1 => by
    have hrec := okK__law_bent T n
    exact fnx_of (k := 7 + n) (t := t__law_bent (spK__law_bent n)) T.f__law_bent sc__law_bent (fun ds μ Q E h => by obtain ⟨_, _, _, _, rfl, _⟩ := h; rfl) (fun f cdv A outer s H E B Ed hr hE tk hx hp hu => (dss_cons (ds_if (PW.pt (dw_or (dt_not (dt_val (de_callB dc_isi (by rfl) T.b_isinstance (by decide +kernel) (da_cons (dv 1) (da_cons (de_ty (by rfl) T.b_tuple (by decide +kernel)) da_nil))))) (dw_or (dt_cmp (do_eq hu) (dv 1) (de_tup da_nil) (nomark _)) (dw_or1 (dt_cmp (do_eq hu) (de_fn (ok__law_under T) (hr.mono (by omega)) (by rfl) (da_cons (dv 0) (da_cons de_int da_nil))) de_int (nomark _)))))) (dss_cons (ds_set (i := 2) sc__law_bent.nd rfl (.inl rfl) (de_lst (da_cons (de_fn (ok__law_odd T) (hr.mono (by omega)) (by rfl) (da_cons (dv 0) (da_cons de_int da_nil))) (da_cons (de_fn (ok__law_odd T) (hr.mono (by omega)) (by rfl) (da_cons (dv 0) (da_cons de_int da_nil))) da_nil)))) (dss_cons (ds_if (dt_val (de_callB dc_isi (by rfl) T.b_isinstance (by decide +kernel) (da_cons (dv 1) (da_cons (de_ty (by rfl) T.b_str (by decide +kernel)) da_nil)))) (dss_one (ds_set (i := 2) sc__law_bent.nd rfl (.inl rfl) (de_bin do_add (dv 2) (de_lst (da_cons de_str (da_cons de_str (da_cons de_str (da_cons de_str (da_cons (de_slice (dv 1) do_none (do_some (de_neg de_int))) (da_cons (de_upper (dv 1)) (da_cons de_str da_nil))))))))))) (dss_one (ds_if (dt_val (de_callB dc_isi (by rfl) T.b_isinstance (by decide +kernel) (da_cons (dv 1) (da_cons (de_ty (by rfl) T.b_int (by decide +kernel)) da_nil)))) (dss_one (ds_set (i := 2) sc__law_bent.nd rfl (.inl rfl) (de_bin do_add (dv 2) (de_lst (da_cons (de_bin do_addB (dv 1) de_int) (da_cons (de_bin do_subB (dv 1) de_int) (da_cons (de_notI (dv 1)) (da_cons (de_callTy dc_str (by rfl) T.b_str (by decide +kernel) (da_cons (dv 1) da_nil)) (da_cons (de_bin do_mulB de_int (dv 1)) da_nil))))))))) dss_nil))) (dss_one (ds_ret (de_fn (ok__law_some T) (hr.mono (by omega)) (by rfl) (da_cons (dv 0) (da_cons (dv 2) da_nil))))))) dss_nil) (dss_cons (ds_par (i := 3) (j := 4) rfl sc__law_bent.nd rfl rfl (by decide) rfl rfl (da_cons (de_fn (ok__law_under T) (hr.mono (by omega)) (by rfl) (da_cons (dv 0) (da_cons (de_callB dc_len (by rfl) T.b_len boot_len (da_cons (dv 1) da_nil)) da_nil))) (da_cons (de_fn (ok__law_under T) (hr.mono (by omega)) (by rfl) (da_cons (dv 0) (da_cons de_int da_nil))) da_nil)) (by rfl)) (dss_cons (ds_if (dt_cmp (do_eq hu) (dv 4) de_int (nomark _)) (dss_one (ds_ret (de_bin do_add (de_slice (dv 1) do_none (do_some (dv 3))) (de_slice (dv 1) (do_some (de_bin do_add (dv 3) de_int)) do_none)))) dss_nil) (dss_cons (ds_if (dt_cmp (do_eq hu) (dv 4) de_int (nomark _)) (dss_one (ds_ret (de_bin do_add (de_slice (dv 1) do_none (do_some (de_bin do_add (dv 3) de_int))) (de_slice (dv 1) (do_some (dv 3)) do_none)))) dss_nil) (dss_cons (ds_if (dt_cmp (do_eq hu) (dv 4) de_int (nomark _)) (dss_one (ds_ret (de_revT (dv 1)))) dss_nil) (dss_cons (ds_if (dt_cmp (do_eq hu) (dv 4) de_int (nomark _)) (dss_one (ds_ret (de_callTy dc_list (by rfl) T.b_list (by decide +kernel) (da_cons (dv 1) da_nil)))) dss_nil) (dss_one (ds_ret (de_bin do_add (de_bin do_add (de_slice (dv 1) do_none (do_some (dv 3))) (de_tup (da_cons (de_fn hrec (hr.mono (by omega)) (by rfl) (da_cons (dv 0) (da_cons (de_ix (dv 1) (dv 3)) da_nil))) da_nil))) (de_slice (dv 1) (do_some (de_bin do_add (dv 3) de_int)) do_none))))))))))) (pure__law_bent n)
theorem ok__law_bent (T : Txt K mg base) : FnX P w K mg base "_law_bent" 28 ps__law_bent sp__law_bent := okK__law_bent T 21
theorem ok__law_is_fraction (T : Txt K mg base) : FnX P w K mg base "_law_is_fraction" 2 ps__law_is_fraction sp__law_is_fraction := fnx_of (k := 1) (t := t__law_is_fraction) T.f__law_is_fraction sc__law_is_fraction (fun ds μ Q E h => by first | (obtain ⟨_, rfl, _⟩ := h; rfl) | (obtain ⟨_, _, rfl, _⟩ := h; rfl) | (obtain ⟨_, _, _, rfl, _⟩ := h; rfl) | (obtain ⟨_, _, _, _, rfl, _⟩ := h; rfl)) (fun f cdv A outer s H E B Ed hr hE tk hx hp hu => (dss_cons (ds_if (PW.pt (dw_or (dt_not (dt_val (de_callB dc_isi (by rfl) T.b_isinstance (by decide +kernel) (da_cons (dv 0) (da_cons (de_ty (by rfl) T.b_tuple (by decide +kernel)) da_nil))))) (dw_or1 (dt_cmp (do_ne hu) (de_callB dc_len (by rfl) T.b_len boot_len (da_cons (dv 0) da_nil)) de_int (nomark _))))) (dss_one (ds_ret de_bl)) dss_nil) (dss_cons (ds_if (PW.pt (dw_or (dt_not (dt_val (de_fn (ok__law_is_whole T) (hr.mono (by omega)) (by rfl) (da_cons (de_ix (dv 0) de_int) (da_cons de_int (da_cons (dv 1) da_nil)))))) (dw_or1 (dt_not (dt_val (de_fn (ok__law_is_whole T) (hr.mono (by omega)) (by rfl) (da_cons (de_ix (dv 0) de_int) (da_cons de_int (da_cons (dv 1) da_nil))))))))) (dss_one (ds_ret de_bl)) dss_nil) (dss_one (ds_ret (de_cmp (do_eq hu) (de_fn (ok__law_lowest T) (hr.mono (by omega)) (by rfl) (da_cons (de_ix (dv 0) de_int) (da_cons (de_ix (dv 0) de_int) da_nil))) (dv 0) (nomark _))))))) pure__law_is_fraction
theorem ok__law_is_fact (T : Txt K mg base) : FnX P w K mg base "_law_is_fact" 3 ps__law_is_fact sp__law_is_fact := fnx_of (k := 2) (t := t__law_is_fact) T.f__law_is_fact sc__law_is_fact (fun ds μ Q E h => by first | (obtain ⟨_, rfl, _⟩ := h; rfl) | (obtain ⟨_, _, rfl, _⟩ := h; rfl) | (obtain ⟨_, _, _, rfl, _⟩ := h; rfl) | (obtain ⟨_, _, _, _, rfl, _⟩ := h; rfl)) (fun f cdv A outer s H E B Ed hr hE tk hx hp hu => (dss_cons (ds_if (PW.pt (dw_or (dt_not (dt_val (de_callB dc_isi (by rfl) T.b_isinstance (by decide +kernel) (da_cons (dv 1) (da_cons (de_ty (by rfl) T.b_tuple (by decide +kernel)) da_nil))))) (dw_or (dt_cmp (do_notIn hu) (de_callB dc_len (by rfl) T.b_len boot_len (da_cons (dv 1) da_nil)) (de_tup (da_cons de_int (da_cons de_int da_nil))) (by rfl)) (dw_or1 (dt_not (dt_val (de_callB dc_isi (by rfl) T.b_isinstance (by decide +kernel) (da_cons (de_ix (dv 1) de_int) (da_cons (de_ty (by rfl) T.b_str (by decide +kernel)) da_nil))))))))) (dss_one (ds_ret de_bl)) dss_nil) (dss_cons (ds_if (dt_cmp (do_eq hu) (de_callB dc_len (by rfl) T.b_len boot_len (da_cons (dv 1) da_nil)) de_int (nomark _)) (dss_one (ds_ret (de_and (de_cmp (do_in hu) (de_ix (dv 1) de_int) (de_tup (da_cons de_str (da_cons de_str da_nil))) (by rfl)) (de_one (de_fn (ok__law_is_whole T) (hr.mono (by omega)) (by rfl) (da_cons (de_ix (dv 1) de_int) (da_cons de_int (da_cons (de_bin do_sub (de_fn (ok__law_pieces_in T) (hr.mono (by omega)) (by rfl) (da_cons (dv 0) da_nil)) de_int) da_nil)))))))) dss_nil) (dss_cons (ds_if (dt_cmp (do_notIn hu) (de_ix (dv 1) de_int) (de_tup (da_cons de_str (da_cons de_str (da_cons de_str da_nil)))) (by rfl)) (dss_one (ds_ret de_bl)) dss_nil) (dss_cons (ds_if (dt_not (dt_val (de_fn (ok__law_is_whole T) (hr.mono (by omega)) (by rfl) (da_cons (de_ix (dv 1) de_int) (da_cons de_int (da_cons (de_bin do_sub (de_fn (ok__law_count T) (hr.mono (by omega)) (by rfl) (da_cons (dv 0) (da_cons de_str da_nil))) de_int) da_nil)))))) (dss_one (ds_ret de_bl)) dss_nil) (dss_one (ds_ret (de_and (de_fn (ok__law_is_fraction T) (hr.mono (by omega)) (by rfl) (da_cons (de_ix (dv 1) de_int) (da_cons (de_bin do_pow de_int de_int) da_nil))) (de_one (de_cmp (do_le) (de_ix (de_ix (dv 1) de_int) de_int) (de_bin do_mul de_int (de_ix (de_ix (dv 1) de_int) de_int)) (nomark _))))))))))) pure__law_is_fact
theorem law_fn (T : Txt K mg base) {f : Addr} {fd : FuncData} (F : Fun K "law" "law" s_law f fd) : DFn P w K mg base 29 f fd ps_law sp_law := dfn_of (k := 28) (t := t_law) F sc_law (fun ds μ Q E h => by first | (obtain ⟨_, rfl, _⟩ := h; rfl) | (obtain ⟨_, _, rfl, _⟩ := h; rfl) | (obtain ⟨_, _, _, rfl, _⟩ := h; rfl) | (obtain ⟨_, _, _, _, rfl, _⟩ := h; rfl)) (fun cdv A outer s H E B Ed hr hE tk hx hp hu => (dss_cons (ds_for hp rfl (di_range1 (by rfl) T.b_range (da_cons (de_callB (dc_max rfl) (by rfl) T.b_max (by decide +kernel) (da_cons de_int (da_cons (de_callB (dc_min rfl) (by rfl) T.b_min (by decide +kernel) (da_cons de_int (da_cons (de_callB dc_len (by rfl) T.b_len boot_len (da_cons (dv 0) da_nil)) da_nil))) da_nil))) da_nil)) (dg_name (i := 1) sc_law.nd rfl (.inl rfl)) (dss_forget [1, 2, 3, 6, 4, 5] (dss_cons (ds_set (i := 2) sc_law.nd rfl (.inl rfl) (de_fn (ok__law_vat T) (hr.mono (by omega)) (by rfl) (da_cons (dv 0) (da_cons (dv 1) da_nil)))) (dss_cons (ds_set (i := 3) sc_law.nd rfl (.inr rfl) (de_fn (ok__law_script T) (hr.mono (by omega)) (by rfl) (da_cons (dv 2) (da_cons de_int (da_cons de_int da_nil))))) (dss_cons (ds_par (i := 4) (j := 5) rfl sc_law.nd rfl rfl (by decide) rfl rfl (da_cons (dv 3) (da_cons (de_fn (ok__law_fact T) (hr.mono (by omega)) (by rfl) (da_cons (dv 2) (da_cons (dv 3) (da_cons de_non da_nil)))) da_nil)) (by rfl)) (dss_cons (ds_if (dt_not (dt_val (de_fnX (ok__law_judged T) (hr.mono (by omega)) (by rfl) hx hE (da_cons (dv 3) da_nil)))) (dss_one (ds_ret de_bl)) dss_nil) (dss_cons (ds_for hp rfl (di_range1 (by rfl) T.b_range (da_cons de_int da_nil)) (dg_name (i := 6) sc_law.nd rfl (.inl rfl)) (dss_forget [6] (dss_cons (ds_set (i := 4) sc_law.nd rfl (.inl rfl) (de_fn (ok__law_bent T) (hr.mono (by omega)) (by rfl) (da_cons (dv 2) (da_cons (de_ifExp (dt_cmp (do_eq hu) (de_bin do_mod (dv 6) de_int) de_int (nomark _)) (dv 3) (dv 4)) da_nil)))) (dss_cons (ds_if (dt_not (dt_val (de_fnX (ok__law_judged T) (hr.mono (by omega)) (by rfl) hx hE (da_cons (dv 4) da_nil)))) (dss_one (ds_ret de_bl)) dss_nil) (dss_cons (ds_if (dt_not (dt_val (de_fn (ok__law_truly T) (hr.mono (by omega)) (by rfl) (da_cons (de_fnX (ok_is_fact T) (hr.mono (by omega)) (by rfl) hx hE (da_cons (dv 3) (da_cons (dv 5) da_nil))) (da_cons (de_fn (ok__law_is_fact T) (hr.mono (by omega)) (by rfl) (da_cons (dv 3) (da_cons (dv 5) da_nil))) da_nil))))) (dss_one (ds_ret de_bl)) dss_nil) (dss_cons (ds_set (i := 5) sc_law.nd rfl (.inl rfl) (de_ifExp (dt_cmp (do_eq hu) (de_bin do_mod (dv 6) de_int) de_int (nomark _)) (de_fn (ok__law_fact T) (hr.mono (by omega)) (by rfl) (da_cons (dv 2) (da_cons (dv 3) (da_cons de_non da_nil)))) (dv 5))) (dss_one (ds_set (i := 5) sc_law.nd rfl (.inl rfl) (de_fn (ok__law_bent T) (hr.mono (by omega)) (by rfl) (da_cons (dv 2) (da_cons (dv 5) da_nil))))))))))) (dss_one (ds_if (dt_not (dt_val (de_fnX (ok__law_judged T) (hr.mono (by omega)) (by rfl) hx hE (da_cons (de_fn (ok__law_odd T) (hr.mono (by omega)) (by rfl) (da_cons (dv 2) (da_cons de_int da_nil))) da_nil)))) (dss_one (ds_ret de_bl)) dss_nil))))))))) (dss_cons (ds_asg (de_tup (da_cons (de_tup (da_cons de_str (da_cons de_int da_nil))) (da_cons (de_tup (da_cons de_str da_nil)) da_nil))) (dg_tup rfl (dgs_cons (dg_name (i := 7) sc_law.nd rfl (.inl rfl)) (dgs_cons (dg_name (i := 8) sc_law.nd rfl (.inl rfl)) dgs_nil)))) (dss_cons (ds_set (i := 9) sc_law.nd rfl (.inl rfl) (de_lstM (da_cons (de_tup (da_cons (de_tup (da_cons de_int da_nil)) (da_cons (de_tup (da_cons (dv 7) (da_cons (dv 7) da_nil))) da_nil))) (da_cons (de_tup (da_cons (de_tup (da_cons de_int da_nil)) (da_cons (de_tup (da_cons (dv 7) (da_cons (dv 7) (da_cons (dv 7) da_nil)))) da_nil))) da_nil)))) (dss_cons (ds_drop (de_append (dv 9) (de_tup (da_cons (de_tup (da_cons de_int da_nil)) (da_cons (de_tup (da_cons (dv 7) (da_cons (de_tup (da_cons de_str (da_cons de_int da_nil))) da_nil))) da_nil))))) (dss_frz 9 (dss_cons (ds_set (i := 9) sc_law.nd rfl (.inl rfl) (de_bin do_add (dv 9) (de_lst (da_cons (de_tup (da_cons (de_tup (da_cons de_int da_nil)) (da_cons (de_tup (da_cons (de_tup (da_cons de_str (da_cons de_int da_nil))) (da_cons (dv 7) da_nil))) da_nil))) (da_cons (de_tup (da_cons (de_tup (da_cons de_int (da_cons de_int (da_cons de_int da_nil)))) (da_cons (de_bin do_rep (de_tup (da_cons (dv 8) da_nil)) de_int) da_nil))) da_nil))))) (dss_cons (ds_set (i := 9) sc_law.nd rfl (.inl rfl) (de_bin do_add (dv 9) (de_lst (da_cons (de_tup (da_cons (de_tup (da_cons de_int (da_cons de_int (da_cons de_int da_nil)))) (da_cons (de_bin do_rep (de_tup (da_cons (dv 8) da_nil)) de_int) da_nil))) (da_cons (de_tup (da_cons (de_tup (da_cons de_int da_nil)) (da_cons (de_tup da_nil) da_nil))) (da_cons (de_tup (da_cons (de_bin do_rep (de_tup (da_cons de_int da_nil)) de_int) (da_cons (de_tup da_nil) da_nil))) (da_cons (de_tup (da_cons (de_tup (da_cons de_bl da_nil)) (da_cons (de_tup da_nil) da_nil))) da_nil))))))) (dss_cons (ds_if (dt_cmp (do_ne hu) (de_lc rfl sc_law.nd (di_seq (dv 9)) (blkOk_by (own := [("value", 10)]) (N := nm_law) (sc := defScope (s_law)) (by decide +kernel)) (ctg_name 10 fun _ _ _ _ _ => pg_name (i := 10) sc_law.nd rfl (.inl rfl)) (fun _ _ _ _ _ => (dts_one (dt_not (dt_val (de_fn (ok__law_judged T) (hr.mono (by omega)) (by rfl) (da_cons (dv 10) da_nil)))))) (fun _ _ _ _ _ => (dv 10))) (de_lst da_nil) (nomark _)) (dss_one (ds_ret de_bl)) dss_nil) (dss_cons (ds_set (i := 3) sc_law.nd rfl (.inr rfl) (de_tup (da_cons (de_tup (da_cons de_int da_nil)) (da_cons (de_tup (da_cons (dv 7) (da_cons (dv 8) da_nil))) da_nil)))) (dss_cons (ds_set (i := 11) sc_law.nd rfl (.inl rfl) (de_lst (da_cons (de_tup (da_cons de_str (da_cons de_int (da_cons (de_tup (da_cons de_int (da_cons de_int da_nil))) da_nil)))) (da_cons (de_tup (da_cons de_str (da_cons de_int (da_cons (de_tup (da_cons de_int (da_cons de_int da_nil))) da_nil)))) (da_cons (de_tup (da_cons de_str (da_cons de_int (da_cons (de_tup (da_cons de_int (da_cons de_int da_nil))) da_nil)))) da_nil))))) (dss_cons (ds_set (i := 11) sc_law.nd rfl (.inl rfl) (de_bin do_add (dv 11) (de_lst (da_cons (de_tup (da_cons de_str (da_cons de_int (da_cons (de_tup (da_cons de_int (da_cons de_int da_nil))) da_nil)))) (da_cons (de_tup (da_cons de_str (da_cons de_int da_nil))) (da_cons (de_tup (da_cons de_str (da_cons de_int da_nil))) da_nil)))))) (dss_one (ds_ret (de_cmp (do_eq hu) (de_lc rfl sc_law.nd (di_seq (dv 11)) (blkOk_by (own := [("fact", 12)]) (N := nm_law) (sc := defScope (s_law)) (by decide +kernel)) (ctg_name 12 fun _ _ _ _ _ => pg_name (i := 12) sc_law.nd rfl (.inl rfl)) (fun _ _ _ _ _ => dts_nil) (fun _ _ _ _ _ => (de_fn (ok_is_fact T) (hr.mono (by omega)) (by rfl) (da_cons (dv 3) (da_cons (dv 12) da_nil))))) (de_lst (da_cons de_bl (da_cons de_bl (da_cons de_bl (da_cons de_bl (da_cons de_bl (da_cons de_bl da_nil))))))) (nomark _)))))))))))))))) pure_law
end
end Li

set_option Elab.async false
set_option linter.all false
set_option maxRecDepth 100000
set_option maxHeartbeats 0
namespace Li
open PySem PySem.Spec PyProof.Rows L2
def dd__law_vat : He.DefD := ⟨("_law_vat", none), "_law_vat", "_law_vat", defArgs (topS 36), defBody (topS 36), defScope (topS 36), [], []⟩
def dd__law_under : He.DefD := ⟨("_law_under", none), "_law_under", "_law_under", defArgs (topS 37), defBody (topS 37), defScope (topS 37), [], []⟩
def dd__law_some : He.DefD := ⟨("_law_some", none), "_law_some", "_law_some", defArgs (topS 38), defBody (topS 38), defScope (topS 38), [], []⟩
def dd__law_any_step : He.DefD := ⟨("_law_any_step", none), "_law_any_step", "_law_any_step", defArgs (topS 43), defBody (topS 43), defScope (topS 43), [], []⟩
def dd__law_script : He.DefD := ⟨("_law_script", none), "_law_script", "_law_script", defArgs (topS 44), defBody (topS 44), defScope (topS 44), [], []⟩
def dd__law_lowest : He.DefD := ⟨("_law_lowest", none), "_law_lowest", "_law_lowest", defArgs (topS 45), defBody (topS 45), defScope (topS 45), [], []⟩
def dd__law_count : He.DefD := ⟨("_law_count", none), "_law_count", "_law_count", defArgs (topS 42), defBody (topS 42), defScope (topS 42), [], []⟩
def dd__law_pieces_in : He.DefD := ⟨("_law_pieces_in", none), "_law_pieces_in", "_law_pieces_in", defArgs (topS 41), defBody (topS 41), defScope (topS 41), [], []⟩
def dd__law_fact : He.DefD := ⟨("_law_fact", none), "_law_fact", "_law_fact", defArgs (topS 63), defBody (topS 63), defScope (topS 63), [], []⟩
def dd__law_is_whole : He.DefD := ⟨("_law_is_whole", none), "_law_is_whole", "_law_is_whole", defArgs (topS 39), defBody (topS 39), defScope (topS 39), [], []⟩
def dd__law_is_fuses : He.DefD := ⟨("_law_is_fuses", none), "_law_is_fuses", "_law_is_fuses", defArgs (topS 55), defBody (topS 55), defScope (topS 55), [], []⟩
def dd__law_is_step : He.DefD := ⟨("_law_is_step", none), "_law_is_step", "_law_is_step", defArgs (topS 56), defBody (topS 56), defScope (topS 56), [], []⟩
def dd__law_is_script : He.DefD := ⟨("_law_is_script", none), "_law_is_script", "_law_is_script", defArgs (topS 57), defBody (topS 57), defScope (topS 57), [], []⟩
def dd__law_truly : He.DefD := ⟨("_law_truly", none), "_law_truly", "_law_truly", defArgs (topS 40), defBody (topS 40), defScope (topS 40), [], []⟩
def dd__law_names : He.DefD := ⟨("_law_names", none), "_law_names", "_law_names", defArgs (topS 59), defBody (topS 59), defScope (topS 59), [], []⟩
def dd__law_error : He.DefD := ⟨("_law_error", none), "_law_error", "_law_error", defArgs (topS 60), defBody (topS 60), defScope (topS 60), [], []⟩
def dd_is_whole : He.DefD := ⟨("is_whole", none), "is_whole", "is_whole", defArgs (topS 17), defBody (topS 17), defScope (topS 17), [], []⟩
def dd_is_word : He.DefD := ⟨("is_word", none), "is_word", "is_word", defArgs (topS 21), defBody (topS 21), defScope (topS 21), [], []⟩
def dd_is_step : He.DefD := ⟨("is_step", none), "is_step", "is_step", defArgs (topS 23), defBody (topS 23), defScope (topS 23), [], []⟩
def dd_are_steps : He.DefD := ⟨("are_steps", none), "are_steps", "are_steps", defArgs (topS 24), defBody (topS 24), defScope (topS 24), [], []⟩
def dd_is_fuses : He.DefD := ⟨("is_fuses", none), "is_fuses", "is_fuses", defArgs (topS 22), defBody (topS 22), defScope (topS 22), [], []⟩
def dd_spots_of : He.DefD := ⟨("spots_of", none), "spots_of", "spots_of", defArgs (topS 25), defBody (topS 25), defScope (topS 25), [], []⟩
def dd_is_script : He.DefD := ⟨("is_script", none), "is_script", "is_script", defArgs (topS 26), defBody (topS 26), defScope (topS 26), [], []⟩
def dd_need_script : He.DefD := ⟨("need_script", none), "need_script", "need_script", defArgs (topS 29), defBody (topS 29), defScope (topS 29), [], []⟩
def dd_rings_of : He.DefD := ⟨("rings_of", none), "rings_of", "rings_of", defArgs (topS 27), defBody (topS 27), defScope (topS 27), [], []⟩
def dd_count_rings : He.DefD := ⟨("count_rings", none), "count_rings", "count_rings", defArgs (topS 32), defBody (topS 32), defScope (topS 32), [], []⟩
def dd_count_spots : He.DefD := ⟨("count_spots", none), "count_spots", "count_spots", defArgs (topS 33), defBody (topS 33), defScope (topS 33), [], []⟩
def dd_pieces_of : He.DefD := ⟨("pieces_of", none), "pieces_of", "pieces_of", defArgs (topS 28), defBody (topS 28), defScope (topS 28), [], []⟩
def dd_count_pieces : He.DefD := ⟨("count_pieces", none), "count_pieces", "count_pieces", defArgs (topS 34), defBody (topS 34), defScope (topS 34), [], []⟩
def dd_divisor : He.DefD := ⟨("divisor", none), "divisor", "divisor", defArgs (topS 18), defBody (topS 18), defScope (topS 18), [], []⟩
def dd_is_fraction : He.DefD := ⟨("is_fraction", none), "is_fraction", "is_fraction", defArgs (topS 19), defBody (topS 19), defScope (topS 19), [], []⟩
def dd_is_time : He.DefD := ⟨("is_time", none), "is_time", "is_time", defArgs (topS 20), defBody (topS 20), defScope (topS 20), [], []⟩
def dd_good_fact : He.DefD := ⟨("good_fact", none), "good_fact", "good_fact", defArgs (topS 30), defBody (topS 30), defScope (topS 30), [], []⟩
def dd_is_fact : He.DefD := ⟨("is_fact", none), "is_fact", "is_fact", defArgs (topS 31), defBody (topS 31), defScope (topS 31), [], []⟩
def dd__law_judged : He.DefD := ⟨("_law_judged", none), "_law_judged", "_law_judged", defArgs (topS 64), defBody (topS 64), defScope (topS 64), [], []⟩
def dd__law_odd : He.DefD := ⟨("_law_odd", none), "_law_odd", "_law_odd", defArgs (topS 61), defBody (topS 61), defScope (topS 61), [], []⟩
def dd__law_bent : He.DefD := ⟨("_law_bent", none), "_law_bent", "_law_bent", defArgs (topS 62), defBody (topS 62), defScope (topS 62), [], []⟩
def dd__law_is_fraction : He.DefD := ⟨("_law_is_fraction", none), "_law_is_fraction", "_law_is_fraction", defArgs (topS 54), defBody (topS 54), defScope (topS 54), [], []⟩
def dd__law_is_fact : He.DefD := ⟨("_law_is_fact", none), "_law_is_fact", "_law_is_fact", defArgs (topS 58), defBody (topS 58), defScope (topS 58), [], []⟩
def dd_law : He.DefD := ⟨("law", none), "law", "law", defArgs (topS 65), defBody (topS 65), defScope (topS 65), [], []⟩
def dd__law_fate : He.DefD := ⟨("_law_fate", none), "_law_fate", "_law_fate", defArgs (topS 53), defBody (topS 53), defScope (topS 53), [], []⟩
def hfn : List He.DefD := [dd__law_vat, dd__law_under, dd__law_some, dd__law_any_step, dd__law_script, dd__law_lowest, dd__law_count, dd__law_pieces_in, dd__law_fact, dd__law_is_whole, dd__law_is_fuses, dd__law_is_step, dd__law_is_script, dd__law_truly, dd__law_names, dd__law_error, dd_is_whole, dd_is_word, dd_is_step, dd_are_steps, dd_is_fuses, dd_spots_of, dd_is_script, dd_need_script, dd_rings_of, dd_count_rings, dd_count_spots, dd_pieces_of, dd_count_pieces, dd_divisor, dd_is_fraction, dd_is_time, dd_good_fact, dd_is_fact, dd__law_judged, dd__law_odd, dd__law_bent, dd__law_is_fraction, dd__law_is_fact, dd_law, dd__law_fate]
def hfa : List He.Fa := [.glo "_law_vat", .glo "_law_under", .glo "_law_some", .glo "_law_any_step", .glo "_law_script", .glo "_law_lowest", .glo "_law_count", .glo "_law_pieces_in", .glo "_law_fact", .glo "_law_is_whole", .glo "_law_is_fuses", .glo "_law_is_step", .glo "_law_is_script", .glo "_law_truly", .glo "_law_names", .glo "_law_error", .glo "is_whole", .glo "is_word", .glo "is_step", .glo "are_steps", .glo "is_fuses", .glo "spots_of", .glo "is_script", .glo "need_script", .glo "rings_of", .glo "count_rings", .glo "count_spots", .glo "pieces_of", .glo "count_pieces", .glo "divisor", .glo "is_fraction", .glo "is_time", .glo "good_fact", .glo "is_fact", .glo "_law_judged", .glo "_law_odd", .glo "_law_bent", .glo "_law_is_fraction", .glo "_law_is_fact", .glo "law", .glo "_law_fate", .free "ValueError", .free "abs", .free "bool", .free "int", .free "isinstance", .free "len", .free "list", .free "max", .free "min", .free "range", .free "str", .free "tuple", .free "zip", .glo "FuseError", .glo "InvalidScript", .glo "InvalidFuses", .glo "InvalidMinutes", .glo "InvalidIndex", .glo "InvalidSide", .glo "InvalidTimes", .glo "InvalidFacts", .glo "InvalidNumber", .glo "NothingToUndo", .glo "TooMany", .glo "InvalidText", .exc "FuseError", .exc "InvalidScript", .exc "InvalidFuses", .exc "InvalidMinutes", .exc "InvalidIndex", .exc "InvalidSide", .exc "InvalidTimes", .exc "InvalidFacts", .exc "InvalidNumber", .exc "NothingToUndo", .int "MOST_SPOTS" 2, .int "MOST_STEPS" 12, .glo "SIDES"]
def htf : List He.Defn := [("_law_judged", none)]
def hex (K : PySem.W.Frag) : Bool := errsB K && tupB K "SIDES" ["left", "right"]
def loose0 : List PySem.Str := [("FuseError" : PySem.Str), ("InvalidScript" : PySem.Str), ("InvalidFuses" : PySem.Str), ("InvalidMinutes" : PySem.Str), ("InvalidIndex" : PySem.Str), ("InvalidSide" : PySem.Str), ("InvalidTimes" : PySem.Str), ("InvalidFacts" : PySem.Str), ("InvalidNumber" : PySem.Str), ("NothingToUndo" : PySem.Str), ("TooMany" : PySem.Str), ("InvalidText" : PySem.Str), ("SIDES" : PySem.Str), ("MOST_STEPS" : PySem.Str), ("MOST_SPOTS" : PySem.Str), ("is_whole" : PySem.Str), ("divisor" : PySem.Str), ("is_fraction" : PySem.Str), ("is_time" : PySem.Str), ("is_word" : PySem.Str), ("is_fuses" : PySem.Str), ("is_step" : PySem.Str), ("are_steps" : PySem.Str), ("spots_of" : PySem.Str), ("is_script" : PySem.Str), ("rings_of" : PySem.Str), ("pieces_of" : PySem.Str), ("need_script" : PySem.Str), ("good_fact" : PySem.Str), ("is_fact" : PySem.Str), ("count_rings" : PySem.Str), ("count_spots" : PySem.Str), ("count_pieces" : PySem.Str), ("_law_vat" : PySem.Str), ("_law_under" : PySem.Str)]
def loose1 : List PySem.Str := [("_law_some" : PySem.Str), ("_law_is_whole" : PySem.Str), ("_law_truly" : PySem.Str), ("_law_pieces_in" : PySem.Str), ("_law_count" : PySem.Str), ("_law_any_step" : PySem.Str), ("_law_script" : PySem.Str), ("_law_lowest" : PySem.Str), ("_law_sum" : PySem.Str), ("_law_off" : PySem.Str), ("_law_below" : PySem.Str), ("_law_flames" : PySem.Str), ("_law_moment" : PySem.Str), ("_law_lit" : PySem.Str), ("_law_split" : PySem.Str), ("_law_fate" : PySem.Str), ("_law_is_fraction" : PySem.Str), ("_law_is_fuses" : PySem.Str), ("_law_is_step" : PySem.Str), ("_law_is_script" : PySem.Str), ("_law_is_fact" : PySem.Str), ("_law_names" : PySem.Str), ("_law_error" : PySem.Str), ("_law_odd" : PySem.Str), ("_law_bent" : PySem.Str), ("_law_fact" : PySem.Str), ("_law_judged" : PySem.Str)]
def looseA : List PySem.Str := loose0 ++ loose1
abbrev RR : PySem.W.OpenRow := PySem.W.OpenLaw.row PySem.Challenge.rw_litinmidst_k01_scripts_and_facts_recogni
abbrev hk : PySem.W.Hook := He.hookX 4 hfa hfn [] htf hex
def hob (s : PySem.W.SharedT) : He.AlX := He.obsX 4 hfa hfn [] htf hex (HandSHeadRun.getT s)
theorem hob_eq (s : PySem.W.SharedT) : hob s = hk.obs s.abs := He.obsX_eq (HandSHeadRun.getT_eq s)
theorem hrun (w : World) : HandSHeadRun.RunEq RR (PySem.W.view RR.prog [65]) hk hob 6000 looseA w := by
  intro os
  kernel_rfl
abbrev tblK (K : PySem.W.Frag) : Tbl := ⟨[((He.cT K ("_law_judged", none)).2, lamQ "_law_judged")]⟩
theorem txt_of {w : World} {K : PySem.W.Frag} {h : Heap} {mg : Str → Option Value} (X : K.In h) (G : h.Ns mainGlobals mg) (c : He.SaysX hfa hfn [] htf hex w h K) (base : Heap) (TB : ∀ p ∈ htf.map (He.cT K), LamX.TabB base mg p.1 p.2) : @Txt (tblK K) (clsK K) K mg base := by
  letI : Tbl := tblK K
  letI : Cls := clsK K
  obtain ⟨he, ht0⟩ := Bool.and_eq_true_iff.mp c.more
  exact {
    f__law_vat := by
      obtain ⟨fd, F⟩ := c.t.d.def_ 0 (d := dd__law_vat) rfl
      exact funT_of (He.glo_ok X G (c.t.d.fact 0 (f := .glo "_law_vat") rfl)) F fun _ _ _ _ _ _ us hl => match us, hl with | [_, _], _ => rfl
    f__law_under := by
      obtain ⟨fd, F⟩ := c.t.d.def_ 1 (d := dd__law_under) rfl
      exact funT_of (He.glo_ok X G (c.t.d.fact 1 (f := .glo "_law_under") rfl)) F fun _ _ _ _ _ _ us hl => match us, hl with | [_, _], _ => rfl
    f__law_some := by
      obtain ⟨fd, F⟩ := c.t.d.def_ 2 (d := dd__law_some) rfl
      exact funT_of (He.glo_ok X G (c.t.d.fact 2 (f := .glo "_law_some") rfl)) F fun _ _ _ _ _ _ us hl => match us, hl with | [_, _], _ => rfl
    f__law_any_step := by
      obtain ⟨fd, F⟩ := c.t.d.def_ 3 (d := dd__law_any_step) rfl
      exact funT_of (He.glo_ok X G (c.t.d.fact 3 (f := .glo "_law_any_step") rfl)) F fun _ _ _ _ _ _ us hl => match us, hl with | [_, _], _ => rfl
    f__law_script := by
      obtain ⟨fd, F⟩ := c.t.d.def_ 4 (d := dd__law_script) rfl
      exact funT_of (He.glo_ok X G (c.t.d.fact 4 (f := .glo "_law_script") rfl)) F fun _ _ _ _ _ _ us hl => match us, hl with | [_, _, _], _ => rfl
    f__law_lowest := by
      obtain ⟨fd, F⟩ := c.t.d.def_ 5 (d := dd__law_lowest) rfl
      exact funT_of (He.glo_ok X G (c.t.d.fact 5 (f := .glo "_law_lowest") rfl)) F fun _ _ _ _ _ _ us hl => match us, hl with | [_, _], _ => rfl
    f__law_count := by
      obtain ⟨fd, F⟩ := c.t.d.def_ 6 (d := dd__law_count) rfl
      exact funT_of (He.glo_ok X G (c.t.d.fact 6 (f := .glo "_law_count") rfl)) F fun _ _ _ _ _ _ us hl => match us, hl with | [_, _], _ => rfl
    f__law_pieces_in := by
      obtain ⟨fd, F⟩ := c.t.d.def_ 7 (d := dd__law_pieces_in) rfl
      exact funT_of (He.glo_ok X G (c.t.d.fact 7 (f := .glo "_law_pieces_in") rfl)) F fun _ _ _ _ _ _ us hl => match us, hl with | [_], _ => rfl
    f__law_fact := by
      obtain ⟨fd, F⟩ := c.t.d.def_ 8 (d := dd__law_fact) rfl
      exact funT_of (He.glo_ok X G (c.t.d.fact 8 (f := .glo "_law_fact") rfl)) F fun _ _ _ _ _ _ us hl => match us, hl with | [_, _, _], _ => rfl
    f__law_is_whole := by
      obtain ⟨fd, F⟩ := c.t.d.def_ 9 (d := dd__law_is_whole) rfl
      exact funT_of (He.glo_ok X G (c.t.d.fact 9 (f := .glo "_law_is_whole") rfl)) F fun _ _ _ _ _ _ us hl => match us, hl with | [_, _, _], _ => rfl
    f__law_is_fuses := by
      obtain ⟨fd, F⟩ := c.t.d.def_ 10 (d := dd__law_is_fuses) rfl
      exact funT_of (He.glo_ok X G (c.t.d.fact 10 (f := .glo "_law_is_fuses") rfl)) F fun _ _ _ _ _ _ us hl => match us, hl with | [_], _ => rfl
    f__law_is_step := by
      obtain ⟨fd, F⟩ := c.t.d.def_ 11 (d := dd__law_is_step) rfl
      exact funT_of (He.glo_ok X G (c.t.d.fact 11 (f := .glo "_law_is_step") rfl)) F fun _ _ _ _ _ _ us hl => match us, hl with | [_, _], _ => rfl
    f__law_is_script := by
      obtain ⟨fd, F⟩ := c.t.d.def_ 12 (d := dd__law_is_script) rfl
      exact funT_of (He.glo_ok X G (c.t.d.fact 12 (f := .glo "_law_is_script") rfl)) F fun _ _ _ _ _ _ us hl => match us, hl with | [_], _ => rfl
    f__law_truly := by
      obtain ⟨fd, F⟩ := c.t.d.def_ 13 (d := dd__law_truly) rfl
      exact funT_of (He.glo_ok X G (c.t.d.fact 13 (f := .glo "_law_truly") rfl)) F fun _ _ _ _ _ _ us hl => match us, hl with | [_, _], _ => rfl
    f__law_names := by
      obtain ⟨fd, F⟩ := c.t.d.def_ 14 (d := dd__law_names) rfl
      exact funT_of (He.glo_ok X G (c.t.d.fact 14 (f := .glo "_law_names") rfl)) F fun _ _ _ _ _ _ us hl => match us, hl with | [_], _ => rfl
    f__law_error := by
      obtain ⟨fd, F⟩ := c.t.d.def_ 15 (d := dd__law_error) rfl
      exact funT_of (He.glo_ok X G (c.t.d.fact 15 (f := .glo "_law_error") rfl)) F fun _ _ _ _ _ _ us hl => match us, hl with | [_], _ => rfl
    f_is_whole := by
      obtain ⟨fd, F⟩ := c.t.d.def_ 16 (d := dd_is_whole) rfl
      exact funT_of (He.glo_ok X G (c.t.d.fact 16 (f := .glo "is_whole") rfl)) F fun _ _ _ _ _ _ us hl => match us, hl with | [_, _, _], _ => rfl
    f_is_word := by
      obtain ⟨fd, F⟩ := c.t.d.def_ 17 (d := dd_is_word) rfl
      exact funT_of (He.glo_ok X G (c.t.d.fact 17 (f := .glo "is_word") rfl)) F fun _ _ _ _ _ _ us hl => match us, hl with | [_, _], _ => rfl
    f_is_step := by
      obtain ⟨fd, F⟩ := c.t.d.def_ 18 (d := dd_is_step) rfl
      exact funT_of (He.glo_ok X G (c.t.d.fact 18 (f := .glo "is_step") rfl)) F fun _ _ _ _ _ _ us hl => match us, hl with | [_, _], _ => rfl
    f_are_steps := by
      obtain ⟨fd, F⟩ := c.t.d.def_ 19 (d := dd_are_steps) rfl
      exact funT_of (He.glo_ok X G (c.t.d.fact 19 (f := .glo "are_steps") rfl)) F fun _ _ _ _ _ _ us hl => match us, hl with | [_, _], _ => rfl
    f_is_fuses := by
      obtain ⟨fd, F⟩ := c.t.d.def_ 20 (d := dd_is_fuses) rfl
      exact funT_of (He.glo_ok X G (c.t.d.fact 20 (f := .glo "is_fuses") rfl)) F fun _ _ _ _ _ _ us hl => match us, hl with | [_], _ => rfl
    f_spots_of := by
      obtain ⟨fd, F⟩ := c.t.d.def_ 21 (d := dd_spots_of) rfl
      exact funT_of (He.glo_ok X G (c.t.d.fact 21 (f := .glo "spots_of") rfl)) F fun _ _ _ _ _ _ us hl => match us, hl with | [_], _ => rfl
    f_is_script := by
      obtain ⟨fd, F⟩ := c.t.d.def_ 22 (d := dd_is_script) rfl
      exact funT_of (He.glo_ok X G (c.t.d.fact 22 (f := .glo "is_script") rfl)) F fun _ _ _ _ _ _ us hl => match us, hl with | [_], _ => rfl
    f_need_script := by
      obtain ⟨fd, F⟩ := c.t.d.def_ 23 (d := dd_need_script) rfl
      exact funT_of (He.glo_ok X G (c.t.d.fact 23 (f := .glo "need_script") rfl)) F fun _ _ _ _ _ _ us hl => match us, hl with | [_], _ => rfl
    f_rings_of := by
      obtain ⟨fd, F⟩ := c.t.d.def_ 24 (d := dd_rings_of) rfl
      exact funT_of (He.glo_ok X G (c.t.d.fact 24 (f := .glo "rings_of") rfl)) F fun _ _ _ _ _ _ us hl => match us, hl with | [_], _ => rfl
    f_count_rings := by
      obtain ⟨fd, F⟩ := c.t.d.def_ 25 (d := dd_count_rings) rfl
      exact funT_of (He.glo_ok X G (c.t.d.fact 25 (f := .glo "count_rings") rfl)) F fun _ _ _ _ _ _ us hl => match us, hl with | [_], _ => rfl
    f_count_spots := by
      obtain ⟨fd, F⟩ := c.t.d.def_ 26 (d := dd_count_spots) rfl
      exact funT_of (He.glo_ok X G (c.t.d.fact 26 (f := .glo "count_spots") rfl)) F fun _ _ _ _ _ _ us hl => match us, hl with | [_], _ => rfl
    f_pieces_of := by
      obtain ⟨fd, F⟩ := c.t.d.def_ 27 (d := dd_pieces_of) rfl
      exact funT_of (He.glo_ok X G (c.t.d.fact 27 (f := .glo "pieces_of") rfl)) F fun _ _ _ _ _ _ us hl => match us, hl with | [_], _ => rfl
    f_count_pieces := by
      obtain ⟨fd, F⟩ := c.t.d.def_ 28 (d := dd_count_pieces) rfl
      exact funT_of (He.glo_ok X G (c.t.d.fact 28 (f := .glo "count_pieces") rfl)) F fun _ _ _ _ _ _ us hl => match us, hl with | [_], _ => rfl
    f_divisor := by
      obtain ⟨fd, F⟩ := c.t.d.def_ 29 (d := dd_divisor) rfl
      exact funT_of (He.glo_ok X G (c.t.d.fact 29 (f := .glo "divisor") rfl)) F fun _ _ _ _ _ _ us hl => match us, hl with | [_, _], _ => rfl
    f_is_fraction := by
      obtain ⟨fd, F⟩ := c.t.d.def_ 30 (d := dd_is_fraction) rfl
      exact funT_of (He.glo_ok X G (c.t.d.fact 30 (f := .glo "is_fraction") rfl)) F fun _ _ _ _ _ _ us hl => match us, hl with | [_, _, _, _], _ => rfl
    f_is_time := by
      obtain ⟨fd, F⟩ := c.t.d.def_ 31 (d := dd_is_time) rfl
      exact funT_of (He.glo_ok X G (c.t.d.fact 31 (f := .glo "is_time") rfl)) F fun _ _ _ _ _ _ us hl => match us, hl with | [_], _ => rfl
    f_good_fact := by
      obtain ⟨fd, F⟩ := c.t.d.def_ 32 (d := dd_good_fact) rfl
      exact funT_of (He.glo_ok X G (c.t.d.fact 32 (f := .glo "good_fact") rfl)) F fun _ _ _ _ _ _ us hl => match us, hl with | [_, _], _ => rfl
    f_is_fact := by
      obtain ⟨fd, F⟩ := c.t.d.def_ 33 (d := dd_is_fact) rfl
      exact funT_of (He.glo_ok X G (c.t.d.fact 33 (f := .glo "is_fact") rfl)) F fun _ _ _ _ _ _ us hl => match us, hl with | [_, _], _ => rfl
    l__law_judged := by
      obtain ⟨fd, F⟩ := c.t.d.def_ 34 (d := dd__law_judged) rfl
      exact funTL_of (He.glo_ok X G (c.t.d.fact 34 (f := .glo "_law_judged") rfl)) F (fun _ _ _ _ _ _ us hl => match us, hl with | [_], _ => rfl) (TB _ (by simp [htf])) rfl List.mem_cons_self (fun p hp _ => by rw [List.mem_singleton.mp hp])
    f__law_odd := by
      obtain ⟨fd, F⟩ := c.t.d.def_ 35 (d := dd__law_odd) rfl
      exact funT_of (He.glo_ok X G (c.t.d.fact 35 (f := .glo "_law_odd") rfl)) F fun _ _ _ _ _ _ us hl => match us, hl with | [_, _], _ => rfl
    f__law_bent := by
      obtain ⟨fd, F⟩ := c.t.d.def_ 36 (d := dd__law_bent) rfl
      exact funT_of (He.glo_ok X G (c.t.d.fact 36 (f := .glo "_law_bent") rfl)) F fun _ _ _ _ _ _ us hl => match us, hl with | [_, _], _ => rfl
    f__law_is_fraction := by
      obtain ⟨fd, F⟩ := c.t.d.def_ 37 (d := dd__law_is_fraction) rfl
      exact funT_of (He.glo_ok X G (c.t.d.fact 37 (f := .glo "_law_is_fraction") rfl)) F fun _ _ _ _ _ _ us hl => match us, hl with | [_, _], _ => rfl
    f__law_is_fact := by
      obtain ⟨fd, F⟩ := c.t.d.def_ 38 (d := dd__law_is_fact) rfl
      exact funT_of (He.glo_ok X G (c.t.d.fact 38 (f := .glo "_law_is_fact") rfl)) F fun _ _ _ _ _ _ us hl => match us, hl with | [_, _], _ => rfl
    f_law := by
      obtain ⟨fd, F⟩ := c.t.d.def_ 39 (d := dd_law) rfl
      exact funT_of (He.glo_ok X G (c.t.d.fact 39 (f := .glo "law") rfl)) F fun _ _ _ _ _ _ us hl => match us, hl with | [_], _ => rfl
    f__law_fate := by
      obtain ⟨fd, F⟩ := c.t.d.def_ 40 (d := dd__law_fate) rfl
      exact funT_of (He.glo_ok X G (c.t.d.fact 40 (f := .glo "_law_fate") rfl)) F fun _ _ _ _ _ _ us hl => match us, hl with | [_, _], _ => rfl
    b_ValueError := He.free_ok X G (c.t.d.fact 41 (f := .free "ValueError") rfl)
    b_abs := He.free_ok X G (c.t.d.fact 42 (f := .free "abs") rfl)
    b_bool := He.free_ok X G (c.t.d.fact 43 (f := .free "bool") rfl)
    b_int := He.free_ok X G (c.t.d.fact 44 (f := .free "int") rfl)
    b_isinstance := He.free_ok X G (c.t.d.fact 45 (f := .free "isinstance") rfl)
    b_len := He.free_ok X G (c.t.d.fact 46 (f := .free "len") rfl)
    b_list := He.free_ok X G (c.t.d.fact 47 (f := .free "list") rfl)
    b_max := He.free_ok X G (c.t.d.fact 48 (f := .free "max") rfl)
    b_min := He.free_ok X G (c.t.d.fact 49 (f := .free "min") rfl)
    b_range := He.free_ok X G (c.t.d.fact 50 (f := .free "range") rfl)
    b_str := He.free_ok X G (c.t.d.fact 51 (f := .free "str") rfl)
    b_tuple := He.free_ok X G (c.t.d.fact 52 (f := .free "tuple") rfl)
    b_zip := He.free_ok X G (c.t.d.fact 53 (f := .free "zip") rfl)
    c_MOST_SPOTS := glbInt (He.int_ok X G (c.t.d.fact 76 (f := .int "MOST_SPOTS" 2) rfl))
    c_MOST_STEPS := glbInt (He.int_ok X G (c.t.d.fact 77 (f := .int "MOST_STEPS" 12) rfl))
    c_SIDES := tupB_ok ht0 (He.glo_ok X G (c.t.d.fact 78 (f := .glo "SIDES") rfl))
    g_FuseError := He.glo_ok X G (c.t.d.fact 54 (f := .glo "FuseError") rfl)
    x_InvalidFacts := xcls_of X G (c.t.d.fact 61 (f := .glo "InvalidFacts") rfl) (c.t.d.fact 73 (f := .exc "InvalidFacts") rfl)
    x_InvalidFuses := xcls_of X G (c.t.d.fact 56 (f := .glo "InvalidFuses") rfl) (c.t.d.fact 68 (f := .exc "InvalidFuses") rfl)
    x_InvalidIndex := xcls_of X G (c.t.d.fact 58 (f := .glo "InvalidIndex") rfl) (c.t.d.fact 70 (f := .exc "InvalidIndex") rfl)
    x_InvalidMinutes := xcls_of X G (c.t.d.fact 57 (f := .glo "InvalidMinutes") rfl) (c.t.d.fact 69 (f := .exc "InvalidMinutes") rfl)
    x_InvalidNumber := xcls_of X G (c.t.d.fact 62 (f := .glo "InvalidNumber") rfl) (c.t.d.fact 74 (f := .exc "InvalidNumber") rfl)
    x_InvalidScript := xcls_of X G (c.t.d.fact 55 (f := .glo "InvalidScript") rfl) (c.t.d.fact 67 (f := .exc "InvalidScript") rfl)
    x_InvalidSide := xcls_of X G (c.t.d.fact 59 (f := .glo "InvalidSide") rfl) (c.t.d.fact 71 (f := .exc "InvalidSide") rfl)
    x_InvalidText := ⟨He.glo_ok X G (c.t.d.fact 65 (f := .glo "InvalidText") rfl)⟩
    x_InvalidTimes := xcls_of X G (c.t.d.fact 60 (f := .glo "InvalidTimes") rfl) (c.t.d.fact 72 (f := .exc "InvalidTimes") rfl)
    x_NothingToUndo := xcls_of X G (c.t.d.fact 63 (f := .glo "NothingToUndo") rfl) (c.t.d.fact 75 (f := .exc "NothingToUndo") rfl)
    x_TooMany := ⟨He.glo_ok X G (c.t.d.fact 64 (f := .glo "TooMany") rfl)⟩
    er := errsB_ok he }
theorem lawEnd {w : World} {K : PySem.W.Frag} {h : Heap} {mg : Str → Option Value} {fa : Addr} (X : K.In h) (G : h.Ns mainGlobals mg) (hmg : mg ("law" : Str) = some (.ref fa)) (c : He.SaysX hfa hfn [] htf hex w h K) :
    LamX.LawAtS PySem.Challenge.rw_litinmidst_k01_scripts_and_facts_recogni w K (L2N.CX RR.prog w) 29 63 "script" mg fa h := by
  letI : Tbl := tblK K
  letI : Cls := clsK K
  obtain ⟨fd, F⟩ := c.t.d.def_ 39 (d := dd_law) rfl
  have e := hmg.symm.trans (He.glo_ok X G (c.t.d.fact 39 (f := .glo "law") rfl))
  cases e
  have b := FunD.bindsA (ps := ["script"]) F fun _ _ _ _ _ _ us hl => match us, hl with | [_], _ => rfl
  have FL : Fun K "law" "law" s_law (He.ga K "law") fd := by
    have kp := F.kp
    obtain ⟨oc, od, dV, kV, doc, pm, an, cdv, ct, osl, rfl, lk, hcd, hD, hK⟩ := F.ex
    rcases hD with ⟨_, rfl⟩ | ⟨e, _⟩
    · exact ⟨⟨oc, od, kV, doc, pm, an, cdv, ct, osl, rfl, lk, hcd⟩, kp⟩
    · exact absurd rfl e
  refine ⟨fd, htf.map (He.cT K), LSp K sp_law, fun p hp => ?_, fun p hp => ?_, fun p hp => ?_, fun s v => b s [v] rfl, fun H a ns hl _ hT hS => ?_, fun base KB GB TB => law_fn (txt_of X G c base TB) FL⟩
  · obtain ⟨q, hq, rfl⟩ := List.mem_map.mp hp; exact c.empty q hq
  · obtain ⟨q, hq, rfl⟩ := List.mem_map.mp hp; exact c.out q hq
  · obtain ⟨q, hq, rfl⟩ := List.mem_map.mp hp; exact PySem.W.codeHd_of_K X (c.hd q hq)
  · refine law_start hS (fun p hp => ?_) fun Qd q => ⟨ns, rfl, q⟩
    obtain rfl := List.mem_singleton.mp hp
    exact LamX.TabS.nil (hT _ (by simp [htf]))
end Li
open PySem PySem.W PySem.Calls PyProof.Rows
theorem PySem.Challenge.cw_litinmidst_k01_scripts_and_facts_recogni_holds : PySem.Challenge.rw_litinmidst_k01_scripts_and_facts_recogni.Holds := by
  w_on; o_law
  refine HandSHeadRun.head_any (r := OpenLaw.row PySem.Challenge.rw_litinmidst_k01_scripts_and_facts_recogni) (q := view (OpenLaw.row PySem.Challenge.rw_litinmidst_k01_scripts_and_facts_recogni).prog [65]) (H := Li.hk) (ob := Li.hob) (M := 6000) (loose := Li.looseA) (d := HandSHeadRun.topDef (OpenLaw.row PySem.Challenge.rw_litinmidst_k01_scripts_and_facts_recogni).prog 65) (kwd := []) Li.hob_eq
    (by kernel_rfl) (fun s => by kernel_rfl) Li.hrun (by kernel_rfl) (by kernel_rfl) (by kernel_rfl) (by rfl) (by first | assumption | decide +kernel) (by decide +kernel) ⟨rfl, rfl, rfl, rfl, rfl, by decide +kernel⟩ ?hw ?hc
  case hw => w_witness2
  case hc =>
    refine LamX.walk_ofTsE (l := PySem.Challenge.rw_litinmidst_k01_scripts_and_facts_recogni) (n := 63) (k := 29) (x := "script") (CX := fun w => L2N.CX (OpenLaw.row PySem.Challenge.rw_litinmidst_k01_scripts_and_facts_recogni).prog w) rfl (by decide) (by kernel_rfl) ⟨rfl, by decide, by decide⟩ ?F ?hX
    case hX => exact fun _ _ _ _ _ z => by obtain ⟨_, _, _, _, _, _, _, _, _, _, _, _, z⟩ := z; exact z
    case F =>
      intro w mg fa h Y G hmg0
      obtain ⟨K, KX, c⟩ := Y
      have hmg : mg ("law" : PySem.Str) = some (.ref fa) := by
        have e : (HandSHeadRun.topDef (OpenLaw.row PySem.Challenge.rw_litinmidst_k01_scripts_and_facts_recogni).prog 65).name = ("law" : PySem.Str) := by kernel_rfl
        rw [← e]
        exact hmg0
      exact ⟨K, KX, Li.lawEnd KX G hmg c⟩
